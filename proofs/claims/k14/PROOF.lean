import PyProof.Rows.All
import Wide.All
import OpenK.AllK
import Wide.FinOn
import HandS.ForMost
import HandS.Exc
import HandS.TupAny
import HandS.IsInst
import HandS.Wide
import HandS.ClsMeth
import HandS.More
import HandS.ForExc
import HandS.CallSlots
import HandS.ExcInit
import HandS.ExcIs
import HandS.ExcField
import HandS.TryMany
import HandS.Star
import KE.GoesMore
import PyProof.Draws
import HandS.Iter
import KE.KExcIs
import HandS.Codes
import KE.KParD
import KE.KStar
import HandS.SortInts
import HandS.Conv
import HandS.Ends
import PyProof.RowDictHeap
import HandS.SortRule
import KE.KDictPairs
import HandS.ListItems
import HandS.Style
import PyProof.P3Eq
import HandS.Records
import HandS.FStr
import HandS.Text
import HandS.RaiseMore
import HandS.DictComp
import HandS.Strs
import KE.KRevSl
import HandS.Deep
import HandS.DictEq
import HandS.OwnEq
import PyProof.EqKinds
import KE.BitLaws
import HandS.MethStar
import HandS.Property
import KE.KOpsOwn
import HandS.TryOnly
import HandS.SuiteRaise
import HandS.RaiseFrom
import HandS.ExcInitHot
import HandS.Flow
import HandS.Head0
import HandS.Head1
import HandS.Head2
import HandS.HeadHook1
import KE.KCallOwn
import KE.KSuper
import KE.KEqDict
import HandS.DeepEq
import PyProof.StrLawsRepr
import PyProof.ReprReads
import PyProof.Rows.RegStrFacts
import PyProof.EqAt
import PyProof.InstEq
import HandS.Spec
import PySem.Challenge.RW_orplaces_k14_kinds_that_are_equal
set_option Elab.async false
set_option linter.all false
set_option maxRecDepth 100000
set_option maxHeartbeats 4000000
set_option pp.maxSteps 400
namespace L3
open PySem PySem.Spec PyProof.Rows L2

/-- what a step needs of its data: shown by arithmetic, or by hand -/
structure Need (p : Prop) : Prop where
  out : p
/-- pure data: what a Python value is, the heap put away. mut i: the i-th object that changes (its content stands in the table) -/
inductive D where
  | non | bl (b : Bool) | int (i : Int) | str (s : Str) | ty (n : String) | adr (a : Addr)
  | tup (l : List D) | ptp (l : List D) | lst (l : List D) | rol (l : List D) | dct (l : List (Key × D)) | fdc (l : List (Key × D)) | obj (n : Str) (fs : List (Str × D)) | cls (n : Str) | cel (i : Nat)

/-- a tuple that has no attributes of its own -/
def SqP (P : Hp) (a : Addr) (xs : List V) : Prop := ∃ o, P a = some (.frz o (.tup xs)) ∧ o.dict = none
/-- the class that the module's name n holds -/
def ClsAt (K : PySem.W.Frag) (n : Str) (C : Addr) : Prop := PySem.W.nsIn K mainGlobals n = some (some (.ref C))
theorem ClsAt.one {K : PySem.W.Frag} {n : Str} {C C' : Addr} (a : ClsAt K n C) (b : ClsAt K n C') : C = C' := by
  have e : some (some (Value.ref C)) = some (some (Value.ref C')) := a.symm.trans b
  cases e; rfl
mutual
inductive Rep (K : PySem.W.Frag) (P : Hp) (al : List Addr) : D → V → Prop
  | non : Rep K P al .non .non
  | bl (b : Bool) : Rep K P al (.bl b) (.bl b)
  | int (i : Int) : Rep K P al (.int i) (.int i)
  | str (s : Str) : Rep K P al (.str s) (.str s)
  | ty (n : String) : Rep K P al (.ty n) (.ty n)
  | adr (a : Addr) : Rep K P al (.adr a) (.ref a)
  | tup {a : Addr} {xs : List V} {ds : List D} : SqT K P a xs → Reps K P al ds xs → Rep K P al (.tup ds) (.ref a)
  | ptp {a : Addr} {xs : List V} {ds : List D} : SqP P a xs → Reps K P al ds xs → Rep K P al (.ptp ds) (.ref a)
  | lst {a : Addr} {xs : List V} {ds : List D} : P a = some (.lst xs) → Reps K P al ds xs → Rep K P al (.lst ds) (.ref a)
  | rol {a : Addr} {xs : List V} {ds : List D} : SqL K P a xs → Reps K P al ds xs → Rep K P al (.rol ds) (.ref a)
  | dct {a : Addr} {kvs : List (Key × V)} {ks : List (Key × D)} : P a = some (.dK kvs) → RepKs K P al ks kvs → Rep K P al (.dct ks) (.ref a)
  | fdc {a : Addr} {o : Obj} {kvs : List (Key × V)} {ks : List (Key × D)} : P a = some (.frz o (.dK kvs)) → RepKs K P al ks kvs → Rep K P al (.fdc ks) (.ref a)
  | obj {n : Str} {a C dx : Addr} {gs : List (Str × V)} {fs : List (Str × D)} : P a = some (.ins C dx gs) → ClsAt K n C → RepFs K P al fs gs → Rep K P al (.obj n fs) (.ref a)
  | cls {n : Str} {C : Addr} : ClsAt K n C → Rep K P al (.cls n) (.ref C)
  | cel {i : Nat} {a : Addr} : al[i]? = some a → Rep K P al (.cel i) (.ref a)
inductive Reps (K : PySem.W.Frag) (P : Hp) (al : List Addr) : List D → List V → Prop
  | nil : Reps K P al [] []
  | cons {d : D} {v : V} {ds : List D} {vs : List V} : Rep K P al d v → Reps K P al ds vs → Reps K P al (d :: ds) (v :: vs)
inductive RepKs (K : PySem.W.Frag) (P : Hp) (al : List Addr) : List (Key × D) → List (Key × V) → Prop
  | nil : RepKs K P al [] []
  | cons {k : Key} {d : D} {v : V} {ds : List (Key × D)} {vs : List (Key × V)} : Rep K P al d v → RepKs K P al ds vs → RepKs K P al ((k, d) :: ds) ((k, v) :: vs)
inductive RepFs (K : PySem.W.Frag) (P : Hp) (al : List Addr) : List (Str × D) → List (Str × V) → Prop
  | nil : RepFs K P al [] []
  | cons {k : Str} {d : D} {v : V} {ds : List (Str × D)} {vs : List (Str × V)} : Rep K P al d v → RepFs K P al ds vs → RepFs K P al ((k, d) :: ds) ((k, v) :: vs)
end

theorem same_seqT {K : PySem.W.Frag} {H H' : Hp} {a : Addr} {xs : List V} (e : Same H H') (h : SqT K H a xs) : SqT K H' a xs := by
  rcases h with h | h
  · rcases h with h | ⟨o, h⟩
    · exact .inl (.inl (e _ _ h))
    · exact .inl (.inr ⟨o, e _ _ h⟩)
  · exact .inr h
theorem SqP.same {P P' : Hp} {a : Addr} {xs : List V} (s : Same P P') (h : SqP P a xs) : SqP P' a xs := let ⟨o, e, d⟩ := h; ⟨o, s _ _ e, d⟩
theorem SqP.seqT {K : PySem.W.Frag} {P : Hp} {a : Addr} {xs : List V} (h : SqP P a xs) : SqT K P a xs := let ⟨o, e, _⟩ := h; .inl (.inr ⟨o, e⟩)
theorem pre_get {al al' : List Addr} (h : al <+: al') {i : Nat} {a : Addr} (e : al[i]? = some a) : al'[i]? = some a := by
  obtain ⟨t, rfl⟩ := h
  rw [List.getElem?_append_left (List.getElem?_eq_some_iff.mp e).1]; exact e
section
variable {K : PySem.W.Frag} {P P' : Hp} {al al' : List Addr}
mutual
theorem Rep.mono (s : Same P P') (h : al <+: al') : ∀ {d : D} {v : V}, Rep K P al d v → Rep K P' al' d v
  | _, _, .non => .non
  | _, _, .bl b => .bl b
  | _, _, .int i => .int i
  | _, _, .str x => .str x
  | _, _, .ty n => .ty n
  | _, _, .adr a => .adr a
  | _, _, .tup q r => .tup (same_seqT s q) (Reps.mono s h r)
  | _, _, .ptp q r => .ptp (q.same s) (Reps.mono s h r)
  | _, _, .lst q r => .lst (s _ _ q) (Reps.mono s h r)
  | _, _, .rol q r => .rol (s.seq q) (Reps.mono s h r)
  | _, _, .dct q r => .dct (s _ _ q) (RepKs.mono s h r)
  | _, _, .fdc q r => .fdc (s _ _ q) (RepKs.mono s h r)
  | _, _, .obj q c r => .obj (s _ _ q) c (RepFs.mono s h r)
  | _, _, .cls c => .cls c
  | _, _, .cel e => .cel (pre_get h e)
theorem Reps.mono (s : Same P P') (h : al <+: al') : ∀ {ds : List D} {vs : List V}, Reps K P al ds vs → Reps K P' al' ds vs
  | _, _, .nil => .nil
  | _, _, .cons r t => .cons (Rep.mono s h r) (Reps.mono s h t)
theorem RepKs.mono (s : Same P P') (h : al <+: al') : ∀ {ds : List (Key × D)} {vs : List (Key × V)}, RepKs K P al ds vs → RepKs K P' al' ds vs
  | _, _, .nil => .nil
  | _, _, .cons r t => .cons (Rep.mono s h r) (RepKs.mono s h t)
theorem RepFs.mono (s : Same P P') (h : al <+: al') : ∀ {ds : List (Str × D)} {vs : List (Str × V)}, RepFs K P al ds vs → RepFs K P' al' ds vs
  | _, _, .nil => .nil
  | _, _, .cons r t => .cons (Rep.mono s h r) (RepFs.mono s h t)
end
theorem Reps.length : ∀ {ds : List D} {vs : List V}, Reps K P al ds vs → ds.length = vs.length
  | _, _, .nil => rfl
  | _, _, .cons _ t => by simp [Reps.length t]
theorem Reps.append : ∀ {ds es : List D} {vs ws : List V}, Reps K P al ds vs → Reps K P al es ws → Reps K P al (ds ++ es) (vs ++ ws)
  | _, _, _, _, .nil, s => s
  | _, _, _, _, .cons r t, s => .cons r (Reps.append t s)
theorem Reps.get : ∀ {ds : List D} {vs : List V} {i : Nat} {d : D}, Reps K P al ds vs → ds[i]? = some d → ∃ v, vs[i]? = some v ∧ Rep K P al d v
  | _, _, _, _, .nil, e => by simp at e
  | _, _, 0, _, .cons r _, e => by simp at e; subst e; exact ⟨_, rfl, r⟩
  | _, _, i + 1, d, .cons _ t, e => by
    obtain ⟨v, h1, h2⟩ := Reps.get (i := i) (d := d) t (by simpa using e)
    exact ⟨v, by simpa using h1, h2⟩
theorem Reps.set {d : D} {v : V} (r : Rep K P al d v) : ∀ {ds : List D} {vs : List V} (i : Nat), Reps K P al ds vs → Reps K P al (ds.set i d) (vs.set i v)
  | _, _, _, .nil => .nil
  | _, _, 0, .cons _ t => .cons r t
  | _, _, i + 1, .cons q t => .cons q (Reps.set r i t)
theorem Reps.take : ∀ {ds : List D} {vs : List V} (n : Nat), Reps K P al ds vs → Reps K P al (ds.take n) (vs.take n)
  | _, _, 0, _ => by simp; exact .nil
  | _, _, _ + 1, .nil => .nil
  | _, _, n + 1, .cons r t => .cons r (Reps.take n t)
theorem Reps.drop : ∀ {ds : List D} {vs : List V} (n : Nat), Reps K P al ds vs → Reps K P al (ds.drop n) (vs.drop n)
  | _, _, 0, r => r
  | _, _, _ + 1, .nil => .nil
  | _, _, n + 1, .cons r t => Reps.drop n t
theorem Reps.erase : ∀ {ds : List D} {vs : List V} (n : Nat), Reps K P al ds vs → Reps K P al (ds.eraseIdx n) (vs.eraseIdx n)
  | _, _, _, .nil => .nil
  | _, _, 0, .cons r t => t
  | _, _, n + 1, .cons r t => .cons r (Reps.erase n t)
end

/-! ### steps of the heap -/
/-- what stays unpublished: neither an instance's dict nor an error's -/
def PnOk (o : HO) : Prop := (∀ x, o ≠ .own x) ∧ ∀ g, o ≠ .xd g
/-- from one state to a later one: the published part grows, the table's places stay, what is tracked beside them stays -/
structure Ext (P : Hp) (al : List Addr) (H : Hp) (P' : Hp) (al' : List Addr) (H' : Hp) : Prop where
  pp : Same P P'
  pre : al <+: al'
  fr : ∀ b o, H b = some o → b ∉ al → H' b = some o
  new : ∀ b, b ∈ al' → b ∉ al → H b = none
  pn : ∀ b o, H b = some o → PnOk o → P b = none → b ∉ al → P' b = none
theorem Ext.refl {P : Hp} {al : List Addr} {H : Hp} : Ext P al H P al H :=
  ⟨Same.refl _, List.prefix_refl _, fun _ _ h _ => h, fun _ h n => absurd h n, fun _ _ _ _ h _ => h⟩
theorem Ext.trans {P P1 P2 : Hp} {al al1 al2 : List Addr} {H H1 H2 : Hp} (a : Ext P al H P1 al1 H1) (b : Ext P1 al1 H1 P2 al2 H2) : Ext P al H P2 al2 H2 := by
  have nin : ∀ c o, H c = some o → c ∉ al → c ∉ al1 := fun c o h n m => by
    have := a.new c m n
    rw [h] at this; cases this
  refine ⟨a.pp.trans b.pp, List.IsPrefix.trans a.pre b.pre, fun c o h n => b.fr c o (a.fr c o h n) (nin c o h n), fun c m n => ?_, fun c o h ho hp n => ?_⟩
  · by_cases m1 : c ∈ al1
    · exact a.new c m1 n
    · have h1 := b.new c m m1
      cases h : H c with
      | none => rfl
      | some o => rw [a.fr c o h n] at h1; cases h1
  · exact b.pn c o (a.fr c o h n) ho (a.pn c o h ho hp n) (nin c o h n)

/-- what stands in the table: alive if an object of it changes -/
def live : D → Bool
  | .lst _ => true
  | .dct _ => true
  | .obj _ _ => true
  | _ => false
/-- an error that is kept as a value -/
def ExK (a : Addr) (oe : Obj) : HO := .ext fun h => h.get? a = some oe
/-- [.obj n fs]: the object at a is an error of the class n with the fields fs -/
def ExCell (K : PySem.W.Frag) (P : Hp) (al : List Addr) (l : List D) (a : Addr) : Prop := match l with
  | [.obj n fs] => ∃ C d oe, P a = some (ExK a oe) ∧ ClsAt K n C ∧ L2.Zc (.ref C) d oe ∧ (∃ vs, oe.data = .fields vs) ∧ ((d = none ∧ fs = []) ∨ ∃ dd gs, d = some dd ∧ P dd = some (.xd gs) ∧ RepFs K P al fs gs)
  | _ => True
theorem ExCell.mono {K : PySem.W.Frag} {P P' : Hp} {al al' : List Addr} {l : List D} {a : Addr} (c : ExCell K P al l a) (s : Same P P') (h : al <+: al') : ExCell K P' al' l a := by
  unfold ExCell at c ⊢
  split at c
  · obtain ⟨C, d, oe, h1, h2, h3, h4, h5⟩ := c
    refine ⟨C, d, oe, s _ _ h1, h2, h3, h4, ?_⟩
    rcases h5 with h5 | ⟨dd, gs, g1, g2, g3⟩
    · exact .inl h5
    · exact .inr ⟨dd, gs, g1, s _ _ g2, g3.mono s h⟩
  · trivial
/-- the i-th object that changes, at a -/
def Cell (K : PySem.W.Frag) (P : Hp) (al : List Addr) (m : D) (a : Addr) (H : Hp) : Prop :=
  match m with
  | .lst ds => P a = none ∧ ∃ xs, H a = some (.lst xs) ∧ Reps K P al ds xs
  | .dct ks => P a = none ∧ ∃ kvs, H a = some (.dK kvs) ∧ RepKs K P al ks kvs
  | .obj n fs => P a = none ∧ ∃ C dx gs, H a = some (.ins C dx gs) ∧ ClsAt K n C ∧ RepFs K P al fs gs
  | .ptp l => ExCell K P al l a
  | _ => True
abbrev Bs := Hp × List Addr × Hp
abbrev Mt := List D
abbrev Ev := List (Option D)
structure RS0 (K : PySem.W.Frag) (B : Bs) (P : Hp) (al : List Addr) (M : Mt) (H : Hp) : Prop where
  base : Ext B.1 B.2.1 B.2.2 P al H
  same : Same P H
  len : al.length = M.length
  cell : ∀ (i : Nat) (a : Addr) (m : D), al[i]? = some a → M[i]? = some m → Cell K P al m a H
  inj : ∀ (i j : Nat) (a : Addr) (m n : D), al[i]? = some a → al[j]? = some a → M[i]? = some m → M[j]? = some n → live m = true → live n = true → i = j
  trk : ∀ a, a ∈ al → ∃ o, H a = some o
structure RS (K : PySem.W.Frag) (B : Bs) (P : Hp) (al : List Addr) (M : Mt) (env : Ev) (σ : L2.St) (H : Hp) : Prop extends RS0 K B P al M H where
  slen : env.length = σ.length
  slot : ∀ (j : Nat) (d : D), env[j]? = some (some d) → ∃ v, σ[j]? = some (some v) ∧ Rep K P al d v
section
variable {K : PySem.W.Frag} {B : Bs} {P P' : Hp} {al al' : List Addr} {M M' : Mt} {env : Ev} {σ : L2.St} {H H' : Hp} {a p : Addr} {d : D} {v : V}
theorem live_cell {m : D} (h : live m = true) (c : Cell K P al m a H) : P a = none ∧ ∃ o, H a = some o := by
  cases m <;> simp [live] at h
  · obtain ⟨h1, xs, h2, _⟩ := c; exact ⟨h1, _, h2⟩
  · obtain ⟨h1, xs, h2, _⟩ := c; exact ⟨h1, _, h2⟩
  · obtain ⟨h1, _, _, _, h2, _⟩ := c; exact ⟨h1, _, h2⟩
theorem Cell.mono {m : D} (c : Cell K P al m a H) (s : Same P P') (h : al <+: al') (hp : live m = true → P' a = none) (hh : ∀ o, live m = true → H a = some o → H' a = some o) : Cell K P' al' m a H' := by
  cases m <;> first | trivial | skip
  · exact ExCell.mono c s h
  · obtain ⟨h1, xs, h2, h3⟩ := c; exact ⟨hp rfl, xs, hh _ rfl h2, h3.mono s h⟩
  · obtain ⟨h1, xs, h2, h3⟩ := c; exact ⟨hp rfl, xs, hh _ rfl h2, h3.mono s h⟩
  · obtain ⟨h1, C, dx, xs, h2, hc, h3⟩ := c; exact ⟨hp rfl, C, dx, xs, hh _ rfl h2, hc, h3.mono s h⟩
/-- slots behind a step -/
theorem RS.step (r : RS K B P al M env σ H) (e : Ext P al H P' al' H') (r' : RS0 K B P' al' M' H') : RS K B P' al' M' env σ H' :=
  ⟨r', r.slen, fun j d h => by obtain ⟨v, h1, h2⟩ := r.slot j d h; exact ⟨v, h1, h2.mono e.pp e.pre⟩⟩
theorem RS0.free (r : RS0 K B P al M H) (hp : H p = none) : P p = none := by
  cases h : P p with
  | none => rfl
  | some o => rw [r.same _ _ h] at hp; cases hp
/-- a new object, published at once -/
theorem RS0.alloc (r : RS0 K B P al M H) (hp : H p = none) (o : HO) : Ext P al H (upd P p o) al (upd H p o) ∧ RS0 K B (upd P p o) al M (upd H p o) := by
  have np := r.free hp
  have e : Ext P al H (upd P p o) al (upd H p o) := by
    refine ⟨fun b x h => by rw [upd_ne (ne_of_none h np)]; exact h, List.prefix_refl _, fun b x h _ => by rw [upd_ne (ne_of_none h hp)]; exact h, fun b m n => absurd m n, fun b x h _ hb _ => by rw [upd_ne (ne_of_none h hp)]; exact hb⟩
  refine ⟨e, r.base.trans e, fun b x h => ?_, r.len, fun i a m h1 h2 => ?_, r.inj, fun a ha => by obtain ⟨o', h⟩ := r.trk a ha; exact ⟨o', by rw [upd_ne (ne_of_none h hp)]; exact h⟩⟩
  · by_cases hb : b = p
    · subst hb; rw [upd_same] at h ⊢; exact h
    · rw [upd_ne hb] at h ⊢; exact r.same _ _ h
  · have c := r.cell i a m h1 h2
    have hne : live m = true → a ≠ p := fun hl => by
      obtain ⟨_, o', ho⟩ := live_cell hl c
      exact ne_of_none ho hp
    exact c.mono e.pp e.pre (fun hl => by rw [upd_ne (hne hl)]; exact (live_cell hl c).1) fun o' hl ho => by rw [upd_ne (hne hl)]; exact ho
/-- a new object that will change -/
theorem RS0.allocM (r : RS0 K B P al M H) (hp : H p = none) {o : HO} {m : D} (hc : ∀ P' al', Same P P' → al <+: al' → P' p = none → ∀ H', H' p = some o → Cell K P' al' m p H') :
    Ext P al H P (al ++ [p]) (upd H p o) ∧ RS0 K B P (al ++ [p]) (M ++ [m]) (upd H p o) := by
  have np := r.free hp
  have e : Ext P al H P (al ++ [p]) (upd H p o) := by
    refine ⟨Same.refl _, List.prefix_append _ _, fun b x h _ => by rw [upd_ne (ne_of_none h hp)]; exact h, fun b m n => ?_, fun b x h _ hb _ => hb⟩
    rcases List.mem_append.mp m with z | z
    · exact absurd z n
    · have : b = p := by simpa using z
      rw [this]; exact hp
  have old : ∀ (i : Nat) (a : Addr), (al ++ [p])[i]? = some a → (i < al.length ∧ al[i]? = some a) ∨ (i = al.length ∧ a = p) := fun i a h => by
    by_cases hi : i < al.length
    · rw [List.getElem?_append_left hi] at h; exact .inl ⟨hi, h⟩
    · rw [List.getElem?_append_right (by omega)] at h
      have : i - al.length = 0 := by
        cases hq : i - al.length with
        | zero => rfl
        | succ n => rw [hq] at h; simp at h
      rw [this] at h
      exact .inr ⟨by omega, by simpa using h.symm⟩
  have oldM : ∀ (i : Nat) (n : D), i < al.length → (M ++ [m])[i]? = some n → M[i]? = some n := fun i n hi h => by
    rw [List.getElem?_append_left (by have := r.len; omega)] at h; exact h
  refine ⟨e, r.base.trans e, fun b x h => by rw [upd_ne (ne_of_none h np)]; exact r.same _ _ h, by simp [r.len], fun i a n h1 h2 => ?_, fun i j a n n' h1 h2 h3 h4 l1 l2 => ?_, fun a ha => ?_⟩
  · rcases old i a h1 with ⟨hi, h1'⟩ | ⟨hi, rfl⟩
    · have c := r.cell i a n h1' (oldM i n hi h2)
      have hne : live n = true → a ≠ p := fun hl => by
        obtain ⟨_, o', ho⟩ := live_cell hl c
        exact ne_of_none ho hp
      exact c.mono e.pp e.pre (fun hl => (live_cell hl c).1) fun o' hl ho => by rw [upd_ne (hne hl)]; exact ho
    · rw [hi, List.getElem?_append_right (by have := r.len; omega), r.len, Nat.sub_self] at h2
      have : m = n := by simpa using h2
      subst this
      exact hc _ _ (Same.refl _) e.pre np _ upd_same
  · rcases old i a h1 with ⟨hi, h1'⟩ | ⟨hi, e1⟩
    · rcases old j a h2 with ⟨hj, h2'⟩ | ⟨hj, e2⟩
      · exact r.inj i j a n n' h1' h2' (oldM i n hi h3) (oldM j n' hj h4) l1 l2
      · exfalso
        obtain ⟨_, o', ho⟩ := live_cell l1 (r.cell i a n h1' (oldM i n hi h3))
        rw [e2, hp] at ho; cases ho
    · rcases old j a h2 with ⟨hj, h2'⟩ | ⟨hj, e2⟩
      · exfalso
        obtain ⟨_, o', ho⟩ := live_cell l2 (r.cell j a n' h2' (oldM j n' hj h4))
        rw [e1, hp] at ho; cases ho
      · omega
  · rcases List.mem_append.mp ha with z | z
    · obtain ⟨o', h⟩ := r.trk a z; exact ⟨o', by rw [upd_ne (ne_of_none h hp)]; exact h⟩
    · have : a = p := by simpa using z
      rw [this]; exact ⟨_, upd_same⟩
/-- the i-th object changes -/
theorem RS0.change (r : RS0 K B P al M H) {i : Nat} {m m' : D} {o' : HO} (ha : al[i]? = some a) (hm : M[i]? = some m) (hl : live m = true) (hc : ∀ H', H' a = some o' → Cell K P al m' a H') :
    Ext P al H P al (upd H a o') ∧ RS0 K B P al (M.set i m') (upd H a o') := by
  have c := r.cell i a m ha hm
  have np := (live_cell hl c).1
  have im : i < M.length := (List.getElem?_eq_some_iff.mp hm).1
  have ia : a ∈ al := List.mem_of_getElem? ha
  have e : Ext P al H P al (upd H a o') := by
    refine ⟨Same.refl _, List.prefix_refl _, fun b x h n => ?_, fun b m n => absurd m n, fun b x h _ hb _ => hb⟩
    have hne : b ≠ a := fun z => n (by rw [z]; exact ia)
    rw [upd_ne hne]; exact h
  have gm : ∀ (j : Nat) (n : D), (M.set i m')[j]? = some n → (j = i ∧ n = m') ∨ (j ≠ i ∧ M[j]? = some n) := fun j n h => by
    by_cases hj : j = i
    · subst hj; rw [List.getElem?_set_self im] at h; exact .inl ⟨rfl, (Option.some.inj h).symm⟩
    · rw [List.getElem?_set_ne (Ne.symm hj)] at h; exact .inr ⟨hj, h⟩
  refine ⟨e, r.base.trans e, fun b x h => ?_, by simp [r.len], fun j b n h1 h2 => ?_, fun j k b n n' h1 h2 h3 h4 l1 l2 => ?_, fun b hb => ?_⟩
  · rw [upd_ne (fun z => by rw [z, np] at h; cases h)]; exact r.same _ _ h
  · rcases gm j n h2 with ⟨rfl, rfl⟩ | ⟨hj, h2⟩
    · rw [ha] at h1; cases h1
      exact hc _ upd_same
    · have c' := r.cell j b n h1 h2
      refine c'.mono (Same.refl _) (List.prefix_refl _) (fun l => (live_cell l c').1) (fun o l ho => ?_)
      have hne : b ≠ a := fun z => hj (r.inj j i a n m (z ▸ h1) ha h2 hm l hl)
      rw [upd_ne hne]; exact ho
  · rcases gm j n h3 with ⟨e1, e2⟩ | ⟨hj, g3⟩
    · rcases gm k n' h4 with ⟨e3, e4⟩ | ⟨hk, g4⟩
      · omega
      · rw [e1, ha] at h1; cases h1
        rw [e1]
        exact (r.inj k i a n' m h2 ha g4 hm l2 hl).symm
    · rcases gm k n' h4 with ⟨e3, e4⟩ | ⟨hk, g4⟩
      · rw [e3, ha] at h2; cases h2
        rw [e3]
        exact r.inj j i a n m h1 ha g3 hm l1 hl
      · exact r.inj j k b n n' h1 h2 g3 g4 l1 l2
  · by_cases hz : b = a
    · rw [hz]; exact ⟨_, upd_same⟩
    · obtain ⟨o2, h⟩ := r.trk b hb; exact ⟨o2, by rw [upd_ne hz]; exact h⟩
/-- what is not tracked was not tracked at the base -/
theorem RS0.fresh (r : RS0 K B P al M H) (hp : H p = none) : B.2.2 p = none ∧ p ∉ al := by
  have na : p ∉ al := fun h => by obtain ⟨o, e⟩ := r.trk p h; rw [hp] at e; cases e
  refine ⟨?_, na⟩
  cases h : B.2.2 p with
  | none => rfl
  | some o =>
    have nb : p ∉ B.2.1 := fun z => na (r.base.pre.subset z)
    rw [r.base.fr p o h nb] at hp; cases hp
/-- an object of our own beside the state: made, changed, published -/
theorem Ext.priv (e : Ext P al H P' al' H') (hp : H p = none) (o : HO) : Ext P al H P' al' (upd H' p o) :=
  ⟨e.pp, e.pre, fun b x h n => by rw [upd_ne (ne_of_none h hp)]; exact e.fr b x h n, e.new, e.pn⟩
theorem Ext.pub (e : Ext P al H P' al' H') (hp : H p = none) (hq : P' p = none) (o : HO) : Ext P al H (upd P' p o) al' H' :=
  ⟨fun b x h => by rw [upd_ne (ne_of_none (e.pp b x h) hq)]; exact e.pp b x h, e.pre, e.fr, e.new, fun b x h h1 h2 h3 => by rw [upd_ne (ne_of_none h hp)]; exact e.pn b x h h1 h2 h3⟩
theorem RS0.priv (r : RS0 K B P al M H) (hq : P p = none) (na : p ∉ al) (hb : B.2.2 p = none) (o : HO) : RS0 K B P al M (upd H p o) := by
  refine ⟨r.base.priv hb o, fun b x h => by rw [upd_ne (ne_of_none h hq)]; exact r.same _ _ h, r.len, fun i a m h1 h2 => ?_, r.inj, fun a ha => ?_⟩
  · have ne : a ≠ p := fun z => na (z ▸ List.mem_of_getElem? h1)
    exact (r.cell i a m h1 h2).mono (Same.refl _) (List.prefix_refl _) (fun l => (live_cell l (r.cell i a m h1 h2)).1) fun o' _ h => by rw [upd_ne ne]; exact h
  · have ne : a ≠ p := fun z => na (z ▸ ha)
    obtain ⟨o2, h⟩ := r.trk a ha; exact ⟨o2, by rw [upd_ne ne]; exact h⟩
theorem RS0.pub (r : RS0 K B P al M H) (hq : P p = none) (na : p ∉ al) (hb : B.2.2 p = none) {o : HO} (ho : H p = some o) : RS0 K B (upd P p o) al M H := by
  have sm : Same P (upd P p o) := fun b x h => by rw [upd_ne (ne_of_none h hq)]; exact h
  refine ⟨r.base.pub hb hq o, fun b x h => ?_, r.len, fun i a m h1 h2 => ?_, r.inj, r.trk⟩
  · by_cases hz : b = p
    · rw [hz, upd_same] at h; cases h; rw [hz]; exact ho
    · rw [upd_ne hz] at h; exact r.same _ _ h
  · have ne : a ≠ p := fun z => na (z ▸ List.mem_of_getElem? h1)
    exact (r.cell i a m h1 h2).mono sm (List.prefix_refl _) (fun l => by rw [upd_ne ne]; exact (live_cell l (r.cell i a m h1 h2)).1) fun o' _ h => h
end

/-! ### judgements: pure readings -/
abbrev WE := Ev → Mt → (D → Mt → Prop) → Prop
abbrev WT := Ev → Mt → (Bool → Mt → Prop) → Prop
abbrev WA := Ev → Mt → (List D → Mt → Prop) → Prop
structure DEnds where
  nx : Ev → Mt → Prop
  rt : D → Mt → Prop
  bk : Ev → Mt → Prop
  ct : Ev → Mt → Prop
abbrev WS := DEnds → Ev → Mt → Prop
abbrev WG := D → Ev → Mt → (Ev → Mt → Prop) → Prop
section
variable (K : PySem.W.Frag) (B : Bs)
def Lift (P : Hp) (al : List Addr) (env : Ev) (σ : L2.St) (H : Hp) (R : D → Mt → Prop) (Q : VK) : Prop :=
  ∀ d M' v H' P' al', Ext P al H P' al' H' → RS K B P' al' M' env σ H' → Rep K P' al' d v → R d M' → Q v H'
def tD (w : WE) : TE := fun σ H Q => ∃ P al M env R, RS K B P al M env σ H ∧ w env M R ∧ Lift K B P al env σ H R Q
def tDT (w : WT) : TT := fun σ H Q => ∃ P al M env R, RS K B P al M env σ H ∧ w env M R ∧
  ∀ b M' H' P' al', Ext P al H P' al' H' → RS K B P' al' M' env σ H' → R b M' → Q b H'
def tDA (w : WA) : TA := fun σ H Q => ∃ P al M env R, RS K B P al M env σ H ∧ w env M R ∧
  ∀ ds M' vs H' P' al', Ext P al H P' al' H' → RS K B P' al' M' env σ H' → Reps K P' al' ds vs → R ds M' → Q vs H'
structure DLift (P : Hp) (al : List Addr) (H : Hp) (k : DEnds) (D : Ends) : Prop where
  nx : ∀ env' M' σ' H' P' al', Ext P al H P' al' H' → RS K B P' al' M' env' σ' H' → k.nx env' M' → D.nx σ' H'
  rt : ∀ d M' v H' P' al', Ext P al H P' al' H' → RS0 K B P' al' M' H' → Rep K P' al' d v → k.rt d M' → D.rt v H'
  bk : ∀ env' M' σ' H' P' al', Ext P al H P' al' H' → RS K B P' al' M' env' σ' H' → k.bk env' M' → D.bk σ' H'
  ct : ∀ env' M' σ' H' P' al', Ext P al H P' al' H' → RS K B P' al' M' env' σ' H' → k.ct env' M' → D.ct σ' H'
def tDS (w : WS) : TS := fun D σ H => ∃ P al M env, ∃ k : DEnds, RS K B P al M env σ H ∧ w k env M ∧ DLift K B P al H k D
def tDG (g : WG) : TG := fun v σ H Q => ∃ P al M env d R, RS K B P al M env σ H ∧ Rep K P al d v ∧ g d env M R ∧
  ∀ env' M' σ' H' P' al', Ext P al H P' al' H' → RS K B P' al' M' env' σ' H' → R env' M' → Q σ' H'
end
theorem DLift.after {K : PySem.W.Frag} {B : Bs} {P P' : Hp} {al al' : List Addr} {H H' : Hp} {k : DEnds} {D : Ends} (L : DLift K B P al H k D) (e : Ext P al H P' al' H') : DLift K B P' al' H' k D :=
  ⟨fun _ _ _ _ _ _ e2 => L.nx _ _ _ _ _ _ (e.trans e2), fun _ _ _ _ _ _ e2 => L.rt _ _ _ _ _ _ (e.trans e2), fun _ _ _ _ _ _ e2 => L.bk _ _ _ _ _ _ (e.trans e2), fun _ _ _ _ _ _ e2 => L.ct _ _ _ _ _ _ (e.trans e2)⟩
theorem _root_.L2.PE.imp {X : Cx} {e : Expr} {t u : TE} (h : PE X e t) (i : ∀ σ H Q, u σ H Q → t σ H Q) : PE X e u := ⟨fun pins s σ H Q I q => h.run pins s σ H Q I (i σ H Q q)⟩
theorem _root_.L2.PT.imp {X : Cx} {e : Expr} {t u : TT} (h : PT X e t) (i : ∀ σ H Q, u σ H Q → t σ H Q) : PT X e u := ⟨fun pins s σ H Q I q => h.run pins s σ H Q I (i σ H Q q)⟩
theorem _root_.L2.PW.imp {X : Cx} {e : Expr} {t u : TT} (h : PW X e t) (i : ∀ σ H Q, u σ H Q → t σ H Q) : PW X e u := ⟨fun wh pins s σ H Q I q => h.run wh pins s σ H Q I (i σ H Q q)⟩
theorem _root_.L2.PA.imp {X : Cx} {e : List Expr} {t u : TA} (h : PA X e t) (i : ∀ σ H Q, u σ H Q → t σ H Q) : PA X e u := ⟨fun p pins s σ H Q I q => h.run p pins s σ H Q I (i σ H Q q)⟩
theorem _root_.L2.PS.imp {X : Cx} {e : Stmt} {t u : TS} (h : PS X e t) (i : ∀ D σ H, u D σ H → t D σ H) : PS X e u := ⟨fun pins s σ H D I q => h.run pins s σ H D I (i D σ H q)⟩
theorem _root_.L2.PSs.imp {X : Cx} {e : List Stmt} {t u : TS} (h : PSs X e t) (i : ∀ D σ H, u D σ H → t D σ H) : PSs X e u := ⟨fun pins s σ H D I q => h.run pins s σ H D I (i D σ H q)⟩
theorem _root_.L2.PI.imp {X : Cx} {tg e : Expr} {t u : TI} (h : PI X tg e t) (i : ∀ σ H Q, u σ H Q → t σ H Q) : PI X tg e u := ⟨fun pins s σ H R I q => h.run pins s σ H R I (i σ H R q)⟩
theorem _root_.L2.PG.imp {X : Cx} {e : Expr} {t u : TG} (h : PG X e t) (i : ∀ v σ H Q, u v σ H Q → t v σ H Q) : PG X e u := ⟨fun pins s σ H v u' Q I r q => h.run pins s σ H v u' Q I r (i v σ H Q q)⟩
abbrev DE (B : Bs) (X : Cx) (e : Expr) (w : WE) : Prop := PE X e (tD X.K B w)
abbrev DT (B : Bs) (X : Cx) (e : Expr) (w : WT) : Prop := PT X e (tDT X.K B w)
abbrev DW (B : Bs) (X : Cx) (e : Expr) (w : WT) : Prop := PW X e (tDT X.K B w)
abbrev DA (B : Bs) (X : Cx) (es : List Expr) (w : WA) : Prop := PA X es (tDA X.K B w)
abbrev DS (B : Bs) (X : Cx) (st : Stmt) (w : WS) : Prop := PS X st (tDS X.K B w)
abbrev DSs (B : Bs) (X : Cx) (st : List Stmt) (w : WS) : Prop := PSs X st (tDS X.K B w)
abbrev DG (B : Bs) (X : Cx) (e : Expr) (g : WG) : Prop := PG X e (tDG X.K B g)
end L3

namespace L3
open PySem PySem.Spec PyProof.Rows L2
/-! ### looking through the table -/
def viewD (M : Mt) : D → D
  | .cel i => match M[i]? with
    | some (.lst l) => .lst l
    | some (.dct l) => .dct l
    | some (.obj C fs) => .obj C fs
    | _ => .cel i
  | d => d
section
variable {K : PySem.W.Frag} {B : Bs} {P P' : Hp} {al al' : List Addr} {M M' : Mt} {env : Ev} {σ : L2.St} {H H' : Hp} {a p : Addr} {d : D} {v : V}
theorem view_cases (M : Mt) (d : D) : viewD M d = d ∨ ∃ i m, d = .cel i ∧ M[i]? = some m ∧ live m = true ∧ viewD M d = m := by
  cases d <;> first | exact .inl rfl | skip
  rename_i i
  obtain ⟨o, h⟩ : ∃ o, M[i]? = o := ⟨_, rfl⟩
  cases o with
  | none => exact .inl (by simp only [viewD, h])
  | some m =>
    cases m <;> first
      | exact .inr ⟨i, _, rfl, h, rfl, by simp only [viewD, h]⟩
      | exact .inl (by simp only [viewD, h])
theorem view_same {m : D} (hl : live m = false) (e : viewD M d = m) : d = m := by
  rcases view_cases M d with h | ⟨i, n, _, _, l, h⟩
  · rw [← h, e]
  · rw [e] at h; subst h; rw [hl] at l; cases l
theorem cell_at (r : RS0 K B P al M H) {i : Nat} {m : D} (hm : M[i]? = some m) (q : Rep K P al (.cel i) v) : ∃ a, v = .ref a ∧ al[i]? = some a ∧ Cell K P al m a H := by
  cases q with
  | cel e => exact ⟨_, rfl, e, r.cell _ _ _ e hm⟩
theorem view_lst (r : RS0 K B P al M H) (q : Rep K P al d v) {ds : List D} (e : viewD M d = .lst ds) : ∃ a xs, v = .ref a ∧ H a = some (.lst xs) ∧ Reps K P al ds xs := by
  rcases view_cases M d with h | ⟨i, m, rfl, hm, l, h⟩
  · rw [e] at h; subst h
    cases q with
    | lst h1 h2 => exact ⟨_, _, rfl, r.same _ _ h1, h2⟩
  · rw [e] at h; subst h
    obtain ⟨a, rfl, _, _, xs, h1, h2⟩ := cell_at r hm q
    exact ⟨a, xs, rfl, h1, h2⟩
theorem view_dct (r : RS0 K B P al M H) (q : Rep K P al d v) {ds : List (Key × D)} (e : viewD M d = .dct ds) : ∃ a xs, v = .ref a ∧ H a = some (.dK xs) ∧ RepKs K P al ds xs := by
  rcases view_cases M d with h | ⟨i, m, rfl, hm, l, h⟩
  · rw [e] at h; subst h
    cases q with
    | dct h1 h2 => exact ⟨_, _, rfl, r.same _ _ h1, h2⟩
  · rw [e] at h; subst h
    obtain ⟨a, rfl, _, _, xs, h1, h2⟩ := cell_at r hm q
    exact ⟨a, xs, rfl, h1, h2⟩
theorem view_fdc (r : RS0 K B P al M H) (q : Rep K P al d v) {ds : List (Key × D)} (e : viewD M d = .fdc ds) : ∃ a xs, v = .ref a ∧ Rd H a (.dK xs) ∧ RepKs K P al ds xs := by
  rw [view_same rfl e] at q
  cases q with
  | fdc h1 h2 => exact ⟨_, _, rfl, .inr ⟨_, r.same _ _ h1⟩, h2⟩
theorem view_dk (r : RS0 K B P al M H) (q : Rep K P al d v) {ds : List (Key × D)} (e : viewD M d = .dct ds ∨ viewD M d = .fdc ds) : ∃ a xs, v = .ref a ∧ Rd H a (.dK xs) ∧ RepKs K P al ds xs := by
  rcases e with e | e
  · obtain ⟨a, xs, h1, h2, h3⟩ := view_dct r q e
    exact ⟨a, xs, h1, .inl h2, h3⟩
  · exact view_fdc r q e
theorem view_obj (r : RS0 K B P al M H) (q : Rep K P al d v) {n : Str} {fs : List (Str × D)} (e : viewD M d = .obj n fs) : ∃ a C dx xs, v = .ref a ∧ H a = some (.ins C dx xs) ∧ ClsAt K n C ∧ RepFs K P al fs xs := by
  rcases view_cases M d with h | ⟨i, m, rfl, hm, l, h⟩
  · rw [e] at h; subst h
    cases q with
    | obj h1 hc h2 => exact ⟨_, _, _, _, rfl, r.same _ _ h1, hc, h2⟩
  · rw [e] at h; subst h
    obtain ⟨a, rfl, _, _, C, dx, xs, h1, hc, h2⟩ := cell_at r hm q
    exact ⟨a, C, dx, xs, rfl, h1, hc, h2⟩
theorem view_tup (r : RS0 K B P al M H) (q : Rep K P al d v) {ds : List D} (e : viewD M d = .tup ds) : ∃ a xs, v = .ref a ∧ SqT K H a xs ∧ Reps K P al ds xs := by
  rw [view_same rfl e] at q
  cases q with
  | tup h1 h2 => exact ⟨_, _, rfl, same_seqT r.same h1, h2⟩
theorem view_rol (r : RS0 K B P al M H) (q : Rep K P al d v) {ds : List D} (e : viewD M d = .rol ds) : ∃ a xs, v = .ref a ∧ SqL K H a xs ∧ Reps K P al ds xs := by
  rw [view_same rfl e] at q
  cases q with
  | rol h1 h2 => exact ⟨_, _, rfl, r.same.seq h1, h2⟩
theorem view_int (q : Rep K P al d v) {i : Int} (e : viewD M d = .int i) : v = .int i := by
  rw [view_same rfl e] at q; cases q; rfl
theorem view_bl (q : Rep K P al d v) {i : Bool} (e : viewD M d = .bl i) : v = .bl i := by
  rw [view_same rfl e] at q; cases q; rfl
theorem view_str (q : Rep K P al d v) {i : Str} (e : viewD M d = .str i) : v = .str i := by
  rw [view_same rfl e] at q; cases q; rfl
theorem view_non (q : Rep K P al d v) (e : viewD M d = .non) : v = .non := by
  rw [view_same rfl e] at q; cases q; rfl
/-- what can be read in order -/
def seqD : D → Option (List D)
  | .lst l => some l
  | .rol l => some l
  | .tup l => some l
  | _ => none
theorem view_seq (r : RS0 K B P al M H) (q : Rep K P al d v) {ds : List D} (e : seqD (viewD M d) = some ds) : ∃ a xs, v = .ref a ∧ (SqL K H a xs ∨ SqT K H a xs) ∧ Reps K P al ds xs := by
  cases h : viewD M d <;> rw [h] at e <;> simp [seqD] at e
  · obtain ⟨a, xs, e1, e2, e3⟩ := view_tup r q h; subst e; exact ⟨a, xs, e1, .inr e2, e3⟩
  · obtain ⟨a, xs, e1, e2, e3⟩ := view_lst r q h; subst e; exact ⟨a, xs, e1, .inl (.inl (.inl e2)), e3⟩
  · obtain ⟨a, xs, e1, e2, e3⟩ := view_rol r q h; subst e; exact ⟨a, xs, e1, .inl e2, e3⟩

/-! ### lifting -/
theorem Lift.after {R : D → Mt → Prop} {Q : VK} (L : Lift K B P al env σ H R Q) (e : Ext P al H P' al' H') : Lift K B P' al' env σ H' R Q :=
  fun d M v H2 P2 al2 e2 rs r q => L d M v H2 P2 al2 (e.trans e2) rs r q
/-- the value is there already -/
theorem Lift.here {R : D → Mt → Prop} {Q : VK} (L : Lift K B P al env σ H R Q) (rs : RS K B P al M env σ H) (r : Rep K P al d v) (q : R d M) : Q v H := L _ _ _ _ _ _ Ext.refl rs r q
/-- a new object is the value -/
theorem Lift.alloc {R : D → Mt → Prop} {Q : VK} (L : Lift K B P al env σ H R Q) (rs : RS K B P al M env σ H) (hp : H p = none) {o : HO} (r : Rep K (upd P p o) al d (.ref p)) (q : R d M) : Q (.ref p) (upd H p o) := by
  obtain ⟨e, r0⟩ := rs.toRS0.alloc hp o
  exact L _ _ _ _ _ _ e (rs.step e r0) r q
theorem Ext.rs (e : Ext P al H P' al' H') (rs : RS K B P al M env σ H) (r0 : RS0 K B P' al' M' H') : RS K B P' al' M' env σ H' := rs.step e r0
theorem same_new (rs : RS0 K B P al M H) (hp : H p = none) {o : HO} : Same P (upd P p o) := (rs.alloc hp o).1.pp
end

/-! ### names and constants -/
def look (env : Ev) (i : Nat) : Option D := match env[i]? with
  | some (some d) => some d
  | _ => none
def wVar (i : Nat) : WE := fun env M R => match env[i]? with
  | some (some d) => R d M
  | _ => False
def wC (d : D) : WE := fun _ M R => R d M
section
variable {X : Cx} {B : Bs} {a b c e : Expr} {es : List Expr} {wa wb wc we : WE} {pos : Pos}
theorem d_var {i : Nat} {x : Str} {pos : Pos} (hN : X.N[i]? = some x := by rfl) (hv : Vis X.env.scope x := by first | exact Or.inl rfl | exact Or.inr (Or.inl rfl) | exact Or.inr (Or.inr rfl)) (hd : (x == ("__debug__" : Str)) = false := by decide) (hcd : (x == ("__classdict__" : Str)) = false := by decide) :
    DE B X (.Name x pos) (wVar i) := by
  refine (pe_var hN hv hd hcd).imp fun σ H Q => ?_
  rintro ⟨P, al, M, env, R, rs, hw, L⟩
  unfold wVar at hw
  split at hw
  · rename_i d hd
    obtain ⟨v, h1, h2⟩ := rs.slot _ _ hd
    exact ⟨v, h1, L.here rs h2 hw⟩
  · exact hw.elim
theorem d_C {d : D} {v : V} (h : PE X e (tC v)) (hd : ∀ P al, Rep X.K P al d v) : DE B X e (wC d) := by
  refine h.imp fun σ H Q => ?_
  rintro ⟨P, al, M, env, R, rs, hw, L⟩
  exact L.here rs (hd _ _) hw
theorem d_int {i : Int} {j pos} : DE B X (.Constant (.int i) j pos) (wC (.int i)) := d_C pe_int fun _ _ => .int i
theorem d_str {x : Str} {j pos} : DE B X (.Constant (.str x) j pos) (wC (.str x)) := d_C pe_str fun _ _ => .str x
theorem d_bl {x : Bool} {j pos} : DE B X (.Constant (.bool x) j pos) (wC (.bl x)) := d_C pe_bl fun _ _ => .bl x
theorem d_non {j pos} : DE B X (.Constant .none j pos) (wC .non) := d_C pe_non fun _ _ => .non

/-! ### two places -/
abbrev WO2 := D → D → Mt → (D → Mt → Prop) → Prop
def wOp (o : WO2) (wa wb : WE) : WE := fun env M R => wa env M fun x M1 => wb env M1 fun y M2 => o x y M2 R
def OpD (K : PySem.W.Frag) (B : Bs) (r : R2) (o : WO2) : Prop := ∀ P al M env σ H x y dx dy R Q, RS K B P al M env σ H → Rep K P al dx x → Rep K P al dy y → o dx dy M R → Lift K B P al env σ H R Q → r x y H Q
theorem op_imp {K : PySem.W.Frag} {r : R2} {o : WO2} (h : OpD K B r o) (σ : L2.St) (H : Hp) (Q : VK) : tD K B (wOp o wa wb) σ H Q → tOp r (tD K B wa) (tD K B wb) σ H Q := by
  rintro ⟨P, al, M, env, R, rs, hw, L⟩
  exact ⟨P, al, M, env, _, rs, hw, fun d1 M1 v1 H1 P1 al1 e1 rs1 r1 hw1 => ⟨P1, al1, M1, env, _, rs1, hw1, fun d2 M2 v2 H2 P2 al2 e2 rs2 r2 hw2 =>
    h _ _ _ _ _ _ _ _ _ _ _ _ rs2 (r1.mono e2.pp e2.pre) r2 hw2 (L.after (e1.trans e2))⟩⟩
theorem d_op {op : Operator} {r : R2} {o : WO2} (ho : OpR X (binaryOp op) r) (h : OpD X.K B r o) (ha : DE B X a wa) (hb : DE B X b wb) : DE B X (.BinOp a op b pos) (wOp o wa wb) :=
  (pe_op ho ha hb).imp (op_imp h)
theorem d_cmp {op : CmpOp} {r : R2} {o : WO2} (ho : OpR X (compareOp op) r) (h : OpD X.K B r o) (ha : DE B X a wa) (hb : DE B X b wb) (hm : behindInMarks op b = false) : DE B X (.Compare a [op] [b] pos) (wOp o wa wb) :=
  (pe_cmpR ho ha hb hm).imp (op_imp h)
/-- a value that must be a bool, as a test -/
def wTest (w : WE) : WT := fun env M R => w env M fun d M1 => match d with
  | .bl b => R b M1
  | _ => False
theorem test_imp {K : PySem.W.Frag} {t : TE} {w : WE} (h : ∀ σ H Q, tD K B w σ H Q → t σ H Q) (σ : L2.St) (H : Hp) (Q : Bool → Hp → Prop) : tDT K B (wTest w) σ H Q → tTest t σ H Q := by
  rintro ⟨P, al, M, env, R, rs, hw, L⟩
  refine h σ H _ ⟨P, al, M, env, _, rs, hw, fun d M1 v H1 P1 al1 e1 rs1 r1 q => ?_⟩
  split at q
  · rename_i b; cases r1; exact ⟨b, rfl, L _ _ _ _ _ e1 rs1 q⟩
  · exact q.elim
theorem d_cmpT {op : CmpOp} {r : R2} {o : WO2} (ho : OpR X (compareOp op) r) (h : OpD X.K B r o) (ha : DE B X a wa) (hb : DE B X b wb) (hm : behindInMarks op b = false) : DT B X (.Compare a [op] [b] pos) (wTest (wOp o wa wb)) :=
  (pt_cmpR ho ha hb hm).imp (test_imp (op_imp h))
/-- both ways of a truth value -/
def ifB (b : Bool) (A C : Prop) : Prop := (b = true → A) ∧ (b = false → C)
def wAndT (t u : WT) : WT := fun env M R => t env M fun b M1 => ifB b (u env M1 R) (R false M1)
def wOrT (t u : WT) : WT := fun env M R => t env M fun b M1 => ifB b (R true M1) (u env M1 R)
def wNotT (t : WT) : WT := fun env M R => t env M fun b M1 => R (!b) M1
variable {ta tb : WT} {rest : List Expr}
theorem d_and1 (ha : DT B X a ta) : DW B X (.BoolOp .And [a] pos) ta := pw_and1 ha
theorem d_or1 (ha : DT B X a ta) : DW B X (.BoolOp .Or [a] pos) ta := pw_or1 ha
theorem d_and (ha : DT B X a ta) (hb : DW B X (.BoolOp .And (b :: rest) pos) tb) : DW B X (.BoolOp .And (a :: b :: rest) pos) (wAndT ta tb) := by
  refine (pw_and ha hb).imp fun σ H Q => ?_
  rintro ⟨P, al, M, env, R, rs, hw, L⟩
  refine ⟨P, al, M, env, _, rs, hw, fun b' M1 H1 P1 al1 e1 rs1 q => ?_⟩
  cases b' with
  | true => rw [if_pos rfl]; exact ⟨P1, al1, M1, env, _, rs1, q.1 rfl, fun c M2 H2 P2 al2 e2 rs2 q2 => L _ _ _ _ _ (e1.trans e2) rs2 q2⟩
  | false => rw [if_neg Bool.false_ne_true]; exact L _ _ _ _ _ e1 rs1 (q.2 rfl)
theorem d_or (ha : DT B X a ta) (hb : DW B X (.BoolOp .Or (b :: rest) pos) tb) : DW B X (.BoolOp .Or (a :: b :: rest) pos) (wOrT ta tb) := by
  refine (pw_or ha hb).imp fun σ H Q => ?_
  rintro ⟨P, al, M, env, R, rs, hw, L⟩
  refine ⟨P, al, M, env, _, rs, hw, fun b' M1 H1 P1 al1 e1 rs1 q => ?_⟩
  cases b' with
  | true => rw [if_pos rfl]; exact L _ _ _ _ _ e1 rs1 (q.1 rfl)
  | false => rw [if_neg Bool.false_ne_true]; exact ⟨P1, al1, M1, env, _, rs1, q.2 rfl, fun c M2 H2 P2 al2 e2 rs2 q2 => L _ _ _ _ _ (e1.trans e2) rs2 q2⟩
theorem d_not (ha : DT B X a ta) : DT B X (.UnaryOp .Not a pos) (wNotT ta) := by
  refine (pt_not ha).imp fun σ H Q => ?_
  rintro ⟨P, al, M, env, R, rs, hw, L⟩
  exact ⟨P, al, M, env, _, rs, hw, fun b' M1 H1 P1 al1 e1 rs1 q => L _ _ _ _ _ e1 rs1 q⟩
/-- as values -/
def wAndV (wa wb : WE) : WE := fun env M R => wa env M fun d M1 => match d with
  | .bl b => ifB b (wb env M1 R) (R (.bl false) M1)
  | _ => False
def wOrV (wa wb : WE) : WE := fun env M R => wa env M fun d M1 => match d with
  | .bl b => ifB b (R (.bl true) M1) (wb env M1 R)
  | _ => False
def wNotV (wa : WE) : WE := fun env M R => wa env M fun d M1 => match d with
  | .bl b => R (.bl (!b)) M1
  | _ => False
theorem d_one {op} (h : DE B X a wa) : DE B X (.BoolOp op [a] pos) wa := pe_one h
theorem d_andV (ha : DE B X a wa) (hb : DE B X (.BoolOp .And (b :: rest) pos) wb) : DE B X (.BoolOp .And (a :: b :: rest) pos) (wAndV wa wb) := by
  refine (pe_and ha hb).imp fun σ H Q => ?_
  rintro ⟨P, al, M, env, R, rs, hw, L⟩
  refine ⟨P, al, M, env, _, rs, hw, fun d M1 v H1 P1 al1 e1 rs1 r1 q => ?_⟩
  split at q
  · rename_i b'; cases r1; refine ⟨b', rfl, ?_⟩
    cases b' with
    | true => rw [if_pos rfl]; exact ⟨P1, al1, M1, env, _, rs1, q.1 rfl, L.after e1⟩
    | false => rw [if_neg Bool.false_ne_true]; exact L _ _ _ _ _ _ e1 rs1 (.bl false) (q.2 rfl)
  · exact q.elim
theorem d_orV (ha : DE B X a wa) (hb : DE B X (.BoolOp .Or (b :: rest) pos) wb) : DE B X (.BoolOp .Or (a :: b :: rest) pos) (wOrV wa wb) := by
  refine (pe_or ha hb).imp fun σ H Q => ?_
  rintro ⟨P, al, M, env, R, rs, hw, L⟩
  refine ⟨P, al, M, env, _, rs, hw, fun d M1 v H1 P1 al1 e1 rs1 r1 q => ?_⟩
  split at q
  · rename_i b'; cases r1; refine ⟨b', rfl, ?_⟩
    cases b' with
    | true => rw [if_pos rfl]; exact L _ _ _ _ _ _ e1 rs1 (.bl true) (q.1 rfl)
    | false => rw [if_neg Bool.false_ne_true]; exact ⟨P1, al1, M1, env, _, rs1, q.2 rfl, L.after e1⟩
  · exact q.elim
theorem d_notV (ha : DE B X a wa) : DE B X (.UnaryOp .Not a pos) (wNotV wa) := by
  refine (pe_not ha).imp fun σ H Q => ?_
  rintro ⟨P, al, M, env, R, rs, hw, L⟩
  refine ⟨P, al, M, env, _, rs, hw, fun d M1 v H1 P1 al1 e1 rs1 r1 q => ?_⟩
  split at q
  · rename_i b'; cases r1; exact ⟨b', rfl, L _ _ _ _ _ _ e1 rs1 (.bl _) q⟩
  · exact q.elim
def wIfE (t : WT) (wa wb : WE) : WE := fun env M R => t env M fun b M1 => ifB b (wa env M1 R) (wb env M1 R)
theorem d_ifE (hc : DT B X c ta) (ha : DE B X a wa) (hb : DE B X b wb) : DE B X (.IfExp c a b pos) (wIfE ta wa wb) := by
  refine (pe_ifExp hc ha hb).imp fun σ H Q => ?_
  rintro ⟨P, al, M, env, R, rs, hw, L⟩
  refine ⟨P, al, M, env, _, rs, hw, fun b' M1 H1 P1 al1 e1 rs1 q => ?_⟩
  cases b' with
  | true => rw [if_pos rfl]; exact ⟨P1, al1, M1, env, _, rs1, q.1 rfl, L.after e1⟩
  | false => rw [if_neg Bool.false_ne_true]; exact ⟨P1, al1, M1, env, _, rs1, q.2 rfl, L.after e1⟩
/-- any value's truth -/
def truD (M : Mt) (d : D) (R : Bool → Prop) : Prop := match viewD M d with
  | .non => R false
  | .bl b => R b
  | .int i => R (i != 0)
  | .str s => Need (s.length ≤ sizeLine) ∧ R ((s.length : Int) != 0)
  | .lst l => R (!l.isEmpty)
  | .rol l => R (!l.isEmpty)
  | .tup l => R (!l.isEmpty)
  | .dct l => R (!l.isEmpty)
  | _ => False
def wTru (w : WE) : WT := fun env M R => w env M fun d M1 => truD M1 d fun b => R b M1
theorem empty_of {α β : Type} {xs : List α} {ys : List β} (h : xs.length = ys.length) : xs.isEmpty = ys.isEmpty := by
  cases xs <;> cases ys <;> simp_all
theorem RepKs.length {K : PySem.W.Frag} {P : Hp} {al : List Addr} : ∀ {ds : List (Key × D)} {vs : List (Key × V)}, RepKs K P al ds vs → ds.length = vs.length
  | _, _, .nil => rfl
  | _, _, .cons _ t => by simp [RepKs.length t]
theorem d_truth (h : DE B X e we) (he : ∀ whole, isTrue e X.env whole = (do let v ← whole; standAt e.pos; holding [v] (truthy v)) := by intro _; rfl) : DT B X e (wTru we) := by
  refine (pt_truth h he).imp fun σ H Q => ?_
  rintro ⟨P, al, M, env, R, rs, hw, L⟩
  refine ⟨P, al, M, env, _, rs, hw, fun d M1 v H1 P1 al1 e1 rs1 r1 q => ?_⟩
  unfold truD at q
  have L' := fun b => L b M1 H1 P1 al1 e1 rs1
  split at q
  · rename_i h; cases view_non r1 h; exact ⟨_, rfl, L' _ q⟩
  · rename_i h; cases view_bl r1 h; exact ⟨_, rfl, L' _ q⟩
  · rename_i h; cases view_int r1 h; exact ⟨_, rfl, L' _ q⟩
  · rename_i h; cases view_str r1 h; exact ⟨_, ⟨q.1.out, rfl⟩, L' _ q.2⟩
  · rename_i h; obtain ⟨a, xs, rfl, h1, h2⟩ := view_lst rs1.toRS0 r1 h
    rw [empty_of h2.length] at q; exact ⟨_, .inl ⟨xs, .inl (.inl h1), rfl⟩, L' _ q⟩
  · rename_i h; obtain ⟨a, xs, rfl, h1, h2⟩ := view_rol rs1.toRS0 r1 h
    rw [empty_of h2.length] at q; exact ⟨_, .inl ⟨xs, h1, rfl⟩, L' _ q⟩
  · rename_i h; obtain ⟨a, xs, rfl, h1, h2⟩ := view_tup rs1.toRS0 r1 h
    rw [empty_of h2.length] at q; exact ⟨_, .inr (.inl ⟨xs, h1, rfl⟩), L' _ q⟩
  · rename_i h; obtain ⟨a, xs, rfl, h1, h2⟩ := view_dct rs1.toRS0 r1 h
    rw [empty_of h2.length] at q; exact ⟨_, .inr (.inr ⟨xs, h1, rfl⟩), L' _ q⟩
  · exact q.elim
/-- a op1 b op2 c -/
def wChain (o o' : WO2) (wa wb wc : WE) : WE := fun env M R => wa env M fun x M1 => wb env M1 fun y M2 => o x y M2 fun z M3 => match z with
  | .bl k => ifB k (wc env M3 fun u M4 => o' y u M4 R) (R (.bl false) M3)
  | _ => False
theorem chain_imp {K : PySem.W.Frag} {r r' : R2} {o o' : WO2} (h : OpD K B r o) (h' : OpD K B r' o') (σ : L2.St) (H : Hp) (Q : VK) : tD K B (wChain o o' wa wb wc) σ H Q → tChain r r' (tD K B wa) (tD K B wb) (tD K B wc) σ H Q := by
  rintro ⟨P, al, M, env, R, rs, hw, L⟩
  refine ⟨P, al, M, env, _, rs, hw, fun d1 M1 v1 H1 P1 al1 e1 rs1 r1 hw1 => ⟨P1, al1, M1, env, _, rs1, hw1, fun d2 M2 v2 H2 P2 al2 e2 rs2 r2 hw2 => ?_⟩⟩
  refine h _ _ _ _ _ _ _ _ _ _ _ _ rs2 (r1.mono e2.pp e2.pre) r2 hw2 fun d3 M3 v3 H3 P3 al3 e3 rs3 r3 q => ?_
  split at q
  · rename_i k; cases r3; refine ⟨k, rfl, ?_⟩
    have L3 := L.after (e1.trans (e2.trans e3))
    cases k with
    | true =>
      rw [if_pos rfl]
      exact ⟨P3, al3, M3, env, _, rs3, q.1 rfl, fun d4 M4 v4 H4 P4 al4 e4 rs4 r4 hw4 => h' _ _ _ _ _ _ _ _ _ _ _ _ rs4 (r2.mono (e3.trans e4).pp (e3.trans e4).pre) r4 hw4 (L3.after e4)⟩
    | false => rw [if_neg Bool.false_ne_true]; exact L3.here rs3 (.bl false) (q.2 rfl)
  · exact q.elim
theorem d_chain {op op' : CmpOp} {r r' : R2} {o o' : WO2} (ho : OpR X (compareOp op) r) (h : OpD X.K B r o) (ho' : OpR X (compareOp op') r') (h' : OpD X.K B r' o') (ha : DE B X a wa) (hb : DE B X b wb) (hc : DE B X c wc) (hm : lastMarks [op, op'] [b, c] = false := by with_unfolding_all rfl) :
    DE B X (.Compare a [op, op'] [b, c] pos) (wChain o o' wa wb wc) := (pe_chain ho ho' ha hb hc hm).imp (chain_imp h h')
theorem d_chainT {op op' : CmpOp} {r r' : R2} {o o' : WO2} (ho : OpR X (compareOp op) r) (h : OpD X.K B r o) (ho' : OpR X (compareOp op') r') (h' : OpD X.K B r' o') (ha : DE B X a wa) (hb : DE B X b wb) (hc : DE B X c wc) (hm : lastMarks [op, op'] [b, c] = false := by with_unfolding_all rfl) :
    DT B X (.Compare a [op, op'] [b, c] pos) (wTest (wChain o o' wa wb wc)) := (pt_chain ho ho' ha hb hc hm).imp (test_imp (chain_imp h h'))

/-! ### arguments, displays -/
def wNil : WA := fun _ M R => R [] M
def wCons (w : WE) (r : WA) : WA := fun env M R => w env M fun d M1 => r env M1 fun ds M2 => R (d :: ds) M2
variable {was : WA}
theorem da_nil : DA B X [] wNil := by
  refine pa_nil.imp fun σ H Q => ?_
  rintro ⟨P, al, M, env, R, rs, hw, L⟩
  exact L _ _ _ _ _ _ Ext.refl rs .nil hw
theorem da_cons (ha : DE B X e we) (hr : DA B X es was) (hs : starEach (e :: es) X.env = (false, eval e X.env) :: starEach es X.env := by rfl) : DA B X (e :: es) (wCons we was) := by
  refine (pa_cons ha hr hs).imp fun σ H Q => ?_
  rintro ⟨P, al, M, env, R, rs, hw, L⟩
  exact ⟨P, al, M, env, _, rs, hw, fun d M1 v H1 P1 al1 e1 rs1 r1 hw1 => ⟨P1, al1, M1, env, _, rs1, hw1, fun ds M2 vs H2 P2 al2 e2 rs2 r2 q =>
    L _ _ _ _ _ _ (e1.trans e2) rs2 (.cons (r1.mono e2.pp e2.pre) r2) q⟩⟩
def wTup (w : WA) : WE := fun env M R => w env M fun ds M1 => Need (ds.length ≤ sizeLine) ∧ R (.tup ds) M1
def wLst (w : WA) : WE := fun env M R => w env M fun ds M1 => Need (ds.length ≤ sizeLine) ∧ R (.lst ds) M1
/-- a list that will be changed -/
def wLstM (w : WA) : WE := fun env M R => w env M fun ds M1 => Need (ds.length ≤ sizeLine) ∧ R (.cel M1.length) (M1 ++ [.lst ds])
theorem d_tup {k} (h : DA B X es was) : DE B X (.Tuple es k pos) (wTup was) := by
  refine (pe_tup h).imp fun σ H Q => ?_
  rintro ⟨P, al, M, env, R, rs, hw, L⟩
  refine ⟨P, al, M, env, _, rs, hw, fun ds M1 vs H1 P1 al1 e1 rs1 r1 q => ⟨by rw [← r1.length]; exact q.1.out, fun p hp => ?_⟩⟩
  exact (L.after e1).alloc rs1 hp (.tup (.inl (.inl upd_same)) (r1.mono (same_new rs1.toRS0 hp) (List.prefix_refl _))) q.2
theorem d_lst (h : DA B X es was) : DE B X (.List es pos) (wLst was) := by
  refine (pe_lst h).imp fun σ H Q => ?_
  rintro ⟨P, al, M, env, R, rs, hw, L⟩
  refine ⟨P, al, M, env, _, rs, hw, fun ds M1 vs H1 P1 al1 e1 rs1 r1 q => ⟨by rw [← r1.length]; exact q.1.out, fun p hp => ?_⟩⟩
  exact (L.after e1).alloc rs1 hp (.lst upd_same (r1.mono (same_new rs1.toRS0 hp) (List.prefix_refl _))) q.2
theorem Lift.allocM {K : PySem.W.Frag} {P : Hp} {al : List Addr} {M : Mt} {env : Ev} {σ : L2.St} {H : Hp} {p : Addr} {R : D → Mt → Prop} {Q : VK} (L : Lift K B P al env σ H R Q) (rs : RS K B P al M env σ H) (hp : H p = none) {ds : List D} {vs : List V} (r : Reps K P al ds vs)
    (q : R (.cel M.length) (M ++ [.lst ds])) : Q (.ref p) (upd H p (.lst vs)) := by
  obtain ⟨e, r0⟩ := rs.toRS0.allocM (m := .lst ds) (o := .lst vs) hp fun P' al' s h hn H' e => ⟨hn, vs, e, r.mono s h⟩
  refine L _ _ _ _ _ _ e (rs.step e r0) (.cel ?_) q
  rw [← rs.len, List.getElem?_append_right (Nat.le_refl _), Nat.sub_self]; rfl
theorem d_lstM (h : DA B X es was) : DE B X (.List es pos) (wLstM was) := by
  refine (pe_lst h).imp fun σ H Q => ?_
  rintro ⟨P, al, M, env, R, rs, hw, L⟩
  refine ⟨P, al, M, env, _, rs, hw, fun ds M1 vs H1 P1 al1 e1 rs1 r1 q => ⟨by rw [← r1.length]; exact q.1.out, fun p hp => ?_⟩⟩
  exact (L.after e1).allocM rs1 hp r1 q.2

/-! ### calls of builtins -/
abbrev WCl := List D → Mt → (D → Mt → Prop) → Prop
def wCB (c : WCl) (w : WA) : WE := fun env M R => w env M fun ds M1 => c ds M1 R
def CallD (K : PySem.W.Frag) (B : Bs) (r : List V → Hp → VK → Prop) (c : WCl) : Prop := ∀ P al M env σ H vs ds R Q, RS K B P al M env σ H → Reps K P al ds vs → c ds M R → Lift K B P al env σ H R Q → r vs H Q
theorem cb_imp {K : PySem.W.Frag} {r : List V → Hp → VK → Prop} {c : WCl} (h : CallD K B r c) (σ : L2.St) (H : Hp) (Q : VK) : tD K B (wCB c was) σ H Q → tCB r (tDA K B was) σ H Q := by
  rintro ⟨P, al, M, env, R, rs, hw, L⟩
  exact ⟨P, al, M, env, _, rs, hw, fun ds M1 vs H1 P1 al1 e1 rs1 r1 q => h _ _ _ _ _ _ _ _ _ _ rs1 r1 q (L.after e1)⟩
theorem d_callB {id : String} {x : Str} {p : Pos} {r : List V → Hp → VK → Prop} {c : WCl} (hc : CallR X (.builtin id) r) (h : CallD X.K B r c) (hg : Gl X x) (hm : X.mg x = none) (hv : bootBuiltins x = some (.builtin id)) (ha : DA B X (e :: es) was) (hn : x ≠ "__name__" := by decide) (hdb : (x == ("__debug__" : Str)) = false := by decide)
    (he : starEach (e :: es) X.env = (false, eval e X.env) :: starEach es X.env := by rfl) (hpl : (backTo pos (starEach es X.env)).any (·.1) = false := by rfl) : DE B X (.Call (.Name x p) (e :: es) [] pos) (wCB c was) :=
  (pe_callB hc hg hm hv ha hn hdb he hpl).imp (cb_imp h)
theorem d_callTy {T : String} {x : Str} {p : Pos} {r : List V → Hp → VK → Prop} {c : WCl} (hc : CallR X (.type T) r) (h : CallD X.K B r c) (hg : Gl X x) (hm : X.mg x = none) (hv : bootBuiltins x = some (.type T)) (ha : DA B X (e :: es) was) (hn : x ≠ "__name__" := by decide) (hdb : (x == ("__debug__" : Str)) = false := by decide)
    (he : starEach (e :: es) X.env = (false, eval e X.env) :: starEach es X.env := by rfl) (hpl : (backTo pos (starEach es X.env)).any (·.1) = false := by rfl) : DE B X (.Call (.Name x p) (e :: es) [] pos) (wCB c was) :=
  (pe_callTy hc hg hm hv ha hn hdb he hpl).imp (cb_imp h)
end
end L3

namespace L3
open PySem PySem.Spec PyProof.Rows L2
section
variable {X : Cx} {B : Bs} {K : PySem.W.Frag}
/-! ### arithmetic -/
def oAdd : WO2 := fun x y M R => match viewD M x, viewD M y with
  | .int i, .int j => R (.int (i + j)) M
  | .str s, .str t => Need (s.length + t.length ≤ sizeLine) ∧ R (.str (s ++ t)) M
  | .lst a, .lst b => Need (a.length + b.length ≤ sizeLine) ∧ R (.lst (a ++ b)) M
  | .tup a, .tup b => Need (a.length + b.length ≤ sizeLine) ∧ R (.tup (a ++ b)) M
  | _, _ => False
def rAddU (K : PySem.W.Frag) : R2 := fun x y H Q => (rI0 fun i j => .int (i + j)) x y H Q ∨ (fun x y H Q => ∃ i j, x = V.str i ∧ y = .str j ∧ i.length + j.length ≤ sizeLine ∧ Q (.str (i ++ j)) H) x y H Q ∨ rCat x y H Q ∨ rCatA K x y H Q
theorem opAdd : OpR X (binaryOp .Add) (rAddU X.K) := op_add.or (op_add_str.or (op_cat.or op_catA))
theorem oAdd_ok : OpD K B (rAddU K) oAdd := by
  intro P al M env σ H x y dx dy R Q rs r1 r2 h L
  unfold oAdd at h
  split at h
  · rename_i i j e1 e2
    cases view_int r1 e1; cases view_int r2 e2
    exact .inl ⟨i, j, rfl, rfl, L.here rs (.int _) h⟩
  · rename_i s t e1 e2
    cases view_str r1 e1; cases view_str r2 e2
    exact .inr (.inl ⟨s, t, rfl, rfl, h.1.out, L.here rs (.str _) h.2⟩)
  · rename_i s t e1 e2
    obtain ⟨a, xs, rfl, h1, q1⟩ := view_lst rs.toRS0 r1 e1
    obtain ⟨b, ys, rfl, h2, q2⟩ := view_lst rs.toRS0 r2 e2
    refine .inr (.inr (.inl ⟨a, b, xs, ys, rfl, rfl, h1, h2, by rw [← q1.length, ← q2.length]; exact h.1.out, fun p hp => ?_⟩))
    have sm := same_new rs.toRS0 hp (o := .lst (xs ++ ys))
    exact L.alloc rs hp (.lst upd_same ((q1.append q2).mono sm (List.prefix_refl _))) h.2
  · rename_i s t e1 e2
    obtain ⟨a, xs, rfl, h1, q1⟩ := view_tup rs.toRS0 r1 e1
    obtain ⟨b, ys, rfl, h2, q2⟩ := view_tup rs.toRS0 r2 e2
    have r1' := r1; have r2' := r2
    rw [view_same rfl e1] at r1'; rw [view_same rfl e2] at r2'
    refine .inr (.inr (.inr ⟨a, b, xs, ys, rfl, rfl, h1, h2, by rw [← q1.length, ← q2.length]; exact h.1.out, fun e => ?_, fun e1 e => ?_, fun e1 e2 p hp => ?_⟩))
    · subst e; cases q1; exact L.here rs r2' h.2
    · subst e; cases q2; refine L.here rs r1' ?_; have := h.2; rw [List.append_nil] at this; exact this
    · have sm := same_new rs.toRS0 hp (o := .tup (xs ++ ys))
      exact L.alloc rs hp (.tup (.inl (.inl upd_same)) ((q1.append q2).mono sm (List.prefix_refl _))) h.2
  · exact h.elim
/-- ints alone -/
def oI (C : Int → Int → Prop) (g : Int → Int → D) : WO2 := fun x y M R => match viewD M x, viewD M y with
  | .int i, .int j => Need (C i j) ∧ R (g i j) M
  | _, _ => False
def oI0 (g : Int → Int → D) : WO2 := fun x y M R => match viewD M x, viewD M y with
  | .int i, .int j => R (g i j) M
  | _, _ => False
theorem oI_ok {C : Int → Int → Prop} {g : Int → Int → D} {gV : Int → Int → V} (hg : ∀ P al i j, Rep K P al (g i j) (gV i j)) : OpD K B (rI C gV) (oI C g) := by
  intro P al M env σ H x y dx dy R Q rs r1 r2 h L
  unfold oI at h
  split at h
  · rename_i i j e1 e2
    cases view_int r1 e1; cases view_int r2 e2
    exact ⟨i, j, rfl, rfl, h.1.out, L.here rs (hg _ _ _ _) h.2⟩
  · exact h.elim
theorem oI0_ok {g : Int → Int → D} {gV : Int → Int → V} (hg : ∀ P al i j, Rep K P al (g i j) (gV i j)) : OpD K B (rI0 gV) (oI0 g) := by
  intro P al M env σ H x y dx dy R Q rs r1 r2 h L
  unfold oI0 at h
  split at h
  · rename_i i j e1 e2
    cases view_int r1 e1; cases view_int r2 e2
    exact ⟨i, j, rfl, rfl, L.here rs (hg _ _ _ _) h⟩
  · exact h.elim
abbrev oSub : WO2 := oI0 fun i j => .int (i - j)
theorem oSub_ok : OpD K B (rI0 fun i j => .int (i - j)) oSub := oI0_ok fun _ _ _ _ => .int _
abbrev oMod : WO2 := oI (fun _ j => 0 < j) fun i j => .int (i % j)
theorem oMod_ok : OpD K B (rI (fun _ j => 0 < j) fun i j => .int (i % j)) oMod := oI_ok fun _ _ _ _ => .int _
abbrev oFdiv : WO2 := oI CDivW fun i j => .int (i / j)
theorem oFdiv_ok : OpD K B (rI CDivW fun i j => .int (i / j)) oFdiv := oI_ok fun _ _ _ _ => .int _
abbrev oPow : WO2 := oI CPow fun i j => .int (i ^ j.toNat)
theorem oPow_ok : OpD K B (rI CPow fun i j => .int (i ^ j.toNat)) oPow := oI_ok fun _ _ _ _ => .int _
abbrev oShl : WO2 := oI CPow fun i j => .int (i * 2 ^ j.toNat)
theorem oShl_ok : OpD K B (rI CPow fun i j => .int (i * 2 ^ j.toNat)) oShl := oI_ok fun _ _ _ _ => .int _
abbrev oOr : WO2 := oI0 fun i j => .int (Builtin.bitOr i j)
theorem oOr_ok : OpD K B (rI0 fun i j => .int (Builtin.bitOr i j)) oOr := oI0_ok fun _ _ _ _ => .int _
/-- n times a text -/
def mulS (x : Str) (n : Int) : Str := Txt.mul x n
def rMulS : R2 := fun x y H Q => ∃ s n, x = .str s ∧ y = .int n ∧ MulOk s n ∧ Q (.str (mulS s n)) H
theorem op_mulS : OpR X (binaryOp .Mult) rMulS := by
  intro pins s σ H x y v u Q I rx ry h
  obtain ⟨z, n, rfl, rfl, ok, q⟩ := h
  obtain ⟨t, rfl⟩ := rx
  obtain ⟨t', rfl⟩ := ry
  exact SB.mul ok fun t2 k => ⟨.str _, H, I.tok k, ⟨_, rfl⟩, q⟩
def CMulU (i j : Int) : Prop := CMul i j ∨ CMulW i j
theorem op_mulU : OpR X (binaryOp .Mult) (rI CMulU fun i j => .int (i * j)) := by
  intro pins s σ H x y v u Q I rx ry h
  obtain ⟨i, j, e1, e2, c, q⟩ := h
  rcases c with c | c
  · exact op_mul pins s σ H x y v u Q I rx ry ⟨i, j, e1, e2, c, q⟩
  · exact op_mulW pins s σ H x y v u Q I rx ry ⟨i, j, e1, e2, c, q⟩
def rMulU : R2 := fun x y H Q => rI CMulU (fun i j => .int (i * j)) x y H Q ∨ rMulS x y H Q ∨ rRep x y H Q
theorem opMul : OpR X (binaryOp .Mult) rMulU := op_mulU.or (op_mulS.or op_rep)
def oMul : WO2 := fun x y M R => match viewD M x, viewD M y with
  | .int i, .int j => Need (CMulU i j) ∧ R (.int (i * j)) M
  | .str s, .int n => Need (MulOk s n) ∧ R (.str (mulS s n)) M
  | _, _ => False
theorem oMul_ok : OpD K B rMulU oMul := by
  intro P al M env σ H x y dx dy R Q rs r1 r2 h L
  unfold oMul at h
  split at h
  · rename_i i j e1 e2
    cases view_int r1 e1; cases view_int r2 e2
    exact .inl ⟨i, j, rfl, rfl, h.1.out, L.here rs (.int _) h.2⟩
  · rename_i s n e1 e2
    cases view_str r1 e1; cases view_int r2 e2
    exact .inr (.inl ⟨s, n, rfl, rfl, h.1.out, L.here rs (.str _) h.2⟩)
  · exact h.elim

/-! ### comparisons -/
abbrev oLt : WO2 := oI0 fun i j => .bl (decide (i < j))
theorem oLt_ok : OpD K B (rI0 fun i j => .bl (decide (i < j))) oLt := oI0_ok fun _ _ _ _ => .bl _
abbrev oLe : WO2 := oI0 fun i j => .bl (decide (i ≤ j))
theorem oLe_ok : OpD K B (rI0 fun i j => .bl (decide (i ≤ j))) oLe := oI0_ok fun _ _ _ _ => .bl _
abbrev oGt : WO2 := oI0 fun i j => .bl (decide (j < i))
theorem oGt_ok : OpD K B (rI0 fun i j => .bl (decide (j < i))) oGt := oI0_ok fun _ _ _ _ => .bl _
abbrev oGe : WO2 := oI0 fun i j => .bl (decide (j ≤ i))
theorem oGe_ok : OpD K B (rI0 fun i j => .bl (decide (j ≤ i))) oGe := oI0_ok fun _ _ _ _ => .bl _
mutual
/-- plain data of a datum -/
def toP : D → Option PyData
  | .non => some .none
  | .bl b => some (.bool b)
  | .int i => some (.int i)
  | .str s => some (.str s)
  | .tup l => (toPs l).map .tuple
  | .lst l => (toPs l).map .list
  | .rol l => (toPs l).map .list
  | _ => none
def toPs : List D → Option (List PyData)
  | [] => some []
  | d :: r => match toP d, toPs r with
    | some p, some ps => some (p :: ps)
    | _, _ => none
end
section
variable {P : Hp} {al : List Addr} {H : Hp}
mutual
theorem Rep.toDp (s : Same P H) : ∀ {d : D} {v : V} {p : PyData}, Rep K P al d v → toP d = some p → Dp K H v p
  | _, _, _, .non, e => by cases e; exact .non
  | _, _, _, .bl b, e => by cases e; exact .bl b
  | _, _, _, .int i, e => by cases e; exact .int i
  | _, _, _, .str x, e => by cases e; exact .str x
  | _, _, _, .ty n, e => by cases e
  | _, _, _, .adr a, e => by cases e
  | _, _, _, .tup (ds := ds) q r, e => by
    unfold toP at e
    cases h : toPs ds with
    | none => rw [h] at e; cases e
    | some ps => rw [h] at e; cases e; exact .tup (same_seqT s q) (Reps.toDp s r h)
  | _, _, _, .lst (ds := ds) q r, e => by
    unfold toP at e
    cases h : toPs ds with
    | none => rw [h] at e; cases e
    | some ps => rw [h] at e; cases e; exact .lst (.inl (.inl (s _ _ q))) (Reps.toDp s r h)
  | _, _, _, .rol (ds := ds) q r, e => by
    unfold toP at e
    cases h : toPs ds with
    | none => rw [h] at e; cases e
    | some ps => rw [h] at e; cases e; exact .lst (s.seq q) (Reps.toDp s r h)
  | _, _, _, .ptp q r, e => by cases e
  | _, _, _, .dct q r, e => by cases e
  | _, _, _, .fdc q r, e => by cases e
  | _, _, _, .obj q c r, e => by cases e
  | _, _, _, .cls c, e => by cases e
  | _, _, _, .cel h, e => by cases e
theorem Reps.toDp (s : Same P H) : ∀ {ds : List D} {vs : List V} {ps : List PyData}, Reps K P al ds vs → toPs ds = some ps → DpAll K H vs ps
  | _, _, _, .nil, e => by cases e; exact .nil
  | _, _, _, .cons (d := d) (ds := ds) r t, e => by
    unfold toPs at e
    split at e
    · rename_i p ps h1 h2
      cases e
      exact .cons (Rep.toDp s r h1) (Reps.toDp s t h2)
    · cases e
end
end
/-- what an object in the table is as plain data -/
theorem view_dp {P : Hp} {al : List Addr} {M : Mt} {H : Hp} {d : D} {v : V} {p : PyData} (rs : RS0 K B P al M H) (r : Rep K P al d v) (e : toP (viewD M d) = some p) : Dp K H v p := by
  rcases view_cases M d with h | ⟨i, m, rfl, hm, l, h⟩
  · rw [h] at e; exact r.toDp rs.same e
  · rw [h] at e
    obtain ⟨a, rfl, _, c⟩ := cell_at rs hm r
    cases m with
    | lst ds =>
      obtain ⟨_, xs, h1, h2⟩ := c
      unfold toP at e
      cases h : toPs ds with
      | none => rw [h] at e; cases e
      | some ps => rw [h] at e; cases e; exact .lst (.inl (.inl h1)) (h2.toDp rs.same h)
    | dct ks => cases e
    | obj C fs => cases e
    | _ => simp [live] at l
/-- plain data, that == can ask -/
def plainOk (l : List D) : Prop := ∃ ps, toPs l = some ps ∧ SeqAt.shaped (.list ps) = true
theorem toPs_len : ∀ {l : List D} {ps : List PyData}, toPs l = some ps → l.isEmpty = ps.isEmpty
  | [], _, e => by cases e; rfl
  | d :: r, _, e => by
    unfold toPs at e
    split at e
    · cases e; rfl
    · cases e
theorem eqvAll_nil (ps : List PyData) : PyData.eqvAll ps [] = ps.isEmpty := by cases ps <;> simp [PyData.eqvAll]
theorem shaped_tup {ps : List PyData} (h : SeqAt.shaped (.list ps) = true) : SeqAt.shaped (.tuple ps) = true := by
  simpa [SeqAt.shaped, PyData.canLay0, PyData.depth] using h
/-- == of a scalar and a scalar; of data of any depth -/
def oEqB (f : Bool → Bool) : WO2 := fun x y M R => match viewD M x, viewD M y with
  | .int i, .int j => R (.bl (f (decide (i = j)))) M
  | .bl i, .bl j => R (.bl (f (decide (i = j)))) M
  | .str i, .str j => R (.bl (f (decide (i = j)))) M
  | .non, .non => R (.bl (f true)) M
  | .non, .int _ => R (.bl (f false)) M
  | .int _, .non => R (.bl (f false)) M
  | .non, .bl _ => R (.bl (f false)) M
  | .bl _, .non => R (.bl (f false)) M
  | .non, .str _ => R (.bl (f false)) M
  | .str _, .non => R (.bl (f false)) M
  | .int _, .str _ => R (.bl (f false)) M
  | .str _, .int _ => R (.bl (f false)) M
  | .bl _, .str _ => R (.bl (f false)) M
  | .str _, .bl _ => R (.bl (f false)) M
  | .lst l, .lst [] => Need (plainOk l) ∧ R (.bl (f l.isEmpty)) M
  | .tup l, .tup [] => Need (plainOk l) ∧ R (.bl (f l.isEmpty)) M
  | x', y' => match toP x', toP y' with
    | some p, some q => Need (SeqAt.shaped p = true) ∧ Need (SeqAt.shaped q = true) ∧ R (.bl (f (PyData.eqv p q))) M
    | _, _ => False
abbrev oEq : WO2 := oEqB fun b => b
abbrev oNe : WO2 := oEqB fun b => !b
def rEqU (K : PySem.W.Frag) : R2 := fun x y H Q => L2.rEq x y H Q ∨ rEqD K x y H Q
def rNeU (K : PySem.W.Frag) : R2 := fun x y H Q => L2.rNe x y H Q ∨ rNeD K x y H Q
theorem opEq (hu : X.A.units + 64 < cLine) : OpR X (compareOp .Eq) (rEqU X.K) := op_eq.or (op_eqD hu)
theorem opNe (hu : X.A.units + 64 < cLine) : OpR X (compareOp .NotEq) (rNeU X.K) := op_ne.or (op_neD hu)
theorem eqB_core {f : Bool → Bool} {P : Hp} {al : List Addr} {M : Mt} {env : Ev} {σ : L2.St} {H : Hp} {x y : V} {dx dy : D} {R : D → Mt → Prop} {Q : VK} (rs : RS K B P al M env σ H) (r1 : Rep K P al dx x) (r2 : Rep K P al dy y) (h : oEqB f dx dy M R) (L : Lift K B P al env σ H R Q) :
    (scal x y = true ∧ Q (.bl (f (decide (x = y)))) H) ∨ (∃ d e, Dp K H x d ∧ Dp K H y e ∧ SeqAt.shaped d = true ∧ SeqAt.shaped e = true ∧ Q (.bl (f (PyData.eqv d e))) H) := by
  have fin : ∀ b c, R (.bl (f b)) M → b = c → Q (.bl (f c)) H := fun b c q e => by subst e; exact L.here rs (.bl _) q
  unfold oEqB at h
  split at h
  · rename_i i j e1 e2; cases view_int r1 e1; cases view_int r2 e2; exact .inl ⟨rfl, fin _ _ h (by simp)⟩
  · rename_i i j e1 e2; cases view_bl r1 e1; cases view_bl r2 e2; exact .inl ⟨rfl, fin _ _ h (by simp)⟩
  · rename_i i j e1 e2; cases view_str r1 e1; cases view_str r2 e2; exact .inl ⟨rfl, fin _ _ h (by simp)⟩
  · rename_i e1 e2; cases view_non r1 e1; cases view_non r2 e2; exact .inl ⟨rfl, fin _ _ h (by simp)⟩
  · rename_i e1 e2; cases view_non r1 e1; cases view_int r2 e2; exact .inl ⟨rfl, fin _ _ h (by simp)⟩
  · rename_i e1 e2; cases view_int r1 e1; cases view_non r2 e2; exact .inl ⟨rfl, fin _ _ h (by simp)⟩
  · rename_i e1 e2; cases view_non r1 e1; cases view_bl r2 e2; exact .inl ⟨rfl, fin _ _ h (by simp)⟩
  · rename_i e1 e2; cases view_bl r1 e1; cases view_non r2 e2; exact .inl ⟨rfl, fin _ _ h (by simp)⟩
  · rename_i e1 e2; cases view_non r1 e1; cases view_str r2 e2; exact .inl ⟨rfl, fin _ _ h (by simp)⟩
  · rename_i e1 e2; cases view_str r1 e1; cases view_non r2 e2; exact .inl ⟨rfl, fin _ _ h (by simp)⟩
  · rename_i e1 e2; cases view_int r1 e1; cases view_str r2 e2; exact .inl ⟨rfl, fin _ _ h (by simp)⟩
  · rename_i e1 e2; cases view_str r1 e1; cases view_int r2 e2; exact .inl ⟨rfl, fin _ _ h (by simp)⟩
  · rename_i e1 e2; cases view_bl r1 e1; cases view_str r2 e2; exact .inl ⟨rfl, fin _ _ h (by simp)⟩
  · rename_i e1 e2; cases view_str r1 e1; cases view_bl r2 e2; exact .inl ⟨rfl, fin _ _ h (by simp)⟩
  · rename_i l e1 e2
    obtain ⟨⟨ps, h1, h2⟩, h3⟩ := h
    refine .inr ⟨.list ps, .list [], view_dp rs.toRS0 r1 (by rw [e1]; simp [toP, h1]), view_dp rs.toRS0 r2 (by rw [e2]; rfl), h2, rfl, ?_⟩
    exact fin _ _ h3 (by rw [toPs_len h1, ← eqvAll_nil]; simp [PyData.eqv])
  · rename_i l e1 e2
    obtain ⟨⟨ps, h1, h2⟩, h3⟩ := h
    refine .inr ⟨.tuple ps, .tuple [], view_dp rs.toRS0 r1 (by rw [e1]; simp [toP, h1]), view_dp rs.toRS0 r2 (by rw [e2]; rfl), shaped_tup h2, rfl, ?_⟩
    exact fin _ _ h3 (by rw [toPs_len h1, ← eqvAll_nil]; simp [PyData.eqv])
  · split at h
    · rename_i p q e1 e2
      exact .inr ⟨p, q, view_dp rs.toRS0 r1 e1, view_dp rs.toRS0 r2 e2, h.1.out, h.2.1.out, fin _ _ h.2.2 rfl⟩
    · exact h.elim
theorem oEq_ok : OpD K B (rEqU K) oEq := fun P al M env σ H x y dx dy R Q rs r1 r2 h L => eqB_core rs r1 r2 h L
theorem oNe_ok : OpD K B (rNeU K) oNe := fun P al M env σ H x y dx dy R Q rs r1 r2 h L => eqB_core rs r1 r2 h L
/-- a text in a text; a flat thing in a list or tuple of flat things -/
def strIn (x z : Str) : Bool := !(Builtin.Str.occurrences z x 0 z.length 1).isEmpty
theorem strIn_one (c : Nat) (z : Str) : strIn ⟨#[c]⟩ z = decide (c ∈ z.cps.toList) := PySem.StrLaws.found_one z c
mutual
def flatD : D → Option V
  | .non => some .non
  | .bl b => some (.bl b)
  | .int i => some (.int i)
  | .str s => some (.str s)
  | _ => none
end
def flatDs : List D → Option (List V)
  | [] => some []
  | d :: r => match flatD d, flatDs r with
    | some v, some vs => some (v :: vs)
    | _, _ => none
theorem flat_rep {P : Hp} {al : List Addr} {d : D} {v x : V} (r : Rep K P al d v) (e : flatD d = some x) : v = x ∧ flatV x = true := by
  cases r <;> simp [flatD] at e <;> subst e <;> exact ⟨rfl, rfl⟩
theorem flat_reps {P : Hp} {al : List Addr} : ∀ {ds : List D} {vs xs : List V}, Reps K P al ds vs → flatDs ds = some xs → vs = xs ∧ xs.all flatV = true
  | _, _, _, .nil, e => by cases e; exact ⟨rfl, rfl⟩
  | _, _, _, .cons r t, e => by
    unfold flatDs at e
    split at e
    · rename_i v vs h1 h2
      cases e
      obtain ⟨rfl, f1⟩ := flat_rep r h1
      obtain ⟨rfl, f2⟩ := flat_reps t h2
      exact ⟨rfl, by simp [f1, f2]⟩
    · cases e
def rInU (K : PySem.W.Frag) (neg : Bool) : R2 := fun x y H Q => (∃ i j, x = V.str i ∧ y = V.str j ∧ Q (.bl (if neg then !strIn i j else strIn i j)) H) ∨ rIn K neg x y H Q
theorem opIn : OpR X (compareOp .In) (rInU X.K false) := op_in_str.or op_in_seq
@[irreducible] def oIn (neg : Bool) : WO2 := fun x y M R => match viewD M y with
  | .str z => match viewD M x with
    | .str s => R (.bl (if neg then !strIn s z else strIn s z)) M
    | _ => False
  | y' => match seqD y' with
    | some l => match flatD x, flatDs l with
      | some v, some vs => R (.bl (if neg then !inV v vs else inV v vs)) M
      | _, _ => False
    | none => False
theorem oIn_ok {neg : Bool} : OpD K B (rInU K neg) (oIn neg) := by
  intro P al M env σ H x y dx dy R Q rs r1 r2 h L
  unfold oIn at h
  split at h
  · rename_i z e2
    split at h
    · rename_i s e1
      cases view_str r1 e1; cases view_str r2 e2
      exact .inl ⟨_, _, rfl, rfl, L.here rs (.bl _) h⟩
    · exact h.elim
  · split at h
    · rename_i l e2
      obtain ⟨a, xs, rfl, h1, q1⟩ := view_seq rs.toRS0 r2 e2
      split at h
      · rename_i v vs e3 e4
        obtain ⟨rfl, f1⟩ := flat_rep r1 e3
        obtain ⟨rfl, f2⟩ := flat_reps q1 e4
        exact .inr ⟨a, _, rfl, h1, f1, f2, L.here rs (.bl _) h⟩
      · exact h.elim
    · exact h.elim
end

/-! ### subscripts, slices -/
section
variable {X : Cx} {B : Bs} {K : PySem.W.Frag} {a b e : Expr} {wa wb we : WE} {pos : Pos}
theorem Reps.atI {P : Hp} {al : List Addr} {ds : List D} {vs : List V} (r : Reps K P al ds vs) {i : Int} {d : D} (e : L2.atI ds i = some d) : ∃ v, L2.atI vs i = some v ∧ Rep K P al d v := by
  unfold L2.atI at e ⊢
  rw [← r.length]
  cases h : ixN ds.length i with
  | none => rw [h] at e; cases e
  | some j => rw [h] at e; exact r.get e
def oIx : WO2 := fun x y M R => match y with
  | .int i => match viewD M x with
    | .str s => Need (s.length ≤ sizeLine) ∧ (match L2.atI s.cps.toList i with
      | some c => R (.str ⟨#[c]⟩) M
      | none => False)
    | x' => match seqD x' with
      | some l => match L2.atI l i with
        | some d => R d M
        | none => False
      | none => False
  | _ => False
theorem oIx_ok : OpD K B (rIx K) oIx := by
  intro P al M env σ H x y dx dy R Q rs r1 r2 h L
  unfold oIx at h
  split at h
  · rename_i i
    cases r2
    split at h
    · rename_i s e1
      cases view_str r1 e1
      obtain ⟨h1, h2⟩ := h
      split at h2
      · rename_i c e; exact .inr (.inr ⟨s, i, c, rfl, rfl, h1.out, e, L.here rs (.str _) h2⟩)
      · exact h2.elim
    · split at h
      · rename_i l e1
        obtain ⟨a, xs, rfl, h1, q1⟩ := view_seq rs.toRS0 r1 e1
        split at h
        · rename_i d e
          obtain ⟨v, e2, q2⟩ := q1.atI e
          rcases h1 with h1 | h1
          · exact .inl ⟨a, xs, i, v, rfl, rfl, h1, e2, L.here rs q2 h⟩
          · exact .inr (.inl ⟨a, xs, i, v, rfl, rfl, h1, e2, L.here rs q2 h⟩)
        · exact h.elim
      · exact h.elim
  · exact h.elim
theorem d_ix (ha : DE B X a wa) (hb : DE B X b wb) (hs : PlainIx b := by intro _ _; rfl) : DE B X (.Subscript a b pos) (wOp oIx wa wb) := (pe_ix ix_seq ha hb hs).imp (op_imp oIx_ok)
abbrev WO := Ev → Mt → (Option Int → Mt → Prop) → Prop
def tDO (K : PySem.W.Frag) (B : Bs) (w : WO) : TO := fun σ H Q => ∃ P al M env R, RS K B P al M env σ H ∧ w env M R ∧ ∀ o M' H' P' al', Ext P al H P' al' H' → RS K B P' al' M' env σ H' → R o M' → Q o H'
theorem _root_.L2.PO.imp {X : Cx} {e : Option Expr} {t u : TO} (h : PO X e t) (i : ∀ σ H Q, u σ H Q → t σ H Q) : PO X e u := ⟨fun pins s σ H Q I q => h.run pins s σ H Q I (i σ H Q q)⟩
abbrev DO (B : Bs) (X : Cx) (e : Option Expr) (w : WO) : Prop := PO X e (tDO X.K B w)
def wNoP : WO := fun _ M R => R none M
def wP (w : WE) : WO := fun env M R => w env M fun d M1 => match d with
  | .int i => R (some i) M1
  | _ => False
theorem do_none : DO B X none wNoP := by
  refine po_none.imp fun σ H Q => ?_
  rintro ⟨P, al, M, env, R, rs, hw, L⟩
  exact L _ _ _ _ _ Ext.refl rs hw
theorem do_some (h : DE B X e we) : DO B X (some e) (wP we) := by
  refine (po_some h).imp fun σ H Q => ?_
  rintro ⟨P, al, M, env, R, rs, hw, L⟩
  refine ⟨P, al, M, env, _, rs, hw, fun d M1 v H1 P1 al1 e1 rs1 r1 q => ?_⟩
  split at q
  · cases r1; exact ⟨_, rfl, L _ _ _ _ _ e1 rs1 q⟩
  · exact q.elim
def cutD (xs : List D) (lo hi : Option Int) : List D := (xs.drop (HT.sIx xs.length 0 lo)).take (HT.sIx xs.length xs.length hi - HT.sIx xs.length 0 lo)
theorem Reps.cut {P : Hp} {al : List Addr} {ds : List D} {vs : List V} (r : Reps K P al ds vs) (lo hi : Option Int) : Reps K P al (cutD ds lo hi) (cutV vs lo hi) := by
  unfold cutD cutV
  rw [r.length]
  exact (r.drop _).take _
def wSl (we : WE) (wl wh : WO) : WE := fun env M R => we env M fun x M1 => wl env M1 fun lo M2 => wh env M2 fun hi M3 => match viewD M3 x with
  | .str s => Need (s.length ≤ sizeLine) ∧ R (.str (cutS s lo hi)) M3
  | .lst l => R (.lst (cutD l lo hi)) M3
  | .rol l => R (.lst (cutD l lo hi)) M3
  | .tup l => R (.tup (cutD l lo hi)) M3
  | _ => False
theorem cut_all {xs : List D} {lo hi : Option Int} (h : HT.sIx xs.length 0 lo = 0 ∧ HT.sIx xs.length xs.length hi = xs.length) : cutD xs lo hi = xs := by
  unfold cutD; rw [h.1, h.2]; simp
theorem d_sl {lo hi : Option Expr} {wl wh : WO} {p2 : Pos} (he : DE B X e we) (hl : DO B X lo wl) (hh : DO B X hi wh) : DE B X (.Subscript e (.Slice lo hi none p2) pos) (wSl we wl wh) := by
  refine (pe_slice (sl_str.or (sl_list.or sl_tupA)) he hl hh).imp fun σ H Q => ?_
  rintro ⟨P, al, M, env, R, rs, hw, L⟩
  refine ⟨P, al, M, env, _, rs, hw, fun d M1 v H1 P1 al1 e1 rs1 r1 hw1 => ⟨P1, al1, M1, env, _, rs1, hw1, fun lo M2 H2 P2 al2 e2 rs2 hw2 => ⟨P2, al2, M2, env, _, rs2, hw2, fun hi M3 H3 P3 al3 e3 rs3 q => ?_⟩⟩⟩
  have r3 := r1.mono (e2.trans e3).pp (e2.trans e3).pre
  have L3 := L.after (e1.trans (e2.trans e3))
  split at q
  · rename_i s e; cases view_str r3 e; exact .inl ⟨s, rfl, q.1.out, L3.here rs3 (.str _) q.2⟩
  · rename_i l e
    obtain ⟨a, xs, rfl, h1, q1⟩ := view_lst rs3.toRS0 r3 e
    refine .inr (.inl ⟨a, xs, rfl, .inl (.inl h1), fun p hp => ?_⟩)
    exact L3.alloc rs3 hp (.lst upd_same ((q1.cut lo hi).mono (same_new rs3.toRS0 hp) (List.prefix_refl _))) q
  · rename_i l e
    obtain ⟨a, xs, rfl, h1, q1⟩ := view_rol rs3.toRS0 r3 e
    refine .inr (.inl ⟨a, xs, rfl, h1, fun p hp => ?_⟩)
    exact L3.alloc rs3 hp (.lst upd_same ((q1.cut lo hi).mono (same_new rs3.toRS0 hp) (List.prefix_refl _))) q
  · rename_i l e
    obtain ⟨a, xs, rfl, h1, q1⟩ := view_tup rs3.toRS0 r3 e
    refine .inr (.inr ⟨a, xs, rfl, h1, fun hz => ?_, fun hz p hp => ?_⟩)
    · rw [← q1.length] at hz
      rw [cut_all hz] at q
      rw [view_same rfl e] at r3
      exact L3.here rs3 r3 q
    · exact L3.alloc rs3 hp (.tup (.inl (.inl upd_same)) ((q1.cut lo hi).mono (same_new rs3.toRS0 hp) (List.prefix_refl _))) q
  · exact q.elim
end
end L3

namespace L3
open PySem PySem.Spec PyProof.Rows L2
section
variable {X : Cx} {B : Bs} {K : PySem.W.Frag} {a b e : Expr} {es : List Expr} {wa wb we : WE} {was : WA} {pos : Pos} {st : Stmt} {rest : List Stmt} {w u : WS}
/-! ### statements -/
theorem RS.put {P : Hp} {al : List Addr} {M : Mt} {env : Ev} {σ : L2.St} {H : Hp} {d : D} {v : V} (rs : RS K B P al M env σ H) (i : Nat) (r : Rep K P al d v) : RS K B P al M (env.set i (some d)) (σ.set i (some v)) H := by
  refine ⟨rs.toRS0, by simp [rs.slen], fun j x h => ?_⟩
  by_cases hj : j = i
  · subst hj
    have hi : j < env.length := by
      have := (List.getElem?_eq_some_iff.mp h).1
      simpa using this
    rw [List.getElem?_set_self hi] at h
    cases h
    exact ⟨v, List.getElem?_set_self (by rw [← rs.slen]; exact hi), r⟩
  · rw [List.getElem?_set_ne (Ne.symm hj)] at h ⊢
    exact rs.slot j x h
def wSeq (w u : WS) : WS := fun k env M => w { k with nx := u k } env M
def wSkip : WS := fun k env M => k.nx env M
theorem ds_nil : DSs B X [] wSkip := by
  refine pss_nil.imp fun D σ H => ?_
  rintro ⟨P, al, M, env, k, rs, hw, L⟩
  exact L.nx _ _ _ _ _ _ Ext.refl rs hw
theorem ds_cons (h1 : DS B X st w) (h2 : DSs B X rest u) : DSs B X (st :: rest) (wSeq w u) := by
  refine (pss_cons h1 h2).imp fun D σ H => ?_
  rintro ⟨P, al, M, env, k, rs, hw, L⟩
  exact ⟨P, al, M, env, _, rs, hw, ⟨fun env' M' σ' H' P' al' e rs' q => ⟨P', al', M', env', k, rs', q, L.after e⟩, L.rt, L.bk, L.ct⟩⟩
theorem ds_one (h1 : DS B X st w) : DSs B X [st] w := pss_one h1
def wExp (we : WE) : WS := fun k env M => we env M fun _ M1 => k.nx env M1
theorem d_exp (he : DE B X e we) (hs : swapsWith e none pos.line X.env = pure false := by rfl) : DS B X (.Expr e pos) (wExp we) := by
  refine (ps_expr he hs).imp fun D σ H => ?_
  rintro ⟨P, al, M, env, k, rs, hw, L⟩
  exact ⟨P, al, M, env, _, rs, hw, fun d M1 v H1 P1 al1 e1 rs1 r1 q => L.nx _ _ _ _ _ _ e1 rs1 q⟩
def wRet (we : WE) : WS := fun k env M => we env M k.rt
theorem d_ret (he : DE B X e we) : DS B X (.Return (some e) pos) (wRet we) := by
  refine (ps_ret he).imp fun D σ H => ?_
  rintro ⟨P, al, M, env, k, rs, hw, L⟩
  exact ⟨P, al, M, env, _, rs, hw, fun d M1 v H1 P1 al1 e1 rs1 r1 q => L.rt _ _ _ _ _ _ e1 rs1.toRS0 r1 q⟩
/-- what is returned is published: an object that was made and filled here -/
@[irreducible] def frz (d : D) (M : Mt) (R : D → Mt → Prop) : Prop := match d with
  | .cel i => match M[i]? with
    | some (.lst l) => R (.lst l) (M.set i .non)
    | some (.dct l) => R (.dct l) (M.set i .non)
    | some (.obj C fs) => R (.obj C fs) (M.set i .non)
    | _ => False
  | _ => R d M
theorem RS0.freeze {P : Hp} {al : List Addr} {M : Mt} {H : Hp} {i : Nat} {m : D} {v : V} (rs : RS0 K B P al M H) (hm : M[i]? = some m) (hl : live m = true) (q : Rep K P al (.cel i) v) :
    ∃ P', Ext P al H P' al H ∧ RS0 K B P' al (M.set i .non) H ∧ Rep K P' al m v := by
  obtain ⟨a, rfl, ha, c⟩ := cell_at rs hm q
  obtain ⟨hp, o, ho⟩ := live_cell hl c
  have ia : a ∈ al := List.mem_of_getElem? ha
  have sm : Same P (upd P a o) := fun b x h => by rw [upd_ne (ne_of_none h hp)]; exact h
  have e : Ext P al H (upd P a o) al H := ⟨sm, List.prefix_refl _, fun _ _ h _ => h, fun b m n => absurd m n, fun b x h _ hb n => by
    rw [upd_ne (fun z => n (by rw [z]; exact ia))]; exact hb⟩
  have im : i < M.length := (List.getElem?_eq_some_iff.mp hm).1
  have gm : ∀ (j : Nat) (n : D), (M.set i .non)[j]? = some n → live n = true → j ≠ i ∧ M[j]? = some n := fun j n h ln => by
    by_cases hj : j = i
    · subst hj; rw [List.getElem?_set_self im] at h; cases h; cases ln
    · rw [List.getElem?_set_ne (Ne.symm hj)] at h; exact ⟨hj, h⟩
  refine ⟨upd P a o, e, ⟨rs.base.trans e, fun b x h => ?_, by simp [rs.len], fun j b n h1 h2 => ?_, fun j k b n n' h1 h2 h3 h4 l1 l2 => ?_, rs.trk⟩, ?_⟩
  · by_cases hb : b = a
    · subst hb; rw [upd_same] at h; cases h; exact ho
    · rw [upd_ne hb] at h; exact rs.same _ _ h
  · by_cases ln : live n = true
    · obtain ⟨hj, g⟩ := gm j n h2 ln
      have c' := rs.cell j b n h1 g
      have hne : b ≠ a := fun z => hj (rs.inj j i a n m (z ▸ h1) ha g hm ln hl)
      exact c'.mono sm (List.prefix_refl _) (fun _ => by rw [upd_ne hne]; exact (live_cell ln c').1) fun _ _ h => h
    · cases n <;> first | trivial | exact absurd rfl ln | skip
      have hj : j ≠ i := fun z => by subst z; rw [List.getElem?_set_self im] at h2; cases h2
      rw [List.getElem?_set_ne (Ne.symm hj)] at h2
      exact ExCell.mono (rs.cell j b _ h1 h2) sm (List.prefix_refl _)
  · obtain ⟨_, g3⟩ := gm j n h3 l1
    obtain ⟨_, g4⟩ := gm k n' h4 l2
    exact rs.inj j k b n n' h1 h2 g3 g4 l1 l2
  · cases m with
    | lst ds => obtain ⟨_, xs, h1, h2⟩ := c; rw [ho] at h1; cases h1; exact .lst upd_same (h2.mono sm (List.prefix_refl _))
    | dct ds => obtain ⟨_, xs, h1, h2⟩ := c; rw [ho] at h1; cases h1; exact .dct upd_same (h2.mono sm (List.prefix_refl _))
    | obj C ds => obtain ⟨_, _, dx, xs, h1, hc, h2⟩ := c; rw [ho] at h1; cases h1; exact .obj upd_same hc (h2.mono sm (List.prefix_refl _))
    | _ => simp [live] at hl
theorem frz_ok {P : Hp} {al : List Addr} {M : Mt} {H : Hp} {d : D} {v : V} {R : D → Mt → Prop} (rs : RS0 K B P al M H) (r : Rep K P al d v) (q : frz d M R) : ∃ d' M' P', Ext P al H P' al H ∧ RS0 K B P' al M' H ∧ Rep K P' al d' v ∧ R d' M' := by
  unfold frz at q
  split at q
  · split at q
    · rename_i hm; obtain ⟨P', e, r0, r1⟩ := rs.freeze hm rfl r; exact ⟨_, _, P', e, r0, r1, q⟩
    · rename_i hm; obtain ⟨P', e, r0, r1⟩ := rs.freeze hm rfl r; exact ⟨_, _, P', e, r0, r1, q⟩
    · rename_i hm; obtain ⟨P', e, r0, r1⟩ := rs.freeze hm rfl r; exact ⟨_, _, P', e, r0, r1, q⟩
    · exact q.elim
  · exact ⟨d, M, P, Ext.refl, rs, r, q⟩
def wRetF (we : WE) : WS := fun k env M => we env M fun d M1 => frz d M1 k.rt
theorem d_retF (he : DE B X e we) : DS B X (.Return (some e) pos) (wRetF we) := by
  refine (ps_ret he).imp fun D σ H => ?_
  rintro ⟨P, al, M, env, k, rs, hw, L⟩
  refine ⟨P, al, M, env, _, rs, hw, fun d M1 v H1 P1 al1 e1 rs1 r1 q => ?_⟩
  obtain ⟨d', M', P', e2, r0, r2, q2⟩ := frz_ok rs1.toRS0 r1 q
  exact L.rt _ _ _ _ _ _ (e1.trans e2) r0 r2 q2
/-- a name's object is published ahead of a statement -/
def wFrz (i : Nat) (w : WS) : WS := fun k env M => match env[i]? with
  | some (some d) => frz d M fun d' M' => w k (env.map fun x => match x with
    | some y => match y, d with
      | .cel m, .cel n => if m = n then some d' else some y
      | _, _ => some y
    | none => none) M'
  | _ => False
def wIfS (t : WT) (w u : WS) : WS := fun k env M => t env M fun b M1 => ifB b (w k env M1) (u k env M1)
theorem d_if {c : Expr} {x y : List Stmt} {t : WT} (hc : DT B X c t) (ha : DSs B X x w) (hb : DSs B X y u) : DS B X (.If c x y pos) (wIfS t w u) := by
  refine (ps_if hc ha hb).imp fun D σ H => ?_
  rintro ⟨P, al, M, env, k, rs, hw, L⟩
  refine ⟨P, al, M, env, _, rs, hw, fun b' M1 H1 P1 al1 e1 rs1 q => ?_⟩
  cases b' with
  | true => rw [if_pos rfl]; exact ⟨P1, al1, M1, env, k, rs1, q.1 rfl, L.after e1⟩
  | false => rw [if_neg Bool.false_ne_true]; exact ⟨P1, al1, M1, env, k, rs1, q.2 rfl, L.after e1⟩
/-! ### targets -/
def gN (i : Nat) : WG := fun d env M R => R (env.set i (some d)) M
theorem dg_name {i : Nat} {x : Str} (hN : X.N.Nodup) (hi : X.N[i]? = some x := by rfl) (hx : Loc X.env.scope x := by first | exact .inl rfl | exact .inr rfl) (hf : X.fn x = true ∨ X.env.scope.names.lookup x = some .local := by first | exact .inl rfl | exact .inr rfl | assumption) : DG B X (.Name x pos) (gN i) := by
  refine (pg_name hN hi hx hf).imp fun v σ H Q => ?_
  rintro ⟨P, al, M, env, d, R, rs, r, hw, L⟩
  exact L _ _ _ _ _ _ Ext.refl (rs.put i r) hw
abbrev WGs := List D → Ev → Mt → (Ev → Mt → Prop) → Prop
def tDGs (K : PySem.W.Frag) (B : Bs) (g : WGs) : TGs := fun vs σ H Q => ∃ P al M env ds R, RS K B P al M env σ H ∧ Reps K P al ds vs ∧ g ds env M R ∧
  ∀ env' M' σ' H' P' al', Ext P al H P' al' H' → RS K B P' al' M' env' σ' H' → R env' M' → Q σ' H'
theorem _root_.L2.PGs.imp {X : Cx} {e : List Expr} {t u : TGs} (h : PGs X e t) (i : ∀ v σ H Q, u v σ H Q → t v σ H Q) : PGs X e u := ⟨fun pins s σ H v u' Q I r q => h.run pins s σ H v u' Q I r (i v σ H Q q)⟩
abbrev DGs (B : Bs) (X : Cx) (es : List Expr) (g : WGs) : Prop := PGs X es (tDGs X.K B g)
def gsNil : WGs := fun ds env M R => match ds with
  | [] => R env M
  | _ => False
def gsCons (g : WG) (r : WGs) : WGs := fun ds env M R => match ds with
  | d :: t => g d env M fun env1 M1 => r t env1 M1 R
  | [] => False
theorem dgs_nil : DGs B X [] gsNil := by
  refine pgs_nil.imp fun v σ H Q => ?_
  rintro ⟨P, al, M, env, ds, R, rs, r, hw, L⟩
  cases r with
  | nil => exact ⟨rfl, L _ _ _ _ _ _ Ext.refl rs hw⟩
  | cons _ _ => exact hw.elim
theorem dgs_cons {g : WG} {gs : WGs} (h1 : DG B X e g) (h2 : DGs B X es gs) (hs : (assignEach (e :: es) X.env).map (·.2) = assign e X.env :: (assignEach es X.env).map (·.2) := by rfl) : DGs B X (e :: es) (gsCons g gs) := by
  refine (pgs_cons h1 h2 hs).imp fun v σ H Q => ?_
  rintro ⟨P, al, M, env, ds, R, rs, r, hw, L⟩
  cases r with
  | nil => exact hw.elim
  | cons r1 r2 =>
    exact ⟨_, _, rfl, P, al, M, env, _, _, rs, r1, hw, fun env' M' σ' H' P' al' e rs' q => ⟨P', al', M', env', _, R, rs', r2.mono e.pp e.pre, q, fun env2 M2 σ2 H2 P2 al2 e2 rs2 q2 => L _ _ _ _ _ _ (e.trans e2) rs2 q2⟩⟩
/-- a, b, .. = a tuple -/
def gT (n : Nat) (g : WGs) : WG := fun d env M R => match d with
  | .tup ds => Need (ds.length = n) ∧ g ds env M R
  | _ => False
theorem dg_tup {k : Nat} {g : WGs} {n : Nat} (hc : X.calm = true) (h : DGs B X es g) (hn : (assignEach es X.env).length = n := by rfl) (hst : (assignEach es X.env).findIdx? (·.1) = none := by rfl) : DG B X (.Tuple es k pos) (gT n g) := by
  refine (pg_tup hc h hn hst).imp fun v σ H Q => ?_
  rintro ⟨P, al, M, env, d, R, rs, r, hw, L⟩
  unfold gT at hw
  split at hw
  · cases r with
    | tup h1 h2 => exact ⟨_, _, rfl, same_seqT rs.same h1, by rw [← h2.length]; exact hw.1.out, P, al, M, env, _, R, rs, h2, hw.2, L⟩
  · exact hw.elim
/-- xs[i] = .., xs an object that changes -/
@[irreducible] def dsetIx (d o i : D) (M2 : Mt) (R : Mt → Prop) : Prop := match o, i with
  | .cel n, .int k => match M2[n]? with
    | some (.lst l) => match ixN l.length k with
      | some j => R (M2.set n (.lst (l.set j d)))
      | none => False
    | _ => False
  | _, _ => False
def gIxL (wo wi : WE) : WG := fun d env M R => wo env M fun o M1 => wi env M1 fun i M2 => dsetIx d o i M2 (R env)
theorem Reps.setR {P : Hp} {al : List Addr} {ds : List D} {vs : List V} {d : D} {v : V} (r : Reps K P al ds vs) (q : Rep K P al d v) (i : Nat) : Reps K P al (ds.set i d) (vs.set i v) := Reps.set q i r
theorem dg_ixL {o i : Expr} {wo wi : WE} (ho : DE B X o wo) (hi : DE B X i wi) (ha : ∀ v, assign (.Subscript o i pos) X.env v = (do
      let ov ← holding [v] (eval o X.env)
      let iv ← holding [v, ov] (eval i X.env)
      standAt pos
      holding [v, ov, iv] (setItem ov iv v)
      release [v, ov, iv] []) := by intro _; rfl) : DG B X (.Subscript o i pos) (gIxL wo wi) := by
  refine (pg_sub ho hi set_list ha).imp fun v σ H Q => ?_
  rintro ⟨P, al, M, env, d, R, rs, r, hw, L⟩
  refine ⟨P, al, M, env, _, rs, hw, fun d1 M1 v1 H1 P1 al1 e1 rs1 r1 hw1 => ⟨P1, al1, M1, env, _, rs1, hw1, fun d2 M2 v2 H2 P2 al2 e2 rs2 r2 q => ?_⟩⟩
  unfold dsetIx at q
  split at q
  · rename_i n k
    split at q
    · rename_i l hm
      split at q
      · rename_i j hj
        cases r2
        obtain ⟨a, rfl, ha, _, xs, h1, h2⟩ := cell_at rs2.toRS0 hm (r1.mono e2.pp e2.pre)
        have e12 := e1.trans e2
        obtain ⟨e3, r3⟩ := rs2.toRS0.change (o' := .lst (xs.set j v)) (m' := .lst (l.set j d)) ha hm rfl fun H' hH => ⟨(live_cell rfl (rs2.cell n a _ ha hm)).1, _, hH, h2.setR (r.mono e12.pp e12.pre) j⟩
        exact ⟨a, xs, k, j, rfl, rfl, h1, by rw [← h2.length]; exact hj, L _ _ _ _ _ _ (e12.trans e3) (rs2.step e3 r3) q⟩
      · exact q.elim
    · exact q.elim
  · exact q.elim
/-- target = value -/
def wAsg (we : WE) (g : WG) : WS := fun k env M => we env M fun d M1 => g d env M1 k.nx
theorem d_asg {tg : Expr} {g : WG} (he : DE B X e we) (hg : DG B X tg g) (hs : swapsWithSole [tg] e pos.line X.env = pure false := by rfl) (hw : swappedStores [tg] e X.env = pure none := by rfl)
    (h1 : (assignEach [tg] X.env).map (·.2) = [assign tg X.env] := by rfl) : DS B X (.Assign [tg] e pos) (wAsg we g) := by
  refine (ps_asg he hg hs hw h1).imp fun D σ H => ?_
  rintro ⟨P, al, M, env, k, rs, hw, L⟩
  exact ⟨P, al, M, env, _, rs, hw, fun d M1 v H1 P1 al1 e1 rs1 r1 q => ⟨P1, al1, M1, env, d, _, rs1, r1, q, fun env' M' σ' H' P' al' e rs' q' => L.nx _ _ _ _ _ _ (e1.trans e) rs' q'⟩⟩
theorem d_set {i : Nat} {x : Str} {pos' : Pos} (hN : X.N.Nodup) (he : DE B X e we) (hi : X.N[i]? = some x := by rfl) (hx : Loc X.env.scope x := by first | exact .inl rfl | exact .inr rfl) (hs : swapsWith e (some (.Name x pos')) pos.line X.env = pure false := by rfl)
    (hf : X.fn x = true ∨ X.env.scope.names.lookup x = some .local := by first | exact .inl rfl | exact .inr rfl | assumption) : DS B X (.Assign [.Name x pos'] e pos) (wAsg we (gN i)) := by
  refine (ps_set hN hi hx he hs hf).imp fun D σ H => ?_
  rintro ⟨P, al, M, env, k, rs, hw, L⟩
  exact ⟨P, al, M, env, _, rs, hw, fun d M1 v H1 P1 al1 e1 rs1 r1 q => L.nx _ _ _ _ _ _ e1 (rs1.put i r1) q⟩
/-- a, b = x, y -/
def wPar (i j : Nat) (was : WA) : WS := fun k env M => was env M fun ds M1 => match ds with
  | [d1, d2] => k.nx ((env.set i (some d1)).set j (some d2)) M1
  | _ => False
theorem d_par {i j : Nat} {x y : Str} {px py pt : Pos} {kt k2 pt2} (hc : X.calm = true) (hN : X.N.Nodup) (hi : X.N[i]? = some x) (hj : X.N[j]? = some y) (hij : i ≠ j)
    (hx : X.env.scope.names.lookup x = some .local) (hy : X.env.scope.names.lookup y = some .local) (ha : DA B X [a, b] was)
    (hw : swappedStores [.Tuple [.Name x px, .Name y py] kt pt] (.Tuple [a, b] k2 pt2) X.env = pure (some [x, y]))
    (hs : swapsWithSole [.Tuple [.Name x px, .Name y py] kt pt] (.Tuple [a, b] k2 pt2) pos.line X.env = pure false := by rfl) :
    DS B X (.Assign [.Tuple [.Name x px, .Name y py] kt pt] (.Tuple [a, b] k2 pt2) pos) (wPar i j was) := by
  refine (ps_par hc hN hi hj hij hx hy ha hw hs).imp fun D σ H => ?_
  rintro ⟨P, al, M, env, k, rs, hw, L⟩
  refine ⟨P, al, M, env, _, rs, hw, fun ds M1 vs H1 P1 al1 e1 rs1 r1 q => ?_⟩
  split at q
  · cases r1 with
    | cons q1 t => cases t with
      | cons q2 t => cases t; exact ⟨_, _, rfl, L.nx _ _ _ _ _ _ e1 ((rs1.put i q1).put j q2) q⟩
  · exact q.elim
end

/-! ### what is walked -/
section
variable {X : Cx} {B : Bs} {K : PySem.W.Frag} {e tg : Expr} {es : List Expr} {we : WE} {was : WA} {pos : Pos}
def Walk (K : PySem.W.Frag) (J : It) (ds : List D) (P : Hp) (al : List Addr) : Prop :=
  ∀ (B : Bs) (P2 : Hp) (al2 : List Addr) (M2 : Mt) (H2 : Hp), Same P P2 → al <+: al2 → RS0 K B P2 al2 M2 H2 →
    (∀ (i : Nat) (d : D), ds[i]? = some d → J.go i H2 ∧ ∀ x H3, J.yld i H2 x H3 → ∃ P3, Ext P2 al2 H2 P3 al2 H3 ∧ RS0 K B P3 al2 M2 H3 ∧ Rep K P3 al2 d x) ∧ J.stop ds.length H2
abbrev WI := Ev → Mt → (List D → Mt → Prop) → Prop
def tDI (K : PySem.W.Frag) (B : Bs) (w : WI) : TI := fun σ H R => ∃ P al M env RR, RS K B P al M env σ H ∧ w env M RR ∧
  ∀ ds M' H' P' al' J, Ext P al H P' al' H' → RS K B P' al' M' env σ H' → Walk K J ds P' al' → RR ds M' → R J H'
abbrev DI (B : Bs) (X : Cx) (tg e : Expr) (w : WI) : Prop := PI X tg e (tDI X.K B w)
def rIt (K : PySem.W.Frag) (x : V) (H : Hp) (R : It → Hp → Prop) : Prop := (∃ a, x = .ref a ∧ (∃ xs, SqL K H a xs) ∧ R (Itl K a) H) ∨ (∃ a, x = .ref a ∧ (∃ xs, SqT K H a xs) ∧ R (Itt K a) H) ∨ ∃ z, x = .str z ∧ R (Its z) H
theorem pi_any {tl : TE} (hl : PE X e tl) : PI X tg e (fun σ H R => tl σ H fun x H1 => rIt X.K x H1 R) := by
  refine ⟨fun pins s σ H R I h => ?_⟩
  refine thn (hl.run pins s σ H _ I h) fun v s1 ⟨x, H1, I1, r1, q1⟩ => ?_
  rcases q1 with ⟨a, e, ⟨xs, hq⟩, q⟩ | ⟨a, e, ⟨xs, hq⟩, q⟩ | ⟨z, e, q⟩
  · subst e
    cases r1
    obtain ⟨its, rv, p, hz⟩ := I1.list hq
    refine wpAny_pyIter_list p.isList ?_
    exact pi_one (tk := s1.toks) I1 _ (turn_list a _) ⟨_, Heap.get?_push_size _ rfl, rfl, rfl⟩ q
  · subst e
    cases r1
    obtain ⟨its, rv, p, hz⟩ := I1.tuple hq
    refine wpAny_pyIter_tuple (show s1.heap.IsTuple a its.toArray from p) ?_
    exact pi_one (tk := s1.toks) I1 _ (turn_tuple a _) ⟨_, Heap.get?_push_size _ rfl, rfl, rfl⟩ q
  · subst e
    obtain ⟨t, rfl⟩ := r1
    cases ha : z.cps.all (· < 128)
    · exact wpAny_pyIter_wide ha (pi_one (tk := s1.toks) I1 _ (turn_str _ z t "str_iterator" (.inr rfl)) ⟨_, Heap.get?_push_size _ rfl, rfl, rfl⟩ q)
    · exact wpAny_pyIter_ascii ha (pi_one (tk := s1.toks) I1 _ (turn_str _ z t "str_ascii_iterator" (.inl rfl)) ⟨_, Heap.get?_push_size _ rfl, rfl, rfl⟩ q)
/-- the signs of a text -/
def chars (s : Str) : List D := s.cps.toList.map fun c => .str ⟨#[c]⟩
theorem walk_str (s : Str) (P : Hp) (al : List Addr) : Walk K (Its s) (chars s) P al := by
  intro B P2 al2 M2 H2 _ _ r0
  have hl : (chars s).length = s.cps.size := by simp [chars]
  refine ⟨fun i d hd => ?_, by show s.cps.size ≤ (chars s).length; omega⟩
  have hi : i < (chars s).length := (List.getElem?_eq_some_iff.mp hd).1
  refine ⟨by show i < s.cps.size; omega, fun x H3 ⟨e, c, hc, ex⟩ => ⟨P2, ?_⟩⟩
  subst e; subst ex
  have : d = .str ⟨#[c]⟩ := by
    unfold chars at hd
    rw [List.getElem?_map, Array.getElem?_toList, hc] at hd
    exact (Option.some.inj hd).symm
  subst this
  exact ⟨Ext.refl, r0, .str _⟩
theorem walk_list {a : Addr} {xs : List V} {ds : List D} {P : Hp} {al : List Addr} (h : P a = some (.lst xs)) (r : Reps K P al ds xs) : Walk K (Itl K a) ds P al := by
  intro B P2 al2 M2 H2 s p r0
  have h2 : H2 a = some (.lst xs) := r0.same _ _ (s _ _ h)
  have r2 := r.mono s p
  refine ⟨fun i d hd => ?_, ⟨xs, SqL.of h2, by rw [r.length]; exact Nat.le_refl _⟩⟩
  obtain ⟨v, hv, rv⟩ := r2.get hd
  refine ⟨⟨xs, v, SqL.of h2, hv⟩, fun x H3 ⟨e, f⟩ => ⟨P2, ?_⟩⟩
  subst e
  have := f _ (SqL.of h2)
  rw [hv] at this; cases this
  exact ⟨Ext.refl, r0, rv⟩
theorem walk_rol {a : Addr} {xs : List V} {ds : List D} {P : Hp} {al : List Addr} (h : SqL K P a xs) (r : Reps K P al ds xs) : Walk K (Itl K a) ds P al := by
  intro B P2 al2 M2 H2 s p r0
  have h2 : SqL K H2 a xs := r0.same.seq (s.seq h)
  have r2 := r.mono s p
  refine ⟨fun i d hd => ?_, ⟨xs, h2, by rw [r.length]; exact Nat.le_refl _⟩⟩
  obtain ⟨v, hv, rv⟩ := r2.get hd
  refine ⟨⟨xs, v, h2, hv⟩, fun x H3 ⟨e, f⟩ => ⟨P2, ?_⟩⟩
  subst e
  have := f _ h2
  rw [hv] at this; cases this
  exact ⟨Ext.refl, r0, rv⟩
theorem walk_tup {a : Addr} {xs : List V} {ds : List D} {P : Hp} {al : List Addr} (h : SqT K P a xs) (r : Reps K P al ds xs) : Walk K (Itt K a) ds P al := by
  intro B P2 al2 M2 H2 s p r0
  have h2 : SqT K H2 a xs := same_seqT r0.same (same_seqT s h)
  have r2 := r.mono s p
  refine ⟨fun i d hd => ?_, ⟨xs, h2, by rw [r.length]; exact Nat.le_refl _⟩⟩
  obtain ⟨v, hv, rv⟩ := r2.get hd
  refine ⟨⟨xs, v, h2, hv⟩, fun x H3 ⟨e, f⟩ => ⟨P2, ?_⟩⟩
  subst e
  have := f _ h2
  rw [hv] at this; cases this
  exact ⟨Ext.refl, r0, rv⟩
def wIt (we : WE) : WI := fun env M RR => we env M fun d M1 => match d with
  | .str s => RR (chars s) M1
  | .lst l => RR l M1
  | .rol l => RR l M1
  | .tup l => RR l M1
  | _ => False
theorem di_any (h : DE B X e we) : DI B X tg e (wIt we) := by
  refine (pi_any h).imp fun σ H R => ?_
  rintro ⟨P, al, M, env, RR, rs, hw, L⟩
  refine ⟨P, al, M, env, _, rs, hw, fun d M1 v H1 P1 al1 e1 rs1 r1 q => ?_⟩
  split at q
  · cases r1; exact .inr (.inr ⟨_, rfl, L _ _ _ _ _ _ e1 rs1 (walk_str _ _ _) q⟩)
  · cases r1 with
    | lst h1 h2 => exact .inl ⟨_, rfl, ⟨_, SqL.of (rs1.same _ _ h1)⟩, L _ _ _ _ _ _ e1 rs1 (walk_list h1 h2) q⟩
  · cases r1 with
    | rol h1 h2 => exact .inl ⟨_, rfl, ⟨_, rs1.same.seq h1⟩, L _ _ _ _ _ _ e1 rs1 (walk_rol h1 h2) q⟩
  · cases r1 with
    | tup h1 h2 => exact .inr (.inl ⟨_, rfl, ⟨_, same_seqT rs1.same h1⟩, L _ _ _ _ _ _ e1 rs1 (walk_tup h1 h2) q⟩)
  · exact q.elim
@[irreducible] def rangeD (lo : Int) (n : Nat) : List D := (List.range n).map fun (k : Nat) => .int (lo + k)
theorem walk_range (lo : Int) (n : Nat) (P : Hp) (al : List Addr) : Walk K (Itr lo n) (rangeD lo n) P al := by
  intro B P2 al2 M2 H2 _ _ r0
  have hl : (rangeD lo n).length = n := by simp [rangeD]
  refine ⟨fun i d hd => ?_, by show n ≤ (rangeD lo n).length; omega⟩
  have hi : i < (rangeD lo n).length := (List.getElem?_eq_some_iff.mp hd).1
  refine ⟨by show i < n; omega, fun x H3 ⟨e, ex⟩ => ⟨P2, ?_⟩⟩
  subst e; subst ex
  have : d = .int (lo + i) := by
    unfold rangeD at hd
    rw [List.getElem?_map, List.getElem?_range (by omega)] at hd
    exact (Option.some.inj hd).symm
  subst this
  exact ⟨Ext.refl, r0, .int _⟩
def wRng1 (was : WA) : WI := fun env M RR => was env M fun ds M1 => match ds with
  | [.int j] => Need (-(2 ^ 62) ≤ j ∧ j < 2 ^ 62) ∧ RR (rangeD 0 j.toNat) M1
  | _ => False
theorem di_range1 {p : Pos} (hg : Gl X "range") (hm : X.mg "range" = none) (ha : DA B X [e] was) (hs : starEach [e] X.env = [(false, eval e X.env)] := by rfl) : DI B X tg (.Call (.Name "range" p) [e] [] pos) (wRng1 was) := by
  refine (pi_range1 hg hm ha hs).imp fun σ H R => ?_
  rintro ⟨P, al, M, env, RR, rs, hw, L⟩
  refine ⟨P, al, M, env, _, rs, hw, fun ds M1 vs H1 P1 al1 e1 rs1 r1 q => ?_⟩
  split at q
  · rename_i j
    cases r1 with
    | cons q1 t =>
      cases t; cases q1
      exact ⟨j, rfl, q.1.out.1, q.1.out.2, L _ _ _ _ _ _ e1 rs1 (walk_range 0 _ _ _) q.2⟩
  · exact q.elim
/-! ### for -/
/-- the turns over the items; N: what a turn is to reach -/
def forL (g : WG) (b : WS) (k : DEnds) : List D → Ev → Mt → Prop
  | [], env, M => k.nx env M
  | d :: r, env, M => ∃ N : Ev → Mt → Prop, (∀ env' M', N env' M' → forL g b k r env' M') ∧ g d env M fun env1 M1 => b { nx := N, ct := N, bk := k.nx, rt := k.rt } env1 M1
def wFor (wi : WI) (g : WG) (b : WS) : WS := fun k env M => wi env M fun ds M1 => forL g b k ds env M1
theorem d_for {body : List Stmt} {wi : WI} {g : WG} {wb : WS} (hp : PassesOwn (model X.prog X.w) X.A X.env X.xe) (hc : X.calm = true) (hi : DI B X tg e wi) (hg : DG B X tg g) (hb : DSs B X body wb) (hs : ∀ x, foldedSetIterable e X.env x = pure x := by intro _; rfl) :
    DS B X (.For tg e body [] pos) (wFor wi g wb) := by
  refine (ps_for hp hc hi hg hb hs).imp fun D σ H => ?_
  rintro ⟨P, al, M, env, k, rs, hw, L⟩
  refine ⟨P, al, M, env, _, rs, hw, fun ds M1 H1 P1 al1 J e1 rs1 wk q => ?_⟩
  refine ⟨fun i m σ2 H2 => m = ds.length - i ∧ i ≤ ds.length ∧ ∃ P2 al2 M2 env2, Ext P1 al1 H1 P2 al2 H2 ∧ RS X.K B P2 al2 M2 env2 σ2 H2 ∧ forL g wb k (ds.drop i) env2 M2, ⟨ds.length, by simp, Nat.zero_le _, P1, al1, M1, env, Ext.refl, rs1, q⟩, ?_⟩
  rintro i m σ2 H2 ⟨rfl, hi, P2, al2, M2, env2, e2, rs2, q2⟩
  obtain ⟨wk1, wk2⟩ := wk B P2 al2 M2 H2 e2.pp e2.pre rs2.toRS0
  by_cases hlt : i < ds.length
  · right
    have hd : ds[i]? = some ds[i] := List.getElem?_eq_getElem hlt
    obtain ⟨go, yl⟩ := wk1 i _ hd
    rw [List.drop_eq_getElem_cons hlt] at q2
    obtain ⟨N, hN, q2⟩ := q2
    refine ⟨go, fun σ' H' => ∃ P' al' M' env', Ext P1 al1 H1 P' al' H' ∧ RS X.K B P' al' M' env' σ' H' ∧ N env' M', fun σ' H' ⟨P', al', M', env', e', rs', n'⟩ => ⟨ds.length - (i + 1), by omega, rfl, hlt, P', al', M', env', e', rs', hN _ _ n'⟩, fun x H3 y => ?_⟩
    obtain ⟨P3, e3, r3, rx⟩ := yl x H3 y
    refine ⟨P3, al2, M2, env2, _, _, rs2.step e3 r3, rx, q2, fun env4 M4 σ4 H4 P4 al4 e4 rs4 q4 => ?_⟩
    have e14 := e2.trans (e3.trans e4)
    refine ⟨P4, al4, M4, env4, _, rs4, q4, ⟨fun env5 M5 σ5 H5 P5 al5 e5 rs5 n5 => ⟨P5, al5, M5, env5, e14.trans e5, rs5, n5⟩, fun d M5 v H5 P5 al5 e5 rs5 r5 q5 => L.rt _ _ _ _ _ _ (e1.trans (e14.trans e5)) rs5 r5 q5, fun env5 M5 σ5 H5 P5 al5 e5 rs5 q5 => L.nx _ _ _ _ _ _ (e1.trans (e14.trans e5)) rs5 q5, fun env5 M5 σ5 H5 P5 al5 e5 rs5 n5 => ⟨P5, al5, M5, env5, e14.trans e5, rs5, n5⟩⟩⟩
  · left
    have ei : i = ds.length := by omega
    subst ei
    rw [List.drop_length] at q2
    exact ⟨wk2, L.nx _ _ _ _ _ _ (e1.trans e2) rs2 q2⟩

/-! ### list comprehensions -/
def wipeE (env : Ev) : List Nat → Ev
  | [] => env
  | v :: vs => (wipeE env vs).set v none
theorem RS.wipe {P : Hp} {al : List Addr} {M : Mt} {env : Ev} {σ : L2.St} {H : Hp} (rs : RS K B P al M env σ H) : ∀ vs : List Nat, RS K B P al M (wipeE env vs) (L2.wipe σ vs) H
  | [] => rs
  | v :: vs => by
    have ih := rs.wipe vs
    refine ⟨ih.toRS0, by simp [wipeE, L2.wipe, ih.slen], fun j d h => ?_⟩
    unfold wipeE at h
    by_cases hj : j = v
    · subst hj
      have hi : j < (wipeE env vs).length := by
        have := (List.getElem?_eq_some_iff.mp h).1
        simpa using this
      rw [List.getElem?_set_self hi] at h; cases h
    · rw [List.getElem?_set_ne (Ne.symm hj)] at h
      unfold L2.wipe
      rw [List.getElem?_set_ne (Ne.symm hj)]
      exact ih.slot j d h
abbrev WTs := Ev → Mt → (Bool → Mt → Prop) → Prop
abbrev DTs (B : Bs) (X : Cx) (ifs : List Expr) (w : WTs) : Prop := PTs X ifs (tDT X.K B w)
def wYes : WTs := fun _ M R => R true M
theorem _root_.L2.PTs.imp {X : Cx} {e : List Expr} {t u : TT} (h : PTs X e t) (i : ∀ σ H Q, u σ H Q → t σ H Q) : PTs X e u := ⟨fun pins s σ H Q I q => h.run pins s σ H Q I (i σ H Q q)⟩
theorem dts_nil : DTs B X [] wYes := by
  refine pts_nil.imp fun σ H Q => ?_
  rintro ⟨P, al, M, env, R, rs, hw, L⟩
  exact L _ _ _ _ _ Ext.refl rs hw
theorem dts_one {c : Expr} {t : WT} (h : DT B X c t) : DTs B X [c] t := pts_one h
theorem wipe_get (σ : L2.St) : ∀ (vs : List Nat) (j : Nat), (L2.wipe σ vs)[j]? = if j ∈ vs then (if j < σ.length then some none else none) else σ[j]?
  | [], j => by simp [L2.wipe]
  | v :: vs, j => by
    unfold L2.wipe
    by_cases hj : j = v
    · subst hj
      by_cases hl : j < σ.length
      · rw [List.getElem?_set_self (by rw [wipe_length]; exact hl)]; simp [hl]
      · rw [List.getElem?_eq_none (by rw [List.length_set, wipe_length]; omega)]; simp [hl]
    · rw [List.getElem?_set_ne (Ne.symm hj), wipe_get σ vs j]
      simp [hj]
theorem wipe_put {σ : L2.St} {vs : List Nat} {i : Nat} {x : Option V} (hi : i ∈ vs) : L2.wipe (σ.set i x) vs = L2.wipe σ vs := by
  apply List.ext_getElem?
  intro j
  rw [wipe_get, wipe_get, List.length_set]
  by_cases hj : j ∈ vs
  · simp [hj]
  · have : i ≠ j := fun z => hj (z ▸ hi)
    simp [hj, List.getElem?_set_ne this]
theorem wipe_wipe {σ : L2.St} {vs : List Nat} : L2.wipe (L2.wipe σ vs) vs = L2.wipe σ vs := by
  apply List.ext_getElem?
  intro j
  rw [wipe_get, wipe_length]
  by_cases hj : j ∈ vs
  · simp only [hj, if_true]; rw [wipe_get]; simp [hj]
  · simp [hj]
/-- a comprehension's names: one, or two, three of a tuple -/
def bnd (is : List Nat) (d : D) (env : Ev) (k : Ev → Prop) : Prop := match is with
  | [i] => k (env.set i (some d))
  | [i, j] => match d with
    | .tup [a, b] => k ((env.set i (some a)).set j (some b))
    | _ => False
  | _ => False
def lcL (is : List Nat) (t : WTs) (we : WE) (vs : List Nat) (env : Ev) : List D → List D → Mt → (List D → Mt → Prop) → Prop
  | [], acc, M, R => R acc M
  | d :: r, acc, M, R => bnd is d (wipeE env vs) fun env1 => t env1 M fun b M2 =>
      ifB b (we env1 M2 fun y M3 => Need (acc.length < sizeLine) ∧ lcL is t we vs env r (acc ++ [y]) M3 R) (lcL is t we vs env r acc M2 R)
def wLc (wi : WI) (is : List Nat) (t : WTs) (we : WE) (vs : List Nat) : WE := fun env M R => wi env M fun ds M1 => lcL is t we vs env ds [] M1 fun acc M2 => R (.lst acc) M2
/-- how the target takes an item -/
def Binds1 (K : PySem.W.Frag) (g : TG) (is vs : List Nat) : Prop := ∀ (B : Bs) (P : Hp) (al : List Addr) (M : Mt) (env : Ev) (σ : L2.St) (H : Hp) (d : D) (v : V) (k : Ev → Prop) (Q : L2.St → Hp → Prop), RS K B P al M env σ H → Rep K P al d v → bnd is d env k →
  (∀ env' σ', RS K B P al M env' σ' H → L2.wipe σ' vs = L2.wipe σ vs → k env' → Q σ' H) → g v σ H Q
theorem binds_one {i : Nat} {vs : List Nat} (hi : i ∈ vs) : Binds1 K (gName i) [i] vs := fun B P al M env σ H d v k Q rs r h q => q _ _ (rs.put i r) (wipe_put hi) h
/-- the core: what the block's rule asks -/
theorem lc_imp {wi : WI} {g : TG} {is vs : List Nat} {t : WTs} {we : WE} (bn : Binds1 K g is vs) {P al M env σ H} {R : D → Mt → Prop} {Q : VK} {fin : List D → Mt → (D → Mt → Prop) → Prop}
    (hfin : ∀ (P : Hp) (al : List Addr) (M : Mt) (σ : L2.St) (H : Hp) (p : Addr) (acc : List D) (vs : List V) (R : D → Mt → Prop) (Q : VK) (H0 P0 : Hp) (al0 : List Addr), RS K B P al M env σ H → Ext P0 al0 H0 P al H → H0 p = none → P p = none → p ∉ al → B.2.2 p = none → H p = some (.lst vs) → Reps K P al acc vs → fin acc M R → (∀ d M' P' al', Ext P0 al0 H0 P' al' H → RS K B P' al' M' env σ H → Rep K P' al' d (.ref p) → R d M' → Q (.ref p) H) → Q (.ref p) H)
    (rs : RS K B P al M env σ H) (hw : wi env M fun ds M1 => lcL is t we vs env ds [] M1 fun acc M2 => fin acc M2 R) (L : Lift K B P al env σ H R Q) : tLc (tDI K B wi) g (tDT K B t) (tD K B we) vs σ H Q := by
  refine ⟨P, al, M, env, _, rs, hw, fun ds M1 H1 P1 al1 J e1 rs1 wk q => fun p hp => ?_⟩
  obtain ⟨hb, na⟩ := rs1.toRS0.fresh hp
  have np := rs1.toRS0.free hp
  refine ⟨fun i m H2 => m = ds.length - i ∧ i ≤ ds.length ∧ ∃ P2 al2 M2 acc av, Ext P1 al1 H1 P2 al2 H2 ∧ RS K B P2 al2 M2 env σ H2 ∧ P2 p = none ∧ p ∉ al2 ∧ H2 p = some (.lst av) ∧ Reps K P2 al2 acc av ∧ lcL is t we vs env (ds.drop i) acc M2 (fun acc M2 => fin acc M2 R),
    ⟨ds.length, by simp, Nat.zero_le _, P1, al1, M1, [], [], Ext.refl.priv hp _, ⟨rs1.toRS0.priv np na hb _, rs1.slen, rs1.slot⟩, np, na, upd_same, .nil, q⟩, ?_⟩
  rintro i m H2 ⟨rfl, hi, P2, al2, M2, acc, av, e2, rs2, np2, na2, hpv, racc, q2⟩
  obtain ⟨wk1, wk2⟩ := wk B P2 al2 M2 H2 e2.pp e2.pre rs2.toRS0
  by_cases hlt : i < ds.length
  · right
    have hd : ds[i]? = some ds[i] := List.getElem?_eq_getElem hlt
    obtain ⟨go, yl⟩ := wk1 i _ hd
    rw [List.drop_eq_getElem_cons hlt] at q2
    refine ⟨go, fun H' => ∃ P' al' M' acc' av', Ext P1 al1 H1 P' al' H' ∧ RS K B P' al' M' env σ H' ∧ P' p = none ∧ p ∉ al' ∧ H' p = some (.lst av') ∧ Reps K P' al' acc' av' ∧ lcL is t we vs env (ds.drop (i + 1)) acc' M' (fun acc M2 => fin acc M2 R), fun H' ⟨P', al', M', acc', av', x⟩ => ⟨ds.length - (i + 1), by omega, rfl, hlt, P', al', M', acc', av', x⟩, fun x H3 y => ?_⟩
    obtain ⟨P3, e3, r3, rx⟩ := yl x H3 y
    have rs3 := (rs2.step e3 r3)
    -- what our own list is behind a step
    have keep : ∀ {Pa ala Ha Pb alb Hb w'}, Ext Pa ala Ha Pb alb Hb → Ha p = some (.lst w') → p ∉ ala → Pa p = none → Hb p = some (.lst w') ∧ p ∉ alb ∧ Pb p = none := fun {Pa ala Ha Pb alb Hb w'} e h n z =>
      ⟨e.fr _ _ h n, (fun m => by have := e.new _ m n; rw [h] at this; cases this), e.pn _ _ h ⟨fun _ u => (by cases u), fun _ u => (by cases u)⟩ z n⟩
    obtain ⟨hp3, na3, np3⟩ := keep e3 hpv na2 np2
    refine bn B P3 al2 M2 _ _ H3 _ x _ _ (rs3.wipe vs) rx q2 fun env4 σ4 rs4 hwp q4 => ⟨by rw [hwp, wipe_wipe], P3, al2, M2, env4, _, rs4, q4, fun b M5 H5 P5 al5 e5 rs5 q5 => ?_⟩
    obtain ⟨hp5, na5, np5⟩ := keep e5 hp3 na3 np3
    have e15 := e2.trans (e3.trans e5)
    have back : ∀ {P' al' M' H'}, Ext P3 al2 H3 P' al' H' → RS0 K B P' al' M' H' → RS K B P' al' M' env σ H' := fun {P' al' M' H'} e r => rs3.step e r
    cases b with
    | true =>
      rw [if_pos rfl]
      refine ⟨P5, al5, M5, env4, _, rs5, q5.1 rfl, fun y M6 v H6 P6 al6 e6 rs6 r6 q6 => ?_⟩
      obtain ⟨hp6, na6, np6⟩ := keep e6 hp5 na5 np5
      have racc6 := racc.mono (e3.trans (e5.trans e6)).pp (e3.trans (e5.trans e6)).pre
      refine ⟨av, hp6, by rw [← racc.length]; exact q6.1.out, P6, al6, M6, acc ++ [y], av ++ [v], (e15.trans e6).priv hp _, ?_, np6, na6, upd_same, racc6.append (.cons r6 .nil), q6.2⟩
      have r7 := back (e5.trans e6) rs6.toRS0
      exact ⟨r7.toRS0.priv np6 na6 hb _, r7.slen, r7.slot⟩
    | false =>
      rw [if_neg Bool.false_ne_true]
      exact ⟨P5, al5, M5, acc, av, e15, back e5 rs5.toRS0, np5, na5, hp5, racc.mono (e3.trans e5).pp (e3.trans e5).pre, q5.2 rfl⟩
  · left
    have ei : i = ds.length := by omega
    subst ei
    rw [List.drop_length] at q2
    refine ⟨wk2, ?_⟩
    exact hfin P2 al2 M2 σ H2 p acc av R Q H1 P1 al1 rs2 e2 hp np2 na2 hb hpv racc q2 fun d M' P' al' e rs' r z => L _ _ _ _ _ _ (e1.trans e) rs' r z
theorem d_lc {elt : Expr} {ifs : List Expr} {scope : Scope} {own : List (Str × Nat)} {g : TG} {is : List Nat} {wi : WI} {t : WTs} (hc : X.calm = true) (hN : X.N.Nodup) (hi : DI B X tg e wi) (ok : BlkOk X.N X.env.scope scope own)
    (hg : ∀ (s : Shared) (H : Hp) (C : Addr) (cl : List (Str × Addr)) (fp : List Addr), PG (X.blk s H scope (compEnvC scope cl C X.env) fp) tg g) (bn : Binds1 X.K g is (own.map (·.2)))
    (ht : ∀ (s : Shared) (H : Hp) (C : Addr) (cl : List (Str × Addr)) (fp : List Addr), DTs B (X.blk s H scope (compEnvC scope cl C X.env) fp) ifs t)
    (he : ∀ (s : Shared) (H : Hp) (C : Addr) (cl : List (Str × Addr)) (fp : List Addr), DE B (X.blk s H scope (compEnvC scope cl C X.env) fp) elt we) (hs : ∀ x, foldedSetIterable e X.env x = pure x := by intro _; rfl) :
    DE B X (.ListComp elt [⟨tg, e, ifs, 0⟩] scope pos) (wLc wi is t we (own.map (·.2))) := by
  refine (pe_lc (tt := tDT X.K B t) (te := tD X.K B we) hc hN hi ok hg ht he hs).imp fun σ H Q => ?_
  rintro ⟨P, al, M, env, R, rs, hw, L⟩
  refine lc_imp (fin := fun acc M R => R (.lst acc) M) bn (fun P al M σ H p acc vs R Q H0 P0 al0 rs e hp np na hb hv ra hr hq => ?_) rs hw L
  have sm : Same P (upd P p (.lst vs)) := fun b x h => by rw [upd_ne (ne_of_none h np)]; exact h
  refine hq _ _ _ _ (e.pub hp np (.lst vs)) ⟨rs.toRS0.pub np na hb hv, rs.slen, fun j d h => ?_⟩ (.lst upd_same (ra.mono sm (List.prefix_refl _))) hr
  obtain ⟨v, h1, h2⟩ := rs.slot j d h
  exact ⟨v, h1, h2.mono sm (List.prefix_refl _)⟩
end
end L3

namespace L3
open PySem PySem.Spec PyProof.Rows L2
/-! ### calls of the text's defs -/
abbrev RXt := Str → List (Str × D) → Mt → Prop
abbrev RX0 : RXt := fun _ _ _ => False
abbrev DSp := List D → Mt → (D → Mt → Prop) → RXt → Prop
/-- an exception's own dict -/
def XdOk (K : PySem.W.Frag) (P : Hp) (al : List Addr) (H : Hp) (fs : List (Str × D)) (dd : Option Addr) : Prop :=
  (dd = none ∧ fs = []) ∨ ∃ d gs, dd = some d ∧ d ∉ al ∧ H d = some (.xd gs) ∧ RepFs K P al fs gs
def toSp (K : PySem.W.Frag) (sp : DSp) : Sp := fun vs H Q E => ∃ P al M ds R, ∃ RX : RXt, RS0 K (P, al, H) P al M H ∧ Reps K P al ds vs ∧ sp ds M R RX ∧
  (∀ d M' v H' P' al', Ext P al H P' al' H' → RS0 K (P, al, H) P' al' M' H' → Rep K P' al' d v → R d M' → Q v H') ∧
  (∀ C n fs M' H' P' al' dd, Ext P al H P' al' H' → RS0 K (P, al, H) P' al' M' H' → ClsAt K n C → XdOk K P' al' H' fs dd → RX n fs M' → E (.ref C) dd H')
section
variable {K : PySem.W.Frag} {B B' : Bs} {P P' : Hp} {al al' : List Addr} {M M' : Mt} {env : Ev} {σ : L2.St} {H H' : Hp}
theorem RS0.rebase (r : RS0 K B P al M H) (e : Ext B'.1 B'.2.1 B'.2.2 P al H) : RS0 K B' P al M H := ⟨e, r.same, r.len, r.cell, r.inj, r.trk⟩
theorem RS0.here (r : RS0 K B P al M H) : RS0 K (P, al, H) P al M H := r.rebase Ext.refl
end
section
variable {X : Cx} {B : Bs} {CX : CXT} {k : Nat} {f : Addr} {fd : FuncData} {ps : List Str} {sp : DSp} {dvs : List V} {dds : List D} {ds : List Value} {x : Str} {p pos : Pos} {e : Expr} {es : List Expr} {was : WA}
def wCall (sp : DSp) (dds : List D) (RX : RXt) (was : WA) : WE := fun env M R => was env M fun ds M1 => sp (ds ++ dds) M1 R RX
theorem call_imp {K : PySem.W.Frag} (hdd : ∀ P al, Reps K P al dds dvs) (σ : L2.St) (H : Hp) (Q : VK) : tD K B (wCall sp dds RX0 was) σ H Q → tCall (toSp K sp) dvs E0 (tDA K B was) σ H Q := by
  rintro ⟨P, al, M, env, R, rs, hw, L⟩
  refine ⟨P, al, M, env, _, rs, hw, fun ds M1 vs H1 P1 al1 e1 rs1 r1 q => ?_⟩
  exact ⟨P1, al1, M1, _, R, RX0, rs1.toRS0.here, r1.append (hdd _ _), q, fun d M' v H' P' al' e r0 r hq => L _ _ _ _ _ _ (e1.trans e) (rs1.step e (r0.rebase (rs1.base.trans e))) r hq, fun _ _ _ _ _ _ _ _ _ _ _ _ z => z.elim⟩
theorem d_call (F : FnOk X.prog X.w X.K X.mg X.base CX0 k f fd ps (toSp X.K sp)) (hr : Room k X.A) (hg : Gl X x) (hm : X.mg x = some (.ref f)) (hk : PySem.W.keepIn X.K (.ref f) = true) (hb : Binds X.K fd ps ds) (hd : Vals dvs ds) (hdd : ∀ P al, Reps X.K P al dds dvs) (ha : DA B X (e :: es) was)
    (hdb : (x == ("__debug__" : Str)) = false := by decide) (he : starEach (e :: es) X.env = (false, eval e X.env) :: starEach es X.env := by rfl) (hpl : (backTo pos (starEach es X.env)).any (·.1) = false := by rfl) : DE B X (.Call (.Name x p) (e :: es) [] pos) (wCall sp dds RX0 was) :=
  (pe_call F hr hg hm hk hb hd pass0 ha hdb he hpl).imp (call_imp hdd)
end
/-! ### the end of a def -/
mutual
def noCel (n : Nat) : D → Bool
  | .tup l => noCels n l
  | .ptp l => noCels n l
  | .lst l => noCels n l
  | .rol l => noCels n l
  | .dct l => noCelK n l
  | .fdc l => noCelK n l
  | .obj _ l => noCelF n l
  | .cel i => decide (i < n)
  | _ => true
def noCels (n : Nat) : List D → Bool
  | [] => true
  | d :: r => noCel n d && noCels n r
def noCelK (n : Nat) : List (Key × D) → Bool
  | [] => true
  | (_, d) :: r => noCel n d && noCelK n r
def noCelF (n : Nat) : List (Str × D) → Bool
  | [] => true
  | (_, d) :: r => noCel n d && noCelF n r
end
section
variable {K : PySem.W.Frag} {B : Bs} {P : Hp} {al al' : List Addr} {M : Mt} {H : Hp}
theorem and_l {a b : Bool} (h : (a && b) = true) : a = true := (Bool.and_eq_true_iff.mp h).1
theorem and_r {a b : Bool} (h : (a && b) = true) : b = true := (Bool.and_eq_true_iff.mp h).2
mutual
theorem Rep.cut (h : al <+: al') : ∀ {d : D} {v : V}, Rep K P al' d v → noCel al.length d = true → Rep K P al d v
  | _, _, .non, _ => .non
  | _, _, .bl b, _ => .bl b
  | _, _, .int i, _ => .int i
  | _, _, .str x, _ => .str x
  | _, _, .ty n, _ => .ty n
  | _, _, .adr a, _ => .adr a
  | _, _, .tup q r, e => .tup q (Reps.cutA h r (by simpa [noCel] using e))
  | _, _, .ptp q r, e => .ptp q (Reps.cutA h r (by simpa [noCel] using e))
  | _, _, .lst q r, e => .lst q (Reps.cutA h r (by simpa [noCel] using e))
  | _, _, .rol q r, e => .rol q (Reps.cutA h r (by simpa [noCel] using e))
  | _, _, .dct q r, e => .dct q (RepKs.cutA h r (by simpa [noCel] using e))
  | _, _, .fdc q r, e => .fdc q (RepKs.cutA h r (by simpa [noCel] using e))
  | _, _, .obj q c r, e => .obj q c (RepFs.cutA h r (by simpa [noCel] using e))
  | _, _, .cls c, _ => .cls c
  | _, _, .cel q, e => .cel (by
    have hi : _ < al.length := of_decide_eq_true (by simpa [noCel] using e)
    obtain ⟨t, rfl⟩ := h
    rw [List.getElem?_append_left hi] at q; exact q)
theorem Reps.cutA (h : al <+: al') : ∀ {ds : List D} {vs : List V}, Reps K P al' ds vs → noCels al.length ds = true → Reps K P al ds vs
  | _, _, .nil, _ => .nil
  | _, _, .cons r t, e => .cons (Rep.cut h r (and_l (by simpa only [noCels] using e))) (Reps.cutA h t (and_r (by simpa only [noCels] using e)))
theorem RepKs.cutA (h : al <+: al') : ∀ {ds : List (Key × D)} {vs : List (Key × V)}, RepKs K P al' ds vs → noCelK al.length ds = true → RepKs K P al ds vs
  | _, _, .nil, _ => .nil
  | _, _, .cons r t, e => .cons (Rep.cut h r (and_l (by simpa only [noCelK] using e))) (RepKs.cutA h t (and_r (by simpa only [noCelK] using e)))
theorem RepFs.cutA (h : al <+: al') : ∀ {ds : List (Str × D)} {vs : List (Str × V)}, RepFs K P al' ds vs → noCelF al.length ds = true → RepFs K P al ds vs
  | _, _, .nil, _ => .nil
  | _, _, .cons r t, e => .cons (Rep.cut h r (and_l (by simpa only [noCelF] using e))) (RepFs.cutA h t (and_r (by simpa only [noCelF] using e)))
end
def exOk (n : Nat) : List D → Bool
  | [.obj _ fs] => noCelF n fs
  | _ => true
/-- what an object of the table may hold, when the later places are dropped -/
def cellOk (n : Nat) : D → Bool
  | .lst l => noCels n l
  | .dct l => noCelK n l
  | .obj _ l => noCelF n l
  | .ptp l => exOk n l
  | _ => true
theorem ExCell.cut {l : List D} {a : Addr} (h : al <+: al') (c : ExCell K P al' l a) (k : exOk al.length l = true) : ExCell K P al l a := by
  unfold ExCell at c ⊢
  split at c
  · obtain ⟨C, d, oe, h1, h2, h3, h4, h5⟩ := c
    refine ⟨C, d, oe, h1, h2, h3, h4, ?_⟩
    rcases h5 with h5 | ⟨dd, gs, g1, g2, g3⟩
    · exact .inl h5
    · exact .inr ⟨dd, gs, g1, g2, g3.cutA h k⟩
  · trivial
theorem RS0.drop {P0 H0 : Hp} (r : RS0 K (P0, al, H0) P al' M H) (hc : ∀ (i : Nat) (m : D), i < al.length → M[i]? = some m → cellOk al.length m = true) : RS0 K (P0, al, H0) P al (M.take al.length) H := by
  have pre : al <+: al' := r.base.pre
  have hl : al.length ≤ M.length := by rw [← r.len]; exact pre.length_le
  refine ⟨⟨r.base.pp, List.prefix_refl _, r.base.fr, fun b m n => absurd m n, r.base.pn⟩, r.same, by simp; omega, fun i a m h1 h2 => ?_, fun i j a m n h1 h2 h3 h4 => r.inj i j a m n (pre_get pre h1) (pre_get pre h2) ?_ ?_, fun a h => r.trk a (pre.subset h)⟩
  · have hi := (List.getElem?_eq_some_iff.mp h1).1
    rw [List.getElem?_take_of_lt hi] at h2
    have c := r.cell i a m (pre_get pre h1) h2
    have k := hc i m hi h2
    cases m <;> first | trivial | skip
    · exact ExCell.cut pre c k
    · obtain ⟨q1, xs, q2, q3⟩ := c; exact ⟨q1, xs, q2, q3.cutA pre k⟩
    · obtain ⟨q1, xs, q2, q3⟩ := c; exact ⟨q1, xs, q2, q3.cutA pre k⟩
    · obtain ⟨q1, C, dx, xs, q2, hc, q3⟩ := c; exact ⟨q1, C, dx, xs, q2, hc, q3.cutA pre k⟩
  · rw [List.getElem?_take_of_lt (List.getElem?_eq_some_iff.mp h1).1] at h3; exact h3
  · rw [List.getElem?_take_of_lt (List.getElem?_eq_some_iff.mp h2).1] at h4; exact h4
end
/-- a def's end: the objects that it made and did not hand back are dropped -/
inductive retF (n : Nat) (R : D → Mt → Prop) (d : D) (M : Mt) : Prop where
  | keep : R d M → retF n R d M
  | less : noCel n d = true → (M.take n).all (cellOk n) = true → R d (M.take n) → retF n R d M
def startE (n : Nat) (ds : List D) : Ev := ds.map some ++ List.replicate (n - ds.length) none
def fnEnds (n : Nat) (R : D → Mt → Prop) : DEnds := ⟨fun _ M => retF n R .non M, retF n R, fun _ _ => False, fun _ _ => False⟩
section
variable {P : Program} {w : World} {K : PySem.W.Frag} {mg : Str → Option Value} {base : Heap}
theorem start_slots {Pp : Hp} {al : List Addr} {ds : List D} {vs : List V} {N : List Str} (r : Reps K Pp al ds vs) : (startE N.length ds).length = (L2.start N vs).length ∧ ∀ (j : Nat) (d : D), (startE N.length ds)[j]? = some (some d) → ∃ v, (L2.start N vs)[j]? = some (some v) ∧ Rep K Pp al d v := by
  have hl := r.length
  refine ⟨by simp [startE, L2.start, hl], fun j d h => ?_⟩
  unfold startE at h
  unfold L2.start
  by_cases hj : j < ds.length
  · rw [List.getElem?_append_left (by simpa using hj), List.getElem?_map] at h
    cases hd : ds[j]? with
    | none => rw [hd] at h; cases h
    | some d' =>
      rw [hd] at h; cases h
      obtain ⟨v, h1, h2⟩ := r.get hd
      exact ⟨v, by rw [List.getElem?_append_left (by simp; omega), List.getElem?_map, h1]; rfl, h2⟩
  · rw [List.getElem?_append_right (by simp; omega)] at h
    have := List.mem_of_getElem? h
    simp at this
theorem dfn {x qual : Str} {st : Stmt} {f : Addr} {fd : FuncData} {N ps : List Str} {k : Nat} {sp : DSp} (F : Fun K x qual st f fd) (S : FnScope N ps (defScope st)) (len : ∀ ds M R RX, sp ds M R RX → ds.length = ps.length)
    (body : ∀ (B : Bs) (cdv : Value) (A : Around) (outer : List Env) (s : Shared) (H : Hp) (E : XK), Room k (A.deeper (envOfC qual (defScope st) s.heap.objs.size f cdv)) →
      ∃ wb : WS, DSs B (cxOf CX0 P w K mg base N qual (defScope st) f cdv A outer s H E).nox (defBody st) wb ∧ ∀ ds M R RX, sp ds M R RX → wb (fnEnds M.length R) (startE N.length ds) M) :
    FnOk P w K mg base CX0 (k + 1) f fd ps (toSp K sp) := by
  refine F.ok S (fun vs H Q E h => ?_) (fun cdv A outer s H vs Q E hr h => ?_)
  · obtain ⟨P, al, M, ds, R, RX, _, r, hs, _⟩ := h
    rw [← r.length]; exact len _ _ _ _ hs
  · obtain ⟨Pp, al, M, ds, R, RX, r0, r, hs, L, _⟩ := h
    obtain ⟨wb, hb, hw⟩ := body (Pp, al, H) cdv A outer s H E hr
    have el := r0.len
    have fin : ∀ d M' v H' P' al', Ext Pp al H P' al' H' → RS0 K (Pp, al, H) P' al' M' H' → Rep K P' al' d v → retF M.length R d M' → Q v H' := fun d M' v H' P' al' e r' rd q => by
      cases q with
      | keep q => exact L d M' v H' P' al' e r' rd q
      | less q1 q2 q3 =>
        rw [← el] at q1 q2 q3
        refine L d _ v H' P' al ⟨e.pp, List.prefix_refl _, e.fr, fun b m n => absurd m n, e.pn⟩ (r'.drop fun i m hi hm => ?_) (rd.cut e.pre q1) q3
        exact List.all_eq_true.mp q2 m (List.mem_of_getElem? (by rw [List.getElem?_take_of_lt hi]; exact hm))
    obtain ⟨s1, s2⟩ := start_slots (N := N) r
    exact ⟨_, hb, Pp, al, M, _, _, ⟨r0, s1, s2⟩, hw ds M R RX hs, ⟨fun env' M' σ' H' P' al' e rs q => fin _ _ _ _ _ _ e rs.toRS0 .non q, fun d M' v H' P' al' e rs rd q => fin _ _ _ _ _ _ e rs rd q, fun _ _ _ _ _ _ _ _ z => z.elim, fun _ _ _ _ _ _ _ _ z => z.elim⟩⟩
end

/-! ### built-in functions -/
section
variable {X : Cx} {B : Bs} {K : PySem.W.Frag}
@[irreducible] def cLen : WCl := fun ds M R => match ds with
  | [x] => match viewD M x with
    | .str s => Need (s.length ≤ sizeLine) ∧ R (.int s.length) M
    | .dct l => R (.int l.length) M
    | .fdc l => R (.int l.length) M
    | x' => match seqD x' with
      | some l => R (.int l.length) M
      | none => False
  | _ => False
def rLenU (K : PySem.W.Frag) : List V → Hp → VK → Prop := fun xs H Q => (∃ x n, xs = [x] ∧ LenV K x H n ∧ Q (.int n) H) ∨ ∃ a kvs, xs = [V.ref a] ∧ Rd H a (.dK kvs) ∧ Q (.int kvs.length) H
theorem call_lenR : CallR X (.builtin "len") (fun xs H Q => ∃ a kvs, xs = [V.ref a] ∧ Rd H a (.dK kvs) ∧ Q (.int kvs.length) H) := by
  intro pins s σ H xs us Q I r h
  obtain ⟨a, kvs, rfl, ha, q⟩ := h
  obtain ⟨u, rfl, ru⟩ := vals1 r
  cases ru
  exact d_len I ha fun t s' I' => ⟨.int kvs.length, H, I', ⟨t, rfl⟩, q⟩
theorem callLen : CallR X (.builtin "len") (rLenU X.K) := call_len.or call_lenR
theorem cLen_ok : CallD K B (rLenU K) cLen := by
  intro P al M env σ H vs ds R Q rs r h L
  unfold cLen at h
  split at h
  · rename_i x
    cases r with
    | cons r1 t =>
      cases t
      split at h
      · rename_i s e; cases view_str r1 e; exact .inl ⟨_, _, rfl, ⟨h.1.out, rfl⟩, L.here rs (.int _) h.2⟩
      · rename_i l e
        obtain ⟨a, xs, rfl, h1, q1⟩ := view_dct rs.toRS0 r1 e
        exact .inr ⟨a, xs, rfl, .inl h1, by rw [q1.length] at h; exact L.here rs (.int _) h⟩
      · rename_i l e
        obtain ⟨a, xs, rfl, h1, q1⟩ := view_fdc rs.toRS0 r1 e
        exact .inr ⟨a, xs, rfl, h1, by rw [q1.length] at h; exact L.here rs (.int _) h⟩
      · split at h
        · rename_i l e
          obtain ⟨a, xs, rfl, h1, q1⟩ := view_seq rs.toRS0 r1 e
          rw [q1.length] at h
          refine .inl ⟨_, xs.length, rfl, ?_, L.here rs (.int _) h⟩
          rcases h1 with h1 | h1
          · exact .inl ⟨xs, h1, rfl⟩
          · exact .inr ⟨xs, h1, rfl⟩
        · exact h.elim
  · exact h.elim
def cInt : WCl := fun ds M R => match ds with
  | [.int i] => R (.int i) M
  | [.bl b] => R (.int (if b then 1 else 0)) M
  | _ => False
theorem cInt_ok : CallD K B (fun xs H Q => (∃ i, xs = [.int i] ∧ Q (.int i) H) ∨ ∃ k, xs = [.bl k] ∧ Q (.int (if k then 1 else 0)) H) cInt := by
  intro P al M env σ H vs ds R Q rs r h L
  unfold cInt at h
  split at h
  · cases r with | cons r1 t => cases t; cases r1; exact .inl ⟨_, rfl, L.here rs (.int _) h⟩
  · cases r with | cons r1 t => cases t; cases r1; exact .inr ⟨_, rfl, L.here rs (.int _) h⟩
  · exact h.elim
def absI (i : Int) : Int := if i < 0 then -i else i
def cAbs : WCl := fun ds M R => match ds with
  | [.int i] => R (.int (absI i)) M
  | _ => False
theorem cAbs_ok : CallD K B (fun xs H Q => ∃ i, xs = [.int i] ∧ Q (.int (if i < 0 then -i else i)) H) cAbs := by
  intro P al M env σ H vs ds R Q rs r h L
  unfold cAbs at h
  split at h
  · cases r with | cons r1 t => cases t; cases r1; exact ⟨_, rfl, L.here rs (.int _) h⟩
  · exact h.elim
/-- list(x), a new one -/
def cList (m : Bool) : WCl := fun ds M R => match ds with
  | [x] => match seqD (viewD M x) with
    | some l => if m then R (.cel M.length) (M ++ [.lst l]) else R (.lst l) M
    | none => False
  | _ => False
theorem cList_ok {m : Bool} : CallD K B (fun xs H Q => ∃ p ys, xs = [.ref p] ∧ (SqL K H p ys ∨ SqT K H p ys) ∧ ∀ l, H l = none → Q (.ref l) (upd H l (.lst ys))) (cList m) := by
  intro P al M env σ H vs ds R Q rs r h L
  unfold cList at h
  split at h
  · cases r with
    | cons r1 t =>
      cases t
      split at h
      · rename_i l e
        obtain ⟨a, xs, rfl, h1, q1⟩ := view_seq rs.toRS0 r1 e
        refine ⟨a, xs, rfl, h1, fun p hp => ?_⟩
        cases m with
        | true => exact L.allocM rs hp q1 h
        | false => exact L.alloc rs hp (.lst upd_same (q1.mono (same_new rs.toRS0 hp) (List.prefix_refl _))) h
      · exact h.elim
  · exact h.elim
def cTuple : WCl := fun ds M R => match ds with
  | [x] => match viewD M x with
    | .tup l => R (.tup l) M
    | .lst l => R (.tup l) M
    | .rol l => R (.tup l) M
    | _ => False
  | _ => False
theorem cTuple_ok : CallD K B (fun xs H Q => ∃ p ys, xs = [.ref p] ∧ ((SqL K H p ys ∧ ∀ l, H l = none → Q (.ref l) (upd H l (.tup ys))) ∨ (SqT K H p ys ∧ Q (.ref p) H))) cTuple := by
  intro P al M env σ H vs ds R Q rs r h L
  unfold cTuple at h
  split at h
  · cases r with
    | cons r1 t =>
      cases t
      split at h
      · rename_i l e
        obtain ⟨a, xs, rfl, h1, q1⟩ := view_tup rs.toRS0 r1 e
        rw [view_same rfl e] at r1
        exact ⟨a, xs, rfl, .inr ⟨h1, L.here rs r1 h⟩⟩
      · rename_i l e
        obtain ⟨a, xs, rfl, h1, q1⟩ := view_lst rs.toRS0 r1 e
        exact ⟨a, xs, rfl, .inl ⟨.inl (.inl h1), fun p hp => L.alloc rs hp (.tup (.inl (.inl upd_same)) (q1.mono (same_new rs.toRS0 hp) (List.prefix_refl _))) h⟩⟩
      · rename_i l e
        obtain ⟨a, xs, rfl, h1, q1⟩ := view_rol rs.toRS0 r1 e
        exact ⟨a, xs, rfl, .inl ⟨h1, fun p hp => L.alloc rs hp (.tup (.inl (.inl upd_same)) (q1.mono (same_new rs.toRS0 hp) (List.prefix_refl _))) h⟩⟩
      · exact h.elim
  · exact h.elim
def boolsD : List D → Option (List Bool)
  | [] => some []
  | .bl b :: r => (boolsD r).map (b :: ·)
  | _ => none
theorem bools_rep {P : Hp} {al : List Addr} : ∀ {ds : List D} {vs : List V} {bs : List Bool}, Reps K P al ds vs → boolsD ds = some bs → vs = bs.map V.bl
  | _, _, _, .nil, e => by cases e; rfl
  | _, _, _, .cons (d := d) (ds := ds) r t, e => by
    cases d <;> simp [boolsD] at e
    obtain ⟨bs, h, rfl⟩ := e
    cases r
    rw [bools_rep t h]; rfl
def lstD : D → Option (List D)
  | .lst l => some l
  | .rol l => some l
  | _ => none
theorem view_lstD {P : Hp} {al : List Addr} {M : Mt} {H : Hp} {d : D} {v : V} (r : RS0 K B P al M H) (q : Rep K P al d v) {ds : List D} (e : lstD (viewD M d) = some ds) : ∃ a xs, v = .ref a ∧ SqL K H a xs ∧ Reps K P al ds xs := by
  cases h : viewD M d <;> rw [h] at e <;> simp [lstD] at e
  · obtain ⟨a, xs, e1, e2, e3⟩ := view_lst r q h; subst e; exact ⟨a, xs, e1, .inl (.inl e2), e3⟩
  · obtain ⟨a, xs, e1, e2, e3⟩ := view_rol r q h; subst e; exact ⟨a, xs, e1, e2, e3⟩
def cAll (f : List Bool → Bool) : WCl := fun ds M R => match ds with
  | [x] => match lstD (viewD M x) with
    | some l => match boolsD l with
      | some bs => R (.bl (f bs)) M
      | none => False
    | none => False
  | _ => False
theorem cAll_ok {f : List Bool → Bool} : CallD K B (fun vs H Q => ∃ (a : Addr) (bs : List Bool), vs = [V.ref a] ∧ SqL K H a (bs.map V.bl) ∧ Q (.bl (f bs)) H) (cAll f) := by
  intro P al M env σ H vs ds R Q rs r h L
  unfold cAll at h
  split at h
  · cases r with
    | cons r1 t =>
      cases t
      split at h
      · rename_i l e1
        split at h
        · rename_i bs e2
          obtain ⟨a, xs, rfl, h1, q1⟩ := view_lstD rs.toRS0 r1 e1
          have := bools_rep q1 e2; subst this
          exact ⟨a, bs, rfl, h1, L.here rs (.bl _) h⟩
        · exact h.elim
      · exact h.elim
  · exact h.elim
/-- isinstance(x, T), T a built-in class -/
def tyN (M : Mt) (d : D) : Option String := match viewD M d with
  | .non => some "NoneType"
  | .bl _ => some "bool"
  | .int _ => some "int"
  | .str _ => some "str"
  | .tup _ => some "tuple"
  | .lst _ => some "list"
  | .dct _ => some "dict"
  | _ => none
/-- the answers, as a table -/
def isB (a b : String) : Bool := if a = b then true else if a = "bool" then decide (b = "int") else false
def isBs : List String := ["NoneType", "bool", "int", "str", "tuple", "list", "dict"]
theorem isB_ok : ∀ a ∈ isBs, ∀ b ∈ ["bool", "int", "str", "tuple", "list", "dict"], kitB a b = some (isB a b) := by decide +kernel
theorem tyN_ok {P : Hp} {al : List Addr} {M : Mt} {H : Hp} {d : D} {v : V} {n : String} (rs : RS0 K B P al M H) (r : Rep K P al d v) (e : tyN M d = some n) : n ∈ isBs ∧ TyX K H v (.type n) := by
  unfold tyN at e
  split at e <;> try cases e
  · rename_i h; cases view_non r h; exact ⟨by decide, .base .non⟩
  · rename_i h; cases view_bl r h; exact ⟨by decide, .base (.bl _)⟩
  · rename_i h; cases view_int r h; exact ⟨by decide, .base (.int _)⟩
  · rename_i h; cases view_str r h; exact ⟨by decide, .base (.str _)⟩
  · rename_i h
    obtain ⟨a, xs, rfl, h1, q1⟩ := view_tup rs r h
    refine ⟨by decide, ?_⟩
    rcases h1 with (h1 | ⟨o, h1⟩) | ⟨o, its, m, h1, h2, _⟩
    · exact .base (.tup h1)
    · exact .fTuple h1
    · exact .kTuple h1 h2
  · rename_i h
    obtain ⟨a, xs, rfl, h1, q1⟩ := view_lst rs r h
    exact ⟨by decide, .base (.lst h1)⟩
  · rename_i h
    obtain ⟨a, xs, rfl, h1, q1⟩ := view_dct rs r h
    exact ⟨by decide, .base (.dK h1)⟩
def cIsi : WCl := fun ds M R => match ds with
  | [x, .ty b] => match tyN M x with
    | some a => Need (b ∈ ["bool", "int", "str", "tuple", "list", "dict"]) ∧ R (.bl (isB a b)) M
    | none => False
  | _ => False
theorem cIsi_ok : CallD K B (rIsi K) cIsi := by
  intro P al M env σ H vs ds R Q rs r h L
  unfold cIsi at h
  split at h
  · cases r with
    | cons r1 t => cases t with
      | cons r2 t =>
        cases t; cases r2
        split at h
        · rename_i b _ a e
          obtain ⟨m, ty⟩ := tyN_ok rs.toRS0 r1 e
          exact ⟨_, _, _, _, _, rfl, .ty _, ty, kit_ty (isB_ok a m _ h.1.out), L.here rs (.bl _) h.2⟩
        · exact h.elim
  · exact h.elim
end
end L3

namespace L3
open PySem PySem.Spec PyProof.Rows L2
/-! ### dicts -/
section
variable {κ : Type} [DecidableEq κ]
def valD (kvs : List (κ × D)) (k : κ) : Option D := (kvs.find? fun kv => decide (kv.1 = k)).map (·.2)
def putD (kvs : List (κ × D)) (k : κ) (v : D) : List (κ × D) :=
  if (kvs.any fun kv => decide (kv.1 = k)) = true then kvs.map (fun kv => if kv.1 = k then (kv.1, v) else kv) else kvs ++ [(k, v)]
def mergeD (kvs more : List (κ × D)) : List (κ × D) := more.foldl (fun acc kv => putD acc kv.1 kv.2) kvs
end
section
variable {K : PySem.W.Frag} {P : Hp} {al : List Addr}
theorem RepKs.val : ∀ {ks : List (Key × D)} {vs : List (Key × V)}, RepKs K P al ks vs → ∀ (k : Key), (∀ d, valD ks k = some d → ∃ v, valV vs k = some v ∧ Rep K P al d v) ∧ (valD ks k = none → valV vs k = none)
  | _, _, .nil, k => ⟨fun d h => by simp [valD] at h, fun _ => rfl⟩
  | _, _, .cons (k := j) (d := d) (v := v) (ds := ds) (vs := vs) r t, k => by
    have ih := t.val k
    by_cases h : j = k
    · subst h
      have e1 : valD ((j, d) :: ds) j = some d := by simp [valD]
      have e2 : valV ((j, v) :: vs) j = some v := valV_pos rfl
      refine ⟨fun d' h => ?_, fun h => ?_⟩
      · rw [e1] at h; cases h; exact ⟨v, e2, r⟩
      · rw [e1] at h; cases h
    · have e1 : valD ((j, d) :: ds) k = valD ds k := by simp [valD, List.find?_cons, h]
      have e2 : valV ((j, v) :: vs) k = valV vs k := valV_neg h
      rw [e1, e2]; exact ih
theorem RepKs.any : ∀ {ks : List (Key × D)} {vs : List (Key × V)}, RepKs K P al ks vs → ∀ (k : Key), (ks.any fun kv => decide (kv.1 = k)) = vs.any fun kv => decide (kv.1 = k)
  | _, _, .nil, k => rfl
  | _, _, .cons r t, k => by rw [List.any_cons, List.any_cons, t.any k]
theorem RepKs.repl {d : D} {v : V} (q : Rep K P al d v) (k : Key) : ∀ {ks : List (Key × D)} {vs : List (Key × V)}, RepKs K P al ks vs → RepKs K P al (ks.map fun kv => if kv.1 = k then (kv.1, d) else kv) (vs.map fun kv => if kv.1 = k then (kv.1, v) else kv)
  | _, _, .nil => .nil
  | _, _, .cons (k := j) r t => by
    rw [List.map_cons, List.map_cons]
    by_cases h : j = k
    · simp only [h, if_true]; exact .cons q (t.repl q k)
    · simp only [h, if_false]; exact .cons r (t.repl q k)
theorem RepKs.snoc {d : D} {v : V} (q : Rep K P al d v) (k : Key) : ∀ {ks : List (Key × D)} {vs : List (Key × V)}, RepKs K P al ks vs → RepKs K P al (ks ++ [(k, d)]) (vs ++ [(k, v)])
  | _, _, .nil => .cons q .nil
  | _, _, .cons r t => .cons r (t.snoc q k)
theorem RepKs.put {d : D} {v : V} {ks : List (Key × D)} {vs : List (Key × V)} (r : RepKs K P al ks vs) (q : Rep K P al d v) (k : Key) : RepKs K P al (putD ks k d) (putK vs k v) := by
  unfold putD putK
  rw [r.any k]
  by_cases h : (vs.any fun kv => decide (kv.1 = k)) = true
  · rw [if_pos h, if_pos h]; exact r.repl q k
  · rw [if_neg h, if_neg h]; exact r.snoc q k
theorem RepKs.merge : ∀ {more : List (Key × D)} {moreV : List (Key × V)} {ks : List (Key × D)} {vs : List (Key × V)}, RepKs K P al more moreV → RepKs K P al ks vs → RepKs K P al (mergeD ks more) (mergeK vs moreV)
  | _, _, _, _, .nil, r => r
  | _, _, ks, vs, .cons (k := k) (d := d) (v := v) (ds := ds) (vs := vs') q t, r => by
    have h := RepKs.merge t (r.put q k)
    exact h
end
def keyD : D → Option Key
  | .int i => some (.inl i)
  | .str s => some (.inr s)
  | _ => none
theorem key_rep {K : PySem.W.Frag} {P : Hp} {al : List Addr} {d : D} {v : V} {k : Key} (r : Rep K P al d v) (e : keyD d = some k) : v = kV k := by
  cases r <;> simp [keyD] at e <;> subst e <;> rfl
section
variable {X : Cx} {B : Bs} {K : PySem.W.Frag} {a b o i e value : Expr} {es : List Expr} {wa wb we wo wi wv : WE} {was : WA} {pos tpos pos' : Pos}
/-- {} -/
def wDict0 (m : Bool) : WE := fun env M R => if m then R (.cel M.length) (M ++ [.dct []]) else R (.dct []) M
theorem Lift.allocDM {P : Hp} {al : List Addr} {M : Mt} {env : Ev} {σ : L2.St} {H : Hp} {p : Addr} {R : D → Mt → Prop} {Q : VK} (L : Lift K B P al env σ H R Q) (rs : RS K B P al M env σ H) (hp : H p = none) {ds : List (Key × D)} {vs : List (Key × V)} (r : RepKs K P al ds vs)
    (q : R (.cel M.length) (M ++ [.dct ds])) : Q (.ref p) (upd H p (.dK vs)) := by
  obtain ⟨e, r0⟩ := rs.toRS0.allocM (m := .dct ds) (o := .dK vs) hp fun P' al' s h hn H' e => ⟨hn, vs, e, r.mono s h⟩
  refine L _ _ _ _ _ _ e (rs.step e r0) (.cel ?_) q
  rw [← rs.len, List.getElem?_append_right (Nat.le_refl _), Nat.sub_self]; rfl
theorem d_dict0 (m : Bool) : DE B X (.Dict [] [] pos) (wDict0 m) := by
  refine pe_dnewK.imp fun σ H Q => ?_
  rintro ⟨P, al, M, env, R, rs, hw, L⟩
  intro p hp
  cases m with
  | true => exact L.allocDM rs hp .nil hw
  | false => exact L.alloc rs hp (.dct upd_same .nil) hw
theorem RepKs.len {P : Hp} {al : List Addr} : ∀ {ds : List (Key × D)} {vs : List (Key × V)}, RepKs K P al ds vs → ds.length = vs.length
  | _, _, .nil => rfl
  | _, _, .cons _ t => by simp [RepKs.len t]
/-- d[k] -/
@[irreducible] def oDGet : WO2 := fun x y M R => match viewD M x, keyD y with
  | .dct ks, some k => match valD ks k with
    | some d => R d M
    | none => False
  | .fdc ks, some k => match valD ks k with
    | some d => R d M
    | none => False
  | _, _ => False
theorem d_dget (hu : X.A.units + 1 < cLine) (ho : DE B X o wo) (hi : DE B X i wi) (hs : NoSl i := by intro _ _; rfl) : DE B X (.Subscript o i pos) (wOp oDGet wo wi) := by
  refine (pe_dget hu ho hi hs).imp fun σ H Q => ?_
  rintro ⟨P, al, M, env, R, rs, hw, L⟩
  refine ⟨P, al, M, env, _, rs, hw, fun d1 M1 v1 H1 P1 al1 e1 rs1 r1 hw1 => ⟨P1, al1, M1, env, _, rs1, hw1, fun d2 M2 v2 H2 P2 al2 e2 rs2 r2 q => ?_⟩⟩
  unfold oDGet at q
  split at q
  · rename_i ks k h1 h2
    split at q
    · rename_i d hd
      obtain ⟨a, xs, rfl, g1, g2⟩ := view_dct rs2.toRS0 (r1.mono e2.pp e2.pre) h1
      obtain ⟨v, g3, g4⟩ := (g2.val k).1 d hd
      refine ⟨a, v, rfl, .inl ⟨xs, k, .inl g1, key_rep r2 h2, g3.symm⟩, L _ _ _ _ _ _ (e1.trans e2) rs2 g4 q⟩
    · exact q.elim
  · rename_i ks k h1 h2
    split at q
    · rename_i d hd
      obtain ⟨a, xs, rfl, g1, g2⟩ := view_fdc rs2.toRS0 (r1.mono e2.pp e2.pre) h1
      obtain ⟨v, g3, g4⟩ := (g2.val k).1 d hd
      refine ⟨a, v, rfl, .inl ⟨xs, k, g1, key_rep r2 h2, g3.symm⟩, L _ _ _ _ _ _ (e1.trans e2) rs2 g4 q⟩
    · exact q.elim
  · exact q.elim
/-- k in d, k not in d -/
def oDIn (neg : Bool) : WO2 := fun x y M R => match viewD M y, keyD x with
  | .dct ks, some k => R (.bl (if neg then !(valD ks k).isSome else (valD ks k).isSome)) M
  | .fdc ks, some k => R (.bl (if neg then !(valD ks k).isSome else (valD ks k).isSome)) M
  | _, _ => False
theorem some_iff {K : PySem.W.Frag} {P : Hp} {al : List Addr} {ks : List (Key × D)} {vs : List (Key × V)} (r : RepKs K P al ks vs) (k : Key) : (valV vs k).isSome = (valD ks k).isSome := by
  cases h : valD ks k with
  | none => rw [(r.val k).2 h] <;> rfl
  | some d => obtain ⟨v, g, _⟩ := (r.val k).1 d h; rw [g] <;> rfl
theorem dc_notin (hu : X.A.units + 1 < cLine) (hi : DE B X i wi) (ho : DE B X o wo) : PC X .NotIn i o (fun σ H Q => tD X.K B (wOp (oDIn true) wi wo) σ H Q) := by
  refine ⟨fun pins s σ H Q I h => (pc_dnotin hu hi ho).run pins s σ H Q I ?_⟩
  obtain ⟨P, al, M, env, R, rs, hw, L⟩ := h
  refine ⟨P, al, M, env, _, rs, hw, fun d1 M1 v1 H1 P1 al1 e1 rs1 r1 hw1 => ⟨P1, al1, M1, env, _, rs1, hw1, fun d2 M2 v2 H2 P2 al2 e2 rs2 r2 q => ?_⟩⟩
  unfold oDIn at q
  split at q
  · rename_i ks k h1 h2
    obtain ⟨a, xs, rfl, g1, g2⟩ := view_dct rs2.toRS0 r2 h1
    refine ⟨a, _, rfl, .inl ⟨xs, k, .inl g1, key_rep r1 h2, rfl⟩, ?_⟩
    rw [some_iff g2 k]
    exact L _ _ _ _ _ _ (e1.trans e2) rs2 (.bl _) q
  · rename_i ks k h1 h2
    obtain ⟨a, xs, rfl, g1, g2⟩ := view_fdc rs2.toRS0 r2 h1
    refine ⟨a, _, rfl, .inl ⟨xs, k, g1, key_rep r1 h2, rfl⟩, ?_⟩
    rw [some_iff g2 k]
    exact L _ _ _ _ _ _ (e1.trans e2) rs2 (.bl _) q
  · exact q.elim
/-- d[k] = v, d a dict that changes -/
@[irreducible] def dput (x y d : D) (M : Mt) (R : Mt → Prop) : Prop := match x, keyD y with
  | .cel n, some j => match M[n]? with
    | some (.dct ks) => Need (ks.length < sizeLine) ∧ R (M.set n (.dct (putD ks j d)))
    | _ => False
  | _, _ => False
def wDPut (wo wi wv : WE) : WS := fun k env M => wv env M fun d M1 => wo env M1 fun x M2 => wi env M2 fun y M3 => dput x y d M3 (k.nx env)
theorem d_dput (hu : X.A.units + 1 < cLine) (ho : DE B X o wo) (hi : DE B X i wi) (hv : DE B X value wv) (hs : swapsWith value (some (.Subscript o i pos')) pos.line X.env = pure false := by rfl) : DS B X (.Assign [.Subscript o i pos'] value pos) (wDPut wo wi wv) := by
  refine (ps_dput hu ho hi hv hs).imp fun D σ H => ?_
  rintro ⟨P, al, M, env, k, rs, hw, L⟩
  refine ⟨P, al, M, env, _, rs, hw, fun d1 M1 v1 H1 P1 al1 e1 rs1 r1 hw1 => ⟨P1, al1, M1, env, _, rs1, hw1, fun d2 M2 v2 H2 P2 al2 e2 rs2 r2 hw2 => ⟨P2, al2, M2, env, _, rs2, hw2, fun d3 M3 v3 H3 P3 al3 e3 rs3 r3 q => ?_⟩⟩⟩
  unfold dput at q
  split at q
  · rename_i n j h1
    split at q
    · rename_i ks hm
      obtain ⟨a, rfl, ha, _, xs, g1, g2⟩ := cell_at rs3.toRS0 hm (r2.mono e3.pp e3.pre)
      have r1' := r1.mono (e2.trans e3).pp (e2.trans e3).pre
      obtain ⟨e4, r4⟩ := rs3.toRS0.change (o' := .dK (putK xs j v1)) (m' := .dct (putD ks j d1)) ha hm rfl fun H' hH => ⟨(live_cell rfl (rs3.cell n a _ ha hm)).1, _, hH, g2.put r1' j⟩
      refine ⟨a, _, rfl, .inl ⟨xs, j, g1, key_rep r3 h1, by rw [← g2.len]; exact q.1.out, rfl⟩, ?_⟩
      exact L.nx _ _ _ _ _ _ (e1.trans (e2.trans (e3.trans e4))) (rs3.step e4 r4) q.2
    · exact q.elim
  · exact q.elim

/-! ### methods of built-in types -/
def tyM (T : String) (d : D) : Prop := match d with
  | .str _ => T = "str"
  | .lst _ => T = "list"
  | .rol _ => T = "list"
  | .dct _ => T = "dict"
  | _ => False
abbrev WM := D → List D → Mt → (D → Mt → Prop) → Prop
def wBM (T : String) (m : WM) (wo : WE) (was : WA) : WE := fun env M R => wo env M fun x M1 => Need (tyM T (viewD M1 x)) ∧ was env M1 fun ds M2 => m x ds M2 R
def MethD (K : PySem.W.Frag) (B : Bs) (r : V → List V → Hp → VK → Prop) (m : WM) : Prop := ∀ P al M env σ H x dx vs ds R Q, RS K B P al M env σ H → Rep K P al dx x → Reps K P al ds vs → m dx ds M R → Lift K B P al env σ H R Q → r x vs H Q
theorem tyM_ok {P : Hp} {al : List Addr} {M : Mt} {H : Hp} {d : D} {v : V} {T : String} (rs : RS0 K B P al M H) (r : Rep K P al d v) (e : tyM T (viewD M d)) : tyV K T v H := by
  unfold tyM at e
  split at e
  · rename_i h; cases view_str r h; exact e
  · rename_i h; obtain ⟨a, xs, rfl, h1, _⟩ := view_lst rs r h; exact .inl ⟨e, xs, .inl (.inl h1)⟩
  · rename_i h; obtain ⟨a, xs, rfl, h1, _⟩ := view_rol rs r h; exact .inl ⟨e, xs, h1⟩
  · rename_i h; obtain ⟨a, xs, rfl, h1, _⟩ := view_dct rs r h; exact .inr (.inr (.inl ⟨e, .inl ⟨xs, h1⟩⟩))
  · exact e.elim
theorem bm_imp {r : V → List V → Hp → VK → Prop} {m : WM} {T : String} (h : MethD K B r m) (σ : L2.St) (H : Hp) (Q : VK) : tD K B (wBM T m wo was) σ H Q → tBM K T r (tD K B wo) (tDA K B was) σ H Q := by
  rintro ⟨P, al, M, env, R, rs, hw, L⟩
  exact ⟨P, al, M, env, _, rs, hw, fun d1 M1 v1 H1 P1 al1 e1 rs1 r1 hw1 => ⟨tyM_ok rs1.toRS0 r1 hw1.1.out, P1, al1, M1, env, _, rs1, hw1.2, fun ds M2 vs H2 P2 al2 e2 rs2 r2 q =>
    h _ _ _ _ _ _ _ _ _ _ _ _ rs2 (r1.mono e2.pp e2.pre) r2 q (L.after (e1.trans e2))⟩⟩
theorem d_bm {T id : String} {name : Str} {apos cpos : Pos} {r : V → List V → Hp → VK → Prop} {m : WM} (pa : PlainAttrs T) (slot : Slot T name id) (hty : typeOf (.builtin id) = pure (.type "method_descriptor")) (hm : MtR X id r) (h : MethD X.K B r m) (ho : DE B X o wo) (ha : DA B X (e :: es) was)
    (hbase : attributeBase o name X.env (eval o X.env) = eval o X.env := by rfl)
    (hfew : ((backTo cpos (starEach (e :: es) X.env)).all (fun x => !x.1) && (backToKw cpos (keywordEach [] X.env)).all (fun x => x.1.isSome)
      && decide ((e :: es).length + ([] : List Keyword).length + (if ([] : List Keyword).isEmpty then 0 else 1) < 30)) = true := by rfl)
    (hline : (apos.endLine == cpos.line) = true := by rfl) (hs : starEach (e :: es) X.env = (false, eval e X.env) :: starEach es X.env := by rfl) (hplain : (backTo cpos (starEach es X.env)).any (·.1) = false := by rfl) :
    DE B X (.Call (.Attribute o name apos) (e :: es) [] cpos) (wBM T m wo was) := (pe_bm pa slot hty hm ho ha hbase hfew hline hs hplain).imp (bm_imp h)
@[irreducible] def mAppend : WM := fun x ds M R => match x, ds with
  | .cel n, [d] => match M[n]? with
    | some (.lst l) => Need (l.length < sizeLine) ∧ R .non (M.set n (.lst (l ++ [d])))
    | _ => False
  | _, _ => False
theorem mAppend_ok : MethD K B rAppend mAppend := by
  intro P al M env σ H x dx vs ds R Q rs r1 r2 h L
  unfold mAppend at h
  split at h
  · rename_i n d
    cases r2 with
    | cons q1 t =>
      cases t
      split at h
      · rename_i l hm
        obtain ⟨a, rfl, ha, _, xs, g1, g2⟩ := cell_at rs.toRS0 hm r1
        obtain ⟨e4, r4⟩ := rs.toRS0.change (o' := .lst (xs ++ [_])) (m' := .lst (l ++ [d])) ha hm rfl fun H' hH => ⟨(live_cell rfl (rs.cell n a _ ha hm)).1, _, hH, g2.append (.cons q1 .nil)⟩
        exact ⟨a, xs, _, rfl, rfl, g1, by rw [← g2.length]; exact h.1.out, L _ _ _ _ _ _ e4 (rs.step e4 r4) .non h.2⟩
      · exact h.elim
  · exact h.elim
@[irreducible] def mPopAt : WM := fun x ds M R => match x, ds with
  | .cel n, [.int i] => match M[n]? with
    | some (.lst l) => Need (-(2 ^ 63) ≤ i ∧ i < 2 ^ 63) ∧ (match seqIndex? i l.length with
      | some k => match l[k]? with
        | some d => R d (M.set n (.lst (l.eraseIdx k)))
        | none => False
      | none => False)
    | _ => False
  | _, _ => False
theorem mPopAt_ok : MethD K B rPopAt mPopAt := by
  intro P al M env σ H x dx vs ds R Q rs r1 r2 h L
  unfold mPopAt at h
  split at h
  · rename_i n i
    cases r2 with
    | cons q1 t =>
      cases t; cases q1
      split at h
      · rename_i l hm
        obtain ⟨⟨h1, h2⟩, h3⟩ := h
        split at h3
        · rename_i k hk
          split at h3
          · rename_i d hd
            obtain ⟨a, rfl, ha, _, xs, g1, g2⟩ := cell_at rs.toRS0 hm r1
            obtain ⟨v, g3, g4⟩ := g2.get hd
            obtain ⟨e4, r4⟩ := rs.toRS0.change (o' := .lst (xs.eraseIdx k)) (m' := .lst (l.eraseIdx k)) ha hm rfl fun H' hH => ⟨(live_cell rfl (rs.cell n a _ ha hm)).1, _, hH, g2.erase k⟩
            exact ⟨a, xs, i, k, v, rfl, rfl, g1, h1, h2, by rw [← g2.length]; exact hk, g3, L _ _ _ _ _ _ e4 (rs.step e4 r4) (g4.mono e4.pp e4.pre) h3⟩
          · exact h3.elim
        · exact h3.elim
      · exact h.elim
  · exact h.elim

/-! ### names of the module -/
theorem d_gint {x : Str} {n : Int} {t : Tok} (hm : X.mg x = some (.int n t)) (hg : Gl X x := by rfl) (hd : (x == ("__debug__" : Str)) = false := by decide) : DE B X (.Name x pos) (wC (.int n)) := d_C (v := .int n) (pe_glob hg hm ⟨_, rfl⟩ hd) fun _ _ => .int n
theorem d_gstr {x : Str} {s : Str} {t : Tok} (hm : X.mg x = some (.str s t)) (hg : Gl X x := by rfl) (hd : (x == ("__debug__" : Str)) = false := by decide) : DE B X (.Name x pos) (wC (.str s)) := d_C (v := .str s) (pe_glob hg hm ⟨_, rfl⟩ hd) fun _ _ => .str s
theorem d_ty {x : Str} {T : String} (hm : X.mg x = none) (hv : bootBuiltins x = some (.type T)) (hg : Gl X x := by rfl) (hn : x ≠ "__name__" := by decide) (hd : (x == ("__debug__" : Str)) = false := by decide) : DE B X (.Name x pos) (wC (.ty T)) := d_C (v := .ty T) (pe_bltn hg hm hv rfl hn hd) fun _ _ => .ty T
/-- a tuple of texts and numbers that the top made -/
def constD : Value → Option D
  | .none => some .non
  | .bool b => some (.bl b)
  | .int i _ => some (.int i)
  | .str s _ => some (.str s)
  | _ => none
def constDs : List Value → Option (List D)
  | [] => some []
  | v :: r => match constD v, constDs r with
    | some d, some ds => some (d :: ds)
    | _, _ => none
theorem const_rep : ∀ {us : List Value} {ds : List D}, constDs us = some ds → ∃ vs, Vals vs us ∧ ∀ P al, Reps K P al ds vs
  | [], ds, e => by cases e; exact ⟨[], .nil, fun _ _ => .nil⟩
  | v :: r, ds, e => by
    unfold constDs at e
    split at e
    · rename_i d ds' h1 h2
      cases e
      obtain ⟨vs, h3, h4⟩ := const_rep h2
      cases v <;> simp [constD] at h1 <;> subst h1
      · exact ⟨.non :: vs, .cons rfl h3, fun P al => .cons .non (h4 P al)⟩
      · exact ⟨.bl _ :: vs, .cons rfl h3, fun P al => .cons (.bl _) (h4 P al)⟩
      · exact ⟨.int _ :: vs, .cons ⟨_, rfl⟩ h3, fun P al => .cons (.int _) (h4 P al)⟩
      · exact ⟨.str _ :: vs, .cons ⟨_, rfl⟩ h3, fun P al => .cons (.str _) (h4 P al)⟩
    · cases e
theorem d_gtup {x : Str} {a : Addr} {o : Obj} {its : Array Value} {n : Nat} {ds : List D} (hm : X.mg x = some (.ref a)) (hk : X.K.lookup a = some o) (hc : o.cls = .type "tuple") (hd : o.data = .seq its n) (hz : its.size ≤ sizeLine) (he : constDs its.toList = some ds)
    (hg : Gl X x := by rfl) (hdb : (x == ("__debug__" : Str)) = false := by decide) : DE B X (.Name x pos) (wC (.tup ds)) := by
  obtain ⟨vs, h1, h2⟩ := const_rep (K := X.K) he
  exact d_C (v := .ref a) (pe_glob hg hm rfl hdb) fun P al => .tup (.inr ⟨o, its, n, hk, hc, hd, hz, h1⟩) (h2 P al)
end
end L3

namespace L3
open PySem PySem.Spec PyProof.Rows L2
/-! ### plain facts for the ends of a step -/
theorem cdivw {i j : Int} (h : 0 < j) (h2 : j < 1073741824) : CDivW i j :=
  wide_div (b := 30) h (by omega) (by decide) (by decide)
theorem cpow {i j : Int} (h : 0 ≤ j) (h2 : j ≤ 1000000) (h3 : -18446744073709551616 < i) (h4 : i < 18446744073709551616) : CPow i j := ⟨h, h2, by omega⟩
theorem cmul_l {i j : Int} (h3 : -18446744073709551616 < i) (h4 : i < 18446744073709551616) : CMulU i j := .inl (.inl ⟨by omega, by omega⟩)
theorem cmul_r {i j : Int} (h3 : -18446744073709551616 < j) (h4 : j < 18446744073709551616) : CMulU i j := .inl (.inr ⟨by omega, by omega⟩)
theorem toPs_map {α : Type} {f : α → D} {g : α → PyData} (h : ∀ x, toP (f x) = some (g x)) : ∀ l : List α, toPs (l.map f) = some (l.map g)
  | [] => rfl
  | x :: r => by simp only [List.map_cons, toPs, h, toPs_map h r]
theorem canLay_map {α : Type} {g : α → PyData} : ∀ {l : List α}, (∀ x ∈ l, PyData.canLay0 (g x) = true) → PyData.canLayAll0 (l.map g) = true
  | [], _ => rfl
  | x :: r, h => by
    rw [List.map_cons]
    simp only [PyData.canLayAll0, h x List.mem_cons_self, canLay_map fun y hy => h y (List.mem_cons_of_mem _ hy), Bool.and_self]
theorem depth_map {α : Type} {g : α → PyData} {n : Nat} : ∀ {l : List α}, (∀ x ∈ l, PyData.depth (g x) ≤ n) → PyData.depthAll (l.map g) ≤ n
  | [], _ => Nat.zero_le _
  | x :: r, h => by
    rw [List.map_cons]
    simp only [PyData.depthAll]
    exact Nat.max_le.mpr ⟨h x List.mem_cons_self, depth_map fun y hy => h y (List.mem_cons_of_mem _ hy)⟩
theorem shaped_map {α : Type} {g : α → PyData} {l : List α} (h : ∀ x ∈ l, PyData.canLay0 (g x) = true) (h2 : ∀ x ∈ l, PyData.depth (g x) ≤ 63) : SeqAt.shaped (.list (l.map g)) = true := by
  unfold SeqAt.shaped
  simp only [PyData.canLay0, canLay_map h, PyData.depth, Bool.true_and]
  have := depth_map h2
  exact decide_eq_true (by omega)
theorem plain_ints (l : List Int) : plainOk (l.map D.int) := ⟨_, toPs_map (g := .int) (fun _ => rfl) l, shaped_map (fun _ _ => rfl) fun _ _ => Nat.zero_le _⟩
theorem line16 : (sizeLine : Nat) = 16777216 := sizeLine_eq
theorem atI_in {α : Type} {xs : List α} {i : Int} (h : 0 ≤ i) (h2 : i < xs.length) : L2.atI xs i = xs[i.toNat]? := by
  have e : ixN xs.length i = some i.toNat := by unfold ixN; rw [if_pos h, if_pos h2]
  unfold L2.atI; rw [e]; rfl
/-! ### loops and comprehensions by what they do -/
theorem bnd_mono {is : List Nat} {d : D} {env : Ev} {k k' : Ev → Prop} (h : ∀ e, k e → k' e) (q : bnd is d env k) : bnd is d env k' := by
  rcases is with _ | ⟨i, _ | ⟨j, _ | ⟨l, r⟩⟩⟩
  · exact False.elim q
  · exact h _ q
  · cases d with
    | tup l =>
      rcases l with _ | ⟨x, _ | ⟨y, _ | ⟨z, r⟩⟩⟩
      · exact False.elim q
      · exact False.elim q
      · exact h _ q
      · exact False.elim q
    | _ => exact False.elim q
  · exact False.elim q
/-- a comprehension whose element and test are functions of the item -/
theorem lcL_fun {is vs : List Nat} {t : WTs} {we : WE} {env : Ev} {M : Mt} (p : D → Bool) (f : D → D) : ∀ (ds acc : List D) (R : List D → Mt → Prop), acc.length + ds.length ≤ sizeLine →
    (∀ d ∈ ds, ∀ (A : D → Mt → Prop) (C : Mt → Prop), (p d = true → A (f d) M) → (p d = false → C M) → bnd is d (wipeE env vs) fun env1 => t env1 M fun b M2 => ifB b (we env1 M2 A) (C M2)) →
    R (acc ++ (ds.filter p).map f) M → lcL is t we vs env ds acc M R
  | [], acc, R, _, _, h => by
    show R acc M
    simpa using h
  | d :: r, acc, R, hl, hs, h => by
    refine hs d List.mem_cons_self _ _ (fun hp => ⟨⟨by simp at hl; omega⟩, ?_⟩) fun hp => ?_
    · refine lcL_fun p f r (acc ++ [f d]) R (by simp at hl ⊢; omega) (fun x hx => hs x (List.mem_cons_of_mem _ hx)) ?_
      rw [List.filter_cons_of_pos hp, List.map_cons] at h
      simpa using h
    · refine lcL_fun p f r acc R (by simp at hl ⊢; omega) (fun x hx => hs x (List.mem_cons_of_mem _ hx)) ?_
      rw [List.filter_cons_of_neg (by simp [hp])] at h
      exact h
/-- without a test -/
theorem lcL_map {is vs : List Nat} {we : WE} {env : Ev} {M : Mt} (f : D → D) (ds : List D) (R : List D → Mt → Prop) (hl : ds.length ≤ sizeLine)
    (hs : ∀ d ∈ ds, ∀ (A : D → Mt → Prop), A (f d) M → bnd is d (wipeE env vs) fun env1 => we env1 M A) (h : R (ds.map f) M) : lcL is wYes we vs env ds [] M R := by
  refine lcL_fun (fun _ => true) f ds [] R (by simpa using hl) (fun d hd A C hA _ => ?_) (by rw [List.filter_eq_self.mpr fun _ _ => rfl]; exact h)
  exact bnd_mono (fun e q => ⟨fun _ => q, fun z => by cases z⟩) (hs d hd A (hA rfl))
theorem boolsD_map {α : Type} {f : α → D} {g : α → Bool} (h : ∀ x, f x = .bl (g x)) : ∀ l : List α, boolsD (l.map f) = some (l.map g)
  | [] => rfl
  | x :: r => by simp only [List.map_cons, h, boolsD, boolsD_map h r, Option.map_some]
theorem mem_chars {s : Str} {d : D} (h : d ∈ chars s) : ∃ c, c ∈ s.cps.toList ∧ d = .str ⟨#[c]⟩ := by
  obtain ⟨c, h1, h2⟩ := List.mem_map.mp h
  exact ⟨c, h1, h2.symm⟩
theorem chars_map (s : Str) (f : D → D) : (chars s).map f = s.cps.toList.map fun c => f (.str ⟨#[c]⟩) := by
  unfold chars; rw [List.map_map]; rfl
theorem chars_len (s : Str) : (chars s).length = s.length := by
  unfold chars; rw [List.length_map, Array.length_toList]; rfl
/-- a for loop by an invariant over the turn -/
theorem forL_inv {g : WG} {b : WS} {k : DEnds} (I : Nat → Ev → Mt → Prop) {ds : List D} {env : Ev} {M : Mt} (h0 : I 0 env M)
    (hs : ∀ (i : Nat) (d : D) (env : Ev) (M : Mt), ds[i]? = some d → I i env M → g d env M fun env1 M1 => b { nx := I (i + 1), ct := I (i + 1), bk := k.nx, rt := k.rt } env1 M1)
    (hd : ∀ env M, I ds.length env M → k.nx env M) : forL g b k ds env M := by
  have key : ∀ (n i : Nat), i + n = ds.length → ∀ env M, I i env M → forL g b k (ds.drop i) env M := by
    intro n
    induction n with
    | zero =>
      intro i hi env M h
      rw [List.drop_eq_nil_of_le (by omega)]
      have : i = ds.length := by omega
      subst this
      exact hd _ _ h
    | succ n ih =>
      intro i hi env M h
      have hlt : i < ds.length := by omega
      rw [List.drop_eq_getElem_cons hlt]
      exact ⟨I (i + 1), fun env' M' h' => ih (i + 1) (by omega) env' M' h', hs i _ env M (List.getElem?_eq_getElem hlt) h⟩
  have := key ds.length 0 (by omega) env M h0
  simpa using this
/-- the law's call: the script is a list that is read alone -/
theorem law_sp {K : PySem.W.Frag} {H : Hp} {a : Addr} {ns : List Int} {sp : DSp} {E : XK} (hsp : ∀ ns : List Int, ns.length ≤ 63 → ∀ R RX, (∀ M, R (.bl true) M) → sp [.rol (ns.map D.int)] [] R RX) (hl : ns.length ≤ 63) (hS : SqL K H a (ns.map V.int)) :
    toSp K sp [.ref a] H (fun v _ => v = .bl true) E := by
  have hr : ∀ l : List Int, Reps K H [] (l.map D.int) (l.map V.int) := fun l => by
    induction l with
    | nil => exact .nil
    | cons x r ih => exact .cons (.int x) ih
  refine ⟨H, [], [], _, fun d _ => d = .bl true, RX0, ⟨Ext.refl, Same.refl _, rfl, fun i a m h => by simp at h, fun i j a m n h => by simp at h, fun a h => by cases h⟩, .cons (.rol hS (hr ns)) .nil, hsp ns hl _ _ fun _ => rfl, fun d M' v H' P' al' e r0 r hd => ?_, fun _ _ _ _ _ _ _ _ _ _ _ _ z => z.elim⟩
  subst hd; cases r; rfl
end L3

namespace L3
open PySem PySem.Spec PyProof.Rows L2
/-! ### fields -/
section
variable {K : PySem.W.Frag} {B B' : Bs} {P P' : Hp} {al al' : List Addr} {M M' : Mt} {env : Ev} {σ : L2.St} {H H' : Hp} {a p : Addr} {d : D} {v : V} {f : Str}
theorem RepFs.length : ∀ {fs : List (Str × D)} {gs : List (Str × V)}, RepFs K P al fs gs → fs.length = gs.length
  | _, _, .nil => rfl
  | _, _, .cons _ t => by simp [RepFs.length t]
theorem RepFs.find : ∀ {fs : List (Str × D)} {gs : List (Str × V)}, RepFs K P al fs gs → fs.lookup f = some d → ∃ v, gs.lookup f = some v ∧ Rep K P al d v
  | _, _, .nil, e => by cases e
  | _, _, .cons (k := k) r t, e => by
    by_cases h : (f == k) = true
    · rw [List.lookup, h] at e; cases e
      exact ⟨_, by rw [List.lookup, h], r⟩
    · have h : (f == k) = false := by simpa using h
      rw [List.lookup, h] at e
      obtain ⟨v, h1, h2⟩ := RepFs.find t e
      exact ⟨v, by rw [List.lookup, h]; exact h1, h2⟩
theorem RepFs.lack : ∀ {fs : List (Str × D)} {gs : List (Str × V)}, RepFs K P al fs gs → fs.lookup f = none → gs.lookup f = none
  | _, _, .nil, _ => rfl
  | _, _, .cons (k := k) r t, e => by
    by_cases h : (f == k) = true
    · rw [List.lookup, h] at e; cases e
    · have h : (f == k) = false := by simpa using h
      rw [List.lookup, h] at e ⊢
      exact RepFs.lack t e
def putFD (f : Str) (d : D) : List (Str × D) → List (Str × D)
  | [] => [(f, d)]
  | (g, x) :: r => if g = f then (g, d) :: r else (g, x) :: putFD f d r
theorem RepFs.put (q : Rep K P al d v) : ∀ {fs : List (Str × D)} {gs : List (Str × V)}, RepFs K P al fs gs → RepFs K P al (putFD f d fs) (putF f v gs)
  | _, _, .nil => .cons q .nil
  | _, _, .cons (k := k) r t => by
    unfold putFD putF
    by_cases h : k = f
    · rw [if_pos h, if_pos h]; exact .cons q t
    · rw [if_neg h, if_neg h]; exact .cons r (RepFs.put q t)
end
section
variable {X : Cx} {B : Bs} {e o value : Expr} {w wo wv : WE} {pos pos' : Pos} {n f : Str} {C : Addr}
end
/-! ### what may be raised -/
abbrev RXe := Str → List (Str × D) → Ev → Mt → Prop
/-- the wish of an exception, over data -/
def WL (K : PySem.W.Frag) (B : Bs) (RX : RXe) : WX := fun cls d σ H => ∃ C n fs env P al M, cls = .ref C ∧ ClsAt K n C ∧ RS K B P al M env σ H ∧ XdOk K P al H fs d ∧ RX n fs env M
/-- calls of defs: with what may be raised -/
def wCallX (sp : DSp) (dds : List D) (RX : RXe) (was : WA) : WE := fun env M R => was env M fun ds M1 => sp (ds ++ dds) M1 R fun n fs M' => RX n fs env M'
section
variable {X : Cx} {B : Bs} {k : Nat} {f : Addr} {fd : FuncData} {ps : List Str} {sp : DSp} {dvs : List V} {dds : List D} {ds : List Value} {x : Str} {p pos apos : Pos} {e o : Expr} {es : List Expr} {was : WA} {wo : WE} {RX : RXe}
/-- a callee's promise, asked at a state -/
theorem sp_at {K : PySem.W.Frag} {P : Hp} {al : List Addr} {M : Mt} {env : Ev} {σ : L2.St} {H : Hp} {R : D → Mt → Prop} {Q : VK} {ds : List D} {vs : List V} (rs : RS K B P al M env σ H) (r : Reps K P al ds vs) (L : Lift K B P al env σ H R Q)
    (h : sp ds M R fun n fs M' => RX n fs env M') : toSp K sp vs H Q (L2.WE (WL K B RX) σ) :=
  ⟨P, al, M, ds, R, _, rs.toRS0.here, r, h, fun d M' v H' P' al' e r0 r q => L _ _ _ _ _ _ e (rs.step e (r0.rebase (rs.base.trans e))) r q,
    fun C n fs M' H' P' al' dd e r0 c xd q => ⟨C, n, fs, env, P', al', M', rfl, c, rs.step e (r0.rebase (rs.base.trans e)), xd, q⟩⟩
end
/-! ### no reference beyond the table -/
section
variable {K : PySem.W.Frag} {P : Hp} {al : List Addr}
mutual
theorem Rep.inside : ∀ {d : D} {v : V}, Rep K P al d v → noCel al.length d = true
  | _, _, .non => rfl
  | _, _, .bl _ => rfl
  | _, _, .int _ => rfl
  | _, _, .str _ => rfl
  | _, _, .ty _ => rfl
  | _, _, .adr _ => rfl
  | _, _, .cls _ => rfl
  | _, _, .tup _ r => by unfold noCel; exact Reps.inside r
  | _, _, .ptp _ r => by unfold noCel; exact Reps.inside r
  | _, _, .lst _ r => by unfold noCel; exact Reps.inside r
  | _, _, .rol _ r => by unfold noCel; exact Reps.inside r
  | _, _, .dct _ r => by unfold noCel; exact RepKs.inside r
  | _, _, .fdc _ r => by unfold noCel; exact RepKs.inside r
  | _, _, .obj _ _ r => by unfold noCel; exact RepFs.inside r
  | _, _, .cel e => by unfold noCel; exact decide_eq_true (List.getElem?_eq_some_iff.mp e).1
theorem Reps.inside : ∀ {ds : List D} {vs : List V}, Reps K P al ds vs → noCels al.length ds = true
  | _, _, .nil => rfl
  | _, _, .cons r t => by unfold noCels; rw [Rep.inside r, Reps.inside t] <;> rfl
theorem RepKs.inside : ∀ {ds : List (Key × D)} {vs : List (Key × V)}, RepKs K P al ds vs → noCelK al.length ds = true
  | _, _, .nil => rfl
  | _, _, .cons r t => by unfold noCelK; rw [Rep.inside r, RepKs.inside t] <;> rfl
theorem RepFs.inside : ∀ {ds : List (Str × D)} {vs : List (Str × V)}, RepFs K P al ds vs → noCelF al.length ds = true
  | _, _, .nil => rfl
  | _, _, .cons r t => by unfold noCelF; rw [Rep.inside r, RepFs.inside t] <;> rfl
end
theorem RS0.inside {B : Bs} {M : Mt} {H : Hp} (r : RS0 K B P al M H) : M.all (cellOk M.length) = true := by
  refine List.all_eq_true.mpr fun m hm => ?_
  obtain ⟨i, hi, e⟩ := List.mem_iff_getElem.mp hm
  have e' : M[i]? = some m := by rw [List.getElem?_eq_getElem hi, e]
  have ha : ∃ a, al[i]? = some a := ⟨_, List.getElem?_eq_getElem (by rw [r.len]; exact hi)⟩
  obtain ⟨a, ha⟩ := ha
  have c := r.cell i a m ha e'
  rw [← r.len]
  cases m <;> first | rfl | skip
  · rename_i l
    have c : ExCell K P al l a := c
    show exOk al.length l = true
    unfold ExCell at c
    unfold exOk
    split
    · obtain ⟨_, _, _, _, _, _, _, h5⟩ := c
      rcases h5 with ⟨_, rfl⟩ | ⟨_, _, _, _, g3⟩
      · rfl
      · exact g3.inside
    · rfl
  · obtain ⟨_, _, _, h⟩ := c; exact h.inside
  · obtain ⟨_, _, _, h⟩ := c; exact h.inside
  · obtain ⟨_, _, _, _, _, _, h⟩ := c; exact h.inside
end
/-! ### making, methods -/
/-- how a callee's exceptions pass -/
def Rz (X : Cx) (B : Bs) (CX : CXT) (RX : RXe) : Prop := ∀ σ, PassesAt CX X σ (L2.WE (WL X.K B RX) σ)
abbrev RXn : RXe := fun _ _ _ _ => False
theorem rzX {X : Cx} {B : Bs} {RX : RXe} (tk : Takes X (WL X.K B RX)) : Rz X B (L2.CX X.prog X.w) RX := passAt tk
section
variable {X : Cx} {CX : CXT} {k : Nat} {f C : Addr} {E : XK} {x m : Str} {p pos apos : Pos} {e o : Expr} {es : List Expr}
theorem run_at {sp : Sp} {pins : List (Addr × Obj)} {σ : L2.St} {H : Hp} {s : Shared} {Q : VK} {us : List Value} {vs : List V} (F : FnR X.prog X.w X.K X.mg X.base CX k f sp) (hr : Room k X.A) (hx : PassesAt CX X σ E) (I : Inv X pins σ H s) (r : Vals vs us) (h : sp vs H Q E) :
    codeAny (model X.prog X.w) X.A (.call (.ref f) ⟨us, []⟩) (fun r s' => match r with
      | .ok (.ret v) => EP X pins σ Q v s'
      | .ok _ => False
      | .error e => X.xe e s') s := by
  refine codeAny_mono (F X.A X.stack s H us vs Q E hr I.env0 r h) fun r s' hq => ?_
  match r, hq with
  | .error e, hq => exact hx pins H s e s' I hq
  | .ok (.ret u), hq => exact I.after hq
  | .ok .next, hq => exact hq.elim
  | .ok .brk, hq => exact hq.elim
  | .ok .cont, hq => exact hq.elim
theorem make_at {sp : Sp} {pins : List (Addr × Obj)} {σ : L2.St} {H : Hp} {s : Shared} {Q : VK} {us : List Value} {vs : List V} (M : Mk X.K C f) (F : FnR X.prog X.w X.K X.mg X.base CX k f sp) (hr : Room (k + 1) X.A) (hx : PassesAt CX X σ E) (I : Inv X pins σ H s) (r : Vals vs us)
    (h : ∀ x dx, H x = none → H dx = none → dx ≠ x → sp (V.ref x :: vs) (upd (upd H dx (.own x)) x (.ins C dx [])) (fun v H2 => v = .non ∧ Q (.ref x) H2) E) :
    wpAny (model X.prog X.w) X.A (call (.ref C) us) (EP X pins σ Q) X.xe s := by
  have hq := h (s.heap.objs.size + 1) s.heap.objs.size (I.hok.fresh (Nat.le_succ _))
    (I.hok.fresh (Nat.le_refl _)) (Nat.ne_of_lt (Nat.lt_succ_self _))
  have J := Inv.made (C := C) I
  have r2 : Vals (V.ref (s.heap.objs.size + 1) :: vs)
      (Value.ref (s.heap.objs.size + 1) :: us) := .cons rfl r
  refine wpAny_call (make_map (f := f) I.kIn M.makes M.init (beq_iff_eq.mp M.fn) (codeAny_mono (F _ X.stack _ _ _ _ _ E (hr.make C us []) (J.env0.make C us []) r2 hq) fun r s' hq' => ?_))
  match r, hq' with
  | .error e, hq' => exact hx pins _ _ e s' J hq'
  | .ok (.ret u), hq' =>
    obtain ⟨v, H', I3, rv, ev, q3⟩ := J.after hq'
    subst ev
    exact ⟨rv, V.ref (s.heap.objs.size + 1), H', I3, rfl, q3⟩
  | .ok .next, hq' => exact hq'.elim
  | .ok .brk, hq' => exact hq'.elim
  | .ok .cont, hq' => exact hq'.elim
def tMkA (C : Addr) (sp : Sp) (E : L2.St → XK) (t : TA) : TE := fun σ H Q => t σ H fun vs H1 => ∀ x dx, H1 x = none → H1 dx = none → dx ≠ x →
  sp (V.ref x :: vs) (upd (upd H1 dx (.own x)) x (.ins C dx [])) (fun v H2 => v = .non ∧ Q (.ref x) H2) (E σ)
theorem pe_mkA {sp : Sp} {E : L2.St → XK} {t : TA} (M : Mk X.K C f) (F : FnR X.prog X.w X.K X.mg X.base CX k f sp) (hr : Room (k + 1) X.A) (hx : ∀ σ, PassesAt CX X σ (E σ)) (hg : Gl X x) (hm : X.mg x = some (.ref C)) (ha : PA X (e :: es) t) (hdb : (x == ("__debug__" : Str)) = false := by decide)
    (he : starEach (e :: es) X.env = (false, eval e X.env) :: starEach es X.env := by rfl) (hpl : (backTo pos (starEach es X.env)).any (·.1) = false := by rfl) : PE X (.Call (.Name x p) (e :: es) [] pos) (tMkA C sp E t) :=
  ⟨fun pins s σ H Q I h => wpAny_Call_Name_kw (ld_glob I hg hm (PySem.W.callWith_K (h₀ := X.base) I.ok.mod.kin M.kp (thn (ha.run pos pins s σ H _ I h) fun us s1 ⟨vs, H1, I1, r, q⟩ => ⟨I1.kIn, make_at M F hr (hx σ) I1 r q⟩) he hpl) hdb)⟩
end
section
variable {X : Cx} {B : Bs} {CX : CXT} {k : Nat} {f C : Addr} {sp : DSp} {n x m : Str} {p pos apos : Pos} {e o : Expr} {es : List Expr} {was : WA} {wo : WE} {RX : RXe}
/-- C(..): the new object, when its table entry alone is new, is published -/
@[irreducible] def mkEnd (M1 : Mt) (R : D → Mt → Prop) (M2 : Mt) : Prop := ∃ n fs, M2 = M1 ++ [.obj n fs] ∧ Need (noCelF M1.length fs = true) ∧ R (.obj n fs) M1
def wMk (n : Str) (sp : DSp) (RX : RXe) (was : WA) : WE := fun env M R => was env M fun ds M1 =>
  sp (.cel M1.length :: ds) (M1 ++ [.obj n []]) (fun d M2 => d = .non ∧ mkEnd M1 R M2) fun n fs M' => RX n fs env M'
theorem new_obj {K : PySem.W.Frag} {B : Bs} {P : Hp} {al : List Addr} {M : Mt} {H : Hp} {x dx : Addr} (rs : RS0 K B P al M H) (ca : ClsAt K n C) (hx : H x = none) (hd : H dx = none) (ne : dx ≠ x) :
    Ext P al H P (al ++ [x]) (upd (upd H dx (.own x)) x (.ins C dx [])) ∧ RS0 K B P (al ++ [x]) (M ++ [.obj n []]) (upd (upd H dx (.own x)) x (.ins C dx [])) := by
  obtain ⟨b1, b2⟩ := rs.fresh hd
  have r1 := rs.priv (rs.free hd) b2 b1 (.own x)
  obtain ⟨e2, r2⟩ := r1.allocM (p := x) (o := .ins C dx []) (m := .obj n []) (by rw [upd_ne (Ne.symm ne)]; exact hx) fun P' al' _ _ hp H' hH => ⟨hp, C, dx, [], hH, ca, .nil⟩
  exact ⟨((Ext.refl (P := P) (al := al) (H := H)).priv hd (.own x)).trans e2, r2⟩
theorem mk_sp {K : PySem.W.Frag} {P : Hp} {al : List Addr} {M : Mt} {env : Ev} {σ : L2.St} {H : Hp} {R : D → Mt → Prop} {Q : VK} {ds : List D} {vs : List V} {x dx : Addr} (ca : ClsAt K n C) (rs : RS K B P al M env σ H) (r : Reps K P al ds vs) (L : Lift K B P al env σ H R Q)
    (hx : H x = none) (hd : H dx = none) (ne : dx ≠ x) {R' : D → Mt → Prop} (hR : ∀ d M', R' d M' → d = .non ∧ (R (.cel M.length) M' ∨ mkEnd M R M')) (h : sp (.cel M.length :: ds) (M ++ [.obj n []]) R' fun n fs M' => RX n fs env M') :
    toSp K sp (.ref x :: vs) (upd (upd H dx (.own x)) x (.ins C dx [])) (fun v H2 => v = .non ∧ Q (.ref x) H2) (L2.WE (WL K B RX) σ) := by
  obtain ⟨e1, r1⟩ := new_obj rs.toRS0 ca hx hd ne
  have lx : (al ++ [x])[M.length]? = some x := by rw [← rs.len, List.getElem?_append_right (Nat.le_refl _), Nat.sub_self]; rfl
  refine ⟨P, al ++ [x], _, _, _, _, r1.here, .cons (.cel lx) (r.mono e1.pp e1.pre), h, fun d M' v H' P' al' e r0 rd q => ?_, fun C' n' fs M' H' P' al' dd e r0 c xd q => ?_⟩
  · obtain ⟨ed, q'⟩ := hR _ _ q
    subst ed
    have er := e1.trans e
    have r0b := r0.rebase (rs.base.trans er)
    refine ⟨by cases rd; rfl, ?_⟩
    have lx' : al'[M.length]? = some x := pre_get e.pre lx
    simp only [mkEnd] at q'
    rcases q' with q' | ⟨n', fs, rfl, hn, q'⟩
    · exact L _ _ _ _ _ _ er (rs.step er r0b) (.cel lx') q'
    · have hm : (M ++ [D.obj n' fs])[M.length]? = some (.obj n' fs) := by rw [List.getElem?_append_right (Nat.le_refl _), Nat.sub_self]; rfl
      obtain ⟨P2, e2, r2, q2⟩ := r0b.freeze hm rfl (.cel lx')
      have e3 := er.trans e2
      have r3 : RS0 K (P, al, H) P2 al' ((M ++ [D.obj n' fs]).set M.length .non) H' := r2.rebase e3
      have tk : ((M ++ [D.obj n' fs]).set M.length .non).take al.length = M := by
        rw [rs.len, List.set_append_right _ _ (Nat.le_refl _), Nat.sub_self]; simp
      have ins := rs.toRS0.inside
      have r4 := r3.drop fun i m hi hm => by
        have hi' : i < M.length := by rw [← rs.len]; exact hi
        rw [List.set_append_right _ _ (Nat.le_refl _), List.getElem?_append_left hi'] at hm
        rw [rs.len]; exact List.all_eq_true.mp ins m (List.mem_of_getElem? hm)
      rw [tk] at r4
      have e4 : Ext P al H P2 al H' := r4.base
      have nc : noCel al.length (.obj n' fs) = true := by unfold noCel; rw [rs.len]; exact hn.out
      exact L _ _ _ _ _ _ e4 (rs.step e4 (r4.rebase (rs.base.trans e4))) (q2.cut e3.pre nc) q'
  · have er := e1.trans e
    exact ⟨C', n', fs, env, P', al', M', rfl, c, rs.step er (r0.rebase (rs.base.trans er)), xd, q⟩
theorem d_mk (ca : ClsAt X.K n C) (Mc : Mk X.K C f) (F : FnR X.prog X.w X.K X.mg X.base CX k f (toSp X.K sp)) (hr : Room (k + 1) X.A) (hx : Rz X B CX RX) (hg : Gl X x) (hm : X.mg x = some (.ref C)) (ha : DA B X (e :: es) was) (hdb : (x == ("__debug__" : Str)) = false := by decide)
    (he : starEach (e :: es) X.env = (false, eval e X.env) :: starEach es X.env := by rfl) (hpl : (backTo pos (starEach es X.env)).any (·.1) = false := by rfl) : DE B X (.Call (.Name x p) (e :: es) [] pos) (wMk n sp RX was) := by
  refine (pe_mkA Mc F hr hx hg hm ha hdb he hpl).imp fun σ H Q => ?_
  rintro ⟨P, al, M, env, R, rs, hw, L⟩
  exact ⟨P, al, M, env, _, rs, hw, fun ds M1 vs H1 P1 al1 e1 rs1 r1 q x dx hx hd ne => mk_sp ca rs1 r1 (L.after e1) hx hd ne (fun _ _ h => ⟨h.1, .inr h.2⟩) q⟩
end
end L3

namespace L3
open PySem PySem.Spec PyProof.Rows L2
/-! ### defs that may raise -/
section
variable {K : PySem.W.Frag} {B : Bs} {P P' : Hp} {al al' : List Addr} {M : Mt} {H H' : Hp} {fs : List (Str × D)} {dd : Option Addr}
theorem XdOk.cut (x : XdOk K P al' H fs dd) (h : al <+: al') (n : noCelF al.length fs = true) : XdOk K P al H fs dd := by
  rcases x with x | ⟨d, gs, h1, h2, h3, h4⟩
  · exact .inl x
  · exact .inr ⟨d, gs, h1, fun z => h2 (h.subset z), h3, h4.cutA h n⟩
theorem XdOk.go (x : XdOk K P al H fs dd) (e : Ext P al H P' al' H') : XdOk K P' al' H' fs dd := by
  rcases x with x | ⟨d, gs, h1, h2, h3, h4⟩
  · exact .inl x
  · refine .inr ⟨d, gs, h1, fun z => ?_, e.fr _ _ h3 h2, h4.mono e.pp e.pre⟩
    have := e.new d z h2
    rw [h3] at this; cases this
end
inductive rxF (n : Nat) (RX : RXt) (nm : Str) (fs : List (Str × D)) (M : Mt) : Prop where
  | keep : RX nm fs M → rxF n RX nm fs M
  | less : noCelF n fs = true → (M.take n).all (cellOk n) = true → RX nm fs (M.take n) → rxF n RX nm fs M
section
variable {P : Program} {w : World} {K : PySem.W.Frag} {mg : Str → Option Value} {base : Heap}
theorem dfnX {x qual : Str} {st : Stmt} {f : Addr} {fd : FuncData} {N ps : List Str} {k : Nat} {sp : DSp} (F : Fun K x qual st f fd) (S : FnScope N ps (defScope st)) (len : ∀ ds M R RX, sp ds M R RX → ds.length = ps.length)
    (body : ∀ (B : Bs) (cdv : Value) (A : Around) (outer : List Env) (s : Shared) (H : Hp) (E : XK), Room k (A.deeper (envOfC qual (defScope st) s.heap.objs.size f cdv)) →
      ∃ wb : RXe → WS, (∀ RX : RXe, Takes (cxOf (L2.CX P w) P w K mg base N qual (defScope st) f cdv A outer s H E) (WL K B RX) → DSs B (cxOf (L2.CX P w) P w K mg base N qual (defScope st) f cdv A outer s H E) (defBody st) (wb RX)) ∧
        ∀ ds M R RX, sp ds M R RX → M.all (cellOk M.length) = true → noCels M.length ds = true → wb (fun nm fs _ M' => rxF M.length RX nm fs M') (fnEnds M.length R) (startE N.length ds) M) :
    FnOk P w K mg base (L2.CX P w) (k + 1) f fd ps (toSp K sp) := by
  refine F.okX S (fun vs H Q E h => ?_) (fun cdv A outer s H vs Q E hr h => ?_)
  · obtain ⟨P, al, M, ds, R, RX, _, r, hs, _⟩ := h
    rw [← r.length]; exact len _ _ _ _ hs
  · obtain ⟨Pp, al, M, ds, R, RX, r0, r, hs, L, LX⟩ := h
    obtain ⟨wb, hb, hw⟩ := body (Pp, al, H) cdv A outer s H E hr
    have el := r0.len
    have fin : ∀ d M' v H' P' al', Ext Pp al H P' al' H' → RS0 K (Pp, al, H) P' al' M' H' → Rep K P' al' d v → retF M.length R d M' → Q v H' := fun d M' v H' P' al' e r' rd q => by
      cases q with
      | keep q => exact L d M' v H' P' al' e r' rd q
      | less q1 q2 q3 =>
        rw [← el] at q1 q2 q3
        refine L d _ v H' P' al ⟨e.pp, List.prefix_refl _, e.fr, fun b m n => absurd m n, e.pn⟩ (r'.drop fun i m hi hm => ?_) (rd.cut e.pre q1) q3
        exact List.all_eq_true.mp q2 m (List.mem_of_getElem? (by rw [List.getElem?_take_of_lt hi]; exact hm))
    have finX : ∀ C nm fs M' H' P' al' dd, Ext Pp al H P' al' H' → RS0 K (Pp, al, H) P' al' M' H' → ClsAt K nm C → XdOk K P' al' H' fs dd → rxF M.length RX nm fs M' → E (.ref C) dd H' := fun C nm fs M' H' P' al' dd e r' c xd q => by
      cases q with
      | keep q => exact LX C nm fs M' H' P' al' dd e r' c xd q
      | less q1 q2 q3 =>
        rw [← el] at q1 q2 q3
        refine LX C nm fs _ H' P' al dd ⟨e.pp, List.prefix_refl _, e.fr, fun b m n => absurd m n, e.pn⟩ (r'.drop fun i m hi hm => ?_) c (xd.cut e.pre q1) q3
        exact List.all_eq_true.mp q2 m (List.mem_of_getElem? (by rw [List.getElem?_take_of_lt hi]; exact hm))
    obtain ⟨s1, s2⟩ := start_slots (N := N) r
    refine ⟨_, hb _ ((takes_of rfl rfl rfl rfl).imp fun c d σ H' h => ?_), Pp, al, M, _, _, ⟨r0, s1, s2⟩, hw ds M R RX hs r0.inside (by rw [← el]; exact r.inside), ⟨fun env' M' σ' H' P' al' e rs q => fin _ _ _ _ _ _ e rs.toRS0 .non q, fun d M' v H' P' al' e rs rd q => fin _ _ _ _ _ _ e rs rd q, fun _ _ _ _ _ _ _ _ z => z.elim, fun _ _ _ _ _ _ _ _ z => z.elim⟩⟩
    obtain ⟨C, nm, fs, env, P', al', M', rfl, c, rs, xd, q⟩ := h
    exact finX C nm fs M' H' P' al' d rs.base rs.toRS0 c xd q
/-- as dfn; its table is known to be in order -/
theorem dfn2 {x qual : Str} {st : Stmt} {f : Addr} {fd : FuncData} {N ps : List Str} {k : Nat} {sp : DSp} (F : Fun K x qual st f fd) (S : FnScope N ps (defScope st)) (len : ∀ ds M R RX, sp ds M R RX → ds.length = ps.length)
    (body : ∀ (B : Bs) (cdv : Value) (A : Around) (outer : List Env) (s : Shared) (H : Hp) (E : XK), Room k (A.deeper (envOfC qual (defScope st) s.heap.objs.size f cdv)) →
      ∃ wb : WS, DSs B (cxOf CX0 P w K mg base N qual (defScope st) f cdv A outer s H E).nox (defBody st) wb ∧ ∀ ds M R RX, sp ds M R RX → M.all (cellOk M.length) = true → noCels M.length ds = true → wb (fnEnds M.length R) (startE N.length ds) M) :
    FnOk P w K mg base CX0 (k + 1) f fd ps (toSp K sp) := by
  refine F.ok S (fun vs H Q E h => ?_) (fun cdv A outer s H vs Q E hr h => ?_)
  · obtain ⟨P, al, M, ds, R, RX, _, r, hs, _⟩ := h
    rw [← r.length]; exact len _ _ _ _ hs
  · obtain ⟨Pp, al, M, ds, R, RX, r0, r, hs, L, _⟩ := h
    obtain ⟨wb, hb, hw⟩ := body (Pp, al, H) cdv A outer s H E hr
    have el := r0.len
    have fin : ∀ d M' v H' P' al', Ext Pp al H P' al' H' → RS0 K (Pp, al, H) P' al' M' H' → Rep K P' al' d v → retF M.length R d M' → Q v H' := fun d M' v H' P' al' e r' rd q => by
      cases q with
      | keep q => exact L d M' v H' P' al' e r' rd q
      | less q1 q2 q3 =>
        rw [← el] at q1 q2 q3
        refine L d _ v H' P' al ⟨e.pp, List.prefix_refl _, e.fr, fun b m n => absurd m n, e.pn⟩ (r'.drop fun i m hi hm => ?_) (rd.cut e.pre q1) q3
        exact List.all_eq_true.mp q2 m (List.mem_of_getElem? (by rw [List.getElem?_take_of_lt hi]; exact hm))
    obtain ⟨s1, s2⟩ := start_slots (N := N) r
    exact ⟨_, hb, Pp, al, M, _, _, ⟨r0, s1, s2⟩, hw ds M R RX hs r0.inside (by rw [← el]; exact r.inside), ⟨fun env' M' σ' H' P' al' e rs q => fin _ _ _ _ _ _ e rs.toRS0 .non q, fun d M' v H' P' al' e rs rd q => fin _ _ _ _ _ _ e rs rd q, fun _ _ _ _ _ _ _ _ z => z.elim, fun _ _ _ _ _ _ _ _ z => z.elim⟩⟩
end
/-! ### own errors: their __init__ keeps what it is given -/
section
variable {X : Cx} {C fI : Addr} {k : Nat} {fd : FuncData} {x : Str} {p pos : Pos} {e : Expr} {es : List Expr} {ta : TA} {ps ns : List Str}
end
section
variable {X : Cx} {B : Bs} {C fI : Addr} {k : Nat} {fd : FuncData} {n x : Str} {p pos pos2 : Pos} {e : Expr} {es : List Expr} {was : WA} {ps ns : List Str} {RX : RXe}
end
/-! ### the bodies of such an __init__ -/
section
variable {P : Program} {w : World} {K : PySem.W.Frag} {mg : Str → Option Value} {base : Heap} {C : Addr}
end
/-! ### try .. except n as x -/
theorem RS.drp {K : PySem.W.Frag} {B : Bs} {P : Hp} {al : List Addr} {M : Mt} {env : Ev} {σ : L2.St} {H : Hp} (r : RS K B P al M env σ H) (i : Nat) : RS K B P al M (env.set i none) (σ.set i none) H := by
  refine ⟨r.toRS0, by simp [r.slen], fun j d h => ?_⟩
  by_cases hj : j = i
  · subst hj
    have hl : j < (env.set j none).length := (List.getElem?_eq_some_iff.mp h).1
    rw [List.getElem?_set_self (by simpa using hl)] at h; cases h
  · rw [List.getElem?_set_ne (Ne.symm hj)] at h
    obtain ⟨v, h1, h2⟩ := r.slot j d h
    exact ⟨v, by rw [List.getElem?_set_ne (Ne.symm hj)]; exact h1, h2⟩
def outE (i : Nat) (k : DEnds) : DEnds := ⟨fun e m => k.nx (e.set i none) m, k.rt, fun e m => k.bk (e.set i none) m, fun e m => k.ct (e.set i none) m⟩
section
variable {X : Cx} {B : Bs} {x n : Str} {Cc : Addr} {i : Nat} {body suite : List Stmt} {b₀ : Stmt} {np pos pos' : Pos} {RX : RXe} {ok : List Str} {sub : Str → Bool} {wb : RXe → WS} {ws : Addr → Str → List (Str × D) → WS}
end
end L3

namespace L3
open PySem PySem.Spec PyProof.Rows L2
/-! ### defs with *args -/
section
variable {P : Program} {w : World} {K : PySem.W.Frag} {mg : Str → Option Value} {base : Heap}
/-- the promise of a def with a star parameter behind n others: what is left over is a tuple -/
def starSp (n : Nat) (sp : DSp) : DSp := fun ds M R RX => Need (n ≤ ds.length ∧ ds.length ≤ sizeLine) ∧ sp (ds.take n ++ [.tup (ds.drop n)]) M R RX
end
/-! ### starred arguments, classes by name, class methods -/
section
variable {X : Cx} {B : Bs} {CX : CXT} {k i : Nat} {f C : Addr} {sp : DSp} {n x m : Str} {p p2 pos apos : Pos} {e o : Expr} {es : List Expr} {was : WA} {we wo : WE} {RX : RXe}
def wStar (we : WE) (was : WA) : WA := fun env M R => we env M fun d M1 => match seqD (viewD M1 d) with
  | some l => was env M1 fun ds M2 => R (l ++ ds) M2
  | none => False
theorem da_star (he : DE B X e we) (hr : DA B X es was) (hs : starEach (.Starred e p :: es) X.env = (true, eval e X.env) :: starEach es X.env := by rfl) : DA B X (.Starred e p :: es) (wStar we was) := by
  refine (StX.pa_star he hr hs).imp fun σ H Q => ?_
  rintro ⟨P, al, M, env, R, rs, hw, L⟩
  refine ⟨P, al, M, env, _, rs, hw, fun d M1 v H1 P1 al1 e1 rs1 r1 q => ?_⟩
  split at q
  · rename_i l el
    obtain ⟨a, xs, rfl, h1, h2⟩ := view_seq rs1.toRS0 r1 el
    exact ⟨a, xs, rfl, h1.symm, P1, al1, M1, env, _, rs1, q, fun ds M2 vs H2 P2 al2 e2 rs2 r2 q2 => L _ _ _ _ _ _ (e1.trans e2) rs2 ((h2.mono e2.pp e2.pre).append r2) q2⟩
  · exact q.elim
theorem d_gcls (hg : Gl X x) (hm : X.mg x = some (.ref C)) (ca : ClsAt X.K n C) (hdb : (x == ("__debug__" : Str)) = false := by decide) : DE B X (.Name x p) (wC (.cls n)) := by
  refine (pe_glob (v := .ref C) hg hm rfl hdb).imp fun σ H Q => ?_
  rintro ⟨P, al, M, env, R, rs, hw, L⟩
  exact L.here rs (.cls ca) hw
end
end L3

namespace L3
open PySem PySem.Spec PyProof.Rows L2
/-! ### enumerate of a tuple -/
open Builtin in
theorem enum_newT (l : Addr) (items : Array Value) (n : Nat) (dct : Option Addr) (sl : Array (Option Value)) :
    Meets (Builtin.«enumerate.__new__» ⟨[.type "enumerate", .ref l], []⟩) (fun _ R s => s.heap.get? l = some { cls := .type "tuple", dict := dct, data := .seq items n, slots := sl } ∧
      R (.ok (.ret (.ref (s.heap.push { cls := .type "tuple_iterator", data := .fields #[.ref l, .int 0 0] }).objs.size)))
        { s with heap := (s.heap.push { cls := .type "tuple_iterator", data := .fields #[.ref l, .int 0 0] }).push { cls := .type "enumerate", data := .fields #[.none, .bool false, .ref s.heap.objs.size, rawInt 0, .none, .none] } }) :=
  .of_wp fun prog w A R s h => by
    obtain ⟨hp, g, d, tk, os⟩ := s
    obtain ⟨hl, h⟩ := h
    have hsub := sub_enumerate
    have hL : Heap.IsTuple (Shared.heap ⟨hp, g, d, tk, os⟩) l items := ⟨_, hl, rfl, n, rfl⟩
    wp_walk using AutoSeq1.wpAny_loadPart' hl
    refine wpAny_stack_any fun st => wpAny_pure ?_
    split
    · rename_i c _ _ _ _ _
      cases (c == Value.type "enumerate") <;>
        (wp_walk using AutoSeq1.wpAny_loadPart' hl, wpAny_pyIter_tuple hL
         exact ⟨_, rfl, h⟩)
    · wp_walk using AutoSeq1.wpAny_loadPart' hl, wpAny_pyIter_tuple hL
      exact ⟨_, rfl, h⟩
section
variable {prog : Program} {w : World} {A : Around} {E : Value → Shared → Prop} {s : Shared}
theorem call_enumT {l : Addr} {items : Array Value} {Q : Value → Shared → Prop} (hL : s.heap.IsTuple l items)
    (h : ∀ h', IsEnum h' (s.heap.objs.size + 1) s.heap.objs.size 0 .none → h'.IsTupleIter s.heap.objs.size l 0 → (∀ b o, s.heap.get? b = some o → h'.get? b = some o) → Q (.ref (s.heap.objs.size + 1)) { s with heap := h' }) :
    wpAny (model prog w) A (call (.type "enumerate") [.ref l]) Q E s := by
  obtain ⟨⟨c, dct, dt, sl⟩, hl, hc, n, hd⟩ := hL
  replace hc : c = .type "tuple" := hc
  replace hd : dt = .seq items n := hd
  subst hc hd
  refine callType_new F.called_enumerate (by decide) (F.typeCall_enumerate_1 _) (F.newCall_enumerate_1 _)
    (fun obj => F.args_object_init_2 obj _) F.entry_enumerate_new (enum_newT l items n dct sl) ⟨hl, ?_⟩
  have hz : (s.heap.push { cls := .type "tuple_iterator", data := .fields #[.ref l, .int 0 0] }).objs.size = s.heap.objs.size + 1 := Heap.size_push ..
  show _ ∧ _
  rw [hz]
  have he : IsEnum ((s.heap.push { cls := .type "tuple_iterator", data := .fields #[.ref l, .int 0 0] }).push
      { cls := .type "enumerate", data := .fields #[.none, .bool false, .ref s.heap.objs.size, rawInt 0, .none, .none] }) (s.heap.objs.size + 1) s.heap.objs.size 0 .none := by
    have q := Heap.get?_push_size (s.heap.push { cls := .type "tuple_iterator", data := .fields #[.ref l, .int 0 0] })
      (o := { cls := .type "enumerate", data := .fields #[.none, .bool false, .ref s.heap.objs.size, rawInt 0, .none, .none] }) rfl
    rw [hz] at q; exact q
  exact ⟨⟨_, he, rfl⟩, h _ he ⟨_, Heap.get?_push_of_some _ (Heap.get?_push_size _ rfl), rfl, rfl⟩ fun b o x => Heap.get?_push_of_some _ (Heap.get?_push_of_some _ x)⟩
end
/-- the tuple at a, each item in a new pair -/
def ItET (K : PySem.W.Frag) (a : Addr) : It :=
  ⟨fun i H => ∃ (xs : List V) (x : V), SqT K H a xs ∧ xs[i]? = some x,
    fun i H v H' => ∃ T x, v = .ref T ∧ H T = none ∧ H' = upd H T (.tup [.int (i : Nat), x]) ∧ ∀ xs, SqT K H a xs → xs[i]? = some x,
    fun i H => ∃ xs : List V, SqT K H a xs ∧ xs.length ≤ i⟩
theorem turn_enumT {P : Program} {w : World} {K : PySem.W.Frag} {elts : List Expr} {kk : Nat} {tpos : Pos} (a e it : Addr) : Turn P w K (.Tuple elts kk tpos) (ItET K a) [e, it] e (fun i h => (∃ old, IsEnum h e it ((i : Nat) : Int) old) ∧ h.IsTupleIter it a i ∧ e ≠ it) where
  mem := by simp
  obj := fun i h st b hb => by
    obtain ⟨⟨old, he⟩, ⟨o, ho, hc, hd⟩, _⟩ := st
    rcases (by simpa using hb : b = e ∨ b = it) with z | z
    · rw [z]; exact ⟨_, he, fun v q => nomatch q⟩
    · rw [z]; exact ⟨o, ho, fun v q => by rw [hd] at q; cases q⟩
  keep := fun i h h' st k => by
    obtain ⟨⟨old, he⟩, hi, hne⟩ := st
    exact ⟨⟨old, k e (by simp) _ he⟩, hi.at fun o q => k it (by simp) o q, hne⟩
  item := by
    intro X hP hw hK hc i pins s σ H E I hf st hg
    subst hP hw hK
    obtain ⟨⟨old, he⟩, hit, hne⟩ := st
    obtain ⟨xs, x, hq, hx⟩ := hg
    obtain ⟨its, rv, p, hz⟩ := I.tuple hq
    obtain ⟨u, hu, ru⟩ := rv.get hx
    have hT : s.heap.IsTuple a its.toArray := p
    have nae : e ≠ a := fun z => by
      obtain ⟨o, h1, h2, _⟩ := hT
      rw [← z, he] at h1; cases h1
      exact absurd (Value.type.inj h2) (by decide)
    have nai : a ≠ it := fun z => by
      obtain ⟨o, h1, h2, _⟩ := hT
      obtain ⟨o', g1, g2, _⟩ := hit
      rw [z, g1] at h1; cases h1
      rw [g2] at h2
      exact absurd (Value.type.inj h2) (by decide)
    have hel : e < s.heap.objs.size := Heap.lt_size he
    have hil : it < s.heap.objs.size := by obtain ⟨_, q, _⟩ := hit; exact Heap.lt_size q
    have hh : X.A.in1.handled = none := I.ok.hd hc
    have hlt : i < its.toArray.size := by simpa using (List.getElem?_eq_some_iff.mp hu).1
    refine wpAny_pyNext_enum_itemD (Draws.tuple hh it a nai its.toArray) he ⟨hit, hT⟩ hlt hne (by simp; exact ⟨hne, nae⟩) fun v h' tk hv ho hst hTp hsz hk => ?_
    have hv : v = u := by
      have hu' : its.toArray[i]? = some u := by simpa using hu
      rw [hu'] at hv; exact (Option.some.inj hv).symm
    subst hv
    refine ⟨_, rfl, wpAny_letOwnedTupleGo_enum (s := { s with heap := h', toks := tk + 1 }) ho fun h'' he' sb => ?_⟩
    have hT2 : h''.get? s.heap.objs.size = some { cls := .type "tuple", data := .seq #[.int i tk, v] } := (sb.2 _ (Nat.ne_of_gt hel)).trans hTp
    have new : ObjOk X.prog X.w (upd H s.heap.objs.size (.tup [.int (i : Nat), x])) h'' s.heap.objs.size (.tup [.int (i : Nat), x]) :=
      ⟨by show 2 ≤ sizeLine; decide, [.int i tk, v], .cons ⟨_, rfl⟩ (.cons ru .nil), ⟨_, hT2, rfl, _, rfl⟩⟩
    have J : Inv X pins σ (upd H s.heap.objs.size (.tup [.int (i : Nat), x])) { s with heap := h'', toks := tk + 1 } :=
      I.turnedNew (ch := [e, it]) (fun b ob hb q => (sb.2 b (fun z => hb (by simp [z]))).trans (hk b ob (fun z => hb (by simp [z])) (fun z => hb (by simp [z])) q)) hf (Nat.le_refl _) new
    refine ⟨.ref s.heap.objs.size, _, J, rfl, ⟨_, x, rfl, I.hok.fresh (Nat.le_refl _), rfl, fun ys hy => by rw [I.tuple_inj hy hq]; exact hx⟩, ⟨⟨v, ?_⟩, hst.1.at fun o q => (sb.2 it (Ne.symm hne)).trans q, hne⟩, fun b hb => ?_⟩
    · rw [show ((i + 1 : Nat) : Int) = (i : Int) + 1 from by omega]; exact he'
    · have hb' : b < s.heap.objs.size := by
        rcases (by simpa using hb : b = e ∨ b = it) with z | z
        · rw [z]; exact hel
        · rw [z]; exact hil
      rw [upd_ne (Nat.ne_of_lt hb')]
      exact (hf b hb).1
  done := by
    intro X hP hw hK hc i pins s σ H E I hf st hg
    subst hP hw hK
    obtain ⟨⟨old, he⟩, hit, hne⟩ := st
    obtain ⟨xs, hq, hx⟩ := hg
    obtain ⟨its, rv, p, hz⟩ := I.tuple hq
    obtain ⟨f0, f1, f2, f3, f4, f5⟩ := hf it (by simp)
    have hT : s.heap.IsTuple a its.toArray := p
    have hT0 : s.TypeIs (.ref e) "enumerate" := ⟨_, he, rfl⟩
    have hnone : its.toArray[i]? = none := by have := rv.length; simp; omega
    unfold pyNext
    refine wpAny_bind (wpAny_attempt (wpAny_callSpecial?_slot (name := Str.ofString "__next__") hT0 F.slot_enumerate_next
      (wpAny_call_entry F.slot_enumerate_next hT0 F.entry_enumerate_next ?_ (F.args_enumerate_next_1 _))))
    show wpAny _ _ (field (.ref e) 2 >>= _) _ _ _
    refine wpAny_bind (wpAny_field he rfl (x := .ref it) rfl ?_)
    refine wpAny_bind (wpAny_nextOf_tuple_end (show X.A.in1.handled = none from I.ok.hd hc) hit hT hnone fun h' x he' hx' => ?_)
    obtain ⟨o, ho, hc'⟩ := hx'
    refine wpAny_bind (wpAny_isInstance (T := "StopIteration") (b := true) ⟨o, ho, hc'⟩ isSubtype_stop ?_)
    exact wpAny_pure ⟨rfl, I.turned (t' := s.toks) (fun b o hb q => he' b o hb q) f0 f1 f3 f4 f5⟩
  self := fun A i s Q E st h => by
    obtain ⟨⟨_, he⟩, _⟩ := st
    exact wpAny_pyIter_enum he h
def iEnumA (K : PySem.W.Frag) (ta : TA) : TI := fun σ H R => ta σ H fun vs H1 => (∃ a xs, vs = [.ref a] ∧ SqL K H1 a xs ∧ R (Ite K a) H1) ∨ ∃ a xs, vs = [.ref a] ∧ SqT K H1 a xs ∧ R (ItET K a) H1
theorem pi_enumA {X : Cx} {e : Expr} {ta : TA} {p pos tpos : Pos} {elts : List Expr} {kk : Nat} (hg : Gl X "enumerate") (hm : X.mg "enumerate" = none) (ha : PA X [e] ta) (hs : starEach [e] X.env = [(false, eval e X.env)] := by rfl) :
    PI X (.Tuple elts kk tpos) (.Call (.Name "enumerate" p) [e] [] pos) (iEnumA X.K ta) := by
  refine ⟨fun pins s σ H R I h => Call_ (ld_blt I hg hm boot_enumerate (PyProof.Rows.callWith_type1 (thn (ha.run pos pins s σ H _ I h) fun us s1 ⟨vs, H1, I1, r1, q1⟩ => ?_) hs rfl))⟩
  have fpk : ∀ b ∈ [s1.heap.objs.size + 1, s1.heap.objs.size], FpOk X pins H1 b := fun b hb => by
    have hle : s1.heap.objs.size ≤ b := by
      rcases (by simpa using hb : b = s1.heap.objs.size + 1 ∨ b = s1.heap.objs.size) with z | z <;> omega
    exact I1.fpOk hle (I1.hok.fresh hle)
  have one : ∀ {a : Addr} {us : List Value}, Vals [V.ref a] us → us = [Value.ref a] := fun {a us} r => by
    cases r with
    | cons r rr => cases rr; cases r; rfl
  rcases q1 with ⟨a, xs, ex, hq, q⟩ | ⟨a, xs, ex, hq, q⟩ <;> subst ex <;> obtain rfl := one r1
  · obtain ⟨its, rv, p', hz⟩ := I1.list hq
    refine call_enumerate_list p'.isList fun h' he hit hsz hk => wpAny_pyIter_enum he ?_
    exact ⟨_, [s1.heap.objs.size + 1, s1.heap.objs.size], _, _, H1, rfl, I1.kept (t' := s1.toks) hk, turn_enum a _ _, ⟨⟨.none, he⟩, hit, Nat.succ_ne_self _⟩, fpk, q⟩
  · obtain ⟨its, rv, p', hz⟩ := I1.tuple hq
    refine call_enumT (show s1.heap.IsTuple a its.toArray from p') fun h' he hit hk => wpAny_pyIter_enum he ?_
    exact ⟨_, [s1.heap.objs.size + 1, s1.heap.objs.size], _, _, H1, rfl, I1.kept (t' := s1.toks) hk, turn_enumT a _ _, ⟨⟨.none, he⟩, hit, Nat.succ_ne_self _⟩, fpk, q⟩
/-! ### over data -/
def enumD (k : Nat) : List D → List D
  | [] => []
  | d :: r => .tup [.int k, d] :: enumD (k + 1) r
theorem enumD_len : ∀ (l : List D) (k : Nat), (enumD k l).length = l.length
  | [], _ => rfl
  | _ :: r, k => by show (enumD (k + 1) r).length + 1 = r.length + 1; rw [enumD_len r]
theorem enumD_get : ∀ (l : List D) (k i : Nat) (d : D), (enumD k l)[i]? = some d → ∃ x, l[i]? = some x ∧ d = .tup [.int ((k + i : Nat) : Int), x]
  | [], _, _, _, h => by cases h
  | x :: r, k, 0, d, h => ⟨x, rfl, (Option.some.inj h).symm⟩
  | x :: r, k, i + 1, d, h => by
    obtain ⟨y, h1, h2⟩ := enumD_get r (k + 1) i d h
    exact ⟨y, h1, by rw [h2, show k + 1 + i = k + (i + 1) from by omega]⟩
section
variable {K : PySem.W.Frag} {a : Addr} {xs : List V} {ds : List D} {P : Hp} {al : List Addr}
theorem enum_turn {B : Bs} {P2 : Hp} {al2 : List Addr} {M2 : Mt} {H2 H3 : Hp} {T : Addr} {i : Nat} {v : V} {d : D} (r0 : RS0 K B P2 al2 M2 H2) (hT : H2 T = none) (rv : Rep K P2 al2 d v) (e : H3 = upd H2 T (.tup [.int (i : Nat), v])) :
    ∃ P3, Ext P2 al2 H2 P3 al2 H3 ∧ RS0 K B P3 al2 M2 H3 ∧ Rep K P3 al2 (.tup [.int (i : Nat), d]) (.ref T) := by
  subst e
  obtain ⟨e1, r1⟩ := r0.alloc hT (.tup [.int (i : Nat), v])
  exact ⟨_, e1, r1, .tup (.inl (.inl upd_same)) (.cons (.int _) (.cons (rv.mono e1.pp e1.pre) .nil))⟩
theorem walk_enumL (h : ∀ H2, Same P H2 → SqL K H2 a xs) (r : Reps K P al ds xs) : Walk K (Ite K a) (enumD 0 ds) P al := by
  intro B P2 al2 M2 H2 s p r0
  have h2 : SqL K H2 a xs := h _ (s.trans r0.same)
  have r2 := r.mono s p
  refine ⟨fun i d hd => ?_, ⟨xs, h2, by rw [enumD_len, r.length]; exact Nat.le_refl _⟩⟩
  obtain ⟨x, hx, rfl⟩ := enumD_get ds 0 i d hd
  obtain ⟨v, hv, rv⟩ := r2.get hx
  refine ⟨⟨xs, v, h2, hv⟩, fun y H3 ⟨T, z, e1, e2, e3, f⟩ => ?_⟩
  have hz := f _ h2
  rw [hv] at hz; cases hz
  subst e1
  rw [show (0 + i : Nat) = i from Nat.zero_add i]
  exact enum_turn r0 e2 rv e3
theorem walk_enumT (h : SqT K P a xs) (r : Reps K P al ds xs) : Walk K (ItET K a) (enumD 0 ds) P al := by
  intro B P2 al2 M2 H2 s p r0
  have h2 : SqT K H2 a xs := same_seqT r0.same (same_seqT s h)
  have r2 := r.mono s p
  refine ⟨fun i d hd => ?_, ⟨xs, h2, by rw [enumD_len, r.length]; exact Nat.le_refl _⟩⟩
  obtain ⟨x, hx, rfl⟩ := enumD_get ds 0 i d hd
  obtain ⟨v, hv, rv⟩ := r2.get hx
  refine ⟨⟨xs, v, h2, hv⟩, fun y H3 ⟨T, z, e1, e2, e3, f⟩ => ?_⟩
  have hz := f _ h2
  rw [hv] at hz; cases hz
  subst e1
  rw [show (0 + i : Nat) = i from Nat.zero_add i]
  exact enum_turn r0 e2 rv e3
end
def wEnumerate (was : WA) : WI := fun env M RR => was env M fun ds M1 => match ds with
  | [.lst l] => RR (enumD 0 l) M1
  | [.rol l] => RR (enumD 0 l) M1
  | [.tup l] => RR (enumD 0 l) M1
  | _ => False
theorem di_enumerate {X : Cx} {B : Bs} {e : Expr} {was : WA} {elts : List Expr} {kk : Nat} {p pos tpos : Pos} (hg : Gl X "enumerate") (hm : X.mg "enumerate" = none) (ha : DA B X [e] was) (hs : starEach [e] X.env = [(false, eval e X.env)] := by rfl) :
    DI B X (.Tuple elts kk tpos) (.Call (.Name "enumerate" p) [e] [] pos) (wEnumerate was) := by
  refine (pi_enumA hg hm ha hs).imp fun σ H R => ?_
  rintro ⟨P, al, M, env, RR, rs, hw, L⟩
  refine ⟨P, al, M, env, _, rs, hw, fun ds M1 vs H1 P1 al1 e1 rs1 r1 q => ?_⟩
  split at q
  · cases r1 with
    | cons q1 t =>
      cases t
      cases q1 with
      | lst h1 h2 => exact .inl ⟨_, _, rfl, SqL.of (rs1.same _ _ h1), L _ _ _ _ _ _ e1 rs1 (walk_enumL (fun _ s => SqL.of (s _ _ h1)) h2) q⟩
  · cases r1 with
    | cons q1 t =>
      cases t
      cases q1 with
      | rol h1 h2 => exact .inl ⟨_, _, rfl, rs1.same.seq h1, L _ _ _ _ _ _ e1 rs1 (walk_enumL (fun _ s => s.seq h1) h2) q⟩
  · cases r1 with
    | cons q1 t =>
      cases t
      cases q1 with
      | tup h1 h2 => exact .inr ⟨_, _, rfl, same_seqT rs1.same h1, L _ _ _ _ _ _ e1 rs1 (walk_enumT h1 h2) q⟩
  · exact q.elim
end L3

namespace L3
open PySem PySem.Spec PyProof.Rows L2
/-! ### isinstance of the error that a suite holds -/
/-- what isinstance asks of an own error's class -/
structure ErC (K : PySem.W.Frag) (C : Addr) : Prop where
  cl : (PySem.W.clsIn K C).isSome = true
  ga : PySem.W.findIn K (.ref C) "__getattribute__" = some (some (.builtin "BaseException.__getattribute__"))
  gg : PySem.W.findIn K (.ref C) "__getattr__" = some none
  sb : PySem.W.subIn K (.ref C) (.type "BaseException") = some true
  ca : PySem.W.findIn K (.ref C) "__class__" = some (some (.builtin "object.__class__"))
  cg : PySem.W.specialIn K (.builtin "object.__class__") "__get__" = some (some (.builtin "getset_descriptor.__get__"))
  tk : PySem.W.takesIn K (.builtin "object.__class__") = some true
  ob : PySem.W.mroIn K C (.type "object") = some true
/-! ### isinstance of instances and other things, an own class asked -/
end L3

namespace L3
open PySem PySem.Spec PyProof.Rows L2
end L3

namespace L3
open PySem PySem.Spec PyProof.Rows L2 PySem.W
section
variable {prog : Program} {w : World} {A : Around} {E : Value → Shared → Prop} {hp : Heap} {g : Array GenState} {d : Drawn} {os : OsState}
end
end L3

namespace L3
open PySem PySem.Spec PyProof.Rows L2
/-! ### defs with **fields -/
section
variable {CX : CXT} {P : Program} {w : World} {K : PySem.W.Frag} {mg : Str → Option Value} {base : Heap} {k : Nat} {f : Addr} {name qual : Str} {params : Arguments} {body : List Stmt} {scope : Scope} {kV doc pm cdv ct oc : Value} {an od : Option Addr}
  {osl : Array (Option Value)} {N : List Str} {p1 pd : Str} {sp : Sp}
end
end L3

namespace L3
open PySem PySem.Spec PyProof.Rows L2
section
variable {M : Model} {A : Around} {E : Value → Shared → Prop} {s : Shared} {f : Value} {x : Sem Value}
end
section
variable {prog : Program} {w : World} {A : Around} {E : Value → Shared → Prop} {s : Shared}
end
end L3

namespace L3
open PySem PySem.Spec PyProof.Rows L2
section
variable {prog : Program} {w : World} {A : Around} {E : Value → Shared → Prop} {s : Shared} {f : Value} {x : Sem Value}
end
end L3

namespace L3
open PySem PySem.Spec PyProof.Rows L2
section
variable {X : Cx} {CX : CXT} {k : Nat} {f C : Addr} {E : XK}
end
section
variable {X : Cx} {CX : CXT} {k i : Nat} {f C : Addr} {E : L2.St → XK} {x y : Str} {p p2 pos : Pos}
end
end L3

namespace L3
open PySem PySem.Spec PyProof.Rows L2
/-! ### over data -/
section
variable {P : Program} {w : World} {K : PySem.W.Frag} {mg : Str → Option Value} {base : Heap}
end
section
variable {X : Cx} {B : Bs} {CX : CXT} {k i j : Nat} {f C : Addr} {sp : DSp} {n x y p1 : Str} {p p2 kpos pos : Pos} {was : WA} {RX : RXe} {kws : List Keyword} {names : List Str}
end
end L3

namespace L3
open PySem PySem.Spec PyProof.Rows L2
theorem _root_.L2.PK.imp {X : Cx} {kws : List Keyword} {t u : TA} (h : PK X kws t) (i : ∀ σ H Q, u σ H Q → t σ H Q) : PK X kws u := ⟨fun pos pins s σ H Q I q => h.run pos pins s σ H Q I (i σ H Q q)⟩
section
variable {X : Cx} {B : Bs} {CX : CXT} {k : Nat} {f C : Addr} {sp : DSp} {n x p1 : Str} {nm : Option Str} {p kpos pos : Pos} {e : Expr} {we : WE} {was : WA} {RX : RXe} {kws : List Keyword} {names : List Str}
end
/-! ### a list that is no longer changed, published ahead of a statement -/
def unCel (d d' : D) : Option D → Option D
  | some y => match y, d with
    | .cel m, .cel n => if m = n then some d' else some y
    | _, _ => some y
  | none => none
section
variable {X : Cx} {B : Bs} {st : Stmt} {w : WS} {i : Nat}
theorem d_frz (h : DS B X st w) : DS B X st (wFrz i w) := by
  refine h.imp fun D σ H => ?_
  rintro ⟨P, al, M, env, k, rs, hw, L⟩
  unfold wFrz at hw
  split at hw
  · rename_i d hd
    obtain ⟨v, hv, r⟩ := rs.slot i d hd
    obtain ⟨d', M', P', e, r0, rd, q⟩ := frz_ok rs.toRS0 r hw
    refine ⟨P', al, M', _, k, ⟨r0, by rw [List.length_map]; exact rs.slen, fun j z hz => ?_⟩, q, L.after e⟩
    rw [List.getElem?_map] at hz
    cases ho : env[j]? with
    | none => rw [ho] at hz; cases hz
    | some o =>
      rw [ho] at hz
      cases o with
      | none => cases hz
      | some y =>
        obtain ⟨v2, hv2, r2⟩ := rs.slot j y ho
        have r2' := r2.mono e.pp e.pre
        have key : (z = y) ∨ (z = d' ∧ v2 = v) := by
          dsimp only [Option.map] at hz
          split at hz
          · rename_i m n
            split at hz
            · rename_i hmn
              subst hmn
              refine .inr ⟨(Option.some.inj (Option.some.inj hz)).symm, ?_⟩
              cases r with
              | cel a1 => cases r2 with
                | cel a2 => rw [a1] at a2; cases a2; rfl
            · exact .inl (Option.some.inj (Option.some.inj hz)).symm
          · exact .inl (Option.some.inj (Option.some.inj hz)).symm
        rcases key with rfl | ⟨rfl, rfl⟩
        · exact ⟨v2, hv2, r2'⟩
        · exact ⟨_, hv2, rd⟩
  · exact hw.elim
end
end L3


namespace L3
open PySem PySem.Spec PyProof.Rows L2
/-! ### operators by own methods -/
structure OpC (K : PySem.W.Frag) (C : Addr) (m : Str) (f : Addr) : Prop where
  at_ : PySem.W.findIn K (.ref C) m = some (some (.ref f))
  fn : PySem.W.isFn K (.ref f) = true
section
variable {X : Cx} {CX : CXT} {k : Nat} {f C : Addr} {E : XK}
/-- the callee runs, called from a built-in -/
theorem run_in1 {sp : Sp} {pins : List (Addr × Obj)} {σ : L2.St} {H : Hp} {s : Shared} {Q : VK} {us : List Value} {vs : List V} (F : FnR X.prog X.w X.K X.mg X.base CX k f sp) (hr : Room (k + 1) X.A) (hx : PassesAt CX X σ E) (I : Inv X pins σ H s) (r : Vals vs us) (h : sp vs H Q E) :
    codeAny (model X.prog X.w) X.A.in1 (.call (.ref f) ⟨us, []⟩) (fun r s' => match r with
      | .ok (.ret v) => EP X pins σ Q v s'
      | .ok _ => False
      | .error e => X.xe e s') s := by
  refine codeAny_mono (F X.A.in1 X.stack s H us vs Q E hr.in1 I.env0.in1 r h) fun r s' hq => ?_
  match r, hq with
  | .error e, hq => exact hx pins H s e s' I hq
  | .ok (.ret u), hq => exact I.after hq
  | .ok .next, hq => exact hq.elim
  | .ok .brk, hq => exact hq.elim
  | .ok .cont, hq => exact hq.elim
end
section
variable {X : Cx} {B : Bs} {CX : CXT} {k : Nat} {f C : Addr} {sp : DSp} {n : Str} {a b : Expr} {wa wb : WE} {op : Operator} {pos : Pos} {RX : RXe}
theorem view_objOf {K : PySem.W.Frag} {B : Bs} {P : Hp} {al : List Addr} {M : Mt} {H : Hp} {d : D} {v : V} {fs : List (Str × D)} (ca : ClsAt K n C) (r : RS0 K B P al M H) (q : Rep K P al d v) (e : viewD M d = .obj n fs) : ∃ a dx xs, v = .ref a ∧ H a = some (.ins C dx xs) := by
  obtain ⟨a, C', dx, xs, rfl, ha, hc, _⟩ := view_obj r q e
  obtain rfl := ca.one hc
  exact ⟨a, dx, xs, rfl, ha⟩
end
end L3

namespace L3
open PySem PySem.Spec PyProof.Rows L2
/-! ### static methods read off their class -/
structure SMet (K : PySem.W.Frag) (C : Addr) (mc : Value) (m : Str) (p g : Addr) : Prop where
  at_ : PySem.W.findCls K (.ref C) mc m = some (.get (.builtin "staticmethod.__get__") (.ref p) .none (.ref C))
  rc : ∃ rest, PySem.W.recIn K p "staticmethod" = some (.ref g :: rest)
  kp : PySem.W.keepIn K (.ref g) = true
section
variable {X : Cx} {B : Bs} {CX : CXT} {k : Nat} {C p g : Addr} {mc : Value} {sp : DSp} {n m : Str} {pos apos : Pos} {e o : Expr} {es : List Expr} {was : WA} {wo : WE} {RX : RXe} {dvs : List V} {dds : List D}
def wSMeth (n : Str) (sp : DSp) (dds : List D) (RX : RXe) (wo : WE) (was : WA) : WE := fun env M R => wo env M fun o M1 => match o with
  | .cls n' => Need (n' = n) ∧ was env M1 fun ds M2 => sp (ds ++ dds) M2 R fun n fs M' => RX n fs env M'
  | _ => False
theorem d_smeth {pl : Sem Bool} (ca : ClsAt X.K n C) (ho : DE B X o wo) (r : ClX.CRead X.K C mc) (c : SMet X.K C mc m p g) (F : FnR X.prog X.w X.K X.mg X.base CX k g (fun vs H Q E => toSp X.K sp (vs ++ dvs) H Q E)) (hdd : ∀ P al, Reps X.K P al dds dvs) (hr : Room k X.A) (hx : Rz X B CX RX) (ha : DA B X (e :: es) was)
    (hst : starEach (e :: es) X.env = (false, eval e X.env) :: starEach es X.env := by rfl) (hpl : (backTo pos (starEach es X.env)).any (·.1) = false := by rfl)
    (ht : eval (.Call (.Attribute o m apos) (e :: es) [] pos) X.env = (do
      let ov ← eval o X.env
      standAt apos.atName
      let (f, fst) ← holding [ov] (getMethod ov m pl)
      callWith pos f fst (backTo pos (starEach (e :: es) X.env)) (backToKw pos (keywordEach [] X.env))) := by rfl) : DE B X (.Call (.Attribute o m apos) (e :: es) [] pos) (wSMeth n sp dds RX wo was) := by
  refine ⟨fun pins s σ H Q I h => ?_⟩
  obtain ⟨P, al, M, env, R, rs, hw, L⟩ := h
  refine PySem.W.methodCall_KW (pl := pl) (thn (ho.run pins s σ H (fun x H1 => x = .ref C ∧ tDA X.K B was σ H1 fun vs H2 => toSp X.K sp (vs ++ dvs) H2 Q (L2.WE (WL X.K B RX) σ)) I ⟨P, al, M, env, _, rs, hw, fun d M1 v H1 P1 al1 e1 rs1 r1 q => ?_⟩) fun u s1 ⟨x, H1, I1, rx, ex, q⟩ => ?_) ht
  · split at q
    · obtain ⟨hn, q⟩ := q
      have hn := hn.out
      subst hn
      cases r1 with
      | cls c2 =>
        obtain rfl := ca.one c2
        exact ⟨rfl, P1, al1, M1, env, _, rs1, q, fun ds M2 vs H2 P2 al2 e2 rs2 r2 q2 => sp_at rs2 (r2.append (hdd _ _)) (L.after (e1.trans e2)) q2⟩
    · exact q.elim
  · subst ex
    cases rx
    obtain ⟨rest, hp⟩ := c.rc
    refine PySem.W.method_cls I1.kIn r.ga (PySem.W.cls_bind I1.kIn r.rd c.at_ ?_)
    refine wpAny_call (PySem.W.sm_get (s := { s1 with toks := s1.toks + 1 }) I1.kIn hp (PySem.W.handed_on rfl ?_))
    have I2 : Inv X pins σ H1 { s1 with toks := s1.toks + 1 } := I1.tok _
    refine PySem.W.callWith_K (first := []) (h₀ := X.base) I.ok.mod.kin c.kp (thn (ha.run pos pins _ σ H1 _ I2 q) fun us s3 ⟨vs, H2, I3, rv, q2⟩ => ⟨I3.kIn, ?_⟩) hst hpl
    exact wpAny_call (run_at (us := us) (vs := vs) F hr (hx σ) I3 rv q2)
end
end L3

namespace L3
open PySem PySem.Spec PyProof.Rows L2
/-! ### defs (a, .., *v, k1, k2) called with their keywords -/
section
variable {CX : CXT} {P : Program} {w : World} {K : PySem.W.Frag} {mg : Str → Option Value} {base : Heap} {k : Nat} {f : Addr} {name qual : Str} {params : Arguments} {body : List Stmt} {scope : Scope} {dV kV doc pm cdv ct oc : Value} {an od : Option Addr}
  {osl : Array (Option Value)} {N ps ks : List Str} {pv : Str} {sp : Sp}
end
section
variable {P : Program} {w : World} {K : PySem.W.Frag} {mg : Str → Option Value} {base : Heap}
end
section
variable {prog : Program} {w : World} {A : Around} {E : Value → Shared → Prop} {s : Shared} {f : Value}
end
section
variable {X : Cx} {B : Bs} {CX : CXT} {k np : Nat} {f C : Addr} {sp : DSp} {n x : Str} {p kpos pos : Pos} {e : Expr} {es : List Expr} {was wks : WA} {RX : RXe} {kws : List Keyword} {names : List Str}
end
end L3

namespace L3
open PySem PySem.Spec PyProof.Rows L2
/-! ### while -/
section
variable {X : Cx} {B : Bs} {c : Expr} {body : List Stmt} {pos : Pos} {t : WT} {b : WS}
end
/-! ### y = [..], and lists that will change -/
section
variable {K : PySem.W.Frag} {B : Bs} {wi : WI} {g : TG} {is vs : List Nat} {t : WTs} {we : WE}
end
section
variable {X : Cx} {B : Bs} {e : Expr} {tg elt : Expr} {ifs : List Expr} {scope : Scope} {own : List (Str × Nat)} {g : TG} {is : List Nat} {wi : WI} {t : WTs} {we : WE} {pos spos py : Pos} {i : Nat} {y : Str}
end
/-! ### sum, sorted -/
def strsD : List D → Option (List Str)
  | [] => some []
  | .str i :: r => (strsD r).map (i :: ·)
  | _ => none
theorem strs_rep {K : PySem.W.Frag} {P : Hp} {al : List Addr} : ∀ {ds : List D} {vs : List V} {bs : List Str}, Reps K P al ds vs → strsD ds = some bs → vs = bs.map V.str
  | _, _, _, .nil, e => by cases e; rfl
  | _, _, _, .cons (d := d) (ds := ds) r t, e => by
    cases d <;> simp [strsD] at e
    obtain ⟨bs, h, rfl⟩ := e
    cases r
    rw [strs_rep t h]; rfl
theorem str_reps {K : PySem.W.Frag} {P : Hp} {al : List Addr} : ∀ ns : List Str, Reps K P al (ns.map D.str) (ns.map V.str)
  | [] => .nil
  | x :: r => .cons (.str x) (str_reps r)
section
variable {X : Cx} {B : Bs} {K : PySem.W.Frag}
/-- sorted(xs), texts -/
def cSortS : WCl := fun ds M R => match ds with
  | [x] => match lstD (viewD M x) with
    | some l => match strsD l with
      | some ns => Need (ns.length < 64) ∧ ∀ ns' : List Str, ns'.Perm ns → sortedS ns' = true → R (.lst (ns'.map D.str)) M
      | none => False
    | none => False
  | _ => False
theorem cSortS_ok : CallD K B (rSortedS K) cSortS := by
  intro P al M env σ H vs ds R Q rs r h L
  unfold cSortS at h
  split at h
  · cases r with
    | cons r1 t =>
      cases t
      split at h
      · rename_i l e1
        split at h
        · rename_i ns e2
          obtain ⟨a, xs, rfl, h1, q1⟩ := view_lstD rs.toRS0 r1 e1
          have := strs_rep q1 e2
          subst this
          exact ⟨a, ns, rfl, h1, h.1.out, fun ns' p hp hs hn => L.alloc rs hn (.lst upd_same (str_reps ns')) (h.2 ns' hp hs)⟩
        · exact h.elim
      · exact h.elim
  · exact h.elim
end
end L3

namespace L3
open PySem PySem.Spec PyProof.Rows L2
/-! ### what is never reached -/
def wNevS : WS := fun _ _ _ => False
section
variable {X : Cx} {B : Bs} {e : Expr} {st : Stmt} {ss : List Stmt} {pos p : Pos}
theorem d_nevS : DS B X st wNevS := ⟨fun _ _ _ _ _ _ h => by obtain ⟨_, _, _, _, _, _, h, _⟩ := h; exact h.elim⟩
end
/-! ### an object of our own beside the state becomes one of the table -/
/-! ### lists of keys, of a range -/
def kD : Key → D
  | .inl i => .int i
  | .inr s => .str s
theorem kD_rep {K : PySem.W.Frag} {P : Hp} {al : List Addr} : ∀ {ks : List (Key × D)} {kvs : List (Key × V)}, RepKs K P al ks kvs → Reps K P al (ks.map fun p => kD p.1) (kvs.map fun p => kV p.1)
  | _, _, .nil => .nil
  | _, _, .cons (k := k) _ t => .cons (by cases k <;> first | exact .int _ | exact .str _) (kD_rep t)
/-- list(x), x a list, a tuple or a dict -/
def cListA (m : Bool) : WCl := fun ds M R => match ds with
  | [x] => match viewD M x with
    | .dct ks => if m then R (.cel M.length) (M ++ [.lst (ks.map fun p => kD p.1)]) else R (.lst (ks.map fun p => kD p.1)) M
    | .fdc ks => if m then R (.cel M.length) (M ++ [.lst (ks.map fun p => kD p.1)]) else R (.lst (ks.map fun p => kD p.1)) M
    | _ => cList m ds M R
  | _ => False
def rListR : List V → Hp → VK → Prop := fun xs H Q => ∃ (a : Addr) (kvs : List (Key × V)), xs = [.ref a] ∧ Rd H a (.dK kvs) ∧ ∀ p, H p = none → Q (.ref p) (upd H p (.lst (kvs.map fun kv => kV kv.1)))
theorem callListA {X : Cx} (hc : X.calm = true) : CallR X (.type "list") (fun xs H Q => (∃ p ys, xs = [.ref p] ∧ (SqL X.K H p ys ∨ SqT X.K H p ys) ∧ ∀ l, H l = none → Q (.ref l) (upd H l (.lst ys))) ∨ rListR xs H Q) := call_list_of.or (call_listD hc)
theorem cListA_ok {K : PySem.W.Frag} {B : Bs} {m : Bool} : CallD K B (fun xs H Q => (∃ p ys, xs = [.ref p] ∧ (SqL K H p ys ∨ SqT K H p ys) ∧ ∀ l, H l = none → Q (.ref l) (upd H l (.lst ys))) ∨ rListR xs H Q) (cListA m) := by
  intro P al M env σ H vs ds R Q rs r h L
  unfold cListA at h
  split at h
  · rename_i x
    split at h
    · rename_i ks e
      cases r with
      | cons r1 t =>
        cases t
        obtain ⟨a, kvs, rfl, ha, rk⟩ := view_dct rs.toRS0 r1 e
        refine .inr ⟨a, kvs, rfl, .inl ha, fun q hq => ?_⟩
        cases m with
        | true => exact L.allocM rs hq (kD_rep rk) h
        | false => exact L.alloc rs hq (.lst upd_same ((kD_rep rk).mono (same_new rs.toRS0 hq) (List.prefix_refl _))) h
    · rename_i ks e
      cases r with
      | cons r1 t =>
        cases t
        obtain ⟨a, kvs, rfl, ha, rk⟩ := view_fdc rs.toRS0 r1 e
        refine .inr ⟨a, kvs, rfl, ha, fun q hq => ?_⟩
        cases m with
        | true => exact L.allocM rs hq (kD_rep rk) h
        | false => exact L.alloc rs hq (.lst upd_same ((kD_rep rk).mono (same_new rs.toRS0 hq) (List.prefix_refl _))) h
    · exact .inl (cList_ok P al M env σ H vs [x] R Q rs r h L)
  · exact h.elim
/-! ### a dict display that will change; list(range(..)) -/
section
variable {X : Cx} {B : Bs} {pos : Pos}
end
/-- a callee that may raise, but not here -/
theorem rzN {X : Cx} {B : Bs} : Rz X B (L2.CX X.prog X.w) RXn := fun σ _ _ _ _ _ _ h => by
  obtain ⟨_, _, _, _, _, _, _, _, _, _, _, _, z⟩ := h
  obtain ⟨_, _, _, _, _, _, _, _, _, _, _, z⟩ := z
  exact (show False from z).elim
end L3

namespace L3
open PySem PySem.Spec PyProof.Rows L2
section
variable {P : Program} {w : World} {K : PySem.W.Frag} {mg : Str → Option Value} {base : Heap}
/-- a promise without defaults, by positional values -/
theorem fnR0 {CX : CXT} {k : Nat} {f : Addr} {fd : FuncData} {ps : List Str} {sp : Sp} (F : FnOk P w K mg base CX k f fd ps sp) (hb : Binds K fd ps []) : FnR P w K mg base CX k f sp :=
  (F.raw hb .nil).imp fun vs H Q E h => by rw [List.append_nil]; exact h
end
/-! ### y = [..], a list that will change -/
section
variable {K : PySem.W.Frag} {B : Bs} {wi : WI} {g : TG} {is vs : List Nat} {t : WTs} {we : WE}
end
section
variable {X : Cx} {B : Bs} {e : Expr} {tg elt : Expr} {ifs : List Expr} {scope : Scope} {own : List (Str × Nat)} {g : TG} {is : List Nat} {wi : WI} {t : WTs} {we : WE} {pos spos py : Pos} {i : Nat} {y : Str}
end
end L3

namespace L3
open PySem PySem.Spec PyProof.Rows L2
/-! ### steps by what they ask: for walks -/
section
variable {M M0 T : Mt} {R : D → Mt → Prop} {x d : D} {n i : Nat} {l ds : List D} {env : Ev}
theorem range_map (lo : Int) (n : Nat) : rangeD lo n = (List.range n).map fun (k : Nat) => .int (lo + k) := by unfold rangeD; rfl
theorem range_len (lo : Int) (n : Nat) : (rangeD lo n).length = n := by rw [range_map]; simp
theorem range_get {lo : Int} {n i : Nat} {d : D} (h : (rangeD lo n)[i]? = some d) : i < n ∧ d = .int (lo + i) := by
  have hi : i < n := by
    have := (List.getElem?_eq_some_iff.mp h).1
    rwa [range_len] at this
  refine ⟨hi, ?_⟩
  rw [range_map, List.getElem?_map, List.getElem?_range hi] at h
  exact (Option.some.inj h).symm
theorem view_at (h : M[i]? = some (.lst l)) : viewD M (.cel i) = .lst l := by simp only [viewD, h]
theorem len_use (h : viewD M x = .lst l) (k : R (.int l.length) M) : cLen [x] M R := by
  simp only [cLen, h, seqD]; exact k
theorem len_tup (h : viewD M x = .tup l) (k : R (.int l.length) M) : cLen [x] M R := by
  simp only [cLen, h, seqD]; exact k
theorem app_use (h : M[n]? = some (.lst l)) (hl : l.length < sizeLine) (k : R .non (M.set n (.lst (l ++ [d])))) : mAppend (.cel n) [d] M R := by
  simp only [mAppend, h]; exact ⟨⟨hl⟩, k⟩
theorem pop_use {j : Int} (h : M[n]? = some (.lst l)) (h0 : 0 ≤ j) (h1 : j < l.length) (hl : l.length < 2 ^ 62) (k : ∀ d, l[j.toNat]? = some d → R d (M.set n (.lst (l.eraseIdx j.toNat)))) : mPopAt (.cel n) [.int j] M R := by
  have hj : j.toNat < l.length := by omega
  have e : seqIndex? j l.length = some j.toNat := by
    unfold seqIndex?
    simp only [show ¬ j < 0 by omega, if_false]
    first | rw [if_pos (by omega)] | (split <;> simp_all <;> omega) | simp_all
  simp only [mPopAt, h, e]
  refine ⟨⟨by omega, by omega⟩, ?_⟩
  have e2 : l[j.toNat]? = some l[j.toNat] := List.getElem?_eq_getElem hj
  have := k _ e2
  rw [e2]; exact this
theorem setIx_use {j : Int} {Q : Mt → Prop} (h : M[n]? = some (.lst l)) (h0 : 0 ≤ j) (h1 : j < l.length) (k : Q (M.set n (.lst (l.set j.toNat d)))) : dsetIx d (.cel n) (.int j) M Q := by
  have e : ixN l.length j = some j.toNat := by unfold ixN; rw [if_pos h0, if_pos h1]
  simp only [dsetIx, h, e]; exact k
theorem len_str {s : Str} (h : viewD M x = .str s) (h2 : s.length ≤ sizeLine) (k : R (.int s.length) M) : cLen [x] M R := by
  simp only [cLen, h]; exact ⟨⟨h2⟩, k⟩
theorem strsD_map : ∀ ns : List Str, strsD (ns.map D.str) = some ns
  | [] => rfl
  | a :: r => by simp only [List.map_cons, strsD, strsD_map r, Option.map_some]
theorem flatDs_strs : ∀ ns : List Str, flatDs (ns.map D.str) = some (ns.map V.str)
  | [] => rfl
  | a :: r => by simp only [List.map_cons, flatDs, flatD, flatDs_strs r]
theorem inV_strs (s : Str) : ∀ ns : List Str, inV (.str s) (ns.map V.str) = decide (s ∈ ns)
  | [] => rfl
  | a :: r => by
    have ih := inV_strs s r
    have e : inV (.str s) ((a :: r).map V.str) = ((a == s) || inV (.str s) (r.map V.str)) := rfl
    rw [e, ih]
    by_cases h : a = s
    · subst h; simp
    · have : (a == s) = false := by simpa using h
      rw [this]; simp [Ne.symm h]
theorem in_use {s : Str} {ns : List Str} {neg : Bool} (h : viewD M x = .lst (ns.map D.str) ∨ viewD M x = .tup (ns.map D.str)) (k : R (.bl (if neg then !decide (s ∈ ns) else decide (s ∈ ns))) M) : oIn neg (.str s) x M R := by
  rcases h with h | h <;> simp only [oIn, h, seqD, flatD, flatDs_strs, inV_strs] <;> exact k
theorem in_flat {s : Str} {vs : List V} {neg : Bool} (h : seqD (viewD M x) = some l) (h2 : flatDs l = some vs) (k : R (.bl (if neg then !inV (.str s) vs else inV (.str s) vs)) M) : oIn neg (.str s) x M R := by
  unfold oIn
  split
  · rename_i e; rw [e] at h; cases h
  · rw [h]; simp only [flatD, h2]; exact k
theorem in_str {s z : Str} {neg : Bool} (h : viewD M x = .str z) (k : R (.bl (if neg then !strIn s z else strIn s z)) M) : oIn neg (.str s) x M R := by
  have e : viewD M (.str s) = .str s := rfl
  simp only [oIn, h, e]; exact k
theorem cut_take (l : List D) (k : Nat) : cutD l none (some (k : Int)) = l.take k := by
  unfold cutD
  rw [HT.sIx_none, HT.sIx_nat, List.drop_zero, Nat.sub_zero, List.take_eq_take_iff]
  omega
theorem mkEnd_i {fs : List (Str × D)} {n : Str} (h : noCelF M.length fs = true) (k : R (.obj n fs) M) : mkEnd M R (M ++ [.obj n fs]) := by
  unfold mkEnd; exact ⟨n, fs, rfl, ⟨h⟩, k⟩
/-- a comprehension that changes the table: what holds behind each item -/
theorem lcL_inv {is vs : List Nat} {t : WTs} {we : WE} {env : Ev} (I : Nat → List D → Mt → Prop) {ds : List D} {M : Mt} {R : List D → Mt → Prop} (hl : ds.length ≤ sizeLine) (h0 : I 0 [] M)
    (hs : ∀ (i : Nat) (d : D) (acc : List D) (M : Mt) (A : D → Mt → Prop) (C : Mt → Prop), ds[i]? = some d → I i acc M → (∀ y M3, I (i + 1) (acc ++ [y]) M3 → A y M3) → (∀ M3, I (i + 1) acc M3 → C M3) →
      bnd is d (wipeE env vs) fun env1 => t env1 M fun b M2 => ifB b (we env1 M2 A) (C M2))
    (hd : ∀ acc M, acc.length ≤ ds.length → I ds.length acc M → R acc M) : lcL is t we vs env ds [] M R := by
  have key : ∀ (n i : Nat), i + n = ds.length → ∀ acc M, acc.length ≤ i → I i acc M → lcL is t we vs env (ds.drop i) acc M R := by
    intro n
    induction n with
    | zero =>
      intro i hi acc M ha h
      rw [List.drop_eq_nil_of_le (by omega)]
      have : i = ds.length := by omega
      subst this
      exact hd _ _ ha h
    | succ n ih =>
      intro i hi acc M ha h
      have hlt : i < ds.length := by omega
      rw [List.drop_eq_getElem_cons hlt]
      exact hs i _ acc M _ _ (List.getElem?_eq_getElem hlt) h (fun y M3 h3 => ⟨⟨by omega⟩, ih (i + 1) (by omega) _ _ (by simp; omega) h3⟩) fun M3 h3 => ih (i + 1) (by omega) _ _ (by omega) h3
  have := key ds.length 0 (by omega) [] M (Nat.le_refl _) h0
  simpa using this
theorem noCels_mem {n : Nat} : ∀ {l : List D}, noCels n l = true ↔ ∀ d ∈ l, noCel n d = true
  | [] => by simp [noCels]
  | a :: r => by simp only [noCels, Bool.and_eq_true, noCels_mem (l := r), List.mem_cons, forall_eq_or_imp]
end
end L3

namespace L3
open PySem PySem.Spec PyProof.Rows L2
/-! ### promises that hold where no guard of a repr stands -/
section
variable {P : Program} {w : World} {K : PySem.W.Frag} {mg : Str → Option Value} {base : Heap} {CX : CXT}
/-- what a def promises to callers around which nothing is being told -/
structure FnG (P : Program) (w : World) (K : PySem.W.Frag) (mg : Str → Option Value) (base : Heap) (CX : CXT) (k : Nat) (f : Addr) (fd : FuncData) (ps : List Str) (sp : Sp) : Prop where
  len : ∀ vs H Q E, sp vs H Q E → vs.length = ps.length
  run : ∀ (A : Around) (outer : List Env) (s : Shared) (H : Hp) (args : Args) (us : List Value) (vs : List V) (Q : VK) (E : XK), A.guards = some [] → Room k A → Env0 P w K mg base A outer s H →
    BindsTo s fd args (ps.zip us) → Vals vs us → sp vs H Q E → codeAny (model P w) A (.call (.ref f) args) (CR CX outer P w H s Q E) s
theorem FnG.of {k : Nat} {f : Addr} {fd : FuncData} {ps : List Str} {sp : Sp} (F : FnOk P w K mg base CX k f fd ps sp) : FnG P w K mg base CX k f fd ps sp :=
  ⟨F.len, fun A outer s H args us vs Q E _ => F.run A outer s H args us vs Q E⟩
theorem FnG.mono {j k : Nat} {f : Addr} {fd : FuncData} {ps : List Str} {sp : Sp} (F : FnG P w K mg base CX j f fd ps sp) (h : j ≤ k) : FnG P w K mg base CX k f fd ps sp :=
  ⟨F.len, fun A outer s H args us vs Q E hg hr => F.run A outer s H args us vs Q E hg (hr.mono h)⟩
/-- a def by its body -/
theorem fnG_of {x qual : Str} {st : Stmt} {f : Addr} {fd : FuncData} {N ps : List Str} {k : Nat} {sp : Sp} (F : Fun K x qual st f fd) (sc : FnScope N ps (defScope st)) (len : ∀ vs H Q E, sp vs H Q E → vs.length = ps.length)
    (body : ∀ (cdv : Value) (A : Around) (outer : List Env) (s : Shared) (H : Hp) (vs : List V) (Q : VK) (E : XK), A.guards = some [] → Room k (A.deeper (envOfC qual (defScope st) s.heap.objs.size f cdv)) → sp vs H Q E →
      ∃ t, PSs (cxOf CX P w K mg base N qual (defScope st) f cdv A outer s H E) (defBody st) t ∧ t { nx := fun _ H' => Q .non H', rt := Q } (start N vs) H) : FnG P w K mg base CX (k + 1) f fd ps sp := by
  obtain ⟨oc, od, kV, doc, pm, an, cdv, ct, osl, rfl, look, code⟩ := F.ex
  constructor
  · exact len
  intro A outer s H args us vs Q E hg room env0 binds vals asked
  have inK : K.In s.heap := (env0.mod.kin).keeps fun b o at_b => (env0.bs b o at_b).1
  have free : s.heap.NoLimit := (env0.mod.nolimit).keeps fun b o at_b => (env0.bs b o at_b).1
  have kinds : ∀ z ∈ ps.zip us, (defScope st).names.lookup z.1 = some .local ∨ ((defScope st).names.lookup z.1 = some .cell ∧ ((cellsFrom (s.heap.objs.size + 1) (defScope st).names []).lookup z.1).isSome = true) := by
    rintro ⟨n, v⟩ hz
    cases sc.par n (List.of_mem_zip hz).1 with
    | inl q => exact Or.inl q
    | inr q => exact Or.inr (And.intro q (PySem.W.cellsFrom_some _ _ _ (Or.inl q)))
  apply codeAny_call_function room.depth (inK _ _ look) rfl sc.co sc.gen rfl (PySem.W.codeRec_of inK code)
  apply binds
  apply wpAny_newFunctionEnv_cells sc.kind kinds
  intro env is_env s1 inside
  subst is_env
  constructor
  · exact free.keeps inside.toInCall.keep
  apply codeAny_func
  obtain ⟨t, walk, start_ok⟩ := body cdv A outer s H vs Q E hg (room.deeper _) asked
  have inv0 := inv_start (CX := CX) (E := E) (qual := qual) (f := f) (cd := cdv) sc room.hd env0 (len _ _ _ _ asked) vals inside
  have ran := walk.run [] s1 (start N vs) H _ inv0 start_ok
  refine wpAny_mono ran ?_ ?_
  · intro flow s2 got
    cases flow with
    | next =>
      obtain ⟨σ2, H2, J, q⟩ := got
      exact ⟨.non, H2, J.os, J.bare, J.base, J.hok, rfl, q⟩
    | ret u =>
      obtain ⟨v, σ2, H2, J, rv, q⟩ := got
      exact ⟨v, H2, J.os, J.bare, J.base, J.hok, rv, q⟩
    | brk => obtain ⟨_, _, _, no⟩ := got; exact no.elim
    | cont => obtain ⟨_, _, _, no⟩ := got; exact no.elim
  · exact fun e s2 got => got
end
end L3
namespace L3
open PySem PySem.Spec PyProof.Rows L2
section
variable {X : Cx} {B : Bs} {CX : CXT} {k : Nat} {f : Addr} {fd : FuncData} {ps : List Str} {sp : DSp} {x : Str} {p pos : Pos} {e : Expr} {es : List Expr} {was : WA} {RX : RXe}
/-- such a def is called -/
theorem run_G {sq : Sp} {E : XK} {pins : List (Addr × Obj)} {σ : L2.St} {H : Hp} {s : Shared} {Q : VK} {us : List Value} {vs : List V} (F : FnG X.prog X.w X.K X.mg X.base CX k f fd ps sq) (quiet : X.A.guards = some []) (room : Room k X.A) (binds : Binds X.K fd ps [])
    (pass : PassesAt CX X σ E) (I : Inv X pins σ H s) (r : Vals vs us) (asked : sq vs H Q E) : wpAny (model X.prog X.w) X.A (call (.ref f) us) (EP X pins σ Q) X.xe s := by
  have many : us.length = (ps ++ []).length - ([] : List Value).length := by rw [← r.length, F.len _ _ _ _ asked]; simp
  have bound := binds s us I.kIn (by simp only [List.append_nil, List.length_nil, Nat.sub_zero] at many ⊢; exact many)
  simp only [List.append_nil] at bound
  apply wpAny_call
  apply codeAny_mono (F.run X.A X.stack s H ⟨us, []⟩ us vs Q E quiet room I.env0 bound r asked)
  intro res s2 got
  match res, got with
  | .error err, got => exact pass pins H s err s2 I got
  | .ok (.ret u), got => exact I.after got
  | .ok .next, got => exact got.elim
  | .ok .brk, got => exact got.elim
  | .ok .cont, got => exact got.elim
theorem d_callG (F : FnG X.prog X.w X.K X.mg X.base CX k f fd ps (toSp X.K sp)) (quiet : X.A.guards = some []) (room : Room k X.A) (pass : Rz X B CX RX) (hg : Gl X x) (hm : X.mg x = some (.ref f)) (hk : PySem.W.keepIn X.K (.ref f) = true) (hb : Binds X.K fd ps [])
    (ha : DA B X (e :: es) was) (hdb : (x == ("__debug__" : Str)) = false := by decide) (he : starEach (e :: es) X.env = (false, eval e X.env) :: starEach es X.env := by rfl) (hpl : (backTo pos (starEach es X.env)).any (·.1) = false := by rfl) :
    DE B X (.Call (.Name x p) (e :: es) [] pos) (wCallX sp [] RX was) := by
  constructor
  rintro pins s σ H Q I ⟨P, al, M, env, R, rs, hw, L⟩
  apply wpAny_Call_Name_kw (ld_glob I hg hm ?_ hdb)
  apply PySem.W.callWith_K (h₀ := X.base) I.ok.mod.kin hk ?_ he hpl
  refine thn (ha.run pos pins s σ H (fun vs H1 => toSp X.K sp vs H1 Q (L2.WE (WL X.K B RX) σ)) I ⟨P, al, M, env, _, rs, hw, ?_⟩) ?_
  · intro ds M1 vs H1 P1 al1 e1 rs1 r1 q
    rw [List.append_nil] at q
    exact sp_at rs1 r1 (L.after e1) q
  · rintro us s1 ⟨vs, H1, I1, r, q⟩
    exact ⟨I1.kIn, run_G F quiet room hb (pass _) I1 r q⟩
end
section
variable {P : Program} {w : World} {K : PySem.W.Frag} {mg : Str → Option Value} {base : Heap}
/-- a def whose body asks for repr -/
theorem dfnG {x qual : Str} {st : Stmt} {f : Addr} {fd : FuncData} {N ps : List Str} {k : Nat} {sp : DSp} (F : Fun K x qual st f fd) (S : FnScope N ps (defScope st)) (len : ∀ ds M R RX, sp ds M R RX → ds.length = ps.length)
    (body : ∀ (B : Bs) (cdv : Value) (A : Around) (outer : List Env) (s : Shared) (H : Hp) (E : XK), A.guards = some [] → Room k (A.deeper (envOfC qual (defScope st) s.heap.objs.size f cdv)) →
      ∃ wb : RXe → WS, (∀ RX : RXe, Takes (cxOf (L2.CX P w) P w K mg base N qual (defScope st) f cdv A outer s H E) (WL K B RX) → DSs B (cxOf (L2.CX P w) P w K mg base N qual (defScope st) f cdv A outer s H E) (defBody st) (wb RX)) ∧
        ∀ ds M R RX, sp ds M R RX → M.all (cellOk M.length) = true → noCels M.length ds = true → wb (fun nm fs _ M' => rxF M.length RX nm fs M') (fnEnds M.length R) (startE N.length ds) M) :
    FnG P w K mg base (L2.CX P w) (k + 1) f fd ps (toSp K sp) := by
  refine fnG_of F S (fun vs H Q E h => ?_) (fun cdv A outer s H vs Q E quiet hr h => ?_)
  · obtain ⟨P, al, M, ds, R, RX, _, r, hs, _⟩ := h
    rw [← r.length]; exact len _ _ _ _ hs
  · obtain ⟨Pp, al, M, ds, R, RX, r0, r, hs, L, LX⟩ := h
    obtain ⟨wb, hb, hw⟩ := body (Pp, al, H) cdv A outer s H E quiet hr
    have el := r0.len
    have fin : ∀ d M' v H' P' al', Ext Pp al H P' al' H' → RS0 K (Pp, al, H) P' al' M' H' → Rep K P' al' d v → retF M.length R d M' → Q v H' := fun d M' v H' P' al' e r' rd q => by
      cases q with
      | keep q => exact L d M' v H' P' al' e r' rd q
      | less q1 q2 q3 =>
        rw [← el] at q1 q2 q3
        refine L d _ v H' P' al ⟨e.pp, List.prefix_refl _, e.fr, fun b m n => absurd m n, e.pn⟩ (r'.drop fun i m hi hm => ?_) (rd.cut e.pre q1) q3
        exact List.all_eq_true.mp q2 m (List.mem_of_getElem? (by rw [List.getElem?_take_of_lt hi]; exact hm))
    have finX : ∀ C nm fs M' H' P' al' dd, Ext Pp al H P' al' H' → RS0 K (Pp, al, H) P' al' M' H' → ClsAt K nm C → XdOk K P' al' H' fs dd → rxF M.length RX nm fs M' → E (.ref C) dd H' := fun C nm fs M' H' P' al' dd e r' c xd q => by
      cases q with
      | keep q => exact LX C nm fs M' H' P' al' dd e r' c xd q
      | less q1 q2 q3 =>
        rw [← el] at q1 q2 q3
        refine LX C nm fs _ H' P' al dd ⟨e.pp, List.prefix_refl _, e.fr, fun b m n => absurd m n, e.pn⟩ (r'.drop fun i m hi hm => ?_) c (xd.cut e.pre q1) q3
        exact List.all_eq_true.mp q2 m (List.mem_of_getElem? (by rw [List.getElem?_take_of_lt hi]; exact hm))
    obtain ⟨s1, s2⟩ := start_slots (N := N) r
    refine ⟨_, hb _ ((takes_of rfl rfl rfl rfl).imp fun c d σ H' h => ?_), Pp, al, M, _, _, ⟨r0, s1, s2⟩, hw ds M R RX hs r0.inside (by rw [← el]; exact r.inside), ⟨fun env' M' σ' H' P' al' e rs q => fin _ _ _ _ _ _ e rs.toRS0 .non q, fun d M' v H' P' al' e rs rd q => fin _ _ _ _ _ _ e rs rd q, fun _ _ _ _ _ _ _ _ z => z.elim, fun _ _ _ _ _ _ _ _ z => z.elim⟩⟩
    obtain ⟨C, nm, fs, env, P', al', M', rfl, c, rs, xd, q⟩ := h
    exact finX C nm fs M' H' P' al' d rs.base rs.toRS0 c xd q
end
end L3

namespace L3
open PySem PySem.Spec PyProof.Rows L2
/-! ### the end of a law whose promise is a quiet one -/
section
/-- the law at its script, in a heap where no more than the script is tracked -/
theorem lawG_at {P : Program} {w : World} {K : PySem.W.Frag} {mg mb : Str → Option Value} {CX : CXT} {k : Nat} {fa a : Addr} {fd : FuncData} {x : Str} {sp : Sp} {s : Shared} {vs : List Value} {H : Hp}
    (inK : K.In s.heap) (glob : s.heap.Ns mainGlobals mg) (bi : s.heap.Ns builtinsNs mb) (boot : ∀ x : Str, x ≠ "__name__" → mb x = bootBuiltins x) (free : s.heap.NoLimit) (none_yet : s.gens = #[])
    (script : s.heap.get? a = some { cls := .type "list", data := .seq vs.toArray }) (room : Room k callerA)
    (F : ∀ base : Heap, K.In base → base.Ns mainGlobals mg → FnG P w K mg base CX k fa fd [x] sp) (binds : ∀ (s : Shared) (u : Value), BindsTo s fd ⟨[u], []⟩ [(x, u)])
    (asked : sp [.ref a] H (fun v _ => v = .bl true) fun _ _ _ => False) (clean : ∀ e s', CX [] H s (fun _ _ _ => False) e s' → False)
    (only : Only H) (ok : HOk P w H s.heap) (alone : ∀ b, H b ≠ none → b = a) (apart : H a ≠ none → K.lookup a = none) :
    codeAny (model P w) callerA (.call (.ref fa) ⟨[.ref a], []⟩) (fun r s' => r = .ok (.ret (.bool true)) ∧ OldK s.heap s'.heap ∧ s'.os = s.os ∧ AllBare s'.gens) s := by
  -- what is no dict of the script's stays in the written part
  have untracked : ∀ {b : Addr} {o : Obj} {es : Array DictEntry} {ep : Nat}, s.heap.get? b = some o → o.data = .dict es ep → H b = none := by
    intro b o es ep at_b is_dict
    by_cases hb : H b = none
    · exact hb
    · obtain rfl := alone b hb
      rw [script] at at_b
      cases at_b
      cases is_dict
  have kept_ns : ∀ {b : Addr} {m : Str → Option Value}, s.heap.Ns b m → (hidT s.heap H).Ns b m := by
    rintro b m ⟨o, es, ep, at_b, is_dict, rest⟩
    exact ⟨o, es, ep, hidT_get at_b (untracked at_b is_dict), is_dict, rest⟩
  have in_base : K.In (hidT s.heap H) := by
    intro b o at_b
    apply hidT_get (inK b o at_b)
    by_cases hb : H b = none
    · exact hb
    · obtain rfl := alone b hb
      rw [apart hb] at at_b
      cases at_b
  have lim : (hidT s.heap H).NoLimit := by
    obtain ⟨mc, q1, q2⟩ := free
    exact ⟨mc, kept_ns q1, q2⟩
  have module : Mod K mg (hidT s.heap H) := ⟨in_base, kept_ns glob, ⟨mb, kept_ns bi, boot⟩, lim⟩
  have start_env : Env0 P w K mg (hidT s.heap H) callerA [] s H := by
    refine ⟨rfl, module, fun b o at_b => of_hidT at_b, Nat.le_of_eq (hidT_size _ _), trivial, ?_, ok, AllBare.of_eq none_yet⟩
    intro b hb
    cases (show b ∈ ([] : List Addr) from hb)
  have ran := (F _ in_base (kept_ns glob)).run callerA [] s H ⟨[.ref a], []⟩ [.ref a] [.ref a] _ _ rfl room start_env (binds s (.ref a)) (.cons rfl .nil) asked
  refine codeAny_mono ran ?_
  intro r s' got
  match r, got with
  | .error e, got => exact (clean e s' got).elim
  | .ok .next, got => exact got.elim
  | .ok .brk, got => exact got.elim
  | .ok .cont, got => exact got.elim
  | .ok (.ret u), got =>
    obtain ⟨v, H2, same_os, bare, un, ok2, rv, is_true⟩ := got
    have is_true' : v = .bl true := is_true
    subst is_true'
    have eu : u = Value.bool true := rv
    subst eu
    refine ⟨rfl, OldK.of_keep ?_, same_os, bare⟩
    intro b o at_b
    cases hb : H b with
    | none => exact un.keep b o at_b hb (fun z => by cases (show b ∈ ([] : List Addr) from z)) (by simp)
    | some u =>
      cases only b with
      | inl z => rw [hb] at z; cases z
      | inr z =>
        obtain ⟨ob, xs, z⟩ := z
        obtain ⟨e1, _⟩ := ok b _ z
        obtain ⟨e2, _⟩ := ok2 b _ (un.frzs b ob _ z)
        rw [at_b] at e1
        cases e1
        exact e2
theorem lawG_call {P : Program} {w : World} {K : PySem.W.Frag} {mg mb : Str → Option Value} {CX : CXT} {k : Nat} {fa a : Addr} {fd : FuncData} {x : Str} {sp : Sp} {s : Shared} {vs : List Value} {ns : List Int}
    (inK : K.In s.heap) (glob : s.heap.Ns mainGlobals mg) (bi : s.heap.Ns builtinsNs mb) (boot : ∀ x : Str, x ≠ "__name__" → mb x = bootBuiltins x) (free : s.heap.NoLimit) (none_yet : s.gens = #[])
    (script : s.heap.get? a = some { cls := .type "list", data := .seq vs.toArray }) (whole : IntsAre vs ns) (few : ns.length ≤ sizeLine) (room : Room k callerA)
    (F : ∀ base : Heap, K.In base → base.Ns mainGlobals mg → FnG P w K mg base CX k fa fd [x] sp) (binds : ∀ (s : Shared) (u : Value), BindsTo s fd ⟨[u], []⟩ [(x, u)])
    (asked : ∀ H : Hp, Only H → SqL K H a (ns.map V.int) → sp [.ref a] H (fun v _ => v = .bl true) fun _ _ _ => False) (clean : ∀ H e s', CX [] H s (fun _ _ _ => False) e s' → False) :
    codeAny (model P w) callerA (.call (.ref fa) ⟨[.ref a], []⟩) (fun r s' => r = .ok (.ret (.bool true)) ∧ OldK s.heap s'.heap ∧ s'.os = s.os ∧ AllBare s'.gens) s := by
  have vals := vals_ints whole
  have long := whole.length
  by_cases written : ∃ o, K.lookup a = some o
  · obtain ⟨o, at_a⟩ := written
    have there := inK a o at_a
    rw [script] at there
    cases there
    have only : Only fun _ => none := fun _ => Or.inl rfl
    refine lawG_at (H := fun _ => none) inK glob bi boot free none_yet script room F binds (asked _ only ?_) (clean _) only ?_ (fun b z => absurd rfl z) (fun z => absurd rfl z)
    · exact Or.inr ⟨_, vs.toArray, _, at_a, rfl, rfl, rfl, by rw [List.size_toArray, long]; exact few, by simpa using vals⟩
    · intro b u z
      cases (show (none : Option HO) = some u from z)
  · have not_there : K.lookup a = none := by
      cases h : K.lookup a with
      | none => rfl
      | some o => exact absurd ⟨o, h⟩ written
    obtain ⟨H, hH⟩ : ∃ H : Hp, H = fun b => if b = a then some (.frz { cls := .type "list", data := .seq vs.toArray } (.lst (ns.map V.int))) else none := ⟨_, rfl⟩
    have at_a : H a = some (.frz { cls := .type "list", data := .seq vs.toArray } (.lst (ns.map V.int))) := by rw [hH]; exact if_pos rfl
    have off_a : ∀ b, b ≠ a → H b = none := fun b hb => by rw [hH]; exact if_neg hb
    have only : Only H := by
      intro b
      by_cases hb : b = a
      · subst hb; exact Or.inr ⟨_, _, at_a⟩
      · exact Or.inl (off_a b hb)
    refine lawG_at (H := H) inK glob bi boot free none_yet script room F binds (asked _ only ?_) (clean _) only ?_ ?_ (fun _ => not_there)
    · exact Or.inl (Or.inr ⟨_, at_a⟩)
    · intro b u z
      by_cases hb : b = a
      · subst hb
        rw [at_a] at z
        cases z
        exact ⟨script, by rw [List.length_map]; exact few, vs, _, vals, script⟩
      · rw [off_a b hb] at z; cases z
    · intro b z
      by_cases hb : b = a
      · exact hb
      · exact absurd (off_a b hb) z
end
end L3

namespace L3
open PySem PySem.Spec PyProof.Rows PyProof.V L2
/-! ### repr of data -/
mutual
theorem dp_nodict {K : PySem.W.Frag} {H : Hp} : ∀ {v : V} {p : PyData}, Dp K H v p → p.hasDict = false
  | _, _, .non => by simp [PyData.hasDict]
  | _, _, .bl b => by simp [PyData.hasDict]
  | _, _, .int i => by simp [PyData.hasDict]
  | _, _, .str x => by simp [PyData.hasDict]
  | _, _, .lst _ h => by simpa [PyData.hasDict] using dpAll_nodict h
  | _, _, .tup _ h => by simpa [PyData.hasDict] using dpAll_nodict h
theorem dpAll_nodict {K : PySem.W.Frag} {H : Hp} : ∀ {vs : List V} {ps : List PyData}, DpAll K H vs ps → PyData.hasDictAll ps = false
  | _, _, .nil => by simp [PyData.hasDictAll]
  | _, _, .cons h t => by simp [PyData.hasDictAll, dp_nodict h, dpAll_nodict t]
end
/-- scalars -/
def scal : D → Option PyData
  | .non => some .none
  | .bl b => some (.bool b)
  | .int i => some (.int i)
  | .str s => some (.str s)
  | _ => none
def keyP : Key → PyData
  | .inl i => .int i
  | .inr s => .str s
theorem key_reads {h : Heap} (k : Key) (u : Value) (e : keyIs k u = true) : Reads h u (keyP k) [] := by
  rcases keyIs_shape e with ⟨i, t, rfl, rfl⟩ | ⟨x, t, rfl, rfl⟩
  · exact .int i t
  · exact .str x t
def RpOk (p : PyData) : Prop := p.showable = true ∧ p.depth ≤ 60 ∧ p.shown.length ≤ sizeLine
end L3

namespace L3
open PySem PySem.Spec PyProof.Rows L2
/-! ### try with several clauses, each with a name or without -/
abbrev Clause := Value × Option Nat × (Addr → Value → Option Addr → TS)
/-- the ends of a suite whose name is given up behind it -/
def gone (i : Nat) (D : Ends) : Ends := ⟨fun σ H => D.nx (σ.set i none) H, D.rt, fun σ H => D.bk (σ.set i none) H, fun σ H => D.ct (σ.set i none) H⟩
/-- what the clauses ask of an error, the first that fits -/
def wCls (K : PySem.W.Frag) (out : WX) (D : Ends) : List Clause → WX
  | [] => out
  | (c, o, ts) :: r => fun cls d σ H => ∃ b, PySem.W.exmOne K cls c = some b ∧ (b = false → wCls K out D r cls d σ H) ∧
      (b = true → ∀ a, H a = none → match o with
        | some i => ts a cls d (gone i D) (σ.set i (some (.ref a))) H
        | none => ts a cls d D σ H)
inductive ClsOk (X : Cx) : List ExceptHandler → List Clause → Prop
  | nil : ClsOk X [] []
  | named {x n : Str} {c : Value} {i : Nat} {ts : Addr → Value → Option Addr → TS} {b₀ : Stmt} {suite : List Stmt} {np hp : Pos} {hs : List ExceptHandler} {l : List Clause} (names : Names X x c) (slot : X.N[i]? = some n) (kind : X.env.kindOf n = some .local)
      (walk : ∀ (a : Addr) (oe : Obj) (cls : Value) (d : Option Addr) (pn : List (Addr × Obj)), Zc cls d oe → (∃ vs, oe.data = .fields vs) → PSs (X.suite a ((a, oe) :: pn)) (b₀ :: suite) (ts a cls d)) (rest : ClsOk X hs l) :
      ClsOk X (.ExceptHandler (some (.Name x np)) (some n) (b₀ :: suite) hp :: hs) ((c, some i, ts) :: l)
  | bare {x : Str} {c : Value} {ts : Addr → Value → Option Addr → TS} {b₀ : Stmt} {suite : List Stmt} {np hp : Pos} {hs : List ExceptHandler} {l : List Clause} (names : Names X x c)
      (walk : ∀ (a : Addr) (oe : Obj) (cls : Value) (d : Option Addr) (pn : List (Addr × Obj)), Zc cls d oe → (∃ vs, oe.data = .fields vs) → PSs (X.suite a ((a, oe) :: pn)) (b₀ :: suite) (ts a cls d)) (rest : ClsOk X hs l) :
      ClsOk X (.ExceptHandler (some (.Name x np)) none (b₀ :: suite) hp :: hs) ((c, none, ts) :: l)
section
variable {X : Cx} {body : List Stmt} {first : ExceptHandler} {hs : List ExceptHandler} {l : List Clause} {pos : Pos} {tb : WX → TS} {out : WX}
end
end L3

namespace L3
open PySem PySem.Spec PyProof.Rows L2
/-! ### the same over data -/
abbrev DCl := (Str → Bool) × Option Nat × (Addr → Str → List (Str × D) → WS)
def pickC (k : DEnds) (RX : RXe) : List DCl → RXe
  | [] => RX
  | (sub, o, ws) :: r => fun n fs env M => ifB (sub n) (∀ a : Addr, match o with
      | some i => ws a n fs (outE i k) (env.set i (some (.adr a))) M
      | none => ws a n fs k env M) (pickC k RX r n fs env M)
inductive ClsD (X : Cx) (ok : List Str) : List ExceptHandler → List DCl → Prop
  | nil : ClsD X ok [] []
  | named {x n : Str} {Cc : Addr} {i : Nat} {sub : Str → Bool} {ws : Addr → Str → List (Str × D) → WS} {b₀ : Stmt} {suite : List Stmt} {np hp : Pos} {hs : List ExceptHandler} {cl : List DCl} (names : Names X x (.ref Cc)) (slot : X.N[i]? = some n) (kind : X.env.kindOf n = some .local)
      (hsub : ∀ n C, n ∈ ok → ClsAt X.K n C → PySem.W.exmOne X.K (.ref C) (.ref Cc) = some (sub n))
      (walk : ∀ (B' : Bs) (a C : Addr) (oe : Obj) (n : Str) (fs : List (Str × D)) (d : Option Addr) (pn : List (Addr × Obj)), Zc (.ref C) d oe → (∃ vs, oe.data = .fields vs) → ClsAt X.K n C → n ∈ ok → sub n = true → XdOk X.K B'.1 B'.2.1 B'.2.2 fs d → DSs B' (X.suite a ((a, oe) :: pn)) (b₀ :: suite) (ws a n fs)) (rest : ClsD X ok hs cl) :
      ClsD X ok (.ExceptHandler (some (.Name x np)) (some n) (b₀ :: suite) hp :: hs) ((sub, some i, ws) :: cl)
  | bare {x : Str} {Cc : Addr} {sub : Str → Bool} {ws : Addr → Str → List (Str × D) → WS} {b₀ : Stmt} {suite : List Stmt} {np hp : Pos} {hs : List ExceptHandler} {cl : List DCl} (names : Names X x (.ref Cc))
      (hsub : ∀ n C, n ∈ ok → ClsAt X.K n C → PySem.W.exmOne X.K (.ref C) (.ref Cc) = some (sub n))
      (walk : ∀ (B' : Bs) (a C : Addr) (oe : Obj) (n : Str) (fs : List (Str × D)) (d : Option Addr) (pn : List (Addr × Obj)), Zc (.ref C) d oe → (∃ vs, oe.data = .fields vs) → ClsAt X.K n C → n ∈ ok → sub n = true → XdOk X.K B'.1 B'.2.1 B'.2.2 fs d → DSs B' (X.suite a ((a, oe) :: pn)) (b₀ :: suite) (ws a n fs)) (rest : ClsD X ok hs cl) :
      ClsD X ok (.ExceptHandler (some (.Name x np)) none (b₀ :: suite) hp :: hs) ((sub, none, ws) :: cl)
/-- a suite's wish, the error's data put in -/
def tsOf (K : PySem.W.Frag) (ok : List Str) (sub : Str → Bool) (ws : Addr → Str → List (Str × D) → WS) : Addr → Value → Option Addr → TS := fun a cls d D σ H =>
  ∃ B' C n fs, cls = .ref C ∧ ClsAt K n C ∧ n ∈ ok ∧ sub n = true ∧ XdOk K B'.1 B'.2.1 B'.2.2 fs d ∧ tDS K B' (ws a n fs) D σ H
theorem ClsD.go {X : Cx} {ok : List Str} {hs : List ExceptHandler} {cl : List DCl} (c : ClsD X ok hs cl) : ∃ l : List Clause, ClsOk X hs l ∧
    ∀ {B : Bs} {P P' : Hp} {al al' : List Addr} {H H' : Hp} {k : DEnds} {D : Ends} {RX : RXe} {C : Addr} {nm : Str} {fs : List (Str × L3.D)} {env' : Ev} {M' : Mt} {σ' : L2.St} {d : Option Addr}, DLift X.K B P al H k D → Ext B.1 B.2.1 B.2.2 P al H → ClsAt X.K nm C → nm ∈ ok →
      RS X.K (P, al, H) P' al' M' env' σ' H' → XdOk X.K P' al' H' fs d → pickC k RX cl nm fs env' M' → wCls X.K (WL X.K B RX) D l (.ref C) d σ' H' := by
  induction c with
  | nil =>
    refine ⟨[], .nil, ?_⟩
    intro B P P' al al' H H' k D RX C nm fs env' M' σ' d L base ca ho rs xd q
    exact ⟨C, nm, fs, env', P', al', M', rfl, ca, ⟨rs.toRS0.rebase (base.trans rs.base), rs.slen, rs.slot⟩, xd, q⟩
  | @named x n Cc i sub ws b₀ suite np hp hs cl names slot kind hsub walk rest ih =>
    obtain ⟨l, h1, h2⟩ := ih
    refine ⟨(.ref Cc, some i, tsOf X.K ok sub ws) :: l, .named names slot kind (fun a oe cls d pn hz hd => ⟨?_⟩) h1, ?_⟩
    · rintro pins s σ H D I ⟨B', C, n, fs, ec, ca, ho, hb, xd, h⟩
      subst ec
      exact (walk B' a C oe n fs d pn hz hd ca ho hb xd).run pins s σ H D I h
    · intro B P P' al al' H H' k D RX C nm fs env' M' σ' d L base ca ho rs xd q
      refine ⟨sub nm, hsub nm C ho ca, fun hb => h2 L base ca ho rs xd (q.2 hb), fun hb a na => ?_⟩
      have e0 : Ext P al H P' al' H' := rs.base
      have rs2 : RS X.K (P', al', H') P' al' M' env' σ' H' := ⟨rs.toRS0.here, rs.slen, rs.slot⟩
      refine ⟨(P', al', H'), C, nm, fs, rfl, ca, ho, hb, xd, P', al', M', _, outE i k, rs2.put i (.adr a), q.1 hb a, ⟨fun env2 M2 σ2 H2 P2 al2 e rs3 q3 => ?_, fun d M2 v H2 P2 al2 e rs3 r q3 => ?_, fun env2 M2 σ2 H2 P2 al2 e rs3 q3 => ?_, fun env2 M2 σ2 H2 P2 al2 e rs3 q3 => ?_⟩⟩
      · have rs4 := rs3.drp i
        exact L.nx _ _ _ _ _ _ (e0.trans e) ⟨rs4.toRS0.rebase (base.trans (e0.trans e)), rs4.slen, rs4.slot⟩ q3
      · exact L.rt _ _ _ _ _ _ (e0.trans e) (rs3.rebase (base.trans (e0.trans e))) r q3
      · have rs4 := rs3.drp i
        exact L.bk _ _ _ _ _ _ (e0.trans e) ⟨rs4.toRS0.rebase (base.trans (e0.trans e)), rs4.slen, rs4.slot⟩ q3
      · have rs4 := rs3.drp i
        exact L.ct _ _ _ _ _ _ (e0.trans e) ⟨rs4.toRS0.rebase (base.trans (e0.trans e)), rs4.slen, rs4.slot⟩ q3
  | @bare x Cc sub ws b₀ suite np hp hs cl names hsub walk rest ih =>
    obtain ⟨l, h1, h2⟩ := ih
    refine ⟨(.ref Cc, none, tsOf X.K ok sub ws) :: l, .bare names (fun a oe cls d pn hz hd => ⟨?_⟩) h1, ?_⟩
    · rintro pins s σ H D I ⟨B', C, n, fs, ec, ca, ho, hb, xd, h⟩
      subst ec
      exact (walk B' a C oe n fs d pn hz hd ca ho hb xd).run pins s σ H D I h
    · intro B P P' al al' H H' k D RX C nm fs env' M' σ' d L base ca ho rs xd q
      refine ⟨sub nm, hsub nm C ho ca, fun hb => h2 L base ca ho rs xd (q.2 hb), fun hb a na => ?_⟩
      have e0 : Ext P al H P' al' H' := rs.base
      have rs2 : RS X.K (P', al', H') P' al' M' env' σ' H' := ⟨rs.toRS0.here, rs.slen, rs.slot⟩
      refine ⟨(P', al', H'), C, nm, fs, rfl, ca, ho, hb, xd, P', al', M', _, k, rs2, q.1 hb a, ⟨fun env2 M2 σ2 H2 P2 al2 e rs3 q3 => ?_, fun d M2 v H2 P2 al2 e rs3 r q3 => ?_, fun env2 M2 σ2 H2 P2 al2 e rs3 q3 => ?_, fun env2 M2 σ2 H2 P2 al2 e rs3 q3 => ?_⟩⟩
      · exact L.nx _ _ _ _ _ _ (e0.trans e) ⟨rs3.toRS0.rebase (base.trans (e0.trans e)), rs3.slen, rs3.slot⟩ q3
      · exact L.rt _ _ _ _ _ _ (e0.trans e) (rs3.rebase (base.trans (e0.trans e))) r q3
      · exact L.bk _ _ _ _ _ _ (e0.trans e) ⟨rs3.toRS0.rebase (base.trans (e0.trans e)), rs3.slen, rs3.slot⟩ q3
      · exact L.ct _ _ _ _ _ _ (e0.trans e) ⟨rs3.toRS0.rebase (base.trans (e0.trans e)), rs3.slen, rs3.slot⟩ q3
end L3

namespace L3
open PySem PySem.Spec PyProof.Rows L2
/-! ### in, of a dict or of a row -/
/-! ### constants of a class -/
/-! ### tables of classes -/
inductive TabOk (K : PySem.W.Frag) (C : Addr) : List (Str × Bool) → Prop
  | nil : TabOk K C []
  | cons {c : Str} {r : Bool} {Cc : Addr} {tb : List (Str × Bool)} : ClsAt K c Cc → PySem.W.kitOne K (.ref C) (.ref Cc) = some r → TabOk K C tb → TabOk K C ((c, r) :: tb)
theorem TabOk.look {K : PySem.W.Frag} {C : Addr} {tb : List (Str × Bool)} (t : TabOk K C tb) : ∀ c r Cc, tb.lookup c = some r → ClsAt K c Cc → PySem.W.kitOne K (.ref C) (.ref Cc) = some r := by
  induction t with
  | nil => intro c r Cc h; cases h
  | @cons c' r' Cc' tb ca k t ih =>
    intro c r Cc h hc
    rw [List.lookup_cons] at h
    split at h
    · rename_i e
      obtain rfl : c = c' := by simpa using e
      cases h
      obtain rfl := ca.one hc
      exact k
    · exact ih c r Cc h hc
/-- which of the classes ok are caught by 'except n0' -/
inductive ExTab (K : PySem.W.Frag) (Cc : Addr) (n0 : Str) : List Str → Prop
  | nil : ExTab K Cc n0 []
  | cons {m : Str} {C : Addr} {ok : List Str} : ClsAt K m C → PySem.W.exmOne K (.ref C) (.ref Cc) = some (decide (m = n0)) → ExTab K Cc n0 ok → ExTab K Cc n0 (m :: ok)
theorem ExTab.look {K : PySem.W.Frag} {Cc : Addr} {n0 : Str} {ok : List Str} (t : ExTab K Cc n0 ok) : ∀ n C, n ∈ ok → ClsAt K n C → PySem.W.exmOne K (.ref C) (.ref Cc) = some (decide (n = n0)) := by
  induction t with
  | nil => intro n C h; cases h
  | @cons m Cm ok ca e t ih =>
    intro n C h hc
    rcases List.mem_cons.mp h with rfl | h
    · obtain rfl := ca.one hc
      exact e
    · exact ih n C h hc
end L3

namespace L3
open PySem PySem.Spec PyProof.Rows L2
/-! ### comprehensions over a list that changes elsewhere -/
section
variable {K : PySem.W.Frag} {B : Bs}
end
section
variable {X : Cx} {B : Bs} {e : Expr} {tg elt : Expr} {ifs : List Expr} {scope : Scope} {own : List (Str × Nat)} {g : TG} {is : List Nat} {wo : WE} {t : WTs} {we : WE} {pos spos py : Pos} {i : Nat} {y : Str}
end
end L3

/-! sorted of pairs (text, whole number) -/
namespace SrtP
open PySem PySem.Spec PyProof.Rows SrtO L2
def IsPairS (h : Heap) (v : Value) (x : Str) (y : Int) : Prop := ∃ a o t u n, v = .ref a ∧ h.get? a = some o ∧ o.cls = .type "tuple" ∧ o.data = .seq #[.str x t, .int y u] n
theorem IsPairS.keeps {h h' : Heap} {v : Value} {x : Str} {y : Int} (p : IsPairS h v x y) (k : ∀ b o, h.get? b = some o → o.cls = .type "tuple" → h'.get? b = some o) : IsPairS h' v x y := by
  obtain ⟨a, o, t, u, n, e, ho, hc, hd⟩ := p
  exact ⟨a, o, t, u, n, e, k a o ho hc, hc, hd⟩
section
variable {prog : Program} {w : World} {A : Around} {E : Value → Shared → Prop} {s : Shared}
end
end SrtP
namespace L3
open PySem PySem.Spec PyProof.Rows L2
section
variable {X : Cx}
end
section
variable {K : PySem.W.Frag} {P H : Hp} {al : List Addr} {B : Bs}
end
end L3

/-! plain tuples, dict(pairs), d.get(k, x) -/
namespace L3
open PySem PySem.Spec PyProof.Rows L2
section
variable {X : Cx}
end
/-! ### over data -/
section
variable {K : PySem.W.Frag} {P H : Hp} {al : List Addr} {B : Bs} {X : Cx} {e o f : Expr} {we wo wi wf : WE} {pos apos cpos : Pos}
/-- pairs (key, value) -/
def kpD : List D → Option (List (Key × D))
  | [] => some []
  | .tup [k, d] :: r => match keyD k, kpD r with
    | some k', some r' => some ((k', d) :: r')
    | _, _ => none
  | _ => none
theorem kp_rep {xs : List V} : ∀ {l : List D} {xs : List V} {ks : List (Key × D)}, Reps K P al l xs → kpD l = some ks → ∃ (ps : List Addr) (kvs : List (Key × V)), xs = ps.map V.ref ∧ Paired (fun p kv => SqT K P p [kV kv.1, kv.2]) ps kvs ∧ RepKs K P al ks kvs
  | [], _, _, r, h => by
    cases r; cases h
    exact ⟨[], [], rfl, .nil, .nil⟩
  | d :: l, _, ks, r, h => by
    unfold kpD at h
    split at h
    · rename_i e; cases e
    · rename_i k d' r' e
      cases e
      split at h
      · rename_i k' ks' e1 e2
        cases h
        cases r with
        | cons r1 t =>
          obtain ⟨ps, kvs, rfl, g2, g3⟩ := kp_rep (xs := []) t e2
          cases r1 with
          | tup q r1 => cases r1 with
            | cons ra t1 => cases t1 with
              | cons rb t2 =>
                cases t2
                rw [key_rep ra e1] at q
                exact ⟨_ :: ps, (k', _) :: kvs, rfl, .cons q g2, .cons rb g3⟩
      · cases h
    · cases h
theorem paired_imp {α β : Type} {F G : α → β → Prop} (h : ∀ a b, F a b → G a b) : ∀ {l : List α} {m : List β}, Paired F l m → Paired G l m
  | _, _, .nil => .nil
  | _, _, .cons x t => .cons (h _ _ x) (paired_imp h t)
/-- d.get(k, x) -/
def isDct : D → Bool
  | .dct _ => true
  | .fdc _ => true
  | _ => false
@[irreducible] def oGet2 (d y z : D) (M : Mt) (R : D → Mt → Prop) : Prop := match viewD M d, keyD y with
  | .dct ks, some k => R ((valD ks k).getD z) M
  | .fdc ks, some k => R ((valD ks k).getD z) M
  | _, _ => False
def wGet2 (wd wy wz : WE) : WE := fun env M R => wd env M fun d M1 => isDct (viewD M1 d) = true ∧ wy env M1 fun y M2 => wz env M2 fun z M3 => oGet2 d y z M3 R
theorem d_get2 (hu : X.A.units + 1 < cLine) (ho : DE B X o wo) (he : DE B X e wi) (hf : DE B X f wf) (m : M2 X o "get" apos e f cpos := by exact ⟨rfl, rfl, rfl, rfl⟩) : DE B X (.Call (.Attribute o "get" apos) [e, f] [] cpos) (wGet2 wo wi wf) := by
  refine (pe_dget2 hu ho he hf m).imp fun σ H Q => ?_
  rintro ⟨P, al, M, env, R, rs, hw, L⟩
  refine ⟨P, al, M, env, _, rs, hw, fun d1 M1 v1 H1 P1 al1 e1 rs1 r1 hw1 => ?_⟩
  obtain ⟨hd, hw1⟩ := hw1
  have hv : ∃ ks, viewD M1 d1 = .dct ks ∨ viewD M1 d1 = .fdc ks := by
    cases hv : viewD M1 d1 <;> rw [hv] at hd <;> first | exact ⟨_, .inl rfl⟩ | exact ⟨_, .inr rfl⟩ | cases hd
  obtain ⟨ks, hv⟩ := hv
  obtain ⟨a, xs, rfl, g1, g2⟩ := view_dk rs1.toRS0 r1 hv
  refine ⟨a, rfl, .inl ⟨xs, g1⟩, P1, al1, M1, env, _, rs1, hw1, fun d2 M2 v2 H2 P2 al2 e2 rs2 r2 hw2 => ⟨P2, al2, M2, env, _, rs2, hw2, fun d3 M3 v3 H3 P3 al3 e3 rs3 r3 q => ?_⟩⟩
  have q' : ∃ ks2 k, (viewD M3 d1 = .dct ks2 ∨ viewD M3 d1 = .fdc ks2) ∧ keyD d2 = some k ∧ R ((valD ks2 k).getD d3) M3 := by
    unfold oGet2 at q
    split at q
    · exact ⟨_, _, .inl (by assumption), by assumption, q⟩
    · exact ⟨_, _, .inr (by assumption), by assumption, q⟩
    · exact q.elim
  obtain ⟨ks2, k, h1, h2, q⟩ := q'
  obtain ⟨a', xs', ea, f1, f2⟩ := view_dk rs3.toRS0 (r1.mono (e2.trans e3).pp (e2.trans e3).pre) h1
  cases ea
  refine ⟨valV xs' k, .inl ⟨xs', k, f1, ?_, rfl⟩, ?_⟩
  · exact key_rep (r2.mono e3.pp e3.pre) h2
  · cases hv2 : valD ks2 k with
    | none =>
      rw [hv2] at q
      rw [(f2.val k).2 hv2]
      exact L _ _ _ _ _ _ (e1.trans (e2.trans e3)) rs3 r3 q
    | some d =>
      rw [hv2] at q
      obtain ⟨v, g3, g4⟩ := (f2.val k).1 d hv2
      rw [g3]
      exact L _ _ _ _ _ _ (e1.trans (e2.trans e3)) rs3 g4 q
theorem get2_use {d y z : D} {ks : List (Key × D)} {k : Key} {M : Mt} {R : D → Mt → Prop} (h : viewD M d = .dct ks) (h2 : keyD y = some k) (q : R ((valD ks k).getD z) M) : oGet2 d y z M R := by
  simp only [oGet2, h, h2]; exact q
end
end L3

/-! x |= y by an own __or__; min(i, j); list(d.items()); isinstance(e, ValueError) in a suite -/
namespace L3
open PySem PySem.Spec PyProof.Rows L2
theorem toSp_imp {K : PySem.W.Frag} {sp : DSp} {vs : List V} {H : Hp} {Q : VK} {E E' : XK} (h : ∀ C dd H', E C dd H' → E' C dd H') (q : toSp K sp vs H Q E) : toSp K sp vs H Q E' := by
  obtain ⟨P, al, M, ds, R, RX, rs, r, hw, L, LX⟩ := q
  exact ⟨P, al, M, ds, R, RX, rs, r, hw, L, fun C n fs M' H' P' al' dd e r0 c xd q => h _ _ _ (LX C n fs M' H' P' al' dd e r0 c xd q)⟩
section
variable {X : Cx} {B : Bs} {CX : CXT} {k : Nat} {f C : Addr} {sp : DSp} {n : Str} {e : Expr} {we : WE} {op : Operator} {pos pos' : Pos}
end
/-- min(i, j) -/
def cMin2 : WCl := fun ds M R => match ds with
  | [.int i, .int j] => R (.int (if j < i then j else i)) M
  | _ => False
theorem cMin2_ok {K : PySem.W.Frag} {B : Bs} : CallD K B (fun xs H Q => ∃ i j, xs = [.int i, .int j] ∧ Q (.int (if j < i then j else i)) H) cMin2 := by
  intro P al M env σ H vs ds R Q rs r h L
  unfold cMin2 at h
  split at h
  · cases r with
    | cons r1 t => cases t with
      | cons r2 t =>
        cases t; cases r1; cases r2
        exact ⟨_, _, rfl, L.here rs (.int _) h⟩
  · exact h.elim
/-! ### list(d.items()) -/
section
variable {X : Cx} {B : Bs} {e : Expr} {we : WE} {p apos cpos pos : Pos}
end
section
variable {X : Cx} {B : Bs} {CX : CXT} {k : Nat} {f C : Addr} {sp : DSp} {n : Str} {a b e : Expr} {wa wb we : WE} {pos pos' : Pos} {RX : RXe}
end
/-! ### -i, xs[::-1] -/
section
variable {X : Cx} {B : Bs} {a e : Expr} {wa we : WE} {pos : Pos}
def wNeg (we : WE) : WE := fun env M R => we env M fun d M1 => match d with
  | .int i => R (.int (-i)) M1
  | _ => False
theorem d_neg (ha : DE B X a wa) : DE B X (.UnaryOp .USub a pos) (wNeg wa) := by
  refine (pe_un un_neg ha).imp fun σ H Q => ?_
  rintro ⟨P, al, M, env, R, rs, hw, L⟩
  refine ⟨P, al, M, env, _, rs, hw, fun d M1 v H1 P1 al1 e1 rs1 r1 q => ?_⟩
  cases d <;> first | exact q.elim | skip
  cases r1
  exact ⟨_, rfl, (L.after e1).here rs1 (.int _) q⟩
end
end L3

namespace L3
open PySem PySem.Spec PyProof.Rows L2
/-! ### like data are equal -/
/-- a sequence, cut by what holds between -/
theorem seq_cut {A B : WS} {k : DEnds} {env : Ev} {M : Mt} (I : Ev → Mt → Prop) (h1 : ∀ K : Ev → Mt → Prop, (∀ env M, I env M → K env M) → A { k with nx := K } env M) (h2 : ∀ env M, I env M → B k env M) : wSeq A B k env M := h1 _ h2
/-- ==, kept closed until its operands are known -/
@[irreducible] def oEqI (f : Bool → Bool) : WO2 := oEqB f
theorem oEqI_ok {K : PySem.W.Frag} {B : Bs} : OpD K B (rEqU K) (oEqI fun b => b) := by unfold oEqI; exact oEq_ok
theorem oNeI_ok {K : PySem.W.Frag} {B : Bs} : OpD K B (rNeU K) (oEqI fun b => !b) := by unfold oEqI; exact oNe_ok
section
variable {M : Mt} {x y : D} {f : Bool → Bool} {R : D → Mt → Prop}
theorem eqI_of (h : oEqB f x y M R) : oEqI f x y M R := by unfold oEqI; exact h
theorem eqI_int {i j : Int} (k : R (.bl (f (decide (i = j)))) M) : oEqI f (.int i) (.int j) M R := eqI_of k
theorem eqI_str {i j : Str} (k : R (.bl (f (decide (i = j)))) M) : oEqI f (.str i) (.str j) M R := eqI_of k
theorem eqI_bl {i j : Bool} (k : R (.bl (f (decide (i = j)))) M) : oEqI f (.bl i) (.bl j) M R := eqI_of k
theorem eqI_0  (k : R (.bl (f true)) M) : oEqI f .non .non M R := eqI_of k
theorem eqI_1 {j : Int} (k : R (.bl (f false)) M) : oEqI f .non (.int j) M R := eqI_of k
theorem eqI_2 {i : Int} (k : R (.bl (f false)) M) : oEqI f (.int i) .non M R := eqI_of k
theorem eqI_3 {j : Bool} (k : R (.bl (f false)) M) : oEqI f .non (.bl j) M R := eqI_of k
theorem eqI_4 {i : Bool} (k : R (.bl (f false)) M) : oEqI f (.bl i) .non M R := eqI_of k
theorem eqI_5 {j : Str} (k : R (.bl (f false)) M) : oEqI f .non (.str j) M R := eqI_of k
theorem eqI_6 {i : Str} (k : R (.bl (f false)) M) : oEqI f (.str i) .non M R := eqI_of k
theorem eqI_7 {i : Int} {j : Str} (k : R (.bl (f false)) M) : oEqI f (.int i) (.str j) M R := eqI_of k
theorem eqI_8 {i : Str} {j : Int} (k : R (.bl (f false)) M) : oEqI f (.str i) (.int j) M R := eqI_of k
theorem eqI_9 {i : Bool} {j : Str} (k : R (.bl (f false)) M) : oEqI f (.bl i) (.str j) M R := eqI_of k
theorem eqI_10 {i : Str} {j : Bool} (k : R (.bl (f false)) M) : oEqI f (.str i) (.bl j) M R := eqI_of k
theorem eqI_lnil {l : List D} (h : viewD M x = .lst l) (hp : Need (plainOk l)) (k : R (.bl (f l.isEmpty)) M) : oEqI f x (.lst []) M R := eqI_of (by
  unfold oEqB; rw [h]; exact ⟨hp, k⟩)
theorem eqI_tnil {l : List D} (h : viewD M x = .tup l) (hp : Need (plainOk l)) (k : R (.bl (f l.isEmpty)) M) : oEqI f x (.tup []) M R := eqI_of (by
  unfold oEqB; rw [h]; exact ⟨hp, k⟩)
theorem eqI_lsts {l m : List D} {ps qs : List PyData} (hx : viewD M x = .lst l) (hy : viewD M y = .lst m) (hp : toPs l = some ps) (hq : toPs m = some qs) (hs : SeqAt.shaped (.list ps) = true) (hs' : SeqAt.shaped (.list qs) = true) (k : R (.bl (f (PyData.eqvAll ps qs))) M) : oEqI f x y M R := eqI_of (by
  unfold oEqB
  rw [hx, hy]
  cases m with
  | nil =>
    cases hq
    refine ⟨⟨ps, hp, hs⟩, ?_⟩
    rw [eqvAll_nil] at k
    have : l.isEmpty = ps.isEmpty := by
      cases l with
      | nil => cases hp; rfl
      | cons a r =>
        unfold toPs at hp
        split at hp
        · cases hp; rfl
        · cases hp
    rw [this]; exact k
  | cons a r =>
    have e1 : toP (.lst l) = some (.list ps) := by simp [toP, hp]
    have e2 : toP (.lst (a :: r)) = some (.list qs) := by simp [toP, hq]
    simp only [e1, e2]
    have e3 : PyData.eqv (.list ps) (.list qs) = PyData.eqvAll ps qs := by simp [PyData.eqv]
    rw [e3]
    exact ⟨⟨hs⟩, ⟨hs'⟩, k⟩)
end
end L3

/-! ### len, repr, truth of an instance by its own methods -/
namespace L3
open PySem PySem.Spec PyProof.Rows L2
section
variable {X : Cx} {B : Bs} {CX : CXT} {k : Nat} {f C : Addr} {n : Str} {sp : DSp} {P : V → Prop}
/-! over data -/
def retB (R : Bool → Mt → Prop) : D → Mt → Prop := fun d M => match d with
  | .bl i => R i M
  | _ => False
end
end L3


namespace L3
open PySem PySem.Spec PyProof.Rows L2 Builtin
section
variable {prog : Program} {w : World} {A : Around} {E : Value → Shared → Prop} {s : Shared} {K : PySem.W.Frag} {x C f : Addr} {h₀ : Heap} {Lc : Addr} {m : Str → Option Value} {ox : Obj} {od : Option Obj}
end
section
variable {X : Cx} {B : Bs} {CX : CXT} {k : Nat} {f C : Addr} {n : Str} {sp : DSp} {P : V → Prop}
end
end L3
namespace L3
open PySem PySem.Spec PyProof.Rows L2 Builtin
section
variable {prog : Program} {w : World} {A : Around} {E : Value → Shared → Prop} {s : Shared} {K : PySem.W.Frag} {x C f : Addr} {h₀ : Heap} {Lc : Addr} {m : Str → Option Value} {ox : Obj} {od : Option Obj} {b tb : Value}
theorem ifBound_objNe {M : Model} {args : List Value} {Q : Option Value → Shared → Prop} (X : K.In s.heap) (I : PySem.W.InstAt s.heap x ox C od) (hs : PySem.W.findIn K (.ref C) "__ne__" = some (some (.builtin "object.__ne__")))
    (h : wpAny M A (call (.builtin "object.__ne__") (.ref x :: args)) (fun v => Q (some v)) E s) : wpAny M A (callSpecialIfBound? (.ref x) "__ne__" args) Q E s := by
  simp only [callSpecialIfBound?, bindSpecialIfBound?]
  refine wpAny_holding (wpAny_bind (wpAny_bind (wpAny_bind (I.type.here ((PySem.W.looks_findIn X hs).here ?_)))))
  refine wpAny_bind (wpAny_askSetting (wpAny_ite ?_))
  have fin : wpAny M A (call (.builtin "object.__ne__") ([.ref x] ++ args) >>= fun v => pure (some v)) Q E s := wpAny_bind (wpAny_mono h (fun v s' h' => wpAny_pure h') fun _ _ h' => h')
  split
  · exact wpAny_bind (wpAny_of_eq (PySem.F.cmp_object.ne.bind _) (wpAny_pure (by exact fin)))
  · exact wpAny_tryCatch (wpAny_bind (wpAny_of_eq (PySem.F.cmp_object.ne.bind _) (wpAny_pure (by exact fin))))
def NotBack (Q : Value → Shared → Prop) (v : Value) (s' : Shared) : Prop := match v with
  | .bool b => Q (.bool (!b)) s'
  | _ => False
theorem objNe_entry {Q : Fin → Shared → Prop} (hu : A.units < cLine) (X : K.In s.heap) (I : PySem.W.InstAt s.heap x ox C od) (hs : PySem.W.findIn K (.ref C) "__eq__" = some (some (.ref f))) (hf : PySem.W.isFn K (.ref f) = true)
    (h : wpAny (model prog w) A (call (.ref f) [.ref x, b]) (NotBack fun v s' => Q (.done (.ret v)) s') E s) : wpAny (model prog w) A (Builtin.«object.__ne__» ⟨[.ref x, b], []⟩) Q E s := by
  unfold Builtin.«object.__ne__»
  repeat (first
    | with_reducible refine wpAny_cRoomFor hu ?_
    | (refine wpAny_bind (m := callSpecialIfBound? (.ref x) (Str.ofString "__eq__") [b])
        (PySem.W.ifBound_K X I hs hf (wpAny_mono h (fun r s' hr => by
          cases r <;> first | exact hr.elim | skip
          have hq := hr
          repeat (first | exact hq | exact wpAny_pure hq | exact wpAny_truthy_bool hq | (refine wpAny_bind (m := truthy (.bool _)) (wpAny_truthy_bool ?_)) | wp_step)) fun _ _ e => e)))
    | wp_step)
end
end L3
namespace L3
open PySem PySem.Spec PyProof.Rows L2 Builtin
section
variable {prog : Program} {w : World} {A : Around} {E : Value → Shared → Prop} {s : Shared} {K : PySem.W.Frag} {x C f : Addr} {h₀ : Heap} {Lc : Addr} {m : Str → Option Value} {ox : Obj} {od : Option Obj} {b tb : Value}
/-- what != asks of an own class without __ne__ -/
structure NeC (K : PySem.W.Frag) (C : Addr) : Prop where
  ne : PySem.W.findIn K (.ref C) "__ne__" = some (some (.builtin "object.__ne__"))
  ob : PySem.W.mroIn K C (.type "object") = some true
theorem ne_K {Q : Value → Shared → Prop} (hu : A.units < cLine) (hu1 : A.in1.units < cLine) (F : Fr h₀ Lc s.heap m) (X₀ : K.In h₀) (I : PySem.W.InstAt s.heap x ox C od) (hb : PySem.W.Looks (model prog w) s.heap (typeOf b) tb) (hn : PySem.W.notFirst K C tb = true) (N : NeC K C)
    (hs : PySem.W.findIn K (.ref C) "__eq__" = some (some (.ref f))) (hf : PySem.W.isFn K (.ref f) = true)
    (h : wpAny (model prog w) A.in1 (call (.ref f) [.ref x, b]) (NotBack Q) E s) : wpAny (model prog w) A (richCompare .NotEq (.ref x) b) Q E s := by
  have X := X₀.keeps F.keep
  have one : wpAny (model prog w) A (tryCompare (.ref x) "__ne__" b) (fun r s' => ∃ v, r = some v ∧ Q v s') E s := by
    unfold tryCompare
    refine wpAny_bind (ifBound_objNe X I N.ne (wpAny_mono (Q := fun v s' => (∃ k, v = .bool k) ∧ Q v s') ?_ (fun v s' hv => ?_) fun _ _ e => e))
    · refine wpAny_call (codeAny_call_builtin PySem.F.cmp_object.ne.plain PySem.F.cmpEntry_ne (PySem.W.check_slot PySem.F.cmpKind_ne PySem.F.cmpSplit_ne (I.type.andThen (PySem.W.looks_mroIn X N.ob)) (PySem.F.cmpArgs_ne _ _) (objNe_entry hu1 X I hs hf (wpAny_mono h (fun v s' hv => ?_) fun _ _ e => e))))
      cases v <;> first | exact hv.elim | exact ⟨⟨_, rfl⟩, hv⟩
    · obtain ⟨⟨k, rfl⟩, hq⟩ := hv
      exact wpAny_pure ⟨_, rfl, hq⟩
  unfold richCompare
  simp only [oneThing_ref]
  refine wpAny_holding (wpAny_bind (wpAny_cRoomFor hu ?_))
  refine wpAny_bind (I.type.here (wpAny_bind (hb.here ?_)))
  split
  · rename_i q
    have e : PySem.W.subIn K tb (.ref C) = some false := by
      rcases Bool.or_eq_true_iff.mp hn with e | e
      · rw [beq_iff_eq.mp e] at q; simp at q
      · exact beq_iff_eq.mp e
    refine wpAny_bind ((PySem.W.looks_subIn X e).here ?_)
    simp only [Bool.false_eq_true, if_false]
    refine wpAny_bind (wpAny_mono one (fun r s' z => ?_) fun _ _ e => e)
    obtain ⟨v, rfl, hq⟩ := z
    exact wpAny_pure hq
  · refine wpAny_bind (wpAny_pure ?_)
    simp only [Bool.false_eq_true, if_false]
    refine wpAny_bind (wpAny_mono one (fun r s' z => ?_) fun _ _ e => e)
    obtain ⟨v, rfl, hq⟩ := z
    exact wpAny_pure hq
end
theorem sub_kind {K : PySem.W.Frag} {C : Addr} : ∀ T ∈ isBs, PySem.W.subIn K (.type T) (.ref C) = some false := by
  intro T h
  simp only [isBs, List.mem_cons, List.not_mem_nil, or_false] at h
  rcases h with rfl | rfl | rfl | rfl | rfl | rfl | rfl
  · show (fastBuiltinMro "NoneType").map (·.contains (.ref C)) = some false
    rw [show fastBuiltinMro "NoneType" = some [.type "NoneType", .type "object"] from by decide +kernel]; simp
  · show (fastBuiltinMro "bool").map (·.contains (.ref C)) = some false
    rw [show fastBuiltinMro "bool" = some [.type "bool", .type "int", .type "object"] from by decide +kernel]; simp
  · show (fastBuiltinMro "int").map (·.contains (.ref C)) = some false
    rw [show fastBuiltinMro "int" = some [.type "int", .type "object"] from by decide +kernel]; simp
  · show (fastBuiltinMro "str").map (·.contains (.ref C)) = some false
    rw [show fastBuiltinMro "str" = some [.type "str", .type "object"] from by decide +kernel]; simp
  · show (fastBuiltinMro "tuple").map (·.contains (.ref C)) = some false
    rw [show fastBuiltinMro "tuple" = some [.type "tuple", .type "object"] from by decide +kernel]; simp
  · show (fastBuiltinMro "list").map (·.contains (.ref C)) = some false
    rw [show fastBuiltinMro "list" = some [.type "list", .type "object"] from by decide +kernel]; simp
  · show (fastBuiltinMro "dict").map (·.contains (.ref C)) = some false
    rw [show fastBuiltinMro "dict" = some [.type "dict", .type "object"] from by decide +kernel]; simp
section
variable {X : Cx} {B : Bs} {CX : CXT} {k : Nat} {f C : Addr} {n : Str} {sp : DSp}
theorem kind_at {pins : List (Addr × Obj)} {σ : L2.St} {H : Hp} {s : Shared} {y : V} {u : Value} (I : L2.Inv X pins σ H s) (ry : RelV y u) (h : (∃ q dy gs, y = V.ref q ∧ H q = some (.ins C dy gs)) ∨ ∃ T ∈ isBs, TyX X.K H y (.type T)) :
    ∃ tb, PySem.W.Looks (model X.prog X.w) s.heap (typeOf u) tb ∧ PySem.W.notFirst X.K C tb = true := by
  rcases h with ⟨q, dy, gs, rfl, hq⟩ | ⟨T, hT, ty⟩
  · cases ry
    obtain ⟨_, O2, _⟩ := ins_get I.hok hq
    obtain ⟨od2, J2, _⟩ := O2.look
    exact ⟨_, J2.type, by simp [PySem.W.notFirst]⟩
  · obtain ⟨P, kx, p, _⟩ := kit_of I ry ty
    refine ⟨_, kx.ty _ _ I.kIn p, ?_⟩
    unfold PySem.W.notFirst
    rw [sub_kind T hT]; simp
end
end L3

/-! ### bool of an instance; isinstance of own classes; f-strings; join; str -/
namespace L3
open PySem PySem.Spec PyProof.Rows L2 Builtin
section
variable {prog : Program} {w : World} {A : Around} {E : Value → Shared → Prop} {s : Shared} {K : PySem.W.Frag} {x C f : Addr} {h₀ : Heap} {Lc : Addr} {m : Str → Option Value} {ox : Obj} {od : Option Obj}
end
section
variable {X : Cx} {B : Bs} {CX : CXT} {k : Nat} {f C : Addr} {n : Str} {sp : DSp} {P : V → Prop}
end
/-! isinstance(x, C) -/
structure InsF (K : PySem.W.Frag) (C : Addr) : Prop where
  cl : Cls K C
  ha : PySem.W.findIn K (.ref C) "__class__" = some (some (.builtin "object.__class__"))
  hn : PySem.W.specialIn K (.builtin "object.__class__") "__get__" = some (some (.builtin "getset_descriptor.__get__"))
  htk : PySem.W.takesIn K (.builtin "object.__class__") = some true
  hm : PySem.W.mroIn K C (.type "object") = some true
/-- no built-in is an instance of the class -/
def IscC (K : PySem.W.Frag) (C : Addr) : Prop := PySem.W.kitOne K (.type "NoneType") (.ref C) = some false
theorem IscC.no {K : PySem.W.Frag} {C : Addr} (h : IscC K C) {T : String} (hT : T ∈ isBs) : PySem.W.kitOne K (.type T) (.ref C) = some false := by
  have e : ∀ T, PySem.W.kitOne K (.type T) (.ref C) = if ((PySem.W.clsIn K C).isSome && PySem.W.typeIn K (.ref C) == some (.type "type")) = true then PySem.W.subIn K (.type T) (.ref C) else none := fun T => by
    have : (Value.type T == Value.ref C) = false := rfl
    unfold PySem.W.kitOne
    rw [this]; rfl
  unfold IscC at h
  rw [e] at h ⊢
  split at h
  · rename_i c
    rw [if_pos c]; exact sub_kind T hT
  · cases h
inductive TabI (K : PySem.W.Frag) (Cc : Addr) : List (Str × Bool) → Prop
  | nil : TabI K Cc []
  | cons {n : Str} {r : Bool} {C : Addr} {tb : List (Str × Bool)} : ClsAt K n C → InsF K C → PySem.W.kitOne K (.ref C) (.ref Cc) = some r → TabI K Cc tb → TabI K Cc ((n, r) :: tb)
theorem TabI.look {K : PySem.W.Frag} {Cc : Addr} {tb : List (Str × Bool)} (t : TabI K Cc tb) : ∀ n r C, tb.lookup n = some r → ClsAt K n C → InsF K C ∧ PySem.W.kitOne K (.ref C) (.ref Cc) = some r := by
  induction t with
  | nil => intro n r C h; cases h
  | @cons n' r' C' tb ca i k t ih =>
    intro n r C h hc
    rw [List.lookup_cons] at h
    split at h
    · rename_i e
      obtain rfl : n = n' := by simpa using e
      cases h
      obtain rfl := ca.one hc
      exact ⟨i, k⟩
    · exact ih n r C h hc
/-! f-strings -/
section
variable {X : Cx} {B : Bs} {e o : Expr} {we wo : WE} {pos apos : Pos}
/-! join -/
@[irreducible] def oJoin : D → D → Mt → (D → Mt → Prop) → Prop := fun x y M R => match x, seqD (viewD M y) with
  | .str a, some l => match strsD l with
    | some ys => Need ((ys.map (·.length)).sum + ys.length * a.length ≤ 16777216) ∧ R (.str (Txt.join a ys)) M
    | none => False
  | _, _ => False
def isStr : D → Bool
  | .str _ => true
  | _ => false
def wJoin (wo we : WE) : WE := fun env M R => wo env M fun x M1 => isStr x = true ∧ we env M1 fun y M2 => oJoin x y M2 R
theorem d_join (ho : DE B X o wo) (he : DE B X e we) (hs : starEach [e] X.env = [(false, eval e X.env)] := by rfl) (hbase : attributeBase o "join" X.env (eval o X.env) = eval o X.env := by rfl) (hline : (apos.endLine == pos.line) = true := by rfl) : DE B X (.Call (.Attribute o "join" apos) [e] [] pos) (wJoin wo we) := by
  refine (pe_join ho he hs hbase hline).imp fun σ H Q => ?_
  rintro ⟨P, al, M, env, R, rs, hw, L⟩
  refine ⟨P, al, M, env, _, rs, hw, fun d M1 v H1 P1 al1 e1 rs1 r1 q => ?_⟩
  obtain ⟨hs, q⟩ := q
  cases d <;> simp [isStr] at hs
  rename_i a
  cases r1
  refine ⟨⟨_, rfl⟩, P1, al1, M1, env, _, rs1, q, fun y M2 v2 H2 P2 al2 e2 rs2 r2 q2 => ?_⟩
  unfold oJoin at q2
  split at q2
  · rename_i a' l hx hl
    cases hx
    split at q2
    · rename_i ys hy
      obtain ⟨b, xs, rfl, h1, h2⟩ := view_seq rs2.toRS0 r2 hl
      have := strs_rep h2 hy
      subst this
      exact ⟨_, b, ys, rfl, rfl, h1, q2.1.out, (L.after (e1.trans e2)).here rs2 (.str _) q2.2⟩
    · exact q2.elim
  · exact q2.elim
theorem join_use {a : Str} {ys : List Str} {y : D} {M : Mt} {R : D → Mt → Prop} (h : seqD (viewD M y) = some (ys.map D.str)) (hl : (ys.map (·.length)).sum + ys.length * a.length ≤ 16777216) (k : R (.str (Txt.join a ys)) M) : oJoin (.str a) y M R := by
  unfold oJoin; simp only [h, strsD_map]; exact ⟨⟨hl⟩, k⟩
/-! str(x) of a text or an int -/
end
end L3

namespace L3
open PySem PySem.Spec PyProof.Rows L2
end L3

namespace L3
open PySem PySem.Spec PyProof.Rows L2
/-! ### i >> j -/
section
variable {K : PySem.W.Frag} {B : Bs}
end
/-! ### {k: v for .. in .. if ..} -/
def dcL (is : List Nat) (t : WTs) (wk wv : WE) (vs : List Nat) (env : Ev) : List D → List (Key × D) → Mt → (List (Key × D) → Mt → Prop) → Prop
  | [], acc, M, R => R acc M
  | d :: r, acc, M, R => bnd is d (wipeE env vs) fun env1 => t env1 M fun b M2 => ifB b (wk env1 M2 fun y M3 => wv env1 M3 fun z M4 => match keyD y with
    | some k => Need (acc.length < sizeLine) ∧ dcL is t wk wv vs env r (putD acc k z) M4 R
    | none => False) (dcL is t wk wv vs env r acc M2 R)
def wDc (wi : WI) (is : List Nat) (t : WTs) (wk wv : WE) (vs : List Nat) : WE := fun env M R => wi env M fun ds M1 => dcL is t wk wv vs env ds [] M1 fun acc M2 => R (.dct acc) M2
section
variable {X : Cx} {B : Bs} {tg e : Expr} {pos : Pos}
theorem dc_imp {K : PySem.W.Frag} {wi : WI} {g : TG} {is vs : List Nat} {t : WTs} {wk wv : WE} (bn : Binds1 K g is vs) {P : Hp} {al : List Addr} {M : Mt} {env : Ev} {σ : L2.St} {H : Hp} {R : D → Mt → Prop} {Q : VK}
    (rs : RS K B P al M env σ H) (hw : wDc wi is t wk wv vs env M R) (L : Lift K B P al env σ H R Q) : tDc (tDI K B wi) g (tDT K B t) (tD K B wk) (tD K B wv) vs σ H Q := by
  refine ⟨P, al, M, env, _, rs, hw, fun ds M1 H1 P1 al1 J e1 rs1 wk q => fun p hp => ?_⟩
  obtain ⟨hb, na⟩ := rs1.toRS0.fresh hp
  have np := rs1.toRS0.free hp
  refine ⟨fun i m H2 => m = ds.length - i ∧ i ≤ ds.length ∧ ∃ P2 al2 M2 acc av, Ext P1 al1 H1 P2 al2 H2 ∧ RS K B P2 al2 M2 env σ H2 ∧ P2 p = none ∧ p ∉ al2 ∧ H2 p = some (.dK av) ∧ RepKs K P2 al2 acc av ∧ dcL is t _ wv vs env (ds.drop i) acc M2 (fun acc M2 => R (.dct acc) M2),
    ⟨ds.length, by simp, Nat.zero_le _, P1, al1, M1, [], [], Ext.refl.priv hp _, ⟨rs1.toRS0.priv np na hb _, rs1.slen, rs1.slot⟩, np, na, upd_same, .nil, q⟩, ?_⟩
  rintro i m H2 ⟨rfl, hi, P2, al2, M2, acc, av, e2, rs2, np2, na2, hpv, racc, q2⟩
  obtain ⟨wk1, wk2⟩ := wk B P2 al2 M2 H2 e2.pp e2.pre rs2.toRS0
  by_cases hlt : i < ds.length
  · right
    have hd : ds[i]? = some ds[i] := List.getElem?_eq_getElem hlt
    obtain ⟨go, yl⟩ := wk1 i _ hd
    rw [List.drop_eq_getElem_cons hlt] at q2
    refine ⟨go, fun H' => ∃ P' al' M' acc' av', Ext P1 al1 H1 P' al' H' ∧ RS K B P' al' M' env σ H' ∧ P' p = none ∧ p ∉ al' ∧ H' p = some (.dK av') ∧ RepKs K P' al' acc' av' ∧ dcL is t _ wv vs env (ds.drop (i + 1)) acc' M' (fun acc M2 => R (.dct acc) M2), fun H' ⟨P', al', M', acc', av', x⟩ => ⟨ds.length - (i + 1), by omega, rfl, hlt, P', al', M', acc', av', x⟩, fun x H3 y => ?_⟩
    obtain ⟨P3, e3, r3, rx⟩ := yl x H3 y
    have rs3 := (rs2.step e3 r3)
    have keep : ∀ {Pa ala Ha Pb alb Hb w'}, Ext Pa ala Ha Pb alb Hb → Ha p = some (.dK w') → p ∉ ala → Pa p = none → Hb p = some (.dK w') ∧ p ∉ alb ∧ Pb p = none := fun {Pa ala Ha Pb alb Hb w'} e h n z =>
      ⟨e.fr _ _ h n, (fun m => by have := e.new _ m n; rw [h] at this; cases this), e.pn _ _ h ⟨fun _ u => (by cases u), fun _ u => (by cases u)⟩ z n⟩
    obtain ⟨hp3, na3, np3⟩ := keep e3 hpv na2 np2
    refine bn B P3 al2 M2 _ _ H3 _ x _ _ (rs3.wipe vs) rx q2 fun env4 σ4 rs4 hwp q4 => ⟨by rw [hwp, wipe_wipe], P3, al2, M2, env4, _, rs4, q4, fun b M5 H5 P5 al5 e5 rs5 q5 => ?_⟩
    obtain ⟨hp5, na5, np5⟩ := keep e5 hp3 na3 np3
    have e15 := e2.trans (e3.trans e5)
    have back : ∀ {P' al' M' H'}, Ext P3 al2 H3 P' al' H' → RS0 K B P' al' M' H' → RS K B P' al' M' env σ H' := fun {P' al' M' H'} e r => rs3.step e r
    cases b with
    | true =>
      rw [if_pos rfl]
      refine ⟨P5, al5, M5, env4, _, rs5, q5.1 rfl, fun y M6 v H6 P6 al6 e6 rs6 r6 q6 => ⟨P6, al6, M6, env4, _, rs6, q6, fun z M7 u H7 P7 al7 e7 rs7 r7 q7 => ?_⟩⟩
      split at q7
      · rename_i k hk
        have e67 := e6.trans e7
        obtain ⟨hp7, na7, np7⟩ := keep e67 hp5 na5 np5
        have racc7 := racc.mono (e3.trans (e5.trans e67)).pp (e3.trans (e5.trans e67)).pre
        have ek := key_rep r6 hk
        subst ek
        refine ⟨av, k, rfl, hp7, by rw [← racc.length]; exact q7.1.out, P7, al7, M7, putD acc k z, putK av k u, (e15.trans e67).priv hp _, ?_, np7, na7, upd_same, racc7.put r7 k, q7.2⟩
        have r8 := back (e5.trans e67) rs7.toRS0
        exact ⟨r8.toRS0.priv np7 na7 hb _, r8.slen, r8.slot⟩
      · exact q7.elim
    | false =>
      rw [if_neg Bool.false_ne_true]
      exact ⟨P5, al5, M5, acc, av, e15, back e5 rs5.toRS0, np5, na5, hp5, racc.mono (e3.trans e5).pp (e3.trans e5).pre, q5.2 rfl⟩
  · left
    have ei : i = ds.length := by omega
    subst ei
    rw [List.drop_length] at q2
    refine ⟨wk2, ?_⟩
    have sm : Same P2 (upd P2 p (.dK av)) := fun b x h => by rw [upd_ne (ne_of_none h np2)]; exact h
    refine L _ _ _ _ _ _ (e1.trans (e2.pub hp np2 (.dK av))) ⟨rs2.toRS0.pub np2 na2 hb hpv, rs2.slen, fun j d h => ?_⟩ (.dct upd_same (racc.mono sm (List.prefix_refl _))) q2
    obtain ⟨v, h1, h2⟩ := rs2.slot j d h
    exact ⟨v, h1, h2.mono sm (List.prefix_refl _)⟩
theorem d_dc {kx vx : Expr} {ifs : List Expr} {scope : Scope} {own : List (Str × Nat)} {g : TG} {is : List Nat} {wi : WI} {t : WTs} {wk wv : WE} (hc : X.calm = true) (hN : X.N.Nodup) (hi : DI B X tg e wi) (ok : BlkOk X.N X.env.scope scope own)
    (hg : ∀ (s : Shared) (H : Hp) (C : Addr) (cl : List (Str × Addr)) (fp : List Addr), PG (X.blk s H scope (compEnvC scope cl C X.env) fp) tg g) (bn : Binds1 X.K g is (own.map (·.2)))
    (ht : ∀ (s : Shared) (H : Hp) (C : Addr) (cl : List (Str × Addr)) (fp : List Addr), DTs B (X.blk s H scope (compEnvC scope cl C X.env) fp) ifs t)
    (hk : ∀ (s : Shared) (H : Hp) (C : Addr) (cl : List (Str × Addr)) (fp : List Addr), DE B (X.blk s H scope (compEnvC scope cl C X.env) fp) kx wk)
    (he : ∀ (s : Shared) (H : Hp) (C : Addr) (cl : List (Str × Addr)) (fp : List Addr), DE B (X.blk s H scope (compEnvC scope cl C X.env) fp) vx wv) (hs : ∀ x, foldedSetIterable e X.env x = pure x := by intro _; rfl) :
    DE B X (.DictComp kx vx [⟨tg, e, ifs, 0⟩] scope pos) (wDc wi is t wk wv (own.map (·.2))) := by
  refine (pe_dc (tt := tDT X.K B t) (tk := tD X.K B wk) (tv := tD X.K B wv) hc hN hi ok hg ht hk he hs).imp fun σ H Q => ?_
  rintro ⟨P, al, M, env, R, rs, hw, L⟩
  exact dc_imp bn rs hw L
end
theorem putD_len {ks : List (Key × D)} {k : Key} {z : D} : (putD ks k z).length ≤ ks.length + 1 := by
  unfold putD
  split
  · rw [List.length_map]; omega
  · simp
/-- a dict comprehension, by what holds behind each turn -/
theorem dcL_inv {is vs : List Nat} {t : WTs} {wk wv : WE} {env : Ev} (I : Nat → List (Key × D) → Mt → Prop) {ds : List D} {M : Mt} {R : List (Key × D) → Mt → Prop} (hl : ds.length ≤ sizeLine) (h0 : I 0 [] M)
    (hs : ∀ (i : Nat) (d : D) (acc : List (Key × D)) (M : Mt) (A : D → D → Mt → Prop) (C : Mt → Prop), ds[i]? = some d → I i acc M → (∀ y k z M', keyD y = some k → I (i + 1) (putD acc k z) M' → A y z M') → (∀ M', I (i + 1) acc M' → C M') →
      bnd is d (wipeE env vs) fun env1 => t env1 M fun b M2 => ifB b (wk env1 M2 fun y M3 => wv env1 M3 fun z M4 => A y z M4) (C M2))
    (h : ∀ acc M', acc.length ≤ ds.length → I ds.length acc M' → R acc M') : dcL is t wk wv vs env ds [] M R := by
  have key : ∀ (n i : Nat), i + n = ds.length → ∀ acc M, acc.length ≤ i → I i acc M → dcL is t wk wv vs env (ds.drop i) acc M R := by
    intro n
    induction n with
    | zero =>
      intro i hi acc M ha q
      have : i = ds.length := by omega
      subst this
      rw [List.drop_eq_nil_of_le (by omega)]
      exact h _ _ ha q
    | succ n ih =>
      intro i hi acc M ha q
      have hlt : i < ds.length := by omega
      rw [List.drop_eq_getElem_cons hlt]
      refine hs i _ acc M (fun y z M4 => match keyD y with
        | some k => Need (acc.length < sizeLine) ∧ dcL is t wk wv vs env (ds.drop (i + 1)) (putD acc k z) M4 R
        | none => False) _ (List.getElem?_eq_getElem hlt) q (fun y k z M' hk q2 => ?_) fun M' q2 => ih (i + 1) (by omega) _ _ (by omega) q2
      simp only [hk]
      exact ⟨⟨by omega⟩, ih (i + 1) (by omega) _ _ (by have := @putD_len acc k z; omega) q2⟩
  have := key ds.length 0 (by omega) [] M (Nat.le_refl _) h0
  simpa using this
end L3

/-! ### len(set(xs)), xs a tuple of texts, any number of them -/
namespace L3
open PySem PySem.Spec PyProof.Rows L2 PySem.SeqAt
/-- how many different ones -/
def dist : List Str → List Str → Nat
  | _, [] => 0
  | seen, y :: r => (if y ∈ seen then 0 else 1) + dist (seen ++ [y]) r
theorem dist_le : ∀ (l seen : List Str), dist seen l ≤ l.length
  | [], _ => Nat.le_refl _
  | y :: r, seen => by
    have := dist_le r (seen ++ [y])
    unfold dist
    rw [List.length_cons]
    split <;> omega
theorem dist_full : ∀ (l seen : List Str), dist seen l = l.length ↔ (l.Nodup ∧ ∀ y ∈ l, y ∉ seen)
  | [], _ => by simp [dist]
  | y :: r, seen => by
    have h1 := dist_le r (seen ++ [y])
    have ih := dist_full r (seen ++ [y])
    unfold dist
    rw [List.length_cons, List.nodup_cons]
    constructor
    · intro h
      split at h
      · omega
      · rename_i hy
        obtain ⟨n, q⟩ := ih.mp (by omega)
        refine ⟨⟨fun hm => ?_, n⟩, fun z hz => ?_⟩
        · exact q y hm (by simp)
        · rcases List.mem_cons.mp hz with rfl | hz
          · exact hy
          · exact fun hs => q z hz (by simp [hs])
    · rintro ⟨⟨hn, n⟩, q⟩
      rw [if_neg (q y List.mem_cons_self), ih.mpr ⟨n, fun z hz hs => ?_⟩]
      · omega
      · rcases List.mem_append.mp hs with hs | hs
        · exact q z (List.mem_cons_of_mem _ hz) hs
        · have : z = y := by simpa using hs
          exact hn (this ▸ hz)
section
variable {prog : Program} {w : World} {A : Around} {E : Value → Shared → Prop} {s : Shared}
abbrev SetAt (prog : Program) (w : World) (h : Heap) (a : Addr) (ys : List Str) : Prop := h.SetOf (strKind prog w) a (fun k => decide (k ∈ ys)) (dist [] ys)
theorem dist_snoc : ∀ (l seen : List Str) (y : Str), dist seen (l ++ [y]) = dist seen l + (if y ∈ seen ++ l then 0 else 1)
  | [], seen, y => by simp [dist]
  | x :: r, seen, y => by
    have ih := dist_snoc r (seen ++ [x]) y
    show dist seen (x :: (r ++ [y])) = _
    unfold dist
    rw [ih, List.append_assoc]
    simp only [List.singleton_append]
    omega
theorem setAt_far {h h' : Heap} {a : Addr} {ys : List Str} (q : SetAt prog w h a ys) (e : ∀ o, h.get? a = some o → h'.get? a = some o) : SetAt prog w h' a ys := by
  obtain ⟨o, es, ep, t, ho, rest⟩ := q
  exact ⟨o, es, ep, t, e _ ho, rest⟩
theorem turns {Sa Ia : Addr} {fp wr : List Addr} {G : Array GenState → Array GenState → Prop} {n : Nat} {Pv : Nat → Value → Prop} {St : Nat → Shared → Prop} {R : Result → Shared → Prop} {ys : List Str}
    (W : WalksS prog w A.in1 Ia fp wr G n Pv St) (hSf : Sa ∉ fp) (hlen : n = ys.length) (hfit : ys.length + 1 < scanBound) (hv : ∀ i v, Pv i v → ∃ y t, ys[i]? = some y ∧ v = .str y t)
    {s0 : Shared} (fin : ∀ s', Moved (Sa :: wr) G s0 s' → SetAt prog w s'.heap Sa ys → R (.ok (.ret .none)) s') :
    ∀ (m i : Nat), n - i = m → i ≤ n → ∀ s : Shared, Moved (Sa :: wr) G s0 s → St i s → SetAt prog w s.heap Sa (ys.take i) → codeAny (model prog w) A (.builtin "set.update.loop" ⟨[.ref Sa, .ref Ia], []⟩) R s := by
  have hSw : Sa ∉ wr := fun h => hSf (W.sub _ h)
  have up : ∀ b ∈ wr, b ∈ Sa :: wr := fun b hb => List.mem_cons_of_mem _ hb
  intro m
  induction m with
  | zero =>
    intro i hm hi s mv st q
    obtain rfl : i = n := by omega
    refine codeAny_builtin PyProof.Rows.F.entry_set_update_loop (?_ : wpAny _ _ (pyNext (.ref Ia) >>= _) _ _ _)
    rw [Around.under_plainId PyProof.Rows.F.plain_set_update_loop]
    refine wpAny_bind (W.done s _ _ st fun s' mv' => wpAny_pure (fin s' (Moved.trans W.gtrans mv (mv'.mono up)) ?_))
    rw [hlen, List.take_length] at q
    exact setAt_far q fun o e => mv'.heap Sa o hSw e
  | succ m ih =>
    intro i hm hi s mv st q
    have hlt : i < n := by omega
    refine codeAny_builtin PyProof.Rows.F.entry_set_update_loop (?_ : wpAny _ _ (pyNext (.ref Ia) >>= _) _ _ _)
    rw [Around.under_plainId PyProof.Rows.F.plain_set_update_loop]
    refine wpAny_bind (W.item i s _ _ hlt st fun v s' hP st' mv' => ?_)
    obtain ⟨y, t, hy, rfl⟩ := hv i v hP
    have q' : SetAt prog w s'.heap Sa (ys.take i) := setAt_far q fun o e => mv'.heap Sa o hSw e
    have hd := dist_le (ys.take i) []
    have hti : (ys.take i).length ≤ ys.length := by rw [List.length_take]; omega
    have et : ys.take (i + 1) = ys.take i ++ [y] := by rw [List.take_add_one, hy]; rfl
    refine wpAny_bind (m := holding [Value.str y t] (setAdd Sa (.str y t))) (wpAny_holding ?_)
    unfold setAdd
    refine wpAny_holding (wpAny_bind ((strKind prog w).pyHash (k := y) (strKind_is _ _ _ _) ?_))
    refine wpAny_setAddHashed_of (knd := strKind prog w) (s := { s' with toks := s'.toks + 1 }) (strKind_is _ _ _ _) rfl q' (by omega) fun h' sb q2 => ?_
    have q3 : SetAt prog w h' Sa (ys.take (i + 1)) := by
      refine SetOf_congr q2 (fun k => ?_) ?_
      · rw [et]; simp
      · rw [et, dist_snoc, List.nil_append]
        by_cases hm : y ∈ ys.take i <;> simp [hm]
    have far : ∀ b o, b ≠ Sa → s'.heap.get? b = some o → h'.get? b = some o := fun b o hb e => by rw [sb.2 b hb]; exact e
    refine wpAny_pure ⟨plainId_quiet PyProof.Rows.F.plain_set_update_loop _, ih (i + 1) (by omega) hlt _ (Moved.trans W.gtrans mv ((mv'.mono up).then_heap (Nat.le_succ _) fun b o hb e => far b o (fun z => hb (z ▸ List.mem_cons_self)) e)) (W.frame _ s' _ _ st' (Nat.le_succ _) fun b hb o e => far b o (fun z => hSf (z ▸ hb)) e) q3⟩
abbrev newSetO (led : Bool) : Obj := { cls := .type "set", dict := none, data := .set #[] 0 (.fresh 0 0 led) }
/-- set(a), by what the new set's own start does with it -/
theorem call_set1 {a : Value} {Q : Value → Shared → Prop}
    (next : ∀ led, wpAny (model prog w) A.in1.in1 (Builtin.«set.__init__» ⟨[.ref s.heap.objs.size, a], []⟩)
      (fun fin s' => match fin with | .done f => wants (fun r s₂ => r = .none ∧ Q (.ref s.heap.objs.size) s₂) E (.ok f) s' | .again c => c.quiet = true ∧ codeAny (model prog w) A.in1 c (wants (fun r s₂ => r = .none ∧ Q (.ref s.heap.objs.size) s₂) E) s')
      (fun e s' => wants (fun r s₂ => r = .none ∧ Q (.ref s.heap.objs.size) s₂) E (.error e) s') { s with heap := s.heap.push (newSetO led) }) : wpAny (model prog w) A (call (.type "set") [a]) Q E s := by
  have F := PySem.F.called_set
  obtain ⟨c, tl, m1⟩ := F.mro
  have m2 := F.made
  have m3 := F.sub
  have m4 := F.notType
  have m5 := F.canCreate
  have m6 := PySem.F.typeCall_set_1 a
  have m7 := F.init.lookup
  refine wpAny_call (codeAny_of_tree (?_ : wpAny _ _ (callAny (.type "set") ⟨[a], []⟩) _ _ _))
  refine wpAny_pure ⟨Code.quiet_builtin _ (by decide +kernel), codeAny_builtin PySem.F.entry_type_call ?_⟩
  rw [Around.under_plain (weight_type_call_type "set" [a] []) rfl]
  repeat (any_goals (first | assumption | wp_step))
  refine codeAny_mono (PySem.code_set_new_1 a (E := E) (Q₁ := fun v s₁ => ∃ led, v = .ref s.heap.objs.size ∧ s₁ = { s with heap := s.heap.push (newSetO led) }) fun led => ⟨led, rfl, rfl⟩) fun r s₁ q => ?_
  rcases r with e | fl
  · exact q
  cases fl <;> first | exact q.elim | skip
  obtain ⟨led, rfl, rfl⟩ := q
  have own : (s.heap.push (newSetO led)).get? s.heap.objs.size = some (newSetO led) := Heap.get?_push_size _ rfl
  have hT : Shared.TypeIs { s with heap := s.heap.push (newSetO led) } (.ref s.heap.objs.size) "set" := ⟨_, own, rfl⟩
  have m8 := F.init.bind (.ref s.heap.objs.size)
  repeat (any_goals (first | assumption | wp_step))
  refine codeAny_mono (codeAny_call_builtin F.init.plain PySem.F.entry_set_init (PySem.check_set_init_1 hT (next led))) fun r₂ s₂ q => ?_
  rcases r₂ with e | fl
  · exact q
  cases fl <;> first | exact q.elim | skip
  obtain ⟨rfl, q⟩ := q
  repeat (any_goals (first | assumption | wp_step))
theorem call_setT {l : Addr} {items : Array Value} {ys : List Str} {Q : Value → Shared → Prop} (cold : A.handled = none) (hl : s.heap.IsTuple l items) (hit : StrsAre items.toList ys) (hfit : ys.length + 1 < scanBound)
    (h : ∀ h' tk, SetAt prog w h' s.heap.objs.size ys → (∀ b o, s.heap.get? b = some o → h'.get? b = some o) → Q (.ref s.heap.objs.size) { s with heap := h', toks := tk }) : wpAny (model prog w) A (call (.type "set") [.ref l]) Q E s := by
  refine call_set1 fun led => ?_
  have own : (s.heap.push (newSetO led)).get? s.heap.objs.size = some (newSetO led) := Heap.get?_push_size _ rfl
  obtain ⟨ol, hol, hcl, nl, hdl⟩ := hl
  obtain ⟨ocls, odict, odata, oslots⟩ := ol
  simp only at hcl hdl
  subst hcl; subst hdl
  have there := Heap.get?_push_of_some (newSetO led) hol
  have tupl : (s.heap.push (newSetO led)).IsTuple l items := ⟨_, there, rfl, nl, rfl⟩
  have s1 := PySem.F.sub_tuple_set
  have s2 := PySem.F.sub_tuple_frozenset
  have s3 : (Value.type "tuple" == Value.type "dict") = false := by decide
  have cold3 : A.in1.in1.in1.handled = none := by simp [cold]
  have isz : items.size = ys.length := by rw [← StrsAre.len_eq hit, Array.length_toList]
  have ll : l < s.heap.objs.size := Heap.lt_size hol
  have sz1 : (s.heap.push (newSetO led)).objs.size = s.heap.objs.size + 1 := Heap.size_push ..
  unfold Builtin.«set.__init__» noKeywords Builtin.Frozenset.updateFrom
  generalize hPI : pyIter = PI
  wp_walk
  subst hPI
  refine wpAny_pyIter_tuple tupl ?_
  refine wpAny_bind (wpAny_runValue ?_)
  have hSf : s.heap.objs.size ∉ [(s.heap.push (newSetO led)).objs.size, l] := by
    rw [sz1]
    simp only [List.mem_cons, List.not_mem_nil, or_false, not_or]
    exact ⟨Nat.ne_of_lt (Nat.lt_succ_self _), Nat.ne_of_gt ll⟩
  refine turns ((Walks.tuple cold3 _ l (by rw [sz1]; exact Nat.ne_of_lt (Nat.lt_succ_of_lt ll)) items).toS) hSf isz hfit (fun i v hv => ?_) (fun s' mv q => ?_) (items.size - 0) 0 rfl (Nat.zero_le _) _ (Moved.refl fun _ => rfl) ⟨⟨_, Heap.get?_push_size _ rfl, rfl, rfl⟩, tupl.push _⟩ ?_
  · obtain ⟨tk, e⟩ := SS.strs_at hit i v (by rw [Array.getElem?_toList]; exact hv)
    have hi : i < ys.length := by rw [← isz]; exact (Array.getElem?_eq_some_iff.mp hv).1
    exact ⟨ys[i], tk, List.getElem?_eq_getElem hi, by rw [e, List.getD_eq_getElem?_getD, List.getElem?_eq_getElem hi]; rfl⟩
  · obtain ⟨h', g', d', tk', os'⟩ := s'
    obtain rfl : g' = s.gens := mv.gens
    obtain rfl : d' = s.drawn := mv.drawn
    obtain rfl : os' = s.os := mv.os
    refine wpAny_pure (?_ : wpAny _ _ (ret Value.none) _ _ _)
    refine wpAny_pure ⟨rfl, h h' tk' q fun b o e => ?_⟩
    have hb := Heap.lt_size e
    refine mv.heap b o ?_ (Heap.get?_push_of_some _ (Heap.get?_push_of_some _ e))
    simp only [List.mem_cons, List.not_mem_nil, or_false, not_or]
    exact ⟨Nat.ne_of_lt hb, by rw [sz1]; exact Nat.ne_of_lt (Nat.lt_succ_of_lt hb)⟩
  · refine SetOf_congr ((setObjOf_fresh (knd := strKind prog w) led).setOf (Heap.get?_push_of_some _ own) (by unfold scanBound; omega)) (fun k => ?_) rfl
    simp
end
section
variable {X : Cx} {B : Bs} {a : Expr} {wa : WE} {p p2 q pos : Pos}
def tLenT (K : PySem.W.Frag) (ta : TE) : TE := fun σ H Q => ta σ H fun x H1 => ∃ (l : Addr) (ys : List Str), x = V.ref l ∧ SqT K H1 l (ys.map V.str) ∧ ys.length < 100 ∧ Q (.int (dist [] ys)) H1
theorem pe_lenT {ta : TE} (hc : X.calm = true) (hg : Gl X "len") (hm : X.mg "len" = none) (hg2 : Gl X "set") (hm2 : X.mg "set" = none) (ha : PE X a ta)
    (na : starEach [a] X.env = (false, eval a X.env) :: starEach [] X.env := by rfl) : PE X (.Call (.Name "len" p) [.Call (.Name "set" p2) [a] [] q] [] pos) (tLenT X.K ta) := ⟨fun pins s σ H Q I h => by
  refine Call_ (ld_blt I hg hm PySem.boot_len (callWith_builtin1 (args_cons (Call_ (ld_blt I hg2 hm2 PyProof.Rows.boot_set (callWith_type1 (args_cons (thn (ha.run pins s σ H _ I h) fun v s1 q0 => args_nil ?_) na) na rfl))) rfl) rfl rfl))
  obtain ⟨x, H1, I1, r1, l, ys, rfl, hq, hb, q1⟩ := q0
  cases r1
  obtain ⟨its, r, tup, _⟩ := I1.tuple hq
  have hb' : ys.length + 1 < scanBound := by unfold scanBound; omega
  refine call_setT (I1.ok.hd hc) tup (by simpa using strsAre_of r) hb' fun h' tk st keep => args_nil ?_
  obtain ⟨o, es, ep, t, ho, hex, hd, _, _, _, hf, hn⟩ := st
  have hle := dist_le ys []
  have I2 : Inv X pins σ H1 { s1 with heap := h', toks := tk } := I1.kept keep
  exact call_len_set ho hex hd hf (by rw [hn]; omega) ⟨.int (dist [] ys), H1, I2.tok _, ⟨_, by rw [hn]⟩, q1⟩⟩
def wLenSet (wa : WE) : WE := fun env M R => wa env M fun d M1 => match viewD M1 d with
  | .tup l => match strsD l with
    | some ys => Need (ys.length < 100) ∧ R (.int (dist [] ys)) M1
    | none => False
  | _ => False
theorem d_lenSet (hc : X.calm = true) (hg : Gl X "len") (hm : X.mg "len" = none) (hg2 : Gl X "set") (hm2 : X.mg "set" = none) (ha : DE B X a wa)
    (na : starEach [a] X.env = (false, eval a X.env) :: starEach [] X.env := by rfl) : DE B X (.Call (.Name "len" p) [.Call (.Name "set" p2) [a] [] q] [] pos) (wLenSet wa) := by
  refine (pe_lenT hc hg hm hg2 hm2 ha na).imp fun σ H Q => ?_
  rintro ⟨P, al, M, env, R, rs, hw, L⟩
  refine ⟨P, al, M, env, _, rs, hw, fun d M1 v H1 P1 al1 e1 rs1 r1 q => ?_⟩
  split at q
  · rename_i l hv
    split at q
    · rename_i ys hy
      obtain ⟨b, xs, rfl, h1, h2⟩ := view_tup rs1.toRS0 r1 hv
      have := strs_rep h2 hy
      subst this
      exact ⟨b, ys, rfl, h1, q.1.out, (L.after e1).here rs1 (.int _) q.2⟩
    · exact q.elim
  · exact q.elim
end
end L3

/-! ### t[::-1] of a tuple; list * int -/
namespace L3
open PySem PySem.Spec PyProof.Rows L2 HT
section
variable {prog : Program} {w : World} {A : Around} {E : Value → Shared → Prop} {s : Shared}
end
section
variable {X : Cx} {B : Bs} {e : Expr} {we : WE} {pos : Pos}
/-! list * int -/
theorem Reps.flat {K : PySem.W.Frag} {P : Hp} {al : List Addr} {ds : List D} {vs : List V} (r : Reps K P al ds vs) : ∀ n : Nat, Reps K P al (List.replicate n ds).flatten (List.replicate n vs).flatten
  | 0 => .nil
  | n + 1 => by
    rw [List.replicate_succ, List.replicate_succ, List.flatten_cons, List.flatten_cons]
    exact r.append (Reps.flat r n)
end
end L3

/-! ### x in a list of data and dicts -/
namespace L3
open PySem PySem.Spec PyProof.Rows L2 PySem.SeqAt
open AutoSeq1 (wpAny_loadPart')
section
variable {A : Around} {s : Shared}
end
end L3
namespace L3
open PySem PySem.Spec PyProof.Rows L2 PySem.SeqAt
section
variable {A : Around} {s : Shared}
structure DctAt (s : Shared) (d : Addr) : Prop where
  ex : ∃ o es ep, s.heap.get? d = some o ∧ o.cls = .type "dict" ∧ o.data = .dict es ep
theorem DctAt.ty {d : Addr} (h : DctAt s d) : s.TypeIs (.ref d) "dict" := by
  obtain ⟨o, es, ep, h1, h2, _⟩ := h.ex
  exact ⟨o, h1, h2⟩
end
end L3
namespace L3
open PySem PySem.Spec PyProof.Rows L2
section
variable {X : Cx} {B : Bs} {tg e : Expr} {pos : Pos}
end
end L3
namespace L3
open PySem PySem.Spec PyProof.Rows L2 PySem.SeqAt
section
variable {X : Cx} {B : Bs} {e : Expr} {we : WE} {pos : Pos}
end
/-! x in a list -/
section
variable {X : Cx}
/-- an empty dict -/
structure EmpAt (s : Shared) (d : Addr) : Prop where
  ex : ∃ o ep, s.heap.get? d = some o ∧ o.cls = .type "dict" ∧ o.ExactDict ∧ o.data = .dict #[] ep
  no : (d == sysModules) = false
theorem EmpAt.dct {s : Shared} {d : Addr} (h : EmpAt s d) : DctAt s d := by
  obtain ⟨o, ep, h1, h2, _, h3⟩ := h.ex
  exact ⟨⟨o, _, ep, h1, h2, h3⟩⟩
theorem EmpAt.of {s : Shared} {d : Addr} (h : EmpAt s d) (prog : Program) (w : World) : s.heap.DictOf (mixKind prog w) d [] := by
  obtain ⟨o, ep, h1, h2, h4, h3⟩ := h.ex
  exact ⟨o, #[], ep, h1, h4, h3, (by intro e he; simp at he), .nil, .nil⟩
end
end L3
namespace L3
open PySem PySem.Spec PyProof.Rows L2 PySem.SeqAt
section
variable {X : Cx} {B : Bs}
end
end L3
namespace L3
open PySem PySem.Spec PyProof.Rows L2
theorem room65 {k : Nat} {A : Around} (hr : Room (k + 1) A) : A.units + 65 < cLine := by
  have h := hr.in1.units
  have e : A.in1.units = A.units + 1 := rfl
  omega
end L3

namespace L3
open PySem PySem.Spec PyProof.Rows L2
end L3


namespace L3
open PySem PySem.Spec PyProof.Rows L2 Builtin
section
variable {X : Cx} {B : Bs} {CX : CXT} {k : Nat} {f C : Addr} {n : Str} {sp : DSp}
end
end L3


namespace L3
open PySem PySem.Spec PyProof.Rows L2 Builtin
section
variable {X : Cx} {B : Bs} {CX : CXT} {k : Nat} {f C : Addr} {n m : Str} {sp : DSp} {o e : Expr} {wo we : WE} {RX : RXe} {p apos pos : Pos}
theorem pe_mkAS {sp : Sp} {E : L2.St → XK} {t : TA} {x : Str} {es : List Expr} (M : Mk X.K C f) (F : FnR X.prog X.w X.K X.mg X.base CX k f sp) (hr : Room (k + 1) X.A) (hx : ∀ σ, PassesAt CX X σ (E σ)) (hg : Gl X x) (hm : X.mg x = some (.ref C)) (ha : PA X (e :: es) t) (hdb : (x == ("__debug__" : Str)) = false := by decide)
    (he : starEach (e :: es) X.env = (false, eval e X.env) :: starEach es X.env := by rfl) (hst : (backTo pos (starEach es X.env)).any (·.1) = true := by rfl) : PE X (.Call (.Name x p) (e :: es) [] pos) (tMkA C sp E t) :=
  ⟨fun pins s σ H Q I h => wpAny_Call_Name_kw (ld_glob I hg hm (PySem.W.callWith_S2 (h₀ := X.base) I.ok.mod.kin M.kp (thn (ha.run pos pins s σ H _ I h) fun us s1 ⟨vs, H1, I1, r, q⟩ => ⟨I1.kIn, make_at M F hr (hx σ) I1 r q⟩) he hst) hdb)⟩
/-- C(e, .., *y) -/
theorem d_mkG {x : Str} {es : List Expr} {was : WA} (ca : ClsAt X.K n C) (Mc : Mk X.K C f) (F : FnR X.prog X.w X.K X.mg X.base CX k f (toSp X.K sp)) (hr : Room (k + 1) X.A) (hx : Rz X B CX RX) (hg : Gl X x) (hm : X.mg x = some (.ref C)) (ha : DA B X (e :: es) was) (hdb : (x == ("__debug__" : Str)) = false := by decide)
    (he : starEach (e :: es) X.env = (false, eval e X.env) :: starEach es X.env := by rfl) (hst : (backTo pos (starEach es X.env)).any (·.1) = true := by rfl) : DE B X (.Call (.Name x p) (e :: es) [] pos) (wMk n sp RX was) := by
  refine (pe_mkAS Mc F hr hx hg hm ha hdb he hst).imp fun σ H Q => ?_
  rintro ⟨P, al, M, env, R, rs, hw, L⟩
  exact ⟨P, al, M, env, _, rs, hw, fun ds M1 vs H1 P1 al1 e1 rs1 r1 q x dx hx hd ne => mk_sp ca rs1 r1 (L.after e1) hx hd ne (fun _ _ h => ⟨h.1, .inr h.2⟩) q⟩
end
end L3

namespace L3
open PySem PySem.Spec PyProof.Rows L2
/-! ### a comprehension over the keys of a dict that changes elsewhere: the dict is locked meanwhile -/
section
variable {K : PySem.W.Frag} {P P' : Hp} {al : List Addr}
/-- all but a locked dict -/
def NoLk (x : HO) : Prop := ∀ o kvs, x ≠ .frz o (.dK kvs)
def SameX (P P' : Hp) : Prop := ∀ b x, P b = some x → NoLk x → P' b = some x
theorem SameX.seqT {a : Addr} {xs : List V} (e : SameX P P') (h : SqT K P a xs) : SqT K P' a xs := by
  rcases h with h | h
  · rcases h with h | ⟨o, h⟩
    · exact .inl (.inl (e _ _ h fun _ _ z => nomatch z))
    · exact .inl (.inr ⟨o, e _ _ h fun _ _ z => nomatch z⟩)
  · exact .inr h
theorem SameX.seq {a : Addr} {xs : List V} (e : SameX P P') (h : SqL K P a xs) : SqL K P' a xs := by
  rcases h with h | h
  · rcases h with h | ⟨o, h⟩
    · exact .inl (.inl (e _ _ h fun _ _ z => nomatch z))
    · exact .inl (.inr ⟨o, e _ _ h fun _ _ z => nomatch z⟩)
  · exact .inr h
theorem SameX.sqp {a : Addr} {xs : List V} (e : SameX P P') (h : SqP P a xs) : SqP P' a xs := let ⟨o, h, d⟩ := h; ⟨o, e _ _ h (fun _ _ z => nomatch z), d⟩
mutual
/-- no dict that is locked for good -/
def noF : D → Bool
  | .tup l => noFs l
  | .ptp l => noFs l
  | .lst l => noFs l
  | .rol l => noFs l
  | .dct l => noFK l
  | .obj _ l => noFF l
  | .fdc _ => false
  | _ => true
def noFs : List D → Bool
  | [] => true
  | d :: r => noF d && noFs r
def noFK : List (Key × D) → Bool
  | [] => true
  | (_, d) :: r => noF d && noFK r
def noFF : List (Str × D) → Bool
  | [] => true
  | (_, d) :: r => noF d && noFF r
end
mutual
theorem Rep.lk (s : SameX P P') : ∀ {d : D} {v : V}, Rep K P al d v → noF d = true → Rep K P' al d v
  | _, _, .non, _ => .non
  | _, _, .bl b, _ => .bl b
  | _, _, .int i, _ => .int i
  | _, _, .str x, _ => .str x
  | _, _, .ty n, _ => .ty n
  | _, _, .adr a, _ => .adr a
  | _, _, .tup q r, e => .tup (s.seqT q) (Reps.lk s r (by simpa [noF] using e))
  | _, _, .ptp q r, e => .ptp (s.sqp q) (Reps.lk s r (by simpa [noF] using e))
  | _, _, .lst q r, e => .lst (s _ _ q fun _ _ z => nomatch z) (Reps.lk s r (by simpa [noF] using e))
  | _, _, .rol q r, e => .rol (s.seq q) (Reps.lk s r (by simpa [noF] using e))
  | _, _, .dct q r, e => .dct (s _ _ q fun _ _ z => nomatch z) (RepKs.lk s r (by simpa [noF] using e))
  | _, _, .fdc q r, e => by simp [noF] at e
  | _, _, .obj q c r, e => .obj (s _ _ q fun _ _ z => nomatch z) c (RepFs.lk s r (by simpa [noF] using e))
  | _, _, .cls c, _ => .cls c
  | _, _, .cel e, _ => .cel e
theorem Reps.lk (s : SameX P P') : ∀ {ds : List D} {vs : List V}, Reps K P al ds vs → noFs ds = true → Reps K P' al ds vs
  | _, _, .nil, _ => .nil
  | _, _, .cons r t, e => .cons (Rep.lk s r (by simp [noFs] at e; exact e.1)) (Reps.lk s t (by simp [noFs] at e; exact e.2))
theorem RepKs.lk (s : SameX P P') : ∀ {ds : List (Key × D)} {vs : List (Key × V)}, RepKs K P al ds vs → noFK ds = true → RepKs K P' al ds vs
  | _, _, .nil, _ => .nil
  | _, _, .cons r t, e => .cons (Rep.lk s r (by simp [noFK] at e; exact e.1)) (RepKs.lk s t (by simp [noFK] at e; exact e.2))
theorem RepFs.lk (s : SameX P P') : ∀ {ds : List (Str × D)} {vs : List (Str × V)}, RepFs K P al ds vs → noFF ds = true → RepFs K P' al ds vs
  | _, _, .nil, _ => .nil
  | _, _, .cons r t, e => .cons (Rep.lk s r (by simp [noFF] at e; exact e.1)) (RepFs.lk s t (by simp [noFF] at e; exact e.2))
end
theorem ExCell.lk {l : List D} {a : Addr} (s : SameX P P') (c : ExCell K P al l a) (e : noFs l = true) : ExCell K P' al l a := by
  unfold ExCell at c ⊢
  split at c
  · obtain ⟨C, d, oe, h1, h2, h3, h4, h5⟩ := c
    refine ⟨C, d, oe, s _ _ h1 (fun _ _ z => nomatch z), h2, h3, h4, ?_⟩
    rcases h5 with h5 | ⟨dd, gs, g1, g2, g3⟩
    · exact .inl h5
    · exact .inr ⟨dd, gs, g1, s _ _ g2 (fun _ _ z => nomatch z), g3.lk s (by simpa [noFs, noF] using e)⟩
  · trivial
theorem Cell.lk {m : D} {b : Addr} {H H' : Hp} (s : SameX P P') (c : Cell K P al m b H) (nf : noF m = true) (hp : live m = true → P' b = none) (hh : live m = true → H' b = H b) : Cell K P' al m b H' := by
  cases m <;> first | trivial | skip
  · exact ExCell.lk s c (by simpa [noF] using nf)
  · obtain ⟨h1, xs, h2, h3⟩ := c; exact ⟨hp rfl, xs, by rw [hh rfl]; exact h2, h3.lk s (by simpa [noF] using nf)⟩
  · obtain ⟨h1, xs, h2, h3⟩ := c; exact ⟨hp rfl, xs, by rw [hh rfl]; exact h2, h3.lk s (by simpa [noF] using nf)⟩
  · obtain ⟨h1, C, dx, gs, h2, h4, h3⟩ := c; exact ⟨hp rfl, C, dx, gs, by rw [hh rfl]; exact h2, h4, h3.lk s (by simpa [noF] using nf)⟩
/-- the cell n, a dict, is locked -/
theorem RS0.lock {B : Bs} {M : Mt} {H : Hp} {n : Nat} {ks : List (Key × D)} {a : Addr} {kvs : List (Key × V)} {od : Obj} (rs : RS0 K B P al M H) (hn : M[n]? = some (.dct ks)) (ha : al[n]? = some a) (hp : P a = none) (hk : H a = some (.dK kvs)) :
    Ext P al H (upd P a (.frz od (.dK kvs))) al (upd H a (.frz od (.dK kvs))) ∧ RS0 K B (upd P a (.frz od (.dK kvs))) al (M.set n .non) (upd H a (.frz od (.dK kvs))) := by
  have ia : a ∈ al := List.mem_of_getElem? ha
  have sm : Same P (upd P a (.frz od (.dK kvs))) := fun b x h => by rw [upd_ne (ne_of_none h hp)]; exact h
  have e : Ext P al H (upd P a (.frz od (.dK kvs))) al (upd H a (.frz od (.dK kvs))) := ⟨sm, List.prefix_refl _, fun b x h m => by rw [upd_ne (fun z => m (by rw [z]; exact ia))]; exact h, fun b m k => absurd m k, fun b x h _ hb k => by
    rw [upd_ne (fun z => k (by rw [z]; exact ia))]; exact hb⟩
  have im : n < M.length := (List.getElem?_eq_some_iff.mp hn).1
  have gm : ∀ (j : Nat) (m : D), (M.set n .non)[j]? = some m → live m = true → j ≠ n ∧ M[j]? = some m := fun j m h ln => by
    by_cases hj : j = n
    · subst hj; rw [List.getElem?_set_self im] at h; cases h; cases ln
    · rw [List.getElem?_set_ne (Ne.symm hj)] at h; exact ⟨hj, h⟩
  refine ⟨e, ⟨rs.base.trans e, fun b x h => ?_, by simp [rs.len], fun j b m h1 h2 => ?_, fun j k b m m' h1 h2 h3 h4 l1 l2 => ?_, fun b hb => ?_⟩⟩
  · by_cases hb : b = a
    · subst hb; rw [upd_same] at h ⊢; exact h
    · rw [upd_ne hb] at h ⊢; exact rs.same _ _ h
  · by_cases ln : live m = true
    · obtain ⟨hj, g⟩ := gm j m h2 ln
      have c' := rs.cell j b m h1 g
      have hne : b ≠ a := fun z => hj (rs.inj j n a m _ (z ▸ h1) ha g hn ln rfl)
      exact c'.mono sm (List.prefix_refl _) (fun _ => by rw [upd_ne hne]; exact (live_cell ln c').1) fun _ _ h => by rw [upd_ne hne]; exact h
    · cases m <;> first | trivial | exact absurd rfl ln | skip
      have hj : j ≠ n := fun z => by subst z; rw [List.getElem?_set_self im] at h2; cases h2
      rw [List.getElem?_set_ne (Ne.symm hj)] at h2
      exact ExCell.mono (rs.cell j b _ h1 h2) sm (List.prefix_refl _)
  · obtain ⟨_, g3⟩ := gm j m h3 l1
    obtain ⟨_, g4⟩ := gm k m' h4 l2
    exact rs.inj j k b m m' h1 h2 g3 g4 l1 l2
  · by_cases hz : b = a
    · rw [hz, upd_same]; exact ⟨_, rfl⟩
    · rw [upd_ne hz]; exact rs.trk b hb
/-- the keys of the locked dict -/
theorem walk_keysD {a : Addr} {od : Obj} {kvs : List (Key × V)} {ks : List (Key × D)} (hp : P a = some (.frz od (.dK kvs))) {P0 : Hp} (rk : RepKs K P0 al ks kvs) : Walk K (Itk a od kvs) (ks.map fun p => kD p.1) P al := by
  intro B P2 al2 M2 H2 s p r0
  have h2 : H2 a = some (.frz od (.dK kvs)) := r0.same _ _ (s _ _ hp)
  have hl : ks.length = kvs.length := rk.len
  refine ⟨fun i d hd => ?_, ⟨h2, by rw [List.length_map]; omega⟩⟩
  have hi : i < ks.length := by have := (List.getElem?_eq_some_iff.mp hd).1; rwa [List.length_map] at this
  refine ⟨⟨h2, by omega⟩, fun x H3 ⟨eh, k, v, hk, ex⟩ => ⟨P2, ?_⟩⟩
  subst eh; subst ex
  have rr := kD_rep rk
  obtain ⟨y, hy, ry⟩ := rr.get hd
  rw [List.getElem?_map, hk] at hy
  have ey : y = kV k := by simpa using hy.symm
  rw [List.getElem?_map] at hd
  obtain ⟨q, hq, eq⟩ := Option.map_eq_some_iff.mp hd
  subst ey
  subst eq
  refine ⟨Ext.refl, r0, ?_⟩
  generalize q.1 = z at ry ⊢
  cases z with
  | inl i => cases k with
    | inl j => change Rep K P0 al (.int i) (.int j) at ry; cases ry; exact .int _
    | inr s => change Rep K P0 al (.int i) (.str s) at ry; cases ry
  | inr i => cases k with
    | inl j => change Rep K P0 al (.str i) (.int j) at ry; cases ry
    | inr s => change Rep K P0 al (.str i) (.str s) at ry; cases ry; exact .str _
end
section
variable {K : PySem.W.Frag} {B : Bs}
end
section
variable {X : Cx} {B : Bs} {e : Expr} {tg elt : Expr} {ifs : List Expr} {scope : Scope} {own : List (Str × Nat)} {g : TG} {is : List Nat} {t : WTs} {we : WE} {pos spos py : Pos} {i j : Nat} {y : Str}
end
end L3

namespace L3
open PySem PySem.Spec PyProof.Rows L2
/-! ### o.p, p a property of an own class -/
section
variable {X : Cx} {B : Bs} {CX : CXT} {k : Nat} {f g p C : Addr} {sp : DSp} {n : Str} {e o i value : Expr} {we wo wi wv : WE} {pos pos' : Pos} {RX : RXe}
/-! ### o[i] = v by an own __setitem__ -/
end
/-! ### x op= y by an own method for it, which may raise -/
section
variable {X : Cx} {B : Bs} {CX : CXT} {k : Nat} {f C : Addr} {sp : DSp} {n : Str} {e : Expr} {we : WE} {op : Operator} {pos pos' : Pos} {RX : RXe}
end
end L3

namespace L3
open PySem PySem.Spec PyProof.Rows L2
/-! ### C(..), the object stays in the table; dict(..) that will change; a default at the end of an __init__ -/
section
variable {X : Cx} {B : Bs} {CX : CXT} {k : Nat} {f C : Addr} {sp : DSp} {n x : Str} {p pos : Pos} {e : Expr} {es : List Expr} {was : WA} {RX : RXe}
end
section
variable {P : Program} {w : World} {K : PySem.W.Frag} {mg : Str → Option Value} {base : Heap} {CX : CXT} {k : Nat} {f : Addr} {sp : DSp}
end
section
variable {K : PySem.W.Frag} {B : Bs}
@[irreducible] def cDictLM : WCl := fun ds M R => match ds with
  | [x] => match lstD (viewD M x) with
    | some l => match kpD l with
      | some ks => R (.cel M.length) (M ++ [.dct (mergeD [] ks)])
      | none => False
    | none => False
  | _ => False
theorem cDictLM_ok : CallD K B (fun xs H Q => ∃ (a : Addr) (ps : List Addr) (kvs : List (Key × V)), xs = [.ref a] ∧ SqL K H a (ps.map V.ref) ∧ Paired (fun p kv => SqT K H p [kV kv.1, kv.2]) ps kvs ∧
    ∀ p, H p = none → Q (.ref p) (upd H p (.dK (mergeK [] kvs)))) cDictLM := by
  intro P al M env σ H vs ds R Q rs r h L
  unfold cDictLM at h
  split at h
  · cases r with
    | cons r1 t =>
      cases t
      split at h
      · rename_i l e1
        split at h
        · rename_i ks e2
          obtain ⟨a, xs, rfl, h1, q1⟩ := view_lstD rs.toRS0 r1 e1
          obtain ⟨ps, kvs, rfl, g2, g3⟩ := kp_rep (xs := []) q1 e2
          exact ⟨a, ps, kvs, rfl, h1, paired_imp (fun _ _ z => same_seqT rs.same z) g2, fun p hn => L.allocDM rs hn (RepKs.merge g3 .nil) h⟩
        · exact h.elim
      · exact h.elim
  · exact h.elim
theorem dictLM_use {l : List D} {ks : List (Key × D)} {x : D} {M : Mt} {R : D → Mt → Prop} (h : lstD (viewD M x) = some l) (h2 : kpD l = some ks) (k : R (.cel M.length) (M ++ [.dct (mergeD [] ks)])) : cDictLM [x] M R := by
  simp only [cDictLM, h, h2]; exact k
end
end L3

namespace L3
open PySem PySem.Spec PyProof.Rows L2
/-! ### x == y, y of another own class that does not derive from x's -/
section
variable {X : Cx} {B : Bs} {CX : CXT} {k : Nat} {f C C2 : Addr} {n n2 : Str} {sp : DSp}
end
end L3

namespace L3
open PySem PySem.Spec PyProof.Rows L2
/-! ### try: .. except C as e: y = e -/
section
variable {X : Cx} {pins : List (Addr × Obj)} {σ : L2.St} {H : Hp} {s : Shared} {a : Addr} {oe : Obj}
end
section
variable {X : Cx} {x n : Str} {c : Value} {i : Nat} {body suite : List Stmt} {b₀ : Stmt} {np pos pos' : Pos} {tb : WX → TS} {ts : Addr → Value → Option Addr → TS} {Wout : WX}
end
end L3

namespace L3
open PySem PySem.Spec PyProof.Rows L2
/-! ### an error that is kept as a cell -/
section
variable {K : PySem.W.Frag} {B : Bs} {P P' : Hp} {al al' : List Addr} {M M' : Mt} {env : Ev} {σ : L2.St} {H H' : Hp} {a : Addr} {oe : Obj} {l : List D}
end
section
variable {X : Cx} {B : Bs} {x n : Str} {Cc : Addr} {i j : Nat} {body suite : List Stmt} {b₀ : Stmt} {np pos pos' : Pos} {RX : RXe} {ok : List Str} {sub : Str → Bool} {wb : RXe → WS}
end
/-! ### e.f, isinstance(e, C) of such a cell -/
section
variable {X : Cx}
end
section
variable {X : Cx} {B : Bs} {K : PySem.W.Frag} {P : Hp} {al : List Addr} {M : Mt} {H : Hp} {i : Nat} {n : Str} {fs : List (Str × D)} {v : V}
/-- what the classes say -/
structure KitTab (K : PySem.W.Frag) (tb : List ((Str × Str) × Bool)) (tt : List ((Str × String) × Bool)) : Prop where
  cls : ∀ n c r, tb.lookup (n, c) = some r → ∃ C Cc, ClsAt K n C ∧ ClsAt K c Cc ∧ ErC K C ∧ PySem.W.kitOne K (.ref C) (.ref Cc) = some r
  tys : ∀ n c r, tt.lookup (n, c) = some r → ∃ C, ClsAt K n C ∧ ErC K C ∧ PySem.W.kitOne K (.ref C) (.type c) = some r
theorem KitTab.nil {K : PySem.W.Frag} : KitTab K [] [] := ⟨fun _ _ _ h => (by cases h), fun _ _ _ h => (by cases h)⟩
theorem KitTab.cons {n c : Str} {r : Bool} {C Cc : Addr} {tb : List ((Str × Str) × Bool)} {tt : List ((Str × String) × Bool)} (c1 : ClsAt K n C) (c2 : ClsAt K c Cc) (er : ErC K C) (kit : PySem.W.kitOne K (.ref C) (.ref Cc) = some r) (T : KitTab K tb tt) : KitTab K (((n, c), r) :: tb) tt := by
  refine ⟨fun n' c' r' h => ?_, T.tys⟩
  rw [List.lookup_cons] at h
  split at h
  · rename_i e
    have e := beq_iff_eq.mp e
    cases h; cases e
    exact ⟨C, Cc, c1, c2, er, kit⟩
  · exact T.cls _ _ _ h
end

/-- all of these are caught -/
inductive ExAll (K : PySem.W.Frag) (Cc : Addr) : List Str → Prop
  | nil : ExAll K Cc []
  | cons {m : Str} {C : Addr} {ok : List Str} : ClsAt K m C → PySem.W.exmOne K (.ref C) (.ref Cc) = some true → ExAll K Cc ok → ExAll K Cc (m :: ok)
theorem ExAll.look {K : PySem.W.Frag} {Cc : Addr} {ok : List Str} (t : ExAll K Cc ok) : ∀ n C, n ∈ ok → ClsAt K n C → PySem.W.exmOne K (.ref C) (.ref Cc) = some ((fun _ => true) n) := by
  induction t with
  | nil => intro n C h; cases h
  | @cons m Cm ok ca e t ih =>
    intro n C h hc
    rcases List.mem_cons.mp h with rfl | h
    · obtain rfl := ca.one hc
      exact e
    · exact ih n C h hc
/-- these have a field f -/
inductive XeTab (K : PySem.W.Frag) (f : Str) : List Str → Prop
  | nil : XeTab K f []
  | cons {m : Str} {C : Addr} {ok : List Str} : ClsAt K m C → XfC K C → PySem.W.findIn K (.ref C) f = some none → XeTab K f ok → XeTab K f (m :: ok)
theorem XeTab.look {K : PySem.W.Frag} {f : Str} {ok : List Str} (t : XeTab K f ok) : ∀ n C, n ∈ ok → ClsAt K n C → XfC K C ∧ PySem.W.findIn K (.ref C) f = some none := by
  induction t with
  | nil => intro n C h; cases h
  | @cons m Cm ok ca x e t ih =>
    intro n C h hc
    rcases List.mem_cons.mp h with rfl | h
    · obtain rfl := ca.one hc
      exact ⟨x, e⟩
    · exact ih n C h hc
end L3

namespace L3
open PySem PySem.Spec PyProof.Rows L2
/-! ### for over a list of the table that stays as it is meanwhile -/
def WalkQ (c : Mt → Prop) (K : PySem.W.Frag) (J : It) (ds : List D) (P : Hp) (al : List Addr) : Prop :=
  ∀ (B : Bs) (P2 : Hp) (al2 : List Addr) (M2 : Mt) (H2 : Hp), Same P P2 → al <+: al2 → RS0 K B P2 al2 M2 H2 → c M2 →
    (∀ (i : Nat) (d : D), ds[i]? = some d → J.go i H2 ∧ ∀ x H3, J.yld i H2 x H3 → ∃ P3, Ext P2 al2 H2 P3 al2 H3 ∧ RS0 K B P3 al2 M2 H3 ∧ Rep K P3 al2 d x) ∧ J.stop ds.length H2
theorem Walk.c {K : PySem.W.Frag} {J : It} {ds : List D} {P : Hp} {al : List Addr} (h : Walk K J ds P al) (c : Mt → Prop) : WalkQ c K J ds P al := fun B P2 al2 M2 H2 s p r _ => h B P2 al2 M2 H2 s p r
section
variable {X : Cx} {B : Bs} {e tg : Expr} {pos : Pos}
end
section
variable {K : PySem.W.Frag} {a : Addr} {ds : List D} {P : Hp} {al : List Addr} {i : Nat}
end
end L3

namespace L3
open PySem PySem.Spec PyProof.Rows L2
/-! ### C(e, .., k = v, ..): arguments one by one, some by name -/
section
variable {X : Cx} {B : Bs} {CX : CXT} {k np : Nat} {f C : Addr} {sp : DSp} {n x : Str} {p kpos pos : Pos} {e : Expr} {es : List Expr} {was wks : WA} {RX : RXe} {kws : List Keyword} {names : List Str}
end
/-! ### x + y of lists: a new list that will change -/
section
variable {K : PySem.W.Frag} {B : Bs}
end
/-- all arguments are there -/
theorem fnR_nil {P : Program} {w : World} {K : PySem.W.Frag} {mg : Str → Option Value} {base : Heap} {CX : CXT} {k : Nat} {f : Addr} {sp : Sp} (F : FnR P w K mg base CX k f sp) : FnR P w K mg base CX k f (fun vs H Q E => sp (vs ++ []) H Q E) := by
  have e : (fun (vs : List V) (H : Hp) (Q : VK) (E : XK) => sp (vs ++ []) H Q E) = sp := by
    funext vs H Q E; rw [List.append_nil]
  rw [e]; exact F
/-! ### a, b, .. = a list -/
def gTL (n : Nat) (g : WGs) : WG := fun d env M R => match d with
  | .lst ds => Need (ds.length = n) ∧ g ds env M R
  | _ => False
theorem dg_lst {X : Cx} {B : Bs} {es : List Expr} {pos : Pos} {k : Nat} {g : WGs} {n : Nat} (hc : X.calm = true) (h : DGs B X es g) (hn : (assignEach es X.env).length = n := by rfl) (hst : (assignEach es X.env).findIdx? (·.1) = none := by rfl) : DG B X (.Tuple es k pos) (gTL n g) := by
  refine (pg_lst hc h hn hst).imp fun v σ H Q => ?_
  rintro ⟨P, al, M, env, d, R, rs, r, hw, L⟩
  unfold gTL at hw
  split at hw
  · cases r with
    | lst h1 h2 => exact ⟨_, _, rfl, SqL.of (rs.same _ _ h1), by rw [← h2.length]; exact hw.1.out, P, al, M, env, _, R, rs, h2, hw.2, L⟩
  · exact hw.elim
end L3

namespace L3
open PySem PySem.Spec PyProof.Rows L2 HotX
/-! ### raise C(..) from e, in the except suite that names e -/
section
variable {X : Cx} {pins : List (Addr × Obj)} {σ : L2.St} {H : Hp} {s : Shared}
end
section
variable {X : Cx} {x n : Str} {c : Value} {i : Nat} {body suite : List Stmt} {b₀ : Stmt} {np pos pos' : Pos} {tb : WX → TS} {ts : Addr → Obj → Value → Option Addr → TS} {Wout : WX}
end
end L3

namespace L3
open PySem PySem.Spec PyProof.Rows L2 HotX
/-! ### exceptions without a context, in the D-layer -/
section
variable {X : Cx} {B : Bs} {RX : RXe}
end
section
variable {P : Program} {w : World} {K : PySem.W.Frag} {mg : Str → Option Value} {base : Heap}
end
/-! ### raising where what is raised has no context -/
section
variable {X : Cx} {B : Bs} {C fI : Addr} {k : Nat} {fd : FuncData} {n x : Str} {p pos pos2 : Pos} {e : Expr} {es : List Expr} {was : WA} {ps ns : List Str} {RX : RXe} {ta : TA} {CX : CXT} {sp : Sp} {ds : List Value} {dvs : List V}
end
/-! ### own errors' __init__ while an exception is handled -/
section
variable {P : Program} {w : World} {K : PySem.W.Frag} {mg : Str → Option Value} {base : Heap} {C : Addr}
end
/-! ### try: .. except C as n: raise R(..) from n -/
section
variable {X : Cx} {B : Bs} {x y n n2 : Str} {Cc C2 fI : Addr} {i k : Nat} {body : List Stmt} {np npos pos pos' p rpos rpos2 : Pos} {e : Expr} {es : List Expr} {RX : RXe} {ok ps ns : List Str} {sub : Str → Bool} {wb : RXe → WS} {was : WA} {fd : FuncData}
end
/-- these are exceptions that may be raised -/
inductive RaTab (K : PySem.W.Frag) : List Str → Prop
  | nil : RaTab K []
  | cons {m : Str} {C : Addr} {ok : List Str} : ClsAt K m C → OexC K C → RaTab K ok → RaTab K (m :: ok)
theorem RaTab.look {X : Cx} {ok : List Str} (t : RaTab X.K ok) : ∀ n C, n ∈ ok → ClsAt X.K n C → Raises X (.ref C) := by
  induction t with
  | nil => intro n C h; cases h
  | @cons m Cm ok ca x t ih =>
    intro n C h hc
    rcases List.mem_cons.mp h with rfl | h
    · obtain rfl := ca.one hc
      exact raises_own x.exC x.tyC
    · exact ih n C h hc
end L3

namespace L3
open PySem PySem.Spec PyProof.Rows L2
/-! ### a dict that no longer changes, locked for good ahead of a statement; a loop over its keys -/
section
variable {X : Cx} {B : Bs} {st : Stmt} {w : WS} {i : Nat} {t : TS}
theorem ps_lockP (h : PS X st t) : PS X st (fun D σ H => ∃ d u, H d = some u ∧ Mut (some u) ∧ ∀ od, t D σ (upd H d (.frz od u))) := by
  refine ⟨fun pins s σ H D I q => ?_⟩
  obtain ⟨d, u, hd, mu, q⟩ := q
  obtain ⟨od, I2⟩ := I.lock hd mu
  exact h.run pins s σ _ D I2 (q od)
def wLkD (i : Nat) (w : WS) : WS := fun k env M => match env[i]? with
  | some (some (.cel n)) => match M[n]? with
    | some (.dct ks) => w k (env.map (unCel (.cel n) (.fdc ks))) (M.set n .non)
    | _ => False
  | _ => False
theorem lk_env {K : PySem.W.Frag} {B : Bs} {P : Hp} {al : List Addr} {M : Mt} {env : Ev} {σ : L2.St} {H : Hp} {n : Nat} {a : Addr} {d' : D} (rs : RS K B P al M env σ H) (ha : al[n]? = some a) (rd : Rep K P al d' (.ref a)) :
    RS K B P al M (env.map (unCel (.cel n) d')) σ H := by
  refine ⟨rs.toRS0, by rw [List.length_map]; exact rs.slen, fun j z hz => ?_⟩
  rw [List.getElem?_map] at hz
  cases ho : env[j]? with
  | none => rw [ho] at hz; cases hz
  | some o =>
    rw [ho] at hz
    cases o with
    | none => cases hz
    | some y =>
      obtain ⟨v2, hv2, r2⟩ := rs.slot j y ho
      refine ⟨v2, hv2, ?_⟩
      by_cases hy : y = .cel n
      · subst hy
        have : z = d' := by
          have hz' : some (if n = n then some d' else some (D.cel n)) = some (some z) := hz
          rw [if_pos rfl] at hz'
          cases hz'; rfl
        subst this
        cases r2 with
        | cel e => rw [ha] at e; cases e; exact rd
      · have : z = y := by
          cases y <;> first
            | (cases hz; rfl)
            | (rename_i m
               have hz' : some (if m = n then some d' else some (D.cel m)) = some (some z) := hz
               rw [if_neg (fun e => hy (by rw [e]))] at hz'
               cases hz'; rfl)
        rw [this]; exact r2
theorem d_lkD (h : DS B X st w) : DS B X st (wLkD i w) := by
  refine (ps_lockP h).imp fun D σ H => ?_
  rintro ⟨P, al, M, env, k, rs, hw, L⟩
  unfold wLkD at hw
  split at hw
  · rename_i n hj
    split at hw
    · rename_i ks hm
      obtain ⟨v0, hv0, rv0⟩ := rs.slot _ _ hj
      obtain ⟨a, rfl, ha, hpa, kvs, hka, rk⟩ := cell_at rs.toRS0 hm rv0
      refine ⟨a, .dK kvs, hka, trivial, fun od => ?_⟩
      obtain ⟨el, rl⟩ := rs.toRS0.lock (od := od) hm ha hpa hka
      have rsl := rs.step el rl
      exact ⟨_, al, M.set n .non, _, k, lk_env rsl ha (.fdc upd_same (rk.mono el.pp el.pre)), hw, L.after el⟩
    · exact hw.elim
  · exact hw.elim
/-- for .. in a dict that is locked for good -/
def wItF (we : WE) : WI := fun env M RR => we env M fun d M1 => match d with
  | .fdc ks => RR (ks.map fun p => kD p.1) M1
  | _ => False
end
section
variable {X : Cx} {B : Bs} {tg e : Expr} {we : WE}
theorem di_fdc (h : DE B X e we) : DI B X tg e (wItF we) := by
  refine (pi_keys h).imp fun σ H R => ?_
  rintro ⟨P, al, M, env, RR, rs, hw, L⟩
  refine ⟨P, al, M, env, _, rs, hw, fun d M1 v H1 P1 al1 e1 rs1 r1 q => ?_⟩
  split at q
  · rename_i ks
    cases r1 with
    | fdc q1 rk =>
      rename_i a od kvs
      refine ⟨a, od, rfl, .inl ⟨kvs, rs1.toRS0.same _ _ q1, ?_⟩⟩
      exact L _ _ _ _ _ _ e1 rs1 (walk_keysD q1 rk) q
  · exact q.elim
end
end L3

namespace L3
open PySem PySem.Spec PyProof.Rows L2
/-! ### isinstance(x, T) with a built-in T, x perhaps of an own class -/
inductive TabT (K : PySem.W.Frag) (T : String) : List (Str × Bool) → Prop
  | nil : TabT K T []
  | cons {n : Str} {r : Bool} {C : Addr} {tb : List (Str × Bool)} : ClsAt K n C → InsF K C → PySem.W.kitOne K (.ref C) (.type T) = some r → TabT K T tb → TabT K T ((n, r) :: tb)
theorem TabT.look {K : PySem.W.Frag} {T : String} {tb : List (Str × Bool)} (t : TabT K T tb) : ∀ n r C, tb.lookup n = some r → ClsAt K n C → InsF K C ∧ PySem.W.kitOne K (.ref C) (.type T) = some r := by
  induction t with
  | nil => intro n r C h; cases h
  | @cons n' r' C' tb ca i k t ih =>
    intro n r C h hc
    rw [List.lookup_cons] at h
    split at h
    · rename_i e
      obtain rfl : n = n' := by simpa using e
      cases h
      obtain rfl := ca.one hc
      exact ⟨i, k⟩
    · exact ih n r C h hc
/-! ### not x, x of an own class with a __bool__ -/
section
variable {X : Cx} {B : Bs} {k : Nat} {f C : Addr} {n : Str} {sp : DSp} {CX : CXT} {pos : Pos} {e : Expr} {we : WE}
end
end L3


namespace L3
open PySem PySem.Spec PyProof.Rows L2 Builtin
/-! ### a constant of a class, read off an instance -/
/-! ### C(*y), cls(*y) -/
section
variable {X : Cx} {B : Bs} {CX : CXT} {k i : Nat} {f C : Addr} {n : Str} {sp : DSp} {e : Expr} {we : WE} {RX : RXe} {p p2 pos : Pos}
end
end L3


namespace L3
open PySem PySem.Spec PyProof.Rows L2 Builtin
/-! ### d.values(), d a dict that is locked for good: in a loop, in list(..) -/
section
variable {X : Cx} {B : Bs} {tg e : Expr} {we : WE} {te : TE} {p apos cpos pos : Pos}
end
end L3


/-! ### == of two lists of instances with an own __eq__ -/
namespace GB
open PySem PySem.SeqAt GQ
open AutoSeq1 (wpAny_loadPart')
open MeetsSeq MeetsSeq2 MeetsSeq3 SeqRoads2
section
variable {prog : Program} {w : World} {A : Around} {R : Result → Shared → Prop}
end
section
variable {prog : Program} {w : World} {A : Around} {E : Value → Shared → Prop} {s : Shared}
end
end GB
namespace L3
open PySem PySem.Spec PyProof.Rows L2 Builtin
section
variable {X : Cx} {B : Bs} {CX : CXT} {k : Nat} {f C : Addr} {n : Str} {sp : DSp}
end
end L3

namespace L3
open PySem PySem.Spec PyProof.Rows L2
/-! ### in, of a dict, as a test -/
section
variable {X : Cx} {B : Bs} {i o : Expr} {wi wo : WE} {pos : Pos}
theorem d_dnotinT (hu : X.A.units + 1 < cLine) (hi : DE B X i wi) (ho : DE B X o wo) (hm : behindInMarks .NotIn o = false := by rfl) : DT B X (.Compare i [.NotIn] [o] pos) (wTest (wOp (oDIn true) wi wo)) :=
  (pt_cmp (dc_notin hu hi ho) hm).imp fun σ H Q h => test_imp (fun _ _ _ z => z) σ H Q h
end
end L3

namespace L3
open PySem PySem.Spec PyProof.Rows L2
/-! ### the head's facts, looked at behind one run of the top -/
abbrev FrB := PySem.W.Frag → Bool
def xRef : Option (Option Value) → Addr
  | some (some (.ref a)) => a
  | _ => 0
def xTok : Option (Option Value) → Tok
  | some (some (.int _ t)) => t
  | some (some (.str _ t)) => t
  | _ => 0
def xCg : Option PySem.W.CFound → Addr
  | some (.get _ (.ref a) _ _) => a
  | _ => 0
def xRecA : Option (List Value) → Addr
  | some (.ref a :: _) => a
  | _ => 0
def xRecR : Option (List Value) → List Value
  | some (_ :: l) => l
  | _ => []
def xVT : Value → Tok
  | .int _ t => t
  | .str _ t => t
  | _ => 0
/-- what is found is the maker's, out of the place a -/
def cgB (r : Option PySem.W.CFound) (b : String) (C : Addr) : Bool := match r with
  | some (.get (.builtin b') (.ref _) .none (.ref C')) => decide (b' = b) && decide (C' = C)
  | _ => false
theorem cgB_ok {r : Option PySem.W.CFound} {b : String} {C : Addr} (h : cgB r b C = true) : r = some (.get (.builtin b) (.ref (xCg r)) .none (.ref C)) := by
  unfold cgB at h
  split at h
  · rw [Bool.and_eq_true] at h
    have h1 := of_decide_eq_true h.1
    have h2 := of_decide_eq_true h.2
    subst h1 h2; rfl
  · cases h
/-! functions -/
abbrev FV : Type := Option (Str × Str × Arguments × FuncBody × Scope × Addr × List (Str × Addr) × Addr)
def fnV (K : PySem.W.Frag) (f : Addr) : FV := match K.lookup f with
  | some ⟨_, _, .func fd, _⟩ => some (fd.name, fd.qualname, fd.params, fd.body, fd.scope, fd.globals, fd.closure.map fun c => (c.1, 0), fd.builtins)
  | _ => none
def dfV (K : PySem.W.Frag) (f : Addr) : Value := match K.lookup f with
  | some ⟨_, _, .func fd, _⟩ => fd.defaults
  | _ => .none
def cdV (K : PySem.W.Frag) (f : Addr) : Value := match K.lookup f with
  | some ⟨_, _, .func fd, _⟩ => fd.code
  | _ => .none
def fnW (n q : Str) (a : Arguments) (b : List Stmt) (s : Scope) : FV := some (n, q, a, .stmts b, s, mainGlobals, [], builtinsNs)
theorem fn_look {K : PySem.W.Frag} {f : Addr} {n q : Str} {a : Arguments} {b : List Stmt} {s : Scope} {v : Value} (h : fnV K f = fnW n q a b s) (hd : dfV K f = v) :
    ∃ oc od sl kV dc pm an ct, K.lookup f = some ⟨oc, od, .func (PySem.W.fnOf n q a b s v kV dc pm an (cdV K f) ct), sl⟩ := by
  unfold fnV at h
  split at h
  · rename_i oc od fd sl e
    unfold dfV at hd
    unfold cdV
    rw [e] at hd ⊢
    obtain ⟨n1, n2, n3, n4, n5, n6, n7, n8, n9, n10, n11, n12, n13, n14, n15⟩ := fd
    simp only [fnW, Option.some.injEq, Prod.mk.injEq] at h
    obtain ⟨h1, h2, h3, h4, h5, h6, h7, h8⟩ := h
    have h7 : n7 = [] := List.map_eq_nil_iff.mp h7
    subst h1 h2 h3 h4 h5 h6 h7 h8
    have hd : n8 = v := hd
    subst hd
    exact ⟨oc, od, sl, n9, n10, n11, n12, n14, rfl⟩
  · cases h
/-! rows -/
def sqV (K : PySem.W.Frag) (a : Addr) : Option (List Value) := match K.lookup a with
  | some ⟨.type t, _, .seq its _, _⟩ => (match decide (t = "tuple") with
    | true => some its.toList
    | false => none)
  | _ => none
def xIt (K : PySem.W.Frag) (a : Addr) (i : Nat) : Value := match sqV K a with
  | some l => l.getD i .none
  | none => .none
theorem sq_look {K : PySem.W.Frag} {a : Addr} {l : List Value} (h : sqV K a = some l) : ∃ od n sl, K.lookup a = some ⟨.type "tuple", od, .seq l.toArray n, sl⟩ := by
  unfold sqV at h
  split at h
  · rename_i t od its n sl e
    cases ht : decide (t = "tuple") with
    | false => rw [ht] at h; cases h
    | true =>
      rw [ht] at h
      have h1 := of_decide_eq_true ht
      subst h1
      have h2 : its.toList = l := Option.some.inj h
      subst h2
      exact ⟨od, n, sl, e⟩
  · cases h
/-! errors' classes -/
/-! the part of the heap that is looked at -/
def frNat {β : Type} (n : Nat) (k : Nat → β) : β := match n with
  | 0 => k 0
  | m + 1 => k (m + 1)
theorem frNat_eq {β : Type} (n : Nat) (k : Nat → β) : frNat n k = k n := by cases n <;> rfl
def frK {β : Type} (g : Addr → Option Obj) : Nat → Nat → (PySem.W.Frag → β) → β
  | 0, _, k => k []
  | m + 1, a, k => match g a with
    | none => frNat (a + 1) fun b => frK g m b k
    | some o => frNat (a + 1) fun b => frK g m b fun r => k ((a, o) :: r)
theorem frK_eq {β : Type} (g : Addr → Option Obj) : ∀ (m a : Nat) (k : PySem.W.Frag → β), frK g m a k = k (He.frG g (List.range' a m))
  | 0, a, k => rfl
  | m + 1, a, k => by
    unfold frK
    rw [List.range'_succ]
    unfold He.frG
    cases h : g a with
    | none =>
      rw [List.filterMap_cons, h]
      show (frNat (a + 1) fun b => frK g m b k) = _
      rw [frNat_eq, frK_eq g m (a + 1) k]; rfl
    | some o =>
      rw [List.filterMap_cons, h]
      show (frNat (a + 1) fun b => frK g m b fun r => k ((a, o) :: r)) = _
      rw [frNat_eq, frK_eq g m (a + 1)]; rfl
abbrev AlH : Type := Bool × List FV
def lookB (fl : List (List FrB)) (fn : List (PySem.W.Frag → Addr)) (K : PySem.W.Frag) : AlH := (fl.all fun l => l.all fun f => f K, fn.map fun f => fnV K (f K))
def obsB (lo : Nat) (fl : List (List FrB)) (fn : List (PySem.W.Frag → Addr)) (n : Nat) (g : Addr → Option Obj) : AlH := match g mainGlobals with
  | none => (false, [])
  | some o => frK g (n - lo) lo fun r => lookB fl fn ((mainGlobals, o) :: r)
def hookB (lo : Nat) (fl : List (List FrB)) (fn : List (PySem.W.Frag → Addr)) (vs : List FV) : PySem.W.Hook where
  α := AlH
  obs := fun s => obsB lo fl fn s.heap.objs.size s.heap.get?
  val := fun _ => (true, vs)
  says := fun _ h => ∃ K : PySem.W.Frag, K.In h ∧ lookB fl fn K = (true, vs)
  of := fun w s e => by
    unfold obsB at e
    cases h : s.heap.get? mainGlobals with
    | none => rw [h] at e; cases (Prod.mk.inj e).1
    | some o =>
      rw [h] at e
      have e : (frK s.heap.get? (s.heap.objs.size - lo) lo fun r => lookB fl fn ((mainGlobals, o) :: r)) = (true, vs) := e
      rw [frK_eq] at e
      refine ⟨_, ?_, e⟩
      have : ((mainGlobals, o) :: He.frG s.heap.get? (List.range' lo (s.heap.objs.size - lo))) = He.frG s.heap.get? (mainGlobals :: List.range' lo (s.heap.objs.size - lo)) := by
        unfold He.frG
        rw [List.filterMap_cons, h]; rfl
      rw [this]
      exact He.frG_in
  keeps := fun _ _ _ ⟨K, hK, c⟩ k => ⟨K, PySem.W.Frag.In.keeps hK k, c⟩
def obT (lo : Nat) (fl : List (List FrB)) (fn : List (PySem.W.Frag → Addr)) (s : PySem.W.SharedT) : AlH := obsB lo fl fn s.n (HandSHeadRun.getT s)
theorem obT_eq (lo : Nat) (fl : List (List FrB)) (fn : List (PySem.W.Frag → Addr)) (vs : List FV) (s : PySem.W.SharedT) : obT lo fl fn s = (hookB lo fl fn vs).obs s.abs := by
  have e : HandSHeadRun.getT s = s.abs.heap.get? := funext fun a => HandSHeadRun.getT_eq s a
  have e2 : s.abs.heap.objs.size = s.n := PySem.W.absHeap_size s.tree s.n s.life
  show obsB lo fl fn s.n (HandSHeadRun.getT s) = obsB lo fl fn s.abs.heap.objs.size s.abs.heap.get?
  rw [e, e2]
theorem look_f {fl : List (List FrB)} {fn : List (PySem.W.Frag → Addr)} {vs : List FV} {K : PySem.W.Frag} (c : lookB fl fn K = (true, vs)) (i j : Nat) {l : List FrB} {f : FrB} (h : fl[i]? = some l) (h2 : l[j]? = some f) : f K = true := by
  have c1 : (fl.all fun l => l.all fun f => f K) = true := congrArg Prod.fst c
  exact List.all_eq_true.mp (List.all_eq_true.mp c1 l (List.mem_of_getElem? h)) f (List.mem_of_getElem? h2)
theorem look_v {fl : List (List FrB)} {fn : List (PySem.W.Frag → Addr)} {vs : List FV} {K : PySem.W.Frag} (c : lookB fl fn K = (true, vs)) (i : Nat) {f : PySem.W.Frag → Addr} {v : FV} (h : fn[i]? = some f) (h2 : vs[i]? = some v) : fnV K (f K) = v := by
  have e : (fn.map fun f => fnV K (f K)) = vs := congrArg Prod.snd c
  have e2 : (fn.map fun f => fnV K (f K))[i]? = vs[i]? := by rw [e]
  rw [List.getElem?_map, h, h2] at e2
  exact Option.some.inj e2
/-- what the law's row wants, of the law's promise, over a part of the heap that the head tells -/
theorem walk_ofH {l : PySem.W.OpenLaw} {n k : Nat} {q : Program} {loose : List Str} {XP : (Str → Option Value) → Heap → Prop} {YP : World → Heap → Prop} {d : DefRec} {CX : World → CXT} {sp : PySem.W.Frag → Sp} {x : Str}
    (most : l.most = some n) (few : n ≤ sizeLine) (plain : d.params.defaults = []) (room : Room k callerA)
    (F : ∀ (w : World) (mg : Str → Option Value) (fa : Addr) (h : Heap), YP w h → h.Ns mainGlobals mg → mg d.name = some (.ref fa) →
      ∃ K : PySem.W.Frag, K.In h ∧ ∃ fd : FuncData, (∀ (s : Shared) (u : Value), BindsTo s fd ⟨[u], []⟩ [(x, u)]) ∧ ∀ base : Heap, K.In base → base.Ns mainGlobals mg → FnG l.prog w K mg base (CX w) k fa fd [x] (sp K))
    (asked : ∀ (K : PySem.W.Frag) (H : Hp) (a : Addr) (ns : List Int), ns.length ≤ n → Only H → SqL K H a (ns.map V.int) → sp K [.ref a] H (fun v _ => v = .bl true) fun _ _ _ => False)
    (clean : ∀ (w : World) (H : Hp) (s : Shared) (e : Value) (s' : Shared), CX w [] H s (fun _ _ _ => False) e s' → False) : PySem.W.WalkO q loose XP YP l.row.toRowW d [] (fun f vs => PySem.call f vs) := by
  apply Att.attach_call most plain
  intro w s0 s1 mg mb fa o pm cd doc a vs ns G Y there is_fn code name script whole short bare
  obtain ⟨K, kin, fd, binds, promise⟩ := F w mg fa _ Y G.T.g name
  exact lawG_call kin G.T.g G.T.b G.T.builtins G.T.nolimit bare script whole (Nat.le_trans short few) room promise binds (fun H o q => asked K H a ns short o q) fun H e s' => clean w H s1 e s'
end L3

/-! ### sorted(set(xs)), xs a tuple of texts -/
namespace L3
open PySem PySem.Spec PyProof.Rows L2 PySem.SeqAt
def txt (e : Int × Value) : Str := match e.2 with
  | .str x _ => x
  | _ => default
def TxtE (w : World) (e : Int × Value) : Prop := ∃ x u, e.2 = Value.str x u ∧ e.1 = hashStr w x
/-- what the set at a holds: the texts ys -/
def SetX (w : World) (h : Heap) (a : Addr) (ys : List Str) : Prop :=
  ∃ o rows ep tb, h.get? a = some o ∧ o.ExactSet ∧ o.data = .set rows ep tb ∧ ((∀ e ∈ rows.toList, TxtE w e) ∧ (rows.toList.map txt).Nodup ∧ (∀ y, y ∈ ys ↔ y ∈ rows.toList.map txt)) ∧
    (rows.size ≤ ys.length ∧ rows.size < scanBound) ∧ tb.fits rows.size = true ∧ Ris tb.place.toList ∧ (w.params.followText "set-order" = true ∨ tb.led = true)
section
variable {prog : Program} {w : World} {A : Around} {E : Value → Shared → Prop} {s : Shared} {a : Addr} {ys : List Str}
theorem SetX.far {h h' : Heap} (q : SetX w h a ys) (k : ∀ o, h.get? a = some o → h'.get? a = some o) : SetX w h' a ys := by
  obtain ⟨o, rows, ep, tb, ho, r⟩ := q
  exact ⟨o, rows, ep, tb, k o ho, r⟩
end
end L3

namespace L3
open PySem PySem.Spec PyProof.Rows L2 PySem.SeqAt
section
variable {prog : Program} {w : World} {A : Around} {E : Value → Shared → Prop} {s : Shared}
end
section
variable {X : Cx} {B : Bs} {a : Expr} {wa : WE} {p p2 q pos : Pos}
end
end L3

namespace L3
open PySem PySem.Spec PyProof.Rows L2
/-! ### for k, v in d.items(), d a dict that is locked for good -/
section
variable {X : Cx} {B : Bs} {e : Expr} {we : WE} {elts : List Expr} {kk : Nat} {apos cpos tpos : Pos}
end
end L3

/-! ### tuple(d) of a dict: its keys -/
namespace L3
open PySem PySem.Spec PyProof.Rows L2
section
variable {prog : Program} {w : World} {A : Around} {E : Value → Shared → Prop} {s : Shared} {d : Addr} {N : Nat} {P : Nat → Value → Prop} {At : Heap → Prop}
theorem code_tuple_new_dict {Q₁ : Value → Shared → Prop} (src : PySem.W.KdlSrc prog w "dict" d d N P At) (hh : A.handled = none) (hat : At s.heap) (hlen : N ≤ sizeLine) (hTI : s.TypeIs (.ref d) "dict")
    (h : ∀ (h' : Heap) (tk : Nat) (acc : Array Value), (∀ b o, s.heap.get? b = some o → h'.get? b = some o) → ItemsOf P acc N →
      Q₁ (.ref h'.objs.size) { s with heap := h'.push { cls := .type "tuple", data := .seq acc }, toks := tk }) :
    codeAny (model prog w) A (.call (.builtin "tuple.__new__") ⟨[.type "tuple", .ref d], []⟩) (wants Q₁ E) s := by
  refine codeAny_of_tree ?_
  show wpAny _ A.in1 (do checkBuiltinCall "tuple.__new__" ⟨[.type "tuple", .ref d], []⟩; again (.builtin "tuple.__new__" ⟨[.type "tuple", .ref d], []⟩)) _ _ s
  refine wpAny_bind (wpAny_of_eq (F.newCall_tuple_1 _) (wpAny_pure ⟨plainId_quiet F.plain_tuple_new _, codeAny_builtin F.entry_tuple_new ?_⟩))
  rw [Around.under_plainId F.plain_tuple_new _]
  have hsub := sub_tuple_self
  have hinit := init_tuple_lookup
  have hmh := madeHere_tuple
  have hh1 : A.in1.handled = none := hh
  wp_walk using wpAny_typeOf hTI, PySem.W.kdu_collect (A := A.in1) src hh1 hat hlen
  intro h' tk acc hk hacc
  show wpAny _ _ (Builtin.Tuple.tupleExact acc.toList.toArray >>= fun v => ret v) _ _ _
  unfold Builtin.Tuple.tupleExact
  refine wpAny_bind (wpAny_newObj_type ?_ (by show acc.toList.toArray.size ≤ sizeLine; simp only [Array.toArray_toList]; rw [hacc.1]; exact hlen))
  refine wpAny_pure ?_
  have e : acc.toList.toArray = acc := by simp
  rw [e]
  exact h h' tk acc hk hacc
theorem call_tuple_dict {Q : Value → Shared → Prop} (src : PySem.W.KdlSrc prog w "dict" d d N P At) (hh : A.handled = none) (hat : At s.heap) (hlen : N ≤ sizeLine) (hTI : s.TypeIs (.ref d) "dict")
    (hQ : ∀ (h' : Heap) (tk : Nat) (acc : Array Value), (∀ b o, s.heap.get? b = some o → h'.get? b = some o) → ItemsOf P acc N →
      Q (.ref h'.objs.size) { s with heap := h'.push { cls := .type "tuple", data := .seq acc }, toks := tk }) :
    wpAny (model prog w) A (call (.type "tuple") [.ref d]) Q E s := by
  refine callType_codes (Q₁ := fun obj s₁ => s₁.TypeIs obj "tuple" ∧ Q obj s₁) F.called_tuple (F.typeCall_tuple_1 _) F.entry_object_init
    (code_tuple_new_dict (A := A.in1) src hh hat hlen hTI fun h' tk acc hk hacc => ⟨⟨_, Heap.get?_push_size _ rfl, rfl⟩, hQ h' tk acc hk hacc⟩) fun obj s₁ h₁ => ?_
  exact ⟨h₁.1, F.args_object_init_2 obj _, object_init_meets F.called_tuple.init.lookup F.called_tuple.made (by decide) prog w A.in1 _ s₁ ⟨h₁.1, rfl, h₁.2⟩⟩
end
section
variable {X : Cx}
def rTupD : List V → Hp → VK → Prop := fun xs H Q => ∃ (a : Addr) (kvs : List (Key × V)), xs = [.ref a] ∧ Rd H a (.dK kvs) ∧ ∀ p : Addr, H p = none → Q (.ref p) (upd H p (.tup (kvs.map fun kv => kV kv.1)))
theorem call_tupleD (hcalm : X.calm = true) : CallR X (.type "tuple") rTupD := by
  intro pins s σ H xs us Q I r q
  obtain ⟨a, kvs, ex, hd, q⟩ := q
  subst ex
  obtain ⟨u, eu, rx⟩ := vals1 r
  subst eu
  cases rx
  obtain ⟨z, lo, vs, rel, dd⟩ := dk_rd I.hok hd
  obtain ⟨ep, hat⟩ := dd.dictAt
  have ek : (kvs.map fun kv => kV kv.1) = vs.map fun p => kV p.1 := by
    have e := congrArg (List.map kV) rel.keys
    rw [List.map_map, List.map_map] at e
    exact e
  have hlen : vs.length ≤ sizeLine := by rw [← rel.length]; exact z
  have src := PySem.W.kdl_dict (prog := X.prog) (w := X.w) (knd := mixKind X.prog X.w) (kvs := vs) (ep := ep) lo
  refine call_tuple_dict src (I.ok.hd hcalm) hat hlen (src.type s hat) fun h' tk acc hk hacc => ?_
  have hv : Vals (kvs.map fun kv => kV kv.1) acc.toList := by
    rw [ek]
    exact keys_at (by rw [Array.length_toList]; exact hacc.1) fun j v e => hacc.2 j v (by rw [← Array.getElem?_toList]; exact e)
  have hz : (kvs.map fun kv => kV kv.1).length ≤ sizeLine := by rw [List.length_map]; exact z
  have I1 : L2.Inv X pins σ H { s with heap := h', toks := tk } := I.kept hk
  have I2 : L2.Inv X pins σ (upd H h'.objs.size (.tup (kvs.map fun kv => kV kv.1))) { s with heap := h'.push { cls := .type "tuple", data := .seq acc }, toks := tk } :=
    I1.laid (t' := tk) (fun b o e => Heap.get?_push_of_some _ e) (Nat.le_refl _) (show ObjOk X.prog X.w _ _ _ (.tup _) from ⟨hz, acc.toList, hv, by rw [Array.toArray_toList]; exact IsTup.new _ _⟩)
  exact ⟨.ref h'.objs.size, _, I2, rfl, q _ (I1.hok.fresh (Nat.le_refl _))⟩
end
section
variable {K : PySem.W.Frag} {B : Bs}
theorem keys_reps {P : Hp} {al : List Addr} : ∀ {ks : List (Key × D)} {kvs : List (Key × V)}, RepKs K P al ks kvs → Reps K P al (ks.map fun p => kD p.1) (kvs.map fun p => kV p.1)
  | _, _, .nil => .nil
  | (k, _) :: _, _, .cons _ t => .cons (by
      cases k with
      | inl j => exact .int _
      | inr t => exact .str _) (keys_reps t)
/-- tuple(d): its keys -/
@[irreducible] def cTupD : WCl := fun ds M R => match ds with
  | [x] => match viewD M x with
    | .fdc l => R (.tup (l.map fun p => kD p.1)) M
    | .dct l => R (.tup (l.map fun p => kD p.1)) M
    | _ => False
  | _ => False
theorem cTupD_ok : CallD K B rTupD cTupD := by
  intro P al M env σ H vs ds R Q rs r h L
  unfold cTupD at h
  split at h
  · cases r with
    | cons r1 t =>
      cases t
      split at h
      · rename_i l e1
        obtain ⟨a, xs, rfl, h1, q1⟩ := view_dk rs.toRS0 r1 (.inr e1)
        exact ⟨a, xs, rfl, h1, fun p hn => L.alloc rs hn (.tup (.inl (.inl upd_same)) ((keys_reps q1).mono (fun b x e => by rw [upd_ne (ne_of_none e (rs.toRS0.free hn))]; exact e) (List.prefix_refl _))) h⟩
      · rename_i l e1
        obtain ⟨a, xs, rfl, h1, q1⟩ := view_dk rs.toRS0 r1 (.inl e1)
        exact ⟨a, xs, rfl, h1, fun p hn => L.alloc rs hn (.tup (.inl (.inl upd_same)) ((keys_reps q1).mono (fun b x e => by rw [upd_ne (ne_of_none e (rs.toRS0.free hn))]; exact e) (List.prefix_refl _))) h⟩
      · exact h.elim
  · exact h.elim
end
/-! ### raise C(), an own error without an __init__ -/
section
variable {X : Cx} {C : Addr} {bmB : List Value} {Bn newId initId : String}
end
section
variable {X : Cx} {B : Bs} {C : Addr} {n x : Str} {p pos pos2 : Pos} {RX : RXe}
end
/-! ### o(..), o an object with a __call__ of its class -/
section
variable {M : Model} {A : Around} {E : Value → Shared → Prop} {s : Shared} {env : Env} {pos : Pos} {x : Addr} {first : List Value} {Q : Value → Shared → Prop}
end
section
variable {X : Cx} {B : Bs} {CX : CXT} {k : Nat} {f C : Addr} {sp : DSp} {n x : Str} {p pos : Pos} {e : Expr} {es : List Expr} {was : WA} {wo : WE} {RX : RXe}
end
end L3

namespace L3
open PySem PySem.Spec PyProof.Rows L2
/-! ### methods that close over their class, and say super() -/
/-- their names: the class alone is free -/
structure SScope (N P : List Str) (sc : Scope) : Prop where
  kind : sc.kind = .function
  co : sc.isCoroutine = false
  gen : sc.isGenerator = false
  nd : N.Nodup
  pre : N.take P.length = P
  par : ∀ x ∈ P, sc.names.lookup x = some .local ∨ sc.names.lookup x = some .cell
  cl : ∀ y ∈ sc.names, y.2 = .cell → y.1 ≠ ("__class__" : Str)
  fr : ∀ y ∈ sc.names, y.2 = .free → y.1 = ("__class__" : Str)
abbrev kC (n : Nat) (sc : Scope) (cc : Addr) : List (Str × Addr) := cellsFrom n sc.names [(("__class__" : Str), cc)]
abbrev kS (qual : Str) (sc : Scope) (f : Addr) (cd : Value) (cc : Addr) (s : Shared) : Env := PySem.W.envX qual sc s.heap.objs.size f cd (kC (s.heap.objs.size + 1) sc cc)
def cxS (CX : CXT) (P : Program) (w : World) (K : PySem.W.Frag) (mg : Str → Option Value) (base : Heap) (N : List Str) (qual : Str) (sc : Scope) (f : Addr) (cd : Value) (cc : Addr) (A : Around) (outer : List Env) (s : Shared) (H : Hp) (E : XK) : Cx :=
  { prog := P, w := w, K := K, mg := mg, base := base, A := A.deeper (kS qual sc f cd cc s), N := N, s_0 := s, H_0 := H, env := kS qual sc f cd cc s, outer := outer, stack := kS qual sc f cd cc s :: outer, ex := [], calm := true, fn := fun x => !(x == ("__class__" : Str)), pn := [],
    xe := fun e s' => wpAny (model P w) (A.deeper (kS qual sc f cd cc s)) (leaving (kS qual sc f cd cc s) e) (fun _ s2 => CX outer H s E e s2) (fun e2 s2 => CX outer H s E e2 s2) s' }
/-- the cells are new, or those handed in -/
theorem cells_mem : ∀ (names : List (Str × NameKind)) (n : Nat) (acc : List (Str × Addr)) {y : Str} {c : Addr}, (y, c) ∈ cellsFrom n names acc → (y, c) ∈ acc ∨ (n ≤ c ∧ (y, NameKind.cell) ∈ names)
  | [], _, _, _, _, h => .inl h
  | (x, k) :: r, n, acc, y, c, h => by
    unfold cellsFrom at h
    split at h
    · rename_i hk
      rcases cells_mem r (n + 1) ((x, n) :: acc) h with h | ⟨h1, h2⟩
      · rcases List.mem_cons.mp h with e | h
        · cases e
          have : k = .cell := eq_of_beq hk
          subst this
          exact .inr ⟨Nat.le_refl _, List.mem_cons_self⟩
        · exact .inl h
      · exact .inr ⟨by omega, List.mem_cons_of_mem _ h2⟩
    · rcases cells_mem r n acc h with h | ⟨h1, h2⟩
      · exact .inl h
      · exact .inr ⟨h1, List.mem_cons_of_mem _ h2⟩
theorem cells_apart : ∀ (names : List (Str × NameKind)) (n : Nat) (acc : List (Str × Addr)), (acc.Pairwise fun x y => x.2 ≠ y.2) → (∀ y ∈ acc, y.2 < n) → ((cellsFrom n names acc).Pairwise fun x y => x.2 ≠ y.2)
  | [], _, _, h, _ => h
  | (x, k) :: r, n, acc, h, hl => by
    unfold cellsFrom
    split
    · refine cells_apart r (n + 1) _ (List.pairwise_cons.mpr ⟨fun y hy e => ?_, h⟩) fun y hy => ?_
      · have := hl y hy
        have e : n = y.2 := e
        rw [← e] at this
        exact Nat.lt_irrefl _ this
      · rcases List.mem_cons.mp hy with rfl | hy
        · exact Nat.lt_succ_self _
        · exact Nat.lt_succ_of_lt (hl y hy)
    · exact cells_apart r n acc h hl
theorem push_cells : ∀ (names : List (Str × NameKind)) (h : Heap) (acc : List (Str × Addr)) {y : Str} {c : Addr}, (y, c) ∈ cellsFrom h.objs.size names acc → (y, c) ∉ acc → (pushCells h names).IsCell c none
  | [], _, _, _, _, h, n => absurd h n
  | (x, k) :: r, h, acc, y, c, hm, n => by
    unfold cellsFrom at hm
    unfold pushCells
    split at hm
    · rename_i hk
      rw [if_pos hk]
      by_cases e : (y, c) = (x, h.objs.size)
      · cases e
        exact Heap.IsCell.keeps ⟨_, Heap.get?_push_size _ rfl, rfl⟩ (pushCells_keeps r _)
      · refine push_cells r (h.push { cls := .type "cell", data := .cell none }) ((x, h.objs.size) :: acc) (by rw [Heap.size_push]; exact hm) fun z => ?_
        rcases List.mem_cons.mp z with z | z
        · exact e z
        · exact n z
    · rename_i hk
      rw [if_neg hk]
      exact push_cells r h acc hm n
/-- the state as the parameters are stored -/
structure InS (s0 : Shared) (env : Env) (m cm : Str → Option Value) (s : Shared) : Prop where
  same : ∃ h tk, s = { s0 with heap := h, toks := tk }
  ns : s.heap.Ns env.locals m
  keep : ∀ b o, s0.heap.get? b = some o → s.heap.get? b = some o
  cell : ∀ n c, env.cells.lookup n = some c → s.heap.IsCell c (cm n)
section
variable {M : Model} {A : Around} {E : Value → Shared → Prop} {s0 : Shared} {env : Env}
theorem bind_S (f : Str × Value → PUnit → Sem (ForInStep PUnit)) (hf : ∀ n v u, f (n, v) u = (do storeName env n v; pure (.yield ⟨⟩))) (hk : env.scope.kind = .function) (hfr : s0.heap.objs.size ≤ env.locals) (ap : env.cells.Pairwise fun x y => x.2 ≠ y.2) (ne : ∀ x ∈ env.cells, x.2 ≠ env.locals)
    (ab : ∀ n c, env.kindOf n = some .cell → env.cells.lookup n = some c → s0.heap.objs.size ≤ c) :
    ∀ (binds : List (Str × Value)) (m cm : Str → Option Value) (s : Shared) (Q : PUnit → Shared → Prop), InS s0 env m cm s →
      (∀ x ∈ binds, env.kindOf x.1 = some .local ∨ (env.kindOf x.1 = some .cell ∧ (env.cells.lookup x.1).isSome = true)) →
      (∀ s', InS s0 env (bindL env.kindOf binds m) (bindC env.kindOf binds cm) s' → Q ⟨⟩ s') → wpAny M A (forIn binds ⟨⟩ f) Q E s
  | [], m, cm, s, Q, x, _, h => by rw [List.forIn_nil]; exact wpAny_pure (h s x)
  | (n, v) :: r, m, cm, s, Q, x, hkind, h => by
    rw [List.forIn_cons, hf]
    have hr : ∀ y ∈ r, env.kindOf y.1 = some .local ∨ (env.kindOf y.1 = some .cell ∧ (env.cells.lookup y.1).isSome = true) := fun y hy => hkind y (List.mem_cons_of_mem _ hy)
    obtain ⟨h0, tk0, e0⟩ := x.same
    rcases hkind (n, v) List.mem_cons_self with hl | ⟨hl, hc⟩
    · refine wpAny_bind (wpAny_bind (wpAny_storeName_local hl x.ns (fun h' hn' hs' => wpAny_pure (bind_S f hf hk hfr ap ne ab r _ _ _ Q (?_ : InS s0 env (fun y => if y = n then some v else m y) cm _) hr fun s'' x'' => h s'' ?_)) (by rw [hk]; rfl)))
      · subst e0
        exact ⟨⟨h', _, rfl⟩, hn', fun b o e => hs'.extBut b o (Nat.ne_of_lt (Nat.lt_of_lt_of_le (Heap.lt_size e) hfr)) (x.keep b o e), fun k c hc => (x.cell k c hc).sameBut hs' (ne _ (PySem.mem_of_lookup hc))⟩
      · unfold bindL bindC; rw [if_pos hl, if_pos hl]; exact x''
    · obtain ⟨c, hc⟩ := Option.isSome_iff_exists.mp hc
      have hnl : ¬ env.kindOf n = some .local := by rw [hl]; decide
      have hne := ne _ (PySem.mem_of_lookup hc)
      refine wpAny_bind (wpAny_bind (wpAny_storeName_cell hk hl hc (x.cell n c hc) fun h' hc' hs' => wpAny_pure (bind_S f hf hk hfr ap ne ab r _ _ _ Q (?_ : InS s0 env m (fun y => if y = n then some v else cm y) _) hr fun s'' x'' => h s'' ?_)))
      · subst e0
        refine ⟨⟨h', _, rfl⟩, x.ns.sameBut hs' (Ne.symm hne), fun b o e => hs'.extBut b o (Nat.ne_of_lt (Nat.lt_of_lt_of_le (Heap.lt_size e) (ab n c hl hc))) (x.keep b o e), fun k c' hk' => ?_⟩
        by_cases hkn : k = n
        · subst hkn
          rw [hc] at hk'; cases hk'
          simpa using hc'
        · rw [if_neg hkn]
          exact (x.cell k c' hk').sameBut hs' fun e => hkn (name_of_addr ap (PySem.mem_of_lookup hk') (e ▸ PySem.mem_of_lookup hc))
      · unfold bindL bindC; rw [if_neg hnl, if_neg hnl]; exact x''
theorem env_S {qual : Str} {sc : Scope} {f cc : Addr} {cd : Value} {binds : List (Str × Value)} {s : Shared} {v : Option Value} {Q : Env → Shared → Prop} (hk : sc.kind = .function) (hcl : ∀ y ∈ sc.names, y.2 = .cell → y.1 ≠ ("__class__" : Str)) (hcc : s.heap.IsCell cc v)
    (hkind : ∀ x ∈ binds, sc.names.lookup x.1 = some .local ∨ sc.names.lookup x.1 = some .cell)
    (hQ : ∀ s', InS s (kS qual sc f cd cc s) (bindL (kS qual sc f cd cc s).kindOf binds fun _ => none) (bindC (kS qual sc f cd cc s).kindOf binds fun y => if y = ("__class__" : Str) then v else none) s' → Q (kS qual sc f cd cc s) s') :
    wpAny M A (newFunctionEnv sc mainGlobals [(("__class__" : Str), cc)] binds (qual ++ ".<locals>.") (some f) cd none builtinsNs) Q E s := by
  have hlt : cc < s.heap.objs.size := hcc.lt
  have acl : ∀ y ∈ ([(("__class__" : Str), cc)] : List (Str × Addr)), y.2 < s.heap.objs.size + 1 := fun y hy => by
    have : y = (("__class__" : Str), cc) := by simpa using hy
    rw [this]; exact Nat.lt_succ_of_lt hlt
  have mem : ∀ {y : Str} {c : Addr}, (y, c) ∈ kC (s.heap.objs.size + 1) sc cc → (y = ("__class__" : Str) ∧ c = cc) ∨ (s.heap.objs.size + 1 ≤ c ∧ (y, NameKind.cell) ∈ sc.names) := fun h => by
    rcases cells_mem _ _ _ h with h | h
    · have := by simpa using h
      exact .inl this
    · exact .inr h
  have look : ∀ {y : Str} {c : Addr}, (kC (s.heap.objs.size + 1) sc cc).lookup y = some c → (y = ("__class__" : Str) ∧ c = cc) ∨ (s.heap.objs.size + 1 ≤ c ∧ (y, NameKind.cell) ∈ sc.names) := fun h => mem (PySem.mem_of_lookup h)
  simp only [newFunctionEnv, Option.isSome_none, Bool.false_eq_true, if_false]
  refine wpAny_bind (wpAny_alloc ?_)
  refine wpAny_bind (wpAny_layCells _ (fun name kind cells => by cases hkc : kind == NameKind.cell <;> simp [hkc]) _ _ _ _ ?_)
  rw [show ({ s with heap := s.heap.push { cls := .type "frame", data := .dict #[] } } : Shared).heap.objs.size = s.heap.objs.size + 1 from Heap.size_push ..]
  refine wpAny_bind (bind_S (s0 := s) (env := kS qual sc f cd cc s) _ (fun _ _ _ => rfl) hk (Nat.le_refl _) (cells_apart _ _ _ (List.pairwise_singleton _ _) acl) (fun x hx e => ?_) (fun n c h1 h2 => ?_) binds (fun _ => none) (fun y => if y = ("__class__" : Str) then v else none) _ _
    ⟨⟨_, _, rfl⟩, (Heap.Ns.new s.heap (.type "frame")).keeps (pushCells_keeps _ _), fun b o e => pushCells_keeps _ _ b o (Heap.get?_push_of_some _ e), fun n c hc => ?_⟩ (fun x hx => ?_) fun s' x => wpAny_pure (hQ s' x))
  · have e : x.2 = s.heap.objs.size := e
    rcases mem (show (x.1, x.2) ∈ _ from hx) with ⟨_, h⟩ | ⟨h, _⟩
    · rw [h] at e; rw [e] at hlt; exact Nat.lt_irrefl _ hlt
    · rw [e] at h; exact Nat.lt_irrefl _ h
  · rcases look h2 with ⟨h, _⟩ | ⟨h, _⟩
    · exact absurd h (hcl _ (PySem.mem_of_lookup h1) rfl)
    · omega
  · have hc : (kC (s.heap.objs.size + 1) sc cc).lookup n = some c := hc
    have hm := PySem.mem_of_lookup hc
    rcases mem hm with ⟨rfl, rfl⟩ | ⟨h, h2⟩
    · rw [if_pos rfl]
      exact hcc.keeps fun b o e => pushCells_keeps _ _ b o (Heap.get?_push_of_some _ e)
    · rw [if_neg (hcl _ h2 rfl)]
      refine push_cells sc.names (s.heap.push { cls := .type "frame", data := .dict #[] }) [(("__class__" : Str), cc)] (by rw [Heap.size_push]; exact hm) fun z => ?_
      have := by simpa using z
      exact hcl _ h2 rfl this.1
  · rcases hkind x hx with h | h
    · exact .inl h
    · exact .inr ⟨h, PySem.W.cellsFrom_some _ _ _ (.inl h)⟩
end
section
variable {CX : CXT} {P : Program} {w : World} {K : PySem.W.Frag} {mg : Str → Option Value} {base : Heap} {N ps : List Str} {qual : Str} {sc : Scope} {f cc : Addr} {cd : Value} {A : Around} {outer : List Env} {s s1 : Shared} {H : Hp} {E : XK}
theorem inv_startS {us : List Value} {vs : List V} {cm : Str → Option Value} (S : SScope N ps sc) (hd : A.handled = none) (e0 : Env0 P w K mg base A outer s H) (hcc : ∃ o v, base.get? cc = some o ∧ o.data = .cell v) (hl : vs.length = ps.length) (r : Vals vs us)
    (x : InS s (kS qual sc f cd cc s) (bindL (kS qual sc f cd cc s).kindOf (ps.zip us) fun _ => none) (bindC (kS qual sc f cd cc s).kindOf (ps.zip us) cm) s1) :
    Inv (cxS CX P w K mg base N qual sc f cd cc A outer s H E) [] (L2.start N vs) H s1 := by
  have hpl : ps.length ≤ N.length := by have := congrArg List.length S.pre; rw [List.length_take] at this; omega
  obtain ⟨occ, vcc, hcc, hcd⟩ := hcc
  obtain ⟨h1, tk, rfl⟩ := x.same
  have kp : ∀ b o, s.heap.get? b = some o → h1.get? b = some o := x.keep
  have hlt : cc < s.heap.objs.size := Heap.lt_size (e0.bs _ _ hcc).1
  have noA : ∀ b : Addr, b ∉ (cxS CX P w K mg base N qual sc f cd cc A outer s H E).ex := fun b z => absurd (show b ∈ ([] : List Addr) from z) (by simp)
  have look : ∀ {y : Str} {c : Addr}, (kC (s.heap.objs.size + 1) sc cc).lookup y = some c → (y = ("__class__" : Str) ∧ c = cc) ∨ (s.heap.objs.size + 1 ≤ c ∧ (y, NameKind.cell) ∈ sc.names) := fun h => by
    rcases cells_mem _ _ _ (PySem.mem_of_lookup h) with h | h
    · have := by simpa using h
      exact .inl this
    · exact .inr h
  have ap : (kC (s.heap.objs.size + 1) sc cc).Pairwise fun x y => x.2 ≠ y.2 := cells_apart _ _ _ (List.pairwise_singleton _ _) fun y hy => by
    have : y = (("__class__" : Str), cc) := by simpa using hy
    rw [this]; exact Nat.lt_succ_of_lt hlt
  have some_ : ∀ {y : Str}, sc.names.lookup y = some .cell ∨ y = ("__class__" : Str) → ∃ c, (kC (s.heap.objs.size + 1) sc cc).lookup y = some c := fun h =>
    Option.isSome_iff_exists.mp (PySem.W.cellsFrom_some _ _ _ (h.imp id fun e => by rw [e]; simp [List.lookup]))
  have ndP : ps.Nodup := by rw [← S.pre]; exact S.nd.sublist (List.take_sublist _ _)
  refine ⟨⟨e0.mod, S.kind, rfl, rfl, Nat.le_refl _, fun y z c g1 g2 => name_of_addr ap (PySem.mem_of_lookup g1) (PySem.mem_of_lookup g2), fun y hy => ?_, fun y c g1 g2 => ?_, fun _ => hd, Around.frames_deeper e0.frames, .inr ⟨rfl, rfl⟩, fun b z => absurd z (noA b), e0.bs, e0.bsz, fun b _ _ => noA b, fun b z => absurd z (noA b), e0.funs, e0.frf⟩,
    rfl, e0.bare, Un.kept kp, ⟨_, x.ns, fun i y v g1 g2 g3 => ?_⟩, fun y c g => ⟨_, x.cell y c g⟩, e0.hok.fresh (Nat.le_refl _), fun y c g => ?_, fun p hp => absurd (show p ∈ ([] : List (Addr × Obj)) from hp) (by simp), e0.hok.kept kp, ?_⟩
  · have hy : sc.names.lookup y = some .cell ∨ sc.names.lookup y = some .free := hy
    exact some_ (hy.imp id fun h => S.fr _ (PySem.mem_of_lookup h) rfl)
  · rcases look g2 with ⟨e, _⟩ | ⟨h, _⟩
    · subst e
      have z : (!((("__class__" : Str)) == ("__class__" : Str))) = true := g1
      simp at z
    · show s.heap.objs.size ≤ c
      omega
  · have hi : i < vs.length := by
      unfold L2.start at g2
      by_cases hi : i < vs.length
      · exact hi
      · rw [List.getElem?_append_right (by simpa using hi), List.getElem?_replicate] at g2
        split at g2 <;> cases g2
    have ha : vs[i]? = some v := by
      unfold L2.start at g2
      rw [List.getElem?_append_left (by simpa using hi), List.getElem?_map] at g2
      cases e : vs[i]? with
      | none => rw [e] at g2; cases g2
      | some a => rw [e] at g2; cases g2; rfl
    obtain ⟨u, hu, rv⟩ := r.get ha
    have hp : ps[i]? = some y := by
      rw [← S.pre, List.getElem?_take_of_lt (by omega)]; exact g1
    refine ⟨u, rv, ?_⟩
    rcases S.par y (List.mem_of_getElem? hp) with k | k
    · exact .inl ⟨k, bindL_get ndP hp hu k⟩
    · obtain ⟨c, e⟩ := some_ (.inl k)
      have q := x.cell y c e
      rw [bindC_get ndP hp hu (by show sc.names.lookup y ≠ _; rw [k]; decide)] at q
      exact .inr ⟨.inl k, c, e, q⟩
  · rcases look g with ⟨_, rfl⟩ | ⟨h, _⟩
    · exact (e0.bs _ _ hcc).2
    · exact e0.hok.fresh (by show s.heap.objs.size ≤ c; omega)
  · show (L2.start N vs).length = N.length
    unfold L2.start
    rw [List.length_append, List.length_map, List.length_replicate]
    omega
end
/-! ### readings in the known activation -/
structure PEA (X : Cx) (b : List Stmt) (e : Expr) (t : TE) : Prop where
  run : ∀ (pins : List (Addr × Obj)) (s : Shared) (σ : L2.St) (H : Hp) (Q : VK), Inv X pins σ H s → t σ H Q → _root_.PySem.wpAt (model X.prog X.w) X.A (.func b X.env) (eval e X.env) (EP X pins σ Q) X.xe s
structure PSA (X : Cx) (b : List Stmt) (st : Stmt) (t : TS) : Prop where
  run : ∀ (pins : List (Addr × Obj)) (s : Shared) (σ : L2.St) (H : Hp) (D : Ends), Inv X pins σ H s → t D σ H → _root_.PySem.wpAt (model X.prog X.w) X.A (.func b X.env) (exec st X.env) (SP X pins D) X.xe s
structure PSsA (X : Cx) (b st : List Stmt) (t : TS) : Prop where
  run : ∀ (pins : List (Addr × Obj)) (s : Shared) (σ : L2.St) (H : Hp) (D : Ends), Inv X pins σ H s → t D σ H → _root_.PySem.wpAt (model X.prog X.w) X.A (.func b X.env) (execs st X.env) (SP X pins D) X.xe s
section
variable {X : Cx} {b : List Stmt} {st : Stmt} {rest : List Stmt} {t u : TS} {e e2 : Expr} {te te2 : TE} {pos : Pos}
theorem PSA.of (h : PS X st t) : PSA X b st t := ⟨fun pins s σ H D I q => _root_.PySem.wpAt_of_wpAny (h.run pins s σ H D I q)⟩
theorem PSsA.of (h : PSs X rest t) : PSsA X b rest t := ⟨fun pins s σ H D I q => _root_.PySem.wpAt_of_wpAny (h.run pins s σ H D I q)⟩
theorem psA_cons (h1 : PSA X b st t) (h2 : PSsA X b rest u) : PSsA X b (st :: rest) (tSeq t u) := by
  refine ⟨fun pins s σ H D I h => ks_wpAt_execs_cons (ks_wpAt_mono (h1.run pins s σ H { D with nx := u D } I h) (fun f s1 q => ?_) fun _ _ z => z)⟩
  match f, q with
  | .next, ⟨σ', H', I', q⟩ => exact h2.run pins s1 σ' H' D I' q
  | .ret v, q => exact q
  | .brk, q => exact q
  | .cont, q => exact q
theorem psA_one (h1 : PSA X b st t) : PSsA X b [st] t := by
  refine ⟨fun pins s σ H D I h => ks_wpAt_execs_cons (ks_wpAt_mono (h1.run pins s σ H D I h) (fun f s1 q => ?_) fun _ _ z => z)⟩
  match f, q with
  | .next, q => exact _root_.PySem.wpAt_of_wpAny (wpAny_execs_nil q)
  | .ret v, q => exact q
  | .brk, q => exact q
  | .cont, q => exact q
theorem psA_expr (he : PEA X b e te) (hs : swapsWith e none pos.line X.env = pure false := by rfl) : PSA X b (.Expr e pos) (tDrop te) :=
  ⟨fun pins s σ H D I h => ks_wpAt_Expr_any (ks_wpAt_mono (he.run pins s σ H _ I h) (fun v s1 ⟨x, H1, I1, r1, q1⟩ => ⟨σ, H1, I1, q1⟩) fun _ _ z => z) I.quiet hs⟩
theorem psA_ret (he : PEA X b e te) : PSA X b (.Return (some e) pos) (tRet te) :=
  ⟨fun pins s σ H D I h => ks_wpAt_Return_some (ks_wpAt_mono (he.run pins s σ H _ I h) (fun v s1 ⟨x, H1, I1, r1, q1⟩ => ⟨x, σ, H1, I1, r1, q1⟩) fun _ _ z => z)⟩
theorem peA_op {op : Operator} {r : R2} (ho : OpR X (binaryOp op) r) (ha : PEA X b e te) (hb : PE X e2 te2) : PEA X b (.BinOp e op e2 pos) (tOp r te te2) :=
  ⟨fun pins s σ H Q I h => ks_wpAt_BinOp (ks_wpAt_mono (ha.run pins s σ H _ I h) (fun v s1 ⟨x, H1, I1, r1, q1⟩ => thn (hb.run pins s1 σ H1 _ I1 q1) fun v2 s2 ⟨y, H2, I2, r2, q2⟩ => ho pins s2 σ H2 x y v v2 Q I2 r1 r2 q2) fun _ _ z => z)⟩
end
/-! ### a def's promise by a body in the known activation -/
section
variable {CX : CXT} {P : Program} {w : World} {K : PySem.W.Frag} {mg : Str → Option Value} {base : Heap} {N ps : List Str} {name qual : Str} {params : Arguments} {body : List Stmt} {sc : Scope} {dV kV doc pm cdv ct oc : Value} {an od : Option Addr} {osl : Array (Option Value)} {f cc : Addr} {k : Nat} {sp : Sp}
theorem run_bndS {A : Around} {outer : List Env} {s : Shared} {H : Hp} {args : Args} {Q : VK} {E : XK} {G : List V → Hp → Prop} (lk : K.lookup f = some ⟨oc, od, .func (PySem.W.ksFn name qual params body sc dV kV doc pm an cdv ct cc), osl⟩) (hcd : PySem.W.codeIn K cdv qual = true)
    (hkc : ∃ cl cld v csl, K.lookup cc = some ⟨cl, cld, .cell v, csl⟩) (S : SScope N ps sc) (hr : Room (k + 1) A) (e0 : Env0 P w K mg base A outer s H) (hb : StX.Bnd CX P w K mg base (PySem.W.ksFn name qual params body sc dV kV doc pm an cdv ct cc) args ps A outer s H E G)
    (hbody : ∀ (s2 : Shared) (H2 : Hp) (vs : List V), G vs H2 → Room k (A.deeper (kS qual sc f cdv cc s2)) →
      ∃ t, PSsA (cxS CX P w K mg base N qual sc f cdv cc A outer s2 H2 E) body body t ∧ t { nx := fun _ H' => Q .non H', rt := Q } (start N vs) H2) : codeAny (model P w) A (.call (.ref f) args) (CR CX outer P w H s Q E) s := by
  have KX : K.In s.heap := e0.mod.kin.keeps fun b o e => (e0.bs b o e).1
  refine codeAny_call_function hr.depth (KX _ _ lk) rfl S.co S.gen rfl (PySem.W.codeRec_of KX hcd) (hb _ _ _ fun s2 H2 vs us e2 un ho hx r hl g => ?_)
  have lim : s2.heap.NoLimit := e0.mod.nolimit.keeps fun b o e => (e2.bs b o e).1
  have hcc : ∃ o v, base.get? cc = some o ∧ o.data = .cell v := let ⟨_, _, v, _, q⟩ := hkc; ⟨_, v, e0.mod.kin _ _ q, rfl⟩
  have hcell : ∃ v, s2.heap.IsCell cc v := let ⟨o, v, q, d⟩ := hcc; ⟨v, o, (e2.bs _ _ q).1, d⟩
  obtain ⟨vcc, hcell⟩ := hcell
  refine env_S S.kind S.cl hcell (fun y hy => S.par y.1 (List.of_mem_zip hy).1) fun s1 x => ⟨lim.keeps x.keep, ?_⟩
  obtain ⟨t, ht, hq⟩ := hbody s2 H2 vs g (hr.deeper _)
  have I := inv_startS (CX := CX) (E := E) S hr.hd e2 hcc hl r x
  refine ks_codeAny_funcAt (ks_wpAt_mono (ht.run [] _ _ _ _ I hq) (fun fl s' hs => ?_) fun e s' hs => wpAny_mono hs (fun _ s3 z => hx e s3 z) fun e' s3 z => hx e' s3 z)
  have fin : ∀ {σ' : L2.St} {H' : Hp} {v' : V} {u' : Value}, Inv (cxS CX P w K mg base N qual sc f cdv cc A outer s2 H2 E) [] σ' H' s' → RelV v' u' → Q v' H' → CE outer P w H s Q u' s' := fun {σ' H' v' u'} J rv' q => ⟨v', H', J.os.trans ho, J.bare, un.trans J.base, J.hok, rv', q⟩
  match fl, hs with
  | .ret u', ⟨v', σ', H', J, rv', q⟩ => exact fin J rv' q
  | .next, ⟨σ', H', J, q⟩ => exact fin (v' := V.non) (u' := Value.none) J rfl q
  | .brk, ⟨_, _, _, q⟩ => exact False.elim q
  | .cont, ⟨_, _, _, q⟩ => exact False.elim q
/-- all parameters are given -/
theorem fnS_of (lk : K.lookup f = some ⟨oc, od, .func (PySem.W.ksFn name qual params body sc dV kV doc pm an cdv ct cc), osl⟩) (hcd : PySem.W.codeIn K cdv qual = true) (hkc : ∃ cl cld v csl, K.lookup cc = some ⟨cl, cld, .cell v, csl⟩) (S : SScope N ps sc)
    (hb : ∀ us : List Value, us.length = ps.length → bindArgs (PySem.W.ksFn name qual params body sc dV kV doc pm an cdv ct cc) ⟨us, []⟩ = pure (ps.zip us)) (len : ∀ vs H Q E, sp vs H Q E → vs.length = ps.length)
    (hbody : ∀ (A : Around) (outer : List Env) (s : Shared) (H : Hp) (vs : List V) (Q : VK) (E : XK), Room k (A.deeper (kS qual sc f cdv cc s)) → sp vs H Q E →
      ∃ t, PSsA (cxS CX P w K mg base N qual sc f cdv cc A outer s H E) body body t ∧ t { nx := fun _ H' => Q .non H', rt := Q } (start N vs) H) : FnR P w K mg base CX (k + 1) f sp := by
  intro A outer s H us vs Q E hr e0 r hsp
  have hl := len _ _ _ _ hsp
  refine run_bndS lk hcd hkc S hr e0 (G := fun xs H2 => xs = vs ∧ H2 = H) (fun A' Ex Q' h => ?_) fun s2 H2 xs ⟨ex, eH⟩ hr' => ?_
  · rw [hb us (by rw [← r.length]; exact hl)]
    exact wpAny_pure (h s H vs us e0 Un.refl rfl (fun _ _ z => z) r hl ⟨rfl, rfl⟩)
  · subst ex eH
    exact hbody A outer s2 _ _ Q E hr' hsp
/-- (a, .., *v) -/
theorem fnS_star {pv : Str} (lk : K.lookup f = some ⟨oc, od, .func (PySem.W.ksFn name qual params body sc dV kV doc pm an cdv ct cc), osl⟩) (hcd : PySem.W.codeIn K cdv qual = true) (hkc : ∃ cl cld v csl, K.lookup cc = some ⟨cl, cld, .cell v, csl⟩) (S : SScope N (ps ++ [pv]) sc) (hCX : StX.CXUp CX)
    (hb : ∀ us rest : List Value, us.length = ps.length → bindArgs (PySem.W.ksFn name qual params body sc dV kV doc pm an cdv ct cc) ⟨us ++ rest, []⟩ = (newTuple rest >>= fun t => pure (ps.zip us ++ [(pv, t)])))
    (hbody : ∀ (A : Around) (outer : List Env) (s : Shared) (H : Hp) (vs : List V) (Q : VK) (E : XK), Room k (A.deeper (kS qual sc f cdv cc s)) → sp vs H Q E →
      ∃ t, PSsA (cxS CX P w K mg base N qual sc f cdv cc A outer s H E) body body t ∧ t { nx := fun _ H' => Q .non H', rt := Q } (start N vs) H) :
    FnR P w K mg base CX (k + 1) f (fun vs H Q E => ∃ ws rest, vs = ws ++ rest ∧ ws.length = ps.length ∧ rest.length ≤ sizeLine ∧ ∀ p, H p = Option.none → sp (ws ++ [V.ref p]) (upd H p (.tup rest)) Q E) := by
  rintro A outer s H us vs Q E hr e0 r ⟨ws, left, rfl, hl, hz, hq⟩
  obtain ⟨u1, u2, rfl, r1, r2⟩ := StX.vals_split r
  have hn : H s.heap.objs.size = Option.none := e0.hok.fresh (Nat.le_refl _)
  have hl1 : u1.length = ps.length := r1.length.symm.trans hl
  have hl2 : u2.length ≤ sizeLine := by rw [← r2.length]; exact hz
  refine run_bndS lk hcd hkc S hr e0 (G := fun xs H2 => ∃ p, H p = Option.none ∧ xs = ws ++ [V.ref p] ∧ H2 = upd H p (.tup left)) (fun A' Ex Q' h => ?_) fun s2 H2 xs ⟨p, hp, ex, eH⟩ hr' => ?_
  · rw [hb u1 u2 hl1]
    refine wpAny_bind (wpAny_newTuple (wpAny_pure ?_) hl2)
    have un := StX.un_laid (fs := frs outer) (s := s) (o := ({ cls := .type "tuple", data := .seq u2.toArray } : Obj)) (u := .tup left) hn
    have fresh : ObjOk P w (upd H s.heap.objs.size (.tup left)) (s.heap.push ({ cls := .type "tuple", data := .seq u2.toArray } : Obj)) s.heap.objs.size (.tup left) :=
      ⟨hz, u2, r2, ⟨_, Heap.get?_push_size _ rfl, rfl, _, rfl⟩⟩
    have z := h _ _ (ws ++ [V.ref s.heap.objs.size]) (u1 ++ [Value.ref s.heap.objs.size]) (StX.env0_laid e0 fresh) un rfl
      (fun e s' => hCX outer s H _ _ E e s' un (fun b o q => Heap.get?_push_of_some _ q) rfl) (r1.append (.cons rfl .nil)) (by rw [List.length_append, List.length_append, hl] <;> rfl) ⟨_, hn, rfl, rfl⟩
    rwa [List.zip_append hl1.symm] at z
  · subst ex eH
    exact hbody A outer s2 _ _ Q E hr' (hq p hp)
end
end L3

namespace L3
open PySem PySem.Spec PyProof.Rows L2
/-! ### super() -/
/-- the program's main text is that of P0 -/
class SameMain (P P0 : Program) : Prop where
  eq : P.main = P0.main
/-- what of the text a super() asks: its def at f, whose first parameter is a0, the class at D -/
structure SuF (K : PySem.W.Frag) (P0 : Program) (f cc D : Addr) (cdv : Value) (a0 : Str) : Prop where
  fn : ∃ oc od fd osl ar, K.lookup f = some ⟨oc, od, .func fd, osl⟩ ∧ (fd.params.posonlyargs ++ fd.params.args).head? = some ar ∧ ar.arg = a0
  code : ∃ cda ccl cdd vs ccs file tf, cdv = .ref cda ∧ K.lookup cda = some ⟨ccl, cdd, .fields vs, ccs⟩ ∧ vs[2]? = some (.str file tf) ∧ ((P0.main.file : Str) == file) = true
  cell : ∃ cl cld csl, K.lookup cc = some ⟨cl, cld, .cell (some (.ref D)), csl⟩
  cls : ∃ cd, PySem.W.clsIn K D = some cd
  top : (P0.main.scope.names.lookup ("super" : Str)).isSome = false
/-- behind the class at D, for an instance of the class at C, m is the def at g -/
structure SupM (K : PySem.W.Frag) (C D : Addr) (m : Str) (g : Addr) : Prop where
  at_ : PySem.W.ks_superIn K C D m = some (some (.ref g))
  ty : PySem.W.typeIn K (.ref g) = some (.type "function")
  fi : PySem.W.fnIn K g = true
  sub : PySem.W.mroIn K C (.ref D) = some true
  op : PySem.W.nsIn K cStatics "thirdparty.any" = some none
section
variable {X : Cx} {P0 : Program} {pins : List (Addr × Obj)} {σ : L2.St} {H : Hp} {s : Shared} {b : List Stmt} {whole : Sem Value} {p0 p1 : Pos} {m a0 : Str} {f g cc D x C dx : Addr} {fs : List (Str × V)} {E : Value → Shared → Prop}
theorem cls_get {K : PySem.W.Frag} {h : Heap} {D : Addr} {cd : ClassData} (kin : K.In h) (e : PySem.W.clsIn K D = some cd) : ∃ oD, h.get? D = some oD ∧ oD.data = .cls cd := by
  unfold PySem.W.clsIn at e
  split at e
  · rename_i z
    cases e
    exact ⟨_, kin _ _ z, rfl⟩
  · cases e
theorem sup_node {Q : Value → Shared → Prop} (sm : X.prog.main = P0.main) (I : Inv X pins σ H s) (U : SuF X.K P0 f cc D X.env.code a0) (hf : X.env.func = some f) (hcl : X.env.cells.lookup ("__class__" : Str) = some cc) (kS : X.env.kindOf ("super" : Str) = some .globalImplicit)
    (kC : X.env.kindOf ("__class__" : Str) = some .free) (kA : X.env.scope.names.lookup a0 = some .local) (hms : X.mg ("super" : Str) = none) (hN : X.N[0]? = some a0) (hσ : σ[0]? = some (some (.ref x))) (hx : H x = some (.ins C dx fs))
    (sub : PySem.W.mroIn X.K C (.ref D) = some true) (hat : (m == ("__class__" : Str)) = false) (h : ∀ so s', Inv X ((so, PySem.W.ks_superObj D x C) :: pins) σ H s' → Q (.ref so) s') :
    _root_.PySem.wpAt (model X.prog X.w) X.A (.func b X.env) (attributeBase (.Call (.Name ("super" : Str) p0) [] [] p1) m X.env whole) Q E s := by
  obtain ⟨oc, od, fd, osl, ar, lf, hp, rfl⟩ := U.fn
  obtain ⟨cda, ccl, cdd, vs, ccs, file, tf, ecd, lc, hvs, hfile⟩ := U.code
  obtain ⟨cl, cld, csl, lcell⟩ := U.cell
  obtain ⟨cd, hcd⟩ := U.cls
  have kin : X.K.In s.heap := I.kIn
  obtain ⟨oD, hD1, hD2⟩ := cls_get kin hcd
  obtain ⟨mb, hb1, hb2⟩ := I.mod.blt
  obtain ⟨ml, hn, hl⟩ := I.loc
  obtain ⟨u, ru, lk⟩ := hl 0 ar.arg (.ref x) hN hσ (.inl kA)
  have hv : ml ar.arg = some u := by
    rcases lk with ⟨_, q⟩ | ⟨q, _⟩
    · exact q
    · have q' : X.env.scope.names.lookup ar.arg = some .cell ∨ X.env.scope.names.lookup ar.arg = some .free := q
      rw [kA] at q'
      rcases q' with q' | q' <;> cases q'
  obtain rfl : u = Value.ref x := ru
  obtain ⟨mA, O, _, _, _, _⟩ := ins_get I.hok hx
  obtain ⟨odx, J, _⟩ := O.look
  obtain ⟨hh, g1, d1, t1, o1⟩ := s
  refine ks_wpAt_super_base (env := X.env) kS kC hat hf (kin _ _ lf) rfl hp ecd (kin _ _ lc) rfl hvs (by rw [sm]; exact hfile) (by rw [sm]; exact U.top) ?_
  refine PySem.W.ks_loadName_global I.ok.kind kS (Calls.loadGlobal_builtin (v := .type "super") (by rw [I.ok.glob]; exact I.mod.glob.keeps I.bk) hms (by rw [I.ok.blt]; exact hb1.keeps I.bk) ((hb2 _ (by decide)).trans (by decide +kernel)) ⟨rfl, ?_⟩)
  refine wpAny_loadName_free I.ok.kind kC hcl ⟨_, kin _ _ lcell, rfl⟩ (wpAny_loadName_local I.ok.kind kA hn hv (ks_wpAny_isType_cls hD1 hD2 ⟨rfl, ?_⟩))
  refine ks_wpAny_call_super hD1 hD2 J.at_ J.cls (fun c e => ?_) (PySem.W.looks_mroIn kin sub) fun h' e k => h _ _ (ClX.pin_new I k (Nat.le_refl _) e fun v z => nomatch z)
  have no := J.no
  unfold PySem.W.notCls at no
  rw [e] at no
  cases no
theorem sup_ne (I : Inv X pins σ H s) (hx : H x = some (.ins C dx fs)) (M : SupM X.K C D m g) : x ≠ C ∧ ∃ cd, PySem.W.clsIn X.K C = some cd ∧ PySem.W.alongIn X.K m ((cd.mro.dropWhile (· != .ref D)).drop 1) = some (some (.ref g)) := by
  obtain ⟨mA, O, _, _, _, _⟩ := ins_get I.hok hx
  obtain ⟨odx, J, _⟩ := O.look
  have e := M.at_
  unfold PySem.W.ks_superIn at e
  cases hc : PySem.W.clsIn X.K C with
  | none => rw [hc] at e; cases e
  | some cd =>
    rw [hc] at e
    exact ⟨PySem.W.ks_ne I.kIn J hc, cd, rfl, e⟩
theorem sup_fn (I : Inv X pins σ H s) (M : SupM X.K C D m g) : ∃ og, s.heap.get? g = some og ∧ og.cls = .type "function" := by
  have e : (X.K.lookup g).map (·.cls) = some (.type "function") := M.ty
  cases z : X.K.lookup g with
  | none => rw [z] at e; cases e
  | some og => rw [z] at e; exact ⟨og, I.kIn _ _ z, Option.some.inj e⟩
theorem sup_meth {so : Addr} {A : Around} {pl : Sem Bool} {Q : Value × List Value → Shared → Prop} (I : Inv X ((so, PySem.W.ks_superObj D x C) :: pins) σ H s) (hx : H x = some (.ins C dx fs)) (M : SupM X.K C D m g) (hat : (m == ("__class__" : Str)) = false)
    (h : ∀ q s', X.base.get? q = none → Inv X ((q, PySem.W.methodObj (.ref g) (.ref x)) :: (so, PySem.W.ks_superObj D x C) :: pins) σ H s' → Q (.ref q, []) s') : wpAny (model X.prog X.w) A (getMethod (.ref so) m pl) Q E s := by
  obtain ⟨ne, cd, hc, e⟩ := sup_ne I hx M
  obtain ⟨og, h1, h2⟩ := sup_fn I M
  have hso := ClX.pin_at I
  have bn := ClX.base_none I (Nat.le_refl _)
  have J := ClX.met_new (g := g) (C := x) I
  have kin : X.K.In s.heap := I.kIn
  obtain ⟨hh, g1, d1, t1, o1⟩ := s
  refine ks_wpAny_getMethod_super hso (PySem.W.looks_opaque kin M.op) (l₀ := cd.mro) (fun A Q E s k q => wpAny_bind ((PySem.W.looks_clsIn kin hc) A _ E s k (wpAny_pure q))) rfl kin e h1 h2 ne hat (h _ _ bn J)
theorem sup_attr {so : Addr} {A : Around} {Q : Value → Shared → Prop} (I : Inv X ((so, PySem.W.ks_superObj D x C) :: pins) σ H s) (hx : H x = some (.ins C dx fs)) (M : SupM X.K C D m g) (hat : (m == ("__class__" : Str)) = false)
    (h : ∀ q s', X.base.get? q = none → Inv X ((q, PySem.W.methodObj (.ref g) (.ref x)) :: (so, PySem.W.ks_superObj D x C) :: pins) σ H s' → Q (.ref q) s') : wpAny (model X.prog X.w) A (getAttr (.ref so) m true) Q E s := by
  obtain ⟨ne, cd, hc, e⟩ := sup_ne I hx M
  obtain ⟨og, h1, h2⟩ := sup_fn I M
  have hso := ClX.pin_at I
  have bn := ClX.base_none I (Nat.le_refl _)
  have J := ClX.met_new (g := g) (C := x) I
  have kin : X.K.In s.heap := I.kIn
  obtain ⟨hh, g1, d1, t1, o1⟩ := s
  have hlk := PySem.F.ks_slot_super_ga.lookup
  have hT : ∀ t', (⟨hh, g1, d1, t', o1⟩ : Shared).TypeIs (.ref so) "super" := fun _ => ⟨_, hso, rfl⟩
  unfold getAttr getAttrBy
  refine wpAny_bind (wpAny_mkText (wpAny_holding (wpAny_bind (wpAny_typeOf (hT _) (wpAny_bind (wpAny_of_eq hlk ?_))))))
  show wpAny (model X.prog X.w) A (getAttrByItsOwn (.ref so) (.str m t1) (.type "super") (.builtin "super.__getattribute__") true true) _ _ _
  unfold getAttrByItsOwn hookBefore callGetattribute boundAndCalled
  refine wpAny_bind (wpAny_of_eq (show (if onTheHeap (.type "super") then typeLookup (.type "super") "__getattr__" else pure none) = pure none from rfl) (wpAny_bind (wpAny_attempt (wpAny_holding ?_))))
  show wpAny (model X.prog X.w) A (bindSpecial (.builtin "super.__getattribute__") (.ref so) >>= _) _ _ _
  refine wpAny_bind (wpAny_of_eq (PySem.F.ks_slot_super_ga.bind _) (wpAny_mono (E := fun _ _ => False)
    (wpAny_call_entry (Q := fun v s' => v = .ref hh.objs.size ∧ s' = ⟨hh.push (PySem.W.methodObj (.ref g) (.ref x)), g1, d1, t1 + 1, o1⟩) PySem.F.ks_slot_super_ga (hT _) PySem.F.ks_entry_super_ga
      (ks_wpAny_super_ga hso (PySem.W.looks_opaque kin M.op) (l₀ := cd.mro) (fun A Q E s k q => wpAny_bind ((PySem.W.looks_clsIn kin hc) A _ E s k (wpAny_pure q))) rfl kin e h1 h2 ne hat ⟨_, rfl, rfl, rfl⟩) (PySem.F.ks_gaArgs_super _ _)) (fun v s' hv => ?_) fun _ _ z => z.elim))
  obtain ⟨rfl, rfl⟩ := hv
  exact wpAny_pure (h _ _ bn J)
end
/-- how a call of an attribute goes, with a star among the arguments -/
theorem wpAt_starcall {M : Model} {A : Around} {E : Value → Shared → Prop} {s : Shared} {env : Env} {c : Code} {o : Expr} {args : List Expr} {m : Str} {apos pos : Pos} {Q : Value → Shared → Prop}
    (hform : methodCallForm (args.length + ([] : List Keyword).length) (backTo pos (starEach args env)) [] = false)
    (h : _root_.PySem.wpAt M A c (attributeBase o m env (eval o env)) (fun ov s1 => wpAny M A (getAttr ov m true) (fun f s2 => wpAny M A (callWith pos f [] (backTo pos (starEach args env)) []) Q E s2) E s1) E s) :
    _root_.PySem.wpAt M A c (eval (.Call (.Attribute o m apos) args [] pos) env) Q E s := by
  have hke : backToKw pos (keywordEach [] env) = [] := rfl
  have hpos : methodCallPos false o env apos pos = pure pos := rfl
  have hcal : ∀ ov, calleeOf false o env ov m = (getAttr ov m true >>= fun v => pure (v, [])) := fun _ => rfl
  rw [arm_eval_Call, hke]
  refine _root_.PySem.wpAt_bind (ks_wpAt_mono h (fun ov s1 h1 => _root_.PySem.wpAt_of_wpAny (wpAny_bind (wpAny_standAt ?_))) fun _ _ z => z)
  unfold methodCall
  rw [hform, hpos, hcal]
  refine wpAny_bind (wpAny_holding (wpAny_bind (wpAny_mono h1 (fun f s2 h2 => wpAny_pure ?_) fun _ _ z => z)))
  exact wpAny_bind (wpAny_pure h2)
end L3

namespace L3
open PySem PySem.Spec PyProof.Rows L2
/-! ### super(), over data -/
abbrev DEA (B : Bs) (X : Cx) (b : List Stmt) (e : Expr) (w : WE) : Prop := PEA X b e (tD X.K B w)
abbrev DSA (B : Bs) (X : Cx) (b : List Stmt) (st : Stmt) (w : WS) : Prop := PSA X b st (tDS X.K B w)
abbrev DSsA (B : Bs) (X : Cx) (b st : List Stmt) (w : WS) : Prop := PSsA X b st (tDS X.K B w)
theorem PEA.imp {X : Cx} {b : List Stmt} {e : Expr} {t u : TE} (h : PEA X b e t) (i : ∀ σ H Q, u σ H Q → t σ H Q) : PEA X b e u := ⟨fun pins s σ H Q I q => h.run pins s σ H Q I (i σ H Q q)⟩
theorem PSA.imp {X : Cx} {b : List Stmt} {e : Stmt} {t u : TS} (h : PSA X b e t) (i : ∀ D σ H, u D σ H → t D σ H) : PSA X b e u := ⟨fun pins s σ H D I q => h.run pins s σ H D I (i D σ H q)⟩
theorem PSsA.imp {X : Cx} {b e : List Stmt} {t u : TS} (h : PSsA X b e t) (i : ∀ D σ H, u D σ H → t D σ H) : PSsA X b e u := ⟨fun pins s σ H D I q => h.run pins s σ H D I (i D σ H q)⟩
section
variable {X : Cx} {B : Bs} {b : List Stmt} {st : Stmt} {rest : List Stmt} {w u : WS} {e e2 : Expr} {we wb : WE} {pos : Pos}
theorem sa_of (h : DS B X st w) : DSA B X b st w := PSA.of h
theorem sa_cons (h1 : DSA B X b st w) (h2 : DSsA B X b rest u) : DSsA B X b (st :: rest) (wSeq w u) := by
  refine (psA_cons h1 h2).imp fun D σ H => ?_
  rintro ⟨P, al, M, env, k, rs, hw, L⟩
  exact ⟨P, al, M, env, _, rs, hw, ⟨fun env' M' σ' H' P' al' e rs' q => ⟨P', al', M', env', k, rs', q, L.after e⟩, L.rt, L.bk, L.ct⟩⟩
theorem sa_one (h1 : DSA B X b st w) : DSsA B X b [st] w := psA_one h1
theorem sa_ret (he : DEA B X b e we) : DSA B X b (.Return (some e) pos) (wRet we) := by
  refine (psA_ret he).imp fun D σ H => ?_
  rintro ⟨P, al, M, env, k, rs, hw, L⟩
  exact ⟨P, al, M, env, _, rs, hw, fun d M1 v H1 P1 al1 e1 rs1 r1 q => L.rt _ _ _ _ _ _ e1 rs1.toRS0 r1 q⟩
theorem sa_op {op : Operator} {r : R2} {o : WO2} (ho : OpR X (binaryOp op) r) (h : OpD X.K B r o) (ha : DEA B X b e we) (hb : DE B X e2 wb) : DEA B X b (.BinOp e op e2 pos) (wOp o we wb) :=
  (peA_op ho ha hb).imp (op_imp h)
end
inductive SupTab (X : Cx) (CX : CXT) (k : Nat) (Dc : Addr) (m : Str) : List (Str × DSp) → Prop
  | nil : SupTab X CX k Dc m []
  | cons {n : Str} {C g : Addr} {sp : DSp} {l : List (Str × DSp)} : ClsAt X.K n C → SupM X.K C Dc m g → FnR X.prog X.w X.K X.mg X.base CX k g (toSp X.K sp) → SupTab X CX k Dc m l → SupTab X CX k Dc m ((n, sp) :: l)
theorem SupTab.look {X : Cx} {CX : CXT} {k : Nat} {Dc : Addr} {m n : Str} {sp : DSp} : ∀ {l : List (Str × DSp)}, SupTab X CX k Dc m l → l.lookup n = some sp → ∃ C g, ClsAt X.K n C ∧ SupM X.K C Dc m g ∧ FnR X.prog X.w X.K X.mg X.base CX k g (toSp X.K sp)
  | _, .nil, e => by cases e
  | _, .cons (n := n') ca sm F t, e => by
    by_cases h : (n == n') = true
    · rw [List.lookup, h] at e
      cases e
      have := eq_of_beq h
      subst this
      exact ⟨_, _, ca, sm, F⟩
    · have h : (n == n') = false := by simpa using h
      rw [List.lookup, h] at e
      exact SupTab.look t e
/-- super().m(..): the def is that of the class behind, by the class of the first parameter -/
@[irreducible] def supB (l : List (Str × DSp)) (M : Mt) (o : D) (k : DSp → Prop) : Prop := match viewD M o with
  | .obj n _ => match l.lookup n with
    | some sp => k sp
    | none => False
  | _ => False
def wSup (l : List (Str × DSp)) (RX : RXe) (was : WA) : WE := fun env M R => match env[0]? with
  | some (some o) => supB l M o fun sp => was env M fun ds M1 => sp (o :: ds) M1 R fun nm fs M' => RX nm fs env M'
  | _ => False
/-- the place of a super() -/
structure SupAt (X : Cx) (P0 : Program) (f cc Dc : Addr) (a0 m : Str) : Prop where
  sm : X.prog.main = P0.main
  U : SuF X.K P0 f cc Dc X.env.code a0
  hf : X.env.func = some f
  hcl : X.env.cells.lookup ("__class__" : Str) = some cc
  kS : X.env.kindOf ("super" : Str) = some .globalImplicit
  kC : X.env.kindOf ("__class__" : Str) = some .free
  kA : X.env.scope.names.lookup a0 = some .local
  hms : X.mg ("super" : Str) = none
  hN : X.N[0]? = some a0
  hat : (m == ("__class__" : Str)) = false
section
variable {X : Cx} {B : Bs} {CX : CXT} {P0 : Program} {k : Nat} {f cc Dc : Addr} {a0 m : Str} {b : List Stmt} {l : List (Str × DSp)} {RX : RXe} {was : WA} {e : Expr} {es : List Expr} {p0 p1 apos pos : Pos}
theorem sup_open {P : Hp} {al : List Addr} {M : Mt} {env : Ev} {σ : L2.St} {H : Hp} {R : Mt → D → DSp → Prop} (T : SupTab X CX k Dc m l) (rs : RS X.K B P al M env σ H)
    (h : match env[0]? with
      | some (some o) => supB l M o fun sp => R M o sp
      | _ => False) : ∃ o a C dx xs g sp, σ[0]? = some (some (.ref a)) ∧ Rep X.K P al o (.ref a) ∧ H a = some (.ins C dx xs) ∧ SupM X.K C Dc m g ∧ FnR X.prog X.w X.K X.mg X.base CX k g (toSp X.K sp) ∧ R M o sp := by
  split at h
  · rename_i o eo
    unfold supB at h
    split at h
    · rename_i n fs ev
      split at h
      · rename_i sp el
        obtain ⟨v, h1, h2⟩ := rs.slot _ _ eo
        obtain ⟨a, C, dx, xs, rfl, ha, hc, hf⟩ := view_obj rs.toRS0 h2 ev
        obtain ⟨C', g, ca, sm, F⟩ := T.look el
        obtain rfl := ca.one hc
        exact ⟨o, a, _, dx, xs, g, sp, h1, h2, ha, sm, F, h⟩
      · exact h.elim
    · exact h.elim
  · exact h.elim
theorem sa_sup (S : SupAt X P0 f cc Dc a0 m) (T : SupTab X CX k Dc m l) (hr : Room k X.A) (hx : Rz X B CX RX) (ha : DA B X (e :: es) was) {pl : Sem Bool}
    (hst : starEach (e :: es) X.env = (false, eval e X.env) :: starEach es X.env := by rfl) (hpl : (backTo pos (starEach es X.env)).any (·.1) = false := by rfl)
    (ht : eval (.Call (.Attribute (.Call (.Name ("super" : Str) p0) [] [] p1) m apos) (e :: es) [] pos) X.env = (do
      let ov ← attributeBase (.Call (.Name ("super" : Str) p0) [] [] p1) m X.env (eval (.Call (.Name ("super" : Str) p0) [] [] p1) X.env)
      standAt apos.atName
      let (f, first) ← holding [ov] (getMethod ov m pl)
      callWith pos f first (backTo pos (starEach (e :: es) X.env)) []) := by rfl) :
    DEA B X b (.Call (.Attribute (.Call (.Name ("super" : Str) p0) [] [] p1) m apos) (e :: es) [] pos) (wSup l RX was) := by
  refine ⟨fun pins s σ H Q I h => ?_⟩
  obtain ⟨P, al, M, env, R, rs, hw, L⟩ := h
  unfold wSup at hw
  obtain ⟨o, a, C, dx, xs, g, sp, h1, h2, h3, sm, F, q⟩ := sup_open (R := fun M o sp => was env M fun ds M1 => sp (o :: ds) M1 R fun nm fs M' => RX nm fs env M') T rs hw
  refine ks_wpAt_MethodCall (sup_node S.sm I S.U S.hf S.hcl S.kS S.kC S.kA S.hms S.hN h1 h3 sm.sub S.hat fun so s1 I1 => sup_meth I1 h3 sm S.hat fun q1 s2 bn I2 => ?_) ht
  refine ClX.callwith_cm I2 bn sm.fi (thn (ha.run pos _ s2 σ H _ I2 ⟨P, al, M, env, _, rs, q, fun ds M2 vs H2 P2 al2 e2 rs2 r2 q2 => sp_at rs2 (.cons (h2.mono e2.pp e2.pre) r2) (L.after e2) q2⟩) fun us s3 ⟨vs, H2, I3, rv, q2⟩ => ⟨⟨ClX.pin_at I3, I3.kIn⟩, ?_⟩) hst hpl
  have z := wpAny_call (PySem.W.method_call (ClX.pin_at I3) (run_at (us := .ref a :: us) (vs := .ref a :: vs) F hr (hx σ) I3 (.cons rfl rv) q2))
  exact thn z fun _ _ y => ClX.unpinE (ClX.unpinE y)
theorem sa_sup0 (S : SupAt X P0 f cc Dc a0 m) (T : SupTab X CX k Dc m l) (hr : Room k X.A) (hx : Rz X B CX RX) {pl : Sem Bool}
    (ht : eval (.Call (.Attribute (.Call (.Name ("super" : Str) p0) [] [] p1) m apos) [] [] pos) X.env = (do
      let ov ← attributeBase (.Call (.Name ("super" : Str) p0) [] [] p1) m X.env (eval (.Call (.Name ("super" : Str) p0) [] [] p1) X.env)
      standAt apos.atName
      let (f, first) ← holding [ov] (getMethod ov m pl)
      callWith pos f first (backTo pos (starEach [] X.env)) []) := by rfl) :
    DEA B X b (.Call (.Attribute (.Call (.Name ("super" : Str) p0) [] [] p1) m apos) [] [] pos) (wSup l RX wNil) := by
  refine ⟨fun pins s σ H Q I h => ?_⟩
  obtain ⟨P, al, M, env, R, rs, hw, L⟩ := h
  unfold wSup at hw
  obtain ⟨o, a, C, dx, xs, g, sp, h1, h2, h3, sm, F, q⟩ := sup_open (R := fun M o sp => wNil env M fun ds M1 => sp (o :: ds) M1 R fun nm fs M' => RX nm fs env M') T rs hw
  refine ks_wpAt_MethodCall (sup_node S.sm I S.U S.hf S.hcl S.kS S.kC S.kA S.hms S.hN h1 h3 sm.sub S.hat fun so s1 I1 => sup_meth I1 h3 sm S.hat fun q1 s2 bn I2 => ?_) ht
  refine PySem.W.callWith_M0 ⟨ClX.pin_at I2, I2.kIn⟩ sm.fi ?_
  have z := wpAny_call (PySem.W.method_call (ClX.pin_at I2) (run_at (us := [.ref a]) (vs := [.ref a]) F hr (hx σ) I2 (.cons rfl .nil) (sp_at rs (.cons h2 .nil) L q)))
  exact thn z fun _ _ y => ClX.unpinE (ClX.unpinE y)
/-- .. with a star behind the first argument -/
theorem sa_supS (S : SupAt X P0 f cc Dc a0 m) (T : SupTab X CX k Dc m l) (hr : Room k X.A) (hx : Rz X B CX RX) (ha : DA B X (e :: es) was)
    (he : starEach (e :: es) X.env = (false, eval e X.env) :: starEach es X.env := by rfl) (hst : (backTo pos (starEach es X.env)).any (·.1) = true := by rfl)
    (hform : methodCallForm ((e :: es).length + ([] : List Keyword).length) (backTo pos (starEach (e :: es) X.env)) [] = false := by rfl) :
    DEA B X b (.Call (.Attribute (.Call (.Name ("super" : Str) p0) [] [] p1) m apos) (e :: es) [] pos) (wSup l RX was) := by
  refine ⟨fun pins s σ H Q I h => ?_⟩
  obtain ⟨P, al, M, env, R, rs, hw, L⟩ := h
  unfold wSup at hw
  obtain ⟨o, a, C, dx, xs, g, sp, h1, h2, h3, sm, F, q⟩ := sup_open (R := fun M o sp => was env M fun ds M1 => sp (o :: ds) M1 R fun nm fs M' => RX nm fs env M') T rs hw
  refine wpAt_starcall hform (sup_node S.sm I S.U S.hf S.hcl S.kS S.kC S.kA S.hms S.hN h1 h3 sm.sub S.hat fun so s1 I1 => sup_attr I1 h3 sm S.hat fun q1 s2 bn I2 => ?_)
  have run := thn (ha.run pos _ s2 σ H _ I2 ⟨P, al, M, env, _, rs, q, fun ds M2 vs H2 P2 al2 e2 rs2 r2 q2 => sp_at rs2 (.cons (h2.mono e2.pp e2.pre) r2) (L.after e2) q2⟩) (Q' := fun us s3 => PySem.W.MethP X.K q1 g (.ref a) s3.heap ∧ wpAny (model X.prog X.w) X.A (call (.ref q1) us) (EP X pins σ Q) X.xe s3) fun us s3 ⟨vs, H2, I3, rv, q2⟩ => ⟨⟨ClX.pin_at I3, I3.kIn⟩, ?_⟩
  · rw [he] at run ⊢
    exact PySem.W.ks_call (P := PySem.W.MethP X.K q1 g (.ref a)) (by show (false || (backTo pos (starEach es X.env)).any (·.1)) = true; rw [hst]; rfl) (PySem.W.keeps_M sm.fi) (Calls.evalArgs_plain run)
  · have z := wpAny_call (PySem.W.method_call (ClX.pin_at I3) (run_at (us := .ref a :: us) (vs := .ref a :: vs) F hr (hx σ) I3 (.cons rfl rv) q2))
    exact thn z fun _ _ y => ClX.unpinE (ClX.unpinE y)
end
/-- a statement that drops a value, in the known activation -/
theorem sa_expr {X : Cx} {B : Bs} {b : List Stmt} {e : Expr} {we : WE} {pos : Pos} (he : DEA B X b e we) (hs : swapsWith e none pos.line X.env = pure false := by rfl) : DSA B X b (.Expr e pos) (wExp we) := by
  refine (psA_expr he hs).imp fun D σ H => ?_
  rintro ⟨P, al, M, env, k, rs, hw, L⟩
  exact ⟨P, al, M, env, _, rs, hw, fun d M1 v H1 P1 al1 e1 rs1 r1 q => L.nx _ _ _ _ _ _ e1 rs1 q⟩
/-! ### the defs -/
section
variable {P : Program} {w : World} {K : PySem.W.Frag} {mg : Str → Option Value} {base : Heap}
theorem bodyXS {qual : Str} {sc : Scope} {b : List Stmt} {f cc : Addr} {N : List Str} {sp : DSp} {cdv : Value} {A : Around} {outer : List Env} {s : Shared} {H : Hp} {E : XK} {vs : List V} {Q : VK} {wb : RXe → WS} (h : toSp K sp vs H Q E)
    (hb : ∀ (B : Bs) (RX : RXe), Takes (cxS (L2.CX P w) P w K mg base N qual sc f cdv cc A outer s H E) (WL K B RX) → DSsA B (cxS (L2.CX P w) P w K mg base N qual sc f cdv cc A outer s H E) b b (wb RX))
    (hw : ∀ ds M R RX, sp ds M R RX → M.all (cellOk M.length) = true → noCels M.length ds = true → wb (fun nm fs _ M' => rxF M.length RX nm fs M') (fnEnds M.length R) (startE N.length ds) M) :
    ∃ t, PSsA (cxS (L2.CX P w) P w K mg base N qual sc f cdv cc A outer s H E) b b t ∧ t { nx := fun _ H' => Q .non H', rt := Q } (start N vs) H := by
  obtain ⟨Pp, al, M, ds, R, RX, r0, r, hs, L, LX⟩ := h
  have el := r0.len
  have fin : ∀ d M' v H' P' al', Ext Pp al H P' al' H' → RS0 K (Pp, al, H) P' al' M' H' → Rep K P' al' d v → retF M.length R d M' → Q v H' := fun d M' v H' P' al' e r' rd q => by
    cases q with
    | keep q => exact L d M' v H' P' al' e r' rd q
    | less q1 q2 q3 =>
      rw [← el] at q1 q2 q3
      refine L d _ v H' P' al ⟨e.pp, List.prefix_refl _, e.fr, fun b m n => absurd m n, e.pn⟩ (r'.drop fun i m hi hm => ?_) (rd.cut e.pre q1) q3
      exact List.all_eq_true.mp q2 m (List.mem_of_getElem? (by rw [List.getElem?_take_of_lt hi]; exact hm))
  have finX : ∀ C nm fs M' H' P' al' dd, Ext Pp al H P' al' H' → RS0 K (Pp, al, H) P' al' M' H' → ClsAt K nm C → XdOk K P' al' H' fs dd → rxF M.length RX nm fs M' → E (.ref C) dd H' := fun C nm fs M' H' P' al' dd e r' c xd q => by
    cases q with
    | keep q => exact LX C nm fs M' H' P' al' dd e r' c xd q
    | less q1 q2 q3 =>
      rw [← el] at q1 q2 q3
      refine LX C nm fs _ H' P' al dd ⟨e.pp, List.prefix_refl _, e.fr, fun b m n => absurd m n, e.pn⟩ (r'.drop fun i m hi hm => ?_) c (xd.cut e.pre q1) q3
      exact List.all_eq_true.mp q2 m (List.mem_of_getElem? (by rw [List.getElem?_take_of_lt hi]; exact hm))
  obtain ⟨s1, s2⟩ := start_slots (N := N) r
  refine ⟨_, hb (Pp, al, H) _ ((takes_of rfl rfl rfl rfl).imp fun c d σ H' h => ?_), Pp, al, M, _, _, ⟨r0, s1, s2⟩, hw ds M R RX hs r0.inside (by rw [← el]; exact r.inside), ⟨fun env' M' σ' H' P' al' e rs q => fin _ _ _ _ _ _ e rs.toRS0 .non q, fun d M' v H' P' al' e rs rd q => fin _ _ _ _ _ _ e rs rd q, fun _ _ _ _ _ _ _ _ z => z.elim, fun _ _ _ _ _ _ _ _ z => z.elim⟩⟩
  obtain ⟨C, nm, fs, env, P', al', M', rfl, c, rs, xd, q⟩ := h
  exact finX C nm fs M' H' P' al' d rs.base rs.toRS0 c xd q
theorem dfnC {name qual : Str} {st : Stmt} {f cc : Addr} {kV doc pm cdv ct oc : Value} {an od : Option Addr} {osl : Array (Option Value)} {N ps : List Str} {k : Nat} {sp : DSp} {wb : RXe → WS}
    (lk : K.lookup f = some ⟨oc, od, .func (PySem.W.ksFn name qual (defArgs st) (defBody st) (defScope st) .none kV doc pm an cdv ct cc), osl⟩) (hcd : PySem.W.codeIn K cdv qual = true) (hkc : ∃ cl cld v csl, K.lookup cc = some ⟨cl, cld, .cell v, csl⟩) (S : SScope N ps (defScope st))
    (hbi : ∀ us : List Value, us.length = ps.length → bindArgs (PySem.W.ksFn name qual (defArgs st) (defBody st) (defScope st) .none kV doc pm an cdv ct cc) ⟨us, []⟩ = pure (ps.zip us)) (len : ∀ ds M R RX, sp ds M R RX → ds.length = ps.length)
    (body : ∀ (A : Around) (outer : List Env) (s : Shared) (H : Hp) (E : XK), Room k (A.deeper (kS qual (defScope st) f cdv cc s)) → ∀ (B : Bs) (RX : RXe), Takes (cxS (L2.CX P w) P w K mg base N qual (defScope st) f cdv cc A outer s H E) (WL K B RX) → DSsA B (cxS (L2.CX P w) P w K mg base N qual (defScope st) f cdv cc A outer s H E) (defBody st) (defBody st) (wb RX))
    (hw : ∀ ds M R RX, sp ds M R RX → M.all (cellOk M.length) = true → noCels M.length ds = true → wb (fun nm fs _ M' => rxF M.length RX nm fs M') (fnEnds M.length R) (startE N.length ds) M) :
    FnR P w K mg base (L2.CX P w) (k + 1) f (toSp K sp) :=
  fnS_of lk hcd hkc S hbi (fun vs H Q E h => by
    obtain ⟨P, al, M, ds, R, RX, _, r, hs, _⟩ := h
    rw [← r.length]; exact len _ _ _ _ hs) fun A outer s H vs Q E hr h => bodyXS h (fun B RX => body A outer s H E hr B RX) hw
theorem dfnCS {name qual pv : Str} {st : Stmt} {f cc : Addr} {kV doc pm cdv ct oc : Value} {an od : Option Addr} {osl : Array (Option Value)} {N ps : List Str} {k : Nat} {sp : DSp} {wb : RXe → WS}
    (lk : K.lookup f = some ⟨oc, od, .func (PySem.W.ksFn name qual (defArgs st) (defBody st) (defScope st) .none kV doc pm an cdv ct cc), osl⟩) (hcd : PySem.W.codeIn K cdv qual = true) (hkc : ∃ cl cld v csl, K.lookup cc = some ⟨cl, cld, .cell v, csl⟩) (S : SScope N (ps ++ [pv]) (defScope st))
    (hbi : ∀ us rest : List Value, us.length = ps.length → bindArgs (PySem.W.ksFn name qual (defArgs st) (defBody st) (defScope st) .none kV doc pm an cdv ct cc) ⟨us ++ rest, []⟩ = (newTuple rest >>= fun t => pure (ps.zip us ++ [(pv, t)])))
    (body : ∀ (A : Around) (outer : List Env) (s : Shared) (H : Hp) (E : XK), Room k (A.deeper (kS qual (defScope st) f cdv cc s)) → ∀ (B : Bs) (RX : RXe), Takes (cxS (L2.CX P w) P w K mg base N qual (defScope st) f cdv cc A outer s H E) (WL K B RX) → DSsA B (cxS (L2.CX P w) P w K mg base N qual (defScope st) f cdv cc A outer s H E) (defBody st) (defBody st) (wb RX))
    (hw : ∀ ds M R RX, sp ds M R RX → M.all (cellOk M.length) = true → noCels M.length ds = true → wb (fun nm fs _ M' => rxF M.length RX nm fs M') (fnEnds M.length R) (startE N.length ds) M) :
    FnR P w K mg base (L2.CX P w) (k + 1) f (toSp K (starSp ps.length sp)) := by
  refine (fnS_star (sp := toSp K sp) lk hcd hkc S StX.cxUp hbi fun A outer s H vs Q E hr h => bodyXS h (fun B RX => body A outer s H E hr B RX) hw).imp fun vs H Q E h => ?_
  obtain ⟨Pp, al, M, ds, R, RX, r0, r, ⟨hl, hs⟩, L, LX⟩ := h
  obtain ⟨hl, hz⟩ := hl.out
  rw [r.length] at hl hz
  refine ⟨vs.take ps.length, vs.drop ps.length, (List.take_append_drop _ _).symm, by rw [List.length_take]; omega, by rw [List.length_drop]; omega, fun p hp => ?_⟩
  obtain ⟨e, r1⟩ := r0.alloc hp (.tup (vs.drop ps.length))
  refine ⟨_, al, M, _, R, RX, r1.here, ((r.take _).mono e.pp e.pre).append (.cons (.tup (.inl (.inl upd_same)) ((r.drop _).mono e.pp e.pre)) .nil), hs, fun d M' v H' P' al' e2 r2 rd q => L d M' v H' P' al' (e.trans e2) (r2.rebase (e.trans e2)) rd q, fun C n fs M' H' P' al' dd e2 r2 c xd q => LX C n fs M' H' P' al' dd (e.trans e2) (r2.rebase (e.trans e2)) c xd q⟩
end
end L3

namespace L3
open PySem PySem.Spec PyProof.Rows L2
/-! ### o.m(..), o of one of several classes -/
inductive MethTab (X : Cx) (CX : CXT) (k : Nat) (m : Str) : List (Str × DSp) → Prop
  | nil : MethTab X CX k m []
  | cons {n : Str} {C g : Addr} {sp : DSp} {l : List (Str × DSp)} : ClsAt X.K n C → Cls X.K C → Meth X.K C m g → FnR X.prog X.w X.K X.mg X.base CX k g (toSp X.K sp) → MethTab X CX k m l → MethTab X CX k m ((n, sp) :: l)
theorem MethTab.look {X : Cx} {CX : CXT} {k : Nat} {m n : Str} {sp : DSp} : ∀ {l : List (Str × DSp)}, MethTab X CX k m l → l.lookup n = some sp → ∃ C g, ClsAt X.K n C ∧ Cls X.K C ∧ Meth X.K C m g ∧ FnR X.prog X.w X.K X.mg X.base CX k g (toSp X.K sp)
  | _, .nil, e => by cases e
  | _, .cons (n := n') ca cl me F t, e => by
    by_cases h : (n == n') = true
    · rw [List.lookup, h] at e
      cases e
      have := eq_of_beq h
      subst this
      exact ⟨_, _, ca, cl, me, F⟩
    · have h : (n == n') = false := by simpa using h
      rw [List.lookup, h] at e
      exact MethTab.look t e
@[irreducible] def methB (l : List (Str × DSp)) (m : Str) (M : Mt) (o : D) (k : DSp → Prop) : Prop := match viewD M o with
  | .obj n fs => Need (fs.lookup m = none) ∧ match l.lookup n with
    | some sp => k sp
    | none => False
  | _ => False
def wMethV (l : List (Str × DSp)) (m : Str) (RX : RXe) (wo : WE) (was : WA) : WE := fun env M R => wo env M fun o M1 => methB l m M1 o fun sp => was env M1 fun ds M2 => sp (o :: ds) M2 R fun nm fs M' => RX nm fs env M'
section
variable {X : Cx} {B : Bs} {CX : CXT} {k : Nat} {l : List (Str × DSp)} {m : Str} {RX : RXe} {wo : WE} {was : WA} {o e : Expr} {es : List Expr} {apos pos : Pos} {pl : Sem Bool}
theorem meth_open {P : Hp} {al : List Addr} {M : Mt} {env : Ev} {σ : L2.St} {H : Hp} {d : D} {v : V} {R : DSp → Prop} (T : MethTab X CX k m l) (rs : RS X.K B P al M env σ H) (r : Rep X.K P al d v) (h : methB l m M d R) :
    ∃ a C dx xs g sp, v = .ref a ∧ H a = some (.ins C dx xs) ∧ xs.lookup m = none ∧ Cls X.K C ∧ Meth X.K C m g ∧ FnR X.prog X.w X.K X.mg X.base CX k g (toSp X.K sp) ∧ R sp := by
  unfold methB at h
  split at h
  · rename_i n fs ev
    obtain ⟨hl, h⟩ := h
    split at h
    · rename_i sp el
      obtain ⟨a, C, dx, xs, rfl, ha, hc, hf⟩ := view_obj rs.toRS0 r ev
      obtain ⟨C', g, ca, cl, me, F⟩ := T.look el
      obtain rfl := ca.one hc
      exact ⟨a, _, dx, xs, g, sp, rfl, ha, hf.lack hl.out, cl, me, F, h⟩
    · exact h.elim
  · exact h.elim
theorem d_methV (T : MethTab X CX k m l) (hr : Room k X.A) (hx : Rz X B CX RX) (ho : DE B X o wo) (ha : DA B X (e :: es) was)
    (hst : starEach (e :: es) X.env = (false, eval e X.env) :: starEach es X.env := by rfl) (hpl : (backTo pos (starEach es X.env)).any (·.1) = false := by rfl)
    (ht : eval (.Call (.Attribute o m apos) (e :: es) [] pos) X.env = (do
      let ov ← eval o X.env
      standAt apos.atName
      let (f, fst) ← holding [ov] (getMethod ov m pl)
      callWith pos f fst (backTo pos (starEach (e :: es) X.env)) (backToKw pos (keywordEach [] X.env))) := by rfl) : DE B X (.Call (.Attribute o m apos) (e :: es) [] pos) (wMethV l m RX wo was) := by
  refine ⟨fun pins s σ H Q I h => ?_⟩
  obtain ⟨P, al, M, env, R, rs, hw, L⟩ := h
  refine PySem.W.methodCall_KW (pl := pl) (thn (ho.run pins s σ H (fun x H1 => ∃ a C dx xs g sp, x = .ref a ∧ H1 a = some (.ins C dx xs) ∧ xs.lookup m = none ∧ Cls X.K C ∧ Meth X.K C m g ∧ FnR X.prog X.w X.K X.mg X.base CX k g (toSp X.K sp) ∧
    tDA X.K B was σ H1 fun vs H2 => toSp X.K sp (x :: vs) H2 Q (L2.WE (WL X.K B RX) σ)) I ⟨P, al, M, env, _, rs, hw, fun d M1 v H1 P1 al1 e1 rs1 r1 q => ?_⟩) fun u s1 ⟨x, H1, I1, rx, a, C, dx, xs, g, sp, ex, ea, hl, cl, me, F, q⟩ => ?_) ht
  · obtain ⟨a, C, dx, xs, g, sp, rfl, ha, hl, cl, me, F, q⟩ := meth_open T rs1 r1 q
    exact ⟨a, C, dx, xs, g, sp, rfl, ha, hl, cl, me, F, P1, al1, M1, env, _, rs1, q, fun ds M2 vs H2 P2 al2 e2 rs2 r2 q2 => sp_at rs2 (.cons (r1.mono e2.pp e2.pre) r2) (L.after (e1.trans e2)) q2⟩
  · subst ex
    cases rx
    exact getmeth_ok I1 ea cl me hl (PySem.W.callWith_K (first := [.ref a]) (h₀ := X.base) I.ok.mod.kin me.kp (thn (ha.run pos pins s1 σ H1 _ I1 q) fun us s2 ⟨vs, H2, I2, r, q2⟩ => ⟨I2.kIn, wpAny_call (run_at (us := .ref a :: us) (vs := .ref a :: vs) F hr (hx σ) I2 (.cons rfl r) q2)⟩) hst hpl)
theorem d_methV0 (T : MethTab X CX k m l) (hr : Room k X.A) (hx : Rz X B CX RX) (ho : DE B X o wo)
    (ht : eval (.Call (.Attribute o m apos) [] [] pos) X.env = (do
      let ov ← eval o X.env
      standAt apos.atName
      let (f, fst) ← holding [ov] (getMethod ov m pl)
      callWith pos f fst (backTo pos (starEach [] X.env)) (backToKw pos (keywordEach [] X.env))) := by rfl) : DE B X (.Call (.Attribute o m apos) [] [] pos) (wMethV l m RX wo wNil) := by
  refine ⟨fun pins s σ H Q I h => ?_⟩
  obtain ⟨P, al, M, env, R, rs, hw, L⟩ := h
  refine PySem.W.methodCall_KW (pl := pl) (thn (ho.run pins s σ H (fun x H1 => ∃ a C dx xs g sp, x = .ref a ∧ H1 a = some (.ins C dx xs) ∧ xs.lookup m = none ∧ Cls X.K C ∧ Meth X.K C m g ∧ FnR X.prog X.w X.K X.mg X.base CX k g (toSp X.K sp) ∧
    toSp X.K sp [x] H1 Q (L2.WE (WL X.K B RX) σ)) I ⟨P, al, M, env, _, rs, hw, fun d M1 v H1 P1 al1 e1 rs1 r1 q => ?_⟩) fun u s1 ⟨x, H1, I1, rx, a, C, dx, xs, g, sp, ex, ea, hl, cl, me, F, q⟩ => ?_) ht
  · obtain ⟨a, C, dx, xs, g, sp, rfl, ha, hl, cl, me, F, q⟩ := meth_open T rs1 r1 q
    exact ⟨a, C, dx, xs, g, sp, rfl, ha, hl, cl, me, F, sp_at rs1 (.cons r1 .nil) (L.after e1) q⟩
  · subst ex
    cases rx
    exact getmeth_ok I1 ea cl me hl (PySem.W.callWith_K0 (first := [.ref a]) I1.kIn me.kp (wpAny_call (run_at (us := [.ref a]) (vs := [.ref a]) F hr (hx σ) I1 (.cons rfl .nil) q)))
end
/-! ### o(..), o of one of several classes -/
/-! ### fields of instances of several classes -/
inductive FldTab (K : PySem.W.Frag) (f : Str) : List Str → Prop
  | nil : FldTab K f []
  | cons {n : Str} {C : Addr} {l : List Str} : ClsAt K n C → Cls K C → NoAttr K C f → FldTab K f l → FldTab K f (n :: l)
theorem FldTab.look {K : PySem.W.Frag} {f n : Str} : ∀ {l : List Str}, FldTab K f l → l.contains n = true → ∃ C, ClsAt K n C ∧ Cls K C ∧ NoAttr K C f
  | _, .nil, e => by cases e
  | _, .cons (n := n') ca cl na t, e => by
    rw [List.contains_cons, Bool.or_eq_true] at e
    rcases e with e | e
    · have := eq_of_beq e
      subst this
      exact ⟨_, ca, cl, na⟩
    · exact FldTab.look t e
def wFldV (ns : List Str) (f : Str) (w : WE) : WE := fun env M R => w env M fun d M1 => match viewD M1 d with
  | .obj n fs => Need (ns.contains n = true) ∧ match fs.lookup f with
    | some v => R v M1
    | none => False
  | _ => False
@[irreducible] def dsetFV (ns : List Str) (f : Str) (d o : D) (M2 : Mt) (R : Mt → Prop) : Prop := match o with
  | .cel i => match M2[i]? with
    | some (.obj n fs) => Need (ns.contains n = true ∧ fs.length < 1000) ∧ R (M2.set i (.obj n (putFD f d fs)))
    | _ => False
  | _ => False
def wSetFV (ns : List Str) (f : Str) (wo wv : WE) : WS := fun k env M => wv env M fun d M1 => wo env M1 fun o M2 => dsetFV ns f d o M2 (k.nx env)
section
variable {X : Cx} {B : Bs} {e o value : Expr} {w wo wv : WE} {pos pos' : Pos} {f : Str} {ns : List Str}
theorem d_fldV (T : FldTab X.K f ns) (he : DE B X e w) (hb : attributeBase e f X.env (eval e X.env) = eval e X.env := by rfl) : DE B X (.Attribute e f pos) (wFldV ns f w) := by
  refine (pe_fld he hb).imp fun σ H Q => ?_
  rintro ⟨P, al, M, env, R, rs, hw, L⟩
  refine ⟨P, al, M, env, _, rs, hw, fun d M1 v H1 P1 al1 e1 rs1 r1 q => ?_⟩
  split at q
  · rename_i n fs ev
    obtain ⟨hn, q⟩ := q
    split at q
    · rename_i v' el
      obtain ⟨a, C, dx, xs, rfl, ha, hc, hf⟩ := view_obj rs1.toRS0 r1 ev
      obtain ⟨C', ca, cl, na⟩ := T.look hn.out
      obtain rfl := ca.one hc
      obtain ⟨y, h1, h2⟩ := hf.find el
      exact ⟨a, _, dx, xs, y, rfl, ha, cl, na, h1, (L.after e1).here rs1 h2 q⟩
    · exact q.elim
  · exact q.elim
theorem d_setFV (T : FldTab X.K f ns) (ho : DE B X o wo) (hv : DE B X value wv) (hs : swapsWith value (some (.Attribute o f pos')) pos.line X.env = pure false := by rfl) : DS B X (.Assign [.Attribute o f pos'] value pos) (wSetFV ns f wo wv) := by
  refine (ps_fld ho hv hs).imp fun D σ H => ?_
  rintro ⟨P, al, M, env, k, rs, hw, L⟩
  refine ⟨P, al, M, env, _, rs, hw, fun d M1 v H1 P1 al1 e1 rs1 r1 hw1 => ⟨P1, al1, M1, env, _, rs1, hw1, fun d2 M2 v2 H2 P2 al2 e2 rs2 r2 q => ?_⟩⟩
  unfold dsetFV at q
  split at q
  · rename_i i
    split at q
    · rename_i n fs hm
      obtain ⟨hn, q⟩ := q
      obtain ⟨hn, hl⟩ := hn.out
      obtain ⟨a, rfl, ha, np, C, dx, gs, h1, hc, h2⟩ := cell_at rs2.toRS0 hm r2
      obtain ⟨C', ca, cl, na⟩ := T.look hn
      obtain rfl := ca.one hc
      obtain ⟨e3, r3⟩ := rs2.toRS0.change (o' := .ins C' dx (putF f v gs)) (m' := .obj n (putFD f d fs)) ha hm rfl fun H' hH => ⟨np, _, dx, _, hH, hc, h2.put (r1.mono e2.pp e2.pre)⟩
      exact ⟨a, _, dx, gs, rfl, h1, cl, na, by rw [← h2.length]; exact hl, L.nx _ _ _ _ _ _ ((e1.trans e2).trans e3) (rs2.step e3 r3) q⟩
    · exact q.elim
  · exact q.elim
end
/-! ### a dict that changes is walked and read within one expression -/
/-! ### l.reverse() -/
end L3

namespace L3
open PySem PySem.Spec PyProof.Rows PyProof.V L2
/-! ### repr of nested data, through the table -/
mutual
inductive Gr (K : PySem.W.Frag) (H : Hp) : V → PyData → Prop
  | non : Gr K H .non .none
  | bl (b : Bool) : Gr K H (.bl b) (.bool b)
  | int (i : Int) : Gr K H (.int i) (.int i)
  | str (s : Str) : Gr K H (.str s) (.str s)
  | lst {a : Addr} {xs : List V} {ps : List PyData} : SqL K H a xs → GrA K H xs ps → Gr K H (.ref a) (.list ps)
  | tup {a : Addr} {xs : List V} {ps : List PyData} : SqT K H a xs → GrA K H xs ps → Gr K H (.ref a) (.tuple ps)
  | dct {a : Addr} {kvs : List (Key × V)} {ps : List (PyData × PyData)} : Rd H a (.dK kvs) → GrK K H kvs ps → Gr K H (.ref a) (.dict ps)
inductive GrA (K : PySem.W.Frag) (H : Hp) : List V → List PyData → Prop
  | nil : GrA K H [] []
  | cons {v : V} {p : PyData} {vs : List V} {ps : List PyData} : Gr K H v p → GrA K H vs ps → GrA K H (v :: vs) (p :: ps)
inductive GrK (K : PySem.W.Frag) (H : Hp) : List (Key × V) → List (PyData × PyData) → Prop
  | nil : GrK K H [] []
  | cons {k : Key} {v : V} {p : PyData} {vs : List (Key × V)} {ps : List (PyData × PyData)} : Gr K H v p → GrK K H vs ps → GrK K H ((k, v) :: vs) ((keyP k, p) :: ps)
end
/-- the table of modules is a dict -/
def SmK (K : PySem.W.Frag) : Prop := ∃ o, K.lookup sysModules = some o ∧ o.cls = .type "dict"
section
variable {X : Cx} {pins : List (Addr × Obj)} {σ : L2.St} {H : Hp} {s : Shared}
mutual
theorem Gr.reads (I : Inv X pins σ H s) (sm : SmK X.K) : ∀ {v : V} {p : PyData} {u : Value}, Gr X.K H v p → RelV v u → ∃ as, Reads s.heap u p as ∧ sysModules ∉ as
  | _, _, _, .non, r => by cases r; exact ⟨_, .none, by simp⟩
  | _, _, _, .bl b, r => by cases r; exact ⟨_, .bool b, by simp⟩
  | _, _, _, .int i, r => by obtain ⟨t, rfl⟩ := r; exact ⟨_, .int i t, by simp⟩
  | _, _, _, .str x, r => by obtain ⟨t, rfl⟩ := r; exact ⟨_, .str x t, by simp⟩
  | _, _, _, .lst hs ha, r => by
    cases r
    obtain ⟨its, rv, ⟨o, n, ho, hc, _, hd⟩, _⟩ := I.list hs
    obtain ⟨as, hr, hn⟩ := GrA.reads I sm (us := its) ha rv
    refine ⟨_, Reads.list ho hc hd hr, fun z => ?_⟩
    rcases List.mem_cons.mp z with e | e
    · obtain ⟨o2, h2, h3⟩ := sm
      have h4 := I.kIn _ _ h2
      rw [e, ho] at h4
      cases h4
      rw [hc] at h3
      exact absurd h3 (by decide)
    · exact hn e
  | _, _, _, .tup hs ha, r => by
    cases r
    obtain ⟨its, rv, ⟨o, ho, hc, n, hd⟩, _⟩ := I.tuple hs
    obtain ⟨as, hr, hn⟩ := GrA.reads I sm (us := its) ha rv
    exact ⟨_, Reads.tuple ho hc hd hr, hn⟩
  | _, _, _, .dct hd hk, r => by
    cases r
    obtain ⟨_, lo, vs, rel, dd⟩ := dk_rd I.hok hd
    obtain ⟨bs, hr, hn⟩ := GrK.reads I sm hk rel
    refine ⟨_, reads_dictOf (enc := keyP) key_reads dd hr, fun z => ?_⟩
    rcases List.mem_cons.mp z with e | e
    · rw [← e] at lo
      simp at lo
    · exact hn e
theorem GrA.reads (I : Inv X pins σ H s) (sm : SmK X.K) : ∀ {vs : List V} {ps : List PyData} {us : List Value}, GrA X.K H vs ps → Vals vs us → ∃ as, ReadsAll s.heap us ps as ∧ sysModules ∉ as
  | _, _, _, .nil, r => by cases r; exact ⟨_, .nil, by simp⟩
  | _, _, _, .cons h t, r => by
    cases r with
    | cons r1 r2 =>
      obtain ⟨as, q1, n1⟩ := Gr.reads I sm h r1
      obtain ⟨bs, q2, n2⟩ := GrA.reads I sm t r2
      exact ⟨_, .cons q1 q2, fun z => (List.mem_append.mp z).elim n1 n2⟩
theorem GrK.reads (I : Inv X pins σ H s) (sm : SmK X.K) : ∀ {kvs : List (Key × V)} {ps : List (PyData × PyData)} {vs : List (Key × Value)}, GrK X.K H kvs ps → KV kvs vs → ∃ bs, PairsRead s.heap keyP vs ps bs ∧ sysModules ∉ bs
  | _, _, _, .nil, r => by cases r; exact ⟨_, .nil, by simp⟩
  | _, _, _, .cons (k := k) h t, r => by
    cases r with
    | cons r1 r2 =>
      rename_i y ys
      obtain ⟨k', u⟩ := y
      obtain ⟨e, r1⟩ := r1
      have e' : k = k' := e
      subst e'
      obtain ⟨as, q1, n1⟩ := Gr.reads I sm h r1
      obtain ⟨bs, q2, n2⟩ := GrK.reads I sm t r2
      exact ⟨_, .cons q1 q2, fun z => (List.mem_append.mp z).elim n1 n2⟩
end
end
def rReprC (K : PySem.W.Frag) : List V → Hp → VK → Prop := fun xs H Q => ∃ v p, xs = [v] ∧ Gr K H v p ∧ RpOk p ∧ Q (.str p.shown) H
theorem repr_C {X : Cx} (sm : SmK X.K) (quiet : X.A.guards = some []) (room : X.A.units + 64 < cLine) : CallR X (.builtin "repr") (rReprC X.K) := by
  intro pins s σ H xs us Q I r h
  obtain ⟨v, p, rfl, hd, ⟨hs, hdep, hsz⟩, q⟩ := h
  obtain ⟨u, rfl, rv⟩ := vals1 r
  obtain ⟨as, hr, hsm⟩ := hd.reads I sm rv
  have fin : ∀ (h' : Heap) (tok : Tok) (tk : Tok), (∀ b o, s.heap.get? b = some o → h'.get? b = some o) → EP X pins σ Q (.str p.shown tok) { s with heap := h', toks := tk } := fun h' tok tk k =>
    ⟨.str p.shown, H, I.kept k, ⟨_, rfl⟩, q⟩
  have same : ∀ (tok tk : Tok), EP X pins σ Q (.str p.shown tok) { s with toks := tk } := fun tok tk => ⟨.str p.shown, H, I.tok tk, ⟨_, rfl⟩, q⟩
  cases hr with
  | none => exact PySem.P.repr_of_none (same _ _)
  | bool b => exact PySem.P.repr_of_bool (by have := same s.toks (s.toks + 1); simpa [PyData.shown] using this)
  | int i t => exact PySem.P.repr_of_int (by simpa [PyData.showable] using hs) (by have := same s.toks (s.toks + 1); simpa [PyData.shown] using this)
  | str x t => exact PySem.P.repr_of_str (by have := same s.toks (s.toks + 1); simpa [PyData.shown] using this) (by simpa [PyData.shown] using hsz)
  | list h1 h2 h3 h4 => exact repr_of_reads' (.list h1 h2 h3 h4) hs (fun _ => hsm) quiet (by omega) (fun _ _ e => e) (fun h' u tk k => fin h' u tk k) hsz
  | tuple h1 h2 h3 h4 => exact repr_of_reads' (.tuple h1 h2 h3 h4) hs (fun _ => hsm) quiet (by omega) (fun _ _ e => e) (fun h' u tk k => fin h' u tk k) hsz
  | dict h1 h2 h3 h4 h5 => exact repr_of_reads' (.dict h1 h2 h3 h4 h5) hs (fun _ => hsm) quiet (by omega) (fun _ _ e => e) (fun h' u tk k => fin h' u tk k) hsz
def mapO {α β : Type} (f : α → Option β) : List α → Option (List β)
  | [] => some []
  | a :: r => match f a, mapO f r with
    | some b, some bs => some (b :: bs)
    | _, _ => none
/-- the datum that repr tells, objects that change looked up in the table -/
def rpC (M : Mt) : Nat → D → Option PyData
  | 0, _ => none
  | n + 1, d => match viewD M d with
    | .non => some .none
    | .bl b => some (.bool b)
    | .int i => some (.int i)
    | .str s => some (.str s)
    | .tup l => (mapO (rpC M n) l).map .tuple
    | .lst l => (mapO (rpC M n) l).map .list
    | .rol l => (mapO (rpC M n) l).map .list
    | .dct ks => (mapO (fun (p : Key × D) => (rpC M n p.2).map fun q => (keyP p.1, q)) ks).map .dict
    | .fdc ks => (mapO (fun (p : Key × D) => (rpC M n p.2).map fun q => (keyP p.1, q)) ks).map .dict
    | _ => none
section
variable {K : PySem.W.Frag} {B : Bs} {P : Hp} {al : List Addr} {M : Mt} {H : Hp}
theorem mapO_gr {f : D → Option PyData} (h : ∀ {d : D} {v : V} {p : PyData}, Rep K P al d v → f d = some p → Gr K H v p) : ∀ {ds : List D} {vs : List V} {ps : List PyData}, Reps K P al ds vs → mapO f ds = some ps → GrA K H vs ps
  | _, _, _, .nil, e => by cases e; exact .nil
  | _, _, _, .cons r t, e => by
    unfold mapO at e
    split at e
    · rename_i b bs h1 h2
      cases e
      exact .cons (h r h1) (mapO_gr h t h2)
    · cases e
theorem mapO_grK {f : D → Option PyData} (h : ∀ {d : D} {v : V} {p : PyData}, Rep K P al d v → f d = some p → Gr K H v p) : ∀ {ds : List (Key × D)} {vs : List (Key × V)} {ps : List (PyData × PyData)}, RepKs K P al ds vs → mapO (fun (p : Key × D) => (f p.2).map fun q => (keyP p.1, q)) ds = some ps → GrK K H vs ps
  | _, _, _, .nil, e => by cases e; exact .nil
  | _, _, _, .cons (d := d) r t, e => by
    unfold mapO at e
    split at e
    · rename_i b bs h1 h2
      cases e
      cases hf : f d with
      | none => simp [hf] at h1
      | some q =>
        simp [hf] at h1
        subst h1
        exact .cons (h r hf) (mapO_grK h t h2)
    · cases e
theorem map_some {α β : Type} {f : α → β} {o : Option α} {b : β} (h : o.map f = some b) : ∃ a, o = some a ∧ f a = b := by
  cases o with
  | none => cases h
  | some a => exact ⟨a, rfl, Option.some.inj h⟩
theorem rpC_gr (rs : RS0 K B P al M H) : ∀ (n : Nat) {d : D} {v : V} {p : PyData}, Rep K P al d v → rpC M n d = some p → Gr K H v p
  | 0, _, _, _, _, e => by cases e
  | n + 1, d, v, p, r, e => by
    have ih : ∀ {d : D} {v : V} {p : PyData}, Rep K P al d v → rpC M n d = some p → Gr K H v p := fun r e => rpC_gr rs n r e
    unfold rpC at e
    split at e
    · rename_i h; cases view_non r h; cases e; exact .non
    · rename_i h; cases view_bl r h; cases e; exact .bl _
    · rename_i h; cases view_int r h; cases e; exact .int _
    · rename_i h; cases view_str r h; cases e; exact .str _
    · rename_i h
      obtain ⟨a, xs, rfl, h1, h2⟩ := view_tup rs r h
      obtain ⟨ps, e1, rfl⟩ := map_some e
      exact .tup h1 (mapO_gr ih h2 e1)
    · rename_i h
      obtain ⟨a, xs, rfl, h1, h2⟩ := view_lst rs r h
      obtain ⟨ps, e1, rfl⟩ := map_some e
      exact .lst (.inl (.inl h1)) (mapO_gr ih h2 e1)
    · rename_i h
      obtain ⟨a, xs, rfl, h1, h2⟩ := view_rol rs r h
      obtain ⟨ps, e1, rfl⟩ := map_some e
      exact .lst h1 (mapO_gr ih h2 e1)
    · rename_i h
      obtain ⟨a, xs, rfl, h1, h2⟩ := view_dct rs r h
      obtain ⟨ps, e1, rfl⟩ := map_some e
      exact .dct (.inl h1) (mapO_grK ih h2 e1)
    · rename_i h
      obtain ⟨a, xs, rfl, h1, h2⟩ := view_fdc rs r h
      obtain ⟨ps, e1, rfl⟩ := map_some e
      exact .dct h1 (mapO_grK ih h2 e1)
    · cases e
end
@[irreducible] def cReprC : WCl := fun ds M R => match ds with
  | [x] => match rpC M 12 x with
    | some p => Need (RpOk p) ∧ R (.str p.shown) M
    | none => False
  | _ => False
theorem cReprC_ok {K : PySem.W.Frag} {B : Bs} : CallD K B (rReprC K) cReprC := by
  intro P al M env σ H vs ds R Q rs r h L
  unfold cReprC at h
  split at h
  · cases r with
    | cons r1 t =>
      cases t
      split at h
      · rename_i p e
        exact ⟨_, p, rfl, rpC_gr rs.toRS0 12 r1 e, h.1.out, L.here rs (.str _) h.2⟩
      · exact h.elim
  · exact h.elim
theorem reprC_use {M : Mt} {x : D} {R : D → Mt → Prop} {p : PyData} (h : rpC M 12 x = some p) (ok : RpOk p) (k : R (.str p.shown) M) : cReprC [x] M R := by
  simp only [cReprC, h]; exact ⟨⟨ok⟩, k⟩
/-! ### dict(d), a copy -/
/-! ### dicts of ints compared -/
inductive HitV (ls : List (Key × V)) : List (Key × V) → Bool → Prop
  | nil : HitV ls [] true
  | miss {k : Key} {v : V} {r : List (Key × V)} : valV ls k = none → HitV ls ((k, v) :: r) false
  | hit {k : Key} {i j : Int} {r : List (Key × V)} {b : Bool} : valV ls k = some (.int j) → HitV ls r b → HitV ls ((k, .int i) :: r) (decide (i = j) && b)
def rCmpDI (f : Bool → Bool) : R2 := fun x y H Q => ∃ a b kvs lvs r, x = .ref a ∧ y = .ref b ∧ Rd H a (.dK kvs) ∧ Rd H b (.dK lvs) ∧ HitV lvs kvs r ∧ Q (.bl (f (decide (kvs.length = lvs.length) && r))) H
section
variable {X : Cx}
theorem hit_run {A : Around} {s : Shared} {ls : List (Key × V)} {vb : List (Key × Value)} (hu : A.in1.units + 64 < cLine) (rb : KV ls vb) : ∀ {ks : List (Key × V)} {va : List (Key × Value)} {r : Bool}, HitV ls ks r → KV ks va → PySem.W.KeqHits A.in1 s vb va r
  | _, _, _, .nil, h => by cases h; exact .nil
  | _, _, _, .miss (k := k) hn, h => by
    cases h with
    | cons h1 h2 =>
      rename_i y ys
      obtain ⟨k', u⟩ := y
      obtain ⟨e, _⟩ := h1
      have e : k = k' := e
      subst e
      refine .miss ?_
      have := rb.val k
      rw [hn] at this
      exact this.none_of
  | _, _, _, .hit (k := k) (i := i) (j := j) hn t, h => by
    cases h with
    | cons h1 h2 =>
      rename_i y ys
      obtain ⟨k', u⟩ := y
      obtain ⟨e, ru⟩ := h1
      have e : k = k' := e
      subst e
      have := rb.val k
      rw [hn] at this
      obtain ⟨y, hy, ry⟩ := this.some_of
      have ru : RelV (.int i) u := ru
      obtain ⟨t1, rfl⟩ := ru
      obtain ⟨t2, rfl⟩ := ry
      have e := PySem.W.keq_at (A := A) (s := s) (Reads.int i t1) (Reads.int j t2) (by simp [SeqAt.shaped, PyData.canLay0, PyData.depth]) (by simp [SeqAt.shaped, PyData.canLay0, PyData.depth]) hu
      have e2 : PyData.eqv (.int i) (.int j) = decide (i = j) := by
        show (i == j) = decide (i = j)
        by_cases z : i = j <;> simp [z]
      rw [e2] at e
      exact .hit hy e (hit_run hu rb t h2)
theorem op_eqDI (hu : X.A.units + 65 < cLine) : OpR X (compareOp .Eq) (rCmpDI fun b => b) := by
  intro pins s σ H x y v u Q I rx ry h
  obtain ⟨a, b, ks, ls, r, rfl, rfl, ha, hb, hh, q⟩ := h
  cases rx; cases ry
  obtain ⟨_, ya, va, ra, da⟩ := dk_rd I.hok ha
  obtain ⟨_, yb, vb, rb, db⟩ := dk_rd I.hok hb
  refine PySem.W.keq_eq ya yb da db (by omega) (fun _ => hit_run (by show X.A.units + 1 + 64 < cLine; omega) rb hh ra) ⟨_, H, I, ?_, q⟩
  rw [ra.length, rb.length]
  exact rfl
end
def hitsI (ls : List (Key × D)) : List (Key × D) → Option Bool
  | [] => some true
  | (k, .int i) :: r => match valD ls k with
    | none => some false
    | some (.int j) => (hitsI ls r).map fun b => decide (i = j) && b
    | _ => none
  | _ => none
def dctD : D → Option (List (Key × D))
  | .dct ks => some ks
  | .fdc ks => some ks
  | _ => none
@[irreducible] def oCmpDI (f : Bool → Bool) : WO2 := fun x y M R => match dctD (viewD M x), dctD (viewD M y) with
  | some ks, some ls => match hitsI ls ks with
    | some r => R (.bl (f (decide (ks.length = ls.length) && r))) M
    | none => False
  | _, _ => False
theorem view_dctD {K : PySem.W.Frag} {B : Bs} {P : Hp} {al : List Addr} {M : Mt} {H : Hp} {d : D} {v : V} {ks : List (Key × D)} (rs : RS0 K B P al M H) (r : Rep K P al d v) (h : dctD (viewD M d) = some ks) : ∃ a xs, v = .ref a ∧ Rd H a (.dK xs) ∧ RepKs K P al ks xs := by
  cases e : viewD M d <;> rw [e] at h <;> simp [dctD] at h
  · subst h; exact view_dk rs r (.inl e)
  · subst h; exact view_dk rs r (.inr e)
theorem hitsI_ok {K : PySem.W.Frag} {P : Hp} {al : List Addr} {ls : List (Key × D)} {lv : List (Key × V)} (rl : RepKs K P al ls lv) : ∀ {ks : List (Key × D)} {kv : List (Key × V)} {r : Bool}, RepKs K P al ks kv → hitsI ls ks = some r → HitV lv kv r
  | _, _, _, .nil, e => by cases e; exact .nil
  | _, _, _, .cons (k := k) (d := d) rd t, e => by
    unfold hitsI at e
    split at e
    · rename_i h; cases h
    · rename_i k' i r' h
      cases h
      cases rd
      split at e
      · rename_i hv
        cases e
        exact .miss ((rl.val k).2 hv)
      · rename_i j hv
        obtain ⟨b, e1, rfl⟩ := map_some e
        obtain ⟨v, h1, h2⟩ := (rl.val k).1 _ hv
        cases h2
        exact .hit h1 (hitsI_ok rl t e1)
      · cases e
    · cases e
theorem oCmpDI_ok {K : PySem.W.Frag} {B : Bs} {f : Bool → Bool} : OpD K B (rCmpDI f) (oCmpDI f) := by
  intro P al M env σ H x y dx dy R Q rs r1 r2 h L
  unfold oCmpDI at h
  split at h
  · rename_i ks ls h1 h2
    split at h
    · rename_i r hr
      obtain ⟨a, xs, rfl, g1, g2⟩ := view_dctD rs.toRS0 r1 h1
      obtain ⟨b, ys, rfl, g3, g4⟩ := view_dctD rs.toRS0 r2 h2
      refine ⟨a, b, xs, ys, r, rfl, rfl, g1, g3, hitsI_ok g4 g2 hr, L.here rs (.bl _) ?_⟩
      rw [← g2.length, ← g4.length]; exact h
    · exact h.elim
  · exact h.elim
theorem cmpDI_use {M : Mt} {x y : D} {ks ls : List (Key × D)} {r : Bool} {f : Bool → Bool} {R : D → Mt → Prop} (h1 : viewD M x = .dct ks) (h2 : viewD M y = .dct ls) (h3 : hitsI ls ks = some r) (k : R (.bl (f (decide (ks.length = ls.length) && r))) M) : oCmpDI f x y M R := by
  unfold oCmpDI; simp only [h1, h2, dctD, h3]; exact k
end L3

namespace L3
open PySem PySem.Spec PyProof.Rows PyProof.V L2
/-! ### o(..), o of one of several classes -/
inductive CallTab (X : Cx) (CX : CXT) (k : Nat) : List (Str × DSp) → Prop
  | nil : CallTab X CX k []
  | cons {n : Str} {C g : Addr} {sp : DSp} {l : List (Str × DSp)} : ClsAt X.K n C → OpC X.K C "__call__" g → PySem.W.fnIn X.K g = true → FnR X.prog X.w X.K X.mg X.base CX k g (toSp X.K sp) → CallTab X CX k l → CallTab X CX k ((n, sp) :: l)
theorem CallTab.look {X : Cx} {CX : CXT} {k : Nat} {n : Str} {sp : DSp} : ∀ {l : List (Str × DSp)}, CallTab X CX k l → l.lookup n = some sp → ∃ C g, ClsAt X.K n C ∧ OpC X.K C "__call__" g ∧ PySem.W.fnIn X.K g = true ∧ FnR X.prog X.w X.K X.mg X.base CX k g (toSp X.K sp)
  | _, .nil, e => by cases e
  | _, .cons (n := n') ca oc hf F t, e => by
    by_cases h : (n == n') = true
    · rw [List.lookup, h] at e
      cases e
      have := eq_of_beq h
      subst this
      exact ⟨_, _, ca, oc, hf, F⟩
    · have h : (n == n') = false := by simpa using h
      rw [List.lookup, h] at e
      exact CallTab.look t e
section
variable {X : Cx} {B : Bs} {CX : CXT} {k : Nat} {l : List (Str × DSp)} {RX : RXe} {wo : WE} {was : WA} {o e : Expr} {es : List Expr} {pos : Pos}
end
/-! ### the head's facts of methods that close over their class -/
def clV (K : PySem.W.Frag) (f : Addr) : Addr := match K.lookup f with
  | some ⟨_, _, .func fd, _⟩ => (match fd.closure with
    | [(_, c)] => c
    | _ => 0)
  | _ => 0
def fnWS (n q : Str) (a : Arguments) (b : List Stmt) (s : Scope) : FV := some (n, q, a, .stmts b, s, mainGlobals, [("__class__", 0)], builtinsNs)
theorem fn_lookS {K : PySem.W.Frag} {f : Addr} {n q : Str} {a : Arguments} {b : List Stmt} {s : Scope} {v : Value} (h : fnV K f = fnWS n q a b s) (hd : dfV K f = v) :
    ∃ oc od sl kV dc pm an ct, K.lookup f = some ⟨oc, od, .func (PySem.W.ksFn n q a b s v kV dc pm an (cdV K f) ct (clV K f)), sl⟩ := by
  unfold fnV at h
  split at h
  · rename_i oc od fd sl e
    unfold dfV at hd
    unfold cdV clV
    rw [e] at hd ⊢
    obtain ⟨n1, n2, n3, n4, n5, n6, n7, n8, n9, n10, n11, n12, n13, n14, n15⟩ := fd
    simp only [fnWS, Option.some.injEq, Prod.mk.injEq] at h
    obtain ⟨h1, h2, h3, h4, h5, h6, h7, h8⟩ := h
    have hc : ∃ c, n7 = [(("__class__" : Str), c)] := by
      match n7, h7 with
      | [], h7 => cases h7
      | [(k, c)], h7 =>
        simp only [List.map_cons, List.map_nil, List.cons.injEq, Prod.mk.injEq, and_true] at h7
        exact ⟨c, by rw [h7]⟩
      | _ :: _ :: _, h7 => simp at h7
    obtain ⟨c, rfl⟩ := hc
    subst h1 h2 h3 h4 h5 h6 h8
    have hd : n8 = v := hd
    subst hd
    exact ⟨oc, od, sl, n9, n10, n11, n12, n14, rfl⟩
  · cases h
def suB (K : PySem.W.Frag) (P0 : Program) (f Dc : Addr) (a0 : Str) : Bool :=
  (match K.lookup f with
    | some ⟨_, _, .func fd, _⟩ => (match (fd.params.posonlyargs ++ fd.params.args).head? with
      | some ar => decide (ar.arg = a0)
      | none => false)
    | _ => false) && ((match cdV K f with
    | .ref c => (match K.lookup c with
      | some ⟨_, _, .fields vs, _⟩ => (match (vs[2]? : Option Value) with
        | some (.str file _) => (P0.main.file : Str) == file
        | _ => false)
      | _ => false)
    | _ => false) && ((match K.lookup (clV K f) with
    | some ⟨_, _, .cell (some (.ref d)), _⟩ => decide (d = Dc)
    | _ => false) && ((PySem.W.clsIn K Dc).isSome && !(P0.main.scope.names.lookup ("super" : Str)).isSome)))
theorem suB_ok {K : PySem.W.Frag} {P0 : Program} {f Dc : Addr} {a0 : Str} (h : suB K P0 f Dc a0 = true) : SuF K P0 f (clV K f) Dc (cdV K f) a0 := by
  unfold suB at h
  rw [Bool.and_eq_true, Bool.and_eq_true, Bool.and_eq_true, Bool.and_eq_true] at h
  obtain ⟨h1, h2, h3, h4, h5⟩ := h
  refine ⟨?_, ?_, ?_, Option.isSome_iff_exists.mp h4, by simpa using h5⟩
  · split at h1
    · rename_i oc od fd sl e
      split at h1
      · rename_i ar ea
        exact ⟨oc, od, fd, sl, ar, e, ea, of_decide_eq_true h1⟩
      · cases h1
    · cases h1
  · split at h2
    · rename_i c ec
      split at h2
      · rename_i oc od vs sl e
        split at h2
        · rename_i file tf ef
          exact ⟨c, oc, od, vs, sl, file, tf, ec, e, ef, h2⟩
        · cases h2
      · cases h2
    · cases h2
  · split at h3
    · rename_i oc od d sl e
      have := of_decide_eq_true h3
      subst this
      exact ⟨oc, od, sl, e⟩
    · cases h3
theorem SuF.kc {K : PySem.W.Frag} {P0 : Program} {f cc Dc : Addr} {cdv : Value} {a0 : Str} (U : SuF K P0 f cc Dc cdv a0) : ∃ cl cld v csl, K.lookup cc = some ⟨cl, cld, .cell v, csl⟩ := let ⟨a, b, c, e⟩ := U.cell; ⟨a, b, _, c, e⟩
def smB (K : PySem.W.Frag) : Bool := match K.lookup sysModules with
  | some ⟨.type t, _, _, _⟩ => decide (t = "dict")
  | _ => false
theorem smB_ok {K : PySem.W.Frag} (h : smB K = true) : SmK K := by
  unfold smB at h
  split at h
  · rename_i t od dt sl e
    have := of_decide_eq_true h
    subst this
    exact ⟨_, e, rfl⟩
  · cases h
theorem cmpDI_use' {M : Mt} {x y : D} {ks ls : List (Key × D)} {r : Bool} {f : Bool → Bool} {R : D → Mt → Prop} (h1 : dctD (viewD M x) = some ks) (h2 : dctD (viewD M y) = some ls) (h3 : hitsI ls ks = some r) (k : R (.bl (f (decide (ks.length = ls.length) && r))) M) : oCmpDI f x y M R := by
  unfold oCmpDI; simp only [h1, h2, h3]; exact k
theorem meth_use {l : List (Str × DSp)} {m n : Str} {M : Mt} {o : D} {fs : List (Str × D)} {sp : DSp} {k : DSp → Prop} (h : viewD M o = .obj n fs) (hf : fs.lookup m = none) (hl : l.lookup n = some sp) (q : k sp) : methB l m M o k := by
  unfold methB; simp only [h, hl]; exact ⟨⟨hf⟩, q⟩
theorem sup_use {l : List (Str × DSp)} {n : Str} {M : Mt} {o : D} {fs : List (Str × D)} {sp : DSp} {k : DSp → Prop} (h : viewD M o = .obj n fs) (hl : l.lookup n = some sp) (q : k sp) : supB l M o k := by
  unfold supB; simp only [h, hl]; exact q
theorem setFV_use {ns : List Str} {n f : Str} {d : D} {i : Nat} {M : Mt} {fs : List (Str × D)} {R : Mt → Prop} (h : M[i]? = some (.obj n fs)) (hn : ns.contains n = true) (hl : fs.length < 1000) (k : R (M.set i (.obj n (putFD f d fs)))) : dsetFV ns f d (.cel i) M R := by
  unfold dsetFV; simp only [h]; exact ⟨⟨hn, hl⟩, k⟩
end L3

namespace L3
open PySem PySem.Spec PyProof.Rows PyProof.V L2
/-! ### small data: their repr fits -/
mutual
def smallP : PyData → Bool
  | .none => true
  | .bool _ => true
  | .int i => decide (i.natAbs.log2 < 1920)
  | .str s => decide (s.length ≤ 1000) && PyData.strOk s
  | .list xs => smallA xs
  | .tuple xs => smallA xs
  | .dict kvs => smallK kvs
def smallA : List PyData → Bool
  | [] => true
  | x :: r => smallP x && smallA r
def smallK : List (PyData × PyData) → Bool
  | [] => true
  | (k, v) :: r => smallP k && (smallP v && smallK r)
end
mutual
def wtP : PyData → Nat
  | .list xs => 1 + wtA xs
  | .tuple xs => 1 + wtA xs
  | .dict kvs => 1 + wtK kvs
  | _ => 1
def wtA : List PyData → Nat
  | [] => 0
  | x :: r => wtP x + wtA r
def wtK : List (PyData × PyData) → Nat
  | [] => 0
  | (k, v) :: r => wtP k + (wtP v + wtK r)
end
theorem len_app (a b : Str) : (a ++ b).length = a.length + b.length := by
  show (a.cps ++ b.cps).size = _
  rw [Array.size_append] <;> rfl
theorem textFrom_le : ∀ (ts : List Str) (k : Nat) (acc : Str), (textFrom k acc ts).length ≤ acc.length + piled ts
  | [], _, acc => by show acc.length ≤ _; omega
  | t :: r, k, acc => by
    have ih := textFrom_le r (k + 1) (acc ++ (if k > 0 then ", " else "" : String) ++ t)
    have e : (acc ++ (if k > 0 then ", " else "" : String) ++ t : Str).length ≤ acc.length + 2 + t.length := by
      rw [len_app, len_app]
      split
      · have : (Str.ofString ", ").length = 2 := by decide +kernel
        omega
      · have : (Str.ofString "").length = 0 := by decide +kernel
        omega
    rw [piled_cons]
    show (textFrom (k + 1) (acc ++ (if k > 0 then ", " else "" : String) ++ t) r).length ≤ _
    omega
theorem join_le (ts : List Str) : (Str.join ", " ts).length ≤ piled ts := by
  by_cases h : ts = []
  · subst h
    have : (Str.join (", " : Str) []).length = 0 := by decide +kernel
    omega
  · have := join_length_add ts h
    omega
theorem l1 : (Str.ofString "[").length = 1 := by decide +kernel
theorem l2 : (Str.ofString "]").length = 1 := by decide +kernel
theorem l3 : (Str.ofString "(").length = 1 := by decide +kernel
theorem l4 : (Str.ofString ")").length = 1 := by decide +kernel
theorem l5 : (Str.ofString ",)").length = 2 := by decide +kernel
theorem l6 : (Str.ofString "{").length = 1 := by decide +kernel
theorem l7 : (Str.ofString "}").length = 1 := by decide +kernel
theorem l8 : (Str.ofString ": ").length = 2 := by decide +kernel
theorem str_cps {s : Str} (h : PyData.strOk s = true) : ∀ c ∈ s.cps.toList, c < 16 ^ 8 := fun c hc => by
  have h1 : (s.cps.all fun x => decide (x < 0x110000)) = true := h
  rw [← Array.all_toList] at h1
  have := of_decide_eq_true (List.all_eq_true.mp h1 c hc)
  omega
mutual
theorem shown_le : ∀ (p : PyData), smallP p = true → p.shown.length + 2 ≤ 10010 * wtP p
  | .none, _ => by
    have : (PyData.shown .none).length = 4 := by decide +kernel
    rw [this]; simp [wtP]
  | .bool b, _ => by
    have : (PyData.shown (.bool b)).length ≤ 5 := by cases b <;> decide +kernel
    simp [wtP]; omega
  | .int i, h => by
    have h1 : i.natAbs.log2 < 1920 := of_decide_eq_true h
    have := int_text_len_1921 h1
    have e : PyData.shown (.int i) = Str.ofString (toString i) := by rw [PyData.shown]
    rw [e]; simp only [wtP]; omega
  | .str s, h => by
    have h : (decide (s.length ≤ 1000) && PyData.strOk s) = true := h
    rw [Bool.and_eq_true] at h
    have h1 := of_decide_eq_true h.1
    have := StrLaws.reprText_len s (str_cps h.2)
    have e : PyData.shown (.str s) = reprText s := by rw [PyData.shown]
    rw [e]; simp only [wtP]; omega
  | .list xs, h => by
    have := shownA_le xs h
    have e : PyData.shown (.list xs) = listText (PyData.shownAll xs) := by rw [PyData.shown]
    have e2 : (listText (PyData.shownAll xs)).length = (textFrom 0 "[" (PyData.shownAll xs)).length + 1 := by
      unfold listText; rw [len_app, l2]
    have := textFrom_le (PyData.shownAll xs) 0 "["
    rw [l1] at this
    rw [e, e2]; simp only [wtP]; omega
  | .tuple xs, h => by
    have := shownA_le xs h
    have e : PyData.shown (.tuple xs) = tupleText (PyData.shownAll xs) := by rw [PyData.shown]
    have e2 : (tupleText (PyData.shownAll xs)).length ≤ 3 + (Str.join ", " (PyData.shownAll xs)).length := by
      unfold tupleText; rw [len_app, len_app, l3]
      split
      · rw [l5]; omega
      · rw [l4]; omega
    have := join_le (PyData.shownAll xs)
    rw [e]; simp only [wtP]; omega
  | .dict kvs, h => by
    have := shownK_le kvs h
    have e : PyData.shown (.dict kvs) = dictText (PyData.shownKv kvs) := by rw [PyData.shown]
    have e2 : (dictText (PyData.shownKv kvs)).length = 2 + (Str.join ", " (PyData.shownKv kvs)).length := by
      unfold dictText; rw [len_app, len_app, l6, l7]; omega
    have := join_le (PyData.shownKv kvs)
    rw [e, e2]; simp only [wtP]; omega
theorem shownA_le : ∀ (xs : List PyData), smallA xs = true → piled (PyData.shownAll xs) ≤ 10010 * wtA xs
  | [], _ => by simp [PyData.shownAll, piled_nil]
  | x :: r, h => by
    have h : (smallP x && smallA r) = true := h
    rw [Bool.and_eq_true] at h
    have h1 := shown_le x h.1
    have h2 := shownA_le r h.2
    rw [PyData.shownAll, piled_cons]
    simp only [wtA]; omega
theorem shownK_le : ∀ (xs : List (PyData × PyData)), smallK xs = true → piled (PyData.shownKv xs) ≤ 10010 * wtK xs
  | [], _ => by simp [PyData.shownKv, piled_nil]
  | (k, v) :: r, h => by
    have h : (smallP k && (smallP v && smallK r)) = true := h
    rw [Bool.and_eq_true, Bool.and_eq_true] at h
    have h1 := shown_le k h.1
    have h2 := shown_le v h.2.1
    have h3 := shownK_le r h.2.2
    rw [PyData.shownKv, piled_cons, len_app, len_app, l8]
    simp only [wtK]; omega
end
mutual
theorem showable_of : ∀ (p : PyData), smallP p = true → p.showable = true
  | .none, _ => by simp [PyData.showable]
  | .bool _, _ => by simp [PyData.showable]
  | .int i, h => by
    have h1 : i.natAbs.log2 < 1920 := of_decide_eq_true h
    simp [PyData.showable, h1]
  | .str _, _ => by simp [PyData.showable]
  | .list xs, h => by simp only [PyData.showable]; exact showableA_of xs h
  | .tuple xs, h => by simp only [PyData.showable]; exact showableA_of xs h
  | .dict kvs, h => by simp only [PyData.showable]; exact showableK_of kvs h
theorem showableA_of : ∀ (xs : List PyData), smallA xs = true → PyData.showableAll xs = true
  | [], _ => by simp [PyData.showableAll]
  | x :: r, h => by
    have h : (smallP x && smallA r) = true := h
    rw [Bool.and_eq_true] at h
    simp [PyData.showableAll, showable_of x h.1, showableA_of r h.2]
theorem showableK_of : ∀ (xs : List (PyData × PyData)), smallK xs = true → PyData.showableKv xs = true
  | [], _ => by simp [PyData.showableKv]
  | (k, v) :: r, h => by
    have h : (smallP k && (smallP v && smallK r)) = true := h
    rw [Bool.and_eq_true, Bool.and_eq_true] at h
    simp [PyData.showableKv, showable_of k h.1, showable_of v h.2.1, showableK_of r h.2.2]
end
theorem rpOk_of {p : PyData} (h : smallP p = true) (d : p.depth ≤ 60) (w : wtP p ≤ 1500) : RpOk p := ⟨showable_of p h, d, by
  have := shown_le p h
  have : 10010 * wtP p ≤ 10010 * 1500 := Nat.mul_le_mul_left _ w
  rw [line16]; omega⟩
/-! ### or of numbers -/
theorem or_nat (a b : Nat) : Builtin.bitOr (a : Int) (b : Int) = ((a ||| b : Nat) : Int) := by
  rw [Bits.bitOr_pp (Int.natCast_nonneg a) (Int.natCast_nonneg b), Int.toNat_natCast, Int.toNat_natCast]
end L3

namespace L3
open PySem PySem.Spec PyProof.Rows L2 Builtin
/-! ### == of objects of one tree of classes: the right one is asked first if its class derives from the left one's -/
section
variable {prog : Program} {w : World} {A : Around} {E : Value → Shared → Prop} {s : Shared} {K : PySem.W.Frag} {x y C D f : Addr} {h₀ : Heap} {Lc : Addr} {m : Str → Option Value} {ox oy : Obj} {od od' : Option Obj} {b tb : Value}
theorem cmpF_K {Q : Value → Shared → Prop} (hu : A.units < cLine) (F : Fr h₀ Lc s.heap m) (X₀ : K.In h₀) (I : PySem.W.InstAt s.heap x ox C od) (J : PySem.W.InstAt s.heap y oy D od') (hne : D ≠ C) (hsub : PySem.W.subIn K (.ref D) (.ref C) = some true)
    (hs : PySem.W.findIn K (.ref D) "__eq__" = some (some (.ref f))) (hf : PySem.W.isFn K (.ref f) = true)
    (h : wpAny (model prog w) A (call (.ref f) [.ref y, .ref x]) (PySem.W.CmpBack Q) E s) : wpAny (model prog w) A (richCompare .Eq (.ref x) (.ref y)) Q E s := by
  have X := X₀.keeps F.keep
  have one : wpAny (model prog w) A (tryCompare (.ref y) "__eq__" (.ref x)) (fun r s' => ∃ v, r = some v ∧ Q v s') E s := by
    unfold tryCompare
    refine wpAny_bind (PySem.W.ifBound_K X J hs hf (wpAny_mono h (fun v s' hv => ?_) fun _ _ e => e))
    cases v <;> first | exact hv.elim | exact wpAny_pure ⟨_, rfl, hv⟩
  unfold richCompare
  simp only [oneThing_ref]
  refine wpAny_holding (wpAny_bind (wpAny_cRoomFor hu ?_))
  refine wpAny_bind (I.type.here (wpAny_bind (J.type.here ?_)))
  rw [if_pos (by simp; exact fun e => hne e.symm)]
  refine wpAny_bind ((PySem.W.looks_subIn X hsub).here ?_)
  rw [if_pos rfl]
  refine wpAny_bind (wpAny_mono one (fun r s' z => ?_) fun _ _ e => e)
  obtain ⟨v, rfl, hq⟩ := z
  exact wpAny_bind (wpAny_rule (wpAny_pure hq))
theorem neF_K {Q : Value → Shared → Prop} (hu : A.units < cLine) (hu1 : A.in1.units < cLine) (F : Fr h₀ Lc s.heap m) (X₀ : K.In h₀) (I : PySem.W.InstAt s.heap x ox C od) (J : PySem.W.InstAt s.heap y oy D od') (hne : D ≠ C) (hsub : PySem.W.subIn K (.ref D) (.ref C) = some true) (N : NeC K D)
    (hs : PySem.W.findIn K (.ref D) "__eq__" = some (some (.ref f))) (hf : PySem.W.isFn K (.ref f) = true)
    (h : wpAny (model prog w) A.in1 (call (.ref f) [.ref y, .ref x]) (NotBack Q) E s) : wpAny (model prog w) A (richCompare .NotEq (.ref x) (.ref y)) Q E s := by
  have X := X₀.keeps F.keep
  have one : wpAny (model prog w) A (tryCompare (.ref y) "__ne__" (.ref x)) (fun r s' => ∃ v, r = some v ∧ Q v s') E s := by
    unfold tryCompare
    refine wpAny_bind (ifBound_objNe X J N.ne (wpAny_mono (Q := fun v s' => (∃ k, v = .bool k) ∧ Q v s') ?_ (fun v s' hv => ?_) fun _ _ e => e))
    · refine wpAny_call (codeAny_call_builtin PySem.F.cmp_object.ne.plain PySem.F.cmpEntry_ne (PySem.W.check_slot PySem.F.cmpKind_ne PySem.F.cmpSplit_ne (J.type.andThen (PySem.W.looks_mroIn X N.ob)) (PySem.F.cmpArgs_ne _ _) (objNe_entry hu1 X J hs hf (wpAny_mono h (fun v s' hv => ?_) fun _ _ e => e))))
      cases v <;> first | exact hv.elim | exact ⟨⟨_, rfl⟩, hv⟩
    · obtain ⟨⟨k, rfl⟩, hq⟩ := hv
      exact wpAny_pure ⟨_, rfl, hq⟩
  unfold richCompare
  simp only [oneThing_ref]
  refine wpAny_holding (wpAny_bind (wpAny_cRoomFor hu ?_))
  refine wpAny_bind (I.type.here (wpAny_bind (J.type.here ?_)))
  rw [if_pos (by simp; exact fun e => hne e.symm)]
  refine wpAny_bind ((PySem.W.looks_subIn X hsub).here ?_)
  rw [if_pos rfl]
  refine wpAny_bind (wpAny_mono one (fun r s' z => ?_) fun _ _ e => e)
  obtain ⟨v, rfl, hq⟩ := z
  exact wpAny_bind (wpAny_rule (wpAny_pure hq))
end
end L3

namespace L3
open PySem PySem.Spec PyProof.Rows L2 Builtin
/-! ### data == an object: the data's own == says nothing to it -/
section
variable {prog : Program} {w : World} {A : Around} {E : Value → Shared → Prop} {s : Shared} {K : PySem.W.Frag} {y D : Addr} {u : Value} {oy : Obj} {od : Option Obj}
theorem isInst_no {M : Model} {T : String} {Q : Bool → Shared → Prop} (X : K.In s.heap) (J : PySem.W.InstAt s.heap y oy D od) (hs : PySem.W.subIn K (.ref D) (.type T) = some false) (hq : Q false s) : wpAny M A (isInstance (.ref y) (.type T)) Q E s := by
  unfold isInstance
  exact wpAny_bind (J.type.here ((PySem.W.looks_subIn X hs).here hq))
theorem dec_list {Q : Option Value → Shared → Prop} (hT : s.TypeIs u "list") (X : K.In s.heap) (J : PySem.W.InstAt s.heap y oy D od) (hs : PySem.W.subIn K (.ref D) (.type "list") = some false) (hq : Q none s) : wpAny (model prog w) A (tryCompare u "__eq__" (.ref y)) Q E s := by
  refine wpAny_tryCompare_declines hT PySem.F.slot_list_eq (GQ.call_here PySem.F.slot_list_eq hT PySem.F.entry_list_eq (PySem.F.args_list_eq_2 _ _) ?_)
  repeat (first
    | (refine wpAny_bind (m := isInstance _ _) (isInst_no X J hs ?_))
    | wp_step)
  exact ⟨rfl, hq⟩
theorem dec_tuple {Q : Option Value → Shared → Prop} (hT : s.TypeIs u "tuple") (X : K.In s.heap) (J : PySem.W.InstAt s.heap y oy D od) (hs : PySem.W.subIn K (.ref D) (.type "tuple") = some false) (hq : Q none s) : wpAny (model prog w) A (tryCompare u "__eq__" (.ref y)) Q E s := by
  refine wpAny_tryCompare_declines hT PySem.F.slot_tuple_eq (GQ.call_here PySem.F.slot_tuple_eq hT PySem.F.entry_tuple_eq (PySem.F.args_tuple_eq_2 _ _) ?_)
  repeat (first
    | (refine wpAny_bind (m := isInstance _ _) (isInst_no X J hs ?_))
    | wp_step)
  exact ⟨rfl, hq⟩
theorem dec_none {Q : Option Value → Shared → Prop} (X : K.In s.heap) (J : PySem.W.InstAt s.heap y oy D od) (hq : Q none s) : wpAny (model prog w) A (tryCompare .none "__eq__" (.ref y)) Q E s := by
  refine wpAny_tryCompare_declines (typeIs_none s) PySem.F.slot_NoneType_eq (GQ.call_here PySem.F.slot_NoneType_eq (typeIs_none s) PySem.F.entry_NoneType_eq (PySem.F.args_NoneType_eq_2 _ _) ?_)
  repeat (first
    | wp_step)
  exact ⟨rfl, hq⟩
theorem dec_int {i : Int} {tk : Tok} {dx : Addr} {Q : Option Value → Shared → Prop} (hy : s.heap.get? y = some (PySem.W.instObj D dx)) (hq : Q none s) : wpAny (model prog w) A (tryCompare (.int i tk) "__eq__" (.ref y)) Q E s := by
  have hT := typeIs_int s i tk
  refine wpAny_tryCompare_declines hT PySem.F.slot_int_eq (GQ.call_here PySem.F.slot_int_eq hT PySem.F.entry_int_eq (PySem.F.args_int_eq_2 _ _) ?_)
  wp_walk using wpAny_loadPart' hy
  exact ⟨rfl, hq⟩
theorem dec_str {i : Str} {tk : Tok} {dx : Addr} {Q : Option Value → Shared → Prop} (hy : s.heap.get? y = some (PySem.W.instObj D dx)) (hq : Q none s) : wpAny (model prog w) A (tryCompare (.str i tk) "__eq__" (.ref y)) Q E s := by
  have hT := typeIs_str s i tk
  refine wpAny_tryCompare_declines hT PySem.F.slot_str_eq (GQ.call_here PySem.F.slot_str_eq hT PySem.F.entry_str_eq (PySem.F.args_str_eq_2 _ _) ?_)
  wp_walk using wpAny_loadPart' hy
  exact ⟨rfl, hq⟩
theorem dec_dict {Q : Option Value → Shared → Prop} (hT : s.TypeIs u "dict") (X : K.In s.heap) (J : PySem.W.InstAt s.heap y oy D od) (hs : PySem.W.subIn K (.ref D) (.type "dict") = some false) (hq : Q none s) : wpAny (model prog w) A (tryCompare u "__eq__" (.ref y)) Q E s := by
  refine wpAny_tryCompare_declines hT PySem.F.slot_dict_eq (GQ.call_here PySem.F.slot_dict_eq hT PySem.F.entry_dict_eq (PySem.F.args_dict_eq_2 _ _) ?_)
  repeat (first
    | (refine wpAny_bind (m := isInstance _ _) (isInst_no X J hs ?_))
    | wp_step)
  exact ⟨rfl, hq⟩
theorem eqL_K {f h₀L : Addr} {h₀ : Heap} {m : Str → Option Value} {T : String} {Q : Value → Shared → Prop} (hu : A.units < cLine) (F : Fr h₀ h₀L s.heap m) (X₀ : K.In h₀) (hT : s.TypeIs u T) (J : PySem.W.InstAt s.heap y oy D od) (hs : PySem.W.subIn K (.ref D) (.type T) = some false)
    (hd : ∀ Q' : Option Value → Shared → Prop, Q' none s → wpAny (model prog w) A (tryCompare u "__eq__" (.ref y)) Q' E s) (he : PySem.W.findIn K (.ref D) "__eq__" = some (some (.ref f))) (hf : PySem.W.isFn K (.ref f) = true)
    (h : wpAny (model prog w) A (call (.ref f) [.ref y, u]) (PySem.W.CmpBack Q) E s) : wpAny (model prog w) A (richCompare .Eq u (.ref y)) Q E s := by
  have X := X₀.keeps F.keep
  have one : wpAny (model prog w) A (tryCompare (.ref y) "__eq__" u) (fun r s' => ∃ v, r = some v ∧ Q v s') E s := by
    unfold tryCompare
    refine wpAny_bind (PySem.W.ifBound_K X J he hf (wpAny_mono h (fun v s' hv => ?_) fun _ _ e => e))
    cases v <;> first | exact hv.elim | exact wpAny_pure ⟨_, rfl, hv⟩
  unfold richCompare
  simp only [hT.oneThing_none]
  refine wpAny_holding (wpAny_bind (wpAny_cRoomFor hu ?_))
  refine wpAny_bind (wpAny_typeOf hT (wpAny_bind (J.type.here ?_)))
  rw [if_pos (by simp)]
  refine wpAny_bind ((PySem.W.looks_subIn X hs).here ?_)
  simp only [Bool.false_eq_true, if_false, Bool.not_false, if_true]
  refine wpAny_bind (m := tryCompare u _ _) (hd _ ?_)
  refine wpAny_bind (m := tryCompare (.ref y) _ _) (wpAny_mono one (fun r s' z => ?_) fun _ _ e => e)
  obtain ⟨v, rfl, hq⟩ := z
  exact wpAny_pure hq
end
end L3

namespace L3
open PySem PySem.Spec PyProof.Rows L2 Builtin
/-! ### == and != of objects of one tree of classes and data, over data -/
def leftBs : List String := ["NoneType", "int", "str", "tuple", "list", "dict"]
structure EqTr (X : Cx) (cs : List Addr) (f : Addr) : Prop where
  oc : ∀ C ∈ cs, OpC X.K C "__eq__" f
  ne : ∀ C ∈ cs, NeC X.K C
  sub : ∀ C ∈ cs, ∀ D ∈ cs, (PySem.W.subIn X.K (.ref D) (.ref C)).isSome = true
  bi : ∀ D ∈ cs, ∀ T ∈ leftBs, PySem.W.subIn X.K (.ref D) (.type T) = some false
def postB (g : Bool → Bool) (Q : VK) : VK := fun v H' => ∃ b, v = .bl b ∧ Q (.bl (g b)) H'
def rEqT (K : PySem.W.Frag) (cs : List Addr) (sp : DSp) (g : Bool → Bool) : R2 := fun x y H Q => ∃ p C dx fs, x = V.ref p ∧ H p = some (.ins C dx fs) ∧ C ∈ cs ∧
  ((∃ q D dy gs, y = V.ref q ∧ H q = some (.ins D dy gs) ∧ D ∈ cs ∧ toSp K sp [y, x] H (postB g Q) fun _ _ _ => False) ∨ ∃ T ∈ isBs, TyX K H y (.type T)) ∧ toSp K sp [x, y] H (postB g Q) fun _ _ _ => False
def rEqLT (K : PySem.W.Frag) (cs : List Addr) (sp : DSp) : R2 := fun x y H Q => ∃ q D dy gs T, y = V.ref q ∧ H q = some (.ins D dy gs) ∧ D ∈ cs ∧ T ∈ leftBs ∧ TyX K H x (.type T) ∧ toSp K sp [y, x] H (postB id Q) fun _ _ _ => False
section
variable {X : Cx} {B : Bs} {CX : CXT} {k : Nat} {f : Addr} {cs : List Addr} {sp : DSp}
theorem left_ok {pins : List (Addr × Obj)} {σ : L2.St} {H : Hp} {s : Shared} {x : V} {u : Value} {T : String} {q D dy : Addr} {A : Around} {E : Value → Shared → Prop} (I : L2.Inv X pins σ H s) (rx : RelV x u) (ty : TyX X.K H x (.type T)) (hT : T ∈ leftBs)
    (hq : s.heap.get? q = some (PySem.W.instObj D dy)) {od : Option Obj} (J : PySem.W.InstAt s.heap q (PySem.W.instObj D dy) D od) (hb : ∀ T ∈ leftBs, PySem.W.subIn X.K (.ref D) (.type T) = some false) :
    s.TypeIs u T ∧ ∀ Q' : Option Value → Shared → Prop, Q' none s → wpAny (model X.prog X.w) A (tryCompare u "__eq__" (.ref q)) Q' E s := by
  have hX := I.kIn
  cases ty with
  | base b =>
    cases b with
    | non => cases (show u = Value.none from rx); exact ⟨typeIs_none s, fun Q' h => dec_none hX J h⟩
    | bl y => exact absurd hT (by decide)
    | int i => obtain ⟨t, e⟩ := (show ∃ t, u = Value.int i t from rx); cases e; exact ⟨typeIs_int s _ _, fun Q' h => dec_int hq h⟩
    | str y => obtain ⟨t, e⟩ := (show ∃ t, u = Value.str y t from rx); cases e; exact ⟨typeIs_str s _ _, fun Q' h => dec_str hq h⟩
    | flt y => exact absurd hT (by decide)
    | @lst a xs ea =>
      cases (show u = Value.ref a from rx)
      obtain ⟨_, _, n, _, h1⟩ := (show ObjOk X.prog X.w H s.heap a (.lst xs) from I.hok a _ ea)
      have hT : s.TypeIs (.ref a) "list" := ⟨_, h1, rfl⟩
      exact ⟨hT, fun Q' h => dec_list hT hX J (hb _ (by decide)) h⟩
    | @frz a ob xs ea =>
      cases (show u = Value.ref a from rx)
      obtain ⟨_, _, _, n, _, h1⟩ := (show ObjOk X.prog X.w H s.heap a (.frz ob (.lst xs)) from I.hok a _ ea)
      have hT : s.TypeIs (.ref a) "list" := ⟨_, h1, rfl⟩
      exact ⟨hT, fun Q' h => dec_list hT hX J (hb _ (by decide)) h⟩
    | @tup a xs ea =>
      cases (show u = Value.ref a from rx)
      obtain ⟨_, _, _, o, h1, h2, _⟩ := (show ObjOk X.prog X.w H s.heap a (.tup xs) from I.hok a _ ea)
      have hT : s.TypeIs (.ref a) "tuple" := ⟨o, h1, h2⟩
      exact ⟨hT, fun Q' h => dec_tuple hT hX J (hb _ (by decide)) h⟩
    | @dK a kvs ea =>
      cases (show u = Value.ref a from rx)
      obtain ⟨_, _, vs, _, o, es, ep, h1, h2, _⟩ := (show ObjOk X.prog X.w H s.heap a (.dK kvs) from I.hok a _ ea)
      have hT : s.TypeIs (.ref a) "dict" := ⟨o, h1, h2.1⟩
      exact ⟨hT, fun Q' h => dec_dict hT hX J (hb _ (by decide)) h⟩
    | @dT a kvs ea =>
      cases (show u = Value.ref a from rx)
      obtain ⟨_, _, xs, _, o, es, ep, h1, h2, _⟩ := (show ObjOk X.prog X.w H s.heap a (.dT kvs) from I.hok a _ ea)
      have hT : s.TypeIs (.ref a) "dict" := ⟨o, h1, h2.1⟩
      exact ⟨hT, fun Q' h => dec_dict hT hX J (hb _ (by decide)) h⟩
  | byt y => exact absurd hT (by decide)
  | @set a S n ea => exact absurd hT (by decide)
  | @kList a o e c =>
    cases (show u = Value.ref a from rx)
    have hT : s.TypeIs (.ref a) "list" := ⟨o, I.kIn a o e, c⟩
    exact ⟨hT, fun Q' h => dec_list hT hX J (hb _ (by decide)) h⟩
  | @kTuple a o e c =>
    cases (show u = Value.ref a from rx)
    have hT : s.TypeIs (.ref a) "tuple" := ⟨o, I.kIn a o e, c⟩
    exact ⟨hT, fun Q' h => dec_tuple hT hX J (hb _ (by decide)) h⟩
  | @kDict a o e c =>
    cases (show u = Value.ref a from rx)
    have hT : s.TypeIs (.ref a) "dict" := ⟨o, I.kIn a o e, c⟩
    exact ⟨hT, fun Q' h => dec_dict hT hX J (hb _ (by decide)) h⟩
  | @fTuple a ob xs ea =>
    cases (show u = Value.ref a from rx)
    obtain ⟨_, _, _, _, o, h1, h2, _⟩ := (show ObjOk X.prog X.w H s.heap a (.frz ob (.tup xs)) from I.hok a _ ea)
    have hT : s.TypeIs (.ref a) "tuple" := ⟨o, h1, h2⟩
    exact ⟨hT, fun Q' h => dec_tuple hT hX J (hb _ (by decide)) h⟩
  | @fDict a ob kvs ea =>
    cases (show u = Value.ref a from rx)
    obtain ⟨_, _, _, vs, _, o, es, ep, h1, h2, _⟩ := (show ObjOk X.prog X.w H s.heap a (.frz ob (.dK kvs)) from I.hok a _ ea)
    have hT : s.TypeIs (.ref a) "dict" := ⟨o, h1, h2.1⟩
    exact ⟨hT, fun Q' h => dec_dict hT hX J (hb _ (by decide)) h⟩
theorem notFirst_of {K : PySem.W.Frag} {C D : Addr} (h : ¬ PySem.W.subIn K (.ref D) (.ref C) = some true) (hs : (PySem.W.subIn K (.ref D) (.ref C)).isSome = true) : PySem.W.notFirst K C (.ref D) = true := by
  unfold PySem.W.notFirst
  cases e : PySem.W.subIn K (.ref D) (.ref C) with
  | none => rw [e] at hs; cases hs
  | some b =>
    cases b with
    | true => exact absurd e h
    | false => simp
theorem op_eqT (T : EqTr X cs f) (F : FnR X.prog X.w X.K X.mg X.base CX k f (toSp X.K sp)) (hr : Room k X.A) (hx : Rz X B CX RXn) : OpR X (compareOp .Eq) (rEqT X.K cs sp id) := by
  intro pins s σ H x y v u Q I rx ry h
  obtain ⟨p, C, dx, fs, rfl, hp, hC, hy, h⟩ := h
  cases rx
  obtain ⟨m, fr⟩ := I.fr
  obtain ⟨_, O, _⟩ := ins_get I.hok hp
  obtain ⟨od, J, _⟩ := O.look
  have hu : X.A.units < cLine := by have := hr.units; omega
  have run : ∀ {a b : V} {u1 u2 : Value}, RelV a u1 → RelV b u2 → toSp X.K sp [a, b] H (postB id Q) (fun _ _ _ => False) → wpAny (model X.prog X.w) X.A (call (.ref f) [u1, u2]) (PySem.W.CmpBack (EP X pins σ Q)) X.xe s := fun {a b u1 u2} r1 r2 h => by
    refine wpAny_mono (wpAny_call (run_at (us := [u1, u2]) (vs := [a, b]) F hr (hx σ) I (.cons r1 (.cons r2 .nil)) (toSp_imp (fun _ _ _ z => z.elim) h))) (fun r s' z => ?_) fun _ _ z => z
    obtain ⟨v, H', I', rv, b, rfl, q⟩ := z
    cases rv
    exact ⟨.bl b, H', I', rfl, q⟩
  have rp : L2.RelV (V.ref p) (.ref p) := rfl
  show wpAny (model X.prog X.w) X.A (richCompare .Eq (.ref p) u) (EP X pins σ Q) X.xe s
  rcases hy with ⟨q, D, dy, gs, rfl, hq, hD, h2⟩ | ⟨T', hT, ty⟩
  · cases ry
    obtain ⟨_, O2, _⟩ := ins_get I.hok hq
    obtain ⟨od2, J2, _⟩ := O2.look
    have rq : L2.RelV (V.ref q) (.ref q) := rfl
    by_cases e : PySem.W.subIn X.K (.ref D) (.ref C) = some true
    · by_cases hne : D = C
      · subst hne
        exact PySem.W.cmp_K hu fr I.ok.mod.kin J J2.type (by simp [PySem.W.notFirst]) (T.oc D hC).at_ (T.oc D hC).fn (run rp rq h)
      · exact cmpF_K hu fr I.ok.mod.kin J J2 hne e (T.oc D hD).at_ (T.oc D hD).fn (run rq rp h2)
    · exact PySem.W.cmp_K hu fr I.ok.mod.kin J J2.type (notFirst_of e (T.sub C hC D hD)) (T.oc C hC).at_ (T.oc C hC).fn (run rp rq h)
  · obtain ⟨tb, hb, hn⟩ := kind_at (C := C) I ry (.inr ⟨T', hT, ty⟩)
    exact PySem.W.cmp_K hu fr I.ok.mod.kin J hb hn (T.oc C hC).at_ (T.oc C hC).fn (run rp ry h)
theorem op_neT (T : EqTr X cs f) (F : FnR X.prog X.w X.K X.mg X.base CX k f (toSp X.K sp)) (hr : Room (k + 1) X.A) (hx : Rz X B CX RXn) : OpR X (compareOp .NotEq) (rEqT X.K cs sp fun b => !b) := by
  intro pins s σ H x y v u Q I rx ry h
  obtain ⟨p, C, dx, fs, rfl, hp, hC, hy, h⟩ := h
  cases rx
  obtain ⟨m, fr⟩ := I.fr
  obtain ⟨_, O, _⟩ := ins_get I.hok hp
  obtain ⟨od, J, _⟩ := O.look
  have hu : X.A.units < cLine := by have := hr.units; omega
  have hu1 : X.A.in1.units < cLine := by have := hr.in1.units; omega
  have run : ∀ {a b : V} {u1 u2 : Value}, RelV a u1 → RelV b u2 → toSp X.K sp [a, b] H (postB (fun b => !b) Q) (fun _ _ _ => False) → wpAny (model X.prog X.w) X.A.in1 (call (.ref f) [u1, u2]) (NotBack (EP X pins σ Q)) X.xe s := fun {a b u1 u2} r1 r2 h => by
    refine wpAny_mono (wpAny_call (run_in1 (us := [u1, u2]) (vs := [a, b]) F hr (hx σ) I (.cons r1 (.cons r2 .nil)) (toSp_imp (fun _ _ _ z => z.elim) h))) (fun r s' z => ?_) fun _ _ z => z
    obtain ⟨v, H', I', rv, b, rfl, q⟩ := z
    cases rv
    exact ⟨.bl (!b), H', I', rfl, q⟩
  have rp : L2.RelV (V.ref p) (.ref p) := rfl
  show wpAny (model X.prog X.w) X.A (richCompare .NotEq (.ref p) u) (EP X pins σ Q) X.xe s
  rcases hy with ⟨q, D, dy, gs, rfl, hq, hD, h2⟩ | ⟨T', hT, ty⟩
  · cases ry
    obtain ⟨_, O2, _⟩ := ins_get I.hok hq
    obtain ⟨od2, J2, _⟩ := O2.look
    have rq : L2.RelV (V.ref q) (.ref q) := rfl
    by_cases e : PySem.W.subIn X.K (.ref D) (.ref C) = some true
    · by_cases hne : D = C
      · subst hne
        exact ne_K hu hu1 fr I.ok.mod.kin J J2.type (by simp [PySem.W.notFirst]) (T.ne D hC) (T.oc D hC).at_ (T.oc D hC).fn (run rp rq h)
      · exact neF_K hu hu1 fr I.ok.mod.kin J J2 hne e (T.ne D hD) (T.oc D hD).at_ (T.oc D hD).fn (run rq rp h2)
    · exact ne_K hu hu1 fr I.ok.mod.kin J J2.type (notFirst_of e (T.sub C hC D hD)) (T.ne C hC) (T.oc C hC).at_ (T.oc C hC).fn (run rp rq h)
  · obtain ⟨tb, hb, hn⟩ := kind_at (C := C) I ry (.inr ⟨T', hT, ty⟩)
    exact ne_K hu hu1 fr I.ok.mod.kin J hb hn (T.ne C hC) (T.oc C hC).at_ (T.oc C hC).fn (run rp ry h)
theorem op_eqLT (T : EqTr X cs f) (F : FnR X.prog X.w X.K X.mg X.base CX k f (toSp X.K sp)) (hr : Room k X.A) (hx : Rz X B CX RXn) : OpR X (compareOp .Eq) (rEqLT X.K cs sp) := by
  intro pins s σ H x y v u Q I rx ry h
  obtain ⟨q, D, dy, gs, T', rfl, hq, hD, hT, ty, h⟩ := h
  cases ry
  obtain ⟨m, fr⟩ := I.fr
  obtain ⟨_, O2, _⟩ := ins_get I.hok hq
  obtain ⟨od2, J2, _⟩ := O2.look
  have hu : X.A.units < cLine := by have := hr.units; omega
  show wpAny (model X.prog X.w) X.A (richCompare .Eq v (.ref q)) (EP X pins σ Q) X.xe s
  obtain ⟨h1, h2⟩ := left_ok (A := X.A) (E := X.xe) I rx ty hT O2.obj J2 (T.bi D hD)
  refine eqL_K hu fr I.ok.mod.kin h1 J2 (T.bi D hD _ hT) h2 (T.oc D hD).at_ (T.oc D hD).fn ?_
  refine wpAny_mono (wpAny_call (run_at (us := [.ref q, v]) (vs := [.ref q, x]) F hr (hx σ) I (.cons rfl (.cons rx .nil)) (toSp_imp (fun _ _ _ z => z.elim) h))) (fun r s' z => ?_) fun _ _ z => z
  obtain ⟨v', H', I', rv, b, rfl, q'⟩ := z
  cases rv
  exact ⟨.bl b, H', I', rfl, q'⟩
end
end L3

namespace L3
open PySem PySem.Spec PyProof.Rows L2 Builtin
def treB (K : PySem.W.Frag) (cs : List Addr) : Bool := cs.all fun C => (cs.all fun D => (PySem.W.subIn K (.ref D) (.ref C)).isSome) && leftBs.all fun T => decide (PySem.W.subIn K (.ref C) (.type T) = some false)
inductive EqTab (K : PySem.W.Frag) (f : Addr) : List Str → List Addr → Prop
  | nil : EqTab K f [] []
  | cons {n : Str} {C : Addr} {l : List Str} {cs : List Addr} : ClsAt K n C → OpC K C "__eq__" f → NeC K C → EqTab K f l cs → EqTab K f (n :: l) (C :: cs)
theorem EqTab.oc {K : PySem.W.Frag} {f : Addr} : ∀ {l : List Str} {cs : List Addr}, EqTab K f l cs → ∀ C ∈ cs, OpC K C "__eq__" f
  | _, _, .nil, _, h => by cases h
  | _, _, .cons _ o _ t, C, h => by
    rcases List.mem_cons.mp h with rfl | h
    · exact o
    · exact t.oc C h
theorem EqTab.ne {K : PySem.W.Frag} {f : Addr} : ∀ {l : List Str} {cs : List Addr}, EqTab K f l cs → ∀ C ∈ cs, NeC K C
  | _, _, .nil, _, h => by cases h
  | _, _, .cons _ _ o t, C, h => by
    rcases List.mem_cons.mp h with rfl | h
    · exact o
    · exact t.ne C h
theorem EqTab.look {K : PySem.W.Frag} {f : Addr} {n : Str} : ∀ {l : List Str} {cs : List Addr}, EqTab K f l cs → l.contains n = true → ∃ C ∈ cs, ClsAt K n C
  | _, _, .nil, e => by cases e
  | _, _, .cons (n := n') ca _ _ t, e => by
    rw [List.contains_cons, Bool.or_eq_true] at e
    rcases e with e | e
    · have := eq_of_beq e
      subst this
      exact ⟨_, List.mem_cons_self, ca⟩
    · obtain ⟨C, h1, h2⟩ := t.look e
      exact ⟨C, List.mem_cons_of_mem _ h1, h2⟩
theorem EqTab.tr {X : Cx} {f : Addr} {l : List Str} {cs : List Addr} (t : EqTab X.K f l cs) (h : treB X.K cs = true) : EqTr X cs f := by
  have h1 := List.all_eq_true.mp h
  refine ⟨t.oc, t.ne, fun C hC D hD => ?_, fun D hD T hT => ?_⟩
  · have := h1 C hC
    rw [Bool.and_eq_true] at this
    exact List.all_eq_true.mp this.1 D hD
  · have := h1 D hD
    rw [Bool.and_eq_true] at this
    exact of_decide_eq_true (List.all_eq_true.mp this.2 T hT)
def tyF (M : Mt) (d : D) : Option String := match viewD M d with
  | .fdc _ => some "dict"
  | _ => tyN M d
theorem tyF_ok {K : PySem.W.Frag} {B : Bs} {P : Hp} {al : List Addr} {M : Mt} {H : Hp} {d : D} {v : V} {n : String} (rs : RS0 K B P al M H) (r : Rep K P al d v) (e : tyF M d = some n) : n ∈ isBs ∧ TyX K H v (.type n) := by
  unfold tyF at e
  split at e
  · rename_i ks hv
    cases e
    obtain ⟨a, xs, rfl, h1, h2⟩ := view_fdc rs r hv
    refine ⟨by decide, ?_⟩
    rcases h1 with h1 | ⟨o, h1⟩
    · exact .base (.dK h1)
    · exact .fDict h1
  · exact tyN_ok rs r e
def eqPost (g : Bool → Bool) (R : D → Mt → Prop) : D → Mt → Prop := retB fun b M' => R (.bl (g b)) M'
@[irreducible] def oEqT (lf : Bool) (ns : List Str) (sp : DSp) (g : Bool → Bool) : WO2 := fun x y M R => match viewD M x with
  | .obj n1 _ => Need (ns.contains n1 = true) ∧ (match viewD M y with
    | .obj n2 _ => Need (ns.contains n2 = true) ∧ sp [y, x] M (eqPost g R) fun _ _ _ => False
    | _ => (tyF M y).isSome = true) ∧ sp [x, y] M (eqPost g R) fun _ _ _ => False
  | _ => match lf, viewD M y with
    | true, .obj n2 _ => Need (ns.contains n2 = true) ∧ (match tyF M x with
      | some T => Need (T ∈ leftBs)
      | none => False) ∧ sp [y, x] M (eqPost id R) fun _ _ _ => False
    | _, _ => oEqI g x y M R
section
variable {K : PySem.W.Frag} {B : Bs} {f : Addr} {ns : List Str} {cs : List Addr} {sp : DSp} {g : Bool → Bool}
theorem eqPost_ok {P : Hp} {al : List Addr} {M : Mt} {env : Ev} {σ : L2.St} {H : Hp} {dx dy : D} {x y : V} {g : Bool → Bool} {R : D → Mt → Prop} {Q : VK} (rs : RS K B P al M env σ H) (r1 : Rep K P al dx x) (r2 : Rep K P al dy y) (L : Lift K B P al env σ H R Q)
    (h : sp [dx, dy] M (eqPost g R) fun _ _ _ => False) : toSp K sp [x, y] H (postB g Q) fun _ _ _ => False := by
  refine ⟨P, al, M, _, _, _, rs.toRS0.here, .cons r1 (.cons r2 .nil), h, fun d M' v H' P' al' e r0 r q => ?_, fun _ _ _ _ _ _ _ _ _ _ _ _ q => q.elim⟩
  unfold eqPost retB at q
  split at q
  · cases r; exact ⟨_, rfl, L _ _ _ _ _ _ e (rs.step e (r0.rebase (rs.base.trans e))) (.bl _) q⟩
  · exact q.elim
theorem at_obj (t : EqTab K f ns cs) {P : Hp} {al : List Addr} {M : Mt} {H : Hp} {d : D} {v : V} {n : Str} {fs : List (Str × D)} (rs : RS0 K B P al M H) (r : Rep K P al d v) (e : viewD M d = .obj n fs) (h : ns.contains n = true) : ∃ p C dx xs, v = .ref p ∧ H p = some (.ins C dx xs) ∧ C ∈ cs := by
  obtain ⟨C, hC, ca⟩ := t.look h
  obtain ⟨p, dx, xs, rfl, hp⟩ := view_objOf ca rs r e
  exact ⟨p, C, dx, xs, rfl, hp, hC⟩
theorem oEqT_ok {r : R2} (t : EqTab K f ns cs) (h0 : OpD K B r (oEqI g)) : OpD K B (fun x y H Q => rEqT K cs sp g x y H Q ∨ r x y H Q) (oEqT false ns sp g) := by
  intro P al M env σ H x y dx dy R Q rs r1 r2 h L
  unfold oEqT at h
  split at h
  · rename_i n1 fs v1
    obtain ⟨hn, hk, h⟩ := h
    obtain ⟨p, C, dx', xs, rfl, hp, hC⟩ := at_obj t rs.toRS0 r1 v1 hn.out
    refine .inl ⟨p, C, dx', xs, rfl, hp, hC, ?_, eqPost_ok rs r1 r2 L h⟩
    split at hk
    · rename_i n2 gs v2
      obtain ⟨hn2, hk⟩ := hk
      obtain ⟨q, D, dy', ys, rfl, hq, hD⟩ := at_obj t rs.toRS0 r2 v2 hn2.out
      exact .inl ⟨q, D, dy', ys, rfl, hq, hD, eqPost_ok rs r2 r1 L hk⟩
    · obtain ⟨T, hT⟩ := Option.isSome_iff_exists.mp hk
      obtain ⟨m, ty⟩ := tyF_ok rs.toRS0 r2 hT
      exact .inr ⟨T, m, ty⟩
  · exact .inr (h0 P al M env σ H x y dx dy R Q rs r1 r2 h L)
theorem oEqT_okL {r : R2} (t : EqTab K f ns cs) (h0 : OpD K B r (oEqI id)) : OpD K B (fun x y H Q => rEqT K cs sp id x y H Q ∨ rEqLT K cs sp x y H Q ∨ r x y H Q) (oEqT true ns sp id) := by
  intro P al M env σ H x y dx dy R Q rs r1 r2 h L
  unfold oEqT at h
  split at h
  · rename_i n1 fs v1
    obtain ⟨hn, hk, h⟩ := h
    obtain ⟨p, C, dx', xs, rfl, hp, hC⟩ := at_obj t rs.toRS0 r1 v1 hn.out
    refine .inl ⟨p, C, dx', xs, rfl, hp, hC, ?_, eqPost_ok rs r1 r2 L h⟩
    split at hk
    · rename_i n2 gs v2
      obtain ⟨hn2, hk⟩ := hk
      obtain ⟨q, D, dy', ys, rfl, hq, hD⟩ := at_obj t rs.toRS0 r2 v2 hn2.out
      exact .inl ⟨q, D, dy', ys, rfl, hq, hD, eqPost_ok rs r2 r1 L hk⟩
    · obtain ⟨T, hT⟩ := Option.isSome_iff_exists.mp hk
      obtain ⟨m, ty⟩ := tyF_ok rs.toRS0 r2 hT
      exact .inr ⟨T, m, ty⟩
  · split at h
    · rename_i n2 gs v2
      obtain ⟨hn2, hT, h⟩ := h
      obtain ⟨q, D, dy', ys, rfl, hq, hD⟩ := at_obj t rs.toRS0 r2 v2 hn2.out
      split at hT
      · rename_i T e
        obtain ⟨m, ty⟩ := tyF_ok rs.toRS0 r1 e
        exact .inr (.inl ⟨q, D, dy', ys, T, rfl, hq, hD, hT.out, ty, eqPost_ok rs r2 r1 L h⟩)
      · exact hT.elim
    · exact .inr (.inr (h0 P al M env σ H x y dx dy R Q rs r1 r2 h L))
end
section
variable {ns : List Str} {sp : DSp} {g : Bool → Bool} {lf : Bool} {M : Mt} {x y : D} {R : D → Mt → Prop} {n1 n2 : Str} {fs gs : List (Str × D)}
theorem eqT_obj (hx : viewD M x = .obj n1 fs) (hy : viewD M y = .obj n2 gs) (h1 : ns.contains n1 = true) (h2 : ns.contains n2 = true) (q1 : sp [x, y] M (eqPost g R) fun _ _ _ => False) (q2 : sp [y, x] M (eqPost g R) fun _ _ _ => False) : oEqT lf ns sp g x y M R := by
  unfold oEqT; simp only [hx, hy]; exact ⟨⟨h1⟩, ⟨⟨h2⟩, q2⟩, q1⟩
theorem tyF_obj (hy : viewD M y = .obj n2 gs) : tyF M y = none := by unfold tyF tyN; simp only [hy]
theorem eqT_any (hx : viewD M x = .obj n1 fs) (h1 : ns.contains n1 = true) (hy : (tyF M y).isSome = true) (q1 : sp [x, y] M (eqPost g R) fun _ _ _ => False) : oEqT lf ns sp g x y M R := by
  unfold oEqT; simp only [hx]
  refine ⟨⟨h1⟩, ?_, q1⟩
  split
  · rename_i n2 gs v2
    rw [tyF_obj v2] at hy; cases hy
  · exact hy
theorem eqT_left {T : String} (hy : viewD M y = .obj n2 gs) (h2 : ns.contains n2 = true) (hx : tyF M x = some T) (hT : T ∈ leftBs) (q1 : sp [y, x] M (eqPost id R) fun _ _ _ => False) : oEqT true ns sp g x y M R := by
  unfold oEqT
  split
  · rename_i v
    rw [tyF_obj v] at hx; cases hx
  · simp only [hy, hx]; exact ⟨⟨h2⟩, ⟨hT⟩, q1⟩
end
/-! ### isinstance, data with fixed dicts too -/
@[irreducible] def cIsOF (tb : List (Str × Bool)) (c : Str) : WCl := fun ds M R => match ds with
  | [x, .cls c'] => Need (c' = c) ∧ (match viewD M x with
    | .obj n1 _ => match tb.lookup n1 with
      | some r => R (.bl r) M
      | none => False
    | _ => (tyF M x).isSome = true ∧ R (.bl false) M)
  | _ => False
theorem cIsOF_ok {K : PySem.W.Frag} {B : Bs} {Cc : Addr} {c : Str} {tb : List (Str × Bool)} (ca : ClsAt K c Cc) (no : IscC K Cc) (t : TabI K Cc tb) : CallD K B (rIsi K) (cIsOF tb c) := by
  intro P al M env σ H vs ds R Q rs r h L
  unfold cIsOF at h
  split at h
  · rename_i x c'
    obtain ⟨hc, h⟩ := h
    have hc := hc.out
    subst hc
    cases r with
    | cons r1 t1 => cases t1 with
      | cons r2 t2 =>
        cases t2; cases r2
        rename_i C2 c2
        obtain rfl := ca.one c2
        split at h
        · rename_i n1 fs v1
          split at h
          · rename_i r0 hl
            obtain ⟨a, C', dx, xs, rfl, ha, hcl, _⟩ := view_obj rs.toRS0 r1 v1
            obtain ⟨i, kk⟩ := t.look _ _ _ hl hcl
            exact ⟨_, _, _, _, _, rfl, .own _, .base (.ins ha i.cl i.ha i.hn i.htk i.hm), kk, L.here rs (.bl _) h⟩
          · exact h.elim
        · obtain ⟨h1, h2⟩ := h
          obtain ⟨T, hT⟩ := Option.isSome_iff_exists.mp h1
          obtain ⟨m, ty⟩ := tyF_ok rs.toRS0 r1 hT
          exact ⟨_, _, _, _, _, rfl, .own _, ty, no.no m, L.here rs (.bl _) h2⟩
  · exact h.elim
theorem isOF_obj {n c : Str} {tb : List (Str × Bool)} {x : D} {fs : List (Str × D)} {b : Bool} {M : Mt} {R : D → Mt → Prop} (hx : viewD M x = .obj n fs) (hl : tb.lookup n = some b) (k : R (.bl b) M) : cIsOF tb c [x, .cls c] M R := by
  unfold cIsOF
  refine ⟨⟨rfl⟩, ?_⟩
  simp only [hx, hl]; exact k
theorem isOF_any {c : Str} {tb : List (Str × Bool)} {x : D} {M : Mt} {R : D → Mt → Prop} (ht : (tyF M x).isSome = true) (k : R (.bl false) M) : cIsOF tb c [x, .cls c] M R := by
  unfold cIsOF
  refine ⟨⟨rfl⟩, ?_⟩
  split
  · rename_i n1 fs v
    rw [tyF_obj v] at ht; cases ht
  · exact ⟨ht, k⟩
end L3

namespace L3
open PySem PySem.Spec PyProof.Rows L2 Builtin
/-! ### sorted(xs), xs a list of pairs (text, int) of different texts -/
def ltTx (x y : Str) : Bool := decide (x.cps.toList < y.cps.toList)
theorem ltTx_swo {α : Type} (k : α → Str) : SrtO.Swo fun v u => ltTx (k v) (k u) := by
  refine ⟨fun x y h => ?_, fun x y z h1 h2 => ?_⟩
  · exact decide_eq_false (List.lt_asymm (of_decide_eq_true h))
  · have a : (k x).cps.toList ≤ (k y).cps.toList := of_decide_eq_false h1
    have b : (k y).cps.toList ≤ (k z).cps.toList := of_decide_eq_false h2
    exact decide_eq_false (List.not_lt.mpr (List.le_trans a b))
section
variable {prog : Program} {w : World} {A : Around} {E : Value → Shared → Prop} {s : Shared}
def IsTx (h : Heap) (v : Value) (x : Str) : Prop := ∃ a o t y u n, v = .ref a ∧ h.get? a = some o ∧ o.cls = .type "tuple" ∧ o.data = .seq #[.str x t, .int y u] n
theorem IsTx.keeps {h h' : Heap} {v : Value} {x : Str} (p : IsTx h v x) (k : ∀ b o, h.get? b = some o → o.cls = .type "tuple" → h'.get? b = some o) : IsTx h' v x := by
  obtain ⟨a, o, t, y, u, n, e, ho, hc, hd⟩ := p
  exact ⟨a, o, t, y, u, n, e, k _ _ ho hc, hc, hd⟩
theorem tx_cmp {vs : List Value} {k : Value → Str} (hp : ∀ v ∈ vs, IsTx s.heap v (k v)) (hn : ∀ v ∈ vs, ∀ u ∈ vs, k v = k u → v = u) : SrtO.Cmp prog w A s (tuples' true) (fun p => p.1 ∈ vs) (SrtO.lt2 fun v u => ltTx (k v) (k u)) := by
  intro p q hm hm'
  have h1 := hp _ hm
  have h2 := hp _ hm'
  have hnn := hn _ hm _ hm'
  show wpAny (model prog w) A (keyLt' (tuples' true) p.1 q.1) (fun r s' => s' = s ∧ r = ltTx (k p.1) (k q.1)) (fun _ _ => False) s
  generalize k p.1 = x at h1 hnn ⊢
  generalize k q.1 = x' at h2 hnn ⊢
  obtain ⟨a, o, t, y, u, n, e, ho, hc, hd⟩ := h1
  obtain ⟨a', o', t', y', u', n', e', ho', hc', hd'⟩ := h2
  rw [e, e'] at hnn ⊢
  refine PySem.W.kat_lt ho hd ho' hd' ?_
  show PySem.W.KatLex prog w A true (decide (2 < 2)) _ [(.str x t, .str x' t'), (.int y u, .int y' u')] 0 s
  refine PySem.W.kat_cons (SeqAt.EqAt.str_str x t x' t' prog w _ _ ?_)
  refine PySem.W.kat_go (fun e1 => ?_) (fun e1 => ?_)
  · have ex : x = x' := by simpa using e1
    have ea := hnn ex
    cases ea
    rw [ho] at ho'
    cases ho'
    rw [hd] at hd'
    cases hd'
    refine PySem.W.kat_yes (PySem.W.kat_cons (SeqAt.EqAt.int_int y u y u prog w _ _ ?_))
    refine PySem.W.kat_go (fun e2 => ?_) (fun e2 => ?_)
    · exact PySem.W.kat_yes (PySem.W.kat_nil ⟨rfl, ((ltTx_swo (fun z : Str => z)).refl x).symm⟩)
    · simp at e2
  · exact PySem.W.kat_no (oneLt_str ⟨rfl, rfl⟩)
theorem firsts_tx {h : Heap} : ∀ {vs : List Value}, (∀ v ∈ vs, ∃ x, IsTx h v x) → ∃ fs : List Value, PySem.W.KatTups h vs fs ∧ fs.length = vs.length ∧ ∀ f ∈ fs, ∃ x t, f = Value.str x t
  | [], _ => ⟨[], PySem.W.KatTups.nil, rfl, fun _ hm => by simp at hm⟩
  | v :: vs, hp => by
    obtain ⟨fs, h1, h2, h3⟩ := firsts_tx (vs := vs) fun v' hm => hp v' (List.mem_cons_of_mem _ hm)
    obtain ⟨x, a, o, t, y, u, n, e, ho, hc, hd⟩ := hp v (List.mem_cons_self ..)
    subst e
    refine ⟨.str x t :: fs, PySem.W.KatTups.cons ho hc hd rfl h1, by rw [List.length_cons, List.length_cons, h2], fun f hm => ?_⟩
    rcases List.mem_cons.mp hm with rfl | hm
    · exact ⟨x, t, rfl⟩
    · exact h3 f hm
theorem tx_sortableO {a : Addr} {vs : List Value} {k : Value → Str} (h0 : 0 < vs.length) (hp : ∀ v ∈ vs, IsTx s.heap v (k v)) (hn : ∀ v ∈ vs, ∀ u ∈ vs, k v = k u → v = u) (ha : ∀ o, s.heap.get? a = some o → o.cls ≠ .type "tuple") : SrtO.SortableO prog w A s a vs fun v u => ltTx (k v) (k u) := by
  intro h' keep
  have hp' : ∀ v ∈ vs, IsTx h' v (k v) := fun v hm => (hp v hm).keeps fun b o e c => keep b o (fun z => by subst z; exact ha o e c) e
  obtain ⟨fs, h1, h2, h3⟩ := firsts_tx fun v hm => ⟨_, hp' v hm⟩
  refine ⟨tuples' true, fun Q E hq => ?_, tx_cmp hp' hn⟩
  refine PySem.W.kat_kind (T := .type "str") h1 (by omega) (fun f hm => ?_) (by rfl) ?_
  · obtain ⟨x, t, rfl⟩ := h3 f hm
    exact PySem.W.Looks.now
  · have e : (Value.type "str" != Value.type "tuple") = true := by first | decide +kernel | rfl | decide
    rw [e]
    exact hq
theorem sorted_txO {l : Addr} {vs : List Value} {k : Value → Str} {Q : Value → Shared → Prop} (hl : s.heap.IsList l vs.toArray) (hz : vs.length ≤ sizeLine) (hp : ∀ v ∈ vs, IsTx s.heap v (k v)) (hn : ∀ v ∈ vs, ∀ u ∈ vs, k v = k u → v = u)
    (h : ∀ (h' : Heap) (d : Addr) (out : List Value), SrtO.Srtd (fun v u => ltTx (k v) (k u)) out → SrtO.Stb (fun v u => ltTx (k v) (k u)) out vs → (∀ b o, s.heap.get? b = some o → h'.get? b = some o) → s.heap.objs.size ≤ d → (∃ n, h'.get? d = some (seqObj "list" out.toArray n)) → Q (.ref d) { s with heap := h' }) :
    wpAny (model prog w) A (call (.builtin "sorted") [.ref l]) Q E s := by
  refine SrtO.sorted_ord (ltTx_swo k) hl hz (fun h2 h₁ a ha kk => ?_) fun out hs hb => ?_
  · refine tx_sortableO (s := { s with heap := h₁ }) (by omega) (fun v hm => (hp v hm).keeps fun b o e _ => (kk b o e).2) hn fun o e => ?_
    have e' : some o = some (seqObj "list" vs.toArray 0) := e.symm.trans ha
    cases e'
    intro c
    exact absurd (Value.type.inj c) (by decide)
  · exact h _ _ out hs hb (fun b o e => sortedAll_old e) (Nat.le_succ _) (sortedAll_at s.heap vs out.toArray)
end
/-- what stands at v: a text and an int -/
def txV (h : Heap) : Value → Str × Int
  | .ref a => match h.get? a with
    | some o => match o.data with
      | .seq its _ => match its.toList with
        | [.str x _, .int i _] => (x, i)
        | _ => default
      | _ => default
    | none => default
  | _ => default
theorem txV_of {h : Heap} {a : Addr} {o : Obj} {x : Str} {t u : Tok} {i : Int} {n : Nat} (ho : h.get? a = some o) (hd : o.data = .seq #[.str x t, .int i u] n) : txV h (.ref a) = (x, i) := by
  unfold txV
  simp only [ho, hd]
/-- a pair that stands on the heap -/
def AtTx (K : PySem.W.Frag) (H : Hp) (x : V) (p : Str × Int) : Prop := ∃ t, x = V.ref t ∧ SqT K H t [.str p.1, .int p.2]
inductive Txs (K : PySem.W.Frag) (H : Hp) : List V → List (Str × Int) → Prop
  | nil : Txs K H [] []
  | cons {x : V} {p : Str × Int} {xs : List V} {ps : List (Str × Int)} : AtTx K H x p → Txs K H xs ps → Txs K H (x :: xs) (p :: ps)
/-- sorted(xs): a new list -/
def rSortedTx (K : PySem.W.Frag) : List V → Hp → VK → Prop := fun vs H Q => ∃ (a : Addr) (xs : List V) (ps : List (Str × Int)), vs = [V.ref a] ∧ SqL K H a xs ∧ Txs K H xs ps ∧ (ps.map (·.1)).Nodup ∧
  ∀ (zs : List (V × (Str × Int))) (p : Addr), zs.Perm (xs.zip ps) → SrtO.Srtd (fun x y => ltTx x.2.1 y.2.1) zs → H p = none → Q (.ref p) (upd H p (.lst (zs.map (·.1))))
theorem nodup_inj {α β : Type} {f : α → β} : ∀ {l : List α}, (l.map f).Nodup → ∀ x ∈ l, ∀ y ∈ l, f x = f y → x = y
  | [], _, x, hx, _, _, _ => by cases hx
  | a :: r, h, x, hx, y, hy, e => by
    rw [List.map_cons, List.nodup_cons] at h
    rcases List.mem_cons.mp hx with h1 | h1 <;> rcases List.mem_cons.mp hy with h2 | h2
    · rw [h1, h2]
    · exact absurd (by rw [← h1, e]; exact List.mem_map_of_mem h2) h.1
    · exact absurd (by rw [← h2, ← e]; exact List.mem_map_of_mem h1) h.1
    · exact nodup_inj h.2 x h1 y h2 e
theorem txs_its {X : Cx} {pins : List (Addr × Obj)} {σ : L2.St} {H : Hp} {s : Shared} (I : L2.Inv X pins σ H s) : ∀ {xs : List V} {ps : List (Str × Int)} {its : List Value}, Txs X.K H xs ps → Vals xs its →
    its.map (fun v => (backV v, txV s.heap v)) = xs.zip ps ∧ its.map (txV s.heap) = ps ∧ (∀ v ∈ its, IsTx s.heap v (txV s.heap v).1) ∧ ∀ v ∈ its, ∃ a, v = Value.ref a
  | _, _, _, .nil, .nil => ⟨rfl, rfl, (fun _ h => nomatch h), (fun _ h => nomatch h)⟩
  | _, _, v :: its, .cons (p := p) ⟨t, e, ht⟩ tx, .cons r rr => by
    subst e
    obtain rfl : v = Value.ref t := r
    obtain ⟨its2, o, n, r2, ho, hc, hd⟩ := sqT_at I.hok I.kIn ht
    obtain ⟨u1, u2, rfl, ri, rj⟩ := vals2 r2
    obtain ⟨t1, rfl⟩ := ri
    obtain ⟨t2, rfl⟩ := rj
    have e := txV_of (x := p.1) (i := p.2) ho hd
    obtain ⟨h1, h2, h3, h4⟩ := txs_its I tx rr
    refine ⟨?_, ?_, fun u hu => ?_, fun u hu => ?_⟩
    · rw [List.map_cons, h1, e]; rfl
    · rw [List.map_cons, h2, e]
    · rcases List.mem_cons.mp hu with rfl | hu
      · rw [e]; exact ⟨t, o, t1, _, t2, n, rfl, ho, hc, hd⟩
      · exact h3 u hu
    · rcases List.mem_cons.mp hu with rfl | hu
      · exact ⟨t, rfl⟩
      · exact h4 u hu
theorem cr_sortedTx {X : Cx} : CallR X (.builtin "sorted") (rSortedTx X.K) := by
  intro pins s σ H vs us Q I r h
  obtain ⟨a, xs, ps, rfl, hs, hx, nd, q⟩ := h
  obtain ⟨its, rv, hl, hz⟩ := I.list hs
  obtain ⟨u, rfl, ru⟩ := vals1 r
  obtain rfl : u = Value.ref a := ru
  obtain ⟨e1, e2, e3, e4⟩ := txs_its I hx rv
  have nd2 : (its.map fun v => (txV s.heap v).1).Nodup := by
    rw [← e2, List.map_map] at nd; exact nd
  refine sorted_txO (k := fun u => (txV s.heap u).1) hl.isList (by rw [← rv.length]; exact hz) e3 (fun v hv u hu e => nodup_inj nd2 v hv u hu e) fun h' d out h1 h2 kp hd hn => ?_
  have h3 : ∀ u ∈ out, ∃ a, u = Value.ref a := fun u hu => e4 u (h2.perm.mem_iff.mp hu)
  obtain ⟨n, hn⟩ := hn
  have hb : (out.map fun v => (backV v, txV s.heap v)).Perm (xs.zip ps) := by
    rw [← e1]
    exact h2.perm.map _
  have q2 := q (out.map fun v => (backV v, txV s.heap v)) d hb (SrtO.srtd_map (lt := fun x y : V × (Str × Int) => ltTx x.2.1 y.2.1) h1) (I.hok.fresh hd)
  rw [List.map_map] at q2
  refine ⟨.ref d, upd H d (.lst (out.map backV)), I.laid (t' := s.toks) kp hd ⟨?_, out, n, vals_back h3, hn⟩, rfl, q2⟩
  rw [List.length_map, h2.perm.length_eq, ← rv.length]
  exact hz
/-! over data -/
def prT (p : Str × Int) : D := .tup [.str p.1, .int p.2]
def pairsT : List D → Option (List (Str × Int))
  | [] => some []
  | .tup [.str s, .int i] :: r => (pairsT r).map ((s, i) :: ·)
  | _ => none
theorem pairsT_map : ∀ ps : List (Str × Int), pairsT (ps.map prT) = some ps
  | [] => rfl
  | p :: r => by
    show (pairsT (r.map prT)).map ((p.1, p.2) :: ·) = _
    rw [pairsT_map r]; rfl
theorem pairsT_eq : ∀ {l : List D} {ps : List (Str × Int)}, pairsT l = some ps → l = ps.map prT
  | [], _, e => by cases e; rfl
  | d :: r, ps, e => by
    unfold pairsT at e
    split at e
    · rename_i h; cases h
    · rename_i h
      cases h
      cases hr : pairsT r with
      | none => rw [hr] at e; cases e
      | some qs =>
        rw [hr] at e
        cases e
        rw [pairsT_eq hr]; rfl
    · cases e
@[irreducible] def cSortTx : WCl := fun ds M R => match ds with
  | [x] => match lstD (viewD M x) with
    | some l => match pairsT l with
      | some ps => Need ((ps.map (·.1)).Nodup) ∧ ∀ qs : List (Str × Int), qs.Perm ps → SrtO.Srtd (fun x y : Str × Int => ltTx x.1 y.1) qs → R (.lst (qs.map prT)) M
      | none => False
    | none => False
  | _ => False
theorem reps_txs {K : PySem.W.Frag} {B : Bs} {P : Hp} {al : List Addr} {M : Mt} {H : Hp} (rs : RS0 K B P al M H) : ∀ {ps : List (Str × Int)} {xs : List V}, Reps K P al (ps.map prT) xs → Txs K H xs ps ∧ ∀ z ∈ xs.zip ps, Rep K P al (prT z.2) z.1
  | [], _, .nil => ⟨.nil, fun _ h => by cases h⟩
  | p :: r, _, .cons q t => by
    obtain ⟨h1, h2⟩ := reps_txs rs t
    obtain ⟨a, xs, rfl, ha, hq⟩ := view_tup rs q (show viewD M (prT p) = .tup [.str p.1, .int p.2] from rfl)
    cases hq with
    | cons q1 t1 => cases t1 with
      | cons q2 t2 =>
        cases t2; cases q1; cases q2
        refine ⟨.cons ⟨a, rfl, ha⟩ h1, fun z hz => ?_⟩
        rcases List.mem_cons.mp hz with rfl | hz
        · exact q
        · exact h2 z hz
theorem zips_reps {K : PySem.W.Frag} {P : Hp} {al : List Addr} : ∀ {zs : List (V × (Str × Int))}, (∀ z ∈ zs, Rep K P al (prT z.2) z.1) → Reps K P al ((zs.map (·.2)).map prT) (zs.map (·.1))
  | [], _ => .nil
  | z :: r, h => .cons (h z List.mem_cons_self) (zips_reps fun y hy => h y (List.mem_cons_of_mem _ hy))
theorem cSortTx_ok {K : PySem.W.Frag} {B : Bs} : CallD K B (rSortedTx K) cSortTx := by
  intro P al M env σ H vs ds R Q rs r h L
  unfold cSortTx at h
  split at h
  · cases r with
    | cons r1 t =>
      cases t
      split at h
      · rename_i l e1
        split at h
        · rename_i ps e2
          obtain ⟨hn, h⟩ := h
          obtain ⟨a, xs, rfl, h1, q1⟩ := view_lstD rs.toRS0 r1 e1
          rw [pairsT_eq e2] at q1
          obtain ⟨tx, hz⟩ := reps_txs rs.toRS0 q1
          refine ⟨a, xs, ps, rfl, h1, tx, hn.out, fun zs p hp hs hf => ?_⟩
          have hzs : ∀ z ∈ zs, Rep K P al (prT z.2) z.1 := fun z hm => hz z (hp.subset hm)
          have hl : xs.length = ps.length := by have := q1.length; rw [List.length_map] at this; omega
          have hp2 : (zs.map (·.2)).Perm ps := by
            have := hp.map (·.2)
            rw [List.map_snd_zip (by omega)] at this
            exact this
          exact L.alloc rs hf (.lst upd_same ((zips_reps hzs).mono (same_new rs.toRS0 hf) (List.prefix_refl _))) (h (zs.map (·.2)) hp2 (List.pairwise_map.mpr hs))
        · exact h.elim
      · exact h.elim
  · exact h.elim
theorem sortTx_use {x : D} {ps : List (Str × Int)} {M : Mt} {R : D → Mt → Prop} (h : viewD M x = .lst (ps.map prT)) (hn : (ps.map (·.1)).Nodup) (k : ∀ qs : List (Str × Int), qs.Perm ps → SrtO.Srtd (fun x y : Str × Int => ltTx x.1 y.1) qs → R (.lst (qs.map prT)) M) : cSortTx [x] M R := by
  unfold cSortTx
  simp only [h, lstD, pairsT_map]
  exact ⟨⟨hn⟩, k⟩
end L3

namespace L3
open PySem PySem.Spec PyProof.Rows L2 Builtin
/-! ### xs.index(y), flat things -/
@[irreducible] def mIndex : WM := fun x ds M R => match viewD M x, ds with
  | .lst l, [y] => match flatDs l, flatD y with
    | some vs, some v => ∃ (j : Nat) (z : V), vs[j]? = some z ∧ eqV z v = true ∧ (∀ (m : Nat) (z' : V), m < j → vs[m]? = some z' → eqV z' v = false) ∧ R (.int (j : Nat)) M
    | _, _ => False
  | _, _ => False
theorem mIndex_ok {K : PySem.W.Frag} {B : Bs} : MethD K B (rIndex K) mIndex := by
  intro P al M env σ H x dx vs ds R Q rs r1 r2 h L
  unfold mIndex at h
  split at h
  · rename_i l y hv
    cases r2 with
    | cons q1 t =>
      cases t
      obtain ⟨a, xs, rfl, h1, q2⟩ := view_lst rs.toRS0 r1 hv
      split at h
      · rename_i vs v e3 e4
        obtain ⟨j, z, g1, g2, g3, h⟩ := h
        obtain ⟨rfl, f1⟩ := flat_rep q1 e4
        obtain ⟨rfl, f2⟩ := flat_reps q2 e3
        exact ⟨a, _, _, j, z, rfl, rfl, .inl (.inl h1), f1, f2, g1, g2, g3, L.here rs (.int _) h⟩
      · exact h.elim
  · exact h.elim
theorem index_ints {ns : List Int} {x : D} {n : Int} {j : Nat} {M : Mt} {R : D → Mt → Prop} (h : viewD M x = .lst (ns.map D.int)) (fl : flatDs (ns.map D.int) = some (ns.map V.int)) (hj : ns[j]? = some n) (hn : ∀ m, m < j → ns[m]? ≠ some n) (k : R (.int (j : Nat)) M) : mIndex x [.int n] M R := by
  unfold mIndex
  simp only [h, fl, flatD]
  refine ⟨j, .int n, by rw [List.getElem?_map, hj]; rfl, by simp [eqV], fun m z' hm hz => ?_, k⟩
  rw [List.getElem?_map] at hz
  cases e : ns[m]? with
  | none => rw [e] at hz; cases hz
  | some i =>
    rw [e] at hz
    cases hz
    have : i ≠ n := fun e2 => hn m hm (by rw [e, e2])
    simpa [eqV] using this
end L3

namespace L3
open PySem PySem.Spec PyProof.Rows L2 Builtin
/-! ### dict(d): a copy that never changes -/
theorem call_dictF {X : Cx} : CallR X (.type "dict") (fun xs H Q => ∃ (a : Addr) (kvs : List (Key × V)), xs = [.ref a] ∧ Rd H a (.dK kvs) ∧ ∀ p od, H p = none → Q (.ref p) (upd H p (.frz od (.dK kvs)))) := by
  intro pins s σ H xs us Q I r q
  obtain ⟨a, kvs, ex, hd, q⟩ := q
  refine wpAny_mono (call_dictD pins s σ H xs us (fun v H' => ∃ p, v = .ref p ∧ H p = none ∧ H' = upd H p (.dK kvs)) I r ⟨a, kvs, ex, hd, fun p hp => ⟨p, rfl, hp, rfl⟩⟩) (fun v s' z => ?_) fun _ _ z => z
  obtain ⟨x, H', I', rv, p, rfl, hp, rfl⟩ := z
  obtain ⟨od, I2⟩ := I'.lock (d := p) (u := .dK kvs) upd_same trivial
  refine ⟨.ref p, _, I2, rv, ?_⟩
  have e : upd (upd H p (.dK kvs)) p (.frz od (.dK kvs)) = upd H p (.frz od (.dK kvs)) := by
    funext b
    by_cases h : b = p
    · subst h; rw [upd_same, upd_same]
    · rw [upd_ne h, upd_ne h, upd_ne h]
  rw [e]; exact q p od hp
@[irreducible] def cDictF : WCl := fun ds M R => match ds with
  | [x] => match viewD M x with
    | .dct ks => R (.fdc ks) M
    | .fdc ks => R (.fdc ks) M
    | _ => False
  | _ => False
theorem cDictF_ok {K : PySem.W.Frag} {B : Bs} : CallD K B (fun xs H Q => ∃ (a : Addr) (kvs : List (Key × V)), xs = [.ref a] ∧ Rd H a (.dK kvs) ∧ ∀ p od, H p = none → Q (.ref p) (upd H p (.frz od (.dK kvs)))) cDictF := by
  intro P al M env σ H vs ds R Q rs r h L
  unfold cDictF at h
  split at h
  · cases r with
    | cons r1 t =>
      cases t
      split at h
      · rename_i ks e
        obtain ⟨a, xs, rfl, h1, q1⟩ := view_dct rs.toRS0 r1 e
        exact ⟨a, xs, rfl, .inl h1, fun p od hp => L.alloc rs hp (.fdc upd_same (q1.mono (same_new rs.toRS0 hp) (List.prefix_refl _))) h⟩
      · rename_i ks e
        obtain ⟨a, xs, rfl, h1, q1⟩ := view_fdc rs.toRS0 r1 e
        exact ⟨a, xs, rfl, h1, fun p od hp => L.alloc rs hp (.fdc upd_same (q1.mono (same_new rs.toRS0 hp) (List.prefix_refl _))) h⟩
      · exact h.elim
  · exact h.elim
theorem dictF_use {M : Mt} {x : D} {ks : List (Key × D)} {R : D → Mt → Prop} (h : viewD M x = .fdc ks ∨ viewD M x = .dct ks) (k : R (.fdc ks) M) : cDictF [x] M R := by
  unfold cDictF
  rcases h with h | h <;> simp only [h] <;> exact k
/-- isinstance(x, T), fixed dicts too -/
def cIsiF : WCl := fun ds M R => match ds with
  | [x, .ty b] => match tyF M x with
    | some a => Need (b ∈ ["bool", "int", "str", "tuple", "list", "dict"]) ∧ R (.bl (isB a b)) M
    | none => False
  | _ => False
theorem cIsiF_ok {K : PySem.W.Frag} {B : Bs} : CallD K B (rIsi K) cIsiF := by
  intro P al M env σ H vs ds R Q rs r h L
  unfold cIsiF at h
  split at h
  · cases r with
    | cons r1 t => cases t with
      | cons r2 t =>
        cases t; cases r2
        split at h
        · rename_i b _ a e
          obtain ⟨m, ty⟩ := tyF_ok rs.toRS0 r1 e
          exact ⟨_, _, _, _, _, rfl, .ty _, ty, kit_ty (isB_ok a m _ h.1.out), L.here rs (.bl _) h.2⟩
        · exact h.elim
  · exact h.elim
end L3

namespace K14
open PySem PySem.Spec PyProof.Rows L2 L3
local macro_rules | `(tactic| walk_at "hyp") => `(tactic| try simp only [decide_eq_true_eq, decide_eq_false_iff_not, Bool.not_eq_true', Bool.not_eq_false', Int.not_lt, Int.not_le, Bool.false_eq_true, if_false, if_true, reduceIte, strIn_one, List.length_map] at *)
local macro_rules | `(tactic| walk_at "leaf") => `(tactic| (refine Need.mk ?_; first | exact rfl | ((try dsimp only); first | omega | decide | (simp only [List.length_map]; omega) | exact Nat.le_of_ble_eq_true rfl | (decide +kernel) | exact plain_ints _ | exact cdivw (by omega) (by omega) | exact cpow (by omega) (by omega) (by omega) (by omega) | exact cmul_l (by omega) (by omega) | exact cmul_r (by omega) (by omega) | (rw [line16]; omega) | (rw [line16]; simp only [List.length_cons, List.length_nil, List.length_map, List.length_append]; omega) | exact ⟨rfl, rfl⟩)))
local macro_rules | `(tactic| walk_at "call") => `(tactic| fail)
local macro_rules | `(tactic| walk_at "go") => `(tactic| ((conv => whnf); first
  | (refine And.intro ?_ ?_ <;> walk_at "go")
  | (intro h; first | (exact absurd h (by decide)) | (walk_at "hyp"; first | (exfalso; omega) | (exact absurd rfl ‹_›) | walk_at "go"))
  | walk_at "leaf"
  | exact rfl
  | walk_at "call"
  | (refine eqI_int ?_; walk_at "go")
  | (refine eqI_lnil rfl ?_ ?_ <;> walk_at "go")
  | (refine eqI_tnil rfl ?_ ?_ <;> walk_at "go")
  | (refine eqI_str ?_; walk_at "go")
  | (refine eqI_bl ?_; walk_at "go")
  | (refine eqI_0 ?_; walk_at "go")
  | (refine eqI_1 ?_; walk_at "go")
  | (refine eqI_2 ?_; walk_at "go")
  | (refine eqI_3 ?_; walk_at "go")
  | (refine eqI_4 ?_; walk_at "go")
  | (refine eqI_5 ?_; walk_at "go")
  | (refine eqI_6 ?_; walk_at "go")
  | (refine eqI_7 ?_; walk_at "go")
  | (refine eqI_8 ?_; walk_at "go")
  | (refine eqI_9 ?_; walk_at "go")
  | (refine eqI_10 ?_; walk_at "go")
  | (refine len_use rfl ?_; walk_at "go")
  | (refine len_tup rfl ?_; walk_at "go")
  | (refine Exists.intro _ (And.intro (fun _ _ h => h) ?_); walk_at "go")
  | skip))
def LET : Str := "abcdefghijklmnopqrstuvwxyz"
def DIG : Str := "0123456789"
def RES : List V := [.str "to", .str "if", .str "tag", .str "all", .str "none"]
def nmV (s : Str) : Bool := decide (1 ≤ (s.length : Int)) && decide ((s.length : Int) ≤ 8) && !inV (.str s) RES && (match s.cps.toList with
  | c :: _ => decide (c ∈ LET.cps.toList)
  | [] => false) && s.cps.toList.all fun c => decide (c ∈ LET.cps.toList) || decide (c ∈ DIG.cps.toList)
def isNm : D → Bool
  | .str s => nmV s
  | _ => false
def isNum (a b : Int) : D → Bool
  | .int i => decide (a ≤ i) && decide (i ≤ b)
  | _ => false
/-- values that can be asked -/
def askB : D → Bool
  | .str s => decide (s.length ≤ 1000)
  | .non => true
  | .bl _ => true
  | .int _ => true
  | .tup _ => true
  | .lst _ => true
  | .dct _ => true
  | _ => false
structure Val (d : D) : Prop where
  ask : askB d = true
  nc : ∀ n, noCel n d = true
theorem Val.view {d : D} (h : Val d) (M : Mt) : viewD M d = d := by
  have := h.ask
  cases d <;> first | rfl | (simp [askB] at this)
/-- the pen -/
def pen (cs : List Int) (a r : Int) : D := .lst [.lst (cs.map D.int), .int a, .int r]
def PenOk (n : Int) (b : D) : Prop := ∃ cs a r, b = pen cs a r ∧ 0 ≤ a ∧ a ≤ n ∧ 0 ≤ r
theorem PenOk.mono {n m : Int} {b : D} (h : PenOk n b) (hm : n ≤ m) : PenOk m b := by
  obtain ⟨cs, a, r, e, h1, h2, h3⟩ := h
  exact ⟨cs, a, r, e, h1, by omega, h3⟩
theorem pen_cell {n : Int} {m : D} (h : PenOk n m) (k : Nat) : cellOk k m = true := by
  obtain ⟨cs, a, r, rfl, _⟩ := h
  have : noCels k (cs.map D.int) = true := noCels_mem.mpr fun d hd => by
    obtain ⟨c, _, rfl⟩ := List.mem_map.mp hd; rfl
  simp [cellOk, pen, noCels, noCel, this]
theorem set_rest {cs : List Int} {a r v : Int} {M2 : Mt} {Q : Mt → Prop} (k : Q (pen cs a v :: M2)) : dsetIx (.int v) (.cel 0) (.int 2) (pen cs a r :: M2) Q :=
  setIx_use (l := [.lst (cs.map D.int), .int a, .int r]) rfl (by decide) (by simp) k
theorem set_at {cs : List Int} {a r v : Int} {M2 : Mt} {Q : Mt → Prop} (k : Q (pen cs v r :: M2)) : dsetIx (.int v) (.cel 0) (.int 1) (pen cs a r :: M2) Q :=
  setIx_use (l := [.lst (cs.map D.int), .int a, .int r]) rfl (by decide) (by simp) k
def isInt : D → Bool
  | .int _ => true
  | _ => false
/-! is_integer: 0 value -/
abbrev p_is_integer : List Str := ["value"]
@[irreducible] def sp_is_integer : DSp := fun ds M R _ => ∃ d, ds = [d] ∧ Val d ∧ R (.bl (isInt d)) M
theorem len_is_integer : ∀ ds M R RX, sp_is_integer ds M R RX → ds.length = p_is_integer.length := by
  unfold sp_is_integer; rintro ds M R RX ⟨d, rfl, _⟩; rfl
theorem use_is_integer {d : D} {M : Mt} {R RX} (h : Val d) (k : R (.bl (isInt d)) M) : sp_is_integer [d] M R RX := by
  unfold sp_is_integer; exact ⟨d, rfl, h, k⟩
def w_is_integer : WS :=
  (wRet (wAndV (wCB cIsi (wCons (wVar 0) (wCons (wC (.ty "int")) wNil))) (wNotV (wCB cIsi (wCons (wVar 0) (wCons (wC (.ty "bool")) wNil))))))
theorem wp_is_integer : ∀ ds M R RX, sp_is_integer ds M R RX → M.all (cellOk M.length) = true → noCels M.length ds = true → w_is_integer (fnEnds M.length R) (startE 1 ds) M := by
  unfold sp_is_integer; rintro ds M R RX ⟨d, rfl, h, k⟩ _ _
  have ha := h.ask
  cases d <;> first | (simp [askB] at ha; done) | (walk_at "go" <;> first | exact .keep k | (rename_i z; exact absurd z (by decide)))
/-! is_between: 0 value, 1 least, 2 most -/
abbrev p_is_between : List Str := ["value", "least", "most"]
@[irreducible] def sp_is_between : DSp := fun ds M R _ => ∃ (d : D) (a b : Int), ds = [d, .int a, .int b] ∧ Val d ∧ R (.bl (isNum a b d)) M
theorem len_is_between : ∀ ds M R RX, sp_is_between ds M R RX → ds.length = p_is_between.length := by
  unfold sp_is_between; rintro ds M R RX ⟨d, a, b, rfl, _⟩; rfl
theorem use_is_between {d : D} {a b : Int} {M : Mt} {R RX} (h : Val d) (k : R (.bl (isNum a b d)) M) : sp_is_between [d, .int a, .int b] M R RX := by
  unfold sp_is_between; exact ⟨d, a, b, rfl, h, k⟩
def w_is_between : WS :=
  (wRet (wAndV (wCall sp_is_integer [] RX0 (wCons (wVar 0) wNil)) (wChain oLe oLe (wVar 1) (wVar 0) (wVar 2))))
theorem wp_is_between : ∀ ds M R RX, sp_is_between ds M R RX → M.all (cellOk M.length) = true → noCels M.length ds = true → w_is_between (fnEnds M.length R) (startE 3 ds) M := by
  unfold sp_is_between; rintro ds M R RX ⟨d, a, b, rfl, h, k⟩ _ _
  walk_at "go"
  refine use_is_integer h ?_
  have ha := h.ask
  cases d with
  | int i =>
    simp only [isInt]
    walk_at "go"
    · rename_i h1
      refine .keep ?_
      have e : isNum a b (.int i) = decide (i ≤ b) := by simp [isNum, h1]
      rw [e] at k; exact k
    · rename_i h1
      refine .keep ?_
      have e : isNum a b (.int i) = false := by
        have : ¬ a ≤ i := by omega
        simp [isNum, this]
      rw [e] at k; exact k
  | _ => first | (simp [askB] at ha; done) | (simp only [isInt]; walk_at "go"; exact .keep k)
/-! is_name: 0 value, 1 sign -/
abbrev p_is_name : List Str := ["value"]
@[irreducible] def sp_is_name : DSp := fun ds M R _ => ∃ d, ds = [d] ∧ Val d ∧ R (.bl (isNm d)) M
theorem len_is_name : ∀ ds M R RX, sp_is_name ds M R RX → ds.length = p_is_name.length := by
  unfold sp_is_name; rintro ds M R RX ⟨d, rfl, _⟩; rfl
theorem use_is_name {d : D} {M : Mt} {R RX} (h : Val d) (k : R (.bl (isNm d)) M) : sp_is_name [d] M R RX := by
  unfold sp_is_name; exact ⟨d, rfl, h, k⟩
def w_is_name : WS :=
  (wSeq (wIfS (wOrT (wNotT (wTru (wCB cIsi (wCons (wVar 0) (wCons (wC (.ty "str")) wNil))))) (wOrT (wNotT (wTest (wChain oLe oLe (wC (.int 1)) (wCB cLen (wCons (wVar 0) wNil)) (wC (.int 8))))) (wTest (wOp (oIn false) (wVar 0) (wC (.tup [.str "to", .str "if", .str "tag", .str "all", .str "none"])))))) (wRet (wC (.bl false))) wSkip)
    (wRet (wAndV (wOp (oIn false) (wOp oIx (wVar 0) (wC (.int 0))) (wC (.str "abcdefghijklmnopqrstuvwxyz"))) (wCB (cAll fun bs => bs.all id) (wCons (wLc (wIt (wVar 0)) [1] wYes (wOrV (wOp (oIn false) (wVar 1) (wC (.str "abcdefghijklmnopqrstuvwxyz"))) (wOp (oIn false) (wVar 1) (wC (.str "0123456789")))) [1]) wNil)))))
theorem wp_is_name : ∀ ds M R RX, sp_is_name ds M R RX → M.all (cellOk M.length) = true → noCels M.length ds = true → w_is_name (fnEnds M.length R) (startE 2 ds) M := by
  unfold sp_is_name; rintro ds M R RX ⟨d, rfl, hv, k⟩ _ _
  have ha := hv.ask
  cases d with
  | str s =>
    have hl : s.length ≤ 1000 := by simpa [askB] using ha
    have cut : ∀ b : Bool, nmV s = b → retF M.length R (.bl b) M := fun b e => .keep (by rw [← e]; exact k)
    walk_at "go"
    refine len_str rfl (by rw [line16]; omega) ?_
    walk_at "go"
    · rename_i h1 h2
      refine cut _ ?_
      have : ¬ (s.length : Int) ≤ 8 := by omega
      simp [nmV, this]
    · refine in_flat rfl rfl ?_
      walk_at "go"
      · rename_i h1 h2 h3
        refine cut _ ?_
        have : inV (.str s) RES = true := h3
        simp [nmV, this]
      · rename_i h1 h2 h3
        have h3' : inV (.str s) RES = false := h3
        obtain ⟨c, cs, e⟩ : ∃ c cs, s.cps.toList = c :: cs := by
          cases e : s.cps.toList with
          | nil =>
            have : s.length = 0 := by show s.cps.size = 0; rw [← Array.length_toList, e]; rfl
            omega
          | cons c cs => exact ⟨c, cs, rfl⟩
        have e0 : L2.atI s.cps.toList 0 = some c := by rw [e]; exact atI_nat (j := 0) rfl
        rw [e0]
        walk_at "go"
        refine in_str rfl ?_
        walk_at "go"
        · rename_i h4
          have h4' : c ∈ LET.cps.toList := h4
          refine lcL_map (fun d => match d with | .str x => .bl (strIn x LET || strIn x DIG) | _ => .non) _ _ (by rw [chars_len, line16]; omega) (fun d hd A hA => ?_) ?_
          · obtain ⟨c, hc, rfl⟩ := mem_chars hd
            have hA' : A (.bl (strIn ⟨#[c]⟩ LET || strIn ⟨#[c]⟩ DIG)) M := hA
            clear hA
            walk_at "go"
            refine in_str rfl ?_
            cases hq : strIn ⟨#[c]⟩ LET
            · rw [hq, Bool.false_or] at hA'
              have hq' : strIn ⟨#[c]⟩ "abcdefghijklmnopqrstuvwxyz" = false := hq
              rw [hq']
              walk_at "go"
              refine in_str rfl ?_
              walk_at "go"
              show A (.bl (strIn ⟨#[c]⟩ DIG)) M
              first | exact hA' | (rw [strIn_one]; exact hA')
            · rw [hq, Bool.true_or] at hA'
              have hq' : strIn ⟨#[c]⟩ "abcdefghijklmnopqrstuvwxyz" = true := hq
              rw [hq']
              walk_at "go"
              exact hA'
          · rw [chars_map]
            walk_at "go"
            rw [boolsD_map (g := fun c => strIn ⟨#[c]⟩ LET || strIn ⟨#[c]⟩ DIG) fun _ => rfl]
            walk_at "go"
            refine cut _ ?_
            simp only [nmV, h1, h2, h3', e, h4', List.all_map, strIn_one, decide_true, Bool.not_false, Bool.true_and, Bool.and_true, List.all_cons, Function.comp, id]
            rfl
        · rename_i h4
          refine cut _ ?_
          have h4' : ¬ c ∈ LET.cps.toList := h4
          simp [nmV, e, h4']
    · rename_i h1
      refine cut _ ?_
      have : ¬ 1 ≤ (s.length : Int) := by omega
      simp [nmV, this]
  | _ => first | (simp [askB] at ha; done) | (walk_at "go"; exact .keep k)

/-! are_conditions: 0 values, 1 value -/
abbrev p_are_conditions : List Str := ["values"]
/-! ### kinds as data -/
theorem nm_len {s : Str} (h : nmV s = true) : 1 ≤ s.length ∧ s.length ≤ 8 := by
  unfold nmV at h
  simp only [Bool.and_eq_true, decide_eq_true_eq] at h
  omega
theorem nm_val {s : Str} (h : nmV s = true) : Val (.str s) := ⟨by have := nm_len h; simp [askB]; omega, fun _ => rfl⟩
abbrev ML := List (Str × Nat)
def mkD (ms : ML) : List (Key × D) := ms.map fun p => (.inr p.1, .int (p.2 : Nat))
def getN (ms : ML) (w : Str) : Nat := (ms.lookup w).getD 0
def winS : Nat → List Str → Str → Nat
  | _, [], _ => 0
  | lo, c :: r, w => if c = w then 2 ^ lo else winS (lo + 1) r w
inductive Kn where
  | kind (nm : Str) | test (nm c : Str) (b : Nat) | win (nm : Str) (lo : Nat) (cs : List Str) | any (nm : Str) (b : Nat) (cs : List Str) | tw (nm c : Str) (b lo : Nat) (cs : List Str) | msk (nm : Str) (ms : ML)
def tupS (cs : List Str) : D := .tup (cs.map D.str)
def nD (n : Nat) : D := .int (n : Int)
def Kn.nm : Kn → Str
  | .kind nm => nm | .test nm _ _ => nm | .win nm _ _ => nm | .any nm _ _ => nm | .tw nm _ _ _ _ => nm | .msk nm _ => nm
def Kn.cn : Kn → Str
  | .kind _ => "Kind" | .test _ _ _ => "Test" | .win _ _ _ => "Window" | .any _ _ _ => "AnyOf" | .tw _ _ _ _ _ => "TestWindow" | .msk _ _ => "Masks"
def Kn.fs : Kn → List (Str × D)
  | .kind nm => [("name", .str nm)]
  | .test nm c b => [("name", .str nm), ("condition", .str c), ("bit", nD b)]
  | .win nm lo cs => [("name", .str nm), ("low", nD lo), ("own_conditions", tupS cs)]
  | .any nm b cs => [("name", .str nm), ("bit", nD b), ("own_conditions", tupS cs)]
  | .tw nm c b lo cs => [("name", .str nm), ("low", nD lo), ("own_conditions", tupS cs), ("condition", .str c), ("bit", nD b)]
  | .msk nm ms => [("name", .str nm), ("own_masks", .dct (mkD ms))]
def Kn.obj (k : Kn) : D := .obj k.cn k.fs
theorem obj_test (nm c : Str) (b : Nat) : (Kn.test nm c b).obj = .obj "Test" [("name", .str nm), ("condition", .str c), ("bit", .int (b : Int))] := rfl
theorem obj_win (nm : Str) (lo : Nat) (cs : List Str) : (Kn.win nm lo cs).obj = .obj "Window" [("name", .str nm), ("low", .int (lo : Int)), ("own_conditions", .tup (cs.map D.str))] := rfl
theorem obj_any (nm : Str) (b : Nat) (cs : List Str) : (Kn.any nm b cs).obj = .obj "AnyOf" [("name", .str nm), ("bit", .int (b : Int)), ("own_conditions", .tup (cs.map D.str))] := rfl
theorem obj_tw (nm c : Str) (b lo : Nat) (cs : List Str) : (Kn.tw nm c b lo cs).obj = .obj "TestWindow" [("name", .str nm), ("low", .int (lo : Int)), ("own_conditions", .tup (cs.map D.str)), ("condition", .str c), ("bit", .int (b : Int))] := rfl
theorem obj_msk (nm : Str) (ms : ML) : (Kn.msk nm ms).obj = .obj "Masks" [("name", .str nm), ("own_masks", .dct (mkD ms))] := rfl
def bitS (c : Str) (b : Nat) (w : Str) : Nat := if w = c then 2 ^ b else 0
def anyS (b : Nat) (cs : List Str) (w : Str) : Nat := if w ∈ cs then 2 ^ b else 0
def Kn.sg : Kn → Str → Nat
  | .kind _, _ => 0
  | .test _ c b, w => bitS c b w
  | .win _ lo cs, w => winS lo cs w
  | .any _ b cs, w => anyS b cs w
  | .tw _ c b lo cs, w => winS lo cs w ||| bitS c b w
  | .msk _ ms, w => getN ms w
def Kn.may : Kn → List Str
  | .kind _ => [] | .test _ c _ => [c] | .win _ _ cs => cs | .any _ _ cs => cs | .tw _ c _ _ cs => cs ++ [c] | .msk _ ms => ms.map (·.1)
def orL (f : Str → Nat) : List Str → Nat := List.foldl (fun a w => a ||| f w) 0
structure Conds (cs : List Str) : Prop where
  nd : cs.Nodup
  nm : ∀ c ∈ cs, nmV c = true
  l1 : 1 ≤ cs.length
  l5 : cs.length ≤ 5
structure MLOk (ms : ML) : Prop where
  nd : (ms.map (·.1)).Nodup
  nm : ∀ p ∈ ms, nmV p.1 = true
  lt : ∀ p ∈ ms, p.2 < 256
  l6 : ms.length ≤ 6
def Kn.Ok : Kn → Prop
  | .kind nm => nmV nm = true
  | .test nm c b => nmV nm = true ∧ nmV c = true ∧ b ≤ 7
  | .win nm lo cs => nmV nm = true ∧ Conds cs ∧ lo + cs.length ≤ 8
  | .any nm b cs => nmV nm = true ∧ Conds cs ∧ b ≤ 7
  | .tw nm c b lo cs => nmV nm = true ∧ nmV c = true ∧ b ≤ 7 ∧ Conds cs ∧ lo + cs.length ≤ 8
  | .msk nm ms => nmV nm = true ∧ MLOk ms ∧ ms.length ≤ 5
theorem shl_nat (b : Nat) : (1 * 2 ^ (b : Int).toNat : Int) = ((2 ^ b : Nat) : Int) := by
  rw [Int.toNat_natCast, Int.one_mul]; norm_cast
theorem shl_nat2 (lo i : Nat) : (1 * 2 ^ ((lo : Int) + ((0 + i : Nat) : Int)).toNat : Int) = ((2 ^ (lo + i) : Nat) : Int) := by
  rw [Nat.zero_add, ← Int.natCast_add]; exact shl_nat _
theorem or0 (a : Nat) : Builtin.bitOr 0 (a : Int) = (a : Int) := by
  have := or_nat 0 a
  rw [Nat.zero_or] at this
  exact this
theorem or0r (a : Nat) : Builtin.bitOr (a : Int) 0 = (a : Int) := by
  have := or_nat a 0
  rw [Nat.or_zero] at this
  exact this
theorem tupDct_use {x : D} {ks : List (Key × D)} {M : Mt} {R : D → Mt → Prop} (h : viewD M x = .dct ks) (k : R (.tup (ks.map fun p => kD p.1)) M) : cTupD [x] M R := by
  simp only [cTupD, h]; exact k
theorem keys_mk (ms : ML) : ((mkD ms).map fun p => kD p.1) = (ms.map (·.1)).map D.str := by
  unfold mkD; rw [List.map_map, List.map_map]; rfl
theorem valD_mk : ∀ (ms : ML) (w : Str), valD (mkD ms) (.inr w) = (ms.lookup w).map nD
  | [], _ => rfl
  | p :: r, w => by
    have ih := valD_mk r w
    unfold valD at ih ⊢
    unfold mkD at ih ⊢
    rw [List.map_cons, List.find?_cons]
    by_cases h : w = p.1
    · subst h
      simp [List.lookup]; rfl
    · have h1 : decide ((Sum.inr p.1 : Key) = .inr w) = false := decide_eq_false fun e => h (Sum.inr.inj e).symm
      have h2 : (w == p.1) = false := by simpa using h
      rw [h1, List.lookup, h2]; exact ih
theorem get2_mk (ms : ML) (w : Str) : (valD (mkD ms) (.inr w)).getD (.int 0) = nD (getN ms w) := by
  rw [valD_mk]; unfold getN
  cases ms.lookup w <;> rfl
theorem winS_snoc : ∀ (cs : List Str) (lo : Nat) (x w : Str), x ∉ cs → winS lo (cs ++ [x]) w = if x = w then 2 ^ (lo + cs.length) else winS lo cs w
  | [], lo, x, w, _ => by simp [winS]
  | c :: r, lo, x, w, h => by
    have ih := winS_snoc r (lo + 1) x w (fun h' => h (List.mem_cons_of_mem _ h'))
    have hc : x ≠ c := fun e => h (by rw [e]; exact List.mem_cons_self)
    show (if c = w then 2 ^ lo else winS (lo + 1) (r ++ [x]) w) = if x = w then _ else (if c = w then 2 ^ lo else winS (lo + 1) r w)
    rw [ih]
    by_cases h1 : c = w
    · rw [if_pos h1, if_pos h1, if_neg (fun e => hc (e.trans h1.symm))]
    · rw [if_neg h1, if_neg h1, List.length_cons, show lo + 1 + r.length = lo + (r.length + 1) by omega]
theorem winS_none : ∀ (cs : List Str) (lo : Nat) (w : Str), w ∉ cs → winS lo cs w = 0
  | [], _, _, _ => rfl
  | c :: r, lo, w, h => by
    show (if c = w then _ else winS (lo + 1) r w) = 0
    rw [if_neg fun e => h (by rw [e]; exact List.mem_cons_self)]
    exact winS_none r _ w fun h' => h (List.mem_cons_of_mem _ h')
theorem two_lt {b : Nat} (h : b ≤ 7) : 2 ^ b < 256 := Nat.lt_of_le_of_lt (Nat.pow_le_pow_right (by decide) h) (by decide)
theorem winS_lt : ∀ (cs : List Str) (lo : Nat) (w : Str), lo + cs.length ≤ 8 → winS lo cs w < 256
  | [], _, _, _ => by unfold winS; decide
  | c :: r, lo, w, h => by
    rw [List.length_cons] at h
    show (if c = w then _ else winS (lo + 1) r w) < 256
    split
    · exact two_lt (by omega)
    · exact winS_lt r _ w (by omega)
theorem or_lt {a b : Nat} (h : a < 256) (h2 : b < 256) : a ||| b < 256 := Nat.or_lt_two_pow (n := 8) h h2
theorem getN_lt {ms : ML} (h : ∀ p ∈ ms, p.2 < 256) (w : Str) : getN ms w < 256 := by
  unfold getN
  cases e : ms.lookup w with
  | none => decide
  | some v =>
    obtain ⟨p, hp, h2⟩ : ∃ p ∈ ms, p.2 = v := by
      clear h
      induction ms with
      | nil => cases e
      | cons q r ih =>
        rw [List.lookup] at e
        split at e
        · cases e; exact ⟨q, List.mem_cons_self, rfl⟩
        · obtain ⟨p, hp, h2⟩ := ih e; exact ⟨p, List.mem_cons_of_mem _ hp, h2⟩
    rw [← h2]; exact h p hp
theorem orL_snoc (f : Str → Nat) (l : List Str) (x : Str) : orL f (l ++ [x]) = orL f l ||| f x := by
  unfold orL; rw [List.foldl_append]; rfl
theorem take_snoc {α : Type} {l : List α} {i : Nat} {x : α} (h : l[i]? = some x) : l.take (i + 1) = l.take i ++ [x] := by
  rw [List.take_succ, h]; rfl
theorem nd_take {cs : List Str} {i : Nat} {c : Str} (h : cs.Nodup) (hc : cs[i]? = some c) : c ∉ cs.take i := fun hm => by
  have h2 := take_snoc hc
  have h3 : (cs.take (i + 1)).Nodup := List.Nodup.sublist (List.take_sublist _ _) h
  rw [h2, List.nodup_append] at h3
  exact h3.2.2 c hm c (by simp) rfl
theorem get_str {cs : List Str} {i : Nat} {d : D} (h : (cs.map D.str)[i]? = some d) : ∃ c, cs[i]? = some c ∧ d = .str c := by
  rw [List.getElem?_map] at h
  cases e : cs[i]? with
  | none => rw [e] at h; cases h
  | some c => rw [e] at h; cases h; exact ⟨c, rfl, rfl⟩
theorem last0 {M0 : Mt} {x : D} : (M0 ++ [x] : Mt)[M0.length]? = some x := by simp
theorem set0 {M0 : Mt} {x y : D} : (M0 ++ [x] : Mt).set M0.length y = M0 ++ [y] := by simp
theorem lookup_mem : ∀ {ms : ML}, (ms.map (·.1)).Nodup → ∀ {p : Str × Nat}, p ∈ ms → ms.lookup p.1 = some p.2
  | [], _, _, h => by cases h
  | q :: r, nd, p, h => by
    rw [List.map_cons, List.nodup_cons] at nd
    rcases List.mem_cons.mp h with rfl | h
    · rw [List.lookup, beq_self_eq_true]
    · have hne : p.1 ≠ q.1 := fun e => nd.1 (by rw [← e]; exact List.mem_map_of_mem h)
      have : (p.1 == q.1) = false := by simpa using hne
      rw [List.lookup, this]; exact lookup_mem nd.2 h
theorem valD_p {ms : ML} (nd : (ms.map (·.1)).Nodup) {p : Str × Nat} (h : p ∈ ms) : valD (mkD ms) (.inr p.1) = some (nD p.2) := by
  rw [valD_mk, lookup_mem nd h]; rfl
theorem getN_p {ms : ML} (nd : (ms.map (·.1)).Nodup) {p : Str × Nat} (h : p ∈ ms) : getN ms p.1 = p.2 := by
  unfold getN; rw [lookup_mem nd h]; rfl
theorem put_new {ks : List (Key × D)} {k : Key} {d : D} (h : ∀ p ∈ ks, p.1 ≠ k) : putD ks k d = ks ++ [(k, d)] := by
  unfold putD
  rw [if_neg]
  intro h2
  obtain ⟨p, hp, e⟩ := List.any_eq_true.mp h2
  exact h p hp (of_decide_eq_true e)
theorem put_mk {ms : ML} {w : Str} {n : Nat} (h : w ∉ ms.map (·.1)) : putD (mkD ms) (.inr w) (nD n) = mkD (ms ++ [(w, n)]) := by
  rw [put_new]
  · unfold mkD; rw [List.map_append]; rfl
  · intro p hp e
    obtain ⟨q, hq, rfl⟩ := List.mem_map.mp hp
    exact h (by rw [← Sum.inr.inj e]; exact List.mem_map_of_mem hq)
theorem getN_cons (c w : Str) (n : Nat) (r : ML) : getN ((c, n) :: r) w = if w = c then n else getN r w := by
  unfold getN
  rw [List.lookup]
  by_cases h : w = c
  · subst h; rw [beq_self_eq_true, if_pos rfl]; rfl
  · have : (w == c) = false := by simpa using h
    rw [this, if_neg h]
def putL (ms : ML) (w : Str) (v : Nat) : ML := if w ∈ ms.map (·.1) then ms.map (fun p => if p.1 = w then (p.1, v) else p) else ms ++ [(w, v)]
theorem put_putL (ms : ML) (w : Str) (v : Nat) : putD (mkD ms) (.inr w) (nD v) = mkD (putL ms w v) := by
  unfold putL
  by_cases h : w ∈ ms.map (·.1)
  · rw [if_pos h]
    unfold putD
    rw [if_pos]
    · unfold mkD
      rw [List.map_map, List.map_map]
      refine List.map_congr_left fun p _ => ?_
      show (if (Sum.inr p.1 : Key) = .inr w then ((Sum.inr p.1 : Key), nD v) else (.inr p.1, .int (p.2 : Nat))) = ((fun q : Str × Nat => ((Sum.inr q.1 : Key), D.int (q.2 : Nat))) (if p.1 = w then (p.1, v) else p))
      by_cases h2 : p.1 = w
      · rw [if_pos h2, if_pos (by rw [h2])]; rfl
      · rw [if_neg h2, if_neg fun e => h2 (Sum.inr.inj e)]
    · obtain ⟨p, hp, rfl⟩ := List.mem_map.mp h
      exact List.any_eq_true.mpr ⟨_, List.mem_map_of_mem hp, decide_eq_true rfl⟩
  · rw [if_neg h]; exact put_mk h
theorem putL_keys (ms : ML) (w : Str) (v : Nat) : (putL ms w v).map (·.1) = if w ∈ ms.map (·.1) then ms.map (·.1) else ms.map (·.1) ++ [w] := by
  unfold putL
  split
  · rw [List.map_map]
    refine List.map_congr_left fun p _ => ?_
    show (if p.1 = w then (p.1, v) else p).1 = p.1
    split <;> rfl
  · rw [List.map_append]; rfl
theorem getN_map (w : Str) (v : Nat) (x : Str) : ∀ ms : ML, w ∈ ms.map (·.1) → getN (ms.map (fun p => if p.1 = w then (p.1, v) else p)) x = if x = w then v else getN ms x
  | [], h => by cases h
  | p :: r, h => by
    obtain ⟨c, n⟩ := p
    rw [List.map_cons]
    show getN ((if c = w then (c, v) else (c, n)) :: _) x = _
    by_cases h1 : c = w
    · rw [if_pos h1, getN_cons, getN_cons]
      by_cases h2 : x = w
      · rw [if_pos (h2.trans h1.symm), if_pos h2]
      · rw [if_neg fun e => h2 (e.trans h1), if_neg h2, if_neg fun e => h2 (e.trans h1)]
        by_cases h3 : w ∈ r.map (·.1)
        · rw [getN_map w v x r h3, if_neg h2]
        · have : r.map (fun p => if p.1 = w then (p.1, v) else p) = r := by
            refine (List.map_congr_left fun p hp => ?_).trans (List.map_id r)
            exact if_neg fun e => h3 (by rw [← e]; exact List.mem_map_of_mem hp)
          rw [this]
    · have h3 : w ∈ r.map (·.1) := by
        rcases List.mem_cons.mp h with h4 | h4
        · exact absurd h4.symm h1
        · exact h4
      rw [if_neg h1, getN_cons, getN_cons, getN_map w v x r h3]
      by_cases h2 : x = c
      · rw [if_pos h2, if_pos h2, if_neg fun e => h1 (h2.symm.trans e)]
      · rw [if_neg h2, if_neg h2]
theorem getN_none {ms : ML} {w : Str} (h : w ∉ ms.map (·.1)) : getN ms w = 0 := by
  induction ms with
  | nil => rfl
  | cons p r ih =>
    obtain ⟨c, n⟩ := p
    rw [getN_cons, if_neg fun e => h (by rw [e]; exact List.mem_cons_self)]
    exact ih fun h2 => h (List.mem_cons_of_mem _ h2)
theorem getN_app (ms : ML) (w : Str) (v : Nat) (x : Str) (h : w ∉ ms.map (·.1)) : getN (ms ++ [(w, v)]) x = if x = w then v else getN ms x := by
  induction ms with
  | nil => rw [List.nil_append, getN_cons]
  | cons p r ih =>
    obtain ⟨c, n⟩ := p
    have hc : w ≠ c := fun e => h (by rw [e]; exact List.mem_cons_self)
    rw [List.cons_append, getN_cons, getN_cons, ih fun h2 => h (List.mem_cons_of_mem _ h2)]
    by_cases h2 : x = c
    · rw [if_pos h2, if_pos h2, if_neg fun e => hc (e.symm.trans h2)]
    · rw [if_neg h2, if_neg h2]
theorem getN_put (ms : ML) (w : Str) (v : Nat) (x : Str) : getN (putL ms w v) x = if x = w then v else getN ms x := by
  unfold putL
  by_cases h : w ∈ ms.map (·.1)
  · rw [if_pos h]; exact getN_map w v x ms h
  · rw [if_neg h]; exact getN_app ms w v x h
def WinK (k : Kn) (lo : Nat) (cs : List Str) : Prop := (∃ nm, k = .win nm lo cs) ∨ ∃ nm c b, k = .tw nm c b lo cs
def TstK (k : Kn) : Prop := (∃ nm c b, k = .test nm c b) ∨ ∃ nm c b lo cs, k = .tw nm c b lo cs
@[irreducible] def sp_are_conditions : DSp := fun ds M R _ => ∃ cs : List Str, ds = [tupS cs] ∧ Conds cs ∧ R (.bl true) M
theorem len_are_conditions : ∀ ds M R RX, sp_are_conditions ds M R RX → ds.length = p_are_conditions.length := by
  unfold sp_are_conditions; rintro ds M R RX ⟨_, rfl, _⟩; rfl
theorem use_are_conditions {cs : List Str} {M : Mt} {R RX} (h : Conds cs) (k : R (.bl true) M) : sp_are_conditions [tupS cs] M R RX := by
  unfold sp_are_conditions; exact ⟨cs, rfl, h, k⟩
def w_are_conditions : WS :=
  (wSeq (wIfS (wOrT (wNotT (wTest (wChain oLe oLe (wC (.int 1)) (wCB cLen (wCons (wVar 0) wNil)) (wC (.int 5))))) (wNotT (wTru (wCB (cAll fun bs => bs.all id) (wCons (wLc (wIt (wVar 0)) [1] wYes (wCall sp_is_name [] RX0 (wCons (wVar 1) wNil)) [1]) wNil))))) (wRet (wC (.bl false))) wSkip)
    (wRet (wOp (oEqI fun b => b) (wLenSet (wVar 0)) (wCB cLen (wCons (wVar 0) wNil)))))
theorem wp_are_conditions : ∀ ds M R RX, sp_are_conditions ds M R RX → M.all (cellOk M.length) = true → noCels M.length ds = true → w_are_conditions (fnEnds M.length R) (startE 2 ds) M := by
  unfold sp_are_conditions tupS; rintro ds M R RX ⟨cs, rfl, hc, k⟩ hM hds
  have h1 := hc.l1
  have h5 := hc.l5
  walk_at "go"
  refine lcL_map (fun d => match d with | .str s => .bl (nmV s) | _ => .non) _ _ (by rw [List.length_map, line16]; omega) (fun d hd A hA => ?_) ?_
  · obtain ⟨c, hcm, rfl⟩ := List.mem_map.mp hd
    walk_at "go"
    exact use_is_name (nm_val (hc.nm c hcm)) hA
  · rw [List.map_map]
    walk_at "go"
    rw [boolsD_map (f := (fun d => match d with | D.str s => D.bl (nmV s) | _ => D.non) ∘ D.str) (g := nmV) fun _ => rfl]
    have ha : (cs.map nmV).all id = true := by rw [List.all_map]; exact List.all_eq_true.mpr fun c h => hc.nm c h
    walk_at "go"
    · rename_i hh; rw [ha] at hh; cases hh
    rw [strsD_map]
    refine ⟨⟨by omega⟩, ?_⟩
    walk_at "go"
    rw [(dist_full cs []).mpr ⟨hc.nd, fun _ _ h => by cases h⟩]
    refine .keep ?_
    rw [List.length_map, decide_eq_true rfl]; exact k
/-! need: 0 is_right, 1 part -/
abbrev p_need : List Str := ["is_right", "part"]
@[irreducible] def sp_need : DSp := fun ds M R _ => ∃ p : Str, ds = [.bl true, .str p] ∧ R .non M
theorem len_need : ∀ ds M R RX, sp_need ds M R RX → ds.length = p_need.length := by
  unfold sp_need; rintro ds M R RX ⟨_, rfl, _⟩; rfl
theorem use_need {b : Bool} {p : Str} {M : Mt} {R RX} (h : b = true) (k : R .non M) : sp_need [.bl b, .str p] M R RX := by
  unfold sp_need; exact ⟨p, by rw [h], k⟩
def w_need : WS :=
  (wIfS (wNotT (wTru (wVar 0))) wNevS wSkip)
theorem wp_need : ∀ ds M R RX, sp_need ds M R RX → M.all (cellOk M.length) = true → noCels M.length ds = true → w_need (fnEnds M.length R) (startE 2 ds) M := by
  unfold sp_need; rintro ds M R RX ⟨p, rfl, k⟩ hM hds
  walk_at "go"
  exact .keep k
/-! Kind.__init__: 0 self, 1 name -/
abbrev p_Kind_init__ : List Str := ["self", "name"]
@[irreducible] def sp_Kind_init__ : DSp := fun ds M R _ => ∃ (C nm : Str) (M0 : Mt), ds = [.cel M0.length, .str nm] ∧ M = M0 ++ [.obj C []] ∧ nmV nm = true ∧ (["Kind", "Test", "Window", "AnyOf", "TestWindow", "Masks"] : List Str).contains C = true ∧ R .non (M0 ++ [.obj C [("name", .str nm)]])
theorem len_Kind_init__ : ∀ ds M R RX, sp_Kind_init__ ds M R RX → ds.length = p_Kind_init__.length := by
  unfold sp_Kind_init__; rintro ds M R RX ⟨_, _, _, rfl, _⟩; rfl
theorem use_Kind_init__ {C nm : Str} {M0 : Mt} {R RX} (h : nmV nm = true) (hC : (["Kind", "Test", "Window", "AnyOf", "TestWindow", "Masks"] : List Str).contains C = true) (k : R .non (M0 ++ [.obj C [("name", .str nm)]])) : sp_Kind_init__ [.cel M0.length, .str nm] (M0 ++ [.obj C []]) R RX := by
  unfold sp_Kind_init__; exact ⟨C, nm, M0, rfl, rfl, h, hC, k⟩
def w_Kind_init__ (RX : RXe) : WS :=
  (wSeq (wExp (wCall sp_need [] RX0 (wCons (wCall sp_is_name [] RX0 (wCons (wVar 1) wNil)) (wCons (wC (.str "name")) wNil))))
    (wSetFV ["Kind", "Test", "Window", "AnyOf", "TestWindow", "Masks"] "name" (wVar 0) (wVar 1)))
theorem wp_Kind_init__ : ∀ ds M R RX, sp_Kind_init__ ds M R RX → M.all (cellOk M.length) = true → noCels M.length ds = true → w_Kind_init__ (fun nm fs _ M' => rxF M.length RX nm fs M') (fnEnds M.length R) (startE 2 ds) M := by
  unfold sp_Kind_init__; rintro ds M R RX ⟨C, nm, M0, rfl, rfl, h, hC, k⟩ hM hds
  walk_at "go"
  refine use_is_name (nm_val h) ?_
  walk_at "go"
  refine use_need h ?_
  walk_at "go"
  refine setFV_use last0 hC (by decide) ?_
  rw [set0]
  exact .keep k
/-! Kind.single: 0 self, 1 condition -/
abbrev p_Kind_single : List Str := ["self", "condition"]
@[irreducible] def sp_Kind_single : DSp := fun ds M R _ => ∃ (o w : D), ds = [o, w] ∧ R (.int 0) M
theorem len_Kind_single : ∀ ds M R RX, sp_Kind_single ds M R RX → ds.length = p_Kind_single.length := by
  unfold sp_Kind_single; rintro ds M R RX ⟨_, _, rfl, _⟩; rfl
theorem use_Kind_single {o w : D} {M : Mt} {R RX} (k : R (.int 0) M) : sp_Kind_single [o, w] M R RX := by
  unfold sp_Kind_single; exact ⟨_, _, rfl, k⟩
def w_Kind_single (RX : RXe) : WS :=
  (wRet (wC (.int 0)))
theorem wp_Kind_single : ∀ ds M R RX, sp_Kind_single ds M R RX → M.all (cellOk M.length) = true → noCels M.length ds = true → w_Kind_single (fun nm fs _ M' => rxF M.length RX nm fs M') (fnEnds M.length R) (startE 2 ds) M := by
  unfold sp_Kind_single; rintro ds M R RX ⟨_, _, rfl, k⟩ hM hds
  walk_at "go"
  exact .keep k
/-! Kind.may_set: 0 self -/
abbrev p_Kind_may_set : List Str := ["self"]
@[irreducible] def sp_Kind_may_set : DSp := fun ds M R _ => ∃ (o : D), ds = [o] ∧ R (.tup []) M
theorem len_Kind_may_set : ∀ ds M R RX, sp_Kind_may_set ds M R RX → ds.length = p_Kind_may_set.length := by
  unfold sp_Kind_may_set; rintro ds M R RX ⟨_, rfl, _⟩; rfl
theorem use_Kind_may_set {o : D} {M : Mt} {R RX} (k : R (.tup []) M) : sp_Kind_may_set [o] M R RX := by
  unfold sp_Kind_may_set; exact ⟨_, rfl, k⟩
def w_Kind_may_set (RX : RXe) : WS :=
  (wRet (wTup wNil))
theorem wp_Kind_may_set : ∀ ds M R RX, sp_Kind_may_set ds M R RX → M.all (cellOk M.length) = true → noCels M.length ds = true → w_Kind_may_set (fun nm fs _ M' => rxF M.length RX nm fs M') (fnEnds M.length R) (startE 1 ds) M := by
  unfold sp_Kind_may_set; rintro ds M R RX ⟨_, rfl, k⟩ hM hds
  walk_at "go"
  exact .keep k
/-! AnyOf.may_set: 0 self -/
abbrev p_AnyOf_may_set : List Str := ["self"]
@[irreducible] def sp_AnyOf_may_set : DSp := fun ds M R _ => ∃ (nm : Str) (b : Nat) (cs : List Str), ds = [(Kn.any nm b cs).obj] ∧ cs.length ≤ 100 ∧ R (tupS cs) M
theorem len_AnyOf_may_set : ∀ ds M R RX, sp_AnyOf_may_set ds M R RX → ds.length = p_AnyOf_may_set.length := by
  unfold sp_AnyOf_may_set; rintro ds M R RX ⟨_, _, _, rfl, _⟩; rfl
theorem use_AnyOf_may_set {nm : Str} {b : Nat} {cs : List Str} {M : Mt} {R RX} (hl : cs.length ≤ 100) (k : R (tupS cs) M) : sp_AnyOf_may_set [(Kn.any nm b cs).obj] M R RX := by
  unfold sp_AnyOf_may_set; exact ⟨_, _, _, rfl, hl, k⟩
def w_AnyOf_may_set (RX : RXe) : WS :=
  (wRet (wOp oAdd (wSup [("AnyOf", sp_Kind_may_set)] RX wNil) (wFldV ["Window", "AnyOf", "TestWindow"] "own_conditions" (wVar 0))))
theorem wp_AnyOf_may_set : ∀ ds M R RX, sp_AnyOf_may_set ds M R RX → M.all (cellOk M.length) = true → noCels M.length ds = true → w_AnyOf_may_set (fun nm fs _ M' => rxF M.length RX nm fs M') (fnEnds M.length R) (startE 1 ds) M := by
  unfold sp_AnyOf_may_set; rintro ds M R RX ⟨nm, b, cs, rfl, hl, k⟩ hM hds
  rw [obj_any]
  walk_at "go"
  refine sup_use rfl rfl ?_
  walk_at "go"
  refine use_Kind_may_set ?_
  walk_at "go"
  exact .keep k
/-! AnyOf.single: 0 self, 1 condition, 2 own -/
abbrev p_AnyOf_single : List Str := ["self", "condition"]
@[irreducible] def sp_AnyOf_single : DSp := fun ds M R _ => ∃ (nm : Str) (b : Nat) (cs : List Str) (w : Str), ds = [(Kn.any nm b cs).obj, .str w] ∧ (Kn.any nm b cs).Ok ∧ R (nD (anyS b cs w)) M
theorem len_AnyOf_single : ∀ ds M R RX, sp_AnyOf_single ds M R RX → ds.length = p_AnyOf_single.length := by
  unfold sp_AnyOf_single; rintro ds M R RX ⟨_, _, _, _, rfl, _⟩; rfl
theorem use_AnyOf_single {nm : Str} {b : Nat} {cs : List Str} {w : Str} {M : Mt} {R RX} (ok : (Kn.any nm b cs).Ok) (k : R (nD (anyS b cs w)) M) : sp_AnyOf_single [(Kn.any nm b cs).obj, .str w] M R RX := by
  unfold sp_AnyOf_single; exact ⟨_, _, _, _, rfl, ok, k⟩
def w_AnyOf_single (RX : RXe) : WS :=
  (wSeq (wAsg (wIfE (wTest (wOp (oIn false) (wVar 1) (wFldV ["Window", "AnyOf", "TestWindow"] "own_conditions" (wVar 0)))) (wOp oShl (wC (.int 1)) (wFldV ["Test", "AnyOf", "TestWindow"] "bit" (wVar 0))) (wC (.int 0))) (gN 2))
    (wRet (wOp oOr (wSup [("AnyOf", sp_Kind_single)] RX (wCons (wVar 1) wNil)) (wVar 2))))
theorem wp_AnyOf_single : ∀ ds M R RX, sp_AnyOf_single ds M R RX → M.all (cellOk M.length) = true → noCels M.length ds = true → w_AnyOf_single (fun nm fs _ M' => rxF M.length RX nm fs M') (fnEnds M.length R) (startE 3 ds) M := by
  unfold sp_AnyOf_single; rintro ds M R RX ⟨nm, b, cs, w, rfl, ⟨h1, h2, h3⟩, k⟩ hM hds
  rw [obj_any]
  unfold nD at k
  walk_at "go"
  refine in_use (ns := cs) (.inr rfl) ?_
  walk_at "go"
  · rename_i hw
    refine sup_use rfl rfl ?_
    walk_at "go"
    refine use_Kind_single ?_
    walk_at "go"
    refine .keep ?_
    rw [show anyS b cs w = 2 ^ b from if_pos hw] at k
    dsimp only
    rw [shl_nat, or0]; exact k
  · rename_i hw
    refine sup_use rfl rfl ?_
    walk_at "go"
    refine use_Kind_single ?_
    walk_at "go"
    refine .keep ?_
    rw [show anyS b cs w = 0 from if_neg hw] at k
    exact k
/-! Masks.may_set: 0 self -/
abbrev p_Masks_may_set : List Str := ["self"]
@[irreducible] def sp_Masks_may_set : DSp := fun ds M R _ => ∃ (nm : Str) (ms : ML), ds = [(Kn.msk nm ms).obj] ∧ ms.length ≤ 100 ∧ R (tupS (ms.map (·.1))) M
theorem len_Masks_may_set : ∀ ds M R RX, sp_Masks_may_set ds M R RX → ds.length = p_Masks_may_set.length := by
  unfold sp_Masks_may_set; rintro ds M R RX ⟨_, _, rfl, _⟩; rfl
theorem use_Masks_may_set {nm : Str} {ms : ML} {M : Mt} {R RX} (hl : ms.length ≤ 100) (k : R (tupS (ms.map (·.1))) M) : sp_Masks_may_set [(Kn.msk nm ms).obj] M R RX := by
  unfold sp_Masks_may_set; exact ⟨_, _, rfl, hl, k⟩
def w_Masks_may_set (RX : RXe) : WS :=
  (wRet (wOp oAdd (wSup [("Masks", sp_Kind_may_set)] RX wNil) (wCB cTupD (wCons (wFldV ["Masks"] "own_masks" (wVar 0)) wNil))))
theorem wp_Masks_may_set : ∀ ds M R RX, sp_Masks_may_set ds M R RX → M.all (cellOk M.length) = true → noCels M.length ds = true → w_Masks_may_set (fun nm fs _ M' => rxF M.length RX nm fs M') (fnEnds M.length R) (startE 1 ds) M := by
  unfold sp_Masks_may_set; rintro ds M R RX ⟨nm, ms, rfl, hl, k⟩ hM hds
  rw [obj_msk]
  walk_at "go"
  refine sup_use rfl rfl ?_
  walk_at "go"
  refine use_Kind_may_set ?_
  walk_at "go"
  refine tupDct_use rfl ?_
  rw [keys_mk]
  walk_at "go"
  exact .keep k
/-! Masks.single: 0 self, 1 condition -/
abbrev p_Masks_single : List Str := ["self", "condition"]
@[irreducible] def sp_Masks_single : DSp := fun ds M R _ => ∃ (nm : Str) (ms : ML) (w : Str), ds = [(Kn.msk nm ms).obj, .str w] ∧ (Kn.msk nm ms).Ok ∧ R (nD (getN ms w)) M
theorem len_Masks_single : ∀ ds M R RX, sp_Masks_single ds M R RX → ds.length = p_Masks_single.length := by
  unfold sp_Masks_single; rintro ds M R RX ⟨_, _, _, rfl, _⟩; rfl
theorem use_Masks_single {nm : Str} {ms : ML} {w : Str} {M : Mt} {R RX} (ok : (Kn.msk nm ms).Ok) (k : R (nD (getN ms w)) M) : sp_Masks_single [(Kn.msk nm ms).obj, .str w] M R RX := by
  unfold sp_Masks_single; exact ⟨_, _, _, rfl, ok, k⟩
def w_Masks_single (RX : RXe) : WS :=
  (wRet (wOp oOr (wSup [("Masks", sp_Kind_single)] RX (wCons (wVar 1) wNil)) (wGet2 (wFldV ["Masks"] "own_masks" (wVar 0)) (wVar 1) (wC (.int 0)))))
theorem wp_Masks_single : ∀ ds M R RX, sp_Masks_single ds M R RX → M.all (cellOk M.length) = true → noCels M.length ds = true → w_Masks_single (fun nm fs _ M' => rxF M.length RX nm fs M') (fnEnds M.length R) (startE 2 ds) M := by
  unfold sp_Masks_single; rintro ds M R RX ⟨nm, ms, w, rfl, ok, k⟩ hM hds
  rw [obj_msk]
  walk_at "go"
  refine sup_use rfl rfl ?_
  walk_at "go"
  refine use_Kind_single ?_
  walk_at "go"
  refine get2_use rfl rfl ?_
  rw [get2_mk]
  unfold nD at k ⊢
  walk_at "go"
  refine .keep ?_
  dsimp only
  rw [or0]; exact k
/-! Window.may_set: 0 self -/
abbrev p_Window_may_set : List Str := ["self"]
@[irreducible] def sp_Window_may_set : DSp := fun ds M R _ => ∃ (k : Kn) (lo : Nat) (cs : List Str), ds = [k.obj] ∧ WinK k lo cs ∧ cs.length ≤ 100 ∧ R (tupS cs) M
theorem len_Window_may_set : ∀ ds M R RX, sp_Window_may_set ds M R RX → ds.length = p_Window_may_set.length := by
  unfold sp_Window_may_set; rintro ds M R RX ⟨_, _, _, rfl, _⟩; rfl
theorem use_Window_may_set {k : Kn} {lo : Nat} {cs : List Str} {M : Mt} {R RX} (hk : WinK k lo cs) (hl : cs.length ≤ 100) (q : R (tupS cs) M) : sp_Window_may_set [k.obj] M R RX := by
  unfold sp_Window_may_set; exact ⟨_, _, _, rfl, hk, hl, q⟩
def w_Window_may_set (RX : RXe) : WS :=
  (wRet (wOp oAdd (wSup [("Window", sp_Kind_may_set), ("TestWindow", sp_Kind_may_set)] RX wNil) (wFldV ["Window", "AnyOf", "TestWindow"] "own_conditions" (wVar 0))))
theorem wp_Window_may_set : ∀ ds M R RX, sp_Window_may_set ds M R RX → M.all (cellOk M.length) = true → noCels M.length ds = true → w_Window_may_set (fun nm fs _ M' => rxF M.length RX nm fs M') (fnEnds M.length R) (startE 1 ds) M := by
  unfold sp_Window_may_set; rintro ds M R RX ⟨k, lo, cs, rfl, hk, hl, q⟩ hM hds
  rcases hk with ⟨nm, rfl⟩ | ⟨nm, c, b, rfl⟩
  · rw [obj_win]
    walk_at "go"
    refine sup_use rfl rfl ?_
    walk_at "go"
    refine use_Kind_may_set ?_
    walk_at "go"
    exact .keep q
  · rw [obj_tw]
    walk_at "go"
    refine sup_use rfl rfl ?_
    walk_at "go"
    refine use_Kind_may_set ?_
    walk_at "go"
    exact .keep q
/-! Test.may_set: 0 self -/
abbrev p_Test_may_set : List Str := ["self"]
@[irreducible] def sp_Test_may_set : DSp := fun ds M R _ => ∃ (k : Kn), ds = [k.obj] ∧ TstK k ∧ k.may.length ≤ 100 ∧ R (tupS k.may) M
theorem len_Test_may_set : ∀ ds M R RX, sp_Test_may_set ds M R RX → ds.length = p_Test_may_set.length := by
  unfold sp_Test_may_set; rintro ds M R RX ⟨_, rfl, _⟩; rfl
theorem use_Test_may_set {k : Kn} {M : Mt} {R RX} (hk : TstK k) (hl : k.may.length ≤ 100) (q : R (tupS k.may) M) : sp_Test_may_set [k.obj] M R RX := by
  unfold sp_Test_may_set; exact ⟨_, rfl, hk, hl, q⟩
def w_Test_may_set (RX : RXe) : WS :=
  (wRet (wOp oAdd (wSup [("Test", sp_Kind_may_set), ("TestWindow", sp_Window_may_set)] RX wNil) (wTup (wCons (wFldV ["Test", "TestWindow"] "condition" (wVar 0)) wNil))))
theorem wp_Test_may_set : ∀ ds M R RX, sp_Test_may_set ds M R RX → M.all (cellOk M.length) = true → noCels M.length ds = true → w_Test_may_set (fun nm fs _ M' => rxF M.length RX nm fs M') (fnEnds M.length R) (startE 1 ds) M := by
  unfold sp_Test_may_set; rintro ds M R RX ⟨k, rfl, hk, hl, q⟩ hM hds
  rcases hk with ⟨nm, c, b, rfl⟩ | ⟨nm, c, b, lo, cs, rfl⟩
  · rw [obj_test]
    walk_at "go"
    refine sup_use rfl rfl ?_
    walk_at "go"
    refine use_Kind_may_set ?_
    walk_at "go"
    exact .keep q
  · have hl2 : (cs ++ [c]).length ≤ 100 := hl
    rw [List.length_append] at hl2
    have q : R (tupS (cs ++ [c])) M := q
    rw [obj_tw]
    walk_at "go"
    refine sup_use rfl rfl ?_
    walk_at "go"
    refine use_Window_may_set (k := .tw nm c b lo cs) (.inr ⟨_, _, _, rfl⟩) (by omega) ?_
    unfold tupS at q ⊢
    rw [List.map_append] at q
    walk_at "go"
    exact .keep q
/-! Window.single: 0 self, 1 condition, 2 own, 3 index, 4 name -/
abbrev p_Window_single : List Str := ["self", "condition"]
@[irreducible] def sp_Window_single : DSp := fun ds M R _ => ∃ (k : Kn) (lo : Nat) (cs : List Str) (w : Str), ds = [k.obj, .str w] ∧ WinK k lo cs ∧ k.Ok ∧ R (nD (winS lo cs w)) M
theorem len_Window_single : ∀ ds M R RX, sp_Window_single ds M R RX → ds.length = p_Window_single.length := by
  unfold sp_Window_single; rintro ds M R RX ⟨_, _, _, _, rfl, _⟩; rfl
theorem use_Window_single {k : Kn} {lo : Nat} {cs : List Str} {w : Str} {M : Mt} {R RX} (hk : WinK k lo cs) (ok : k.Ok) (q : R (nD (winS lo cs w)) M) : sp_Window_single [k.obj, .str w] M R RX := by
  unfold sp_Window_single; exact ⟨_, _, _, _, rfl, hk, ok, q⟩
def w_Window_single (RX : RXe) : WS :=
  (wSeq (wAsg (wC (.int 0)) (gN 2))
    (wSeq (wFor (wEnumerate (wCons (wFldV ["Window", "AnyOf", "TestWindow"] "own_conditions" (wVar 0)) wNil)) (gT 2 (gsCons (gN 3) (gsCons (gN 4) gsNil))) (wIfS (wTest (wOp (oEqI fun b => b) (wVar 4) (wVar 1))) (wAsg (wOp oShl (wC (.int 1)) (wOp oAdd (wFldV ["Window", "TestWindow"] "low" (wVar 0)) (wVar 3))) (gN 2)) wSkip))
    (wRet (wOp oOr (wSup [("Window", sp_Kind_single), ("TestWindow", sp_Kind_single)] RX (wCons (wVar 1) wNil)) (wVar 2)))))
theorem wp_Window_single : ∀ ds M R RX, sp_Window_single ds M R RX → M.all (cellOk M.length) = true → noCels M.length ds = true → w_Window_single (fun nm fs _ M' => rxF M.length RX nm fs M') (fnEnds M.length R) (startE 5 ds) M := by
  unfold sp_Window_single; rintro ds M R RX ⟨k, lo, cs, w, rfl, hk, ok, q⟩ hM hds
  rcases hk with ⟨nm, rfl⟩ | ⟨nm, c, b, rfl⟩
  · obtain ⟨_, hc, hl⟩ := ok
    rw [obj_win]
    unfold nD at q
    obtain ⟨o_, ho_⟩ : ∃ o_ : D, o_ = .obj "Window" [("name", .str nm), ("low", .int (lo : Int)), ("own_conditions", .tup (cs.map D.str))] := ⟨_, rfl⟩
    have h5 := hc.l5
    walk_at "go"
    refine forL_inv (fun i env M' => ∃ e3 e4, M' = M ∧ env = [some o_, some (.str w), some (nD (winS lo (cs.take i) w)), e3, e4]) ⟨none, none, rfl, by rw [List.take_zero, ho_]; rfl⟩ ?_ ?_
    · rintro i d env M' hd ⟨e3, e4, rfl, rfl⟩
      obtain ⟨x, hx, rfl⟩ := enumD_get _ _ _ _ hd
      obtain ⟨c, hcx, rfl⟩ := get_str hx
      have hi := (List.getElem?_eq_some_iff.mp hcx).1
      have hs := winS_snoc (cs.take i) lo c w (nd_take hc.nd hcx)
      rw [← take_snoc hcx, List.length_take, Nat.min_eq_left (Nat.le_of_lt hi)] at hs
      subst ho_
      walk_at "go"
      · rename_i hcw
        rw [if_pos hcw] at hs
        exact ⟨_, _, rfl, by rw [hs]; unfold nD; rw [← shl_nat2 lo i]; rfl⟩
      · rename_i hcw
        rw [if_neg hcw] at hs
        exact ⟨_, _, rfl, by rw [hs]; rfl⟩
    · rintro env M' ⟨e3, e4, rfl, rfl⟩
      rw [enumD_len, List.length_map, List.take_length]
      unfold nD
      subst ho_
      walk_at "go"
      refine sup_use rfl rfl ?_
      walk_at "go"
      refine use_Kind_single ?_
      walk_at "go"
      refine .keep ?_
      dsimp only
      rw [or0]; exact q
  · obtain ⟨_, _, _, hc, hl⟩ := ok
    rw [obj_tw]
    unfold nD at q
    obtain ⟨o_, ho_⟩ : ∃ o_ : D, o_ = .obj "TestWindow" [("name", .str nm), ("low", .int (lo : Int)), ("own_conditions", .tup (cs.map D.str)), ("condition", .str c), ("bit", .int (b : Int))] := ⟨_, rfl⟩
    have h5 := hc.l5
    walk_at "go"
    refine forL_inv (fun i env M' => ∃ e3 e4, M' = M ∧ env = [some o_, some (.str w), some (nD (winS lo (cs.take i) w)), e3, e4]) ⟨none, none, rfl, by rw [List.take_zero, ho_]; rfl⟩ ?_ ?_
    · rintro i d env M' hd ⟨e3, e4, rfl, rfl⟩
      obtain ⟨x, hx, rfl⟩ := enumD_get _ _ _ _ hd
      obtain ⟨c, hcx, rfl⟩ := get_str hx
      have hi := (List.getElem?_eq_some_iff.mp hcx).1
      have hs := winS_snoc (cs.take i) lo c w (nd_take hc.nd hcx)
      rw [← take_snoc hcx, List.length_take, Nat.min_eq_left (Nat.le_of_lt hi)] at hs
      subst ho_
      walk_at "go"
      · rename_i hcw
        rw [if_pos hcw] at hs
        exact ⟨_, _, rfl, by rw [hs]; unfold nD; rw [← shl_nat2 lo i]; rfl⟩
      · rename_i hcw
        rw [if_neg hcw] at hs
        exact ⟨_, _, rfl, by rw [hs]; rfl⟩
    · rintro env M' ⟨e3, e4, rfl, rfl⟩
      rw [enumD_len, List.length_map, List.take_length]
      unfold nD
      subst ho_
      walk_at "go"
      refine sup_use rfl rfl ?_
      walk_at "go"
      refine use_Kind_single ?_
      walk_at "go"
      refine .keep ?_
      dsimp only
      rw [or0]; exact q
/-! Test.single: 0 self, 1 condition, 2 own -/
abbrev p_Test_single : List Str := ["self", "condition"]
@[irreducible] def sp_Test_single : DSp := fun ds M R _ => ∃ (k : Kn) (w : Str), ds = [k.obj, .str w] ∧ TstK k ∧ k.Ok ∧ R (nD (k.sg w)) M
theorem len_Test_single : ∀ ds M R RX, sp_Test_single ds M R RX → ds.length = p_Test_single.length := by
  unfold sp_Test_single; rintro ds M R RX ⟨_, _, rfl, _⟩; rfl
theorem use_Test_single {k : Kn} {w : Str} {M : Mt} {R RX} (hk : TstK k) (ok : k.Ok) (q : R (nD (k.sg w)) M) : sp_Test_single [k.obj, .str w] M R RX := by
  unfold sp_Test_single; exact ⟨_, _, rfl, hk, ok, q⟩
def w_Test_single (RX : RXe) : WS :=
  (wSeq (wAsg (wIfE (wTest (wOp (oEqI fun b => b) (wVar 1) (wFldV ["Test", "TestWindow"] "condition" (wVar 0)))) (wOp oShl (wC (.int 1)) (wFldV ["Test", "AnyOf", "TestWindow"] "bit" (wVar 0))) (wC (.int 0))) (gN 2))
    (wRet (wOp oOr (wSup [("Test", sp_Kind_single), ("TestWindow", sp_Window_single)] RX (wCons (wVar 1) wNil)) (wVar 2))))
theorem wp_Test_single : ∀ ds M R RX, sp_Test_single ds M R RX → M.all (cellOk M.length) = true → noCels M.length ds = true → w_Test_single (fun nm fs _ M' => rxF M.length RX nm fs M') (fnEnds M.length R) (startE 3 ds) M := by
  unfold sp_Test_single; rintro ds M R RX ⟨k, w, rfl, hk, ok, q⟩ hM hds
  rcases hk with ⟨nm, c, b, rfl⟩ | ⟨nm, c, b, lo, cs, rfl⟩
  · have hb := ok.2.2
    have q : R (nD (bitS c b w)) M := q
    rw [obj_test]
    walk_at "go"
    · rename_i hw
      refine sup_use rfl rfl ?_
      walk_at "go"
      refine use_Kind_single ?_
      walk_at "go"
      refine .keep ?_
      rw [show bitS c b w = 2 ^ b from if_pos hw] at q
      dsimp only
      rw [shl_nat, or0]; exact q
    · rename_i hw
      refine sup_use rfl rfl ?_
      walk_at "go"
      refine use_Kind_single ?_
      walk_at "go"
      refine .keep ?_
      rw [show bitS c b w = 0 from if_neg hw] at q
      exact q
  · have hb := ok.2.2.1
    have q : R (nD (winS lo cs w ||| bitS c b w)) M := q
    rw [obj_tw]
    walk_at "go"
    · rename_i hw
      refine sup_use rfl rfl ?_
      walk_at "go"
      refine use_Window_single (k := .tw nm c b lo cs) (.inr ⟨_, _, _, rfl⟩) ok ?_
      rw [show bitS c b w = 2 ^ b from if_pos hw] at q
      unfold nD at q ⊢
      walk_at "go"
      refine .keep ?_
      dsimp only
      rw [shl_nat, or_nat]; exact q
    · rename_i hw
      refine sup_use rfl rfl ?_
      walk_at "go"
      refine use_Window_single (k := .tw nm c b lo cs) (.inr ⟨_, _, _, rfl⟩) ok ?_
      rw [show bitS c b w = 0 from if_neg hw, Nat.or_zero] at q
      unfold nD at q ⊢
      walk_at "go"
      refine .keep ?_
      dsimp only
      rw [or0r]; exact q
/-! Kind.masks: 0 self, 1 named, 2 condition -/
abbrev p_Kind_masks : List Str := ["self"]
structure Shown (k : Kn) (ms : ML) : Prop where
  nd : (ms.map (·.1)).Nodup
  nz : ∀ p ∈ ms, p.2 ≠ 0
  sg : ∀ w, getN ms w = k.sg w
@[irreducible] def sp_Kind_masks : DSp := fun ds M R _ => ∃ (k : Kn), ds = [k.obj] ∧ k.Ok ∧ ∀ ms, Shown k ms → R (.dct (mkD ms)) M
theorem len_Kind_masks : ∀ ds M R RX, sp_Kind_masks ds M R RX → ds.length = p_Kind_masks.length := by
  unfold sp_Kind_masks; rintro ds M R RX ⟨_, rfl, _⟩; rfl
theorem use_Kind_masks {k : Kn} {M : Mt} {R RX} (ok : k.Ok) (q : ∀ ms, Shown k ms → R (.dct (mkD ms)) M) : sp_Kind_masks [k.obj] M R RX := by
  unfold sp_Kind_masks; exact ⟨_, rfl, ok, q⟩
def w_Kind_masks (RX : RXe) : WS :=
  (wSeq (wAsg (wCB cSortS (wCons (wCB (cListA false) (wCons (wMethV [("Kind", sp_Kind_may_set), ("Test", sp_Test_may_set), ("Window", sp_Window_may_set), ("AnyOf", sp_AnyOf_may_set), ("TestWindow", sp_Test_may_set), ("Masks", sp_Masks_may_set)] "may_set" RX (wVar 0) wNil) wNil)) wNil)) (gN 1))
    (wRet (wDc (wIt (wVar 1)) [2] (wTest (wOp (oEqI fun b => !b) (wMethV [("Kind", sp_Kind_single), ("Test", sp_Test_single), ("Window", sp_Window_single), ("AnyOf", sp_AnyOf_single), ("TestWindow", sp_Test_single), ("Masks", sp_Masks_single)] "single" RXn (wVar 0) (wCons (wVar 2) wNil)) (wC (.int 0)))) (wVar 2) (wMethV [("Kind", sp_Kind_single), ("Test", sp_Test_single), ("Window", sp_Window_single), ("AnyOf", sp_AnyOf_single), ("TestWindow", sp_Test_single), ("Masks", sp_Masks_single)] "single" RXn (wVar 0) (wCons (wVar 2) wNil)) [2])))
theorem Kn.view (k : Kn) (M : Mt) : viewD M k.obj = .obj k.cn k.fs := rfl
theorem single_use {k : Kn} {M : Mt} {K : DSp → Prop} (ok : k.Ok) (h : ∀ sp : DSp, (∀ w M R RX, R (nD (k.sg w)) M → sp [k.obj, .str w] M R RX) → K sp) :
    methB [("Kind", sp_Kind_single), ("Test", sp_Test_single), ("Window", sp_Window_single), ("AnyOf", sp_AnyOf_single), ("TestWindow", sp_Test_single), ("Masks", sp_Masks_single)] "single" M k.obj K := by
  cases k with
  | kind nm => exact meth_use (Kn.view _ M) rfl rfl (h _ fun w M R RX q => use_Kind_single q)
  | test nm c b => exact meth_use (Kn.view _ M) rfl rfl (h _ fun w M R RX q => use_Test_single (.inl ⟨_, _, _, rfl⟩) ok q)
  | win nm lo cs => exact meth_use (Kn.view _ M) rfl rfl (h _ fun w M R RX q => use_Window_single (.inl ⟨_, rfl⟩) ok q)
  | any nm b cs => exact meth_use (Kn.view _ M) rfl rfl (h _ fun w M R RX q => use_AnyOf_single ok q)
  | tw nm c b lo cs => exact meth_use (Kn.view _ M) rfl rfl (h _ fun w M R RX q => use_Test_single (.inr ⟨_, _, _, _, _, rfl⟩) ok q)
  | msk nm ms => exact meth_use (Kn.view _ M) rfl rfl (h _ fun w M R RX q => use_Masks_single ok q)
theorem Kn.may_len {k : Kn} (ok : k.Ok) : k.may.length ≤ 60 := by
  cases k with
  | kind => exact (by decide : 0 ≤ 60)
  | test => exact (by decide : 1 ≤ 60)
  | win nm lo cs => have := ok.2.1.l5; show cs.length ≤ 60; omega
  | any nm b cs => have := ok.2.1.l5; show cs.length ≤ 60; omega
  | tw nm c b lo cs => have := ok.2.2.2.1.l5; show (cs ++ [c]).length ≤ 60; rw [List.length_append, List.length_singleton]; omega
  | msk nm ms => have := ok.2.2; show (ms.map _).length ≤ 60; rw [List.length_map]; omega
theorem may_use {k : Kn} {M : Mt} {K : DSp → Prop} (ok : k.Ok) (h : ∀ sp : DSp, (∀ M R RX, R (tupS k.may) M → sp [k.obj] M R RX) → K sp) :
    methB [("Kind", sp_Kind_may_set), ("Test", sp_Test_may_set), ("Window", sp_Window_may_set), ("AnyOf", sp_AnyOf_may_set), ("TestWindow", sp_Test_may_set), ("Masks", sp_Masks_may_set)] "may_set" M k.obj K := by
  have hl : k.may.length ≤ 100 := Nat.le_trans (Kn.may_len ok) (by decide)
  cases k with
  | kind nm => exact meth_use (Kn.view _ M) rfl rfl (h _ fun M R RX q => use_Kind_may_set q)
  | test nm c b => exact meth_use (Kn.view _ M) rfl rfl (h _ fun M R RX q => use_Test_may_set (.inl ⟨_, _, _, rfl⟩) hl q)
  | win nm lo cs => exact meth_use (Kn.view _ M) rfl rfl (h _ fun M R RX q => use_Window_may_set (.inl ⟨_, rfl⟩) hl q)
  | any nm b cs => exact meth_use (Kn.view _ M) rfl rfl (h _ fun M R RX q => use_AnyOf_may_set hl q)
  | tw nm c b lo cs => exact meth_use (Kn.view _ M) rfl rfl (h _ fun M R RX q => use_Test_may_set (.inr ⟨_, _, _, _, _, rfl⟩) hl q)
  | msk nm ms => exact meth_use (Kn.view _ M) rfl rfl (h _ fun M R RX q => use_Masks_may_set (by have := ok.2.2; omega) q)
theorem Kn.sg_may {k : Kn} {w : Str} (h : k.sg w ≠ 0) : w ∈ k.may := by
  have win : ∀ {lo : Nat} {cs : List Str}, winS lo cs w ≠ 0 → w ∈ cs := fun {lo cs} h => by
    by_cases hm : w ∈ cs
    · exact hm
    · exact absurd (winS_none cs lo w hm) h
  have bit : ∀ {c : Str} {b : Nat}, bitS c b w ≠ 0 → w = c := fun {c b} h => by
    by_cases e : w = c
    · exact e
    · exact absurd (show bitS c b w = 0 from if_neg e) h
  cases k with
  | kind => exact absurd rfl h
  | test nm c b => exact List.mem_singleton.mpr (bit h)
  | win nm lo cs => exact win h
  | any nm b cs =>
    by_cases e : w ∈ cs
    · exact e
    · exact absurd (show anyS b cs w = 0 from if_neg e) h
  | tw nm c b lo cs =>
    have h : winS lo cs w ||| bitS c b w ≠ 0 := h
    show w ∈ cs ++ [c]
    by_cases e : winS lo cs w = 0
    · rw [e, Nat.zero_or] at h
      exact List.mem_append.mpr (.inr (List.mem_singleton.mpr (bit h)))
    · exact List.mem_append.mpr (.inl (win e))
  | msk nm ms =>
    show w ∈ ms.map (·.1)
    by_cases e : w ∈ ms.map (·.1)
    · exact e
    · exact absurd (getN_none e) h
structure ShIn (sg : Str → Nat) (l : List Str) (ms : ML) : Prop where
  nd : (ms.map (·.1)).Nodup
  nz : ∀ p ∈ ms, p.2 = sg p.1 ∧ p.2 ≠ 0
  all : ∀ c ∈ l, sg c ≠ 0 → c ∈ ms.map (·.1)
theorem putL_mem {ms : ML} {w : Str} {v : Nat} {p : Str × Nat} (h : p ∈ putL ms w v) : p = (w, v) ∨ p ∈ ms := by
  unfold putL at h
  split at h
  · obtain ⟨q, hq, rfl⟩ := List.mem_map.mp h
    split
    · rename_i e; exact .inl (by rw [e])
    · exact .inr hq
  · rcases List.mem_append.mp h with h | h
    · exact .inr h
    · exact .inl (List.mem_singleton.mp h)
theorem putL_nd {ms : ML} {w : Str} {v : Nat} (h : (ms.map (·.1)).Nodup) : ((putL ms w v).map (·.1)).Nodup := by
  rw [putL_keys]
  split
  · exact h
  · rename_i hn
    rw [List.nodup_append]
    exact ⟨h, by simp, fun x hx y hy e => hn (by rw [← List.mem_singleton.mp hy, ← e]; exact hx)⟩
theorem ShIn.put {sg : Str → Nat} {l : List Str} {ms : ML} {c : Str} (h : ShIn sg l ms) (hc : sg c ≠ 0) : ShIn sg (l ++ [c]) (putL ms c (sg c)) := by
  refine ⟨putL_nd h.nd, fun p hp => ?_, fun d hd hz => ?_⟩
  · rcases putL_mem hp with rfl | hp
    · exact ⟨rfl, hc⟩
    · exact h.nz p hp
  · rw [putL_keys]
    rcases List.mem_append.mp hd with hd | hd
    · have := h.all d hd hz
      split
      · exact this
      · exact List.mem_append.mpr (.inl this)
    · rw [List.mem_singleton.mp hd]
      split
      · assumption
      · exact List.mem_append.mpr (.inr (by simp))
theorem ShIn.skip {sg : Str → Nat} {l : List Str} {ms : ML} {c : Str} (h : ShIn sg l ms) (hc : sg c = 0) : ShIn sg (l ++ [c]) ms := by
  refine ⟨h.nd, h.nz, fun d hd hz => ?_⟩
  rcases List.mem_append.mp hd with hd | hd
  · exact h.all d hd hz
  · rw [List.mem_singleton.mp hd] at hz; exact absurd hc hz
theorem ShIn.shown {k : Kn} {l : List Str} {ms : ML} (h : ShIn k.sg l ms) (hl : l.Perm k.may) : Shown k ms := by
  refine ⟨h.nd, fun p hp => (h.nz p hp).2, fun w => ?_⟩
  by_cases e : w ∈ ms.map (·.1)
  · obtain ⟨p, hp, rfl⟩ := List.mem_map.mp e
    rw [getN_p h.nd hp]; exact (h.nz p hp).1
  · rw [getN_none e]
    by_cases hz : k.sg w = 0
    · exact hz.symm
    · exact absurd (h.all w (hl.mem_iff.mpr (Kn.sg_may hz)) hz) e
theorem wp_Kind_masks : ∀ ds M R RX, sp_Kind_masks ds M R RX → M.all (cellOk M.length) = true → noCels M.length ds = true → w_Kind_masks (fun nm fs _ M' => rxF M.length RX nm fs M') (fnEnds M.length R) (startE 3 ds) M := by
  unfold sp_Kind_masks; rintro ds M R RX ⟨k, rfl, ok, q⟩ hM hds
  have hml := Kn.may_len ok
  walk_at "go"
  refine may_use ok fun sp hsp => ?_
  walk_at "go"
  refine hsp _ _ _ ?_
  walk_at "go"
  rw [strsD_map]
  refine ⟨⟨by omega⟩, fun ns hp hs => ?_⟩
  have hnl := hp.length_eq
  walk_at "go"
  refine dcL_inv (fun i acc M' => M' = M ∧ ∃ ms, acc = mkD ms ∧ ShIn k.sg (ns.take i) ms) (by rw [List.length_map, line16]; omega) ⟨rfl, [], rfl, List.nodup_nil, by simp, by simp⟩ ?_ ?_
  · rintro i d acc M A C hd ⟨rfl, ms, rfl, hi⟩ hA hC
    obtain ⟨c, hc, rfl⟩ := get_str hd
    walk_at "go"
    refine single_use ok fun sp hsp => ?_
    walk_at "go"
    refine hsp _ _ _ _ ?_
    unfold nD
    walk_at "go"
    · rename_i hz
      have hz : k.sg c ≠ 0 := fun e => hz (by rw [e]; rfl)
      refine single_use ok fun sp hsp => ?_
      walk_at "go"
      refine hsp _ _ _ _ ?_
      refine hA _ _ _ _ rfl ⟨rfl, _, put_putL _ _ _, ?_⟩
      rw [take_snoc hc]; exact hi.put hz
    · rename_i hz
      exact hC _ ⟨rfl, ms, rfl, by rw [take_snoc hc]; exact hi.skip (by omega)⟩
  · rintro acc M' hl ⟨rfl, ms, rfl, hi⟩
    rw [List.length_map, List.take_length] at hi
    exact .keep (q ms (hi.shown hp))
/-! Kind.__eq__: 0 self, 1 other -/
abbrev p_Kind_eq__ : List Str := ["self", "other"]
/-- two kinds are equal -/
def Same (k k' : Kn) : Prop := k.nm = k'.nm ∧ ∀ w, k.sg w = k'.sg w
noncomputable def eqK (k k' : Kn) : Bool := @decide (Same k k') (Classical.propDecidable _)
theorem eqK_yes {k k' : Kn} (h : Same k k') : eqK k k' = true := by
  unfold eqK; exact @decide_eq_true _ (Classical.propDecidable _) h
theorem eqK_no {k k' : Kn} (h : ¬ Same k k') : eqK k k' = false := by
  unfold eqK; exact @decide_eq_false _ (Classical.propDecidable _) h
theorem Same.symm {k k' : Kn} (h : Same k k') : Same k' k := ⟨h.1.symm, fun w => (h.2 w).symm⟩
theorem eqK_symm (k k' : Kn) : eqK k' k = eqK k k' := by
  by_cases h : Same k k'
  · rw [eqK_yes h, eqK_yes h.symm]
  · rw [eqK_no h, eqK_no fun h' => h h'.symm]
@[irreducible] def sp_Kind_eq__ : DSp := fun ds M R _ => ∃ (k : Kn) (y : D), ds = [k.obj, y] ∧ k.Ok ∧ ((∃ k' : Kn, y = k'.obj ∧ k'.Ok ∧ R (.bl (eqK k k')) M) ∨ ((tyF M y).isSome = true ∧ R (.bl false) M))
theorem len_Kind_eq__ : ∀ ds M R RX, sp_Kind_eq__ ds M R RX → ds.length = p_Kind_eq__.length := by
  unfold sp_Kind_eq__; rintro ds M R RX ⟨_, _, rfl, _⟩; rfl
theorem use_Kind_eq__ {k k' : Kn} {M : Mt} {R RX} (ok : k.Ok) (ok' : k'.Ok) (q : R (.bl (eqK k k')) M) : sp_Kind_eq__ [k.obj, k'.obj] M R RX := by
  unfold sp_Kind_eq__; exact ⟨k, _, rfl, ok, .inl ⟨k', rfl, ok', q⟩⟩
theorem use_Kind_eqD {k : Kn} {y : D} {M : Mt} {R RX} (ok : k.Ok) (hy : (tyF M y).isSome = true) (q : R (.bl false) M) : sp_Kind_eq__ [k.obj, y] M R RX := by
  unfold sp_Kind_eq__; exact ⟨k, _, rfl, ok, .inr ⟨hy, q⟩⟩
abbrev NS6 : List Str := ["Kind", "Test", "Window", "AnyOf", "TestWindow", "Masks"]
theorem Kn.in6 (k : Kn) : NS6.contains k.cn = true := by cases k <;> rfl
theorem KK_use {lf : Bool} {g : Bool → Bool} {k k' : Kn} {M : Mt} {R : D → Mt → Prop} (ok : k.Ok) (ok' : k'.Ok) (q : R (.bl (g (eqK k k'))) M) : oEqT lf NS6 sp_Kind_eq__ g k.obj k'.obj M R :=
  eqT_obj (n1 := k.cn) (n2 := k'.cn) (fs := k.fs) (gs := k'.fs) rfl rfl k.in6 k'.in6 (use_Kind_eq__ ok ok' q) (use_Kind_eq__ ok' ok (by rw [eqK_symm]; exact q))
theorem KD_use {lf : Bool} {g : Bool → Bool} {k : Kn} {y : D} {M : Mt} {R : D → Mt → Prop} (ok : k.Ok) (hy : (tyF M y).isSome = true) (q : R (.bl (g false)) M) : oEqT lf NS6 sp_Kind_eq__ g k.obj y M R :=
  eqT_any (n1 := k.cn) (fs := k.fs) rfl k.in6 hy (use_Kind_eqD ok hy q)
theorem DK_use {k : Kn} {x : D} {T : String} {M : Mt} {R : D → Mt → Prop} (ok : k.Ok) (hx : tyF M x = some T) (hT : T ∈ leftBs) (q : R (.bl false) M) : oEqT true NS6 sp_Kind_eq__ id x k.obj M R :=
  eqT_left (n2 := k.cn) (gs := k.fs) rfl k.in6 hx hT (use_Kind_eqD ok (by rw [hx]; rfl) q)
def w_Kind_eq__ (RX : RXe) : WS :=
  (wRet (wAndV (wCB (cIsOF [("Kind", true), ("Test", true), ("Window", true), ("AnyOf", true), ("TestWindow", true), ("Masks", true)] "Kind") (wCons (wVar 1) (wCons (wC (.cls "Kind")) wNil))) (wAndV (wOp (oEqI fun b => b) (wFldV ["Kind", "Test", "Window", "AnyOf", "TestWindow", "Masks"] "name" (wVar 0)) (wFldV ["Kind", "Test", "Window", "AnyOf", "TestWindow", "Masks"] "name" (wVar 1))) (wOp (oCmpDI (fun b => b)) (wMethV [("Kind", sp_Kind_masks), ("Test", sp_Kind_masks), ("Window", sp_Kind_masks), ("AnyOf", sp_Kind_masks), ("TestWindow", sp_Kind_masks), ("Masks", sp_Kind_masks)] "masks" RX (wVar 0) wNil) (wMethV [("Kind", sp_Kind_masks), ("Test", sp_Kind_masks), ("Window", sp_Kind_masks), ("AnyOf", sp_Kind_masks), ("TestWindow", sp_Kind_masks), ("Masks", sp_Kind_masks)] "masks" RX (wVar 1) wNil)))))
theorem Kn.cn_in (k : Kn) : (["Kind", "Test", "Window", "AnyOf", "TestWindow", "Masks"] : List Str).contains k.cn = true := by cases k <;> rfl
theorem Kn.look_nm (k : Kn) : k.fs.lookup ("name" : Str) = some (.str k.nm) := by cases k <;> rfl
theorem masks_use {k : Kn} {M : Mt} {K : DSp → Prop} (h : K sp_Kind_masks) :
    methB [("Kind", sp_Kind_masks), ("Test", sp_Kind_masks), ("Window", sp_Kind_masks), ("AnyOf", sp_Kind_masks), ("TestWindow", sp_Kind_masks), ("Masks", sp_Kind_masks)] "masks" M k.obj K := by
  cases k <;> exact meth_use (Kn.view _ M) rfl rfl h
theorem nd_len : ∀ {l m : List Str}, l.Nodup → (∀ x ∈ l, x ∈ m) → l.length ≤ m.length
  | [], m, _, _ => Nat.zero_le _
  | a :: r, m, h, hs => by
    rw [List.nodup_cons] at h
    have ha := hs a List.mem_cons_self
    have := nd_len (l := r) (m := m.erase a) h.2 fun x hx => (List.mem_erase_of_ne (fun e => h.1 (by rw [← e]; exact hx))).mpr (hs x (List.mem_cons_of_mem _ hx))
    rw [List.length_erase_of_mem ha] at this
    have := List.length_pos_of_mem ha
    rw [List.length_cons]; omega
theorem hits_all (ls : ML) : ∀ ks : ML, hitsI (mkD ls) (mkD ks) = some (ks.all fun p => decide (ls.lookup p.1 = some p.2))
  | [] => rfl
  | p :: r => by
    have ih := hits_all ls r
    have e := valD_mk ls p.1
    show (match valD (mkD ls) (.inr p.1) with
      | none => some false
      | some (.int j) => (hitsI (mkD ls) (mkD r)).map fun b => decide ((p.2 : Int) = j) && b
      | _ => none) = _
    rw [e, ih]
    cases h : ls.lookup p.1 with
    | none => simp [h]
    | some v =>
      show some (decide ((p.2 : Int) = (v : Int)) && _) = some (_ && _)
      have : decide ((p.2 : Int) = (v : Int)) = decide (ls.lookup p.1 = some p.2) := by
        rw [h]
        by_cases e : p.2 = v
        · rw [decide_eq_true (by rw [e]), decide_eq_true (by rw [e])]
        · rw [decide_eq_false (by omega), decide_eq_false (fun e2 => e (Option.some.inj e2).symm)]
      rw [this]
theorem shown_sub {k k' : Kn} {ks ls : ML} (h : Shown k ks) (h' : Shown k' ls) (hs : ∀ w, k.sg w = k'.sg w) : ∀ p ∈ ks, ls.lookup p.1 = some p.2 := fun p hp => by
  have e : getN ls p.1 = p.2 := by rw [h'.sg, ← hs, ← h.sg, getN_p h.nd hp]
  unfold getN at e
  cases hl : ls.lookup p.1 with
  | none => rw [hl] at e; exact absurd e.symm (h.nz p hp)
  | some v => rw [hl] at e; rw [← e]; rfl
theorem mem_of_look {ls : ML} {w : Str} {v : Nat} (h : ls.lookup w = some v) : (w, v) ∈ ls := by
  induction ls with
  | nil => cases h
  | cons q r ih =>
    rw [List.lookup] at h
    split at h
    · rename_i e
      cases h
      have := eq_of_beq e
      subst this
      exact List.mem_cons_self
    · exact List.mem_cons_of_mem _ (ih h)
theorem dict_eq {k k' : Kn} {ks ls : ML} (h : Shown k ks) (h' : Shown k' ls) : ((decide ((mkD ks).length = (mkD ls).length) && ks.all fun p => decide (ls.lookup p.1 = some p.2)) = true) ↔ ∀ w, k.sg w = k'.sg w := by
  have e1 : (mkD ks).length = (ks.map (·.1)).length := by unfold mkD; rw [List.length_map, List.length_map]
  have e2 : (mkD ls).length = (ls.map (·.1)).length := by unfold mkD; rw [List.length_map, List.length_map]
  rw [Bool.and_eq_true, decide_eq_true_eq, e1, e2]
  constructor
  · rintro ⟨hl, ha⟩
    have hsub : ∀ p ∈ ks, ls.lookup p.1 = some p.2 := fun p hp => of_decide_eq_true (List.all_eq_true.mp ha p hp)
    have hk : ∀ w ∈ ks.map (·.1), w ∈ ls.map (·.1) := fun w hw => by
      obtain ⟨p, hp, rfl⟩ := List.mem_map.mp hw
      exact List.mem_map_of_mem (mem_of_look (hsub p hp))
    have hk2 : ∀ w ∈ ls.map (·.1), w ∈ ks.map (·.1) := fun w hw => by
      by_cases e : w ∈ ks.map (·.1)
      · exact e
      · have := nd_len (l := w :: ks.map (·.1)) (m := ls.map (·.1)) (List.nodup_cons.mpr ⟨e, h.nd⟩) fun x hx => by
          rcases List.mem_cons.mp hx with rfl | hx
          · exact hw
          · exact hk x hx
        rw [List.length_cons] at this; omega
    intro w
    rw [← h.sg, ← h'.sg]
    by_cases e : w ∈ ks.map (·.1)
    · obtain ⟨p, hp, rfl⟩ := List.mem_map.mp e
      rw [getN_p h.nd hp]
      unfold getN
      rw [hsub p hp]; rfl
    · rw [getN_none e, getN_none fun e2 => e (hk2 w e2)]
  · intro hs
    have h1 := shown_sub h h' hs
    have h2 := shown_sub h' h fun w => (hs w).symm
    refine ⟨Nat.le_antisymm (nd_len h.nd fun w hw => ?_) (nd_len h'.nd fun w hw => ?_), List.all_eq_true.mpr fun p hp => decide_eq_true (h1 p hp)⟩
    · obtain ⟨p, hp, rfl⟩ := List.mem_map.mp hw
      exact List.mem_map_of_mem (mem_of_look (h1 p hp))
    · obtain ⟨p, hp, rfl⟩ := List.mem_map.mp hw
      exact List.mem_map_of_mem (mem_of_look (h2 p hp))
theorem wp_Kind_eq__ : ∀ ds M R RX, sp_Kind_eq__ ds M R RX → M.all (cellOk M.length) = true → noCels M.length ds = true → w_Kind_eq__ (fun nm fs _ M' => rxF M.length RX nm fs M') (fnEnds M.length R) (startE 2 ds) M := by
  unfold sp_Kind_eq__; rintro ds M R RX ⟨k, y, rfl, ok, hy⟩ hM hds
  rcases hy with ⟨k', rfl, ok', q⟩ | ⟨hy, q⟩
  · walk_at "go"
    refine isOF_obj (n := k'.cn) (fs := k'.fs) rfl (by cases k' <;> rfl) ?_
    walk_at "go"
    · exact ⟨k.cn_in⟩
    rw [k.look_nm]
    walk_at "go"
    · exact ⟨k'.cn_in⟩
    rw [k'.look_nm]
    walk_at "go"
    · rename_i hn
      refine masks_use ?_
      walk_at "go"
      refine use_Kind_masks ok fun ks hks => ?_
      walk_at "go"
      refine masks_use ?_
      walk_at "go"
      refine use_Kind_masks ok' fun ls hls => ?_
      walk_at "go"
      refine cmpDI_use' rfl rfl (hits_all ls ks) ?_
      refine .keep ?_
      have e : eqK k k' = (decide ((mkD ks).length = (mkD ls).length) && ks.all fun p => decide (ls.lookup p.1 = some p.2)) := by
        cases hb : (decide ((mkD ks).length = (mkD ls).length) && ks.all fun p => decide (ls.lookup p.1 = some p.2)) with
        | true => exact eqK_yes ⟨hn, (dict_eq hks hls).mp hb⟩
        | false =>
          refine eqK_no fun h => ?_
          have := (dict_eq hks hls).mpr h.2
          rw [hb] at this; cases this
      rw [e] at q
      exact q
    · rename_i hn
      rw [eqK_no fun h => hn h.1] at q
      exact .keep q
  · walk_at "go"
    refine isOF_any hy ?_
    walk_at "go"
    exact .keep q

/-! Window.__init__: 0 self, 1 name, 2 low, 3 conditions -/
abbrev p_Window_init__ : List Str := ["self", "name", "low", "conditions"]
theorem view0 {M0 : Mt} {n : Str} {fs : List (Str × D)} : viewD (M0 ++ [.obj n fs]) (.cel M0.length) = .obj n fs := by
  simp only [viewD, last0]
theorem isNum_nat {b : Nat} (h : b ≤ 7) : isNum 0 7 (.int (b : Int)) = true := by
  show (decide (0 ≤ (b : Int)) && decide ((b : Int) ≤ 7)) = true
  rw [decide_eq_true (Int.natCast_nonneg b), decide_eq_true (show (b : Int) ≤ 7 by omega)]; rfl
theorem noC_strs (n : Nat) (cs : List Str) : noCels n (cs.map D.str) = true := noCels_mem.mpr fun d hd => by
  obtain ⟨c, _, rfl⟩ := List.mem_map.mp hd; rfl
theorem noCK_mk (n : Nat) : ∀ ms : ML, noCelK n (mkD ms) = true
  | [] => rfl
  | p :: r => by
    have := noCK_mk n r
    show (noCel n (.int (p.2 : Nat)) && noCelK n (mkD r)) = true
    rw [this]; rfl
theorem fget_use {ks : List (Key × D)} {x y d : D} {k : Key} {M : Mt} {R : D → Mt → Prop} (h : viewD M x = .fdc ks) (hk : keyD y = some k) (hv : valD ks k = some d) (q : R d M) : oDGet x y M R := by
  simp only [oDGet, h, hk, hv]; exact q
theorem noCF_obj (k : Kn) (n : Nat) : noCelF n k.fs = true := by
  cases k <;> simp only [Kn.fs, noCelF, noCel, nD, tupS, noC_strs, Bool.and_self, Bool.true_and, Bool.and_true]
  exact noCK_mk _ _
theorem len_dct {x : D} {ks : List (Key × D)} {M : Mt} {R : D → Mt → Prop} (h : viewD M x = .dct ks) (k : R (.int ks.length) M) : cLen [x] M R := by
  simp only [cLen, h]; exact k
theorem mk_len (ms : ML) : (mkD ms).length = ms.length := List.length_map _
theorem map_strs {f : D → D} {g : Str → D} (h : ∀ s, f (.str s) = g s) (l : List Str) : (l.map D.str).map f = l.map g := by
  rw [List.map_map]
  exact List.map_congr_left fun s _ => h s
theorem num255 {n : Nat} (h : n < 256) : isNum 0 255 (nD n) = true := by
  show (decide (0 ≤ (n : Int)) && decide ((n : Int) ≤ 255)) = true
  rw [decide_eq_true (Int.natCast_nonneg n), decide_eq_true (show (n : Int) ≤ 255 by omega)]; rfl
@[irreducible] def sp_Window_init__ : DSp := fun ds M R _ => ∃ (C nm : Str) (lo : Nat) (cs : List Str) (M0 : Mt), ds = [.cel M0.length, .str nm, nD lo, tupS cs] ∧ M = M0 ++ [.obj C []] ∧ (C = "Window" ∨ C = "TestWindow") ∧ nmV nm = true ∧ Conds cs ∧ lo + cs.length ≤ 8 ∧
  R .non (M0 ++ [.obj C [("name", .str nm), ("low", nD lo), ("own_conditions", tupS cs)]])
theorem use_Window_init__ {C nm : Str} {lo : Nat} {cs : List Str} {M0 : Mt} {R RX} (hC : C = "Window" ∨ C = "TestWindow") (h1 : nmV nm = true) (h2 : Conds cs) (h3 : lo + cs.length ≤ 8)
    (k : R .non (M0 ++ [.obj C [("name", .str nm), ("low", nD lo), ("own_conditions", tupS cs)]])) : sp_Window_init__ [.cel M0.length, .str nm, nD lo, tupS cs] (M0 ++ [.obj C []]) R RX := by
  unfold sp_Window_init__; exact ⟨C, nm, lo, cs, M0, rfl, rfl, hC, h1, h2, h3, k⟩
def w_Window_init__ (RX : RXe) : WS :=
  (wSeq (wExp (wCall sp_need [] RX0 (wCons (wCall sp_is_name [] RX0 (wCons (wVar 1) wNil)) (wCons (wC (.str "name")) wNil))))
    (wSeq (wExp (wCall sp_need [] RX0 (wCons (wAndV (wCall sp_is_between [] RX0 (wCons (wVar 2) (wCons (wC (.int 0)) (wCons (wC (.int 7)) wNil)))) (wOp oLe (wOp oSub (wOp oAdd (wVar 2) (wCB cLen (wCons (wVar 3) wNil))) (wC (.int 1))) (wC (.int 7)))) (wCons (wC (.str "low")) wNil))))
    (wSeq (wExp (wCall sp_need [] RX0 (wCons (wCall sp_are_conditions [] RX0 (wCons (wVar 3) wNil)) (wCons (wC (.str "conditions")) wNil))))
    (wSeq (wExp (wSup [("Window", sp_Kind_init__), ("TestWindow", sp_Kind_init__)] RX (wCons (wVar 1) wNil)))
    (wSeq (wSetFV ["Window", "TestWindow"] "low" (wVar 0) (wVar 2))
    (wSetFV ["Window", "AnyOf", "TestWindow"] "own_conditions" (wVar 0) (wVar 3)))))))
theorem wp_Window_init__ : ∀ ds M R RX, sp_Window_init__ ds M R RX → M.all (cellOk M.length) = true → noCels M.length ds = true → w_Window_init__ (fun nm fs _ M' => rxF M.length RX nm fs M') (fnEnds M.length R) (startE 4 ds) M := by
  unfold sp_Window_init__; rintro ds M R RX ⟨C, nm, lo, cs, M0, rfl, rfl, hC, h1, h2, h3, k⟩ hM hds
  unfold nD tupS at *
  rcases hC with rfl | rfl
  · walk_at "go"
    refine use_is_name (nm_val h1) ?_
    walk_at "go"
    refine use_need h1 ?_
    walk_at "go"
    refine use_is_between ⟨rfl, fun _ => rfl⟩ ?_
    rw [isNum_nat (by have := h2.l1; omega)]
    walk_at "go"
    refine use_need (decide_eq_true (by rw [List.length_map]; omega)) ?_
    walk_at "go"
    refine use_are_conditions h2 ?_
    walk_at "go"
    refine use_need rfl ?_
    walk_at "go"
    refine sup_use view0 rfl ?_
    walk_at "go"
    refine use_Kind_init__ h1 (by decide) ?_
    walk_at "go"
    refine setFV_use last0 (by decide) (Nat.le_of_ble_eq_true rfl) ?_
    rw [set0]
    walk_at "go"
    refine setFV_use last0 (by decide) (Nat.le_of_ble_eq_true rfl) ?_
    rw [set0]
    exact .keep k
  · walk_at "go"
    refine use_is_name (nm_val h1) ?_
    walk_at "go"
    refine use_need h1 ?_
    walk_at "go"
    refine use_is_between ⟨rfl, fun _ => rfl⟩ ?_
    rw [isNum_nat (by have := h2.l1; omega)]
    walk_at "go"
    refine use_need (decide_eq_true (by rw [List.length_map]; omega)) ?_
    walk_at "go"
    refine use_are_conditions h2 ?_
    walk_at "go"
    refine use_need rfl ?_
    walk_at "go"
    refine sup_use view0 rfl ?_
    walk_at "go"
    refine use_Kind_init__ h1 (by decide) ?_
    walk_at "go"
    refine setFV_use last0 (by decide) (Nat.le_of_ble_eq_true rfl) ?_
    rw [set0]
    walk_at "go"
    refine setFV_use last0 (by decide) (Nat.le_of_ble_eq_true rfl) ?_
    rw [set0]
    exact .keep k
/-! Test.__init__: 0 self, 1 name, 2 condition, 3 bit, 4 rest -/
abbrev p_Test_init__ : List Str := ["self", "name", "condition", "bit", "rest"]
@[irreducible] def sp_Test_init__ : DSp := fun ds M R _ => (∃ (nm c : Str) (b : Nat) (M0 : Mt), ds = [.cel M0.length, .str nm, .str c, nD b, .tup []] ∧ M = M0 ++ [.obj "Test" []] ∧ (Kn.test nm c b).Ok ∧ R .non (M0 ++ [(Kn.test nm c b).obj])) ∨
  ∃ (nm c : Str) (b lo : Nat) (cs : List Str) (M0 : Mt), ds = [.cel M0.length, .str nm, .str c, nD b, .tup (nD lo :: cs.map D.str)] ∧ M = M0 ++ [.obj "TestWindow" []] ∧ (Kn.tw nm c b lo cs).Ok ∧ R .non (M0 ++ [(Kn.tw nm c b lo cs).obj])
theorem use_Test_init__ {nm c : Str} {b : Nat} {M0 : Mt} {R RX} (ok : (Kn.test nm c b).Ok) (k : R .non (M0 ++ [(Kn.test nm c b).obj])) : sp_Test_init__ [.cel M0.length, .str nm, .str c, nD b, .tup []] (M0 ++ [.obj "Test" []]) R RX := by
  unfold sp_Test_init__; exact .inl ⟨nm, c, b, M0, rfl, rfl, ok, k⟩
theorem use_Test_initW {nm c : Str} {b lo : Nat} {cs : List Str} {M0 : Mt} {R RX} (ok : (Kn.tw nm c b lo cs).Ok) (k : R .non (M0 ++ [(Kn.tw nm c b lo cs).obj])) : sp_Test_init__ [.cel M0.length, .str nm, .str c, nD b, .tup (nD lo :: cs.map D.str)] (M0 ++ [.obj "TestWindow" []]) R RX := by
  unfold sp_Test_init__; exact .inr ⟨nm, c, b, lo, cs, M0, rfl, rfl, ok, k⟩
def w_Test_init__ (RX : RXe) : WS :=
  (wSeq (wExp (wCall sp_need [] RX0 (wCons (wCall sp_is_name [] RX0 (wCons (wVar 1) wNil)) (wCons (wC (.str "name")) wNil))))
    (wSeq (wExp (wCall sp_need [] RX0 (wCons (wCall sp_is_name [] RX0 (wCons (wVar 2) wNil)) (wCons (wC (.str "condition")) wNil))))
    (wSeq (wExp (wCall sp_need [] RX0 (wCons (wCall sp_is_between [] RX0 (wCons (wVar 3) (wCons (wC (.int 0)) (wCons (wC (.int 7)) wNil)))) (wCons (wC (.str "bit")) wNil))))
    (wSeq (wExp (wSup [("Test", sp_Kind_init__), ("TestWindow", (starSp 3 sp_Window_init__))] RX (wCons (wVar 1) (wStar (wVar 4) wNil))))
    (wSeq (wSetFV ["Test", "TestWindow"] "condition" (wVar 0) (wVar 2))
    (wSetFV ["Test", "AnyOf", "TestWindow"] "bit" (wVar 0) (wVar 3)))))))
theorem wp_Test_init__ : ∀ ds M R RX, sp_Test_init__ ds M R RX → M.all (cellOk M.length) = true → noCels M.length ds = true → w_Test_init__ (fun nm fs _ M' => rxF M.length RX nm fs M') (fnEnds M.length R) (startE 5 ds) M := by
  unfold sp_Test_init__; rintro ds M R RX (⟨nm, c, b, M0, rfl, rfl, ok, k⟩ | ⟨nm, c, b, lo, cs, M0, rfl, rfl, ok, k⟩) hM hds
  · obtain ⟨h1, h2, h3⟩ := ok
    unfold nD at *
    walk_at "go"
    refine use_is_name (nm_val h1) ?_
    walk_at "go"
    refine use_need h1 ?_
    walk_at "go"
    refine use_is_name (nm_val h2) ?_
    walk_at "go"
    refine use_need h2 ?_
    walk_at "go"
    refine use_is_between ⟨rfl, fun _ => rfl⟩ ?_
    walk_at "go"
    refine use_need (isNum_nat h3) ?_
    walk_at "go"
    refine sup_use view0 rfl ?_
    walk_at "go"
    refine use_Kind_init__ h1 (by decide) ?_
    walk_at "go"
    refine setFV_use last0 (by decide) (Nat.le_of_ble_eq_true rfl) ?_
    rw [set0]
    walk_at "go"
    refine setFV_use last0 (by decide) (Nat.le_of_ble_eq_true rfl) ?_
    rw [set0]
    exact .keep k
  · obtain ⟨h1, h2, h3, h4, h5⟩ := ok
    have h4l := h4.l5
    unfold nD at *
    walk_at "go"
    refine use_is_name (nm_val h1) ?_
    walk_at "go"
    refine use_need h1 ?_
    walk_at "go"
    refine use_is_name (nm_val h2) ?_
    walk_at "go"
    refine use_need h2 ?_
    walk_at "go"
    refine use_is_between ⟨rfl, fun _ => rfl⟩ ?_
    walk_at "go"
    refine use_need (isNum_nat h3) ?_
    walk_at "go"
    refine sup_use view0 rfl ?_
    walk_at "go"
    simp only [List.append_nil]
    refine use_Window_init__ (M0 := M0) (nm := nm) (lo := lo) (cs := cs) (.inr rfl) h1 h4 h5 ?_
    walk_at "go"
    refine setFV_use last0 (by decide) (Nat.le_of_ble_eq_true rfl) ?_
    rw [set0]
    walk_at "go"
    refine setFV_use last0 (by decide) (Nat.le_of_ble_eq_true rfl) ?_
    rw [set0]
    exact .keep k
/-! Window.of: 0 name, 1 low, 2 conditions -/
abbrev p_Window_of : List Str := ["name", "low", "conditions"]
@[irreducible] def sp_Window_of : DSp := fun ds M R _ => ∃ (nm : Str) (lo : Nat) (cs : List Str) (x : D), ds = [.str nm, nD lo, x] ∧ seqD (viewD M x) = some (cs.map D.str) ∧ (Kn.win nm lo cs).Ok ∧ R (Kn.win nm lo cs).obj M
theorem len_Window_of : ∀ ds M R RX, sp_Window_of ds M R RX → ds.length = p_Window_of.length := by
  unfold sp_Window_of; rintro ds M R RX ⟨_, _, _, _, rfl, _⟩; rfl
theorem use_Window_of {nm : Str} {lo : Nat} {cs : List Str} {x : D} {M : Mt} {R RX} (hx : seqD (viewD M x) = some (cs.map D.str)) (ok : (Kn.win nm lo cs).Ok) (k : R (Kn.win nm lo cs).obj M) : sp_Window_of [.str nm, nD lo, x] M R RX := by
  unfold sp_Window_of; exact ⟨_, _, _, _, rfl, hx, ok, k⟩
def w_Window_of (RX : RXe) : WS :=
  (wRet (wMk "Window" (starSp 3 sp_Window_init__) RX (wCons (wVar 0) (wCons (wVar 1) (wStar (wVar 2) wNil)))))
theorem wp_Window_of : ∀ ds M R RX, sp_Window_of ds M R RX → M.all (cellOk M.length) = true → noCels M.length ds = true → w_Window_of (fun nm fs _ M' => rxF M.length RX nm fs M') (fnEnds M.length R) (startE 3 ds) M := by
  unfold sp_Window_of; rintro ds M R RX ⟨nm, lo, cs, x, rfl, hx, ok, k⟩ hM hds
  have h5 := ok.2.1.l5
  walk_at "go"
  rw [hx]
  walk_at "go"
  simp only [List.append_nil]
  refine use_Window_init__ (M0 := M) (nm := nm) (lo := lo) (cs := cs) (.inl rfl) ok.1 ok.2.1 ok.2.2 ⟨rfl, mkEnd_i ?_ (.keep k)⟩
  exact noCF_obj (.win nm lo cs) M.length
/-! AnyOf.__init__: 0 self, 1 name, 2 bit, 3 conditions -/
abbrev p_AnyOf_init__ : List Str := ["self", "name", "bit", "conditions"]
@[irreducible] def sp_AnyOf_init__ : DSp := fun ds M R _ => ∃ (nm : Str) (b : Nat) (cs : List Str) (M0 : Mt), ds = [.cel M0.length, .str nm, nD b, tupS cs] ∧ M = M0 ++ [.obj "AnyOf" []] ∧ (Kn.any nm b cs).Ok ∧ R .non (M0 ++ [(Kn.any nm b cs).obj])
theorem use_AnyOf_init__ {nm : Str} {b : Nat} {cs : List Str} {M0 : Mt} {R RX} (ok : (Kn.any nm b cs).Ok) (k : R .non (M0 ++ [(Kn.any nm b cs).obj])) : sp_AnyOf_init__ [.cel M0.length, .str nm, nD b, tupS cs] (M0 ++ [.obj "AnyOf" []]) R RX := by
  unfold sp_AnyOf_init__; exact ⟨nm, b, cs, M0, rfl, rfl, ok, k⟩
def w_AnyOf_init__ (RX : RXe) : WS :=
  (wSeq (wExp (wCall sp_need [] RX0 (wCons (wCall sp_is_name [] RX0 (wCons (wVar 1) wNil)) (wCons (wC (.str "name")) wNil))))
    (wSeq (wExp (wCall sp_need [] RX0 (wCons (wCall sp_is_between [] RX0 (wCons (wVar 2) (wCons (wC (.int 0)) (wCons (wC (.int 7)) wNil)))) (wCons (wC (.str "bit")) wNil))))
    (wSeq (wExp (wCall sp_need [] RX0 (wCons (wCall sp_are_conditions [] RX0 (wCons (wVar 3) wNil)) (wCons (wC (.str "conditions")) wNil))))
    (wSeq (wExp (wSup [("AnyOf", sp_Kind_init__)] RX (wCons (wVar 1) wNil)))
    (wSeq (wSetFV ["Test", "AnyOf", "TestWindow"] "bit" (wVar 0) (wVar 2))
    (wSetFV ["Window", "AnyOf", "TestWindow"] "own_conditions" (wVar 0) (wVar 3)))))))
theorem wp_AnyOf_init__ : ∀ ds M R RX, sp_AnyOf_init__ ds M R RX → M.all (cellOk M.length) = true → noCels M.length ds = true → w_AnyOf_init__ (fun nm fs _ M' => rxF M.length RX nm fs M') (fnEnds M.length R) (startE 4 ds) M := by
  unfold sp_AnyOf_init__; rintro ds M R RX ⟨nm, b, cs, M0, rfl, rfl, ⟨h1, h2, h3⟩, k⟩ hM hds
  unfold nD tupS at *
  walk_at "go"
  refine use_is_name (nm_val h1) ?_
  walk_at "go"
  refine use_need h1 ?_
  walk_at "go"
  refine use_is_between ⟨rfl, fun _ => rfl⟩ ?_
  walk_at "go"
  refine use_need (isNum_nat h3) ?_
  walk_at "go"
  refine use_are_conditions h2 ?_
  walk_at "go"
  refine use_need rfl ?_
  walk_at "go"
  refine sup_use view0 rfl ?_
  walk_at "go"
  refine use_Kind_init__ h1 (by decide) ?_
  walk_at "go"
  refine setFV_use last0 (by decide) (Nat.le_of_ble_eq_true rfl) ?_
  rw [set0]
  walk_at "go"
  refine setFV_use last0 (by decide) (Nat.le_of_ble_eq_true rfl) ?_
  rw [set0]
  exact .keep k
/-! AnyOf.of: 0 name, 1 bit, 2 conditions -/
abbrev p_AnyOf_of : List Str := ["name", "bit", "conditions"]
@[irreducible] def sp_AnyOf_of : DSp := fun ds M R _ => ∃ (nm : Str) (b : Nat) (cs : List Str) (x : D), ds = [.str nm, nD b, x] ∧ seqD (viewD M x) = some (cs.map D.str) ∧ (Kn.any nm b cs).Ok ∧ R (Kn.any nm b cs).obj M
theorem len_AnyOf_of : ∀ ds M R RX, sp_AnyOf_of ds M R RX → ds.length = p_AnyOf_of.length := by
  unfold sp_AnyOf_of; rintro ds M R RX ⟨_, _, _, _, rfl, _⟩; rfl
theorem use_AnyOf_of {nm : Str} {b : Nat} {cs : List Str} {x : D} {M : Mt} {R RX} (hx : seqD (viewD M x) = some (cs.map D.str)) (ok : (Kn.any nm b cs).Ok) (k : R (Kn.any nm b cs).obj M) : sp_AnyOf_of [.str nm, nD b, x] M R RX := by
  unfold sp_AnyOf_of; exact ⟨_, _, _, _, rfl, hx, ok, k⟩
def w_AnyOf_of (RX : RXe) : WS :=
  (wRet (wMk "AnyOf" (starSp 3 sp_AnyOf_init__) RX (wCons (wVar 0) (wCons (wVar 1) (wStar (wVar 2) wNil)))))
theorem wp_AnyOf_of : ∀ ds M R RX, sp_AnyOf_of ds M R RX → M.all (cellOk M.length) = true → noCels M.length ds = true → w_AnyOf_of (fun nm fs _ M' => rxF M.length RX nm fs M') (fnEnds M.length R) (startE 3 ds) M := by
  unfold sp_AnyOf_of; rintro ds M R RX ⟨nm, b, cs, x, rfl, hx, ok, k⟩ hM hds
  have h5 := ok.2.1.l5
  walk_at "go"
  rw [hx]
  walk_at "go"
  simp only [List.append_nil]
  refine use_AnyOf_init__ (M0 := M) (nm := nm) (b := b) (cs := cs) ok ⟨rfl, mkEnd_i ?_ (.keep k)⟩
  exact noCF_obj (.any nm b cs) M.length
/-! TestWindow.__init__: 0 self, 1 name, 2 condition, 3 bit, 4 low, 5 conditions -/
abbrev p_TestWindow_init__ : List Str := ["self", "name", "condition", "bit", "low", "conditions"]
@[irreducible] def sp_TestWindow_init__ : DSp := fun ds M R _ => ∃ (nm c : Str) (b lo : Nat) (cs : List Str) (M0 : Mt), ds = [.cel M0.length, .str nm, .str c, nD b, nD lo, tupS cs] ∧ M = M0 ++ [.obj "TestWindow" []] ∧ (Kn.tw nm c b lo cs).Ok ∧ R .non (M0 ++ [(Kn.tw nm c b lo cs).obj])
theorem use_TestWindow_init__ {nm c : Str} {b lo : Nat} {cs : List Str} {M0 : Mt} {R RX} (ok : (Kn.tw nm c b lo cs).Ok) (k : R .non (M0 ++ [(Kn.tw nm c b lo cs).obj])) : sp_TestWindow_init__ [.cel M0.length, .str nm, .str c, nD b, nD lo, tupS cs] (M0 ++ [.obj "TestWindow" []]) R RX := by
  unfold sp_TestWindow_init__; exact ⟨nm, c, b, lo, cs, M0, rfl, rfl, ok, k⟩
def w_TestWindow_init__ (RX : RXe) : WS :=
  (wExp (wSup [("TestWindow", (starSp 4 sp_Test_init__))] RX (wCons (wVar 1) (wCons (wVar 2) (wCons (wVar 3) (wCons (wVar 4) (wStar (wVar 5) wNil)))))))
theorem wp_TestWindow_init__ : ∀ ds M R RX, sp_TestWindow_init__ ds M R RX → M.all (cellOk M.length) = true → noCels M.length ds = true → w_TestWindow_init__ (fun nm fs _ M' => rxF M.length RX nm fs M') (fnEnds M.length R) (startE 6 ds) M := by
  unfold sp_TestWindow_init__; rintro ds M R RX ⟨nm, c, b, lo, cs, M0, rfl, rfl, ok, k⟩ hM hds
  unfold tupS at *
  walk_at "go"
  refine sup_use view0 rfl ?_
  have h5 := ok.2.2.2.1.l5
  walk_at "go"
  simp only [List.append_nil]
  refine use_Test_initW (M0 := M0) (nm := nm) (c := c) (b := b) (lo := lo) (cs := cs) ok ?_
  exact .keep k
/-! Masks.__init__: 0 self, 1 name, 2 masks, 3 condition -/
abbrev p_Masks_init__ : List Str := ["self", "name", "masks"]
@[irreducible] def sp_Masks_init__ : DSp := fun ds M R _ => ∃ (nm : Str) (ms : ML) (M0 : Mt), ds = [.cel M0.length, .str nm, .fdc (mkD ms)] ∧ M = M0 ++ [.obj "Masks" []] ∧ (Kn.msk nm ms).Ok ∧ R .non (M0 ++ [(Kn.msk nm ms).obj])
theorem len_Masks_init__ : ∀ ds M R RX, sp_Masks_init__ ds M R RX → ds.length = p_Masks_init__.length := by
  unfold sp_Masks_init__; rintro ds M R RX ⟨_, _, _, rfl, _⟩; rfl
theorem use_Masks_init__ {nm : Str} {ms : ML} {M0 : Mt} {R RX} (ok : (Kn.msk nm ms).Ok) (k : R .non (M0 ++ [(Kn.msk nm ms).obj])) : sp_Masks_init__ [.cel M0.length, .str nm, .fdc (mkD ms)] (M0 ++ [.obj "Masks" []]) R RX := by
  unfold sp_Masks_init__; exact ⟨nm, ms, M0, rfl, rfl, ok, k⟩
def w_Masks_init__ (RX : RXe) : WS :=
  (wSeq (wExp (wCall sp_need [] RX0 (wCons (wCall sp_is_name [] RX0 (wCons (wVar 1) wNil)) (wCons (wC (.str "name")) wNil))))
    (wSeq (wExp (wCall sp_need [] RX0 (wCons (wAndV (wCB cIsiF (wCons (wVar 2) (wCons (wC (.ty "dict")) wNil))) (wOp oLe (wCB cLen (wCons (wVar 2) wNil)) (wC (.int 5)))) (wCons (wC (.str "masks")) wNil))))
    (wSeq (wExp (wCall sp_need [] RX0 (wCons (wCB (cAll fun bs => bs.all id) (wCons (wLc (wItF (wVar 2)) [3] wYes (wCall sp_is_name [] RX0 (wCons (wVar 3) wNil)) [3]) wNil)) (wCons (wC (.str "masks")) wNil))))
    (wSeq (wExp (wCall sp_need [] RX0 (wCons (wCB (cAll fun bs => bs.all id) (wCons (wLc (wItF (wVar 2)) [3] wYes (wCall sp_is_between [] RX0 (wCons (wOp oDGet (wVar 2) (wVar 3)) (wCons (wC (.int 0)) (wCons (wC (.int 255)) wNil)))) [3]) wNil)) (wCons (wC (.str "masks")) wNil))))
    (wSeq (wExp (wSup [("Masks", sp_Kind_init__)] RX (wCons (wVar 1) wNil)))
    (wSetFV ["Masks"] "own_masks" (wVar 0) (wDc (wItF (wVar 2)) [3] wYes (wVar 3) (wOp oDGet (wVar 2) (wVar 3)) [3])))))))
theorem len_fdc {x : D} {ks : List (Key × D)} {M : Mt} {R : D → Mt → Prop} (h : viewD M x = .fdc ks) (k : R (.int ks.length) M) : cLen [x] M R := by
  simp only [cLen, h]; exact k
theorem wp_Masks_init__ : ∀ ds M R RX, sp_Masks_init__ ds M R RX → M.all (cellOk M.length) = true → noCels M.length ds = true → w_Masks_init__ (fun nm fs _ M' => rxF M.length RX nm fs M') (fnEnds M.length R) (startE 4 ds) M := by
  unfold sp_Masks_init__; rintro ds M R RX ⟨nm, ms, M0, rfl, rfl, ⟨h1, h2, h3⟩, k⟩ hM hds
  have ha1 : ((ms.map (·.1)).map nmV).all id = true := by
    rw [List.all_map]
    refine List.all_eq_true.mpr fun c h => ?_
    obtain ⟨p, hp, rfl⟩ := List.mem_map.mp h
    exact h2.nm p hp
  have ha2 : ((ms.map (·.1)).map fun s => isNum 0 255 (nD (getN ms s))).all id = true := by
    rw [List.all_map]
    exact List.all_eq_true.mpr fun c h => num255 (getN_lt h2.lt c)
  walk_at "go"
  refine use_is_name (nm_val h1) ?_
  walk_at "go"
  refine use_need h1 ?_
  walk_at "go"
  refine len_fdc (ks := mkD ms) rfl ?_
  rw [mk_len]
  walk_at "go"
  refine use_need (decide_eq_true (by omega)) ?_
  walk_at "go"
  rw [keys_mk]
  refine lcL_map (fun d => match d with | .str s => .bl (nmV s) | _ => .non) _ _ (by rw [List.length_map, List.length_map, line16]; omega) (fun d hd A hA => ?_) ?_
  · obtain ⟨c, hcm, rfl⟩ := List.mem_map.mp hd
    obtain ⟨p, hp, rfl⟩ := List.mem_map.mp hcm
    walk_at "go"
    exact use_is_name (nm_val (h2.nm p hp)) hA
  rw [map_strs (fun _ => rfl)]
  walk_at "go"
  rw [boolsD_map (g := nmV) fun _ => rfl]
  walk_at "go"
  refine use_need ha1 ?_
  walk_at "go"
  rw [keys_mk]
  refine lcL_map (fun d => match d with | .str s => .bl (isNum 0 255 (nD (getN ms s))) | _ => .non) _ _ (by rw [List.length_map, List.length_map, line16]; omega) (fun d hd A hA => ?_) ?_
  · obtain ⟨c, hcm, rfl⟩ := List.mem_map.mp hd
    obtain ⟨p, hp, rfl⟩ := List.mem_map.mp hcm
    walk_at "go"
    refine fget_use rfl rfl (valD_p h2.nd hp) ?_
    walk_at "go"
    refine use_is_between ⟨rfl, fun _ => rfl⟩ ?_
    rw [← getN_p h2.nd hp]
    exact hA
  rw [map_strs (fun _ => rfl)]
  walk_at "go"
  rw [boolsD_map (g := fun s => isNum 0 255 (nD (getN ms s))) fun _ => rfl]
  walk_at "go"
  refine use_need ha2 ?_
  walk_at "go"
  refine sup_use view0 rfl ?_
  walk_at "go"
  refine use_Kind_init__ h1 (by decide) ?_
  walk_at "go"
  rw [keys_mk]
  refine dcL_inv (fun i acc M' => M' = (M0 ++ [.obj "Masks" [("name", .str nm)]] : Mt) ∧ acc = mkD (ms.take i)) (by rw [List.length_map, List.length_map, line16]; omega) ⟨rfl, rfl⟩ ?_ ?_
  · rintro i d acc M A C hd ⟨rfl, rfl⟩ hA hC
    obtain ⟨c, hc, rfl⟩ := get_str hd
    rw [List.getElem?_map] at hc
    obtain ⟨p, hp, rfl⟩ := Option.map_eq_some_iff.mp hc
    have hpm := List.mem_of_getElem? hp
    walk_at "go"
    refine fget_use rfl rfl (valD_p h2.nd hpm) ?_
    refine hA _ _ _ _ rfl ⟨rfl, ?_⟩
    have hn := nd_take h2.nd (show (ms.map (·.1))[i]? = some p.1 by rw [List.getElem?_map, hp]; rfl)
    rw [← List.map_take] at hn
    rw [put_mk hn, take_snoc hp]
  · rintro acc M' hl ⟨rfl, rfl⟩
    rw [List.length_map, List.length_map, List.take_length]
    walk_at "go"
    refine setFV_use last0 (by decide) (Nat.le_of_ble_eq_true rfl) ?_
    rw [set0]
    exact .keep k

/-! _law_pen: 0 _law_script -/
abbrev p_law_pen : List Str := ["_law_script"]
@[irreducible] def sp_law_pen : DSp := fun ds M R _ => ∃ ns : List Int, ds = [.rol (ns.map D.int)] ∧ M = [] ∧ ∀ b, PenOk 0 b → R (.cel 0) [b]
theorem len_law_pen : ∀ ds M R RX, sp_law_pen ds M R RX → ds.length = p_law_pen.length := by
  unfold sp_law_pen; rintro ds M R RX ⟨ns, rfl, _⟩; rfl
theorem use_law_pen {ns : List Int} {R RX} (k : ∀ b, PenOk 0 b → R (.cel 0) [b]) : sp_law_pen [.rol (ns.map D.int)] [] R RX := by
  unfold sp_law_pen; exact ⟨ns, rfl, rfl, k⟩
def w_law_pen : WS :=
  (wRet (wLstM (wCons (wCB (cListA false) (wCons (wSl (wVar 0) wNoP (wP (wC (.int 63)))) wNil)) (wCons (wC (.int 0)) (wCons (wC (.int 0)) wNil)))))
theorem wp_law_pen : ∀ ds M R RX, sp_law_pen ds M R RX → M.all (cellOk M.length) = true → noCels M.length ds = true → w_law_pen (fnEnds M.length R) (startE 1 ds) M := by
  unfold sp_law_pen; rintro ds M R RX ⟨ns, rfl, rfl, k⟩ _ _
  walk_at "go"
  have e : L3.cutD (ns.map D.int) none (some 63) = ((ns.drop (HT.sIx ns.length 0 none)).take (HT.sIx ns.length ns.length (some 63) - HT.sIx ns.length 0 none)).map D.int := by
    unfold L3.cutD; simp only [List.length_map, List.map_drop, List.map_take]
  refine .keep ?_
  rw [e]
  exact k _ ⟨_, 0, 0, rfl, by decide, by decide, by decide⟩
/-! _law_draw: 0 _law_pen_here, 1 _law_many, 2 _law_at, 3 _law_cell, 4 _law_mixed_here, 5 _law_digit, 6 _law_great -/
abbrev p_law_draw : List Str := ["_law_pen_here", "_law_many"]
@[irreducible] def sp_law_draw : DSp := fun ds M R _ => ∃ (many n : Int) (b : D) (M2 : Mt), ds = [.cel 0, .int many] ∧ M = b :: M2 ∧ PenOk n b ∧ n ≤ 1000000 ∧ 1 ≤ many ∧ many < 1073741824 ∧
  ∀ (d : Int) (b' : D), 0 ≤ d → d < many → PenOk (n + 1) b' → R (.int d) (b' :: M2)
theorem len_law_draw : ∀ ds M R RX, sp_law_draw ds M R RX → ds.length = p_law_draw.length := by
  unfold sp_law_draw; rintro ds M R RX ⟨_, _, _, _, rfl, _⟩; rfl
theorem use_law_draw {b : D} {many n : Int} {M2 : Mt} {R RX} (hb : PenOk n b) (hn : n ≤ 1000000) (h1 : 1 ≤ many) (h2 : many < 1073741824)
    (k : ∀ (d : Int) (b' : D), 0 ≤ d → d < many → PenOk (n + 1) b' → R (.int d) (b' :: M2)) : sp_law_draw [.cel 0, .int many] (b :: M2) R RX := by
  unfold sp_law_draw; exact ⟨many, n, b, M2, rfl, rfl, hb, hn, h1, h2, k⟩
def w_law_draw : WS :=
  (wSeq (wIfS (wTest (wOp oGt (wOp oIx (wVar 0) (wC (.int 2))) (wC (.int 0)))) (wSeq (wAsg (wOp oMod (wCB cInt (wCons (wOp oIx (wVar 0) (wC (.int 2))) wNil)) (wVar 1)) (gN 5))
    (wSeq (wAsg (wOp oFdiv (wCB cInt (wCons (wOp oIx (wVar 0) (wC (.int 2))) wNil)) (wVar 1)) (gIxL (wVar 0) (wC (.int 2))))
    (wRet (wVar 5)))) wSkip)
    (wSeq (wAsg (wOp oIx (wVar 0) (wC (.int 1))) (gN 2))
    (wSeq (wAsg (wOp oAdd (wVar 2) (wC (.int 1))) (gIxL (wVar 0) (wC (.int 1))))
    (wSeq (wAsg (wOp oAdd (wOp oMul (wC (.int 61043)) (wVar 2)) (wC (.int 419))) (gN 3))
    (wSeq (wIfS (wTest (wOp (oEqI fun b => !b) (wOp oIx (wVar 0) (wC (.int 0))) (wLst wNil))) (wAsg (wOp oIx (wOp oIx (wVar 0) (wC (.int 0))) (wOp oMod (wCB cInt (wCons (wVar 2) wNil)) (wCB cLen (wCons (wOp oIx (wVar 0) (wC (.int 0))) wNil)))) (gN 3)) wSkip)
    (wSeq (wIfS (wAndT (wTest (wOp oLt (wVar 2) (wCB cLen (wCons (wOp oIx (wVar 0) (wC (.int 0))) wNil)))) (wTest (wOp oGe (wCB cAbs (wCons (wVar 3) wNil)) (wOp oPow (wC (.int 10)) (wC (.int 18)))))) (wSeq (wAsg (wOp oAdd (wOp oMul (wC (.int 2)) (wOp oSub (wCB cAbs (wCons (wVar 3) wNil)) (wOp oPow (wC (.int 10)) (wC (.int 18))))) (wCB cInt (wCons (wOp oLt (wVar 3) (wC (.int 0))) wNil))) (gN 6))
    (wSeq (wAsg (wOp oFdiv (wCB cInt (wCons (wVar 6) wNil)) (wVar 1)) (gIxL (wVar 0) (wC (.int 2))))
    (wRet (wOp oMod (wCB cInt (wCons (wVar 6) wNil)) (wVar 1))))) wSkip)
    (wSeq (wAsg (wOp oMod (wCB cInt (wCons (wOp oPow (wOp oAdd (wOp oAdd (wOp oMod (wCB cInt (wCons (wVar 3) wNil)) (wC (.int 2147483549))) (wOp oMul (wC (.int 70009)) (wVar 2))) (wC (.int 137))) (wC (.int 5))) wNil)) (wC (.int 2147483629))) (gN 4))
    (wSeq (wAsg (wOp oMod (wCB cInt (wCons (wOp oPow (wOp oAdd (wOp oAdd (wOp oMul (wVar 4) (wOp oAdd (wOp oMul (wC (.int 2)) (wVar 2)) (wC (.int 207)))) (wOp oMul (wOp oMul (wC (.int 81017)) (wVar 2)) (wVar 2))) (wC (.int 11))) (wC (.int 3))) wNil)) (wC (.int 2147483587))) (gN 4))
    (wRet (wOp oMod (wCB cInt (wCons (wOp oFdiv (wVar 4) (wC (.int 32))) wNil)) (wVar 1)))))))))))
theorem atI_mod {cs : List Int} {a : Int} (hp : 0 < cs.length) (h0 : 0 ≤ a) : ∃ c, L2.atI (cs.map D.int) (a % ((cs.map D.int).length : Int)) = some (D.int c) := by
  have h1 := Int.emod_nonneg a (show ((cs.map D.int).length : Int) ≠ 0 by rw [List.length_map]; omega)
  have h2 := Int.emod_lt_of_pos a (show (0 : Int) < ((cs.map D.int).length : Int) by rw [List.length_map]; omega)
  rw [atI_in h1 h2, List.getElem?_map, List.getElem?_eq_getElem (by rw [List.length_map] at *; omega)]
  exact ⟨_, rfl⟩
theorem great_ok {c : Int} (h : 10 ^ Int.toNat 18 ≤ absI c) : 0 ≤ 2 * (absI c - 10 ^ Int.toNat 18) + (if decide (c < 0) = true then 1 else 0) := by
  split <;> omega
theorem pow_ok (m a x y z e : Int) (he0 : 0 ≤ e) (he1 : e ≤ 10) (hx : 0 ≤ x) (hx' : x < 1000) (hy : 0 ≤ y) (hy' : y < 100000) (hz : 0 ≤ z) (hz' : z < 100000) (h : 0 ≤ m) (h' : m < 2147483647) (h0 : 0 ≤ a) (h1 : a ≤ 1000000) : CPow (m * (2 * a + x) + y * a * a + z) e := by
  have h2 : m * (2 * a + x) ≤ 2147483647 * 2001000 := Int.mul_le_mul (by omega) (by omega) (by omega) (by omega)
  have h3 : 0 ≤ m * (2 * a + x) := Int.mul_nonneg h (by omega)
  have h4 : y * a ≤ 100000 * 1000000 := Int.mul_le_mul (by omega) (by omega) (by omega) (by omega)
  have h5 : 0 ≤ y * a := Int.mul_nonneg hy h0
  have h6 : y * a * a ≤ 100000000000 * 1000000 := Int.mul_le_mul (by omega) (by omega) (by omega) (by omega)
  have h7 : 0 ≤ y * a * a := Int.mul_nonneg h5 h0
  exact cpow (by omega) (by omega) (by omega) (by omega)
local macro_rules | `(tactic| walk_at "call") => `(tactic| first
  | (refine set_rest ?_; walk_at "go")
  | (refine set_at ?_; walk_at "go"))
theorem wp_law_draw : ∀ ds M R RX, sp_law_draw ds M R RX → M.all (cellOk M.length) = true → noCels M.length ds = true → w_law_draw (fnEnds M.length R) (startE 7 ds) M := by
  unfold sp_law_draw; rintro ds M R RX ⟨many, n, b, M2, rfl, rfl, ⟨cs, at_, rest, rfl, h0, hn0, h2⟩, hn, h3, h4, k⟩ _ _
  have h1 : at_ ≤ 1000000 := by omega
  have fin : ∀ (x a' r' : Int), at_ ≤ a' → a' ≤ at_ + 1 → 0 ≤ r' → retF (pen cs at_ rest :: M2).length R (.int (x % many)) (pen cs a' r' :: M2) := fun x a' r' q1 q2 q3 =>
    .keep (k _ _ (Int.emod_nonneg _ (by omega)) (Int.emod_lt_of_pos _ (by omega)) ⟨cs, a', r', rfl, by omega, by omega, q3⟩)
  have m31 : ∀ x : Int, 0 ≤ x % 2147483647 ∧ x % 2147483647 < 2147483647 := fun x => ⟨Int.emod_nonneg _ (by decide), Int.emod_lt_of_pos _ (by decide)⟩
  have end1 : ∀ x : Int, retF (pen cs at_ rest :: M2).length R (.int (x % many)) (pen cs (at_ + 1) rest :: M2) := fun x => fin _ _ _ (by omega) (by omega) (by omega)
  have end2 : ∀ x : Int, 0 ≤ x → retF (pen cs at_ rest :: M2).length R (.int (x % many)) (pen cs (at_ + 1) (x / many) :: M2) := fun x hx => fin _ _ _ (by omega) (by omega) (Int.ediv_nonneg hx (by omega))
  have pos : (cs.map D.int).isEmpty = false → 0 < cs.length := fun h => by
    cases cs with
    | nil => cases h
    | cons _ _ => simp
  walk_at "go"
  · exact fin _ _ _ (by omega) (by omega) (Int.ediv_nonneg h2 (by omega))
  · exact ⟨by rw [List.length_map]; have := pos (by assumption); omega⟩
  · obtain ⟨c, hc⟩ := atI_mod (a := at_) (pos (by assumption)) h0
    rw [hc]
    walk_at "go"
    all_goals first
      | exact end1 _
      | exact end2 _ (great_ok (by assumption))
      | exact ⟨pow_ok _ _ _ _ _ _ (by decide) (by decide) (by decide) (by decide) (by decide) (by decide) (by decide) (by decide) (Int.emod_nonneg _ (by decide)) (Int.lt_of_lt_of_le (Int.emod_lt_of_pos _ (by decide)) (by decide)) h0 h1⟩
  all_goals first
    | exact end1 _
    | exact end2 _ (great_ok (by assumption))
    | exact ⟨pow_ok _ _ _ _ _ _ (by decide) (by decide) (by decide) (by decide) (by decide) (by decide) (by decide) (by decide) (Int.emod_nonneg _ (by decide)) (Int.lt_of_lt_of_le (Int.emod_lt_of_pos _ (by decide)) (by decide)) h0 h1⟩

/-! _law_pick: 0 _law_pen_here, 1 _law_some -/
abbrev p_law_pick : List Str := ["_law_pen_here", "_law_some"]
/-- what can be picked of -/
def PickOf (x : D) (l : List D) : Prop := x = .lst l ∨ ∃ s : Str, x = .str s ∧ l = chars s
@[irreducible] def sp_law_pick : DSp := fun ds M R _ => ∃ (x : D) (l : List D) (n : Int) (b : D) (M2 : Mt), ds = [.cel 0, x] ∧ PickOf x l ∧ M = b :: M2 ∧ PenOk n b ∧ n ≤ 1000000 ∧ 1 ≤ l.length ∧ l.length ≤ 1000 ∧
  ∀ (d : D) (b' : D), d ∈ l → PenOk (n + 1) b' → R d (b' :: M2)
theorem len_law_pick : ∀ ds M R RX, sp_law_pick ds M R RX → ds.length = p_law_pick.length := by
  unfold sp_law_pick; rintro ds M R RX ⟨_, _, _, _, _, rfl, _⟩; rfl
theorem use_law_pick {l : List D} {n : Int} {b : D} {M2 : Mt} {R RX} (hb : PenOk n b) (hn : n ≤ 1000000) (h1 : 1 ≤ l.length) (h2 : l.length ≤ 1000)
    (k : ∀ (d : D) (b' : D), d ∈ l → PenOk (n + 1) b' → R d (b' :: M2)) : sp_law_pick [.cel 0, .lst l] (b :: M2) R RX := by
  unfold sp_law_pick; exact ⟨_, l, n, b, M2, rfl, .inl rfl, rfl, hb, hn, h1, h2, k⟩
theorem use_law_pickS {s : Str} {n : Int} {b : D} {M2 : Mt} {R RX} (hb : PenOk n b) (hn : n ≤ 1000000) (h1 : 1 ≤ s.length) (h2 : s.length ≤ 1000)
    (k : ∀ (c : Nat) (b' : D), c ∈ s.cps.toList → PenOk (n + 1) b' → R (.str ⟨#[c]⟩) (b' :: M2)) : sp_law_pick [.cel 0, .str s] (b :: M2) R RX := by
  unfold sp_law_pick; exact ⟨_, chars s, n, b, M2, rfl, .inr ⟨s, rfl, rfl⟩, rfl, hb, hn, by rw [chars_len]; exact h1, by rw [chars_len]; exact h2, fun d b' hd hb' => by
    obtain ⟨c, hc, rfl⟩ := mem_chars hd
    exact k c b' hc hb'⟩
def w_law_pick : WS :=
  (wRet (wOp oIx (wVar 1) (wCall sp_law_draw [] RX0 (wCons (wVar 0) (wCons (wCB cLen (wCons (wVar 1) wNil)) wNil)))))
theorem wp_law_pick : ∀ ds M R RX, sp_law_pick ds M R RX → M.all (cellOk M.length) = true → noCels M.length ds = true → w_law_pick (fnEnds M.length R) (startE 2 ds) M := by
  unfold sp_law_pick; rintro ds M R RX ⟨x, l, n, b, M2, rfl, hx, rfl, hb, hn, h1, h2, k⟩ _ _
  rcases hx with rfl | ⟨s, rfl, rfl⟩
  · walk_at "go"
    refine use_law_draw hb hn (by omega) (by omega) fun dr b2 hd0 hd1 hb2 => ?_
    walk_at "go"
    rw [atI_in hd0 hd1, List.getElem?_eq_getElem (by omega)]
    walk_at "go"
    exact .keep (k _ _ (List.getElem_mem _) hb2)
  · rw [chars_len] at h1 h2
    walk_at "go"
    refine len_str rfl (by rw [line16]; omega) ?_
    walk_at "go"
    refine use_law_draw hb hn (by omega) (by omega) fun dr b2 hd0 hd1 hb2 => ?_
    have hsl : s.length = s.cps.toList.length := by show s.cps.size = _; rw [Array.length_toList]
    have ha : L2.atI s.cps.toList dr = some (s.cps.toList[dr.toNat]'(by omega)) := by
      rw [atI_in hd0 (by omega), List.getElem?_eq_getElem (by omega)]
    walk_at "go"
    rw [ha]
    walk_at "go"
    refine .keep (k _ _ ?_ hb2)
    unfold chars
    exact List.mem_map.mpr ⟨_, List.getElem_mem _, rfl⟩
/-! _law_mixed: 0 _law_pen_here, 1 _law_some, 2 _law_left, 3 _law_k -/
abbrev p_law_mixed : List Str := ["_law_pen_here", "_law_some"]
theorem erase_perm : ∀ (l : List D) (k : Nat) (h : k < l.length), l.Perm (l[k] :: l.eraseIdx k)
  | [], k, h => by simp at h
  | a :: r, 0, h => by simp
  | a :: r, k + 1, h => by
    have ih := erase_perm r k (by simpa using h)
    simp only [List.getElem_cons_succ, List.eraseIdx_cons_succ]
    exact (ih.cons a).trans (List.Perm.swap _ _ _)
@[irreducible] def sp_law_mixed : DSp := fun ds M R _ => ∃ (l : List D) (n : Int) (b : D) (M2 : Mt), ds = [.cel 0, .lst l] ∧ M = b :: M2 ∧ PenOk n b ∧ n ≤ 999000 ∧ l.length ≤ 1000 ∧
  ∀ (l' : List D) (b' : D), l'.Perm l → PenOk (n + l.length) b' → R (.lst l') (b' :: M2)
theorem len_law_mixed : ∀ ds M R RX, sp_law_mixed ds M R RX → ds.length = p_law_mixed.length := by
  unfold sp_law_mixed; rintro ds M R RX ⟨_, _, _, _, rfl, _⟩; rfl
theorem use_law_mixed {l : List D} {n : Int} {b : D} {M2 : Mt} {R RX} (hb : PenOk n b) (hn : n ≤ 999000) (h2 : l.length ≤ 1000)
    (k : ∀ (l' : List D) (b' : D), l'.Perm l → PenOk (n + l.length) b' → R (.lst l') (b' :: M2)) : sp_law_mixed [.cel 0, .lst l] (b :: M2) R RX := by
  unfold sp_law_mixed; exact ⟨l, n, b, M2, rfl, rfl, hb, hn, h2, k⟩
def w_law_mixed : WS :=
  (wSeq (wAsg (wCB (cListA true) (wCons (wVar 1) wNil)) (gN 2))
    (wRet (wLc (wRng1 (wCons (wCB cLen (wCons (wVar 2) wNil)) wNil)) [3] wYes (wBM "list" mPopAt (wVar 2) (wCons (wCall sp_law_draw [] RX0 (wCons (wVar 0) (wCons (wCB cLen (wCons (wVar 2) wNil)) wNil))) wNil)) [3])))
theorem noCels_perm {n : Nat} {l m : List D} (p : l.Perm m) (h : noCels n m = true) : noCels n l = true := noCels_mem.mpr fun d hd => noCels_mem.mp h d (p.subset hd)
theorem last1 {b : D} {M2 : Mt} {x : D} : (b :: (M2 ++ [x]) : Mt)[M2.length + 1]? = some x := by simp
theorem set1L {b x z : D} {M2 : Mt} : (b :: (M2 ++ [x]) : Mt).set (M2.length + 1) z = b :: (M2 ++ [z]) := by simp
theorem wp_law_mixed : ∀ ds M R RX, sp_law_mixed ds M R RX → M.all (cellOk M.length) = true → noCels M.length ds = true → w_law_mixed (fnEnds M.length R) (startE 4 ds) M := by
  unfold sp_law_mixed; rintro ds M R RX ⟨l, n, b, M2, rfl, rfl, hb, hn, hl, k⟩ hM hds
  have hnc : noCels (b :: M2).length l = true := by
    have := noCels_mem.mp hds (.lst l) (by simp)
    simpa [noCel] using this
  walk_at "go"
  refine len_use (view_at last1) ?_
  walk_at "go"
  refine lcL_inv (fun i acc M => ∃ (left : List D) (b' : D), M = b' :: (M2 ++ [.lst left]) ∧ (acc ++ left).Perm l ∧ acc.length = i ∧ PenOk (n + i) b') (by simp only [rangeD, List.length_map, List.length_range]; rw [line16]; omega) ⟨l, b, rfl, List.Perm.refl _, rfl, by simpa using hb⟩ ?_ ?_
  · rintro i d acc M A C hd ⟨left, b', rfl, hp, hac, hb'⟩ hA hC
    obtain ⟨hi, rfl⟩ := range_get hd
    have hpl := hp.length_eq
    rw [List.length_append] at hpl
    simp only [Int.toNat_natCast] at hi
    walk_at "go"
    · exact ⟨by rw [List.length_cons, view_at last1]; rfl⟩
    · refine len_use (view_at last1) ?_
      walk_at "go"
      refine use_law_draw hb' (by omega) (by omega) (by omega) fun dr b2 hd0 hd1 hb2 => ?_
      walk_at "go"
      refine pop_use last1 hd0 hd1 (by omega) fun d hdd => ?_
      rw [List.length_cons, set1L]
      refine hA _ _ ⟨_, _, rfl, ?_, by rw [List.length_append, hac]; rfl, by rw [show n + ((i + 1 : Nat) : Int) = n + i + 1 by omega]; exact hb2⟩
      have hlt : dr.toNat < left.length := by omega
      rw [List.getElem?_eq_getElem hlt] at hdd
      cases hdd
      rw [List.append_assoc]
      exact (List.Perm.append_left acc (erase_perm left dr.toNat hlt).symm).trans hp
  · rintro acc M hal ⟨left, b', rfl, hp, hac, hb'⟩
    have e : (rangeD 0 (Int.toNat ↑l.length)).length = l.length := by simp [rangeD]
    rw [e] at hac hb'
    have hpl := hp.length_eq
    rw [List.length_append, hac] at hpl
    have : left = [] := List.length_eq_zero_iff.mp (by omega)
    subst this
    rw [List.append_nil] at hp
    walk_at "go"
    have ht : (b' :: (M2 ++ [D.lst []]) : Mt).take (b :: M2).length = b' :: M2 := by simp
    refine .less ?_ ?_ ?_
    · show noCel _ (.lst acc) = true
      unfold noCel
      exact noCels_perm hp hnc
    · rw [ht]
      rw [List.all_cons, Bool.and_eq_true] at hM ⊢
      exact ⟨pen_cell hb' _, hM.2⟩
    · rw [ht]; exact k _ _ hp hb'

/-! _law_names: 0 _law_pen_here, 1 _law_many, 2 _law_letters, 3 _law_size, 4 _law_signs, 5 _law_base, 6 _law_at, 7 _law_found, 8 _law_k, 9 _law_start, 10 _law_hop, 11 _law_word -/
abbrev p_law_names : List Str := ["_law_pen_here", "_law_many"]
/-! ### drawn names -/
abbrev RS5 : List Str := ["to", "if", "tag", "all", "none"]
theorem res_rs : RES = RS5.map V.str := rfl
def al (c : Nat) : Bool := decide (c ∈ LET.cps.toList) || decide (c ∈ DIG.cps.toList)
structure Base (B : Str) (k : Nat) : Prop where
  len : B.length ≤ 7
  al : ∀ c ∈ TL.tl B, al c = true
  at_ : k ≤ B.length
  hd : 0 < k → ∀ c, (TL.tl B).head? = some c → c ∈ LET.cps.toList
def word (B : Str) (k : Nat) (c : Nat) : Str := cutS B none (some (k : Int)) ++ ⟨#[c]⟩ ++ cutS B (some (k : Int)) none
def fin (W : Str) : Str := W ++ mulS "z" (if decide (W ∈ RS5) = true then 1 else 0)
theorem tl_lo {B : Str} {k : Nat} (h : k ≤ B.length) : TL.tl (cutS B none (some (k : Int))) = (TL.tl B).take k := by
  show ((B.cps.toList.drop (HT.sIx B.length 0 none)).take (HT.sIx B.length B.length (some (k : Int)) - HT.sIx B.length 0 none)).toArray.toList = _
  rw [HT.sIx_none, HT.sIx_nat, Nat.min_eq_left h, List.drop_zero, Nat.sub_zero]
theorem tl_hi {B : Str} {k : Nat} (h : k ≤ B.length) : TL.tl (cutS B (some (k : Int)) none) = (TL.tl B).drop k := by
  show ((B.cps.toList.drop (HT.sIx B.length 0 (some (k : Int)))).take (HT.sIx B.length B.length none - HT.sIx B.length 0 (some (k : Int)))).toArray.toList = _
  rw [HT.sIx_none, HT.sIx_nat, Nat.min_eq_left h]
  have e : B.cps.toList.length = B.length := by rw [Array.length_toList]; rfl
  rw [List.take_of_length_le (by rw [List.length_drop]; omega)]
theorem tl_word {B : Str} {k c : Nat} (h : k ≤ B.length) : TL.tl (word B k c) = (TL.tl B).take k ++ c :: (TL.tl B).drop k := by
  unfold word
  rw [TL.tl_append, TL.tl_append, tl_lo h, tl_hi h, List.append_assoc]; rfl
theorem mul0 : mulS "z" 0 = Str.empty := by decide +kernel
theorem mul1 : mulS "z" 1 = "z" := by decide +kernel
theorem mul_ok (b : Bool) : MulOk "z" (if b = true then 1 else 0) := by
  cases b
  · exact ⟨by decide, fun h => absurd (by decide) h, fun h => absurd (by decide) h⟩
  · exact ⟨by decide, fun _ h => (by simp at h), fun _ h => (by simp at h)⟩
theorem fin_in {W : Str} (h : W ∈ RS5) : fin W = W ++ "z" := by unfold fin; rw [decide_eq_true h, if_pos rfl, mul1]
theorem fin_out {W : Str} (h : ¬ W ∈ RS5) : fin W = W := by
  unfold fin
  rw [decide_eq_false h, if_neg Bool.false_ne_true, mul0]
  exact TL.ext_tl (by rw [TL.tl_append]; show TL.tl W ++ [] = _; rw [List.append_nil])
theorem word_len {B : Str} {k c : Nat} (h : k ≤ B.length) : (word B k c).length = B.length + 1 := by
  rw [TL.len_tl, tl_word h, List.length_append, List.length_cons, List.length_take, List.length_drop, ← TL.len_tl]
  omega
theorem rs_z : ∀ r ∈ RS5, nmV (r ++ "z") = true := by decide +kernel
theorem word_nm {B : Str} {k c : Nat} (h : Base B k) (hc : c ∈ LET.cps.toList) (hr : ¬ word B k c ∈ RS5) : nmV (word B k c) = true := by
  have e := tl_word (c := c) h.at_
  have hl := word_len (c := c) h.at_
  have h7 := h.len
  have h1 : decide (1 ≤ ((word B k c).length : Int)) = true := decide_eq_true (by omega)
  have h2 : decide (((word B k c).length : Int) ≤ 8) = true := decide_eq_true (by omega)
  have h3 : inV (.str (word B k c)) RES = false := by rw [res_rs, inV_strs]; exact decide_eq_false hr
  have h4 : (word B k c).cps.toList.all (fun c => decide (c ∈ LET.cps.toList) || decide (c ∈ DIG.cps.toList)) = true := by
    refine List.all_eq_true.mpr fun d hd => ?_
    have hd : d ∈ TL.tl (word B k c) := hd
    rw [e] at hd
    rcases List.mem_append.mp hd with hd | hd
    · exact h.al d (List.mem_of_mem_take hd)
    · rcases List.mem_cons.mp hd with rfl | hd
      · rw [decide_eq_true hc]; rfl
      · exact h.al d (List.mem_of_mem_drop hd)
  have h5 : (match (word B k c).cps.toList with
    | c :: _ => decide (c ∈ LET.cps.toList)
    | [] => false) = true := by
    have e' : (word B k c).cps.toList = (TL.tl B).take k ++ c :: (TL.tl B).drop k := e
    rw [e']
    cases k with
    | zero => rw [List.take_zero, List.nil_append]; exact decide_eq_true hc
    | succ j =>
      have hat := h.at_
      rw [TL.len_tl] at hat
      obtain ⟨x, r, eB⟩ : ∃ x r, TL.tl B = x :: r := by
        cases hq : TL.tl B with
        | nil => rw [hq] at hat; simp at hat
        | cons x r => exact ⟨x, r, rfl⟩
      rw [eB, List.take_succ_cons, List.cons_append]
      exact decide_eq_true (h.hd (Nat.succ_pos _) x (by rw [eB]; rfl))
  unfold nmV
  simp only [Bool.and_eq_true]
  exact ⟨⟨⟨⟨h1, h2⟩, by rw [h3]; rfl⟩, h5⟩, h4⟩
theorem fin_nm {B : Str} {k c : Nat} (h : Base B k) (hc : c ∈ LET.cps.toList) : nmV (fin (word B k c)) = true := by
  by_cases hr : word B k c ∈ RS5
  · rw [fin_in hr]; exact rs_z _ hr
  · rw [fin_out hr]; exact word_nm h hc hr
theorem word_inj {B : Str} {k c d : Nat} (h : k ≤ B.length) (e : word B k c = word B k d) : c = d := by
  have e2 : TL.tl (word B k c) = TL.tl (word B k d) := by rw [e]
  rw [tl_word h, tl_word h] at e2
  have := List.append_cancel_left e2
  exact (List.cons.inj this).1
theorem fin_inj {B : Str} {k c d : Nat} (h : k ≤ B.length) (e : fin (word B k c) = fin (word B k d)) : c = d := by
  have lc := word_len (c := c) h
  have ld := word_len (c := d) h
  have lz : (Str.ofString "z").length = 1 := by decide +kernel
  by_cases h1 : word B k c ∈ RS5 <;> by_cases h2 : word B k d ∈ RS5
  · rw [fin_in h1, fin_in h2] at e
    have e2 : TL.tl (word B k c ++ "z") = TL.tl (word B k d ++ "z") := by rw [e]
    rw [TL.tl_append, TL.tl_append] at e2
    exact word_inj h (TL.ext_tl (List.append_cancel_right e2))
  · rw [fin_in h1, fin_out h2] at e
    have := congrArg Str.length e
    rw [len_app, lc, ld, lz] at this
    omega
  · rw [fin_out h1, fin_in h2] at e
    have := congrArg Str.length e
    rw [len_app, lc, ld, lz] at this
    omega
  · rw [fin_out h1, fin_out h2] at e
    exact word_inj h e
theorem let26 : LET.cps.toList.length = 26 := by decide +kernel
theorem let_nd : LET.cps.toList.Nodup := by decide +kernel
def chr (st hp : Int) (i : Nat) : Nat := LET.cps.toList.getD ((st + hp * (i : Int)) % 26).toNat 0
theorem chr_ix (st hp : Int) (i : Nat) : ((st + hp * (i : Int)) % 26).toNat < 26 := by
  have := Int.emod_lt_of_pos (st + hp * (i : Int)) (show (0 : Int) < 26 by decide)
  omega
theorem chr_mem (st hp : Int) (i : Nat) : chr st hp i ∈ LET.cps.toList := by
  unfold chr
  have h := chr_ix st hp i
  rw [List.getD_eq_getElem?_getD, List.getElem?_eq_getElem (by rw [let26]; exact h)]
  exact List.getElem_mem _
theorem chr_at (st hp : Int) (i : Nat) : L2.atI LET.cps.toList ((st + hp * (i : Int)) % 26) = some (chr st hp i) := by
  have h0 := Int.emod_nonneg (st + hp * (i : Int)) (show (26 : Int) ≠ 0 by decide)
  have h := chr_ix st hp i
  rw [atI_in h0 (by rw [let26]; omega)]
  unfold chr
  rw [List.getD_eq_getElem?_getD, List.getElem?_eq_getElem (by rw [let26]; exact h)]; rfl
abbrev HOPS : List Int := [1, 3, 5, 7, 9, 11, 15, 17, 19, 21, 23, 25]
theorem chr_inj {st hp : Int} (hh : hp ∈ HOPS) {i j : Nat} (hi : i < 26) (hj : j < 26) (e : chr st hp i = chr st hp j) : i = j := by
  have h1 := chr_ix st hp i
  have h2 := chr_ix st hp j
  unfold chr at e
  rw [List.getD_eq_getElem?_getD, List.getD_eq_getElem?_getD, List.getElem?_eq_getElem (by rw [let26]; exact h1), List.getElem?_eq_getElem (by rw [let26]; exact h2), Option.getD_some, Option.getD_some] at e
  have e2 := (List.getElem_inj let_nd).mp e
  have n1 := Int.emod_nonneg (st + hp * (i : Int)) (show (26 : Int) ≠ 0 by decide)
  have n2 := Int.emod_nonneg (st + hp * (j : Int)) (show (26 : Int) ≠ 0 by decide)
  have e3 : (st + hp * (i : Int)) % 26 = (st + hp * (j : Int)) % 26 := by omega
  simp only [List.mem_cons, List.not_mem_nil, or_false] at hh
  rcases hh with rfl | rfl | rfl | rfl | rfl | rfl | rfl | rfl | rfl | rfl | rfl | rfl <;> omega
structure Words (ws : List Str) : Prop where
  nd : ws.Nodup
  nm : ∀ w ∈ ws, nmV w = true
theorem words_of {B : Str} {k : Nat} {st hp : Int} (h : Base B k) (hh : hp ∈ HOPS) {m : Nat} (hm : m ≤ 26) : Words ((List.range m).map fun i => fin (word B k (chr st hp i))) := by
  refine ⟨?_, fun w hw => ?_⟩
  · exact List.pairwise_map.mpr (List.Pairwise.imp_of_mem (fun {i j} hi hj hne e => hne (chr_inj hh (by have := List.mem_range.mp hi; omega) (by have := List.mem_range.mp hj; omega) (fin_inj h.at_ e))) List.nodup_range)
  · obtain ⟨i, _, rfl⟩ := List.mem_map.mp hw
    exact fin_nm h (chr_mem _ _ _)
theorem al_ok : (LET.cps.toList ++ DIG.cps.toList).all (fun c => decide (c < 1114112)) = true := by decide +kernel
theorem al_lt {c : Nat} (h : al c = true) : c < 1114112 := by
  unfold al at h
  rw [Bool.or_eq_true, decide_eq_true_eq, decide_eq_true_eq] at h
  exact of_decide_eq_true (List.all_eq_true.mp al_ok c (List.mem_append.mpr h))
theorem nm_sok {s : Str} (h : nmV s = true) : PyData.strOk s = true := by
  have h2 : s.cps.toList.all (fun c => decide (c ∈ LET.cps.toList) || decide (c ∈ DIG.cps.toList)) = true := by
    unfold nmV at h
    rw [Bool.and_eq_true] at h
    exact h.2
  unfold PyData.strOk
  rw [← Array.all_toList]
  exact List.all_eq_true.mpr fun c hc => decide_eq_true (al_lt (List.all_eq_true.mp h2 c hc))
theorem base_pick {ys : List Nat} (h7 : ys.length ≤ 7) (h : ∀ c ∈ ys, al c = true) {d : D} (hd : d ∈ [D.str ⟨ys.toArray⟩, .str ⟨ys.toArray⟩, .str ⟨ys.toArray⟩, .str "o", .str "ag", .str "nne"]) : ∃ B : Str, d = .str B ∧ B.length ≤ 7 ∧ ∀ c ∈ TL.tl B, al c = true := by
  have h1 : ∃ B : Str, D.str ⟨ys.toArray⟩ = .str B ∧ B.length ≤ 7 ∧ ∀ c ∈ TL.tl B, al c = true := ⟨_, rfl, by show ys.toArray.size ≤ 7; simpa using h7, fun c hc => h c hc⟩
  simp only [List.mem_cons, List.not_mem_nil, or_false] at hd
  rcases hd with rfl | rfl | rfl | rfl | rfl | rfl
  · exact h1
  · exact h1
  · exact h1
  · exact ⟨_, rfl, by decide +kernel, by decide +kernel⟩
  · exact ⟨_, rfl, by decide +kernel, by decide +kernel⟩
  · exact ⟨_, rfl, by decide +kernel, by decide +kernel⟩
theorem joinL_nil : ∀ l : List (List Nat), TL.joinL [] l = l.flatten
  | [] => rfl
  | [p] => by simp [TL.joinL]
  | p :: q :: r => by
    have := joinL_nil (q :: r)
    show p ++ ([] ++ TL.joinL [] (q :: r)) = _
    rw [this]; simp
theorem join_one (cs : List Nat) : Txt.join "" (cs.map fun c => (⟨#[c]⟩ : Str)) = ⟨cs.toArray⟩ := by
  refine TL.ext_tl ?_
  rw [TL.join_eq, TL.tl_join]
  have e : TL.tl ("" : Str) = [] := by decide +kernel
  rw [e, joinL_nil, List.map_map]
  show (cs.map fun c => [c]).flatten = cs
  induction cs with
  | nil => rfl
  | cons c r ih => rw [List.map_cons, List.flatten_cons, ih]; rfl
theorem ones_len : ∀ cs : List Nat, ((cs.map fun c => (⟨#[c]⟩ : Str)).map (·.length)).sum + (cs.map fun c => (⟨#[c]⟩ : Str)).length * 0 = cs.length
  | [] => rfl
  | c :: r => by
    have := ones_len r
    simp only [List.map_cons, List.sum_cons, List.length_cons] at this ⊢
    have e : (⟨#[c]⟩ : Str).length = 1 := rfl
    omega
theorem base_new {B : Str} {k c : Nat} (h7 : B.length ≤ 7) (hal : ∀ c ∈ TL.tl B, al c = true) (h1 : 1 ≤ k) (hk : k ≤ B.length) (hc : c ∈ LET.cps.toList) : Base (⟨#[c]⟩ ++ cutS B (some 1) none) k := by
  have e : TL.tl (⟨#[c]⟩ ++ cutS B (some 1) none) = c :: (TL.tl B).drop 1 := by
    rw [TL.tl_append]
    have := tl_hi (B := B) (k := 1) (by omega)
    rw [show ((1 : Nat) : Int) = 1 from rfl] at this
    rw [this]; rfl
  have el : (⟨#[c]⟩ ++ cutS B (some 1) none : Str).length = B.length := by
    rw [TL.len_tl, e, List.length_cons, List.length_drop, ← TL.len_tl]; omega
  refine ⟨by omega, fun d hd => ?_, by omega, fun _ d hd => ?_⟩
  · rw [e] at hd
    rcases List.mem_cons.mp hd with rfl | hd
    · unfold al; rw [decide_eq_true hc]; rfl
    · exact hal d (List.mem_of_mem_drop hd)
  · rw [e] at hd
    cases hd; exact hc
theorem sign_al : ∀ c ∈ (LET ++ DIG).cps.toList, al c = true := by decide +kernel
theorem mul_len (b : Bool) : (mulS "z" (if b = true then 1 else 0)).length ≤ 1 := by cases b <;> decide +kernel
theorem appL {b d : D} {M2 : Mt} {l : List D} {R : D → Mt → Prop} (hl : l.length < sizeLine) (k : R .non (b :: (M2 ++ [.lst (l ++ [d])]))) : mAppend (.cel (M2.length + 1)) [d] (b :: (M2 ++ [.lst l])) R :=
  app_use last1 hl (by rw [set1L]; exact k)
theorem frzL {b : D} {M2 : Mt} {l : List D} {R : D → Mt → Prop} (k : R (.lst l) (b :: (M2 ++ [.non]))) : frz (.cel (M2.length + 1)) (b :: (M2 ++ [.lst l])) R := by
  simp only [frz, last1, set1L]; exact k
theorem noCel_strs (n : Nat) (l : List Str) : noCel n (.lst (l.map D.str)) = true := by
  unfold noCel
  exact noCels_mem.mpr fun d hd => by
    obtain ⟨c, _, rfl⟩ := List.mem_map.mp hd; rfl
@[irreducible] def sp_law_names : DSp := fun ds M R _ => ∃ (m : Nat) (n : Int) (b : D) (M2 : Mt), ds = [.cel 0, .int m] ∧ M = b :: M2 ∧ PenOk n b ∧ n ≤ 999000 ∧ m ≤ 26 ∧
  ∀ (ws : List Str) (b' : D), Words ws → ws.length = m → PenOk (n + 20) b' → R (.lst (ws.map D.str)) (b' :: M2)
theorem len_law_names : ∀ ds M R RX, sp_law_names ds M R RX → ds.length = p_law_names.length := by
  unfold sp_law_names; rintro ds M R RX ⟨_, _, _, _, rfl, _⟩; rfl
theorem use_law_names {m : Nat} {n : Int} {b : D} {M2 : Mt} {R RX} (hb : PenOk n b) (hn : n ≤ 999000) (hm : m ≤ 26)
    (k : ∀ (ws : List Str) (b' : D), Words ws → ws.length = m → PenOk (n + 20) b' → R (.lst (ws.map D.str)) (b' :: M2)) : sp_law_names [.cel 0, .int m] (b :: M2) R RX := by
  unfold sp_law_names; exact ⟨m, n, b, M2, rfl, rfl, hb, hn, hm, k⟩
def w_law_names : WS :=
  (wSeq (wAsg (wC (.str "abcdefghijklmnopqrstuvwxyz")) (gN 2))
    (wSeq (wAsg (wCall sp_law_pick [] RX0 (wCons (wVar 0) (wCons (wLst (wCons (wC (.int 0)) (wCons (wC (.int 0)) (wCons (wC (.int 1)) (wCons (wC (.int 2)) (wCons (wC (.int 3)) (wCons (wC (.int 7)) wNil))))))) wNil))) (gN 3))
    (wSeq (wAsg (wOp oAdd (wVar 2) (wC (.str "0123456789"))) (gN 4))
    (wSeq (wAsg (wJoin (wC (.str "")) (wLc (wRng1 (wCons (wVar 3) wNil)) [8] wYes (wCall sp_law_pick [] RX0 (wCons (wVar 0) (wCons (wVar 4) wNil))) [8])) (gN 5))
    (wSeq (wAsg (wCall sp_law_pick [] RX0 (wCons (wVar 0) (wCons (wLst (wCons (wVar 5) (wCons (wVar 5) (wCons (wVar 5) (wCons (wC (.str "o")) (wCons (wC (.str "ag")) (wCons (wC (.str "nne")) wNil))))))) wNil))) (gN 5))
    (wSeq (wAsg (wCall sp_law_draw [] RX0 (wCons (wVar 0) (wCons (wOp oAdd (wCB cLen (wCons (wVar 5) wNil)) (wC (.int 1))) wNil))) (gN 6))
    (wSeq (wIfS (wTest (wOp oGt (wVar 6) (wC (.int 0)))) (wAsg (wOp oAdd (wCall sp_law_pick [] RX0 (wCons (wVar 0) (wCons (wVar 2) wNil))) (wSl (wVar 5) (wP (wC (.int 1))) wNoP)) (gN 5)) wSkip)
    (wSeq (wPar 9 10 (wCons (wCall sp_law_draw [] RX0 (wCons (wVar 0) (wCons (wC (.int 26)) wNil))) (wCons (wCall sp_law_pick [] RX0 (wCons (wVar 0) (wCons (wLst (wCons (wC (.int 1)) (wCons (wC (.int 3)) (wCons (wC (.int 5)) (wCons (wC (.int 7)) (wCons (wC (.int 9)) (wCons (wC (.int 11)) (wCons (wC (.int 15)) (wCons (wC (.int 17)) (wCons (wC (.int 19)) (wCons (wC (.int 21)) (wCons (wC (.int 23)) (wCons (wC (.int 25)) wNil))))))))))))) wNil))) wNil)))
    (wSeq (wAsg (wLstM wNil) (gN 7))
    (wSeq (wFor (wRng1 (wCons (wVar 1) wNil)) (gN 8) (wSeq (wAsg (wOp oAdd (wOp oAdd (wSl (wVar 5) wNoP (wP (wVar 6))) (wOp oIx (wVar 2) (wOp oMod (wCB cInt (wCons (wOp oAdd (wVar 9) (wOp oMul (wVar 10) (wVar 8))) wNil)) (wC (.int 26))))) (wSl (wVar 5) (wP (wVar 6)) wNoP)) (gN 11))
    (wExp (wBM "list" mAppend (wVar 7) (wCons (wOp oAdd (wVar 11) (wOp oMul (wC (.str "z")) (wCB cInt (wCons (wOp (oIn false) (wVar 11) (wLst (wCons (wC (.str "to")) (wCons (wC (.str "if")) (wCons (wC (.str "tag")) (wCons (wC (.str "all")) (wCons (wC (.str "none")) wNil))))))) wNil)))) wNil)))))
    (wRetF (wVar 7))))))))))))
theorem wp_law_names : ∀ ds M R RX, sp_law_names ds M R RX → M.all (cellOk M.length) = true → noCels M.length ds = true → w_law_names (fnEnds M.length R) (startE 12 ds) M := by
  unfold sp_law_names; rintro ds M R RX ⟨m, n, b, M2, rfl, rfl, hb, hn, hm, k⟩ hM hds
  walk_at "go"
  refine use_law_pick hb (by omega) (by decide) (by decide) fun d b1 hd hb1 => ?_
  obtain ⟨sz, rfl, hs0, hs7⟩ : ∃ sz : Nat, d = .int sz ∧ 0 ≤ sz ∧ sz ≤ 7 := by
    simp only [List.mem_cons, List.not_mem_nil, or_false] at hd
    rcases hd with rfl | rfl | rfl | rfl | rfl | rfl
    · exact ⟨0, rfl, by decide, by decide⟩
    · exact ⟨0, rfl, by decide, by decide⟩
    · exact ⟨1, rfl, by decide, by decide⟩
    · exact ⟨2, rfl, by decide, by decide⟩
    · exact ⟨3, rfl, by decide, by decide⟩
    · exact ⟨7, rfl, by decide, by decide⟩
  walk_at "go"
  refine lcL_inv (fun i acc M => ∃ (cs : List Nat) (b' : D), M = b' :: M2 ∧ acc = (cs.map fun c => (⟨#[c]⟩ : Str)).map D.str ∧ cs.length = i ∧ (∀ c ∈ cs, al c = true) ∧ PenOk (n + 1 + i) b') (by simp only [rangeD, List.length_map, List.length_range]; rw [line16]; omega) ⟨[], b1, rfl, rfl, rfl, by simp, by simpa using hb1⟩ ?_ ?_
  · rintro i d acc M A C hd ⟨cs, b', rfl, rfl, hac, hal, hb'⟩ hA hC
    obtain ⟨hi, rfl⟩ := range_get hd
    simp only [Int.toNat_natCast] at hi
    walk_at "go"
    refine use_law_pickS hb' (by omega) (by decide +kernel) (by decide +kernel) fun c b2 hc hb2 => ?_
    refine hA _ _ ⟨cs ++ [c], b2, rfl, by simp, by simp [hac], fun x hx => ?_, by rw [show n + 1 + ((i + 1 : Nat) : Int) = n + 1 + i + 1 by omega]; exact hb2⟩
    rcases List.mem_append.mp hx with hx | hx
    · exact hal x hx
    · rw [List.mem_singleton.mp hx]; exact sign_al c hc
  · rintro acc M hal ⟨cs, b', rfl, rfl, hac, hal, hb'⟩
    have e : (rangeD 0 (Int.toNat ↑sz)).length = sz := by simp [rangeD]
    rw [e] at hac hb'
    walk_at "go"
    refine join_use rfl (by rw [show (Str.ofString "").length = 0 by decide, ones_len]; omega) ?_
    rw [join_one]
    walk_at "go"
    refine use_law_pick hb' (by omega) (by simp) (by simp) fun d b2 hd hb2 => ?_
    obtain ⟨B, rfl, hB7, hBal⟩ := base_pick (by omega) hal hd
    clear hd
    walk_at "go"
    refine len_str rfl (by rw [line16]; omega) ?_
    walk_at "go"
    refine use_law_draw hb2 (by omega) (by omega) (by omega) fun at_ b3 ha0 ha1 hb3 => ?_
    obtain ⟨k_, rfl⟩ : ∃ k_ : Nat, at_ = k_ := ⟨at_.toNat, by omega⟩
    walk_at "go"
    · rename_i hk
      refine use_law_pickS hb3 (by omega) (by decide) (by decide) fun c b4 hc hb4 => ?_
      have hbase : Base (⟨#[c]⟩ ++ cutS B (some 1) none) k_ := base_new hB7 hBal (by omega) (by omega) hc
      walk_at "go"
      · exact ⟨by have := hbase.len; rw [len_app] at this; rw [line16]; omega⟩
      replace hb4 : PenOk (n + 11) b4 := hb4.mono (by omega)
      generalize (⟨#[c]⟩ ++ cutS B (some 1) none : Str) = B' at hbase ⊢
      refine use_law_draw hb4 (by omega) (by decide) (by decide) fun st b5 hs0 hs1 hb5 => ?_
      walk_at "go"
      refine use_law_pick hb5 (by omega) (by simp) (by simp) fun d b6 hd hb6 => ?_
      obtain ⟨hp, hhp, rfl⟩ := List.mem_map.mp (show d ∈ HOPS.map D.int from hd)
      clear hd
      walk_at "go"
      refine forL_inv (fun i env M => ∃ (e8 e11 : Option D), env = [some (.cel 0), some (.int m), some (.str "abcdefghijklmnopqrstuvwxyz"), some (.int sz), some (.str ("abcdefghijklmnopqrstuvwxyz" ++ "0123456789")), some (.str B'), some (.int k_), some (.cel (M2.length + 1)), e8, some (.int st), some (.int hp), e11] ∧ M = b6 :: (M2 ++ [.lst (((List.range i).map fun k => fin (word B' k_ (chr st hp k))).map D.str)])) ⟨none, none, rfl, rfl⟩ ?_ ?_
      · rintro i d env M hd ⟨e8, e11, rfl, rfl⟩
        obtain ⟨hi, rfl⟩ := range_get hd
        clear hd
        walk_at "go"
        · exact ⟨by have := hbase.len; rw [line16]; omega⟩
        have ec : L2.atI (Str.ofString "abcdefghijklmnopqrstuvwxyz").cps.toList ((st + hp * (0 + (i : Int))) % 26) = some (chr st hp i) := by rw [Int.zero_add]; exact chr_at st hp i
        rw [ec]
        have hwl := word_len (c := chr st hp i) hbase.at_
        have hB7 := hbase.len
        have hwl2 := hwl
        unfold word at hwl2
        rw [len_app] at hwl2
        have hwl3 := hwl2
        rw [len_app] at hwl3
        walk_at "go"
        · exact ⟨by rw [view_at last1]; rfl⟩
        rw [show cutS B' none (some (k_ : Int)) ++ (⟨#[chr st hp i]⟩ : Str) ++ cutS B' (some (k_ : Int)) none = word B' k_ (chr st hp i) from rfl]
        refine in_use (ns := RS5) (.inl rfl) ?_
        walk_at "go"
        · exact ⟨mul_ok _⟩
        · refine ⟨?_⟩
          exact Nat.le_trans (Nat.add_le_add_left (mul_len (decide (word B' k_ (chr st hp i) ∈ RS5))) _) (by rw [line16, hwl]; omega)
        · refine appL (by rw [List.length_map, List.length_map, List.length_range, line16]; omega) ?_
          refine ⟨_, _, rfl, ?_⟩
          rw [List.range_succ, List.map_append, List.map_append]; rfl
      · rintro env M ⟨e8, e11, rfl, rfl⟩
        walk_at "go"
        refine frzL ?_
        walk_at "go"
        have e : (rangeD 0 (Int.toNat ↑m)).length = m := by simp [rangeD]
        rw [e]
        have ht : (b6 :: (M2 ++ [D.non]) : Mt).take (b :: M2).length = b6 :: M2 := by simp
        refine .less ?_ ?_ ?_
        · exact noCel_strs _ _
        · rw [ht]
          rw [List.all_cons, Bool.and_eq_true] at hM ⊢
          exact ⟨pen_cell hb6 _, hM.2⟩
        · rw [ht]
          exact k _ _ (words_of hbase hhp hm) (by simp) (hb6.mono (by omega))
    · rename_i hk
      have hbase : Base B k_ := ⟨hB7, hBal, by omega, fun h => absurd h (by omega)⟩
      have hb4 : PenOk (n + 11) b3 := hb3.mono (by omega)
      generalize b3 = b4 at hb4 ⊢
      generalize B = B' at hbase ⊢
      refine use_law_draw hb4 (by omega) (by decide) (by decide) fun st b5 hs0 hs1 hb5 => ?_
      walk_at "go"
      refine use_law_pick hb5 (by omega) (by simp) (by simp) fun d b6 hd hb6 => ?_
      obtain ⟨hp, hhp, rfl⟩ := List.mem_map.mp (show d ∈ HOPS.map D.int from hd)
      clear hd
      walk_at "go"
      refine forL_inv (fun i env M => ∃ (e8 e11 : Option D), env = [some (.cel 0), some (.int m), some (.str "abcdefghijklmnopqrstuvwxyz"), some (.int sz), some (.str ("abcdefghijklmnopqrstuvwxyz" ++ "0123456789")), some (.str B'), some (.int k_), some (.cel (M2.length + 1)), e8, some (.int st), some (.int hp), e11] ∧ M = b6 :: (M2 ++ [.lst (((List.range i).map fun k => fin (word B' k_ (chr st hp k))).map D.str)])) ⟨none, none, rfl, rfl⟩ ?_ ?_
      · rintro i d env M hd ⟨e8, e11, rfl, rfl⟩
        obtain ⟨hi, rfl⟩ := range_get hd
        clear hd
        walk_at "go"
        · exact ⟨by have := hbase.len; rw [line16]; omega⟩
        have ec : L2.atI (Str.ofString "abcdefghijklmnopqrstuvwxyz").cps.toList ((st + hp * (0 + (i : Int))) % 26) = some (chr st hp i) := by rw [Int.zero_add]; exact chr_at st hp i
        rw [ec]
        have hwl := word_len (c := chr st hp i) hbase.at_
        have hB7 := hbase.len
        have hwl2 := hwl
        unfold word at hwl2
        rw [len_app] at hwl2
        have hwl3 := hwl2
        rw [len_app] at hwl3
        walk_at "go"
        · exact ⟨by rw [view_at last1]; rfl⟩
        rw [show cutS B' none (some (k_ : Int)) ++ (⟨#[chr st hp i]⟩ : Str) ++ cutS B' (some (k_ : Int)) none = word B' k_ (chr st hp i) from rfl]
        refine in_use (ns := RS5) (.inl rfl) ?_
        walk_at "go"
        · exact ⟨mul_ok _⟩
        · refine ⟨?_⟩
          exact Nat.le_trans (Nat.add_le_add_left (mul_len (decide (word B' k_ (chr st hp i) ∈ RS5))) _) (by rw [line16, hwl]; omega)
        · refine appL (by rw [List.length_map, List.length_map, List.length_range, line16]; omega) ?_
          refine ⟨_, _, rfl, ?_⟩
          rw [List.range_succ, List.map_append, List.map_append]; rfl
      · rintro env M ⟨e8, e11, rfl, rfl⟩
        walk_at "go"
        refine frzL ?_
        walk_at "go"
        have e : (rangeD 0 (Int.toNat ↑m)).length = m := by simp [rangeD]
        rw [e]
        have ht : (b6 :: (M2 ++ [D.non]) : Mt).take (b :: M2).length = b6 :: M2 := by simp
        refine .less ?_ ?_ ?_
        · exact noCel_strs _ _
        · rw [ht]
          rw [List.all_cons, Bool.and_eq_true] at hM ⊢
          exact ⟨pen_cell hb6 _, hM.2⟩
        · rw [ht]
          exact k _ _ (words_of hbase hhp hm) (by simp) (hb6.mono (by omega))

/-! _law_kind: 0 _law_pen_here, 1 _law_title, 2 _law_given, 3 _law_wide, 4 _law_sort, 5 _law_some, 6 _law_lowest, 7 _law_sign, 8 _law_one, 9 _law_shares, 10 _law_at, 11 _law_word -/
abbrev p_law_kind : List Str := ["_law_pen_here", "_law_title", "_law_given", "_law_wide"]
/-! ### a kind as it is drawn -/
def unS : D → Str
  | .str s => s
  | _ => default
theorem flatDs_ints : ∀ ns : List Int, flatDs (ns.map D.int) = some (ns.map V.int)
  | [] => rfl
  | a :: r => by simp only [List.map_cons, flatDs, flatD, flatDs_ints r]
theorem inV_ints (s : Int) : ∀ ns : List Int, inV (.int s) (ns.map V.int) = decide (s ∈ ns)
  | [] => rfl
  | a :: r => by
    have ih := inV_ints s r
    have e : inV (.int s) ((a :: r).map V.int) = ((a == s) || inV (.int s) (r.map V.int)) := rfl
    rw [e, ih]
    by_cases h : a = s
    · subst h; simp
    · have : (a == s) = false := by simpa using h
      rw [this]; simp [Ne.symm h]
theorem in_ints {s : Int} {ns : List Int} {neg : Bool} {x : D} {M : Mt} {R : D → Mt → Prop} (h : viewD M x = .lst (ns.map D.int) ∨ viewD M x = .tup (ns.map D.int)) (k : R (.bl (if neg then !decide (s ∈ ns) else decide (s ∈ ns))) M) : oIn neg (.int s) x M R := by
  rcases h with h | h <;> simp only [oIn, h, seqD, flatD, flatDs_ints, inV_ints] <;> exact k
def winL : Nat → List Str → ML
  | _, [] => []
  | lo, c :: r => (c, 2 ^ lo) :: winL (lo + 1) r
theorem winL_snoc : ∀ (cs : List Str) (lo : Nat) (x : Str), winL lo (cs ++ [x]) = winL lo cs ++ [(x, 2 ^ (lo + cs.length))]
  | [], lo, x => rfl
  | c :: r, lo, x => by
    have ih := winL_snoc r (lo + 1) x
    show (c, 2 ^ lo) :: winL (lo + 1) (r ++ [x]) = (c, 2 ^ lo) :: winL (lo + 1) r ++ _
    rw [ih, List.length_cons, show lo + 1 + r.length = lo + (r.length + 1) by omega]; rfl
theorem winL_keys : ∀ (cs : List Str) (lo : Nat), (winL lo cs).map (·.1) = cs
  | [], _ => rfl
  | c :: r, lo => by
    show c :: (winL (lo + 1) r).map (·.1) = _
    rw [winL_keys r]
theorem winL_lt : ∀ (cs : List Str) (lo : Nat), lo + cs.length ≤ 8 → ∀ p ∈ winL lo cs, p.2 < 256
  | [], _, _, p, h => by cases h
  | c :: r, lo, hl, p, h => by
    rw [List.length_cons] at hl
    rcases List.mem_cons.mp h with rfl | h
    · exact two_lt (by omega)
    · exact winL_lt r (lo + 1) (by omega) p h
theorem getN_win : ∀ (cs : List Str) (lo : Nat) (w : Str), getN (winL lo cs) w = winS lo cs w
  | [], _, _ => rfl
  | c :: r, lo, w => by
    show getN ((c, 2 ^ lo) :: winL (lo + 1) r) w = if c = w then 2 ^ lo else winS (lo + 1) r w
    rw [getN_cons, getN_win r]
    by_cases h : w = c
    · rw [if_pos h, if_pos h.symm]
    · rw [if_neg h, if_neg (Ne.symm h)]
theorem getN_any (b : Nat) (w : Str) : ∀ cs : List Str, getN (cs.map fun c => (c, 2 ^ b)) w = anyS b cs w
  | [] => rfl
  | c :: r => by
    have ih := getN_any b w r
    rw [List.map_cons, getN_cons, ih]
    unfold anyS
    by_cases h : w = c
    · rw [if_pos h, if_pos (by rw [h]; exact List.mem_cons_self)]
    · rw [if_neg h]
      by_cases h2 : w ∈ r
      · rw [if_pos h2, if_pos (List.mem_cons_of_mem _ h2)]
      · rw [if_neg h2, if_neg (fun h3 => (List.mem_cons.mp h3).elim h h2)]
theorem foldl_or (f : Str → Nat) : ∀ (l : List Str) (a : Nat), l.foldl (fun a w => a ||| f w) a = a ||| orL f l
  | [], a => by unfold orL; exact (Nat.or_zero a).symm
  | w :: r, a => by
    unfold orL
    rw [List.foldl_cons, List.foldl_cons, foldl_or f r, foldl_or f r, Nat.zero_or, Nat.or_assoc]
theorem orL_cons (f : Str → Nat) (w : Str) (r : List Str) : orL f (w :: r) = f w ||| orL f r := by
  show r.foldl _ (0 ||| f w) = _
  rw [foldl_or, Nat.zero_or]
theorem orL_mem (f : Str → Nat) {w : Str} : ∀ {l : List Str}, w ∈ l → orL f l ||| f w = orL f l
  | c :: r, h => by
    rw [orL_cons]
    rcases List.mem_cons.mp h with rfl | h
    · rw [Nat.or_comm, ← Nat.or_assoc, Nat.or_self]
    · rw [Nat.or_assoc, orL_mem f h]
structure Acc (wd s low bit : Nat) (cs : List Str) (ms : ML) : Prop where
  h24 : s = 2 ∨ s = 4 → ms = winL low cs
  h3 : s = 3 → ms = cs.map fun c => (c, 2 ^ bit)
  h5 : s = 5 → ms.map (·.1) = cs ∧ ∀ p ∈ ms, p.2 < 2 ^ wd
  h01 : s = 0 ∨ s = 1 → ms = []
structure Drawn (k : Kn) (ms : ML) : Prop where
  ok : k.Ok
  sg : ∀ w, k.sg w = getN ms w
  may : orL (getN ms) k.may = orL (getN ms) (ms.map (·.1))
  mo : MLOk ms
def mkOf (s : Nat) (nm one : Str) (bit low : Nat) (cs : List Str) (ms : ML) : Kn :=
  if s = 0 then .kind nm else if s = 1 then .test nm one bit else if s = 2 then .win nm low cs else if s = 3 then .any nm bit cs else if s = 4 then .tw nm one bit low cs else .msk nm ms
def lastL (s bit : Nat) (one : Str) (ms : ML) : ML := if s = 1 ∨ s = 4 then putL ms one (getN ms one ||| 2 ^ bit) else ms
theorem mem_key {ms : ML} {p : Str × Nat} {cs : List Str} (h : ms.map (·.1) = cs) (hp : p ∈ ms) : p.1 ∈ cs := by
  rw [← h]; exact List.mem_map_of_mem hp
theorem mlok_of {ms : ML} {cs : List Str} (h : ms.map (·.1) = cs) (hc : Conds cs) (hl : ∀ p ∈ ms, p.2 < 256) : MLOk ms :=
  ⟨by rw [h]; exact hc.nd, fun p hp => hc.nm _ (mem_key h hp), hl, by have := hc.l5; rw [← h, List.length_map] at this; omega⟩
theorem drawn_of {wd s low bit : Nat} {nm one : Str} {cs : List Str} {ms : ML} (hwd : wd ≤ 8) (hs : s < 6) (hn : nmV nm = true) (ho : nmV one = true) (hc : Conds cs) (hb : bit ≤ 7) (hl : low + cs.length ≤ 8) (a : Acc wd s low bit cs ms) :
    Drawn (mkOf s nm one bit low cs (lastL s bit one ms)) (lastL s bit one ms) := by
  have h5 := hc.l5
  rcases (by omega : s = 0 ∨ s = 1 ∨ s = 2 ∨ s = 3 ∨ s = 4 ∨ s = 5) with rfl | rfl | rfl | rfl | rfl | rfl
  · have e := a.h01 (.inl rfl)
    subst e
    exact ⟨hn, fun _ => rfl, rfl, ⟨List.nodup_nil, by simp [lastL], by simp [lastL], by simp [lastL]⟩⟩
  · have e := a.h01 (.inr rfl)
    subst e
    have e2 : lastL 1 bit one [] = [(one, 2 ^ bit)] := by
      unfold lastL putL
      rw [if_pos (.inl rfl), if_neg (by simp)]
      show [(one, 0 ||| 2 ^ bit)] = _
      rw [Nat.zero_or]
    rw [e2]
    refine ⟨⟨hn, ho, hb⟩, fun w => ?_, rfl, ⟨by simp, fun p hp => ?_, fun p hp => ?_, by simp⟩⟩
    · show bitS one bit w = _
      rw [getN_cons]; rfl
    · rw [List.mem_singleton.mp hp]; exact ho
    · rw [List.mem_singleton.mp hp]; exact two_lt hb
  · have e := a.h24 (.inl rfl)
    subst e
    have e2 : lastL 2 bit one (winL low cs) = winL low cs := if_neg (by omega)
    rw [e2]
    refine ⟨⟨hn, hc, hl⟩, fun w => (getN_win cs low w).symm, ?_, mlok_of (winL_keys cs low) hc (winL_lt cs low hl)⟩
    rw [winL_keys]; rfl
  · have e := a.h3 rfl
    subst e
    have e2 : lastL 3 bit one (cs.map fun c => (c, 2 ^ bit)) = cs.map fun c => (c, 2 ^ bit) := if_neg (by omega)
    have ek : (cs.map fun c => (c, 2 ^ bit)).map (·.1) = cs := by rw [List.map_map]; exact List.map_id cs
    rw [e2]
    refine ⟨⟨hn, hc, hb⟩, fun w => (getN_any bit w cs).symm, ?_, mlok_of ek hc fun p hp => ?_⟩
    · rw [ek]; rfl
    · obtain ⟨c, _, rfl⟩ := List.mem_map.mp hp
      exact two_lt hb
  · have e := a.h24 (.inr rfl)
    subst e
    have e2 : lastL 4 bit one (winL low cs) = putL (winL low cs) one (winS low cs one ||| 2 ^ bit) := by
      unfold lastL
      rw [if_pos (.inr rfl), getN_win]
    have hsg : ∀ w, winS low cs w ||| bitS one bit w = getN (putL (winL low cs) one (winS low cs one ||| 2 ^ bit)) w := fun w => by
      rw [getN_put, getN_win]
      unfold bitS
      by_cases h : w = one
      · rw [if_pos h, if_pos h, h]
      · rw [if_neg h, if_neg h, Nat.or_zero]
    have hk := putL_keys (winL low cs) one (winS low cs one ||| 2 ^ bit)
    rw [winL_keys] at hk
    rw [e2]
    refine ⟨⟨hn, ho, hb, hc, hl⟩, hsg, ?_, ⟨?_, fun p hp => ?_, fun p hp => ?_, ?_⟩⟩
    · rw [hk]
      show orL _ (cs ++ [one]) = _
      by_cases h : one ∈ cs
      · rw [if_pos h, orL_snoc]; exact orL_mem _ h
      · rw [if_neg h]
    · rw [hk]
      by_cases h : one ∈ cs
      · rw [if_pos h]; exact hc.nd
      · rw [if_neg h, List.nodup_append]
        exact ⟨hc.nd, by simp, fun x hx y hy e => h (by rw [← List.mem_singleton.mp hy, ← e]; exact hx)⟩
    · have := mem_key hk hp
      by_cases h : one ∈ cs
      · rw [if_pos h] at this; exact hc.nm _ this
      · rw [if_neg h] at this
        rcases List.mem_append.mp this with h2 | h2
        · exact hc.nm _ h2
        · rw [List.mem_singleton.mp h2]; exact ho
    · have hb := or_lt (winS_lt cs low one hl) (two_lt hb)
      have hw := winL_lt cs low hl
      unfold putL at hp
      split at hp
      · obtain ⟨q, hq, rfl⟩ := List.mem_map.mp hp
        split
        · exact hb
        · exact hw q hq
      · rcases List.mem_append.mp hp with h2 | h2
        · exact hw p h2
        · rw [List.mem_singleton.mp h2]; exact hb
    · have : ((putL (winL low cs) one (winS low cs one ||| 2 ^ bit)).map (·.1)).length ≤ cs.length + 1 := by
        rw [hk]; split
        · omega
        · rw [List.length_append]; simp
      rw [List.length_map] at this; omega
  · obtain ⟨ek, hlt⟩ := a.h5 rfl
    have hlt : ∀ p ∈ ms, p.2 < 256 := fun p hp => Nat.lt_of_lt_of_le (hlt p hp) (Nat.pow_le_pow_right (n := 2) (by decide) hwd)
    have e2 : lastL 5 bit one ms = ms := if_neg (by omega)
    rw [e2]
    have mo := mlok_of ek hc hlt
    exact ⟨⟨hn, mo, by rw [← ek, List.length_map] at h5; omega⟩, fun _ => rfl, rfl, mo⟩
theorem winL_ltw : ∀ (wd : Nat) (cs : List Str) (lo : Nat), lo + cs.length ≤ wd → ∀ p ∈ winL lo cs, p.2 < 2 ^ wd
  | _, [], _, _, p, h => by cases h
  | wd, c :: r, lo, hl, p, h => by
    rw [List.length_cons] at hl
    rcases List.mem_cons.mp h with rfl | h
    · exact Nat.pow_lt_pow_right (by decide) (by omega)
    · exact winL_ltw wd r (lo + 1) (by omega) p h
theorem winS_ltw : ∀ (wd : Nat) (cs : List Str) (lo : Nat) (w : Str), lo + cs.length ≤ wd → winS lo cs w < 2 ^ wd
  | wd, [], _, _, _ => by unfold winS; exact Nat.two_pow_pos wd
  | wd, c :: r, lo, w, h => by
    rw [List.length_cons] at h
    show (if c = w then _ else winS (lo + 1) r w) < 2 ^ wd
    split
    · exact Nat.pow_lt_pow_right (by decide) (by omega)
    · exact winS_ltw wd r _ w (by omega)
theorem vals_of {wd s low bit : Nat} {one : Str} {cs : List Str} {ms : ML} (hs : s < 6) (hb : bit < wd) (hl : low + cs.length ≤ wd) (a : Acc wd s low bit cs ms) : ∀ p ∈ lastL s bit one ms, p.2 < 2 ^ wd := by
  have hbit : 2 ^ bit < 2 ^ wd := Nat.pow_lt_pow_right (by decide) hb
  rcases (by omega : s = 0 ∨ s = 1 ∨ s = 2 ∨ s = 3 ∨ s = 4 ∨ s = 5) with rfl | rfl | rfl | rfl | rfl | rfl
  · rw [show lastL 0 bit one ms = ms from if_neg (by omega), a.h01 (.inl rfl)]; simp
  · rw [show lastL 1 bit one ms = putL ms one (getN ms one ||| 2 ^ bit) from if_pos (.inl rfl), a.h01 (.inr rfl)]
    intro p hp
    rcases putL_mem hp with rfl | hp
    · show getN [] one ||| 2 ^ bit < _
      rw [show getN [] one = 0 from rfl, Nat.zero_or]; exact hbit
    · cases hp
  · rw [show lastL 2 bit one ms = ms from if_neg (by omega), a.h24 (.inl rfl)]; exact winL_ltw wd cs low hl
  · rw [show lastL 3 bit one ms = ms from if_neg (by omega), a.h3 rfl]
    intro p hp
    obtain ⟨c, _, rfl⟩ := List.mem_map.mp hp
    exact hbit
  · rw [show lastL 4 bit one ms = putL ms one (getN ms one ||| 2 ^ bit) from if_pos (.inr rfl), a.h24 (.inr rfl)]
    intro p hp
    rcases putL_mem hp with rfl | hp
    · show getN (winL low cs) one ||| 2 ^ bit < _
      rw [getN_win]; exact Nat.or_lt_two_pow (winS_ltw wd cs low one hl) hbit
    · exact winL_ltw wd cs low hl p hp
  · rw [show lastL 5 bit one ms = ms from if_neg (by omega)]; exact (a.h5 rfl).2
theorem Acc.none (wd s low bit : Nat) : Acc wd s low bit [] [] := ⟨fun _ => rfl, fun _ => rfl, fun _ => ⟨rfl, by simp⟩, fun _ => rfl⟩
theorem perm_strs {l : List D} {cs : List Str} (h : l.Perm (cs.map D.str)) : ∃ ls : List Str, l = ls.map D.str ∧ ls.Perm cs := by
  have hs : ∀ d ∈ l, ∃ s, d = .str s := fun d hd => by
    obtain ⟨s, _, e⟩ := List.mem_map.mp (h.subset hd)
    exact ⟨s, e.symm⟩
  have e1 : (l.map unS).map D.str = l := by
    rw [List.map_map]
    refine (List.map_congr_left fun d hd => ?_).trans (List.map_id l)
    obtain ⟨s, rfl⟩ := hs d hd
    rfl
  refine ⟨l.map unS, e1.symm, ?_⟩
  have := h.map unS
  rw [List.map_map] at this
  exact this.trans (by rw [show unS ∘ D.str = id from rfl, List.map_id])
theorem conds_take {cs ls : List Str} {k : Nat} (h : Conds cs) (hp : ls.Perm cs) (hk : k + 1 ≤ ls.length) : Conds (ls.take (k + 1)) := by
  have hl := hp.length_eq
  have h5 := h.l5
  refine ⟨List.Nodup.sublist (List.take_sublist _ _) (hp.nodup_iff.mpr h.nd), fun c hc => h.nm c (hp.subset (List.mem_of_mem_take hc)), ?_, ?_⟩
  · rw [List.length_take]; omega
  · rw [List.length_take]; omega
theorem mem24 {s : Nat} : (s : Int) ∈ ([2, 4] : List Int) ↔ s = 2 ∨ s = 4 := by
  simp only [List.mem_cons, List.not_mem_nil, or_false]; omega
theorem mem14 {s : Nat} : (s : Int) ∈ ([1, 4] : List Int) ↔ s = 1 ∨ s = 4 := by
  simp only [List.mem_cons, List.not_mem_nil, or_false]; omega
theorem shl_natw (wd : Nat) : (1 * 2 ^ ((wd : Int)).toNat - 1 : Int) = ((2 ^ wd - 1 : Nat) : Int) := by
  rw [shl_nat]
  have := Nat.two_pow_pos wd
  omega
theorem mask_of {v : Int} {wd bit : Nat} {d : D} (h0 : 0 ≤ v) (h1 : v < 1 * 2 ^ (wd : Int).toNat) (hb : bit < wd) (h : d ∈ [D.int v, .int 0, .int (1 * 2 ^ (wd : Int).toNat - 1), .int (1 * 2 ^ (bit : Int).toNat)]) : ∃ m : Nat, d = nD m ∧ m < 2 ^ wd := by
  have hp := Nat.two_pow_pos wd
  simp only [List.mem_cons, List.not_mem_nil, or_false] at h
  rcases h with rfl | rfl | rfl | rfl
  · rw [shl_nat] at h1
    exact ⟨v.toNat, by unfold nD; rw [Int.toNat_of_nonneg h0], by omega⟩
  · exact ⟨0, rfl, hp⟩
  · exact ⟨2 ^ wd - 1, by rw [shl_natw]; rfl, by omega⟩
  · exact ⟨2 ^ bit, by rw [shl_nat]; rfl, Nat.pow_lt_pow_right (by decide) hb⟩
theorem dput_at {M : Mt} {ks : List (Key × D)} {y d : D} {j : Key} {R : Mt → Prop} {n : Nat} (hn : M[n]? = some (.dct ks)) (hk : keyD y = some j) (hl : ks.length < sizeLine) (k : R (M.set n (.dct (putD ks j d)))) : dput (.cel n) y d M R := by
  unfold dput
  simp only [hn, hk]; exact ⟨⟨hl⟩, k⟩
theorem acc_len {wd s low bit : Nat} {cs : List Str} {ms : ML} (hs : s < 6) (a : Acc wd s low bit cs ms) : ms.length ≤ cs.length := by
  rcases (by omega : (s = 2 ∨ s = 4) ∨ s = 3 ∨ s = 5 ∨ (s = 0 ∨ s = 1)) with h | h | h | h
  · rw [a.h24 h, ← List.length_map (f := (·.1)), winL_keys]; exact Nat.le_refl _
  · rw [a.h3 h, List.length_map]; exact Nat.le_refl _
  · have := congrArg List.length (a.h5 h).1
    rw [List.length_map] at this; omega
  · rw [a.h01 h]; exact Nat.zero_le _
theorem un_env {k : Nat} {a1 a2 a4 a5 : D} {z1 z2 z3 z4 : Int} {w : Str} {e10 e11 : Option D} (h1 : a1 = .str w) {l2 l5 : List D} (h2 : a2 = .lst l2) (h5 : a5 = .lst l5) {w2 : Str} (h4 : a4 = .str w2) (d' : D) :
    ([some (.cel 0), some a1, some a2, some (.int z1), some (.int z2), some a5, some (.int z3), some (.int z4), some a4, some (.cel (k + 1)), e10, e11] : Ev).map (unCel (.cel (k + 1)) d') =
    [some (.cel 0), some a1, some a2, some (.int z1), some (.int z2), some a5, some (.int z3), some (.int z4), some a4, some d', unCel (.cel (k + 1)) d' e10, unCel (.cel (k + 1)) d' e11] := by
  subst h1 h2 h4 h5
  have n1 : ¬ (0 = k + 1) := by omega
  simp only [List.map_cons, List.map_nil, unCel, if_neg n1, if_pos]
theorem acc_keys {wd s low bit : Nat} {cs : List Str} {ms : ML} (hs : s < 6) (a : Acc wd s low bit cs ms) : ∀ w ∈ ms.map (·.1), w ∈ cs := fun w hw => by
  rcases (by omega : (s = 2 ∨ s = 4) ∨ s = 3 ∨ s = 5 ∨ (s = 0 ∨ s = 1)) with h | h | h | h
  · rw [a.h24 h, winL_keys] at hw; exact hw
  · rw [a.h3 h, List.map_map] at hw
    obtain ⟨c, hc, rfl⟩ := List.mem_map.mp hw
    exact hc
  · rw [(a.h5 h).1] at hw; exact hw
  · rw [a.h01 h] at hw; cases hw
theorem last_keys {wd s low bit : Nat} {one : Str} {cs : List Str} {ms : ML} (hs : s < 6) (a : Acc wd s low bit cs ms) : ∀ w ∈ (lastL s bit one ms).map (·.1), w ∈ cs ∨ w = one := fun w hw => by
  unfold lastL at hw
  split at hw
  · rw [putL_keys] at hw
    split at hw
    · exact .inl (acc_keys hs a w hw)
    · rcases List.mem_append.mp hw with h | h
      · exact .inl (acc_keys hs a w h)
      · exact .inr (List.mem_singleton.mp h)
  · exact .inl (acc_keys hs a w hw)
theorem viewK {M : Mt} {i : Nat} {ks : List (Key × D)} (h : M[i]? = some (.dct ks)) : viewD M (.cel i) = .dct ks := by simp only [viewD, h]
def kindL (s : Nat) (nm one : Str) (bit low : Nat) (cs : List Str) (ms : ML) : List D := [nD s, .str nm, .str one, nD bit, nD low, .lst (cs.map D.str), .fdc (mkD ms)]
structure KOk (wd s : Nat) (nm one : Str) (bit low : Nat) (conds cs : List Str) (ms : ML) : Prop where
  s6 : s < 6
  hnm : nmV nm = true
  hone : nmV one = true
  hbit : bit < wd
  hlow : low + cs.length ≤ wd
  hcs : Conds cs
  dr : Drawn (mkOf s nm one bit low cs ms) ms
  lt : ∀ p ∈ ms, p.2 < 2 ^ wd
  sub : ∀ c ∈ cs, c ∈ conds
  one_in : one ∈ conds
  l5 : ms.length ≤ 5
@[irreducible] def sp_law_kind : DSp := fun ds M R _ => ∃ (nm : Str) (conds : List Str) (wd : Nat) (n : Int) (b : D) (M2 : Mt), ds = [.cel 0, .str nm, .lst (conds.map D.str), nD wd] ∧ M = b :: M2 ∧ PenOk n b ∧ n ≤ 900000 ∧ nmV nm = true ∧ Conds conds ∧ 1 ≤ wd ∧ wd ≤ 8 ∧
  ∀ (s : Nat) (one : Str) (bit low : Nat) (cs : List Str) (ms : ML) (b' : D), KOk wd s nm one bit low conds cs ms → PenOk (n + 60) b' → R (.lst (kindL s nm one bit low cs ms)) (b' :: (M2 ++ [.non]))
theorem len_law_kind : ∀ ds M R RX, sp_law_kind ds M R RX → ds.length = p_law_kind.length := by
  unfold sp_law_kind; rintro ds M R RX ⟨_, _, _, _, _, _, rfl, _⟩; rfl
theorem use_law_kind {nm : Str} {conds : List Str} {wd : Nat} {n : Int} {b : D} {M2 : Mt} {R RX} (hb : PenOk n b) (hn : n ≤ 900000) (h1 : nmV nm = true) (h2 : Conds conds) (h3 : 1 ≤ wd) (h4 : wd ≤ 8)
    (k : ∀ (s : Nat) (one : Str) (bit low : Nat) (cs : List Str) (ms : ML) (b' : D), KOk wd s nm one bit low conds cs ms → PenOk (n + 60) b' → R (.lst (kindL s nm one bit low cs ms)) (b' :: (M2 ++ [.non]))) : sp_law_kind [.cel 0, .str nm, .lst (conds.map D.str), nD wd] (b :: M2) R RX := by
  unfold sp_law_kind; exact ⟨nm, conds, wd, n, b, M2, rfl, rfl, hb, hn, h1, h2, h3, h4, k⟩
def w_law_kind : WS :=
  (wSeq (wAsg (wCall sp_law_draw [] RX0 (wCons (wVar 0) (wCons (wC (.int 6)) wNil))) (gN 4))
    (wSeq (wAsg (wSl (wCall sp_law_mixed [] RX0 (wCons (wVar 0) (wCons (wVar 2) wNil))) wNoP (wP (wOp oAdd (wC (.int 1)) (wCall sp_law_draw [] RX0 (wCons (wVar 0) (wCons (wCB cMin2 (wCons (wVar 3) (wCons (wCB cLen (wCons (wVar 2) wNil)) wNil))) wNil)))))) (gN 5))
    (wSeq (wPar 6 7 (wCons (wCall sp_law_draw [] RX0 (wCons (wVar 0) (wCons (wOp oAdd (wOp oSub (wVar 3) (wCB cLen (wCons (wVar 5) wNil))) (wC (.int 1))) wNil))) (wCons (wCall sp_law_draw [] RX0 (wCons (wVar 0) (wCons (wVar 3) wNil))) wNil)))
    (wSeq (wPar 8 9 (wCons (wCall sp_law_pick [] RX0 (wCons (wVar 0) (wCons (wVar 2) wNil))) (wCons (wDict0 true) wNil)))
    (wSeq (wFor (wEnumerate (wCons (wVar 5) wNil)) (gT 2 (gsCons (gN 10) (gsCons (gN 11) gsNil))) (wSeq (wIfS (wTest (wOp (oIn false) (wVar 4) (wTup (wCons (wC (.int 2)) (wCons (wC (.int 4)) wNil))))) (wDPut (wVar 9) (wVar 11) (wOp oShl (wC (.int 1)) (wOp oAdd (wVar 6) (wVar 10)))) wSkip)
    (wSeq (wIfS (wTest (wOp (oEqI fun b => b) (wVar 4) (wC (.int 3)))) (wDPut (wVar 9) (wVar 11) (wOp oShl (wC (.int 1)) (wVar 7))) wSkip)
    (wIfS (wTest (wOp (oEqI fun b => b) (wVar 4) (wC (.int 5)))) (wDPut (wVar 9) (wVar 11) (wCall sp_law_pick [] RX0 (wCons (wVar 0) (wCons (wLst (wCons (wCall sp_law_draw [] RX0 (wCons (wVar 0) (wCons (wOp oShl (wC (.int 1)) (wVar 3)) wNil))) (wCons (wC (.int 0)) (wCons (wOp oSub (wOp oShl (wC (.int 1)) (wVar 3)) (wC (.int 1))) (wCons (wOp oShl (wC (.int 1)) (wVar 7)) wNil))))) wNil)))) wSkip))))
    (wSeq (wIfS (wTest (wOp (oIn false) (wVar 4) (wTup (wCons (wC (.int 1)) (wCons (wC (.int 4)) wNil))))) (wDPut (wVar 9) (wVar 8) (wOp oOr (wGet2 (wVar 9) (wVar 8) (wC (.int 0))) (wOp oShl (wC (.int 1)) (wVar 7)))) wSkip)
    (wLkD 9 (wRet (wLst (wCons (wVar 4) (wCons (wVar 1) (wCons (wVar 8) (wCons (wVar 7) (wCons (wVar 6) (wCons (wVar 5) (wCons (wVar 9) wNil))))))))))))))))
theorem wp_law_kind : ∀ ds M R RX, sp_law_kind ds M R RX → M.all (cellOk M.length) = true → noCels M.length ds = true → w_law_kind (fnEnds M.length R) (startE 12 ds) M := by
  unfold sp_law_kind; rintro ds M R RX ⟨nm, conds, wd, n, b, M2, rfl, rfl, hb, hn, h1, h2, hw1, hw8, k⟩ hM hds
  have hl5 := h2.l5
  have hl1 := h2.l1
  unfold nD
  walk_at "go"
  refine use_law_draw hb (by omega) (by omega) (by omega) fun s_ b hs0 hs1 hb => ?_
  obtain ⟨s, rfl⟩ : ∃ s : Nat, s_ = s := ⟨s_.toNat, by omega⟩
  walk_at "go"
  refine use_law_mixed hb (by omega) (by rw [List.length_map]; omega) fun l' b hp hb => ?_
  obtain ⟨ls, rfl, hq⟩ := perm_strs hp
  rw [List.length_map] at hb
  have hll := hq.length_eq
  walk_at "go"
  refine use_law_draw hb (by omega) (by simp only [List.length_map]; split <;> omega) (by simp only [List.length_map]; split <;> omega) fun d_ b hd0 hd1 hb => ?_
  simp only [List.length_map] at hd1
  obtain ⟨d, rfl⟩ : ∃ d : Nat, d_ = d := ⟨d_.toNat, by omega⟩
  have hdl : d + 1 ≤ conds.length ∧ d + 1 ≤ wd := by split at hd1 <;> omega
  walk_at "go"
  rw [show (1 + (d : Int)) = ((d + 1 : Nat) : Int) by omega, cut_take, ← List.map_take]
  have hc : Conds (ls.take (d + 1)) := conds_take h2 hq (by omega)
  have hsub : ∀ c ∈ ls.take (d + 1), c ∈ conds := fun c hc => hq.subset (List.mem_of_mem_take hc)
  have hclen : (ls.take (d + 1)).length ≤ wd := by rw [List.length_take]; omega
  obtain ⟨cs, hcs⟩ : ∃ cs, ls.take (d + 1) = cs := ⟨_, rfl⟩
  rw [hcs] at hc hsub hclen ⊢
  have hc5 := hc.l5
  have hc1 := hc.l1
  walk_at "go"
  refine use_law_draw (many := (wd : Int) - ((cs.map D.str).length : Int) + 1) hb (by omega) (by rw [List.length_map]; omega) (by rw [List.length_map]; omega) fun low_ b hlo0 hlo1 hb => ?_
  rw [List.length_map] at hlo1
  obtain ⟨low, rfl⟩ : ∃ low : Nat, low_ = low := ⟨low_.toNat, by omega⟩
  walk_at "go"
  refine use_law_draw hb (by omega) (by omega) (by omega) fun bit_ b hbi0 hbi1 hb => ?_
  obtain ⟨bit, rfl⟩ : ∃ bit : Nat, bit_ = bit := ⟨bit_.toNat, by omega⟩
  walk_at "go"
  refine use_law_pick hb (by omega) (by rw [List.length_map]; omega) (by rw [List.length_map]; omega) fun one_ b ho hb => ?_
  obtain ⟨one, hom, rfl⟩ := List.mem_map.mp ho
  have ho := h2.nm one hom
  walk_at "go"
  rw [List.cons_append]
  refine forL_inv (fun i env M' => ∃ (ms : ML) (b' : D) (e10 e11 : Option D), M' = b' :: (M2 ++ [.dct (mkD ms)]) ∧ Acc wd s low bit (cs.take i) ms ∧ PenOk (n + 10 + 2 * i) b' ∧
    env = [some (.cel 0), some (.str nm), some (.lst (conds.map D.str)), some (nD wd), some (nD s), some (.lst (cs.map D.str)), some (nD low), some (nD bit), some (.str one), some (.cel (M2.length + 1)), e10, e11])
    ⟨[], b, none, none, rfl, Acc.none _ _ _ _, hb.mono (by omega), rfl⟩ ?_ ?_
  · rintro i d env M' hd ⟨ms, b', e10, e11, rfl, ha, hb, rfl⟩
    obtain ⟨x, hx, rfl⟩ := enumD_get _ _ _ _ hd
    obtain ⟨c, hcx, rfl⟩ := get_str hx
    have hi := (List.getElem?_eq_some_iff.mp hcx).1
    unfold nD
    walk_at "go"
    have hnd := nd_take hc.nd hcx
    have hil : (cs.take i).length = i := by rw [List.length_take]; omega
    refine in_ints (ns := [2, 4]) (.inr rfl) ?_
    rcases (by omega : (s = 2 ∨ s = 4) ∨ s = 3 ∨ s = 5 ∨ (s = 0 ∨ s = 1)) with h | h | h | h
    · rw [if_neg Bool.false_ne_true, decide_eq_true (mem24.mpr h)]
      have e := ha.h24 h
      subst e
      walk_at "go"
      refine dput_at last1 rfl (by rw [mk_len, ← List.length_map (f := (·.1)), winL_keys, line16]; omega) ?_
      dsimp only
      rw [set1L, shl_nat2, show D.int ((2 ^ (low + i) : Nat) : Int) = nD (2 ^ (low + i)) from rfl, put_mk (by rw [winL_keys]; exact hnd)]
      walk_at "go"
      refine ⟨_, _, _, _, rfl, ⟨fun _ => ?_, fun h' => absurd h' (by omega), fun h' => absurd h' (by omega), fun h' => absurd h' (by omega)⟩, hb.mono (by omega), rfl⟩
      rw [take_snoc hcx, winL_snoc, hil]
    · rw [if_neg Bool.false_ne_true, decide_eq_false (fun h' => by have := mem24.mp h'; omega)]
      have e := ha.h3 h
      subst e
      walk_at "go"
      refine dput_at last1 rfl (by rw [mk_len, List.length_map, hil, line16]; omega) ?_
      dsimp only
      rw [set1L, shl_nat, show D.int ((2 ^ bit : Nat) : Int) = nD (2 ^ bit) from rfl, put_mk (by rw [List.map_map, show ((fun x : Str × Nat => x.1) ∘ fun c => (c, 2 ^ bit)) = id from rfl, List.map_id]; exact hnd)]
      walk_at "go"
      refine ⟨_, _, _, _, rfl, ⟨fun h' => absurd h' (by omega), fun _ => ?_, fun h' => absurd h' (by omega), fun h' => absurd h' (by omega)⟩, hb.mono (by omega), rfl⟩
      rw [take_snoc hcx, List.map_append]; rfl
    · rw [if_neg Bool.false_ne_true, decide_eq_false (fun h' => by have := mem24.mp h'; omega)]
      obtain ⟨ek, hlt⟩ := ha.h5 h
      have hw2 : 2 ^ wd ≤ 256 := Nat.le_trans (Nat.pow_le_pow_right (n := 2) (by decide) hw8) (by decide)
      have hw3 := Nat.two_pow_pos wd
      walk_at "go"
      refine use_law_draw (many := 1 * 2 ^ ((wd : Int)).toNat) hb (by omega) (by rw [shl_nat]; omega) (by rw [shl_nat]; omega) fun v b' hv0 hv1 hb => ?_
      walk_at "go"
      refine use_law_pick hb (by omega) (by simp) (by simp) fun v_ b' hv hb => ?_
      obtain ⟨m, rfl, hm⟩ : ∃ m : Nat, v_ = nD m ∧ m < 2 ^ wd := mask_of hv0 hv1 (by omega) hv
      clear hv
      walk_at "go"
      refine dput_at last1 rfl (by rw [mk_len, ← List.length_map (f := (·.1)), ek, line16]; omega) ?_
      rw [set1L, put_mk (by rw [ek]; exact hnd)]
      refine ⟨_, _, _, _, rfl, ⟨fun h' => absurd h' (by omega), fun h' => absurd h' (by omega), fun _ => ⟨?_, fun p hp => ?_⟩, fun h' => absurd h' (by omega)⟩, hb.mono (by omega), rfl⟩
      · rw [List.map_append, ek, take_snoc hcx]; rfl
      · rcases List.mem_append.mp hp with h2 | h2
        · exact hlt p h2
        · rw [List.mem_singleton.mp h2]; exact hm
    · rw [if_neg Bool.false_ne_true, decide_eq_false (fun h' => by have := mem24.mp h'; omega)]
      walk_at "go"
      exact ⟨_, _, _, _, rfl, ⟨fun h' => absurd h' (by omega), fun h' => absurd h' (by omega), fun h' => absurd h' (by omega), fun _ => ha.h01 h⟩, hb.mono (by omega), rfl⟩
  · rintro env M' ⟨ms, b', e10, e11, rfl, ha, hb, rfl⟩
    rw [enumD_len, List.length_map, List.take_length] at ha
    rw [enumD_len, List.length_map] at hb
    have hdr := drawn_of (s := s) (nm := nm) (one := one) hw8 (by omega) h1 ho hc (by omega) (by omega) ha
    have hvs := vals_of (one := one) (by omega) (by omega) (by omega) ha
    have hl55 : (lastL s bit one ms).length ≤ 5 := by
      have := nd_len (l := (lastL s bit one ms).map (·.1)) (m := conds) hdr.mo.nd fun w hw => by
        rcases last_keys (one := one) (by omega) ha w hw with h | h
        · exact hsub w h
        · rw [h]; exact hom
      rw [List.length_map] at this; omega
    unfold nD
    walk_at "go"
    refine in_ints (ns := [1, 4]) (.inr rfl) ?_
    by_cases h14 : s = 1 ∨ s = 4
    · rw [if_neg Bool.false_ne_true, decide_eq_true (mem14.mpr h14)]
      rw [show lastL s bit one ms = putL ms one (getN ms one ||| 2 ^ bit) from if_pos h14] at hdr hvs hl55
      walk_at "go"
      · rw [viewK last1]; rfl
      refine get2_use (viewK last1) rfl ?_
      rw [get2_mk]
      unfold nD
      walk_at "go"
      refine dput_at last1 rfl (by have := acc_len (by omega) ha; rw [mk_len, line16]; omega) ?_
      dsimp only
      rw [set1L, shl_nat, or_nat, show D.int ((getN ms one ||| 2 ^ bit : Nat) : Int) = nD (getN ms one ||| 2 ^ bit) from rfl, put_putL]
      walk_at "go"
      rw [last1]
      dsimp only
      rw [un_env rfl rfl rfl rfl, set1L]
      walk_at "go"
      exact .keep (k s one bit low cs _ _ ⟨by omega, h1, ho, by omega, by omega, hc, hdr, hvs, hsub, hom, hl55⟩ (hb.mono (by omega)))
    · rw [if_neg Bool.false_ne_true, decide_eq_false (fun h' => h14 (mem14.mp h'))]
      rw [show lastL s bit one ms = ms from if_neg h14] at hdr hvs hl55
      walk_at "go"
      rw [last1]
      dsimp only
      rw [un_env rfl rfl rfl rfl, set1L]
      walk_at "go"
      exact .keep (k s one bit low cs _ _ ⟨by omega, h1, ho, by omega, by omega, hc, hdr, hvs, hsub, hom, hl55⟩ (hb.mono (by omega)))

/-! _law_both: 0 _law_title, 1 _law_one, 2 _law_sign, 3 _law_lowest, 4 _law_some -/
abbrev p_law_both : List Str := ["_law_title", "_law_one", "_law_sign", "_law_lowest", "_law_some"]
theorem conds_cases {cs : List Str} (h : Conds cs) : (∃ a, cs = [a]) ∨ (∃ a b, cs = [a, b]) ∨ (∃ a b c, cs = [a, b, c]) ∨ (∃ a b c d, cs = [a, b, c, d]) ∨ ∃ a b c d e, cs = [a, b, c, d, e] := by
  have h1 := h.l1
  have h5 := h.l5
  match cs, h1, h5 with
  | [a], _, _ => exact .inl ⟨_, rfl⟩
  | [a, b], _, _ => exact .inr (.inl ⟨_, _, rfl⟩)
  | [a, b, c], _, _ => exact .inr (.inr (.inl ⟨_, _, _, rfl⟩))
  | [a, b, c, d], _, _ => exact .inr (.inr (.inr (.inl ⟨_, _, _, _, rfl⟩)))
  | [a, b, c, d, e], _, _ => exact .inr (.inr (.inr (.inr ⟨_, _, _, _, _, rfl⟩)))
@[irreducible] def sp_law_both : DSp := fun ds M R _ => ∃ (nm c : Str) (b lo : Nat) (cs : List Str), ds = [.str nm, .str c, nD b, nD lo, .lst (cs.map D.str)] ∧ (Kn.tw nm c b lo cs).Ok ∧ R (Kn.tw nm c b lo cs).obj M
theorem len_law_both : ∀ ds M R RX, sp_law_both ds M R RX → ds.length = p_law_both.length := by
  unfold sp_law_both; rintro ds M R RX ⟨_, _, _, _, _, rfl, _⟩; rfl
theorem use_law_both {nm c : Str} {b lo : Nat} {cs : List Str} {M : Mt} {R RX} (ok : (Kn.tw nm c b lo cs).Ok) (k : R (Kn.tw nm c b lo cs).obj M) : sp_law_both [.str nm, .str c, nD b, nD lo, .lst (cs.map D.str)] M R RX := by
  unfold sp_law_both; exact ⟨_, _, _, _, _, rfl, ok, k⟩
def w_law_both : WS :=
  (wSeq (wIfS (wTest (wOp (oEqI fun b => b) (wCB cLen (wCons (wVar 4) wNil)) (wC (.int 1)))) (wRet (wMk "TestWindow" (starSp 5 sp_TestWindow_init__) RXn (wCons (wVar 0) (wCons (wVar 1) (wCons (wVar 2) (wCons (wVar 3) (wCons (wOp oIx (wVar 4) (wC (.int 0))) wNil))))))) wSkip)
    (wSeq (wIfS (wTest (wOp (oEqI fun b => b) (wCB cLen (wCons (wVar 4) wNil)) (wC (.int 2)))) (wRet (wMk "TestWindow" (starSp 5 sp_TestWindow_init__) RXn (wCons (wVar 0) (wCons (wVar 1) (wCons (wVar 2) (wCons (wVar 3) (wCons (wOp oIx (wVar 4) (wC (.int 0))) (wCons (wOp oIx (wVar 4) (wC (.int 1))) wNil)))))))) wSkip)
    (wSeq (wIfS (wTest (wOp (oEqI fun b => b) (wCB cLen (wCons (wVar 4) wNil)) (wC (.int 3)))) (wRet (wMk "TestWindow" (starSp 5 sp_TestWindow_init__) RXn (wCons (wVar 0) (wCons (wVar 1) (wCons (wVar 2) (wCons (wVar 3) (wCons (wOp oIx (wVar 4) (wC (.int 0))) (wCons (wOp oIx (wVar 4) (wC (.int 1))) (wCons (wOp oIx (wVar 4) (wC (.int 2))) wNil))))))))) wSkip)
    (wSeq (wIfS (wTest (wOp (oEqI fun b => b) (wCB cLen (wCons (wVar 4) wNil)) (wC (.int 4)))) (wRet (wMk "TestWindow" (starSp 5 sp_TestWindow_init__) RXn (wCons (wVar 0) (wCons (wVar 1) (wCons (wVar 2) (wCons (wVar 3) (wCons (wOp oIx (wVar 4) (wC (.int 0))) (wCons (wOp oIx (wVar 4) (wC (.int 1))) (wCons (wOp oIx (wVar 4) (wC (.int 2))) (wCons (wOp oIx (wVar 4) (wC (.int 3))) wNil)))))))))) wSkip)
    (wRet (wMk "TestWindow" (starSp 5 sp_TestWindow_init__) RXn (wCons (wVar 0) (wCons (wVar 1) (wCons (wVar 2) (wCons (wVar 3) (wCons (wOp oIx (wVar 4) (wC (.int 0))) (wCons (wOp oIx (wVar 4) (wC (.int 1))) (wCons (wOp oIx (wVar 4) (wC (.int 2))) (wCons (wOp oIx (wVar 4) (wC (.int 3))) (wCons (wOp oIx (wVar 4) (wC (.int 4))) wNil)))))))))))))))
theorem wp_law_both : ∀ ds M R RX, sp_law_both ds M R RX → M.all (cellOk M.length) = true → noCels M.length ds = true → w_law_both (fnEnds M.length R) (startE 5 ds) M := by
  unfold sp_law_both; rintro ds M R RX ⟨nm, c, b, lo, cs, rfl, ok, k⟩ hM hds
  rcases conds_cases ok.2.2.2.1 with ⟨a1, rfl⟩ | ⟨a1, a2, rfl⟩ | ⟨a1, a2, a3, rfl⟩ | ⟨a1, a2, a3, a4, rfl⟩ | ⟨a1, a2, a3, a4, a5, rfl⟩
  · have hl : (List.map D.str [a1]).length = 1 := rfl
    walk_at "go"
    refine use_TestWindow_init__ (M0 := M) (nm := nm) (c := c) (b := b) (lo := lo) (cs := [a1]) ok ⟨rfl, mkEnd_i ?_ (.keep k)⟩
    exact noCF_obj (.tw nm c b lo [a1]) M.length
  · have hl : (List.map D.str [a1, a2]).length = 2 := rfl
    walk_at "go"
    refine use_TestWindow_init__ (M0 := M) (nm := nm) (c := c) (b := b) (lo := lo) (cs := [a1, a2]) ok ⟨rfl, mkEnd_i ?_ (.keep k)⟩
    exact noCF_obj (.tw nm c b lo [a1, a2]) M.length
  · have hl : (List.map D.str [a1, a2, a3]).length = 3 := rfl
    walk_at "go"
    refine use_TestWindow_init__ (M0 := M) (nm := nm) (c := c) (b := b) (lo := lo) (cs := [a1, a2, a3]) ok ⟨rfl, mkEnd_i ?_ (.keep k)⟩
    exact noCF_obj (.tw nm c b lo [a1, a2, a3]) M.length
  · have hl : (List.map D.str [a1, a2, a3, a4]).length = 4 := rfl
    walk_at "go"
    refine use_TestWindow_init__ (M0 := M) (nm := nm) (c := c) (b := b) (lo := lo) (cs := [a1, a2, a3, a4]) ok ⟨rfl, mkEnd_i ?_ (.keep k)⟩
    exact noCF_obj (.tw nm c b lo [a1, a2, a3, a4]) M.length
  · have hl : (List.map D.str [a1, a2, a3, a4, a5]).length = 5 := rfl
    walk_at "go"
    refine use_TestWindow_init__ (M0 := M) (nm := nm) (c := c) (b := b) (lo := lo) (cs := [a1, a2, a3, a4, a5]) ok ⟨rfl, mkEnd_i ?_ (.keep k)⟩
    exact noCF_obj (.tw nm c b lo [a1, a2, a3, a4, a5]) M.length
/-! _law_made: 0 _law_kind_here, 1 _law_sort, 2 _law_title, 3 _law_one, 4 _law_sign, 5 _law_lowest, 6 _law_some, 7 _law_shares -/
abbrev p_law_made : List Str := ["_law_kind_here"]
@[irreducible] def sp_law_made : DSp := fun ds M R _ => ∃ (s : Nat) (nm one : Str) (bit low : Nat) (cs : List Str) (ms : ML), ds = [.lst (kindL s nm one bit low cs ms)] ∧ s < 6 ∧ (mkOf s nm one bit low cs ms).Ok ∧ R (mkOf s nm one bit low cs ms).obj M
theorem len_law_made : ∀ ds M R RX, sp_law_made ds M R RX → ds.length = p_law_made.length := by
  unfold sp_law_made; rintro ds M R RX ⟨_, _, _, _, _, _, _, rfl, _⟩; rfl
theorem use_law_made {s : Nat} {nm one : Str} {bit low : Nat} {cs : List Str} {ms : ML} {M : Mt} {R RX} (hs : s < 6) (ok : (mkOf s nm one bit low cs ms).Ok) (k : R (mkOf s nm one bit low cs ms).obj M) : sp_law_made [.lst (kindL s nm one bit low cs ms)] M R RX := by
  unfold sp_law_made; exact ⟨_, _, _, _, _, _, _, rfl, hs, ok, k⟩
def w_law_made : WS :=
  (wSeq (wAsg (wVar 0) (gTL 7 (gsCons (gN 1) (gsCons (gN 2) (gsCons (gN 3) (gsCons (gN 4) (gsCons (gN 5) (gsCons (gN 6) (gsCons (gN 7) gsNil)))))))))
    (wSeq (wIfS (wTest (wOp (oEqI fun b => b) (wVar 1) (wC (.int 0)))) (wRet (wMk "Kind" sp_Kind_init__ RXn (wCons (wVar 2) wNil))) wSkip)
    (wSeq (wIfS (wTest (wOp (oEqI fun b => b) (wVar 1) (wC (.int 1)))) (wRet (wMk "Test" (starSp 4 sp_Test_init__) RXn (wCons (wVar 2) (wCons (wVar 3) (wCons (wVar 4) wNil))))) wSkip)
    (wSeq (wIfS (wTest (wOp (oEqI fun b => b) (wVar 1) (wC (.int 2)))) (wRet (wSMeth "Window" sp_Window_of [] RXn (wC (.cls "Window")) (wCons (wVar 2) (wCons (wVar 5) (wCons (wVar 6) wNil))))) wSkip)
    (wSeq (wIfS (wTest (wOp (oEqI fun b => b) (wVar 1) (wC (.int 3)))) (wRet (wSMeth "AnyOf" sp_AnyOf_of [] RXn (wC (.cls "AnyOf")) (wCons (wVar 2) (wCons (wVar 4) (wCons (wVar 6) wNil))))) wSkip)
    (wRet (wIfE (wTest (wOp (oEqI fun b => b) (wVar 1) (wC (.int 4)))) (wCall sp_law_both [] RX0 (wCons (wVar 2) (wCons (wVar 3) (wCons (wVar 4) (wCons (wVar 5) (wCons (wVar 6) wNil)))))) (wMk "Masks" sp_Masks_init__ RXn (wCons (wVar 2) (wCons (wCB cDictF (wCons (wVar 7) wNil)) wNil))))))))))
theorem noC_kn (k : Kn) (n : Nat) : noCel n k.obj = true := noCF_obj k n
theorem wp_law_made : ∀ ds M R RX, sp_law_made ds M R RX → M.all (cellOk M.length) = true → noCels M.length ds = true → w_law_made (fnEnds M.length R) (startE 8 ds) M := by
  unfold sp_law_made; rintro ds M R RX ⟨s, nm, one, bit, low, cs, ms, rfl, hs, ok, k⟩ hM hds
  unfold kindL
  rcases (by omega : s = 0 ∨ s = 1 ∨ s = 2 ∨ s = 3 ∨ s = 4 ∨ s = 5) with rfl | rfl | rfl | rfl | rfl | rfl
  · have ok : (Kn.kind nm).Ok := ok
    have k : R (Kn.kind nm).obj M := k
    walk_at "go"
    refine use_Kind_init__ (M0 := M) ok (by decide) ⟨rfl, mkEnd_i ?_ (.keep k)⟩
    exact noCF_obj (.kind nm) M.length
  · have ok : (Kn.test nm one bit).Ok := ok
    have k : R (Kn.test nm one bit).obj M := k
    walk_at "go"
    refine use_Test_init__ (M0 := M) (nm := nm) (c := one) (b := bit) ok ⟨rfl, mkEnd_i ?_ (.keep k)⟩
    exact noCF_obj (.test nm one bit) M.length
  · have ok : (Kn.win nm low cs).Ok := ok
    have k : R (Kn.win nm low cs).obj M := k
    walk_at "go"
    refine use_Window_of rfl ok (.keep k)
  · have ok : (Kn.any nm bit cs).Ok := ok
    have k : R (Kn.any nm bit cs).obj M := k
    walk_at "go"
    refine use_AnyOf_of rfl ok (.keep k)
  · have ok : (Kn.tw nm one bit low cs).Ok := ok
    have k : R (Kn.tw nm one bit low cs).obj M := k
    walk_at "go"
    refine use_law_both ok (.keep k)
  · have ok : (Kn.msk nm ms).Ok := ok
    have k : R (Kn.msk nm ms).obj M := k
    walk_at "go"
    refine dictF_use (.inl rfl) ?_
    walk_at "go"
    refine use_Masks_init__ (M0 := M) (nm := nm) (ms := ms) ok ?_
    refine ⟨rfl, mkEnd_i ?_ (.keep k)⟩
    exact noCF_obj (.msk nm ms) _
/-! _law_full: 0 _law_shares, 1 _law_word -/
abbrev p_law_full : List Str := ["_law_shares"]
def nzL (ms : ML) : ML := ms.filter fun p => p.2 != 0
def prN (p : Str × Nat) : Str × Int := (p.1, (p.2 : Int))
/-- the masks other than 0, ascending -/
structure Full (ms : ML) (qs : ML) : Prop where
  perm : qs.Perm (nzL ms)
  asc : SrtO.Srtd (fun x y : Str × Nat => ltTx x.1 y.1) qs
def fullD (qs : ML) : List D := qs.map fun p => .tup [.str p.1, nD p.2]
@[irreducible] def sp_law_full : DSp := fun ds M R _ => ∃ (ms : ML), ds = [.fdc (mkD ms)] ∧ (ms.map (·.1)).Nodup ∧ ms.length ≤ 100 ∧ ∀ qs, Full ms qs → R (.lst (fullD qs)) M
theorem len_law_full : ∀ ds M R RX, sp_law_full ds M R RX → ds.length = p_law_full.length := by
  unfold sp_law_full; rintro ds M R RX ⟨_, rfl, _⟩; rfl
theorem use_law_full {ms : ML} {M : Mt} {R RX} (nd : (ms.map (·.1)).Nodup) (hl : ms.length ≤ 100) (k : ∀ qs, Full ms qs → R (.lst (fullD qs)) M) : sp_law_full [.fdc (mkD ms)] M R RX := by
  unfold sp_law_full; exact ⟨_, rfl, nd, hl, k⟩
def w_law_full : WS :=
  (wRet (wCB cSortTx (wCons (wLc (wItF (wVar 0)) [1] (wTest (wOp (oEqI fun b => !b) (wOp oDGet (wVar 0) (wVar 1)) (wC (.int 0)))) (wTup (wCons (wVar 1) (wCons (wOp oDGet (wVar 0) (wVar 1)) wNil))) [1]) wNil)))
def backN (p : Str × Int) : Str × Nat := (p.1, p.2.toNat)
theorem backN_prN (p : Str × Nat) : prN (backN (prN p)) = prN p := by
  unfold prN backN; rw [Int.toNat_natCast]
theorem full_nd {ms : ML} (nd : (ms.map (·.1)).Nodup) : ((nzL ms).map fun p => p.1).Nodup := List.Nodup.sublist ((List.filter_sublist (p := fun p : Str × Nat => p.2 != 0)).map _) nd
theorem full_list {ms : ML} (nd : (ms.map (·.1)).Nodup) : [] ++ ((((ms.map (·.1)).map D.str).filter fun d => match d with | .str s => getN ms s != 0 | _ => false).map fun d => match d with | .str s => D.tup [.str s, nD (getN ms s)] | _ => .non) = ((nzL ms).map prN).map prT := by
  rw [List.nil_append, List.filter_map, List.filter_map, List.map_map, List.map_map, List.map_map]
  have e : ms.filter ((((fun d => match d with | D.str s => getN ms s != 0 | _ => false) : D → Bool) ∘ D.str) ∘ fun p : Str × Nat => p.1) = nzL ms := by
    unfold nzL
    refine List.filter_congr fun p hp => ?_
    show (getN ms p.1 != 0) = (p.2 != 0)
    rw [getN_p nd hp]
  rw [e]
  refine List.map_congr_left fun p hp => ?_
  have hp2 : p ∈ ms := (List.mem_filter.mp hp).1
  show D.tup [.str p.1, nD (getN ms p.1)] = D.tup [.str p.1, .int (p.2 : Int)]
  rw [getN_p nd hp2]; rfl
theorem wp_law_full : ∀ ds M R RX, sp_law_full ds M R RX → M.all (cellOk M.length) = true → noCels M.length ds = true → w_law_full (fnEnds M.length R) (startE 2 ds) M := by
  unfold sp_law_full; rintro ds M R RX ⟨ms, rfl, nd, hl, k⟩ hM hds
  walk_at "go"
  rw [keys_mk]
  refine lcL_fun (fun d => match d with | .str s => getN ms s != 0 | _ => false) (fun d => match d with | .str s => .tup [.str s, nD (getN ms s)] | _ => .non) _ [] _ (by rw [List.length_map, List.length_map, line16]; simp; omega) (fun d hd A C hA hC => ?_) ?_
  · obtain ⟨c, hcm, rfl⟩ := List.mem_map.mp hd
    obtain ⟨p, hp, rfl⟩ := List.mem_map.mp hcm
    have hA' : (getN ms p.1 != 0) = true → A (.tup [.str p.1, nD (getN ms p.1)]) M := hA
    have hC' : (getN ms p.1 != 0) = false → C M := hC
    rw [getN_p nd hp] at hA' hC'
    clear hA hC
    walk_at "go"
    refine fget_use rfl rfl (valD_p nd hp) ?_
    unfold nD at hA' ⊢
    walk_at "go"
    · rename_i hz
      refine fget_use rfl rfl (valD_p nd hp) ?_
      unfold nD
      walk_at "go"
      refine hA' ?_
      have : p.2 ≠ 0 := fun e => hz (by rw [e]; rfl)
      simpa using this
    · rename_i hz
      refine hC' ?_
      have : p.2 = 0 := by omega
      rw [this]; rfl
  · walk_at "go"
    rw [full_list nd]
    refine sortTx_use (ps := (nzL ms).map prN) rfl (by rw [List.map_map]; exact full_nd nd) fun qs hp ha => ?_
    have e : (qs.map backN).map prN = qs := by
      rw [List.map_map]
      refine (List.map_congr_left fun q hq => ?_).trans (List.map_id qs)
      obtain ⟨p, hp2, rfl⟩ := List.mem_map.mp (hp.subset hq)
      exact backN_prN p
    have hperm : (qs.map backN).Perm (nzL ms) := by
      have := hp.map backN
      rw [List.map_map] at this
      exact this.trans (by rw [show backN ∘ prN = id from rfl, List.map_id])
    refine .keep ?_
    rw [← e, show ((qs.map backN).map prN).map prT = fullD (qs.map backN) from by unfold fullD; rw [List.map_map]; rfl]
    exact k _ ⟨hperm, List.pairwise_map.mpr ha⟩

/-! _law_alike: 0 _law_pen_here, 1 _law_kind_here, 2 _law_words, 3 _law_pairs, 4 _law_shares, 5 _law_at, 6 _law_word, 7 _law_some -/
abbrev p_law_alike : List Str := ["_law_pen_here", "_law_kind_here", "_law_words"]
theorem Kn.nm_ok {k : Kn} (h : k.Ok) : nmV k.nm = true := by
  cases k with
  | kind => exact h
  | test => exact h.1
  | win => exact h.1
  | any => exact h.1
  | tw => exact h.1
  | msk => exact h.1
def backF : D → Str × Nat
  | .tup [.str s, .int i] => (s, i.toNat)
  | _ => default
theorem backF_of (p : Str × Nat) : backF (.tup [.str p.1, nD p.2]) = p := by
  show (p.1, (p.2 : Int).toNat) = p
  rw [Int.toNat_natCast]
theorem fullD_perm {l : List D} {qs : ML} (h : l.Perm (fullD qs)) : ∃ ps : ML, l = fullD ps ∧ ps.Perm qs := by
  have e1 : fullD (l.map backF) = l := by
    unfold fullD
    rw [List.map_map]
    refine (List.map_congr_left fun d hd => ?_).trans (List.map_id l)
    obtain ⟨p, _, rfl⟩ := List.mem_map.mp (h.subset hd)
    show D.tup [.str (backF (.tup [.str p.1, nD p.2])).1, nD (backF (.tup [.str p.1, nD p.2])).2] = _
    rw [backF_of]; rfl
  refine ⟨l.map backF, e1.symm, ?_⟩
  have := h.map backF
  unfold fullD at this
  rw [List.map_map] at this
  refine this.trans ?_
  rw [show backF ∘ (fun p : Str × Nat => D.tup [.str p.1, nD p.2]) = id from funext backF_of, List.map_id]
theorem kp_full : ∀ ps : ML, kpD (fullD ps) = some (mkD ps)
  | [] => rfl
  | p :: r => by
    show (match keyD (.str p.1), kpD (fullD r) with
      | some k', some r' => some ((k', nD p.2) :: r')
      | _, _ => none) = _
    rw [kp_full r]; rfl
theorem merge_mk : ∀ (ps acc : ML), ((acc ++ ps).map (·.1)).Nodup → mergeD (mkD acc) (mkD ps) = mkD (acc ++ ps)
  | [], acc, _ => by rw [List.append_nil]; rfl
  | p :: r, acc, h => by
    show mergeD (putD (mkD acc) (.inr p.1) (nD p.2)) (mkD r) = _
    have hn : p.1 ∉ acc.map (·.1) := fun hm => by
      rw [List.map_append, List.nodup_append] at h
      exact h.2.2 _ hm _ (by rw [List.map_cons]; exact List.mem_cons_self) rfl
    rw [put_mk hn]
    have := merge_mk r (acc ++ [p]) (by rw [List.append_assoc]; exact h)
    rw [this, List.append_assoc]; rfl
structure NzOf (ms ps : ML) : Prop where
  nd : (ps.map (·.1)).Nodup
  mem : ∀ p, p ∈ ps ↔ (p ∈ ms ∧ p.2 ≠ 0)
theorem nz_of {ms ps : ML} (nd : (ms.map (·.1)).Nodup) (h : ps.Perm (nzL ms)) : NzOf ms ps := by
  refine ⟨(h.map (·.1)).nodup_iff.mpr (full_nd nd), fun p => ?_⟩
  rw [h.mem_iff]
  unfold nzL
  rw [List.mem_filter]
  simp
theorem nz_get {ms ps : ML} (nd : (ms.map (·.1)).Nodup) (h : NzOf ms ps) (w : Str) : getN ps w = getN ms w := by
  by_cases e : w ∈ ps.map (·.1)
  · obtain ⟨p, hp, rfl⟩ := List.mem_map.mp e
    rw [getN_p h.nd hp, getN_p nd ((h.mem p).mp hp).1]
  · rw [getN_none e]
    by_cases e2 : w ∈ ms.map (·.1)
    · obtain ⟨p, hp, rfl⟩ := List.mem_map.mp e2
      rw [getN_p nd hp]
      by_cases hz : p.2 = 0
      · exact hz.symm
      · exact absurd (List.mem_map_of_mem ((h.mem p).mpr ⟨hp, hz⟩)) e
    · rw [getN_none e2]
theorem nz_len {ms ps : ML} (h : NzOf ms ps) : ps.length ≤ ms.length := by
  have := nd_len (l := ps.map (·.1)) (m := ms.map (·.1)) h.nd fun w hw => by
    obtain ⟨p, hp, rfl⟩ := List.mem_map.mp hw
    exact List.mem_map_of_mem ((h.mem p).mp hp).1
  rwa [List.length_map, List.length_map] at this
theorem nz_ok {ms ps : ML} (h : NzOf ms ps) (mo : MLOk ms) : MLOk ps :=
  ⟨h.nd, fun p hp => mo.nm p ((h.mem p).mp hp).1, fun p hp => mo.lt p ((h.mem p).mp hp).1, Nat.le_trans (nz_len h) mo.l6⟩
theorem isSome_mk (ms : ML) (w : Str) : (valD (mkD ms) (.inr w)).isSome = decide (w ∈ ms.map (·.1)) := by
  rw [valD_mk]
  by_cases e : w ∈ ms.map (·.1)
  · rw [decide_eq_true e]
    cases h : ms.lookup w with
    | none =>
      exfalso
      rw [List.lookup_eq_none_iff] at h
      obtain ⟨p, hp, rfl⟩ := List.mem_map.mp e
      simpa using h p hp
    | some v => rfl
  · rw [decide_eq_false e]
    cases h : ms.lookup w with
    | none => rfl
    | some v => exact absurd (List.mem_map_of_mem (mem_of_look h)) e
theorem pow_ix {v : Nat} (h : (v : Int) ∈ ([1, 2, 4, 8, 16, 32, 64, 128] : List Int)) : ∃ j : Nat, j ≤ 7 ∧ v = 2 ^ j ∧ ([1, 2, 4, 8, 16, 32, 64, 128] : List Int)[j]? = some (v : Int) ∧ ∀ m, m < j → ([1, 2, 4, 8, 16, 32, 64, 128] : List Int)[m]? ≠ some (v : Int) := by
  have key : ∀ j : Nat, j ≤ 7 → ∀ m, m < j → ([1, 2, 4, 8, 16, 32, 64, 128] : List Int)[m]? ≠ some ((2 ^ j : Nat) : Int) := by
    intro j hj m hm
    rcases (by omega : j = 0 ∨ j = 1 ∨ j = 2 ∨ j = 3 ∨ j = 4 ∨ j = 5 ∨ j = 6 ∨ j = 7) with rfl | rfl | rfl | rfl | rfl | rfl | rfl | rfl <;>
    rcases (by omega : m = 0 ∨ m = 1 ∨ m = 2 ∨ m = 3 ∨ m = 4 ∨ m = 5 ∨ m = 6) with rfl | rfl | rfl | rfl | rfl | rfl | rfl <;> first | omega | decide
  simp only [List.mem_cons, List.not_mem_nil, or_false] at h
  have hv : v = 1 ∨ v = 2 ∨ v = 4 ∨ v = 8 ∨ v = 16 ∨ v = 32 ∨ v = 64 ∨ v = 128 := by omega
  rcases hv with rfl | rfl | rfl | rfl | rfl | rfl | rfl | rfl
  · exact ⟨0, by decide, rfl, rfl, key 0 (by decide)⟩
  · exact ⟨1, by decide, rfl, rfl, key 1 (by decide)⟩
  · exact ⟨2, by decide, rfl, rfl, key 2 (by decide)⟩
  · exact ⟨3, by decide, rfl, rfl, key 3 (by decide)⟩
  · exact ⟨4, by decide, rfl, rfl, key 4 (by decide)⟩
  · exact ⟨5, by decide, rfl, rfl, key 5 (by decide)⟩
  · exact ⟨6, by decide, rfl, rfl, key 6 (by decide)⟩
  · exact ⟨7, by decide, rfl, rfl, key 7 (by decide)⟩
theorem un_env4 {k : Nat} {l1 l2 l3 : List D} {x5 x6 x7 : Option D} (d' : D) :
    ([some (.cel 0), some (.lst l1), some (.lst l2), some (.lst l3), some (.cel (k + 1)), x5, x6, x7] : Ev).map (unCel (.cel (k + 1)) d') =
    [some (.cel 0), some (.lst l1), some (.lst l2), some (.lst l3), some d', unCel (.cel (k + 1)) d' x5, unCel (.cel (k + 1)) d' x6, unCel (.cel (k + 1)) d' x7] := by
  have n1 : ¬ (0 = k + 1) := by omega
  simp only [List.map_cons, List.map_nil, unCel, if_neg n1, if_pos]
@[irreducible] def sp_law_alike : DSp := fun ds M R _ => ∃ (s bit low : Nat) (one : Str) (cs : List Str) (ms : ML) (k : Kn) (ws : List Str) (n : Int) (b : D) (M2 : Mt), ds = [.cel 0, .lst (kindL s k.nm one bit low cs ms), .lst (ws.map D.str)] ∧ M = b :: M2 ∧ PenOk n b ∧ n ≤ 900000 ∧ Drawn k ms ∧ ms.length ≤ 5 ∧ Words ws ∧ ws.length = 7 ∧
  ∀ (k2 : Kn) (b' : D), k2.Ok → Same k k2 → PenOk (n + 20) b' → R k2.obj (b' :: M2)
theorem len_law_alike : ∀ ds M R RX, sp_law_alike ds M R RX → ds.length = p_law_alike.length := by
  unfold sp_law_alike; rintro ds M R RX ⟨_, _, _, _, _, _, _, _, _, _, _, rfl, _⟩; rfl
theorem use_law_alike {s bit low : Nat} {one : Str} {cs : List Str} {ms : ML} {k : Kn} {ws : List Str} {n : Int} {b : D} {M2 : Mt} {R RX} (hb : PenOk n b) (hn : n ≤ 900000) (hd : Drawn k ms) (h5 : ms.length ≤ 5) (hw : Words ws) (hl : ws.length = 7)
    (q : ∀ (k2 : Kn) (b' : D), k2.Ok → Same k k2 → PenOk (n + 20) b' → R k2.obj (b' :: M2)) : sp_law_alike [.cel 0, .lst (kindL s k.nm one bit low cs ms), .lst (ws.map D.str)] (b :: M2) R RX := by
  unfold sp_law_alike; exact ⟨_, _, _, _, _, _, _, _, _, _, _, rfl, rfl, hb, hn, hd, h5, hw, hl, q⟩
def w_law_alike : WS :=
  (wSeq (wAsg (wCall sp_law_mixed [] RX0 (wCons (wVar 0) (wCons (wCall sp_law_full [] RX0 (wCons (wOp oIx (wVar 1) (wC (.int 6))) wNil)) wNil))) (gN 3))
    (wSeq (wAsg (wCB cDictLM (wCons (wVar 3) wNil)) (gN 4))
    (wSeq (wIfS (wAndT (wTest (wOp oLt (wCB cLen (wCons (wVar 4) wNil)) (wC (.int 5)))) (wTest (wOp (oEqI fun b => b) (wCall sp_law_draw [] RX0 (wCons (wVar 0) (wCons (wC (.int 2)) wNil))) (wC (.int 0))))) (wDPut (wVar 4) (wOp oIx (wLc (wIt (wVar 2)) [6] (wTest (wOp (oDIn true) (wVar 6) (wVar 4))) (wVar 6) [6]) (wC (.int 0))) (wC (.int 0))) wSkip)
    (wSeq (wIfS (wAndT (wTest (wOp (oEqI fun b => b) (wCB cLen (wCons (wVar 3) wNil)) (wC (.int 1)))) (wTest (wOp (oIn false) (wOp oIx (wOp oIx (wVar 3) (wC (.int 0))) (wC (.int 1))) (wTup (wCons (wC (.int 1)) (wCons (wC (.int 2)) (wCons (wC (.int 4)) (wCons (wC (.int 8)) (wCons (wC (.int 16)) (wCons (wC (.int 32)) (wCons (wC (.int 64)) (wCons (wC (.int 128)) wNil)))))))))))) (wSeq (wAsg (wBM "list" mIndex (wLst (wCons (wC (.int 1)) (wCons (wC (.int 2)) (wCons (wC (.int 4)) (wCons (wC (.int 8)) (wCons (wC (.int 16)) (wCons (wC (.int 32)) (wCons (wC (.int 64)) (wCons (wC (.int 128)) wNil))))))))) (wCons (wOp oIx (wOp oIx (wVar 3) (wC (.int 0))) (wC (.int 1))) wNil)) (gN 5))
    (wSeq (wAsg (wOp oIx (wOp oIx (wVar 3) (wC (.int 0))) (wC (.int 0))) (gN 6))
    (wSeq (wAsg (wLst (wCons (wMk "Test" (starSp 4 sp_Test_init__) RXn (wCons (wOp oIx (wVar 1) (wC (.int 1))) (wCons (wVar 6) (wCons (wVar 5) wNil)))) (wCons (wMk "Window" (starSp 3 sp_Window_init__) RXn (wCons (wOp oIx (wVar 1) (wC (.int 1))) (wCons (wVar 5) (wCons (wVar 6) wNil)))) (wCons (wMk "AnyOf" (starSp 3 sp_AnyOf_init__) RXn (wCons (wOp oIx (wVar 1) (wC (.int 1))) (wCons (wVar 5) (wCons (wVar 6) wNil)))) wNil)))) (gN 7))
    (wLkD 4 (wRet (wCall sp_law_pick [] RX0 (wCons (wVar 0) (wCons (wOp oAdd (wVar 7) (wLst (wCons (wMk "TestWindow" (starSp 5 sp_TestWindow_init__) RXn (wCons (wOp oIx (wVar 1) (wC (.int 1))) (wCons (wVar 6) (wCons (wVar 5) (wCons (wVar 5) (wCons (wVar 6) wNil)))))) (wCons (wMk "Masks" sp_Masks_init__ RXn (wCons (wOp oIx (wVar 1) (wC (.int 1))) (wCons (wVar 4) wNil))) wNil)))) wNil)))))))) wSkip)
    (wSeq (wIfS (wAndT (wTest (wOp (oEqI fun b => b) (wVar 3) (wLst wNil))) (wTest (wOp (oEqI fun b => b) (wCall sp_law_draw [] RX0 (wCons (wVar 0) (wCons (wC (.int 2)) wNil))) (wC (.int 0))))) (wRet (wMk "Kind" sp_Kind_init__ RXn (wCons (wOp oIx (wVar 1) (wC (.int 1))) wNil))) wSkip)
    (wLkD 4 (wRet (wMk "Masks" sp_Masks_init__ RXn (wCons (wOp oIx (wVar 1) (wC (.int 1))) (wCons (wVar 4) wNil))))))))))
theorem wp_law_alike : ∀ ds M R RX, sp_law_alike ds M R RX → M.all (cellOk M.length) = true → noCels M.length ds = true → w_law_alike (fnEnds M.length R) (startE 8 ds) M := by
  unfold sp_law_alike; rintro ds M R RX ⟨s, bit, low, one, cs, ms, k, ws, n, b, M2, rfl, rfl, hb, hn, hd, h5, hw, hl, q⟩ hM hds
  obtain ⟨kl, hkl⟩ : ∃ kl, kl = kindL s k.nm one bit low cs ms := ⟨_, rfl⟩
  have hk1 : L2.atI kl 1 = some (.str k.nm) := by rw [hkl]; rfl
  have hk6 : L2.atI kl 6 = some (.fdc (mkD ms)) := by rw [hkl]; rfl
  have hnm := Kn.nm_ok hd.ok
  rw [← hkl]
  walk_at "go"
  rw [hk6]
  walk_at "go"
  refine use_law_full hd.mo.nd (by omega) fun qs hq => ?_
  walk_at "go"
  have hqn := nz_of hd.mo.nd hq.perm
  have hql := nz_len hqn
  refine use_law_mixed hb (by omega) (by unfold fullD; rw [List.length_map]; omega) fun l' b hp hb => ?_
  obtain ⟨ps, rfl, hpq⟩ := fullD_perm hp
  have hps : NzOf ms ps := nz_of hd.mo.nd (hpq.trans hq.perm)
  have hpl := nz_len hps
  have hpg := nz_get hd.mo.nd hps
  have hpo := nz_ok hps hd.mo
  rw [show (fullD qs).length = qs.length by unfold fullD; rw [List.length_map]] at hb
  walk_at "go"
  refine dictLM_use rfl (kp_full ps) ?_
  rw [show mergeD [] (mkD ps) = mkD ps from merge_mk ps [] hps.nd]
  rw [List.cons_append]
  simp only [List.length_cons]
  dsimp only [gN]
  have hfree : ∃ w, ∃ r, ws.filter (fun s => !decide (s ∈ ps.map (·.1))) = w :: r := by
    cases hq : ws.filter (fun s => !decide (s ∈ ps.map (·.1))) with
    | cons w r => exact ⟨w, r, rfl⟩
    | nil =>
      have hs : ∀ w ∈ ws, w ∈ ps.map (·.1) := fun w hw2 => by
        by_cases e : w ∈ ps.map (·.1)
        · exact e
        · have : w ∈ ws.filter (fun s => !decide (s ∈ ps.map (·.1))) := List.mem_filter.mpr ⟨hw2, by simpa using e⟩
          rw [hq] at this; cases this
      have := nd_len hw.nd hs
      rw [List.length_map] at this
      omega
  obtain ⟨w0, wr, hw0⟩ := hfree
  have hw0m : w0 ∈ ws ∧ w0 ∉ ps.map (·.1) := by
    have : w0 ∈ ws.filter (fun s => !decide (s ∈ ps.map (·.1))) := by rw [hw0]; exact List.mem_cons_self
    obtain ⟨a, b⟩ := List.mem_filter.mp this
    exact ⟨a, by simpa using b⟩
  refine seq_cut (fun env M => ∃ (b : D) (ms2 : ML), env = [some (.cel 0), some (.lst kl), some (.lst (ws.map D.str)), some (.lst (fullD ps)), some (.cel (M2.length + 1)), none, none, none] ∧ M = b :: (M2 ++ [.dct (mkD ms2)]) ∧ PenOk (n + 8) b ∧ MLOk ms2 ∧ ms2.length ≤ 5 ∧ ∀ w, getN ms2 w = getN ms w) ?_ ?_
  · intro K hK
    have fin0 : ∀ b, PenOk (n + 8) b → K [some (.cel 0), some (.lst kl), some (.lst (ws.map D.str)), some (.lst (fullD ps)), some (.cel (M2.length + 1)), none, none, none] (b :: (M2 ++ [.dct (mkD ps)])) := fun b hb => hK _ _ ⟨b, ps, rfl, rfl, hb, hpo, by omega, hpg⟩
    walk_at "go"
    refine len_dct (viewK last1) ?_
    rw [mk_len]
    walk_at "go"
    · refine use_law_draw hb (by omega) (by omega) (by omega) fun dr b hd0 hd1 hb => ?_
      walk_at "go"
      · refine lcL_fun (fun d => match d with | .str s => !decide (s ∈ ps.map (·.1)) | _ => false) id _ [] _ (by rw [List.length_map, line16]; simp; omega) (fun d hd A C hA hC => ?_) ?_
        · obtain ⟨c, hcm, rfl⟩ := List.mem_map.mp hd
          have hA' : (!decide (c ∈ ps.map (·.1))) = true → A (.str c) (b :: (M2 ++ [.dct (mkD ps)])) := hA
          have hC' : (!decide (c ∈ ps.map (·.1))) = false → C (b :: (M2 ++ [.dct (mkD ps)])) := hC
          clear hA hC
          walk_at "go"
          rw [viewK last1]
          dsimp only [keyD]
          rw [if_pos rfl, isSome_mk]
          cases hz : decide (c ∈ ps.map (·.1)) with
          | true =>
            rw [hz] at hC'
            walk_at "go"
            first | exact hC' rfl | exact hC' trivial
          | false =>
            rw [hz] at hA'
            walk_at "go"
            first | exact hA' rfl | exact hA' trivial
        · rw [show ([] ++ ((ws.map D.str).filter fun d => match d with | .str s => !decide (s ∈ ps.map (·.1)) | _ => false).map id) = (ws.filter fun s => !decide (s ∈ ps.map (·.1))).map D.str by rw [List.nil_append, List.map_id, List.filter_map]; rfl, hw0]
          walk_at "go"
          rw [show L2.atI (List.map D.str (w0 :: wr)) 0 = some (.str w0) from atI_nat (j := 0) rfl]
          walk_at "go"
          refine dput_at last1 rfl (by rw [mk_len, line16]; omega) ?_
          rw [set1L, show D.int 0 = nD 0 from rfl, put_mk hw0m.2]
          refine hK _ _ ⟨b, ps ++ [(w0, 0)], rfl, rfl, hb.mono (by omega), ⟨?_, fun p hp => ?_, fun p hp => ?_, ?_⟩, ?_, fun w => ?_⟩
          · rw [List.map_append, List.nodup_append]
            exact ⟨hps.nd, by simp, fun x hx y hy e => hw0m.2 (by rw [show w0 = y from (List.mem_singleton.mp hy).symm, ← e]; exact hx)⟩
          · rcases List.mem_append.mp hp with h | h
            · exact hpo.nm p h
            · rw [List.mem_singleton.mp h]; exact hw.nm _ hw0m.1
          · rcases List.mem_append.mp hp with h | h
            · exact hpo.lt p h
            · rw [List.mem_singleton.mp h]; exact (by decide : (0 : Nat) < 256)
          · rw [List.length_append, List.length_singleton]; omega
          · rw [List.length_append, List.length_singleton]; omega
          · rw [getN_app ps w0 0 w hw0m.2]
            by_cases e : w = w0
            · rw [if_pos e, e, ← hpg, getN_none hw0m.2]
            · rw [if_neg e]; exact hpg w
      · exact fin0 _ (hb.mono (by omega))
    · exact fin0 _ (hb.mono (by omega))
  rintro env M ⟨b, ms2, rfl, rfl, hb, ho2, hl2, hg2⟩
  have hplain : plainOk (fullD ps) := by
    unfold fullD
    refine ⟨_, toPs_map (g := fun p => .tuple [.str p.1, .int (p.2 : Int)]) (fun _ => rfl) ps, shaped_map (fun p hp => ?_) fun p _ => ?_⟩
    · have hs := nm_sok (hpo.nm p hp)
      simp [PyData.canLay0, PyData.canLayAll0, hs]
    · simp [PyData.depth, PyData.depthAll]
  have hsame : ∀ k2 : Kn, k2.nm = k.nm → (∀ w, k2.sg w = getN ms w) → Same k k2 := fun k2 h1 h2 => ⟨h1.symm, fun w => by rw [h2, hd.sg]⟩
  have fin : ∀ (k2 : Kn) (b' : D), k2.Ok → Same k k2 → PenOk (n + 20) b' → ∀ x : D, retF (M2.length + 1) R k2.obj (b' :: (M2 ++ [x])) := fun k2 b' h1 h2 h3 x => by
    have ht : (b' :: (M2 ++ [x]) : Mt).take (M2.length + 1) = b' :: M2 := by simp
    refine .less (noC_kn _ _) ?_ ?_
    · rw [ht]
      rw [List.all_cons, Bool.and_eq_true] at hM ⊢
      exact ⟨pen_cell h3 _, hM.2⟩
    · rw [ht]; exact q k2 b' h1 h2 h3
  have hmsk : (Kn.msk k.nm ms2).Ok := ⟨hnm, ho2, hl2⟩
  have smsk : Same k (.msk k.nm ms2) := hsame _ rfl hg2
  have mkM : ∀ {M : Mt} {K : D → Mt → Prop} {RX : RXt}, K (Kn.msk k.nm ms2).obj M →
      sp_Masks_init__ [.cel M.length, .str k.nm, .fdc (mkD ms2)] (M ++ [.obj "Masks" []]) (fun d M2' => d = .non ∧ mkEnd M K M2') RX := fun {M K RX} h2 => by
    refine use_Masks_init__ (M0 := M) (nm := k.nm) (ms := ms2) hmsk ?_
    exact ⟨rfl, mkEnd_i (noCF_obj (.msk k.nm ms2) _) h2⟩
  by_cases hone : ps.length = 1
  · obtain ⟨p, rfl⟩ : ∃ p, ps = [p] := List.length_eq_one_iff.mp hone
    have hfd : fullD [p] = [.tup [.str p.1, .int (p.2 : Int)]] := rfl
    rw [hfd]
    walk_at "go"
    refine in_ints (ns := [1, 2, 4, 8, 16, 32, 64, 128]) (.inr rfl) ?_
    rw [if_neg Bool.false_ne_true]
    by_cases hpow : (p.2 : Int) ∈ ([1, 2, 4, 8, 16, 32, 64, 128] : List Int)
    · rw [decide_eq_true hpow]
      obtain ⟨j, hj7, hv, hjx, hjn⟩ := pow_ix hpow
      have hwn : nmV p.1 = true := hpo.nm p List.mem_cons_self
      have hc1 : Conds [p.1] := ⟨by simp, fun c hc => by rw [List.mem_singleton.mp hc]; exact hwn, by simp, by simp⟩
      have hg : ∀ w, getN ms w = if w = p.1 then 2 ^ j else 0 := fun w => by
        rw [← hpg, getN_cons, hv]; rfl
      walk_at "go"
      refine index_ints (ns := [1, 2, 4, 8, 16, 32, 64, 128]) rfl rfl hjx hjn ?_
      walk_at "go"
      rw [hk1]
      walk_at "go"
      refine use_Test_init__ (M0 := (b :: (M2 ++ [.dct (mkD ms2)]))) (nm := k.nm) (c := p.1) (b := j) ⟨hnm, hwn, hj7⟩ ?_
      refine ⟨rfl, mkEnd_i (noCF_obj (.test k.nm p.1 j) _) ?_⟩
      walk_at "go"
      rw [hk1]
      walk_at "go"
      refine use_Window_init__ (M0 := (b :: (M2 ++ [.dct (mkD ms2)]))) (nm := k.nm) (lo := j) (cs := [p.1]) (.inl rfl) hnm hc1 (by rw [List.length_singleton]; omega) ?_
      refine ⟨rfl, mkEnd_i (noCF_obj (.win k.nm j [p.1]) _) ?_⟩
      walk_at "go"
      rw [hk1]
      walk_at "go"
      refine use_AnyOf_init__ (M0 := (b :: (M2 ++ [.dct (mkD ms2)]))) (nm := k.nm) (b := j) (cs := [p.1]) ⟨hnm, hc1, hj7⟩ ?_
      refine ⟨rfl, mkEnd_i (noCF_obj (.any k.nm j [p.1]) _) ?_⟩
      walk_at "go"
      rw [last1]
      dsimp only
      simp only [List.set_cons_succ, List.set_cons_zero]
      rw [un_env4, set0]
      walk_at "go"
      rw [hk1]
      walk_at "go"
      refine use_TestWindow_init__ (M0 := (b :: (M2 ++ [.non]))) (nm := k.nm) (c := p.1) (b := j) (lo := j) (cs := [p.1]) ⟨hnm, hwn, hj7, hc1, by rw [List.length_singleton]; omega⟩ ?_
      refine ⟨rfl, mkEnd_i (noCF_obj (.tw k.nm p.1 j j [p.1]) _) ?_⟩
      walk_at "go"
      rw [hk1]
      walk_at "go"
      refine mkM ?_
      walk_at "go"
      refine use_law_pick hb (by omega) (by simp) (by simp) fun d b hdm hb => ?_
      have hdm : d ∈ [(Kn.test k.nm p.1 j).obj, (Kn.win k.nm j [p.1]).obj, (Kn.any k.nm j [p.1]).obj, (Kn.tw k.nm p.1 j j [p.1]).obj, (Kn.msk k.nm ms2).obj] := hdm
      simp only [List.mem_cons, List.not_mem_nil, or_false] at hdm
      have hl1 : j + [p.1].length ≤ 8 := by rw [List.length_singleton]; omega
      rcases hdm with rfl | rfl | rfl | rfl | rfl
      · exact fin (.test k.nm p.1 j) _ ⟨hnm, hwn, hj7⟩ (hsame _ rfl fun w => by rw [hg]; rfl) (hb.mono (by omega)) _
      · refine fin (.win k.nm j [p.1]) _ ⟨hnm, hc1, hl1⟩ (hsame _ rfl fun w => ?_) (hb.mono (by omega)) _
        rw [hg]
        show (if p.1 = w then 2 ^ j else 0) = _
        by_cases e : w = p.1
        · rw [if_pos e, if_pos e.symm]
        · rw [if_neg e, if_neg (Ne.symm e)]
      · refine fin (.any k.nm j [p.1]) _ ⟨hnm, hc1, hj7⟩ (hsame _ rfl fun w => ?_) (hb.mono (by omega)) _
        rw [hg]
        show (if w ∈ [p.1] then 2 ^ j else 0) = _
        by_cases e : w = p.1
        · rw [if_pos e, if_pos (List.mem_singleton.mpr e)]
        · rw [if_neg e, if_neg fun h => e (List.mem_singleton.mp h)]
      · refine fin (.tw k.nm p.1 j j [p.1]) _ ⟨hnm, hwn, hj7, hc1, hl1⟩ (hsame _ rfl fun w => ?_) (hb.mono (by omega)) _
        rw [hg]
        show (if p.1 = w then 2 ^ j else 0) ||| (if w = p.1 then 2 ^ j else 0) = _
        by_cases e : w = p.1
        · rw [if_pos e, if_pos e.symm, Nat.or_self]
        · rw [if_neg e, if_neg (Ne.symm e)]; rfl
      · exact fin _ _ hmsk smsk (hb.mono (by omega)) _
    · rw [decide_eq_false hpow]
      walk_at "go"
      · exact ⟨by rw [hfd] at hplain; exact hplain⟩
      · rename_i hem; exact absurd hem (by simp)
      rw [last1]
      dsimp only
      rw [un_env4, set1L]
      walk_at "go"
      rw [hk1]
      walk_at "go"
      refine mkM ?_
      exact fin _ _ hmsk smsk (hb.mono (by omega)) _
  · have hfl : ¬ ((fullD ps).length : Int) = 1 := by unfold fullD; rw [List.length_map]; omega
    walk_at "go"
    · rename_i hem _
      refine use_law_draw (many := 2) hb (by omega) (by decide) (by decide) fun dr b hd0 hd1 hb => ?_
      walk_at "go"
      · rw [hk1]
        walk_at "go"
        have hps0 : ps = [] := by
          cases ps with
          | nil => rfl
          | cons p r => exact absurd ‹(fullD (p :: r)).isEmpty = true› (by simp [fullD])
        refine use_Kind_init__ (C := "Kind") (M0 := b :: (M2 ++ [.dct (mkD ms2)])) hnm (by decide) ?_
        refine ⟨rfl, mkEnd_i ?_ ?_⟩
        · exact noCF_obj (.kind k.nm) _
        · refine fin (.kind k.nm) _ hnm (hsame _ rfl fun w => ?_) (hb.mono (by omega)) _
          rw [← hpg, hps0]; rfl
      · rw [last1]
        dsimp only
        rw [un_env4, set1L]
        walk_at "go"
        rw [hk1]
        walk_at "go"
        refine mkM ?_
        exact fin _ _ hmsk smsk (hb.mono (by omega)) _
    · rw [last1]
      dsimp only
      rw [un_env4, set1L]
      walk_at "go"
      rw [hk1]
      walk_at "go"
      refine mkM ?_
      exact fin _ _ hmsk smsk (hb.mono (by omega)) _

/-! _law_is_alone: 0 _law_made_here, 1 _law_kind_here, 2 _law_strange, 3 _law_thing -/
abbrev p_law_is_alone : List Str := ["_law_made_here", "_law_kind_here"]
@[irreducible] def sp_law_is_alone : DSp := fun ds M R _ => ∃ (s : Nat) (nm one : Str) (bit low : Nat) (cs : List Str) (ms : ML) (k : Kn), ds = [k.obj, .lst (kindL s nm one bit low cs ms)] ∧ k.Ok ∧ R (.bl true) M
theorem len_law_is_alone : ∀ ds M R RX, sp_law_is_alone ds M R RX → ds.length = p_law_is_alone.length := by
  unfold sp_law_is_alone; rintro ds M R RX ⟨_, _, _, _, _, _, _, _, rfl, _⟩; rfl
theorem use_law_is_alone {s : Nat} {nm one : Str} {bit low : Nat} {cs : List Str} {ms : ML} {k : Kn} {M : Mt} {R RX} (ok : k.Ok) (q : R (.bl true) M) : sp_law_is_alone [k.obj, .lst (kindL s nm one bit low cs ms)] M R RX := by
  unfold sp_law_is_alone; exact ⟨_, _, _, _, _, _, _, _, rfl, ok, q⟩
def w_law_is_alone (RX : RXe) : WS :=
  (wSeq (wAsg (wLst (wCons (wC .non) (wCons (wC (.int 0)) (wCons (wC (.str "")) (wCons (wOp oIx (wVar 1) (wC (.int 1))) (wCons (wTup wNil) (wCons (wLst wNil) (wCons (wDict0 false) (wCons (wOp oIx (wVar 1) (wC (.int 6))) (wCons (wCB cTuple (wCons (wOp oIx (wVar 1) (wC (.int 5))) wNil)) (wCons (wTup (wCons (wOp oIx (wVar 1) (wC (.int 1))) (wCons (wOp oIx (wVar 1) (wC (.int 6))) wNil))) wNil))))))))))) (gN 2))
    (wRet (wOp (oEqI fun b => b) (wLc (wIt (wVar 2)) [3] (wOrT (wTest (wOp (oEqT false ["Kind", "Test", "Window", "AnyOf", "TestWindow", "Masks"] sp_Kind_eq__ id) (wVar 0) (wVar 3))) (wOrT (wNotT (wTest (wOp (oEqT false ["Kind", "Test", "Window", "AnyOf", "TestWindow", "Masks"] sp_Kind_eq__ (fun b => !b)) (wVar 0) (wVar 3)))) (wTest (wOp (oEqT true ["Kind", "Test", "Window", "AnyOf", "TestWindow", "Masks"] sp_Kind_eq__ id) (wVar 3) (wVar 0))))) (wVar 3) [3]) (wLst wNil))))
theorem wp_law_is_alone : ∀ ds M R RX, sp_law_is_alone ds M R RX → M.all (cellOk M.length) = true → noCels M.length ds = true → w_law_is_alone (fun nm fs _ M' => rxF M.length RX nm fs M') (fnEnds M.length R) (startE 4 ds) M := by
  unfold sp_law_is_alone; rintro ds M R RX ⟨s, nm, one, bit, low, cs, ms, k, rfl, ok, q⟩ hM hds
  obtain ⟨kl, hkl⟩ : ∃ kl, kl = kindL s nm one bit low cs ms := ⟨_, rfl⟩
  have hk1 : L2.atI kl 1 = some (.str nm) := by rw [hkl]; rfl
  have hk5 : L2.atI kl 5 = some (.lst (cs.map D.str)) := by rw [hkl]; rfl
  have hk6 : L2.atI kl 6 = some (.fdc (mkD ms)) := by rw [hkl]; rfl
  rw [← hkl]
  walk_at "go"
  rw [hk1]
  walk_at "go"
  rw [hk6]
  walk_at "go"
  rw [hk5]
  walk_at "go"
  rw [hk1]
  walk_at "go"
  rw [hk6]
  walk_at "go"
  refine KD_use ok rfl ?_
  walk_at "go"
  refine KD_use ok rfl ?_
  walk_at "go"
  refine DK_use ok rfl (by decide) ?_
  walk_at "go"
  refine KD_use ok rfl ?_
  walk_at "go"
  refine KD_use ok rfl ?_
  walk_at "go"
  refine DK_use ok rfl (by decide) ?_
  walk_at "go"
  refine KD_use ok rfl ?_
  walk_at "go"
  refine KD_use ok rfl ?_
  walk_at "go"
  refine DK_use ok rfl (by decide) ?_
  walk_at "go"
  refine KD_use ok rfl ?_
  walk_at "go"
  refine KD_use ok rfl ?_
  walk_at "go"
  refine DK_use ok rfl (by decide) ?_
  walk_at "go"
  refine KD_use ok rfl ?_
  walk_at "go"
  refine KD_use ok rfl ?_
  walk_at "go"
  refine DK_use ok rfl (by decide) ?_
  walk_at "go"
  refine KD_use ok rfl ?_
  walk_at "go"
  refine KD_use ok rfl ?_
  walk_at "go"
  refine DK_use ok rfl (by decide) ?_
  walk_at "go"
  refine KD_use ok rfl ?_
  walk_at "go"
  refine KD_use ok rfl ?_
  walk_at "go"
  refine DK_use ok rfl (by decide) ?_
  walk_at "go"
  refine KD_use ok rfl ?_
  walk_at "go"
  refine KD_use ok rfl ?_
  walk_at "go"
  refine DK_use ok rfl (by decide) ?_
  walk_at "go"
  refine KD_use ok rfl ?_
  walk_at "go"
  refine KD_use ok rfl ?_
  walk_at "go"
  refine DK_use ok rfl (by decide) ?_
  walk_at "go"
  refine KD_use ok rfl ?_
  walk_at "go"
  refine KD_use ok rfl ?_
  walk_at "go"
  refine DK_use ok rfl (by decide) ?_
  walk_at "go"
  · exact ⟨plain_ints []⟩
  exact .keep q

/-! _law_is_kind: 0 _law_made_here, 1 _law_sort -/
abbrev p_law_is_kind : List Str := ["_law_made_here", "_law_sort"]
@[irreducible] def sp_law_is_kind : DSp := fun ds M R _ => ∃ (s : Nat) (nm one : Str) (bit low : Nat) (cs : List Str) (ms : ML), ds = [(mkOf s nm one bit low cs ms).obj, nD s] ∧ s < 6 ∧ R (.bl true) M
theorem len_law_is_kind : ∀ ds M R RX, sp_law_is_kind ds M R RX → ds.length = p_law_is_kind.length := by
  unfold sp_law_is_kind; rintro ds M R RX ⟨_, _, _, _, _, _, _, rfl, _⟩; rfl
theorem use_law_is_kind {s : Nat} {nm one : Str} {bit low : Nat} {cs : List Str} {ms : ML} {M : Mt} {R RX} (hs : s < 6) (k : R (.bl true) M) : sp_law_is_kind [(mkOf s nm one bit low cs ms).obj, nD s] M R RX := by
  unfold sp_law_is_kind; exact ⟨_, _, _, _, _, _, _, rfl, hs, k⟩
def w_law_is_kind : WS :=
  (wSeq (wIfS (wOrT (wNotT (wTru (wCB (cIsOF [("Kind", true), ("Test", true), ("Window", true), ("AnyOf", true), ("TestWindow", true), ("Masks", true)] "Kind") (wCons (wVar 0) (wCons (wC (.cls "Kind")) wNil))))) (wTest (wOp (oEqI fun b => !b) (wCB (cIsOF [("Kind", false), ("Test", true), ("Window", false), ("AnyOf", false), ("TestWindow", true), ("Masks", false)] "Test") (wCons (wVar 0) (wCons (wC (.cls "Test")) wNil))) (wOp (oIn false) (wVar 1) (wTup (wCons (wC (.int 1)) (wCons (wC (.int 4)) wNil))))))) (wRet (wC (.bl false))) wSkip)
    (wSeq (wIfS (wOrT (wTest (wOp (oEqI fun b => !b) (wCB (cIsOF [("Kind", false), ("Test", false), ("Window", true), ("AnyOf", false), ("TestWindow", true), ("Masks", false)] "Window") (wCons (wVar 0) (wCons (wC (.cls "Window")) wNil))) (wOp (oIn false) (wVar 1) (wTup (wCons (wC (.int 2)) (wCons (wC (.int 4)) wNil)))))) (wTest (wOp (oEqI fun b => !b) (wCB (cIsOF [("Kind", false), ("Test", false), ("Window", false), ("AnyOf", false), ("TestWindow", true), ("Masks", false)] "TestWindow") (wCons (wVar 0) (wCons (wC (.cls "TestWindow")) wNil))) (wOp (oEqI fun b => b) (wVar 1) (wC (.int 4)))))) (wRet (wC (.bl false))) wSkip)
    (wRet (wAndV (wOp (oEqI fun b => b) (wCB (cIsOF [("Kind", false), ("Test", false), ("Window", false), ("AnyOf", true), ("TestWindow", false), ("Masks", false)] "AnyOf") (wCons (wVar 0) (wCons (wC (.cls "AnyOf")) wNil))) (wOp (oEqI fun b => b) (wVar 1) (wC (.int 3)))) (wOp (oEqI fun b => b) (wCB (cIsOF [("Kind", false), ("Test", false), ("Window", false), ("AnyOf", false), ("TestWindow", false), ("Masks", true)] "Masks") (wCons (wVar 0) (wCons (wC (.cls "Masks")) wNil))) (wOp (oEqI fun b => b) (wVar 1) (wC (.int 5))))))))
theorem wp_law_is_kind : ∀ ds M R RX, sp_law_is_kind ds M R RX → M.all (cellOk M.length) = true → noCels M.length ds = true → w_law_is_kind (fnEnds M.length R) (startE 2 ds) M := by
  unfold sp_law_is_kind; rintro ds M R RX ⟨s, nm, one, bit, low, cs, ms, rfl, hs, k⟩ hM hds
  obtain ⟨kn, hk⟩ : ∃ kn, kn = mkOf s nm one bit low cs ms := ⟨_, rfl⟩
  rw [← hk]
  have h1 : ([("Kind", true), ("Test", true), ("Window", true), ("AnyOf", true), ("TestWindow", true), ("Masks", true)] : List (Str × Bool)).lookup kn.cn = some true := by cases kn <;> rfl
  have h2 : ([("Kind", false), ("Test", true), ("Window", false), ("AnyOf", false), ("TestWindow", true), ("Masks", false)] : List (Str × Bool)).lookup kn.cn = some (decide ((s : Int) ∈ ([1, 4] : List Int))) := by
    rw [hk]; rcases (by omega : s = 0 ∨ s = 1 ∨ s = 2 ∨ s = 3 ∨ s = 4 ∨ s = 5) with rfl | rfl | rfl | rfl | rfl | rfl <;> rfl
  have h3 : ([("Kind", false), ("Test", false), ("Window", true), ("AnyOf", false), ("TestWindow", true), ("Masks", false)] : List (Str × Bool)).lookup kn.cn = some (decide ((s : Int) ∈ ([2, 4] : List Int))) := by
    rw [hk]; rcases (by omega : s = 0 ∨ s = 1 ∨ s = 2 ∨ s = 3 ∨ s = 4 ∨ s = 5) with rfl | rfl | rfl | rfl | rfl | rfl <;> rfl
  have h4 : ([("Kind", false), ("Test", false), ("Window", false), ("AnyOf", false), ("TestWindow", true), ("Masks", false)] : List (Str × Bool)).lookup kn.cn = some (decide ((s : Int) = 4)) := by
    rw [hk]; rcases (by omega : s = 0 ∨ s = 1 ∨ s = 2 ∨ s = 3 ∨ s = 4 ∨ s = 5) with rfl | rfl | rfl | rfl | rfl | rfl <;> rfl
  have h5 : ([("Kind", false), ("Test", false), ("Window", false), ("AnyOf", true), ("TestWindow", false), ("Masks", false)] : List (Str × Bool)).lookup kn.cn = some (decide ((s : Int) = 3)) := by
    rw [hk]; rcases (by omega : s = 0 ∨ s = 1 ∨ s = 2 ∨ s = 3 ∨ s = 4 ∨ s = 5) with rfl | rfl | rfl | rfl | rfl | rfl <;> rfl
  have h6 : ([("Kind", false), ("Test", false), ("Window", false), ("AnyOf", false), ("TestWindow", false), ("Masks", true)] : List (Str × Bool)).lookup kn.cn = some (decide ((s : Int) = 5)) := by
    rw [hk]; rcases (by omega : s = 0 ∨ s = 1 ∨ s = 2 ∨ s = 3 ∨ s = 4 ∨ s = 5) with rfl | rfl | rfl | rfl | rfl | rfl <;> rfl
  clear hk
  unfold nD
  walk_at "go"
  refine isOF_obj (n := kn.cn) (fs := kn.fs) rfl h1 ?_
  walk_at "go"
  refine isOF_obj (n := kn.cn) (fs := kn.fs) rfl h2 ?_
  walk_at "go"
  refine in_ints (ns := [1, 4]) (.inr rfl) ?_
  rw [if_neg Bool.false_ne_true]
  walk_at "go"
  · first | (rename_i hh; exact absurd trivial hh) | (rename_i h1 h2; exact absurd trivial h1)
  refine isOF_obj (n := kn.cn) (fs := kn.fs) rfl h3 ?_
  walk_at "go"
  refine in_ints (ns := [2, 4]) (.inr rfl) ?_
  rw [if_neg Bool.false_ne_true]
  walk_at "go"
  · first | (rename_i hh; exact absurd trivial hh) | (rename_i h1 h2; exact absurd trivial h1)
  refine isOF_obj (n := kn.cn) (fs := kn.fs) rfl h4 ?_
  walk_at "go"
  · first | (rename_i hh; exact absurd trivial hh) | (rename_i h1 h2; exact absurd trivial h1)
  refine isOF_obj (n := kn.cn) (fs := kn.fs) rfl h5 ?_
  walk_at "go"
  · refine isOF_obj (n := kn.cn) (fs := kn.fs) rfl h6 ?_
    walk_at "go"
    refine .keep ?_
    rw [decide_eq_true rfl]; exact k
  · first | (rename_i hh; exact absurd trivial hh) | (rename_i h1 h2; exact absurd trivial h1)
/-! law: 0 _law_script, 1 _law_pen_here, 2 _law_rows, 3 _law_turn, 4 _law_words, 5 _law_titles, 6 _law_kind_here, 7 _law_made_here, 8 _law_other, 9 _law_more, 10 _law_twin, 11 _law_due -/
abbrev p_law : List Str := ["_law_script"]
structure Rw where
  s : Nat
  nm : Str
  one : Str
  bit : Nat
  low : Nat
  cs : List Str
  ms : ML
def Rw.kn (r : Rw) : Kn := mkOf r.s r.nm r.one r.bit r.low r.cs r.ms
def Rw.kl (r : Rw) : List D := kindL r.s r.nm r.one r.bit r.low r.cs r.ms
def Rw.d (r : Rw) : D := .tup [.lst r.kl, r.kn.obj]
structure RwOk (r : Rw) : Prop where
  dr : Drawn r.kn r.ms
  l5 : r.ms.length ≤ 5
  nm : r.kn.nm = r.nm
theorem mkOf_nm (s : Nat) (nm one : Str) (bit low : Nat) (cs : List Str) (ms : ML) : (mkOf s nm one bit low cs ms).nm = nm := by
  unfold mkOf
  split
  · rfl
  · split
    · rfl
    · split
      · rfl
      · split
        · rfl
        · split <;> rfl
theorem atI_last {α : Type} (l : List α) (x : α) : L2.atI (l ++ [x]) (-1) = some x := by
  have e : ixN (l ++ [x]).length (-1) = some l.length := by
    unfold ixN
    rw [if_neg (by decide), List.length_append, List.length_singleton]
    rw [if_pos (by omega)]
    congr 1
    omega
  unfold L2.atI
  rw [e]
  show (l ++ [x])[l.length]? = some x
  simp
theorem rpB (a b c : Bool) : RpOk (.list [.bool a, .bool b, .bool c]) := by
  refine rpOk_of rfl ?_ (by simp [wtP, wtA])
  simp [PyData.depth, PyData.depthAll]
def pN (p : Str × Nat) : PyData := .tuple [.str p.1, .int (p.2 : Int)]
theorem toPs_full (qs : ML) : toPs (fullD qs) = some (qs.map pN) := toPs_map (fun _ => rfl) qs
theorem shaped_full {qs : ML} (h : ∀ p ∈ qs, nmV p.1 = true) : SeqAt.shaped (.list (qs.map pN)) = true := by
  refine shaped_map (fun p hp => ?_) fun p _ => ?_
  · have hs := nm_sok (h p hp)
    simp [pN, PyData.canLay0, PyData.canLayAll0, hs]
  · simp [pN, PyData.depth, PyData.depthAll]
theorem Full.mem_of {ms qs : ML} (h : Full ms qs) {p : Str × Nat} (hp : p ∈ qs) : p ∈ ms := (List.mem_filter.mp (h.perm.subset hp)).1
theorem full_get {ms ms2 qs qs2 : ML} (nd : (ms.map (·.1)).Nodup) (nd2 : (ms2.map (·.1)).Nodup) (h : Full ms qs) (h2 : Full ms2 qs2) (e : qs = qs2) : ∀ w, getN ms w = getN ms2 w := fun w => by
  rw [← nz_get nd (nz_of nd h.perm), ← nz_get nd2 (nz_of nd2 h2.perm), e]
theorem asc_uniq : ∀ {l m : ML}, SrtO.Srtd (fun x y : Str × Nat => ltTx x.1 y.1) l → SrtO.Srtd (fun x y : Str × Nat => ltTx x.1 y.1) m → (l.map (·.1)).Nodup → l.Perm m → l = m
  | [], m, _, _, _, h => (List.Perm.eq_nil h.symm).symm
  | x :: l, [], _, _, _, h => absurd h.length_eq (by simp)
  | x :: l, y :: m, hl, hm, nd, h => by
    have e : x = y := by
      rcases List.mem_cons.mp (h.mem_iff.mp (List.mem_cons_self (a := x) (l := l))) with e | hx
      · exact e
      · rcases List.mem_cons.mp (h.mem_iff.mpr (List.mem_cons_self (a := y) (l := m))) with e | hy
        · exact e.symm
        · have a : ltTx y.1 x.1 = false := (List.pairwise_cons.mp hl).1 y hy
          have b : ltTx x.1 y.1 = false := (List.pairwise_cons.mp hm).1 x hx
          have ek : x.1 = y.1 := TL.ext_tl (List.le_antisymm (of_decide_eq_false a) (of_decide_eq_false b))
          exact nodup_inj nd x List.mem_cons_self y (List.mem_cons_of_mem _ hy) ek
    subst e
    rw [List.map_cons, List.nodup_cons] at nd
    rw [asc_uniq (List.pairwise_cons.mp hl).2 (List.pairwise_cons.mp hm).2 nd.2 h.cons_inv]
theorem perm_of_mem : ∀ {l m : ML}, l.Nodup → m.Nodup → (∀ p, p ∈ l ↔ p ∈ m) → l.Perm m
  | [], m, _, _, h => by
    cases m with
    | nil => exact List.Perm.refl _
    | cons a r => exact absurd ((h a).mpr List.mem_cons_self) (by simp)
  | a :: r, m, hl, hm, h => by
    rw [List.nodup_cons] at hl
    have ha := (h a).mp List.mem_cons_self
    have hp := List.perm_cons_erase ha
    refine (List.Perm.cons a (perm_of_mem hl.2 (hm.erase a) fun p => ?_)).trans hp.symm
    constructor
    · intro hpr
      have hne : p ≠ a := fun e => hl.1 (by rw [← e]; exact hpr)
      exact (List.mem_erase_of_ne hne).mpr ((h p).mp (List.mem_cons_of_mem _ hpr))
    · intro hpe
      have hne : p ≠ a := fun e => by
        rw [e] at hpe
        exact (List.Nodup.not_mem_erase hm) hpe
      rcases List.mem_cons.mp ((h p).mpr (List.mem_of_mem_erase hpe)) with e | h2
      · exact absurd e hne
      · exact h2
theorem nd_of_map {l : ML} (h : (l.map (·.1)).Nodup) : l.Nodup := by
  induction l with
  | nil => exact List.nodup_nil
  | cons a r ih =>
    rw [List.map_cons, List.nodup_cons] at h
    exact List.nodup_cons.mpr ⟨fun hm => h.1 (List.mem_map_of_mem hm), ih h.2⟩
theorem full_uniq {ms ms2 qs qs2 : ML} (nd : (ms.map (·.1)).Nodup) (nd2 : (ms2.map (·.1)).Nodup) (h : Full ms qs) (h2 : Full ms2 qs2) (hg : ∀ w, getN ms w = getN ms2 w) : qs = qs2 := by
  have n1 := nz_of nd h.perm
  have n2 := nz_of nd2 h2.perm
  refine asc_uniq h.asc h2.asc n1.nd (perm_of_mem (nd_of_map n1.nd) (nd_of_map n2.nd) fun p => ?_)
  have key : ∀ {a b : ML}, (a.map (·.1)).Nodup → (b.map (·.1)).Nodup → (∀ w, getN a w = getN b w) → ∀ p : Str × Nat, (p ∈ a ∧ p.2 ≠ 0) → (p ∈ b ∧ p.2 ≠ 0) := fun {a b} na nb he p ⟨hp, hz⟩ => by
    refine ⟨?_, hz⟩
    have e : getN b p.1 = p.2 := by rw [← he, getN_p na hp]
    by_cases hk : p.1 ∈ b.map (·.1)
    · obtain ⟨q, hq, e2⟩ := List.mem_map.mp hk
      have : getN b q.1 = q.2 := getN_p nb hq
      rw [e2, e] at this
      have : p = q := Prod.ext e2.symm this
      rw [this]; exact hq
    · rw [getN_none hk] at e; exact absurd e.symm hz
  rw [n1.mem, n2.mem]
  exact ⟨key nd nd2 hg p, key nd2 nd (fun w => (hg w).symm) p⟩
theorem full_eqv : ∀ l m : ML, PyData.eqvAll (l.map pN) (m.map pN) = decide (l = m)
  | [], [] => by simp [PyData.eqvAll]
  | [], _ :: _ => by simp [PyData.eqvAll]
  | _ :: _, [] => by simp [PyData.eqvAll]
  | a :: r, b :: s => by
    have ih := full_eqv r s
    rw [List.map_cons, List.map_cons]
    unfold PyData.eqvAll
    rw [ih]
    have e : PyData.eqv (pN a) (pN b) = decide (a = b) := by
      obtain ⟨a1, a2⟩ := a
      obtain ⟨b1, b2⟩ := b
      simp only [pN, PyData.eqv, PyData.eqvAll, Bool.and_true]
      by_cases h1 : a1 = b1
      · by_cases h2 : a2 = b2
        · simp [h1, h2]
        · have : ¬ (a2 : Int) = (b2 : Int) := by omega
          simp [h1, h2, this]
      · simp [h1]
    rw [e]
    by_cases h1 : a = b
    · subst h1
      by_cases h2 : r = s
      · simp [h2]
      · simp [h2]
    · simp [h1]
@[irreducible] def sp_law : DSp := fun ds M R _ => ∃ ns : List Int, ds = [.rol (ns.map D.int)] ∧ M = [] ∧ ∀ M, R (.bl true) M
theorem len_law : ∀ ds M R RX, sp_law ds M R RX → ds.length = p_law.length := by
  unfold sp_law; rintro ds M R RX ⟨_, rfl, _⟩; rfl
theorem law_start (ns : List Int) (hl : ns.length ≤ 63) (R : D → Mt → Prop) (RX : RXt) (h : ∀ M, R (.bl true) M) : sp_law [.rol (ns.map D.int)] [] R RX := by
  unfold sp_law; exact ⟨ns, rfl, rfl, h⟩
def w_law (RX : RXe) : WS :=
  (wSeq (wAsg (wCall sp_law_pen [] RX0 (wCons (wVar 0) wNil)) (gN 1))
    (wSeq (wPar 4 5 (wCons (wCall sp_law_names [] RX0 (wCons (wVar 1) (wCons (wC (.int 7)) wNil))) (wCons (wCall sp_law_names [] RX0 (wCons (wVar 1) (wCons (wC (.int 3)) wNil))) wNil)))
    (wSeq (wAsg (wLstM wNil) (gN 2))
    (wSeq (wFor (wRng1 (wCons (wC (.int 12)) wNil)) (gN 3) (wSeq (wAsg (wCall sp_law_kind [] RX0 (wCons (wVar 1) (wCons (wCall sp_law_pick [] RX0 (wCons (wVar 1) (wCons (wVar 5) wNil))) (wCons (wSl (wVar 4) wNoP (wP (wOp oAdd (wC (.int 1)) (wCall sp_law_draw [] RX0 (wCons (wVar 1) (wCons (wC (.int 5)) wNil)))))) (wCons (wOp oAdd (wC (.int 1)) (wCall sp_law_draw [] RX0 (wCons (wVar 1) (wCons (wC (.int 8)) wNil)))) wNil))))) (gN 6))
    (wSeq (wExp (wBM "list" mAppend (wVar 2) (wCons (wTup (wCons (wVar 6) (wCons (wCall sp_law_made [] RX0 (wCons (wVar 6) wNil)) wNil))) wNil)))
    (wIfS (wNotT (wTru (wCall sp_law_is_kind [] RX0 (wCons (wOp oIx (wOp oIx (wVar 2) (wNeg (wC (.int 1)))) (wC (.int 1))) (wCons (wOp oIx (wVar 6) (wC (.int 0))) wNil))))) (wRet (wC (.bl false))) wSkip))))
    (wSeq (wFrz 2 (wFor (wIt (wVar 2)) (gT 2 (gsCons (gN 6) (gsCons (gN 7) gsNil))) (wSeq (wAsg (wCall sp_law_alike [] RX0 (wCons (wVar 1) (wCons (wVar 6) (wCons (wVar 4) wNil)))) (gN 8))
    (wSeq (wIfS (wOrT (wNotT (wTest (wOp (oEqT false ["Kind", "Test", "Window", "AnyOf", "TestWindow", "Masks"] sp_Kind_eq__ id) (wVar 7) (wVar 8)))) (wOrT (wNotT (wTest (wOp (oEqT false ["Kind", "Test", "Window", "AnyOf", "TestWindow", "Masks"] sp_Kind_eq__ id) (wVar 8) (wVar 7)))) (wOrT (wTest (wOp (oEqT false ["Kind", "Test", "Window", "AnyOf", "TestWindow", "Masks"] sp_Kind_eq__ (fun b => !b)) (wVar 7) (wVar 8))) (wNotT (wTru (wCallX sp_law_is_alone [] RX (wCons (wVar 7) (wCons (wVar 6) wNil)))))))) (wRet (wC (.bl false))) wSkip)
    (wFor (wIt (wVar 2)) (gT 2 (gsCons (gN 9) (gsCons (gN 10) gsNil))) (wSeq (wAsg (wAndV (wOp (oEqI fun b => b) (wOp oIx (wVar 6) (wC (.int 1))) (wOp oIx (wVar 9) (wC (.int 1)))) (wOp (oEqI fun b => b) (wCall sp_law_full [] RX0 (wCons (wOp oIx (wVar 6) (wC (.int 6))) wNil)) (wCall sp_law_full [] RX0 (wCons (wOp oIx (wVar 9) (wC (.int 6))) wNil)))) (gN 11))
    (wIfS (wTest (wOp (oEqI fun b => !b) (wCB cReprC (wCons (wLst (wCons (wOp (oEqT false ["Kind", "Test", "Window", "AnyOf", "TestWindow", "Masks"] sp_Kind_eq__ id) (wVar 7) (wVar 10)) (wCons (wOp (oEqT false ["Kind", "Test", "Window", "AnyOf", "TestWindow", "Masks"] sp_Kind_eq__ (fun b => !b)) (wVar 7) (wVar 10)) (wCons (wOp (oEqT false ["Kind", "Test", "Window", "AnyOf", "TestWindow", "Masks"] sp_Kind_eq__ id) (wVar 8) (wVar 10)) wNil)))) wNil)) (wCB cReprC (wCons (wLst (wCons (wVar 11) (wCons (wNotV (wVar 11)) (wCons (wVar 11) wNil)))) wNil)))) (wRet (wC (.bl false))) wSkip)))))))
    (wRet (wC (.bl true))))))))
theorem wp_law : ∀ ds M R RX, sp_law ds M R RX → M.all (cellOk M.length) = true → noCels M.length ds = true → w_law (fun nm fs _ M' => rxF M.length RX nm fs M') (fnEnds M.length R) (startE 12 ds) M := by
  unfold sp_law; rintro ds M R RX ⟨ns, rfl, rfl, k⟩ _ _
  walk_at "go"
  refine use_law_pen fun b hb => ?_
  walk_at "go"
  refine use_law_names (m := 7) hb (by omega) (by omega) fun ws b hws hwl hb => ?_
  walk_at "go"
  refine use_law_names (m := 3) hb (by omega) (by omega) fun ts b hts htl hb => ?_
  walk_at "go"
  refine forL_inv (fun i env M => ∃ (b : D) (rs : List Rw) (G : Mt) (e3 e6 : Option D), env = [some (.rol (ns.map D.int)), some (.cel 0), some (.cel 1), e3, some (.lst (ws.map D.str)), some (.lst (ts.map D.str)), e6, none, none, none, none, none] ∧
    M = b :: .lst (rs.map Rw.d) :: G ∧ PenOk (100 + 100 * i) b ∧ (∀ r ∈ rs, RwOk r) ∧ rs.length = i) ⟨b, [], [], none, none, rfl, rfl, hb.mono (by omega), by simp, rfl⟩ ?_ ?_
  · rintro i d env M hd ⟨b, rs, G, e3, e6, rfl, rfl, hb, hrs, hrl⟩
    obtain ⟨hi, rfl⟩ := range_get hd
    have hi12 : i < 12 := by omega
    clear hd
    walk_at "go"
    refine use_law_pick hb (by omega) (by rw [List.length_map]; omega) (by rw [List.length_map]; omega) fun nm_ b hnm hb => ?_
    obtain ⟨nm, hnt, rfl⟩ := List.mem_map.mp hnm
    have hn := hts.nm nm hnt
    walk_at "go"
    refine use_law_draw hb (by omega) (by decide) (by decide) fun d_ b hd0 hd1 hb => ?_
    obtain ⟨d, rfl⟩ : ∃ d : Nat, d_ = d := ⟨d_.toNat, by omega⟩
    walk_at "go"
    rw [show (1 + (d : Int)) = ((d + 1 : Nat) : Int) by omega, cut_take, ← List.map_take]
    have hcd : Conds (ws.take (d + 1)) := ⟨List.Nodup.sublist (List.take_sublist _ _) hws.nd, fun c hc => hws.nm c (List.mem_of_mem_take hc), by rw [List.length_take]; omega, by rw [List.length_take]; omega⟩
    walk_at "go"
    refine use_law_draw hb (by omega) (by decide) (by decide) fun w_ b hw0 hw1 hb => ?_
    obtain ⟨wd, rfl⟩ : ∃ wd : Nat, w_ = wd := ⟨w_.toNat, by omega⟩
    walk_at "go"
    rw [show D.int (1 + (wd : Int)) = nD (wd + 1) from by unfold nD; congr 1; omega]
    refine use_law_kind hb (by omega) hn hcd (by omega) (by omega) fun s one bit low cs ms b hk hb => ?_
    walk_at "go"
    refine use_law_made hk.s6 hk.dr.ok ?_
    obtain ⟨r, hr⟩ : ∃ r : Rw, r = ⟨s, nm, one, bit, low, cs, ms⟩ := ⟨_, rfl⟩
    have hrok : RwOk r := by rw [hr]; exact ⟨hk.dr, hk.l5, mkOf_nm _ _ _ _ _ _ _⟩
    have hG : (b :: (D.lst (List.map Rw.d rs) :: G ++ [D.non]) : Mt) = b :: .lst (rs.map Rw.d) :: (G ++ [.non]) := rfl
    rw [hG]
    walk_at "go"
    refine app_use (n := 1) (l := rs.map Rw.d) rfl (by rw [List.length_map, hrl, line16]; omega) ?_
    rw [show (b :: .lst (rs.map Rw.d) :: (G ++ [.non]) : Mt).set 1 (.lst (rs.map Rw.d ++ [.tup [.lst (kindL s nm one bit low cs ms), (mkOf s nm one bit low cs ms).obj]])) = b :: .lst ((rs ++ [r]).map Rw.d) :: (G ++ [.non]) from by rw [List.map_append, hr]; rfl]
    walk_at "go"
    rw [show L2.atI ((rs ++ [r]).map Rw.d) (-1) = some (.tup [.lst (kindL s nm one bit low cs ms), (mkOf s nm one bit low cs ms).obj]) from by rw [List.map_append]; rw [show List.map Rw.d [r] = [r.d] from rfl, atI_last, hr]; rfl]
    walk_at "go"
    refine use_law_is_kind hk.s6 ?_
    walk_at "go"
    refine ⟨b, rs ++ [r], G ++ [.non], _, _, rfl, rfl, hb.mono (by omega), fun x hx => ?_, by rw [List.length_append, hrl]; rfl⟩
    rcases List.mem_append.mp hx with h | h
    · exact hrs x h
    · rw [List.mem_singleton.mp h]; exact hrok
  · rintro env M ⟨b, rs, G, e3, e6, rfl, rfl, hb, hrs, hrl⟩
    walk_at "go"
    rw [show (rangeD 0 (Int.toNat 12)).length = 12 by simp [rangeD]] at hb hrl
    simp only [frz, List.getElem?_cons_succ, List.getElem?_cons_zero, List.set_cons_succ, List.set_cons_zero]
    walk_at "go"
    refine forL_inv (fun i env M => ∃ (b : D) (e3 e6 e7 e8 e9 e10 e11 : Option D) (G : Mt), env = [some (.rol (ns.map D.int)), some (.cel 0), some (.lst (rs.map Rw.d)), e3, some (.lst (ws.map D.str)), some (.lst (ts.map D.str)), e6, e7, e8, e9, e10, e11] ∧
      M = b :: G ∧ PenOk (2000 + 100 * i) b) ⟨b, _, _, none, none, none, none, none, _, rfl, rfl, hb.mono (by omega)⟩ ?_ ?_
    · rintro i d env M hd ⟨b, e3, e6, e7, e8, e9, e10, e11, G, rfl, rfl, hb⟩
      rw [List.getElem?_map] at hd
      obtain ⟨r, hr, rfl⟩ := Option.map_eq_some_iff.mp hd
      have hrm := List.mem_of_getElem? hr
      have ho := hrs r hrm
      have hi : i < 12 := by have := (List.getElem?_eq_some_iff.mp hr).1; omega
      rw [show r.d = .tup [.lst r.kl, r.kn.obj] from rfl]
      have hkl : r.kl = kindL r.s r.kn.nm r.one r.bit r.low r.cs r.ms := by unfold Rw.kl; rw [ho.nm]
      have hal : ∀ {R : D → Mt → Prop} {RX : RXt}, (∀ (k2 : Kn) (b' : D), k2.Ok → Same r.kn k2 → PenOk (2000 + 100 * i + 20) b' → R k2.obj (b' :: G)) → sp_law_alike [.cel 0, .lst r.kl, .lst (ws.map D.str)] (b :: G) R RX := fun q => by
        rw [hkl]; exact use_law_alike hb (by omega) ho.dr ho.l5 hws hwl q
      have halo : ∀ {M : Mt} {R : D → Mt → Prop} {RX : RXt}, R (.bl true) M → sp_law_is_alone [r.kn.obj, .lst r.kl] M R RX := fun q => by
        rw [hkl]; exact use_law_is_alone ho.dr.ok q
      have hk1 : ∀ x : Rw, L2.atI x.kl 1 = some (.str x.nm) := fun x => rfl
      have hk6 : ∀ x : Rw, L2.atI x.kl 6 = some (.fdc (mkD x.ms)) := fun x => rfl
      walk_at "go"
      refine hal fun k2 b ok2 hs2 hb => ?_
      have hs3 : eqK r.kn k2 = true := eqK_yes hs2
      have hs4 : eqK k2 r.kn = true := eqK_yes hs2.symm
      have hs5 : ∀ x : Kn, eqK k2 x = eqK r.kn x := fun x => by
        by_cases h : Same r.kn x
        · rw [eqK_yes h, eqK_yes ⟨hs2.1.symm.trans h.1, fun w => (hs2.2 w).symm.trans (h.2 w)⟩]
        · rw [eqK_no h, eqK_no fun h' => h ⟨hs2.1.trans h'.1, fun w => (hs2.2 w).trans (h'.2 w)⟩]
      walk_at "go"
      refine KK_use ho.dr.ok ok2 ?_
      rw [hs3]
      walk_at "go"
      refine KK_use ok2 ho.dr.ok ?_
      rw [hs4]
      walk_at "go"
      refine KK_use ho.dr.ok ok2 ?_
      rw [hs3]
      walk_at "go"
      refine halo ?_
      walk_at "go"
      refine forL_inv (fun _ env M => ∃ (e9 e10 e11 : Option D), env = [some (.rol (ns.map D.int)), some (.cel 0), some (.lst (rs.map Rw.d)), e3, some (.lst (ws.map D.str)), some (.lst (ts.map D.str)), some (.lst r.kl), some r.kn.obj, some k2.obj, e9, e10, e11] ∧ M = b :: G) ⟨_, _, _, rfl, rfl⟩ ?_ ?_
      · rintro i2 d env M hd2 ⟨e9, e10, e11, rfl, rfl⟩
        rw [List.getElem?_map] at hd2
        obtain ⟨r2, hr2, rfl⟩ := Option.map_eq_some_iff.mp hd2
        have ho2 := hrs r2 (List.mem_of_getElem? hr2)
        rw [show r2.d = .tup [.lst r2.kl, r2.kn.obj] from rfl]
        have heq : eqK r.kn r2.kn = true ↔ (r.nm = r2.nm ∧ ∀ w, getN r.ms w = getN r2.ms w) := by
          constructor
          · intro h
            by_cases hs : Same r.kn r2.kn
            · exact ⟨by rw [← ho.nm, ← ho2.nm]; exact hs.1, fun w => by rw [← ho.dr.sg, ← ho2.dr.sg]; exact hs.2 w⟩
            · rw [eqK_no hs] at h; cases h
          · rintro ⟨h1, h2⟩
            exact eqK_yes ⟨by rw [ho.nm, ho2.nm]; exact h1, fun w => by rw [ho.dr.sg, ho2.dr.sg]; exact h2 w⟩
        walk_at "go"
        · rename_i hn
          refine use_law_full ho.dr.mo.nd (by have := ho.l5; omega) fun qs hq => ?_
          walk_at "go"
          refine use_law_full ho2.dr.mo.nd (by have := ho2.l5; omega) fun qs2 hq2 => ?_
          refine eqI_lsts (l := fullD qs) (m := fullD qs2) rfl rfl (toPs_full qs) (toPs_full qs2) (shaped_full fun p hp => ho.dr.mo.nm p (hq.mem_of hp)) (shaped_full fun p hp => ho2.dr.mo.nm p (hq2.mem_of hp)) ?_
          rw [full_eqv]
          have hbd : decide (qs = qs2) = eqK r.kn r2.kn := by
            by_cases h : qs = qs2
            · rw [decide_eq_true h]
              exact (heq.mpr ⟨hn, full_get ho.dr.mo.nd ho2.dr.mo.nd hq hq2 h⟩).symm
            · rw [decide_eq_false h]
              cases hb2 : eqK r.kn r2.kn with
              | false => rfl
              | true => exact absurd (full_uniq ho.dr.mo.nd ho2.dr.mo.nd hq hq2 (heq.mp hb2).2) h
          rw [hbd]
          cases hE : eqK r.kn r2.kn with
          | true =>
            walk_at "go"
            have hs6 := hs5 r2.kn
            rw [hE] at hs6
            refine KK_use ho.dr.ok ho2.dr.ok ?_
            rw [hE]
            walk_at "go"
            refine KK_use ho.dr.ok ho2.dr.ok ?_
            rw [hE]
            walk_at "go"
            refine KK_use ok2 ho2.dr.ok ?_
            rw [hs6]
            walk_at "go"
            refine reprC_use (p := .list [.bool _, .bool _, .bool _]) rfl (rpB _ _ _) ?_
            walk_at "go"
            refine reprC_use (p := .list [.bool _, .bool _, .bool _]) rfl (rpB _ _ _) ?_
            walk_at "go"
            exact ⟨_, _, _, rfl, rfl⟩
          | false =>
            walk_at "go"
            have hs6 := hs5 r2.kn
            rw [hE] at hs6
            refine KK_use ho.dr.ok ho2.dr.ok ?_
            rw [hE]
            walk_at "go"
            refine KK_use ho.dr.ok ho2.dr.ok ?_
            rw [hE]
            walk_at "go"
            refine KK_use ok2 ho2.dr.ok ?_
            rw [hs6]
            walk_at "go"
            refine reprC_use (p := .list [.bool _, .bool _, .bool _]) rfl (rpB _ _ _) ?_
            walk_at "go"
            refine reprC_use (p := .list [.bool _, .bool _, .bool _]) rfl (rpB _ _ _) ?_
            walk_at "go"
            exact ⟨_, _, _, rfl, rfl⟩
        · rename_i hn
          have hE : eqK r.kn r2.kn = false := by
            cases hb2 : eqK r.kn r2.kn with
            | false => rfl
            | true => exact absurd (heq.mp hb2).1 hn
          have hs6 := hs5 r2.kn
          rw [hE] at hs6
          refine KK_use ho.dr.ok ho2.dr.ok ?_
          rw [hE]
          walk_at "go"
          refine KK_use ho.dr.ok ho2.dr.ok ?_
          rw [hE]
          walk_at "go"
          refine KK_use ok2 ho2.dr.ok ?_
          rw [hs6]
          walk_at "go"
          refine reprC_use (p := .list [.bool _, .bool _, .bool _]) rfl (rpB _ _ _) ?_
          walk_at "go"
          refine reprC_use (p := .list [.bool _, .bool _, .bool _]) rfl (rpB _ _ _) ?_
          walk_at "go"
          exact ⟨_, _, _, rfl, rfl⟩
      · rintro env M ⟨e9, e10, e11, rfl, rfl⟩
        exact ⟨b, _, _, _, _, _, _, _, G, rfl, rfl, hb.mono (by omega)⟩
    · rintro env M ⟨b, e3, e6, e7, e8, e9, e10, e11, G, rfl, rfl, hb⟩
      walk_at "go"
      exact .keep (k _)



def topS (i : Nat) : Stmt := PySem.Challenge.pw_orplaces_k14_kinds_that_are_equal.main.body.getD i (.Pass ⟨0, 0, 0, 0⟩)
abbrev PROG : Program := PySem.Challenge.pw_orplaces_k14_kinds_that_are_equal
abbrev s_is_integer : Stmt := topS 5
abbrev N_is_integer : List Str := ["value"]
theorem sc_is_integer : FnScope N_is_integer p_is_integer (defScope s_is_integer) := ⟨rfl, rfl, rfl, by decide +kernel, rfl, by decide +kernel, by decide +kernel⟩
abbrev s_is_between : Stmt := topS 6
abbrev N_is_between : List Str := ["value", "least", "most"]
theorem sc_is_between : FnScope N_is_between p_is_between (defScope s_is_between) := ⟨rfl, rfl, rfl, by decide +kernel, rfl, by decide +kernel, by decide +kernel⟩
abbrev s_is_name : Stmt := topS 12
abbrev N_is_name : List Str := ["value", "sign"]
theorem sc_is_name : FnScope N_is_name p_is_name (defScope s_is_name) := ⟨rfl, rfl, rfl, by decide +kernel, rfl, by decide +kernel, by decide +kernel⟩
abbrev s_are_conditions : Stmt := topS 17
abbrev N_are_conditions : List Str := ["values", "value"]
theorem sc_are_conditions : FnScope N_are_conditions p_are_conditions (defScope s_are_conditions) := ⟨rfl, rfl, rfl, by decide +kernel, rfl, by decide +kernel, by decide +kernel⟩
abbrev s_need : Stmt := topS 18
abbrev N_need : List Str := ["is_right", "part"]
theorem sc_need : FnScope N_need p_need (defScope s_need) := ⟨rfl, rfl, rfl, by decide +kernel, rfl, by decide +kernel, by decide +kernel⟩
abbrev s_Kind_init__ : Stmt := (inClass (topS 19) 1)
abbrev N_Kind_init__ : List Str := ["self", "name"]
theorem sc_Kind_init__ : FnScope N_Kind_init__ p_Kind_init__ (defScope s_Kind_init__) := ⟨rfl, rfl, rfl, by decide +kernel, rfl, by decide +kernel, by decide +kernel⟩
abbrev s_Kind_single : Stmt := (inClass (topS 19) 2)
abbrev N_Kind_single : List Str := ["self", "condition"]
theorem sc_Kind_single : FnScope N_Kind_single p_Kind_single (defScope s_Kind_single) := ⟨rfl, rfl, rfl, by decide +kernel, rfl, by decide +kernel, by decide +kernel⟩
abbrev s_Kind_may_set : Stmt := (inClass (topS 19) 3)
abbrev N_Kind_may_set : List Str := ["self"]
theorem sc_Kind_may_set : FnScope N_Kind_may_set p_Kind_may_set (defScope s_Kind_may_set) := ⟨rfl, rfl, rfl, by decide +kernel, rfl, by decide +kernel, by decide +kernel⟩
abbrev s_AnyOf_may_set : Stmt := (inClass (topS 22) 3)
abbrev N_AnyOf_may_set : List Str := ["self"]
theorem sc_AnyOf_may_set : SScope N_AnyOf_may_set p_AnyOf_may_set (defScope s_AnyOf_may_set) := ⟨rfl, rfl, rfl, by decide +kernel, rfl, by decide +kernel, by decide +kernel, by decide +kernel⟩
abbrev s_AnyOf_single : Stmt := (inClass (topS 22) 2)
abbrev N_AnyOf_single : List Str := ["self", "condition", "own"]
theorem sc_AnyOf_single : SScope N_AnyOf_single p_AnyOf_single (defScope s_AnyOf_single) := ⟨rfl, rfl, rfl, by decide +kernel, rfl, by decide +kernel, by decide +kernel, by decide +kernel⟩
abbrev s_Masks_may_set : Stmt := (inClass (topS 24) 2)
abbrev N_Masks_may_set : List Str := ["self"]
theorem sc_Masks_may_set : SScope N_Masks_may_set p_Masks_may_set (defScope s_Masks_may_set) := ⟨rfl, rfl, rfl, by decide +kernel, rfl, by decide +kernel, by decide +kernel, by decide +kernel⟩
abbrev s_Masks_single : Stmt := (inClass (topS 24) 1)
abbrev N_Masks_single : List Str := ["self", "condition"]
theorem sc_Masks_single : SScope N_Masks_single p_Masks_single (defScope s_Masks_single) := ⟨rfl, rfl, rfl, by decide +kernel, rfl, by decide +kernel, by decide +kernel, by decide +kernel⟩
abbrev s_Window_may_set : Stmt := (inClass (topS 21) 3)
abbrev N_Window_may_set : List Str := ["self"]
theorem sc_Window_may_set : SScope N_Window_may_set p_Window_may_set (defScope s_Window_may_set) := ⟨rfl, rfl, rfl, by decide +kernel, rfl, by decide +kernel, by decide +kernel, by decide +kernel⟩
abbrev s_Test_may_set : Stmt := (inClass (topS 20) 2)
abbrev N_Test_may_set : List Str := ["self"]
theorem sc_Test_may_set : SScope N_Test_may_set p_Test_may_set (defScope s_Test_may_set) := ⟨rfl, rfl, rfl, by decide +kernel, rfl, by decide +kernel, by decide +kernel, by decide +kernel⟩
abbrev s_Window_single : Stmt := (inClass (topS 21) 2)
abbrev N_Window_single : List Str := ["self", "condition", "own", "index", "name"]
theorem sc_Window_single : SScope N_Window_single p_Window_single (defScope s_Window_single) := ⟨rfl, rfl, rfl, by decide +kernel, rfl, by decide +kernel, by decide +kernel, by decide +kernel⟩
abbrev s_Test_single : Stmt := (inClass (topS 20) 1)
abbrev N_Test_single : List Str := ["self", "condition", "own"]
theorem sc_Test_single : SScope N_Test_single p_Test_single (defScope s_Test_single) := ⟨rfl, rfl, rfl, by decide +kernel, rfl, by decide +kernel, by decide +kernel, by decide +kernel⟩
abbrev s_Kind_masks : Stmt := (inClass (topS 19) 7)
abbrev N_Kind_masks : List Str := ["self", "named", "condition"]
theorem sc_Kind_masks : FnScope N_Kind_masks p_Kind_masks (defScope s_Kind_masks) := ⟨rfl, rfl, rfl, by decide +kernel, rfl, by decide +kernel, by decide +kernel⟩
abbrev s_Kind_eq__ : Stmt := (inClass (topS 19) 8)
abbrev N_Kind_eq__ : List Str := ["self", "other"]
theorem sc_Kind_eq__ : FnScope N_Kind_eq__ p_Kind_eq__ (defScope s_Kind_eq__) := ⟨rfl, rfl, rfl, by decide +kernel, rfl, by decide +kernel, by decide +kernel⟩
abbrev s_Window_init__ : Stmt := (inClass (topS 21) 0)
abbrev N_Window_init__ : List Str := ["self", "name", "low", "conditions"]
theorem sc_Window_init__ : SScope N_Window_init__ p_Window_init__ (defScope s_Window_init__) := ⟨rfl, rfl, rfl, by decide +kernel, rfl, by decide +kernel, by decide +kernel, by decide +kernel⟩
abbrev s_Test_init__ : Stmt := (inClass (topS 20) 0)
abbrev N_Test_init__ : List Str := ["self", "name", "condition", "bit", "rest"]
theorem sc_Test_init__ : SScope N_Test_init__ p_Test_init__ (defScope s_Test_init__) := ⟨rfl, rfl, rfl, by decide +kernel, rfl, by decide +kernel, by decide +kernel, by decide +kernel⟩
abbrev s_Window_of : Stmt := (inClass (topS 21) 1)
abbrev N_Window_of : List Str := ["name", "low", "conditions"]
theorem sc_Window_of : FnScope N_Window_of p_Window_of (defScope s_Window_of) := ⟨rfl, rfl, rfl, by decide +kernel, rfl, by decide +kernel, by decide +kernel⟩
abbrev s_AnyOf_init__ : Stmt := (inClass (topS 22) 0)
abbrev N_AnyOf_init__ : List Str := ["self", "name", "bit", "conditions"]
theorem sc_AnyOf_init__ : SScope N_AnyOf_init__ p_AnyOf_init__ (defScope s_AnyOf_init__) := ⟨rfl, rfl, rfl, by decide +kernel, rfl, by decide +kernel, by decide +kernel, by decide +kernel⟩
abbrev s_AnyOf_of : Stmt := (inClass (topS 22) 1)
abbrev N_AnyOf_of : List Str := ["name", "bit", "conditions"]
theorem sc_AnyOf_of : FnScope N_AnyOf_of p_AnyOf_of (defScope s_AnyOf_of) := ⟨rfl, rfl, rfl, by decide +kernel, rfl, by decide +kernel, by decide +kernel⟩
abbrev s_TestWindow_init__ : Stmt := (inClass (topS 23) 0)
abbrev N_TestWindow_init__ : List Str := ["self", "name", "condition", "bit", "low", "conditions"]
theorem sc_TestWindow_init__ : SScope N_TestWindow_init__ p_TestWindow_init__ (defScope s_TestWindow_init__) := ⟨rfl, rfl, rfl, by decide +kernel, rfl, by decide +kernel, by decide +kernel, by decide +kernel⟩
abbrev s_Masks_init__ : Stmt := (inClass (topS 24) 0)
abbrev N_Masks_init__ : List Str := ["self", "name", "masks", "condition"]
theorem sc_Masks_init__ : SScope N_Masks_init__ p_Masks_init__ (defScope s_Masks_init__) := ⟨rfl, rfl, rfl, by decide +kernel, rfl, by decide +kernel, by decide +kernel, by decide +kernel⟩
abbrev s_law_pen : Stmt := topS 26
abbrev N_law_pen : List Str := ["_law_script"]
theorem sc_law_pen : FnScope N_law_pen p_law_pen (defScope s_law_pen) := ⟨rfl, rfl, rfl, by decide +kernel, rfl, by decide +kernel, by decide +kernel⟩
abbrev s_law_draw : Stmt := topS 27
abbrev N_law_draw : List Str := ["_law_pen_here", "_law_many", "_law_at", "_law_cell", "_law_mixed_here", "_law_digit", "_law_great"]
theorem sc_law_draw : FnScope N_law_draw p_law_draw (defScope s_law_draw) := ⟨rfl, rfl, rfl, by decide +kernel, rfl, by decide +kernel, by decide +kernel⟩
abbrev s_law_pick : Stmt := topS 28
abbrev N_law_pick : List Str := ["_law_pen_here", "_law_some"]
theorem sc_law_pick : FnScope N_law_pick p_law_pick (defScope s_law_pick) := ⟨rfl, rfl, rfl, by decide +kernel, rfl, by decide +kernel, by decide +kernel⟩
abbrev s_law_mixed : Stmt := topS 29
abbrev N_law_mixed : List Str := ["_law_pen_here", "_law_some", "_law_left", "_law_k"]
theorem sc_law_mixed : FnScope N_law_mixed p_law_mixed (defScope s_law_mixed) := ⟨rfl, rfl, rfl, by decide +kernel, rfl, by decide +kernel, by decide +kernel⟩
abbrev s_law_names : Stmt := topS 30
abbrev N_law_names : List Str := ["_law_pen_here", "_law_many", "_law_letters", "_law_size", "_law_signs", "_law_base", "_law_at", "_law_found", "_law_k", "_law_start", "_law_hop", "_law_word"]
theorem sc_law_names : FnScope N_law_names p_law_names (defScope s_law_names) := ⟨rfl, rfl, rfl, by decide +kernel, rfl, by decide +kernel, by decide +kernel⟩
abbrev s_law_kind : Stmt := topS 31
abbrev N_law_kind : List Str := ["_law_pen_here", "_law_title", "_law_given", "_law_wide", "_law_sort", "_law_some", "_law_lowest", "_law_sign", "_law_one", "_law_shares", "_law_at", "_law_word"]
theorem sc_law_kind : FnScope N_law_kind p_law_kind (defScope s_law_kind) := ⟨rfl, rfl, rfl, by decide +kernel, rfl, by decide +kernel, by decide +kernel⟩
abbrev s_law_both : Stmt := topS 32
abbrev N_law_both : List Str := ["_law_title", "_law_one", "_law_sign", "_law_lowest", "_law_some"]
theorem sc_law_both : FnScope N_law_both p_law_both (defScope s_law_both) := ⟨rfl, rfl, rfl, by decide +kernel, rfl, by decide +kernel, by decide +kernel⟩
abbrev s_law_made : Stmt := topS 33
abbrev N_law_made : List Str := ["_law_kind_here", "_law_sort", "_law_title", "_law_one", "_law_sign", "_law_lowest", "_law_some", "_law_shares"]
theorem sc_law_made : FnScope N_law_made p_law_made (defScope s_law_made) := ⟨rfl, rfl, rfl, by decide +kernel, rfl, by decide +kernel, by decide +kernel⟩
abbrev s_law_full : Stmt := topS 35
abbrev N_law_full : List Str := ["_law_shares", "_law_word"]
theorem sc_law_full : FnScope N_law_full p_law_full (defScope s_law_full) := ⟨rfl, rfl, rfl, by decide +kernel, rfl, by decide +kernel, by decide +kernel⟩
abbrev s_law_alike : Stmt := topS 36
abbrev N_law_alike : List Str := ["_law_pen_here", "_law_kind_here", "_law_words", "_law_pairs", "_law_shares", "_law_at", "_law_word", "_law_some"]
theorem sc_law_alike : FnScope N_law_alike p_law_alike (defScope s_law_alike) := ⟨rfl, rfl, rfl, by decide +kernel, rfl, by decide +kernel, by decide +kernel⟩
abbrev s_law_is_alone : Stmt := topS 37
abbrev N_law_is_alone : List Str := ["_law_made_here", "_law_kind_here", "_law_strange", "_law_thing"]
theorem sc_law_is_alone : FnScope N_law_is_alone p_law_is_alone (defScope s_law_is_alone) := ⟨rfl, rfl, rfl, by decide +kernel, rfl, by decide +kernel, by decide +kernel⟩
abbrev s_law_is_kind : Stmt := topS 38
abbrev N_law_is_kind : List Str := ["_law_made_here", "_law_sort"]
theorem sc_law_is_kind : FnScope N_law_is_kind p_law_is_kind (defScope s_law_is_kind) := ⟨rfl, rfl, rfl, by decide +kernel, rfl, by decide +kernel, by decide +kernel⟩
abbrev s_law : Stmt := topS 39
abbrev N_law : List Str := ["_law_script", "_law_pen_here", "_law_rows", "_law_turn", "_law_words", "_law_titles", "_law_kind_here", "_law_made_here", "_law_other", "_law_more", "_law_twin", "_law_due"]
theorem sc_law : FnScope N_law p_law (defScope s_law) := ⟨rfl, rfl, rfl, by decide +kernel, rfl, by decide +kernel, by decide +kernel⟩
set_option genInjectivity false in
set_option genSizeOf false in
/-- what the top has written -/
structure Tx (P : Program) (K : PySem.W.Frag) (mg : Str → Option Value) where
  sm : P.main = PROG.main
  {C_AnyOf : Addr}
  m_AnyOf : mg "AnyOf" = some (.ref C_AnyOf)
  at_AnyOf : ClsAt K "AnyOf" C_AnyOf
  {C_Kind : Addr}
  m_Kind : mg "Kind" = some (.ref C_Kind)
  at_Kind : ClsAt K "Kind" C_Kind
  {C_Masks : Addr}
  m_Masks : mg "Masks" = some (.ref C_Masks)
  at_Masks : ClsAt K "Masks" C_Masks
  {C_Test : Addr}
  m_Test : mg "Test" = some (.ref C_Test)
  at_Test : ClsAt K "Test" C_Test
  {C_TestWindow : Addr}
  m_TestWindow : mg "TestWindow" = some (.ref C_TestWindow)
  at_TestWindow : ClsAt K "TestWindow" C_TestWindow
  {C_Window : Addr}
  m_Window : mg "Window" = some (.ref C_Window)
  at_Window : ClsAt K "Window" C_Window
  cl_AnyOf : Cls K C_AnyOf
  cl_Kind : Cls K C_Kind
  cl_Masks : Cls K C_Masks
  cl_Test : Cls K C_Test
  cl_TestWindow : Cls K C_TestWindow
  cl_Window : Cls K C_Window
  inf_AnyOf : InsF K C_AnyOf
  inf_Kind : InsF K C_Kind
  inf_Masks : InsF K C_Masks
  inf_Test : InsF K C_Test
  inf_TestWindow : InsF K C_TestWindow
  inf_Window : InsF K C_Window
  isc_AnyOf : PySem.W.kitOne K (.type "NoneType") (.ref C_AnyOf) = some false
  isc_Kind : PySem.W.kitOne K (.type "NoneType") (.ref C_Kind) = some false
  isc_Masks : PySem.W.kitOne K (.type "NoneType") (.ref C_Masks) = some false
  isc_Test : PySem.W.kitOne K (.type "NoneType") (.ref C_Test) = some false
  isc_TestWindow : PySem.W.kitOne K (.type "NoneType") (.ref C_TestWindow) = some false
  isc_Window : PySem.W.kitOne K (.type "NoneType") (.ref C_Window) = some false
  kitC_AnyOf_AnyOf : PySem.W.kitOne K (.ref C_AnyOf) (.ref C_AnyOf) = some true
  kitC_AnyOf_Kind : PySem.W.kitOne K (.ref C_AnyOf) (.ref C_Kind) = some true
  kitC_AnyOf_Masks : PySem.W.kitOne K (.ref C_AnyOf) (.ref C_Masks) = some false
  kitC_AnyOf_Test : PySem.W.kitOne K (.ref C_AnyOf) (.ref C_Test) = some false
  kitC_AnyOf_TestWindow : PySem.W.kitOne K (.ref C_AnyOf) (.ref C_TestWindow) = some false
  kitC_AnyOf_Window : PySem.W.kitOne K (.ref C_AnyOf) (.ref C_Window) = some false
  kitC_Kind_AnyOf : PySem.W.kitOne K (.ref C_Kind) (.ref C_AnyOf) = some false
  kitC_Kind_Kind : PySem.W.kitOne K (.ref C_Kind) (.ref C_Kind) = some true
  kitC_Kind_Masks : PySem.W.kitOne K (.ref C_Kind) (.ref C_Masks) = some false
  kitC_Kind_Test : PySem.W.kitOne K (.ref C_Kind) (.ref C_Test) = some false
  kitC_Kind_TestWindow : PySem.W.kitOne K (.ref C_Kind) (.ref C_TestWindow) = some false
  kitC_Kind_Window : PySem.W.kitOne K (.ref C_Kind) (.ref C_Window) = some false
  kitC_Masks_AnyOf : PySem.W.kitOne K (.ref C_Masks) (.ref C_AnyOf) = some false
  kitC_Masks_Kind : PySem.W.kitOne K (.ref C_Masks) (.ref C_Kind) = some true
  kitC_Masks_Masks : PySem.W.kitOne K (.ref C_Masks) (.ref C_Masks) = some true
  kitC_Masks_Test : PySem.W.kitOne K (.ref C_Masks) (.ref C_Test) = some false
  kitC_Masks_TestWindow : PySem.W.kitOne K (.ref C_Masks) (.ref C_TestWindow) = some false
  kitC_Masks_Window : PySem.W.kitOne K (.ref C_Masks) (.ref C_Window) = some false
  kitC_Test_AnyOf : PySem.W.kitOne K (.ref C_Test) (.ref C_AnyOf) = some false
  kitC_Test_Kind : PySem.W.kitOne K (.ref C_Test) (.ref C_Kind) = some true
  kitC_Test_Masks : PySem.W.kitOne K (.ref C_Test) (.ref C_Masks) = some false
  kitC_Test_Test : PySem.W.kitOne K (.ref C_Test) (.ref C_Test) = some true
  kitC_Test_TestWindow : PySem.W.kitOne K (.ref C_Test) (.ref C_TestWindow) = some false
  kitC_Test_Window : PySem.W.kitOne K (.ref C_Test) (.ref C_Window) = some false
  kitC_TestWindow_AnyOf : PySem.W.kitOne K (.ref C_TestWindow) (.ref C_AnyOf) = some false
  kitC_TestWindow_Kind : PySem.W.kitOne K (.ref C_TestWindow) (.ref C_Kind) = some true
  kitC_TestWindow_Masks : PySem.W.kitOne K (.ref C_TestWindow) (.ref C_Masks) = some false
  kitC_TestWindow_Test : PySem.W.kitOne K (.ref C_TestWindow) (.ref C_Test) = some true
  kitC_TestWindow_TestWindow : PySem.W.kitOne K (.ref C_TestWindow) (.ref C_TestWindow) = some true
  kitC_TestWindow_Window : PySem.W.kitOne K (.ref C_TestWindow) (.ref C_Window) = some true
  kitC_Window_AnyOf : PySem.W.kitOne K (.ref C_Window) (.ref C_AnyOf) = some false
  kitC_Window_Kind : PySem.W.kitOne K (.ref C_Window) (.ref C_Kind) = some true
  kitC_Window_Masks : PySem.W.kitOne K (.ref C_Window) (.ref C_Masks) = some false
  kitC_Window_Test : PySem.W.kitOne K (.ref C_Window) (.ref C_Test) = some false
  kitC_Window_TestWindow : PySem.W.kitOne K (.ref C_Window) (.ref C_TestWindow) = some false
  kitC_Window_Window : PySem.W.kitOne K (.ref C_Window) (.ref C_Window) = some true
  {f_Kind_masks : Addr}
  mev_AnyOf_masks : Meth K C_AnyOf "masks" f_Kind_masks
  {f_AnyOf_may_set : Addr}
  mev_AnyOf_may_set : Meth K C_AnyOf "may_set" f_AnyOf_may_set
  {f_AnyOf_single : Addr}
  mev_AnyOf_single : Meth K C_AnyOf "single" f_AnyOf_single
  mev_Kind_masks : Meth K C_Kind "masks" f_Kind_masks
  {f_Kind_may_set : Addr}
  mev_Kind_may_set : Meth K C_Kind "may_set" f_Kind_may_set
  {f_Kind_single : Addr}
  mev_Kind_single : Meth K C_Kind "single" f_Kind_single
  mev_Masks_masks : Meth K C_Masks "masks" f_Kind_masks
  {f_Masks_may_set : Addr}
  mev_Masks_may_set : Meth K C_Masks "may_set" f_Masks_may_set
  {f_Masks_single : Addr}
  mev_Masks_single : Meth K C_Masks "single" f_Masks_single
  mev_Test_masks : Meth K C_Test "masks" f_Kind_masks
  {f_Test_may_set : Addr}
  mev_Test_may_set : Meth K C_Test "may_set" f_Test_may_set
  {f_Test_single : Addr}
  mev_Test_single : Meth K C_Test "single" f_Test_single
  mev_TestWindow_masks : Meth K C_TestWindow "masks" f_Kind_masks
  mev_TestWindow_may_set : Meth K C_TestWindow "may_set" f_Test_may_set
  mev_TestWindow_single : Meth K C_TestWindow "single" f_Test_single
  mev_Window_masks : Meth K C_Window "masks" f_Kind_masks
  {f_Window_may_set : Addr}
  mev_Window_may_set : Meth K C_Window "may_set" f_Window_may_set
  {f_Window_single : Addr}
  mev_Window_single : Meth K C_Window "single" f_Window_single
  {f_AnyOf_init__ : Addr}
  mk_AnyOf : Mk K C_AnyOf f_AnyOf_init__
  {f_Kind_init__ : Addr}
  mk_Kind : Mk K C_Kind f_Kind_init__
  {f_Masks_init__ : Addr}
  mk_Masks : Mk K C_Masks f_Masks_init__
  {f_Test_init__ : Addr}
  mk_Test : Mk K C_Test f_Test_init__
  {f_TestWindow_init__ : Addr}
  mk_TestWindow : Mk K C_TestWindow f_TestWindow_init__
  {f_Window_init__ : Addr}
  mk_Window : Mk K C_Window f_Window_init__
  na_AnyOf_bit : NoAttr K C_AnyOf "bit"
  na_AnyOf_name : NoAttr K C_AnyOf "name"
  na_AnyOf_own_conditions : NoAttr K C_AnyOf "own_conditions"
  na_Kind_name : NoAttr K C_Kind "name"
  na_Masks_name : NoAttr K C_Masks "name"
  na_Masks_own_masks : NoAttr K C_Masks "own_masks"
  na_Test_bit : NoAttr K C_Test "bit"
  na_Test_condition : NoAttr K C_Test "condition"
  na_Test_name : NoAttr K C_Test "name"
  na_TestWindow_bit : NoAttr K C_TestWindow "bit"
  na_TestWindow_condition : NoAttr K C_TestWindow "condition"
  na_TestWindow_low : NoAttr K C_TestWindow "low"
  na_TestWindow_name : NoAttr K C_TestWindow "name"
  na_TestWindow_own_conditions : NoAttr K C_TestWindow "own_conditions"
  na_Window_low : NoAttr K C_Window "low"
  na_Window_name : NoAttr K C_Window "name"
  na_Window_own_conditions : NoAttr K C_Window "own_conditions"
  nec_AnyOf : NeC K C_AnyOf
  nec_Kind : NeC K C_Kind
  nec_Masks : NeC K C_Masks
  nec_Test : NeC K C_Test
  nec_TestWindow : NeC K C_TestWindow
  nec_Window : NeC K C_Window
  {f_Kind_eq__ : Addr}
  ocv_AnyOf___eq__ : OpC K C_AnyOf "__eq__" f_Kind_eq__
  fnv_Kind_eq__ : PySem.W.fnIn K f_Kind_eq__ = true
  ocv_Kind___eq__ : OpC K C_Kind "__eq__" f_Kind_eq__
  ocv_Masks___eq__ : OpC K C_Masks "__eq__" f_Kind_eq__
  ocv_Test___eq__ : OpC K C_Test "__eq__" f_Kind_eq__
  ocv_TestWindow___eq__ : OpC K C_TestWindow "__eq__" f_Kind_eq__
  ocv_Window___eq__ : OpC K C_Window "__eq__" f_Kind_eq__
  cr_AnyOf : ClX.CRead K C_AnyOf (.type "type")
  {sp_a_AnyOf_of : Addr}
  {f_AnyOf_of : Addr}
  sm_AnyOf_of : SMet K C_AnyOf (.type "type") "of" sp_a_AnyOf_of f_AnyOf_of
  cr_Window : ClX.CRead K C_Window (.type "type")
  {sp_a_Window_of : Addr}
  {f_Window_of : Addr}
  sm_Window_of : SMet K C_Window (.type "type") "of" sp_a_Window_of f_Window_of
  smK : SmK K
  sup_AnyOf_AnyOf___init__ : SupM K C_AnyOf C_AnyOf "__init__" f_Kind_init__
  sup_AnyOf_AnyOf_may_set : SupM K C_AnyOf C_AnyOf "may_set" f_Kind_may_set
  sup_AnyOf_AnyOf_single : SupM K C_AnyOf C_AnyOf "single" f_Kind_single
  sup_Masks_Masks___init__ : SupM K C_Masks C_Masks "__init__" f_Kind_init__
  sup_Masks_Masks_may_set : SupM K C_Masks C_Masks "may_set" f_Kind_may_set
  sup_Masks_Masks_single : SupM K C_Masks C_Masks "single" f_Kind_single
  sup_Test_Test___init__ : SupM K C_Test C_Test "__init__" f_Kind_init__
  sup_Test_Test_may_set : SupM K C_Test C_Test "may_set" f_Kind_may_set
  sup_Test_Test_single : SupM K C_Test C_Test "single" f_Kind_single
  sup_TestWindow_Test___init__ : SupM K C_TestWindow C_Test "__init__" f_Window_init__
  sup_TestWindow_Test_may_set : SupM K C_TestWindow C_Test "may_set" f_Window_may_set
  sup_TestWindow_Test_single : SupM K C_TestWindow C_Test "single" f_Window_single
  sup_TestWindow_TestWindow___init__ : SupM K C_TestWindow C_TestWindow "__init__" f_Test_init__
  sup_TestWindow_Window___init__ : SupM K C_TestWindow C_Window "__init__" f_Kind_init__
  sup_TestWindow_Window_may_set : SupM K C_TestWindow C_Window "may_set" f_Kind_may_set
  sup_TestWindow_Window_single : SupM K C_TestWindow C_Window "single" f_Kind_single
  sup_Window_Window___init__ : SupM K C_Window C_Window "__init__" f_Kind_init__
  sup_Window_Window_may_set : SupM K C_Window C_Window "may_set" f_Kind_may_set
  sup_Window_Window_single : SupM K C_Window C_Window "single" f_Kind_single
  tre : L3.treB K [C_Kind, C_Test, C_Window, C_AnyOf, C_TestWindow, C_Masks] = true
  {f_is_integer : Addr}
  g_is_integer : mg "is_integer" = some (.ref f_is_integer)
  {oc_is_integer kV_is_integer dc_is_integer pm_is_integer cd_is_integer ct_is_integer : Value}
  {od_is_integer an_is_integer : Option Addr}
  {sl_is_integer : Array (Option Value)}
  l_is_integer : K.lookup f_is_integer = some ⟨oc_is_integer, od_is_integer, .func (PySem.W.fnOf "is_integer" "is_integer" (defArgs s_is_integer) (defBody s_is_integer) (defScope s_is_integer) .none kV_is_integer dc_is_integer pm_is_integer an_is_integer cd_is_integer ct_is_integer), sl_is_integer⟩
  c_is_integer : PySem.W.codeIn K cd_is_integer "is_integer" = true
  k_is_integer : PySem.W.keepIn K (.ref f_is_integer) = true
  {f_is_between : Addr}
  g_is_between : mg "is_between" = some (.ref f_is_between)
  {oc_is_between kV_is_between dc_is_between pm_is_between cd_is_between ct_is_between : Value}
  {od_is_between an_is_between : Option Addr}
  {sl_is_between : Array (Option Value)}
  l_is_between : K.lookup f_is_between = some ⟨oc_is_between, od_is_between, .func (PySem.W.fnOf "is_between" "is_between" (defArgs s_is_between) (defBody s_is_between) (defScope s_is_between) .none kV_is_between dc_is_between pm_is_between an_is_between cd_is_between ct_is_between), sl_is_between⟩
  c_is_between : PySem.W.codeIn K cd_is_between "is_between" = true
  k_is_between : PySem.W.keepIn K (.ref f_is_between) = true
  {f_is_name : Addr}
  g_is_name : mg "is_name" = some (.ref f_is_name)
  {oc_is_name kV_is_name dc_is_name pm_is_name cd_is_name ct_is_name : Value}
  {od_is_name an_is_name : Option Addr}
  {sl_is_name : Array (Option Value)}
  l_is_name : K.lookup f_is_name = some ⟨oc_is_name, od_is_name, .func (PySem.W.fnOf "is_name" "is_name" (defArgs s_is_name) (defBody s_is_name) (defScope s_is_name) .none kV_is_name dc_is_name pm_is_name an_is_name cd_is_name ct_is_name), sl_is_name⟩
  c_is_name : PySem.W.codeIn K cd_is_name "is_name" = true
  k_is_name : PySem.W.keepIn K (.ref f_is_name) = true
  {f_are_conditions : Addr}
  g_are_conditions : mg "are_conditions" = some (.ref f_are_conditions)
  {oc_are_conditions kV_are_conditions dc_are_conditions pm_are_conditions cd_are_conditions ct_are_conditions : Value}
  {od_are_conditions an_are_conditions : Option Addr}
  {sl_are_conditions : Array (Option Value)}
  l_are_conditions : K.lookup f_are_conditions = some ⟨oc_are_conditions, od_are_conditions, .func (PySem.W.fnOf "are_conditions" "are_conditions" (defArgs s_are_conditions) (defBody s_are_conditions) (defScope s_are_conditions) .none kV_are_conditions dc_are_conditions pm_are_conditions an_are_conditions cd_are_conditions ct_are_conditions), sl_are_conditions⟩
  c_are_conditions : PySem.W.codeIn K cd_are_conditions "are_conditions" = true
  k_are_conditions : PySem.W.keepIn K (.ref f_are_conditions) = true
  {f_need : Addr}
  g_need : mg "need" = some (.ref f_need)
  {oc_need kV_need dc_need pm_need cd_need ct_need : Value}
  {od_need an_need : Option Addr}
  {sl_need : Array (Option Value)}
  l_need : K.lookup f_need = some ⟨oc_need, od_need, .func (PySem.W.fnOf "need" "need" (defArgs s_need) (defBody s_need) (defScope s_need) .none kV_need dc_need pm_need an_need cd_need ct_need), sl_need⟩
  c_need : PySem.W.codeIn K cd_need "need" = true
  k_need : PySem.W.keepIn K (.ref f_need) = true
  {oc_Kind_init__ kV_Kind_init__ dc_Kind_init__ pm_Kind_init__ cd_Kind_init__ ct_Kind_init__ : Value}
  {od_Kind_init__ an_Kind_init__ : Option Addr}
  {sl_Kind_init__ : Array (Option Value)}
  l_Kind_init__ : K.lookup f_Kind_init__ = some ⟨oc_Kind_init__, od_Kind_init__, .func (PySem.W.fnOf "__init__" "Kind.__init__" (defArgs s_Kind_init__) (defBody s_Kind_init__) (defScope s_Kind_init__) .none kV_Kind_init__ dc_Kind_init__ pm_Kind_init__ an_Kind_init__ cd_Kind_init__ ct_Kind_init__), sl_Kind_init__⟩
  c_Kind_init__ : PySem.W.codeIn K cd_Kind_init__ "Kind.__init__" = true
  k_Kind_init__ : PySem.W.keepIn K (.ref f_Kind_init__) = true
  {oc_Kind_single kV_Kind_single dc_Kind_single pm_Kind_single cd_Kind_single ct_Kind_single : Value}
  {od_Kind_single an_Kind_single : Option Addr}
  {sl_Kind_single : Array (Option Value)}
  l_Kind_single : K.lookup f_Kind_single = some ⟨oc_Kind_single, od_Kind_single, .func (PySem.W.fnOf "single" "Kind.single" (defArgs s_Kind_single) (defBody s_Kind_single) (defScope s_Kind_single) .none kV_Kind_single dc_Kind_single pm_Kind_single an_Kind_single cd_Kind_single ct_Kind_single), sl_Kind_single⟩
  c_Kind_single : PySem.W.codeIn K cd_Kind_single "Kind.single" = true
  k_Kind_single : PySem.W.keepIn K (.ref f_Kind_single) = true
  {oc_Kind_may_set kV_Kind_may_set dc_Kind_may_set pm_Kind_may_set cd_Kind_may_set ct_Kind_may_set : Value}
  {od_Kind_may_set an_Kind_may_set : Option Addr}
  {sl_Kind_may_set : Array (Option Value)}
  l_Kind_may_set : K.lookup f_Kind_may_set = some ⟨oc_Kind_may_set, od_Kind_may_set, .func (PySem.W.fnOf "may_set" "Kind.may_set" (defArgs s_Kind_may_set) (defBody s_Kind_may_set) (defScope s_Kind_may_set) .none kV_Kind_may_set dc_Kind_may_set pm_Kind_may_set an_Kind_may_set cd_Kind_may_set ct_Kind_may_set), sl_Kind_may_set⟩
  c_Kind_may_set : PySem.W.codeIn K cd_Kind_may_set "Kind.may_set" = true
  k_Kind_may_set : PySem.W.keepIn K (.ref f_Kind_may_set) = true
  {oc_AnyOf_may_set kV_AnyOf_may_set dc_AnyOf_may_set pm_AnyOf_may_set cd_AnyOf_may_set ct_AnyOf_may_set : Value}
  {od_AnyOf_may_set an_AnyOf_may_set : Option Addr}
  {sl_AnyOf_may_set : Array (Option Value)}
  {cc_AnyOf_may_set : Addr}
  l_AnyOf_may_set : K.lookup f_AnyOf_may_set = some ⟨oc_AnyOf_may_set, od_AnyOf_may_set, .func (PySem.W.ksFn "may_set" "AnyOf.may_set" (defArgs s_AnyOf_may_set) (defBody s_AnyOf_may_set) (defScope s_AnyOf_may_set) .none kV_AnyOf_may_set dc_AnyOf_may_set pm_AnyOf_may_set an_AnyOf_may_set cd_AnyOf_may_set ct_AnyOf_may_set cc_AnyOf_may_set), sl_AnyOf_may_set⟩
  c_AnyOf_may_set : PySem.W.codeIn K cd_AnyOf_may_set "AnyOf.may_set" = true
  k_AnyOf_may_set : PySem.W.keepIn K (.ref f_AnyOf_may_set) = true
  su_AnyOf_may_set : SuF K PROG f_AnyOf_may_set cc_AnyOf_may_set C_AnyOf cd_AnyOf_may_set "self"
  {oc_AnyOf_single kV_AnyOf_single dc_AnyOf_single pm_AnyOf_single cd_AnyOf_single ct_AnyOf_single : Value}
  {od_AnyOf_single an_AnyOf_single : Option Addr}
  {sl_AnyOf_single : Array (Option Value)}
  {cc_AnyOf_single : Addr}
  l_AnyOf_single : K.lookup f_AnyOf_single = some ⟨oc_AnyOf_single, od_AnyOf_single, .func (PySem.W.ksFn "single" "AnyOf.single" (defArgs s_AnyOf_single) (defBody s_AnyOf_single) (defScope s_AnyOf_single) .none kV_AnyOf_single dc_AnyOf_single pm_AnyOf_single an_AnyOf_single cd_AnyOf_single ct_AnyOf_single cc_AnyOf_single), sl_AnyOf_single⟩
  c_AnyOf_single : PySem.W.codeIn K cd_AnyOf_single "AnyOf.single" = true
  k_AnyOf_single : PySem.W.keepIn K (.ref f_AnyOf_single) = true
  su_AnyOf_single : SuF K PROG f_AnyOf_single cc_AnyOf_single C_AnyOf cd_AnyOf_single "self"
  {oc_Masks_may_set kV_Masks_may_set dc_Masks_may_set pm_Masks_may_set cd_Masks_may_set ct_Masks_may_set : Value}
  {od_Masks_may_set an_Masks_may_set : Option Addr}
  {sl_Masks_may_set : Array (Option Value)}
  {cc_Masks_may_set : Addr}
  l_Masks_may_set : K.lookup f_Masks_may_set = some ⟨oc_Masks_may_set, od_Masks_may_set, .func (PySem.W.ksFn "may_set" "Masks.may_set" (defArgs s_Masks_may_set) (defBody s_Masks_may_set) (defScope s_Masks_may_set) .none kV_Masks_may_set dc_Masks_may_set pm_Masks_may_set an_Masks_may_set cd_Masks_may_set ct_Masks_may_set cc_Masks_may_set), sl_Masks_may_set⟩
  c_Masks_may_set : PySem.W.codeIn K cd_Masks_may_set "Masks.may_set" = true
  k_Masks_may_set : PySem.W.keepIn K (.ref f_Masks_may_set) = true
  su_Masks_may_set : SuF K PROG f_Masks_may_set cc_Masks_may_set C_Masks cd_Masks_may_set "self"
  {oc_Masks_single kV_Masks_single dc_Masks_single pm_Masks_single cd_Masks_single ct_Masks_single : Value}
  {od_Masks_single an_Masks_single : Option Addr}
  {sl_Masks_single : Array (Option Value)}
  {cc_Masks_single : Addr}
  l_Masks_single : K.lookup f_Masks_single = some ⟨oc_Masks_single, od_Masks_single, .func (PySem.W.ksFn "single" "Masks.single" (defArgs s_Masks_single) (defBody s_Masks_single) (defScope s_Masks_single) .none kV_Masks_single dc_Masks_single pm_Masks_single an_Masks_single cd_Masks_single ct_Masks_single cc_Masks_single), sl_Masks_single⟩
  c_Masks_single : PySem.W.codeIn K cd_Masks_single "Masks.single" = true
  k_Masks_single : PySem.W.keepIn K (.ref f_Masks_single) = true
  su_Masks_single : SuF K PROG f_Masks_single cc_Masks_single C_Masks cd_Masks_single "self"
  {oc_Window_may_set kV_Window_may_set dc_Window_may_set pm_Window_may_set cd_Window_may_set ct_Window_may_set : Value}
  {od_Window_may_set an_Window_may_set : Option Addr}
  {sl_Window_may_set : Array (Option Value)}
  {cc_Window_may_set : Addr}
  l_Window_may_set : K.lookup f_Window_may_set = some ⟨oc_Window_may_set, od_Window_may_set, .func (PySem.W.ksFn "may_set" "Window.may_set" (defArgs s_Window_may_set) (defBody s_Window_may_set) (defScope s_Window_may_set) .none kV_Window_may_set dc_Window_may_set pm_Window_may_set an_Window_may_set cd_Window_may_set ct_Window_may_set cc_Window_may_set), sl_Window_may_set⟩
  c_Window_may_set : PySem.W.codeIn K cd_Window_may_set "Window.may_set" = true
  k_Window_may_set : PySem.W.keepIn K (.ref f_Window_may_set) = true
  su_Window_may_set : SuF K PROG f_Window_may_set cc_Window_may_set C_Window cd_Window_may_set "self"
  {oc_Test_may_set kV_Test_may_set dc_Test_may_set pm_Test_may_set cd_Test_may_set ct_Test_may_set : Value}
  {od_Test_may_set an_Test_may_set : Option Addr}
  {sl_Test_may_set : Array (Option Value)}
  {cc_Test_may_set : Addr}
  l_Test_may_set : K.lookup f_Test_may_set = some ⟨oc_Test_may_set, od_Test_may_set, .func (PySem.W.ksFn "may_set" "Test.may_set" (defArgs s_Test_may_set) (defBody s_Test_may_set) (defScope s_Test_may_set) .none kV_Test_may_set dc_Test_may_set pm_Test_may_set an_Test_may_set cd_Test_may_set ct_Test_may_set cc_Test_may_set), sl_Test_may_set⟩
  c_Test_may_set : PySem.W.codeIn K cd_Test_may_set "Test.may_set" = true
  k_Test_may_set : PySem.W.keepIn K (.ref f_Test_may_set) = true
  su_Test_may_set : SuF K PROG f_Test_may_set cc_Test_may_set C_Test cd_Test_may_set "self"
  {oc_Window_single kV_Window_single dc_Window_single pm_Window_single cd_Window_single ct_Window_single : Value}
  {od_Window_single an_Window_single : Option Addr}
  {sl_Window_single : Array (Option Value)}
  {cc_Window_single : Addr}
  l_Window_single : K.lookup f_Window_single = some ⟨oc_Window_single, od_Window_single, .func (PySem.W.ksFn "single" "Window.single" (defArgs s_Window_single) (defBody s_Window_single) (defScope s_Window_single) .none kV_Window_single dc_Window_single pm_Window_single an_Window_single cd_Window_single ct_Window_single cc_Window_single), sl_Window_single⟩
  c_Window_single : PySem.W.codeIn K cd_Window_single "Window.single" = true
  k_Window_single : PySem.W.keepIn K (.ref f_Window_single) = true
  su_Window_single : SuF K PROG f_Window_single cc_Window_single C_Window cd_Window_single "self"
  {oc_Test_single kV_Test_single dc_Test_single pm_Test_single cd_Test_single ct_Test_single : Value}
  {od_Test_single an_Test_single : Option Addr}
  {sl_Test_single : Array (Option Value)}
  {cc_Test_single : Addr}
  l_Test_single : K.lookup f_Test_single = some ⟨oc_Test_single, od_Test_single, .func (PySem.W.ksFn "single" "Test.single" (defArgs s_Test_single) (defBody s_Test_single) (defScope s_Test_single) .none kV_Test_single dc_Test_single pm_Test_single an_Test_single cd_Test_single ct_Test_single cc_Test_single), sl_Test_single⟩
  c_Test_single : PySem.W.codeIn K cd_Test_single "Test.single" = true
  k_Test_single : PySem.W.keepIn K (.ref f_Test_single) = true
  su_Test_single : SuF K PROG f_Test_single cc_Test_single C_Test cd_Test_single "self"
  {oc_Kind_masks kV_Kind_masks dc_Kind_masks pm_Kind_masks cd_Kind_masks ct_Kind_masks : Value}
  {od_Kind_masks an_Kind_masks : Option Addr}
  {sl_Kind_masks : Array (Option Value)}
  l_Kind_masks : K.lookup f_Kind_masks = some ⟨oc_Kind_masks, od_Kind_masks, .func (PySem.W.fnOf "masks" "Kind.masks" (defArgs s_Kind_masks) (defBody s_Kind_masks) (defScope s_Kind_masks) .none kV_Kind_masks dc_Kind_masks pm_Kind_masks an_Kind_masks cd_Kind_masks ct_Kind_masks), sl_Kind_masks⟩
  c_Kind_masks : PySem.W.codeIn K cd_Kind_masks "Kind.masks" = true
  k_Kind_masks : PySem.W.keepIn K (.ref f_Kind_masks) = true
  {oc_Kind_eq__ kV_Kind_eq__ dc_Kind_eq__ pm_Kind_eq__ cd_Kind_eq__ ct_Kind_eq__ : Value}
  {od_Kind_eq__ an_Kind_eq__ : Option Addr}
  {sl_Kind_eq__ : Array (Option Value)}
  l_Kind_eq__ : K.lookup f_Kind_eq__ = some ⟨oc_Kind_eq__, od_Kind_eq__, .func (PySem.W.fnOf "__eq__" "Kind.__eq__" (defArgs s_Kind_eq__) (defBody s_Kind_eq__) (defScope s_Kind_eq__) .none kV_Kind_eq__ dc_Kind_eq__ pm_Kind_eq__ an_Kind_eq__ cd_Kind_eq__ ct_Kind_eq__), sl_Kind_eq__⟩
  c_Kind_eq__ : PySem.W.codeIn K cd_Kind_eq__ "Kind.__eq__" = true
  k_Kind_eq__ : PySem.W.keepIn K (.ref f_Kind_eq__) = true
  {oc_Window_init__ kV_Window_init__ dc_Window_init__ pm_Window_init__ cd_Window_init__ ct_Window_init__ : Value}
  {od_Window_init__ an_Window_init__ : Option Addr}
  {sl_Window_init__ : Array (Option Value)}
  {cc_Window_init__ : Addr}
  l_Window_init__ : K.lookup f_Window_init__ = some ⟨oc_Window_init__, od_Window_init__, .func (PySem.W.ksFn "__init__" "Window.__init__" (defArgs s_Window_init__) (defBody s_Window_init__) (defScope s_Window_init__) .none kV_Window_init__ dc_Window_init__ pm_Window_init__ an_Window_init__ cd_Window_init__ ct_Window_init__ cc_Window_init__), sl_Window_init__⟩
  c_Window_init__ : PySem.W.codeIn K cd_Window_init__ "Window.__init__" = true
  k_Window_init__ : PySem.W.keepIn K (.ref f_Window_init__) = true
  su_Window_init__ : SuF K PROG f_Window_init__ cc_Window_init__ C_Window cd_Window_init__ "self"
  {oc_Test_init__ kV_Test_init__ dc_Test_init__ pm_Test_init__ cd_Test_init__ ct_Test_init__ : Value}
  {od_Test_init__ an_Test_init__ : Option Addr}
  {sl_Test_init__ : Array (Option Value)}
  {cc_Test_init__ : Addr}
  l_Test_init__ : K.lookup f_Test_init__ = some ⟨oc_Test_init__, od_Test_init__, .func (PySem.W.ksFn "__init__" "Test.__init__" (defArgs s_Test_init__) (defBody s_Test_init__) (defScope s_Test_init__) .none kV_Test_init__ dc_Test_init__ pm_Test_init__ an_Test_init__ cd_Test_init__ ct_Test_init__ cc_Test_init__), sl_Test_init__⟩
  c_Test_init__ : PySem.W.codeIn K cd_Test_init__ "Test.__init__" = true
  k_Test_init__ : PySem.W.keepIn K (.ref f_Test_init__) = true
  su_Test_init__ : SuF K PROG f_Test_init__ cc_Test_init__ C_Test cd_Test_init__ "self"
  {oc_Window_of kV_Window_of dc_Window_of pm_Window_of cd_Window_of ct_Window_of : Value}
  {od_Window_of an_Window_of : Option Addr}
  {sl_Window_of : Array (Option Value)}
  l_Window_of : K.lookup f_Window_of = some ⟨oc_Window_of, od_Window_of, .func (PySem.W.fnOf "of" "Window.of" (defArgs s_Window_of) (defBody s_Window_of) (defScope s_Window_of) .none kV_Window_of dc_Window_of pm_Window_of an_Window_of cd_Window_of ct_Window_of), sl_Window_of⟩
  c_Window_of : PySem.W.codeIn K cd_Window_of "Window.of" = true
  k_Window_of : PySem.W.keepIn K (.ref f_Window_of) = true
  {oc_AnyOf_init__ kV_AnyOf_init__ dc_AnyOf_init__ pm_AnyOf_init__ cd_AnyOf_init__ ct_AnyOf_init__ : Value}
  {od_AnyOf_init__ an_AnyOf_init__ : Option Addr}
  {sl_AnyOf_init__ : Array (Option Value)}
  {cc_AnyOf_init__ : Addr}
  l_AnyOf_init__ : K.lookup f_AnyOf_init__ = some ⟨oc_AnyOf_init__, od_AnyOf_init__, .func (PySem.W.ksFn "__init__" "AnyOf.__init__" (defArgs s_AnyOf_init__) (defBody s_AnyOf_init__) (defScope s_AnyOf_init__) .none kV_AnyOf_init__ dc_AnyOf_init__ pm_AnyOf_init__ an_AnyOf_init__ cd_AnyOf_init__ ct_AnyOf_init__ cc_AnyOf_init__), sl_AnyOf_init__⟩
  c_AnyOf_init__ : PySem.W.codeIn K cd_AnyOf_init__ "AnyOf.__init__" = true
  k_AnyOf_init__ : PySem.W.keepIn K (.ref f_AnyOf_init__) = true
  su_AnyOf_init__ : SuF K PROG f_AnyOf_init__ cc_AnyOf_init__ C_AnyOf cd_AnyOf_init__ "self"
  {oc_AnyOf_of kV_AnyOf_of dc_AnyOf_of pm_AnyOf_of cd_AnyOf_of ct_AnyOf_of : Value}
  {od_AnyOf_of an_AnyOf_of : Option Addr}
  {sl_AnyOf_of : Array (Option Value)}
  l_AnyOf_of : K.lookup f_AnyOf_of = some ⟨oc_AnyOf_of, od_AnyOf_of, .func (PySem.W.fnOf "of" "AnyOf.of" (defArgs s_AnyOf_of) (defBody s_AnyOf_of) (defScope s_AnyOf_of) .none kV_AnyOf_of dc_AnyOf_of pm_AnyOf_of an_AnyOf_of cd_AnyOf_of ct_AnyOf_of), sl_AnyOf_of⟩
  c_AnyOf_of : PySem.W.codeIn K cd_AnyOf_of "AnyOf.of" = true
  k_AnyOf_of : PySem.W.keepIn K (.ref f_AnyOf_of) = true
  {oc_TestWindow_init__ kV_TestWindow_init__ dc_TestWindow_init__ pm_TestWindow_init__ cd_TestWindow_init__ ct_TestWindow_init__ : Value}
  {od_TestWindow_init__ an_TestWindow_init__ : Option Addr}
  {sl_TestWindow_init__ : Array (Option Value)}
  {cc_TestWindow_init__ : Addr}
  l_TestWindow_init__ : K.lookup f_TestWindow_init__ = some ⟨oc_TestWindow_init__, od_TestWindow_init__, .func (PySem.W.ksFn "__init__" "TestWindow.__init__" (defArgs s_TestWindow_init__) (defBody s_TestWindow_init__) (defScope s_TestWindow_init__) .none kV_TestWindow_init__ dc_TestWindow_init__ pm_TestWindow_init__ an_TestWindow_init__ cd_TestWindow_init__ ct_TestWindow_init__ cc_TestWindow_init__), sl_TestWindow_init__⟩
  c_TestWindow_init__ : PySem.W.codeIn K cd_TestWindow_init__ "TestWindow.__init__" = true
  k_TestWindow_init__ : PySem.W.keepIn K (.ref f_TestWindow_init__) = true
  su_TestWindow_init__ : SuF K PROG f_TestWindow_init__ cc_TestWindow_init__ C_TestWindow cd_TestWindow_init__ "self"
  {oc_Masks_init__ kV_Masks_init__ dc_Masks_init__ pm_Masks_init__ cd_Masks_init__ ct_Masks_init__ : Value}
  {od_Masks_init__ an_Masks_init__ : Option Addr}
  {sl_Masks_init__ : Array (Option Value)}
  {cc_Masks_init__ : Addr}
  l_Masks_init__ : K.lookup f_Masks_init__ = some ⟨oc_Masks_init__, od_Masks_init__, .func (PySem.W.ksFn "__init__" "Masks.__init__" (defArgs s_Masks_init__) (defBody s_Masks_init__) (defScope s_Masks_init__) .none kV_Masks_init__ dc_Masks_init__ pm_Masks_init__ an_Masks_init__ cd_Masks_init__ ct_Masks_init__ cc_Masks_init__), sl_Masks_init__⟩
  c_Masks_init__ : PySem.W.codeIn K cd_Masks_init__ "Masks.__init__" = true
  k_Masks_init__ : PySem.W.keepIn K (.ref f_Masks_init__) = true
  su_Masks_init__ : SuF K PROG f_Masks_init__ cc_Masks_init__ C_Masks cd_Masks_init__ "self"
  {f_law_pen : Addr}
  g_law_pen : mg "_law_pen" = some (.ref f_law_pen)
  {oc_law_pen kV_law_pen dc_law_pen pm_law_pen cd_law_pen ct_law_pen : Value}
  {od_law_pen an_law_pen : Option Addr}
  {sl_law_pen : Array (Option Value)}
  l_law_pen : K.lookup f_law_pen = some ⟨oc_law_pen, od_law_pen, .func (PySem.W.fnOf "_law_pen" "_law_pen" (defArgs s_law_pen) (defBody s_law_pen) (defScope s_law_pen) .none kV_law_pen dc_law_pen pm_law_pen an_law_pen cd_law_pen ct_law_pen), sl_law_pen⟩
  c_law_pen : PySem.W.codeIn K cd_law_pen "_law_pen" = true
  k_law_pen : PySem.W.keepIn K (.ref f_law_pen) = true
  {f_law_draw : Addr}
  g_law_draw : mg "_law_draw" = some (.ref f_law_draw)
  {oc_law_draw kV_law_draw dc_law_draw pm_law_draw cd_law_draw ct_law_draw : Value}
  {od_law_draw an_law_draw : Option Addr}
  {sl_law_draw : Array (Option Value)}
  l_law_draw : K.lookup f_law_draw = some ⟨oc_law_draw, od_law_draw, .func (PySem.W.fnOf "_law_draw" "_law_draw" (defArgs s_law_draw) (defBody s_law_draw) (defScope s_law_draw) .none kV_law_draw dc_law_draw pm_law_draw an_law_draw cd_law_draw ct_law_draw), sl_law_draw⟩
  c_law_draw : PySem.W.codeIn K cd_law_draw "_law_draw" = true
  k_law_draw : PySem.W.keepIn K (.ref f_law_draw) = true
  {f_law_pick : Addr}
  g_law_pick : mg "_law_pick" = some (.ref f_law_pick)
  {oc_law_pick kV_law_pick dc_law_pick pm_law_pick cd_law_pick ct_law_pick : Value}
  {od_law_pick an_law_pick : Option Addr}
  {sl_law_pick : Array (Option Value)}
  l_law_pick : K.lookup f_law_pick = some ⟨oc_law_pick, od_law_pick, .func (PySem.W.fnOf "_law_pick" "_law_pick" (defArgs s_law_pick) (defBody s_law_pick) (defScope s_law_pick) .none kV_law_pick dc_law_pick pm_law_pick an_law_pick cd_law_pick ct_law_pick), sl_law_pick⟩
  c_law_pick : PySem.W.codeIn K cd_law_pick "_law_pick" = true
  k_law_pick : PySem.W.keepIn K (.ref f_law_pick) = true
  {f_law_mixed : Addr}
  g_law_mixed : mg "_law_mixed" = some (.ref f_law_mixed)
  {oc_law_mixed kV_law_mixed dc_law_mixed pm_law_mixed cd_law_mixed ct_law_mixed : Value}
  {od_law_mixed an_law_mixed : Option Addr}
  {sl_law_mixed : Array (Option Value)}
  l_law_mixed : K.lookup f_law_mixed = some ⟨oc_law_mixed, od_law_mixed, .func (PySem.W.fnOf "_law_mixed" "_law_mixed" (defArgs s_law_mixed) (defBody s_law_mixed) (defScope s_law_mixed) .none kV_law_mixed dc_law_mixed pm_law_mixed an_law_mixed cd_law_mixed ct_law_mixed), sl_law_mixed⟩
  c_law_mixed : PySem.W.codeIn K cd_law_mixed "_law_mixed" = true
  k_law_mixed : PySem.W.keepIn K (.ref f_law_mixed) = true
  {f_law_names : Addr}
  g_law_names : mg "_law_names" = some (.ref f_law_names)
  {oc_law_names kV_law_names dc_law_names pm_law_names cd_law_names ct_law_names : Value}
  {od_law_names an_law_names : Option Addr}
  {sl_law_names : Array (Option Value)}
  l_law_names : K.lookup f_law_names = some ⟨oc_law_names, od_law_names, .func (PySem.W.fnOf "_law_names" "_law_names" (defArgs s_law_names) (defBody s_law_names) (defScope s_law_names) .none kV_law_names dc_law_names pm_law_names an_law_names cd_law_names ct_law_names), sl_law_names⟩
  c_law_names : PySem.W.codeIn K cd_law_names "_law_names" = true
  k_law_names : PySem.W.keepIn K (.ref f_law_names) = true
  {f_law_kind : Addr}
  g_law_kind : mg "_law_kind" = some (.ref f_law_kind)
  {oc_law_kind kV_law_kind dc_law_kind pm_law_kind cd_law_kind ct_law_kind : Value}
  {od_law_kind an_law_kind : Option Addr}
  {sl_law_kind : Array (Option Value)}
  l_law_kind : K.lookup f_law_kind = some ⟨oc_law_kind, od_law_kind, .func (PySem.W.fnOf "_law_kind" "_law_kind" (defArgs s_law_kind) (defBody s_law_kind) (defScope s_law_kind) .none kV_law_kind dc_law_kind pm_law_kind an_law_kind cd_law_kind ct_law_kind), sl_law_kind⟩
  c_law_kind : PySem.W.codeIn K cd_law_kind "_law_kind" = true
  k_law_kind : PySem.W.keepIn K (.ref f_law_kind) = true
  {f_law_both : Addr}
  g_law_both : mg "_law_both" = some (.ref f_law_both)
  {oc_law_both kV_law_both dc_law_both pm_law_both cd_law_both ct_law_both : Value}
  {od_law_both an_law_both : Option Addr}
  {sl_law_both : Array (Option Value)}
  l_law_both : K.lookup f_law_both = some ⟨oc_law_both, od_law_both, .func (PySem.W.fnOf "_law_both" "_law_both" (defArgs s_law_both) (defBody s_law_both) (defScope s_law_both) .none kV_law_both dc_law_both pm_law_both an_law_both cd_law_both ct_law_both), sl_law_both⟩
  c_law_both : PySem.W.codeIn K cd_law_both "_law_both" = true
  k_law_both : PySem.W.keepIn K (.ref f_law_both) = true
  {f_law_made : Addr}
  g_law_made : mg "_law_made" = some (.ref f_law_made)
  {oc_law_made kV_law_made dc_law_made pm_law_made cd_law_made ct_law_made : Value}
  {od_law_made an_law_made : Option Addr}
  {sl_law_made : Array (Option Value)}
  l_law_made : K.lookup f_law_made = some ⟨oc_law_made, od_law_made, .func (PySem.W.fnOf "_law_made" "_law_made" (defArgs s_law_made) (defBody s_law_made) (defScope s_law_made) .none kV_law_made dc_law_made pm_law_made an_law_made cd_law_made ct_law_made), sl_law_made⟩
  c_law_made : PySem.W.codeIn K cd_law_made "_law_made" = true
  k_law_made : PySem.W.keepIn K (.ref f_law_made) = true
  {f_law_full : Addr}
  g_law_full : mg "_law_full" = some (.ref f_law_full)
  {oc_law_full kV_law_full dc_law_full pm_law_full cd_law_full ct_law_full : Value}
  {od_law_full an_law_full : Option Addr}
  {sl_law_full : Array (Option Value)}
  l_law_full : K.lookup f_law_full = some ⟨oc_law_full, od_law_full, .func (PySem.W.fnOf "_law_full" "_law_full" (defArgs s_law_full) (defBody s_law_full) (defScope s_law_full) .none kV_law_full dc_law_full pm_law_full an_law_full cd_law_full ct_law_full), sl_law_full⟩
  c_law_full : PySem.W.codeIn K cd_law_full "_law_full" = true
  k_law_full : PySem.W.keepIn K (.ref f_law_full) = true
  {f_law_alike : Addr}
  g_law_alike : mg "_law_alike" = some (.ref f_law_alike)
  {oc_law_alike kV_law_alike dc_law_alike pm_law_alike cd_law_alike ct_law_alike : Value}
  {od_law_alike an_law_alike : Option Addr}
  {sl_law_alike : Array (Option Value)}
  l_law_alike : K.lookup f_law_alike = some ⟨oc_law_alike, od_law_alike, .func (PySem.W.fnOf "_law_alike" "_law_alike" (defArgs s_law_alike) (defBody s_law_alike) (defScope s_law_alike) .none kV_law_alike dc_law_alike pm_law_alike an_law_alike cd_law_alike ct_law_alike), sl_law_alike⟩
  c_law_alike : PySem.W.codeIn K cd_law_alike "_law_alike" = true
  k_law_alike : PySem.W.keepIn K (.ref f_law_alike) = true
  {f_law_is_alone : Addr}
  g_law_is_alone : mg "_law_is_alone" = some (.ref f_law_is_alone)
  {oc_law_is_alone kV_law_is_alone dc_law_is_alone pm_law_is_alone cd_law_is_alone ct_law_is_alone : Value}
  {od_law_is_alone an_law_is_alone : Option Addr}
  {sl_law_is_alone : Array (Option Value)}
  l_law_is_alone : K.lookup f_law_is_alone = some ⟨oc_law_is_alone, od_law_is_alone, .func (PySem.W.fnOf "_law_is_alone" "_law_is_alone" (defArgs s_law_is_alone) (defBody s_law_is_alone) (defScope s_law_is_alone) .none kV_law_is_alone dc_law_is_alone pm_law_is_alone an_law_is_alone cd_law_is_alone ct_law_is_alone), sl_law_is_alone⟩
  c_law_is_alone : PySem.W.codeIn K cd_law_is_alone "_law_is_alone" = true
  k_law_is_alone : PySem.W.keepIn K (.ref f_law_is_alone) = true
  {f_law_is_kind : Addr}
  g_law_is_kind : mg "_law_is_kind" = some (.ref f_law_is_kind)
  {oc_law_is_kind kV_law_is_kind dc_law_is_kind pm_law_is_kind cd_law_is_kind ct_law_is_kind : Value}
  {od_law_is_kind an_law_is_kind : Option Addr}
  {sl_law_is_kind : Array (Option Value)}
  l_law_is_kind : K.lookup f_law_is_kind = some ⟨oc_law_is_kind, od_law_is_kind, .func (PySem.W.fnOf "_law_is_kind" "_law_is_kind" (defArgs s_law_is_kind) (defBody s_law_is_kind) (defScope s_law_is_kind) .none kV_law_is_kind dc_law_is_kind pm_law_is_kind an_law_is_kind cd_law_is_kind ct_law_is_kind), sl_law_is_kind⟩
  c_law_is_kind : PySem.W.codeIn K cd_law_is_kind "_law_is_kind" = true
  k_law_is_kind : PySem.W.keepIn K (.ref f_law_is_kind) = true
  {f_law : Addr}
  g_law : mg "law" = some (.ref f_law)
  {oc_law kV_law dc_law pm_law cd_law ct_law : Value}
  {od_law an_law : Option Addr}
  {sl_law : Array (Option Value)}
  l_law : K.lookup f_law = some ⟨oc_law, od_law, .func (PySem.W.fnOf "law" "law" (defArgs s_law) (defBody s_law) (defScope s_law) .none kV_law dc_law pm_law an_law cd_law ct_law), sl_law⟩
  c_law : PySem.W.codeIn K cd_law "law" = true
  k_law : PySem.W.keepIn K (.ref f_law) = true
  {t_DIGITS : Tok}
  g_DIGITS : mg "DIGITS" = some (.str "0123456789" t_DIGITS)
  {t_LETTERS : Tok}
  g_LETTERS : mg "LETTERS" = some (.str "abcdefghijklmnopqrstuvwxyz" t_LETTERS)
  {t_LONGEST : Tok}
  g_LONGEST : mg "LONGEST" = some (.int 8 t_LONGEST)
  {t_MOST_BIT : Tok}
  g_MOST_BIT : mg "MOST_BIT" = some (.int 7 t_MOST_BIT)
  {t_MOST_CONDITIONS : Tok}
  g_MOST_CONDITIONS : mg "MOST_CONDITIONS" = some (.int 5 t_MOST_CONDITIONS)
  {t_MOST_MASK : Tok}
  g_MOST_MASK : mg "MOST_MASK" = some (.int 255 t_MOST_MASK)
  {a_RESERVED : Addr}
  {t_RESERVED_0 t_RESERVED_1 t_RESERVED_2 t_RESERVED_3 t_RESERVED_4 : Tok}
  {od_RESERVED : Option Addr}
  {n_RESERVED : Nat}
  {sl_RESERVED : Array (Option Value)}
  g_RESERVED : mg "RESERVED" = some (.ref a_RESERVED)
  k_RESERVED : K.lookup a_RESERVED = some ⟨.type "tuple", od_RESERVED, .seq #[(.str "to" t_RESERVED_0), (.str "if" t_RESERVED_1), (.str "tag" t_RESERVED_2), (.str "all" t_RESERVED_3), (.str "none" t_RESERVED_4)] n_RESERVED, sl_RESERVED⟩
  z_abs : mg "abs" = none
  z_all : mg "all" = none
  z_bool : mg "bool" = none
  z_dict : mg "dict" = none
  z_enumerate : mg "enumerate" = none
  z_int : mg "int" = none
  z_isinstance : mg "isinstance" = none
  z_len : mg "len" = none
  z_list : mg "list" = none
  z_min : mg "min" = none
  z_range : mg "range" = none
  z_repr : mg "repr" = none
  z_set : mg "set" = none
  z_sorted : mg "sorted" = none
  z_str : mg "str" = none
  z_super : mg "super" = none
  z_tuple : mg "tuple" = none
section
variable {P : Program} {w : World} {K : PySem.W.Frag} {mg : Str → Option Value} {base : Heap}
theorem Tx.F_is_integer (T : Tx P K mg) : Fun K "is_integer" "is_integer" s_is_integer T.f_is_integer (PySem.W.fnOf "is_integer" "is_integer" (defArgs s_is_integer) (defBody s_is_integer) (defScope s_is_integer) .none T.kV_is_integer T.dc_is_integer T.pm_is_integer T.an_is_integer T.cd_is_integer T.ct_is_integer) := fun_mk T.l_is_integer T.c_is_integer T.k_is_integer
theorem Tx.b_is_integer (T : Tx P K mg) : Binds K (PySem.W.fnOf "is_integer" "is_integer" (defArgs s_is_integer) (defBody s_is_integer) (defScope s_is_integer) .none T.kV_is_integer T.dc_is_integer T.pm_is_integer T.an_is_integer T.cd_is_integer T.ct_is_integer) p_is_integer [] := T.F_is_integer.binds fun _ _ _ _ _ _ us hl => match us, hl with | [_], _ => rfl
theorem ok_is_integer (T : Tx P K mg) : FnOk P w K mg base CX0 2 T.f_is_integer (PySem.W.fnOf "is_integer" "is_integer" (defArgs s_is_integer) (defBody s_is_integer) (defScope s_is_integer) .none T.kV_is_integer T.dc_is_integer T.pm_is_integer T.an_is_integer T.cd_is_integer T.ct_is_integer) p_is_integer (toSp K sp_is_integer) :=
  dfn2 T.F_is_integer sc_is_integer len_is_integer fun B cdv A outer s H E hr => ⟨w_is_integer,
    (ds_one (d_ret (d_andV (d_callB call_isi cIsi_ok (by rfl) T.z_isinstance (by decide +kernel) (da_cons (d_var (i := 0)) (da_cons (d_ty T.z_int (by decide +kernel)) da_nil))) (d_one (d_notV (d_callB call_isi cIsi_ok (by rfl) T.z_isinstance (by decide +kernel) (da_cons (d_var (i := 0)) (da_cons (d_ty T.z_bool (by decide +kernel)) da_nil)))))))),
    wp_is_integer⟩
theorem Tx.F_is_between (T : Tx P K mg) : Fun K "is_between" "is_between" s_is_between T.f_is_between (PySem.W.fnOf "is_between" "is_between" (defArgs s_is_between) (defBody s_is_between) (defScope s_is_between) .none T.kV_is_between T.dc_is_between T.pm_is_between T.an_is_between T.cd_is_between T.ct_is_between) := fun_mk T.l_is_between T.c_is_between T.k_is_between
theorem Tx.b_is_between (T : Tx P K mg) : Binds K (PySem.W.fnOf "is_between" "is_between" (defArgs s_is_between) (defBody s_is_between) (defScope s_is_between) .none T.kV_is_between T.dc_is_between T.pm_is_between T.an_is_between T.cd_is_between T.ct_is_between) p_is_between [] := T.F_is_between.binds fun _ _ _ _ _ _ us hl => match us, hl with | [_, _, _], _ => rfl
theorem ok_is_between (T : Tx P K mg) : FnOk P w K mg base CX0 4 T.f_is_between (PySem.W.fnOf "is_between" "is_between" (defArgs s_is_between) (defBody s_is_between) (defScope s_is_between) .none T.kV_is_between T.dc_is_between T.pm_is_between T.an_is_between T.cd_is_between T.ct_is_between) p_is_between (toSp K sp_is_between) :=
  dfn2 T.F_is_between sc_is_between len_is_between fun B cdv A outer s H E hr => ⟨w_is_between,
    (ds_one (d_ret (d_andV (d_call (ok_is_integer T) (hr.mono (by decide)) (by rfl) T.g_is_integer T.F_is_integer.kp T.b_is_integer .nil (fun _ _ => .nil) (da_cons (d_var (i := 0)) da_nil)) (d_one (d_chain op_le oLe_ok op_le oLe_ok (d_var (i := 1)) (d_var (i := 0)) (d_var (i := 2))))))),
    wp_is_between⟩
theorem Tx.F_is_name (T : Tx P K mg) : Fun K "is_name" "is_name" s_is_name T.f_is_name (PySem.W.fnOf "is_name" "is_name" (defArgs s_is_name) (defBody s_is_name) (defScope s_is_name) .none T.kV_is_name T.dc_is_name T.pm_is_name T.an_is_name T.cd_is_name T.ct_is_name) := fun_mk T.l_is_name T.c_is_name T.k_is_name
theorem Tx.b_is_name (T : Tx P K mg) : Binds K (PySem.W.fnOf "is_name" "is_name" (defArgs s_is_name) (defBody s_is_name) (defScope s_is_name) .none T.kV_is_name T.dc_is_name T.pm_is_name T.an_is_name T.cd_is_name T.ct_is_name) p_is_name [] := T.F_is_name.binds fun _ _ _ _ _ _ us hl => match us, hl with | [_], _ => rfl
theorem ok_is_name (T : Tx P K mg) : FnOk P w K mg base CX0 2 T.f_is_name (PySem.W.fnOf "is_name" "is_name" (defArgs s_is_name) (defBody s_is_name) (defScope s_is_name) .none T.kV_is_name T.dc_is_name T.pm_is_name T.an_is_name T.cd_is_name T.ct_is_name) p_is_name (toSp K sp_is_name) :=
  dfn2 T.F_is_name sc_is_name len_is_name fun B cdv A outer s H E hr => ⟨w_is_name,
    (ds_cons (d_if (L2.PW.pt (d_or (d_not (d_truth (d_callB call_isi cIsi_ok (by rfl) T.z_isinstance (by decide +kernel) (da_cons (d_var (i := 0)) (da_cons (d_ty T.z_str (by decide +kernel)) da_nil))))) (d_or (d_not (d_chainT op_le oLe_ok op_le oLe_ok d_int (d_callB callLen cLen_ok (by rfl) T.z_len (by decide +kernel) (da_cons (d_var (i := 0)) da_nil)) (d_gint T.g_LONGEST))) (d_or1 (d_cmpT opIn oIn_ok (d_var (i := 0)) (d_gtup T.g_RESERVED T.k_RESERVED rfl rfl (Nat.le_of_ble_eq_true rfl) rfl) (by rfl)))))) (ds_one (d_ret d_bl)) ds_nil)
    (ds_one (d_ret (d_andV (d_cmp opIn oIn_ok (d_ix (d_var (i := 0)) d_int) (d_gstr T.g_LETTERS) (by rfl)) (d_one (d_callB (cr_all rfl) cAll_ok (by rfl) T.z_all (by decide +kernel) (da_cons (d_lc (own := [("sign", 1)]) rfl sc_is_name.nd (di_any (d_var (i := 0))) (blkOk_by (by show blkC N_is_name (defScope s_is_name) _ _ = true; decide +kernel)) (fun _ _ _ _ _ => pg_name (i := 1) sc_is_name.nd rfl (Or.inl rfl)) (binds_one (by decide)) (fun _ _ _ _ _ => dts_nil) (fun _ _ _ _ _ => (d_orV (d_cmp opIn oIn_ok (d_var (i := 1)) (d_gstr T.g_LETTERS) (by rfl)) (d_one (d_cmp opIn oIn_ok (d_var (i := 1)) (d_gstr T.g_DIGITS) (by rfl)))))) da_nil))))))),
    wp_is_name⟩
theorem Tx.F_are_conditions (T : Tx P K mg) : Fun K "are_conditions" "are_conditions" s_are_conditions T.f_are_conditions (PySem.W.fnOf "are_conditions" "are_conditions" (defArgs s_are_conditions) (defBody s_are_conditions) (defScope s_are_conditions) .none T.kV_are_conditions T.dc_are_conditions T.pm_are_conditions T.an_are_conditions T.cd_are_conditions T.ct_are_conditions) := fun_mk T.l_are_conditions T.c_are_conditions T.k_are_conditions
theorem Tx.b_are_conditions (T : Tx P K mg) : Binds K (PySem.W.fnOf "are_conditions" "are_conditions" (defArgs s_are_conditions) (defBody s_are_conditions) (defScope s_are_conditions) .none T.kV_are_conditions T.dc_are_conditions T.pm_are_conditions T.an_are_conditions T.cd_are_conditions T.ct_are_conditions) p_are_conditions [] := T.F_are_conditions.binds fun _ _ _ _ _ _ us hl => match us, hl with | [_], _ => rfl
theorem ok_are_conditions (T : Tx P K mg) : FnOk P w K mg base CX0 4 T.f_are_conditions (PySem.W.fnOf "are_conditions" "are_conditions" (defArgs s_are_conditions) (defBody s_are_conditions) (defScope s_are_conditions) .none T.kV_are_conditions T.dc_are_conditions T.pm_are_conditions T.an_are_conditions T.cd_are_conditions T.ct_are_conditions) p_are_conditions (toSp K sp_are_conditions) :=
  dfn2 T.F_are_conditions sc_are_conditions len_are_conditions fun B cdv A outer s H E hr => ⟨w_are_conditions,
    (ds_cons (d_if (L2.PW.pt (d_or (d_not (d_chainT op_le oLe_ok op_le oLe_ok d_int (d_callB callLen cLen_ok (by rfl) T.z_len (by decide +kernel) (da_cons (d_var (i := 0)) da_nil)) (d_gint T.g_MOST_CONDITIONS))) (d_or1 (d_not (d_truth (d_callB (cr_all rfl) cAll_ok (by rfl) T.z_all (by decide +kernel) (da_cons (d_lc (own := [("value", 1)]) rfl sc_are_conditions.nd (di_any (d_var (i := 0))) (blkOk_by (by show blkC N_are_conditions (defScope s_are_conditions) _ _ = true; decide +kernel)) (fun _ _ _ _ _ => pg_name (i := 1) sc_are_conditions.nd rfl (Or.inl rfl)) (binds_one (by decide)) (fun _ _ _ _ _ => dts_nil) (fun _ _ _ _ _ => (d_call (ok_is_name T) (hr.mono (by decide)) (by rfl) T.g_is_name T.F_is_name.kp T.b_is_name .nil (fun _ _ => .nil) (da_cons (d_var (i := 1)) da_nil)))) da_nil))))))) (ds_one (d_ret d_bl)) ds_nil)
    (ds_one (d_ret (d_cmp (opEq hr.units) oEqI_ok (d_lenSet rfl (by rfl) T.z_len (by rfl) T.z_set (d_var (i := 0))) (d_callB callLen cLen_ok (by rfl) T.z_len (by decide +kernel) (da_cons (d_var (i := 0)) da_nil)) (nomark _))))),
    wp_are_conditions⟩
theorem Tx.F_need (T : Tx P K mg) : Fun K "need" "need" s_need T.f_need (PySem.W.fnOf "need" "need" (defArgs s_need) (defBody s_need) (defScope s_need) .none T.kV_need T.dc_need T.pm_need T.an_need T.cd_need T.ct_need) := fun_mk T.l_need T.c_need T.k_need
theorem Tx.b_need (T : Tx P K mg) : Binds K (PySem.W.fnOf "need" "need" (defArgs s_need) (defBody s_need) (defScope s_need) .none T.kV_need T.dc_need T.pm_need T.an_need T.cd_need T.ct_need) p_need [] := T.F_need.binds fun _ _ _ _ _ _ us hl => match us, hl with | [_, _], _ => rfl
theorem ok_need (T : Tx P K mg) : FnOk P w K mg base CX0 2 T.f_need (PySem.W.fnOf "need" "need" (defArgs s_need) (defBody s_need) (defScope s_need) .none T.kV_need T.dc_need T.pm_need T.an_need T.cd_need T.ct_need) p_need (toSp K sp_need) :=
  dfn2 T.F_need sc_need len_need fun B cdv A outer s H E hr => ⟨w_need,
    (ds_one (d_if (d_not (d_truth (d_var (i := 0)))) (ds_one d_nevS) ds_nil)),
    wp_need⟩
theorem Tx.F_Kind_init__ (T : Tx P K mg) : Fun K "__init__" "Kind.__init__" s_Kind_init__ T.f_Kind_init__ (PySem.W.fnOf "__init__" "Kind.__init__" (defArgs s_Kind_init__) (defBody s_Kind_init__) (defScope s_Kind_init__) .none T.kV_Kind_init__ T.dc_Kind_init__ T.pm_Kind_init__ T.an_Kind_init__ T.cd_Kind_init__ T.ct_Kind_init__) := fun_mk T.l_Kind_init__ T.c_Kind_init__ T.k_Kind_init__
theorem Tx.b_Kind_init__ (T : Tx P K mg) : Binds K (PySem.W.fnOf "__init__" "Kind.__init__" (defArgs s_Kind_init__) (defBody s_Kind_init__) (defScope s_Kind_init__) .none T.kV_Kind_init__ T.dc_Kind_init__ T.pm_Kind_init__ T.an_Kind_init__ T.cd_Kind_init__ T.ct_Kind_init__) p_Kind_init__ [] := T.F_Kind_init__.binds fun _ _ _ _ _ _ us hl => match us, hl with | [_, _], _ => rfl
theorem ok_Kind_init__ (T : Tx P K mg) : FnR P w K mg base (L2.CX P w) 4 T.f_Kind_init__ (toSp K sp_Kind_init__) := fnR0 (FnOk.mono (j := 4) (dfnX T.F_Kind_init__ sc_Kind_init__ len_Kind_init__ fun B cdv A outer s H E hr => ⟨w_Kind_init__, fun RX tk =>
    (ds_cons (d_exp (d_call (ok_need T) (hr.mono (by decide)) (by rfl) T.g_need T.F_need.kp T.b_need .nil (fun _ _ => .nil) (da_cons (d_call (ok_is_name T) (hr.mono (by decide)) (by rfl) T.g_is_name T.F_is_name.kp T.b_is_name .nil (fun _ _ => .nil) (da_cons (d_var (i := 1)) da_nil)) (da_cons d_str da_nil))))
    (ds_one (d_setFV (.cons T.at_Kind T.cl_Kind T.na_Kind_name (.cons T.at_Test T.cl_Test T.na_Test_name (.cons T.at_Window T.cl_Window T.na_Window_name (.cons T.at_AnyOf T.cl_AnyOf T.na_AnyOf_name (.cons T.at_TestWindow T.cl_TestWindow T.na_TestWindow_name (.cons T.at_Masks T.cl_Masks T.na_Masks_name .nil)))))) (d_var (i := 0)) (d_var (i := 1))))),
    wp_Kind_init__⟩) (by decide)) T.b_Kind_init__
theorem Tx.F_Kind_single (T : Tx P K mg) : Fun K "single" "Kind.single" s_Kind_single T.f_Kind_single (PySem.W.fnOf "single" "Kind.single" (defArgs s_Kind_single) (defBody s_Kind_single) (defScope s_Kind_single) .none T.kV_Kind_single T.dc_Kind_single T.pm_Kind_single T.an_Kind_single T.cd_Kind_single T.ct_Kind_single) := fun_mk T.l_Kind_single T.c_Kind_single T.k_Kind_single
theorem Tx.b_Kind_single (T : Tx P K mg) : Binds K (PySem.W.fnOf "single" "Kind.single" (defArgs s_Kind_single) (defBody s_Kind_single) (defScope s_Kind_single) .none T.kV_Kind_single T.dc_Kind_single T.pm_Kind_single T.an_Kind_single T.cd_Kind_single T.ct_Kind_single) p_Kind_single [] := T.F_Kind_single.binds fun _ _ _ _ _ _ us hl => match us, hl with | [_, _], _ => rfl
theorem ok_Kind_single (T : Tx P K mg) : FnR P w K mg base (L2.CX P w) 2 T.f_Kind_single (toSp K sp_Kind_single) := fnR0 (FnOk.mono (j := 2) (dfnX T.F_Kind_single sc_Kind_single len_Kind_single fun B cdv A outer s H E hr => ⟨w_Kind_single, fun RX tk =>
    (ds_one (d_ret d_int)),
    wp_Kind_single⟩) (by decide)) T.b_Kind_single
theorem Tx.F_Kind_may_set (T : Tx P K mg) : Fun K "may_set" "Kind.may_set" s_Kind_may_set T.f_Kind_may_set (PySem.W.fnOf "may_set" "Kind.may_set" (defArgs s_Kind_may_set) (defBody s_Kind_may_set) (defScope s_Kind_may_set) .none T.kV_Kind_may_set T.dc_Kind_may_set T.pm_Kind_may_set T.an_Kind_may_set T.cd_Kind_may_set T.ct_Kind_may_set) := fun_mk T.l_Kind_may_set T.c_Kind_may_set T.k_Kind_may_set
theorem Tx.b_Kind_may_set (T : Tx P K mg) : Binds K (PySem.W.fnOf "may_set" "Kind.may_set" (defArgs s_Kind_may_set) (defBody s_Kind_may_set) (defScope s_Kind_may_set) .none T.kV_Kind_may_set T.dc_Kind_may_set T.pm_Kind_may_set T.an_Kind_may_set T.cd_Kind_may_set T.ct_Kind_may_set) p_Kind_may_set [] := T.F_Kind_may_set.binds fun _ _ _ _ _ _ us hl => match us, hl with | [_], _ => rfl
theorem ok_Kind_may_set (T : Tx P K mg) : FnR P w K mg base (L2.CX P w) 2 T.f_Kind_may_set (toSp K sp_Kind_may_set) := fnR0 (FnOk.mono (j := 2) (dfnX T.F_Kind_may_set sc_Kind_may_set len_Kind_may_set fun B cdv A outer s H E hr => ⟨w_Kind_may_set, fun RX tk =>
    (ds_one (d_ret (d_tup da_nil))),
    wp_Kind_may_set⟩) (by decide)) T.b_Kind_may_set
theorem ok_AnyOf_may_set (T : Tx P K mg) : FnR P w K mg base (L2.CX P w) 4 T.f_AnyOf_may_set (toSp K sp_AnyOf_may_set) :=
  dfnC (k := 3) T.l_AnyOf_may_set T.c_AnyOf_may_set T.su_AnyOf_may_set.kc sc_AnyOf_may_set (fun us hl => match us, hl with | [_], _ => rfl) len_AnyOf_may_set (fun A outer s H E hr B RX tk =>
    (sa_one (sa_ret (sa_op opAdd oAdd_ok (sa_sup0 ⟨T.sm, T.su_AnyOf_may_set, rfl, rfl, rfl, rfl, rfl, T.z_super, rfl, rfl⟩ (.cons T.at_AnyOf T.sup_AnyOf_AnyOf_may_set (L2.FnR.mono (ok_Kind_may_set T) (by decide)) .nil) hr (rzX tk)) (d_fldV (.cons T.at_Window T.cl_Window T.na_Window_own_conditions (.cons T.at_AnyOf T.cl_AnyOf T.na_AnyOf_own_conditions (.cons T.at_TestWindow T.cl_TestWindow T.na_TestWindow_own_conditions .nil))) (d_var (i := 0))))))) wp_AnyOf_may_set
theorem ok_AnyOf_single (T : Tx P K mg) : FnR P w K mg base (L2.CX P w) 4 T.f_AnyOf_single (toSp K sp_AnyOf_single) :=
  dfnC (k := 3) T.l_AnyOf_single T.c_AnyOf_single T.su_AnyOf_single.kc sc_AnyOf_single (fun us hl => match us, hl with | [_, _], _ => rfl) len_AnyOf_single (fun A outer s H E hr B RX tk =>
    (sa_cons (sa_of (d_set (i := 2) sc_AnyOf_single.nd (d_ifE (d_cmpT opIn oIn_ok (d_var (i := 1)) (d_fldV (.cons T.at_Window T.cl_Window T.na_Window_own_conditions (.cons T.at_AnyOf T.cl_AnyOf T.na_AnyOf_own_conditions (.cons T.at_TestWindow T.cl_TestWindow T.na_TestWindow_own_conditions .nil))) (d_var (i := 0))) (by rfl)) (d_op op_shl oShl_ok d_int (d_fldV (.cons T.at_Test T.cl_Test T.na_Test_bit (.cons T.at_AnyOf T.cl_AnyOf T.na_AnyOf_bit (.cons T.at_TestWindow T.cl_TestWindow T.na_TestWindow_bit .nil))) (d_var (i := 0)))) d_int)))
    (sa_one (sa_ret (sa_op op_or oOr_ok (sa_sup ⟨T.sm, T.su_AnyOf_single, rfl, rfl, rfl, rfl, rfl, T.z_super, rfl, rfl⟩ (.cons T.at_AnyOf T.sup_AnyOf_AnyOf_single (L2.FnR.mono (ok_Kind_single T) (by decide)) .nil) hr (rzX tk) (da_cons (d_var (i := 1)) da_nil)) (d_var (i := 2))))))) wp_AnyOf_single
theorem ok_Masks_may_set (T : Tx P K mg) : FnR P w K mg base (L2.CX P w) 4 T.f_Masks_may_set (toSp K sp_Masks_may_set) :=
  dfnC (k := 3) T.l_Masks_may_set T.c_Masks_may_set T.su_Masks_may_set.kc sc_Masks_may_set (fun us hl => match us, hl with | [_], _ => rfl) len_Masks_may_set (fun A outer s H E hr B RX tk =>
    (sa_one (sa_ret (sa_op opAdd oAdd_ok (sa_sup0 ⟨T.sm, T.su_Masks_may_set, rfl, rfl, rfl, rfl, rfl, T.z_super, rfl, rfl⟩ (.cons T.at_Masks T.sup_Masks_Masks_may_set (L2.FnR.mono (ok_Kind_may_set T) (by decide)) .nil) hr (rzX tk)) (d_callTy (call_tupleD rfl) cTupD_ok (by rfl) T.z_tuple (by decide +kernel) (da_cons (d_fldV (.cons T.at_Masks T.cl_Masks T.na_Masks_own_masks .nil) (d_var (i := 0))) da_nil)))))) wp_Masks_may_set
theorem ok_Masks_single (T : Tx P K mg) : FnR P w K mg base (L2.CX P w) 4 T.f_Masks_single (toSp K sp_Masks_single) :=
  dfnC (k := 3) T.l_Masks_single T.c_Masks_single T.su_Masks_single.kc sc_Masks_single (fun us hl => match us, hl with | [_, _], _ => rfl) len_Masks_single (fun A outer s H E hr B RX tk =>
    (sa_one (sa_ret (sa_op op_or oOr_ok (sa_sup ⟨T.sm, T.su_Masks_single, rfl, rfl, rfl, rfl, rfl, T.z_super, rfl, rfl⟩ (.cons T.at_Masks T.sup_Masks_Masks_single (L2.FnR.mono (ok_Kind_single T) (by decide)) .nil) hr (rzX tk) (da_cons (d_var (i := 1)) da_nil)) (d_get2 (hu_of hr) (d_fldV (.cons T.at_Masks T.cl_Masks T.na_Masks_own_masks .nil) (d_var (i := 0))) (d_var (i := 1)) d_int))))) wp_Masks_single
theorem ok_Window_may_set (T : Tx P K mg) : FnR P w K mg base (L2.CX P w) 4 T.f_Window_may_set (toSp K sp_Window_may_set) :=
  dfnC (k := 3) T.l_Window_may_set T.c_Window_may_set T.su_Window_may_set.kc sc_Window_may_set (fun us hl => match us, hl with | [_], _ => rfl) len_Window_may_set (fun A outer s H E hr B RX tk =>
    (sa_one (sa_ret (sa_op opAdd oAdd_ok (sa_sup0 ⟨T.sm, T.su_Window_may_set, rfl, rfl, rfl, rfl, rfl, T.z_super, rfl, rfl⟩ (.cons T.at_Window T.sup_Window_Window_may_set (L2.FnR.mono (ok_Kind_may_set T) (by decide)) (.cons T.at_TestWindow T.sup_TestWindow_Window_may_set (L2.FnR.mono (ok_Kind_may_set T) (by decide)) .nil)) hr (rzX tk)) (d_fldV (.cons T.at_Window T.cl_Window T.na_Window_own_conditions (.cons T.at_AnyOf T.cl_AnyOf T.na_AnyOf_own_conditions (.cons T.at_TestWindow T.cl_TestWindow T.na_TestWindow_own_conditions .nil))) (d_var (i := 0))))))) wp_Window_may_set
theorem ok_Test_may_set (T : Tx P K mg) : FnR P w K mg base (L2.CX P w) 6 T.f_Test_may_set (toSp K sp_Test_may_set) :=
  dfnC (k := 5) T.l_Test_may_set T.c_Test_may_set T.su_Test_may_set.kc sc_Test_may_set (fun us hl => match us, hl with | [_], _ => rfl) len_Test_may_set (fun A outer s H E hr B RX tk =>
    (sa_one (sa_ret (sa_op opAdd oAdd_ok (sa_sup0 ⟨T.sm, T.su_Test_may_set, rfl, rfl, rfl, rfl, rfl, T.z_super, rfl, rfl⟩ (.cons T.at_Test T.sup_Test_Test_may_set (L2.FnR.mono (ok_Kind_may_set T) (by decide)) (.cons T.at_TestWindow T.sup_TestWindow_Test_may_set (L2.FnR.mono (ok_Window_may_set T) (by decide)) .nil)) hr (rzX tk)) (d_tup (da_cons (d_fldV (.cons T.at_Test T.cl_Test T.na_Test_condition (.cons T.at_TestWindow T.cl_TestWindow T.na_TestWindow_condition .nil)) (d_var (i := 0))) da_nil)))))) wp_Test_may_set
theorem ok_Window_single (T : Tx P K mg) : FnR P w K mg base (L2.CX P w) 4 T.f_Window_single (toSp K sp_Window_single) :=
  dfnC (k := 3) T.l_Window_single T.c_Window_single T.su_Window_single.kc sc_Window_single (fun us hl => match us, hl with | [_, _], _ => rfl) len_Window_single (fun A outer s H E hr B RX tk =>
    (sa_cons (sa_of (d_set (i := 2) sc_Window_single.nd d_int))
    (sa_cons (sa_of (d_for (L2.passes_of rfl) rfl (di_enumerate (by rfl) T.z_enumerate (da_cons (d_fldV (.cons T.at_Window T.cl_Window T.na_Window_own_conditions (.cons T.at_AnyOf T.cl_AnyOf T.na_AnyOf_own_conditions (.cons T.at_TestWindow T.cl_TestWindow T.na_TestWindow_own_conditions .nil))) (d_var (i := 0))) da_nil)) (dg_tup rfl (dgs_cons (dg_name (i := 3) sc_Window_single.nd) (dgs_cons (dg_name (i := 4) sc_Window_single.nd) dgs_nil))) (ds_one (d_if (d_cmpT (opEq hr.units) oEqI_ok (d_var (i := 4)) (d_var (i := 1)) (nomark _)) (ds_one (d_set (i := 2) sc_Window_single.nd (d_op op_shl oShl_ok d_int (d_op opAdd oAdd_ok (d_fldV (.cons T.at_Window T.cl_Window T.na_Window_low (.cons T.at_TestWindow T.cl_TestWindow T.na_TestWindow_low .nil)) (d_var (i := 0))) (d_var (i := 3)))))) ds_nil))))
    (sa_one (sa_ret (sa_op op_or oOr_ok (sa_sup ⟨T.sm, T.su_Window_single, rfl, rfl, rfl, rfl, rfl, T.z_super, rfl, rfl⟩ (.cons T.at_Window T.sup_Window_Window_single (L2.FnR.mono (ok_Kind_single T) (by decide)) (.cons T.at_TestWindow T.sup_TestWindow_Window_single (L2.FnR.mono (ok_Kind_single T) (by decide)) .nil)) hr (rzX tk) (da_cons (d_var (i := 1)) da_nil)) (d_var (i := 2)))))))) wp_Window_single
theorem ok_Test_single (T : Tx P K mg) : FnR P w K mg base (L2.CX P w) 6 T.f_Test_single (toSp K sp_Test_single) :=
  dfnC (k := 5) T.l_Test_single T.c_Test_single T.su_Test_single.kc sc_Test_single (fun us hl => match us, hl with | [_, _], _ => rfl) len_Test_single (fun A outer s H E hr B RX tk =>
    (sa_cons (sa_of (d_set (i := 2) sc_Test_single.nd (d_ifE (d_cmpT (opEq hr.units) oEqI_ok (d_var (i := 1)) (d_fldV (.cons T.at_Test T.cl_Test T.na_Test_condition (.cons T.at_TestWindow T.cl_TestWindow T.na_TestWindow_condition .nil)) (d_var (i := 0))) (nomark _)) (d_op op_shl oShl_ok d_int (d_fldV (.cons T.at_Test T.cl_Test T.na_Test_bit (.cons T.at_AnyOf T.cl_AnyOf T.na_AnyOf_bit (.cons T.at_TestWindow T.cl_TestWindow T.na_TestWindow_bit .nil))) (d_var (i := 0)))) d_int)))
    (sa_one (sa_ret (sa_op op_or oOr_ok (sa_sup ⟨T.sm, T.su_Test_single, rfl, rfl, rfl, rfl, rfl, T.z_super, rfl, rfl⟩ (.cons T.at_Test T.sup_Test_Test_single (L2.FnR.mono (ok_Kind_single T) (by decide)) (.cons T.at_TestWindow T.sup_TestWindow_Test_single (L2.FnR.mono (ok_Window_single T) (by decide)) .nil)) hr (rzX tk) (da_cons (d_var (i := 1)) da_nil)) (d_var (i := 2))))))) wp_Test_single
theorem Tx.F_Kind_masks (T : Tx P K mg) : Fun K "masks" "Kind.masks" s_Kind_masks T.f_Kind_masks (PySem.W.fnOf "masks" "Kind.masks" (defArgs s_Kind_masks) (defBody s_Kind_masks) (defScope s_Kind_masks) .none T.kV_Kind_masks T.dc_Kind_masks T.pm_Kind_masks T.an_Kind_masks T.cd_Kind_masks T.ct_Kind_masks) := fun_mk T.l_Kind_masks T.c_Kind_masks T.k_Kind_masks
theorem Tx.b_Kind_masks (T : Tx P K mg) : Binds K (PySem.W.fnOf "masks" "Kind.masks" (defArgs s_Kind_masks) (defBody s_Kind_masks) (defScope s_Kind_masks) .none T.kV_Kind_masks T.dc_Kind_masks T.pm_Kind_masks T.an_Kind_masks T.cd_Kind_masks T.ct_Kind_masks) p_Kind_masks [] := T.F_Kind_masks.binds fun _ _ _ _ _ _ us hl => match us, hl with | [_], _ => rfl
theorem ok_Kind_masks (T : Tx P K mg) : FnR P w K mg base (L2.CX P w) 8 T.f_Kind_masks (toSp K sp_Kind_masks) := fnR0 (FnOk.mono (j := 8) (dfnX T.F_Kind_masks sc_Kind_masks len_Kind_masks fun B cdv A outer s H E hr => ⟨w_Kind_masks, fun RX tk =>
    (ds_cons (d_set (i := 1) sc_Kind_masks.nd (d_callB cr_sortedS cSortS_ok (by rfl) T.z_sorted (by decide +kernel) (da_cons (d_callTy (callListA rfl) cListA_ok (by rfl) T.z_list (by decide +kernel) (da_cons (d_methV0 (.cons T.at_Kind T.cl_Kind T.mev_Kind_may_set (L2.FnR.mono (ok_Kind_may_set T) (by decide)) (.cons T.at_Test T.cl_Test T.mev_Test_may_set (L2.FnR.mono (ok_Test_may_set T) (by decide)) (.cons T.at_Window T.cl_Window T.mev_Window_may_set (L2.FnR.mono (ok_Window_may_set T) (by decide)) (.cons T.at_AnyOf T.cl_AnyOf T.mev_AnyOf_may_set (L2.FnR.mono (ok_AnyOf_may_set T) (by decide)) (.cons T.at_TestWindow T.cl_TestWindow T.mev_TestWindow_may_set (L2.FnR.mono (ok_Test_may_set T) (by decide)) (.cons T.at_Masks T.cl_Masks T.mev_Masks_may_set (L2.FnR.mono (ok_Masks_may_set T) (by decide)) .nil)))))) hr (rzX tk) (d_var (i := 0))) da_nil)) da_nil)))
    (ds_one (d_ret (d_dc (own := [("condition", 2)]) rfl sc_Kind_masks.nd (di_any (d_var (i := 1))) (blkOk_by (by show blkC N_Kind_masks (defScope s_Kind_masks) _ _ = true; decide +kernel)) (fun _ _ _ _ _ => pg_name (i := 2) sc_Kind_masks.nd rfl (Or.inl rfl)) (binds_one (by decide)) (fun _ _ _ _ _ => (dts_one (d_cmpT (opNe hr.units) oNeI_ok (d_methV (.cons T.at_Kind T.cl_Kind T.mev_Kind_single (L2.FnR.mono (ok_Kind_single T) (by decide)) (.cons T.at_Test T.cl_Test T.mev_Test_single (L2.FnR.mono (ok_Test_single T) (by decide)) (.cons T.at_Window T.cl_Window T.mev_Window_single (L2.FnR.mono (ok_Window_single T) (by decide)) (.cons T.at_AnyOf T.cl_AnyOf T.mev_AnyOf_single (L2.FnR.mono (ok_AnyOf_single T) (by decide)) (.cons T.at_TestWindow T.cl_TestWindow T.mev_TestWindow_single (L2.FnR.mono (ok_Test_single T) (by decide)) (.cons T.at_Masks T.cl_Masks T.mev_Masks_single (L2.FnR.mono (ok_Masks_single T) (by decide)) .nil)))))) hr rzN (d_var (i := 0)) (da_cons (d_var (i := 2)) da_nil)) d_int (nomark _)))) (fun _ _ _ _ _ => (d_var (i := 2))) (fun _ _ _ _ _ => (d_methV (.cons T.at_Kind T.cl_Kind T.mev_Kind_single (L2.FnR.mono (ok_Kind_single T) (by decide)) (.cons T.at_Test T.cl_Test T.mev_Test_single (L2.FnR.mono (ok_Test_single T) (by decide)) (.cons T.at_Window T.cl_Window T.mev_Window_single (L2.FnR.mono (ok_Window_single T) (by decide)) (.cons T.at_AnyOf T.cl_AnyOf T.mev_AnyOf_single (L2.FnR.mono (ok_AnyOf_single T) (by decide)) (.cons T.at_TestWindow T.cl_TestWindow T.mev_TestWindow_single (L2.FnR.mono (ok_Test_single T) (by decide)) (.cons T.at_Masks T.cl_Masks T.mev_Masks_single (L2.FnR.mono (ok_Masks_single T) (by decide)) .nil)))))) hr rzN (d_var (i := 0)) (da_cons (d_var (i := 2)) da_nil))))))),
    wp_Kind_masks⟩) (by decide)) T.b_Kind_masks
theorem Tx.F_Kind_eq__ (T : Tx P K mg) : Fun K "__eq__" "Kind.__eq__" s_Kind_eq__ T.f_Kind_eq__ (PySem.W.fnOf "__eq__" "Kind.__eq__" (defArgs s_Kind_eq__) (defBody s_Kind_eq__) (defScope s_Kind_eq__) .none T.kV_Kind_eq__ T.dc_Kind_eq__ T.pm_Kind_eq__ T.an_Kind_eq__ T.cd_Kind_eq__ T.ct_Kind_eq__) := fun_mk T.l_Kind_eq__ T.c_Kind_eq__ T.k_Kind_eq__
theorem Tx.b_Kind_eq__ (T : Tx P K mg) : Binds K (PySem.W.fnOf "__eq__" "Kind.__eq__" (defArgs s_Kind_eq__) (defBody s_Kind_eq__) (defScope s_Kind_eq__) .none T.kV_Kind_eq__ T.dc_Kind_eq__ T.pm_Kind_eq__ T.an_Kind_eq__ T.cd_Kind_eq__ T.ct_Kind_eq__) p_Kind_eq__ [] := T.F_Kind_eq__.binds fun _ _ _ _ _ _ us hl => match us, hl with | [_, _], _ => rfl
theorem ok_Kind_eq__ (T : Tx P K mg) : FnR P w K mg base (L2.CX P w) 10 T.f_Kind_eq__ (toSp K sp_Kind_eq__) := fnR0 (FnOk.mono (j := 10) (dfnX T.F_Kind_eq__ sc_Kind_eq__ len_Kind_eq__ fun B cdv A outer s H E hr => ⟨w_Kind_eq__, fun RX tk =>
    (ds_one (d_ret (d_andV (d_callB L2.call_isi (cIsOF_ok T.at_Kind T.isc_Kind (TabI.cons T.at_Kind T.inf_Kind T.kitC_Kind_Kind (TabI.cons T.at_Test T.inf_Test T.kitC_Test_Kind (TabI.cons T.at_Window T.inf_Window T.kitC_Window_Kind (TabI.cons T.at_AnyOf T.inf_AnyOf T.kitC_AnyOf_Kind (TabI.cons T.at_TestWindow T.inf_TestWindow T.kitC_TestWindow_Kind (TabI.cons T.at_Masks T.inf_Masks T.kitC_Masks_Kind TabI.nil))))))) (by rfl) T.z_isinstance (by decide +kernel) (da_cons (d_var (i := 1)) (da_cons (d_gcls (by rfl) T.m_Kind T.at_Kind) da_nil))) (d_andV (d_cmp (opEq hr.units) oEqI_ok (d_fldV (.cons T.at_Kind T.cl_Kind T.na_Kind_name (.cons T.at_Test T.cl_Test T.na_Test_name (.cons T.at_Window T.cl_Window T.na_Window_name (.cons T.at_AnyOf T.cl_AnyOf T.na_AnyOf_name (.cons T.at_TestWindow T.cl_TestWindow T.na_TestWindow_name (.cons T.at_Masks T.cl_Masks T.na_Masks_name .nil)))))) (d_var (i := 0))) (d_fldV (.cons T.at_Kind T.cl_Kind T.na_Kind_name (.cons T.at_Test T.cl_Test T.na_Test_name (.cons T.at_Window T.cl_Window T.na_Window_name (.cons T.at_AnyOf T.cl_AnyOf T.na_AnyOf_name (.cons T.at_TestWindow T.cl_TestWindow T.na_TestWindow_name (.cons T.at_Masks T.cl_Masks T.na_Masks_name .nil)))))) (d_var (i := 1))) (nomark _)) (d_one (d_cmp (op_eqDI (room65 (k := 0) (hr.mono (by decide)))) oCmpDI_ok (d_methV0 (.cons T.at_Kind T.cl_Kind T.mev_Kind_masks (L2.FnR.mono (ok_Kind_masks T) (by decide)) (.cons T.at_Test T.cl_Test T.mev_Test_masks (L2.FnR.mono (ok_Kind_masks T) (by decide)) (.cons T.at_Window T.cl_Window T.mev_Window_masks (L2.FnR.mono (ok_Kind_masks T) (by decide)) (.cons T.at_AnyOf T.cl_AnyOf T.mev_AnyOf_masks (L2.FnR.mono (ok_Kind_masks T) (by decide)) (.cons T.at_TestWindow T.cl_TestWindow T.mev_TestWindow_masks (L2.FnR.mono (ok_Kind_masks T) (by decide)) (.cons T.at_Masks T.cl_Masks T.mev_Masks_masks (L2.FnR.mono (ok_Kind_masks T) (by decide)) .nil)))))) hr (rzX tk) (d_var (i := 0))) (d_methV0 (.cons T.at_Kind T.cl_Kind T.mev_Kind_masks (L2.FnR.mono (ok_Kind_masks T) (by decide)) (.cons T.at_Test T.cl_Test T.mev_Test_masks (L2.FnR.mono (ok_Kind_masks T) (by decide)) (.cons T.at_Window T.cl_Window T.mev_Window_masks (L2.FnR.mono (ok_Kind_masks T) (by decide)) (.cons T.at_AnyOf T.cl_AnyOf T.mev_AnyOf_masks (L2.FnR.mono (ok_Kind_masks T) (by decide)) (.cons T.at_TestWindow T.cl_TestWindow T.mev_TestWindow_masks (L2.FnR.mono (ok_Kind_masks T) (by decide)) (.cons T.at_Masks T.cl_Masks T.mev_Masks_masks (L2.FnR.mono (ok_Kind_masks T) (by decide)) .nil)))))) hr (rzX tk) (d_var (i := 1))) (nomark _))))))),
    wp_Kind_eq__⟩) (by decide)) T.b_Kind_eq__
theorem ok_Window_init__ (T : Tx P K mg) : FnR P w K mg base (L2.CX P w) 6 T.f_Window_init__ (toSp K (starSp 3 sp_Window_init__)) :=
  dfnCS (k := 5) (ps := ["self", "name", "low"]) (pv := "conditions") T.l_Window_init__ T.c_Window_init__ T.su_Window_init__.kc sc_Window_init__ (fun us rest hl => match us, rest, hl with
    | [_, _, _], [], _ => rfl
    | [_, _, _], _ :: _, _ => rfl) (fun A outer s H E hr B RX tk =>
    (sa_cons (sa_of (d_exp (d_call (ok_need T) (hr.mono (by decide)) (by rfl) T.g_need T.F_need.kp T.b_need .nil (fun _ _ => .nil) (da_cons (d_call (ok_is_name T) (hr.mono (by decide)) (by rfl) T.g_is_name T.F_is_name.kp T.b_is_name .nil (fun _ _ => .nil) (da_cons (d_var (i := 1)) da_nil)) (da_cons d_str da_nil)))))
    (sa_cons (sa_of (d_exp (d_call (ok_need T) (hr.mono (by decide)) (by rfl) T.g_need T.F_need.kp T.b_need .nil (fun _ _ => .nil) (da_cons (d_andV (d_call (ok_is_between T) (hr.mono (by decide)) (by rfl) T.g_is_between T.F_is_between.kp T.b_is_between .nil (fun _ _ => .nil) (da_cons (d_var (i := 2)) (da_cons d_int (da_cons (d_gint T.g_MOST_BIT) da_nil)))) (d_one (d_cmp op_le oLe_ok (d_op op_sub oSub_ok (d_op opAdd oAdd_ok (d_var (i := 2)) (d_callB callLen cLen_ok (by rfl) T.z_len (by decide +kernel) (da_cons (d_var (i := 3)) da_nil))) d_int) (d_gint T.g_MOST_BIT) (nomark _)))) (da_cons d_str da_nil)))))
    (sa_cons (sa_of (d_exp (d_call (ok_need T) (hr.mono (by decide)) (by rfl) T.g_need T.F_need.kp T.b_need .nil (fun _ _ => .nil) (da_cons (d_call (ok_are_conditions T) (hr.mono (by decide)) (by rfl) T.g_are_conditions T.F_are_conditions.kp T.b_are_conditions .nil (fun _ _ => .nil) (da_cons (d_var (i := 3)) da_nil)) (da_cons d_str da_nil)))))
    (sa_cons (sa_expr (sa_sup ⟨T.sm, T.su_Window_init__, rfl, rfl, rfl, rfl, rfl, T.z_super, rfl, rfl⟩ (.cons T.at_Window T.sup_Window_Window___init__ (L2.FnR.mono (ok_Kind_init__ T) (by decide)) (.cons T.at_TestWindow T.sup_TestWindow_Window___init__ (L2.FnR.mono (ok_Kind_init__ T) (by decide)) .nil)) hr (rzX tk) (da_cons (d_var (i := 1)) da_nil)))
    (sa_cons (sa_of (d_setFV (.cons T.at_Window T.cl_Window T.na_Window_low (.cons T.at_TestWindow T.cl_TestWindow T.na_TestWindow_low .nil)) (d_var (i := 0)) (d_var (i := 2))))
    (sa_one (sa_of (d_setFV (.cons T.at_Window T.cl_Window T.na_Window_own_conditions (.cons T.at_AnyOf T.cl_AnyOf T.na_AnyOf_own_conditions (.cons T.at_TestWindow T.cl_TestWindow T.na_TestWindow_own_conditions .nil))) (d_var (i := 0)) (d_var (i := 3))))))))))) wp_Window_init__
theorem ok_Test_init__ (T : Tx P K mg) : FnR P w K mg base (L2.CX P w) 8 T.f_Test_init__ (toSp K (starSp 4 sp_Test_init__)) :=
  dfnCS (k := 7) (ps := ["self", "name", "condition", "bit"]) (pv := "rest") T.l_Test_init__ T.c_Test_init__ T.su_Test_init__.kc sc_Test_init__ (fun us rest hl => match us, rest, hl with
    | [_, _, _, _], [], _ => rfl
    | [_, _, _, _], _ :: _, _ => rfl) (fun A outer s H E hr B RX tk =>
    (sa_cons (sa_of (d_exp (d_call (ok_need T) (hr.mono (by decide)) (by rfl) T.g_need T.F_need.kp T.b_need .nil (fun _ _ => .nil) (da_cons (d_call (ok_is_name T) (hr.mono (by decide)) (by rfl) T.g_is_name T.F_is_name.kp T.b_is_name .nil (fun _ _ => .nil) (da_cons (d_var (i := 1)) da_nil)) (da_cons d_str da_nil)))))
    (sa_cons (sa_of (d_exp (d_call (ok_need T) (hr.mono (by decide)) (by rfl) T.g_need T.F_need.kp T.b_need .nil (fun _ _ => .nil) (da_cons (d_call (ok_is_name T) (hr.mono (by decide)) (by rfl) T.g_is_name T.F_is_name.kp T.b_is_name .nil (fun _ _ => .nil) (da_cons (d_var (i := 2)) da_nil)) (da_cons d_str da_nil)))))
    (sa_cons (sa_of (d_exp (d_call (ok_need T) (hr.mono (by decide)) (by rfl) T.g_need T.F_need.kp T.b_need .nil (fun _ _ => .nil) (da_cons (d_call (ok_is_between T) (hr.mono (by decide)) (by rfl) T.g_is_between T.F_is_between.kp T.b_is_between .nil (fun _ _ => .nil) (da_cons (d_var (i := 3)) (da_cons d_int (da_cons (d_gint T.g_MOST_BIT) da_nil)))) (da_cons d_str da_nil)))))
    (sa_cons (sa_expr (sa_supS ⟨T.sm, T.su_Test_init__, rfl, rfl, rfl, rfl, rfl, T.z_super, rfl, rfl⟩ (.cons T.at_Test T.sup_Test_Test___init__ (L2.FnR.mono (ok_Kind_init__ T) (by decide)) (.cons T.at_TestWindow T.sup_TestWindow_Test___init__ (L2.FnR.mono (ok_Window_init__ T) (by decide)) .nil)) hr (rzX tk) (da_cons (d_var (i := 1)) (da_star (d_var (i := 4)) da_nil))))
    (sa_cons (sa_of (d_setFV (.cons T.at_Test T.cl_Test T.na_Test_condition (.cons T.at_TestWindow T.cl_TestWindow T.na_TestWindow_condition .nil)) (d_var (i := 0)) (d_var (i := 2))))
    (sa_one (sa_of (d_setFV (.cons T.at_Test T.cl_Test T.na_Test_bit (.cons T.at_AnyOf T.cl_AnyOf T.na_AnyOf_bit (.cons T.at_TestWindow T.cl_TestWindow T.na_TestWindow_bit .nil))) (d_var (i := 0)) (d_var (i := 3))))))))))) wp_Test_init__
theorem Tx.F_Window_of (T : Tx P K mg) : Fun K "of" "Window.of" s_Window_of T.f_Window_of (PySem.W.fnOf "of" "Window.of" (defArgs s_Window_of) (defBody s_Window_of) (defScope s_Window_of) .none T.kV_Window_of T.dc_Window_of T.pm_Window_of T.an_Window_of T.cd_Window_of T.ct_Window_of) := fun_mk T.l_Window_of T.c_Window_of T.k_Window_of
theorem Tx.b_Window_of (T : Tx P K mg) : Binds K (PySem.W.fnOf "of" "Window.of" (defArgs s_Window_of) (defBody s_Window_of) (defScope s_Window_of) .none T.kV_Window_of T.dc_Window_of T.pm_Window_of T.an_Window_of T.cd_Window_of T.ct_Window_of) p_Window_of [] := T.F_Window_of.binds fun _ _ _ _ _ _ us hl => match us, hl with | [_, _, _], _ => rfl
theorem ok_Window_of (T : Tx P K mg) : FnR P w K mg base (L2.CX P w) 8 T.f_Window_of (toSp K sp_Window_of) := fnR0 (FnOk.mono (j := 8) (dfnX T.F_Window_of sc_Window_of len_Window_of fun B cdv A outer s H E hr => ⟨w_Window_of, fun RX tk =>
    (ds_one (d_ret (d_mkG T.at_Window T.mk_Window (ok_Window_init__ T) (hr.mono (by decide)) (rzX tk) (by rfl) T.m_Window (da_cons (d_var (i := 0)) (da_cons (d_var (i := 1)) (da_star (d_var (i := 2)) da_nil)))))),
    wp_Window_of⟩) (by decide)) T.b_Window_of
theorem ok_AnyOf_init__ (T : Tx P K mg) : FnR P w K mg base (L2.CX P w) 6 T.f_AnyOf_init__ (toSp K (starSp 3 sp_AnyOf_init__)) :=
  dfnCS (k := 5) (ps := ["self", "name", "bit"]) (pv := "conditions") T.l_AnyOf_init__ T.c_AnyOf_init__ T.su_AnyOf_init__.kc sc_AnyOf_init__ (fun us rest hl => match us, rest, hl with
    | [_, _, _], [], _ => rfl
    | [_, _, _], _ :: _, _ => rfl) (fun A outer s H E hr B RX tk =>
    (sa_cons (sa_of (d_exp (d_call (ok_need T) (hr.mono (by decide)) (by rfl) T.g_need T.F_need.kp T.b_need .nil (fun _ _ => .nil) (da_cons (d_call (ok_is_name T) (hr.mono (by decide)) (by rfl) T.g_is_name T.F_is_name.kp T.b_is_name .nil (fun _ _ => .nil) (da_cons (d_var (i := 1)) da_nil)) (da_cons d_str da_nil)))))
    (sa_cons (sa_of (d_exp (d_call (ok_need T) (hr.mono (by decide)) (by rfl) T.g_need T.F_need.kp T.b_need .nil (fun _ _ => .nil) (da_cons (d_call (ok_is_between T) (hr.mono (by decide)) (by rfl) T.g_is_between T.F_is_between.kp T.b_is_between .nil (fun _ _ => .nil) (da_cons (d_var (i := 2)) (da_cons d_int (da_cons (d_gint T.g_MOST_BIT) da_nil)))) (da_cons d_str da_nil)))))
    (sa_cons (sa_of (d_exp (d_call (ok_need T) (hr.mono (by decide)) (by rfl) T.g_need T.F_need.kp T.b_need .nil (fun _ _ => .nil) (da_cons (d_call (ok_are_conditions T) (hr.mono (by decide)) (by rfl) T.g_are_conditions T.F_are_conditions.kp T.b_are_conditions .nil (fun _ _ => .nil) (da_cons (d_var (i := 3)) da_nil)) (da_cons d_str da_nil)))))
    (sa_cons (sa_expr (sa_sup ⟨T.sm, T.su_AnyOf_init__, rfl, rfl, rfl, rfl, rfl, T.z_super, rfl, rfl⟩ (.cons T.at_AnyOf T.sup_AnyOf_AnyOf___init__ (L2.FnR.mono (ok_Kind_init__ T) (by decide)) .nil) hr (rzX tk) (da_cons (d_var (i := 1)) da_nil)))
    (sa_cons (sa_of (d_setFV (.cons T.at_Test T.cl_Test T.na_Test_bit (.cons T.at_AnyOf T.cl_AnyOf T.na_AnyOf_bit (.cons T.at_TestWindow T.cl_TestWindow T.na_TestWindow_bit .nil))) (d_var (i := 0)) (d_var (i := 2))))
    (sa_one (sa_of (d_setFV (.cons T.at_Window T.cl_Window T.na_Window_own_conditions (.cons T.at_AnyOf T.cl_AnyOf T.na_AnyOf_own_conditions (.cons T.at_TestWindow T.cl_TestWindow T.na_TestWindow_own_conditions .nil))) (d_var (i := 0)) (d_var (i := 3))))))))))) wp_AnyOf_init__
theorem Tx.F_AnyOf_of (T : Tx P K mg) : Fun K "of" "AnyOf.of" s_AnyOf_of T.f_AnyOf_of (PySem.W.fnOf "of" "AnyOf.of" (defArgs s_AnyOf_of) (defBody s_AnyOf_of) (defScope s_AnyOf_of) .none T.kV_AnyOf_of T.dc_AnyOf_of T.pm_AnyOf_of T.an_AnyOf_of T.cd_AnyOf_of T.ct_AnyOf_of) := fun_mk T.l_AnyOf_of T.c_AnyOf_of T.k_AnyOf_of
theorem Tx.b_AnyOf_of (T : Tx P K mg) : Binds K (PySem.W.fnOf "of" "AnyOf.of" (defArgs s_AnyOf_of) (defBody s_AnyOf_of) (defScope s_AnyOf_of) .none T.kV_AnyOf_of T.dc_AnyOf_of T.pm_AnyOf_of T.an_AnyOf_of T.cd_AnyOf_of T.ct_AnyOf_of) p_AnyOf_of [] := T.F_AnyOf_of.binds fun _ _ _ _ _ _ us hl => match us, hl with | [_, _, _], _ => rfl
theorem ok_AnyOf_of (T : Tx P K mg) : FnR P w K mg base (L2.CX P w) 8 T.f_AnyOf_of (toSp K sp_AnyOf_of) := fnR0 (FnOk.mono (j := 8) (dfnX T.F_AnyOf_of sc_AnyOf_of len_AnyOf_of fun B cdv A outer s H E hr => ⟨w_AnyOf_of, fun RX tk =>
    (ds_one (d_ret (d_mkG T.at_AnyOf T.mk_AnyOf (ok_AnyOf_init__ T) (hr.mono (by decide)) (rzX tk) (by rfl) T.m_AnyOf (da_cons (d_var (i := 0)) (da_cons (d_var (i := 1)) (da_star (d_var (i := 2)) da_nil)))))),
    wp_AnyOf_of⟩) (by decide)) T.b_AnyOf_of
theorem ok_TestWindow_init__ (T : Tx P K mg) : FnR P w K mg base (L2.CX P w) 10 T.f_TestWindow_init__ (toSp K (starSp 5 sp_TestWindow_init__)) :=
  dfnCS (k := 9) (ps := ["self", "name", "condition", "bit", "low"]) (pv := "conditions") T.l_TestWindow_init__ T.c_TestWindow_init__ T.su_TestWindow_init__.kc sc_TestWindow_init__ (fun us rest hl => match us, rest, hl with
    | [_, _, _, _, _], [], _ => rfl
    | [_, _, _, _, _], _ :: _, _ => rfl) (fun A outer s H E hr B RX tk =>
    (sa_one (sa_expr (sa_supS ⟨T.sm, T.su_TestWindow_init__, rfl, rfl, rfl, rfl, rfl, T.z_super, rfl, rfl⟩ (.cons T.at_TestWindow T.sup_TestWindow_TestWindow___init__ (L2.FnR.mono (ok_Test_init__ T) (by decide)) .nil) hr (rzX tk) (da_cons (d_var (i := 1)) (da_cons (d_var (i := 2)) (da_cons (d_var (i := 3)) (da_cons (d_var (i := 4)) (da_star (d_var (i := 5)) da_nil))))))))) wp_TestWindow_init__
theorem ok_Masks_init__ (T : Tx P K mg) : FnR P w K mg base (L2.CX P w) 6 T.f_Masks_init__ (toSp K sp_Masks_init__) :=
  dfnC (k := 5) T.l_Masks_init__ T.c_Masks_init__ T.su_Masks_init__.kc sc_Masks_init__ (fun us hl => match us, hl with | [_, _, _], _ => rfl) len_Masks_init__ (fun A outer s H E hr B RX tk =>
    (sa_cons (sa_of (d_exp (d_call (ok_need T) (hr.mono (by decide)) (by rfl) T.g_need T.F_need.kp T.b_need .nil (fun _ _ => .nil) (da_cons (d_call (ok_is_name T) (hr.mono (by decide)) (by rfl) T.g_is_name T.F_is_name.kp T.b_is_name .nil (fun _ _ => .nil) (da_cons (d_var (i := 1)) da_nil)) (da_cons d_str da_nil)))))
    (sa_cons (sa_of (d_exp (d_call (ok_need T) (hr.mono (by decide)) (by rfl) T.g_need T.F_need.kp T.b_need .nil (fun _ _ => .nil) (da_cons (d_andV (d_callB call_isi cIsiF_ok (by rfl) T.z_isinstance (by decide +kernel) (da_cons (d_var (i := 2)) (da_cons (d_ty T.z_dict (by decide +kernel)) da_nil))) (d_one (d_cmp op_le oLe_ok (d_callB callLen cLen_ok (by rfl) T.z_len (by decide +kernel) (da_cons (d_var (i := 2)) da_nil)) (d_gint T.g_MOST_CONDITIONS) (nomark _)))) (da_cons d_str da_nil)))))
    (sa_cons (sa_of (d_exp (d_call (ok_need T) (hr.mono (by decide)) (by rfl) T.g_need T.F_need.kp T.b_need .nil (fun _ _ => .nil) (da_cons (d_callB (cr_all rfl) cAll_ok (by rfl) T.z_all (by decide +kernel) (da_cons (d_lc (own := [("condition", 3)]) rfl sc_Masks_init__.nd (di_fdc (d_var (i := 2))) (blkOk_by (by show blkC N_Masks_init__ (defScope s_Masks_init__) _ _ = true; decide +kernel)) (fun _ _ _ _ _ => pg_name (i := 3) sc_Masks_init__.nd rfl (Or.inl rfl)) (binds_one (by decide)) (fun _ _ _ _ _ => dts_nil) (fun _ _ _ _ _ => (d_call (ok_is_name T) (hr.mono (by decide)) (by rfl) T.g_is_name T.F_is_name.kp T.b_is_name .nil (fun _ _ => .nil) (da_cons (d_var (i := 3)) da_nil)))) da_nil)) (da_cons d_str da_nil)))))
    (sa_cons (sa_of (d_exp (d_call (ok_need T) (hr.mono (by decide)) (by rfl) T.g_need T.F_need.kp T.b_need .nil (fun _ _ => .nil) (da_cons (d_callB (cr_all rfl) cAll_ok (by rfl) T.z_all (by decide +kernel) (da_cons (d_lc (own := [("condition", 3)]) rfl sc_Masks_init__.nd (di_fdc (d_var (i := 2))) (blkOk_by (by show blkC N_Masks_init__ (defScope s_Masks_init__) _ _ = true; decide +kernel)) (fun _ _ _ _ _ => pg_name (i := 3) sc_Masks_init__.nd rfl (Or.inl rfl)) (binds_one (by decide)) (fun _ _ _ _ _ => dts_nil) (fun _ _ _ _ _ => (d_call (ok_is_between T) (hr.mono (by decide)) (by rfl) T.g_is_between T.F_is_between.kp T.b_is_between .nil (fun _ _ => .nil) (da_cons (d_dget (hu_of hr) (d_var (i := 2)) (d_var (i := 3))) (da_cons d_int (da_cons (d_gint T.g_MOST_MASK) da_nil)))))) da_nil)) (da_cons d_str da_nil)))))
    (sa_cons (sa_expr (sa_sup ⟨T.sm, T.su_Masks_init__, rfl, rfl, rfl, rfl, rfl, T.z_super, rfl, rfl⟩ (.cons T.at_Masks T.sup_Masks_Masks___init__ (L2.FnR.mono (ok_Kind_init__ T) (by decide)) .nil) hr (rzX tk) (da_cons (d_var (i := 1)) da_nil)))
    (sa_one (sa_of (d_setFV (.cons T.at_Masks T.cl_Masks T.na_Masks_own_masks .nil) (d_var (i := 0)) (d_dc (own := [("condition", 3)]) rfl sc_Masks_init__.nd (di_fdc (d_var (i := 2))) (blkOk_by (by show blkC N_Masks_init__ (defScope s_Masks_init__) _ _ = true; decide +kernel)) (fun _ _ _ _ _ => pg_name (i := 3) sc_Masks_init__.nd rfl (Or.inl rfl)) (binds_one (by decide)) (fun _ _ _ _ _ => dts_nil) (fun _ _ _ _ _ => (d_var (i := 3))) (fun _ _ _ _ _ => (d_dget (hu_of hr) (d_var (i := 2)) (d_var (i := 3)))))))))))))) wp_Masks_init__
theorem Tx.F_law_pen (T : Tx P K mg) : Fun K "_law_pen" "_law_pen" s_law_pen T.f_law_pen (PySem.W.fnOf "_law_pen" "_law_pen" (defArgs s_law_pen) (defBody s_law_pen) (defScope s_law_pen) .none T.kV_law_pen T.dc_law_pen T.pm_law_pen T.an_law_pen T.cd_law_pen T.ct_law_pen) := fun_mk T.l_law_pen T.c_law_pen T.k_law_pen
theorem Tx.b_law_pen (T : Tx P K mg) : Binds K (PySem.W.fnOf "_law_pen" "_law_pen" (defArgs s_law_pen) (defBody s_law_pen) (defScope s_law_pen) .none T.kV_law_pen T.dc_law_pen T.pm_law_pen T.an_law_pen T.cd_law_pen T.ct_law_pen) p_law_pen [] := T.F_law_pen.binds fun _ _ _ _ _ _ us hl => match us, hl with | [_], _ => rfl
theorem ok_law_pen (T : Tx P K mg) : FnOk P w K mg base CX0 2 T.f_law_pen (PySem.W.fnOf "_law_pen" "_law_pen" (defArgs s_law_pen) (defBody s_law_pen) (defScope s_law_pen) .none T.kV_law_pen T.dc_law_pen T.pm_law_pen T.an_law_pen T.cd_law_pen T.ct_law_pen) p_law_pen (toSp K sp_law_pen) :=
  dfn2 T.F_law_pen sc_law_pen len_law_pen fun B cdv A outer s H E hr => ⟨w_law_pen,
    (ds_one (d_ret (d_lstM (da_cons (d_callTy (callListA rfl) cListA_ok (by rfl) T.z_list (by decide +kernel) (da_cons (d_sl (d_var (i := 0)) do_none (do_some d_int)) da_nil)) (da_cons d_int (da_cons d_int da_nil)))))),
    wp_law_pen⟩
theorem Tx.F_law_draw (T : Tx P K mg) : Fun K "_law_draw" "_law_draw" s_law_draw T.f_law_draw (PySem.W.fnOf "_law_draw" "_law_draw" (defArgs s_law_draw) (defBody s_law_draw) (defScope s_law_draw) .none T.kV_law_draw T.dc_law_draw T.pm_law_draw T.an_law_draw T.cd_law_draw T.ct_law_draw) := fun_mk T.l_law_draw T.c_law_draw T.k_law_draw
theorem Tx.b_law_draw (T : Tx P K mg) : Binds K (PySem.W.fnOf "_law_draw" "_law_draw" (defArgs s_law_draw) (defBody s_law_draw) (defScope s_law_draw) .none T.kV_law_draw T.dc_law_draw T.pm_law_draw T.an_law_draw T.cd_law_draw T.ct_law_draw) p_law_draw [] := T.F_law_draw.binds fun _ _ _ _ _ _ us hl => match us, hl with | [_, _], _ => rfl
theorem ok_law_draw (T : Tx P K mg) : FnOk P w K mg base CX0 2 T.f_law_draw (PySem.W.fnOf "_law_draw" "_law_draw" (defArgs s_law_draw) (defBody s_law_draw) (defScope s_law_draw) .none T.kV_law_draw T.dc_law_draw T.pm_law_draw T.an_law_draw T.cd_law_draw T.ct_law_draw) p_law_draw (toSp K sp_law_draw) :=
  dfn2 T.F_law_draw sc_law_draw len_law_draw fun B cdv A outer s H E hr => ⟨w_law_draw,
    (ds_cons (d_if (d_cmpT op_gt oGt_ok (d_ix (d_var (i := 0)) d_int) d_int (nomark _)) (ds_cons (d_set (i := 5) sc_law_draw.nd (d_op op_mod oMod_ok (d_callTy call_int1 cInt_ok (by rfl) T.z_int (by decide +kernel) (da_cons (d_ix (d_var (i := 0)) d_int) da_nil)) (d_var (i := 1))))
    (ds_cons (d_asg (d_op op_fdivW oFdiv_ok (d_callTy call_int1 cInt_ok (by rfl) T.z_int (by decide +kernel) (da_cons (d_ix (d_var (i := 0)) d_int) da_nil)) (d_var (i := 1))) (dg_ixL (d_var (i := 0)) d_int))
    (ds_one (d_ret (d_var (i := 5)))))) ds_nil)
    (ds_cons (d_set (i := 2) sc_law_draw.nd (d_ix (d_var (i := 0)) d_int))
    (ds_cons (d_asg (d_op opAdd oAdd_ok (d_var (i := 2)) d_int) (dg_ixL (d_var (i := 0)) d_int))
    (ds_cons (d_set (i := 3) sc_law_draw.nd (d_op opAdd oAdd_ok (d_op opMul oMul_ok d_int (d_var (i := 2))) d_int))
    (ds_cons (d_if (d_cmpT (opNe hr.units) oNeI_ok (d_ix (d_var (i := 0)) d_int) (d_lst da_nil) (nomark _)) (ds_one (d_set (i := 3) sc_law_draw.nd (d_ix (d_ix (d_var (i := 0)) d_int) (d_op op_mod oMod_ok (d_callTy call_int1 cInt_ok (by rfl) T.z_int (by decide +kernel) (da_cons (d_var (i := 2)) da_nil)) (d_callB callLen cLen_ok (by rfl) T.z_len (by decide +kernel) (da_cons (d_ix (d_var (i := 0)) d_int) da_nil)))))) ds_nil)
    (ds_cons (d_if (L2.PW.pt (d_and (d_cmpT op_lt oLt_ok (d_var (i := 2)) (d_callB callLen cLen_ok (by rfl) T.z_len (by decide +kernel) (da_cons (d_ix (d_var (i := 0)) d_int) da_nil)) (nomark _)) (d_and1 (d_cmpT op_ge oGe_ok (d_callB call_abs cAbs_ok (by rfl) T.z_abs (by decide +kernel) (da_cons (d_var (i := 3)) da_nil)) (d_op op_pow oPow_ok d_int d_int) (nomark _))))) (ds_cons (d_set (i := 6) sc_law_draw.nd (d_op opAdd oAdd_ok (d_op opMul oMul_ok d_int (d_op op_sub oSub_ok (d_callB call_abs cAbs_ok (by rfl) T.z_abs (by decide +kernel) (da_cons (d_var (i := 3)) da_nil)) (d_op op_pow oPow_ok d_int d_int))) (d_callTy call_int1 cInt_ok (by rfl) T.z_int (by decide +kernel) (da_cons (d_cmp op_lt oLt_ok (d_var (i := 3)) d_int (nomark _)) da_nil))))
    (ds_cons (d_asg (d_op op_fdivW oFdiv_ok (d_callTy call_int1 cInt_ok (by rfl) T.z_int (by decide +kernel) (da_cons (d_var (i := 6)) da_nil)) (d_var (i := 1))) (dg_ixL (d_var (i := 0)) d_int))
    (ds_one (d_ret (d_op op_mod oMod_ok (d_callTy call_int1 cInt_ok (by rfl) T.z_int (by decide +kernel) (da_cons (d_var (i := 6)) da_nil)) (d_var (i := 1))))))) ds_nil)
    (ds_cons (d_set (i := 4) sc_law_draw.nd (d_op op_mod oMod_ok (d_callTy call_int1 cInt_ok (by rfl) T.z_int (by decide +kernel) (da_cons (d_op op_pow oPow_ok (d_op opAdd oAdd_ok (d_op opAdd oAdd_ok (d_op op_mod oMod_ok (d_callTy call_int1 cInt_ok (by rfl) T.z_int (by decide +kernel) (da_cons (d_var (i := 3)) da_nil)) d_int) (d_op opMul oMul_ok d_int (d_var (i := 2)))) d_int) d_int) da_nil)) d_int))
    (ds_cons (d_set (i := 4) sc_law_draw.nd (d_op op_mod oMod_ok (d_callTy call_int1 cInt_ok (by rfl) T.z_int (by decide +kernel) (da_cons (d_op op_pow oPow_ok (d_op opAdd oAdd_ok (d_op opAdd oAdd_ok (d_op opMul oMul_ok (d_var (i := 4)) (d_op opAdd oAdd_ok (d_op opMul oMul_ok d_int (d_var (i := 2))) d_int)) (d_op opMul oMul_ok (d_op opMul oMul_ok d_int (d_var (i := 2))) (d_var (i := 2)))) d_int) d_int) da_nil)) d_int))
    (ds_one (d_ret (d_op op_mod oMod_ok (d_callTy call_int1 cInt_ok (by rfl) T.z_int (by decide +kernel) (da_cons (d_op op_fdivW oFdiv_ok (d_var (i := 4)) d_int) da_nil)) (d_var (i := 1))))))))))))),
    wp_law_draw⟩
theorem Tx.F_law_pick (T : Tx P K mg) : Fun K "_law_pick" "_law_pick" s_law_pick T.f_law_pick (PySem.W.fnOf "_law_pick" "_law_pick" (defArgs s_law_pick) (defBody s_law_pick) (defScope s_law_pick) .none T.kV_law_pick T.dc_law_pick T.pm_law_pick T.an_law_pick T.cd_law_pick T.ct_law_pick) := fun_mk T.l_law_pick T.c_law_pick T.k_law_pick
theorem Tx.b_law_pick (T : Tx P K mg) : Binds K (PySem.W.fnOf "_law_pick" "_law_pick" (defArgs s_law_pick) (defBody s_law_pick) (defScope s_law_pick) .none T.kV_law_pick T.dc_law_pick T.pm_law_pick T.an_law_pick T.cd_law_pick T.ct_law_pick) p_law_pick [] := T.F_law_pick.binds fun _ _ _ _ _ _ us hl => match us, hl with | [_, _], _ => rfl
theorem ok_law_pick (T : Tx P K mg) : FnOk P w K mg base CX0 4 T.f_law_pick (PySem.W.fnOf "_law_pick" "_law_pick" (defArgs s_law_pick) (defBody s_law_pick) (defScope s_law_pick) .none T.kV_law_pick T.dc_law_pick T.pm_law_pick T.an_law_pick T.cd_law_pick T.ct_law_pick) p_law_pick (toSp K sp_law_pick) :=
  dfn2 T.F_law_pick sc_law_pick len_law_pick fun B cdv A outer s H E hr => ⟨w_law_pick,
    (ds_one (d_ret (d_ix (d_var (i := 1)) (d_call (ok_law_draw T) (hr.mono (by decide)) (by rfl) T.g_law_draw T.F_law_draw.kp T.b_law_draw .nil (fun _ _ => .nil) (da_cons (d_var (i := 0)) (da_cons (d_callB callLen cLen_ok (by rfl) T.z_len (by decide +kernel) (da_cons (d_var (i := 1)) da_nil)) da_nil)))))),
    wp_law_pick⟩
theorem Tx.F_law_mixed (T : Tx P K mg) : Fun K "_law_mixed" "_law_mixed" s_law_mixed T.f_law_mixed (PySem.W.fnOf "_law_mixed" "_law_mixed" (defArgs s_law_mixed) (defBody s_law_mixed) (defScope s_law_mixed) .none T.kV_law_mixed T.dc_law_mixed T.pm_law_mixed T.an_law_mixed T.cd_law_mixed T.ct_law_mixed) := fun_mk T.l_law_mixed T.c_law_mixed T.k_law_mixed
theorem Tx.b_law_mixed (T : Tx P K mg) : Binds K (PySem.W.fnOf "_law_mixed" "_law_mixed" (defArgs s_law_mixed) (defBody s_law_mixed) (defScope s_law_mixed) .none T.kV_law_mixed T.dc_law_mixed T.pm_law_mixed T.an_law_mixed T.cd_law_mixed T.ct_law_mixed) p_law_mixed [] := T.F_law_mixed.binds fun _ _ _ _ _ _ us hl => match us, hl with | [_, _], _ => rfl
theorem ok_law_mixed (T : Tx P K mg) : FnOk P w K mg base CX0 4 T.f_law_mixed (PySem.W.fnOf "_law_mixed" "_law_mixed" (defArgs s_law_mixed) (defBody s_law_mixed) (defScope s_law_mixed) .none T.kV_law_mixed T.dc_law_mixed T.pm_law_mixed T.an_law_mixed T.cd_law_mixed T.ct_law_mixed) p_law_mixed (toSp K sp_law_mixed) :=
  dfn2 T.F_law_mixed sc_law_mixed len_law_mixed fun B cdv A outer s H E hr => ⟨w_law_mixed,
    (ds_cons (d_set (i := 2) sc_law_mixed.nd (d_callTy (callListA rfl) cListA_ok (by rfl) T.z_list (by decide +kernel) (da_cons (d_var (i := 1)) da_nil)))
    (ds_one (d_ret (d_lc (own := [("_law_k", 3)]) rfl sc_law_mixed.nd (di_range1 (by rfl) T.z_range (da_cons (d_callB callLen cLen_ok (by rfl) T.z_len (by decide +kernel) (da_cons (d_var (i := 2)) da_nil)) da_nil)) (blkOk_by (by show blkC N_law_mixed (defScope s_law_mixed) _ _ = true; decide +kernel)) (fun _ _ _ _ _ => pg_name (i := 3) sc_law_mixed.nd rfl (Or.inl rfl)) (binds_one (by decide)) (fun _ _ _ _ _ => dts_nil) (fun _ _ _ _ _ => (d_bm PySem.F.plainAttrs_list PySem.F.slot_list_pop PySem.F.type_list_pop mt_popAt mPopAt_ok (d_var (i := 2)) (da_cons (d_call (ok_law_draw T) (hr.mono (by decide)) (by rfl) T.g_law_draw T.F_law_draw.kp T.b_law_draw .nil (fun _ _ => .nil) (da_cons (d_var (i := 0)) (da_cons (d_callB callLen cLen_ok (by rfl) T.z_len (by decide +kernel) (da_cons (d_var (i := 2)) da_nil)) da_nil))) da_nil))))))),
    wp_law_mixed⟩
theorem Tx.F_law_names (T : Tx P K mg) : Fun K "_law_names" "_law_names" s_law_names T.f_law_names (PySem.W.fnOf "_law_names" "_law_names" (defArgs s_law_names) (defBody s_law_names) (defScope s_law_names) .none T.kV_law_names T.dc_law_names T.pm_law_names T.an_law_names T.cd_law_names T.ct_law_names) := fun_mk T.l_law_names T.c_law_names T.k_law_names
theorem Tx.b_law_names (T : Tx P K mg) : Binds K (PySem.W.fnOf "_law_names" "_law_names" (defArgs s_law_names) (defBody s_law_names) (defScope s_law_names) .none T.kV_law_names T.dc_law_names T.pm_law_names T.an_law_names T.cd_law_names T.ct_law_names) p_law_names [] := T.F_law_names.binds fun _ _ _ _ _ _ us hl => match us, hl with | [_, _], _ => rfl
theorem ok_law_names (T : Tx P K mg) : FnOk P w K mg base CX0 6 T.f_law_names (PySem.W.fnOf "_law_names" "_law_names" (defArgs s_law_names) (defBody s_law_names) (defScope s_law_names) .none T.kV_law_names T.dc_law_names T.pm_law_names T.an_law_names T.cd_law_names T.ct_law_names) p_law_names (toSp K sp_law_names) :=
  dfn2 T.F_law_names sc_law_names len_law_names fun B cdv A outer s H E hr => ⟨w_law_names,
    (ds_cons (d_set (i := 2) sc_law_names.nd d_str)
    (ds_cons (d_set (i := 3) sc_law_names.nd (d_call (ok_law_pick T) (hr.mono (by decide)) (by rfl) T.g_law_pick T.F_law_pick.kp T.b_law_pick .nil (fun _ _ => .nil) (da_cons (d_var (i := 0)) (da_cons (d_lst (da_cons d_int (da_cons d_int (da_cons d_int (da_cons d_int (da_cons d_int (da_cons d_int da_nil))))))) da_nil))))
    (ds_cons (d_set (i := 4) sc_law_names.nd (d_op opAdd oAdd_ok (d_var (i := 2)) d_str))
    (ds_cons (d_set (i := 5) sc_law_names.nd (d_join d_str (d_lc (own := [("_law_k", 8)]) rfl sc_law_names.nd (di_range1 (by rfl) T.z_range (da_cons (d_var (i := 3)) da_nil)) (blkOk_by (by show blkC N_law_names (defScope s_law_names) _ _ = true; decide +kernel)) (fun _ _ _ _ _ => pg_name (i := 8) sc_law_names.nd rfl (Or.inl rfl)) (binds_one (by decide)) (fun _ _ _ _ _ => dts_nil) (fun _ _ _ _ _ => (d_call (ok_law_pick T) (hr.mono (by decide)) (by rfl) T.g_law_pick T.F_law_pick.kp T.b_law_pick .nil (fun _ _ => .nil) (da_cons (d_var (i := 0)) (da_cons (d_var (i := 4)) da_nil)))))))
    (ds_cons (d_set (i := 5) sc_law_names.nd (d_call (ok_law_pick T) (hr.mono (by decide)) (by rfl) T.g_law_pick T.F_law_pick.kp T.b_law_pick .nil (fun _ _ => .nil) (da_cons (d_var (i := 0)) (da_cons (d_lst (da_cons (d_var (i := 5)) (da_cons (d_var (i := 5)) (da_cons (d_var (i := 5)) (da_cons d_str (da_cons d_str (da_cons d_str da_nil))))))) da_nil))))
    (ds_cons (d_set (i := 6) sc_law_names.nd (d_call (ok_law_draw T) (hr.mono (by decide)) (by rfl) T.g_law_draw T.F_law_draw.kp T.b_law_draw .nil (fun _ _ => .nil) (da_cons (d_var (i := 0)) (da_cons (d_op opAdd oAdd_ok (d_callB callLen cLen_ok (by rfl) T.z_len (by decide +kernel) (da_cons (d_var (i := 5)) da_nil)) d_int) da_nil))))
    (ds_cons (d_if (d_cmpT op_gt oGt_ok (d_var (i := 6)) d_int (nomark _)) (ds_one (d_set (i := 5) sc_law_names.nd (d_op opAdd oAdd_ok (d_call (ok_law_pick T) (hr.mono (by decide)) (by rfl) T.g_law_pick T.F_law_pick.kp T.b_law_pick .nil (fun _ _ => .nil) (da_cons (d_var (i := 0)) (da_cons (d_var (i := 2)) da_nil))) (d_sl (d_var (i := 5)) (do_some d_int) do_none)))) ds_nil)
    (ds_cons (d_par (i := 9) (j := 10) rfl sc_law_names.nd rfl rfl (by decide) rfl rfl (da_cons (d_call (ok_law_draw T) (hr.mono (by decide)) (by rfl) T.g_law_draw T.F_law_draw.kp T.b_law_draw .nil (fun _ _ => .nil) (da_cons (d_var (i := 0)) (da_cons d_int da_nil))) (da_cons (d_call (ok_law_pick T) (hr.mono (by decide)) (by rfl) T.g_law_pick T.F_law_pick.kp T.b_law_pick .nil (fun _ _ => .nil) (da_cons (d_var (i := 0)) (da_cons (d_lst (da_cons d_int (da_cons d_int (da_cons d_int (da_cons d_int (da_cons d_int (da_cons d_int (da_cons d_int (da_cons d_int (da_cons d_int (da_cons d_int (da_cons d_int (da_cons d_int da_nil))))))))))))) da_nil))) da_nil)) (by rfl))
    (ds_cons (d_set (i := 7) sc_law_names.nd (d_lstM da_nil))
    (ds_cons (d_for PassesOwn.never rfl (di_range1 (by rfl) T.z_range (da_cons (d_var (i := 1)) da_nil)) (dg_name (i := 8) sc_law_names.nd) (ds_cons (d_set (i := 11) sc_law_names.nd (d_op opAdd oAdd_ok (d_op opAdd oAdd_ok (d_sl (d_var (i := 5)) do_none (do_some (d_var (i := 6)))) (d_ix (d_var (i := 2)) (d_op op_mod oMod_ok (d_callTy call_int1 cInt_ok (by rfl) T.z_int (by decide +kernel) (da_cons (d_op opAdd oAdd_ok (d_var (i := 9)) (d_op opMul oMul_ok (d_var (i := 10)) (d_var (i := 8)))) da_nil)) d_int))) (d_sl (d_var (i := 5)) (do_some (d_var (i := 6))) do_none)))
    (ds_one (d_exp (d_bm PySem.F.plainAttrs_list PySem.F.slot_list_append PySem.F.type_list_append mt_append mAppend_ok (d_var (i := 7)) (da_cons (d_op opAdd oAdd_ok (d_var (i := 11)) (d_op opMul oMul_ok d_str (d_callTy call_int1 cInt_ok (by rfl) T.z_int (by decide +kernel) (da_cons (d_cmp opIn oIn_ok (d_var (i := 11)) (d_lst (da_cons d_str (da_cons d_str (da_cons d_str (da_cons d_str (da_cons d_str da_nil)))))) (by rfl)) da_nil)))) da_nil))))))
    (ds_one (d_retF (d_var (i := 7)))))))))))))),
    wp_law_names⟩
theorem Tx.F_law_kind (T : Tx P K mg) : Fun K "_law_kind" "_law_kind" s_law_kind T.f_law_kind (PySem.W.fnOf "_law_kind" "_law_kind" (defArgs s_law_kind) (defBody s_law_kind) (defScope s_law_kind) .none T.kV_law_kind T.dc_law_kind T.pm_law_kind T.an_law_kind T.cd_law_kind T.ct_law_kind) := fun_mk T.l_law_kind T.c_law_kind T.k_law_kind
theorem Tx.b_law_kind (T : Tx P K mg) : Binds K (PySem.W.fnOf "_law_kind" "_law_kind" (defArgs s_law_kind) (defBody s_law_kind) (defScope s_law_kind) .none T.kV_law_kind T.dc_law_kind T.pm_law_kind T.an_law_kind T.cd_law_kind T.ct_law_kind) p_law_kind [] := T.F_law_kind.binds fun _ _ _ _ _ _ us hl => match us, hl with | [_, _, _, _], _ => rfl
theorem ok_law_kind (T : Tx P K mg) : FnOk P w K mg base CX0 6 T.f_law_kind (PySem.W.fnOf "_law_kind" "_law_kind" (defArgs s_law_kind) (defBody s_law_kind) (defScope s_law_kind) .none T.kV_law_kind T.dc_law_kind T.pm_law_kind T.an_law_kind T.cd_law_kind T.ct_law_kind) p_law_kind (toSp K sp_law_kind) :=
  dfn2 T.F_law_kind sc_law_kind len_law_kind fun B cdv A outer s H E hr => ⟨w_law_kind,
    (ds_cons (d_set (i := 4) sc_law_kind.nd (d_call (ok_law_draw T) (hr.mono (by decide)) (by rfl) T.g_law_draw T.F_law_draw.kp T.b_law_draw .nil (fun _ _ => .nil) (da_cons (d_var (i := 0)) (da_cons d_int da_nil))))
    (ds_cons (d_set (i := 5) sc_law_kind.nd (d_sl (d_call (ok_law_mixed T) (hr.mono (by decide)) (by rfl) T.g_law_mixed T.F_law_mixed.kp T.b_law_mixed .nil (fun _ _ => .nil) (da_cons (d_var (i := 0)) (da_cons (d_var (i := 2)) da_nil))) do_none (do_some (d_op opAdd oAdd_ok d_int (d_call (ok_law_draw T) (hr.mono (by decide)) (by rfl) T.g_law_draw T.F_law_draw.kp T.b_law_draw .nil (fun _ _ => .nil) (da_cons (d_var (i := 0)) (da_cons (d_callB (call_min2 rfl) cMin2_ok (by rfl) T.z_min (by decide +kernel) (da_cons (d_var (i := 3)) (da_cons (d_callB callLen cLen_ok (by rfl) T.z_len (by decide +kernel) (da_cons (d_var (i := 2)) da_nil)) da_nil))) da_nil)))))))
    (ds_cons (d_par (i := 6) (j := 7) rfl sc_law_kind.nd rfl rfl (by decide) rfl rfl (da_cons (d_call (ok_law_draw T) (hr.mono (by decide)) (by rfl) T.g_law_draw T.F_law_draw.kp T.b_law_draw .nil (fun _ _ => .nil) (da_cons (d_var (i := 0)) (da_cons (d_op opAdd oAdd_ok (d_op op_sub oSub_ok (d_var (i := 3)) (d_callB callLen cLen_ok (by rfl) T.z_len (by decide +kernel) (da_cons (d_var (i := 5)) da_nil))) d_int) da_nil))) (da_cons (d_call (ok_law_draw T) (hr.mono (by decide)) (by rfl) T.g_law_draw T.F_law_draw.kp T.b_law_draw .nil (fun _ _ => .nil) (da_cons (d_var (i := 0)) (da_cons (d_var (i := 3)) da_nil))) da_nil)) (by rfl))
    (ds_cons (d_par (i := 8) (j := 9) rfl sc_law_kind.nd rfl rfl (by decide) rfl rfl (da_cons (d_call (ok_law_pick T) (hr.mono (by decide)) (by rfl) T.g_law_pick T.F_law_pick.kp T.b_law_pick .nil (fun _ _ => .nil) (da_cons (d_var (i := 0)) (da_cons (d_var (i := 2)) da_nil))) (da_cons (d_dict0 true) da_nil)) (by rfl))
    (ds_cons (d_for PassesOwn.never rfl (di_enumerate (by rfl) T.z_enumerate (da_cons (d_var (i := 5)) da_nil)) (dg_tup rfl (dgs_cons (dg_name (i := 10) sc_law_kind.nd) (dgs_cons (dg_name (i := 11) sc_law_kind.nd) dgs_nil))) (ds_cons (d_if (d_cmpT opIn oIn_ok (d_var (i := 4)) (d_tup (da_cons d_int (da_cons d_int da_nil))) (by rfl)) (ds_one (d_dput (hu_of hr) (d_var (i := 9)) (d_var (i := 11)) (d_op op_shl oShl_ok d_int (d_op opAdd oAdd_ok (d_var (i := 6)) (d_var (i := 10)))))) ds_nil)
    (ds_cons (d_if (d_cmpT (opEq hr.units) oEqI_ok (d_var (i := 4)) d_int (nomark _)) (ds_one (d_dput (hu_of hr) (d_var (i := 9)) (d_var (i := 11)) (d_op op_shl oShl_ok d_int (d_var (i := 7))))) ds_nil)
    (ds_one (d_if (d_cmpT (opEq hr.units) oEqI_ok (d_var (i := 4)) d_int (nomark _)) (ds_one (d_dput (hu_of hr) (d_var (i := 9)) (d_var (i := 11)) (d_call (ok_law_pick T) (hr.mono (by decide)) (by rfl) T.g_law_pick T.F_law_pick.kp T.b_law_pick .nil (fun _ _ => .nil) (da_cons (d_var (i := 0)) (da_cons (d_lst (da_cons (d_call (ok_law_draw T) (hr.mono (by decide)) (by rfl) T.g_law_draw T.F_law_draw.kp T.b_law_draw .nil (fun _ _ => .nil) (da_cons (d_var (i := 0)) (da_cons (d_op op_shl oShl_ok d_int (d_var (i := 3))) da_nil))) (da_cons d_int (da_cons (d_op op_sub oSub_ok (d_op op_shl oShl_ok d_int (d_var (i := 3))) d_int) (da_cons (d_op op_shl oShl_ok d_int (d_var (i := 7))) da_nil))))) da_nil))))) ds_nil)))))
    (ds_cons (d_if (d_cmpT opIn oIn_ok (d_var (i := 4)) (d_tup (da_cons d_int (da_cons d_int da_nil))) (by rfl)) (ds_one (d_dput (hu_of hr) (d_var (i := 9)) (d_var (i := 8)) (d_op op_or oOr_ok (d_get2 (hu_of hr) (d_var (i := 9)) (d_var (i := 8)) d_int) (d_op op_shl oShl_ok d_int (d_var (i := 7)))))) ds_nil)
    (ds_one (d_lkD (i := 9) (d_ret (d_lst (da_cons (d_var (i := 4)) (da_cons (d_var (i := 1)) (da_cons (d_var (i := 8)) (da_cons (d_var (i := 7)) (da_cons (d_var (i := 6)) (da_cons (d_var (i := 5)) (da_cons (d_var (i := 9)) da_nil))))))))))))))))),
    wp_law_kind⟩
theorem Tx.F_law_both (T : Tx P K mg) : Fun K "_law_both" "_law_both" s_law_both T.f_law_both (PySem.W.fnOf "_law_both" "_law_both" (defArgs s_law_both) (defBody s_law_both) (defScope s_law_both) .none T.kV_law_both T.dc_law_both T.pm_law_both T.an_law_both T.cd_law_both T.ct_law_both) := fun_mk T.l_law_both T.c_law_both T.k_law_both
theorem Tx.b_law_both (T : Tx P K mg) : Binds K (PySem.W.fnOf "_law_both" "_law_both" (defArgs s_law_both) (defBody s_law_both) (defScope s_law_both) .none T.kV_law_both T.dc_law_both T.pm_law_both T.an_law_both T.cd_law_both T.ct_law_both) p_law_both [] := T.F_law_both.binds fun _ _ _ _ _ _ us hl => match us, hl with | [_, _, _, _, _], _ => rfl
theorem ok_law_both (T : Tx P K mg) : FnOk P w K mg base CX0 12 T.f_law_both (PySem.W.fnOf "_law_both" "_law_both" (defArgs s_law_both) (defBody s_law_both) (defScope s_law_both) .none T.kV_law_both T.dc_law_both T.pm_law_both T.an_law_both T.cd_law_both T.ct_law_both) p_law_both (toSp K sp_law_both) :=
  dfn2 T.F_law_both sc_law_both len_law_both fun B cdv A outer s H E hr => ⟨w_law_both,
    (ds_cons (d_if (d_cmpT (opEq hr.units) oEqI_ok (d_callB callLen cLen_ok (by rfl) T.z_len (by decide +kernel) (da_cons (d_var (i := 4)) da_nil)) d_int (nomark _)) (ds_one (d_ret (d_mk T.at_TestWindow T.mk_TestWindow (ok_TestWindow_init__ T) (hr.mono (by decide)) rzN (by rfl) T.m_TestWindow (da_cons (d_var (i := 0)) (da_cons (d_var (i := 1)) (da_cons (d_var (i := 2)) (da_cons (d_var (i := 3)) (da_cons (d_ix (d_var (i := 4)) d_int) da_nil)))))))) ds_nil)
    (ds_cons (d_if (d_cmpT (opEq hr.units) oEqI_ok (d_callB callLen cLen_ok (by rfl) T.z_len (by decide +kernel) (da_cons (d_var (i := 4)) da_nil)) d_int (nomark _)) (ds_one (d_ret (d_mk T.at_TestWindow T.mk_TestWindow (ok_TestWindow_init__ T) (hr.mono (by decide)) rzN (by rfl) T.m_TestWindow (da_cons (d_var (i := 0)) (da_cons (d_var (i := 1)) (da_cons (d_var (i := 2)) (da_cons (d_var (i := 3)) (da_cons (d_ix (d_var (i := 4)) d_int) (da_cons (d_ix (d_var (i := 4)) d_int) da_nil))))))))) ds_nil)
    (ds_cons (d_if (d_cmpT (opEq hr.units) oEqI_ok (d_callB callLen cLen_ok (by rfl) T.z_len (by decide +kernel) (da_cons (d_var (i := 4)) da_nil)) d_int (nomark _)) (ds_one (d_ret (d_mk T.at_TestWindow T.mk_TestWindow (ok_TestWindow_init__ T) (hr.mono (by decide)) rzN (by rfl) T.m_TestWindow (da_cons (d_var (i := 0)) (da_cons (d_var (i := 1)) (da_cons (d_var (i := 2)) (da_cons (d_var (i := 3)) (da_cons (d_ix (d_var (i := 4)) d_int) (da_cons (d_ix (d_var (i := 4)) d_int) (da_cons (d_ix (d_var (i := 4)) d_int) da_nil)))))))))) ds_nil)
    (ds_cons (d_if (d_cmpT (opEq hr.units) oEqI_ok (d_callB callLen cLen_ok (by rfl) T.z_len (by decide +kernel) (da_cons (d_var (i := 4)) da_nil)) d_int (nomark _)) (ds_one (d_ret (d_mk T.at_TestWindow T.mk_TestWindow (ok_TestWindow_init__ T) (hr.mono (by decide)) rzN (by rfl) T.m_TestWindow (da_cons (d_var (i := 0)) (da_cons (d_var (i := 1)) (da_cons (d_var (i := 2)) (da_cons (d_var (i := 3)) (da_cons (d_ix (d_var (i := 4)) d_int) (da_cons (d_ix (d_var (i := 4)) d_int) (da_cons (d_ix (d_var (i := 4)) d_int) (da_cons (d_ix (d_var (i := 4)) d_int) da_nil))))))))))) ds_nil)
    (ds_one (d_ret (d_mk T.at_TestWindow T.mk_TestWindow (ok_TestWindow_init__ T) (hr.mono (by decide)) rzN (by rfl) T.m_TestWindow (da_cons (d_var (i := 0)) (da_cons (d_var (i := 1)) (da_cons (d_var (i := 2)) (da_cons (d_var (i := 3)) (da_cons (d_ix (d_var (i := 4)) d_int) (da_cons (d_ix (d_var (i := 4)) d_int) (da_cons (d_ix (d_var (i := 4)) d_int) (da_cons (d_ix (d_var (i := 4)) d_int) (da_cons (d_ix (d_var (i := 4)) d_int) da_nil)))))))))))))))),
    wp_law_both⟩
theorem Tx.F_law_made (T : Tx P K mg) : Fun K "_law_made" "_law_made" s_law_made T.f_law_made (PySem.W.fnOf "_law_made" "_law_made" (defArgs s_law_made) (defBody s_law_made) (defScope s_law_made) .none T.kV_law_made T.dc_law_made T.pm_law_made T.an_law_made T.cd_law_made T.ct_law_made) := fun_mk T.l_law_made T.c_law_made T.k_law_made
theorem Tx.b_law_made (T : Tx P K mg) : Binds K (PySem.W.fnOf "_law_made" "_law_made" (defArgs s_law_made) (defBody s_law_made) (defScope s_law_made) .none T.kV_law_made T.dc_law_made T.pm_law_made T.an_law_made T.cd_law_made T.ct_law_made) p_law_made [] := T.F_law_made.binds fun _ _ _ _ _ _ us hl => match us, hl with | [_], _ => rfl
theorem ok_law_made (T : Tx P K mg) : FnOk P w K mg base CX0 14 T.f_law_made (PySem.W.fnOf "_law_made" "_law_made" (defArgs s_law_made) (defBody s_law_made) (defScope s_law_made) .none T.kV_law_made T.dc_law_made T.pm_law_made T.an_law_made T.cd_law_made T.ct_law_made) p_law_made (toSp K sp_law_made) :=
  dfn2 T.F_law_made sc_law_made len_law_made fun B cdv A outer s H E hr => ⟨w_law_made,
    (ds_cons (d_asg (d_var (i := 0)) (dg_lst rfl (dgs_cons (dg_name (i := 1) sc_law_made.nd) (dgs_cons (dg_name (i := 2) sc_law_made.nd) (dgs_cons (dg_name (i := 3) sc_law_made.nd) (dgs_cons (dg_name (i := 4) sc_law_made.nd) (dgs_cons (dg_name (i := 5) sc_law_made.nd) (dgs_cons (dg_name (i := 6) sc_law_made.nd) (dgs_cons (dg_name (i := 7) sc_law_made.nd) dgs_nil)))))))))
    (ds_cons (d_if (d_cmpT (opEq hr.units) oEqI_ok (d_var (i := 1)) d_int (nomark _)) (ds_one (d_ret (d_mk T.at_Kind T.mk_Kind (ok_Kind_init__ T) (hr.mono (by decide)) rzN (by rfl) T.m_Kind (da_cons (d_var (i := 2)) da_nil)))) ds_nil)
    (ds_cons (d_if (d_cmpT (opEq hr.units) oEqI_ok (d_var (i := 1)) d_int (nomark _)) (ds_one (d_ret (d_mk T.at_Test T.mk_Test (ok_Test_init__ T) (hr.mono (by decide)) rzN (by rfl) T.m_Test (da_cons (d_var (i := 2)) (da_cons (d_var (i := 3)) (da_cons (d_var (i := 4)) da_nil)))))) ds_nil)
    (ds_cons (d_if (d_cmpT (opEq hr.units) oEqI_ok (d_var (i := 1)) d_int (nomark _)) (ds_one (d_ret (d_smeth T.at_Window (d_gcls (by rfl) T.m_Window T.at_Window) T.cr_Window T.sm_Window_of (fnR_nil (ok_Window_of T)) (fun _ _ => .nil) (hr.mono (by decide)) rzN (da_cons (d_var (i := 2)) (da_cons (d_var (i := 5)) (da_cons (d_var (i := 6)) da_nil)))))) ds_nil)
    (ds_cons (d_if (d_cmpT (opEq hr.units) oEqI_ok (d_var (i := 1)) d_int (nomark _)) (ds_one (d_ret (d_smeth T.at_AnyOf (d_gcls (by rfl) T.m_AnyOf T.at_AnyOf) T.cr_AnyOf T.sm_AnyOf_of (fnR_nil (ok_AnyOf_of T)) (fun _ _ => .nil) (hr.mono (by decide)) rzN (da_cons (d_var (i := 2)) (da_cons (d_var (i := 4)) (da_cons (d_var (i := 6)) da_nil)))))) ds_nil)
    (ds_one (d_ret (d_ifE (d_cmpT (opEq hr.units) oEqI_ok (d_var (i := 1)) d_int (nomark _)) (d_call (ok_law_both T) (hr.mono (by decide)) (by rfl) T.g_law_both T.F_law_both.kp T.b_law_both .nil (fun _ _ => .nil) (da_cons (d_var (i := 2)) (da_cons (d_var (i := 3)) (da_cons (d_var (i := 4)) (da_cons (d_var (i := 5)) (da_cons (d_var (i := 6)) da_nil)))))) (d_mk T.at_Masks T.mk_Masks (ok_Masks_init__ T) (hr.mono (by decide)) rzN (by rfl) T.m_Masks (da_cons (d_var (i := 2)) (da_cons (d_callTy call_dictF cDictF_ok (by rfl) T.z_dict (by decide +kernel) (da_cons (d_var (i := 7)) da_nil)) da_nil))))))))))),
    wp_law_made⟩
theorem Tx.F_law_full (T : Tx P K mg) : Fun K "_law_full" "_law_full" s_law_full T.f_law_full (PySem.W.fnOf "_law_full" "_law_full" (defArgs s_law_full) (defBody s_law_full) (defScope s_law_full) .none T.kV_law_full T.dc_law_full T.pm_law_full T.an_law_full T.cd_law_full T.ct_law_full) := fun_mk T.l_law_full T.c_law_full T.k_law_full
theorem Tx.b_law_full (T : Tx P K mg) : Binds K (PySem.W.fnOf "_law_full" "_law_full" (defArgs s_law_full) (defBody s_law_full) (defScope s_law_full) .none T.kV_law_full T.dc_law_full T.pm_law_full T.an_law_full T.cd_law_full T.ct_law_full) p_law_full [] := T.F_law_full.binds fun _ _ _ _ _ _ us hl => match us, hl with | [_], _ => rfl
theorem ok_law_full (T : Tx P K mg) : FnOk P w K mg base CX0 2 T.f_law_full (PySem.W.fnOf "_law_full" "_law_full" (defArgs s_law_full) (defBody s_law_full) (defScope s_law_full) .none T.kV_law_full T.dc_law_full T.pm_law_full T.an_law_full T.cd_law_full T.ct_law_full) p_law_full (toSp K sp_law_full) :=
  dfn2 T.F_law_full sc_law_full len_law_full fun B cdv A outer s H E hr => ⟨w_law_full,
    (ds_one (d_ret (d_callB cr_sortedTx cSortTx_ok (by rfl) T.z_sorted (by decide +kernel) (da_cons (d_lc (own := [("_law_word", 1)]) rfl sc_law_full.nd (di_fdc (d_var (i := 0))) (blkOk_by (by show blkC N_law_full (defScope s_law_full) _ _ = true; decide +kernel)) (fun _ _ _ _ _ => pg_name (i := 1) sc_law_full.nd rfl (Or.inl rfl)) (binds_one (by decide)) (fun _ _ _ _ _ => (dts_one (d_cmpT (opNe hr.units) oNeI_ok (d_dget (hu_of hr) (d_var (i := 0)) (d_var (i := 1))) d_int (nomark _)))) (fun _ _ _ _ _ => (d_tup (da_cons (d_var (i := 1)) (da_cons (d_dget (hu_of hr) (d_var (i := 0)) (d_var (i := 1))) da_nil))))) da_nil)))),
    wp_law_full⟩
theorem Tx.F_law_alike (T : Tx P K mg) : Fun K "_law_alike" "_law_alike" s_law_alike T.f_law_alike (PySem.W.fnOf "_law_alike" "_law_alike" (defArgs s_law_alike) (defBody s_law_alike) (defScope s_law_alike) .none T.kV_law_alike T.dc_law_alike T.pm_law_alike T.an_law_alike T.cd_law_alike T.ct_law_alike) := fun_mk T.l_law_alike T.c_law_alike T.k_law_alike
theorem Tx.b_law_alike (T : Tx P K mg) : Binds K (PySem.W.fnOf "_law_alike" "_law_alike" (defArgs s_law_alike) (defBody s_law_alike) (defScope s_law_alike) .none T.kV_law_alike T.dc_law_alike T.pm_law_alike T.an_law_alike T.cd_law_alike T.ct_law_alike) p_law_alike [] := T.F_law_alike.binds fun _ _ _ _ _ _ us hl => match us, hl with | [_, _, _], _ => rfl
theorem ok_law_alike (T : Tx P K mg) : FnOk P w K mg base CX0 12 T.f_law_alike (PySem.W.fnOf "_law_alike" "_law_alike" (defArgs s_law_alike) (defBody s_law_alike) (defScope s_law_alike) .none T.kV_law_alike T.dc_law_alike T.pm_law_alike T.an_law_alike T.cd_law_alike T.ct_law_alike) p_law_alike (toSp K sp_law_alike) :=
  dfn2 T.F_law_alike sc_law_alike len_law_alike fun B cdv A outer s H E hr => ⟨w_law_alike,
    (ds_cons (d_set (i := 3) sc_law_alike.nd (d_call (ok_law_mixed T) (hr.mono (by decide)) (by rfl) T.g_law_mixed T.F_law_mixed.kp T.b_law_mixed .nil (fun _ _ => .nil) (da_cons (d_var (i := 0)) (da_cons (d_call (ok_law_full T) (hr.mono (by decide)) (by rfl) T.g_law_full T.F_law_full.kp T.b_law_full .nil (fun _ _ => .nil) (da_cons (d_ix (d_var (i := 1)) d_int) da_nil)) da_nil))))
    (ds_cons (d_set (i := 4) sc_law_alike.nd (d_callTy (call_dictP rfl) cDictLM_ok (by rfl) T.z_dict (by decide +kernel) (da_cons (d_var (i := 3)) da_nil)))
    (ds_cons (d_if (L2.PW.pt (d_and (d_cmpT op_lt oLt_ok (d_callB callLen cLen_ok (by rfl) T.z_len (by decide +kernel) (da_cons (d_var (i := 4)) da_nil)) d_int (nomark _)) (d_and1 (d_cmpT (opEq hr.units) oEqI_ok (d_call (ok_law_draw T) (hr.mono (by decide)) (by rfl) T.g_law_draw T.F_law_draw.kp T.b_law_draw .nil (fun _ _ => .nil) (da_cons (d_var (i := 0)) (da_cons d_int da_nil))) d_int (nomark _))))) (ds_one (d_dput (hu_of hr) (d_var (i := 4)) (d_ix (d_lc (own := [("_law_word", 6)]) rfl sc_law_alike.nd (di_any (d_var (i := 2))) (blkOk_by (by show blkC N_law_alike (defScope s_law_alike) _ _ = true; decide +kernel)) (fun _ _ _ _ _ => pg_name (i := 6) sc_law_alike.nd rfl (Or.inl rfl)) (binds_one (by decide)) (fun _ _ _ _ _ => (dts_one (d_dnotinT (hu_of hr) (d_var (i := 6)) (d_var (i := 4))))) (fun _ _ _ _ _ => (d_var (i := 6)))) d_int) d_int)) ds_nil)
    (ds_cons (d_if (L2.PW.pt (d_and (d_cmpT (opEq hr.units) oEqI_ok (d_callB callLen cLen_ok (by rfl) T.z_len (by decide +kernel) (da_cons (d_var (i := 3)) da_nil)) d_int (nomark _)) (d_and1 (d_cmpT opIn oIn_ok (d_ix (d_ix (d_var (i := 3)) d_int) d_int) (d_tup (da_cons d_int (da_cons d_int (da_cons d_int (da_cons d_int (da_cons d_int (da_cons d_int (da_cons d_int (da_cons d_int da_nil))))))))) (by rfl))))) (ds_cons (d_set (i := 5) sc_law_alike.nd (d_bm PySem.F.plainAttrs_list PySem.F.slot_list_index PySem.F.type_list_index mt_index mIndex_ok (d_lst (da_cons d_int (da_cons d_int (da_cons d_int (da_cons d_int (da_cons d_int (da_cons d_int (da_cons d_int (da_cons d_int da_nil))))))))) (da_cons (d_ix (d_ix (d_var (i := 3)) d_int) d_int) da_nil)))
    (ds_cons (d_set (i := 6) sc_law_alike.nd (d_ix (d_ix (d_var (i := 3)) d_int) d_int))
    (ds_cons (d_set (i := 7) sc_law_alike.nd (d_lst (da_cons (d_mk T.at_Test T.mk_Test (ok_Test_init__ T) (hr.mono (by decide)) rzN (by rfl) T.m_Test (da_cons (d_ix (d_var (i := 1)) d_int) (da_cons (d_var (i := 6)) (da_cons (d_var (i := 5)) da_nil)))) (da_cons (d_mk T.at_Window T.mk_Window (ok_Window_init__ T) (hr.mono (by decide)) rzN (by rfl) T.m_Window (da_cons (d_ix (d_var (i := 1)) d_int) (da_cons (d_var (i := 5)) (da_cons (d_var (i := 6)) da_nil)))) (da_cons (d_mk T.at_AnyOf T.mk_AnyOf (ok_AnyOf_init__ T) (hr.mono (by decide)) rzN (by rfl) T.m_AnyOf (da_cons (d_ix (d_var (i := 1)) d_int) (da_cons (d_var (i := 5)) (da_cons (d_var (i := 6)) da_nil)))) da_nil)))))
    (ds_one (d_lkD (i := 4) (d_ret (d_call (ok_law_pick T) (hr.mono (by decide)) (by rfl) T.g_law_pick T.F_law_pick.kp T.b_law_pick .nil (fun _ _ => .nil) (da_cons (d_var (i := 0)) (da_cons (d_op opAdd oAdd_ok (d_var (i := 7)) (d_lst (da_cons (d_mk T.at_TestWindow T.mk_TestWindow (ok_TestWindow_init__ T) (hr.mono (by decide)) rzN (by rfl) T.m_TestWindow (da_cons (d_ix (d_var (i := 1)) d_int) (da_cons (d_var (i := 6)) (da_cons (d_var (i := 5)) (da_cons (d_var (i := 5)) (da_cons (d_var (i := 6)) da_nil)))))) (da_cons (d_mk T.at_Masks T.mk_Masks (ok_Masks_init__ T) (hr.mono (by decide)) rzN (by rfl) T.m_Masks (da_cons (d_ix (d_var (i := 1)) d_int) (da_cons (d_var (i := 4)) da_nil))) da_nil)))) da_nil))))))))) ds_nil)
    (ds_cons (d_if (L2.PW.pt (d_and (d_cmpT (opEq hr.units) oEqI_ok (d_var (i := 3)) (d_lst da_nil) (nomark _)) (d_and1 (d_cmpT (opEq hr.units) oEqI_ok (d_call (ok_law_draw T) (hr.mono (by decide)) (by rfl) T.g_law_draw T.F_law_draw.kp T.b_law_draw .nil (fun _ _ => .nil) (da_cons (d_var (i := 0)) (da_cons d_int da_nil))) d_int (nomark _))))) (ds_one (d_ret (d_mk T.at_Kind T.mk_Kind (ok_Kind_init__ T) (hr.mono (by decide)) rzN (by rfl) T.m_Kind (da_cons (d_ix (d_var (i := 1)) d_int) da_nil)))) ds_nil)
    (ds_one (d_lkD (i := 4) (d_ret (d_mk T.at_Masks T.mk_Masks (ok_Masks_init__ T) (hr.mono (by decide)) rzN (by rfl) T.m_Masks (da_cons (d_ix (d_var (i := 1)) d_int) (da_cons (d_var (i := 4)) da_nil))))))))))),
    wp_law_alike⟩
theorem Tx.F_law_is_alone (T : Tx P K mg) : Fun K "_law_is_alone" "_law_is_alone" s_law_is_alone T.f_law_is_alone (PySem.W.fnOf "_law_is_alone" "_law_is_alone" (defArgs s_law_is_alone) (defBody s_law_is_alone) (defScope s_law_is_alone) .none T.kV_law_is_alone T.dc_law_is_alone T.pm_law_is_alone T.an_law_is_alone T.cd_law_is_alone T.ct_law_is_alone) := fun_mk T.l_law_is_alone T.c_law_is_alone T.k_law_is_alone
theorem Tx.b_law_is_alone (T : Tx P K mg) : Binds K (PySem.W.fnOf "_law_is_alone" "_law_is_alone" (defArgs s_law_is_alone) (defBody s_law_is_alone) (defScope s_law_is_alone) .none T.kV_law_is_alone T.dc_law_is_alone T.pm_law_is_alone T.an_law_is_alone T.cd_law_is_alone T.ct_law_is_alone) p_law_is_alone [] := T.F_law_is_alone.binds fun _ _ _ _ _ _ us hl => match us, hl with | [_, _], _ => rfl
theorem ok_law_is_alone (T : Tx P K mg) : FnG P w K mg base (L2.CX P w) 14 T.f_law_is_alone (PySem.W.fnOf "_law_is_alone" "_law_is_alone" (defArgs s_law_is_alone) (defBody s_law_is_alone) (defScope s_law_is_alone) .none T.kV_law_is_alone T.dc_law_is_alone T.pm_law_is_alone T.an_law_is_alone T.cd_law_is_alone T.ct_law_is_alone) p_law_is_alone (toSp K sp_law_is_alone) :=
  FnG.mono (j := 14) (dfnG T.F_law_is_alone sc_law_is_alone len_law_is_alone fun B cdv A outer s H E quiet hr => ⟨w_law_is_alone, fun RX tk =>
    (ds_cons (d_set (i := 2) sc_law_is_alone.nd (d_lst (da_cons d_non (da_cons d_int (da_cons d_str (da_cons (d_ix (d_var (i := 1)) d_int) (da_cons (d_tup da_nil) (da_cons (d_lst da_nil) (da_cons (d_dict0 false) (da_cons (d_ix (d_var (i := 1)) d_int) (da_cons (d_callTy call_tuple_of cTuple_ok (by rfl) T.z_tuple (by decide +kernel) (da_cons (d_ix (d_var (i := 1)) d_int) da_nil)) (da_cons (d_tup (da_cons (d_ix (d_var (i := 1)) d_int) (da_cons (d_ix (d_var (i := 1)) d_int) da_nil))) da_nil))))))))))))
    (ds_one (d_ret (d_cmp (opEq hr.units) oEqI_ok (d_lc (own := [("_law_thing", 3)]) rfl sc_law_is_alone.nd (di_any (d_var (i := 2))) (blkOk_by (by show blkC N_law_is_alone (defScope s_law_is_alone) _ _ = true; decide +kernel)) (fun _ _ _ _ _ => pg_name (i := 3) sc_law_is_alone.nd rfl (Or.inl rfl)) (binds_one (by decide)) (fun _ _ _ _ _ => (dts_one (L2.PW.pt (d_or (d_cmpT ((op_eqT (B := B) (EqTab.tr (EqTab.cons T.at_Kind T.ocv_Kind___eq__ T.nec_Kind (EqTab.cons T.at_Test T.ocv_Test___eq__ T.nec_Test (EqTab.cons T.at_Window T.ocv_Window___eq__ T.nec_Window (EqTab.cons T.at_AnyOf T.ocv_AnyOf___eq__ T.nec_AnyOf (EqTab.cons T.at_TestWindow T.ocv_TestWindow___eq__ T.nec_TestWindow (EqTab.cons T.at_Masks T.ocv_Masks___eq__ T.nec_Masks EqTab.nil)))))) T.tre) (ok_Kind_eq__ T) (hr.mono (by decide)) rzN).or (opEq hr.units)) (oEqT_ok (EqTab.cons T.at_Kind T.ocv_Kind___eq__ T.nec_Kind (EqTab.cons T.at_Test T.ocv_Test___eq__ T.nec_Test (EqTab.cons T.at_Window T.ocv_Window___eq__ T.nec_Window (EqTab.cons T.at_AnyOf T.ocv_AnyOf___eq__ T.nec_AnyOf (EqTab.cons T.at_TestWindow T.ocv_TestWindow___eq__ T.nec_TestWindow (EqTab.cons T.at_Masks T.ocv_Masks___eq__ T.nec_Masks EqTab.nil)))))) oEqI_ok) (d_var (i := 0)) (d_var (i := 3)) (nomark _)) (d_or (d_not (d_cmpT ((op_neT (B := B) (EqTab.tr (EqTab.cons T.at_Kind T.ocv_Kind___eq__ T.nec_Kind (EqTab.cons T.at_Test T.ocv_Test___eq__ T.nec_Test (EqTab.cons T.at_Window T.ocv_Window___eq__ T.nec_Window (EqTab.cons T.at_AnyOf T.ocv_AnyOf___eq__ T.nec_AnyOf (EqTab.cons T.at_TestWindow T.ocv_TestWindow___eq__ T.nec_TestWindow (EqTab.cons T.at_Masks T.ocv_Masks___eq__ T.nec_Masks EqTab.nil)))))) T.tre) (ok_Kind_eq__ T) (hr.mono (by decide)) rzN).or (opNe hr.units)) (oEqT_ok (EqTab.cons T.at_Kind T.ocv_Kind___eq__ T.nec_Kind (EqTab.cons T.at_Test T.ocv_Test___eq__ T.nec_Test (EqTab.cons T.at_Window T.ocv_Window___eq__ T.nec_Window (EqTab.cons T.at_AnyOf T.ocv_AnyOf___eq__ T.nec_AnyOf (EqTab.cons T.at_TestWindow T.ocv_TestWindow___eq__ T.nec_TestWindow (EqTab.cons T.at_Masks T.ocv_Masks___eq__ T.nec_Masks EqTab.nil)))))) oNeI_ok) (d_var (i := 0)) (d_var (i := 3)) (nomark _))) (d_or1 (d_cmpT ((op_eqT (B := B) (EqTab.tr (EqTab.cons T.at_Kind T.ocv_Kind___eq__ T.nec_Kind (EqTab.cons T.at_Test T.ocv_Test___eq__ T.nec_Test (EqTab.cons T.at_Window T.ocv_Window___eq__ T.nec_Window (EqTab.cons T.at_AnyOf T.ocv_AnyOf___eq__ T.nec_AnyOf (EqTab.cons T.at_TestWindow T.ocv_TestWindow___eq__ T.nec_TestWindow (EqTab.cons T.at_Masks T.ocv_Masks___eq__ T.nec_Masks EqTab.nil)))))) T.tre) (ok_Kind_eq__ T) (hr.mono (by decide)) rzN).or ((op_eqLT (B := B) (EqTab.tr (EqTab.cons T.at_Kind T.ocv_Kind___eq__ T.nec_Kind (EqTab.cons T.at_Test T.ocv_Test___eq__ T.nec_Test (EqTab.cons T.at_Window T.ocv_Window___eq__ T.nec_Window (EqTab.cons T.at_AnyOf T.ocv_AnyOf___eq__ T.nec_AnyOf (EqTab.cons T.at_TestWindow T.ocv_TestWindow___eq__ T.nec_TestWindow (EqTab.cons T.at_Masks T.ocv_Masks___eq__ T.nec_Masks EqTab.nil)))))) T.tre) (ok_Kind_eq__ T) (hr.mono (by decide)) rzN).or (opEq hr.units))) (oEqT_okL (EqTab.cons T.at_Kind T.ocv_Kind___eq__ T.nec_Kind (EqTab.cons T.at_Test T.ocv_Test___eq__ T.nec_Test (EqTab.cons T.at_Window T.ocv_Window___eq__ T.nec_Window (EqTab.cons T.at_AnyOf T.ocv_AnyOf___eq__ T.nec_AnyOf (EqTab.cons T.at_TestWindow T.ocv_TestWindow___eq__ T.nec_TestWindow (EqTab.cons T.at_Masks T.ocv_Masks___eq__ T.nec_Masks EqTab.nil)))))) oEqI_ok) (d_var (i := 3)) (d_var (i := 0)) (nomark _)))))))) (fun _ _ _ _ _ => (d_var (i := 3)))) (d_lst da_nil) (nomark _))))),
    wp_law_is_alone⟩) (by decide)
theorem Tx.F_law_is_kind (T : Tx P K mg) : Fun K "_law_is_kind" "_law_is_kind" s_law_is_kind T.f_law_is_kind (PySem.W.fnOf "_law_is_kind" "_law_is_kind" (defArgs s_law_is_kind) (defBody s_law_is_kind) (defScope s_law_is_kind) .none T.kV_law_is_kind T.dc_law_is_kind T.pm_law_is_kind T.an_law_is_kind T.cd_law_is_kind T.ct_law_is_kind) := fun_mk T.l_law_is_kind T.c_law_is_kind T.k_law_is_kind
theorem Tx.b_law_is_kind (T : Tx P K mg) : Binds K (PySem.W.fnOf "_law_is_kind" "_law_is_kind" (defArgs s_law_is_kind) (defBody s_law_is_kind) (defScope s_law_is_kind) .none T.kV_law_is_kind T.dc_law_is_kind T.pm_law_is_kind T.an_law_is_kind T.cd_law_is_kind T.ct_law_is_kind) p_law_is_kind [] := T.F_law_is_kind.binds fun _ _ _ _ _ _ us hl => match us, hl with | [_, _], _ => rfl
theorem ok_law_is_kind (T : Tx P K mg) : FnOk P w K mg base CX0 2 T.f_law_is_kind (PySem.W.fnOf "_law_is_kind" "_law_is_kind" (defArgs s_law_is_kind) (defBody s_law_is_kind) (defScope s_law_is_kind) .none T.kV_law_is_kind T.dc_law_is_kind T.pm_law_is_kind T.an_law_is_kind T.cd_law_is_kind T.ct_law_is_kind) p_law_is_kind (toSp K sp_law_is_kind) :=
  dfn2 T.F_law_is_kind sc_law_is_kind len_law_is_kind fun B cdv A outer s H E hr => ⟨w_law_is_kind,
    (ds_cons (d_if (L2.PW.pt (d_or (d_not (d_truth (d_callB L2.call_isi (cIsOF_ok T.at_Kind T.isc_Kind (TabI.cons T.at_Kind T.inf_Kind T.kitC_Kind_Kind (TabI.cons T.at_Test T.inf_Test T.kitC_Test_Kind (TabI.cons T.at_Window T.inf_Window T.kitC_Window_Kind (TabI.cons T.at_AnyOf T.inf_AnyOf T.kitC_AnyOf_Kind (TabI.cons T.at_TestWindow T.inf_TestWindow T.kitC_TestWindow_Kind (TabI.cons T.at_Masks T.inf_Masks T.kitC_Masks_Kind TabI.nil))))))) (by rfl) T.z_isinstance (by decide +kernel) (da_cons (d_var (i := 0)) (da_cons (d_gcls (by rfl) T.m_Kind T.at_Kind) da_nil))))) (d_or1 (d_cmpT (opNe hr.units) oNeI_ok (d_callB L2.call_isi (cIsOF_ok T.at_Test T.isc_Test (TabI.cons T.at_Kind T.inf_Kind T.kitC_Kind_Test (TabI.cons T.at_Test T.inf_Test T.kitC_Test_Test (TabI.cons T.at_Window T.inf_Window T.kitC_Window_Test (TabI.cons T.at_AnyOf T.inf_AnyOf T.kitC_AnyOf_Test (TabI.cons T.at_TestWindow T.inf_TestWindow T.kitC_TestWindow_Test (TabI.cons T.at_Masks T.inf_Masks T.kitC_Masks_Test TabI.nil))))))) (by rfl) T.z_isinstance (by decide +kernel) (da_cons (d_var (i := 0)) (da_cons (d_gcls (by rfl) T.m_Test T.at_Test) da_nil))) (d_cmp opIn oIn_ok (d_var (i := 1)) (d_tup (da_cons d_int (da_cons d_int da_nil))) (by rfl)) (nomark _))))) (ds_one (d_ret d_bl)) ds_nil)
    (ds_cons (d_if (L2.PW.pt (d_or (d_cmpT (opNe hr.units) oNeI_ok (d_callB L2.call_isi (cIsOF_ok T.at_Window T.isc_Window (TabI.cons T.at_Kind T.inf_Kind T.kitC_Kind_Window (TabI.cons T.at_Test T.inf_Test T.kitC_Test_Window (TabI.cons T.at_Window T.inf_Window T.kitC_Window_Window (TabI.cons T.at_AnyOf T.inf_AnyOf T.kitC_AnyOf_Window (TabI.cons T.at_TestWindow T.inf_TestWindow T.kitC_TestWindow_Window (TabI.cons T.at_Masks T.inf_Masks T.kitC_Masks_Window TabI.nil))))))) (by rfl) T.z_isinstance (by decide +kernel) (da_cons (d_var (i := 0)) (da_cons (d_gcls (by rfl) T.m_Window T.at_Window) da_nil))) (d_cmp opIn oIn_ok (d_var (i := 1)) (d_tup (da_cons d_int (da_cons d_int da_nil))) (by rfl)) (nomark _)) (d_or1 (d_cmpT (opNe hr.units) oNeI_ok (d_callB L2.call_isi (cIsOF_ok T.at_TestWindow T.isc_TestWindow (TabI.cons T.at_Kind T.inf_Kind T.kitC_Kind_TestWindow (TabI.cons T.at_Test T.inf_Test T.kitC_Test_TestWindow (TabI.cons T.at_Window T.inf_Window T.kitC_Window_TestWindow (TabI.cons T.at_AnyOf T.inf_AnyOf T.kitC_AnyOf_TestWindow (TabI.cons T.at_TestWindow T.inf_TestWindow T.kitC_TestWindow_TestWindow (TabI.cons T.at_Masks T.inf_Masks T.kitC_Masks_TestWindow TabI.nil))))))) (by rfl) T.z_isinstance (by decide +kernel) (da_cons (d_var (i := 0)) (da_cons (d_gcls (by rfl) T.m_TestWindow T.at_TestWindow) da_nil))) (d_cmp (opEq hr.units) oEqI_ok (d_var (i := 1)) d_int (nomark _)) (nomark _))))) (ds_one (d_ret d_bl)) ds_nil)
    (ds_one (d_ret (d_andV (d_cmp (opEq hr.units) oEqI_ok (d_callB L2.call_isi (cIsOF_ok T.at_AnyOf T.isc_AnyOf (TabI.cons T.at_Kind T.inf_Kind T.kitC_Kind_AnyOf (TabI.cons T.at_Test T.inf_Test T.kitC_Test_AnyOf (TabI.cons T.at_Window T.inf_Window T.kitC_Window_AnyOf (TabI.cons T.at_AnyOf T.inf_AnyOf T.kitC_AnyOf_AnyOf (TabI.cons T.at_TestWindow T.inf_TestWindow T.kitC_TestWindow_AnyOf (TabI.cons T.at_Masks T.inf_Masks T.kitC_Masks_AnyOf TabI.nil))))))) (by rfl) T.z_isinstance (by decide +kernel) (da_cons (d_var (i := 0)) (da_cons (d_gcls (by rfl) T.m_AnyOf T.at_AnyOf) da_nil))) (d_cmp (opEq hr.units) oEqI_ok (d_var (i := 1)) d_int (nomark _)) (nomark _)) (d_one (d_cmp (opEq hr.units) oEqI_ok (d_callB L2.call_isi (cIsOF_ok T.at_Masks T.isc_Masks (TabI.cons T.at_Kind T.inf_Kind T.kitC_Kind_Masks (TabI.cons T.at_Test T.inf_Test T.kitC_Test_Masks (TabI.cons T.at_Window T.inf_Window T.kitC_Window_Masks (TabI.cons T.at_AnyOf T.inf_AnyOf T.kitC_AnyOf_Masks (TabI.cons T.at_TestWindow T.inf_TestWindow T.kitC_TestWindow_Masks (TabI.cons T.at_Masks T.inf_Masks T.kitC_Masks_Masks TabI.nil))))))) (by rfl) T.z_isinstance (by decide +kernel) (da_cons (d_var (i := 0)) (da_cons (d_gcls (by rfl) T.m_Masks T.at_Masks) da_nil))) (d_cmp (opEq hr.units) oEqI_ok (d_var (i := 1)) d_int (nomark _)) (nomark _)))))))),
    wp_law_is_kind⟩
theorem Tx.F_law (T : Tx P K mg) : Fun K "law" "law" s_law T.f_law (PySem.W.fnOf "law" "law" (defArgs s_law) (defBody s_law) (defScope s_law) .none T.kV_law T.dc_law T.pm_law T.an_law T.cd_law T.ct_law) := fun_mk T.l_law T.c_law T.k_law
theorem ok_law (T : Tx P K mg) : FnG P w K mg base (L2.CX P w) 16 T.f_law (PySem.W.fnOf "law" "law" (defArgs s_law) (defBody s_law) (defScope s_law) .none T.kV_law T.dc_law T.pm_law T.an_law T.cd_law T.ct_law) p_law (toSp K sp_law) :=
  FnG.mono (j := 16) (dfnG T.F_law sc_law len_law fun B cdv A outer s H E quiet hr => ⟨w_law, fun RX tk =>
    (ds_cons (d_set (i := 1) sc_law.nd (d_call (ok_law_pen T) (hr.mono (by decide)) (by rfl) T.g_law_pen T.F_law_pen.kp T.b_law_pen .nil (fun _ _ => .nil) (da_cons (d_var (i := 0)) da_nil)))
    (ds_cons (d_par (i := 4) (j := 5) rfl sc_law.nd rfl rfl (by decide) rfl rfl (da_cons (d_call (ok_law_names T) (hr.mono (by decide)) (by rfl) T.g_law_names T.F_law_names.kp T.b_law_names .nil (fun _ _ => .nil) (da_cons (d_var (i := 1)) (da_cons d_int da_nil))) (da_cons (d_call (ok_law_names T) (hr.mono (by decide)) (by rfl) T.g_law_names T.F_law_names.kp T.b_law_names .nil (fun _ _ => .nil) (da_cons (d_var (i := 1)) (da_cons d_int da_nil))) da_nil)) (by rfl))
    (ds_cons (d_set (i := 2) sc_law.nd (d_lstM da_nil))
    (ds_cons (d_for (L2.passes_of rfl) rfl (di_range1 (by rfl) T.z_range (da_cons d_int da_nil)) (dg_name (i := 3) sc_law.nd) (ds_cons (d_set (i := 6) sc_law.nd (d_call (ok_law_kind T) (hr.mono (by decide)) (by rfl) T.g_law_kind T.F_law_kind.kp T.b_law_kind .nil (fun _ _ => .nil) (da_cons (d_var (i := 1)) (da_cons (d_call (ok_law_pick T) (hr.mono (by decide)) (by rfl) T.g_law_pick T.F_law_pick.kp T.b_law_pick .nil (fun _ _ => .nil) (da_cons (d_var (i := 1)) (da_cons (d_var (i := 5)) da_nil))) (da_cons (d_sl (d_var (i := 4)) do_none (do_some (d_op opAdd oAdd_ok d_int (d_call (ok_law_draw T) (hr.mono (by decide)) (by rfl) T.g_law_draw T.F_law_draw.kp T.b_law_draw .nil (fun _ _ => .nil) (da_cons (d_var (i := 1)) (da_cons d_int da_nil)))))) (da_cons (d_op opAdd oAdd_ok d_int (d_call (ok_law_draw T) (hr.mono (by decide)) (by rfl) T.g_law_draw T.F_law_draw.kp T.b_law_draw .nil (fun _ _ => .nil) (da_cons (d_var (i := 1)) (da_cons d_int da_nil)))) da_nil))))))
    (ds_cons (d_exp (d_bm PySem.F.plainAttrs_list PySem.F.slot_list_append PySem.F.type_list_append mt_append mAppend_ok (d_var (i := 2)) (da_cons (d_tup (da_cons (d_var (i := 6)) (da_cons (d_call (ok_law_made T) (hr.mono (by decide)) (by rfl) T.g_law_made T.F_law_made.kp T.b_law_made .nil (fun _ _ => .nil) (da_cons (d_var (i := 6)) da_nil)) da_nil))) da_nil)))
    (ds_one (d_if (d_not (d_truth (d_call (ok_law_is_kind T) (hr.mono (by decide)) (by rfl) T.g_law_is_kind T.F_law_is_kind.kp T.b_law_is_kind .nil (fun _ _ => .nil) (da_cons (d_ix (d_ix (d_var (i := 2)) (d_neg d_int)) d_int) (da_cons (d_ix (d_var (i := 6)) d_int) da_nil))))) (ds_one (d_ret d_bl)) ds_nil)))))
    (ds_cons (d_frz (i := 2) (d_for (L2.passes_of rfl) rfl (di_any (d_var (i := 2))) (dg_tup rfl (dgs_cons (dg_name (i := 6) sc_law.nd) (dgs_cons (dg_name (i := 7) sc_law.nd) dgs_nil))) (ds_cons (d_set (i := 8) sc_law.nd (d_call (ok_law_alike T) (hr.mono (by decide)) (by rfl) T.g_law_alike T.F_law_alike.kp T.b_law_alike .nil (fun _ _ => .nil) (da_cons (d_var (i := 1)) (da_cons (d_var (i := 6)) (da_cons (d_var (i := 4)) da_nil)))))
    (ds_cons (d_if (L2.PW.pt (d_or (d_not (d_cmpT ((op_eqT (B := B) (EqTab.tr (EqTab.cons T.at_Kind T.ocv_Kind___eq__ T.nec_Kind (EqTab.cons T.at_Test T.ocv_Test___eq__ T.nec_Test (EqTab.cons T.at_Window T.ocv_Window___eq__ T.nec_Window (EqTab.cons T.at_AnyOf T.ocv_AnyOf___eq__ T.nec_AnyOf (EqTab.cons T.at_TestWindow T.ocv_TestWindow___eq__ T.nec_TestWindow (EqTab.cons T.at_Masks T.ocv_Masks___eq__ T.nec_Masks EqTab.nil)))))) T.tre) (ok_Kind_eq__ T) (hr.mono (by decide)) rzN).or (opEq hr.units)) (oEqT_ok (EqTab.cons T.at_Kind T.ocv_Kind___eq__ T.nec_Kind (EqTab.cons T.at_Test T.ocv_Test___eq__ T.nec_Test (EqTab.cons T.at_Window T.ocv_Window___eq__ T.nec_Window (EqTab.cons T.at_AnyOf T.ocv_AnyOf___eq__ T.nec_AnyOf (EqTab.cons T.at_TestWindow T.ocv_TestWindow___eq__ T.nec_TestWindow (EqTab.cons T.at_Masks T.ocv_Masks___eq__ T.nec_Masks EqTab.nil)))))) oEqI_ok) (d_var (i := 7)) (d_var (i := 8)) (nomark _))) (d_or (d_not (d_cmpT ((op_eqT (B := B) (EqTab.tr (EqTab.cons T.at_Kind T.ocv_Kind___eq__ T.nec_Kind (EqTab.cons T.at_Test T.ocv_Test___eq__ T.nec_Test (EqTab.cons T.at_Window T.ocv_Window___eq__ T.nec_Window (EqTab.cons T.at_AnyOf T.ocv_AnyOf___eq__ T.nec_AnyOf (EqTab.cons T.at_TestWindow T.ocv_TestWindow___eq__ T.nec_TestWindow (EqTab.cons T.at_Masks T.ocv_Masks___eq__ T.nec_Masks EqTab.nil)))))) T.tre) (ok_Kind_eq__ T) (hr.mono (by decide)) rzN).or (opEq hr.units)) (oEqT_ok (EqTab.cons T.at_Kind T.ocv_Kind___eq__ T.nec_Kind (EqTab.cons T.at_Test T.ocv_Test___eq__ T.nec_Test (EqTab.cons T.at_Window T.ocv_Window___eq__ T.nec_Window (EqTab.cons T.at_AnyOf T.ocv_AnyOf___eq__ T.nec_AnyOf (EqTab.cons T.at_TestWindow T.ocv_TestWindow___eq__ T.nec_TestWindow (EqTab.cons T.at_Masks T.ocv_Masks___eq__ T.nec_Masks EqTab.nil)))))) oEqI_ok) (d_var (i := 8)) (d_var (i := 7)) (nomark _))) (d_or (d_cmpT ((op_neT (B := B) (EqTab.tr (EqTab.cons T.at_Kind T.ocv_Kind___eq__ T.nec_Kind (EqTab.cons T.at_Test T.ocv_Test___eq__ T.nec_Test (EqTab.cons T.at_Window T.ocv_Window___eq__ T.nec_Window (EqTab.cons T.at_AnyOf T.ocv_AnyOf___eq__ T.nec_AnyOf (EqTab.cons T.at_TestWindow T.ocv_TestWindow___eq__ T.nec_TestWindow (EqTab.cons T.at_Masks T.ocv_Masks___eq__ T.nec_Masks EqTab.nil)))))) T.tre) (ok_Kind_eq__ T) (hr.mono (by decide)) rzN).or (opNe hr.units)) (oEqT_ok (EqTab.cons T.at_Kind T.ocv_Kind___eq__ T.nec_Kind (EqTab.cons T.at_Test T.ocv_Test___eq__ T.nec_Test (EqTab.cons T.at_Window T.ocv_Window___eq__ T.nec_Window (EqTab.cons T.at_AnyOf T.ocv_AnyOf___eq__ T.nec_AnyOf (EqTab.cons T.at_TestWindow T.ocv_TestWindow___eq__ T.nec_TestWindow (EqTab.cons T.at_Masks T.ocv_Masks___eq__ T.nec_Masks EqTab.nil)))))) oNeI_ok) (d_var (i := 7)) (d_var (i := 8)) (nomark _)) (d_or1 (d_not (d_truth (d_callG (ok_law_is_alone T) (by exact quiet) (hr.mono (by decide)) (rzX tk) (by rfl) T.g_law_is_alone T.F_law_is_alone.kp T.b_law_is_alone (da_cons (d_var (i := 7)) (da_cons (d_var (i := 6)) da_nil)))))))))) (ds_one (d_ret d_bl)) ds_nil)
    (ds_one (d_for (L2.passes_of rfl) rfl (di_any (d_var (i := 2))) (dg_tup rfl (dgs_cons (dg_name (i := 9) sc_law.nd) (dgs_cons (dg_name (i := 10) sc_law.nd) dgs_nil))) (ds_cons (d_set (i := 11) sc_law.nd (d_andV (d_cmp (opEq hr.units) oEqI_ok (d_ix (d_var (i := 6)) d_int) (d_ix (d_var (i := 9)) d_int) (nomark _)) (d_one (d_cmp (opEq hr.units) oEqI_ok (d_call (ok_law_full T) (hr.mono (by decide)) (by rfl) T.g_law_full T.F_law_full.kp T.b_law_full .nil (fun _ _ => .nil) (da_cons (d_ix (d_var (i := 6)) d_int) da_nil)) (d_call (ok_law_full T) (hr.mono (by decide)) (by rfl) T.g_law_full T.F_law_full.kp T.b_law_full .nil (fun _ _ => .nil) (da_cons (d_ix (d_var (i := 9)) d_int) da_nil)) (nomark _)))))
    (ds_one (d_if (d_cmpT (opNe hr.units) oNeI_ok (d_callB (repr_C T.smK (by exact quiet) (by exact hr.units)) cReprC_ok (by rfl) T.z_repr (by decide +kernel) (da_cons (d_lst (da_cons (d_cmp ((op_eqT (B := B) (EqTab.tr (EqTab.cons T.at_Kind T.ocv_Kind___eq__ T.nec_Kind (EqTab.cons T.at_Test T.ocv_Test___eq__ T.nec_Test (EqTab.cons T.at_Window T.ocv_Window___eq__ T.nec_Window (EqTab.cons T.at_AnyOf T.ocv_AnyOf___eq__ T.nec_AnyOf (EqTab.cons T.at_TestWindow T.ocv_TestWindow___eq__ T.nec_TestWindow (EqTab.cons T.at_Masks T.ocv_Masks___eq__ T.nec_Masks EqTab.nil)))))) T.tre) (ok_Kind_eq__ T) (hr.mono (by decide)) rzN).or (opEq hr.units)) (oEqT_ok (EqTab.cons T.at_Kind T.ocv_Kind___eq__ T.nec_Kind (EqTab.cons T.at_Test T.ocv_Test___eq__ T.nec_Test (EqTab.cons T.at_Window T.ocv_Window___eq__ T.nec_Window (EqTab.cons T.at_AnyOf T.ocv_AnyOf___eq__ T.nec_AnyOf (EqTab.cons T.at_TestWindow T.ocv_TestWindow___eq__ T.nec_TestWindow (EqTab.cons T.at_Masks T.ocv_Masks___eq__ T.nec_Masks EqTab.nil)))))) oEqI_ok) (d_var (i := 7)) (d_var (i := 10)) (nomark _)) (da_cons (d_cmp ((op_neT (B := B) (EqTab.tr (EqTab.cons T.at_Kind T.ocv_Kind___eq__ T.nec_Kind (EqTab.cons T.at_Test T.ocv_Test___eq__ T.nec_Test (EqTab.cons T.at_Window T.ocv_Window___eq__ T.nec_Window (EqTab.cons T.at_AnyOf T.ocv_AnyOf___eq__ T.nec_AnyOf (EqTab.cons T.at_TestWindow T.ocv_TestWindow___eq__ T.nec_TestWindow (EqTab.cons T.at_Masks T.ocv_Masks___eq__ T.nec_Masks EqTab.nil)))))) T.tre) (ok_Kind_eq__ T) (hr.mono (by decide)) rzN).or (opNe hr.units)) (oEqT_ok (EqTab.cons T.at_Kind T.ocv_Kind___eq__ T.nec_Kind (EqTab.cons T.at_Test T.ocv_Test___eq__ T.nec_Test (EqTab.cons T.at_Window T.ocv_Window___eq__ T.nec_Window (EqTab.cons T.at_AnyOf T.ocv_AnyOf___eq__ T.nec_AnyOf (EqTab.cons T.at_TestWindow T.ocv_TestWindow___eq__ T.nec_TestWindow (EqTab.cons T.at_Masks T.ocv_Masks___eq__ T.nec_Masks EqTab.nil)))))) oNeI_ok) (d_var (i := 7)) (d_var (i := 10)) (nomark _)) (da_cons (d_cmp ((op_eqT (B := B) (EqTab.tr (EqTab.cons T.at_Kind T.ocv_Kind___eq__ T.nec_Kind (EqTab.cons T.at_Test T.ocv_Test___eq__ T.nec_Test (EqTab.cons T.at_Window T.ocv_Window___eq__ T.nec_Window (EqTab.cons T.at_AnyOf T.ocv_AnyOf___eq__ T.nec_AnyOf (EqTab.cons T.at_TestWindow T.ocv_TestWindow___eq__ T.nec_TestWindow (EqTab.cons T.at_Masks T.ocv_Masks___eq__ T.nec_Masks EqTab.nil)))))) T.tre) (ok_Kind_eq__ T) (hr.mono (by decide)) rzN).or (opEq hr.units)) (oEqT_ok (EqTab.cons T.at_Kind T.ocv_Kind___eq__ T.nec_Kind (EqTab.cons T.at_Test T.ocv_Test___eq__ T.nec_Test (EqTab.cons T.at_Window T.ocv_Window___eq__ T.nec_Window (EqTab.cons T.at_AnyOf T.ocv_AnyOf___eq__ T.nec_AnyOf (EqTab.cons T.at_TestWindow T.ocv_TestWindow___eq__ T.nec_TestWindow (EqTab.cons T.at_Masks T.ocv_Masks___eq__ T.nec_Masks EqTab.nil)))))) oEqI_ok) (d_var (i := 8)) (d_var (i := 10)) (nomark _)) da_nil)))) da_nil)) (d_callB (repr_C T.smK (by exact quiet) (by exact hr.units)) cReprC_ok (by rfl) T.z_repr (by decide +kernel) (da_cons (d_lst (da_cons (d_var (i := 11)) (da_cons (d_notV (d_var (i := 11))) (da_cons (d_var (i := 11)) da_nil)))) da_nil)) (nomark _)) (ds_one (d_ret d_bl)) ds_nil)))))))))
    (ds_one (d_ret d_bl))))))),
    wp_law⟩) (by decide)
end
theorem all_mk {l : PySem.W.OpenLaw} {w : World} {K : PySem.W.Frag} {h : Heap} {mg : Str → Option Value} {fa : Addr} (hsm : l.prog.main = PROG.main) (X : K.In h) (G : h.Ns mainGlobals mg) (hfa : mg "law" = some (.ref fa))
    {C_AnyOf : Addr}
    (q_AnyOf_at : PySem.W.nsIn K mainGlobals "AnyOf" = some (some (.ref C_AnyOf)))
    {C_Kind : Addr}
    (q_Kind_at : PySem.W.nsIn K mainGlobals "Kind" = some (some (.ref C_Kind)))
    {C_Masks : Addr}
    (q_Masks_at : PySem.W.nsIn K mainGlobals "Masks" = some (some (.ref C_Masks)))
    {C_Test : Addr}
    (q_Test_at : PySem.W.nsIn K mainGlobals "Test" = some (some (.ref C_Test)))
    {C_TestWindow : Addr}
    (q_TestWindow_at : PySem.W.nsIn K mainGlobals "TestWindow" = some (some (.ref C_TestWindow)))
    {C_Window : Addr}
    (q_Window_at : PySem.W.nsIn K mainGlobals "Window" = some (some (.ref C_Window)))
    (q_AnyOf_pg : PySem.W.plainGet K C_AnyOf Str.empty = true)
    (q_AnyOf_hd : PySem.W.hasDictIn K C_AnyOf = true)
    (q_AnyOf_po : PySem.W.plainOver K C_AnyOf = true)
    (q_AnyOf_sa : PySem.W.findIn K (.ref C_AnyOf) "__setattr__" = some (some (.builtin "object.__setattr__")))
    (q_Kind_pg : PySem.W.plainGet K C_Kind Str.empty = true)
    (q_Kind_hd : PySem.W.hasDictIn K C_Kind = true)
    (q_Kind_po : PySem.W.plainOver K C_Kind = true)
    (q_Kind_sa : PySem.W.findIn K (.ref C_Kind) "__setattr__" = some (some (.builtin "object.__setattr__")))
    (q_Masks_pg : PySem.W.plainGet K C_Masks Str.empty = true)
    (q_Masks_hd : PySem.W.hasDictIn K C_Masks = true)
    (q_Masks_po : PySem.W.plainOver K C_Masks = true)
    (q_Masks_sa : PySem.W.findIn K (.ref C_Masks) "__setattr__" = some (some (.builtin "object.__setattr__")))
    (q_Test_pg : PySem.W.plainGet K C_Test Str.empty = true)
    (q_Test_hd : PySem.W.hasDictIn K C_Test = true)
    (q_Test_po : PySem.W.plainOver K C_Test = true)
    (q_Test_sa : PySem.W.findIn K (.ref C_Test) "__setattr__" = some (some (.builtin "object.__setattr__")))
    (q_TestWindow_pg : PySem.W.plainGet K C_TestWindow Str.empty = true)
    (q_TestWindow_hd : PySem.W.hasDictIn K C_TestWindow = true)
    (q_TestWindow_po : PySem.W.plainOver K C_TestWindow = true)
    (q_TestWindow_sa : PySem.W.findIn K (.ref C_TestWindow) "__setattr__" = some (some (.builtin "object.__setattr__")))
    (q_Window_pg : PySem.W.plainGet K C_Window Str.empty = true)
    (q_Window_hd : PySem.W.hasDictIn K C_Window = true)
    (q_Window_po : PySem.W.plainOver K C_Window = true)
    (q_Window_sa : PySem.W.findIn K (.ref C_Window) "__setattr__" = some (some (.builtin "object.__setattr__")))
    (q_AnyOf_inf_ha : PySem.W.findIn K (.ref C_AnyOf) "__class__" = some (some (.builtin "object.__class__")))
    (q_AnyOf_inf_hn : PySem.W.specialIn K (.builtin "object.__class__") "__get__" = some (some (.builtin "getset_descriptor.__get__")))
    (q_AnyOf_inf_tk : PySem.W.takesIn K (.builtin "object.__class__") = some true)
    (q_AnyOf_inf_hm : PySem.W.mroIn K C_AnyOf (.type "object") = some true)
    (q_Kind_inf_ha : PySem.W.findIn K (.ref C_Kind) "__class__" = some (some (.builtin "object.__class__")))
    (q_Kind_inf_hn : PySem.W.specialIn K (.builtin "object.__class__") "__get__" = some (some (.builtin "getset_descriptor.__get__")))
    (q_Kind_inf_tk : PySem.W.takesIn K (.builtin "object.__class__") = some true)
    (q_Kind_inf_hm : PySem.W.mroIn K C_Kind (.type "object") = some true)
    (q_Masks_inf_ha : PySem.W.findIn K (.ref C_Masks) "__class__" = some (some (.builtin "object.__class__")))
    (q_Masks_inf_hn : PySem.W.specialIn K (.builtin "object.__class__") "__get__" = some (some (.builtin "getset_descriptor.__get__")))
    (q_Masks_inf_tk : PySem.W.takesIn K (.builtin "object.__class__") = some true)
    (q_Masks_inf_hm : PySem.W.mroIn K C_Masks (.type "object") = some true)
    (q_Test_inf_ha : PySem.W.findIn K (.ref C_Test) "__class__" = some (some (.builtin "object.__class__")))
    (q_Test_inf_hn : PySem.W.specialIn K (.builtin "object.__class__") "__get__" = some (some (.builtin "getset_descriptor.__get__")))
    (q_Test_inf_tk : PySem.W.takesIn K (.builtin "object.__class__") = some true)
    (q_Test_inf_hm : PySem.W.mroIn K C_Test (.type "object") = some true)
    (q_TestWindow_inf_ha : PySem.W.findIn K (.ref C_TestWindow) "__class__" = some (some (.builtin "object.__class__")))
    (q_TestWindow_inf_hn : PySem.W.specialIn K (.builtin "object.__class__") "__get__" = some (some (.builtin "getset_descriptor.__get__")))
    (q_TestWindow_inf_tk : PySem.W.takesIn K (.builtin "object.__class__") = some true)
    (q_TestWindow_inf_hm : PySem.W.mroIn K C_TestWindow (.type "object") = some true)
    (q_Window_inf_ha : PySem.W.findIn K (.ref C_Window) "__class__" = some (some (.builtin "object.__class__")))
    (q_Window_inf_hn : PySem.W.specialIn K (.builtin "object.__class__") "__get__" = some (some (.builtin "getset_descriptor.__get__")))
    (q_Window_inf_tk : PySem.W.takesIn K (.builtin "object.__class__") = some true)
    (q_Window_inf_hm : PySem.W.mroIn K C_Window (.type "object") = some true)
    (q_isc_AnyOf : PySem.W.kitOne K (.type "NoneType") (.ref C_AnyOf) = some false)
    (q_isc_Kind : PySem.W.kitOne K (.type "NoneType") (.ref C_Kind) = some false)
    (q_isc_Masks : PySem.W.kitOne K (.type "NoneType") (.ref C_Masks) = some false)
    (q_isc_Test : PySem.W.kitOne K (.type "NoneType") (.ref C_Test) = some false)
    (q_isc_TestWindow : PySem.W.kitOne K (.type "NoneType") (.ref C_TestWindow) = some false)
    (q_isc_Window : PySem.W.kitOne K (.type "NoneType") (.ref C_Window) = some false)
    (q_kitC_AnyOf_AnyOf : PySem.W.kitOne K (.ref C_AnyOf) (.ref C_AnyOf) = some true)
    (q_kitC_AnyOf_Kind : PySem.W.kitOne K (.ref C_AnyOf) (.ref C_Kind) = some true)
    (q_kitC_AnyOf_Masks : PySem.W.kitOne K (.ref C_AnyOf) (.ref C_Masks) = some false)
    (q_kitC_AnyOf_Test : PySem.W.kitOne K (.ref C_AnyOf) (.ref C_Test) = some false)
    (q_kitC_AnyOf_TestWindow : PySem.W.kitOne K (.ref C_AnyOf) (.ref C_TestWindow) = some false)
    (q_kitC_AnyOf_Window : PySem.W.kitOne K (.ref C_AnyOf) (.ref C_Window) = some false)
    (q_kitC_Kind_AnyOf : PySem.W.kitOne K (.ref C_Kind) (.ref C_AnyOf) = some false)
    (q_kitC_Kind_Kind : PySem.W.kitOne K (.ref C_Kind) (.ref C_Kind) = some true)
    (q_kitC_Kind_Masks : PySem.W.kitOne K (.ref C_Kind) (.ref C_Masks) = some false)
    (q_kitC_Kind_Test : PySem.W.kitOne K (.ref C_Kind) (.ref C_Test) = some false)
    (q_kitC_Kind_TestWindow : PySem.W.kitOne K (.ref C_Kind) (.ref C_TestWindow) = some false)
    (q_kitC_Kind_Window : PySem.W.kitOne K (.ref C_Kind) (.ref C_Window) = some false)
    (q_kitC_Masks_AnyOf : PySem.W.kitOne K (.ref C_Masks) (.ref C_AnyOf) = some false)
    (q_kitC_Masks_Kind : PySem.W.kitOne K (.ref C_Masks) (.ref C_Kind) = some true)
    (q_kitC_Masks_Masks : PySem.W.kitOne K (.ref C_Masks) (.ref C_Masks) = some true)
    (q_kitC_Masks_Test : PySem.W.kitOne K (.ref C_Masks) (.ref C_Test) = some false)
    (q_kitC_Masks_TestWindow : PySem.W.kitOne K (.ref C_Masks) (.ref C_TestWindow) = some false)
    (q_kitC_Masks_Window : PySem.W.kitOne K (.ref C_Masks) (.ref C_Window) = some false)
    (q_kitC_Test_AnyOf : PySem.W.kitOne K (.ref C_Test) (.ref C_AnyOf) = some false)
    (q_kitC_Test_Kind : PySem.W.kitOne K (.ref C_Test) (.ref C_Kind) = some true)
    (q_kitC_Test_Masks : PySem.W.kitOne K (.ref C_Test) (.ref C_Masks) = some false)
    (q_kitC_Test_Test : PySem.W.kitOne K (.ref C_Test) (.ref C_Test) = some true)
    (q_kitC_Test_TestWindow : PySem.W.kitOne K (.ref C_Test) (.ref C_TestWindow) = some false)
    (q_kitC_Test_Window : PySem.W.kitOne K (.ref C_Test) (.ref C_Window) = some false)
    (q_kitC_TestWindow_AnyOf : PySem.W.kitOne K (.ref C_TestWindow) (.ref C_AnyOf) = some false)
    (q_kitC_TestWindow_Kind : PySem.W.kitOne K (.ref C_TestWindow) (.ref C_Kind) = some true)
    (q_kitC_TestWindow_Masks : PySem.W.kitOne K (.ref C_TestWindow) (.ref C_Masks) = some false)
    (q_kitC_TestWindow_Test : PySem.W.kitOne K (.ref C_TestWindow) (.ref C_Test) = some true)
    (q_kitC_TestWindow_TestWindow : PySem.W.kitOne K (.ref C_TestWindow) (.ref C_TestWindow) = some true)
    (q_kitC_TestWindow_Window : PySem.W.kitOne K (.ref C_TestWindow) (.ref C_Window) = some true)
    (q_kitC_Window_AnyOf : PySem.W.kitOne K (.ref C_Window) (.ref C_AnyOf) = some false)
    (q_kitC_Window_Kind : PySem.W.kitOne K (.ref C_Window) (.ref C_Kind) = some true)
    (q_kitC_Window_Masks : PySem.W.kitOne K (.ref C_Window) (.ref C_Masks) = some false)
    (q_kitC_Window_Test : PySem.W.kitOne K (.ref C_Window) (.ref C_Test) = some false)
    (q_kitC_Window_TestWindow : PySem.W.kitOne K (.ref C_Window) (.ref C_TestWindow) = some false)
    (q_kitC_Window_Window : PySem.W.kitOne K (.ref C_Window) (.ref C_Window) = some true)
    {f_Kind_masks : Addr}
    (q_mev_AnyOf_masks_at : PySem.W.findIn K (.ref C_AnyOf) "masks" = some (some (.ref f_Kind_masks)))
    (q_mev_AnyOf_masks_fn : PySem.W.isFn K (.ref f_Kind_masks) = true)
    {f_AnyOf_may_set : Addr}
    (q_mev_AnyOf_may_set_at : PySem.W.findIn K (.ref C_AnyOf) "may_set" = some (some (.ref f_AnyOf_may_set)))
    (q_mev_AnyOf_may_set_fn : PySem.W.isFn K (.ref f_AnyOf_may_set) = true)
    {f_AnyOf_single : Addr}
    (q_mev_AnyOf_single_at : PySem.W.findIn K (.ref C_AnyOf) "single" = some (some (.ref f_AnyOf_single)))
    (q_mev_AnyOf_single_fn : PySem.W.isFn K (.ref f_AnyOf_single) = true)
    (q_mev_Kind_masks_at : PySem.W.findIn K (.ref C_Kind) "masks" = some (some (.ref f_Kind_masks)))
    (q_mev_Kind_masks_fn : PySem.W.isFn K (.ref f_Kind_masks) = true)
    {f_Kind_may_set : Addr}
    (q_mev_Kind_may_set_at : PySem.W.findIn K (.ref C_Kind) "may_set" = some (some (.ref f_Kind_may_set)))
    (q_mev_Kind_may_set_fn : PySem.W.isFn K (.ref f_Kind_may_set) = true)
    {f_Kind_single : Addr}
    (q_mev_Kind_single_at : PySem.W.findIn K (.ref C_Kind) "single" = some (some (.ref f_Kind_single)))
    (q_mev_Kind_single_fn : PySem.W.isFn K (.ref f_Kind_single) = true)
    (q_mev_Masks_masks_at : PySem.W.findIn K (.ref C_Masks) "masks" = some (some (.ref f_Kind_masks)))
    (q_mev_Masks_masks_fn : PySem.W.isFn K (.ref f_Kind_masks) = true)
    {f_Masks_may_set : Addr}
    (q_mev_Masks_may_set_at : PySem.W.findIn K (.ref C_Masks) "may_set" = some (some (.ref f_Masks_may_set)))
    (q_mev_Masks_may_set_fn : PySem.W.isFn K (.ref f_Masks_may_set) = true)
    {f_Masks_single : Addr}
    (q_mev_Masks_single_at : PySem.W.findIn K (.ref C_Masks) "single" = some (some (.ref f_Masks_single)))
    (q_mev_Masks_single_fn : PySem.W.isFn K (.ref f_Masks_single) = true)
    (q_mev_Test_masks_at : PySem.W.findIn K (.ref C_Test) "masks" = some (some (.ref f_Kind_masks)))
    (q_mev_Test_masks_fn : PySem.W.isFn K (.ref f_Kind_masks) = true)
    {f_Test_may_set : Addr}
    (q_mev_Test_may_set_at : PySem.W.findIn K (.ref C_Test) "may_set" = some (some (.ref f_Test_may_set)))
    (q_mev_Test_may_set_fn : PySem.W.isFn K (.ref f_Test_may_set) = true)
    {f_Test_single : Addr}
    (q_mev_Test_single_at : PySem.W.findIn K (.ref C_Test) "single" = some (some (.ref f_Test_single)))
    (q_mev_Test_single_fn : PySem.W.isFn K (.ref f_Test_single) = true)
    (q_mev_TestWindow_masks_at : PySem.W.findIn K (.ref C_TestWindow) "masks" = some (some (.ref f_Kind_masks)))
    (q_mev_TestWindow_masks_fn : PySem.W.isFn K (.ref f_Kind_masks) = true)
    (q_mev_TestWindow_may_set_at : PySem.W.findIn K (.ref C_TestWindow) "may_set" = some (some (.ref f_Test_may_set)))
    (q_mev_TestWindow_may_set_fn : PySem.W.isFn K (.ref f_Test_may_set) = true)
    (q_mev_TestWindow_single_at : PySem.W.findIn K (.ref C_TestWindow) "single" = some (some (.ref f_Test_single)))
    (q_mev_TestWindow_single_fn : PySem.W.isFn K (.ref f_Test_single) = true)
    (q_mev_Window_masks_at : PySem.W.findIn K (.ref C_Window) "masks" = some (some (.ref f_Kind_masks)))
    (q_mev_Window_masks_fn : PySem.W.isFn K (.ref f_Kind_masks) = true)
    {f_Window_may_set : Addr}
    (q_mev_Window_may_set_at : PySem.W.findIn K (.ref C_Window) "may_set" = some (some (.ref f_Window_may_set)))
    (q_mev_Window_may_set_fn : PySem.W.isFn K (.ref f_Window_may_set) = true)
    {f_Window_single : Addr}
    (q_mev_Window_single_at : PySem.W.findIn K (.ref C_Window) "single" = some (some (.ref f_Window_single)))
    (q_mev_Window_single_fn : PySem.W.isFn K (.ref f_Window_single) = true)
    (q_AnyOf_mkm : PySem.W.makesIn K C_AnyOf = true)
    {f_AnyOf_init__ : Addr}
    (q_AnyOf_mki : PySem.W.findIn K (.ref C_AnyOf) "__init__" = some (some (.ref f_AnyOf_init__)))
    (q_AnyOf_mkf : PySem.W.isFn K (.ref f_AnyOf_init__) = true)
    (q_AnyOf_mkk : PySem.W.keepIn K (.ref C_AnyOf) = true)
    (q_Kind_mkm : PySem.W.makesIn K C_Kind = true)
    {f_Kind_init__ : Addr}
    (q_Kind_mki : PySem.W.findIn K (.ref C_Kind) "__init__" = some (some (.ref f_Kind_init__)))
    (q_Kind_mkf : PySem.W.isFn K (.ref f_Kind_init__) = true)
    (q_Kind_mkk : PySem.W.keepIn K (.ref C_Kind) = true)
    (q_Masks_mkm : PySem.W.makesIn K C_Masks = true)
    {f_Masks_init__ : Addr}
    (q_Masks_mki : PySem.W.findIn K (.ref C_Masks) "__init__" = some (some (.ref f_Masks_init__)))
    (q_Masks_mkf : PySem.W.isFn K (.ref f_Masks_init__) = true)
    (q_Masks_mkk : PySem.W.keepIn K (.ref C_Masks) = true)
    (q_Test_mkm : PySem.W.makesIn K C_Test = true)
    {f_Test_init__ : Addr}
    (q_Test_mki : PySem.W.findIn K (.ref C_Test) "__init__" = some (some (.ref f_Test_init__)))
    (q_Test_mkf : PySem.W.isFn K (.ref f_Test_init__) = true)
    (q_Test_mkk : PySem.W.keepIn K (.ref C_Test) = true)
    (q_TestWindow_mkm : PySem.W.makesIn K C_TestWindow = true)
    {f_TestWindow_init__ : Addr}
    (q_TestWindow_mki : PySem.W.findIn K (.ref C_TestWindow) "__init__" = some (some (.ref f_TestWindow_init__)))
    (q_TestWindow_mkf : PySem.W.isFn K (.ref f_TestWindow_init__) = true)
    (q_TestWindow_mkk : PySem.W.keepIn K (.ref C_TestWindow) = true)
    (q_Window_mkm : PySem.W.makesIn K C_Window = true)
    {f_Window_init__ : Addr}
    (q_Window_mki : PySem.W.findIn K (.ref C_Window) "__init__" = some (some (.ref f_Window_init__)))
    (q_Window_mkf : PySem.W.isFn K (.ref f_Window_init__) = true)
    (q_Window_mkk : PySem.W.keepIn K (.ref C_Window) = true)
    (q_AnyOf_na_bit : PySem.W.findIn K (.ref C_AnyOf) "bit" = some none)
    (q_AnyOf_na_name : PySem.W.findIn K (.ref C_AnyOf) "name" = some none)
    (q_AnyOf_na_own_conditions : PySem.W.findIn K (.ref C_AnyOf) "own_conditions" = some none)
    (q_Kind_na_name : PySem.W.findIn K (.ref C_Kind) "name" = some none)
    (q_Masks_na_name : PySem.W.findIn K (.ref C_Masks) "name" = some none)
    (q_Masks_na_own_masks : PySem.W.findIn K (.ref C_Masks) "own_masks" = some none)
    (q_Test_na_bit : PySem.W.findIn K (.ref C_Test) "bit" = some none)
    (q_Test_na_condition : PySem.W.findIn K (.ref C_Test) "condition" = some none)
    (q_Test_na_name : PySem.W.findIn K (.ref C_Test) "name" = some none)
    (q_TestWindow_na_bit : PySem.W.findIn K (.ref C_TestWindow) "bit" = some none)
    (q_TestWindow_na_condition : PySem.W.findIn K (.ref C_TestWindow) "condition" = some none)
    (q_TestWindow_na_low : PySem.W.findIn K (.ref C_TestWindow) "low" = some none)
    (q_TestWindow_na_name : PySem.W.findIn K (.ref C_TestWindow) "name" = some none)
    (q_TestWindow_na_own_conditions : PySem.W.findIn K (.ref C_TestWindow) "own_conditions" = some none)
    (q_Window_na_low : PySem.W.findIn K (.ref C_Window) "low" = some none)
    (q_Window_na_name : PySem.W.findIn K (.ref C_Window) "name" = some none)
    (q_Window_na_own_conditions : PySem.W.findIn K (.ref C_Window) "own_conditions" = some none)
    (q_AnyOf_nec_ne : PySem.W.findIn K (.ref C_AnyOf) "__ne__" = some (some (.builtin "object.__ne__")))
    (q_AnyOf_nec_ob : PySem.W.mroIn K C_AnyOf (.type "object") = some true)
    (q_Kind_nec_ne : PySem.W.findIn K (.ref C_Kind) "__ne__" = some (some (.builtin "object.__ne__")))
    (q_Kind_nec_ob : PySem.W.mroIn K C_Kind (.type "object") = some true)
    (q_Masks_nec_ne : PySem.W.findIn K (.ref C_Masks) "__ne__" = some (some (.builtin "object.__ne__")))
    (q_Masks_nec_ob : PySem.W.mroIn K C_Masks (.type "object") = some true)
    (q_Test_nec_ne : PySem.W.findIn K (.ref C_Test) "__ne__" = some (some (.builtin "object.__ne__")))
    (q_Test_nec_ob : PySem.W.mroIn K C_Test (.type "object") = some true)
    (q_TestWindow_nec_ne : PySem.W.findIn K (.ref C_TestWindow) "__ne__" = some (some (.builtin "object.__ne__")))
    (q_TestWindow_nec_ob : PySem.W.mroIn K C_TestWindow (.type "object") = some true)
    (q_Window_nec_ne : PySem.W.findIn K (.ref C_Window) "__ne__" = some (some (.builtin "object.__ne__")))
    (q_Window_nec_ob : PySem.W.mroIn K C_Window (.type "object") = some true)
    {f_Kind_eq__ : Addr}
    (q_opv_AnyOf___eq___at : PySem.W.findIn K (.ref C_AnyOf) "__eq__" = some (some (.ref f_Kind_eq__)))
    (q_opv_AnyOf___eq___fn : PySem.W.isFn K (.ref f_Kind_eq__) = true)
    (q_fnv_Kind_eq__ : PySem.W.fnIn K f_Kind_eq__ = true)
    (q_opv_Kind___eq___at : PySem.W.findIn K (.ref C_Kind) "__eq__" = some (some (.ref f_Kind_eq__)))
    (q_opv_Kind___eq___fn : PySem.W.isFn K (.ref f_Kind_eq__) = true)
    (q_opv_Masks___eq___at : PySem.W.findIn K (.ref C_Masks) "__eq__" = some (some (.ref f_Kind_eq__)))
    (q_opv_Masks___eq___fn : PySem.W.isFn K (.ref f_Kind_eq__) = true)
    (q_opv_Test___eq___at : PySem.W.findIn K (.ref C_Test) "__eq__" = some (some (.ref f_Kind_eq__)))
    (q_opv_Test___eq___fn : PySem.W.isFn K (.ref f_Kind_eq__) = true)
    (q_opv_TestWindow___eq___at : PySem.W.findIn K (.ref C_TestWindow) "__eq__" = some (some (.ref f_Kind_eq__)))
    (q_opv_TestWindow___eq___fn : PySem.W.isFn K (.ref f_Kind_eq__) = true)
    (q_opv_Window___eq___at : PySem.W.findIn K (.ref C_Window) "__eq__" = some (some (.ref f_Kind_eq__)))
    (q_opv_Window___eq___fn : PySem.W.isFn K (.ref f_Kind_eq__) = true)
    (q_AnyOf_rd : PySem.W.readsIn K C_AnyOf (.type "type") = true)
    (q_AnyOf_ga : PySem.W.specialIn K (.ref C_AnyOf) "__getattribute__" = some (some (.builtin "type.__getattribute__")))
    {sp_a_AnyOf_of : Addr}
    (q_AnyOf_of_find : PySem.W.findCls K (.ref C_AnyOf) (.type "type") "of" = some (.get (.builtin "staticmethod.__get__") (.ref sp_a_AnyOf_of) .none (.ref C_AnyOf)))
    {f_AnyOf_of : Addr}
    {rest_AnyOf_of : List Value}
    (q_AnyOf_of_rec : PySem.W.recIn K sp_a_AnyOf_of "staticmethod" = some (.ref f_AnyOf_of :: rest_AnyOf_of))
    (q_Window_rd : PySem.W.readsIn K C_Window (.type "type") = true)
    (q_Window_ga : PySem.W.specialIn K (.ref C_Window) "__getattribute__" = some (some (.builtin "type.__getattribute__")))
    {sp_a_Window_of : Addr}
    (q_Window_of_find : PySem.W.findCls K (.ref C_Window) (.type "type") "of" = some (.get (.builtin "staticmethod.__get__") (.ref sp_a_Window_of) .none (.ref C_Window)))
    {f_Window_of : Addr}
    {rest_Window_of : List Value}
    (q_Window_of_rec : PySem.W.recIn K sp_a_Window_of "staticmethod" = some (.ref f_Window_of :: rest_Window_of))
    (q_smK : SmK K)
    (q_tpa : PySem.W.nsIn K cStatics "thirdparty.any" = some none)
    (q_sup_AnyOf_AnyOf___init___at : PySem.W.ks_superIn K C_AnyOf C_AnyOf "__init__" = some (some (.ref f_Kind_init__)))
    (q_sup_AnyOf_AnyOf___init___ty : PySem.W.typeIn K (.ref f_Kind_init__) = some (.type "function"))
    (q_sup_AnyOf_AnyOf___init___fi : PySem.W.fnIn K f_Kind_init__ = true)
    (q_sup_AnyOf_AnyOf___init___sb : PySem.W.mroIn K C_AnyOf (.ref C_AnyOf) = some true)
    (q_sup_AnyOf_AnyOf_may_set_at : PySem.W.ks_superIn K C_AnyOf C_AnyOf "may_set" = some (some (.ref f_Kind_may_set)))
    (q_sup_AnyOf_AnyOf_may_set_ty : PySem.W.typeIn K (.ref f_Kind_may_set) = some (.type "function"))
    (q_sup_AnyOf_AnyOf_may_set_fi : PySem.W.fnIn K f_Kind_may_set = true)
    (q_sup_AnyOf_AnyOf_may_set_sb : PySem.W.mroIn K C_AnyOf (.ref C_AnyOf) = some true)
    (q_sup_AnyOf_AnyOf_single_at : PySem.W.ks_superIn K C_AnyOf C_AnyOf "single" = some (some (.ref f_Kind_single)))
    (q_sup_AnyOf_AnyOf_single_ty : PySem.W.typeIn K (.ref f_Kind_single) = some (.type "function"))
    (q_sup_AnyOf_AnyOf_single_fi : PySem.W.fnIn K f_Kind_single = true)
    (q_sup_AnyOf_AnyOf_single_sb : PySem.W.mroIn K C_AnyOf (.ref C_AnyOf) = some true)
    (q_sup_Masks_Masks___init___at : PySem.W.ks_superIn K C_Masks C_Masks "__init__" = some (some (.ref f_Kind_init__)))
    (q_sup_Masks_Masks___init___ty : PySem.W.typeIn K (.ref f_Kind_init__) = some (.type "function"))
    (q_sup_Masks_Masks___init___fi : PySem.W.fnIn K f_Kind_init__ = true)
    (q_sup_Masks_Masks___init___sb : PySem.W.mroIn K C_Masks (.ref C_Masks) = some true)
    (q_sup_Masks_Masks_may_set_at : PySem.W.ks_superIn K C_Masks C_Masks "may_set" = some (some (.ref f_Kind_may_set)))
    (q_sup_Masks_Masks_may_set_ty : PySem.W.typeIn K (.ref f_Kind_may_set) = some (.type "function"))
    (q_sup_Masks_Masks_may_set_fi : PySem.W.fnIn K f_Kind_may_set = true)
    (q_sup_Masks_Masks_may_set_sb : PySem.W.mroIn K C_Masks (.ref C_Masks) = some true)
    (q_sup_Masks_Masks_single_at : PySem.W.ks_superIn K C_Masks C_Masks "single" = some (some (.ref f_Kind_single)))
    (q_sup_Masks_Masks_single_ty : PySem.W.typeIn K (.ref f_Kind_single) = some (.type "function"))
    (q_sup_Masks_Masks_single_fi : PySem.W.fnIn K f_Kind_single = true)
    (q_sup_Masks_Masks_single_sb : PySem.W.mroIn K C_Masks (.ref C_Masks) = some true)
    (q_sup_Test_Test___init___at : PySem.W.ks_superIn K C_Test C_Test "__init__" = some (some (.ref f_Kind_init__)))
    (q_sup_Test_Test___init___ty : PySem.W.typeIn K (.ref f_Kind_init__) = some (.type "function"))
    (q_sup_Test_Test___init___fi : PySem.W.fnIn K f_Kind_init__ = true)
    (q_sup_Test_Test___init___sb : PySem.W.mroIn K C_Test (.ref C_Test) = some true)
    (q_sup_Test_Test_may_set_at : PySem.W.ks_superIn K C_Test C_Test "may_set" = some (some (.ref f_Kind_may_set)))
    (q_sup_Test_Test_may_set_ty : PySem.W.typeIn K (.ref f_Kind_may_set) = some (.type "function"))
    (q_sup_Test_Test_may_set_fi : PySem.W.fnIn K f_Kind_may_set = true)
    (q_sup_Test_Test_may_set_sb : PySem.W.mroIn K C_Test (.ref C_Test) = some true)
    (q_sup_Test_Test_single_at : PySem.W.ks_superIn K C_Test C_Test "single" = some (some (.ref f_Kind_single)))
    (q_sup_Test_Test_single_ty : PySem.W.typeIn K (.ref f_Kind_single) = some (.type "function"))
    (q_sup_Test_Test_single_fi : PySem.W.fnIn K f_Kind_single = true)
    (q_sup_Test_Test_single_sb : PySem.W.mroIn K C_Test (.ref C_Test) = some true)
    (q_sup_TestWindow_Test___init___at : PySem.W.ks_superIn K C_TestWindow C_Test "__init__" = some (some (.ref f_Window_init__)))
    (q_sup_TestWindow_Test___init___ty : PySem.W.typeIn K (.ref f_Window_init__) = some (.type "function"))
    (q_sup_TestWindow_Test___init___fi : PySem.W.fnIn K f_Window_init__ = true)
    (q_sup_TestWindow_Test___init___sb : PySem.W.mroIn K C_TestWindow (.ref C_Test) = some true)
    (q_sup_TestWindow_Test_may_set_at : PySem.W.ks_superIn K C_TestWindow C_Test "may_set" = some (some (.ref f_Window_may_set)))
    (q_sup_TestWindow_Test_may_set_ty : PySem.W.typeIn K (.ref f_Window_may_set) = some (.type "function"))
    (q_sup_TestWindow_Test_may_set_fi : PySem.W.fnIn K f_Window_may_set = true)
    (q_sup_TestWindow_Test_may_set_sb : PySem.W.mroIn K C_TestWindow (.ref C_Test) = some true)
    (q_sup_TestWindow_Test_single_at : PySem.W.ks_superIn K C_TestWindow C_Test "single" = some (some (.ref f_Window_single)))
    (q_sup_TestWindow_Test_single_ty : PySem.W.typeIn K (.ref f_Window_single) = some (.type "function"))
    (q_sup_TestWindow_Test_single_fi : PySem.W.fnIn K f_Window_single = true)
    (q_sup_TestWindow_Test_single_sb : PySem.W.mroIn K C_TestWindow (.ref C_Test) = some true)
    (q_sup_TestWindow_TestWindow___init___at : PySem.W.ks_superIn K C_TestWindow C_TestWindow "__init__" = some (some (.ref f_Test_init__)))
    (q_sup_TestWindow_TestWindow___init___ty : PySem.W.typeIn K (.ref f_Test_init__) = some (.type "function"))
    (q_sup_TestWindow_TestWindow___init___fi : PySem.W.fnIn K f_Test_init__ = true)
    (q_sup_TestWindow_TestWindow___init___sb : PySem.W.mroIn K C_TestWindow (.ref C_TestWindow) = some true)
    (q_sup_TestWindow_Window___init___at : PySem.W.ks_superIn K C_TestWindow C_Window "__init__" = some (some (.ref f_Kind_init__)))
    (q_sup_TestWindow_Window___init___ty : PySem.W.typeIn K (.ref f_Kind_init__) = some (.type "function"))
    (q_sup_TestWindow_Window___init___fi : PySem.W.fnIn K f_Kind_init__ = true)
    (q_sup_TestWindow_Window___init___sb : PySem.W.mroIn K C_TestWindow (.ref C_Window) = some true)
    (q_sup_TestWindow_Window_may_set_at : PySem.W.ks_superIn K C_TestWindow C_Window "may_set" = some (some (.ref f_Kind_may_set)))
    (q_sup_TestWindow_Window_may_set_ty : PySem.W.typeIn K (.ref f_Kind_may_set) = some (.type "function"))
    (q_sup_TestWindow_Window_may_set_fi : PySem.W.fnIn K f_Kind_may_set = true)
    (q_sup_TestWindow_Window_may_set_sb : PySem.W.mroIn K C_TestWindow (.ref C_Window) = some true)
    (q_sup_TestWindow_Window_single_at : PySem.W.ks_superIn K C_TestWindow C_Window "single" = some (some (.ref f_Kind_single)))
    (q_sup_TestWindow_Window_single_ty : PySem.W.typeIn K (.ref f_Kind_single) = some (.type "function"))
    (q_sup_TestWindow_Window_single_fi : PySem.W.fnIn K f_Kind_single = true)
    (q_sup_TestWindow_Window_single_sb : PySem.W.mroIn K C_TestWindow (.ref C_Window) = some true)
    (q_sup_Window_Window___init___at : PySem.W.ks_superIn K C_Window C_Window "__init__" = some (some (.ref f_Kind_init__)))
    (q_sup_Window_Window___init___ty : PySem.W.typeIn K (.ref f_Kind_init__) = some (.type "function"))
    (q_sup_Window_Window___init___fi : PySem.W.fnIn K f_Kind_init__ = true)
    (q_sup_Window_Window___init___sb : PySem.W.mroIn K C_Window (.ref C_Window) = some true)
    (q_sup_Window_Window_may_set_at : PySem.W.ks_superIn K C_Window C_Window "may_set" = some (some (.ref f_Kind_may_set)))
    (q_sup_Window_Window_may_set_ty : PySem.W.typeIn K (.ref f_Kind_may_set) = some (.type "function"))
    (q_sup_Window_Window_may_set_fi : PySem.W.fnIn K f_Kind_may_set = true)
    (q_sup_Window_Window_may_set_sb : PySem.W.mroIn K C_Window (.ref C_Window) = some true)
    (q_sup_Window_Window_single_at : PySem.W.ks_superIn K C_Window C_Window "single" = some (some (.ref f_Kind_single)))
    (q_sup_Window_Window_single_ty : PySem.W.typeIn K (.ref f_Kind_single) = some (.type "function"))
    (q_sup_Window_Window_single_fi : PySem.W.fnIn K f_Kind_single = true)
    (q_sup_Window_Window_single_sb : PySem.W.mroIn K C_Window (.ref C_Window) = some true)
    (q_tre : L3.treB K [C_Kind, C_Test, C_Window, C_AnyOf, C_TestWindow, C_Masks] = true)
    {f_is_integer : Addr}
    (a_is_integer : PySem.W.nsIn K mainGlobals "is_integer" = some (some (.ref f_is_integer)))
    {oc_is_integer kV_is_integer dc_is_integer pm_is_integer cd_is_integer ct_is_integer : Value}
    {od_is_integer an_is_integer : Option Addr}
    {sl_is_integer : Array (Option Value)}
    (l_is_integer : K.lookup f_is_integer = some ⟨oc_is_integer, od_is_integer, .func (PySem.W.fnOf "is_integer" "is_integer" (defArgs s_is_integer) (defBody s_is_integer) (defScope s_is_integer) .none kV_is_integer dc_is_integer pm_is_integer an_is_integer cd_is_integer ct_is_integer), sl_is_integer⟩)
    (c_is_integer : PySem.W.codeIn K cd_is_integer "is_integer" = true)
    (k_is_integer : PySem.W.keepIn K (.ref f_is_integer) = true)
    {f_is_between : Addr}
    (a_is_between : PySem.W.nsIn K mainGlobals "is_between" = some (some (.ref f_is_between)))
    {oc_is_between kV_is_between dc_is_between pm_is_between cd_is_between ct_is_between : Value}
    {od_is_between an_is_between : Option Addr}
    {sl_is_between : Array (Option Value)}
    (l_is_between : K.lookup f_is_between = some ⟨oc_is_between, od_is_between, .func (PySem.W.fnOf "is_between" "is_between" (defArgs s_is_between) (defBody s_is_between) (defScope s_is_between) .none kV_is_between dc_is_between pm_is_between an_is_between cd_is_between ct_is_between), sl_is_between⟩)
    (c_is_between : PySem.W.codeIn K cd_is_between "is_between" = true)
    (k_is_between : PySem.W.keepIn K (.ref f_is_between) = true)
    {f_is_name : Addr}
    (a_is_name : PySem.W.nsIn K mainGlobals "is_name" = some (some (.ref f_is_name)))
    {oc_is_name kV_is_name dc_is_name pm_is_name cd_is_name ct_is_name : Value}
    {od_is_name an_is_name : Option Addr}
    {sl_is_name : Array (Option Value)}
    (l_is_name : K.lookup f_is_name = some ⟨oc_is_name, od_is_name, .func (PySem.W.fnOf "is_name" "is_name" (defArgs s_is_name) (defBody s_is_name) (defScope s_is_name) .none kV_is_name dc_is_name pm_is_name an_is_name cd_is_name ct_is_name), sl_is_name⟩)
    (c_is_name : PySem.W.codeIn K cd_is_name "is_name" = true)
    (k_is_name : PySem.W.keepIn K (.ref f_is_name) = true)
    {f_are_conditions : Addr}
    (a_are_conditions : PySem.W.nsIn K mainGlobals "are_conditions" = some (some (.ref f_are_conditions)))
    {oc_are_conditions kV_are_conditions dc_are_conditions pm_are_conditions cd_are_conditions ct_are_conditions : Value}
    {od_are_conditions an_are_conditions : Option Addr}
    {sl_are_conditions : Array (Option Value)}
    (l_are_conditions : K.lookup f_are_conditions = some ⟨oc_are_conditions, od_are_conditions, .func (PySem.W.fnOf "are_conditions" "are_conditions" (defArgs s_are_conditions) (defBody s_are_conditions) (defScope s_are_conditions) .none kV_are_conditions dc_are_conditions pm_are_conditions an_are_conditions cd_are_conditions ct_are_conditions), sl_are_conditions⟩)
    (c_are_conditions : PySem.W.codeIn K cd_are_conditions "are_conditions" = true)
    (k_are_conditions : PySem.W.keepIn K (.ref f_are_conditions) = true)
    {f_need : Addr}
    (a_need : PySem.W.nsIn K mainGlobals "need" = some (some (.ref f_need)))
    {oc_need kV_need dc_need pm_need cd_need ct_need : Value}
    {od_need an_need : Option Addr}
    {sl_need : Array (Option Value)}
    (l_need : K.lookup f_need = some ⟨oc_need, od_need, .func (PySem.W.fnOf "need" "need" (defArgs s_need) (defBody s_need) (defScope s_need) .none kV_need dc_need pm_need an_need cd_need ct_need), sl_need⟩)
    (c_need : PySem.W.codeIn K cd_need "need" = true)
    (k_need : PySem.W.keepIn K (.ref f_need) = true)
    {oc_Kind_init__ kV_Kind_init__ dc_Kind_init__ pm_Kind_init__ cd_Kind_init__ ct_Kind_init__ : Value}
    {od_Kind_init__ an_Kind_init__ : Option Addr}
    {sl_Kind_init__ : Array (Option Value)}
    (l_Kind_init__ : K.lookup f_Kind_init__ = some ⟨oc_Kind_init__, od_Kind_init__, .func (PySem.W.fnOf "__init__" "Kind.__init__" (defArgs s_Kind_init__) (defBody s_Kind_init__) (defScope s_Kind_init__) .none kV_Kind_init__ dc_Kind_init__ pm_Kind_init__ an_Kind_init__ cd_Kind_init__ ct_Kind_init__), sl_Kind_init__⟩)
    (c_Kind_init__ : PySem.W.codeIn K cd_Kind_init__ "Kind.__init__" = true)
    (k_Kind_init__ : PySem.W.keepIn K (.ref f_Kind_init__) = true)
    {oc_Kind_single kV_Kind_single dc_Kind_single pm_Kind_single cd_Kind_single ct_Kind_single : Value}
    {od_Kind_single an_Kind_single : Option Addr}
    {sl_Kind_single : Array (Option Value)}
    (l_Kind_single : K.lookup f_Kind_single = some ⟨oc_Kind_single, od_Kind_single, .func (PySem.W.fnOf "single" "Kind.single" (defArgs s_Kind_single) (defBody s_Kind_single) (defScope s_Kind_single) .none kV_Kind_single dc_Kind_single pm_Kind_single an_Kind_single cd_Kind_single ct_Kind_single), sl_Kind_single⟩)
    (c_Kind_single : PySem.W.codeIn K cd_Kind_single "Kind.single" = true)
    (k_Kind_single : PySem.W.keepIn K (.ref f_Kind_single) = true)
    {oc_Kind_may_set kV_Kind_may_set dc_Kind_may_set pm_Kind_may_set cd_Kind_may_set ct_Kind_may_set : Value}
    {od_Kind_may_set an_Kind_may_set : Option Addr}
    {sl_Kind_may_set : Array (Option Value)}
    (l_Kind_may_set : K.lookup f_Kind_may_set = some ⟨oc_Kind_may_set, od_Kind_may_set, .func (PySem.W.fnOf "may_set" "Kind.may_set" (defArgs s_Kind_may_set) (defBody s_Kind_may_set) (defScope s_Kind_may_set) .none kV_Kind_may_set dc_Kind_may_set pm_Kind_may_set an_Kind_may_set cd_Kind_may_set ct_Kind_may_set), sl_Kind_may_set⟩)
    (c_Kind_may_set : PySem.W.codeIn K cd_Kind_may_set "Kind.may_set" = true)
    (k_Kind_may_set : PySem.W.keepIn K (.ref f_Kind_may_set) = true)
    {oc_AnyOf_may_set kV_AnyOf_may_set dc_AnyOf_may_set pm_AnyOf_may_set cd_AnyOf_may_set ct_AnyOf_may_set : Value}
    {od_AnyOf_may_set an_AnyOf_may_set : Option Addr}
    {sl_AnyOf_may_set : Array (Option Value)}
    {cc_AnyOf_may_set : Addr}
    (l_AnyOf_may_set : K.lookup f_AnyOf_may_set = some ⟨oc_AnyOf_may_set, od_AnyOf_may_set, .func (PySem.W.ksFn "may_set" "AnyOf.may_set" (defArgs s_AnyOf_may_set) (defBody s_AnyOf_may_set) (defScope s_AnyOf_may_set) .none kV_AnyOf_may_set dc_AnyOf_may_set pm_AnyOf_may_set an_AnyOf_may_set cd_AnyOf_may_set ct_AnyOf_may_set cc_AnyOf_may_set), sl_AnyOf_may_set⟩)
    (c_AnyOf_may_set : PySem.W.codeIn K cd_AnyOf_may_set "AnyOf.may_set" = true)
    (k_AnyOf_may_set : PySem.W.keepIn K (.ref f_AnyOf_may_set) = true)
    (q_su_AnyOf_may_set : SuF K PROG f_AnyOf_may_set cc_AnyOf_may_set C_AnyOf cd_AnyOf_may_set "self")
    {oc_AnyOf_single kV_AnyOf_single dc_AnyOf_single pm_AnyOf_single cd_AnyOf_single ct_AnyOf_single : Value}
    {od_AnyOf_single an_AnyOf_single : Option Addr}
    {sl_AnyOf_single : Array (Option Value)}
    {cc_AnyOf_single : Addr}
    (l_AnyOf_single : K.lookup f_AnyOf_single = some ⟨oc_AnyOf_single, od_AnyOf_single, .func (PySem.W.ksFn "single" "AnyOf.single" (defArgs s_AnyOf_single) (defBody s_AnyOf_single) (defScope s_AnyOf_single) .none kV_AnyOf_single dc_AnyOf_single pm_AnyOf_single an_AnyOf_single cd_AnyOf_single ct_AnyOf_single cc_AnyOf_single), sl_AnyOf_single⟩)
    (c_AnyOf_single : PySem.W.codeIn K cd_AnyOf_single "AnyOf.single" = true)
    (k_AnyOf_single : PySem.W.keepIn K (.ref f_AnyOf_single) = true)
    (q_su_AnyOf_single : SuF K PROG f_AnyOf_single cc_AnyOf_single C_AnyOf cd_AnyOf_single "self")
    {oc_Masks_may_set kV_Masks_may_set dc_Masks_may_set pm_Masks_may_set cd_Masks_may_set ct_Masks_may_set : Value}
    {od_Masks_may_set an_Masks_may_set : Option Addr}
    {sl_Masks_may_set : Array (Option Value)}
    {cc_Masks_may_set : Addr}
    (l_Masks_may_set : K.lookup f_Masks_may_set = some ⟨oc_Masks_may_set, od_Masks_may_set, .func (PySem.W.ksFn "may_set" "Masks.may_set" (defArgs s_Masks_may_set) (defBody s_Masks_may_set) (defScope s_Masks_may_set) .none kV_Masks_may_set dc_Masks_may_set pm_Masks_may_set an_Masks_may_set cd_Masks_may_set ct_Masks_may_set cc_Masks_may_set), sl_Masks_may_set⟩)
    (c_Masks_may_set : PySem.W.codeIn K cd_Masks_may_set "Masks.may_set" = true)
    (k_Masks_may_set : PySem.W.keepIn K (.ref f_Masks_may_set) = true)
    (q_su_Masks_may_set : SuF K PROG f_Masks_may_set cc_Masks_may_set C_Masks cd_Masks_may_set "self")
    {oc_Masks_single kV_Masks_single dc_Masks_single pm_Masks_single cd_Masks_single ct_Masks_single : Value}
    {od_Masks_single an_Masks_single : Option Addr}
    {sl_Masks_single : Array (Option Value)}
    {cc_Masks_single : Addr}
    (l_Masks_single : K.lookup f_Masks_single = some ⟨oc_Masks_single, od_Masks_single, .func (PySem.W.ksFn "single" "Masks.single" (defArgs s_Masks_single) (defBody s_Masks_single) (defScope s_Masks_single) .none kV_Masks_single dc_Masks_single pm_Masks_single an_Masks_single cd_Masks_single ct_Masks_single cc_Masks_single), sl_Masks_single⟩)
    (c_Masks_single : PySem.W.codeIn K cd_Masks_single "Masks.single" = true)
    (k_Masks_single : PySem.W.keepIn K (.ref f_Masks_single) = true)
    (q_su_Masks_single : SuF K PROG f_Masks_single cc_Masks_single C_Masks cd_Masks_single "self")
    {oc_Window_may_set kV_Window_may_set dc_Window_may_set pm_Window_may_set cd_Window_may_set ct_Window_may_set : Value}
    {od_Window_may_set an_Window_may_set : Option Addr}
    {sl_Window_may_set : Array (Option Value)}
    {cc_Window_may_set : Addr}
    (l_Window_may_set : K.lookup f_Window_may_set = some ⟨oc_Window_may_set, od_Window_may_set, .func (PySem.W.ksFn "may_set" "Window.may_set" (defArgs s_Window_may_set) (defBody s_Window_may_set) (defScope s_Window_may_set) .none kV_Window_may_set dc_Window_may_set pm_Window_may_set an_Window_may_set cd_Window_may_set ct_Window_may_set cc_Window_may_set), sl_Window_may_set⟩)
    (c_Window_may_set : PySem.W.codeIn K cd_Window_may_set "Window.may_set" = true)
    (k_Window_may_set : PySem.W.keepIn K (.ref f_Window_may_set) = true)
    (q_su_Window_may_set : SuF K PROG f_Window_may_set cc_Window_may_set C_Window cd_Window_may_set "self")
    {oc_Test_may_set kV_Test_may_set dc_Test_may_set pm_Test_may_set cd_Test_may_set ct_Test_may_set : Value}
    {od_Test_may_set an_Test_may_set : Option Addr}
    {sl_Test_may_set : Array (Option Value)}
    {cc_Test_may_set : Addr}
    (l_Test_may_set : K.lookup f_Test_may_set = some ⟨oc_Test_may_set, od_Test_may_set, .func (PySem.W.ksFn "may_set" "Test.may_set" (defArgs s_Test_may_set) (defBody s_Test_may_set) (defScope s_Test_may_set) .none kV_Test_may_set dc_Test_may_set pm_Test_may_set an_Test_may_set cd_Test_may_set ct_Test_may_set cc_Test_may_set), sl_Test_may_set⟩)
    (c_Test_may_set : PySem.W.codeIn K cd_Test_may_set "Test.may_set" = true)
    (k_Test_may_set : PySem.W.keepIn K (.ref f_Test_may_set) = true)
    (q_su_Test_may_set : SuF K PROG f_Test_may_set cc_Test_may_set C_Test cd_Test_may_set "self")
    {oc_Window_single kV_Window_single dc_Window_single pm_Window_single cd_Window_single ct_Window_single : Value}
    {od_Window_single an_Window_single : Option Addr}
    {sl_Window_single : Array (Option Value)}
    {cc_Window_single : Addr}
    (l_Window_single : K.lookup f_Window_single = some ⟨oc_Window_single, od_Window_single, .func (PySem.W.ksFn "single" "Window.single" (defArgs s_Window_single) (defBody s_Window_single) (defScope s_Window_single) .none kV_Window_single dc_Window_single pm_Window_single an_Window_single cd_Window_single ct_Window_single cc_Window_single), sl_Window_single⟩)
    (c_Window_single : PySem.W.codeIn K cd_Window_single "Window.single" = true)
    (k_Window_single : PySem.W.keepIn K (.ref f_Window_single) = true)
    (q_su_Window_single : SuF K PROG f_Window_single cc_Window_single C_Window cd_Window_single "self")
    {oc_Test_single kV_Test_single dc_Test_single pm_Test_single cd_Test_single ct_Test_single : Value}
    {od_Test_single an_Test_single : Option Addr}
    {sl_Test_single : Array (Option Value)}
    {cc_Test_single : Addr}
    (l_Test_single : K.lookup f_Test_single = some ⟨oc_Test_single, od_Test_single, .func (PySem.W.ksFn "single" "Test.single" (defArgs s_Test_single) (defBody s_Test_single) (defScope s_Test_single) .none kV_Test_single dc_Test_single pm_Test_single an_Test_single cd_Test_single ct_Test_single cc_Test_single), sl_Test_single⟩)
    (c_Test_single : PySem.W.codeIn K cd_Test_single "Test.single" = true)
    (k_Test_single : PySem.W.keepIn K (.ref f_Test_single) = true)
    (q_su_Test_single : SuF K PROG f_Test_single cc_Test_single C_Test cd_Test_single "self")
    {oc_Kind_masks kV_Kind_masks dc_Kind_masks pm_Kind_masks cd_Kind_masks ct_Kind_masks : Value}
    {od_Kind_masks an_Kind_masks : Option Addr}
    {sl_Kind_masks : Array (Option Value)}
    (l_Kind_masks : K.lookup f_Kind_masks = some ⟨oc_Kind_masks, od_Kind_masks, .func (PySem.W.fnOf "masks" "Kind.masks" (defArgs s_Kind_masks) (defBody s_Kind_masks) (defScope s_Kind_masks) .none kV_Kind_masks dc_Kind_masks pm_Kind_masks an_Kind_masks cd_Kind_masks ct_Kind_masks), sl_Kind_masks⟩)
    (c_Kind_masks : PySem.W.codeIn K cd_Kind_masks "Kind.masks" = true)
    (k_Kind_masks : PySem.W.keepIn K (.ref f_Kind_masks) = true)
    {oc_Kind_eq__ kV_Kind_eq__ dc_Kind_eq__ pm_Kind_eq__ cd_Kind_eq__ ct_Kind_eq__ : Value}
    {od_Kind_eq__ an_Kind_eq__ : Option Addr}
    {sl_Kind_eq__ : Array (Option Value)}
    (l_Kind_eq__ : K.lookup f_Kind_eq__ = some ⟨oc_Kind_eq__, od_Kind_eq__, .func (PySem.W.fnOf "__eq__" "Kind.__eq__" (defArgs s_Kind_eq__) (defBody s_Kind_eq__) (defScope s_Kind_eq__) .none kV_Kind_eq__ dc_Kind_eq__ pm_Kind_eq__ an_Kind_eq__ cd_Kind_eq__ ct_Kind_eq__), sl_Kind_eq__⟩)
    (c_Kind_eq__ : PySem.W.codeIn K cd_Kind_eq__ "Kind.__eq__" = true)
    (k_Kind_eq__ : PySem.W.keepIn K (.ref f_Kind_eq__) = true)
    {oc_Window_init__ kV_Window_init__ dc_Window_init__ pm_Window_init__ cd_Window_init__ ct_Window_init__ : Value}
    {od_Window_init__ an_Window_init__ : Option Addr}
    {sl_Window_init__ : Array (Option Value)}
    {cc_Window_init__ : Addr}
    (l_Window_init__ : K.lookup f_Window_init__ = some ⟨oc_Window_init__, od_Window_init__, .func (PySem.W.ksFn "__init__" "Window.__init__" (defArgs s_Window_init__) (defBody s_Window_init__) (defScope s_Window_init__) .none kV_Window_init__ dc_Window_init__ pm_Window_init__ an_Window_init__ cd_Window_init__ ct_Window_init__ cc_Window_init__), sl_Window_init__⟩)
    (c_Window_init__ : PySem.W.codeIn K cd_Window_init__ "Window.__init__" = true)
    (k_Window_init__ : PySem.W.keepIn K (.ref f_Window_init__) = true)
    (q_su_Window_init__ : SuF K PROG f_Window_init__ cc_Window_init__ C_Window cd_Window_init__ "self")
    {oc_Test_init__ kV_Test_init__ dc_Test_init__ pm_Test_init__ cd_Test_init__ ct_Test_init__ : Value}
    {od_Test_init__ an_Test_init__ : Option Addr}
    {sl_Test_init__ : Array (Option Value)}
    {cc_Test_init__ : Addr}
    (l_Test_init__ : K.lookup f_Test_init__ = some ⟨oc_Test_init__, od_Test_init__, .func (PySem.W.ksFn "__init__" "Test.__init__" (defArgs s_Test_init__) (defBody s_Test_init__) (defScope s_Test_init__) .none kV_Test_init__ dc_Test_init__ pm_Test_init__ an_Test_init__ cd_Test_init__ ct_Test_init__ cc_Test_init__), sl_Test_init__⟩)
    (c_Test_init__ : PySem.W.codeIn K cd_Test_init__ "Test.__init__" = true)
    (k_Test_init__ : PySem.W.keepIn K (.ref f_Test_init__) = true)
    (q_su_Test_init__ : SuF K PROG f_Test_init__ cc_Test_init__ C_Test cd_Test_init__ "self")
    {oc_Window_of kV_Window_of dc_Window_of pm_Window_of cd_Window_of ct_Window_of : Value}
    {od_Window_of an_Window_of : Option Addr}
    {sl_Window_of : Array (Option Value)}
    (l_Window_of : K.lookup f_Window_of = some ⟨oc_Window_of, od_Window_of, .func (PySem.W.fnOf "of" "Window.of" (defArgs s_Window_of) (defBody s_Window_of) (defScope s_Window_of) .none kV_Window_of dc_Window_of pm_Window_of an_Window_of cd_Window_of ct_Window_of), sl_Window_of⟩)
    (c_Window_of : PySem.W.codeIn K cd_Window_of "Window.of" = true)
    (k_Window_of : PySem.W.keepIn K (.ref f_Window_of) = true)
    {oc_AnyOf_init__ kV_AnyOf_init__ dc_AnyOf_init__ pm_AnyOf_init__ cd_AnyOf_init__ ct_AnyOf_init__ : Value}
    {od_AnyOf_init__ an_AnyOf_init__ : Option Addr}
    {sl_AnyOf_init__ : Array (Option Value)}
    {cc_AnyOf_init__ : Addr}
    (l_AnyOf_init__ : K.lookup f_AnyOf_init__ = some ⟨oc_AnyOf_init__, od_AnyOf_init__, .func (PySem.W.ksFn "__init__" "AnyOf.__init__" (defArgs s_AnyOf_init__) (defBody s_AnyOf_init__) (defScope s_AnyOf_init__) .none kV_AnyOf_init__ dc_AnyOf_init__ pm_AnyOf_init__ an_AnyOf_init__ cd_AnyOf_init__ ct_AnyOf_init__ cc_AnyOf_init__), sl_AnyOf_init__⟩)
    (c_AnyOf_init__ : PySem.W.codeIn K cd_AnyOf_init__ "AnyOf.__init__" = true)
    (k_AnyOf_init__ : PySem.W.keepIn K (.ref f_AnyOf_init__) = true)
    (q_su_AnyOf_init__ : SuF K PROG f_AnyOf_init__ cc_AnyOf_init__ C_AnyOf cd_AnyOf_init__ "self")
    {oc_AnyOf_of kV_AnyOf_of dc_AnyOf_of pm_AnyOf_of cd_AnyOf_of ct_AnyOf_of : Value}
    {od_AnyOf_of an_AnyOf_of : Option Addr}
    {sl_AnyOf_of : Array (Option Value)}
    (l_AnyOf_of : K.lookup f_AnyOf_of = some ⟨oc_AnyOf_of, od_AnyOf_of, .func (PySem.W.fnOf "of" "AnyOf.of" (defArgs s_AnyOf_of) (defBody s_AnyOf_of) (defScope s_AnyOf_of) .none kV_AnyOf_of dc_AnyOf_of pm_AnyOf_of an_AnyOf_of cd_AnyOf_of ct_AnyOf_of), sl_AnyOf_of⟩)
    (c_AnyOf_of : PySem.W.codeIn K cd_AnyOf_of "AnyOf.of" = true)
    (k_AnyOf_of : PySem.W.keepIn K (.ref f_AnyOf_of) = true)
    {oc_TestWindow_init__ kV_TestWindow_init__ dc_TestWindow_init__ pm_TestWindow_init__ cd_TestWindow_init__ ct_TestWindow_init__ : Value}
    {od_TestWindow_init__ an_TestWindow_init__ : Option Addr}
    {sl_TestWindow_init__ : Array (Option Value)}
    {cc_TestWindow_init__ : Addr}
    (l_TestWindow_init__ : K.lookup f_TestWindow_init__ = some ⟨oc_TestWindow_init__, od_TestWindow_init__, .func (PySem.W.ksFn "__init__" "TestWindow.__init__" (defArgs s_TestWindow_init__) (defBody s_TestWindow_init__) (defScope s_TestWindow_init__) .none kV_TestWindow_init__ dc_TestWindow_init__ pm_TestWindow_init__ an_TestWindow_init__ cd_TestWindow_init__ ct_TestWindow_init__ cc_TestWindow_init__), sl_TestWindow_init__⟩)
    (c_TestWindow_init__ : PySem.W.codeIn K cd_TestWindow_init__ "TestWindow.__init__" = true)
    (k_TestWindow_init__ : PySem.W.keepIn K (.ref f_TestWindow_init__) = true)
    (q_su_TestWindow_init__ : SuF K PROG f_TestWindow_init__ cc_TestWindow_init__ C_TestWindow cd_TestWindow_init__ "self")
    {oc_Masks_init__ kV_Masks_init__ dc_Masks_init__ pm_Masks_init__ cd_Masks_init__ ct_Masks_init__ : Value}
    {od_Masks_init__ an_Masks_init__ : Option Addr}
    {sl_Masks_init__ : Array (Option Value)}
    {cc_Masks_init__ : Addr}
    (l_Masks_init__ : K.lookup f_Masks_init__ = some ⟨oc_Masks_init__, od_Masks_init__, .func (PySem.W.ksFn "__init__" "Masks.__init__" (defArgs s_Masks_init__) (defBody s_Masks_init__) (defScope s_Masks_init__) .none kV_Masks_init__ dc_Masks_init__ pm_Masks_init__ an_Masks_init__ cd_Masks_init__ ct_Masks_init__ cc_Masks_init__), sl_Masks_init__⟩)
    (c_Masks_init__ : PySem.W.codeIn K cd_Masks_init__ "Masks.__init__" = true)
    (k_Masks_init__ : PySem.W.keepIn K (.ref f_Masks_init__) = true)
    (q_su_Masks_init__ : SuF K PROG f_Masks_init__ cc_Masks_init__ C_Masks cd_Masks_init__ "self")
    {f_law_pen : Addr}
    (a_law_pen : PySem.W.nsIn K mainGlobals "_law_pen" = some (some (.ref f_law_pen)))
    {oc_law_pen kV_law_pen dc_law_pen pm_law_pen cd_law_pen ct_law_pen : Value}
    {od_law_pen an_law_pen : Option Addr}
    {sl_law_pen : Array (Option Value)}
    (l_law_pen : K.lookup f_law_pen = some ⟨oc_law_pen, od_law_pen, .func (PySem.W.fnOf "_law_pen" "_law_pen" (defArgs s_law_pen) (defBody s_law_pen) (defScope s_law_pen) .none kV_law_pen dc_law_pen pm_law_pen an_law_pen cd_law_pen ct_law_pen), sl_law_pen⟩)
    (c_law_pen : PySem.W.codeIn K cd_law_pen "_law_pen" = true)
    (k_law_pen : PySem.W.keepIn K (.ref f_law_pen) = true)
    {f_law_draw : Addr}
    (a_law_draw : PySem.W.nsIn K mainGlobals "_law_draw" = some (some (.ref f_law_draw)))
    {oc_law_draw kV_law_draw dc_law_draw pm_law_draw cd_law_draw ct_law_draw : Value}
    {od_law_draw an_law_draw : Option Addr}
    {sl_law_draw : Array (Option Value)}
    (l_law_draw : K.lookup f_law_draw = some ⟨oc_law_draw, od_law_draw, .func (PySem.W.fnOf "_law_draw" "_law_draw" (defArgs s_law_draw) (defBody s_law_draw) (defScope s_law_draw) .none kV_law_draw dc_law_draw pm_law_draw an_law_draw cd_law_draw ct_law_draw), sl_law_draw⟩)
    (c_law_draw : PySem.W.codeIn K cd_law_draw "_law_draw" = true)
    (k_law_draw : PySem.W.keepIn K (.ref f_law_draw) = true)
    {f_law_pick : Addr}
    (a_law_pick : PySem.W.nsIn K mainGlobals "_law_pick" = some (some (.ref f_law_pick)))
    {oc_law_pick kV_law_pick dc_law_pick pm_law_pick cd_law_pick ct_law_pick : Value}
    {od_law_pick an_law_pick : Option Addr}
    {sl_law_pick : Array (Option Value)}
    (l_law_pick : K.lookup f_law_pick = some ⟨oc_law_pick, od_law_pick, .func (PySem.W.fnOf "_law_pick" "_law_pick" (defArgs s_law_pick) (defBody s_law_pick) (defScope s_law_pick) .none kV_law_pick dc_law_pick pm_law_pick an_law_pick cd_law_pick ct_law_pick), sl_law_pick⟩)
    (c_law_pick : PySem.W.codeIn K cd_law_pick "_law_pick" = true)
    (k_law_pick : PySem.W.keepIn K (.ref f_law_pick) = true)
    {f_law_mixed : Addr}
    (a_law_mixed : PySem.W.nsIn K mainGlobals "_law_mixed" = some (some (.ref f_law_mixed)))
    {oc_law_mixed kV_law_mixed dc_law_mixed pm_law_mixed cd_law_mixed ct_law_mixed : Value}
    {od_law_mixed an_law_mixed : Option Addr}
    {sl_law_mixed : Array (Option Value)}
    (l_law_mixed : K.lookup f_law_mixed = some ⟨oc_law_mixed, od_law_mixed, .func (PySem.W.fnOf "_law_mixed" "_law_mixed" (defArgs s_law_mixed) (defBody s_law_mixed) (defScope s_law_mixed) .none kV_law_mixed dc_law_mixed pm_law_mixed an_law_mixed cd_law_mixed ct_law_mixed), sl_law_mixed⟩)
    (c_law_mixed : PySem.W.codeIn K cd_law_mixed "_law_mixed" = true)
    (k_law_mixed : PySem.W.keepIn K (.ref f_law_mixed) = true)
    {f_law_names : Addr}
    (a_law_names : PySem.W.nsIn K mainGlobals "_law_names" = some (some (.ref f_law_names)))
    {oc_law_names kV_law_names dc_law_names pm_law_names cd_law_names ct_law_names : Value}
    {od_law_names an_law_names : Option Addr}
    {sl_law_names : Array (Option Value)}
    (l_law_names : K.lookup f_law_names = some ⟨oc_law_names, od_law_names, .func (PySem.W.fnOf "_law_names" "_law_names" (defArgs s_law_names) (defBody s_law_names) (defScope s_law_names) .none kV_law_names dc_law_names pm_law_names an_law_names cd_law_names ct_law_names), sl_law_names⟩)
    (c_law_names : PySem.W.codeIn K cd_law_names "_law_names" = true)
    (k_law_names : PySem.W.keepIn K (.ref f_law_names) = true)
    {f_law_kind : Addr}
    (a_law_kind : PySem.W.nsIn K mainGlobals "_law_kind" = some (some (.ref f_law_kind)))
    {oc_law_kind kV_law_kind dc_law_kind pm_law_kind cd_law_kind ct_law_kind : Value}
    {od_law_kind an_law_kind : Option Addr}
    {sl_law_kind : Array (Option Value)}
    (l_law_kind : K.lookup f_law_kind = some ⟨oc_law_kind, od_law_kind, .func (PySem.W.fnOf "_law_kind" "_law_kind" (defArgs s_law_kind) (defBody s_law_kind) (defScope s_law_kind) .none kV_law_kind dc_law_kind pm_law_kind an_law_kind cd_law_kind ct_law_kind), sl_law_kind⟩)
    (c_law_kind : PySem.W.codeIn K cd_law_kind "_law_kind" = true)
    (k_law_kind : PySem.W.keepIn K (.ref f_law_kind) = true)
    {f_law_both : Addr}
    (a_law_both : PySem.W.nsIn K mainGlobals "_law_both" = some (some (.ref f_law_both)))
    {oc_law_both kV_law_both dc_law_both pm_law_both cd_law_both ct_law_both : Value}
    {od_law_both an_law_both : Option Addr}
    {sl_law_both : Array (Option Value)}
    (l_law_both : K.lookup f_law_both = some ⟨oc_law_both, od_law_both, .func (PySem.W.fnOf "_law_both" "_law_both" (defArgs s_law_both) (defBody s_law_both) (defScope s_law_both) .none kV_law_both dc_law_both pm_law_both an_law_both cd_law_both ct_law_both), sl_law_both⟩)
    (c_law_both : PySem.W.codeIn K cd_law_both "_law_both" = true)
    (k_law_both : PySem.W.keepIn K (.ref f_law_both) = true)
    {f_law_made : Addr}
    (a_law_made : PySem.W.nsIn K mainGlobals "_law_made" = some (some (.ref f_law_made)))
    {oc_law_made kV_law_made dc_law_made pm_law_made cd_law_made ct_law_made : Value}
    {od_law_made an_law_made : Option Addr}
    {sl_law_made : Array (Option Value)}
    (l_law_made : K.lookup f_law_made = some ⟨oc_law_made, od_law_made, .func (PySem.W.fnOf "_law_made" "_law_made" (defArgs s_law_made) (defBody s_law_made) (defScope s_law_made) .none kV_law_made dc_law_made pm_law_made an_law_made cd_law_made ct_law_made), sl_law_made⟩)
    (c_law_made : PySem.W.codeIn K cd_law_made "_law_made" = true)
    (k_law_made : PySem.W.keepIn K (.ref f_law_made) = true)
    {f_law_full : Addr}
    (a_law_full : PySem.W.nsIn K mainGlobals "_law_full" = some (some (.ref f_law_full)))
    {oc_law_full kV_law_full dc_law_full pm_law_full cd_law_full ct_law_full : Value}
    {od_law_full an_law_full : Option Addr}
    {sl_law_full : Array (Option Value)}
    (l_law_full : K.lookup f_law_full = some ⟨oc_law_full, od_law_full, .func (PySem.W.fnOf "_law_full" "_law_full" (defArgs s_law_full) (defBody s_law_full) (defScope s_law_full) .none kV_law_full dc_law_full pm_law_full an_law_full cd_law_full ct_law_full), sl_law_full⟩)
    (c_law_full : PySem.W.codeIn K cd_law_full "_law_full" = true)
    (k_law_full : PySem.W.keepIn K (.ref f_law_full) = true)
    {f_law_alike : Addr}
    (a_law_alike : PySem.W.nsIn K mainGlobals "_law_alike" = some (some (.ref f_law_alike)))
    {oc_law_alike kV_law_alike dc_law_alike pm_law_alike cd_law_alike ct_law_alike : Value}
    {od_law_alike an_law_alike : Option Addr}
    {sl_law_alike : Array (Option Value)}
    (l_law_alike : K.lookup f_law_alike = some ⟨oc_law_alike, od_law_alike, .func (PySem.W.fnOf "_law_alike" "_law_alike" (defArgs s_law_alike) (defBody s_law_alike) (defScope s_law_alike) .none kV_law_alike dc_law_alike pm_law_alike an_law_alike cd_law_alike ct_law_alike), sl_law_alike⟩)
    (c_law_alike : PySem.W.codeIn K cd_law_alike "_law_alike" = true)
    (k_law_alike : PySem.W.keepIn K (.ref f_law_alike) = true)
    {f_law_is_alone : Addr}
    (a_law_is_alone : PySem.W.nsIn K mainGlobals "_law_is_alone" = some (some (.ref f_law_is_alone)))
    {oc_law_is_alone kV_law_is_alone dc_law_is_alone pm_law_is_alone cd_law_is_alone ct_law_is_alone : Value}
    {od_law_is_alone an_law_is_alone : Option Addr}
    {sl_law_is_alone : Array (Option Value)}
    (l_law_is_alone : K.lookup f_law_is_alone = some ⟨oc_law_is_alone, od_law_is_alone, .func (PySem.W.fnOf "_law_is_alone" "_law_is_alone" (defArgs s_law_is_alone) (defBody s_law_is_alone) (defScope s_law_is_alone) .none kV_law_is_alone dc_law_is_alone pm_law_is_alone an_law_is_alone cd_law_is_alone ct_law_is_alone), sl_law_is_alone⟩)
    (c_law_is_alone : PySem.W.codeIn K cd_law_is_alone "_law_is_alone" = true)
    (k_law_is_alone : PySem.W.keepIn K (.ref f_law_is_alone) = true)
    {f_law_is_kind : Addr}
    (a_law_is_kind : PySem.W.nsIn K mainGlobals "_law_is_kind" = some (some (.ref f_law_is_kind)))
    {oc_law_is_kind kV_law_is_kind dc_law_is_kind pm_law_is_kind cd_law_is_kind ct_law_is_kind : Value}
    {od_law_is_kind an_law_is_kind : Option Addr}
    {sl_law_is_kind : Array (Option Value)}
    (l_law_is_kind : K.lookup f_law_is_kind = some ⟨oc_law_is_kind, od_law_is_kind, .func (PySem.W.fnOf "_law_is_kind" "_law_is_kind" (defArgs s_law_is_kind) (defBody s_law_is_kind) (defScope s_law_is_kind) .none kV_law_is_kind dc_law_is_kind pm_law_is_kind an_law_is_kind cd_law_is_kind ct_law_is_kind), sl_law_is_kind⟩)
    (c_law_is_kind : PySem.W.codeIn K cd_law_is_kind "_law_is_kind" = true)
    (k_law_is_kind : PySem.W.keepIn K (.ref f_law_is_kind) = true)
    {f_law : Addr}
    (a_law : PySem.W.nsIn K mainGlobals "law" = some (some (.ref f_law)))
    {oc_law kV_law dc_law pm_law cd_law ct_law : Value}
    {od_law an_law : Option Addr}
    {sl_law : Array (Option Value)}
    (l_law : K.lookup f_law = some ⟨oc_law, od_law, .func (PySem.W.fnOf "law" "law" (defArgs s_law) (defBody s_law) (defScope s_law) .none kV_law dc_law pm_law an_law cd_law ct_law), sl_law⟩)
    (c_law : PySem.W.codeIn K cd_law "law" = true)
    (k_law : PySem.W.keepIn K (.ref f_law) = true)
    {t_DIGITS : Tok}
    (g_DIGITS : PySem.W.nsIn K mainGlobals "DIGITS" = some (some (.str "0123456789" t_DIGITS)))
    {t_LETTERS : Tok}
    (g_LETTERS : PySem.W.nsIn K mainGlobals "LETTERS" = some (some (.str "abcdefghijklmnopqrstuvwxyz" t_LETTERS)))
    {t_LONGEST : Tok}
    (g_LONGEST : PySem.W.nsIn K mainGlobals "LONGEST" = some (some (.int 8 t_LONGEST)))
    {t_MOST_BIT : Tok}
    (g_MOST_BIT : PySem.W.nsIn K mainGlobals "MOST_BIT" = some (some (.int 7 t_MOST_BIT)))
    {t_MOST_CONDITIONS : Tok}
    (g_MOST_CONDITIONS : PySem.W.nsIn K mainGlobals "MOST_CONDITIONS" = some (some (.int 5 t_MOST_CONDITIONS)))
    {t_MOST_MASK : Tok}
    (g_MOST_MASK : PySem.W.nsIn K mainGlobals "MOST_MASK" = some (some (.int 255 t_MOST_MASK)))
    {a_RESERVED : Addr}
    {t_RESERVED_0 t_RESERVED_1 t_RESERVED_2 t_RESERVED_3 t_RESERVED_4 : Tok}
    {od_RESERVED : Option Addr}
    {n_RESERVED : Nat}
    {sl_RESERVED : Array (Option Value)}
    (g_RESERVED : PySem.W.nsIn K mainGlobals "RESERVED" = some (some (.ref a_RESERVED)))
    (k_RESERVED : K.lookup a_RESERVED = some ⟨.type "tuple", od_RESERVED, .seq #[(.str "to" t_RESERVED_0), (.str "if" t_RESERVED_1), (.str "tag" t_RESERVED_2), (.str "all" t_RESERVED_3), (.str "none" t_RESERVED_4)] n_RESERVED, sl_RESERVED⟩)
    (z_abs : PySem.W.nsIn K mainGlobals "abs" = some none)
    (z_all : PySem.W.nsIn K mainGlobals "all" = some none)
    (z_bool : PySem.W.nsIn K mainGlobals "bool" = some none)
    (z_dict : PySem.W.nsIn K mainGlobals "dict" = some none)
    (z_enumerate : PySem.W.nsIn K mainGlobals "enumerate" = some none)
    (z_int : PySem.W.nsIn K mainGlobals "int" = some none)
    (z_isinstance : PySem.W.nsIn K mainGlobals "isinstance" = some none)
    (z_len : PySem.W.nsIn K mainGlobals "len" = some none)
    (z_list : PySem.W.nsIn K mainGlobals "list" = some none)
    (z_min : PySem.W.nsIn K mainGlobals "min" = some none)
    (z_range : PySem.W.nsIn K mainGlobals "range" = some none)
    (z_repr : PySem.W.nsIn K mainGlobals "repr" = some none)
    (z_set : PySem.W.nsIn K mainGlobals "set" = some none)
    (z_sorted : PySem.W.nsIn K mainGlobals "sorted" = some none)
    (z_str : PySem.W.nsIn K mainGlobals "str" = some none)
    (z_super : PySem.W.nsIn K mainGlobals "super" = some none)
    (z_tuple : PySem.W.nsIn K mainGlobals "tuple" = some none)
    : ∃ fd : FuncData, (∀ (s : Shared) (v : Value), BindsTo s fd ⟨[v], []⟩ [("_law_script", v)]) ∧ ∀ base : Heap, K.In base → base.Ns mainGlobals mg → FnG l.prog w K mg base (L2.CX l.prog w) 16 fa fd p_law (toSp K sp_law) := by
  have e := hfa.symm.trans (PySem.W.mg_of X G a_law)
  cases e
  exact ⟨_, fun s v => .of_eq rfl, fun base _ _ => ok_law { m_AnyOf := PySem.W.mg_of X G q_AnyOf_at, at_AnyOf := q_AnyOf_at, m_Kind := PySem.W.mg_of X G q_Kind_at, at_Kind := q_Kind_at, m_Masks := PySem.W.mg_of X G q_Masks_at, at_Masks := q_Masks_at, m_Test := PySem.W.mg_of X G q_Test_at, at_Test := q_Test_at, m_TestWindow := PySem.W.mg_of X G q_TestWindow_at, at_TestWindow := q_TestWindow_at, m_Window := PySem.W.mg_of X G q_Window_at, at_Window := q_Window_at, cl_AnyOf := ⟨q_AnyOf_pg, q_AnyOf_hd, q_AnyOf_po, q_AnyOf_sa⟩, cl_Kind := ⟨q_Kind_pg, q_Kind_hd, q_Kind_po, q_Kind_sa⟩, cl_Masks := ⟨q_Masks_pg, q_Masks_hd, q_Masks_po, q_Masks_sa⟩, cl_Test := ⟨q_Test_pg, q_Test_hd, q_Test_po, q_Test_sa⟩, cl_TestWindow := ⟨q_TestWindow_pg, q_TestWindow_hd, q_TestWindow_po, q_TestWindow_sa⟩, cl_Window := ⟨q_Window_pg, q_Window_hd, q_Window_po, q_Window_sa⟩, inf_AnyOf := ⟨⟨q_AnyOf_pg, q_AnyOf_hd, q_AnyOf_po, q_AnyOf_sa⟩, q_AnyOf_inf_ha, q_AnyOf_inf_hn, q_AnyOf_inf_tk, q_AnyOf_inf_hm⟩, inf_Kind := ⟨⟨q_Kind_pg, q_Kind_hd, q_Kind_po, q_Kind_sa⟩, q_Kind_inf_ha, q_Kind_inf_hn, q_Kind_inf_tk, q_Kind_inf_hm⟩, inf_Masks := ⟨⟨q_Masks_pg, q_Masks_hd, q_Masks_po, q_Masks_sa⟩, q_Masks_inf_ha, q_Masks_inf_hn, q_Masks_inf_tk, q_Masks_inf_hm⟩, inf_Test := ⟨⟨q_Test_pg, q_Test_hd, q_Test_po, q_Test_sa⟩, q_Test_inf_ha, q_Test_inf_hn, q_Test_inf_tk, q_Test_inf_hm⟩, inf_TestWindow := ⟨⟨q_TestWindow_pg, q_TestWindow_hd, q_TestWindow_po, q_TestWindow_sa⟩, q_TestWindow_inf_ha, q_TestWindow_inf_hn, q_TestWindow_inf_tk, q_TestWindow_inf_hm⟩, inf_Window := ⟨⟨q_Window_pg, q_Window_hd, q_Window_po, q_Window_sa⟩, q_Window_inf_ha, q_Window_inf_hn, q_Window_inf_tk, q_Window_inf_hm⟩, isc_AnyOf := q_isc_AnyOf, isc_Kind := q_isc_Kind, isc_Masks := q_isc_Masks, isc_Test := q_isc_Test, isc_TestWindow := q_isc_TestWindow, isc_Window := q_isc_Window, kitC_AnyOf_AnyOf := q_kitC_AnyOf_AnyOf, kitC_AnyOf_Kind := q_kitC_AnyOf_Kind, kitC_AnyOf_Masks := q_kitC_AnyOf_Masks, kitC_AnyOf_Test := q_kitC_AnyOf_Test, kitC_AnyOf_TestWindow := q_kitC_AnyOf_TestWindow, kitC_AnyOf_Window := q_kitC_AnyOf_Window, kitC_Kind_AnyOf := q_kitC_Kind_AnyOf, kitC_Kind_Kind := q_kitC_Kind_Kind, kitC_Kind_Masks := q_kitC_Kind_Masks, kitC_Kind_Test := q_kitC_Kind_Test, kitC_Kind_TestWindow := q_kitC_Kind_TestWindow, kitC_Kind_Window := q_kitC_Kind_Window, kitC_Masks_AnyOf := q_kitC_Masks_AnyOf, kitC_Masks_Kind := q_kitC_Masks_Kind, kitC_Masks_Masks := q_kitC_Masks_Masks, kitC_Masks_Test := q_kitC_Masks_Test, kitC_Masks_TestWindow := q_kitC_Masks_TestWindow, kitC_Masks_Window := q_kitC_Masks_Window, kitC_Test_AnyOf := q_kitC_Test_AnyOf, kitC_Test_Kind := q_kitC_Test_Kind, kitC_Test_Masks := q_kitC_Test_Masks, kitC_Test_Test := q_kitC_Test_Test, kitC_Test_TestWindow := q_kitC_Test_TestWindow, kitC_Test_Window := q_kitC_Test_Window, kitC_TestWindow_AnyOf := q_kitC_TestWindow_AnyOf, kitC_TestWindow_Kind := q_kitC_TestWindow_Kind, kitC_TestWindow_Masks := q_kitC_TestWindow_Masks, kitC_TestWindow_Test := q_kitC_TestWindow_Test, kitC_TestWindow_TestWindow := q_kitC_TestWindow_TestWindow, kitC_TestWindow_Window := q_kitC_TestWindow_Window, kitC_Window_AnyOf := q_kitC_Window_AnyOf, kitC_Window_Kind := q_kitC_Window_Kind, kitC_Window_Masks := q_kitC_Window_Masks, kitC_Window_Test := q_kitC_Window_Test, kitC_Window_TestWindow := q_kitC_Window_TestWindow, kitC_Window_Window := q_kitC_Window_Window, mev_AnyOf_masks := ⟨q_mev_AnyOf_masks_at, q_mev_AnyOf_masks_fn, k_Kind_masks⟩, mev_AnyOf_may_set := ⟨q_mev_AnyOf_may_set_at, q_mev_AnyOf_may_set_fn, k_AnyOf_may_set⟩, mev_AnyOf_single := ⟨q_mev_AnyOf_single_at, q_mev_AnyOf_single_fn, k_AnyOf_single⟩, mev_Kind_masks := ⟨q_mev_Kind_masks_at, q_mev_Kind_masks_fn, k_Kind_masks⟩, mev_Kind_may_set := ⟨q_mev_Kind_may_set_at, q_mev_Kind_may_set_fn, k_Kind_may_set⟩, mev_Kind_single := ⟨q_mev_Kind_single_at, q_mev_Kind_single_fn, k_Kind_single⟩, mev_Masks_masks := ⟨q_mev_Masks_masks_at, q_mev_Masks_masks_fn, k_Kind_masks⟩, mev_Masks_may_set := ⟨q_mev_Masks_may_set_at, q_mev_Masks_may_set_fn, k_Masks_may_set⟩, mev_Masks_single := ⟨q_mev_Masks_single_at, q_mev_Masks_single_fn, k_Masks_single⟩, mev_Test_masks := ⟨q_mev_Test_masks_at, q_mev_Test_masks_fn, k_Kind_masks⟩, mev_Test_may_set := ⟨q_mev_Test_may_set_at, q_mev_Test_may_set_fn, k_Test_may_set⟩, mev_Test_single := ⟨q_mev_Test_single_at, q_mev_Test_single_fn, k_Test_single⟩, mev_TestWindow_masks := ⟨q_mev_TestWindow_masks_at, q_mev_TestWindow_masks_fn, k_Kind_masks⟩, mev_TestWindow_may_set := ⟨q_mev_TestWindow_may_set_at, q_mev_TestWindow_may_set_fn, k_Test_may_set⟩, mev_TestWindow_single := ⟨q_mev_TestWindow_single_at, q_mev_TestWindow_single_fn, k_Test_single⟩, mev_Window_masks := ⟨q_mev_Window_masks_at, q_mev_Window_masks_fn, k_Kind_masks⟩, mev_Window_may_set := ⟨q_mev_Window_may_set_at, q_mev_Window_may_set_fn, k_Window_may_set⟩, mev_Window_single := ⟨q_mev_Window_single_at, q_mev_Window_single_fn, k_Window_single⟩, mk_AnyOf := ⟨q_AnyOf_mkm, q_AnyOf_mki, q_AnyOf_mkf, q_AnyOf_mkk⟩, mk_Kind := ⟨q_Kind_mkm, q_Kind_mki, q_Kind_mkf, q_Kind_mkk⟩, mk_Masks := ⟨q_Masks_mkm, q_Masks_mki, q_Masks_mkf, q_Masks_mkk⟩, mk_Test := ⟨q_Test_mkm, q_Test_mki, q_Test_mkf, q_Test_mkk⟩, mk_TestWindow := ⟨q_TestWindow_mkm, q_TestWindow_mki, q_TestWindow_mkf, q_TestWindow_mkk⟩, mk_Window := ⟨q_Window_mkm, q_Window_mki, q_Window_mkf, q_Window_mkk⟩, na_AnyOf_bit := q_AnyOf_na_bit, na_AnyOf_name := q_AnyOf_na_name, na_AnyOf_own_conditions := q_AnyOf_na_own_conditions, na_Kind_name := q_Kind_na_name, na_Masks_name := q_Masks_na_name, na_Masks_own_masks := q_Masks_na_own_masks, na_Test_bit := q_Test_na_bit, na_Test_condition := q_Test_na_condition, na_Test_name := q_Test_na_name, na_TestWindow_bit := q_TestWindow_na_bit, na_TestWindow_condition := q_TestWindow_na_condition, na_TestWindow_low := q_TestWindow_na_low, na_TestWindow_name := q_TestWindow_na_name, na_TestWindow_own_conditions := q_TestWindow_na_own_conditions, na_Window_low := q_Window_na_low, na_Window_name := q_Window_na_name, na_Window_own_conditions := q_Window_na_own_conditions, nec_AnyOf := ⟨q_AnyOf_nec_ne, q_AnyOf_nec_ob⟩, nec_Kind := ⟨q_Kind_nec_ne, q_Kind_nec_ob⟩, nec_Masks := ⟨q_Masks_nec_ne, q_Masks_nec_ob⟩, nec_Test := ⟨q_Test_nec_ne, q_Test_nec_ob⟩, nec_TestWindow := ⟨q_TestWindow_nec_ne, q_TestWindow_nec_ob⟩, nec_Window := ⟨q_Window_nec_ne, q_Window_nec_ob⟩, ocv_AnyOf___eq__ := ⟨q_opv_AnyOf___eq___at, q_opv_AnyOf___eq___fn⟩, fnv_Kind_eq__ := q_fnv_Kind_eq__, ocv_Kind___eq__ := ⟨q_opv_Kind___eq___at, q_opv_Kind___eq___fn⟩, ocv_Masks___eq__ := ⟨q_opv_Masks___eq___at, q_opv_Masks___eq___fn⟩, ocv_Test___eq__ := ⟨q_opv_Test___eq___at, q_opv_Test___eq___fn⟩, ocv_TestWindow___eq__ := ⟨q_opv_TestWindow___eq___at, q_opv_TestWindow___eq___fn⟩, ocv_Window___eq__ := ⟨q_opv_Window___eq___at, q_opv_Window___eq___fn⟩, cr_AnyOf := ⟨q_AnyOf_rd, q_AnyOf_ga⟩, sm_AnyOf_of := ⟨q_AnyOf_of_find, ⟨_, q_AnyOf_of_rec⟩, k_AnyOf_of⟩, cr_Window := ⟨q_Window_rd, q_Window_ga⟩, sm_Window_of := ⟨q_Window_of_find, ⟨_, q_Window_of_rec⟩, k_Window_of⟩, smK := q_smK, sup_AnyOf_AnyOf___init__ := ⟨q_sup_AnyOf_AnyOf___init___at, q_sup_AnyOf_AnyOf___init___ty, q_sup_AnyOf_AnyOf___init___fi, q_sup_AnyOf_AnyOf___init___sb, q_tpa⟩, sup_AnyOf_AnyOf_may_set := ⟨q_sup_AnyOf_AnyOf_may_set_at, q_sup_AnyOf_AnyOf_may_set_ty, q_sup_AnyOf_AnyOf_may_set_fi, q_sup_AnyOf_AnyOf_may_set_sb, q_tpa⟩, sup_AnyOf_AnyOf_single := ⟨q_sup_AnyOf_AnyOf_single_at, q_sup_AnyOf_AnyOf_single_ty, q_sup_AnyOf_AnyOf_single_fi, q_sup_AnyOf_AnyOf_single_sb, q_tpa⟩, sup_Masks_Masks___init__ := ⟨q_sup_Masks_Masks___init___at, q_sup_Masks_Masks___init___ty, q_sup_Masks_Masks___init___fi, q_sup_Masks_Masks___init___sb, q_tpa⟩, sup_Masks_Masks_may_set := ⟨q_sup_Masks_Masks_may_set_at, q_sup_Masks_Masks_may_set_ty, q_sup_Masks_Masks_may_set_fi, q_sup_Masks_Masks_may_set_sb, q_tpa⟩, sup_Masks_Masks_single := ⟨q_sup_Masks_Masks_single_at, q_sup_Masks_Masks_single_ty, q_sup_Masks_Masks_single_fi, q_sup_Masks_Masks_single_sb, q_tpa⟩, sup_Test_Test___init__ := ⟨q_sup_Test_Test___init___at, q_sup_Test_Test___init___ty, q_sup_Test_Test___init___fi, q_sup_Test_Test___init___sb, q_tpa⟩, sup_Test_Test_may_set := ⟨q_sup_Test_Test_may_set_at, q_sup_Test_Test_may_set_ty, q_sup_Test_Test_may_set_fi, q_sup_Test_Test_may_set_sb, q_tpa⟩, sup_Test_Test_single := ⟨q_sup_Test_Test_single_at, q_sup_Test_Test_single_ty, q_sup_Test_Test_single_fi, q_sup_Test_Test_single_sb, q_tpa⟩, sup_TestWindow_Test___init__ := ⟨q_sup_TestWindow_Test___init___at, q_sup_TestWindow_Test___init___ty, q_sup_TestWindow_Test___init___fi, q_sup_TestWindow_Test___init___sb, q_tpa⟩, sup_TestWindow_Test_may_set := ⟨q_sup_TestWindow_Test_may_set_at, q_sup_TestWindow_Test_may_set_ty, q_sup_TestWindow_Test_may_set_fi, q_sup_TestWindow_Test_may_set_sb, q_tpa⟩, sup_TestWindow_Test_single := ⟨q_sup_TestWindow_Test_single_at, q_sup_TestWindow_Test_single_ty, q_sup_TestWindow_Test_single_fi, q_sup_TestWindow_Test_single_sb, q_tpa⟩, sup_TestWindow_TestWindow___init__ := ⟨q_sup_TestWindow_TestWindow___init___at, q_sup_TestWindow_TestWindow___init___ty, q_sup_TestWindow_TestWindow___init___fi, q_sup_TestWindow_TestWindow___init___sb, q_tpa⟩, sup_TestWindow_Window___init__ := ⟨q_sup_TestWindow_Window___init___at, q_sup_TestWindow_Window___init___ty, q_sup_TestWindow_Window___init___fi, q_sup_TestWindow_Window___init___sb, q_tpa⟩, sup_TestWindow_Window_may_set := ⟨q_sup_TestWindow_Window_may_set_at, q_sup_TestWindow_Window_may_set_ty, q_sup_TestWindow_Window_may_set_fi, q_sup_TestWindow_Window_may_set_sb, q_tpa⟩, sup_TestWindow_Window_single := ⟨q_sup_TestWindow_Window_single_at, q_sup_TestWindow_Window_single_ty, q_sup_TestWindow_Window_single_fi, q_sup_TestWindow_Window_single_sb, q_tpa⟩, sup_Window_Window___init__ := ⟨q_sup_Window_Window___init___at, q_sup_Window_Window___init___ty, q_sup_Window_Window___init___fi, q_sup_Window_Window___init___sb, q_tpa⟩, sup_Window_Window_may_set := ⟨q_sup_Window_Window_may_set_at, q_sup_Window_Window_may_set_ty, q_sup_Window_Window_may_set_fi, q_sup_Window_Window_may_set_sb, q_tpa⟩, sup_Window_Window_single := ⟨q_sup_Window_Window_single_at, q_sup_Window_Window_single_ty, q_sup_Window_Window_single_fi, q_sup_Window_Window_single_sb, q_tpa⟩, tre := q_tre, g_is_integer := PySem.W.mg_of X G a_is_integer, l_is_integer := l_is_integer, c_is_integer := c_is_integer, k_is_integer := k_is_integer, g_is_between := PySem.W.mg_of X G a_is_between, l_is_between := l_is_between, c_is_between := c_is_between, k_is_between := k_is_between, g_is_name := PySem.W.mg_of X G a_is_name, l_is_name := l_is_name, c_is_name := c_is_name, k_is_name := k_is_name, g_are_conditions := PySem.W.mg_of X G a_are_conditions, l_are_conditions := l_are_conditions, c_are_conditions := c_are_conditions, k_are_conditions := k_are_conditions, g_need := PySem.W.mg_of X G a_need, l_need := l_need, c_need := c_need, k_need := k_need, l_Kind_init__ := l_Kind_init__, c_Kind_init__ := c_Kind_init__, k_Kind_init__ := k_Kind_init__, l_Kind_single := l_Kind_single, c_Kind_single := c_Kind_single, k_Kind_single := k_Kind_single, l_Kind_may_set := l_Kind_may_set, c_Kind_may_set := c_Kind_may_set, k_Kind_may_set := k_Kind_may_set, l_AnyOf_may_set := l_AnyOf_may_set, c_AnyOf_may_set := c_AnyOf_may_set, k_AnyOf_may_set := k_AnyOf_may_set, su_AnyOf_may_set := q_su_AnyOf_may_set, l_AnyOf_single := l_AnyOf_single, c_AnyOf_single := c_AnyOf_single, k_AnyOf_single := k_AnyOf_single, su_AnyOf_single := q_su_AnyOf_single, l_Masks_may_set := l_Masks_may_set, c_Masks_may_set := c_Masks_may_set, k_Masks_may_set := k_Masks_may_set, su_Masks_may_set := q_su_Masks_may_set, l_Masks_single := l_Masks_single, c_Masks_single := c_Masks_single, k_Masks_single := k_Masks_single, su_Masks_single := q_su_Masks_single, l_Window_may_set := l_Window_may_set, c_Window_may_set := c_Window_may_set, k_Window_may_set := k_Window_may_set, su_Window_may_set := q_su_Window_may_set, l_Test_may_set := l_Test_may_set, c_Test_may_set := c_Test_may_set, k_Test_may_set := k_Test_may_set, su_Test_may_set := q_su_Test_may_set, l_Window_single := l_Window_single, c_Window_single := c_Window_single, k_Window_single := k_Window_single, su_Window_single := q_su_Window_single, l_Test_single := l_Test_single, c_Test_single := c_Test_single, k_Test_single := k_Test_single, su_Test_single := q_su_Test_single, l_Kind_masks := l_Kind_masks, c_Kind_masks := c_Kind_masks, k_Kind_masks := k_Kind_masks, l_Kind_eq__ := l_Kind_eq__, c_Kind_eq__ := c_Kind_eq__, k_Kind_eq__ := k_Kind_eq__, l_Window_init__ := l_Window_init__, c_Window_init__ := c_Window_init__, k_Window_init__ := k_Window_init__, su_Window_init__ := q_su_Window_init__, l_Test_init__ := l_Test_init__, c_Test_init__ := c_Test_init__, k_Test_init__ := k_Test_init__, su_Test_init__ := q_su_Test_init__, l_Window_of := l_Window_of, c_Window_of := c_Window_of, k_Window_of := k_Window_of, l_AnyOf_init__ := l_AnyOf_init__, c_AnyOf_init__ := c_AnyOf_init__, k_AnyOf_init__ := k_AnyOf_init__, su_AnyOf_init__ := q_su_AnyOf_init__, l_AnyOf_of := l_AnyOf_of, c_AnyOf_of := c_AnyOf_of, k_AnyOf_of := k_AnyOf_of, l_TestWindow_init__ := l_TestWindow_init__, c_TestWindow_init__ := c_TestWindow_init__, k_TestWindow_init__ := k_TestWindow_init__, su_TestWindow_init__ := q_su_TestWindow_init__, l_Masks_init__ := l_Masks_init__, c_Masks_init__ := c_Masks_init__, k_Masks_init__ := k_Masks_init__, su_Masks_init__ := q_su_Masks_init__, g_law_pen := PySem.W.mg_of X G a_law_pen, l_law_pen := l_law_pen, c_law_pen := c_law_pen, k_law_pen := k_law_pen, g_law_draw := PySem.W.mg_of X G a_law_draw, l_law_draw := l_law_draw, c_law_draw := c_law_draw, k_law_draw := k_law_draw, g_law_pick := PySem.W.mg_of X G a_law_pick, l_law_pick := l_law_pick, c_law_pick := c_law_pick, k_law_pick := k_law_pick, g_law_mixed := PySem.W.mg_of X G a_law_mixed, l_law_mixed := l_law_mixed, c_law_mixed := c_law_mixed, k_law_mixed := k_law_mixed, g_law_names := PySem.W.mg_of X G a_law_names, l_law_names := l_law_names, c_law_names := c_law_names, k_law_names := k_law_names, g_law_kind := PySem.W.mg_of X G a_law_kind, l_law_kind := l_law_kind, c_law_kind := c_law_kind, k_law_kind := k_law_kind, g_law_both := PySem.W.mg_of X G a_law_both, l_law_both := l_law_both, c_law_both := c_law_both, k_law_both := k_law_both, g_law_made := PySem.W.mg_of X G a_law_made, l_law_made := l_law_made, c_law_made := c_law_made, k_law_made := k_law_made, g_law_full := PySem.W.mg_of X G a_law_full, l_law_full := l_law_full, c_law_full := c_law_full, k_law_full := k_law_full, g_law_alike := PySem.W.mg_of X G a_law_alike, l_law_alike := l_law_alike, c_law_alike := c_law_alike, k_law_alike := k_law_alike, g_law_is_alone := PySem.W.mg_of X G a_law_is_alone, l_law_is_alone := l_law_is_alone, c_law_is_alone := c_law_is_alone, k_law_is_alone := k_law_is_alone, g_law_is_kind := PySem.W.mg_of X G a_law_is_kind, l_law_is_kind := l_law_is_kind, c_law_is_kind := c_law_is_kind, k_law_is_kind := k_law_is_kind, g_law := PySem.W.mg_of X G a_law, l_law := l_law, c_law := c_law, k_law := k_law, g_DIGITS := PySem.W.mg_of X G g_DIGITS, g_LETTERS := PySem.W.mg_of X G g_LETTERS, g_LONGEST := PySem.W.mg_of X G g_LONGEST, g_MOST_BIT := PySem.W.mg_of X G g_MOST_BIT, g_MOST_CONDITIONS := PySem.W.mg_of X G g_MOST_CONDITIONS, g_MOST_MASK := PySem.W.mg_of X G g_MOST_MASK, g_RESERVED := PySem.W.mg_of X G g_RESERVED, k_RESERVED := k_RESERVED, z_abs := PySem.W.mg_none_of X G z_abs, z_all := PySem.W.mg_none_of X G z_all, z_bool := PySem.W.mg_none_of X G z_bool, z_dict := PySem.W.mg_none_of X G z_dict, z_enumerate := PySem.W.mg_none_of X G z_enumerate, z_int := PySem.W.mg_none_of X G z_int, z_isinstance := PySem.W.mg_none_of X G z_isinstance, z_len := PySem.W.mg_none_of X G z_len, z_list := PySem.W.mg_none_of X G z_list, z_min := PySem.W.mg_none_of X G z_min, z_range := PySem.W.mg_none_of X G z_range, z_repr := PySem.W.mg_none_of X G z_repr, z_set := PySem.W.mg_none_of X G z_set, z_sorted := PySem.W.mg_none_of X G z_sorted, z_str := PySem.W.mg_none_of X G z_str, z_super := PySem.W.mg_none_of X G z_super, z_tuple := PySem.W.mg_none_of X G z_tuple, sm := hsm }⟩
def v_C_AnyOf (K : PySem.W.Frag) : Addr := L3.xRef (PySem.W.nsIn K mainGlobals "AnyOf")
def v_C_Kind (K : PySem.W.Frag) : Addr := L3.xRef (PySem.W.nsIn K mainGlobals "Kind")
def v_C_Masks (K : PySem.W.Frag) : Addr := L3.xRef (PySem.W.nsIn K mainGlobals "Masks")
def v_C_Test (K : PySem.W.Frag) : Addr := L3.xRef (PySem.W.nsIn K mainGlobals "Test")
def v_C_TestWindow (K : PySem.W.Frag) : Addr := L3.xRef (PySem.W.nsIn K mainGlobals "TestWindow")
def v_C_Window (K : PySem.W.Frag) : Addr := L3.xRef (PySem.W.nsIn K mainGlobals "Window")
def v_f_Kind_masks (K : PySem.W.Frag) : Addr := L3.xRef (PySem.W.findIn K (.ref (v_C_AnyOf K)) "masks")
def v_f_AnyOf_may_set (K : PySem.W.Frag) : Addr := L3.xRef (PySem.W.findIn K (.ref (v_C_AnyOf K)) "may_set")
def v_f_AnyOf_single (K : PySem.W.Frag) : Addr := L3.xRef (PySem.W.findIn K (.ref (v_C_AnyOf K)) "single")
def v_f_Kind_may_set (K : PySem.W.Frag) : Addr := L3.xRef (PySem.W.findIn K (.ref (v_C_Kind K)) "may_set")
def v_f_Kind_single (K : PySem.W.Frag) : Addr := L3.xRef (PySem.W.findIn K (.ref (v_C_Kind K)) "single")
def v_f_Masks_may_set (K : PySem.W.Frag) : Addr := L3.xRef (PySem.W.findIn K (.ref (v_C_Masks K)) "may_set")
def v_f_Masks_single (K : PySem.W.Frag) : Addr := L3.xRef (PySem.W.findIn K (.ref (v_C_Masks K)) "single")
def v_f_Test_may_set (K : PySem.W.Frag) : Addr := L3.xRef (PySem.W.findIn K (.ref (v_C_Test K)) "may_set")
def v_f_Test_single (K : PySem.W.Frag) : Addr := L3.xRef (PySem.W.findIn K (.ref (v_C_Test K)) "single")
def v_f_Window_may_set (K : PySem.W.Frag) : Addr := L3.xRef (PySem.W.findIn K (.ref (v_C_Window K)) "may_set")
def v_f_Window_single (K : PySem.W.Frag) : Addr := L3.xRef (PySem.W.findIn K (.ref (v_C_Window K)) "single")
def v_f_AnyOf_init__ (K : PySem.W.Frag) : Addr := L3.xRef (PySem.W.findIn K (.ref (v_C_AnyOf K)) "__init__")
def v_f_Kind_init__ (K : PySem.W.Frag) : Addr := L3.xRef (PySem.W.findIn K (.ref (v_C_Kind K)) "__init__")
def v_f_Masks_init__ (K : PySem.W.Frag) : Addr := L3.xRef (PySem.W.findIn K (.ref (v_C_Masks K)) "__init__")
def v_f_Test_init__ (K : PySem.W.Frag) : Addr := L3.xRef (PySem.W.findIn K (.ref (v_C_Test K)) "__init__")
def v_f_TestWindow_init__ (K : PySem.W.Frag) : Addr := L3.xRef (PySem.W.findIn K (.ref (v_C_TestWindow K)) "__init__")
def v_f_Window_init__ (K : PySem.W.Frag) : Addr := L3.xRef (PySem.W.findIn K (.ref (v_C_Window K)) "__init__")
def v_f_Kind_eq__ (K : PySem.W.Frag) : Addr := L3.xRef (PySem.W.findIn K (.ref (v_C_AnyOf K)) "__eq__")
def v_sp_a_AnyOf_of (K : PySem.W.Frag) : Addr := L3.xCg (PySem.W.findCls K (.ref (v_C_AnyOf K)) (.type "type") "of")
def v_f_AnyOf_of (K : PySem.W.Frag) : Addr := L3.xRecA (PySem.W.recIn K (v_sp_a_AnyOf_of K) "staticmethod")
def v_rest_AnyOf_of (K : PySem.W.Frag) : List Value := L3.xRecR (PySem.W.recIn K (v_sp_a_AnyOf_of K) "staticmethod")
def v_sp_a_Window_of (K : PySem.W.Frag) : Addr := L3.xCg (PySem.W.findCls K (.ref (v_C_Window K)) (.type "type") "of")
def v_f_Window_of (K : PySem.W.Frag) : Addr := L3.xRecA (PySem.W.recIn K (v_sp_a_Window_of K) "staticmethod")
def v_rest_Window_of (K : PySem.W.Frag) : List Value := L3.xRecR (PySem.W.recIn K (v_sp_a_Window_of K) "staticmethod")
def v_f_is_integer (K : PySem.W.Frag) : Addr := L3.xRef (PySem.W.nsIn K mainGlobals "is_integer")
def v_f_is_between (K : PySem.W.Frag) : Addr := L3.xRef (PySem.W.nsIn K mainGlobals "is_between")
def v_f_is_name (K : PySem.W.Frag) : Addr := L3.xRef (PySem.W.nsIn K mainGlobals "is_name")
def v_f_are_conditions (K : PySem.W.Frag) : Addr := L3.xRef (PySem.W.nsIn K mainGlobals "are_conditions")
def v_f_need (K : PySem.W.Frag) : Addr := L3.xRef (PySem.W.nsIn K mainGlobals "need")
def v_f_law_pen (K : PySem.W.Frag) : Addr := L3.xRef (PySem.W.nsIn K mainGlobals "_law_pen")
def v_f_law_draw (K : PySem.W.Frag) : Addr := L3.xRef (PySem.W.nsIn K mainGlobals "_law_draw")
def v_f_law_pick (K : PySem.W.Frag) : Addr := L3.xRef (PySem.W.nsIn K mainGlobals "_law_pick")
def v_f_law_mixed (K : PySem.W.Frag) : Addr := L3.xRef (PySem.W.nsIn K mainGlobals "_law_mixed")
def v_f_law_names (K : PySem.W.Frag) : Addr := L3.xRef (PySem.W.nsIn K mainGlobals "_law_names")
def v_f_law_kind (K : PySem.W.Frag) : Addr := L3.xRef (PySem.W.nsIn K mainGlobals "_law_kind")
def v_f_law_both (K : PySem.W.Frag) : Addr := L3.xRef (PySem.W.nsIn K mainGlobals "_law_both")
def v_f_law_made (K : PySem.W.Frag) : Addr := L3.xRef (PySem.W.nsIn K mainGlobals "_law_made")
def v_f_law_full (K : PySem.W.Frag) : Addr := L3.xRef (PySem.W.nsIn K mainGlobals "_law_full")
def v_f_law_alike (K : PySem.W.Frag) : Addr := L3.xRef (PySem.W.nsIn K mainGlobals "_law_alike")
def v_f_law_is_alone (K : PySem.W.Frag) : Addr := L3.xRef (PySem.W.nsIn K mainGlobals "_law_is_alone")
def v_f_law_is_kind (K : PySem.W.Frag) : Addr := L3.xRef (PySem.W.nsIn K mainGlobals "_law_is_kind")
def v_f_law (K : PySem.W.Frag) : Addr := L3.xRef (PySem.W.nsIn K mainGlobals "law")
def v_t_DIGITS (K : PySem.W.Frag) : Tok := L3.xTok (PySem.W.nsIn K mainGlobals "DIGITS")
def v_t_LETTERS (K : PySem.W.Frag) : Tok := L3.xTok (PySem.W.nsIn K mainGlobals "LETTERS")
def v_t_LONGEST (K : PySem.W.Frag) : Tok := L3.xTok (PySem.W.nsIn K mainGlobals "LONGEST")
def v_t_MOST_BIT (K : PySem.W.Frag) : Tok := L3.xTok (PySem.W.nsIn K mainGlobals "MOST_BIT")
def v_t_MOST_CONDITIONS (K : PySem.W.Frag) : Tok := L3.xTok (PySem.W.nsIn K mainGlobals "MOST_CONDITIONS")
def v_t_MOST_MASK (K : PySem.W.Frag) : Tok := L3.xTok (PySem.W.nsIn K mainGlobals "MOST_MASK")
def v_a_RESERVED (K : PySem.W.Frag) : Addr := L3.xRef (PySem.W.nsIn K mainGlobals "RESERVED")
def v_t_RESERVED_0 (K : PySem.W.Frag) : Tok := L3.xVT (L3.xIt K (v_a_RESERVED K) 0)
def v_t_RESERVED_1 (K : PySem.W.Frag) : Tok := L3.xVT (L3.xIt K (v_a_RESERVED K) 1)
def v_t_RESERVED_2 (K : PySem.W.Frag) : Tok := L3.xVT (L3.xIt K (v_a_RESERVED K) 2)
def v_t_RESERVED_3 (K : PySem.W.Frag) : Tok := L3.xVT (L3.xIt K (v_a_RESERVED K) 3)
def v_t_RESERVED_4 (K : PySem.W.Frag) : Tok := L3.xVT (L3.xIt K (v_a_RESERVED K) 4)
def fl_0 : List L3.FrB := [
  fun K => decide (PySem.W.nsIn K mainGlobals "AnyOf" = some (some (.ref (v_C_AnyOf K)))),
  fun K => decide (PySem.W.nsIn K mainGlobals "Kind" = some (some (.ref (v_C_Kind K)))),
  fun K => decide (PySem.W.nsIn K mainGlobals "Masks" = some (some (.ref (v_C_Masks K)))),
  fun K => decide (PySem.W.nsIn K mainGlobals "Test" = some (some (.ref (v_C_Test K)))),
  fun K => decide (PySem.W.nsIn K mainGlobals "TestWindow" = some (some (.ref (v_C_TestWindow K)))),
  fun K => decide (PySem.W.nsIn K mainGlobals "Window" = some (some (.ref (v_C_Window K)))),
  fun K => PySem.W.plainGet K (v_C_AnyOf K) Str.empty,
  fun K => PySem.W.hasDictIn K (v_C_AnyOf K),
  fun K => PySem.W.plainOver K (v_C_AnyOf K),
  fun K => decide (PySem.W.findIn K (.ref (v_C_AnyOf K)) "__setattr__" = some (some (.builtin "object.__setattr__"))),
  fun K => PySem.W.plainGet K (v_C_Kind K) Str.empty,
  fun K => PySem.W.hasDictIn K (v_C_Kind K),
  fun K => PySem.W.plainOver K (v_C_Kind K),
  fun K => decide (PySem.W.findIn K (.ref (v_C_Kind K)) "__setattr__" = some (some (.builtin "object.__setattr__"))),
  fun K => PySem.W.plainGet K (v_C_Masks K) Str.empty,
  fun K => PySem.W.hasDictIn K (v_C_Masks K),
  fun K => PySem.W.plainOver K (v_C_Masks K),
  fun K => decide (PySem.W.findIn K (.ref (v_C_Masks K)) "__setattr__" = some (some (.builtin "object.__setattr__"))),
  fun K => PySem.W.plainGet K (v_C_Test K) Str.empty,
  fun K => PySem.W.hasDictIn K (v_C_Test K),
  fun K => PySem.W.plainOver K (v_C_Test K),
  fun K => decide (PySem.W.findIn K (.ref (v_C_Test K)) "__setattr__" = some (some (.builtin "object.__setattr__"))),
  fun K => PySem.W.plainGet K (v_C_TestWindow K) Str.empty,
  fun K => PySem.W.hasDictIn K (v_C_TestWindow K),
  fun K => PySem.W.plainOver K (v_C_TestWindow K),
  fun K => decide (PySem.W.findIn K (.ref (v_C_TestWindow K)) "__setattr__" = some (some (.builtin "object.__setattr__"))),
  fun K => PySem.W.plainGet K (v_C_Window K) Str.empty,
  fun K => PySem.W.hasDictIn K (v_C_Window K),
  fun K => PySem.W.plainOver K (v_C_Window K),
  fun K => decide (PySem.W.findIn K (.ref (v_C_Window K)) "__setattr__" = some (some (.builtin "object.__setattr__"))),
  fun K => decide (PySem.W.findIn K (.ref (v_C_AnyOf K)) "__class__" = some (some (.builtin "object.__class__"))),
  fun K => decide (PySem.W.specialIn K (.builtin "object.__class__") "__get__" = some (some (.builtin "getset_descriptor.__get__"))),
  fun K => decide (PySem.W.takesIn K (.builtin "object.__class__") = some true),
  fun K => decide (PySem.W.mroIn K (v_C_AnyOf K) (.type "object") = some true),
  fun K => decide (PySem.W.findIn K (.ref (v_C_Kind K)) "__class__" = some (some (.builtin "object.__class__"))),
  fun K => decide (PySem.W.specialIn K (.builtin "object.__class__") "__get__" = some (some (.builtin "getset_descriptor.__get__"))),
  fun K => decide (PySem.W.takesIn K (.builtin "object.__class__") = some true),
  fun K => decide (PySem.W.mroIn K (v_C_Kind K) (.type "object") = some true),
  fun K => decide (PySem.W.findIn K (.ref (v_C_Masks K)) "__class__" = some (some (.builtin "object.__class__"))),
  fun K => decide (PySem.W.specialIn K (.builtin "object.__class__") "__get__" = some (some (.builtin "getset_descriptor.__get__")))]
def fl_1 : List L3.FrB := [
  fun K => decide (PySem.W.takesIn K (.builtin "object.__class__") = some true),
  fun K => decide (PySem.W.mroIn K (v_C_Masks K) (.type "object") = some true),
  fun K => decide (PySem.W.findIn K (.ref (v_C_Test K)) "__class__" = some (some (.builtin "object.__class__"))),
  fun K => decide (PySem.W.specialIn K (.builtin "object.__class__") "__get__" = some (some (.builtin "getset_descriptor.__get__"))),
  fun K => decide (PySem.W.takesIn K (.builtin "object.__class__") = some true),
  fun K => decide (PySem.W.mroIn K (v_C_Test K) (.type "object") = some true),
  fun K => decide (PySem.W.findIn K (.ref (v_C_TestWindow K)) "__class__" = some (some (.builtin "object.__class__"))),
  fun K => decide (PySem.W.specialIn K (.builtin "object.__class__") "__get__" = some (some (.builtin "getset_descriptor.__get__"))),
  fun K => decide (PySem.W.takesIn K (.builtin "object.__class__") = some true),
  fun K => decide (PySem.W.mroIn K (v_C_TestWindow K) (.type "object") = some true),
  fun K => decide (PySem.W.findIn K (.ref (v_C_Window K)) "__class__" = some (some (.builtin "object.__class__"))),
  fun K => decide (PySem.W.specialIn K (.builtin "object.__class__") "__get__" = some (some (.builtin "getset_descriptor.__get__"))),
  fun K => decide (PySem.W.takesIn K (.builtin "object.__class__") = some true),
  fun K => decide (PySem.W.mroIn K (v_C_Window K) (.type "object") = some true),
  fun K => decide (PySem.W.kitOne K (.type "NoneType") (.ref (v_C_AnyOf K)) = some false),
  fun K => decide (PySem.W.kitOne K (.type "NoneType") (.ref (v_C_Kind K)) = some false),
  fun K => decide (PySem.W.kitOne K (.type "NoneType") (.ref (v_C_Masks K)) = some false),
  fun K => decide (PySem.W.kitOne K (.type "NoneType") (.ref (v_C_Test K)) = some false),
  fun K => decide (PySem.W.kitOne K (.type "NoneType") (.ref (v_C_TestWindow K)) = some false),
  fun K => decide (PySem.W.kitOne K (.type "NoneType") (.ref (v_C_Window K)) = some false),
  fun K => decide (PySem.W.kitOne K (.ref (v_C_AnyOf K)) (.ref (v_C_AnyOf K)) = some true),
  fun K => decide (PySem.W.kitOne K (.ref (v_C_AnyOf K)) (.ref (v_C_Kind K)) = some true),
  fun K => decide (PySem.W.kitOne K (.ref (v_C_AnyOf K)) (.ref (v_C_Masks K)) = some false),
  fun K => decide (PySem.W.kitOne K (.ref (v_C_AnyOf K)) (.ref (v_C_Test K)) = some false),
  fun K => decide (PySem.W.kitOne K (.ref (v_C_AnyOf K)) (.ref (v_C_TestWindow K)) = some false),
  fun K => decide (PySem.W.kitOne K (.ref (v_C_AnyOf K)) (.ref (v_C_Window K)) = some false),
  fun K => decide (PySem.W.kitOne K (.ref (v_C_Kind K)) (.ref (v_C_AnyOf K)) = some false),
  fun K => decide (PySem.W.kitOne K (.ref (v_C_Kind K)) (.ref (v_C_Kind K)) = some true),
  fun K => decide (PySem.W.kitOne K (.ref (v_C_Kind K)) (.ref (v_C_Masks K)) = some false),
  fun K => decide (PySem.W.kitOne K (.ref (v_C_Kind K)) (.ref (v_C_Test K)) = some false),
  fun K => decide (PySem.W.kitOne K (.ref (v_C_Kind K)) (.ref (v_C_TestWindow K)) = some false),
  fun K => decide (PySem.W.kitOne K (.ref (v_C_Kind K)) (.ref (v_C_Window K)) = some false),
  fun K => decide (PySem.W.kitOne K (.ref (v_C_Masks K)) (.ref (v_C_AnyOf K)) = some false),
  fun K => decide (PySem.W.kitOne K (.ref (v_C_Masks K)) (.ref (v_C_Kind K)) = some true),
  fun K => decide (PySem.W.kitOne K (.ref (v_C_Masks K)) (.ref (v_C_Masks K)) = some true),
  fun K => decide (PySem.W.kitOne K (.ref (v_C_Masks K)) (.ref (v_C_Test K)) = some false),
  fun K => decide (PySem.W.kitOne K (.ref (v_C_Masks K)) (.ref (v_C_TestWindow K)) = some false),
  fun K => decide (PySem.W.kitOne K (.ref (v_C_Masks K)) (.ref (v_C_Window K)) = some false),
  fun K => decide (PySem.W.kitOne K (.ref (v_C_Test K)) (.ref (v_C_AnyOf K)) = some false),
  fun K => decide (PySem.W.kitOne K (.ref (v_C_Test K)) (.ref (v_C_Kind K)) = some true)]
def fl_2 : List L3.FrB := [
  fun K => decide (PySem.W.kitOne K (.ref (v_C_Test K)) (.ref (v_C_Masks K)) = some false),
  fun K => decide (PySem.W.kitOne K (.ref (v_C_Test K)) (.ref (v_C_Test K)) = some true),
  fun K => decide (PySem.W.kitOne K (.ref (v_C_Test K)) (.ref (v_C_TestWindow K)) = some false),
  fun K => decide (PySem.W.kitOne K (.ref (v_C_Test K)) (.ref (v_C_Window K)) = some false),
  fun K => decide (PySem.W.kitOne K (.ref (v_C_TestWindow K)) (.ref (v_C_AnyOf K)) = some false),
  fun K => decide (PySem.W.kitOne K (.ref (v_C_TestWindow K)) (.ref (v_C_Kind K)) = some true),
  fun K => decide (PySem.W.kitOne K (.ref (v_C_TestWindow K)) (.ref (v_C_Masks K)) = some false),
  fun K => decide (PySem.W.kitOne K (.ref (v_C_TestWindow K)) (.ref (v_C_Test K)) = some true),
  fun K => decide (PySem.W.kitOne K (.ref (v_C_TestWindow K)) (.ref (v_C_TestWindow K)) = some true),
  fun K => decide (PySem.W.kitOne K (.ref (v_C_TestWindow K)) (.ref (v_C_Window K)) = some true),
  fun K => decide (PySem.W.kitOne K (.ref (v_C_Window K)) (.ref (v_C_AnyOf K)) = some false),
  fun K => decide (PySem.W.kitOne K (.ref (v_C_Window K)) (.ref (v_C_Kind K)) = some true),
  fun K => decide (PySem.W.kitOne K (.ref (v_C_Window K)) (.ref (v_C_Masks K)) = some false),
  fun K => decide (PySem.W.kitOne K (.ref (v_C_Window K)) (.ref (v_C_Test K)) = some false),
  fun K => decide (PySem.W.kitOne K (.ref (v_C_Window K)) (.ref (v_C_TestWindow K)) = some false),
  fun K => decide (PySem.W.kitOne K (.ref (v_C_Window K)) (.ref (v_C_Window K)) = some true),
  fun K => decide (PySem.W.findIn K (.ref (v_C_AnyOf K)) "masks" = some (some (.ref (v_f_Kind_masks K)))),
  fun K => PySem.W.isFn K (.ref (v_f_Kind_masks K)),
  fun K => decide (PySem.W.findIn K (.ref (v_C_AnyOf K)) "may_set" = some (some (.ref (v_f_AnyOf_may_set K)))),
  fun K => PySem.W.isFn K (.ref (v_f_AnyOf_may_set K)),
  fun K => decide (PySem.W.findIn K (.ref (v_C_AnyOf K)) "single" = some (some (.ref (v_f_AnyOf_single K)))),
  fun K => PySem.W.isFn K (.ref (v_f_AnyOf_single K)),
  fun K => decide (PySem.W.findIn K (.ref (v_C_Kind K)) "masks" = some (some (.ref (v_f_Kind_masks K)))),
  fun K => PySem.W.isFn K (.ref (v_f_Kind_masks K)),
  fun K => decide (PySem.W.findIn K (.ref (v_C_Kind K)) "may_set" = some (some (.ref (v_f_Kind_may_set K)))),
  fun K => PySem.W.isFn K (.ref (v_f_Kind_may_set K)),
  fun K => decide (PySem.W.findIn K (.ref (v_C_Kind K)) "single" = some (some (.ref (v_f_Kind_single K)))),
  fun K => PySem.W.isFn K (.ref (v_f_Kind_single K)),
  fun K => decide (PySem.W.findIn K (.ref (v_C_Masks K)) "masks" = some (some (.ref (v_f_Kind_masks K)))),
  fun K => PySem.W.isFn K (.ref (v_f_Kind_masks K)),
  fun K => decide (PySem.W.findIn K (.ref (v_C_Masks K)) "may_set" = some (some (.ref (v_f_Masks_may_set K)))),
  fun K => PySem.W.isFn K (.ref (v_f_Masks_may_set K)),
  fun K => decide (PySem.W.findIn K (.ref (v_C_Masks K)) "single" = some (some (.ref (v_f_Masks_single K)))),
  fun K => PySem.W.isFn K (.ref (v_f_Masks_single K)),
  fun K => decide (PySem.W.findIn K (.ref (v_C_Test K)) "masks" = some (some (.ref (v_f_Kind_masks K)))),
  fun K => PySem.W.isFn K (.ref (v_f_Kind_masks K)),
  fun K => decide (PySem.W.findIn K (.ref (v_C_Test K)) "may_set" = some (some (.ref (v_f_Test_may_set K)))),
  fun K => PySem.W.isFn K (.ref (v_f_Test_may_set K)),
  fun K => decide (PySem.W.findIn K (.ref (v_C_Test K)) "single" = some (some (.ref (v_f_Test_single K)))),
  fun K => PySem.W.isFn K (.ref (v_f_Test_single K))]
def fl_3 : List L3.FrB := [
  fun K => decide (PySem.W.findIn K (.ref (v_C_TestWindow K)) "masks" = some (some (.ref (v_f_Kind_masks K)))),
  fun K => PySem.W.isFn K (.ref (v_f_Kind_masks K)),
  fun K => decide (PySem.W.findIn K (.ref (v_C_TestWindow K)) "may_set" = some (some (.ref (v_f_Test_may_set K)))),
  fun K => PySem.W.isFn K (.ref (v_f_Test_may_set K)),
  fun K => decide (PySem.W.findIn K (.ref (v_C_TestWindow K)) "single" = some (some (.ref (v_f_Test_single K)))),
  fun K => PySem.W.isFn K (.ref (v_f_Test_single K)),
  fun K => decide (PySem.W.findIn K (.ref (v_C_Window K)) "masks" = some (some (.ref (v_f_Kind_masks K)))),
  fun K => PySem.W.isFn K (.ref (v_f_Kind_masks K)),
  fun K => decide (PySem.W.findIn K (.ref (v_C_Window K)) "may_set" = some (some (.ref (v_f_Window_may_set K)))),
  fun K => PySem.W.isFn K (.ref (v_f_Window_may_set K)),
  fun K => decide (PySem.W.findIn K (.ref (v_C_Window K)) "single" = some (some (.ref (v_f_Window_single K)))),
  fun K => PySem.W.isFn K (.ref (v_f_Window_single K)),
  fun K => PySem.W.makesIn K (v_C_AnyOf K),
  fun K => decide (PySem.W.findIn K (.ref (v_C_AnyOf K)) "__init__" = some (some (.ref (v_f_AnyOf_init__ K)))),
  fun K => PySem.W.isFn K (.ref (v_f_AnyOf_init__ K)),
  fun K => PySem.W.keepIn K (.ref (v_C_AnyOf K)),
  fun K => PySem.W.makesIn K (v_C_Kind K),
  fun K => decide (PySem.W.findIn K (.ref (v_C_Kind K)) "__init__" = some (some (.ref (v_f_Kind_init__ K)))),
  fun K => PySem.W.isFn K (.ref (v_f_Kind_init__ K)),
  fun K => PySem.W.keepIn K (.ref (v_C_Kind K)),
  fun K => PySem.W.makesIn K (v_C_Masks K),
  fun K => decide (PySem.W.findIn K (.ref (v_C_Masks K)) "__init__" = some (some (.ref (v_f_Masks_init__ K)))),
  fun K => PySem.W.isFn K (.ref (v_f_Masks_init__ K)),
  fun K => PySem.W.keepIn K (.ref (v_C_Masks K)),
  fun K => PySem.W.makesIn K (v_C_Test K),
  fun K => decide (PySem.W.findIn K (.ref (v_C_Test K)) "__init__" = some (some (.ref (v_f_Test_init__ K)))),
  fun K => PySem.W.isFn K (.ref (v_f_Test_init__ K)),
  fun K => PySem.W.keepIn K (.ref (v_C_Test K)),
  fun K => PySem.W.makesIn K (v_C_TestWindow K),
  fun K => decide (PySem.W.findIn K (.ref (v_C_TestWindow K)) "__init__" = some (some (.ref (v_f_TestWindow_init__ K)))),
  fun K => PySem.W.isFn K (.ref (v_f_TestWindow_init__ K)),
  fun K => PySem.W.keepIn K (.ref (v_C_TestWindow K)),
  fun K => PySem.W.makesIn K (v_C_Window K),
  fun K => decide (PySem.W.findIn K (.ref (v_C_Window K)) "__init__" = some (some (.ref (v_f_Window_init__ K)))),
  fun K => PySem.W.isFn K (.ref (v_f_Window_init__ K)),
  fun K => PySem.W.keepIn K (.ref (v_C_Window K)),
  fun K => decide (PySem.W.findIn K (.ref (v_C_AnyOf K)) "bit" = some none),
  fun K => decide (PySem.W.findIn K (.ref (v_C_AnyOf K)) "name" = some none),
  fun K => decide (PySem.W.findIn K (.ref (v_C_AnyOf K)) "own_conditions" = some none),
  fun K => decide (PySem.W.findIn K (.ref (v_C_Kind K)) "name" = some none)]
def fl_4 : List L3.FrB := [
  fun K => decide (PySem.W.findIn K (.ref (v_C_Masks K)) "name" = some none),
  fun K => decide (PySem.W.findIn K (.ref (v_C_Masks K)) "own_masks" = some none),
  fun K => decide (PySem.W.findIn K (.ref (v_C_Test K)) "bit" = some none),
  fun K => decide (PySem.W.findIn K (.ref (v_C_Test K)) "condition" = some none),
  fun K => decide (PySem.W.findIn K (.ref (v_C_Test K)) "name" = some none),
  fun K => decide (PySem.W.findIn K (.ref (v_C_TestWindow K)) "bit" = some none),
  fun K => decide (PySem.W.findIn K (.ref (v_C_TestWindow K)) "condition" = some none),
  fun K => decide (PySem.W.findIn K (.ref (v_C_TestWindow K)) "low" = some none),
  fun K => decide (PySem.W.findIn K (.ref (v_C_TestWindow K)) "name" = some none),
  fun K => decide (PySem.W.findIn K (.ref (v_C_TestWindow K)) "own_conditions" = some none),
  fun K => decide (PySem.W.findIn K (.ref (v_C_Window K)) "low" = some none),
  fun K => decide (PySem.W.findIn K (.ref (v_C_Window K)) "name" = some none),
  fun K => decide (PySem.W.findIn K (.ref (v_C_Window K)) "own_conditions" = some none),
  fun K => decide (PySem.W.findIn K (.ref (v_C_AnyOf K)) "__ne__" = some (some (.builtin "object.__ne__"))),
  fun K => decide (PySem.W.mroIn K (v_C_AnyOf K) (.type "object") = some true),
  fun K => decide (PySem.W.findIn K (.ref (v_C_Kind K)) "__ne__" = some (some (.builtin "object.__ne__"))),
  fun K => decide (PySem.W.mroIn K (v_C_Kind K) (.type "object") = some true),
  fun K => decide (PySem.W.findIn K (.ref (v_C_Masks K)) "__ne__" = some (some (.builtin "object.__ne__"))),
  fun K => decide (PySem.W.mroIn K (v_C_Masks K) (.type "object") = some true),
  fun K => decide (PySem.W.findIn K (.ref (v_C_Test K)) "__ne__" = some (some (.builtin "object.__ne__"))),
  fun K => decide (PySem.W.mroIn K (v_C_Test K) (.type "object") = some true),
  fun K => decide (PySem.W.findIn K (.ref (v_C_TestWindow K)) "__ne__" = some (some (.builtin "object.__ne__"))),
  fun K => decide (PySem.W.mroIn K (v_C_TestWindow K) (.type "object") = some true),
  fun K => decide (PySem.W.findIn K (.ref (v_C_Window K)) "__ne__" = some (some (.builtin "object.__ne__"))),
  fun K => decide (PySem.W.mroIn K (v_C_Window K) (.type "object") = some true),
  fun K => decide (PySem.W.findIn K (.ref (v_C_AnyOf K)) "__eq__" = some (some (.ref (v_f_Kind_eq__ K)))),
  fun K => PySem.W.isFn K (.ref (v_f_Kind_eq__ K)),
  fun K => PySem.W.fnIn K (v_f_Kind_eq__ K),
  fun K => decide (PySem.W.findIn K (.ref (v_C_Kind K)) "__eq__" = some (some (.ref (v_f_Kind_eq__ K)))),
  fun K => PySem.W.isFn K (.ref (v_f_Kind_eq__ K)),
  fun K => decide (PySem.W.findIn K (.ref (v_C_Masks K)) "__eq__" = some (some (.ref (v_f_Kind_eq__ K)))),
  fun K => PySem.W.isFn K (.ref (v_f_Kind_eq__ K)),
  fun K => decide (PySem.W.findIn K (.ref (v_C_Test K)) "__eq__" = some (some (.ref (v_f_Kind_eq__ K)))),
  fun K => PySem.W.isFn K (.ref (v_f_Kind_eq__ K)),
  fun K => decide (PySem.W.findIn K (.ref (v_C_TestWindow K)) "__eq__" = some (some (.ref (v_f_Kind_eq__ K)))),
  fun K => PySem.W.isFn K (.ref (v_f_Kind_eq__ K)),
  fun K => decide (PySem.W.findIn K (.ref (v_C_Window K)) "__eq__" = some (some (.ref (v_f_Kind_eq__ K)))),
  fun K => PySem.W.isFn K (.ref (v_f_Kind_eq__ K)),
  fun K => PySem.W.readsIn K (v_C_AnyOf K) (.type "type"),
  fun K => decide (PySem.W.specialIn K (.ref (v_C_AnyOf K)) "__getattribute__" = some (some (.builtin "type.__getattribute__")))]
def fl_5 : List L3.FrB := [
  fun K => L3.cgB (PySem.W.findCls K (.ref (v_C_AnyOf K)) (.type "type") "of") "staticmethod.__get__" (v_C_AnyOf K),
  fun K => decide (PySem.W.recIn K (v_sp_a_AnyOf_of K) "staticmethod" = some (.ref (v_f_AnyOf_of K) :: (v_rest_AnyOf_of K))),
  fun K => PySem.W.readsIn K (v_C_Window K) (.type "type"),
  fun K => decide (PySem.W.specialIn K (.ref (v_C_Window K)) "__getattribute__" = some (some (.builtin "type.__getattribute__"))),
  fun K => L3.cgB (PySem.W.findCls K (.ref (v_C_Window K)) (.type "type") "of") "staticmethod.__get__" (v_C_Window K),
  fun K => decide (PySem.W.recIn K (v_sp_a_Window_of K) "staticmethod" = some (.ref (v_f_Window_of K) :: (v_rest_Window_of K))),
  fun K => L3.smB K,
  fun K => decide (PySem.W.nsIn K cStatics "thirdparty.any" = some none),
  fun K => decide (PySem.W.ks_superIn K (v_C_AnyOf K) (v_C_AnyOf K) "__init__" = some (some (.ref (v_f_Kind_init__ K)))),
  fun K => decide (PySem.W.typeIn K (.ref (v_f_Kind_init__ K)) = some (.type "function")),
  fun K => PySem.W.fnIn K (v_f_Kind_init__ K),
  fun K => decide (PySem.W.mroIn K (v_C_AnyOf K) (.ref (v_C_AnyOf K)) = some true),
  fun K => decide (PySem.W.ks_superIn K (v_C_AnyOf K) (v_C_AnyOf K) "may_set" = some (some (.ref (v_f_Kind_may_set K)))),
  fun K => decide (PySem.W.typeIn K (.ref (v_f_Kind_may_set K)) = some (.type "function")),
  fun K => PySem.W.fnIn K (v_f_Kind_may_set K),
  fun K => decide (PySem.W.mroIn K (v_C_AnyOf K) (.ref (v_C_AnyOf K)) = some true),
  fun K => decide (PySem.W.ks_superIn K (v_C_AnyOf K) (v_C_AnyOf K) "single" = some (some (.ref (v_f_Kind_single K)))),
  fun K => decide (PySem.W.typeIn K (.ref (v_f_Kind_single K)) = some (.type "function")),
  fun K => PySem.W.fnIn K (v_f_Kind_single K),
  fun K => decide (PySem.W.mroIn K (v_C_AnyOf K) (.ref (v_C_AnyOf K)) = some true),
  fun K => decide (PySem.W.ks_superIn K (v_C_Masks K) (v_C_Masks K) "__init__" = some (some (.ref (v_f_Kind_init__ K)))),
  fun K => decide (PySem.W.typeIn K (.ref (v_f_Kind_init__ K)) = some (.type "function")),
  fun K => PySem.W.fnIn K (v_f_Kind_init__ K),
  fun K => decide (PySem.W.mroIn K (v_C_Masks K) (.ref (v_C_Masks K)) = some true),
  fun K => decide (PySem.W.ks_superIn K (v_C_Masks K) (v_C_Masks K) "may_set" = some (some (.ref (v_f_Kind_may_set K)))),
  fun K => decide (PySem.W.typeIn K (.ref (v_f_Kind_may_set K)) = some (.type "function")),
  fun K => PySem.W.fnIn K (v_f_Kind_may_set K),
  fun K => decide (PySem.W.mroIn K (v_C_Masks K) (.ref (v_C_Masks K)) = some true),
  fun K => decide (PySem.W.ks_superIn K (v_C_Masks K) (v_C_Masks K) "single" = some (some (.ref (v_f_Kind_single K)))),
  fun K => decide (PySem.W.typeIn K (.ref (v_f_Kind_single K)) = some (.type "function")),
  fun K => PySem.W.fnIn K (v_f_Kind_single K),
  fun K => decide (PySem.W.mroIn K (v_C_Masks K) (.ref (v_C_Masks K)) = some true),
  fun K => decide (PySem.W.ks_superIn K (v_C_Test K) (v_C_Test K) "__init__" = some (some (.ref (v_f_Kind_init__ K)))),
  fun K => decide (PySem.W.typeIn K (.ref (v_f_Kind_init__ K)) = some (.type "function")),
  fun K => PySem.W.fnIn K (v_f_Kind_init__ K),
  fun K => decide (PySem.W.mroIn K (v_C_Test K) (.ref (v_C_Test K)) = some true),
  fun K => decide (PySem.W.ks_superIn K (v_C_Test K) (v_C_Test K) "may_set" = some (some (.ref (v_f_Kind_may_set K)))),
  fun K => decide (PySem.W.typeIn K (.ref (v_f_Kind_may_set K)) = some (.type "function")),
  fun K => PySem.W.fnIn K (v_f_Kind_may_set K),
  fun K => decide (PySem.W.mroIn K (v_C_Test K) (.ref (v_C_Test K)) = some true)]
def fl_6 : List L3.FrB := [
  fun K => decide (PySem.W.ks_superIn K (v_C_Test K) (v_C_Test K) "single" = some (some (.ref (v_f_Kind_single K)))),
  fun K => decide (PySem.W.typeIn K (.ref (v_f_Kind_single K)) = some (.type "function")),
  fun K => PySem.W.fnIn K (v_f_Kind_single K),
  fun K => decide (PySem.W.mroIn K (v_C_Test K) (.ref (v_C_Test K)) = some true),
  fun K => decide (PySem.W.ks_superIn K (v_C_TestWindow K) (v_C_Test K) "__init__" = some (some (.ref (v_f_Window_init__ K)))),
  fun K => decide (PySem.W.typeIn K (.ref (v_f_Window_init__ K)) = some (.type "function")),
  fun K => PySem.W.fnIn K (v_f_Window_init__ K),
  fun K => decide (PySem.W.mroIn K (v_C_TestWindow K) (.ref (v_C_Test K)) = some true),
  fun K => decide (PySem.W.ks_superIn K (v_C_TestWindow K) (v_C_Test K) "may_set" = some (some (.ref (v_f_Window_may_set K)))),
  fun K => decide (PySem.W.typeIn K (.ref (v_f_Window_may_set K)) = some (.type "function")),
  fun K => PySem.W.fnIn K (v_f_Window_may_set K),
  fun K => decide (PySem.W.mroIn K (v_C_TestWindow K) (.ref (v_C_Test K)) = some true),
  fun K => decide (PySem.W.ks_superIn K (v_C_TestWindow K) (v_C_Test K) "single" = some (some (.ref (v_f_Window_single K)))),
  fun K => decide (PySem.W.typeIn K (.ref (v_f_Window_single K)) = some (.type "function")),
  fun K => PySem.W.fnIn K (v_f_Window_single K),
  fun K => decide (PySem.W.mroIn K (v_C_TestWindow K) (.ref (v_C_Test K)) = some true),
  fun K => decide (PySem.W.ks_superIn K (v_C_TestWindow K) (v_C_TestWindow K) "__init__" = some (some (.ref (v_f_Test_init__ K)))),
  fun K => decide (PySem.W.typeIn K (.ref (v_f_Test_init__ K)) = some (.type "function")),
  fun K => PySem.W.fnIn K (v_f_Test_init__ K),
  fun K => decide (PySem.W.mroIn K (v_C_TestWindow K) (.ref (v_C_TestWindow K)) = some true),
  fun K => decide (PySem.W.ks_superIn K (v_C_TestWindow K) (v_C_Window K) "__init__" = some (some (.ref (v_f_Kind_init__ K)))),
  fun K => decide (PySem.W.typeIn K (.ref (v_f_Kind_init__ K)) = some (.type "function")),
  fun K => PySem.W.fnIn K (v_f_Kind_init__ K),
  fun K => decide (PySem.W.mroIn K (v_C_TestWindow K) (.ref (v_C_Window K)) = some true),
  fun K => decide (PySem.W.ks_superIn K (v_C_TestWindow K) (v_C_Window K) "may_set" = some (some (.ref (v_f_Kind_may_set K)))),
  fun K => decide (PySem.W.typeIn K (.ref (v_f_Kind_may_set K)) = some (.type "function")),
  fun K => PySem.W.fnIn K (v_f_Kind_may_set K),
  fun K => decide (PySem.W.mroIn K (v_C_TestWindow K) (.ref (v_C_Window K)) = some true),
  fun K => decide (PySem.W.ks_superIn K (v_C_TestWindow K) (v_C_Window K) "single" = some (some (.ref (v_f_Kind_single K)))),
  fun K => decide (PySem.W.typeIn K (.ref (v_f_Kind_single K)) = some (.type "function")),
  fun K => PySem.W.fnIn K (v_f_Kind_single K),
  fun K => decide (PySem.W.mroIn K (v_C_TestWindow K) (.ref (v_C_Window K)) = some true),
  fun K => decide (PySem.W.ks_superIn K (v_C_Window K) (v_C_Window K) "__init__" = some (some (.ref (v_f_Kind_init__ K)))),
  fun K => decide (PySem.W.typeIn K (.ref (v_f_Kind_init__ K)) = some (.type "function")),
  fun K => PySem.W.fnIn K (v_f_Kind_init__ K),
  fun K => decide (PySem.W.mroIn K (v_C_Window K) (.ref (v_C_Window K)) = some true),
  fun K => decide (PySem.W.ks_superIn K (v_C_Window K) (v_C_Window K) "may_set" = some (some (.ref (v_f_Kind_may_set K)))),
  fun K => decide (PySem.W.typeIn K (.ref (v_f_Kind_may_set K)) = some (.type "function")),
  fun K => PySem.W.fnIn K (v_f_Kind_may_set K),
  fun K => decide (PySem.W.mroIn K (v_C_Window K) (.ref (v_C_Window K)) = some true)]
def fl_7 : List L3.FrB := [
  fun K => decide (PySem.W.ks_superIn K (v_C_Window K) (v_C_Window K) "single" = some (some (.ref (v_f_Kind_single K)))),
  fun K => decide (PySem.W.typeIn K (.ref (v_f_Kind_single K)) = some (.type "function")),
  fun K => PySem.W.fnIn K (v_f_Kind_single K),
  fun K => decide (PySem.W.mroIn K (v_C_Window K) (.ref (v_C_Window K)) = some true),
  fun K => L3.treB K [(v_C_Kind K), (v_C_Test K), (v_C_Window K), (v_C_AnyOf K), (v_C_TestWindow K), (v_C_Masks K)],
  fun K => decide (PySem.W.nsIn K mainGlobals "is_integer" = some (some (.ref (v_f_is_integer K)))),
  fun K => decide (L3.dfV K (v_f_is_integer K) = .none),
  fun K => PySem.W.codeIn K (L3.cdV K (v_f_is_integer K)) "is_integer",
  fun K => PySem.W.keepIn K (.ref (v_f_is_integer K)),
  fun K => decide (PySem.W.nsIn K mainGlobals "is_between" = some (some (.ref (v_f_is_between K)))),
  fun K => decide (L3.dfV K (v_f_is_between K) = .none),
  fun K => PySem.W.codeIn K (L3.cdV K (v_f_is_between K)) "is_between",
  fun K => PySem.W.keepIn K (.ref (v_f_is_between K)),
  fun K => decide (PySem.W.nsIn K mainGlobals "is_name" = some (some (.ref (v_f_is_name K)))),
  fun K => decide (L3.dfV K (v_f_is_name K) = .none),
  fun K => PySem.W.codeIn K (L3.cdV K (v_f_is_name K)) "is_name",
  fun K => PySem.W.keepIn K (.ref (v_f_is_name K)),
  fun K => decide (PySem.W.nsIn K mainGlobals "are_conditions" = some (some (.ref (v_f_are_conditions K)))),
  fun K => decide (L3.dfV K (v_f_are_conditions K) = .none),
  fun K => PySem.W.codeIn K (L3.cdV K (v_f_are_conditions K)) "are_conditions",
  fun K => PySem.W.keepIn K (.ref (v_f_are_conditions K)),
  fun K => decide (PySem.W.nsIn K mainGlobals "need" = some (some (.ref (v_f_need K)))),
  fun K => decide (L3.dfV K (v_f_need K) = .none),
  fun K => PySem.W.codeIn K (L3.cdV K (v_f_need K)) "need",
  fun K => PySem.W.keepIn K (.ref (v_f_need K)),
  fun K => decide (L3.dfV K (v_f_Kind_init__ K) = .none),
  fun K => PySem.W.codeIn K (L3.cdV K (v_f_Kind_init__ K)) "Kind.__init__",
  fun K => PySem.W.keepIn K (.ref (v_f_Kind_init__ K)),
  fun K => decide (L3.dfV K (v_f_Kind_single K) = .none),
  fun K => PySem.W.codeIn K (L3.cdV K (v_f_Kind_single K)) "Kind.single",
  fun K => PySem.W.keepIn K (.ref (v_f_Kind_single K)),
  fun K => decide (L3.dfV K (v_f_Kind_may_set K) = .none),
  fun K => PySem.W.codeIn K (L3.cdV K (v_f_Kind_may_set K)) "Kind.may_set",
  fun K => PySem.W.keepIn K (.ref (v_f_Kind_may_set K)),
  fun K => decide (L3.dfV K (v_f_AnyOf_may_set K) = .none),
  fun K => PySem.W.codeIn K (L3.cdV K (v_f_AnyOf_may_set K)) "AnyOf.may_set",
  fun K => PySem.W.keepIn K (.ref (v_f_AnyOf_may_set K)),
  fun K => L3.suB K PROG (v_f_AnyOf_may_set K) (v_C_AnyOf K) "self",
  fun K => decide (L3.dfV K (v_f_AnyOf_single K) = .none),
  fun K => PySem.W.codeIn K (L3.cdV K (v_f_AnyOf_single K)) "AnyOf.single"]
def fl_8 : List L3.FrB := [
  fun K => PySem.W.keepIn K (.ref (v_f_AnyOf_single K)),
  fun K => L3.suB K PROG (v_f_AnyOf_single K) (v_C_AnyOf K) "self",
  fun K => decide (L3.dfV K (v_f_Masks_may_set K) = .none),
  fun K => PySem.W.codeIn K (L3.cdV K (v_f_Masks_may_set K)) "Masks.may_set",
  fun K => PySem.W.keepIn K (.ref (v_f_Masks_may_set K)),
  fun K => L3.suB K PROG (v_f_Masks_may_set K) (v_C_Masks K) "self",
  fun K => decide (L3.dfV K (v_f_Masks_single K) = .none),
  fun K => PySem.W.codeIn K (L3.cdV K (v_f_Masks_single K)) "Masks.single",
  fun K => PySem.W.keepIn K (.ref (v_f_Masks_single K)),
  fun K => L3.suB K PROG (v_f_Masks_single K) (v_C_Masks K) "self",
  fun K => decide (L3.dfV K (v_f_Window_may_set K) = .none),
  fun K => PySem.W.codeIn K (L3.cdV K (v_f_Window_may_set K)) "Window.may_set",
  fun K => PySem.W.keepIn K (.ref (v_f_Window_may_set K)),
  fun K => L3.suB K PROG (v_f_Window_may_set K) (v_C_Window K) "self",
  fun K => decide (L3.dfV K (v_f_Test_may_set K) = .none),
  fun K => PySem.W.codeIn K (L3.cdV K (v_f_Test_may_set K)) "Test.may_set",
  fun K => PySem.W.keepIn K (.ref (v_f_Test_may_set K)),
  fun K => L3.suB K PROG (v_f_Test_may_set K) (v_C_Test K) "self",
  fun K => decide (L3.dfV K (v_f_Window_single K) = .none),
  fun K => PySem.W.codeIn K (L3.cdV K (v_f_Window_single K)) "Window.single",
  fun K => PySem.W.keepIn K (.ref (v_f_Window_single K)),
  fun K => L3.suB K PROG (v_f_Window_single K) (v_C_Window K) "self",
  fun K => decide (L3.dfV K (v_f_Test_single K) = .none),
  fun K => PySem.W.codeIn K (L3.cdV K (v_f_Test_single K)) "Test.single",
  fun K => PySem.W.keepIn K (.ref (v_f_Test_single K)),
  fun K => L3.suB K PROG (v_f_Test_single K) (v_C_Test K) "self",
  fun K => decide (L3.dfV K (v_f_Kind_masks K) = .none),
  fun K => PySem.W.codeIn K (L3.cdV K (v_f_Kind_masks K)) "Kind.masks",
  fun K => PySem.W.keepIn K (.ref (v_f_Kind_masks K)),
  fun K => decide (L3.dfV K (v_f_Kind_eq__ K) = .none),
  fun K => PySem.W.codeIn K (L3.cdV K (v_f_Kind_eq__ K)) "Kind.__eq__",
  fun K => PySem.W.keepIn K (.ref (v_f_Kind_eq__ K)),
  fun K => decide (L3.dfV K (v_f_Window_init__ K) = .none),
  fun K => PySem.W.codeIn K (L3.cdV K (v_f_Window_init__ K)) "Window.__init__",
  fun K => PySem.W.keepIn K (.ref (v_f_Window_init__ K)),
  fun K => L3.suB K PROG (v_f_Window_init__ K) (v_C_Window K) "self",
  fun K => decide (L3.dfV K (v_f_Test_init__ K) = .none),
  fun K => PySem.W.codeIn K (L3.cdV K (v_f_Test_init__ K)) "Test.__init__",
  fun K => PySem.W.keepIn K (.ref (v_f_Test_init__ K)),
  fun K => L3.suB K PROG (v_f_Test_init__ K) (v_C_Test K) "self"]
def fl_9 : List L3.FrB := [
  fun K => decide (L3.dfV K (v_f_Window_of K) = .none),
  fun K => PySem.W.codeIn K (L3.cdV K (v_f_Window_of K)) "Window.of",
  fun K => PySem.W.keepIn K (.ref (v_f_Window_of K)),
  fun K => decide (L3.dfV K (v_f_AnyOf_init__ K) = .none),
  fun K => PySem.W.codeIn K (L3.cdV K (v_f_AnyOf_init__ K)) "AnyOf.__init__",
  fun K => PySem.W.keepIn K (.ref (v_f_AnyOf_init__ K)),
  fun K => L3.suB K PROG (v_f_AnyOf_init__ K) (v_C_AnyOf K) "self",
  fun K => decide (L3.dfV K (v_f_AnyOf_of K) = .none),
  fun K => PySem.W.codeIn K (L3.cdV K (v_f_AnyOf_of K)) "AnyOf.of",
  fun K => PySem.W.keepIn K (.ref (v_f_AnyOf_of K)),
  fun K => decide (L3.dfV K (v_f_TestWindow_init__ K) = .none),
  fun K => PySem.W.codeIn K (L3.cdV K (v_f_TestWindow_init__ K)) "TestWindow.__init__",
  fun K => PySem.W.keepIn K (.ref (v_f_TestWindow_init__ K)),
  fun K => L3.suB K PROG (v_f_TestWindow_init__ K) (v_C_TestWindow K) "self",
  fun K => decide (L3.dfV K (v_f_Masks_init__ K) = .none),
  fun K => PySem.W.codeIn K (L3.cdV K (v_f_Masks_init__ K)) "Masks.__init__",
  fun K => PySem.W.keepIn K (.ref (v_f_Masks_init__ K)),
  fun K => L3.suB K PROG (v_f_Masks_init__ K) (v_C_Masks K) "self",
  fun K => decide (PySem.W.nsIn K mainGlobals "_law_pen" = some (some (.ref (v_f_law_pen K)))),
  fun K => decide (L3.dfV K (v_f_law_pen K) = .none),
  fun K => PySem.W.codeIn K (L3.cdV K (v_f_law_pen K)) "_law_pen",
  fun K => PySem.W.keepIn K (.ref (v_f_law_pen K)),
  fun K => decide (PySem.W.nsIn K mainGlobals "_law_draw" = some (some (.ref (v_f_law_draw K)))),
  fun K => decide (L3.dfV K (v_f_law_draw K) = .none),
  fun K => PySem.W.codeIn K (L3.cdV K (v_f_law_draw K)) "_law_draw",
  fun K => PySem.W.keepIn K (.ref (v_f_law_draw K)),
  fun K => decide (PySem.W.nsIn K mainGlobals "_law_pick" = some (some (.ref (v_f_law_pick K)))),
  fun K => decide (L3.dfV K (v_f_law_pick K) = .none),
  fun K => PySem.W.codeIn K (L3.cdV K (v_f_law_pick K)) "_law_pick",
  fun K => PySem.W.keepIn K (.ref (v_f_law_pick K)),
  fun K => decide (PySem.W.nsIn K mainGlobals "_law_mixed" = some (some (.ref (v_f_law_mixed K)))),
  fun K => decide (L3.dfV K (v_f_law_mixed K) = .none),
  fun K => PySem.W.codeIn K (L3.cdV K (v_f_law_mixed K)) "_law_mixed",
  fun K => PySem.W.keepIn K (.ref (v_f_law_mixed K)),
  fun K => decide (PySem.W.nsIn K mainGlobals "_law_names" = some (some (.ref (v_f_law_names K)))),
  fun K => decide (L3.dfV K (v_f_law_names K) = .none),
  fun K => PySem.W.codeIn K (L3.cdV K (v_f_law_names K)) "_law_names",
  fun K => PySem.W.keepIn K (.ref (v_f_law_names K)),
  fun K => decide (PySem.W.nsIn K mainGlobals "_law_kind" = some (some (.ref (v_f_law_kind K)))),
  fun K => decide (L3.dfV K (v_f_law_kind K) = .none)]
def fl_10 : List L3.FrB := [
  fun K => PySem.W.codeIn K (L3.cdV K (v_f_law_kind K)) "_law_kind",
  fun K => PySem.W.keepIn K (.ref (v_f_law_kind K)),
  fun K => decide (PySem.W.nsIn K mainGlobals "_law_both" = some (some (.ref (v_f_law_both K)))),
  fun K => decide (L3.dfV K (v_f_law_both K) = .none),
  fun K => PySem.W.codeIn K (L3.cdV K (v_f_law_both K)) "_law_both",
  fun K => PySem.W.keepIn K (.ref (v_f_law_both K)),
  fun K => decide (PySem.W.nsIn K mainGlobals "_law_made" = some (some (.ref (v_f_law_made K)))),
  fun K => decide (L3.dfV K (v_f_law_made K) = .none),
  fun K => PySem.W.codeIn K (L3.cdV K (v_f_law_made K)) "_law_made",
  fun K => PySem.W.keepIn K (.ref (v_f_law_made K)),
  fun K => decide (PySem.W.nsIn K mainGlobals "_law_full" = some (some (.ref (v_f_law_full K)))),
  fun K => decide (L3.dfV K (v_f_law_full K) = .none),
  fun K => PySem.W.codeIn K (L3.cdV K (v_f_law_full K)) "_law_full",
  fun K => PySem.W.keepIn K (.ref (v_f_law_full K)),
  fun K => decide (PySem.W.nsIn K mainGlobals "_law_alike" = some (some (.ref (v_f_law_alike K)))),
  fun K => decide (L3.dfV K (v_f_law_alike K) = .none),
  fun K => PySem.W.codeIn K (L3.cdV K (v_f_law_alike K)) "_law_alike",
  fun K => PySem.W.keepIn K (.ref (v_f_law_alike K)),
  fun K => decide (PySem.W.nsIn K mainGlobals "_law_is_alone" = some (some (.ref (v_f_law_is_alone K)))),
  fun K => decide (L3.dfV K (v_f_law_is_alone K) = .none),
  fun K => PySem.W.codeIn K (L3.cdV K (v_f_law_is_alone K)) "_law_is_alone",
  fun K => PySem.W.keepIn K (.ref (v_f_law_is_alone K)),
  fun K => decide (PySem.W.nsIn K mainGlobals "_law_is_kind" = some (some (.ref (v_f_law_is_kind K)))),
  fun K => decide (L3.dfV K (v_f_law_is_kind K) = .none),
  fun K => PySem.W.codeIn K (L3.cdV K (v_f_law_is_kind K)) "_law_is_kind",
  fun K => PySem.W.keepIn K (.ref (v_f_law_is_kind K)),
  fun K => decide (PySem.W.nsIn K mainGlobals "law" = some (some (.ref (v_f_law K)))),
  fun K => decide (L3.dfV K (v_f_law K) = .none),
  fun K => PySem.W.codeIn K (L3.cdV K (v_f_law K)) "law",
  fun K => PySem.W.keepIn K (.ref (v_f_law K)),
  fun K => decide (PySem.W.nsIn K mainGlobals "DIGITS" = some (some (.str "0123456789" (v_t_DIGITS K)))),
  fun K => decide (PySem.W.nsIn K mainGlobals "LETTERS" = some (some (.str "abcdefghijklmnopqrstuvwxyz" (v_t_LETTERS K)))),
  fun K => decide (PySem.W.nsIn K mainGlobals "LONGEST" = some (some (.int 8 (v_t_LONGEST K)))),
  fun K => decide (PySem.W.nsIn K mainGlobals "MOST_BIT" = some (some (.int 7 (v_t_MOST_BIT K)))),
  fun K => decide (PySem.W.nsIn K mainGlobals "MOST_CONDITIONS" = some (some (.int 5 (v_t_MOST_CONDITIONS K)))),
  fun K => decide (PySem.W.nsIn K mainGlobals "MOST_MASK" = some (some (.int 255 (v_t_MOST_MASK K)))),
  fun K => decide (PySem.W.nsIn K mainGlobals "RESERVED" = some (some (.ref (v_a_RESERVED K)))),
  fun K => decide (L3.sqV K (v_a_RESERVED K) = some [(.str "to" (v_t_RESERVED_0 K)), (.str "if" (v_t_RESERVED_1 K)), (.str "tag" (v_t_RESERVED_2 K)), (.str "all" (v_t_RESERVED_3 K)), (.str "none" (v_t_RESERVED_4 K))]),
  fun K => decide (PySem.W.nsIn K mainGlobals "abs" = some none),
  fun K => decide (PySem.W.nsIn K mainGlobals "all" = some none)]
def fl_11 : List L3.FrB := [
  fun K => decide (PySem.W.nsIn K mainGlobals "bool" = some none),
  fun K => decide (PySem.W.nsIn K mainGlobals "dict" = some none),
  fun K => decide (PySem.W.nsIn K mainGlobals "enumerate" = some none),
  fun K => decide (PySem.W.nsIn K mainGlobals "int" = some none),
  fun K => decide (PySem.W.nsIn K mainGlobals "isinstance" = some none),
  fun K => decide (PySem.W.nsIn K mainGlobals "len" = some none),
  fun K => decide (PySem.W.nsIn K mainGlobals "list" = some none),
  fun K => decide (PySem.W.nsIn K mainGlobals "min" = some none),
  fun K => decide (PySem.W.nsIn K mainGlobals "range" = some none),
  fun K => decide (PySem.W.nsIn K mainGlobals "repr" = some none),
  fun K => decide (PySem.W.nsIn K mainGlobals "set" = some none),
  fun K => decide (PySem.W.nsIn K mainGlobals "sorted" = some none),
  fun K => decide (PySem.W.nsIn K mainGlobals "str" = some none),
  fun K => decide (PySem.W.nsIn K mainGlobals "super" = some none),
  fun K => decide (PySem.W.nsIn K mainGlobals "tuple" = some none)]
def fls : List (List L3.FrB) := [fl_0, fl_1, fl_2, fl_3, fl_4, fl_5, fl_6, fl_7, fl_8, fl_9, fl_10, fl_11]
def fns : List (PySem.W.Frag → Addr) := [v_f_is_integer, v_f_is_between, v_f_is_name, v_f_are_conditions, v_f_need, v_f_Kind_init__, v_f_Kind_single, v_f_Kind_may_set, v_f_AnyOf_may_set, v_f_AnyOf_single, v_f_Masks_may_set, v_f_Masks_single, v_f_Window_may_set, v_f_Test_may_set, v_f_Window_single, v_f_Test_single, v_f_Kind_masks, v_f_Kind_eq__, v_f_Window_init__, v_f_Test_init__, v_f_Window_of, v_f_AnyOf_init__, v_f_AnyOf_of, v_f_TestWindow_init__, v_f_Masks_init__, v_f_law_pen, v_f_law_draw, v_f_law_pick, v_f_law_mixed, v_f_law_names, v_f_law_kind, v_f_law_both, v_f_law_made, v_f_law_full, v_f_law_alike, v_f_law_is_alone, v_f_law_is_kind, v_f_law]
def fvs : List L3.FV := [
  L3.fnW "is_integer" "is_integer" (defArgs s_is_integer) (defBody s_is_integer) (defScope s_is_integer),
  L3.fnW "is_between" "is_between" (defArgs s_is_between) (defBody s_is_between) (defScope s_is_between),
  L3.fnW "is_name" "is_name" (defArgs s_is_name) (defBody s_is_name) (defScope s_is_name),
  L3.fnW "are_conditions" "are_conditions" (defArgs s_are_conditions) (defBody s_are_conditions) (defScope s_are_conditions),
  L3.fnW "need" "need" (defArgs s_need) (defBody s_need) (defScope s_need),
  L3.fnW "__init__" "Kind.__init__" (defArgs s_Kind_init__) (defBody s_Kind_init__) (defScope s_Kind_init__),
  L3.fnW "single" "Kind.single" (defArgs s_Kind_single) (defBody s_Kind_single) (defScope s_Kind_single),
  L3.fnW "may_set" "Kind.may_set" (defArgs s_Kind_may_set) (defBody s_Kind_may_set) (defScope s_Kind_may_set),
  L3.fnWS "may_set" "AnyOf.may_set" (defArgs s_AnyOf_may_set) (defBody s_AnyOf_may_set) (defScope s_AnyOf_may_set),
  L3.fnWS "single" "AnyOf.single" (defArgs s_AnyOf_single) (defBody s_AnyOf_single) (defScope s_AnyOf_single),
  L3.fnWS "may_set" "Masks.may_set" (defArgs s_Masks_may_set) (defBody s_Masks_may_set) (defScope s_Masks_may_set),
  L3.fnWS "single" "Masks.single" (defArgs s_Masks_single) (defBody s_Masks_single) (defScope s_Masks_single),
  L3.fnWS "may_set" "Window.may_set" (defArgs s_Window_may_set) (defBody s_Window_may_set) (defScope s_Window_may_set),
  L3.fnWS "may_set" "Test.may_set" (defArgs s_Test_may_set) (defBody s_Test_may_set) (defScope s_Test_may_set),
  L3.fnWS "single" "Window.single" (defArgs s_Window_single) (defBody s_Window_single) (defScope s_Window_single),
  L3.fnWS "single" "Test.single" (defArgs s_Test_single) (defBody s_Test_single) (defScope s_Test_single),
  L3.fnW "masks" "Kind.masks" (defArgs s_Kind_masks) (defBody s_Kind_masks) (defScope s_Kind_masks),
  L3.fnW "__eq__" "Kind.__eq__" (defArgs s_Kind_eq__) (defBody s_Kind_eq__) (defScope s_Kind_eq__),
  L3.fnWS "__init__" "Window.__init__" (defArgs s_Window_init__) (defBody s_Window_init__) (defScope s_Window_init__),
  L3.fnWS "__init__" "Test.__init__" (defArgs s_Test_init__) (defBody s_Test_init__) (defScope s_Test_init__),
  L3.fnW "of" "Window.of" (defArgs s_Window_of) (defBody s_Window_of) (defScope s_Window_of),
  L3.fnWS "__init__" "AnyOf.__init__" (defArgs s_AnyOf_init__) (defBody s_AnyOf_init__) (defScope s_AnyOf_init__),
  L3.fnW "of" "AnyOf.of" (defArgs s_AnyOf_of) (defBody s_AnyOf_of) (defScope s_AnyOf_of),
  L3.fnWS "__init__" "TestWindow.__init__" (defArgs s_TestWindow_init__) (defBody s_TestWindow_init__) (defScope s_TestWindow_init__),
  L3.fnWS "__init__" "Masks.__init__" (defArgs s_Masks_init__) (defBody s_Masks_init__) (defScope s_Masks_init__),
  L3.fnW "_law_pen" "_law_pen" (defArgs s_law_pen) (defBody s_law_pen) (defScope s_law_pen),
  L3.fnW "_law_draw" "_law_draw" (defArgs s_law_draw) (defBody s_law_draw) (defScope s_law_draw),
  L3.fnW "_law_pick" "_law_pick" (defArgs s_law_pick) (defBody s_law_pick) (defScope s_law_pick),
  L3.fnW "_law_mixed" "_law_mixed" (defArgs s_law_mixed) (defBody s_law_mixed) (defScope s_law_mixed),
  L3.fnW "_law_names" "_law_names" (defArgs s_law_names) (defBody s_law_names) (defScope s_law_names),
  L3.fnW "_law_kind" "_law_kind" (defArgs s_law_kind) (defBody s_law_kind) (defScope s_law_kind),
  L3.fnW "_law_both" "_law_both" (defArgs s_law_both) (defBody s_law_both) (defScope s_law_both),
  L3.fnW "_law_made" "_law_made" (defArgs s_law_made) (defBody s_law_made) (defScope s_law_made),
  L3.fnW "_law_full" "_law_full" (defArgs s_law_full) (defBody s_law_full) (defScope s_law_full),
  L3.fnW "_law_alike" "_law_alike" (defArgs s_law_alike) (defBody s_law_alike) (defScope s_law_alike),
  L3.fnW "_law_is_alone" "_law_is_alone" (defArgs s_law_is_alone) (defBody s_law_is_alone) (defScope s_law_is_alone),
  L3.fnW "_law_is_kind" "_law_is_kind" (defArgs s_law_is_kind) (defBody s_law_is_kind) (defScope s_law_is_kind),
  L3.fnW "law" "law" (defArgs s_law) (defBody s_law) (defScope s_law)]
def names : List PySem.Str := (["_wall", "OrError", "InvalidKind", "is_integer", "is_between", "LETTERS", "DIGITS", "RESERVED", "LONGEST", "is_name", "MOST_BIT", "MOST_MASK", "MOST_CONDITIONS", "are_conditions", "need", "Kind", "Test", "Window", "AnyOf", "TestWindow", "Masks", "_law_pen", "_law_draw", "_law_pick", "_law_mixed", "_law_names", "_law_kind", "_law_both", "_law_made", "_law_mask"] : List PySem.Str) ++ (["_law_full", "_law_alike", "_law_is_alone", "_law_is_kind"] : List PySem.Str)
theorem facts {l : PySem.W.OpenLaw} {w : World} {K : PySem.W.Frag} {h : Heap} {mg : Str → Option Value} {fa : Addr} (hsm : l.prog.main = PROG.main) (X : K.In h) (G : h.Ns mainGlobals mg) (hfa : mg "law" = some (.ref fa)) (c : L3.lookB fls fns K = (true, fvs)) :
    ∃ fd : FuncData, (∀ (s : Shared) (v : Value), BindsTo s fd ⟨[v], []⟩ [("_law_script", v)]) ∧ ∀ base : Heap, K.In base → base.Ns mainGlobals mg → FnG l.prog w K mg base (L2.CX l.prog w) 16 fa fd p_law (toSp K sp_law) := by
  obtain ⟨oc_is_integer, od_is_integer, sl_is_integer, kV_is_integer, dc_is_integer, pm_is_integer, an_is_integer, ct_is_integer, p_l_is_integer⟩ := L3.fn_look (L3.look_v c 0 rfl rfl) (of_decide_eq_true (L3.look_f c 7 6 rfl rfl))
  obtain ⟨oc_is_between, od_is_between, sl_is_between, kV_is_between, dc_is_between, pm_is_between, an_is_between, ct_is_between, p_l_is_between⟩ := L3.fn_look (L3.look_v c 1 rfl rfl) (of_decide_eq_true (L3.look_f c 7 10 rfl rfl))
  obtain ⟨oc_is_name, od_is_name, sl_is_name, kV_is_name, dc_is_name, pm_is_name, an_is_name, ct_is_name, p_l_is_name⟩ := L3.fn_look (L3.look_v c 2 rfl rfl) (of_decide_eq_true (L3.look_f c 7 14 rfl rfl))
  obtain ⟨oc_are_conditions, od_are_conditions, sl_are_conditions, kV_are_conditions, dc_are_conditions, pm_are_conditions, an_are_conditions, ct_are_conditions, p_l_are_conditions⟩ := L3.fn_look (L3.look_v c 3 rfl rfl) (of_decide_eq_true (L3.look_f c 7 18 rfl rfl))
  obtain ⟨oc_need, od_need, sl_need, kV_need, dc_need, pm_need, an_need, ct_need, p_l_need⟩ := L3.fn_look (L3.look_v c 4 rfl rfl) (of_decide_eq_true (L3.look_f c 7 22 rfl rfl))
  obtain ⟨oc_Kind_init__, od_Kind_init__, sl_Kind_init__, kV_Kind_init__, dc_Kind_init__, pm_Kind_init__, an_Kind_init__, ct_Kind_init__, p_l_Kind_init__⟩ := L3.fn_look (L3.look_v c 5 rfl rfl) (of_decide_eq_true (L3.look_f c 7 25 rfl rfl))
  obtain ⟨oc_Kind_single, od_Kind_single, sl_Kind_single, kV_Kind_single, dc_Kind_single, pm_Kind_single, an_Kind_single, ct_Kind_single, p_l_Kind_single⟩ := L3.fn_look (L3.look_v c 6 rfl rfl) (of_decide_eq_true (L3.look_f c 7 28 rfl rfl))
  obtain ⟨oc_Kind_may_set, od_Kind_may_set, sl_Kind_may_set, kV_Kind_may_set, dc_Kind_may_set, pm_Kind_may_set, an_Kind_may_set, ct_Kind_may_set, p_l_Kind_may_set⟩ := L3.fn_look (L3.look_v c 7 rfl rfl) (of_decide_eq_true (L3.look_f c 7 31 rfl rfl))
  obtain ⟨oc_AnyOf_may_set, od_AnyOf_may_set, sl_AnyOf_may_set, kV_AnyOf_may_set, dc_AnyOf_may_set, pm_AnyOf_may_set, an_AnyOf_may_set, ct_AnyOf_may_set, p_l_AnyOf_may_set⟩ := L3.fn_lookS (L3.look_v c 8 rfl rfl) (of_decide_eq_true (L3.look_f c 7 34 rfl rfl))
  obtain ⟨oc_AnyOf_single, od_AnyOf_single, sl_AnyOf_single, kV_AnyOf_single, dc_AnyOf_single, pm_AnyOf_single, an_AnyOf_single, ct_AnyOf_single, p_l_AnyOf_single⟩ := L3.fn_lookS (L3.look_v c 9 rfl rfl) (of_decide_eq_true (L3.look_f c 7 38 rfl rfl))
  obtain ⟨oc_Masks_may_set, od_Masks_may_set, sl_Masks_may_set, kV_Masks_may_set, dc_Masks_may_set, pm_Masks_may_set, an_Masks_may_set, ct_Masks_may_set, p_l_Masks_may_set⟩ := L3.fn_lookS (L3.look_v c 10 rfl rfl) (of_decide_eq_true (L3.look_f c 8 2 rfl rfl))
  obtain ⟨oc_Masks_single, od_Masks_single, sl_Masks_single, kV_Masks_single, dc_Masks_single, pm_Masks_single, an_Masks_single, ct_Masks_single, p_l_Masks_single⟩ := L3.fn_lookS (L3.look_v c 11 rfl rfl) (of_decide_eq_true (L3.look_f c 8 6 rfl rfl))
  obtain ⟨oc_Window_may_set, od_Window_may_set, sl_Window_may_set, kV_Window_may_set, dc_Window_may_set, pm_Window_may_set, an_Window_may_set, ct_Window_may_set, p_l_Window_may_set⟩ := L3.fn_lookS (L3.look_v c 12 rfl rfl) (of_decide_eq_true (L3.look_f c 8 10 rfl rfl))
  obtain ⟨oc_Test_may_set, od_Test_may_set, sl_Test_may_set, kV_Test_may_set, dc_Test_may_set, pm_Test_may_set, an_Test_may_set, ct_Test_may_set, p_l_Test_may_set⟩ := L3.fn_lookS (L3.look_v c 13 rfl rfl) (of_decide_eq_true (L3.look_f c 8 14 rfl rfl))
  obtain ⟨oc_Window_single, od_Window_single, sl_Window_single, kV_Window_single, dc_Window_single, pm_Window_single, an_Window_single, ct_Window_single, p_l_Window_single⟩ := L3.fn_lookS (L3.look_v c 14 rfl rfl) (of_decide_eq_true (L3.look_f c 8 18 rfl rfl))
  obtain ⟨oc_Test_single, od_Test_single, sl_Test_single, kV_Test_single, dc_Test_single, pm_Test_single, an_Test_single, ct_Test_single, p_l_Test_single⟩ := L3.fn_lookS (L3.look_v c 15 rfl rfl) (of_decide_eq_true (L3.look_f c 8 22 rfl rfl))
  obtain ⟨oc_Kind_masks, od_Kind_masks, sl_Kind_masks, kV_Kind_masks, dc_Kind_masks, pm_Kind_masks, an_Kind_masks, ct_Kind_masks, p_l_Kind_masks⟩ := L3.fn_look (L3.look_v c 16 rfl rfl) (of_decide_eq_true (L3.look_f c 8 26 rfl rfl))
  obtain ⟨oc_Kind_eq__, od_Kind_eq__, sl_Kind_eq__, kV_Kind_eq__, dc_Kind_eq__, pm_Kind_eq__, an_Kind_eq__, ct_Kind_eq__, p_l_Kind_eq__⟩ := L3.fn_look (L3.look_v c 17 rfl rfl) (of_decide_eq_true (L3.look_f c 8 29 rfl rfl))
  obtain ⟨oc_Window_init__, od_Window_init__, sl_Window_init__, kV_Window_init__, dc_Window_init__, pm_Window_init__, an_Window_init__, ct_Window_init__, p_l_Window_init__⟩ := L3.fn_lookS (L3.look_v c 18 rfl rfl) (of_decide_eq_true (L3.look_f c 8 32 rfl rfl))
  obtain ⟨oc_Test_init__, od_Test_init__, sl_Test_init__, kV_Test_init__, dc_Test_init__, pm_Test_init__, an_Test_init__, ct_Test_init__, p_l_Test_init__⟩ := L3.fn_lookS (L3.look_v c 19 rfl rfl) (of_decide_eq_true (L3.look_f c 8 36 rfl rfl))
  obtain ⟨oc_Window_of, od_Window_of, sl_Window_of, kV_Window_of, dc_Window_of, pm_Window_of, an_Window_of, ct_Window_of, p_l_Window_of⟩ := L3.fn_look (L3.look_v c 20 rfl rfl) (of_decide_eq_true (L3.look_f c 9 0 rfl rfl))
  obtain ⟨oc_AnyOf_init__, od_AnyOf_init__, sl_AnyOf_init__, kV_AnyOf_init__, dc_AnyOf_init__, pm_AnyOf_init__, an_AnyOf_init__, ct_AnyOf_init__, p_l_AnyOf_init__⟩ := L3.fn_lookS (L3.look_v c 21 rfl rfl) (of_decide_eq_true (L3.look_f c 9 3 rfl rfl))
  obtain ⟨oc_AnyOf_of, od_AnyOf_of, sl_AnyOf_of, kV_AnyOf_of, dc_AnyOf_of, pm_AnyOf_of, an_AnyOf_of, ct_AnyOf_of, p_l_AnyOf_of⟩ := L3.fn_look (L3.look_v c 22 rfl rfl) (of_decide_eq_true (L3.look_f c 9 7 rfl rfl))
  obtain ⟨oc_TestWindow_init__, od_TestWindow_init__, sl_TestWindow_init__, kV_TestWindow_init__, dc_TestWindow_init__, pm_TestWindow_init__, an_TestWindow_init__, ct_TestWindow_init__, p_l_TestWindow_init__⟩ := L3.fn_lookS (L3.look_v c 23 rfl rfl) (of_decide_eq_true (L3.look_f c 9 10 rfl rfl))
  obtain ⟨oc_Masks_init__, od_Masks_init__, sl_Masks_init__, kV_Masks_init__, dc_Masks_init__, pm_Masks_init__, an_Masks_init__, ct_Masks_init__, p_l_Masks_init__⟩ := L3.fn_lookS (L3.look_v c 24 rfl rfl) (of_decide_eq_true (L3.look_f c 9 14 rfl rfl))
  obtain ⟨oc_law_pen, od_law_pen, sl_law_pen, kV_law_pen, dc_law_pen, pm_law_pen, an_law_pen, ct_law_pen, p_l_law_pen⟩ := L3.fn_look (L3.look_v c 25 rfl rfl) (of_decide_eq_true (L3.look_f c 9 19 rfl rfl))
  obtain ⟨oc_law_draw, od_law_draw, sl_law_draw, kV_law_draw, dc_law_draw, pm_law_draw, an_law_draw, ct_law_draw, p_l_law_draw⟩ := L3.fn_look (L3.look_v c 26 rfl rfl) (of_decide_eq_true (L3.look_f c 9 23 rfl rfl))
  obtain ⟨oc_law_pick, od_law_pick, sl_law_pick, kV_law_pick, dc_law_pick, pm_law_pick, an_law_pick, ct_law_pick, p_l_law_pick⟩ := L3.fn_look (L3.look_v c 27 rfl rfl) (of_decide_eq_true (L3.look_f c 9 27 rfl rfl))
  obtain ⟨oc_law_mixed, od_law_mixed, sl_law_mixed, kV_law_mixed, dc_law_mixed, pm_law_mixed, an_law_mixed, ct_law_mixed, p_l_law_mixed⟩ := L3.fn_look (L3.look_v c 28 rfl rfl) (of_decide_eq_true (L3.look_f c 9 31 rfl rfl))
  obtain ⟨oc_law_names, od_law_names, sl_law_names, kV_law_names, dc_law_names, pm_law_names, an_law_names, ct_law_names, p_l_law_names⟩ := L3.fn_look (L3.look_v c 29 rfl rfl) (of_decide_eq_true (L3.look_f c 9 35 rfl rfl))
  obtain ⟨oc_law_kind, od_law_kind, sl_law_kind, kV_law_kind, dc_law_kind, pm_law_kind, an_law_kind, ct_law_kind, p_l_law_kind⟩ := L3.fn_look (L3.look_v c 30 rfl rfl) (of_decide_eq_true (L3.look_f c 9 39 rfl rfl))
  obtain ⟨oc_law_both, od_law_both, sl_law_both, kV_law_both, dc_law_both, pm_law_both, an_law_both, ct_law_both, p_l_law_both⟩ := L3.fn_look (L3.look_v c 31 rfl rfl) (of_decide_eq_true (L3.look_f c 10 3 rfl rfl))
  obtain ⟨oc_law_made, od_law_made, sl_law_made, kV_law_made, dc_law_made, pm_law_made, an_law_made, ct_law_made, p_l_law_made⟩ := L3.fn_look (L3.look_v c 32 rfl rfl) (of_decide_eq_true (L3.look_f c 10 7 rfl rfl))
  obtain ⟨oc_law_full, od_law_full, sl_law_full, kV_law_full, dc_law_full, pm_law_full, an_law_full, ct_law_full, p_l_law_full⟩ := L3.fn_look (L3.look_v c 33 rfl rfl) (of_decide_eq_true (L3.look_f c 10 11 rfl rfl))
  obtain ⟨oc_law_alike, od_law_alike, sl_law_alike, kV_law_alike, dc_law_alike, pm_law_alike, an_law_alike, ct_law_alike, p_l_law_alike⟩ := L3.fn_look (L3.look_v c 34 rfl rfl) (of_decide_eq_true (L3.look_f c 10 15 rfl rfl))
  obtain ⟨oc_law_is_alone, od_law_is_alone, sl_law_is_alone, kV_law_is_alone, dc_law_is_alone, pm_law_is_alone, an_law_is_alone, ct_law_is_alone, p_l_law_is_alone⟩ := L3.fn_look (L3.look_v c 35 rfl rfl) (of_decide_eq_true (L3.look_f c 10 19 rfl rfl))
  obtain ⟨oc_law_is_kind, od_law_is_kind, sl_law_is_kind, kV_law_is_kind, dc_law_is_kind, pm_law_is_kind, an_law_is_kind, ct_law_is_kind, p_l_law_is_kind⟩ := L3.fn_look (L3.look_v c 36 rfl rfl) (of_decide_eq_true (L3.look_f c 10 23 rfl rfl))
  obtain ⟨oc_law, od_law, sl_law, kV_law, dc_law, pm_law, an_law, ct_law, p_l_law⟩ := L3.fn_look (L3.look_v c 37 rfl rfl) (of_decide_eq_true (L3.look_f c 10 27 rfl rfl))
  obtain ⟨od_RESERVED, n_RESERVED, sl_RESERVED, p_k_RESERVED⟩ := L3.sq_look (of_decide_eq_true (L3.look_f c 10 37 rfl rfl))
  exact all_mk hsm X G hfa (of_decide_eq_true (L3.look_f c 0 0 rfl rfl)) (of_decide_eq_true (L3.look_f c 0 1 rfl rfl)) (of_decide_eq_true (L3.look_f c 0 2 rfl rfl)) (of_decide_eq_true (L3.look_f c 0 3 rfl rfl)) (of_decide_eq_true (L3.look_f c 0 4 rfl rfl)) (of_decide_eq_true (L3.look_f c 0 5 rfl rfl)) (L3.look_f c 0 6 rfl rfl) (L3.look_f c 0 7 rfl rfl) (L3.look_f c 0 8 rfl rfl) (of_decide_eq_true (L3.look_f c 0 9 rfl rfl)) (L3.look_f c 0 10 rfl rfl) (L3.look_f c 0 11 rfl rfl) (L3.look_f c 0 12 rfl rfl) (of_decide_eq_true (L3.look_f c 0 13 rfl rfl)) (L3.look_f c 0 14 rfl rfl) (L3.look_f c 0 15 rfl rfl) (L3.look_f c 0 16 rfl rfl) (of_decide_eq_true (L3.look_f c 0 17 rfl rfl)) (L3.look_f c 0 18 rfl rfl) (L3.look_f c 0 19 rfl rfl) (L3.look_f c 0 20 rfl rfl) (of_decide_eq_true (L3.look_f c 0 21 rfl rfl)) (L3.look_f c 0 22 rfl rfl) (L3.look_f c 0 23 rfl rfl) (L3.look_f c 0 24 rfl rfl) (of_decide_eq_true (L3.look_f c 0 25 rfl rfl)) (L3.look_f c 0 26 rfl rfl) (L3.look_f c 0 27 rfl rfl) (L3.look_f c 0 28 rfl rfl) (of_decide_eq_true (L3.look_f c 0 29 rfl rfl)) (of_decide_eq_true (L3.look_f c 0 30 rfl rfl)) (of_decide_eq_true (L3.look_f c 0 31 rfl rfl)) (of_decide_eq_true (L3.look_f c 0 32 rfl rfl)) (of_decide_eq_true (L3.look_f c 0 33 rfl rfl)) (of_decide_eq_true (L3.look_f c 0 34 rfl rfl)) (of_decide_eq_true (L3.look_f c 0 35 rfl rfl)) (of_decide_eq_true (L3.look_f c 0 36 rfl rfl)) (of_decide_eq_true (L3.look_f c 0 37 rfl rfl)) (of_decide_eq_true (L3.look_f c 0 38 rfl rfl)) (of_decide_eq_true (L3.look_f c 0 39 rfl rfl)) (of_decide_eq_true (L3.look_f c 1 0 rfl rfl)) (of_decide_eq_true (L3.look_f c 1 1 rfl rfl)) (of_decide_eq_true (L3.look_f c 1 2 rfl rfl)) (of_decide_eq_true (L3.look_f c 1 3 rfl rfl)) (of_decide_eq_true (L3.look_f c 1 4 rfl rfl)) (of_decide_eq_true (L3.look_f c 1 5 rfl rfl)) (of_decide_eq_true (L3.look_f c 1 6 rfl rfl)) (of_decide_eq_true (L3.look_f c 1 7 rfl rfl)) (of_decide_eq_true (L3.look_f c 1 8 rfl rfl)) (of_decide_eq_true (L3.look_f c 1 9 rfl rfl)) (of_decide_eq_true (L3.look_f c 1 10 rfl rfl)) (of_decide_eq_true (L3.look_f c 1 11 rfl rfl)) (of_decide_eq_true (L3.look_f c 1 12 rfl rfl)) (of_decide_eq_true (L3.look_f c 1 13 rfl rfl)) (of_decide_eq_true (L3.look_f c 1 14 rfl rfl)) (of_decide_eq_true (L3.look_f c 1 15 rfl rfl)) (of_decide_eq_true (L3.look_f c 1 16 rfl rfl)) (of_decide_eq_true (L3.look_f c 1 17 rfl rfl)) (of_decide_eq_true (L3.look_f c 1 18 rfl rfl)) (of_decide_eq_true (L3.look_f c 1 19 rfl rfl)) (of_decide_eq_true (L3.look_f c 1 20 rfl rfl)) (of_decide_eq_true (L3.look_f c 1 21 rfl rfl)) (of_decide_eq_true (L3.look_f c 1 22 rfl rfl)) (of_decide_eq_true (L3.look_f c 1 23 rfl rfl)) (of_decide_eq_true (L3.look_f c 1 24 rfl rfl)) (of_decide_eq_true (L3.look_f c 1 25 rfl rfl)) (of_decide_eq_true (L3.look_f c 1 26 rfl rfl)) (of_decide_eq_true (L3.look_f c 1 27 rfl rfl)) (of_decide_eq_true (L3.look_f c 1 28 rfl rfl)) (of_decide_eq_true (L3.look_f c 1 29 rfl rfl)) (of_decide_eq_true (L3.look_f c 1 30 rfl rfl)) (of_decide_eq_true (L3.look_f c 1 31 rfl rfl)) (of_decide_eq_true (L3.look_f c 1 32 rfl rfl)) (of_decide_eq_true (L3.look_f c 1 33 rfl rfl)) (of_decide_eq_true (L3.look_f c 1 34 rfl rfl)) (of_decide_eq_true (L3.look_f c 1 35 rfl rfl)) (of_decide_eq_true (L3.look_f c 1 36 rfl rfl)) (of_decide_eq_true (L3.look_f c 1 37 rfl rfl)) (of_decide_eq_true (L3.look_f c 1 38 rfl rfl)) (of_decide_eq_true (L3.look_f c 1 39 rfl rfl)) (of_decide_eq_true (L3.look_f c 2 0 rfl rfl)) (of_decide_eq_true (L3.look_f c 2 1 rfl rfl)) (of_decide_eq_true (L3.look_f c 2 2 rfl rfl)) (of_decide_eq_true (L3.look_f c 2 3 rfl rfl)) (of_decide_eq_true (L3.look_f c 2 4 rfl rfl)) (of_decide_eq_true (L3.look_f c 2 5 rfl rfl)) (of_decide_eq_true (L3.look_f c 2 6 rfl rfl)) (of_decide_eq_true (L3.look_f c 2 7 rfl rfl)) (of_decide_eq_true (L3.look_f c 2 8 rfl rfl)) (of_decide_eq_true (L3.look_f c 2 9 rfl rfl)) (of_decide_eq_true (L3.look_f c 2 10 rfl rfl)) (of_decide_eq_true (L3.look_f c 2 11 rfl rfl)) (of_decide_eq_true (L3.look_f c 2 12 rfl rfl)) (of_decide_eq_true (L3.look_f c 2 13 rfl rfl)) (of_decide_eq_true (L3.look_f c 2 14 rfl rfl)) (of_decide_eq_true (L3.look_f c 2 15 rfl rfl)) (of_decide_eq_true (L3.look_f c 2 16 rfl rfl)) (L3.look_f c 2 17 rfl rfl) (of_decide_eq_true (L3.look_f c 2 18 rfl rfl)) (L3.look_f c 2 19 rfl rfl) (of_decide_eq_true (L3.look_f c 2 20 rfl rfl)) (L3.look_f c 2 21 rfl rfl) (of_decide_eq_true (L3.look_f c 2 22 rfl rfl)) (L3.look_f c 2 23 rfl rfl) (of_decide_eq_true (L3.look_f c 2 24 rfl rfl)) (L3.look_f c 2 25 rfl rfl) (of_decide_eq_true (L3.look_f c 2 26 rfl rfl)) (L3.look_f c 2 27 rfl rfl) (of_decide_eq_true (L3.look_f c 2 28 rfl rfl)) (L3.look_f c 2 29 rfl rfl) (of_decide_eq_true (L3.look_f c 2 30 rfl rfl)) (L3.look_f c 2 31 rfl rfl) (of_decide_eq_true (L3.look_f c 2 32 rfl rfl)) (L3.look_f c 2 33 rfl rfl) (of_decide_eq_true (L3.look_f c 2 34 rfl rfl)) (L3.look_f c 2 35 rfl rfl) (of_decide_eq_true (L3.look_f c 2 36 rfl rfl)) (L3.look_f c 2 37 rfl rfl) (of_decide_eq_true (L3.look_f c 2 38 rfl rfl)) (L3.look_f c 2 39 rfl rfl) (of_decide_eq_true (L3.look_f c 3 0 rfl rfl)) (L3.look_f c 3 1 rfl rfl) (of_decide_eq_true (L3.look_f c 3 2 rfl rfl)) (L3.look_f c 3 3 rfl rfl) (of_decide_eq_true (L3.look_f c 3 4 rfl rfl)) (L3.look_f c 3 5 rfl rfl) (of_decide_eq_true (L3.look_f c 3 6 rfl rfl)) (L3.look_f c 3 7 rfl rfl) (of_decide_eq_true (L3.look_f c 3 8 rfl rfl)) (L3.look_f c 3 9 rfl rfl) (of_decide_eq_true (L3.look_f c 3 10 rfl rfl)) (L3.look_f c 3 11 rfl rfl) (L3.look_f c 3 12 rfl rfl) (of_decide_eq_true (L3.look_f c 3 13 rfl rfl)) (L3.look_f c 3 14 rfl rfl) (L3.look_f c 3 15 rfl rfl) (L3.look_f c 3 16 rfl rfl) (of_decide_eq_true (L3.look_f c 3 17 rfl rfl)) (L3.look_f c 3 18 rfl rfl) (L3.look_f c 3 19 rfl rfl) (L3.look_f c 3 20 rfl rfl) (of_decide_eq_true (L3.look_f c 3 21 rfl rfl)) (L3.look_f c 3 22 rfl rfl) (L3.look_f c 3 23 rfl rfl) (L3.look_f c 3 24 rfl rfl) (of_decide_eq_true (L3.look_f c 3 25 rfl rfl)) (L3.look_f c 3 26 rfl rfl) (L3.look_f c 3 27 rfl rfl) (L3.look_f c 3 28 rfl rfl) (of_decide_eq_true (L3.look_f c 3 29 rfl rfl)) (L3.look_f c 3 30 rfl rfl) (L3.look_f c 3 31 rfl rfl) (L3.look_f c 3 32 rfl rfl) (of_decide_eq_true (L3.look_f c 3 33 rfl rfl)) (L3.look_f c 3 34 rfl rfl) (L3.look_f c 3 35 rfl rfl) (of_decide_eq_true (L3.look_f c 3 36 rfl rfl)) (of_decide_eq_true (L3.look_f c 3 37 rfl rfl)) (of_decide_eq_true (L3.look_f c 3 38 rfl rfl)) (of_decide_eq_true (L3.look_f c 3 39 rfl rfl)) (of_decide_eq_true (L3.look_f c 4 0 rfl rfl)) (of_decide_eq_true (L3.look_f c 4 1 rfl rfl)) (of_decide_eq_true (L3.look_f c 4 2 rfl rfl)) (of_decide_eq_true (L3.look_f c 4 3 rfl rfl)) (of_decide_eq_true (L3.look_f c 4 4 rfl rfl)) (of_decide_eq_true (L3.look_f c 4 5 rfl rfl)) (of_decide_eq_true (L3.look_f c 4 6 rfl rfl)) (of_decide_eq_true (L3.look_f c 4 7 rfl rfl)) (of_decide_eq_true (L3.look_f c 4 8 rfl rfl)) (of_decide_eq_true (L3.look_f c 4 9 rfl rfl)) (of_decide_eq_true (L3.look_f c 4 10 rfl rfl)) (of_decide_eq_true (L3.look_f c 4 11 rfl rfl)) (of_decide_eq_true (L3.look_f c 4 12 rfl rfl)) (of_decide_eq_true (L3.look_f c 4 13 rfl rfl)) (of_decide_eq_true (L3.look_f c 4 14 rfl rfl)) (of_decide_eq_true (L3.look_f c 4 15 rfl rfl)) (of_decide_eq_true (L3.look_f c 4 16 rfl rfl)) (of_decide_eq_true (L3.look_f c 4 17 rfl rfl)) (of_decide_eq_true (L3.look_f c 4 18 rfl rfl)) (of_decide_eq_true (L3.look_f c 4 19 rfl rfl)) (of_decide_eq_true (L3.look_f c 4 20 rfl rfl)) (of_decide_eq_true (L3.look_f c 4 21 rfl rfl)) (of_decide_eq_true (L3.look_f c 4 22 rfl rfl)) (of_decide_eq_true (L3.look_f c 4 23 rfl rfl)) (of_decide_eq_true (L3.look_f c 4 24 rfl rfl)) (of_decide_eq_true (L3.look_f c 4 25 rfl rfl)) (L3.look_f c 4 26 rfl rfl) (L3.look_f c 4 27 rfl rfl) (of_decide_eq_true (L3.look_f c 4 28 rfl rfl)) (L3.look_f c 4 29 rfl rfl) (of_decide_eq_true (L3.look_f c 4 30 rfl rfl)) (L3.look_f c 4 31 rfl rfl) (of_decide_eq_true (L3.look_f c 4 32 rfl rfl)) (L3.look_f c 4 33 rfl rfl) (of_decide_eq_true (L3.look_f c 4 34 rfl rfl)) (L3.look_f c 4 35 rfl rfl) (of_decide_eq_true (L3.look_f c 4 36 rfl rfl)) (L3.look_f c 4 37 rfl rfl) (L3.look_f c 4 38 rfl rfl) (of_decide_eq_true (L3.look_f c 4 39 rfl rfl)) (L3.cgB_ok (L3.look_f c 5 0 rfl rfl)) (of_decide_eq_true (L3.look_f c 5 1 rfl rfl)) (L3.look_f c 5 2 rfl rfl) (of_decide_eq_true (L3.look_f c 5 3 rfl rfl)) (L3.cgB_ok (L3.look_f c 5 4 rfl rfl)) (of_decide_eq_true (L3.look_f c 5 5 rfl rfl)) (L3.smB_ok (L3.look_f c 5 6 rfl rfl)) (of_decide_eq_true (L3.look_f c 5 7 rfl rfl)) (of_decide_eq_true (L3.look_f c 5 8 rfl rfl)) (of_decide_eq_true (L3.look_f c 5 9 rfl rfl)) (L3.look_f c 5 10 rfl rfl) (of_decide_eq_true (L3.look_f c 5 11 rfl rfl)) (of_decide_eq_true (L3.look_f c 5 12 rfl rfl)) (of_decide_eq_true (L3.look_f c 5 13 rfl rfl)) (L3.look_f c 5 14 rfl rfl) (of_decide_eq_true (L3.look_f c 5 15 rfl rfl)) (of_decide_eq_true (L3.look_f c 5 16 rfl rfl)) (of_decide_eq_true (L3.look_f c 5 17 rfl rfl)) (L3.look_f c 5 18 rfl rfl) (of_decide_eq_true (L3.look_f c 5 19 rfl rfl)) (of_decide_eq_true (L3.look_f c 5 20 rfl rfl)) (of_decide_eq_true (L3.look_f c 5 21 rfl rfl)) (L3.look_f c 5 22 rfl rfl) (of_decide_eq_true (L3.look_f c 5 23 rfl rfl)) (of_decide_eq_true (L3.look_f c 5 24 rfl rfl)) (of_decide_eq_true (L3.look_f c 5 25 rfl rfl)) (L3.look_f c 5 26 rfl rfl) (of_decide_eq_true (L3.look_f c 5 27 rfl rfl)) (of_decide_eq_true (L3.look_f c 5 28 rfl rfl)) (of_decide_eq_true (L3.look_f c 5 29 rfl rfl)) (L3.look_f c 5 30 rfl rfl) (of_decide_eq_true (L3.look_f c 5 31 rfl rfl)) (of_decide_eq_true (L3.look_f c 5 32 rfl rfl)) (of_decide_eq_true (L3.look_f c 5 33 rfl rfl)) (L3.look_f c 5 34 rfl rfl) (of_decide_eq_true (L3.look_f c 5 35 rfl rfl)) (of_decide_eq_true (L3.look_f c 5 36 rfl rfl)) (of_decide_eq_true (L3.look_f c 5 37 rfl rfl)) (L3.look_f c 5 38 rfl rfl) (of_decide_eq_true (L3.look_f c 5 39 rfl rfl)) (of_decide_eq_true (L3.look_f c 6 0 rfl rfl)) (of_decide_eq_true (L3.look_f c 6 1 rfl rfl)) (L3.look_f c 6 2 rfl rfl) (of_decide_eq_true (L3.look_f c 6 3 rfl rfl)) (of_decide_eq_true (L3.look_f c 6 4 rfl rfl)) (of_decide_eq_true (L3.look_f c 6 5 rfl rfl)) (L3.look_f c 6 6 rfl rfl) (of_decide_eq_true (L3.look_f c 6 7 rfl rfl)) (of_decide_eq_true (L3.look_f c 6 8 rfl rfl)) (of_decide_eq_true (L3.look_f c 6 9 rfl rfl)) (L3.look_f c 6 10 rfl rfl) (of_decide_eq_true (L3.look_f c 6 11 rfl rfl)) (of_decide_eq_true (L3.look_f c 6 12 rfl rfl)) (of_decide_eq_true (L3.look_f c 6 13 rfl rfl)) (L3.look_f c 6 14 rfl rfl) (of_decide_eq_true (L3.look_f c 6 15 rfl rfl)) (of_decide_eq_true (L3.look_f c 6 16 rfl rfl)) (of_decide_eq_true (L3.look_f c 6 17 rfl rfl)) (L3.look_f c 6 18 rfl rfl) (of_decide_eq_true (L3.look_f c 6 19 rfl rfl)) (of_decide_eq_true (L3.look_f c 6 20 rfl rfl)) (of_decide_eq_true (L3.look_f c 6 21 rfl rfl)) (L3.look_f c 6 22 rfl rfl) (of_decide_eq_true (L3.look_f c 6 23 rfl rfl)) (of_decide_eq_true (L3.look_f c 6 24 rfl rfl)) (of_decide_eq_true (L3.look_f c 6 25 rfl rfl)) (L3.look_f c 6 26 rfl rfl) (of_decide_eq_true (L3.look_f c 6 27 rfl rfl)) (of_decide_eq_true (L3.look_f c 6 28 rfl rfl)) (of_decide_eq_true (L3.look_f c 6 29 rfl rfl)) (L3.look_f c 6 30 rfl rfl) (of_decide_eq_true (L3.look_f c 6 31 rfl rfl)) (of_decide_eq_true (L3.look_f c 6 32 rfl rfl)) (of_decide_eq_true (L3.look_f c 6 33 rfl rfl)) (L3.look_f c 6 34 rfl rfl) (of_decide_eq_true (L3.look_f c 6 35 rfl rfl)) (of_decide_eq_true (L3.look_f c 6 36 rfl rfl)) (of_decide_eq_true (L3.look_f c 6 37 rfl rfl)) (L3.look_f c 6 38 rfl rfl) (of_decide_eq_true (L3.look_f c 6 39 rfl rfl)) (of_decide_eq_true (L3.look_f c 7 0 rfl rfl)) (of_decide_eq_true (L3.look_f c 7 1 rfl rfl)) (L3.look_f c 7 2 rfl rfl) (of_decide_eq_true (L3.look_f c 7 3 rfl rfl)) (L3.look_f c 7 4 rfl rfl) (of_decide_eq_true (L3.look_f c 7 5 rfl rfl)) p_l_is_integer (L3.look_f c 7 7 rfl rfl) (L3.look_f c 7 8 rfl rfl) (of_decide_eq_true (L3.look_f c 7 9 rfl rfl)) p_l_is_between (L3.look_f c 7 11 rfl rfl) (L3.look_f c 7 12 rfl rfl) (of_decide_eq_true (L3.look_f c 7 13 rfl rfl)) p_l_is_name (L3.look_f c 7 15 rfl rfl) (L3.look_f c 7 16 rfl rfl) (of_decide_eq_true (L3.look_f c 7 17 rfl rfl)) p_l_are_conditions (L3.look_f c 7 19 rfl rfl) (L3.look_f c 7 20 rfl rfl) (of_decide_eq_true (L3.look_f c 7 21 rfl rfl)) p_l_need (L3.look_f c 7 23 rfl rfl) (L3.look_f c 7 24 rfl rfl) p_l_Kind_init__ (L3.look_f c 7 26 rfl rfl) (L3.look_f c 7 27 rfl rfl) p_l_Kind_single (L3.look_f c 7 29 rfl rfl) (L3.look_f c 7 30 rfl rfl) p_l_Kind_may_set (L3.look_f c 7 32 rfl rfl) (L3.look_f c 7 33 rfl rfl) p_l_AnyOf_may_set (L3.look_f c 7 35 rfl rfl) (L3.look_f c 7 36 rfl rfl) (L3.suB_ok (L3.look_f c 7 37 rfl rfl)) p_l_AnyOf_single (L3.look_f c 7 39 rfl rfl) (L3.look_f c 8 0 rfl rfl) (L3.suB_ok (L3.look_f c 8 1 rfl rfl)) p_l_Masks_may_set (L3.look_f c 8 3 rfl rfl) (L3.look_f c 8 4 rfl rfl) (L3.suB_ok (L3.look_f c 8 5 rfl rfl)) p_l_Masks_single (L3.look_f c 8 7 rfl rfl) (L3.look_f c 8 8 rfl rfl) (L3.suB_ok (L3.look_f c 8 9 rfl rfl)) p_l_Window_may_set (L3.look_f c 8 11 rfl rfl) (L3.look_f c 8 12 rfl rfl) (L3.suB_ok (L3.look_f c 8 13 rfl rfl)) p_l_Test_may_set (L3.look_f c 8 15 rfl rfl) (L3.look_f c 8 16 rfl rfl) (L3.suB_ok (L3.look_f c 8 17 rfl rfl)) p_l_Window_single (L3.look_f c 8 19 rfl rfl) (L3.look_f c 8 20 rfl rfl) (L3.suB_ok (L3.look_f c 8 21 rfl rfl)) p_l_Test_single (L3.look_f c 8 23 rfl rfl) (L3.look_f c 8 24 rfl rfl) (L3.suB_ok (L3.look_f c 8 25 rfl rfl)) p_l_Kind_masks (L3.look_f c 8 27 rfl rfl) (L3.look_f c 8 28 rfl rfl) p_l_Kind_eq__ (L3.look_f c 8 30 rfl rfl) (L3.look_f c 8 31 rfl rfl) p_l_Window_init__ (L3.look_f c 8 33 rfl rfl) (L3.look_f c 8 34 rfl rfl) (L3.suB_ok (L3.look_f c 8 35 rfl rfl)) p_l_Test_init__ (L3.look_f c 8 37 rfl rfl) (L3.look_f c 8 38 rfl rfl) (L3.suB_ok (L3.look_f c 8 39 rfl rfl)) p_l_Window_of (L3.look_f c 9 1 rfl rfl) (L3.look_f c 9 2 rfl rfl) p_l_AnyOf_init__ (L3.look_f c 9 4 rfl rfl) (L3.look_f c 9 5 rfl rfl) (L3.suB_ok (L3.look_f c 9 6 rfl rfl)) p_l_AnyOf_of (L3.look_f c 9 8 rfl rfl) (L3.look_f c 9 9 rfl rfl) p_l_TestWindow_init__ (L3.look_f c 9 11 rfl rfl) (L3.look_f c 9 12 rfl rfl) (L3.suB_ok (L3.look_f c 9 13 rfl rfl)) p_l_Masks_init__ (L3.look_f c 9 15 rfl rfl) (L3.look_f c 9 16 rfl rfl) (L3.suB_ok (L3.look_f c 9 17 rfl rfl)) (of_decide_eq_true (L3.look_f c 9 18 rfl rfl)) p_l_law_pen (L3.look_f c 9 20 rfl rfl) (L3.look_f c 9 21 rfl rfl) (of_decide_eq_true (L3.look_f c 9 22 rfl rfl)) p_l_law_draw (L3.look_f c 9 24 rfl rfl) (L3.look_f c 9 25 rfl rfl) (of_decide_eq_true (L3.look_f c 9 26 rfl rfl)) p_l_law_pick (L3.look_f c 9 28 rfl rfl) (L3.look_f c 9 29 rfl rfl) (of_decide_eq_true (L3.look_f c 9 30 rfl rfl)) p_l_law_mixed (L3.look_f c 9 32 rfl rfl) (L3.look_f c 9 33 rfl rfl) (of_decide_eq_true (L3.look_f c 9 34 rfl rfl)) p_l_law_names (L3.look_f c 9 36 rfl rfl) (L3.look_f c 9 37 rfl rfl) (of_decide_eq_true (L3.look_f c 9 38 rfl rfl)) p_l_law_kind (L3.look_f c 10 0 rfl rfl) (L3.look_f c 10 1 rfl rfl) (of_decide_eq_true (L3.look_f c 10 2 rfl rfl)) p_l_law_both (L3.look_f c 10 4 rfl rfl) (L3.look_f c 10 5 rfl rfl) (of_decide_eq_true (L3.look_f c 10 6 rfl rfl)) p_l_law_made (L3.look_f c 10 8 rfl rfl) (L3.look_f c 10 9 rfl rfl) (of_decide_eq_true (L3.look_f c 10 10 rfl rfl)) p_l_law_full (L3.look_f c 10 12 rfl rfl) (L3.look_f c 10 13 rfl rfl) (of_decide_eq_true (L3.look_f c 10 14 rfl rfl)) p_l_law_alike (L3.look_f c 10 16 rfl rfl) (L3.look_f c 10 17 rfl rfl) (of_decide_eq_true (L3.look_f c 10 18 rfl rfl)) p_l_law_is_alone (L3.look_f c 10 20 rfl rfl) (L3.look_f c 10 21 rfl rfl) (of_decide_eq_true (L3.look_f c 10 22 rfl rfl)) p_l_law_is_kind (L3.look_f c 10 24 rfl rfl) (L3.look_f c 10 25 rfl rfl) (of_decide_eq_true (L3.look_f c 10 26 rfl rfl)) p_l_law (L3.look_f c 10 28 rfl rfl) (L3.look_f c 10 29 rfl rfl) (of_decide_eq_true (L3.look_f c 10 30 rfl rfl)) (of_decide_eq_true (L3.look_f c 10 31 rfl rfl)) (of_decide_eq_true (L3.look_f c 10 32 rfl rfl)) (of_decide_eq_true (L3.look_f c 10 33 rfl rfl)) (of_decide_eq_true (L3.look_f c 10 34 rfl rfl)) (of_decide_eq_true (L3.look_f c 10 35 rfl rfl)) (of_decide_eq_true (L3.look_f c 10 36 rfl rfl)) p_k_RESERVED (of_decide_eq_true (L3.look_f c 10 38 rfl rfl)) (of_decide_eq_true (L3.look_f c 10 39 rfl rfl)) (of_decide_eq_true (L3.look_f c 11 0 rfl rfl)) (of_decide_eq_true (L3.look_f c 11 1 rfl rfl)) (of_decide_eq_true (L3.look_f c 11 2 rfl rfl)) (of_decide_eq_true (L3.look_f c 11 3 rfl rfl)) (of_decide_eq_true (L3.look_f c 11 4 rfl rfl)) (of_decide_eq_true (L3.look_f c 11 5 rfl rfl)) (of_decide_eq_true (L3.look_f c 11 6 rfl rfl)) (of_decide_eq_true (L3.look_f c 11 7 rfl rfl)) (of_decide_eq_true (L3.look_f c 11 8 rfl rfl)) (of_decide_eq_true (L3.look_f c 11 9 rfl rfl)) (of_decide_eq_true (L3.look_f c 11 10 rfl rfl)) (of_decide_eq_true (L3.look_f c 11 11 rfl rfl)) (of_decide_eq_true (L3.look_f c 11 12 rfl rfl)) (of_decide_eq_true (L3.look_f c 11 13 rfl rfl)) (of_decide_eq_true (L3.look_f c 11 14 rfl rfl))
abbrev R_ : PySem.W.OpenRow := PySem.W.OpenLaw.row PySem.Challenge.rw_orplaces_k14_kinds_that_are_equal
set_option maxHeartbeats 0 in
theorem run (w : World) : HandSHeadRun.RunEq R_ (PySem.W.view R_.prog [39]) (L3.hookB 0 fls fns fvs) (L3.obT 0 fls fns) 60000 names w := by
  intro os
  kernel_rfl
end K14
open PySem PySem.W PyProof.Rows
set_option maxHeartbeats 0 in
theorem PySem.Challenge.cw_orplaces_k14_kinds_that_are_equal_holds : PySem.Challenge.rw_orplaces_k14_kinds_that_are_equal.Holds := by
  w_on; o_law
  refine HandSHeadRun.head_any (r := (PySem.W.OpenLaw.row PySem.Challenge.rw_orplaces_k14_kinds_that_are_equal)) (q := PySem.W.view (PySem.W.OpenLaw.row PySem.Challenge.rw_orplaces_k14_kinds_that_are_equal).prog [39]) (H := L3.hookB 0 K14.fls K14.fns K14.fvs) (ob := L3.obT 0 K14.fls K14.fns) (M := 60000) (loose := K14.names) (d := HandSHeadRun.topDef (PySem.W.OpenLaw.row PySem.Challenge.rw_orplaces_k14_kinds_that_are_equal).prog 39) (kwd := []) (L3.obT_eq _ _ _ _)
    (by kernel_rfl) (fun s => by kernel_rfl) K14.run (by kernel_rfl) (by kernel_rfl) (by kernel_rfl) (by rfl) (by first | assumption | decide +kernel) (by decide +kernel) ⟨rfl, rfl, rfl, rfl, rfl, by decide +kernel⟩ ?hw ?hc
  case hw => w_witness2
  case hc =>
    refine L3.walk_ofH (l := PySem.Challenge.rw_orplaces_k14_kinds_that_are_equal) (n := 63) (k := 16) (x := "_law_script") (CX := fun w => L2.CX (PySem.Challenge.rw_orplaces_k14_kinds_that_are_equal).prog w) (sp := fun K => L3.toSp K K14.sp_law) rfl (by decide) (by kernel_rfl) ⟨rfl, by decide, by decide⟩ ?F (fun K H a ns hl ho hS => L3.law_sp (fun ns hl R RX h => K14.law_start ns hl R RX h) hl hS) (fun _ _ _ _ _ ⟨_, _, _, _, _, _, _, _, _, _, _, _, no⟩ => no)
    intro w mg fa h Y G hmg0
    obtain ⟨K, KX, c⟩ := Y
    have hmg : mg ("law" : PySem.Str) = some (.ref fa) := by
      have e : (HandSHeadRun.topDef (PySem.W.OpenLaw.row PySem.Challenge.rw_orplaces_k14_kinds_that_are_equal).prog 39).name = ("law" : PySem.Str) := by kernel_rfl
      rw [← e]
      exact hmg0
    exact ⟨K, KX, K14.facts (by kernel_rfl) KX G hmg c⟩
