import PyProof.Rows.All
import Wide.All
import OpenK.AllK
import Wide.FinOn
import HandS.ForMost
import HandS.Exc
import HandS.Lambda
import HandS.TupAny
import HandS.IsInst
import HandS.Wide
import HandS.ClsMeth
import HandS.More
import HandS.ForExc
import HandS.CallSlots
import HandS.ExcInit
import HandS.ExcIs
import HandS.ExcField
import HandS.TryMany
import HandS.Star
import KE.GoesMore
import PyProof.Draws
import HandS.Iter
import KE.KExcIs
import HandS.Codes
import KE.KParD
import KE.KStar
import HandS.SortInts
import HandS.Conv
import HandS.Ends
import PyProof.RowDictHeap
import HandS.SortRule
import KE.KDictPairs
import HandS.ListItems
import HandS.Style
import PyProof.P3Eq
import HandS.Records
import HandS.FStr
import HandS.Text
import HandS.RaiseMore
import HandS.DictComp
import HandS.Strs
import KE.KRevSl
import HandS.Deep
import HandS.DictEq
import HandS.OwnEq
import PyProof.EqKinds
import KE.BitLaws
import HandS.MethStar
import HandS.Property
import KE.KOpsOwn
import HandS.TryOnly
import HandS.SuiteRaise
import HandS.RaiseFrom
import HandS.ExcInitHot
import HandS.Flow
import HandS.Head0
import HandS.Head1
import HandS.Head2
import HandS.HeadHook1
import KE.KCallOwn
import KE.KSuper
import KE.KEqDict
import HandS.DeepEq
import PyProof.StrLawsRepr
import PyProof.ReprReads
import PyProof.Rows.RegStrFacts
import PyProof.EqAt
import PyProof.InstEq
import HandS.Spec
import HandS.IterVal
import HandS.EndTab
import PySem.Challenge.RW_orplaces_k20_words
set_option Elab.async false
set_option linter.all false
set_option maxRecDepth 100000
set_option maxHeartbeats 4000000
set_option pp.maxSteps 400
namespace L3
open PySem PySem.Spec PyProof.Rows L2

/-- what a step needs of its data: shown by arithmetic, or by hand -/
structure Need (p : Prop) : Prop where
  out : p
/-- pure data: what a Python value is, the heap put away. mut i: the i-th object that changes (its content stands in the table) -/
inductive D where
  | non | bl (b : Bool) | int (i : Int) | str (s : Str) | ty (n : String) | adr (a : Addr)
  | tup (l : List D) | ptp (l : List D) | lst (l : List D) | rol (l : List D) | dct (l : List (Key × D)) | fdc (l : List (Key × D)) | obj (n : Str) (fs : List (Str × D)) | cls (n : Str) | cel (i : Nat)

/-- a tuple that has no attributes of its own -/
def SqP (P : Hp) (a : Addr) (xs : List V) : Prop := ∃ o, P a = some (.frz o (.tup xs)) ∧ o.dict = none
/-- the class that the module's name n holds -/
def ClsAt (K : PySem.W.Frag) (n : Str) (C : Addr) : Prop := PySem.W.nsIn K mainGlobals n = some (some (.ref C))
theorem ClsAt.one {K : PySem.W.Frag} {n : Str} {C C' : Addr} (a : ClsAt K n C) (b : ClsAt K n C') : C = C' := by
  have e : some (some (Value.ref C)) = some (some (Value.ref C')) := a.symm.trans b
  cases e; rfl
mutual
inductive Rep (K : PySem.W.Frag) (P : Hp) (al : List Addr) : D → V → Prop
  | non : Rep K P al .non .non
  | bl (b : Bool) : Rep K P al (.bl b) (.bl b)
  | int (i : Int) : Rep K P al (.int i) (.int i)
  | str (s : Str) : Rep K P al (.str s) (.str s)
  | ty (n : String) : Rep K P al (.ty n) (.ty n)
  | adr (a : Addr) : Rep K P al (.adr a) (.ref a)
  | tup {a : Addr} {xs : List V} {ds : List D} : SqT K P a xs → Reps K P al ds xs → Rep K P al (.tup ds) (.ref a)
  | ptp {a : Addr} {xs : List V} {ds : List D} : SqP P a xs → Reps K P al ds xs → Rep K P al (.ptp ds) (.ref a)
  | lst {a : Addr} {xs : List V} {ds : List D} : P a = some (.lst xs) → Reps K P al ds xs → Rep K P al (.lst ds) (.ref a)
  | rol {a : Addr} {xs : List V} {ds : List D} : SqL K P a xs → Reps K P al ds xs → Rep K P al (.rol ds) (.ref a)
  | dct {a : Addr} {kvs : List (Key × V)} {ks : List (Key × D)} : P a = some (.dK kvs) → RepKs K P al ks kvs → Rep K P al (.dct ks) (.ref a)
  | fdc {a : Addr} {o : Obj} {kvs : List (Key × V)} {ks : List (Key × D)} : P a = some (.frz o (.dK kvs)) → RepKs K P al ks kvs → Rep K P al (.fdc ks) (.ref a)
  | obj {n : Str} {a C dx : Addr} {gs : List (Str × V)} {fs : List (Str × D)} : P a = some (.ins C dx gs) → ClsAt K n C → RepFs K P al fs gs → Rep K P al (.obj n fs) (.ref a)
  | cls {n : Str} {C : Addr} : ClsAt K n C → Rep K P al (.cls n) (.ref C)
  | cel {i : Nat} {a : Addr} : al[i]? = some a → Rep K P al (.cel i) (.ref a)
inductive Reps (K : PySem.W.Frag) (P : Hp) (al : List Addr) : List D → List V → Prop
  | nil : Reps K P al [] []
  | cons {d : D} {v : V} {ds : List D} {vs : List V} : Rep K P al d v → Reps K P al ds vs → Reps K P al (d :: ds) (v :: vs)
inductive RepKs (K : PySem.W.Frag) (P : Hp) (al : List Addr) : List (Key × D) → List (Key × V) → Prop
  | nil : RepKs K P al [] []
  | cons {k : Key} {d : D} {v : V} {ds : List (Key × D)} {vs : List (Key × V)} : Rep K P al d v → RepKs K P al ds vs → RepKs K P al ((k, d) :: ds) ((k, v) :: vs)
inductive RepFs (K : PySem.W.Frag) (P : Hp) (al : List Addr) : List (Str × D) → List (Str × V) → Prop
  | nil : RepFs K P al [] []
  | cons {k : Str} {d : D} {v : V} {ds : List (Str × D)} {vs : List (Str × V)} : Rep K P al d v → RepFs K P al ds vs → RepFs K P al ((k, d) :: ds) ((k, v) :: vs)
end

theorem same_seqT {K : PySem.W.Frag} {H H' : Hp} {a : Addr} {xs : List V} (e : Same H H') (h : SqT K H a xs) : SqT K H' a xs := by
  rcases h with h | h
  · rcases h with h | ⟨o, h⟩
    · exact .inl (.inl (e _ _ h))
    · exact .inl (.inr ⟨o, e _ _ h⟩)
  · exact .inr h
theorem SqP.same {P P' : Hp} {a : Addr} {xs : List V} (s : Same P P') (h : SqP P a xs) : SqP P' a xs := let ⟨o, e, d⟩ := h; ⟨o, s _ _ e, d⟩
theorem SqP.seqT {K : PySem.W.Frag} {P : Hp} {a : Addr} {xs : List V} (h : SqP P a xs) : SqT K P a xs := let ⟨o, e, _⟩ := h; .inl (.inr ⟨o, e⟩)
theorem pre_get {al al' : List Addr} (h : al <+: al') {i : Nat} {a : Addr} (e : al[i]? = some a) : al'[i]? = some a := by
  obtain ⟨t, rfl⟩ := h
  rw [List.getElem?_append_left (List.getElem?_eq_some_iff.mp e).1]; exact e
section
variable {K : PySem.W.Frag} {P P' : Hp} {al al' : List Addr}
mutual
theorem Rep.mono (s : Same P P') (h : al <+: al') : ∀ {d : D} {v : V}, Rep K P al d v → Rep K P' al' d v
  | _, _, .non => .non
  | _, _, .bl b => .bl b
  | _, _, .int i => .int i
  | _, _, .str x => .str x
  | _, _, .ty n => .ty n
  | _, _, .adr a => .adr a
  | _, _, .tup q r => .tup (same_seqT s q) (Reps.mono s h r)
  | _, _, .ptp q r => .ptp (q.same s) (Reps.mono s h r)
  | _, _, .lst q r => .lst (s _ _ q) (Reps.mono s h r)
  | _, _, .rol q r => .rol (s.seq q) (Reps.mono s h r)
  | _, _, .dct q r => .dct (s _ _ q) (RepKs.mono s h r)
  | _, _, .fdc q r => .fdc (s _ _ q) (RepKs.mono s h r)
  | _, _, .obj q c r => .obj (s _ _ q) c (RepFs.mono s h r)
  | _, _, .cls c => .cls c
  | _, _, .cel e => .cel (pre_get h e)
theorem Reps.mono (s : Same P P') (h : al <+: al') : ∀ {ds : List D} {vs : List V}, Reps K P al ds vs → Reps K P' al' ds vs
  | _, _, .nil => .nil
  | _, _, .cons r t => .cons (Rep.mono s h r) (Reps.mono s h t)
theorem RepKs.mono (s : Same P P') (h : al <+: al') : ∀ {ds : List (Key × D)} {vs : List (Key × V)}, RepKs K P al ds vs → RepKs K P' al' ds vs
  | _, _, .nil => .nil
  | _, _, .cons r t => .cons (Rep.mono s h r) (RepKs.mono s h t)
theorem RepFs.mono (s : Same P P') (h : al <+: al') : ∀ {ds : List (Str × D)} {vs : List (Str × V)}, RepFs K P al ds vs → RepFs K P' al' ds vs
  | _, _, .nil => .nil
  | _, _, .cons r t => .cons (Rep.mono s h r) (RepFs.mono s h t)
end
theorem Reps.length : ∀ {ds : List D} {vs : List V}, Reps K P al ds vs → ds.length = vs.length
  | _, _, .nil => rfl
  | _, _, .cons _ t => by simp [Reps.length t]
theorem Reps.append : ∀ {ds es : List D} {vs ws : List V}, Reps K P al ds vs → Reps K P al es ws → Reps K P al (ds ++ es) (vs ++ ws)
  | _, _, _, _, .nil, s => s
  | _, _, _, _, .cons r t, s => .cons r (Reps.append t s)
theorem Reps.get : ∀ {ds : List D} {vs : List V} {i : Nat} {d : D}, Reps K P al ds vs → ds[i]? = some d → ∃ v, vs[i]? = some v ∧ Rep K P al d v
  | _, _, _, _, .nil, e => by simp at e
  | _, _, 0, _, .cons r _, e => by simp at e; subst e; exact ⟨_, rfl, r⟩
  | _, _, i + 1, d, .cons _ t, e => by
    obtain ⟨v, h1, h2⟩ := Reps.get (i := i) (d := d) t (by simpa using e)
    exact ⟨v, by simpa using h1, h2⟩
theorem Reps.set {d : D} {v : V} (r : Rep K P al d v) : ∀ {ds : List D} {vs : List V} (i : Nat), Reps K P al ds vs → Reps K P al (ds.set i d) (vs.set i v)
  | _, _, _, .nil => .nil
  | _, _, 0, .cons _ t => .cons r t
  | _, _, i + 1, .cons q t => .cons q (Reps.set r i t)
theorem Reps.take : ∀ {ds : List D} {vs : List V} (n : Nat), Reps K P al ds vs → Reps K P al (ds.take n) (vs.take n)
  | _, _, 0, _ => by simp; exact .nil
  | _, _, _ + 1, .nil => .nil
  | _, _, n + 1, .cons r t => .cons r (Reps.take n t)
theorem Reps.drop : ∀ {ds : List D} {vs : List V} (n : Nat), Reps K P al ds vs → Reps K P al (ds.drop n) (vs.drop n)
  | _, _, 0, r => r
  | _, _, _ + 1, .nil => .nil
  | _, _, n + 1, .cons r t => Reps.drop n t
end

/-! ### steps of the heap -/
/-- what stays unpublished: neither an instance's dict nor an error's -/
def PnOk (o : HO) : Prop := (∀ x, o ≠ .own x) ∧ ∀ g, o ≠ .xd g
/-- from one state to a later one: the published part grows, the table's places stay, what is tracked beside them stays -/
structure Ext (P : Hp) (al : List Addr) (H : Hp) (P' : Hp) (al' : List Addr) (H' : Hp) : Prop where
  pp : Same P P'
  pre : al <+: al'
  fr : ∀ b o, H b = some o → b ∉ al → H' b = some o
  new : ∀ b, b ∈ al' → b ∉ al → H b = none
  pn : ∀ b o, H b = some o → PnOk o → P b = none → b ∉ al → P' b = none
theorem Ext.refl {P : Hp} {al : List Addr} {H : Hp} : Ext P al H P al H :=
  ⟨Same.refl _, List.prefix_refl _, fun _ _ h _ => h, fun _ h n => absurd h n, fun _ _ _ _ h _ => h⟩
theorem Ext.trans {P P1 P2 : Hp} {al al1 al2 : List Addr} {H H1 H2 : Hp} (a : Ext P al H P1 al1 H1) (b : Ext P1 al1 H1 P2 al2 H2) : Ext P al H P2 al2 H2 := by
  have nin : ∀ c o, H c = some o → c ∉ al → c ∉ al1 := fun c o h n m => by
    have := a.new c m n
    rw [h] at this; cases this
  refine ⟨a.pp.trans b.pp, List.IsPrefix.trans a.pre b.pre, fun c o h n => b.fr c o (a.fr c o h n) (nin c o h n), fun c m n => ?_, fun c o h ho hp n => ?_⟩
  · by_cases m1 : c ∈ al1
    · exact a.new c m1 n
    · have h1 := b.new c m m1
      cases h : H c with
      | none => rfl
      | some o => rw [a.fr c o h n] at h1; cases h1
  · exact b.pn c o (a.fr c o h n) ho (a.pn c o h ho hp n) (nin c o h n)

/-- what stands in the table: alive if an object of it changes -/
def live : D → Bool
  | .lst _ => true
  | .dct _ => true
  | .obj _ _ => true
  | .cls _ => true
  | _ => false
/-- what a lambda is called that the module's def n makes -/
def lamQ (n : Str) : Str := n ++ ".<locals>." ++ "<lambda>"
/-- the table of code objects of the module's def n, at a (it grows when a lambda is first made); each code that it tells is of such a lambda -/
def TabC (K : PySem.W.Frag) (P : Hp) (a : Addr) (n : Str) (H : Hp) : Prop :=
  P a = none ∧ ∃ ps : Array Value, H a = some (.tbl ps) ∧ (TriplesOk ps.toList ∧ ∃ c, PySem.W.tabIn K n = some (c, a)) ∧ ∀ (pos : Pos) (cv : Value), codeAmong pos ps.toList = some cv → ∃ c, cv = .ref c ∧ P c = some (LamX.CodeO c (lamQ n))
/-- an error that is kept as a value -/
def ExK (a : Addr) (oe : Obj) : HO := .ext fun h => h.get? a = some oe
/-- [.obj n fs]: the object at a is an error of the class n with the fields fs -/
def ExCell (K : PySem.W.Frag) (P : Hp) (al : List Addr) (l : List D) (a : Addr) : Prop := match l with
  | [.obj n fs] => ∃ C d oe, P a = some (ExK a oe) ∧ ClsAt K n C ∧ L2.Zc (.ref C) d oe ∧ (∃ vs, oe.data = .fields vs) ∧ ((d = none ∧ fs = []) ∨ ∃ dd gs, d = some dd ∧ P dd = some (.xd gs) ∧ RepFs K P al fs gs)
  | _ => True
theorem ExCell.mono {K : PySem.W.Frag} {P P' : Hp} {al al' : List Addr} {l : List D} {a : Addr} (c : ExCell K P al l a) (s : Same P P') (h : al <+: al') : ExCell K P' al' l a := by
  unfold ExCell at c ⊢
  split at c
  · obtain ⟨C, d, oe, h1, h2, h3, h4, h5⟩ := c
    refine ⟨C, d, oe, s _ _ h1, h2, h3, h4, ?_⟩
    rcases h5 with h5 | ⟨dd, gs, g1, g2, g3⟩
    · exact .inl h5
    · exact .inr ⟨dd, gs, g1, s _ _ g2, g3.mono s h⟩
  · trivial
/-- the i-th object that changes, at a -/
def Cell (K : PySem.W.Frag) (P : Hp) (al : List Addr) (m : D) (a : Addr) (H : Hp) : Prop :=
  match m with
  | .lst ds => P a = none ∧ ∃ xs, H a = some (.lst xs) ∧ Reps K P al ds xs
  | .dct ks => P a = none ∧ ∃ kvs, H a = some (.dK kvs) ∧ RepKs K P al ks kvs
  | .obj n fs => P a = none ∧ ∃ C dx gs, H a = some (.ins C dx gs) ∧ ClsAt K n C ∧ RepFs K P al fs gs
  | .ptp l => ExCell K P al l a
  | .cls n => TabC K P a n H
  | _ => True
abbrev Bs := Hp × List Addr × Hp
abbrev Mt := List D
abbrev Ev := List (Option D)
structure RS0 (K : PySem.W.Frag) (B : Bs) (P : Hp) (al : List Addr) (M : Mt) (H : Hp) : Prop where
  base : Ext B.1 B.2.1 B.2.2 P al H
  same : Same P H
  len : al.length = M.length
  cell : ∀ (i : Nat) (a : Addr) (m : D), al[i]? = some a → M[i]? = some m → Cell K P al m a H
  inj : ∀ (i j : Nat) (a : Addr) (m n : D), al[i]? = some a → al[j]? = some a → M[i]? = some m → M[j]? = some n → live m = true → live n = true → i = j
  trk : ∀ a, a ∈ al → ∃ o, H a = some o
structure RS (K : PySem.W.Frag) (B : Bs) (P : Hp) (al : List Addr) (M : Mt) (env : Ev) (σ : L2.St) (H : Hp) : Prop extends RS0 K B P al M H where
  slen : env.length = σ.length
  slot : ∀ (j : Nat) (d : D), env[j]? = some (some d) → ∃ v, σ[j]? = some (some v) ∧ Rep K P al d v
section
variable {K : PySem.W.Frag} {B : Bs} {P P' : Hp} {al al' : List Addr} {M M' : Mt} {env : Ev} {σ : L2.St} {H H' : Hp} {a p : Addr} {d : D} {v : V}
theorem live_cell {m : D} (h : live m = true) (c : Cell K P al m a H) : P a = none ∧ ∃ o, H a = some o := by
  cases m <;> simp [live] at h
  · obtain ⟨h1, xs, h2, _⟩ := c; exact ⟨h1, _, h2⟩
  · obtain ⟨h1, xs, h2, _⟩ := c; exact ⟨h1, _, h2⟩
  · obtain ⟨h1, _, _, _, h2, _⟩ := c; exact ⟨h1, _, h2⟩
  · obtain ⟨h1, ps, h2, _⟩ := c; exact ⟨h1, _, h2⟩
theorem Cell.mono {m : D} (c : Cell K P al m a H) (s : Same P P') (h : al <+: al') (hp : live m = true → P' a = none) (hh : ∀ o, live m = true → H a = some o → H' a = some o) : Cell K P' al' m a H' := by
  cases m <;> first | trivial | skip
  · exact ExCell.mono c s h
  · obtain ⟨h1, xs, h2, h3⟩ := c; exact ⟨hp rfl, xs, hh _ rfl h2, h3.mono s h⟩
  · obtain ⟨h1, xs, h2, h3⟩ := c; exact ⟨hp rfl, xs, hh _ rfl h2, h3.mono s h⟩
  · obtain ⟨h1, C, dx, xs, h2, hc, h3⟩ := c; exact ⟨hp rfl, C, dx, xs, hh _ rfl h2, hc, h3.mono s h⟩
  · obtain ⟨h1, ps, h2, h3, h4⟩ := c
    exact ⟨hp rfl, ps, hh _ rfl h2, h3, fun pos cv hc => by obtain ⟨c, e1, e2⟩ := h4 pos cv hc; exact ⟨c, e1, s _ _ e2⟩⟩
/-- slots behind a step -/
theorem RS.step (r : RS K B P al M env σ H) (e : Ext P al H P' al' H') (r' : RS0 K B P' al' M' H') : RS K B P' al' M' env σ H' :=
  ⟨r', r.slen, fun j d h => by obtain ⟨v, h1, h2⟩ := r.slot j d h; exact ⟨v, h1, h2.mono e.pp e.pre⟩⟩
theorem RS0.free (r : RS0 K B P al M H) (hp : H p = none) : P p = none := by
  cases h : P p with
  | none => rfl
  | some o => rw [r.same _ _ h] at hp; cases hp
/-- a new object, published at once -/
theorem RS0.alloc (r : RS0 K B P al M H) (hp : H p = none) (o : HO) : Ext P al H (upd P p o) al (upd H p o) ∧ RS0 K B (upd P p o) al M (upd H p o) := by
  have np := r.free hp
  have e : Ext P al H (upd P p o) al (upd H p o) := by
    refine ⟨fun b x h => by rw [upd_ne (ne_of_none h np)]; exact h, List.prefix_refl _, fun b x h _ => by rw [upd_ne (ne_of_none h hp)]; exact h, fun b m n => absurd m n, fun b x h _ hb _ => by rw [upd_ne (ne_of_none h hp)]; exact hb⟩
  refine ⟨e, r.base.trans e, fun b x h => ?_, r.len, fun i a m h1 h2 => ?_, r.inj, fun a ha => by obtain ⟨o', h⟩ := r.trk a ha; exact ⟨o', by rw [upd_ne (ne_of_none h hp)]; exact h⟩⟩
  · by_cases hb : b = p
    · subst hb; rw [upd_same] at h ⊢; exact h
    · rw [upd_ne hb] at h ⊢; exact r.same _ _ h
  · have c := r.cell i a m h1 h2
    have hne : live m = true → a ≠ p := fun hl => by
      obtain ⟨_, o', ho⟩ := live_cell hl c
      exact ne_of_none ho hp
    exact c.mono e.pp e.pre (fun hl => by rw [upd_ne (hne hl)]; exact (live_cell hl c).1) fun o' hl ho => by rw [upd_ne (hne hl)]; exact ho
/-- a new object that will change -/
theorem RS0.allocM (r : RS0 K B P al M H) (hp : H p = none) {o : HO} {m : D} (hc : ∀ P' al', Same P P' → al <+: al' → P' p = none → ∀ H', H' p = some o → Cell K P' al' m p H') :
    Ext P al H P (al ++ [p]) (upd H p o) ∧ RS0 K B P (al ++ [p]) (M ++ [m]) (upd H p o) := by
  have np := r.free hp
  have e : Ext P al H P (al ++ [p]) (upd H p o) := by
    refine ⟨Same.refl _, List.prefix_append _ _, fun b x h _ => by rw [upd_ne (ne_of_none h hp)]; exact h, fun b m n => ?_, fun b x h _ hb _ => hb⟩
    rcases List.mem_append.mp m with z | z
    · exact absurd z n
    · have : b = p := by simpa using z
      rw [this]; exact hp
  have old : ∀ (i : Nat) (a : Addr), (al ++ [p])[i]? = some a → (i < al.length ∧ al[i]? = some a) ∨ (i = al.length ∧ a = p) := fun i a h => by
    by_cases hi : i < al.length
    · rw [List.getElem?_append_left hi] at h; exact .inl ⟨hi, h⟩
    · rw [List.getElem?_append_right (by omega)] at h
      have : i - al.length = 0 := by
        cases hq : i - al.length with
        | zero => rfl
        | succ n => rw [hq] at h; simp at h
      rw [this] at h
      exact .inr ⟨by omega, by simpa using h.symm⟩
  have oldM : ∀ (i : Nat) (n : D), i < al.length → (M ++ [m])[i]? = some n → M[i]? = some n := fun i n hi h => by
    rw [List.getElem?_append_left (by have := r.len; omega)] at h; exact h
  refine ⟨e, r.base.trans e, fun b x h => by rw [upd_ne (ne_of_none h np)]; exact r.same _ _ h, by simp [r.len], fun i a n h1 h2 => ?_, fun i j a n n' h1 h2 h3 h4 l1 l2 => ?_, fun a ha => ?_⟩
  · rcases old i a h1 with ⟨hi, h1'⟩ | ⟨hi, rfl⟩
    · have c := r.cell i a n h1' (oldM i n hi h2)
      have hne : live n = true → a ≠ p := fun hl => by
        obtain ⟨_, o', ho⟩ := live_cell hl c
        exact ne_of_none ho hp
      exact c.mono e.pp e.pre (fun hl => (live_cell hl c).1) fun o' hl ho => by rw [upd_ne (hne hl)]; exact ho
    · rw [hi, List.getElem?_append_right (by have := r.len; omega), r.len, Nat.sub_self] at h2
      have : m = n := by simpa using h2
      subst this
      exact hc _ _ (Same.refl _) e.pre np _ upd_same
  · rcases old i a h1 with ⟨hi, h1'⟩ | ⟨hi, e1⟩
    · rcases old j a h2 with ⟨hj, h2'⟩ | ⟨hj, e2⟩
      · exact r.inj i j a n n' h1' h2' (oldM i n hi h3) (oldM j n' hj h4) l1 l2
      · exfalso
        obtain ⟨_, o', ho⟩ := live_cell l1 (r.cell i a n h1' (oldM i n hi h3))
        rw [e2, hp] at ho; cases ho
    · rcases old j a h2 with ⟨hj, h2'⟩ | ⟨hj, e2⟩
      · exfalso
        obtain ⟨_, o', ho⟩ := live_cell l2 (r.cell j a n' h2' (oldM j n' hj h4))
        rw [e1, hp] at ho; cases ho
      · omega
  · rcases List.mem_append.mp ha with z | z
    · obtain ⟨o', h⟩ := r.trk a z; exact ⟨o', by rw [upd_ne (ne_of_none h hp)]; exact h⟩
    · have : a = p := by simpa using z
      rw [this]; exact ⟨_, upd_same⟩
/-- the i-th object changes -/
theorem RS0.change (r : RS0 K B P al M H) {i : Nat} {m m' : D} {o' : HO} (ha : al[i]? = some a) (hm : M[i]? = some m) (hl : live m = true) (hc : ∀ H', H' a = some o' → Cell K P al m' a H') :
    Ext P al H P al (upd H a o') ∧ RS0 K B P al (M.set i m') (upd H a o') := by
  have c := r.cell i a m ha hm
  have np := (live_cell hl c).1
  have im : i < M.length := (List.getElem?_eq_some_iff.mp hm).1
  have ia : a ∈ al := List.mem_of_getElem? ha
  have e : Ext P al H P al (upd H a o') := by
    refine ⟨Same.refl _, List.prefix_refl _, fun b x h n => ?_, fun b m n => absurd m n, fun b x h _ hb _ => hb⟩
    have hne : b ≠ a := fun z => n (by rw [z]; exact ia)
    rw [upd_ne hne]; exact h
  have gm : ∀ (j : Nat) (n : D), (M.set i m')[j]? = some n → (j = i ∧ n = m') ∨ (j ≠ i ∧ M[j]? = some n) := fun j n h => by
    by_cases hj : j = i
    · subst hj; rw [List.getElem?_set_self im] at h; exact .inl ⟨rfl, (Option.some.inj h).symm⟩
    · rw [List.getElem?_set_ne (Ne.symm hj)] at h; exact .inr ⟨hj, h⟩
  refine ⟨e, r.base.trans e, fun b x h => ?_, by simp [r.len], fun j b n h1 h2 => ?_, fun j k b n n' h1 h2 h3 h4 l1 l2 => ?_, fun b hb => ?_⟩
  · rw [upd_ne (fun z => by rw [z, np] at h; cases h)]; exact r.same _ _ h
  · rcases gm j n h2 with ⟨rfl, rfl⟩ | ⟨hj, h2⟩
    · rw [ha] at h1; cases h1
      exact hc _ upd_same
    · have c' := r.cell j b n h1 h2
      refine c'.mono (Same.refl _) (List.prefix_refl _) (fun l => (live_cell l c').1) (fun o l ho => ?_)
      have hne : b ≠ a := fun z => hj (r.inj j i a n m (z ▸ h1) ha h2 hm l hl)
      rw [upd_ne hne]; exact ho
  · rcases gm j n h3 with ⟨e1, e2⟩ | ⟨hj, g3⟩
    · rcases gm k n' h4 with ⟨e3, e4⟩ | ⟨hk, g4⟩
      · omega
      · rw [e1, ha] at h1; cases h1
        rw [e1]
        exact (r.inj k i a n' m h2 ha g4 hm l2 hl).symm
    · rcases gm k n' h4 with ⟨e3, e4⟩ | ⟨hk, g4⟩
      · rw [e3, ha] at h2; cases h2
        rw [e3]
        exact r.inj j i a n m h1 ha g3 hm l1 hl
      · exact r.inj j k b n n' h1 h2 g3 g4 l1 l2
  · by_cases hz : b = a
    · rw [hz]; exact ⟨_, upd_same⟩
    · obtain ⟨o2, h⟩ := r.trk b hb; exact ⟨o2, by rw [upd_ne hz]; exact h⟩
/-- what is not tracked was not tracked at the base -/
theorem RS0.fresh (r : RS0 K B P al M H) (hp : H p = none) : B.2.2 p = none ∧ p ∉ al := by
  have na : p ∉ al := fun h => by obtain ⟨o, e⟩ := r.trk p h; rw [hp] at e; cases e
  refine ⟨?_, na⟩
  cases h : B.2.2 p with
  | none => rfl
  | some o =>
    have nb : p ∉ B.2.1 := fun z => na (r.base.pre.subset z)
    rw [r.base.fr p o h nb] at hp; cases hp
/-- an object of our own beside the state: made, changed, published -/
theorem Ext.priv (e : Ext P al H P' al' H') (hp : H p = none) (o : HO) : Ext P al H P' al' (upd H' p o) :=
  ⟨e.pp, e.pre, fun b x h n => by rw [upd_ne (ne_of_none h hp)]; exact e.fr b x h n, e.new, e.pn⟩
theorem Ext.pub (e : Ext P al H P' al' H') (hp : H p = none) (hq : P' p = none) (o : HO) : Ext P al H (upd P' p o) al' H' :=
  ⟨fun b x h => by rw [upd_ne (ne_of_none (e.pp b x h) hq)]; exact e.pp b x h, e.pre, e.fr, e.new, fun b x h h1 h2 h3 => by rw [upd_ne (ne_of_none h hp)]; exact e.pn b x h h1 h2 h3⟩
theorem RS0.priv (r : RS0 K B P al M H) (hq : P p = none) (na : p ∉ al) (hb : B.2.2 p = none) (o : HO) : RS0 K B P al M (upd H p o) := by
  refine ⟨r.base.priv hb o, fun b x h => by rw [upd_ne (ne_of_none h hq)]; exact r.same _ _ h, r.len, fun i a m h1 h2 => ?_, r.inj, fun a ha => ?_⟩
  · have ne : a ≠ p := fun z => na (z ▸ List.mem_of_getElem? h1)
    exact (r.cell i a m h1 h2).mono (Same.refl _) (List.prefix_refl _) (fun l => (live_cell l (r.cell i a m h1 h2)).1) fun o' _ h => by rw [upd_ne ne]; exact h
  · have ne : a ≠ p := fun z => na (z ▸ ha)
    obtain ⟨o2, h⟩ := r.trk a ha; exact ⟨o2, by rw [upd_ne ne]; exact h⟩
theorem RS0.pub (r : RS0 K B P al M H) (hq : P p = none) (na : p ∉ al) (hb : B.2.2 p = none) {o : HO} (ho : H p = some o) : RS0 K B (upd P p o) al M H := by
  have sm : Same P (upd P p o) := fun b x h => by rw [upd_ne (ne_of_none h hq)]; exact h
  refine ⟨r.base.pub hb hq o, fun b x h => ?_, r.len, fun i a m h1 h2 => ?_, r.inj, r.trk⟩
  · by_cases hz : b = p
    · rw [hz, upd_same] at h; cases h; rw [hz]; exact ho
    · rw [upd_ne hz] at h; exact r.same _ _ h
  · have ne : a ≠ p := fun z => na (z ▸ List.mem_of_getElem? h1)
    exact (r.cell i a m h1 h2).mono sm (List.prefix_refl _) (fun l => by rw [upd_ne ne]; exact (live_cell l (r.cell i a m h1 h2)).1) fun o' _ h => h
end

/-! ### judgements: pure readings -/
abbrev WE := Ev → Mt → (D → Mt → Prop) → Prop
abbrev WT := Ev → Mt → (Bool → Mt → Prop) → Prop
abbrev WA := Ev → Mt → (List D → Mt → Prop) → Prop
structure DEnds where
  nx : Ev → Mt → Prop
  rt : D → Mt → Prop
  bk : Ev → Mt → Prop
  ct : Ev → Mt → Prop
abbrev WS := DEnds → Ev → Mt → Prop
abbrev WG := D → Ev → Mt → (Ev → Mt → Prop) → Prop
section
variable (K : PySem.W.Frag) (B : Bs)
def Lift (P : Hp) (al : List Addr) (env : Ev) (σ : L2.St) (H : Hp) (R : D → Mt → Prop) (Q : VK) : Prop :=
  ∀ d M' v H' P' al', Ext P al H P' al' H' → RS K B P' al' M' env σ H' → Rep K P' al' d v → R d M' → Q v H'
def tD (w : WE) : TE := fun σ H Q => ∃ P al M env R, RS K B P al M env σ H ∧ w env M R ∧ Lift K B P al env σ H R Q
def tDT (w : WT) : TT := fun σ H Q => ∃ P al M env R, RS K B P al M env σ H ∧ w env M R ∧
  ∀ b M' H' P' al', Ext P al H P' al' H' → RS K B P' al' M' env σ H' → R b M' → Q b H'
def tDA (w : WA) : TA := fun σ H Q => ∃ P al M env R, RS K B P al M env σ H ∧ w env M R ∧
  ∀ ds M' vs H' P' al', Ext P al H P' al' H' → RS K B P' al' M' env σ H' → Reps K P' al' ds vs → R ds M' → Q vs H'
structure DLift (P : Hp) (al : List Addr) (H : Hp) (k : DEnds) (D : Ends) : Prop where
  nx : ∀ env' M' σ' H' P' al', Ext P al H P' al' H' → RS K B P' al' M' env' σ' H' → k.nx env' M' → D.nx σ' H'
  rt : ∀ d M' v H' P' al', Ext P al H P' al' H' → RS0 K B P' al' M' H' → Rep K P' al' d v → k.rt d M' → D.rt v H'
  bk : ∀ env' M' σ' H' P' al', Ext P al H P' al' H' → RS K B P' al' M' env' σ' H' → k.bk env' M' → D.bk σ' H'
  ct : ∀ env' M' σ' H' P' al', Ext P al H P' al' H' → RS K B P' al' M' env' σ' H' → k.ct env' M' → D.ct σ' H'
def tDS (w : WS) : TS := fun D σ H => ∃ P al M env, ∃ k : DEnds, RS K B P al M env σ H ∧ w k env M ∧ DLift K B P al H k D
def tDG (g : WG) : TG := fun v σ H Q => ∃ P al M env d R, RS K B P al M env σ H ∧ Rep K P al d v ∧ g d env M R ∧
  ∀ env' M' σ' H' P' al', Ext P al H P' al' H' → RS K B P' al' M' env' σ' H' → R env' M' → Q σ' H'
end
theorem DLift.after {K : PySem.W.Frag} {B : Bs} {P P' : Hp} {al al' : List Addr} {H H' : Hp} {k : DEnds} {D : Ends} (L : DLift K B P al H k D) (e : Ext P al H P' al' H') : DLift K B P' al' H' k D :=
  ⟨fun _ _ _ _ _ _ e2 => L.nx _ _ _ _ _ _ (e.trans e2), fun _ _ _ _ _ _ e2 => L.rt _ _ _ _ _ _ (e.trans e2), fun _ _ _ _ _ _ e2 => L.bk _ _ _ _ _ _ (e.trans e2), fun _ _ _ _ _ _ e2 => L.ct _ _ _ _ _ _ (e.trans e2)⟩
theorem _root_.L2.PE.imp {X : Cx} {e : Expr} {t u : TE} (h : PE X e t) (i : ∀ σ H Q, u σ H Q → t σ H Q) : PE X e u := ⟨fun pins s σ H Q I q => h.run pins s σ H Q I (i σ H Q q)⟩
theorem _root_.L2.PT.imp {X : Cx} {e : Expr} {t u : TT} (h : PT X e t) (i : ∀ σ H Q, u σ H Q → t σ H Q) : PT X e u := ⟨fun pins s σ H Q I q => h.run pins s σ H Q I (i σ H Q q)⟩
theorem _root_.L2.PW.imp {X : Cx} {e : Expr} {t u : TT} (h : PW X e t) (i : ∀ σ H Q, u σ H Q → t σ H Q) : PW X e u := ⟨fun wh pins s σ H Q I q => h.run wh pins s σ H Q I (i σ H Q q)⟩
theorem _root_.L2.PA.imp {X : Cx} {e : List Expr} {t u : TA} (h : PA X e t) (i : ∀ σ H Q, u σ H Q → t σ H Q) : PA X e u := ⟨fun p pins s σ H Q I q => h.run p pins s σ H Q I (i σ H Q q)⟩
theorem _root_.L2.PS.imp {X : Cx} {e : Stmt} {t u : TS} (h : PS X e t) (i : ∀ D σ H, u D σ H → t D σ H) : PS X e u := ⟨fun pins s σ H D I q => h.run pins s σ H D I (i D σ H q)⟩
theorem _root_.L2.PSs.imp {X : Cx} {e : List Stmt} {t u : TS} (h : PSs X e t) (i : ∀ D σ H, u D σ H → t D σ H) : PSs X e u := ⟨fun pins s σ H D I q => h.run pins s σ H D I (i D σ H q)⟩
theorem _root_.L2.PI.imp {X : Cx} {tg e : Expr} {t u : TI} (h : PI X tg e t) (i : ∀ σ H Q, u σ H Q → t σ H Q) : PI X tg e u := ⟨fun pins s σ H R I q => h.run pins s σ H R I (i σ H R q)⟩
theorem _root_.L2.PG.imp {X : Cx} {e : Expr} {t u : TG} (h : PG X e t) (i : ∀ v σ H Q, u v σ H Q → t v σ H Q) : PG X e u := ⟨fun pins s σ H v u' Q I r q => h.run pins s σ H v u' Q I r (i v σ H Q q)⟩
abbrev DE (B : Bs) (X : Cx) (e : Expr) (w : WE) : Prop := PE X e (tD X.K B w)
abbrev DT (B : Bs) (X : Cx) (e : Expr) (w : WT) : Prop := PT X e (tDT X.K B w)
abbrev DW (B : Bs) (X : Cx) (e : Expr) (w : WT) : Prop := PW X e (tDT X.K B w)
abbrev DA (B : Bs) (X : Cx) (es : List Expr) (w : WA) : Prop := PA X es (tDA X.K B w)
abbrev DS (B : Bs) (X : Cx) (st : Stmt) (w : WS) : Prop := PS X st (tDS X.K B w)
abbrev DSs (B : Bs) (X : Cx) (st : List Stmt) (w : WS) : Prop := PSs X st (tDS X.K B w)
abbrev DG (B : Bs) (X : Cx) (e : Expr) (g : WG) : Prop := PG X e (tDG X.K B g)
end L3

namespace L3
open PySem PySem.Spec PyProof.Rows L2
/-! ### looking through the table -/
def viewD (M : Mt) : D → D
  | .cel i => match M[i]? with
    | some (.lst l) => .lst l
    | some (.dct l) => .dct l
    | some (.obj C fs) => .obj C fs
    | _ => .cel i
  | d => d
section
variable {K : PySem.W.Frag} {B : Bs} {P P' : Hp} {al al' : List Addr} {M M' : Mt} {env : Ev} {σ : L2.St} {H H' : Hp} {a p : Addr} {d : D} {v : V}
/-- what is looked through -/
def liveV : D → Bool
  | .lst _ => true
  | .dct _ => true
  | .obj _ _ => true
  | _ => false
theorem liveV_live {m : D} (h : liveV m = true) : live m = true := by cases m <;> first | rfl | cases h
theorem view_cases (M : Mt) (d : D) : viewD M d = d ∨ ∃ i m, d = .cel i ∧ M[i]? = some m ∧ liveV m = true ∧ viewD M d = m := by
  cases d <;> first | exact .inl rfl | skip
  rename_i i
  obtain ⟨o, h⟩ : ∃ o, M[i]? = o := ⟨_, rfl⟩
  cases o with
  | none => exact .inl (by simp only [viewD, h])
  | some m =>
    cases m <;> first
      | exact .inr ⟨i, _, rfl, h, rfl, by simp only [viewD, h]⟩
      | exact .inl (by simp only [viewD, h])
theorem view_same {m : D} (hl : liveV m = false) (e : viewD M d = m) : d = m := by
  rcases view_cases M d with h | ⟨i, n, _, _, l, h⟩
  · rw [← h, e]
  · rw [e] at h; subst h; rw [hl] at l; cases l
theorem cell_at (r : RS0 K B P al M H) {i : Nat} {m : D} (hm : M[i]? = some m) (q : Rep K P al (.cel i) v) : ∃ a, v = .ref a ∧ al[i]? = some a ∧ Cell K P al m a H := by
  cases q with
  | cel e => exact ⟨_, rfl, e, r.cell _ _ _ e hm⟩
theorem view_lst (r : RS0 K B P al M H) (q : Rep K P al d v) {ds : List D} (e : viewD M d = .lst ds) : ∃ a xs, v = .ref a ∧ H a = some (.lst xs) ∧ Reps K P al ds xs := by
  rcases view_cases M d with h | ⟨i, m, rfl, hm, l, h⟩
  · rw [e] at h; subst h
    cases q with
    | lst h1 h2 => exact ⟨_, _, rfl, r.same _ _ h1, h2⟩
  · rw [e] at h; subst h
    obtain ⟨a, rfl, _, _, xs, h1, h2⟩ := cell_at r hm q
    exact ⟨a, xs, rfl, h1, h2⟩
theorem view_dct (r : RS0 K B P al M H) (q : Rep K P al d v) {ds : List (Key × D)} (e : viewD M d = .dct ds) : ∃ a xs, v = .ref a ∧ H a = some (.dK xs) ∧ RepKs K P al ds xs := by
  rcases view_cases M d with h | ⟨i, m, rfl, hm, l, h⟩
  · rw [e] at h; subst h
    cases q with
    | dct h1 h2 => exact ⟨_, _, rfl, r.same _ _ h1, h2⟩
  · rw [e] at h; subst h
    obtain ⟨a, rfl, _, _, xs, h1, h2⟩ := cell_at r hm q
    exact ⟨a, xs, rfl, h1, h2⟩
theorem view_fdc (r : RS0 K B P al M H) (q : Rep K P al d v) {ds : List (Key × D)} (e : viewD M d = .fdc ds) : ∃ a xs, v = .ref a ∧ Rd H a (.dK xs) ∧ RepKs K P al ds xs := by
  rw [view_same rfl e] at q
  cases q with
  | fdc h1 h2 => exact ⟨_, _, rfl, .inr ⟨_, r.same _ _ h1⟩, h2⟩
theorem view_dk (r : RS0 K B P al M H) (q : Rep K P al d v) {ds : List (Key × D)} (e : viewD M d = .dct ds ∨ viewD M d = .fdc ds) : ∃ a xs, v = .ref a ∧ Rd H a (.dK xs) ∧ RepKs K P al ds xs := by
  rcases e with e | e
  · obtain ⟨a, xs, h1, h2, h3⟩ := view_dct r q e
    exact ⟨a, xs, h1, .inl h2, h3⟩
  · exact view_fdc r q e
theorem view_obj (r : RS0 K B P al M H) (q : Rep K P al d v) {n : Str} {fs : List (Str × D)} (e : viewD M d = .obj n fs) : ∃ a C dx xs, v = .ref a ∧ H a = some (.ins C dx xs) ∧ ClsAt K n C ∧ RepFs K P al fs xs := by
  rcases view_cases M d with h | ⟨i, m, rfl, hm, l, h⟩
  · rw [e] at h; subst h
    cases q with
    | obj h1 hc h2 => exact ⟨_, _, _, _, rfl, r.same _ _ h1, hc, h2⟩
  · rw [e] at h; subst h
    obtain ⟨a, rfl, _, _, C, dx, xs, h1, hc, h2⟩ := cell_at r hm q
    exact ⟨a, C, dx, xs, rfl, h1, hc, h2⟩
theorem view_tup (r : RS0 K B P al M H) (q : Rep K P al d v) {ds : List D} (e : viewD M d = .tup ds) : ∃ a xs, v = .ref a ∧ SqT K H a xs ∧ Reps K P al ds xs := by
  rw [view_same rfl e] at q
  cases q with
  | tup h1 h2 => exact ⟨_, _, rfl, same_seqT r.same h1, h2⟩
theorem view_rol (r : RS0 K B P al M H) (q : Rep K P al d v) {ds : List D} (e : viewD M d = .rol ds) : ∃ a xs, v = .ref a ∧ SqL K H a xs ∧ Reps K P al ds xs := by
  rw [view_same rfl e] at q
  cases q with
  | rol h1 h2 => exact ⟨_, _, rfl, r.same.seq h1, h2⟩
theorem view_int (q : Rep K P al d v) {i : Int} (e : viewD M d = .int i) : v = .int i := by
  rw [view_same rfl e] at q; cases q; rfl
theorem view_bl (q : Rep K P al d v) {i : Bool} (e : viewD M d = .bl i) : v = .bl i := by
  rw [view_same rfl e] at q; cases q; rfl
theorem view_str (q : Rep K P al d v) {i : Str} (e : viewD M d = .str i) : v = .str i := by
  rw [view_same rfl e] at q; cases q; rfl
theorem view_non (q : Rep K P al d v) (e : viewD M d = .non) : v = .non := by
  rw [view_same rfl e] at q; cases q; rfl
/-- what can be read in order -/
def seqD : D → Option (List D)
  | .lst l => some l
  | .rol l => some l
  | .tup l => some l
  | _ => none
theorem view_seq (r : RS0 K B P al M H) (q : Rep K P al d v) {ds : List D} (e : seqD (viewD M d) = some ds) : ∃ a xs, v = .ref a ∧ (SqL K H a xs ∨ SqT K H a xs) ∧ Reps K P al ds xs := by
  cases h : viewD M d <;> rw [h] at e <;> simp [seqD] at e
  · obtain ⟨a, xs, e1, e2, e3⟩ := view_tup r q h; subst e; exact ⟨a, xs, e1, .inr e2, e3⟩
  · obtain ⟨a, xs, e1, e2, e3⟩ := view_lst r q h; subst e; exact ⟨a, xs, e1, .inl (.inl (.inl e2)), e3⟩
  · obtain ⟨a, xs, e1, e2, e3⟩ := view_rol r q h; subst e; exact ⟨a, xs, e1, .inl e2, e3⟩

/-! ### lifting -/
theorem Lift.after {R : D → Mt → Prop} {Q : VK} (L : Lift K B P al env σ H R Q) (e : Ext P al H P' al' H') : Lift K B P' al' env σ H' R Q :=
  fun d M v H2 P2 al2 e2 rs r q => L d M v H2 P2 al2 (e.trans e2) rs r q
/-- the value is there already -/
theorem Lift.here {R : D → Mt → Prop} {Q : VK} (L : Lift K B P al env σ H R Q) (rs : RS K B P al M env σ H) (r : Rep K P al d v) (q : R d M) : Q v H := L _ _ _ _ _ _ Ext.refl rs r q
/-- a new object is the value -/
theorem Lift.alloc {R : D → Mt → Prop} {Q : VK} (L : Lift K B P al env σ H R Q) (rs : RS K B P al M env σ H) (hp : H p = none) {o : HO} (r : Rep K (upd P p o) al d (.ref p)) (q : R d M) : Q (.ref p) (upd H p o) := by
  obtain ⟨e, r0⟩ := rs.toRS0.alloc hp o
  exact L _ _ _ _ _ _ e (rs.step e r0) r q
theorem Ext.rs (e : Ext P al H P' al' H') (rs : RS K B P al M env σ H) (r0 : RS0 K B P' al' M' H') : RS K B P' al' M' env σ H' := rs.step e r0
theorem same_new (rs : RS0 K B P al M H) (hp : H p = none) {o : HO} : Same P (upd P p o) := (rs.alloc hp o).1.pp
end

/-! ### names and constants -/
def look (env : Ev) (i : Nat) : Option D := match env[i]? with
  | some (some d) => some d
  | _ => none
def wVar (i : Nat) : WE := fun env M R => match env[i]? with
  | some (some d) => R d M
  | _ => False
def wC (d : D) : WE := fun _ M R => R d M
section
variable {X : Cx} {B : Bs} {a b c e : Expr} {es : List Expr} {wa wb wc we : WE} {pos : Pos}
theorem d_var {i : Nat} {x : Str} {pos : Pos} (hN : X.N[i]? = some x := by rfl) (hv : Vis X.env.scope x := by first | exact Or.inl rfl | exact Or.inr (Or.inl rfl) | exact Or.inr (Or.inr rfl)) (hd : (x == ("__debug__" : Str)) = false := by decide) (hcd : (x == ("__classdict__" : Str)) = false := by decide) :
    DE B X (.Name x pos) (wVar i) := by
  refine (pe_var hN hv hd hcd).imp fun σ H Q => ?_
  rintro ⟨P, al, M, env, R, rs, hw, L⟩
  unfold wVar at hw
  split at hw
  · rename_i d hd
    obtain ⟨v, h1, h2⟩ := rs.slot _ _ hd
    exact ⟨v, h1, L.here rs h2 hw⟩
  · exact hw.elim
theorem d_C {d : D} {v : V} (h : PE X e (tC v)) (hd : ∀ P al, Rep X.K P al d v) : DE B X e (wC d) := by
  refine h.imp fun σ H Q => ?_
  rintro ⟨P, al, M, env, R, rs, hw, L⟩
  exact L.here rs (hd _ _) hw
theorem d_int {i : Int} {j pos} : DE B X (.Constant (.int i) j pos) (wC (.int i)) := d_C pe_int fun _ _ => .int i
theorem d_str {x : Str} {j pos} : DE B X (.Constant (.str x) j pos) (wC (.str x)) := d_C pe_str fun _ _ => .str x
theorem d_bl {x : Bool} {j pos} : DE B X (.Constant (.bool x) j pos) (wC (.bl x)) := d_C pe_bl fun _ _ => .bl x
theorem d_non {j pos} : DE B X (.Constant .none j pos) (wC .non) := d_C pe_non fun _ _ => .non

/-! ### two places -/
abbrev WO2 := D → D → Mt → (D → Mt → Prop) → Prop
def wOp (o : WO2) (wa wb : WE) : WE := fun env M R => wa env M fun x M1 => wb env M1 fun y M2 => o x y M2 R
def OpD (K : PySem.W.Frag) (B : Bs) (r : R2) (o : WO2) : Prop := ∀ P al M env σ H x y dx dy R Q, RS K B P al M env σ H → Rep K P al dx x → Rep K P al dy y → o dx dy M R → Lift K B P al env σ H R Q → r x y H Q
theorem op_imp {K : PySem.W.Frag} {r : R2} {o : WO2} (h : OpD K B r o) (σ : L2.St) (H : Hp) (Q : VK) : tD K B (wOp o wa wb) σ H Q → tOp r (tD K B wa) (tD K B wb) σ H Q := by
  rintro ⟨P, al, M, env, R, rs, hw, L⟩
  exact ⟨P, al, M, env, _, rs, hw, fun d1 M1 v1 H1 P1 al1 e1 rs1 r1 hw1 => ⟨P1, al1, M1, env, _, rs1, hw1, fun d2 M2 v2 H2 P2 al2 e2 rs2 r2 hw2 =>
    h _ _ _ _ _ _ _ _ _ _ _ _ rs2 (r1.mono e2.pp e2.pre) r2 hw2 (L.after (e1.trans e2))⟩⟩
theorem d_op {op : Operator} {r : R2} {o : WO2} (ho : OpR X (binaryOp op) r) (h : OpD X.K B r o) (ha : DE B X a wa) (hb : DE B X b wb) : DE B X (.BinOp a op b pos) (wOp o wa wb) :=
  (pe_op ho ha hb).imp (op_imp h)
theorem d_cmp {op : CmpOp} {r : R2} {o : WO2} (ho : OpR X (compareOp op) r) (h : OpD X.K B r o) (ha : DE B X a wa) (hb : DE B X b wb) (hm : behindInMarks op b = false) : DE B X (.Compare a [op] [b] pos) (wOp o wa wb) :=
  (pe_cmpR ho ha hb hm).imp (op_imp h)
/-- a value that must be a bool, as a test -/
def wTest (w : WE) : WT := fun env M R => w env M fun d M1 => match d with
  | .bl b => R b M1
  | _ => False
theorem test_imp {K : PySem.W.Frag} {t : TE} {w : WE} (h : ∀ σ H Q, tD K B w σ H Q → t σ H Q) (σ : L2.St) (H : Hp) (Q : Bool → Hp → Prop) : tDT K B (wTest w) σ H Q → tTest t σ H Q := by
  rintro ⟨P, al, M, env, R, rs, hw, L⟩
  refine h σ H _ ⟨P, al, M, env, _, rs, hw, fun d M1 v H1 P1 al1 e1 rs1 r1 q => ?_⟩
  split at q
  · rename_i b; cases r1; exact ⟨b, rfl, L _ _ _ _ _ e1 rs1 q⟩
  · exact q.elim
theorem d_cmpT {op : CmpOp} {r : R2} {o : WO2} (ho : OpR X (compareOp op) r) (h : OpD X.K B r o) (ha : DE B X a wa) (hb : DE B X b wb) (hm : behindInMarks op b = false) : DT B X (.Compare a [op] [b] pos) (wTest (wOp o wa wb)) :=
  (pt_cmpR ho ha hb hm).imp (test_imp (op_imp h))
/-- both ways of a truth value -/
def ifB (b : Bool) (A C : Prop) : Prop := (b = true → A) ∧ (b = false → C)
def wAndT (t u : WT) : WT := fun env M R => t env M fun b M1 => ifB b (u env M1 R) (R false M1)
def wOrT (t u : WT) : WT := fun env M R => t env M fun b M1 => ifB b (R true M1) (u env M1 R)
def wNotT (t : WT) : WT := fun env M R => t env M fun b M1 => R (!b) M1
variable {ta tb : WT} {rest : List Expr}
theorem d_and1 (ha : DT B X a ta) : DW B X (.BoolOp .And [a] pos) ta := pw_and1 ha
theorem d_or1 (ha : DT B X a ta) : DW B X (.BoolOp .Or [a] pos) ta := pw_or1 ha
theorem d_and (ha : DT B X a ta) (hb : DW B X (.BoolOp .And (b :: rest) pos) tb) : DW B X (.BoolOp .And (a :: b :: rest) pos) (wAndT ta tb) := by
  refine (pw_and ha hb).imp fun σ H Q => ?_
  rintro ⟨P, al, M, env, R, rs, hw, L⟩
  refine ⟨P, al, M, env, _, rs, hw, fun b' M1 H1 P1 al1 e1 rs1 q => ?_⟩
  cases b' with
  | true => rw [if_pos rfl]; exact ⟨P1, al1, M1, env, _, rs1, q.1 rfl, fun c M2 H2 P2 al2 e2 rs2 q2 => L _ _ _ _ _ (e1.trans e2) rs2 q2⟩
  | false => rw [if_neg Bool.false_ne_true]; exact L _ _ _ _ _ e1 rs1 (q.2 rfl)
theorem d_or (ha : DT B X a ta) (hb : DW B X (.BoolOp .Or (b :: rest) pos) tb) : DW B X (.BoolOp .Or (a :: b :: rest) pos) (wOrT ta tb) := by
  refine (pw_or ha hb).imp fun σ H Q => ?_
  rintro ⟨P, al, M, env, R, rs, hw, L⟩
  refine ⟨P, al, M, env, _, rs, hw, fun b' M1 H1 P1 al1 e1 rs1 q => ?_⟩
  cases b' with
  | true => rw [if_pos rfl]; exact L _ _ _ _ _ e1 rs1 (q.1 rfl)
  | false => rw [if_neg Bool.false_ne_true]; exact ⟨P1, al1, M1, env, _, rs1, q.2 rfl, fun c M2 H2 P2 al2 e2 rs2 q2 => L _ _ _ _ _ (e1.trans e2) rs2 q2⟩
theorem d_not (ha : DT B X a ta) : DT B X (.UnaryOp .Not a pos) (wNotT ta) := by
  refine (pt_not ha).imp fun σ H Q => ?_
  rintro ⟨P, al, M, env, R, rs, hw, L⟩
  exact ⟨P, al, M, env, _, rs, hw, fun b' M1 H1 P1 al1 e1 rs1 q => L _ _ _ _ _ e1 rs1 q⟩
/-- as values -/
def wAndV (wa wb : WE) : WE := fun env M R => wa env M fun d M1 => match d with
  | .bl b => ifB b (wb env M1 R) (R (.bl false) M1)
  | _ => False
def wOrV (wa wb : WE) : WE := fun env M R => wa env M fun d M1 => match d with
  | .bl b => ifB b (R (.bl true) M1) (wb env M1 R)
  | _ => False
def wNotV (wa : WE) : WE := fun env M R => wa env M fun d M1 => match d with
  | .bl b => R (.bl (!b)) M1
  | _ => False
theorem d_one {op} (h : DE B X a wa) : DE B X (.BoolOp op [a] pos) wa := pe_one h
theorem d_andV (ha : DE B X a wa) (hb : DE B X (.BoolOp .And (b :: rest) pos) wb) : DE B X (.BoolOp .And (a :: b :: rest) pos) (wAndV wa wb) := by
  refine (pe_and ha hb).imp fun σ H Q => ?_
  rintro ⟨P, al, M, env, R, rs, hw, L⟩
  refine ⟨P, al, M, env, _, rs, hw, fun d M1 v H1 P1 al1 e1 rs1 r1 q => ?_⟩
  split at q
  · rename_i b'; cases r1; refine ⟨b', rfl, ?_⟩
    cases b' with
    | true => rw [if_pos rfl]; exact ⟨P1, al1, M1, env, _, rs1, q.1 rfl, L.after e1⟩
    | false => rw [if_neg Bool.false_ne_true]; exact L _ _ _ _ _ _ e1 rs1 (.bl false) (q.2 rfl)
  · exact q.elim
theorem d_orV (ha : DE B X a wa) (hb : DE B X (.BoolOp .Or (b :: rest) pos) wb) : DE B X (.BoolOp .Or (a :: b :: rest) pos) (wOrV wa wb) := by
  refine (pe_or ha hb).imp fun σ H Q => ?_
  rintro ⟨P, al, M, env, R, rs, hw, L⟩
  refine ⟨P, al, M, env, _, rs, hw, fun d M1 v H1 P1 al1 e1 rs1 r1 q => ?_⟩
  split at q
  · rename_i b'; cases r1; refine ⟨b', rfl, ?_⟩
    cases b' with
    | true => rw [if_pos rfl]; exact L _ _ _ _ _ _ e1 rs1 (.bl true) (q.1 rfl)
    | false => rw [if_neg Bool.false_ne_true]; exact ⟨P1, al1, M1, env, _, rs1, q.2 rfl, L.after e1⟩
  · exact q.elim
theorem d_notV (ha : DE B X a wa) : DE B X (.UnaryOp .Not a pos) (wNotV wa) := by
  refine (pe_not ha).imp fun σ H Q => ?_
  rintro ⟨P, al, M, env, R, rs, hw, L⟩
  refine ⟨P, al, M, env, _, rs, hw, fun d M1 v H1 P1 al1 e1 rs1 r1 q => ?_⟩
  split at q
  · rename_i b'; cases r1; exact ⟨b', rfl, L _ _ _ _ _ _ e1 rs1 (.bl _) q⟩
  · exact q.elim
def wIfE (t : WT) (wa wb : WE) : WE := fun env M R => t env M fun b M1 => ifB b (wa env M1 R) (wb env M1 R)
theorem d_ifE (hc : DT B X c ta) (ha : DE B X a wa) (hb : DE B X b wb) : DE B X (.IfExp c a b pos) (wIfE ta wa wb) := by
  refine (pe_ifExp hc ha hb).imp fun σ H Q => ?_
  rintro ⟨P, al, M, env, R, rs, hw, L⟩
  refine ⟨P, al, M, env, _, rs, hw, fun b' M1 H1 P1 al1 e1 rs1 q => ?_⟩
  cases b' with
  | true => rw [if_pos rfl]; exact ⟨P1, al1, M1, env, _, rs1, q.1 rfl, L.after e1⟩
  | false => rw [if_neg Bool.false_ne_true]; exact ⟨P1, al1, M1, env, _, rs1, q.2 rfl, L.after e1⟩
/-- any value's truth -/
def truD (M : Mt) (d : D) (R : Bool → Prop) : Prop := match viewD M d with
  | .non => R false
  | .bl b => R b
  | .int i => R (i != 0)
  | .str s => Need (s.length ≤ sizeLine) ∧ R ((s.length : Int) != 0)
  | .lst l => R (!l.isEmpty)
  | .rol l => R (!l.isEmpty)
  | .tup l => R (!l.isEmpty)
  | .dct l => R (!l.isEmpty)
  | _ => False
def wTru (w : WE) : WT := fun env M R => w env M fun d M1 => truD M1 d fun b => R b M1
theorem empty_of {α β : Type} {xs : List α} {ys : List β} (h : xs.length = ys.length) : xs.isEmpty = ys.isEmpty := by
  cases xs <;> cases ys <;> simp_all
theorem RepKs.length {K : PySem.W.Frag} {P : Hp} {al : List Addr} : ∀ {ds : List (Key × D)} {vs : List (Key × V)}, RepKs K P al ds vs → ds.length = vs.length
  | _, _, .nil => rfl
  | _, _, .cons _ t => by simp [RepKs.length t]
theorem d_truth (h : DE B X e we) (he : ∀ whole, isTrue e X.env whole = (do let v ← whole; standAt e.pos; holding [v] (truthy v)) := by intro _; rfl) : DT B X e (wTru we) := by
  refine (pt_truth h he).imp fun σ H Q => ?_
  rintro ⟨P, al, M, env, R, rs, hw, L⟩
  refine ⟨P, al, M, env, _, rs, hw, fun d M1 v H1 P1 al1 e1 rs1 r1 q => ?_⟩
  unfold truD at q
  have L' := fun b => L b M1 H1 P1 al1 e1 rs1
  split at q
  · rename_i h; cases view_non r1 h; exact ⟨_, rfl, L' _ q⟩
  · rename_i h; cases view_bl r1 h; exact ⟨_, rfl, L' _ q⟩
  · rename_i h; cases view_int r1 h; exact ⟨_, rfl, L' _ q⟩
  · rename_i h; cases view_str r1 h; exact ⟨_, ⟨q.1.out, rfl⟩, L' _ q.2⟩
  · rename_i h; obtain ⟨a, xs, rfl, h1, h2⟩ := view_lst rs1.toRS0 r1 h
    rw [empty_of h2.length] at q; exact ⟨_, .inl ⟨xs, .inl (.inl h1), rfl⟩, L' _ q⟩
  · rename_i h; obtain ⟨a, xs, rfl, h1, h2⟩ := view_rol rs1.toRS0 r1 h
    rw [empty_of h2.length] at q; exact ⟨_, .inl ⟨xs, h1, rfl⟩, L' _ q⟩
  · rename_i h; obtain ⟨a, xs, rfl, h1, h2⟩ := view_tup rs1.toRS0 r1 h
    rw [empty_of h2.length] at q; exact ⟨_, .inr (.inl ⟨xs, h1, rfl⟩), L' _ q⟩
  · rename_i h; obtain ⟨a, xs, rfl, h1, h2⟩ := view_dct rs1.toRS0 r1 h
    rw [empty_of h2.length] at q; exact ⟨_, .inr (.inr ⟨xs, h1, rfl⟩), L' _ q⟩
  · exact q.elim
/-- a op1 b op2 c -/
def wChain (o o' : WO2) (wa wb wc : WE) : WE := fun env M R => wa env M fun x M1 => wb env M1 fun y M2 => o x y M2 fun z M3 => match z with
  | .bl k => ifB k (wc env M3 fun u M4 => o' y u M4 R) (R (.bl false) M3)
  | _ => False
theorem chain_imp {K : PySem.W.Frag} {r r' : R2} {o o' : WO2} (h : OpD K B r o) (h' : OpD K B r' o') (σ : L2.St) (H : Hp) (Q : VK) : tD K B (wChain o o' wa wb wc) σ H Q → tChain r r' (tD K B wa) (tD K B wb) (tD K B wc) σ H Q := by
  rintro ⟨P, al, M, env, R, rs, hw, L⟩
  refine ⟨P, al, M, env, _, rs, hw, fun d1 M1 v1 H1 P1 al1 e1 rs1 r1 hw1 => ⟨P1, al1, M1, env, _, rs1, hw1, fun d2 M2 v2 H2 P2 al2 e2 rs2 r2 hw2 => ?_⟩⟩
  refine h _ _ _ _ _ _ _ _ _ _ _ _ rs2 (r1.mono e2.pp e2.pre) r2 hw2 fun d3 M3 v3 H3 P3 al3 e3 rs3 r3 q => ?_
  split at q
  · rename_i k; cases r3; refine ⟨k, rfl, ?_⟩
    have L3 := L.after (e1.trans (e2.trans e3))
    cases k with
    | true =>
      rw [if_pos rfl]
      exact ⟨P3, al3, M3, env, _, rs3, q.1 rfl, fun d4 M4 v4 H4 P4 al4 e4 rs4 r4 hw4 => h' _ _ _ _ _ _ _ _ _ _ _ _ rs4 (r2.mono (e3.trans e4).pp (e3.trans e4).pre) r4 hw4 (L3.after e4)⟩
    | false => rw [if_neg Bool.false_ne_true]; exact L3.here rs3 (.bl false) (q.2 rfl)
  · exact q.elim
theorem d_chain {op op' : CmpOp} {r r' : R2} {o o' : WO2} (ho : OpR X (compareOp op) r) (h : OpD X.K B r o) (ho' : OpR X (compareOp op') r') (h' : OpD X.K B r' o') (ha : DE B X a wa) (hb : DE B X b wb) (hc : DE B X c wc) (hm : lastMarks [op, op'] [b, c] = false := by with_unfolding_all rfl) :
    DE B X (.Compare a [op, op'] [b, c] pos) (wChain o o' wa wb wc) := (pe_chain ho ho' ha hb hc hm).imp (chain_imp h h')
theorem d_chainT {op op' : CmpOp} {r r' : R2} {o o' : WO2} (ho : OpR X (compareOp op) r) (h : OpD X.K B r o) (ho' : OpR X (compareOp op') r') (h' : OpD X.K B r' o') (ha : DE B X a wa) (hb : DE B X b wb) (hc : DE B X c wc) (hm : lastMarks [op, op'] [b, c] = false := by with_unfolding_all rfl) :
    DT B X (.Compare a [op, op'] [b, c] pos) (wTest (wChain o o' wa wb wc)) := (pt_chain ho ho' ha hb hc hm).imp (test_imp (chain_imp h h'))

/-! ### arguments, displays -/
def wNil : WA := fun _ M R => R [] M
def wCons (w : WE) (r : WA) : WA := fun env M R => w env M fun d M1 => r env M1 fun ds M2 => R (d :: ds) M2
variable {was : WA}
theorem da_nil : DA B X [] wNil := by
  refine pa_nil.imp fun σ H Q => ?_
  rintro ⟨P, al, M, env, R, rs, hw, L⟩
  exact L _ _ _ _ _ _ Ext.refl rs .nil hw
theorem da_cons (ha : DE B X e we) (hr : DA B X es was) (hs : starEach (e :: es) X.env = (false, eval e X.env) :: starEach es X.env := by rfl) : DA B X (e :: es) (wCons we was) := by
  refine (pa_cons ha hr hs).imp fun σ H Q => ?_
  rintro ⟨P, al, M, env, R, rs, hw, L⟩
  exact ⟨P, al, M, env, _, rs, hw, fun d M1 v H1 P1 al1 e1 rs1 r1 hw1 => ⟨P1, al1, M1, env, _, rs1, hw1, fun ds M2 vs H2 P2 al2 e2 rs2 r2 q =>
    L _ _ _ _ _ _ (e1.trans e2) rs2 (.cons (r1.mono e2.pp e2.pre) r2) q⟩⟩
def wTup (w : WA) : WE := fun env M R => w env M fun ds M1 => Need (ds.length ≤ sizeLine) ∧ R (.tup ds) M1
def wLst (w : WA) : WE := fun env M R => w env M fun ds M1 => Need (ds.length ≤ sizeLine) ∧ R (.lst ds) M1
/-- a list that will be changed -/
def wLstM (w : WA) : WE := fun env M R => w env M fun ds M1 => Need (ds.length ≤ sizeLine) ∧ R (.cel M1.length) (M1 ++ [.lst ds])
theorem d_tup {k} (h : DA B X es was) : DE B X (.Tuple es k pos) (wTup was) := by
  refine (pe_tup h).imp fun σ H Q => ?_
  rintro ⟨P, al, M, env, R, rs, hw, L⟩
  refine ⟨P, al, M, env, _, rs, hw, fun ds M1 vs H1 P1 al1 e1 rs1 r1 q => ⟨by rw [← r1.length]; exact q.1.out, fun p hp => ?_⟩⟩
  exact (L.after e1).alloc rs1 hp (.tup (.inl (.inl upd_same)) (r1.mono (same_new rs1.toRS0 hp) (List.prefix_refl _))) q.2
theorem d_lst (h : DA B X es was) : DE B X (.List es pos) (wLst was) := by
  refine (pe_lst h).imp fun σ H Q => ?_
  rintro ⟨P, al, M, env, R, rs, hw, L⟩
  refine ⟨P, al, M, env, _, rs, hw, fun ds M1 vs H1 P1 al1 e1 rs1 r1 q => ⟨by rw [← r1.length]; exact q.1.out, fun p hp => ?_⟩⟩
  exact (L.after e1).alloc rs1 hp (.lst upd_same (r1.mono (same_new rs1.toRS0 hp) (List.prefix_refl _))) q.2
theorem Lift.allocM {K : PySem.W.Frag} {P : Hp} {al : List Addr} {M : Mt} {env : Ev} {σ : L2.St} {H : Hp} {p : Addr} {R : D → Mt → Prop} {Q : VK} (L : Lift K B P al env σ H R Q) (rs : RS K B P al M env σ H) (hp : H p = none) {ds : List D} {vs : List V} (r : Reps K P al ds vs)
    (q : R (.cel M.length) (M ++ [.lst ds])) : Q (.ref p) (upd H p (.lst vs)) := by
  obtain ⟨e, r0⟩ := rs.toRS0.allocM (m := .lst ds) (o := .lst vs) hp fun P' al' s h hn H' e => ⟨hn, vs, e, r.mono s h⟩
  refine L _ _ _ _ _ _ e (rs.step e r0) (.cel ?_) q
  rw [← rs.len, List.getElem?_append_right (Nat.le_refl _), Nat.sub_self]; rfl
theorem d_lstM (h : DA B X es was) : DE B X (.List es pos) (wLstM was) := by
  refine (pe_lst h).imp fun σ H Q => ?_
  rintro ⟨P, al, M, env, R, rs, hw, L⟩
  refine ⟨P, al, M, env, _, rs, hw, fun ds M1 vs H1 P1 al1 e1 rs1 r1 q => ⟨by rw [← r1.length]; exact q.1.out, fun p hp => ?_⟩⟩
  exact (L.after e1).allocM rs1 hp r1 q.2

/-! ### calls of builtins -/
abbrev WCl := List D → Mt → (D → Mt → Prop) → Prop
def wCB (c : WCl) (w : WA) : WE := fun env M R => w env M fun ds M1 => c ds M1 R
def CallD (K : PySem.W.Frag) (B : Bs) (r : List V → Hp → VK → Prop) (c : WCl) : Prop := ∀ P al M env σ H vs ds R Q, RS K B P al M env σ H → Reps K P al ds vs → c ds M R → Lift K B P al env σ H R Q → r vs H Q
theorem cb_imp {K : PySem.W.Frag} {r : List V → Hp → VK → Prop} {c : WCl} (h : CallD K B r c) (σ : L2.St) (H : Hp) (Q : VK) : tD K B (wCB c was) σ H Q → tCB r (tDA K B was) σ H Q := by
  rintro ⟨P, al, M, env, R, rs, hw, L⟩
  exact ⟨P, al, M, env, _, rs, hw, fun ds M1 vs H1 P1 al1 e1 rs1 r1 q => h _ _ _ _ _ _ _ _ _ _ rs1 r1 q (L.after e1)⟩
theorem d_callB {id : String} {x : Str} {p : Pos} {r : List V → Hp → VK → Prop} {c : WCl} (hc : CallR X (.builtin id) r) (h : CallD X.K B r c) (hg : Gl X x) (hm : X.mg x = none) (hv : bootBuiltins x = some (.builtin id)) (ha : DA B X (e :: es) was) (hn : x ≠ "__name__" := by decide) (hdb : (x == ("__debug__" : Str)) = false := by decide)
    (he : starEach (e :: es) X.env = (false, eval e X.env) :: starEach es X.env := by rfl) (hpl : (backTo pos (starEach es X.env)).any (·.1) = false := by rfl) : DE B X (.Call (.Name x p) (e :: es) [] pos) (wCB c was) :=
  (pe_callB hc hg hm hv ha hn hdb he hpl).imp (cb_imp h)
theorem d_callTy {T : String} {x : Str} {p : Pos} {r : List V → Hp → VK → Prop} {c : WCl} (hc : CallR X (.type T) r) (h : CallD X.K B r c) (hg : Gl X x) (hm : X.mg x = none) (hv : bootBuiltins x = some (.type T)) (ha : DA B X (e :: es) was) (hn : x ≠ "__name__" := by decide) (hdb : (x == ("__debug__" : Str)) = false := by decide)
    (he : starEach (e :: es) X.env = (false, eval e X.env) :: starEach es X.env := by rfl) (hpl : (backTo pos (starEach es X.env)).any (·.1) = false := by rfl) : DE B X (.Call (.Name x p) (e :: es) [] pos) (wCB c was) :=
  (pe_callTy hc hg hm hv ha hn hdb he hpl).imp (cb_imp h)
end
end L3

namespace L3
open PySem PySem.Spec PyProof.Rows L2
section
variable {X : Cx} {B : Bs} {K : PySem.W.Frag}
/-! ### arithmetic -/
def oAdd : WO2 := fun x y M R => match viewD M x, viewD M y with
  | .int i, .int j => R (.int (i + j)) M
  | .str s, .str t => Need (s.length + t.length ≤ sizeLine) ∧ R (.str (s ++ t)) M
  | .lst a, .lst b => Need (a.length + b.length ≤ sizeLine) ∧ R (.lst (a ++ b)) M
  | .tup a, .tup b => Need (a.length + b.length ≤ sizeLine) ∧ R (.tup (a ++ b)) M
  | _, _ => False
def rAddU (K : PySem.W.Frag) : R2 := fun x y H Q => (rI0 fun i j => .int (i + j)) x y H Q ∨ (fun x y H Q => ∃ i j, x = V.str i ∧ y = .str j ∧ i.length + j.length ≤ sizeLine ∧ Q (.str (i ++ j)) H) x y H Q ∨ rCat x y H Q ∨ rCatA K x y H Q
theorem opAdd : OpR X (binaryOp .Add) (rAddU X.K) := op_add.or (op_add_str.or (op_cat.or op_catA))
theorem oAdd_ok : OpD K B (rAddU K) oAdd := by
  intro P al M env σ H x y dx dy R Q rs r1 r2 h L
  unfold oAdd at h
  split at h
  · rename_i i j e1 e2
    cases view_int r1 e1; cases view_int r2 e2
    exact .inl ⟨i, j, rfl, rfl, L.here rs (.int _) h⟩
  · rename_i s t e1 e2
    cases view_str r1 e1; cases view_str r2 e2
    exact .inr (.inl ⟨s, t, rfl, rfl, h.1.out, L.here rs (.str _) h.2⟩)
  · rename_i s t e1 e2
    obtain ⟨a, xs, rfl, h1, q1⟩ := view_lst rs.toRS0 r1 e1
    obtain ⟨b, ys, rfl, h2, q2⟩ := view_lst rs.toRS0 r2 e2
    refine .inr (.inr (.inl ⟨a, b, xs, ys, rfl, rfl, h1, h2, by rw [← q1.length, ← q2.length]; exact h.1.out, fun p hp => ?_⟩))
    have sm := same_new rs.toRS0 hp (o := .lst (xs ++ ys))
    exact L.alloc rs hp (.lst upd_same ((q1.append q2).mono sm (List.prefix_refl _))) h.2
  · rename_i s t e1 e2
    obtain ⟨a, xs, rfl, h1, q1⟩ := view_tup rs.toRS0 r1 e1
    obtain ⟨b, ys, rfl, h2, q2⟩ := view_tup rs.toRS0 r2 e2
    have r1' := r1; have r2' := r2
    rw [view_same rfl e1] at r1'; rw [view_same rfl e2] at r2'
    refine .inr (.inr (.inr ⟨a, b, xs, ys, rfl, rfl, h1, h2, by rw [← q1.length, ← q2.length]; exact h.1.out, fun e => ?_, fun e1 e => ?_, fun e1 e2 p hp => ?_⟩))
    · subst e; cases q1; exact L.here rs r2' h.2
    · subst e; cases q2; refine L.here rs r1' ?_; have := h.2; rw [List.append_nil] at this; exact this
    · have sm := same_new rs.toRS0 hp (o := .tup (xs ++ ys))
      exact L.alloc rs hp (.tup (.inl (.inl upd_same)) ((q1.append q2).mono sm (List.prefix_refl _))) h.2
  · exact h.elim
/-- ints alone -/
def oI (C : Int → Int → Prop) (g : Int → Int → D) : WO2 := fun x y M R => match viewD M x, viewD M y with
  | .int i, .int j => Need (C i j) ∧ R (g i j) M
  | _, _ => False
def oI0 (g : Int → Int → D) : WO2 := fun x y M R => match viewD M x, viewD M y with
  | .int i, .int j => R (g i j) M
  | _, _ => False
theorem oI_ok {C : Int → Int → Prop} {g : Int → Int → D} {gV : Int → Int → V} (hg : ∀ P al i j, Rep K P al (g i j) (gV i j)) : OpD K B (rI C gV) (oI C g) := by
  intro P al M env σ H x y dx dy R Q rs r1 r2 h L
  unfold oI at h
  split at h
  · rename_i i j e1 e2
    cases view_int r1 e1; cases view_int r2 e2
    exact ⟨i, j, rfl, rfl, h.1.out, L.here rs (hg _ _ _ _) h.2⟩
  · exact h.elim
theorem oI0_ok {g : Int → Int → D} {gV : Int → Int → V} (hg : ∀ P al i j, Rep K P al (g i j) (gV i j)) : OpD K B (rI0 gV) (oI0 g) := by
  intro P al M env σ H x y dx dy R Q rs r1 r2 h L
  unfold oI0 at h
  split at h
  · rename_i i j e1 e2
    cases view_int r1 e1; cases view_int r2 e2
    exact ⟨i, j, rfl, rfl, L.here rs (hg _ _ _ _) h⟩
  · exact h.elim
abbrev oSub : WO2 := oI0 fun i j => .int (i - j)
theorem oSub_ok : OpD K B (rI0 fun i j => .int (i - j)) oSub := oI0_ok fun _ _ _ _ => .int _
abbrev oMod : WO2 := oI (fun _ j => 0 < j) fun i j => .int (i % j)
theorem oMod_ok : OpD K B (rI (fun _ j => 0 < j) fun i j => .int (i % j)) oMod := oI_ok fun _ _ _ _ => .int _
abbrev oFdiv : WO2 := oI CDivW fun i j => .int (i / j)
theorem oFdiv_ok : OpD K B (rI CDivW fun i j => .int (i / j)) oFdiv := oI_ok fun _ _ _ _ => .int _
abbrev oPow : WO2 := oI CPow fun i j => .int (i ^ j.toNat)
theorem oPow_ok : OpD K B (rI CPow fun i j => .int (i ^ j.toNat)) oPow := oI_ok fun _ _ _ _ => .int _
/-- n times a text -/
def mulS (x : Str) (n : Int) : Str := Txt.mul x n
def rMulS : R2 := fun x y H Q => ∃ s n, x = .str s ∧ y = .int n ∧ MulOk s n ∧ Q (.str (mulS s n)) H
theorem op_mulS : OpR X (binaryOp .Mult) rMulS := by
  intro pins s σ H x y v u Q I rx ry h
  obtain ⟨z, n, rfl, rfl, ok, q⟩ := h
  obtain ⟨t, rfl⟩ := rx
  obtain ⟨t', rfl⟩ := ry
  exact SB.mul ok fun t2 k => ⟨.str _, H, I.tok k, ⟨_, rfl⟩, q⟩
def CMulU (i j : Int) : Prop := CMul i j ∨ CMulW i j
theorem op_mulU : OpR X (binaryOp .Mult) (rI CMulU fun i j => .int (i * j)) := by
  intro pins s σ H x y v u Q I rx ry h
  obtain ⟨i, j, e1, e2, c, q⟩ := h
  rcases c with c | c
  · exact op_mul pins s σ H x y v u Q I rx ry ⟨i, j, e1, e2, c, q⟩
  · exact op_mulW pins s σ H x y v u Q I rx ry ⟨i, j, e1, e2, c, q⟩
def rMulU : R2 := fun x y H Q => rI CMulU (fun i j => .int (i * j)) x y H Q ∨ rMulS x y H Q ∨ rRep x y H Q
theorem opMul : OpR X (binaryOp .Mult) rMulU := op_mulU.or (op_mulS.or op_rep)
def oMul : WO2 := fun x y M R => match viewD M x, viewD M y with
  | .int i, .int j => Need (CMulU i j) ∧ R (.int (i * j)) M
  | .str s, .int n => Need (MulOk s n) ∧ R (.str (mulS s n)) M
  | _, _ => False
theorem oMul_ok : OpD K B rMulU oMul := by
  intro P al M env σ H x y dx dy R Q rs r1 r2 h L
  unfold oMul at h
  split at h
  · rename_i i j e1 e2
    cases view_int r1 e1; cases view_int r2 e2
    exact .inl ⟨i, j, rfl, rfl, h.1.out, L.here rs (.int _) h.2⟩
  · rename_i s n e1 e2
    cases view_str r1 e1; cases view_int r2 e2
    exact .inr (.inl ⟨s, n, rfl, rfl, h.1.out, L.here rs (.str _) h.2⟩)
  · exact h.elim

/-! ### comparisons -/
abbrev oLt : WO2 := oI0 fun i j => .bl (decide (i < j))
theorem oLt_ok : OpD K B (rI0 fun i j => .bl (decide (i < j))) oLt := oI0_ok fun _ _ _ _ => .bl _
abbrev oLe : WO2 := oI0 fun i j => .bl (decide (i ≤ j))
theorem oLe_ok : OpD K B (rI0 fun i j => .bl (decide (i ≤ j))) oLe := oI0_ok fun _ _ _ _ => .bl _
abbrev oGt : WO2 := oI0 fun i j => .bl (decide (j < i))
theorem oGt_ok : OpD K B (rI0 fun i j => .bl (decide (j < i))) oGt := oI0_ok fun _ _ _ _ => .bl _
abbrev oGe : WO2 := oI0 fun i j => .bl (decide (j ≤ i))
theorem oGe_ok : OpD K B (rI0 fun i j => .bl (decide (j ≤ i))) oGe := oI0_ok fun _ _ _ _ => .bl _
mutual
/-- plain data of a datum -/
def toP : D → Option PyData
  | .non => some .none
  | .bl b => some (.bool b)
  | .int i => some (.int i)
  | .str s => some (.str s)
  | .tup l => (toPs l).map .tuple
  | .lst l => (toPs l).map .list
  | .rol l => (toPs l).map .list
  | _ => none
def toPs : List D → Option (List PyData)
  | [] => some []
  | d :: r => match toP d, toPs r with
    | some p, some ps => some (p :: ps)
    | _, _ => none
end
section
variable {P : Hp} {al : List Addr} {H : Hp}
mutual
theorem Rep.toDp (s : Same P H) : ∀ {d : D} {v : V} {p : PyData}, Rep K P al d v → toP d = some p → Dp K H v p
  | _, _, _, .non, e => by cases e; exact .non
  | _, _, _, .bl b, e => by cases e; exact .bl b
  | _, _, _, .int i, e => by cases e; exact .int i
  | _, _, _, .str x, e => by cases e; exact .str x
  | _, _, _, .ty n, e => by cases e
  | _, _, _, .adr a, e => by cases e
  | _, _, _, .tup (ds := ds) q r, e => by
    unfold toP at e
    cases h : toPs ds with
    | none => rw [h] at e; cases e
    | some ps => rw [h] at e; cases e; exact .tup (same_seqT s q) (Reps.toDp s r h)
  | _, _, _, .lst (ds := ds) q r, e => by
    unfold toP at e
    cases h : toPs ds with
    | none => rw [h] at e; cases e
    | some ps => rw [h] at e; cases e; exact .lst (.inl (.inl (s _ _ q))) (Reps.toDp s r h)
  | _, _, _, .rol (ds := ds) q r, e => by
    unfold toP at e
    cases h : toPs ds with
    | none => rw [h] at e; cases e
    | some ps => rw [h] at e; cases e; exact .lst (s.seq q) (Reps.toDp s r h)
  | _, _, _, .ptp q r, e => by cases e
  | _, _, _, .dct q r, e => by cases e
  | _, _, _, .fdc q r, e => by cases e
  | _, _, _, .obj q c r, e => by cases e
  | _, _, _, .cls c, e => by cases e
  | _, _, _, .cel h, e => by cases e
theorem Reps.toDp (s : Same P H) : ∀ {ds : List D} {vs : List V} {ps : List PyData}, Reps K P al ds vs → toPs ds = some ps → DpAll K H vs ps
  | _, _, _, .nil, e => by cases e; exact .nil
  | _, _, _, .cons (d := d) (ds := ds) r t, e => by
    unfold toPs at e
    split at e
    · rename_i p ps h1 h2
      cases e
      exact .cons (Rep.toDp s r h1) (Reps.toDp s t h2)
    · cases e
end
end
/-- what an object in the table is as plain data -/
theorem view_dp {P : Hp} {al : List Addr} {M : Mt} {H : Hp} {d : D} {v : V} {p : PyData} (rs : RS0 K B P al M H) (r : Rep K P al d v) (e : toP (viewD M d) = some p) : Dp K H v p := by
  rcases view_cases M d with h | ⟨i, m, rfl, hm, l, h⟩
  · rw [h] at e; exact r.toDp rs.same e
  · rw [h] at e
    obtain ⟨a, rfl, _, c⟩ := cell_at rs hm r
    cases m with
    | lst ds =>
      obtain ⟨_, xs, h1, h2⟩ := c
      unfold toP at e
      cases h : toPs ds with
      | none => rw [h] at e; cases e
      | some ps => rw [h] at e; cases e; exact .lst (.inl (.inl h1)) (h2.toDp rs.same h)
    | dct ks => cases e
    | obj C fs => cases e
    | _ => simp [liveV] at l
/-- plain data, that == can ask -/
def plainOk (l : List D) : Prop := ∃ ps, toPs l = some ps ∧ SeqAt.shaped (.list ps) = true
theorem toPs_len : ∀ {l : List D} {ps : List PyData}, toPs l = some ps → l.isEmpty = ps.isEmpty
  | [], _, e => by cases e; rfl
  | d :: r, _, e => by
    unfold toPs at e
    split at e
    · cases e; rfl
    · cases e
theorem eqvAll_nil (ps : List PyData) : PyData.eqvAll ps [] = ps.isEmpty := by cases ps <;> simp [PyData.eqvAll]
theorem shaped_tup {ps : List PyData} (h : SeqAt.shaped (.list ps) = true) : SeqAt.shaped (.tuple ps) = true := by
  simpa [SeqAt.shaped, PyData.canLay0, PyData.depth] using h
/-- == of a scalar and a scalar; of data of any depth -/
def oEqB (f : Bool → Bool) : WO2 := fun x y M R => match viewD M x, viewD M y with
  | .int i, .int j => R (.bl (f (decide (i = j)))) M
  | .bl i, .bl j => R (.bl (f (decide (i = j)))) M
  | .str i, .str j => R (.bl (f (decide (i = j)))) M
  | .non, .non => R (.bl (f true)) M
  | .non, .int _ => R (.bl (f false)) M
  | .int _, .non => R (.bl (f false)) M
  | .non, .bl _ => R (.bl (f false)) M
  | .bl _, .non => R (.bl (f false)) M
  | .non, .str _ => R (.bl (f false)) M
  | .str _, .non => R (.bl (f false)) M
  | .int _, .str _ => R (.bl (f false)) M
  | .str _, .int _ => R (.bl (f false)) M
  | .bl _, .str _ => R (.bl (f false)) M
  | .str _, .bl _ => R (.bl (f false)) M
  | .lst l, .lst [] => Need (plainOk l) ∧ R (.bl (f l.isEmpty)) M
  | .tup l, .tup [] => Need (plainOk l) ∧ R (.bl (f l.isEmpty)) M
  | x', y' => match toP x', toP y' with
    | some p, some q => Need (SeqAt.shaped p = true) ∧ Need (SeqAt.shaped q = true) ∧ R (.bl (f (PyData.eqv p q))) M
    | _, _ => False
abbrev oEq : WO2 := oEqB fun b => b
abbrev oNe : WO2 := oEqB fun b => !b
def rEqU (K : PySem.W.Frag) : R2 := fun x y H Q => L2.rEq x y H Q ∨ rEqD K x y H Q
def rNeU (K : PySem.W.Frag) : R2 := fun x y H Q => L2.rNe x y H Q ∨ rNeD K x y H Q
theorem opEq (hu : X.A.units + 64 < cLine) : OpR X (compareOp .Eq) (rEqU X.K) := op_eq.or (op_eqD hu)
theorem opNe (hu : X.A.units + 64 < cLine) : OpR X (compareOp .NotEq) (rNeU X.K) := op_ne.or (op_neD hu)
theorem eqB_core {f : Bool → Bool} {P : Hp} {al : List Addr} {M : Mt} {env : Ev} {σ : L2.St} {H : Hp} {x y : V} {dx dy : D} {R : D → Mt → Prop} {Q : VK} (rs : RS K B P al M env σ H) (r1 : Rep K P al dx x) (r2 : Rep K P al dy y) (h : oEqB f dx dy M R) (L : Lift K B P al env σ H R Q) :
    (scal x y = true ∧ Q (.bl (f (decide (x = y)))) H) ∨ (∃ d e, Dp K H x d ∧ Dp K H y e ∧ SeqAt.shaped d = true ∧ SeqAt.shaped e = true ∧ Q (.bl (f (PyData.eqv d e))) H) := by
  have fin : ∀ b c, R (.bl (f b)) M → b = c → Q (.bl (f c)) H := fun b c q e => by subst e; exact L.here rs (.bl _) q
  unfold oEqB at h
  split at h
  · rename_i i j e1 e2; cases view_int r1 e1; cases view_int r2 e2; exact .inl ⟨rfl, fin _ _ h (by simp)⟩
  · rename_i i j e1 e2; cases view_bl r1 e1; cases view_bl r2 e2; exact .inl ⟨rfl, fin _ _ h (by simp)⟩
  · rename_i i j e1 e2; cases view_str r1 e1; cases view_str r2 e2; exact .inl ⟨rfl, fin _ _ h (by simp)⟩
  · rename_i e1 e2; cases view_non r1 e1; cases view_non r2 e2; exact .inl ⟨rfl, fin _ _ h (by simp)⟩
  · rename_i e1 e2; cases view_non r1 e1; cases view_int r2 e2; exact .inl ⟨rfl, fin _ _ h (by simp)⟩
  · rename_i e1 e2; cases view_int r1 e1; cases view_non r2 e2; exact .inl ⟨rfl, fin _ _ h (by simp)⟩
  · rename_i e1 e2; cases view_non r1 e1; cases view_bl r2 e2; exact .inl ⟨rfl, fin _ _ h (by simp)⟩
  · rename_i e1 e2; cases view_bl r1 e1; cases view_non r2 e2; exact .inl ⟨rfl, fin _ _ h (by simp)⟩
  · rename_i e1 e2; cases view_non r1 e1; cases view_str r2 e2; exact .inl ⟨rfl, fin _ _ h (by simp)⟩
  · rename_i e1 e2; cases view_str r1 e1; cases view_non r2 e2; exact .inl ⟨rfl, fin _ _ h (by simp)⟩
  · rename_i e1 e2; cases view_int r1 e1; cases view_str r2 e2; exact .inl ⟨rfl, fin _ _ h (by simp)⟩
  · rename_i e1 e2; cases view_str r1 e1; cases view_int r2 e2; exact .inl ⟨rfl, fin _ _ h (by simp)⟩
  · rename_i e1 e2; cases view_bl r1 e1; cases view_str r2 e2; exact .inl ⟨rfl, fin _ _ h (by simp)⟩
  · rename_i e1 e2; cases view_str r1 e1; cases view_bl r2 e2; exact .inl ⟨rfl, fin _ _ h (by simp)⟩
  · rename_i l e1 e2
    obtain ⟨⟨ps, h1, h2⟩, h3⟩ := h
    refine .inr ⟨.list ps, .list [], view_dp rs.toRS0 r1 (by rw [e1]; simp [toP, h1]), view_dp rs.toRS0 r2 (by rw [e2]; rfl), h2, rfl, ?_⟩
    exact fin _ _ h3 (by rw [toPs_len h1, ← eqvAll_nil]; simp [PyData.eqv])
  · rename_i l e1 e2
    obtain ⟨⟨ps, h1, h2⟩, h3⟩ := h
    refine .inr ⟨.tuple ps, .tuple [], view_dp rs.toRS0 r1 (by rw [e1]; simp [toP, h1]), view_dp rs.toRS0 r2 (by rw [e2]; rfl), shaped_tup h2, rfl, ?_⟩
    exact fin _ _ h3 (by rw [toPs_len h1, ← eqvAll_nil]; simp [PyData.eqv])
  · split at h
    · rename_i p q e1 e2
      exact .inr ⟨p, q, view_dp rs.toRS0 r1 e1, view_dp rs.toRS0 r2 e2, h.1.out, h.2.1.out, fin _ _ h.2.2 rfl⟩
    · exact h.elim
theorem oEq_ok : OpD K B (rEqU K) oEq := fun P al M env σ H x y dx dy R Q rs r1 r2 h L => eqB_core rs r1 r2 h L
theorem oNe_ok : OpD K B (rNeU K) oNe := fun P al M env σ H x y dx dy R Q rs r1 r2 h L => eqB_core rs r1 r2 h L
/-- a text in a text; a flat thing in a list or tuple of flat things -/
def strIn (x z : Str) : Bool := !(Builtin.Str.occurrences z x 0 z.length 1).isEmpty
theorem strIn_one (c : Nat) (z : Str) : strIn ⟨#[c]⟩ z = decide (c ∈ z.cps.toList) := PySem.StrLaws.found_one z c
mutual
def flatD : D → Option V
  | .non => some .non
  | .bl b => some (.bl b)
  | .int i => some (.int i)
  | .str s => some (.str s)
  | _ => none
end
def flatDs : List D → Option (List V)
  | [] => some []
  | d :: r => match flatD d, flatDs r with
    | some v, some vs => some (v :: vs)
    | _, _ => none
theorem flat_rep {P : Hp} {al : List Addr} {d : D} {v x : V} (r : Rep K P al d v) (e : flatD d = some x) : v = x ∧ flatV x = true := by
  cases r <;> simp [flatD] at e <;> subst e <;> exact ⟨rfl, rfl⟩
theorem flat_reps {P : Hp} {al : List Addr} : ∀ {ds : List D} {vs xs : List V}, Reps K P al ds vs → flatDs ds = some xs → vs = xs ∧ xs.all flatV = true
  | _, _, _, .nil, e => by cases e; exact ⟨rfl, rfl⟩
  | _, _, _, .cons r t, e => by
    unfold flatDs at e
    split at e
    · rename_i v vs h1 h2
      cases e
      obtain ⟨rfl, f1⟩ := flat_rep r h1
      obtain ⟨rfl, f2⟩ := flat_reps t h2
      exact ⟨rfl, by simp [f1, f2]⟩
    · cases e
def rInU (K : PySem.W.Frag) (neg : Bool) : R2 := fun x y H Q => (∃ i j, x = V.str i ∧ y = V.str j ∧ Q (.bl (if neg then !strIn i j else strIn i j)) H) ∨ rIn K neg x y H Q
theorem opIn : OpR X (compareOp .In) (rInU X.K false) := op_in_str.or op_in_seq
theorem opNotIn : OpR X (compareOp .NotIn) (rInU X.K true) := op_notin_str.or op_notIn_seq
@[irreducible] def oIn (neg : Bool) : WO2 := fun x y M R => match viewD M y with
  | .str z => match viewD M x with
    | .str s => R (.bl (if neg then !strIn s z else strIn s z)) M
    | _ => False
  | y' => match seqD y' with
    | some l => match flatD x, flatDs l with
      | some v, some vs => R (.bl (if neg then !inV v vs else inV v vs)) M
      | _, _ => False
    | none => False
theorem oIn_ok {neg : Bool} : OpD K B (rInU K neg) (oIn neg) := by
  intro P al M env σ H x y dx dy R Q rs r1 r2 h L
  unfold oIn at h
  split at h
  · rename_i z e2
    split at h
    · rename_i s e1
      cases view_str r1 e1; cases view_str r2 e2
      exact .inl ⟨_, _, rfl, rfl, L.here rs (.bl _) h⟩
    · exact h.elim
  · split at h
    · rename_i l e2
      obtain ⟨a, xs, rfl, h1, q1⟩ := view_seq rs.toRS0 r2 e2
      split at h
      · rename_i v vs e3 e4
        obtain ⟨rfl, f1⟩ := flat_rep r1 e3
        obtain ⟨rfl, f2⟩ := flat_reps q1 e4
        exact .inr ⟨a, _, rfl, h1, f1, f2, L.here rs (.bl _) h⟩
      · exact h.elim
    · exact h.elim
/-- is None -/
def oIs (neg : Bool) : WO2 := fun x y M R => match y with
  | .non => match x with
    | .non => R (.bl (!neg)) M
    | _ => R (.bl neg) M
  | _ => False
theorem oIs_ok : OpD K B (fun x y H Q => y = .non ∧ Q (.bl (decide (x = .non))) H) (oIs false) := by
  intro P al M env σ H x y dx dy R Q rs r1 r2 h L
  unfold oIs at h
  split at h
  · cases r2
    refine ⟨rfl, ?_⟩
    split at h
    · cases r1; exact L.here rs (.bl _) h
    · have : decide (x = V.non) = false := by cases r1 <;> simp_all
      rw [this]; exact L.here rs (.bl _) h
  · exact h.elim
end

/-! ### subscripts, slices -/
section
variable {X : Cx} {B : Bs} {K : PySem.W.Frag} {a b e : Expr} {wa wb we : WE} {pos : Pos}
theorem Reps.atI {P : Hp} {al : List Addr} {ds : List D} {vs : List V} (r : Reps K P al ds vs) {i : Int} {d : D} (e : L2.atI ds i = some d) : ∃ v, L2.atI vs i = some v ∧ Rep K P al d v := by
  unfold L2.atI at e ⊢
  rw [← r.length]
  cases h : ixN ds.length i with
  | none => rw [h] at e; cases e
  | some j => rw [h] at e; exact r.get e
def oIx : WO2 := fun x y M R => match y with
  | .int i => match viewD M x with
    | .str s => Need (s.length ≤ sizeLine) ∧ (match L2.atI s.cps.toList i with
      | some c => R (.str ⟨#[c]⟩) M
      | none => False)
    | x' => match seqD x' with
      | some l => match L2.atI l i with
        | some d => R d M
        | none => False
      | none => False
  | _ => False
theorem oIx_ok : OpD K B (rIx K) oIx := by
  intro P al M env σ H x y dx dy R Q rs r1 r2 h L
  unfold oIx at h
  split at h
  · rename_i i
    cases r2
    split at h
    · rename_i s e1
      cases view_str r1 e1
      obtain ⟨h1, h2⟩ := h
      split at h2
      · rename_i c e; exact .inr (.inr ⟨s, i, c, rfl, rfl, h1.out, e, L.here rs (.str _) h2⟩)
      · exact h2.elim
    · split at h
      · rename_i l e1
        obtain ⟨a, xs, rfl, h1, q1⟩ := view_seq rs.toRS0 r1 e1
        split at h
        · rename_i d e
          obtain ⟨v, e2, q2⟩ := q1.atI e
          rcases h1 with h1 | h1
          · exact .inl ⟨a, xs, i, v, rfl, rfl, h1, e2, L.here rs q2 h⟩
          · exact .inr (.inl ⟨a, xs, i, v, rfl, rfl, h1, e2, L.here rs q2 h⟩)
        · exact h.elim
      · exact h.elim
  · exact h.elim
theorem d_ix (ha : DE B X a wa) (hb : DE B X b wb) (hs : PlainIx b := by intro _ _; rfl) : DE B X (.Subscript a b pos) (wOp oIx wa wb) := (pe_ix ix_seq ha hb hs).imp (op_imp oIx_ok)
abbrev WO := Ev → Mt → (Option Int → Mt → Prop) → Prop
def tDO (K : PySem.W.Frag) (B : Bs) (w : WO) : TO := fun σ H Q => ∃ P al M env R, RS K B P al M env σ H ∧ w env M R ∧ ∀ o M' H' P' al', Ext P al H P' al' H' → RS K B P' al' M' env σ H' → R o M' → Q o H'
theorem _root_.L2.PO.imp {X : Cx} {e : Option Expr} {t u : TO} (h : PO X e t) (i : ∀ σ H Q, u σ H Q → t σ H Q) : PO X e u := ⟨fun pins s σ H Q I q => h.run pins s σ H Q I (i σ H Q q)⟩
abbrev DO (B : Bs) (X : Cx) (e : Option Expr) (w : WO) : Prop := PO X e (tDO X.K B w)
def wNoP : WO := fun _ M R => R none M
def wP (w : WE) : WO := fun env M R => w env M fun d M1 => match d with
  | .int i => R (some i) M1
  | _ => False
theorem do_none : DO B X none wNoP := by
  refine po_none.imp fun σ H Q => ?_
  rintro ⟨P, al, M, env, R, rs, hw, L⟩
  exact L _ _ _ _ _ Ext.refl rs hw
theorem do_some (h : DE B X e we) : DO B X (some e) (wP we) := by
  refine (po_some h).imp fun σ H Q => ?_
  rintro ⟨P, al, M, env, R, rs, hw, L⟩
  refine ⟨P, al, M, env, _, rs, hw, fun d M1 v H1 P1 al1 e1 rs1 r1 q => ?_⟩
  split at q
  · cases r1; exact ⟨_, rfl, L _ _ _ _ _ e1 rs1 q⟩
  · exact q.elim
def cutD (xs : List D) (lo hi : Option Int) : List D := (xs.drop (HT.sIx xs.length 0 lo)).take (HT.sIx xs.length xs.length hi - HT.sIx xs.length 0 lo)
theorem Reps.cut {P : Hp} {al : List Addr} {ds : List D} {vs : List V} (r : Reps K P al ds vs) (lo hi : Option Int) : Reps K P al (cutD ds lo hi) (cutV vs lo hi) := by
  unfold cutD cutV
  rw [r.length]
  exact (r.drop _).take _
def wSl (we : WE) (wl wh : WO) : WE := fun env M R => we env M fun x M1 => wl env M1 fun lo M2 => wh env M2 fun hi M3 => match viewD M3 x with
  | .str s => Need (s.length ≤ sizeLine) ∧ R (.str (cutS s lo hi)) M3
  | .lst l => R (.lst (cutD l lo hi)) M3
  | .rol l => R (.lst (cutD l lo hi)) M3
  | .tup l => R (.tup (cutD l lo hi)) M3
  | _ => False
theorem cut_all {xs : List D} {lo hi : Option Int} (h : HT.sIx xs.length 0 lo = 0 ∧ HT.sIx xs.length xs.length hi = xs.length) : cutD xs lo hi = xs := by
  unfold cutD; rw [h.1, h.2]; simp
theorem d_sl {lo hi : Option Expr} {wl wh : WO} {p2 : Pos} (he : DE B X e we) (hl : DO B X lo wl) (hh : DO B X hi wh) : DE B X (.Subscript e (.Slice lo hi none p2) pos) (wSl we wl wh) := by
  refine (pe_slice (sl_str.or (sl_list.or sl_tupA)) he hl hh).imp fun σ H Q => ?_
  rintro ⟨P, al, M, env, R, rs, hw, L⟩
  refine ⟨P, al, M, env, _, rs, hw, fun d M1 v H1 P1 al1 e1 rs1 r1 hw1 => ⟨P1, al1, M1, env, _, rs1, hw1, fun lo M2 H2 P2 al2 e2 rs2 hw2 => ⟨P2, al2, M2, env, _, rs2, hw2, fun hi M3 H3 P3 al3 e3 rs3 q => ?_⟩⟩⟩
  have r3 := r1.mono (e2.trans e3).pp (e2.trans e3).pre
  have L3 := L.after (e1.trans (e2.trans e3))
  split at q
  · rename_i s e; cases view_str r3 e; exact .inl ⟨s, rfl, q.1.out, L3.here rs3 (.str _) q.2⟩
  · rename_i l e
    obtain ⟨a, xs, rfl, h1, q1⟩ := view_lst rs3.toRS0 r3 e
    refine .inr (.inl ⟨a, xs, rfl, .inl (.inl h1), fun p hp => ?_⟩)
    exact L3.alloc rs3 hp (.lst upd_same ((q1.cut lo hi).mono (same_new rs3.toRS0 hp) (List.prefix_refl _))) q
  · rename_i l e
    obtain ⟨a, xs, rfl, h1, q1⟩ := view_rol rs3.toRS0 r3 e
    refine .inr (.inl ⟨a, xs, rfl, h1, fun p hp => ?_⟩)
    exact L3.alloc rs3 hp (.lst upd_same ((q1.cut lo hi).mono (same_new rs3.toRS0 hp) (List.prefix_refl _))) q
  · rename_i l e
    obtain ⟨a, xs, rfl, h1, q1⟩ := view_tup rs3.toRS0 r3 e
    refine .inr (.inr ⟨a, xs, rfl, h1, fun hz => ?_, fun hz p hp => ?_⟩)
    · rw [← q1.length] at hz
      rw [cut_all hz] at q
      rw [view_same rfl e] at r3
      exact L3.here rs3 r3 q
    · exact L3.alloc rs3 hp (.tup (.inl (.inl upd_same)) ((q1.cut lo hi).mono (same_new rs3.toRS0 hp) (List.prefix_refl _))) q
  · exact q.elim
end
end L3

namespace L3
open PySem PySem.Spec PyProof.Rows L2
section
variable {X : Cx} {B : Bs} {K : PySem.W.Frag} {a b e : Expr} {es : List Expr} {wa wb we : WE} {was : WA} {pos : Pos} {st : Stmt} {rest : List Stmt} {w u : WS}
/-! ### statements -/
theorem RS.put {P : Hp} {al : List Addr} {M : Mt} {env : Ev} {σ : L2.St} {H : Hp} {d : D} {v : V} (rs : RS K B P al M env σ H) (i : Nat) (r : Rep K P al d v) : RS K B P al M (env.set i (some d)) (σ.set i (some v)) H := by
  refine ⟨rs.toRS0, by simp [rs.slen], fun j x h => ?_⟩
  by_cases hj : j = i
  · subst hj
    have hi : j < env.length := by
      have := (List.getElem?_eq_some_iff.mp h).1
      simpa using this
    rw [List.getElem?_set_self hi] at h
    cases h
    exact ⟨v, List.getElem?_set_self (by rw [← rs.slen]; exact hi), r⟩
  · rw [List.getElem?_set_ne (Ne.symm hj)] at h ⊢
    exact rs.slot j x h
def wSeq (w u : WS) : WS := fun k env M => w { k with nx := u k } env M
def wSkip : WS := fun k env M => k.nx env M
theorem ds_nil : DSs B X [] wSkip := by
  refine pss_nil.imp fun D σ H => ?_
  rintro ⟨P, al, M, env, k, rs, hw, L⟩
  exact L.nx _ _ _ _ _ _ Ext.refl rs hw
theorem ds_cons (h1 : DS B X st w) (h2 : DSs B X rest u) : DSs B X (st :: rest) (wSeq w u) := by
  refine (pss_cons h1 h2).imp fun D σ H => ?_
  rintro ⟨P, al, M, env, k, rs, hw, L⟩
  exact ⟨P, al, M, env, _, rs, hw, ⟨fun env' M' σ' H' P' al' e rs' q => ⟨P', al', M', env', k, rs', q, L.after e⟩, L.rt, L.bk, L.ct⟩⟩
theorem ds_one (h1 : DS B X st w) : DSs B X [st] w := pss_one h1
def wExp (we : WE) : WS := fun k env M => we env M fun _ M1 => k.nx env M1
theorem d_exp (he : DE B X e we) (hs : swapsWith e none pos.line X.env = pure false := by rfl) : DS B X (.Expr e pos) (wExp we) := by
  refine (ps_expr he hs).imp fun D σ H => ?_
  rintro ⟨P, al, M, env, k, rs, hw, L⟩
  exact ⟨P, al, M, env, _, rs, hw, fun d M1 v H1 P1 al1 e1 rs1 r1 q => L.nx _ _ _ _ _ _ e1 rs1 q⟩
def wRet (we : WE) : WS := fun k env M => we env M k.rt
theorem d_ret (he : DE B X e we) : DS B X (.Return (some e) pos) (wRet we) := by
  refine (ps_ret he).imp fun D σ H => ?_
  rintro ⟨P, al, M, env, k, rs, hw, L⟩
  exact ⟨P, al, M, env, _, rs, hw, fun d M1 v H1 P1 al1 e1 rs1 r1 q => L.rt _ _ _ _ _ _ e1 rs1.toRS0 r1 q⟩
/-- what is returned is published: an object that was made and filled here -/
@[irreducible] def frz (d : D) (M : Mt) (R : D → Mt → Prop) : Prop := match d with
  | .cel i => match M[i]? with
    | some (.lst l) => R (.lst l) (M.set i .non)
    | some (.dct l) => R (.dct l) (M.set i .non)
    | some (.obj C fs) => R (.obj C fs) (M.set i .non)
    | _ => False
  | _ => R d M
theorem RS0.freeze {P : Hp} {al : List Addr} {M : Mt} {H : Hp} {i : Nat} {m : D} {v : V} (rs : RS0 K B P al M H) (hm : M[i]? = some m) (hv : liveV m = true) (q : Rep K P al (.cel i) v) :
    ∃ P', Ext P al H P' al H ∧ RS0 K B P' al (M.set i .non) H ∧ Rep K P' al m v := by
  have hl := liveV_live hv
  obtain ⟨a, rfl, ha, c⟩ := cell_at rs hm q
  obtain ⟨hp, o, ho⟩ := live_cell hl c
  have ia : a ∈ al := List.mem_of_getElem? ha
  have sm : Same P (upd P a o) := fun b x h => by rw [upd_ne (ne_of_none h hp)]; exact h
  have e : Ext P al H (upd P a o) al H := ⟨sm, List.prefix_refl _, fun _ _ h _ => h, fun b m n => absurd m n, fun b x h _ hb n => by
    rw [upd_ne (fun z => n (by rw [z]; exact ia))]; exact hb⟩
  have im : i < M.length := (List.getElem?_eq_some_iff.mp hm).1
  have gm : ∀ (j : Nat) (n : D), (M.set i .non)[j]? = some n → live n = true → j ≠ i ∧ M[j]? = some n := fun j n h ln => by
    by_cases hj : j = i
    · subst hj; rw [List.getElem?_set_self im] at h; cases h; cases ln
    · rw [List.getElem?_set_ne (Ne.symm hj)] at h; exact ⟨hj, h⟩
  refine ⟨upd P a o, e, ⟨rs.base.trans e, fun b x h => ?_, by simp [rs.len], fun j b n h1 h2 => ?_, fun j k b n n' h1 h2 h3 h4 l1 l2 => ?_, rs.trk⟩, ?_⟩
  · by_cases hb : b = a
    · subst hb; rw [upd_same] at h; cases h; exact ho
    · rw [upd_ne hb] at h; exact rs.same _ _ h
  · by_cases ln : live n = true
    · obtain ⟨hj, g⟩ := gm j n h2 ln
      have c' := rs.cell j b n h1 g
      have hne : b ≠ a := fun z => hj (rs.inj j i a n m (z ▸ h1) ha g hm ln hl)
      exact c'.mono sm (List.prefix_refl _) (fun _ => by rw [upd_ne hne]; exact (live_cell ln c').1) fun _ _ h => h
    · cases n <;> first | trivial | exact absurd rfl ln | skip
      have hj : j ≠ i := fun z => by subst z; rw [List.getElem?_set_self im] at h2; cases h2
      rw [List.getElem?_set_ne (Ne.symm hj)] at h2
      exact ExCell.mono (rs.cell j b _ h1 h2) sm (List.prefix_refl _)
  · obtain ⟨_, g3⟩ := gm j n h3 l1
    obtain ⟨_, g4⟩ := gm k n' h4 l2
    exact rs.inj j k b n n' h1 h2 g3 g4 l1 l2
  · cases m with
    | lst ds => obtain ⟨_, xs, h1, h2⟩ := c; rw [ho] at h1; cases h1; exact .lst upd_same (h2.mono sm (List.prefix_refl _))
    | dct ds => obtain ⟨_, xs, h1, h2⟩ := c; rw [ho] at h1; cases h1; exact .dct upd_same (h2.mono sm (List.prefix_refl _))
    | obj C ds => obtain ⟨_, _, dx, xs, h1, hc, h2⟩ := c; rw [ho] at h1; cases h1; exact .obj upd_same hc (h2.mono sm (List.prefix_refl _))
    | _ => simp [liveV] at hv
theorem frz_ok {P : Hp} {al : List Addr} {M : Mt} {H : Hp} {d : D} {v : V} {R : D → Mt → Prop} (rs : RS0 K B P al M H) (r : Rep K P al d v) (q : frz d M R) : ∃ d' M' P', Ext P al H P' al H ∧ RS0 K B P' al M' H ∧ Rep K P' al d' v ∧ R d' M' := by
  unfold frz at q
  split at q
  · split at q
    · rename_i hm; obtain ⟨P', e, r0, r1⟩ := rs.freeze hm rfl r; exact ⟨_, _, P', e, r0, r1, q⟩
    · rename_i hm; obtain ⟨P', e, r0, r1⟩ := rs.freeze hm rfl r; exact ⟨_, _, P', e, r0, r1, q⟩
    · rename_i hm; obtain ⟨P', e, r0, r1⟩ := rs.freeze hm rfl r; exact ⟨_, _, P', e, r0, r1, q⟩
    · exact q.elim
  · exact ⟨d, M, P, Ext.refl, rs, r, q⟩
def wRetF (we : WE) : WS := fun k env M => we env M fun d M1 => frz d M1 k.rt
theorem d_retF (he : DE B X e we) : DS B X (.Return (some e) pos) (wRetF we) := by
  refine (ps_ret he).imp fun D σ H => ?_
  rintro ⟨P, al, M, env, k, rs, hw, L⟩
  refine ⟨P, al, M, env, _, rs, hw, fun d M1 v H1 P1 al1 e1 rs1 r1 q => ?_⟩
  obtain ⟨d', M', P', e2, r0, r2, q2⟩ := frz_ok rs1.toRS0 r1 q
  exact L.rt _ _ _ _ _ _ (e1.trans e2) r0 r2 q2
/-- a name's object is published ahead of a statement -/
def wFrz (i : Nat) (w : WS) : WS := fun k env M => match env[i]? with
  | some (some d) => frz d M fun d' M' => w k (env.map fun x => match x with
    | some y => match y, d with
      | .cel m, .cel n => if m = n then some d' else some y
      | _, _ => some y
    | none => none) M'
  | _ => False
def wIfS (t : WT) (w u : WS) : WS := fun k env M => t env M fun b M1 => ifB b (w k env M1) (u k env M1)
theorem d_if {c : Expr} {x y : List Stmt} {t : WT} (hc : DT B X c t) (ha : DSs B X x w) (hb : DSs B X y u) : DS B X (.If c x y pos) (wIfS t w u) := by
  refine (ps_if hc ha hb).imp fun D σ H => ?_
  rintro ⟨P, al, M, env, k, rs, hw, L⟩
  refine ⟨P, al, M, env, _, rs, hw, fun b' M1 H1 P1 al1 e1 rs1 q => ?_⟩
  cases b' with
  | true => rw [if_pos rfl]; exact ⟨P1, al1, M1, env, k, rs1, q.1 rfl, L.after e1⟩
  | false => rw [if_neg Bool.false_ne_true]; exact ⟨P1, al1, M1, env, k, rs1, q.2 rfl, L.after e1⟩
/-! ### targets -/
def gN (i : Nat) : WG := fun d env M R => R (env.set i (some d)) M
theorem dg_name {i : Nat} {x : Str} (hN : X.N.Nodup) (hi : X.N[i]? = some x := by rfl) (hx : Loc X.env.scope x := by first | exact .inl rfl | exact .inr rfl) (hf : X.fn x = true ∨ X.env.scope.names.lookup x = some .local := by first | exact .inl rfl | exact .inr rfl | assumption) : DG B X (.Name x pos) (gN i) := by
  refine (pg_name hN hi hx hf).imp fun v σ H Q => ?_
  rintro ⟨P, al, M, env, d, R, rs, r, hw, L⟩
  exact L _ _ _ _ _ _ Ext.refl (rs.put i r) hw
abbrev WGs := List D → Ev → Mt → (Ev → Mt → Prop) → Prop
def tDGs (K : PySem.W.Frag) (B : Bs) (g : WGs) : TGs := fun vs σ H Q => ∃ P al M env ds R, RS K B P al M env σ H ∧ Reps K P al ds vs ∧ g ds env M R ∧
  ∀ env' M' σ' H' P' al', Ext P al H P' al' H' → RS K B P' al' M' env' σ' H' → R env' M' → Q σ' H'
theorem _root_.L2.PGs.imp {X : Cx} {e : List Expr} {t u : TGs} (h : PGs X e t) (i : ∀ v σ H Q, u v σ H Q → t v σ H Q) : PGs X e u := ⟨fun pins s σ H v u' Q I r q => h.run pins s σ H v u' Q I r (i v σ H Q q)⟩
abbrev DGs (B : Bs) (X : Cx) (es : List Expr) (g : WGs) : Prop := PGs X es (tDGs X.K B g)
def gsNil : WGs := fun ds env M R => match ds with
  | [] => R env M
  | _ => False
def gsCons (g : WG) (r : WGs) : WGs := fun ds env M R => match ds with
  | d :: t => g d env M fun env1 M1 => r t env1 M1 R
  | [] => False
theorem dgs_nil : DGs B X [] gsNil := by
  refine pgs_nil.imp fun v σ H Q => ?_
  rintro ⟨P, al, M, env, ds, R, rs, r, hw, L⟩
  cases r with
  | nil => exact ⟨rfl, L _ _ _ _ _ _ Ext.refl rs hw⟩
  | cons _ _ => exact hw.elim
theorem dgs_cons {g : WG} {gs : WGs} (h1 : DG B X e g) (h2 : DGs B X es gs) (hs : (assignEach (e :: es) X.env).map (·.2) = assign e X.env :: (assignEach es X.env).map (·.2) := by rfl) : DGs B X (e :: es) (gsCons g gs) := by
  refine (pgs_cons h1 h2 hs).imp fun v σ H Q => ?_
  rintro ⟨P, al, M, env, ds, R, rs, r, hw, L⟩
  cases r with
  | nil => exact hw.elim
  | cons r1 r2 =>
    exact ⟨_, _, rfl, P, al, M, env, _, _, rs, r1, hw, fun env' M' σ' H' P' al' e rs' q => ⟨P', al', M', env', _, R, rs', r2.mono e.pp e.pre, q, fun env2 M2 σ2 H2 P2 al2 e2 rs2 q2 => L _ _ _ _ _ _ (e.trans e2) rs2 q2⟩⟩
/-- a, b, .. = a tuple -/
def gT (n : Nat) (g : WGs) : WG := fun d env M R => match d with
  | .tup ds => Need (ds.length = n) ∧ g ds env M R
  | _ => False
theorem dg_tup {k : Nat} {g : WGs} {n : Nat} (hc : X.calm = true) (h : DGs B X es g) (hn : (assignEach es X.env).length = n := by rfl) (hst : (assignEach es X.env).findIdx? (·.1) = none := by rfl) : DG B X (.Tuple es k pos) (gT n g) := by
  refine (pg_tup hc h hn hst).imp fun v σ H Q => ?_
  rintro ⟨P, al, M, env, d, R, rs, r, hw, L⟩
  unfold gT at hw
  split at hw
  · cases r with
    | tup h1 h2 => exact ⟨_, _, rfl, same_seqT rs.same h1, by rw [← h2.length]; exact hw.1.out, P, al, M, env, _, R, rs, h2, hw.2, L⟩
  · exact hw.elim
/-- xs[i] = .., xs an object that changes -/
@[irreducible] def dsetIx (d o i : D) (M2 : Mt) (R : Mt → Prop) : Prop := match o, i with
  | .cel n, .int k => match M2[n]? with
    | some (.lst l) => match ixN l.length k with
      | some j => R (M2.set n (.lst (l.set j d)))
      | none => False
    | _ => False
  | _, _ => False
def gIxL (wo wi : WE) : WG := fun d env M R => wo env M fun o M1 => wi env M1 fun i M2 => dsetIx d o i M2 (R env)
theorem Reps.setR {P : Hp} {al : List Addr} {ds : List D} {vs : List V} {d : D} {v : V} (r : Reps K P al ds vs) (q : Rep K P al d v) (i : Nat) : Reps K P al (ds.set i d) (vs.set i v) := Reps.set q i r
theorem dg_ixL {o i : Expr} {wo wi : WE} (ho : DE B X o wo) (hi : DE B X i wi) (ha : ∀ v, assign (.Subscript o i pos) X.env v = (do
      let ov ← holding [v] (eval o X.env)
      let iv ← holding [v, ov] (eval i X.env)
      standAt pos
      holding [v, ov, iv] (setItem ov iv v)
      release [v, ov, iv] []) := by intro _; rfl) : DG B X (.Subscript o i pos) (gIxL wo wi) := by
  refine (pg_sub ho hi set_list ha).imp fun v σ H Q => ?_
  rintro ⟨P, al, M, env, d, R, rs, r, hw, L⟩
  refine ⟨P, al, M, env, _, rs, hw, fun d1 M1 v1 H1 P1 al1 e1 rs1 r1 hw1 => ⟨P1, al1, M1, env, _, rs1, hw1, fun d2 M2 v2 H2 P2 al2 e2 rs2 r2 q => ?_⟩⟩
  unfold dsetIx at q
  split at q
  · rename_i n k
    split at q
    · rename_i l hm
      split at q
      · rename_i j hj
        cases r2
        obtain ⟨a, rfl, ha, _, xs, h1, h2⟩ := cell_at rs2.toRS0 hm (r1.mono e2.pp e2.pre)
        have e12 := e1.trans e2
        obtain ⟨e3, r3⟩ := rs2.toRS0.change (o' := .lst (xs.set j v)) (m' := .lst (l.set j d)) ha hm rfl fun H' hH => ⟨(live_cell rfl (rs2.cell n a _ ha hm)).1, _, hH, h2.setR (r.mono e12.pp e12.pre) j⟩
        exact ⟨a, xs, k, j, rfl, rfl, h1, by rw [← h2.length]; exact hj, L _ _ _ _ _ _ (e12.trans e3) (rs2.step e3 r3) q⟩
      · exact q.elim
    · exact q.elim
  · exact q.elim
/-- target = value -/
def wAsg (we : WE) (g : WG) : WS := fun k env M => we env M fun d M1 => g d env M1 k.nx
theorem d_asg {tg : Expr} {g : WG} (he : DE B X e we) (hg : DG B X tg g) (hs : swapsWithSole [tg] e pos.line X.env = pure false := by rfl) (hw : swappedStores [tg] e X.env = pure none := by rfl)
    (h1 : (assignEach [tg] X.env).map (·.2) = [assign tg X.env] := by rfl) : DS B X (.Assign [tg] e pos) (wAsg we g) := by
  refine (ps_asg he hg hs hw h1).imp fun D σ H => ?_
  rintro ⟨P, al, M, env, k, rs, hw, L⟩
  exact ⟨P, al, M, env, _, rs, hw, fun d M1 v H1 P1 al1 e1 rs1 r1 q => ⟨P1, al1, M1, env, d, _, rs1, r1, q, fun env' M' σ' H' P' al' e rs' q' => L.nx _ _ _ _ _ _ (e1.trans e) rs' q'⟩⟩
theorem d_set {i : Nat} {x : Str} {pos' : Pos} (hN : X.N.Nodup) (he : DE B X e we) (hi : X.N[i]? = some x := by rfl) (hx : Loc X.env.scope x := by first | exact .inl rfl | exact .inr rfl) (hs : swapsWith e (some (.Name x pos')) pos.line X.env = pure false := by rfl)
    (hf : X.fn x = true ∨ X.env.scope.names.lookup x = some .local := by first | exact .inl rfl | exact .inr rfl | assumption) : DS B X (.Assign [.Name x pos'] e pos) (wAsg we (gN i)) := by
  refine (ps_set hN hi hx he hs hf).imp fun D σ H => ?_
  rintro ⟨P, al, M, env, k, rs, hw, L⟩
  exact ⟨P, al, M, env, _, rs, hw, fun d M1 v H1 P1 al1 e1 rs1 r1 q => L.nx _ _ _ _ _ _ e1 (rs1.put i r1) q⟩
/-- a, b = x, y -/
def wPar (i j : Nat) (was : WA) : WS := fun k env M => was env M fun ds M1 => match ds with
  | [d1, d2] => k.nx ((env.set i (some d1)).set j (some d2)) M1
  | _ => False
theorem d_par {i j : Nat} {x y : Str} {px py pt : Pos} {kt k2 pt2} (hc : X.calm = true) (hN : X.N.Nodup) (hi : X.N[i]? = some x) (hj : X.N[j]? = some y) (hij : i ≠ j)
    (hx : X.env.scope.names.lookup x = some .local) (hy : X.env.scope.names.lookup y = some .local) (ha : DA B X [a, b] was)
    (hw : swappedStores [.Tuple [.Name x px, .Name y py] kt pt] (.Tuple [a, b] k2 pt2) X.env = pure (some [x, y]))
    (hs : swapsWithSole [.Tuple [.Name x px, .Name y py] kt pt] (.Tuple [a, b] k2 pt2) pos.line X.env = pure false := by rfl) :
    DS B X (.Assign [.Tuple [.Name x px, .Name y py] kt pt] (.Tuple [a, b] k2 pt2) pos) (wPar i j was) := by
  refine (ps_par hc hN hi hj hij hx hy ha hw hs).imp fun D σ H => ?_
  rintro ⟨P, al, M, env, k, rs, hw, L⟩
  refine ⟨P, al, M, env, _, rs, hw, fun ds M1 vs H1 P1 al1 e1 rs1 r1 q => ?_⟩
  split at q
  · cases r1 with
    | cons q1 t => cases t with
      | cons q2 t => cases t; exact ⟨_, _, rfl, L.nx _ _ _ _ _ _ e1 ((rs1.put i q1).put j q2) q⟩
  · exact q.elim
end

/-! ### what is walked -/
section
variable {X : Cx} {B : Bs} {K : PySem.W.Frag} {e tg : Expr} {es : List Expr} {we : WE} {was : WA} {pos : Pos}
def Walk (K : PySem.W.Frag) (J : It) (ds : List D) (P : Hp) (al : List Addr) : Prop :=
  ∀ (B : Bs) (P2 : Hp) (al2 : List Addr) (M2 : Mt) (H2 : Hp), Same P P2 → al <+: al2 → RS0 K B P2 al2 M2 H2 →
    (∀ (i : Nat) (d : D), ds[i]? = some d → J.go i H2 ∧ ∀ x H3, J.yld i H2 x H3 → ∃ P3, Ext P2 al2 H2 P3 al2 H3 ∧ RS0 K B P3 al2 M2 H3 ∧ Rep K P3 al2 d x) ∧ J.stop ds.length H2
abbrev WI := Ev → Mt → (List D → Mt → Prop) → Prop
def tDI (K : PySem.W.Frag) (B : Bs) (w : WI) : TI := fun σ H R => ∃ P al M env RR, RS K B P al M env σ H ∧ w env M RR ∧
  ∀ ds M' H' P' al' J, Ext P al H P' al' H' → RS K B P' al' M' env σ H' → Walk K J ds P' al' → RR ds M' → R J H'
abbrev DI (B : Bs) (X : Cx) (tg e : Expr) (w : WI) : Prop := PI X tg e (tDI X.K B w)
def rIt (K : PySem.W.Frag) (x : V) (H : Hp) (R : It → Hp → Prop) : Prop := (∃ a, x = .ref a ∧ (∃ xs, SqL K H a xs) ∧ R (Itl K a) H) ∨ (∃ a, x = .ref a ∧ (∃ xs, SqT K H a xs) ∧ R (Itt K a) H) ∨ ∃ z, x = .str z ∧ R (Its z) H
theorem pi_any {tl : TE} (hl : PE X e tl) : PI X tg e (fun σ H R => tl σ H fun x H1 => rIt X.K x H1 R) := by
  refine ⟨fun pins s σ H R I h => ?_⟩
  refine thn (hl.run pins s σ H _ I h) fun v s1 ⟨x, H1, I1, r1, q1⟩ => ?_
  rcases q1 with ⟨a, e, ⟨xs, hq⟩, q⟩ | ⟨a, e, ⟨xs, hq⟩, q⟩ | ⟨z, e, q⟩
  · subst e
    cases r1
    obtain ⟨its, rv, p, hz⟩ := I1.list hq
    refine wpAny_pyIter_list p.isList ?_
    exact pi_one (tk := s1.toks) I1 _ (turn_list a _) ⟨_, Heap.get?_push_size _ rfl, rfl, rfl⟩ q
  · subst e
    cases r1
    obtain ⟨its, rv, p, hz⟩ := I1.tuple hq
    refine wpAny_pyIter_tuple (show s1.heap.IsTuple a its.toArray from p) ?_
    exact pi_one (tk := s1.toks) I1 _ (turn_tuple a _) ⟨_, Heap.get?_push_size _ rfl, rfl, rfl⟩ q
  · subst e
    obtain ⟨t, rfl⟩ := r1
    cases ha : z.cps.all (· < 128)
    · exact wpAny_pyIter_wide ha (pi_one (tk := s1.toks) I1 _ (turn_str _ z t "str_iterator" (.inr rfl)) ⟨_, Heap.get?_push_size _ rfl, rfl, rfl⟩ q)
    · exact wpAny_pyIter_ascii ha (pi_one (tk := s1.toks) I1 _ (turn_str _ z t "str_ascii_iterator" (.inl rfl)) ⟨_, Heap.get?_push_size _ rfl, rfl, rfl⟩ q)
/-- the signs of a text -/
def chars (s : Str) : List D := s.cps.toList.map fun c => .str ⟨#[c]⟩
theorem walk_str (s : Str) (P : Hp) (al : List Addr) : Walk K (Its s) (chars s) P al := by
  intro B P2 al2 M2 H2 _ _ r0
  have hl : (chars s).length = s.cps.size := by simp [chars]
  refine ⟨fun i d hd => ?_, by show s.cps.size ≤ (chars s).length; omega⟩
  have hi : i < (chars s).length := (List.getElem?_eq_some_iff.mp hd).1
  refine ⟨by show i < s.cps.size; omega, fun x H3 ⟨e, c, hc, ex⟩ => ⟨P2, ?_⟩⟩
  subst e; subst ex
  have : d = .str ⟨#[c]⟩ := by
    unfold chars at hd
    rw [List.getElem?_map, Array.getElem?_toList, hc] at hd
    exact (Option.some.inj hd).symm
  subst this
  exact ⟨Ext.refl, r0, .str _⟩
theorem walk_list {a : Addr} {xs : List V} {ds : List D} {P : Hp} {al : List Addr} (h : P a = some (.lst xs)) (r : Reps K P al ds xs) : Walk K (Itl K a) ds P al := by
  intro B P2 al2 M2 H2 s p r0
  have h2 : H2 a = some (.lst xs) := r0.same _ _ (s _ _ h)
  have r2 := r.mono s p
  refine ⟨fun i d hd => ?_, ⟨xs, SqL.of h2, by rw [r.length]; exact Nat.le_refl _⟩⟩
  obtain ⟨v, hv, rv⟩ := r2.get hd
  refine ⟨⟨xs, v, SqL.of h2, hv⟩, fun x H3 ⟨e, f⟩ => ⟨P2, ?_⟩⟩
  subst e
  have := f _ (SqL.of h2)
  rw [hv] at this; cases this
  exact ⟨Ext.refl, r0, rv⟩
theorem walk_rol {a : Addr} {xs : List V} {ds : List D} {P : Hp} {al : List Addr} (h : SqL K P a xs) (r : Reps K P al ds xs) : Walk K (Itl K a) ds P al := by
  intro B P2 al2 M2 H2 s p r0
  have h2 : SqL K H2 a xs := r0.same.seq (s.seq h)
  have r2 := r.mono s p
  refine ⟨fun i d hd => ?_, ⟨xs, h2, by rw [r.length]; exact Nat.le_refl _⟩⟩
  obtain ⟨v, hv, rv⟩ := r2.get hd
  refine ⟨⟨xs, v, h2, hv⟩, fun x H3 ⟨e, f⟩ => ⟨P2, ?_⟩⟩
  subst e
  have := f _ h2
  rw [hv] at this; cases this
  exact ⟨Ext.refl, r0, rv⟩
theorem walk_tup {a : Addr} {xs : List V} {ds : List D} {P : Hp} {al : List Addr} (h : SqT K P a xs) (r : Reps K P al ds xs) : Walk K (Itt K a) ds P al := by
  intro B P2 al2 M2 H2 s p r0
  have h2 : SqT K H2 a xs := same_seqT r0.same (same_seqT s h)
  have r2 := r.mono s p
  refine ⟨fun i d hd => ?_, ⟨xs, h2, by rw [r.length]; exact Nat.le_refl _⟩⟩
  obtain ⟨v, hv, rv⟩ := r2.get hd
  refine ⟨⟨xs, v, h2, hv⟩, fun x H3 ⟨e, f⟩ => ⟨P2, ?_⟩⟩
  subst e
  have := f _ h2
  rw [hv] at this; cases this
  exact ⟨Ext.refl, r0, rv⟩
def wIt (we : WE) : WI := fun env M RR => we env M fun d M1 => match d with
  | .str s => RR (chars s) M1
  | .lst l => RR l M1
  | .rol l => RR l M1
  | .tup l => RR l M1
  | _ => False
theorem di_any (h : DE B X e we) : DI B X tg e (wIt we) := by
  refine (pi_any h).imp fun σ H R => ?_
  rintro ⟨P, al, M, env, RR, rs, hw, L⟩
  refine ⟨P, al, M, env, _, rs, hw, fun d M1 v H1 P1 al1 e1 rs1 r1 q => ?_⟩
  split at q
  · cases r1; exact .inr (.inr ⟨_, rfl, L _ _ _ _ _ _ e1 rs1 (walk_str _ _ _) q⟩)
  · cases r1 with
    | lst h1 h2 => exact .inl ⟨_, rfl, ⟨_, SqL.of (rs1.same _ _ h1)⟩, L _ _ _ _ _ _ e1 rs1 (walk_list h1 h2) q⟩
  · cases r1 with
    | rol h1 h2 => exact .inl ⟨_, rfl, ⟨_, rs1.same.seq h1⟩, L _ _ _ _ _ _ e1 rs1 (walk_rol h1 h2) q⟩
  · cases r1 with
    | tup h1 h2 => exact .inr (.inl ⟨_, rfl, ⟨_, same_seqT rs1.same h1⟩, L _ _ _ _ _ _ e1 rs1 (walk_tup h1 h2) q⟩)
  · exact q.elim
@[irreducible] def rangeD (lo : Int) (n : Nat) : List D := (List.range n).map fun (k : Nat) => .int (lo + k)
theorem walk_range (lo : Int) (n : Nat) (P : Hp) (al : List Addr) : Walk K (Itr lo n) (rangeD lo n) P al := by
  intro B P2 al2 M2 H2 _ _ r0
  have hl : (rangeD lo n).length = n := by simp [rangeD]
  refine ⟨fun i d hd => ?_, by show n ≤ (rangeD lo n).length; omega⟩
  have hi : i < (rangeD lo n).length := (List.getElem?_eq_some_iff.mp hd).1
  refine ⟨by show i < n; omega, fun x H3 ⟨e, ex⟩ => ⟨P2, ?_⟩⟩
  subst e; subst ex
  have : d = .int (lo + i) := by
    unfold rangeD at hd
    rw [List.getElem?_map, List.getElem?_range (by omega)] at hd
    exact (Option.some.inj hd).symm
  subst this
  exact ⟨Ext.refl, r0, .int _⟩
def wRng1 (was : WA) : WI := fun env M RR => was env M fun ds M1 => match ds with
  | [.int j] => Need (-(2 ^ 62) ≤ j ∧ j < 2 ^ 62) ∧ RR (rangeD 0 j.toNat) M1
  | _ => False
theorem di_range1 {p : Pos} (hg : Gl X "range") (hm : X.mg "range" = none) (ha : DA B X [e] was) (hs : starEach [e] X.env = [(false, eval e X.env)] := by rfl) : DI B X tg (.Call (.Name "range" p) [e] [] pos) (wRng1 was) := by
  refine (pi_range1 hg hm ha hs).imp fun σ H R => ?_
  rintro ⟨P, al, M, env, RR, rs, hw, L⟩
  refine ⟨P, al, M, env, _, rs, hw, fun ds M1 vs H1 P1 al1 e1 rs1 r1 q => ?_⟩
  split at q
  · rename_i j
    cases r1 with
    | cons q1 t =>
      cases t; cases q1
      exact ⟨j, rfl, q.1.out.1, q.1.out.2, L _ _ _ _ _ _ e1 rs1 (walk_range 0 _ _ _) q.2⟩
  · exact q.elim
/-! ### for -/
/-- the turns over the items; N: what a turn is to reach -/
def forL (g : WG) (b : WS) (k : DEnds) : List D → Ev → Mt → Prop
  | [], env, M => k.nx env M
  | d :: r, env, M => ∃ N : Ev → Mt → Prop, (∀ env' M', N env' M' → forL g b k r env' M') ∧ g d env M fun env1 M1 => b { nx := N, ct := N, bk := k.nx, rt := k.rt } env1 M1
def wFor (wi : WI) (g : WG) (b : WS) : WS := fun k env M => wi env M fun ds M1 => forL g b k ds env M1
theorem d_for {body : List Stmt} {wi : WI} {g : WG} {wb : WS} (hp : PassesOwn (model X.prog X.w) X.A X.env X.xe) (hc : X.calm = true) (hi : DI B X tg e wi) (hg : DG B X tg g) (hb : DSs B X body wb) (hs : ∀ x, foldedSetIterable e X.env x = pure x := by intro _; rfl) :
    DS B X (.For tg e body [] pos) (wFor wi g wb) := by
  refine (ps_for hp hc hi hg hb hs).imp fun D σ H => ?_
  rintro ⟨P, al, M, env, k, rs, hw, L⟩
  refine ⟨P, al, M, env, _, rs, hw, fun ds M1 H1 P1 al1 J e1 rs1 wk q => ?_⟩
  refine ⟨fun i m σ2 H2 => m = ds.length - i ∧ i ≤ ds.length ∧ ∃ P2 al2 M2 env2, Ext P1 al1 H1 P2 al2 H2 ∧ RS X.K B P2 al2 M2 env2 σ2 H2 ∧ forL g wb k (ds.drop i) env2 M2, ⟨ds.length, by simp, Nat.zero_le _, P1, al1, M1, env, Ext.refl, rs1, q⟩, ?_⟩
  rintro i m σ2 H2 ⟨rfl, hi, P2, al2, M2, env2, e2, rs2, q2⟩
  obtain ⟨wk1, wk2⟩ := wk B P2 al2 M2 H2 e2.pp e2.pre rs2.toRS0
  by_cases hlt : i < ds.length
  · right
    have hd : ds[i]? = some ds[i] := List.getElem?_eq_getElem hlt
    obtain ⟨go, yl⟩ := wk1 i _ hd
    rw [List.drop_eq_getElem_cons hlt] at q2
    obtain ⟨N, hN, q2⟩ := q2
    refine ⟨go, fun σ' H' => ∃ P' al' M' env', Ext P1 al1 H1 P' al' H' ∧ RS X.K B P' al' M' env' σ' H' ∧ N env' M', fun σ' H' ⟨P', al', M', env', e', rs', n'⟩ => ⟨ds.length - (i + 1), by omega, rfl, hlt, P', al', M', env', e', rs', hN _ _ n'⟩, fun x H3 y => ?_⟩
    obtain ⟨P3, e3, r3, rx⟩ := yl x H3 y
    refine ⟨P3, al2, M2, env2, _, _, rs2.step e3 r3, rx, q2, fun env4 M4 σ4 H4 P4 al4 e4 rs4 q4 => ?_⟩
    have e14 := e2.trans (e3.trans e4)
    refine ⟨P4, al4, M4, env4, _, rs4, q4, ⟨fun env5 M5 σ5 H5 P5 al5 e5 rs5 n5 => ⟨P5, al5, M5, env5, e14.trans e5, rs5, n5⟩, fun d M5 v H5 P5 al5 e5 rs5 r5 q5 => L.rt _ _ _ _ _ _ (e1.trans (e14.trans e5)) rs5 r5 q5, fun env5 M5 σ5 H5 P5 al5 e5 rs5 q5 => L.nx _ _ _ _ _ _ (e1.trans (e14.trans e5)) rs5 q5, fun env5 M5 σ5 H5 P5 al5 e5 rs5 n5 => ⟨P5, al5, M5, env5, e14.trans e5, rs5, n5⟩⟩⟩
  · left
    have ei : i = ds.length := by omega
    subst ei
    rw [List.drop_length] at q2
    exact ⟨wk2, L.nx _ _ _ _ _ _ (e1.trans e2) rs2 q2⟩

/-! ### list comprehensions -/
def wipeE (env : Ev) : List Nat → Ev
  | [] => env
  | v :: vs => (wipeE env vs).set v none
theorem RS.wipe {P : Hp} {al : List Addr} {M : Mt} {env : Ev} {σ : L2.St} {H : Hp} (rs : RS K B P al M env σ H) : ∀ vs : List Nat, RS K B P al M (wipeE env vs) (L2.wipe σ vs) H
  | [] => rs
  | v :: vs => by
    have ih := rs.wipe vs
    refine ⟨ih.toRS0, by simp [wipeE, L2.wipe, ih.slen], fun j d h => ?_⟩
    unfold wipeE at h
    by_cases hj : j = v
    · subst hj
      have hi : j < (wipeE env vs).length := by
        have := (List.getElem?_eq_some_iff.mp h).1
        simpa using this
      rw [List.getElem?_set_self hi] at h; cases h
    · rw [List.getElem?_set_ne (Ne.symm hj)] at h
      unfold L2.wipe
      rw [List.getElem?_set_ne (Ne.symm hj)]
      exact ih.slot j d h
abbrev WTs := Ev → Mt → (Bool → Mt → Prop) → Prop
abbrev DTs (B : Bs) (X : Cx) (ifs : List Expr) (w : WTs) : Prop := PTs X ifs (tDT X.K B w)
def wYes : WTs := fun _ M R => R true M
theorem _root_.L2.PTs.imp {X : Cx} {e : List Expr} {t u : TT} (h : PTs X e t) (i : ∀ σ H Q, u σ H Q → t σ H Q) : PTs X e u := ⟨fun pins s σ H Q I q => h.run pins s σ H Q I (i σ H Q q)⟩
theorem dts_nil : DTs B X [] wYes := by
  refine pts_nil.imp fun σ H Q => ?_
  rintro ⟨P, al, M, env, R, rs, hw, L⟩
  exact L _ _ _ _ _ Ext.refl rs hw
theorem dts_one {c : Expr} {t : WT} (h : DT B X c t) : DTs B X [c] t := pts_one h
theorem wipe_get (σ : L2.St) : ∀ (vs : List Nat) (j : Nat), (L2.wipe σ vs)[j]? = if j ∈ vs then (if j < σ.length then some none else none) else σ[j]?
  | [], j => by simp [L2.wipe]
  | v :: vs, j => by
    unfold L2.wipe
    by_cases hj : j = v
    · subst hj
      by_cases hl : j < σ.length
      · rw [List.getElem?_set_self (by rw [wipe_length]; exact hl)]; simp [hl]
      · rw [List.getElem?_eq_none (by rw [List.length_set, wipe_length]; omega)]; simp [hl]
    · rw [List.getElem?_set_ne (Ne.symm hj), wipe_get σ vs j]
      simp [hj]
theorem wipe_put {σ : L2.St} {vs : List Nat} {i : Nat} {x : Option V} (hi : i ∈ vs) : L2.wipe (σ.set i x) vs = L2.wipe σ vs := by
  apply List.ext_getElem?
  intro j
  rw [wipe_get, wipe_get, List.length_set]
  by_cases hj : j ∈ vs
  · simp [hj]
  · have : i ≠ j := fun z => hj (z ▸ hi)
    simp [hj, List.getElem?_set_ne this]
theorem wipe_wipe {σ : L2.St} {vs : List Nat} : L2.wipe (L2.wipe σ vs) vs = L2.wipe σ vs := by
  apply List.ext_getElem?
  intro j
  rw [wipe_get, wipe_length]
  by_cases hj : j ∈ vs
  · simp only [hj, if_true]; rw [wipe_get]; simp [hj]
  · simp [hj]
/-- a comprehension's names: one, or two, three of a tuple -/
def bnd (is : List Nat) (d : D) (env : Ev) (k : Ev → Prop) : Prop := match is with
  | [i] => k (env.set i (some d))
  | [i, j] => match d with
    | .tup [a, b] => k ((env.set i (some a)).set j (some b))
    | _ => False
  | _ => False
def lcL (is : List Nat) (t : WTs) (we : WE) (vs : List Nat) (env : Ev) : List D → List D → Mt → (List D → Mt → Prop) → Prop
  | [], acc, M, R => R acc M
  | d :: r, acc, M, R => bnd is d (wipeE env vs) fun env1 => t env1 M fun b M2 =>
      ifB b (we env1 M2 fun y M3 => Need (acc.length < sizeLine) ∧ lcL is t we vs env r (acc ++ [y]) M3 R) (lcL is t we vs env r acc M2 R)
def wLc (wi : WI) (is : List Nat) (t : WTs) (we : WE) (vs : List Nat) : WE := fun env M R => wi env M fun ds M1 => lcL is t we vs env ds [] M1 fun acc M2 => R (.lst acc) M2
/-- how the target takes an item -/
def Binds1 (K : PySem.W.Frag) (g : TG) (is vs : List Nat) : Prop := ∀ (B : Bs) (P : Hp) (al : List Addr) (M : Mt) (env : Ev) (σ : L2.St) (H : Hp) (d : D) (v : V) (k : Ev → Prop) (Q : L2.St → Hp → Prop), RS K B P al M env σ H → Rep K P al d v → bnd is d env k →
  (∀ env' σ', RS K B P al M env' σ' H → L2.wipe σ' vs = L2.wipe σ vs → k env' → Q σ' H) → g v σ H Q
theorem binds_one {i : Nat} {vs : List Nat} (hi : i ∈ vs) : Binds1 K (gName i) [i] vs := fun B P al M env σ H d v k Q rs r h q => q _ _ (rs.put i r) (wipe_put hi) h
theorem binds_two {i j : Nat} {vs : List Nat} (hi : i ∈ vs) (hj : j ∈ vs) : Binds1 K (gTup K 2 (gCons (gName i) (gCons (gName j) gNil))) [i, j] vs := by
  intro B P al M env σ H d v k Q rs r h q
  cases r with
  | tup h1 h2 =>
    cases h2 with
    | nil => exact (show False from h).elim
    | cons q1 t =>
      cases t with
      | nil => exact (show False from h).elim
      | cons q2 t =>
        cases t with
        | nil => exact ⟨_, _, rfl, same_seqT rs.same h1, rfl, _, _, rfl, _, _, rfl, rfl, q _ _ ((rs.put i q1).put j q2) (by rw [wipe_put hj, wipe_put hi]) h⟩
        | cons _ _ => exact (show False from h).elim
  | _ => exact (show False from h).elim
/-- the core: what the block's rule asks -/
theorem lc_imp {wi : WI} {g : TG} {is vs : List Nat} {t : WTs} {we : WE} (bn : Binds1 K g is vs) {P al M env σ H} {R : D → Mt → Prop} {Q : VK} {fin : List D → Mt → (D → Mt → Prop) → Prop}
    (hfin : ∀ (P : Hp) (al : List Addr) (M : Mt) (σ : L2.St) (H : Hp) (p : Addr) (acc : List D) (vs : List V) (R : D → Mt → Prop) (Q : VK) (H0 P0 : Hp) (al0 : List Addr), RS K B P al M env σ H → Ext P0 al0 H0 P al H → H0 p = none → P p = none → p ∉ al → B.2.2 p = none → H p = some (.lst vs) → Reps K P al acc vs → fin acc M R → (∀ d M' P' al', Ext P0 al0 H0 P' al' H → RS K B P' al' M' env σ H → Rep K P' al' d (.ref p) → R d M' → Q (.ref p) H) → Q (.ref p) H)
    (rs : RS K B P al M env σ H) (hw : wi env M fun ds M1 => lcL is t we vs env ds [] M1 fun acc M2 => fin acc M2 R) (L : Lift K B P al env σ H R Q) : tLc (tDI K B wi) g (tDT K B t) (tD K B we) vs σ H Q := by
  refine ⟨P, al, M, env, _, rs, hw, fun ds M1 H1 P1 al1 J e1 rs1 wk q => fun p hp => ?_⟩
  obtain ⟨hb, na⟩ := rs1.toRS0.fresh hp
  have np := rs1.toRS0.free hp
  refine ⟨fun i m H2 => m = ds.length - i ∧ i ≤ ds.length ∧ ∃ P2 al2 M2 acc av, Ext P1 al1 H1 P2 al2 H2 ∧ RS K B P2 al2 M2 env σ H2 ∧ P2 p = none ∧ p ∉ al2 ∧ H2 p = some (.lst av) ∧ Reps K P2 al2 acc av ∧ lcL is t we vs env (ds.drop i) acc M2 (fun acc M2 => fin acc M2 R),
    ⟨ds.length, by simp, Nat.zero_le _, P1, al1, M1, [], [], Ext.refl.priv hp _, ⟨rs1.toRS0.priv np na hb _, rs1.slen, rs1.slot⟩, np, na, upd_same, .nil, q⟩, ?_⟩
  rintro i m H2 ⟨rfl, hi, P2, al2, M2, acc, av, e2, rs2, np2, na2, hpv, racc, q2⟩
  obtain ⟨wk1, wk2⟩ := wk B P2 al2 M2 H2 e2.pp e2.pre rs2.toRS0
  by_cases hlt : i < ds.length
  · right
    have hd : ds[i]? = some ds[i] := List.getElem?_eq_getElem hlt
    obtain ⟨go, yl⟩ := wk1 i _ hd
    rw [List.drop_eq_getElem_cons hlt] at q2
    refine ⟨go, fun H' => ∃ P' al' M' acc' av', Ext P1 al1 H1 P' al' H' ∧ RS K B P' al' M' env σ H' ∧ P' p = none ∧ p ∉ al' ∧ H' p = some (.lst av') ∧ Reps K P' al' acc' av' ∧ lcL is t we vs env (ds.drop (i + 1)) acc' M' (fun acc M2 => fin acc M2 R), fun H' ⟨P', al', M', acc', av', x⟩ => ⟨ds.length - (i + 1), by omega, rfl, hlt, P', al', M', acc', av', x⟩, fun x H3 y => ?_⟩
    obtain ⟨P3, e3, r3, rx⟩ := yl x H3 y
    have rs3 := (rs2.step e3 r3)
    -- what our own list is behind a step
    have keep : ∀ {Pa ala Ha Pb alb Hb w'}, Ext Pa ala Ha Pb alb Hb → Ha p = some (.lst w') → p ∉ ala → Pa p = none → Hb p = some (.lst w') ∧ p ∉ alb ∧ Pb p = none := fun {Pa ala Ha Pb alb Hb w'} e h n z =>
      ⟨e.fr _ _ h n, (fun m => by have := e.new _ m n; rw [h] at this; cases this), e.pn _ _ h ⟨fun _ u => (by cases u), fun _ u => (by cases u)⟩ z n⟩
    obtain ⟨hp3, na3, np3⟩ := keep e3 hpv na2 np2
    refine bn B P3 al2 M2 _ _ H3 _ x _ _ (rs3.wipe vs) rx q2 fun env4 σ4 rs4 hwp q4 => ⟨by rw [hwp, wipe_wipe], P3, al2, M2, env4, _, rs4, q4, fun b M5 H5 P5 al5 e5 rs5 q5 => ?_⟩
    obtain ⟨hp5, na5, np5⟩ := keep e5 hp3 na3 np3
    have e15 := e2.trans (e3.trans e5)
    have back : ∀ {P' al' M' H'}, Ext P3 al2 H3 P' al' H' → RS0 K B P' al' M' H' → RS K B P' al' M' env σ H' := fun {P' al' M' H'} e r => rs3.step e r
    cases b with
    | true =>
      rw [if_pos rfl]
      refine ⟨P5, al5, M5, env4, _, rs5, q5.1 rfl, fun y M6 v H6 P6 al6 e6 rs6 r6 q6 => ?_⟩
      obtain ⟨hp6, na6, np6⟩ := keep e6 hp5 na5 np5
      have racc6 := racc.mono (e3.trans (e5.trans e6)).pp (e3.trans (e5.trans e6)).pre
      refine ⟨av, hp6, by rw [← racc.length]; exact q6.1.out, P6, al6, M6, acc ++ [y], av ++ [v], (e15.trans e6).priv hp _, ?_, np6, na6, upd_same, racc6.append (.cons r6 .nil), q6.2⟩
      have r7 := back (e5.trans e6) rs6.toRS0
      exact ⟨r7.toRS0.priv np6 na6 hb _, r7.slen, r7.slot⟩
    | false =>
      rw [if_neg Bool.false_ne_true]
      exact ⟨P5, al5, M5, acc, av, e15, back e5 rs5.toRS0, np5, na5, hp5, racc.mono (e3.trans e5).pp (e3.trans e5).pre, q5.2 rfl⟩
  · left
    have ei : i = ds.length := by omega
    subst ei
    rw [List.drop_length] at q2
    refine ⟨wk2, ?_⟩
    exact hfin P2 al2 M2 σ H2 p acc av R Q H1 P1 al1 rs2 e2 hp np2 na2 hb hpv racc q2 fun d M' P' al' e rs' r z => L _ _ _ _ _ _ (e1.trans e) rs' r z
theorem d_lc {elt : Expr} {ifs : List Expr} {scope : Scope} {own : List (Str × Nat)} {g : TG} {is : List Nat} {wi : WI} {t : WTs} (hc : X.calm = true) (hN : X.N.Nodup) (hi : DI B X tg e wi) (ok : BlkOk X.N X.env.scope scope own)
    (hg : ∀ (s : Shared) (H : Hp) (C : Addr) (cl : List (Str × Addr)) (fp : List Addr), PG (X.blk s H scope (compEnvC scope cl C X.env) fp) tg g) (bn : Binds1 X.K g is (own.map (·.2)))
    (ht : ∀ (s : Shared) (H : Hp) (C : Addr) (cl : List (Str × Addr)) (fp : List Addr), DTs B (X.blk s H scope (compEnvC scope cl C X.env) fp) ifs t)
    (he : ∀ (s : Shared) (H : Hp) (C : Addr) (cl : List (Str × Addr)) (fp : List Addr), DE B (X.blk s H scope (compEnvC scope cl C X.env) fp) elt we) (hs : ∀ x, foldedSetIterable e X.env x = pure x := by intro _; rfl) :
    DE B X (.ListComp elt [⟨tg, e, ifs, 0⟩] scope pos) (wLc wi is t we (own.map (·.2))) := by
  refine (pe_lc (tt := tDT X.K B t) (te := tD X.K B we) hc hN hi ok hg ht he hs).imp fun σ H Q => ?_
  rintro ⟨P, al, M, env, R, rs, hw, L⟩
  refine lc_imp (fin := fun acc M R => R (.lst acc) M) bn (fun P al M σ H p acc vs R Q H0 P0 al0 rs e hp np na hb hv ra hr hq => ?_) rs hw L
  have sm : Same P (upd P p (.lst vs)) := fun b x h => by rw [upd_ne (ne_of_none h np)]; exact h
  refine hq _ _ _ _ (e.pub hp np (.lst vs)) ⟨rs.toRS0.pub np na hb hv, rs.slen, fun j d h => ?_⟩ (.lst upd_same (ra.mono sm (List.prefix_refl _))) hr
  obtain ⟨v, h1, h2⟩ := rs.slot j d h
  exact ⟨v, h1, h2.mono sm (List.prefix_refl _)⟩
end
end L3

namespace L3
open PySem PySem.Spec PyProof.Rows L2
/-! ### calls of the text's defs -/
abbrev RXt := Str → List (Str × D) → Mt → Prop
abbrev RX0 : RXt := fun _ _ _ => False
abbrev DSp := List D → Mt → (D → Mt → Prop) → RXt → Prop
/-- an exception's own dict -/
def XdOk (K : PySem.W.Frag) (P : Hp) (al : List Addr) (H : Hp) (fs : List (Str × D)) (dd : Option Addr) : Prop :=
  (dd = none ∧ fs = []) ∨ ∃ d gs, dd = some d ∧ d ∉ al ∧ H d = some (.xd gs) ∧ RepFs K P al fs gs
def toSp (K : PySem.W.Frag) (sp : DSp) : Sp := fun vs H Q E => ∃ P al M ds R, ∃ RX : RXt, RS0 K (P, al, H) P al M H ∧ Reps K P al ds vs ∧ sp ds M R RX ∧
  (∀ d M' v H' P' al', Ext P al H P' al' H' → RS0 K (P, al, H) P' al' M' H' → Rep K P' al' d v → R d M' → Q v H') ∧
  (∀ C n fs M' H' P' al' dd, Ext P al H P' al' H' → RS0 K (P, al, H) P' al' M' H' → ClsAt K n C → XdOk K P' al' H' fs dd → RX n fs M' → E (.ref C) dd H')
section
variable {K : PySem.W.Frag} {B B' : Bs} {P P' : Hp} {al al' : List Addr} {M M' : Mt} {env : Ev} {σ : L2.St} {H H' : Hp}
theorem RS0.rebase (r : RS0 K B P al M H) (e : Ext B'.1 B'.2.1 B'.2.2 P al H) : RS0 K B' P al M H := ⟨e, r.same, r.len, r.cell, r.inj, r.trk⟩
theorem RS0.here (r : RS0 K B P al M H) : RS0 K (P, al, H) P al M H := r.rebase Ext.refl
end
section
variable {X : Cx} {B : Bs} {CX : CXT} {k : Nat} {f : Addr} {fd : FuncData} {ps : List Str} {sp : DSp} {dvs : List V} {dds : List D} {ds : List Value} {x : Str} {p pos : Pos} {e : Expr} {es : List Expr} {was : WA}
def wCall (sp : DSp) (dds : List D) (RX : RXt) (was : WA) : WE := fun env M R => was env M fun ds M1 => sp (ds ++ dds) M1 R RX
theorem call_imp {K : PySem.W.Frag} (hdd : ∀ P al, Reps K P al dds dvs) (σ : L2.St) (H : Hp) (Q : VK) : tD K B (wCall sp dds RX0 was) σ H Q → tCall (toSp K sp) dvs E0 (tDA K B was) σ H Q := by
  rintro ⟨P, al, M, env, R, rs, hw, L⟩
  refine ⟨P, al, M, env, _, rs, hw, fun ds M1 vs H1 P1 al1 e1 rs1 r1 q => ?_⟩
  exact ⟨P1, al1, M1, _, R, RX0, rs1.toRS0.here, r1.append (hdd _ _), q, fun d M' v H' P' al' e r0 r hq => L _ _ _ _ _ _ (e1.trans e) (rs1.step e (r0.rebase (rs1.base.trans e))) r hq, fun _ _ _ _ _ _ _ _ _ _ _ _ z => z.elim⟩
theorem d_call (F : FnOk X.prog X.w X.K X.mg X.base CX0 k f fd ps (toSp X.K sp)) (hr : Room k X.A) (hg : Gl X x) (hm : X.mg x = some (.ref f)) (hk : PySem.W.keepIn X.K (.ref f) = true) (hb : Binds X.K fd ps ds) (hd : Vals dvs ds) (hdd : ∀ P al, Reps X.K P al dds dvs) (ha : DA B X (e :: es) was)
    (hdb : (x == ("__debug__" : Str)) = false := by decide) (he : starEach (e :: es) X.env = (false, eval e X.env) :: starEach es X.env := by rfl) (hpl : (backTo pos (starEach es X.env)).any (·.1) = false := by rfl) : DE B X (.Call (.Name x p) (e :: es) [] pos) (wCall sp dds RX0 was) :=
  (pe_call F hr hg hm hk hb hd pass0 ha hdb he hpl).imp (call_imp hdd)
end
/-! ### the end of a def -/
mutual
def noCel (n : Nat) : D → Bool
  | .tup l => noCels n l
  | .ptp l => noCels n l
  | .lst l => noCels n l
  | .rol l => noCels n l
  | .dct l => noCelK n l
  | .fdc l => noCelK n l
  | .obj _ l => noCelF n l
  | .cel i => decide (i < n)
  | _ => true
def noCels (n : Nat) : List D → Bool
  | [] => true
  | d :: r => noCel n d && noCels n r
def noCelK (n : Nat) : List (Key × D) → Bool
  | [] => true
  | (_, d) :: r => noCel n d && noCelK n r
def noCelF (n : Nat) : List (Str × D) → Bool
  | [] => true
  | (_, d) :: r => noCel n d && noCelF n r
end
section
variable {K : PySem.W.Frag} {B : Bs} {P : Hp} {al al' : List Addr} {M : Mt} {H : Hp}
theorem and_l {a b : Bool} (h : (a && b) = true) : a = true := (Bool.and_eq_true_iff.mp h).1
theorem and_r {a b : Bool} (h : (a && b) = true) : b = true := (Bool.and_eq_true_iff.mp h).2
mutual
theorem Rep.cut (h : al <+: al') : ∀ {d : D} {v : V}, Rep K P al' d v → noCel al.length d = true → Rep K P al d v
  | _, _, .non, _ => .non
  | _, _, .bl b, _ => .bl b
  | _, _, .int i, _ => .int i
  | _, _, .str x, _ => .str x
  | _, _, .ty n, _ => .ty n
  | _, _, .adr a, _ => .adr a
  | _, _, .tup q r, e => .tup q (Reps.cutA h r (by simpa [noCel] using e))
  | _, _, .ptp q r, e => .ptp q (Reps.cutA h r (by simpa [noCel] using e))
  | _, _, .lst q r, e => .lst q (Reps.cutA h r (by simpa [noCel] using e))
  | _, _, .rol q r, e => .rol q (Reps.cutA h r (by simpa [noCel] using e))
  | _, _, .dct q r, e => .dct q (RepKs.cutA h r (by simpa [noCel] using e))
  | _, _, .fdc q r, e => .fdc q (RepKs.cutA h r (by simpa [noCel] using e))
  | _, _, .obj q c r, e => .obj q c (RepFs.cutA h r (by simpa [noCel] using e))
  | _, _, .cls c, _ => .cls c
  | _, _, .cel q, e => .cel (by
    have hi : _ < al.length := of_decide_eq_true (by simpa [noCel] using e)
    obtain ⟨t, rfl⟩ := h
    rw [List.getElem?_append_left hi] at q; exact q)
theorem Reps.cutA (h : al <+: al') : ∀ {ds : List D} {vs : List V}, Reps K P al' ds vs → noCels al.length ds = true → Reps K P al ds vs
  | _, _, .nil, _ => .nil
  | _, _, .cons r t, e => .cons (Rep.cut h r (and_l (by simpa only [noCels] using e))) (Reps.cutA h t (and_r (by simpa only [noCels] using e)))
theorem RepKs.cutA (h : al <+: al') : ∀ {ds : List (Key × D)} {vs : List (Key × V)}, RepKs K P al' ds vs → noCelK al.length ds = true → RepKs K P al ds vs
  | _, _, .nil, _ => .nil
  | _, _, .cons r t, e => .cons (Rep.cut h r (and_l (by simpa only [noCelK] using e))) (RepKs.cutA h t (and_r (by simpa only [noCelK] using e)))
theorem RepFs.cutA (h : al <+: al') : ∀ {ds : List (Str × D)} {vs : List (Str × V)}, RepFs K P al' ds vs → noCelF al.length ds = true → RepFs K P al ds vs
  | _, _, .nil, _ => .nil
  | _, _, .cons r t, e => .cons (Rep.cut h r (and_l (by simpa only [noCelF] using e))) (RepFs.cutA h t (and_r (by simpa only [noCelF] using e)))
end
def exOk (n : Nat) : List D → Bool
  | [.obj _ fs] => noCelF n fs
  | _ => true
/-- what an object of the table may hold, when the later places are dropped -/
def cellOk (n : Nat) : D → Bool
  | .lst l => noCels n l
  | .dct l => noCelK n l
  | .obj _ l => noCelF n l
  | .ptp l => exOk n l
  | _ => true
theorem ExCell.cut {l : List D} {a : Addr} (h : al <+: al') (c : ExCell K P al' l a) (k : exOk al.length l = true) : ExCell K P al l a := by
  unfold ExCell at c ⊢
  split at c
  · obtain ⟨C, d, oe, h1, h2, h3, h4, h5⟩ := c
    refine ⟨C, d, oe, h1, h2, h3, h4, ?_⟩
    rcases h5 with h5 | ⟨dd, gs, g1, g2, g3⟩
    · exact .inl h5
    · exact .inr ⟨dd, gs, g1, g2, g3.cutA h k⟩
  · trivial
theorem RS0.drop {P0 H0 : Hp} (r : RS0 K (P0, al, H0) P al' M H) (hc : ∀ (i : Nat) (m : D), i < al.length → M[i]? = some m → cellOk al.length m = true) : RS0 K (P0, al, H0) P al (M.take al.length) H := by
  have pre : al <+: al' := r.base.pre
  have hl : al.length ≤ M.length := by rw [← r.len]; exact pre.length_le
  refine ⟨⟨r.base.pp, List.prefix_refl _, r.base.fr, fun b m n => absurd m n, r.base.pn⟩, r.same, by simp; omega, fun i a m h1 h2 => ?_, fun i j a m n h1 h2 h3 h4 => r.inj i j a m n (pre_get pre h1) (pre_get pre h2) ?_ ?_, fun a h => r.trk a (pre.subset h)⟩
  · have hi := (List.getElem?_eq_some_iff.mp h1).1
    rw [List.getElem?_take_of_lt hi] at h2
    have c := r.cell i a m (pre_get pre h1) h2
    have k := hc i m hi h2
    cases m <;> first | trivial | skip
    · exact ExCell.cut pre c k
    · obtain ⟨q1, xs, q2, q3⟩ := c; exact ⟨q1, xs, q2, q3.cutA pre k⟩
    · obtain ⟨q1, xs, q2, q3⟩ := c; exact ⟨q1, xs, q2, q3.cutA pre k⟩
    · obtain ⟨q1, C, dx, xs, q2, hc, q3⟩ := c; exact ⟨q1, C, dx, xs, q2, hc, q3.cutA pre k⟩
  · rw [List.getElem?_take_of_lt (List.getElem?_eq_some_iff.mp h1).1] at h3; exact h3
  · rw [List.getElem?_take_of_lt (List.getElem?_eq_some_iff.mp h2).1] at h4; exact h4
end
/-- a def's end: the objects that it made and did not hand back are dropped -/
inductive retF (n : Nat) (R : D → Mt → Prop) (d : D) (M : Mt) : Prop where
  | keep : R d M → retF n R d M
  | less : noCel n d = true → (M.take n).all (cellOk n) = true → R d (M.take n) → retF n R d M
def startE (n : Nat) (ds : List D) : Ev := ds.map some ++ List.replicate (n - ds.length) none
def fnEnds (n : Nat) (R : D → Mt → Prop) : DEnds := ⟨fun _ M => retF n R .non M, retF n R, fun _ _ => False, fun _ _ => False⟩
section
variable {P : Program} {w : World} {K : PySem.W.Frag} {mg : Str → Option Value} {base : Heap}
theorem start_slots {Pp : Hp} {al : List Addr} {ds : List D} {vs : List V} {N : List Str} (r : Reps K Pp al ds vs) : (startE N.length ds).length = (L2.start N vs).length ∧ ∀ (j : Nat) (d : D), (startE N.length ds)[j]? = some (some d) → ∃ v, (L2.start N vs)[j]? = some (some v) ∧ Rep K Pp al d v := by
  have hl := r.length
  refine ⟨by simp [startE, L2.start, hl], fun j d h => ?_⟩
  unfold startE at h
  unfold L2.start
  by_cases hj : j < ds.length
  · rw [List.getElem?_append_left (by simpa using hj), List.getElem?_map] at h
    cases hd : ds[j]? with
    | none => rw [hd] at h; cases h
    | some d' =>
      rw [hd] at h; cases h
      obtain ⟨v, h1, h2⟩ := r.get hd
      exact ⟨v, by rw [List.getElem?_append_left (by simp; omega), List.getElem?_map, h1]; rfl, h2⟩
  · rw [List.getElem?_append_right (by simp; omega)] at h
    have := List.mem_of_getElem? h
    simp at this
theorem dfn {x qual : Str} {st : Stmt} {f : Addr} {fd : FuncData} {N ps : List Str} {k : Nat} {sp : DSp} (F : Fun K x qual st f fd) (S : FnScope N ps (defScope st)) (len : ∀ ds M R RX, sp ds M R RX → ds.length = ps.length)
    (body : ∀ (B : Bs) (cdv : Value) (A : Around) (outer : List Env) (s : Shared) (H : Hp) (E : XK), Room k (A.deeper (envOfC qual (defScope st) s.heap.objs.size f cdv)) →
      ∃ wb : WS, DSs B (cxOf CX0 P w K mg base N qual (defScope st) f cdv A outer s H E).nox (defBody st) wb ∧ ∀ ds M R RX, sp ds M R RX → wb (fnEnds M.length R) (startE N.length ds) M) :
    FnOk P w K mg base CX0 (k + 1) f fd ps (toSp K sp) := by
  refine F.ok S (fun vs H Q E h => ?_) (fun cdv A outer s H vs Q E hr h => ?_)
  · obtain ⟨P, al, M, ds, R, RX, _, r, hs, _⟩ := h
    rw [← r.length]; exact len _ _ _ _ hs
  · obtain ⟨Pp, al, M, ds, R, RX, r0, r, hs, L, _⟩ := h
    obtain ⟨wb, hb, hw⟩ := body (Pp, al, H) cdv A outer s H E hr
    have el := r0.len
    have fin : ∀ d M' v H' P' al', Ext Pp al H P' al' H' → RS0 K (Pp, al, H) P' al' M' H' → Rep K P' al' d v → retF M.length R d M' → Q v H' := fun d M' v H' P' al' e r' rd q => by
      cases q with
      | keep q => exact L d M' v H' P' al' e r' rd q
      | less q1 q2 q3 =>
        rw [← el] at q1 q2 q3
        refine L d _ v H' P' al ⟨e.pp, List.prefix_refl _, e.fr, fun b m n => absurd m n, e.pn⟩ (r'.drop fun i m hi hm => ?_) (rd.cut e.pre q1) q3
        exact List.all_eq_true.mp q2 m (List.mem_of_getElem? (by rw [List.getElem?_take_of_lt hi]; exact hm))
    obtain ⟨s1, s2⟩ := start_slots (N := N) r
    exact ⟨_, hb, Pp, al, M, _, _, ⟨r0, s1, s2⟩, hw ds M R RX hs, ⟨fun env' M' σ' H' P' al' e rs q => fin _ _ _ _ _ _ e rs.toRS0 .non q, fun d M' v H' P' al' e rs rd q => fin _ _ _ _ _ _ e rs rd q, fun _ _ _ _ _ _ _ _ z => z.elim, fun _ _ _ _ _ _ _ _ z => z.elim⟩⟩
end

/-! ### built-in functions -/
section
variable {X : Cx} {B : Bs} {K : PySem.W.Frag}
@[irreducible] def cLen : WCl := fun ds M R => match ds with
  | [x] => match viewD M x with
    | .str s => Need (s.length ≤ sizeLine) ∧ R (.int s.length) M
    | .dct l => R (.int l.length) M
    | .fdc l => R (.int l.length) M
    | x' => match seqD x' with
      | some l => R (.int l.length) M
      | none => False
  | _ => False
def rLenU (K : PySem.W.Frag) : List V → Hp → VK → Prop := fun xs H Q => (∃ x n, xs = [x] ∧ LenV K x H n ∧ Q (.int n) H) ∨ ∃ a kvs, xs = [V.ref a] ∧ Rd H a (.dK kvs) ∧ Q (.int kvs.length) H
theorem call_lenR : CallR X (.builtin "len") (fun xs H Q => ∃ a kvs, xs = [V.ref a] ∧ Rd H a (.dK kvs) ∧ Q (.int kvs.length) H) := by
  intro pins s σ H xs us Q I r h
  obtain ⟨a, kvs, rfl, ha, q⟩ := h
  obtain ⟨u, rfl, ru⟩ := vals1 r
  cases ru
  exact d_len I ha fun t s' I' => ⟨.int kvs.length, H, I', ⟨t, rfl⟩, q⟩
theorem callLen : CallR X (.builtin "len") (rLenU X.K) := call_len.or call_lenR
theorem cLen_ok : CallD K B (rLenU K) cLen := by
  intro P al M env σ H vs ds R Q rs r h L
  unfold cLen at h
  split at h
  · rename_i x
    cases r with
    | cons r1 t =>
      cases t
      split at h
      · rename_i s e; cases view_str r1 e; exact .inl ⟨_, _, rfl, ⟨h.1.out, rfl⟩, L.here rs (.int _) h.2⟩
      · rename_i l e
        obtain ⟨a, xs, rfl, h1, q1⟩ := view_dct rs.toRS0 r1 e
        exact .inr ⟨a, xs, rfl, .inl h1, by rw [q1.length] at h; exact L.here rs (.int _) h⟩
      · rename_i l e
        obtain ⟨a, xs, rfl, h1, q1⟩ := view_fdc rs.toRS0 r1 e
        exact .inr ⟨a, xs, rfl, h1, by rw [q1.length] at h; exact L.here rs (.int _) h⟩
      · split at h
        · rename_i l e
          obtain ⟨a, xs, rfl, h1, q1⟩ := view_seq rs.toRS0 r1 e
          rw [q1.length] at h
          refine .inl ⟨_, xs.length, rfl, ?_, L.here rs (.int _) h⟩
          rcases h1 with h1 | h1
          · exact .inl ⟨xs, h1, rfl⟩
          · exact .inr ⟨xs, h1, rfl⟩
        · exact h.elim
  · exact h.elim
def cInt : WCl := fun ds M R => match ds with
  | [.int i] => R (.int i) M
  | [.bl b] => R (.int (if b then 1 else 0)) M
  | _ => False
theorem cInt_ok : CallD K B (fun xs H Q => (∃ i, xs = [.int i] ∧ Q (.int i) H) ∨ ∃ k, xs = [.bl k] ∧ Q (.int (if k then 1 else 0)) H) cInt := by
  intro P al M env σ H vs ds R Q rs r h L
  unfold cInt at h
  split at h
  · cases r with | cons r1 t => cases t; cases r1; exact .inl ⟨_, rfl, L.here rs (.int _) h⟩
  · cases r with | cons r1 t => cases t; cases r1; exact .inr ⟨_, rfl, L.here rs (.int _) h⟩
  · exact h.elim
def absI (i : Int) : Int := if i < 0 then -i else i
def cAbs : WCl := fun ds M R => match ds with
  | [.int i] => R (.int (absI i)) M
  | _ => False
theorem cAbs_ok : CallD K B (fun xs H Q => ∃ i, xs = [.int i] ∧ Q (.int (if i < 0 then -i else i)) H) cAbs := by
  intro P al M env σ H vs ds R Q rs r h L
  unfold cAbs at h
  split at h
  · cases r with | cons r1 t => cases t; cases r1; exact ⟨_, rfl, L.here rs (.int _) h⟩
  · exact h.elim
/-- list(x), a new one -/
def cList (m : Bool) : WCl := fun ds M R => match ds with
  | [x] => match seqD (viewD M x) with
    | some l => if m then R (.cel M.length) (M ++ [.lst l]) else R (.lst l) M
    | none => False
  | _ => False
theorem cList_ok {m : Bool} : CallD K B (fun xs H Q => ∃ p ys, xs = [.ref p] ∧ (SqL K H p ys ∨ SqT K H p ys) ∧ ∀ l, H l = none → Q (.ref l) (upd H l (.lst ys))) (cList m) := by
  intro P al M env σ H vs ds R Q rs r h L
  unfold cList at h
  split at h
  · cases r with
    | cons r1 t =>
      cases t
      split at h
      · rename_i l e
        obtain ⟨a, xs, rfl, h1, q1⟩ := view_seq rs.toRS0 r1 e
        refine ⟨a, xs, rfl, h1, fun p hp => ?_⟩
        cases m with
        | true => exact L.allocM rs hp q1 h
        | false => exact L.alloc rs hp (.lst upd_same (q1.mono (same_new rs.toRS0 hp) (List.prefix_refl _))) h
      · exact h.elim
  · exact h.elim
def boolsD : List D → Option (List Bool)
  | [] => some []
  | .bl b :: r => (boolsD r).map (b :: ·)
  | _ => none
theorem bools_rep {P : Hp} {al : List Addr} : ∀ {ds : List D} {vs : List V} {bs : List Bool}, Reps K P al ds vs → boolsD ds = some bs → vs = bs.map V.bl
  | _, _, _, .nil, e => by cases e; rfl
  | _, _, _, .cons (d := d) (ds := ds) r t, e => by
    cases d <;> simp [boolsD] at e
    obtain ⟨bs, h, rfl⟩ := e
    cases r
    rw [bools_rep t h]; rfl
def lstD : D → Option (List D)
  | .lst l => some l
  | .rol l => some l
  | _ => none
theorem view_lstD {P : Hp} {al : List Addr} {M : Mt} {H : Hp} {d : D} {v : V} (r : RS0 K B P al M H) (q : Rep K P al d v) {ds : List D} (e : lstD (viewD M d) = some ds) : ∃ a xs, v = .ref a ∧ SqL K H a xs ∧ Reps K P al ds xs := by
  cases h : viewD M d <;> rw [h] at e <;> simp [lstD] at e
  · obtain ⟨a, xs, e1, e2, e3⟩ := view_lst r q h; subst e; exact ⟨a, xs, e1, .inl (.inl e2), e3⟩
  · obtain ⟨a, xs, e1, e2, e3⟩ := view_rol r q h; subst e; exact ⟨a, xs, e1, e2, e3⟩
def cAll (f : List Bool → Bool) : WCl := fun ds M R => match ds with
  | [x] => match lstD (viewD M x) with
    | some l => match boolsD l with
      | some bs => R (.bl (f bs)) M
      | none => False
    | none => False
  | _ => False
theorem cAll_ok {f : List Bool → Bool} : CallD K B (fun vs H Q => ∃ (a : Addr) (bs : List Bool), vs = [V.ref a] ∧ SqL K H a (bs.map V.bl) ∧ Q (.bl (f bs)) H) (cAll f) := by
  intro P al M env σ H vs ds R Q rs r h L
  unfold cAll at h
  split at h
  · cases r with
    | cons r1 t =>
      cases t
      split at h
      · rename_i l e1
        split at h
        · rename_i bs e2
          obtain ⟨a, xs, rfl, h1, q1⟩ := view_lstD rs.toRS0 r1 e1
          have := bools_rep q1 e2; subst this
          exact ⟨a, bs, rfl, h1, L.here rs (.bl _) h⟩
        · exact h.elim
      · exact h.elim
  · exact h.elim
/-- isinstance(x, T), T a built-in class -/
def tyN (M : Mt) (d : D) : Option String := match viewD M d with
  | .non => some "NoneType"
  | .bl _ => some "bool"
  | .int _ => some "int"
  | .str _ => some "str"
  | .tup _ => some "tuple"
  | .lst _ => some "list"
  | .dct _ => some "dict"
  | _ => none
/-- the answers, as a table -/
def isB (a b : String) : Bool := if a = b then true else if a = "bool" then decide (b = "int") else false
def isBs : List String := ["NoneType", "bool", "int", "str", "tuple", "list", "dict"]
theorem isB_ok : ∀ a ∈ isBs, ∀ b ∈ ["bool", "int", "str", "tuple", "list", "dict"], kitB a b = some (isB a b) := by decide +kernel
theorem tyN_ok {P : Hp} {al : List Addr} {M : Mt} {H : Hp} {d : D} {v : V} {n : String} (rs : RS0 K B P al M H) (r : Rep K P al d v) (e : tyN M d = some n) : n ∈ isBs ∧ TyX K H v (.type n) := by
  unfold tyN at e
  split at e <;> try cases e
  · rename_i h; cases view_non r h; exact ⟨by decide, .base .non⟩
  · rename_i h; cases view_bl r h; exact ⟨by decide, .base (.bl _)⟩
  · rename_i h; cases view_int r h; exact ⟨by decide, .base (.int _)⟩
  · rename_i h; cases view_str r h; exact ⟨by decide, .base (.str _)⟩
  · rename_i h
    obtain ⟨a, xs, rfl, h1, q1⟩ := view_tup rs r h
    refine ⟨by decide, ?_⟩
    rcases h1 with (h1 | ⟨o, h1⟩) | ⟨o, its, m, h1, h2, _⟩
    · exact .base (.tup h1)
    · exact .fTuple h1
    · exact .kTuple h1 h2
  · rename_i h
    obtain ⟨a, xs, rfl, h1, q1⟩ := view_lst rs r h
    exact ⟨by decide, .base (.lst h1)⟩
  · rename_i h
    obtain ⟨a, xs, rfl, h1, q1⟩ := view_dct rs r h
    exact ⟨by decide, .base (.dK h1)⟩
def cIsi : WCl := fun ds M R => match ds with
  | [x, .ty b] => match tyN M x with
    | some a => Need (b ∈ ["bool", "int", "str", "tuple", "list", "dict"]) ∧ R (.bl (isB a b)) M
    | none => False
  | _ => False
theorem cIsi_ok : CallD K B (rIsi K) cIsi := by
  intro P al M env σ H vs ds R Q rs r h L
  unfold cIsi at h
  split at h
  · cases r with
    | cons r1 t => cases t with
      | cons r2 t =>
        cases t; cases r2
        split at h
        · rename_i b _ a e
          obtain ⟨m, ty⟩ := tyN_ok rs.toRS0 r1 e
          exact ⟨_, _, _, _, _, rfl, .ty _, ty, kit_ty (isB_ok a m _ h.1.out), L.here rs (.bl _) h.2⟩
        · exact h.elim
  · exact h.elim
end
end L3

namespace L3
open PySem PySem.Spec PyProof.Rows L2
/-! ### dicts -/
section
variable {κ : Type} [DecidableEq κ]
def valD (kvs : List (κ × D)) (k : κ) : Option D := (kvs.find? fun kv => decide (kv.1 = k)).map (·.2)
def putD (kvs : List (κ × D)) (k : κ) (v : D) : List (κ × D) :=
  if (kvs.any fun kv => decide (kv.1 = k)) = true then kvs.map (fun kv => if kv.1 = k then (kv.1, v) else kv) else kvs ++ [(k, v)]
def mergeD (kvs more : List (κ × D)) : List (κ × D) := more.foldl (fun acc kv => putD acc kv.1 kv.2) kvs
end
section
variable {K : PySem.W.Frag} {P : Hp} {al : List Addr}
theorem RepKs.val : ∀ {ks : List (Key × D)} {vs : List (Key × V)}, RepKs K P al ks vs → ∀ (k : Key), (∀ d, valD ks k = some d → ∃ v, valV vs k = some v ∧ Rep K P al d v) ∧ (valD ks k = none → valV vs k = none)
  | _, _, .nil, k => ⟨fun d h => by simp [valD] at h, fun _ => rfl⟩
  | _, _, .cons (k := j) (d := d) (v := v) (ds := ds) (vs := vs) r t, k => by
    have ih := t.val k
    by_cases h : j = k
    · subst h
      have e1 : valD ((j, d) :: ds) j = some d := by simp [valD]
      have e2 : valV ((j, v) :: vs) j = some v := valV_pos rfl
      refine ⟨fun d' h => ?_, fun h => ?_⟩
      · rw [e1] at h; cases h; exact ⟨v, e2, r⟩
      · rw [e1] at h; cases h
    · have e1 : valD ((j, d) :: ds) k = valD ds k := by simp [valD, List.find?_cons, h]
      have e2 : valV ((j, v) :: vs) k = valV vs k := valV_neg h
      rw [e1, e2]; exact ih
theorem RepKs.any : ∀ {ks : List (Key × D)} {vs : List (Key × V)}, RepKs K P al ks vs → ∀ (k : Key), (ks.any fun kv => decide (kv.1 = k)) = vs.any fun kv => decide (kv.1 = k)
  | _, _, .nil, k => rfl
  | _, _, .cons r t, k => by rw [List.any_cons, List.any_cons, t.any k]
theorem RepKs.repl {d : D} {v : V} (q : Rep K P al d v) (k : Key) : ∀ {ks : List (Key × D)} {vs : List (Key × V)}, RepKs K P al ks vs → RepKs K P al (ks.map fun kv => if kv.1 = k then (kv.1, d) else kv) (vs.map fun kv => if kv.1 = k then (kv.1, v) else kv)
  | _, _, .nil => .nil
  | _, _, .cons (k := j) r t => by
    rw [List.map_cons, List.map_cons]
    by_cases h : j = k
    · simp only [h, if_true]; exact .cons q (t.repl q k)
    · simp only [h, if_false]; exact .cons r (t.repl q k)
theorem RepKs.snoc {d : D} {v : V} (q : Rep K P al d v) (k : Key) : ∀ {ks : List (Key × D)} {vs : List (Key × V)}, RepKs K P al ks vs → RepKs K P al (ks ++ [(k, d)]) (vs ++ [(k, v)])
  | _, _, .nil => .cons q .nil
  | _, _, .cons r t => .cons r (t.snoc q k)
theorem RepKs.put {d : D} {v : V} {ks : List (Key × D)} {vs : List (Key × V)} (r : RepKs K P al ks vs) (q : Rep K P al d v) (k : Key) : RepKs K P al (putD ks k d) (putK vs k v) := by
  unfold putD putK
  rw [r.any k]
  by_cases h : (vs.any fun kv => decide (kv.1 = k)) = true
  · rw [if_pos h, if_pos h]; exact r.repl q k
  · rw [if_neg h, if_neg h]; exact r.snoc q k
theorem RepKs.merge : ∀ {more : List (Key × D)} {moreV : List (Key × V)} {ks : List (Key × D)} {vs : List (Key × V)}, RepKs K P al more moreV → RepKs K P al ks vs → RepKs K P al (mergeD ks more) (mergeK vs moreV)
  | _, _, _, _, .nil, r => r
  | _, _, ks, vs, .cons (k := k) (d := d) (v := v) (ds := ds) (vs := vs') q t, r => by
    have h := RepKs.merge t (r.put q k)
    exact h
end
def keyD : D → Option Key
  | .int i => some (.inl i)
  | .str s => some (.inr s)
  | _ => none
theorem key_rep {K : PySem.W.Frag} {P : Hp} {al : List Addr} {d : D} {v : V} {k : Key} (r : Rep K P al d v) (e : keyD d = some k) : v = kV k := by
  cases r <;> simp [keyD] at e <;> subst e <;> rfl
def keysD : List (D × D) → Option (List (Key × D))
  | [] => some []
  | (k, d) :: r => match keyD k, keysD r with
    | some k', some r' => some ((k', d) :: r')
    | _, _ => none
def wPairs : List (WE × WE) → Ev → Mt → (List (D × D) → Mt → Prop) → Prop
  | [], _, M, R => R [] M
  | (wk, wv) :: r, env, M, R => wk env M fun x M1 => wv env M1 fun y M2 => wPairs r env M2 fun ps M3 => R ((x, y) :: ps) M3
section
variable {X : Cx} {B : Bs} {K : PySem.W.Frag} {a b o i e value : Expr} {es : List Expr} {wa wb we wo wi wv : WE} {was : WA} {pos tpos pos' : Pos}
/-- {} -/
def wDict0 (m : Bool) : WE := fun env M R => if m then R (.cel M.length) (M ++ [.dct []]) else R (.dct []) M
theorem Lift.allocDM {P : Hp} {al : List Addr} {M : Mt} {env : Ev} {σ : L2.St} {H : Hp} {p : Addr} {R : D → Mt → Prop} {Q : VK} (L : Lift K B P al env σ H R Q) (rs : RS K B P al M env σ H) (hp : H p = none) {ds : List (Key × D)} {vs : List (Key × V)} (r : RepKs K P al ds vs)
    (q : R (.cel M.length) (M ++ [.dct ds])) : Q (.ref p) (upd H p (.dK vs)) := by
  obtain ⟨e, r0⟩ := rs.toRS0.allocM (m := .dct ds) (o := .dK vs) hp fun P' al' s h hn H' e => ⟨hn, vs, e, r.mono s h⟩
  refine L _ _ _ _ _ _ e (rs.step e r0) (.cel ?_) q
  rw [← rs.len, List.getElem?_append_right (Nat.le_refl _), Nat.sub_self]; rfl
theorem d_dict0 (m : Bool) : DE B X (.Dict [] [] pos) (wDict0 m) := by
  refine pe_dnewK.imp fun σ H Q => ?_
  rintro ⟨P, al, M, env, R, rs, hw, L⟩
  intro p hp
  cases m with
  | true => exact L.allocDM rs hp .nil hw
  | false => exact L.alloc rs hp (.dct upd_same .nil) hw
/-- the pairs of a display, while the new dict stands empty at p -/
theorem pairs_imp : ∀ (ws : List (WE × WE)) {P : Hp} {al : List Addr} {M : Mt} {env : Ev} {σ : L2.St} {H : Hp} {R : List (D × D) → Mt → Prop} {Q : List (V × V) → Hp → Prop}, RS K B P al M env σ H → wPairs ws env M R →
    (∀ ps M' vs H' P' al', Ext P al H P' al' H' → RS K B P' al' M' env σ H' → Paired (fun (x : D × D) (y : V × V) => Rep K P' al' x.1 y.1 ∧ Rep K P' al' x.2 y.2) ps vs → R ps M' → Q vs H') → tPairs (ws.map fun w => (tD K B w.1, tD K B w.2)) σ H Q
  | [], P, al, M, env, σ, H, R, Q, rs, hw, L => L _ _ _ _ _ _ Ext.refl rs .nil hw
  | (wk, wv) :: r, P, al, M, env, σ, H, R, Q, rs, hw, L => by
    refine ⟨P, al, M, env, _, rs, hw, fun d1 M1 v1 H1 P1 al1 e1 rs1 r1 hw1 => ⟨P1, al1, M1, env, _, rs1, hw1, fun d2 M2 v2 H2 P2 al2 e2 rs2 r2 hw2 => ?_⟩⟩
    exact pairs_imp r rs2 hw2 fun ps M3 vs H3 P3 al3 e3 rs3 r3 q =>
      L _ _ _ _ _ _ (e1.trans (e2.trans e3)) rs3 (.cons ⟨r1.mono (e2.trans e3).pp (e2.trans e3).pre, r2.mono e3.pp e3.pre⟩ r3) q
theorem keys_rep {P : Hp} {al : List Addr} : ∀ {ps : List (D × D)} {vs : List (V × V)} {ks : List (Key × D)}, Paired (fun (x : D × D) (y : V × V) => Rep K P al x.1 y.1 ∧ Rep K P al x.2 y.2) ps vs → keysD ps = some ks → ∃ kvs : List (Key × V), vs = kvs.map (fun kv => (kV kv.1, kv.2)) ∧ RepKs K P al ks kvs
  | _, _, _, .nil, e => by cases e; exact ⟨[], rfl, .nil⟩
  | _, _, _, .cons (a := (x, y)) (b := (v, u)) r t, e => by
    unfold keysD at e
    split at e
    · rename_i k ks h1 h2
      cases e
      obtain ⟨kvs, rfl, q⟩ := keys_rep t h2
      refine ⟨(k, u) :: kvs, ?_, .cons r.2 q⟩
      rw [List.map_cons]
      have := key_rep r.1 h1
      simp only at this
      rw [this]
    · cases e
def wDisp (ws : List (WE × WE)) : WE := fun env M R => wPairs ws env M fun ps M1 => match keysD ps with
  | some ks => Need (ks.length ≤ 15) ∧ R (.dct (mergeD [] ks)) M1
  | none => False
theorem RepKs.len {P : Hp} {al : List Addr} : ∀ {ds : List (Key × D)} {vs : List (Key × V)}, RepKs K P al ds vs → ds.length = vs.length
  | _, _, .nil => rfl
  | _, _, .cons _ t => by simp [RepKs.len t]
theorem d_disp {keys : List (Option Expr)} {values : List Expr} {ws : List (WE × WE)} (h : PPs X pos keys values (ws.map fun w => (tD X.K B w.1, tD X.K B w.2))) (hall : keys.all (·.isSome) = true) (hl : keys.length = values.length) (h0 : keys ≠ []) (h15 : keys.length ≤ 15) : DE B X (.Dict keys values pos) (wDisp ws) := by
  refine (pe_disp h hall hl h0 h15).imp fun σ H Q => ?_
  rintro ⟨P, al, M, env, R, rs, hw, L⟩
  intro p hp
  obtain ⟨hb, na⟩ := rs.toRS0.fresh hp
  have np := rs.toRS0.free hp
  have rs1 : RS X.K B P al M env σ (upd H p (.dK [])) := ⟨rs.toRS0.priv np na hb _, rs.slen, rs.slot⟩
  refine pairs_imp ws rs1 hw fun ps M2 vs H2 P2 al2 e2 rs2 r2 q => ?_
  have hp2 : H2 p = some (.dK []) := e2.fr _ _ upd_same na
  have na2 : p ∉ al2 := fun m => by have := e2.new _ m na; rw [upd_same] at this; cases this
  have np2 : P2 p = none := e2.pn _ _ upd_same ⟨fun _ u => (by cases u), fun _ u => (by cases u)⟩ np na
  split at q
  · rename_i ks hk
    obtain ⟨kvs, rfl, rk⟩ := keys_rep r2 hk
    refine ⟨hp2, kvs, rfl, by rw [← rk.len]; exact q.1.out, ?_⟩
    have e3 : Ext P al H P2 al2 H2 := ⟨e2.pp, e2.pre, fun b x h n => e2.fr b x (by rw [upd_ne (ne_of_none h hp)]; exact h) n, fun b m n => by
        have := e2.new b m n
        by_cases hz : b = p
        · rw [hz]; exact hp
        · rw [upd_ne hz] at this; exact this, fun b x h h1 h2 h3 => e2.pn b x (by rw [upd_ne (ne_of_none h hp)]; exact h) h1 h2 h3⟩
    have e4 := (e3.priv hp (.dK (mergeK [] kvs))).pub hp np2 (.dK (mergeK [] kvs))
    have r4 := (rs2.toRS0.priv np2 na2 hb (.dK (mergeK [] kvs))).pub np2 na2 hb upd_same
    have sm : Same P2 (upd P2 p (.dK (mergeK [] kvs))) := fun b x h => by rw [upd_ne (ne_of_none h np2)]; exact h
    exact L _ _ _ _ _ _ e4 (rs.step e4 r4) (.dct upd_same ((RepKs.merge rk .nil).mono sm (List.prefix_refl _))) q.2
  · exact q.elim
/-- d[k] -/
@[irreducible] def oDGet : WO2 := fun x y M R => match viewD M x, keyD y with
  | .dct ks, some k => match valD ks k with
    | some d => R d M
    | none => False
  | .fdc ks, some k => match valD ks k with
    | some d => R d M
    | none => False
  | _, _ => False
theorem d_dget (hu : X.A.units + 1 < cLine) (ho : DE B X o wo) (hi : DE B X i wi) (hs : NoSl i := by intro _ _; rfl) : DE B X (.Subscript o i pos) (wOp oDGet wo wi) := by
  refine (pe_dget hu ho hi hs).imp fun σ H Q => ?_
  rintro ⟨P, al, M, env, R, rs, hw, L⟩
  refine ⟨P, al, M, env, _, rs, hw, fun d1 M1 v1 H1 P1 al1 e1 rs1 r1 hw1 => ⟨P1, al1, M1, env, _, rs1, hw1, fun d2 M2 v2 H2 P2 al2 e2 rs2 r2 q => ?_⟩⟩
  unfold oDGet at q
  split at q
  · rename_i ks k h1 h2
    split at q
    · rename_i d hd
      obtain ⟨a, xs, rfl, g1, g2⟩ := view_dct rs2.toRS0 (r1.mono e2.pp e2.pre) h1
      obtain ⟨v, g3, g4⟩ := (g2.val k).1 d hd
      refine ⟨a, v, rfl, .inl ⟨xs, k, .inl g1, key_rep r2 h2, g3.symm⟩, L _ _ _ _ _ _ (e1.trans e2) rs2 g4 q⟩
    · exact q.elim
  · rename_i ks k h1 h2
    split at q
    · rename_i d hd
      obtain ⟨a, xs, rfl, g1, g2⟩ := view_fdc rs2.toRS0 (r1.mono e2.pp e2.pre) h1
      obtain ⟨v, g3, g4⟩ := (g2.val k).1 d hd
      refine ⟨a, v, rfl, .inl ⟨xs, k, g1, key_rep r2 h2, g3.symm⟩, L _ _ _ _ _ _ (e1.trans e2) rs2 g4 q⟩
    · exact q.elim
  · exact q.elim
/-- k in d, k not in d -/
def oDIn (neg : Bool) : WO2 := fun x y M R => match viewD M y, keyD x with
  | .dct ks, some k => R (.bl (if neg then !(valD ks k).isSome else (valD ks k).isSome)) M
  | .fdc ks, some k => R (.bl (if neg then !(valD ks k).isSome else (valD ks k).isSome)) M
  | _, _ => False
theorem some_iff {K : PySem.W.Frag} {P : Hp} {al : List Addr} {ks : List (Key × D)} {vs : List (Key × V)} (r : RepKs K P al ks vs) (k : Key) : (valV vs k).isSome = (valD ks k).isSome := by
  cases h : valD ks k with
  | none => rw [(r.val k).2 h] <;> rfl
  | some d => obtain ⟨v, g, _⟩ := (r.val k).1 d h; rw [g] <;> rfl
/-- d[k] = v, d a dict that changes -/
@[irreducible] def dput (x y d : D) (M : Mt) (R : Mt → Prop) : Prop := match x, keyD y with
  | .cel n, some j => match M[n]? with
    | some (.dct ks) => Need (ks.length < sizeLine) ∧ R (M.set n (.dct (putD ks j d)))
    | _ => False
  | _, _ => False
def wDPut (wo wi wv : WE) : WS := fun k env M => wv env M fun d M1 => wo env M1 fun x M2 => wi env M2 fun y M3 => dput x y d M3 (k.nx env)
theorem d_dput (hu : X.A.units + 1 < cLine) (ho : DE B X o wo) (hi : DE B X i wi) (hv : DE B X value wv) (hs : swapsWith value (some (.Subscript o i pos')) pos.line X.env = pure false := by rfl) : DS B X (.Assign [.Subscript o i pos'] value pos) (wDPut wo wi wv) := by
  refine (ps_dput hu ho hi hv hs).imp fun D σ H => ?_
  rintro ⟨P, al, M, env, k, rs, hw, L⟩
  refine ⟨P, al, M, env, _, rs, hw, fun d1 M1 v1 H1 P1 al1 e1 rs1 r1 hw1 => ⟨P1, al1, M1, env, _, rs1, hw1, fun d2 M2 v2 H2 P2 al2 e2 rs2 r2 hw2 => ⟨P2, al2, M2, env, _, rs2, hw2, fun d3 M3 v3 H3 P3 al3 e3 rs3 r3 q => ?_⟩⟩⟩
  unfold dput at q
  split at q
  · rename_i n j h1
    split at q
    · rename_i ks hm
      obtain ⟨a, rfl, ha, _, xs, g1, g2⟩ := cell_at rs3.toRS0 hm (r2.mono e3.pp e3.pre)
      have r1' := r1.mono (e2.trans e3).pp (e2.trans e3).pre
      obtain ⟨e4, r4⟩ := rs3.toRS0.change (o' := .dK (putK xs j v1)) (m' := .dct (putD ks j d1)) ha hm rfl fun H' hH => ⟨(live_cell rfl (rs3.cell n a _ ha hm)).1, _, hH, g2.put r1' j⟩
      refine ⟨a, _, rfl, .inl ⟨xs, j, g1, key_rep r3 h1, by rw [← g2.len]; exact q.1.out, rfl⟩, ?_⟩
      exact L.nx _ _ _ _ _ _ (e1.trans (e2.trans (e3.trans e4))) (rs3.step e4 r4) q.2
    · exact q.elim
  · exact q.elim

/-! ### methods of built-in types -/
def tyM (T : String) (d : D) : Prop := match d with
  | .str _ => T = "str"
  | .lst _ => T = "list"
  | .rol _ => T = "list"
  | .dct _ => T = "dict"
  | _ => False
abbrev WM := D → List D → Mt → (D → Mt → Prop) → Prop
def wBM (T : String) (m : WM) (wo : WE) (was : WA) : WE := fun env M R => wo env M fun x M1 => Need (tyM T (viewD M1 x)) ∧ was env M1 fun ds M2 => m x ds M2 R
def MethD (K : PySem.W.Frag) (B : Bs) (r : V → List V → Hp → VK → Prop) (m : WM) : Prop := ∀ P al M env σ H x dx vs ds R Q, RS K B P al M env σ H → Rep K P al dx x → Reps K P al ds vs → m dx ds M R → Lift K B P al env σ H R Q → r x vs H Q
theorem tyM_ok {P : Hp} {al : List Addr} {M : Mt} {H : Hp} {d : D} {v : V} {T : String} (rs : RS0 K B P al M H) (r : Rep K P al d v) (e : tyM T (viewD M d)) : tyV K T v H := by
  unfold tyM at e
  split at e
  · rename_i h; cases view_str r h; exact e
  · rename_i h; obtain ⟨a, xs, rfl, h1, _⟩ := view_lst rs r h; exact .inl ⟨e, xs, .inl (.inl h1)⟩
  · rename_i h; obtain ⟨a, xs, rfl, h1, _⟩ := view_rol rs r h; exact .inl ⟨e, xs, h1⟩
  · rename_i h; obtain ⟨a, xs, rfl, h1, _⟩ := view_dct rs r h; exact .inr (.inr (.inl ⟨e, .inl ⟨xs, h1⟩⟩))
  · exact e.elim
theorem bm_imp {r : V → List V → Hp → VK → Prop} {m : WM} {T : String} (h : MethD K B r m) (σ : L2.St) (H : Hp) (Q : VK) : tD K B (wBM T m wo was) σ H Q → tBM K T r (tD K B wo) (tDA K B was) σ H Q := by
  rintro ⟨P, al, M, env, R, rs, hw, L⟩
  exact ⟨P, al, M, env, _, rs, hw, fun d1 M1 v1 H1 P1 al1 e1 rs1 r1 hw1 => ⟨tyM_ok rs1.toRS0 r1 hw1.1.out, P1, al1, M1, env, _, rs1, hw1.2, fun ds M2 vs H2 P2 al2 e2 rs2 r2 q =>
    h _ _ _ _ _ _ _ _ _ _ _ _ rs2 (r1.mono e2.pp e2.pre) r2 q (L.after (e1.trans e2))⟩⟩
theorem d_bm {T id : String} {name : Str} {apos cpos : Pos} {r : V → List V → Hp → VK → Prop} {m : WM} (pa : PlainAttrs T) (slot : Slot T name id) (hty : typeOf (.builtin id) = pure (.type "method_descriptor")) (hm : MtR X id r) (h : MethD X.K B r m) (ho : DE B X o wo) (ha : DA B X (e :: es) was)
    (hbase : attributeBase o name X.env (eval o X.env) = eval o X.env := by rfl)
    (hfew : ((backTo cpos (starEach (e :: es) X.env)).all (fun x => !x.1) && (backToKw cpos (keywordEach [] X.env)).all (fun x => x.1.isSome)
      && decide ((e :: es).length + ([] : List Keyword).length + (if ([] : List Keyword).isEmpty then 0 else 1) < 30)) = true := by rfl)
    (hline : (apos.endLine == cpos.line) = true := by rfl) (hs : starEach (e :: es) X.env = (false, eval e X.env) :: starEach es X.env := by rfl) (hplain : (backTo cpos (starEach es X.env)).any (·.1) = false := by rfl) :
    DE B X (.Call (.Attribute o name apos) (e :: es) [] cpos) (wBM T m wo was) := (pe_bm pa slot hty hm ho ha hbase hfew hline hs hplain).imp (bm_imp h)
@[irreducible] def mAppend : WM := fun x ds M R => match x, ds with
  | .cel n, [d] => match M[n]? with
    | some (.lst l) => Need (l.length < sizeLine) ∧ R .non (M.set n (.lst (l ++ [d])))
    | _ => False
  | _, _ => False
theorem mAppend_ok : MethD K B rAppend mAppend := by
  intro P al M env σ H x dx vs ds R Q rs r1 r2 h L
  unfold mAppend at h
  split at h
  · rename_i n d
    cases r2 with
    | cons q1 t =>
      cases t
      split at h
      · rename_i l hm
        obtain ⟨a, rfl, ha, _, xs, g1, g2⟩ := cell_at rs.toRS0 hm r1
        obtain ⟨e4, r4⟩ := rs.toRS0.change (o' := .lst (xs ++ [_])) (m' := .lst (l ++ [d])) ha hm rfl fun H' hH => ⟨(live_cell rfl (rs.cell n a _ ha hm)).1, _, hH, g2.append (.cons q1 .nil)⟩
        exact ⟨a, xs, _, rfl, rfl, g1, by rw [← g2.length]; exact h.1.out, L _ _ _ _ _ _ e4 (rs.step e4 r4) .non h.2⟩
      · exact h.elim
  · exact h.elim
/-! ### names of the module -/
theorem d_gint {x : Str} {n : Int} {t : Tok} (hm : X.mg x = some (.int n t)) (hg : Gl X x := by rfl) (hd : (x == ("__debug__" : Str)) = false := by decide) : DE B X (.Name x pos) (wC (.int n)) := d_C (v := .int n) (pe_glob hg hm ⟨_, rfl⟩ hd) fun _ _ => .int n
theorem d_gstr {x : Str} {s : Str} {t : Tok} (hm : X.mg x = some (.str s t)) (hg : Gl X x := by rfl) (hd : (x == ("__debug__" : Str)) = false := by decide) : DE B X (.Name x pos) (wC (.str s)) := d_C (v := .str s) (pe_glob hg hm ⟨_, rfl⟩ hd) fun _ _ => .str s
theorem d_ty {x : Str} {T : String} (hm : X.mg x = none) (hv : bootBuiltins x = some (.type T)) (hg : Gl X x := by rfl) (hn : x ≠ "__name__" := by decide) (hd : (x == ("__debug__" : Str)) = false := by decide) : DE B X (.Name x pos) (wC (.ty T)) := d_C (v := .ty T) (pe_bltn hg hm hv rfl hn hd) fun _ _ => .ty T
/-- a tuple of texts and numbers that the top made -/
def constD : Value → Option D
  | .none => some .non
  | .bool b => some (.bl b)
  | .int i _ => some (.int i)
  | .str s _ => some (.str s)
  | _ => none
def constDs : List Value → Option (List D)
  | [] => some []
  | v :: r => match constD v, constDs r with
    | some d, some ds => some (d :: ds)
    | _, _ => none
theorem const_rep : ∀ {us : List Value} {ds : List D}, constDs us = some ds → ∃ vs, Vals vs us ∧ ∀ P al, Reps K P al ds vs
  | [], ds, e => by cases e; exact ⟨[], .nil, fun _ _ => .nil⟩
  | v :: r, ds, e => by
    unfold constDs at e
    split at e
    · rename_i d ds' h1 h2
      cases e
      obtain ⟨vs, h3, h4⟩ := const_rep h2
      cases v <;> simp [constD] at h1 <;> subst h1
      · exact ⟨.non :: vs, .cons rfl h3, fun P al => .cons .non (h4 P al)⟩
      · exact ⟨.bl _ :: vs, .cons rfl h3, fun P al => .cons (.bl _) (h4 P al)⟩
      · exact ⟨.int _ :: vs, .cons ⟨_, rfl⟩ h3, fun P al => .cons (.int _) (h4 P al)⟩
      · exact ⟨.str _ :: vs, .cons ⟨_, rfl⟩ h3, fun P al => .cons (.str _) (h4 P al)⟩
    · cases e
theorem d_gtup {x : Str} {a : Addr} {o : Obj} {its : Array Value} {n : Nat} {ds : List D} (hm : X.mg x = some (.ref a)) (hk : X.K.lookup a = some o) (hc : o.cls = .type "tuple") (hd : o.data = .seq its n) (hz : its.size ≤ sizeLine) (he : constDs its.toList = some ds)
    (hg : Gl X x := by rfl) (hdb : (x == ("__debug__" : Str)) = false := by decide) : DE B X (.Name x pos) (wC (.tup ds)) := by
  obtain ⟨vs, h1, h2⟩ := const_rep (K := X.K) he
  exact d_C (v := .ref a) (pe_glob hg hm rfl hdb) fun P al => .tup (.inr ⟨o, its, n, hk, hc, hd, hz, h1⟩) (h2 P al)
end
end L3

namespace L3
open PySem PySem.Spec PyProof.Rows L2
/-! ### plain facts for the ends of a step -/
theorem cdivw {i j : Int} (h : 0 < j) (h2 : j < 1073741824) : CDivW i j :=
  wide_div (b := 30) h (by omega) (by decide) (by decide)
theorem cpow {i j : Int} (h : 0 ≤ j) (h2 : j ≤ 1000000) (h3 : -18446744073709551616 < i) (h4 : i < 18446744073709551616) : CPow i j := ⟨h, h2, by omega⟩
theorem cmul_l {i j : Int} (h3 : -18446744073709551616 < i) (h4 : i < 18446744073709551616) : CMulU i j := .inl (.inl ⟨by omega, by omega⟩)
theorem cmul_r {i j : Int} (h3 : -18446744073709551616 < j) (h4 : j < 18446744073709551616) : CMulU i j := .inl (.inr ⟨by omega, by omega⟩)
theorem toPs_map {α : Type} {f : α → D} {g : α → PyData} (h : ∀ x, toP (f x) = some (g x)) : ∀ l : List α, toPs (l.map f) = some (l.map g)
  | [] => rfl
  | x :: r => by simp only [List.map_cons, toPs, h, toPs_map h r]
theorem canLay_map {α : Type} {g : α → PyData} : ∀ {l : List α}, (∀ x ∈ l, PyData.canLay0 (g x) = true) → PyData.canLayAll0 (l.map g) = true
  | [], _ => rfl
  | x :: r, h => by
    rw [List.map_cons]
    simp only [PyData.canLayAll0, h x List.mem_cons_self, canLay_map fun y hy => h y (List.mem_cons_of_mem _ hy), Bool.and_self]
theorem depth_map {α : Type} {g : α → PyData} {n : Nat} : ∀ {l : List α}, (∀ x ∈ l, PyData.depth (g x) ≤ n) → PyData.depthAll (l.map g) ≤ n
  | [], _ => Nat.zero_le _
  | x :: r, h => by
    rw [List.map_cons]
    simp only [PyData.depthAll]
    exact Nat.max_le.mpr ⟨h x List.mem_cons_self, depth_map fun y hy => h y (List.mem_cons_of_mem _ hy)⟩
theorem shaped_map {α : Type} {g : α → PyData} {l : List α} (h : ∀ x ∈ l, PyData.canLay0 (g x) = true) (h2 : ∀ x ∈ l, PyData.depth (g x) ≤ 63) : SeqAt.shaped (.list (l.map g)) = true := by
  unfold SeqAt.shaped
  simp only [PyData.canLay0, canLay_map h, PyData.depth, Bool.true_and]
  have := depth_map h2
  exact decide_eq_true (by omega)
theorem plain_ints (l : List Int) : plainOk (l.map D.int) := ⟨_, toPs_map (g := .int) (fun _ => rfl) l, shaped_map (fun _ _ => rfl) fun _ _ => Nat.zero_le _⟩
theorem plain_strs (l : List Str) (h : ∀ s ∈ l, PyData.strOk s = true) : plainOk (l.map D.str) := ⟨_, toPs_map (g := .str) (fun _ => rfl) l, shaped_map (fun s hs => by simp only [PyData.canLay0]; exact h s hs) fun _ _ => Nat.zero_le _⟩
theorem line16 : (sizeLine : Nat) = 16777216 := sizeLine_eq
theorem atI_in {α : Type} {xs : List α} {i : Int} (h : 0 ≤ i) (h2 : i < xs.length) : L2.atI xs i = xs[i.toNat]? := by
  have e : ixN xs.length i = some i.toNat := by unfold ixN; rw [if_pos h, if_pos h2]
  unfold L2.atI; rw [e]; rfl
/-! ### loops and comprehensions by what they do -/
theorem bnd_mono {is : List Nat} {d : D} {env : Ev} {k k' : Ev → Prop} (h : ∀ e, k e → k' e) (q : bnd is d env k) : bnd is d env k' := by
  rcases is with _ | ⟨i, _ | ⟨j, _ | ⟨l, r⟩⟩⟩
  · exact False.elim q
  · exact h _ q
  · cases d with
    | tup l =>
      rcases l with _ | ⟨x, _ | ⟨y, _ | ⟨z, r⟩⟩⟩
      · exact False.elim q
      · exact False.elim q
      · exact h _ q
      · exact False.elim q
    | _ => exact False.elim q
  · exact False.elim q
/-- a comprehension whose element and test are functions of the item -/
theorem lcL_fun {is vs : List Nat} {t : WTs} {we : WE} {env : Ev} {M : Mt} (p : D → Bool) (f : D → D) : ∀ (ds acc : List D) (R : List D → Mt → Prop), acc.length + ds.length ≤ sizeLine →
    (∀ d ∈ ds, ∀ (A : D → Mt → Prop) (C : Mt → Prop), (p d = true → A (f d) M) → (p d = false → C M) → bnd is d (wipeE env vs) fun env1 => t env1 M fun b M2 => ifB b (we env1 M2 A) (C M2)) →
    R (acc ++ (ds.filter p).map f) M → lcL is t we vs env ds acc M R
  | [], acc, R, _, _, h => by
    show R acc M
    simpa using h
  | d :: r, acc, R, hl, hs, h => by
    refine hs d List.mem_cons_self _ _ (fun hp => ⟨⟨by simp at hl; omega⟩, ?_⟩) fun hp => ?_
    · refine lcL_fun p f r (acc ++ [f d]) R (by simp at hl ⊢; omega) (fun x hx => hs x (List.mem_cons_of_mem _ hx)) ?_
      rw [List.filter_cons_of_pos hp, List.map_cons] at h
      simpa using h
    · refine lcL_fun p f r acc R (by simp at hl ⊢; omega) (fun x hx => hs x (List.mem_cons_of_mem _ hx)) ?_
      rw [List.filter_cons_of_neg (by simp [hp])] at h
      exact h
/-- without a test -/
theorem lcL_map {is vs : List Nat} {we : WE} {env : Ev} {M : Mt} (f : D → D) (ds : List D) (R : List D → Mt → Prop) (hl : ds.length ≤ sizeLine)
    (hs : ∀ d ∈ ds, ∀ (A : D → Mt → Prop), A (f d) M → bnd is d (wipeE env vs) fun env1 => we env1 M A) (h : R (ds.map f) M) : lcL is wYes we vs env ds [] M R := by
  refine lcL_fun (fun _ => true) f ds [] R (by simpa using hl) (fun d hd A C hA _ => ?_) (by rw [List.filter_eq_self.mpr fun _ _ => rfl]; exact h)
  exact bnd_mono (fun e q => ⟨fun _ => q, fun z => by cases z⟩) (hs d hd A (hA rfl))
theorem boolsD_map {α : Type} {f : α → D} {g : α → Bool} (h : ∀ x, f x = .bl (g x)) : ∀ l : List α, boolsD (l.map f) = some (l.map g)
  | [] => rfl
  | x :: r => by simp only [List.map_cons, h, boolsD, boolsD_map h r, Option.map_some]
theorem mem_chars {s : Str} {d : D} (h : d ∈ chars s) : ∃ c, c ∈ s.cps.toList ∧ d = .str ⟨#[c]⟩ := by
  obtain ⟨c, h1, h2⟩ := List.mem_map.mp h
  exact ⟨c, h1, h2.symm⟩
theorem chars_map (s : Str) (f : D → D) : (chars s).map f = s.cps.toList.map fun c => f (.str ⟨#[c]⟩) := by
  unfold chars; rw [List.map_map]; rfl
theorem chars_len (s : Str) : (chars s).length = s.length := by
  unfold chars; rw [List.length_map, Array.length_toList]; rfl
/-- a for loop by an invariant over the turn -/
theorem forL_inv {g : WG} {b : WS} {k : DEnds} (I : Nat → Ev → Mt → Prop) {ds : List D} {env : Ev} {M : Mt} (h0 : I 0 env M)
    (hs : ∀ (i : Nat) (d : D) (env : Ev) (M : Mt), ds[i]? = some d → I i env M → g d env M fun env1 M1 => b { nx := I (i + 1), ct := I (i + 1), bk := k.nx, rt := k.rt } env1 M1)
    (hd : ∀ env M, I ds.length env M → k.nx env M) : forL g b k ds env M := by
  have key : ∀ (n i : Nat), i + n = ds.length → ∀ env M, I i env M → forL g b k (ds.drop i) env M := by
    intro n
    induction n with
    | zero =>
      intro i hi env M h
      rw [List.drop_eq_nil_of_le (by omega)]
      have : i = ds.length := by omega
      subst this
      exact hd _ _ h
    | succ n ih =>
      intro i hi env M h
      have hlt : i < ds.length := by omega
      rw [List.drop_eq_getElem_cons hlt]
      exact ⟨I (i + 1), fun env' M' h' => ih (i + 1) (by omega) env' M' h', hs i _ env M (List.getElem?_eq_getElem hlt) h⟩
  have := key ds.length 0 (by omega) env M h0
  simpa using this
end L3

namespace L3
open PySem PySem.Spec PyProof.Rows L2
/-! ### fields -/
section
variable {K : PySem.W.Frag} {B B' : Bs} {P P' : Hp} {al al' : List Addr} {M M' : Mt} {env : Ev} {σ : L2.St} {H H' : Hp} {a p : Addr} {d : D} {v : V} {f : Str}
theorem RepFs.length : ∀ {fs : List (Str × D)} {gs : List (Str × V)}, RepFs K P al fs gs → fs.length = gs.length
  | _, _, .nil => rfl
  | _, _, .cons _ t => by simp [RepFs.length t]
theorem RepFs.find : ∀ {fs : List (Str × D)} {gs : List (Str × V)}, RepFs K P al fs gs → fs.lookup f = some d → ∃ v, gs.lookup f = some v ∧ Rep K P al d v
  | _, _, .nil, e => by cases e
  | _, _, .cons (k := k) r t, e => by
    by_cases h : (f == k) = true
    · rw [List.lookup, h] at e; cases e
      exact ⟨_, by rw [List.lookup, h], r⟩
    · have h : (f == k) = false := by simpa using h
      rw [List.lookup, h] at e
      obtain ⟨v, h1, h2⟩ := RepFs.find t e
      exact ⟨v, by rw [List.lookup, h]; exact h1, h2⟩
def putFD (f : Str) (d : D) : List (Str × D) → List (Str × D)
  | [] => [(f, d)]
  | (g, x) :: r => if g = f then (g, d) :: r else (g, x) :: putFD f d r
theorem RepFs.put (q : Rep K P al d v) : ∀ {fs : List (Str × D)} {gs : List (Str × V)}, RepFs K P al fs gs → RepFs K P al (putFD f d fs) (putF f v gs)
  | _, _, .nil => .cons q .nil
  | _, _, .cons (k := k) r t => by
    unfold putFD putF
    by_cases h : k = f
    · rw [if_pos h, if_pos h]; exact .cons q t
    · rw [if_neg h, if_neg h]; exact .cons r (RepFs.put q t)
end
section
variable {X : Cx} {B : Bs} {e o value : Expr} {w wo wv : WE} {pos pos' : Pos} {n f : Str} {C : Addr}
/-- e.f, a field of an instance of the class n -/
def wFld (n f : Str) (w : WE) : WE := fun env M R => w env M fun d M1 => match viewD M1 d with
  | .obj n' fs => Need (n' = n) ∧ match fs.lookup f with
    | some v => R v M1
    | none => False
  | _ => False
theorem d_fld (ca : ClsAt X.K n C) (cl : Cls X.K C) (na : NoAttr X.K C f) (he : DE B X e w) (hb : attributeBase e f X.env (eval e X.env) = eval e X.env := by rfl) : DE B X (.Attribute e f pos) (wFld n f w) := by
  refine (pe_fld he hb).imp fun σ H Q => ?_
  rintro ⟨P, al, M, env, R, rs, hw, L⟩
  refine ⟨P, al, M, env, _, rs, hw, fun d M1 v H1 P1 al1 e1 rs1 r1 q => ?_⟩
  split at q
  · rename_i n' fs ev
    obtain ⟨hn, q⟩ := q
    have hn := hn.out
    subst hn
    split at q
    · rename_i v' el
      obtain ⟨a, C', dx, xs, rfl, ha, hc, hf⟩ := view_obj rs1.toRS0 r1 ev
      obtain rfl := ca.one hc
      obtain ⟨y, h1, h2⟩ := hf.find el
      exact ⟨a, C, dx, xs, y, rfl, ha, cl, na, h1, (L.after e1).here rs1 h2 q⟩
    · exact q.elim
  · exact q.elim
/-- o.f = value, o an object that changes -/
@[irreducible] def dsetF (n f : Str) (d o : D) (M2 : Mt) (R : Mt → Prop) : Prop := match o with
  | .cel i => match M2[i]? with
    | some (.obj n' fs) => Need (n' = n ∧ fs.length < 1000) ∧ R (M2.set i (.obj n' (putFD f d fs)))
    | _ => False
  | _ => False
def wSetF (n f : Str) (wo wv : WE) : WS := fun k env M => wv env M fun d M1 => wo env M1 fun o M2 => dsetF n f d o M2 (k.nx env)
theorem d_setF (ca : ClsAt X.K n C) (cl : Cls X.K C) (na : NoAttr X.K C f) (ho : DE B X o wo) (hv : DE B X value wv) (hs : swapsWith value (some (.Attribute o f pos')) pos.line X.env = pure false := by rfl) :
    DS B X (.Assign [.Attribute o f pos'] value pos) (wSetF n f wo wv) := by
  refine (ps_fld ho hv hs).imp fun D σ H => ?_
  rintro ⟨P, al, M, env, k, rs, hw, L⟩
  refine ⟨P, al, M, env, _, rs, hw, fun d M1 v H1 P1 al1 e1 rs1 r1 hw1 => ⟨P1, al1, M1, env, _, rs1, hw1, fun d2 M2 v2 H2 P2 al2 e2 rs2 r2 q => ?_⟩⟩
  unfold dsetF at q
  split at q
  · rename_i i
    split at q
    · rename_i n' fs hm
      obtain ⟨hn, q⟩ := q
      obtain ⟨hn, hl⟩ := hn.out
      subst hn
      obtain ⟨a, rfl, ha, np, C', dx, gs, h1, hc, h2⟩ := cell_at rs2.toRS0 hm r2
      obtain rfl := ca.one hc
      obtain ⟨e3, r3⟩ := rs2.toRS0.change (o' := .ins C dx (putF f v gs)) (m' := .obj n' (putFD f d fs)) ha hm rfl fun H' hH => ⟨np, C, dx, _, hH, hc, h2.put (r1.mono e2.pp e2.pre)⟩
      exact ⟨a, C, dx, gs, rfl, h1, cl, na, by rw [← h2.length]; exact hl, L.nx _ _ _ _ _ _ ((e1.trans e2).trans e3) (rs2.step e3 r3) q⟩
    · exact q.elim
  · exact q.elim
end
/-! ### what may be raised -/
abbrev RXe := Str → List (Str × D) → Ev → Mt → Prop
/-- the wish of an exception, over data -/
def WL (K : PySem.W.Frag) (B : Bs) (RX : RXe) : WX := fun cls d σ H => ∃ C n fs env P al M, cls = .ref C ∧ ClsAt K n C ∧ RS K B P al M env σ H ∧ XdOk K P al H fs d ∧ RX n fs env M
/-- calls of defs: with what may be raised -/
def wCallX (sp : DSp) (dds : List D) (RX : RXe) (was : WA) : WE := fun env M R => was env M fun ds M1 => sp (ds ++ dds) M1 R fun n fs M' => RX n fs env M'
section
variable {X : Cx} {B : Bs} {k : Nat} {f : Addr} {fd : FuncData} {ps : List Str} {sp : DSp} {dvs : List V} {dds : List D} {ds : List Value} {x : Str} {p pos apos : Pos} {e o : Expr} {es : List Expr} {was : WA} {wo : WE} {RX : RXe}
/-- a callee's promise, asked at a state -/
theorem sp_at {K : PySem.W.Frag} {P : Hp} {al : List Addr} {M : Mt} {env : Ev} {σ : L2.St} {H : Hp} {R : D → Mt → Prop} {Q : VK} {ds : List D} {vs : List V} (rs : RS K B P al M env σ H) (r : Reps K P al ds vs) (L : Lift K B P al env σ H R Q)
    (h : sp ds M R fun n fs M' => RX n fs env M') : toSp K sp vs H Q (L2.WE (WL K B RX) σ) :=
  ⟨P, al, M, ds, R, _, rs.toRS0.here, r, h, fun d M' v H' P' al' e r0 r q => L _ _ _ _ _ _ e (rs.step e (r0.rebase (rs.base.trans e))) r q,
    fun C n fs M' H' P' al' dd e r0 c xd q => ⟨C, n, fs, env, P', al', M', rfl, c, rs.step e (r0.rebase (rs.base.trans e)), xd, q⟩⟩
theorem d_callX (F : FnOk X.prog X.w X.K X.mg X.base (L2.CX X.prog X.w) k f fd ps (toSp X.K sp)) (hr : Room k X.A) (tk : Takes X (WL X.K B RX)) (hg : Gl X x) (hm : X.mg x = some (.ref f)) (hk : PySem.W.keepIn X.K (.ref f) = true) (hb : Binds X.K fd ps ds) (hd : Vals dvs ds) (hdd : ∀ P al, Reps X.K P al dds dvs) (ha : DA B X (e :: es) was)
    (hdb : (x == ("__debug__" : Str)) = false := by decide) (he : starEach (e :: es) X.env = (false, eval e X.env) :: starEach es X.env := by rfl) (hpl : (backTo pos (starEach es X.env)).any (·.1) = false := by rfl) : DE B X (.Call (.Name x p) (e :: es) [] pos) (wCallX sp dds RX was) := by
  refine (pe_callSD F hr hg hm hk hb hd (passAt tk) ha hdb he hpl).imp fun σ H Q => ?_
  rintro ⟨P, al, M, env, R, rs, hw, L⟩
  exact ⟨P, al, M, env, _, rs, hw, fun ds M1 vs H1 P1 al1 e1 rs1 r1 q => sp_at rs1 (r1.append (hdd _ _)) (L.after e1) q⟩
end
/-! ### no reference beyond the table -/
section
variable {K : PySem.W.Frag} {P : Hp} {al : List Addr}
mutual
theorem Rep.inside : ∀ {d : D} {v : V}, Rep K P al d v → noCel al.length d = true
  | _, _, .non => rfl
  | _, _, .bl _ => rfl
  | _, _, .int _ => rfl
  | _, _, .str _ => rfl
  | _, _, .ty _ => rfl
  | _, _, .adr _ => rfl
  | _, _, .cls _ => rfl
  | _, _, .tup _ r => by unfold noCel; exact Reps.inside r
  | _, _, .ptp _ r => by unfold noCel; exact Reps.inside r
  | _, _, .lst _ r => by unfold noCel; exact Reps.inside r
  | _, _, .rol _ r => by unfold noCel; exact Reps.inside r
  | _, _, .dct _ r => by unfold noCel; exact RepKs.inside r
  | _, _, .fdc _ r => by unfold noCel; exact RepKs.inside r
  | _, _, .obj _ _ r => by unfold noCel; exact RepFs.inside r
  | _, _, .cel e => by unfold noCel; exact decide_eq_true (List.getElem?_eq_some_iff.mp e).1
theorem Reps.inside : ∀ {ds : List D} {vs : List V}, Reps K P al ds vs → noCels al.length ds = true
  | _, _, .nil => rfl
  | _, _, .cons r t => by unfold noCels; rw [Rep.inside r, Reps.inside t] <;> rfl
theorem RepKs.inside : ∀ {ds : List (Key × D)} {vs : List (Key × V)}, RepKs K P al ds vs → noCelK al.length ds = true
  | _, _, .nil => rfl
  | _, _, .cons r t => by unfold noCelK; rw [Rep.inside r, RepKs.inside t] <;> rfl
theorem RepFs.inside : ∀ {ds : List (Str × D)} {vs : List (Str × V)}, RepFs K P al ds vs → noCelF al.length ds = true
  | _, _, .nil => rfl
  | _, _, .cons r t => by unfold noCelF; rw [Rep.inside r, RepFs.inside t] <;> rfl
end
theorem RS0.inside {B : Bs} {M : Mt} {H : Hp} (r : RS0 K B P al M H) : M.all (cellOk M.length) = true := by
  refine List.all_eq_true.mpr fun m hm => ?_
  obtain ⟨i, hi, e⟩ := List.mem_iff_getElem.mp hm
  have e' : M[i]? = some m := by rw [List.getElem?_eq_getElem hi, e]
  have ha : ∃ a, al[i]? = some a := ⟨_, List.getElem?_eq_getElem (by rw [r.len]; exact hi)⟩
  obtain ⟨a, ha⟩ := ha
  have c := r.cell i a m ha e'
  rw [← r.len]
  cases m <;> first | rfl | skip
  · rename_i l
    have c : ExCell K P al l a := c
    show exOk al.length l = true
    unfold ExCell at c
    unfold exOk
    split
    · obtain ⟨_, _, _, _, _, _, _, h5⟩ := c
      rcases h5 with ⟨_, rfl⟩ | ⟨_, _, _, _, g3⟩
      · rfl
      · exact g3.inside
    · rfl
  · obtain ⟨_, _, _, h⟩ := c; exact h.inside
  · obtain ⟨_, _, _, h⟩ := c; exact h.inside
  · obtain ⟨_, _, _, _, _, _, h⟩ := c; exact h.inside
end
/-! ### making, methods -/
/-- how a callee's exceptions pass -/
def Rz (X : Cx) (B : Bs) (CX : CXT) (RX : RXe) : Prop := ∀ σ, PassesAt CX X σ (L2.WE (WL X.K B RX) σ)
abbrev RXn : RXe := fun _ _ _ _ => False
theorem rz0 {X : Cx} {B : Bs} {RX : RXe} : Rz X B CX0 RX := fun _ _ _ _ _ _ _ h => h.elim
theorem rzX {X : Cx} {B : Bs} {RX : RXe} (tk : Takes X (WL X.K B RX)) : Rz X B (L2.CX X.prog X.w) RX := passAt tk
section
variable {X : Cx} {CX : CXT} {k : Nat} {f C : Addr} {E : XK} {x m : Str} {p pos apos : Pos} {e o : Expr} {es : List Expr}
theorem run_at {sp : Sp} {pins : List (Addr × Obj)} {σ : L2.St} {H : Hp} {s : Shared} {Q : VK} {us : List Value} {vs : List V} (F : FnR X.prog X.w X.K X.mg X.base CX k f sp) (hr : Room k X.A) (hx : PassesAt CX X σ E) (I : Inv X pins σ H s) (r : Vals vs us) (h : sp vs H Q E) :
    codeAny (model X.prog X.w) X.A (.call (.ref f) ⟨us, []⟩) (fun r s' => match r with
      | .ok (.ret v) => EP X pins σ Q v s'
      | .ok _ => False
      | .error e => X.xe e s') s := by
  refine codeAny_mono (F X.A X.stack s H us vs Q E hr I.env0 r h) fun r s' hq => ?_
  match r, hq with
  | .error e, hq => exact hx pins H s e s' I hq
  | .ok (.ret u), hq => exact I.after hq
  | .ok .next, hq => exact hq.elim
  | .ok .brk, hq => exact hq.elim
  | .ok .cont, hq => exact hq.elim
theorem make_at {sp : Sp} {pins : List (Addr × Obj)} {σ : L2.St} {H : Hp} {s : Shared} {Q : VK} {us : List Value} {vs : List V} (M : Mk X.K C f) (F : FnR X.prog X.w X.K X.mg X.base CX k f sp) (hr : Room (k + 1) X.A) (hx : PassesAt CX X σ E) (I : Inv X pins σ H s) (r : Vals vs us)
    (h : ∀ x dx, H x = none → H dx = none → dx ≠ x → sp (V.ref x :: vs) (upd (upd H dx (.own x)) x (.ins C dx [])) (fun v H2 => v = .non ∧ Q (.ref x) H2) E) :
    wpAny (model X.prog X.w) X.A (call (.ref C) us) (EP X pins σ Q) X.xe s := by
  have hq := h (s.heap.objs.size + 1) s.heap.objs.size (I.hok.fresh (Nat.le_succ _))
    (I.hok.fresh (Nat.le_refl _)) (Nat.ne_of_lt (Nat.lt_succ_self _))
  have J := Inv.made (C := C) I
  have r2 : Vals (V.ref (s.heap.objs.size + 1) :: vs)
      (Value.ref (s.heap.objs.size + 1) :: us) := .cons rfl r
  refine wpAny_call (make_map (f := f) I.kIn M.makes M.init (beq_iff_eq.mp M.fn) (codeAny_mono (F _ X.stack _ _ _ _ _ E (hr.make C us []) (J.env0.make C us []) r2 hq) fun r s' hq' => ?_))
  match r, hq' with
  | .error e, hq' => exact hx pins _ _ e s' J hq'
  | .ok (.ret u), hq' =>
    obtain ⟨v, H', I3, rv, ev, q3⟩ := J.after hq'
    subst ev
    exact ⟨rv, V.ref (s.heap.objs.size + 1), H', I3, rfl, q3⟩
  | .ok .next, hq' => exact hq'.elim
  | .ok .brk, hq' => exact hq'.elim
  | .ok .cont, hq' => exact hq'.elim
def tMkA (C : Addr) (sp : Sp) (E : L2.St → XK) (t : TA) : TE := fun σ H Q => t σ H fun vs H1 => ∀ x dx, H1 x = none → H1 dx = none → dx ≠ x →
  sp (V.ref x :: vs) (upd (upd H1 dx (.own x)) x (.ins C dx [])) (fun v H2 => v = .non ∧ Q (.ref x) H2) (E σ)
theorem pe_mkA {sp : Sp} {E : L2.St → XK} {t : TA} (M : Mk X.K C f) (F : FnR X.prog X.w X.K X.mg X.base CX k f sp) (hr : Room (k + 1) X.A) (hx : ∀ σ, PassesAt CX X σ (E σ)) (hg : Gl X x) (hm : X.mg x = some (.ref C)) (ha : PA X (e :: es) t) (hdb : (x == ("__debug__" : Str)) = false := by decide)
    (he : starEach (e :: es) X.env = (false, eval e X.env) :: starEach es X.env := by rfl) (hpl : (backTo pos (starEach es X.env)).any (·.1) = false := by rfl) : PE X (.Call (.Name x p) (e :: es) [] pos) (tMkA C sp E t) :=
  ⟨fun pins s σ H Q I h => wpAny_Call_Name_kw (ld_glob I hg hm (PySem.W.callWith_K (h₀ := X.base) I.ok.mod.kin M.kp (thn (ha.run pos pins s σ H _ I h) fun us s1 ⟨vs, H1, I1, r, q⟩ => ⟨I1.kIn, make_at M F hr (hx σ) I1 r q⟩) he hpl) hdb)⟩
end
section
variable {X : Cx} {B : Bs} {CX : CXT} {k : Nat} {f C : Addr} {sp : DSp} {n x m : Str} {p pos apos : Pos} {e o : Expr} {es : List Expr} {was : WA} {wo : WE} {RX : RXe}
/-- C(..): the new object, when its table entry alone is new, is published -/
@[irreducible] def mkEnd (M1 : Mt) (R : D → Mt → Prop) (M2 : Mt) : Prop := ∃ n fs, M2 = M1 ++ [.obj n fs] ∧ Need (noCelF M1.length fs = true) ∧ R (.obj n fs) M1
def wMk (n : Str) (sp : DSp) (RX : RXe) (was : WA) : WE := fun env M R => was env M fun ds M1 =>
  sp (.cel M1.length :: ds) (M1 ++ [.obj n []]) (fun d M2 => d = .non ∧ mkEnd M1 R M2) fun n fs M' => RX n fs env M'
theorem new_obj {K : PySem.W.Frag} {B : Bs} {P : Hp} {al : List Addr} {M : Mt} {H : Hp} {x dx : Addr} (rs : RS0 K B P al M H) (ca : ClsAt K n C) (hx : H x = none) (hd : H dx = none) (ne : dx ≠ x) :
    Ext P al H P (al ++ [x]) (upd (upd H dx (.own x)) x (.ins C dx [])) ∧ RS0 K B P (al ++ [x]) (M ++ [.obj n []]) (upd (upd H dx (.own x)) x (.ins C dx [])) := by
  obtain ⟨b1, b2⟩ := rs.fresh hd
  have r1 := rs.priv (rs.free hd) b2 b1 (.own x)
  obtain ⟨e2, r2⟩ := r1.allocM (p := x) (o := .ins C dx []) (m := .obj n []) (by rw [upd_ne (Ne.symm ne)]; exact hx) fun P' al' _ _ hp H' hH => ⟨hp, C, dx, [], hH, ca, .nil⟩
  exact ⟨((Ext.refl (P := P) (al := al) (H := H)).priv hd (.own x)).trans e2, r2⟩
theorem mk_sp {K : PySem.W.Frag} {P : Hp} {al : List Addr} {M : Mt} {env : Ev} {σ : L2.St} {H : Hp} {R : D → Mt → Prop} {Q : VK} {ds : List D} {vs : List V} {x dx : Addr} (ca : ClsAt K n C) (rs : RS K B P al M env σ H) (r : Reps K P al ds vs) (L : Lift K B P al env σ H R Q)
    (hx : H x = none) (hd : H dx = none) (ne : dx ≠ x) {R' : D → Mt → Prop} (hR : ∀ d M', R' d M' → d = .non ∧ (R (.cel M.length) M' ∨ mkEnd M R M')) (h : sp (.cel M.length :: ds) (M ++ [.obj n []]) R' fun n fs M' => RX n fs env M') :
    toSp K sp (.ref x :: vs) (upd (upd H dx (.own x)) x (.ins C dx [])) (fun v H2 => v = .non ∧ Q (.ref x) H2) (L2.WE (WL K B RX) σ) := by
  obtain ⟨e1, r1⟩ := new_obj rs.toRS0 ca hx hd ne
  have lx : (al ++ [x])[M.length]? = some x := by rw [← rs.len, List.getElem?_append_right (Nat.le_refl _), Nat.sub_self]; rfl
  refine ⟨P, al ++ [x], _, _, _, _, r1.here, .cons (.cel lx) (r.mono e1.pp e1.pre), h, fun d M' v H' P' al' e r0 rd q => ?_, fun C' n' fs M' H' P' al' dd e r0 c xd q => ?_⟩
  · obtain ⟨ed, q'⟩ := hR _ _ q
    subst ed
    have er := e1.trans e
    have r0b := r0.rebase (rs.base.trans er)
    refine ⟨by cases rd; rfl, ?_⟩
    have lx' : al'[M.length]? = some x := pre_get e.pre lx
    simp only [mkEnd] at q'
    rcases q' with q' | ⟨n', fs, rfl, hn, q'⟩
    · exact L _ _ _ _ _ _ er (rs.step er r0b) (.cel lx') q'
    · have hm : (M ++ [D.obj n' fs])[M.length]? = some (.obj n' fs) := by rw [List.getElem?_append_right (Nat.le_refl _), Nat.sub_self]; rfl
      obtain ⟨P2, e2, r2, q2⟩ := r0b.freeze hm rfl (.cel lx')
      have e3 := er.trans e2
      have r3 : RS0 K (P, al, H) P2 al' ((M ++ [D.obj n' fs]).set M.length .non) H' := r2.rebase e3
      have tk : ((M ++ [D.obj n' fs]).set M.length .non).take al.length = M := by
        rw [rs.len, List.set_append_right _ _ (Nat.le_refl _), Nat.sub_self]; simp
      have ins := rs.toRS0.inside
      have r4 := r3.drop fun i m hi hm => by
        have hi' : i < M.length := by rw [← rs.len]; exact hi
        rw [List.set_append_right _ _ (Nat.le_refl _), List.getElem?_append_left hi'] at hm
        rw [rs.len]; exact List.all_eq_true.mp ins m (List.mem_of_getElem? hm)
      rw [tk] at r4
      have e4 : Ext P al H P2 al H' := r4.base
      have nc : noCel al.length (.obj n' fs) = true := by unfold noCel; rw [rs.len]; exact hn.out
      exact L _ _ _ _ _ _ e4 (rs.step e4 (r4.rebase (rs.base.trans e4))) (q2.cut e3.pre nc) q'
  · have er := e1.trans e
    exact ⟨C', n', fs, env, P', al', M', rfl, c, rs.step er (r0.rebase (rs.base.trans er)), xd, q⟩
theorem d_mk (ca : ClsAt X.K n C) (Mc : Mk X.K C f) (F : FnR X.prog X.w X.K X.mg X.base CX k f (toSp X.K sp)) (hr : Room (k + 1) X.A) (hx : Rz X B CX RX) (hg : Gl X x) (hm : X.mg x = some (.ref C)) (ha : DA B X (e :: es) was) (hdb : (x == ("__debug__" : Str)) = false := by decide)
    (he : starEach (e :: es) X.env = (false, eval e X.env) :: starEach es X.env := by rfl) (hpl : (backTo pos (starEach es X.env)).any (·.1) = false := by rfl) : DE B X (.Call (.Name x p) (e :: es) [] pos) (wMk n sp RX was) := by
  refine (pe_mkA Mc F hr hx hg hm ha hdb he hpl).imp fun σ H Q => ?_
  rintro ⟨P, al, M, env, R, rs, hw, L⟩
  exact ⟨P, al, M, env, _, rs, hw, fun ds M1 vs H1 P1 al1 e1 rs1 r1 q x dx hx hd ne => mk_sp ca rs1 r1 (L.after e1) hx hd ne (fun _ _ h => ⟨h.1, .inr h.2⟩) q⟩
end
end L3

namespace L3
open PySem PySem.Spec PyProof.Rows L2
/-! ### defs that may raise -/
section
variable {K : PySem.W.Frag} {B : Bs} {P P' : Hp} {al al' : List Addr} {M : Mt} {H H' : Hp} {fs : List (Str × D)} {dd : Option Addr}
theorem XdOk.cut (x : XdOk K P al' H fs dd) (h : al <+: al') (n : noCelF al.length fs = true) : XdOk K P al H fs dd := by
  rcases x with x | ⟨d, gs, h1, h2, h3, h4⟩
  · exact .inl x
  · exact .inr ⟨d, gs, h1, fun z => h2 (h.subset z), h3, h4.cutA h n⟩
theorem XdOk.go (x : XdOk K P al H fs dd) (e : Ext P al H P' al' H') : XdOk K P' al' H' fs dd := by
  rcases x with x | ⟨d, gs, h1, h2, h3, h4⟩
  · exact .inl x
  · refine .inr ⟨d, gs, h1, fun z => ?_, e.fr _ _ h3 h2, h4.mono e.pp e.pre⟩
    have := e.new d z h2
    rw [h3] at this; cases this
end
inductive rxF (n : Nat) (RX : RXt) (nm : Str) (fs : List (Str × D)) (M : Mt) : Prop where
  | keep : RX nm fs M → rxF n RX nm fs M
  | less : noCelF n fs = true → (M.take n).all (cellOk n) = true → RX nm fs (M.take n) → rxF n RX nm fs M
section
variable {P : Program} {w : World} {K : PySem.W.Frag} {mg : Str → Option Value} {base : Heap}
theorem dfnX {x qual : Str} {st : Stmt} {f : Addr} {fd : FuncData} {N ps : List Str} {k : Nat} {sp : DSp} (F : Fun K x qual st f fd) (S : FnScope N ps (defScope st)) (len : ∀ ds M R RX, sp ds M R RX → ds.length = ps.length)
    (body : ∀ (B : Bs) (cdv : Value) (A : Around) (outer : List Env) (s : Shared) (H : Hp) (E : XK), Room k (A.deeper (envOfC qual (defScope st) s.heap.objs.size f cdv)) →
      ∃ wb : RXe → WS, (∀ RX : RXe, Takes (cxOf (L2.CX P w) P w K mg base N qual (defScope st) f cdv A outer s H E) (WL K B RX) → DSs B (cxOf (L2.CX P w) P w K mg base N qual (defScope st) f cdv A outer s H E) (defBody st) (wb RX)) ∧
        ∀ ds M R RX, sp ds M R RX → M.all (cellOk M.length) = true → noCels M.length ds = true → wb (fun nm fs _ M' => rxF M.length RX nm fs M') (fnEnds M.length R) (startE N.length ds) M) :
    FnOk P w K mg base (L2.CX P w) (k + 1) f fd ps (toSp K sp) := by
  refine F.okX S (fun vs H Q E h => ?_) (fun cdv A outer s H vs Q E hr h => ?_)
  · obtain ⟨P, al, M, ds, R, RX, _, r, hs, _⟩ := h
    rw [← r.length]; exact len _ _ _ _ hs
  · obtain ⟨Pp, al, M, ds, R, RX, r0, r, hs, L, LX⟩ := h
    obtain ⟨wb, hb, hw⟩ := body (Pp, al, H) cdv A outer s H E hr
    have el := r0.len
    have fin : ∀ d M' v H' P' al', Ext Pp al H P' al' H' → RS0 K (Pp, al, H) P' al' M' H' → Rep K P' al' d v → retF M.length R d M' → Q v H' := fun d M' v H' P' al' e r' rd q => by
      cases q with
      | keep q => exact L d M' v H' P' al' e r' rd q
      | less q1 q2 q3 =>
        rw [← el] at q1 q2 q3
        refine L d _ v H' P' al ⟨e.pp, List.prefix_refl _, e.fr, fun b m n => absurd m n, e.pn⟩ (r'.drop fun i m hi hm => ?_) (rd.cut e.pre q1) q3
        exact List.all_eq_true.mp q2 m (List.mem_of_getElem? (by rw [List.getElem?_take_of_lt hi]; exact hm))
    have finX : ∀ C nm fs M' H' P' al' dd, Ext Pp al H P' al' H' → RS0 K (Pp, al, H) P' al' M' H' → ClsAt K nm C → XdOk K P' al' H' fs dd → rxF M.length RX nm fs M' → E (.ref C) dd H' := fun C nm fs M' H' P' al' dd e r' c xd q => by
      cases q with
      | keep q => exact LX C nm fs M' H' P' al' dd e r' c xd q
      | less q1 q2 q3 =>
        rw [← el] at q1 q2 q3
        refine LX C nm fs _ H' P' al dd ⟨e.pp, List.prefix_refl _, e.fr, fun b m n => absurd m n, e.pn⟩ (r'.drop fun i m hi hm => ?_) c (xd.cut e.pre q1) q3
        exact List.all_eq_true.mp q2 m (List.mem_of_getElem? (by rw [List.getElem?_take_of_lt hi]; exact hm))
    obtain ⟨s1, s2⟩ := start_slots (N := N) r
    refine ⟨_, hb _ ((takes_of rfl rfl rfl rfl).imp fun c d σ H' h => ?_), Pp, al, M, _, _, ⟨r0, s1, s2⟩, hw ds M R RX hs r0.inside (by rw [← el]; exact r.inside), ⟨fun env' M' σ' H' P' al' e rs q => fin _ _ _ _ _ _ e rs.toRS0 .non q, fun d M' v H' P' al' e rs rd q => fin _ _ _ _ _ _ e rs rd q, fun _ _ _ _ _ _ _ _ z => z.elim, fun _ _ _ _ _ _ _ _ z => z.elim⟩⟩
    obtain ⟨C, nm, fs, env, P', al', M', rfl, c, rs, xd, q⟩ := h
    exact finX C nm fs M' H' P' al' d rs.base rs.toRS0 c xd q
/-- as dfn; its table is known to be in order -/
theorem dfn2 {x qual : Str} {st : Stmt} {f : Addr} {fd : FuncData} {N ps : List Str} {k : Nat} {sp : DSp} (F : Fun K x qual st f fd) (S : FnScope N ps (defScope st)) (len : ∀ ds M R RX, sp ds M R RX → ds.length = ps.length)
    (body : ∀ (B : Bs) (cdv : Value) (A : Around) (outer : List Env) (s : Shared) (H : Hp) (E : XK), Room k (A.deeper (envOfC qual (defScope st) s.heap.objs.size f cdv)) →
      ∃ wb : WS, DSs B (cxOf CX0 P w K mg base N qual (defScope st) f cdv A outer s H E).nox (defBody st) wb ∧ ∀ ds M R RX, sp ds M R RX → M.all (cellOk M.length) = true → noCels M.length ds = true → wb (fnEnds M.length R) (startE N.length ds) M) :
    FnOk P w K mg base CX0 (k + 1) f fd ps (toSp K sp) := by
  refine F.ok S (fun vs H Q E h => ?_) (fun cdv A outer s H vs Q E hr h => ?_)
  · obtain ⟨P, al, M, ds, R, RX, _, r, hs, _⟩ := h
    rw [← r.length]; exact len _ _ _ _ hs
  · obtain ⟨Pp, al, M, ds, R, RX, r0, r, hs, L, _⟩ := h
    obtain ⟨wb, hb, hw⟩ := body (Pp, al, H) cdv A outer s H E hr
    have el := r0.len
    have fin : ∀ d M' v H' P' al', Ext Pp al H P' al' H' → RS0 K (Pp, al, H) P' al' M' H' → Rep K P' al' d v → retF M.length R d M' → Q v H' := fun d M' v H' P' al' e r' rd q => by
      cases q with
      | keep q => exact L d M' v H' P' al' e r' rd q
      | less q1 q2 q3 =>
        rw [← el] at q1 q2 q3
        refine L d _ v H' P' al ⟨e.pp, List.prefix_refl _, e.fr, fun b m n => absurd m n, e.pn⟩ (r'.drop fun i m hi hm => ?_) (rd.cut e.pre q1) q3
        exact List.all_eq_true.mp q2 m (List.mem_of_getElem? (by rw [List.getElem?_take_of_lt hi]; exact hm))
    obtain ⟨s1, s2⟩ := start_slots (N := N) r
    exact ⟨_, hb, Pp, al, M, _, _, ⟨r0, s1, s2⟩, hw ds M R RX hs r0.inside (by rw [← el]; exact r.inside), ⟨fun env' M' σ' H' P' al' e rs q => fin _ _ _ _ _ _ e rs.toRS0 .non q, fun d M' v H' P' al' e rs rd q => fin _ _ _ _ _ _ e rs rd q, fun _ _ _ _ _ _ _ _ z => z.elim, fun _ _ _ _ _ _ _ _ z => z.elim⟩⟩
end
/-! ### own errors: their __init__ keeps what it is given -/
/-- __init__ keeps ws under the names ns -/
def spI (C : Addr) (ns : List Str) : Sp := fun vs H Q _ => ∃ a ws, vs = .ref a :: ws ∧ ws.length = ns.length ∧ H a = some (exo a C none) ∧
  ∀ d, H d = none → d ≠ a → ∀ H', H' a = some (exo a C (some d)) → H' d = some (exd d (ns.zip ws).reverse) → (∀ b, b ≠ a → b ≠ d → H' b = H b) → Q .non H'
section
variable {X : Cx} {C fI : Addr} {k : Nat} {fd : FuncData} {x : Str} {p pos : Pos} {e : Expr} {es : List Expr} {ta : TA} {ps ns : List Str}
theorem spI_len (vs : List V) (H : Hp) (Q : VK) (E : XK) (h : spI C ns vs H Q E) : vs.length = ns.length + 1 := by
  obtain ⟨a, ws, rfl, h, _⟩ := h
  simp [h]
end
section
variable {X : Cx} {B : Bs} {C fI : Addr} {k : Nat} {fd : FuncData} {n x : Str} {p pos pos2 : Pos} {e : Expr} {es : List Expr} {was : WA} {ps ns : List Str} {RX : RXe}
theorem del_eq {H1 H' : Hp} {a d : Addr} {u v w : HO} (ha : H1 a = none) (hne : d ≠ a) (h : ∀ b, b ≠ a → b ≠ d → H' b = upd H1 a u b) : upd (del H' a) d v = upd H1 d v := by
  funext b
  by_cases h1 : b = d
  · rw [h1, upd_same, upd_same]
  · rw [upd_ne h1, upd_ne h1]
    by_cases h2 : b = a
    · rw [h2, del_same, ha]
    · rw [del_ne h2, h b h2 h1, upd_ne h2]
theorem zip_fs {K : PySem.W.Frag} {P : Hp} {al : List Addr} : ∀ {ns : List Str} {ds : List D} {vs : List V}, Reps K P al ds vs → RepFs K P al (ns.zip ds) (ns.zip vs)
  | [], _, _, _ => .nil
  | _ :: _, _, _, .nil => .nil
  | _ :: _, _, _, .cons r t => .cons r (zip_fs t)
theorem RepFs.app {K : PySem.W.Frag} {P : Hp} {al : List Addr} : ∀ {fs gs : List (Str × D)} {vs ws : List (Str × V)}, RepFs K P al fs vs → RepFs K P al gs ws → RepFs K P al (fs ++ gs) (vs ++ ws)
  | _, _, _, _, .nil, s => s
  | _, _, _, _, .cons r t, s => .cons r (RepFs.app t s)
theorem RepFs.rev {K : PySem.W.Frag} {P : Hp} {al : List Addr} : ∀ {fs : List (Str × D)} {vs : List (Str × V)}, RepFs K P al fs vs → RepFs K P al fs.reverse vs.reverse
  | _, _, .nil => .nil
  | _, _, .cons r t => by rw [List.reverse_cons, List.reverse_cons]; exact (RepFs.rev t).app (.cons r .nil)
/-- an error's dict, new -/
theorem xd_new {K : PySem.W.Frag} {B : Bs} {P : Hp} {al : List Addr} {M : Mt} {env : Ev} {σ : L2.St} {H : Hp} {d : Addr} {fs : List (Str × D)} {gs : List (Str × V)} (rs : RS K B P al M env σ H) (hd : H d = none) (r : RepFs K P al fs gs) :
    RS K B P al M env σ (upd H d (.xd gs)) ∧ XdOk K P al (upd H d (.xd gs)) fs (some d) := by
  obtain ⟨b1, b2⟩ := rs.toRS0.fresh hd
  exact ⟨⟨rs.toRS0.priv (rs.toRS0.free hd) b2 b1 _, rs.slen, rs.slot⟩, .inr ⟨d, gs, rfl, b2, upd_same, r⟩⟩
/-- raise C(e, ..), an own error with an __init__ -/
def wRaise (n : Str) (ns : List Str) (RX : RXe) (was : WA) : WS := fun _ env M => was env M fun ds M1 => Need (ds.length = ns.length) ∧ RX n (ns.zip ds).reverse env M1
theorem d_raise (hc : X.calm = true) (tk : Takes X (WL X.K B RX)) (ca : ClsAt X.K n C) (T : OexC X.K C) (iC : PySem.W.findIn X.K (.ref C) "__init__" = some (some (.ref fI))) (tI : PySem.W.typeIn X.K (.ref fI) = some (.type "function"))
    (F1 : FnOk X.prog X.w X.K X.mg X.base CX0 k fI fd ps (spI C ns)) (hn : ns.length ≤ 900) (hr : Room (k + 1) X.A) (hb : Binds X.K fd ps []) (hg : Gl X x) (hm : X.mg x = some (.ref C)) (ha : DA B X (e :: es) was)
    (hdb : (x == ("__debug__" : Str)) = false := by decide) (he : starEach (e :: es) X.env = (false, eval e X.env) :: starEach es X.env := by rfl) (hpl : (backTo pos (starEach es X.env)).any (·.1) = false := by rfl) :
    DS B X (.Raise (some (.Call (.Name x p) (e :: es) [] pos)) none pos2) (wRaise n ns RX was) := by
  refine (ps_raise hc tk (pmk_oex T iC tI F1 hr hb .nil (fun _ _ _ _ _ _ _ z => z.elim) hg hm ha hdb he hpl)).imp fun D σ H => ?_
  rintro ⟨P, al, M, env, k, rs, hw, L⟩
  refine ⟨P, al, M, env, _, rs, hw, fun ds M1 vs H1 P1 al1 e1 rs1 r1 q => ?_⟩
  obtain ⟨hl, q⟩ := q
  have hl : vs.length = ns.length := by rw [← r1.length]; exact hl.out
  refine ⟨by omega, fun a hna => ⟨a, vs ++ [], rfl, by simpa using hl, upd_same, fun d hd hne H' h1 h2 h3 => ?_⟩⟩
  rw [List.append_nil] at h2
  have hd' : H1 d = none := by rw [upd_ne hne] at hd; exact hd
  obtain ⟨rs2, xd⟩ := xd_new rs1 hd' (zip_fs (ns := ns) r1).rev
  refine ⟨rfl, d, _, h1, h2, hd', ?_⟩
  rw [del_eq (w := .own a) hna hne h3]
  exact ⟨C, n, _, env, P1, al1, M1, rfl, ca, rs2, xd, q⟩
end
/-! ### the bodies of such an __init__ -/
section
variable {P : Program} {w : World} {K : PySem.W.Frag} {mg : Str → Option Value} {base : Heap} {C : Addr}
theorem init_1 {x qual : Str} {st : Stmt} {f : Addr} {fd : FuncData} {s a f1 : Str} {q1 q2 q3 q4 : Pos} (F : Fun K x qual st f fd) (S : FnScope [s, a] [s, a] (defScope st)) (hbody : defBody st = [.Assign [.Attribute (.Name s q1) f1 q2] (.Name a q3) q4])
    (T : OexC K C) (h1 : PySem.W.findIn K (.ref C) f1 = some none) (l1 : (defScope st).names.lookup s = some .local) (l2 : (defScope st).names.lookup a = some .local)
    (d1 : (s == ("__debug__" : Str)) = false := by decide) (d2 : (a == ("__debug__" : Str)) = false := by decide) (hc1 : (s == ("__classdict__" : Str)) = false := by decide) (hc2 : (a == ("__classdict__" : Str)) = false := by decide)
    (hsw : ∀ (env : Env), swapsWith (.Name a q3) (some (.Attribute (.Name s q1) f1 q2)) q4.line env = pure false := by intro _; rfl) : FnOk P w K mg base CX0 1 f fd [s, a] (spI C [f1]) := by
  refine F.ok S (fun vs H Q E h => spI_len (C := C) (ns := [f1]) vs H Q E h) fun cdv A outer s0 H vs Q E hr h => ?_
  rw [hbody]
  refine ⟨_, pss_one (ps_ost (pe_var (i := 0) rfl (.inl l1) d1 hc1) (pe_var (i := 1) rfl (.inl l2) d2 hc2) (hsw _)), ?_⟩
  obtain ⟨o, ws, rfl, hl, ho, q⟩ := h
  obtain ⟨y, rfl⟩ : ∃ y, ws = [y] := by
    cases ws with
    | nil => cases hl
    | cons y r => cases r with
      | nil => exact ⟨y, rfl⟩
      | cons _ _ => cases hl
  exact ⟨y, rfl, .ref o, rfl, o, C, rfl, T, h1, .inl ⟨ho, fun dx hdx hne => q dx hdx hne _ upd_same (by rw [upd_ne hne, upd_same]; rfl) fun b h1 h2 => by rw [upd_ne h1, upd_ne h2]⟩⟩
end
/-! ### try .. except n as x -/
theorem RS.drp {K : PySem.W.Frag} {B : Bs} {P : Hp} {al : List Addr} {M : Mt} {env : Ev} {σ : L2.St} {H : Hp} (r : RS K B P al M env σ H) (i : Nat) : RS K B P al M (env.set i none) (σ.set i none) H := by
  refine ⟨r.toRS0, by simp [r.slen], fun j d h => ?_⟩
  by_cases hj : j = i
  · subst hj
    have hl : j < (env.set j none).length := (List.getElem?_eq_some_iff.mp h).1
    rw [List.getElem?_set_self (by simpa using hl)] at h; cases h
  · rw [List.getElem?_set_ne (Ne.symm hj)] at h
    obtain ⟨v, h1, h2⟩ := r.slot j d h
    exact ⟨v, by rw [List.getElem?_set_ne (Ne.symm hj)]; exact h1, h2⟩
def outE (i : Nat) (k : DEnds) : DEnds := ⟨fun e m => k.nx (e.set i none) m, k.rt, fun e m => k.bk (e.set i none) m, fun e m => k.ct (e.set i none) m⟩
section
variable {X : Cx} {B : Bs} {x n : Str} {Cc : Addr} {i : Nat} {body suite : List Stmt} {b₀ : Stmt} {np pos pos' : Pos} {RX : RXe} {ok : List Str} {sub : Str → Bool} {wb : RXe → WS} {ws : Addr → Str → List (Str × D) → WS}
end
end L3

namespace L3
open PySem PySem.Spec PyProof.Rows L2
/-! ### defs with *args -/
section
variable {P : Program} {w : World} {K : PySem.W.Frag} {mg : Str → Option Value} {base : Heap}
theorem bodyX {qual : Str} {sc : Scope} {bd : List Stmt} {f : Addr} {N : List Str} {sp : DSp} {cdv : Value} {A : Around} {outer : List Env} {s : Shared} {H : Hp} {E : XK} {vs : List V} {Q : VK} {wb : RXe → WS} (h : toSp K sp vs H Q E)
    (hb : ∀ (B : Bs) (RX : RXe), Takes (cxOf (L2.CX P w) P w K mg base N qual sc f cdv A outer s H E) (WL K B RX) → DSs B (cxOf (L2.CX P w) P w K mg base N qual sc f cdv A outer s H E) bd (wb RX))
    (hw : ∀ ds M R RX, sp ds M R RX → M.all (cellOk M.length) = true → noCels M.length ds = true → wb (fun nm fs _ M' => rxF M.length RX nm fs M') (fnEnds M.length R) (startE N.length ds) M) :
    ∃ t, PSs (cxOf (L2.CX P w) P w K mg base N qual sc f cdv A outer s H E) bd t ∧ t { nx := fun _ H' => Q .non H', rt := Q } (start N vs) H := by
  obtain ⟨Pp, al, M, ds, R, RX, r0, r, hs, L, LX⟩ := h
  have el := r0.len
  have fin : ∀ d M' v H' P' al', Ext Pp al H P' al' H' → RS0 K (Pp, al, H) P' al' M' H' → Rep K P' al' d v → retF M.length R d M' → Q v H' := fun d M' v H' P' al' e r' rd q => by
    cases q with
    | keep q => exact L d M' v H' P' al' e r' rd q
    | less q1 q2 q3 =>
      rw [← el] at q1 q2 q3
      refine L d _ v H' P' al ⟨e.pp, List.prefix_refl _, e.fr, fun b m n => absurd m n, e.pn⟩ (r'.drop fun i m hi hm => ?_) (rd.cut e.pre q1) q3
      exact List.all_eq_true.mp q2 m (List.mem_of_getElem? (by rw [List.getElem?_take_of_lt hi]; exact hm))
  have finX : ∀ C nm fs M' H' P' al' dd, Ext Pp al H P' al' H' → RS0 K (Pp, al, H) P' al' M' H' → ClsAt K nm C → XdOk K P' al' H' fs dd → rxF M.length RX nm fs M' → E (.ref C) dd H' := fun C nm fs M' H' P' al' dd e r' c xd q => by
    cases q with
    | keep q => exact LX C nm fs M' H' P' al' dd e r' c xd q
    | less q1 q2 q3 =>
      rw [← el] at q1 q2 q3
      refine LX C nm fs _ H' P' al dd ⟨e.pp, List.prefix_refl _, e.fr, fun b m n => absurd m n, e.pn⟩ (r'.drop fun i m hi hm => ?_) c (xd.cut e.pre q1) q3
      exact List.all_eq_true.mp q2 m (List.mem_of_getElem? (by rw [List.getElem?_take_of_lt hi]; exact hm))
  obtain ⟨s1, s2⟩ := start_slots (N := N) r
  refine ⟨_, hb (Pp, al, H) _ ((takes_of rfl rfl rfl rfl).imp fun c d σ H' h => ?_), Pp, al, M, _, _, ⟨r0, s1, s2⟩, hw ds M R RX hs r0.inside (by rw [← el]; exact r.inside), ⟨fun env' M' σ' H' P' al' e rs q => fin _ _ _ _ _ _ e rs.toRS0 .non q, fun d M' v H' P' al' e rs rd q => fin _ _ _ _ _ _ e rs rd q, fun _ _ _ _ _ _ _ _ z => z.elim, fun _ _ _ _ _ _ _ _ z => z.elim⟩⟩
  obtain ⟨C, nm, fs, env, P', al', M', rfl, c, rs, xd, q⟩ := h
  exact finX C nm fs M' H' P' al' d rs.base rs.toRS0 c xd q
end
/-! ### starred arguments, classes by name, class methods -/
section
variable {X : Cx} {B : Bs} {CX : CXT} {k i : Nat} {f C : Addr} {sp : DSp} {n x m : Str} {p p2 pos apos : Pos} {e o : Expr} {es : List Expr} {was : WA} {we wo : WE} {RX : RXe}
def wStar (we : WE) (was : WA) : WA := fun env M R => we env M fun d M1 => match seqD (viewD M1 d) with
  | some l => was env M1 fun ds M2 => R (l ++ ds) M2
  | none => False
theorem da_star (he : DE B X e we) (hr : DA B X es was) (hs : starEach (.Starred e p :: es) X.env = (true, eval e X.env) :: starEach es X.env := by rfl) : DA B X (.Starred e p :: es) (wStar we was) := by
  refine (StX.pa_star he hr hs).imp fun σ H Q => ?_
  rintro ⟨P, al, M, env, R, rs, hw, L⟩
  refine ⟨P, al, M, env, _, rs, hw, fun d M1 v H1 P1 al1 e1 rs1 r1 q => ?_⟩
  split at q
  · rename_i l el
    obtain ⟨a, xs, rfl, h1, h2⟩ := view_seq rs1.toRS0 r1 el
    exact ⟨a, xs, rfl, h1.symm, P1, al1, M1, env, _, rs1, q, fun ds M2 vs H2 P2 al2 e2 rs2 r2 q2 => L _ _ _ _ _ _ (e1.trans e2) rs2 ((h2.mono e2.pp e2.pre).append r2) q2⟩
  · exact q.elim
theorem d_gcls (hg : Gl X x) (hm : X.mg x = some (.ref C)) (ca : ClsAt X.K n C) (hdb : (x == ("__debug__" : Str)) = false := by decide) : DE B X (.Name x p) (wC (.cls n)) := by
  refine (pe_glob (v := .ref C) hg hm rfl hdb).imp fun σ H Q => ?_
  rintro ⟨P, al, M, env, R, rs, hw, L⟩
  exact L.here rs (.cls ca) hw
/-- cls(e, ..), the i-th slot a class -/
def wMkL (i : Nat) (n : Str) (sp : DSp) (RX : RXe) (was : WA) : WE := fun env M R => match env[i]? with
  | some (some (.cls n')) => Need (n' = n) ∧ wMk n sp RX was env M R
  | _ => False
/-- C.m(e, ..), a class method -/
def wCMeth (n : Str) (sp : DSp) (RX : RXe) (wo : WE) (was : WA) : WE := fun env M R => wo env M fun o M1 => match o with
  | .cls n' => Need (n' = n) ∧ was env M1 fun ds M2 => sp (.cls n :: ds) M2 R fun n fs M' => RX n fs env M'
  | _ => False
theorem d_cmeth {mc : Value} {q g : Addr} {pl : Sem Bool} (ca : ClsAt X.K n C) (ho : DE B X o wo) (r : ClX.CRead X.K C mc) (c : ClX.CMet X.K C mc m q g) (F : FnR X.prog X.w X.K X.mg X.base CX k g (toSp X.K sp)) (hr : Room k X.A) (hx : Rz X B CX RX) (ha : DA B X (e :: es) was)
    (hst : starEach (e :: es) X.env = (false, eval e X.env) :: starEach es X.env := by rfl) (hpl : (backTo pos (starEach es X.env)).any (·.1) = false := by rfl)
    (ht : eval (.Call (.Attribute o m apos) (e :: es) [] pos) X.env = (do
      let ov ← eval o X.env
      standAt apos.atName
      let (f, fst) ← holding [ov] (getMethod ov m pl)
      callWith pos f fst (backTo pos (starEach (e :: es) X.env)) (backToKw pos (keywordEach [] X.env))) := by rfl) : DE B X (.Call (.Attribute o m apos) (e :: es) [] pos) (wCMeth n sp RX wo was) := by
  refine ⟨fun pins s σ H Q I h => ?_⟩
  obtain ⟨P, al, M, env, R, rs, hw, L⟩ := h
  refine PySem.W.methodCall_KW (pl := pl) (thn (ho.run pins s σ H (fun x H1 => x = .ref C ∧ tDA X.K B was σ H1 fun vs H2 => toSp X.K sp (.ref C :: vs) H2 Q (L2.WE (WL X.K B RX) σ)) I ⟨P, al, M, env, _, rs, hw, fun d M1 v H1 P1 al1 e1 rs1 r1 q => ?_⟩) fun u s1 ⟨x, H1, I1, rx, ex, q⟩ => ?_) ht
  · split at q
    · obtain ⟨hn, q⟩ := q
      have hn := hn.out
      subst hn
      cases r1 with
      | cls c2 =>
        obtain rfl := ca.one c2
        exact ⟨rfl, P1, al1, M1, env, _, rs1, q, fun ds M2 vs H2 P2 al2 e2 rs2 r2 q2 => sp_at rs2 (.cons (.cls ca) r2) (L.after (e1.trans e2)) q2⟩
    · exact q.elim
  · subst ex
    cases rx
    refine ClX.getmethcm_ok I1 r c fun s2 I2 => ?_
    refine ClX.callwith_cm I2 (ClX.base_none I1 (Nat.le_refl _)) c.fi (thn (ha.run pos _ s2 σ H1 _ I2 q) fun us s3 ⟨vs, H2, I3, rv, q2⟩ => ⟨⟨ClX.pin_at I3, I3.kIn⟩, ?_⟩) hst hpl
    have z := wpAny_call (PySem.W.method_call (ClX.pin_at I3) (run_at (us := .ref C :: us) (vs := .ref C :: vs) F hr (hx σ) I3 (.cons rfl rv) q2))
    exact thn z fun _ _ y => ClX.unpinE y
end
end L3

namespace L3
open PySem PySem.Spec PyProof.Rows L2
/-! ### enumerate of a tuple -/
open Builtin in
section
variable {prog : Program} {w : World} {A : Around} {E : Value → Shared → Prop} {s : Shared}
end
/-! ### over data -/
section
variable {K : PySem.W.Frag} {a : Addr} {xs : List V} {ds : List D} {P : Hp} {al : List Addr}
end
end L3

namespace L3
open PySem PySem.Spec PyProof.Rows L2
/-! ### isinstance of the error that a suite holds -/
/-- what isinstance asks of an own error's class -/
structure ErC (K : PySem.W.Frag) (C : Addr) : Prop where
  cl : (PySem.W.clsIn K C).isSome = true
  ga : PySem.W.findIn K (.ref C) "__getattribute__" = some (some (.builtin "BaseException.__getattribute__"))
  gg : PySem.W.findIn K (.ref C) "__getattr__" = some none
  sb : PySem.W.subIn K (.ref C) (.type "BaseException") = some true
  ca : PySem.W.findIn K (.ref C) "__class__" = some (some (.builtin "object.__class__"))
  cg : PySem.W.specialIn K (.builtin "object.__class__") "__get__" = some (some (.builtin "getset_descriptor.__get__"))
  tk : PySem.W.takesIn K (.builtin "object.__class__") = some true
  ob : PySem.W.mroIn K C (.type "object") = some true
/-! ### isinstance of instances and other things, an own class asked -/
end L3

namespace L3
open PySem PySem.Spec PyProof.Rows L2
theorem forIn_yield {α β : Type} (f : α → β → Sem (ForInStep β)) (g : β → α → β) : ∀ (l : List α) (b : β), (∀ x ∈ l, ∀ b, f x b = pure (.yield (g b x))) → (forIn l b f : Sem β) = pure (l.foldl g b)
  | [], b, _ => by rw [List.forIn_nil]; rfl
  | x :: l, b, h => by
    rw [List.forIn_cons, h x (.head _) b]
    exact forIn_yield f g l (g b x) fun y hy => h y (.tail _ hy)
theorem fold_ext (s : List (Str × Value)) : ∀ (l e : List (Str × Value)), l.foldl (fun (r : List (Str × Value) × List (Str × Value)) x => (r.1, r.2 ++ [(x.1, x.2)])) (s, e) = (s, e ++ l)
  | [], e => by simp
  | x :: l, e => by
    show List.foldl _ (s, e ++ [x]) l = _
    rw [fold_ext s l]; simp
theorem bind_kw {name qual p1 pd : Str} {body : List Stmt} {scope : Scope} {dV kV doc pm cdv ct : Value} {an : Option Addr} {params : Arguments} (h1 : params.posonlyargs = []) (h2 : params.args.map (·.arg) = [p1]) (h3 : params.kwonlyargs = []) (h4 : params.vararg = none) (h5 : params.kwarg.map (·.arg) = some pd) (hd : dV = .none)
    (v : Value) (kw : List (Str × Value)) (hk : ∀ x ∈ kw, (x.1 == p1) = false) (hz : kw.length ≤ sizeLine) :
    bindArgs (PySem.W.fnOf name qual params body scope dV kV doc pm an cdv ct) ⟨[v], kw⟩ =
      (do let d ← (alloc ({ cls := .type "dict", data := .dict #[] } : Obj) : Sem Addr)
          forIn kw PUnit.unit fun x _ => (nsSet d x.1 x.2 >>= fun _ => pure (ForInStep.yield PUnit.unit))
          pure [(p1, v), (pd, .ref d)]) := by
  obtain ⟨po, ar, va, ko, kd, ka, df⟩ := params
  simp only at h1 h2 h3 h4 h5
  subst h1 h3 h4 hd
  obtain ⟨a, rfl⟩ : ∃ a, ar = [a] := by
    cases ar with
    | nil => cases h2
    | cons a r => cases r with
      | nil => exact ⟨a, rfl⟩
      | cons _ _ => simp at h2
  have h2 : a.arg = p1 := by simpa using h2
  subst h2
  cases ka with
  | none => cases h5
  | some ka =>
    have h5 : ka.arg = pd := by simpa using h5
    subst h5
    unfold bindArgs
    simp only [PySem.W.fnOf]
    rw [forIn_yield _ (fun b x => (b.1, b.2 ++ [(x.1, x.2)])) kw _ (fun x hx b => by
      have hc : (([a].map (fun x => x.arg)).contains x.1 || (([] : List Arg).map (fun x => x.arg)).contains x.1) = true → False := fun h => by
        have := hk x hx
        simp at h
        rw [h] at this; simp at this
      rw [if_neg hc]; rfl)]
    rw [fold_ext]
    have hz' : (kw.length > sizeLine + 1) = False := eq_false (by omega)
    have hs : seqItems? Value.none = pure none := rfl
    simp only [pure_bind, List.nil_append, hz', if_false, hs]
    simp [List.lookup]
end L3

namespace L3
open PySem PySem.Spec PyProof.Rows L2 PySem.W
theorem push_upd (hp : Heap) (o : Obj) (f : Obj → Obj) : (hp.push o).update hp.objs.size f = hp.push (f o) := by
  obtain ⟨objs, l⟩ := hp
  show Heap.mk ((objs.push o).modify objs.size f) l = Heap.mk (objs.push (f o)) l
  congr 1
  apply Array.ext
  · simp
  · intro i h1 h2
    rw [Array.getElem_modify]
    by_cases h : objs.size = i
    · subst h; simp
    · have : i < objs.size := by simp at h2; omega
      rw [if_neg h, Array.getElem_push_lt this, Array.getElem_push_lt this]
section
variable {prog : Program} {w : World} {A : Around} {E : Value → Shared → Prop} {hp : Heap} {g : Array GenState} {d : Drawn} {os : OsState}
theorem kw_step {es : List DictEntry} {n tk : Nat} {k : Str} {v : Value} {Q : Unit → Shared → Prop} (hs : ∀ e ∈ es, e.key.isStr k = false) (hr : ∀ e ∈ es, e.refKey = false)
    (h : Q () ⟨hp.push (dictOf (es ++ [⟨PyData.keyHash w.params k, .str k tk, v⟩]) (n + 1)), g, d, tk + 1, os⟩) : wpAny (model prog w) A (nsSet hp.objs.size k v) Q E ⟨hp.push (dictOf es n), g, d, tk, os⟩ := by
  have e1 : es.any (·.key.isStr k) = false := List.any_eq_false.mpr fun e he => by rw [hs e he]; exact Bool.false_ne_true
  have e2 : es.any (·.refKey) = false := List.any_eq_false.mpr fun e he => by rw [hr e he]; exact Bool.false_ne_true
  have e3 : Obj.putName k (PyData.keyHash w.params k) (.str k tk) v (dictOf es n) = dictOf (es ++ [⟨PyData.keyHash w.params k, .str k tk, v⟩]) (n + 1) := by
    rw [putName_dict, putL_new hs]
    unfold putN
    rw [e1, if_neg Bool.false_ne_true]
  have D := Heap.get?_push_size hp (o := dictOf es n) rfl
  have c : aRefKeyMayBeTheName k es.toArray = false := by
    rw [aRefKeyMayBeTheName_at, ← Array.any_toList, ← Array.any_toList]
    show (!es.any (·.key.isStr k) && es.any (·.refKey)) = false
    rw [e2, Bool.and_false]
  unfold nsSet
  refine wpAny_bind (wpAny_bind (wpAny_askSetting (wpAny_pure (wpAny_bind (wpAny_mkText (wpAny_bind (wpAny_loadPart D ?_)))))))
  dsimp only
  rw [c]
  refine wpAny_updatePart D ?_
  rw [push_upd]
  rw [← e3] at h
  exact h
theorem kw_fill : ∀ (ex : List (Str × Value)) (es : List DictEntry) (n tk : Nat) {Q : PUnit → Shared → Prop}, (∀ e ∈ es, ∀ x ∈ ex, e.key.isStr x.1 = false) → (∀ e ∈ es, e.refKey = false) → (ex.map (·.1)).Nodup →
    Q ⟨⟩ ⟨hp.push (dictOf (es ++ kwEs w.params tk ex) (n + ex.length)), g, d, tk + ex.length, os⟩ →
    wpAny (model prog w) A (forIn ex PUnit.unit fun x _ => (nsSet hp.objs.size x.1 x.2 >>= fun _ => pure (ForInStep.yield PUnit.unit))) Q E ⟨hp.push (dictOf es n), g, d, tk, os⟩
  | [], es, n, tk, Q, _, _, _, h => by
    rw [List.forIn_nil]
    have e : es ++ kwEs w.params tk ([] : List (Str × Value)) = es := List.append_nil es
    rw [e] at h
    exact wpAny_pure h
  | x :: r, es, n, tk, Q, hs, hr, hn, h => by
    obtain ⟨hn1, hn2⟩ := List.nodup_cons.mp (show (x.1 :: r.map (·.1)).Nodup from hn)
    rw [List.forIn_cons]
    refine wpAny_bind (wpAny_bind (kw_step (fun e he => hs e he x (.head _)) hr (wpAny_pure ?_)))
    refine kw_fill r _ (n + 1) (tk + 1) (fun e he y hy => ?_) (fun e he => ?_) hn2 ?_
    · rcases List.mem_append.mp he with he | he
      · exact hs e he y (.tail _ hy)
      · obtain rfl := List.mem_singleton.mp he
        exact beq_eq_false_iff_ne.mpr fun q => hn1 (by rw [show x.1 = y.1 from q]; exact List.mem_map_of_mem hy)
    · rcases List.mem_append.mp he with he | he
      · exact hr e he
      · obtain rfl := List.mem_singleton.mp he; rfl
    · rw [List.append_assoc, show n + 1 + r.length = n + (r.length + 1) from by omega, show tk + 1 + r.length = tk + (r.length + 1) from by omega]
      exact h
end
end L3

namespace L3
open PySem PySem.Spec PyProof.Rows L2
/-! ### defs with **fields -/
/-- a promise by the positional values and the keywords' -/
def FnW (P : Program) (w : World) (K : PySem.W.Frag) (mg : Str → Option Value) (base : Heap) (CX : CXT) (k : Nat) (f : Addr) (sp : List V → List (Str × V) → Hp → VK → XK → Prop) : Prop :=
  ∀ (A : Around) (outer : List Env) (s : Shared) (H : Hp) (us : List Value) (vs : List V) (kws : List (Str × Value)) (kvs : List (Str × V)) (Q : VK) (E : XK), Room k A → Env0 P w K mg base A outer s H → Vals vs us → KV kvs kws → sp vs kvs H Q E →
    codeAny (model P w) A (.call (.ref f) ⟨us, kws⟩) (CR CX outer P w H s Q E) s
def keyS (p : Str × V) : Key × V := (Sum.inr p.1, p.2)
theorem kv_len {κ : Type} : ∀ {kvs : List (κ × V)} {kws : List (κ × Value)}, KV kvs kws → kvs.length = kws.length := fun h => Paired.length h
theorem kv_names : ∀ {kvs : List (Str × V)} {kws : List (Str × Value)}, KV kvs kws → kvs.map (·.1) = kws.map (·.1)
  | _, _, .nil => rfl
  | _, _, .cons a r => by
    rw [List.map_cons, List.map_cons, kv_names r, a.1]
theorem kv_keys : ∀ {kvs : List (Str × V)} {kws : List (Str × Value)}, KV kvs kws → KV (kvs.map keyS) (kws.map fun p => ((Sum.inr p.1 : Key), p.2))
  | _, _, .nil => .nil
  | _, _, .cons a r => .cons ⟨by show Sum.inr _ = Sum.inr _; rw [a.1], a.2⟩ (kv_keys r)
theorem kw_pairs {P : Program} {w : World} : ∀ (ex : List (Str × Value)) (t : Tok), Pairs (mixKind P w) (PySem.W.kwEs w.params t ex) (ex.map fun p => ((Sum.inr p.1 : Key), p.2))
  | [], _ => Pairs.nil
  | x :: r, t => Pairs.cons (keyIs_str x.1 t) rfl (kw_pairs r (t + 1))
theorem kw_dict {P : Program} {w : World} {H : Hp} {hp : Heap} {ex : List (Str × Value)} {kvs : List (Str × V)} (t n : Nat) (hb : sysModules < hp.objs.size) (r : KV kvs ex) (hn : (ex.map (·.1)).Nodup) (hz : ex.length ≤ sizeLine) :
    ObjOk P w H (hp.push (PySem.W.dictOf (PySem.W.kwEs w.params t ex) n)) hp.objs.size (.dK (kvs.map keyS)) := by
  refine ⟨by rw [List.length_map, kv_len r]; exact hz, beq_eq_false_iff_ne.mpr (Ne.symm (Nat.ne_of_lt hb)), _, kv_keys r, _, (PySem.W.kwEs w.params t ex).toArray, n, Heap.get?_push_size _ rfl, ⟨rfl, rfl, rfl⟩, rfl, fun e he => ?_, kw_pairs ex t, ?_⟩
  · obtain ⟨k, u, hk, hh⟩ := PySem.W.kwEs_key ex t e (List.mem_toArray.mp he)
    exact ⟨Sum.inr k, by rw [hk]; exact keyIs_str k u, hh.trans rfl⟩
  · rw [List.map_map]
    have e : (ex.map ((fun p : Key × Value => p.1) ∘ fun p => ((Sum.inr p.1 : Key), p.2))) = (ex.map (·.1)).map Sum.inr := by rw [List.map_map]; rfl
    rw [e]
    exact List.Pairwise.map _ (fun a b h z => h (Sum.inr.inj z)) hn
section
variable {CX : CXT} {P : Program} {w : World} {K : PySem.W.Frag} {mg : Str → Option Value} {base : Heap} {k : Nat} {f : Addr} {name qual : Str} {params : Arguments} {body : List Stmt} {scope : Scope} {kV doc pm cdv ct oc : Value} {an od : Option Addr}
  {osl : Array (Option Value)} {N : List Str} {p1 pd : Str} {sp : Sp}
theorem fn_kwd (lk : K.lookup f = some ⟨oc, od, .func (PySem.W.fnOf name qual params body scope .none kV doc pm an cdv ct), osl⟩) (hcd : PySem.W.codeIn K cdv qual = true) (S : FnScope N [p1, pd] scope) (hCX : StX.CXUp CX)
    (h1 : params.posonlyargs = []) (h2 : params.args.map (·.arg) = [p1]) (h3 : params.kwonlyargs = []) (h4 : params.vararg = none) (h5 : params.kwarg.map (·.arg) = some pd)
    (hbody : ∀ (A : Around) (outer : List Env) (s : Shared) (H : Hp) (vs : List V) (Q : VK) (E : XK), Room k (A.deeper (envOfC qual scope s.heap.objs.size f cdv)) → sp vs H Q E →
      ∃ t, PSs (cxOf CX P w K mg base N qual scope f cdv A outer s H E) body t ∧ t { nx := fun _ H' => Q .non H', rt := Q } (start N vs) H) :
    FnW P w K mg base CX (k + 1) f (fun vs kvs H Q E => ∃ v, vs = [v] ∧ (kvs.map (·.1)).Nodup ∧ (∀ x ∈ kvs, (x.1 == p1) = false) ∧ kvs.length ≤ sizeLine ∧ ∀ d, H d = Option.none → sp [v, .ref d] (upd H d (.dK (kvs.map keyS))) Q E) := by
  intro A outer s H us vs kws kvs Q E hr e0 r rk hsp
  obtain ⟨v, rfl, hn, hne, hz, hq⟩ := hsp
  obtain ⟨u, rfl, ru⟩ : ∃ u, us = [u] ∧ RelV v u := by
    cases r with
    | cons a t => cases t; exact ⟨_, rfl, a⟩
  have hnm := kv_names rk
  have hn' : (kws.map (·.1)).Nodup := by rw [← hnm]; exact hn
  have hz' : kws.length ≤ sizeLine := by rw [← kv_len rk]; exact hz
  have hne' : ∀ x ∈ kws, (x.1 == p1) = false := fun x hx => by
    have : x.1 ∈ kvs.map (·.1) := by rw [hnm]; exact List.mem_map_of_mem hx
    obtain ⟨y, hy, e⟩ := List.mem_map.mp this
    rw [← show y.1 = x.1 from e]; exact hne y hy
  have hd : H s.heap.objs.size = Option.none := e0.hok.fresh (Nat.le_refl _)
  refine StX.run_bnd (ps := [p1, pd]) lk hcd S hr e0 (G := fun xs H2 => ∃ d, H d = Option.none ∧ xs = [v, V.ref d] ∧ H2 = upd H d (.dK (kvs.map keyS))) (fun A' Ex Q' h => ?_) fun s2 H2 xs ⟨d, hd, ex, eH⟩ hr' => ?_
  · rw [bind_kw h1 h2 h3 h4 h5 rfl u kws hne' hz']
    obtain ⟨hp, g, dr, tk, os⟩ := s
    refine wpAny_bind (wpAny_alloc (wpAny_bind (kw_fill kws [] 0 tk (fun _ z => nomatch z) (fun _ z => nomatch z) hn' (wpAny_pure ?_))))
    have new := kw_dict (P := P) (w := w) (H := upd H hp.objs.size (.dK (kvs.map keyS))) (hp := hp) tk (0 + kws.length) (StX.env0_big e0) rk hn' hz'
    have e1 : Env0 P w K mg base A outer ⟨hp.push (PySem.W.dictOf (PySem.W.kwEs w.params tk kws) (0 + kws.length)), g, dr, tk, os⟩ (upd H hp.objs.size (.dK (kvs.map keyS))) := StX.env0_laid (s := ⟨hp, g, dr, tk, os⟩) e0 new
    have e2 : Env0 P w K mg base A outer ⟨hp.push (PySem.W.dictOf (PySem.W.kwEs w.params tk kws) (0 + kws.length)), g, dr, tk + kws.length, os⟩ (upd H hp.objs.size (.dK (kvs.map keyS))) := ⟨e1.frames, e1.mod, e1.bs, e1.bsz, e1.funs, e1.frf, e1.hok, e1.bare⟩
    have un := StX.un_laid (fs := frs outer) (s := ⟨hp, g, dr, tk, os⟩) (o := PySem.W.dictOf (PySem.W.kwEs w.params tk kws) (0 + kws.length)) (u := .dK (kvs.map keyS)) hd
    exact h ⟨hp.push (PySem.W.dictOf (PySem.W.kwEs w.params tk kws) (0 + kws.length)), g, dr, tk + kws.length, os⟩ _ [v, V.ref hp.objs.size] [u, Value.ref hp.objs.size] e2 un rfl
      (fun e s' => hCX outer ⟨hp, g, dr, tk, os⟩ H _ _ E e s' un (fun b o q => Heap.get?_push_of_some _ q) rfl) (.cons ru (.cons rfl .nil)) rfl ⟨_, hd, rfl, rfl⟩
  · subst ex eH
    exact hbody A outer s2 _ _ Q E hr' (hq d hd)
end
end L3

namespace L3
open PySem PySem.Spec PyProof.Rows L2
section
variable {M : Model} {A : Around} {E : Value → Shared → Prop} {s : Shared} {f : Value} {x : Sem Value}
theorem merged_1 {Q : Addr → Shared → Prop} (h : wpAny M A x (fun v s1 => wpAny M A (mergeMapping s.heap.objs.size v true) (fun _ s2 => Q s.heap.objs.size s2) (fun _ _ => False) s1) E { s with heap := s.heap.push (PySem.W.dictOf [] 0) }) :
    wpAny M A (mergedKeywords f [(none, x)]) Q E s := by
  unfold mergedKeywords
  refine wpAny_bind (wpAny_alloc ?_)
  refine wpAny_bind (wpAny_holding ?_)
  refine wpAny_bind ?_
  rw [List.forIn_cons]
  refine wpAny_bind ?_
  show wpAny M A (x >>= fun v => _ >>= fun _ => _) _ E _
  refine wpAny_bind (wpAny_mono h (fun v s1 h1 => ?_) fun _ _ z => z)
  refine wpAny_bind ?_
  refine wpAny_onRaise (wpAny_holding (wpAny_tryCatch (wpAny_onRaise ?_)))
  refine wpAny_mono h1 (fun _ s2 h2 => ?_) fun e s2 z => ?_
  · refine wpAny_pure ?_
    show wpAny M A (forIn ([] : List (Option Str × Sem Value)) _ _) _ _ _
    rw [List.forIn_nil]
    exact wpAny_pure (wpAny_pure (wpAny_pure h2))
  · exact z.elim
end
section
variable {prog : Program} {w : World} {A : Around} {E : Value → Shared → Prop} {s : Shared}
theorem pairs_at {prog : Program} {w : World} : ∀ {es : List DictEntry} {kvs : List (Key × Value)}, Pairs (mixKind prog w) es kvs → ∀ (i : Nat) (e : DictEntry), es[i]? = some e → ∃ p, kvs[i]? = some p ∧ (mixKind prog w).is p.1 e.key = true ∧ e.val = p.2
  | _, _, .nil, i, e, h => by cases h
  | _, _, .cons (kv := kv) a b r, 0, e, h => by cases h; exact ⟨kv, rfl, a, b⟩
  | _, _, .cons a b r, i + 1, e, h => pairs_at r i e h
theorem merge_step {d : Addr} {es : Array DictEntry} {kvs : List (Key × Value)} {i n : Nat} {e : DictEntry} {Q : Unit → Shared → Prop} (hd : s.heap.get? d = some (PySem.W.dictOf (es.toList.take i) n)) (hp : Pairs (mixKind prog w) es.toList kvs) (hks : KeysOf (mixKind prog w) es) (hn : (kvs.map (·.1)).Nodup)
    (hz : es.size ≤ 1000) (he : es.toList[i]? = some e)
    (hQ : ∀ h' n', (∀ b o, b ≠ d → s.heap.get? b = some o → h'.get? b = some o) → h'.get? d = some (PySem.W.dictOf (es.toList.take (i + 1)) n') → Q () { s with heap := h' }) :
    wpAny (model prog w) A (do
      let z ← dictFind d e.key e.hash
      if z.isSome = true then do
          rule "dict.merge.duplicate-key"
          let z ← newExc (Value.type "KeyError") [e.key]
          raiseNew z
          dictPut d e.hash e.key e.val
        else dictPut d e.hash e.key e.val) Q E s := by
  obtain ⟨p, hpi, hk, hv⟩ := pairs_at hp i e he
  have hem : e ∈ es := Array.mem_toList_iff.mp (List.mem_of_getElem? he)
  obtain ⟨k', hk', hh⟩ := hks e hem
  have ek : k' = p.1 := (mixKind prog w).inj _ _ _ hk' hk
  subst ek
  have hko : KeysOf (mixKind prog w) (es.toList.take i).toArray := fun x hx => hks x (Array.mem_toList_iff.mp (List.mem_of_mem_take (List.mem_toArray.mp hx)))
  have hno : (es.toList.take i).toArray.findIdx? (fun x => (mixKind prog w).is p.1 x.key) = none := by
    rw [List.findIdx?_toArray, List.findIdx?_eq_none_iff]
    intro x hx
    obtain ⟨j, hj⟩ := List.mem_iff_getElem?.mp hx
    have hji : j < i := by
      have := (List.getElem?_eq_some_iff.mp hj).1
      simp at this; omega
    have hj' : es.toList[j]? = some x := by rw [List.getElem?_take_of_lt hji] at hj; exact hj
    obtain ⟨q, hqj, hq, _⟩ := pairs_at hp j x hj'
    cases hz : (mixKind prog w).is p.1 x.key with
    | false => rfl
    | true =>
      exfalso
      have eq : p.1 = q.1 := (mixKind prog w).inj _ _ _ hz hq
      have n1 : (kvs.map (·.1))[i]? = some p.1 := by rw [List.getElem?_map, hpi]; rfl
      have n2 : (kvs.map (·.1))[j]? = some p.1 := by rw [List.getElem?_map, hqj, eq]; rfl
      have := (List.getElem?_inj (by exact (List.getElem?_eq_some_iff.mp n1).1) hn).mp (n1.trans n2.symm)
      omega
  rw [hh]
  refine wpAny_bind (wpAny_dictFind_of hk hd rfl hko ?_)
  rw [hno, if_neg (by simp)]
  unfold dictPut
  refine wpAny_bind (wpAny_dictFind_of hk hd rfl hko ?_)
  rw [hno]
  have hl : (es.toList.take i).length ≤ sizeLine := by
    rw [List.length_take, Array.length_toList]
    exact Nat.le_trans (Nat.min_le_right _ _) (Nat.le_trans hz (by decide))
  refine wpAny_updateDictKeys hd rfl ?_ (by simpa using hl) (by simp)
  have tk : es.toList.take (i + 1) = es.toList.take i ++ [e] := by rw [List.take_add_one, he]; rfl
  refine hQ _ (n + 1) (fun b o hb h => by rw [Heap.get?_update_other _ _ (Ne.symm hb)]; exact h) ?_
  rw [Heap.get?_update_self _ hd rfl, tk, ← hh]
  simp [Obj.mapDictKeys, PySem.W.dictOf]
theorem merge_dict {a d : Addr} {o : Obj} {es : Array DictEntry} {ep : Nat} {kvs : List (Key × Value)} {Q : Unit → Shared → Prop} (ho : s.heap.get? a = some o) (hx : o.ExactDict) (hd0 : o.data = .dict es ep) (hne : a ≠ d) (hsys : (a == sysModules) = false) (hd : s.heap.get? d = some (PySem.W.dictOf [] 0))
    (hp : Pairs (mixKind prog w) es.toList kvs) (hks : KeysOf (mixKind prog w) es) (hn : (kvs.map (·.1)).Nodup) (hz : es.size ≤ 1000)
    (hQ : ∀ h' n, (∀ b o, b ≠ d → s.heap.get? b = some o → h'.get? b = some o) → h'.get? d = some (PySem.W.dictOf es.toList n) → Q () { s with heap := h' }) : wpAny (model prog w) A (mergeMapping d (.ref a) true) Q E s := by
  have hT : s.TypeIs (.ref a) "dict" := ⟨o, ho, hx.1⟩
  have hsub : isSubtype (.type "dict") (.type "dict") = pure true := by rw [isSubtype_type]; kernel_rfl
  unfold mergeMapping
  refine wpAny_bind (wpAny_isInstance (T := "dict") (b := true) hT hsub ?_)
  show wpAny _ _ (specialOf (.ref a) "__iter__" >>= _) _ _ _
  refine wpAny_bind (wpAny_specialOf hT F.slot_dict_iter.lookup ?_)
  have hb : (some (Value.builtin "dict.__iter__") == some (.builtin "dict.__iter__")) = true := by decide +kernel
  rw [hb]
  refine wpAny_bind (wpAny_pure ?_)
  dsimp only
  rw [hsys, if_neg Bool.false_ne_true]
  refine wpAny_bind (wpAny_dictEntries hd rfl ?_)
  rw [if_pos (by rfl)]
  refine wpAny_bind (wpAny_dictEntries ho hd0 ?_)
  refine wpAny_bind ?_
  rw [← Array.forIn_toList]
  rw [forIn_yield _ (fun b _ => b) es.toList _ (fun e he b => by
    obtain ⟨i, hi⟩ := List.mem_iff_getElem?.mp he
    obtain ⟨p, _, hk, _⟩ := pairs_at hp i e hi
    rcases keyIs_shape (show keyIs p.1 e.key = true from hk) with ⟨_, _, _, h⟩ | ⟨_, _, _, h⟩ <;> (rw [h]; try rfl))]
  refine wpAny_pure ?_
  refine wpAny_bind (wpAny_dictEntries ho hd0 (wpAny_bind (wpAny_dictEpoch ho hd0 ?_)))
  refine wpAny_bind ?_
  rw [List.range_eq_range']
  have main : ∀ (k i n : Nat) (h : Heap), i + k = es.size → h.get? a = some o → (∀ b u, b ≠ d → s.heap.get? b = some u → h.get? b = some u) → h.get? d = some (PySem.W.dictOf (es.toList.take i) n) →
      wpAny (model prog w) A (forIn (List.range' i k) PUnit.unit fun i _ => do
          let z ← dictEntries a
          match z[i]? with
            | some e => do
              holding [e.key, e.val]
                  (if true = true then do
                    let z ← dictFind d e.key e.hash
                    if z.isSome = true then do
                        rule "dict.merge.duplicate-key"
                        let z ← newExc (Value.type "KeyError") [e.key]
                        raiseNew z
                        dictPut d e.hash e.key e.val
                      else dictPut d e.hash e.key e.val
                  else dictPut d e.hash e.key e.val)
              let z ← dictEpoch a
              if (z != ep) = true then do
                  unsupported "dict.changed-during-merge"
                  pure (ForInStep.yield PUnit.unit)
                else pure (ForInStep.yield PUnit.unit)
            | x => do
              unsupported "dict.changed-during-merge"
              pure (ForInStep.yield PUnit.unit)) (fun _ s' => Q () s') E { s with heap := h } := by
    intro k
    induction k with
    | zero =>
      intro i n h hi ha keep hd
      rw [show List.range' i 0 = [] from rfl, List.forIn_nil]
      rw [List.take_of_length_le (by simp; omega)] at hd
      exact wpAny_pure (hQ h n keep hd)
    | succ k ih =>
      intro i n h hi ha keep hd
      have hlt : i < es.size := by omega
      rw [List.range'_succ, List.forIn_cons]
      refine wpAny_bind (wpAny_bind (wpAny_dictEntries ha hd0 ?_))
      rw [Array.getElem?_eq_getElem hlt]
      dsimp only
      have he : es.toList[i]? = some es[i] := by simp [hlt]
      refine wpAny_bind (wpAny_holding (merge_step (s := { s with heap := h }) hd hp hks hn hz he fun h' n' keep' hd' => ?_))
      refine wpAny_bind (wpAny_dictEpoch (s := { s with heap := h' }) (keep' a o hne ha) hd0 ?_)
      rw [if_neg (by simp)]
      exact wpAny_pure (ih (i + 1) n' h' (by omega) (keep' a o hne ha) (fun b u hb hu => keep' b u hb (keep b u hb hu)) hd')
  exact wpAny_mono (main es.size 0 0 s.heap (by omega) ho (fun _ _ _ h => h) hd) (fun _ _ h => wpAny_pure h) fun _ _ z => z
/-- the keywords that such a dict hands on -/
theorem kw_of {f : Value} {d : Addr} {es : List DictEntry} {n : Nat} {kws : List (Str × Value)} {Q : List (Str × Value) → Shared → Prop} (hd : s.heap.get? d = some (PySem.W.dictOf es n)) (hk : ∀ e ∈ es, ∃ k t, e.key = .str k t)
    (he : kws = es.map fun e => (match e.key with | .str k _ => k | _ => Str.empty, e.val)) (hQ : Q kws s) : wpAny (model prog w) A (keywordsIn f d) Q E s := by
  unfold keywordsIn
  refine wpAny_bind (wpAny_dictEntries hd rfl ?_)
  refine wpAny_bind ?_
  rw [← Array.forIn_toList]
  rw [forIn_yield _ (fun (b : List (Str × Value)) (e : DictEntry) => b ++ [(match e.key with | .str k _ => k | _ => Str.empty, e.val)]) _ _ (fun e he b => by
    obtain ⟨k, t, h⟩ := hk e (by simpa using he)
    rw [h])]
  refine wpAny_pure (wpAny_pure ?_)
  have fl : ∀ (l : List DictEntry) (b : List (Str × Value)), l.foldl (fun (b : List (Str × Value)) (e : DictEntry) => b ++ [(match e.key with | .str k _ => k | _ => Str.empty, e.val)]) b = b ++ l.map fun e => (match e.key with | .str k _ => k | _ => Str.empty, e.val) := by
    intro l
    induction l with
    | nil => intro b; simp
    | cons x l ih => intro b; rw [List.foldl_cons, ih]; simp
  rw [fl, List.nil_append]
  subst he
  exact hQ
end
end L3

namespace L3
open PySem PySem.Spec PyProof.Rows L2
section
variable {prog : Program} {w : World} {A : Around} {E : Value → Shared → Prop} {s : Shared} {f : Value} {x : Sem Value}
theorem args_W {Q : Args → Shared → Prop} (h : wpAny (model prog w) A (mergedKeywords f [(none, x)]) (fun d s1 => wpAny (model prog w) A (keywordsIn f d) (fun kw s2 => Q ⟨[], kw⟩ s2) E s1) E s) : wpAny (model prog w) A (evalArgs f true [] [(none, x)]) Q E s := by
  unfold evalArgs
  show wpAny _ _ (spliced [] >>= _) _ _ _
  refine wpAny_bind (PySem.Calls.spliced_nil ?_)
  refine wpAny_bind (wpAny_pure ?_)
  refine wpAny_holding ?_
  show wpAny _ _ (mergedKeywords f [(none, x)] >>= _) _ _ _
  refine wpAny_bind (wpAny_mono h (fun d s1 h1 => ?_) fun _ _ z => z)
  refine wpAny_bind (wpAny_pure ?_)
  refine wpAny_bind (wpAny_holding (wpAny_mono h1 (fun kw s2 h2 => wpAny_pure h2) fun _ _ z => z))
theorem call_W {K : PySem.W.Frag} {first : List Value} {pos : Pos} {Q : Value → Shared → Prop} (hk : PySem.W.keepIn K f = true) (h : wpAny (model prog w) A (evalArgs f true [] [(none, x)]) (fun a s1 => K.In s1.heap ∧ wpAny (model prog w) A (call f (first ++ a.pos) a.kw) Q E s1) E s) :
    wpAny (model prog w) A (callWith pos f first [] [(none, x)]) Q E s := by
  unfold callWith
  refine wpAny_bind (wpAny_holding (wpAny_mono h (fun a s1 h1 => wpAny_bind (wpAny_standAt ?_)) fun _ _ z => z))
  obtain ⟨k, hk', L⟩ := PySem.W.keeps_K (M := model prog w) hk _ h1.1
  refine wpAny_bind (L.here ?_)
  have tail : ∀ {t : Sem Value}, wpAny (model prog w) A t Q E s1 → wpAny (model prog w) A (t >>= fun r => holding [r] point >>= fun _ => pure r) Q E s1 :=
    fun ht => wpAny_bind (wpAny_mono ht (fun r s2 hr => wpAny_bind (wpAny_holding (wpAny_point (wpAny_pure hr)))) fun _ _ z => z)
  have marked (mk : Value) : wpAny (model prog w) A (callMarked mk f (first ++ a.pos) a.kw) Q E s1 := by unfold callMarked; exact Calls.wpAny_keep h1.2
  rcases hk' with rfl | rfl | rfl <;> dsimp only <;> first | exact tail (marked _) | exact tail (wpAny_operating h1.2)
end
end L3

namespace L3
open PySem PySem.Spec PyProof.Rows L2
section
variable {X : Cx} {CX : CXT} {k : Nat} {f C : Addr} {E : XK}
theorem make_atW {sp : List V → List (Str × V) → Hp → VK → XK → Prop} {pins : List (Addr × Obj)} {σ : L2.St} {H : Hp} {s : Shared} {Q : VK} {us : List Value} {vs : List V} {kvs : List (Str × V)} {kws : List (Str × Value)} (M : Mk X.K C f) (F : FnW X.prog X.w X.K X.mg X.base CX k f sp)
    (hr : Room (k + 1) X.A) (hx : PassesAt CX X σ E) (I : Inv X pins σ H s) (r : Vals vs us) (rk : KV kvs kws)
    (h : ∀ x dx, H x = none → H dx = none → dx ≠ x → sp (V.ref x :: vs) kvs (upd (upd H dx (.own x)) x (.ins C dx [])) (fun v H2 => v = .non ∧ Q (.ref x) H2) E) :
    wpAny (model X.prog X.w) X.A (call (.ref C) us kws) (EP X pins σ Q) X.xe s := by
  have hq := h (s.heap.objs.size + 1) s.heap.objs.size (I.hok.fresh (Nat.le_succ _))
    (I.hok.fresh (Nat.le_refl _)) (Nat.ne_of_lt (Nat.lt_succ_self _))
  have J := Inv.made (C := C) I
  have r2 : Vals (V.ref (s.heap.objs.size + 1) :: vs)
      (Value.ref (s.heap.objs.size + 1) :: us) := .cons rfl r
  refine wpAny_call (make_map (f := f) I.kIn M.makes M.init (beq_iff_eq.mp M.fn) (codeAny_mono (F _ X.stack _ _ _ _ kws kvs _ E (hr.make C us kws) (J.env0.make C us kws) r2 rk hq) fun r s' hq' => ?_))
  match r, hq' with
  | .error e, hq' => exact hx pins _ _ e s' J hq'
  | .ok (.ret u), hq' =>
    obtain ⟨v, H', I3, rv, ev, q3⟩ := J.after hq'
    subst ev
    exact ⟨rv, V.ref (s.heap.objs.size + 1), H', I3, rfl, q3⟩
  | .ok .next, hq' => exact hq'.elim
  | .ok .brk, hq' => exact hq'.elim
  | .ok .cont, hq' => exact hq'.elim
end
theorem kv_fst {κ : Type} : ∀ {kvs : List (κ × V)} {vs : List (κ × Value)}, KV kvs vs → kvs.map (·.1) = vs.map (·.1)
  | _, _, .nil => rfl
  | _, _, .cons a t => by rw [List.map_cons, List.map_cons, kv_fst t, a.1]
theorem kw_rel {P : Program} {w : World} : ∀ {kvs : List (Key × V)} {vs : List (Key × Value)} {es : List DictEntry}, KV kvs vs → Pairs (mixKind P w) es vs → (∀ p ∈ kvs, ∃ k, p.1 = Sum.inr k) →
    ∃ ks : List (Str × V), ks.map keyS = kvs ∧ KV ks (es.map fun e => (match e.key with | .str k _ => k | _ => Str.empty, e.val)) ∧ ∀ e ∈ es, ∃ k t, e.key = .str k t
  | [], _, _, .nil, .nil, _ => ⟨[], rfl, .nil, fun _ h => nomatch h⟩
  | p :: r, _, _, .cons (b := q) a t, .cons (e := e) hk hv u, h => by
    obtain ⟨ks, h1, h2, h3⟩ := kw_rel t u fun x hx => h x (.tail _ hx)
    obtain ⟨k, hp⟩ := h p (.head _)
    have hq : q.1 = Sum.inr k := a.1.symm.trans hp
    rw [hq] at hk
    rcases keyIs_shape (show keyIs (Sum.inr k) e.key = true from hk) with ⟨_, _, z, _⟩ | ⟨y, t', z, he⟩
    · cases z
    · cases z
      obtain ⟨p1, p2⟩ := p
      subst hp
      refine ⟨(k, p2) :: ks, by rw [List.map_cons, h1]; rfl, .cons ⟨by show k = (match e.key with | .str k _ => k | _ => Str.empty); rw [he], by show RelV p2 e.val; rw [hv]; exact a.2⟩ h2, fun x hx => ?_⟩
      rcases List.mem_cons.mp hx with rfl | hx
      · exact ⟨k, t', he⟩
      · exact h3 x hx
section
variable {X : Cx} {CX : CXT} {k i : Nat} {f C : Addr} {E : L2.St → XK} {x y : Str} {p p2 pos : Pos}
/-- C(**y), y the i-th slot, a dict with text keys -/
def tMkS (C : Addr) (sp : List V → List (Str × V) → Hp → VK → XK → Prop) (E : L2.St → XK) (i : Nat) : TE := fun σ H Q => ∃ a kvs, σ[i]? = some (some (.ref a)) ∧ H a = some (.dK kvs) ∧ kvs.length ≤ 1000 ∧ (∀ p ∈ kvs, ∃ k, p.1 = Sum.inr k) ∧
  ∀ ks : List (Str × V), ks.map keyS = kvs → (ks.map (·.1)).Nodup → ∀ x dx, H x = none → H dx = none → dx ≠ x → sp [V.ref x] ks (upd (upd H dx (.own x)) x (.ins C dx [])) (fun v H2 => v = .non ∧ Q (.ref x) H2) (E σ)
theorem mkS_at {sp : List V → List (Str × V) → Hp → VK → XK → Prop} {pins : List (Addr × Obj)} {σ : L2.St} {H : Hp} {s : Shared} {Q : VK} {kpos : Pos} (M : Mk X.K C f) (F : FnW X.prog X.w X.K X.mg X.base CX k f sp) (hr : Room (k + 1) X.A) (hx : PassesAt CX X σ (E σ)) (hN : X.N[i]? = some y) (hv : Vis X.env.scope y)
    (I : Inv X pins σ H s) (h : tMkS C sp E i σ H Q) (hdb : (y == ("__debug__" : Str)) = false := by decide) (hcd : (y == ("__classdict__" : Str)) = false := by decide) :
    wpAny (model X.prog X.w) X.A (callWith pos (.ref C) [] (backTo pos (starEach [] X.env)) (backToKw pos (keywordEach [⟨none, .Name y p2, kpos⟩] X.env))) (EP X pins σ Q) X.xe s := by
  obtain ⟨a, kvs, hs, ha, hz, hin, hq⟩ := h
  show wpAny _ _ (callWith pos (.ref C) [] [] [(none, _)]) _ _ _
  refine call_W (K := X.K) M.kp (args_W (merged_1 ?_))
  have I1 := ClX.pin_new (o := PySem.W.dictOf [] 0) (t' := s.toks) I (fun _ _ z => Heap.get?_push_of_some _ z) (Nat.le_refl _) (Heap.get?_push_size s.heap rfl) (fun v z => nomatch z)
  refine wpAny_bind (wpAny_mono ((pe_var (pos := p2) hN hv hdb hcd).run _ _ σ H (fun v H1 => v = .ref a ∧ H1 = H) I1 ⟨.ref a, hs, rfl, rfl⟩) (fun u s1 ⟨v, H1, I2, r1, e1, e2⟩ => wpAny_bind (wpAny_standAt (wpAny_pure ?_))) fun _ _ z => z)
  subst e1 e2
  cases r1
  have hd := ClX.pin_at I2
  have hdn := ClX.pin_un I2
  obtain ⟨hl, hsys, vs, kv, o, es, ep, ho, hxd, hdat, hks, hp, hnd⟩ := (show ObjOk X.prog X.w H1 s1.heap a (.dK kvs) from I2.hok a _ ha)
  have hne : a ≠ s.heap.objs.size := fun z => by
    dsimp only at hdn
    rw [← z, ha] at hdn; cases hdn
  obtain ⟨ks, k1, k2, k3⟩ := kw_rel kv hp hin
  have hes : es.size ≤ 1000 := by
    have a1 := hp.length
    have a2 := kv_len kv
    rw [Array.length_toList] at a1
    omega
  refine merge_dict ho hxd hdat hne hsys hd hp hks hnd hes fun h' n keep hd' => ?_
  refine kw_of (s := { s1 with heap := h' }) hd' k3 rfl ?_
  have J0 := ClX.unpin I2
  have fp := I.fpOk (H' := H1) (Nat.le_refl _) hdn
  obtain ⟨f0, f1, f2, f3, f4, f5⟩ := fp
  have J : Inv X pins σ H1 { s1 with heap := h' } := J0.turned (t' := s1.toks) (it := s.heap.objs.size) (fun b o hb q => keep b o hb q) f0 f1 f3 f4 f5
  refine ⟨J.kIn, ?_⟩
  have hn : (ks.map (·.1)).Nodup := by
    have e : kvs.map (·.1) = vs.map (·.1) := kv_fst kv
    rw [← e, ← k1, List.map_map] at hnd
    have : (ks.map ((fun p : Key × V => p.1) ∘ keyS)) = (ks.map (·.1)).map Sum.inr := by rw [List.map_map]; rfl
    rw [this] at hnd
    exact List.Pairwise.of_map Sum.inr (fun a b h z => h (by rw [z])) hnd
  exact make_atW M F hr hx J .nil k2 (hq ks k1 hn)
end
end L3

namespace L3
open PySem PySem.Spec PyProof.Rows L2
/-! ### over data -/
/-- what an __init__(self, **fields) promises: dsp of the object and its dict of keywords -/
def spKw (K : PySem.W.Frag) (p1 : Str) (dsp : DSp) : List V → List (Str × V) → Hp → VK → XK → Prop := fun vs kvs H Q E =>
  ∃ v, vs = [v] ∧ (kvs.map (·.1)).Nodup ∧ (∀ x ∈ kvs, (x.1 == p1) = false) ∧ kvs.length ≤ sizeLine ∧ ∀ d, H d = Option.none → toSp K dsp [v, .ref d] (upd H d (.dK (kvs.map keyS))) Q E
section
variable {P : Program} {w : World} {K : PySem.W.Frag} {mg : Str → Option Value} {base : Heap}
theorem dfnK {x qual p1 pd : Str} {st : Stmt} {f : Addr} {fd : FuncData} {N : List Str} {k : Nat} {sp : DSp} {wb : RXe → WS} (F : Fun K x qual st f fd) (S : FnScope N [p1, pd] (defScope st))
    (h1 : (defArgs st).posonlyargs = []) (h2 : (defArgs st).args.map (·.arg) = [p1]) (h3 : (defArgs st).kwonlyargs = []) (h4 : (defArgs st).vararg = none) (h5 : (defArgs st).kwarg.map (·.arg) = some pd)
    (body : ∀ (cdv : Value) (A : Around) (outer : List Env) (s : Shared) (H : Hp) (E : XK), Room k (A.deeper (envOfC qual (defScope st) s.heap.objs.size f cdv)) → ∀ (B : Bs) (RX : RXe), Takes (cxOf (L2.CX P w) P w K mg base N qual (defScope st) f cdv A outer s H E) (WL K B RX) → DSs B (cxOf (L2.CX P w) P w K mg base N qual (defScope st) f cdv A outer s H E) (defBody st) (wb RX))
    (hw : ∀ ds M R RX, sp ds M R RX → M.all (cellOk M.length) = true → noCels M.length ds = true → wb (fun nm fs _ M' => rxF M.length RX nm fs M') (fnEnds M.length R) (startE N.length ds) M) :
    FnW P w K mg base (L2.CX P w) (k + 1) f (spKw K p1 sp) := by
  obtain ⟨oc, od, kV, doc, pm, an, cdv, ct, osl, rfl, lk, hcd⟩ := F.ex
  exact fn_kwd lk hcd S StX.cxUp h1 h2 h3 h4 h5 fun A outer s H vs Q E hr h => bodyX h (fun B RX => body cdv A outer s H E hr B RX) hw
end
section
variable {X : Cx} {B : Bs} {CX : CXT} {k i j : Nat} {f C : Addr} {sp : DSp} {n x y p1 : Str} {p p2 kpos pos : Pos} {was : WA} {RX : RXe} {kws : List Keyword} {names : List Str}
theorem keys_nth {K : PySem.W.Frag} {P : Hp} {al : List Addr} : ∀ {ks : List (Key × D)} {kvs : List (Key × V)}, RepKs K P al ks kvs → ks.map (·.1) = kvs.map (·.1)
  | _, _, .nil => rfl
  | _, _, .cons _ t => by rw [List.map_cons, List.map_cons, keys_nth t]
theorem mk_spW {K : PySem.W.Frag} {P : Hp} {al : List Addr} {M : Mt} {env : Ev} {σ : L2.St} {H : Hp} {R : D → Mt → Prop} {Q : VK} {ks : List (Key × D)} {kvs : List (Str × V)} {a dx : Addr} (ca : ClsAt K n C) (rs : RS K B P al M env σ H) (rk : RepKs K P al ks (kvs.map keyS)) (L : Lift K B P al env σ H R Q)
    (hx : H a = none) (hd : H dx = none) (ne : dx ≠ a) (hn : (kvs.map (·.1)).Nodup) (hp : ∀ z ∈ kvs, (z.1 == p1) = false) (hz : kvs.length ≤ sizeLine) (h : sp [.cel M.length, .dct ks] (M ++ [.obj n []]) (fun d M2 => d = .non ∧ mkEnd M R M2) fun n fs M' => RX n fs env M') :
    spKw K p1 sp [V.ref a] kvs (upd (upd H dx (.own a)) a (.ins C dx [])) (fun v H2 => v = .non ∧ Q (.ref a) H2) (L2.WE (WL K B RX) σ) := by
  refine ⟨_, rfl, hn, hp, hz, fun d hd' => ?_⟩
  have n1 : d ≠ a := fun z => by rw [z, upd_same] at hd'; cases hd'
  have n2 : d ≠ dx := fun z => by rw [z, upd_ne ne, upd_same] at hd'; cases hd'
  have h0 : H d = none := by rw [upd_ne n1, upd_ne n2] at hd'; exact hd'
  obtain ⟨e1, r1⟩ := rs.toRS0.alloc h0 (.dK (kvs.map keyS))
  have eq : upd (upd (upd H dx (.own a)) a (.ins C dx [])) d (.dK (kvs.map keyS)) = upd (upd (upd H d (.dK (kvs.map keyS))) dx (.own a)) a (.ins C dx []) := by
    funext b
    by_cases b1 : b = d
    · rw [b1, upd_same, upd_ne n1, upd_ne n2, upd_same]
    · rw [upd_ne b1]
      by_cases b2 : b = a
      · rw [b2, upd_same, upd_same]
      · rw [upd_ne b2, upd_ne b2]
        by_cases b3 : b = dx
        · rw [b3, upd_same, upd_same]
        · rw [upd_ne b3, upd_ne b3, upd_ne b1]
  rw [eq]
  exact mk_sp ca (rs.step e1 r1) (.cons (.dct upd_same (rk.mono e1.pp e1.pre)) .nil) (L.after e1) (by rw [upd_ne (Ne.symm n1)]; exact hx) (by rw [upd_ne (Ne.symm n2)]; exact hd) ne (fun _ _ h => ⟨h.1, .inr h.2⟩) h
/-- C(**y): y's dict -/
def wMkS (n p1 : Str) (sp : DSp) (RX : RXe) (i : Nat) : WE := fun env M R => match env[i]? with
  | some (some d) => match viewD M d with
    | .dct ks => Need (ks.length ≤ 1000 ∧ ∀ p ∈ ks, ∃ k, p.1 = Sum.inr k ∧ (k == p1) = false) ∧ sp [.cel M.length, .dct ks] (M ++ [.obj n []]) (fun d M2 => d = .non ∧ mkEnd M R M2) fun n fs M' => RX n fs env M'
    | _ => False
  | _ => False
theorem mkS_in (ca : ClsAt X.K n C) {σ : L2.St} {H : Hp} {Q : VK} (h : tD X.K B (wMkS n p1 sp RX i) σ H Q) : tMkS C (spKw X.K p1 sp) (L2.WE (WL X.K B RX)) i σ H Q := by
  obtain ⟨P, al, M, env, R, rs, hw, L⟩ := h
  unfold wMkS at hw
  split at hw
  · rename_i d hd
    split at hw
    · rename_i ks ev
      obtain ⟨hn, hw⟩ := hw
      obtain ⟨hl, hk⟩ := hn.out
      obtain ⟨v, s1, r⟩ := rs.slot i d hd
      obtain ⟨a, kvs, rfl, ha, rk⟩ := view_dct rs.toRS0 r ev
      have hkeys := keys_nth rk
      have hl' : kvs.length = ks.length := by have := congrArg List.length hkeys; simpa using this.symm
      have mem : ∀ q ∈ kvs, ∃ p ∈ ks, p.1 = q.1 := fun q hq => by
        have : q.1 ∈ ks.map (·.1) := by rw [hkeys]; exact List.mem_map_of_mem hq
        obtain ⟨p, hp, e⟩ := List.mem_map.mp this
        exact ⟨p, hp, e⟩
      refine ⟨a, kvs, s1, ha, by omega, fun q hq => ?_, fun zs hz hnd x dx hx hdx ne => ?_⟩
      · obtain ⟨p, hp, e⟩ := mem q hq
        obtain ⟨k, hk, _⟩ := hk p hp
        exact ⟨k, e.symm.trans hk⟩
      · subst hz
        refine mk_spW ca rs rk L hx hdx ne hnd (fun z hz => ?_) (Nat.le_trans (by simpa using (show (zs.map keyS).length ≤ 1000 by omega)) (by decide : 1000 ≤ sizeLine)) hw
        obtain ⟨p, hp, e⟩ := mem (keyS z) (List.mem_map_of_mem hz)
        obtain ⟨k, hk, hne⟩ := hk p hp
        have : Sum.inr k = (Sum.inr z.1 : Key) := hk.symm.trans e
        cases this
        exact hne
    · exact hw.elim
  · exact hw.elim
theorem d_mkS (ca : ClsAt X.K n C) (Mc : Mk X.K C f) (F : FnW X.prog X.w X.K X.mg X.base CX k f (spKw X.K p1 sp)) (hr : Room (k + 1) X.A) (hx : Rz X B CX RX) (hg : Gl X x) (hm : X.mg x = some (.ref C)) (hN : X.N[i]? = some y) (hv : Vis X.env.scope y) (hdx : (x == ("__debug__" : Str)) = false := by decide)
    (hdb : (y == ("__debug__" : Str)) = false := by decide) (hcd : (y == ("__classdict__" : Str)) = false := by decide) : DE B X (.Call (.Name x p) [] [⟨none, .Name y p2, kpos⟩] pos) (wMkS n p1 sp RX i) :=
  ⟨fun pins s σ H Q I h => wpAny_Call_Name_kw (ld_glob I hg hm (mkS_at Mc F hr (hx σ) hN hv I (mkS_in ca h) hdb hcd) hdx)⟩
/-- cls(**y) -/
def wMkSL (j : Nat) (n p1 : Str) (sp : DSp) (RX : RXe) (i : Nat) : WE := fun env M R => match env[j]? with
  | some (some (.cls n')) => Need (n' = n) ∧ wMkS n p1 sp RX i env M R
  | _ => False
theorem d_mkSL (ca : ClsAt X.K n C) (Mc : Mk X.K C f) (F : FnW X.prog X.w X.K X.mg X.base CX k f (spKw X.K p1 sp)) (hr : Room (k + 1) X.A) (hx : Rz X B CX RX) (hNx : X.N[j]? = some x) (hvx : Vis X.env.scope x) (hN : X.N[i]? = some y) (hv : Vis X.env.scope y) (hdx : (x == ("__debug__" : Str)) = false := by decide)
    (hcx : (x == ("__classdict__" : Str)) = false := by decide) (hdb : (y == ("__debug__" : Str)) = false := by decide) (hcd : (y == ("__classdict__" : Str)) = false := by decide) : DE B X (.Call (.Name x p) [] [⟨none, .Name y p2, kpos⟩] pos) (wMkSL j n p1 sp RX i) := by
  refine ⟨fun pins s σ H Q I h => ?_⟩
  obtain ⟨P, al, M, env, R, rs, hw, L⟩ := h
  unfold wMkSL at hw
  split at hw
  · rename_i n' en
    obtain ⟨hn, hw⟩ := hw
    have hn := hn.out
    subst hn
    obtain ⟨v, h1, h2⟩ := rs.slot j _ en
    cases h2 with
    | cls c2 =>
      obtain rfl := ca.one c2
      refine wpAny_Call_Name_kw (thn ((pe_var (pos := p) hNx hvx hdx hcx).run pins s σ H (fun v H1 => v = .ref C ∧ H1 = H) I ⟨.ref C, h1, rfl, rfl⟩) fun u s1 ⟨v, H1, I1, r1, q1⟩ => ?_)
      obtain ⟨rfl, rfl⟩ := q1
      cases r1
      exact mkS_at Mc F hr (hx σ) hN hv I1 (mkS_in ca ⟨P, al, M, env, R, rs, hw, L⟩) hdb hcd
  · exact hw.elim
end
end L3

namespace L3
open PySem PySem.Spec PyProof.Rows L2
theorem _root_.L2.PK.imp {X : Cx} {kws : List Keyword} {t u : TA} (h : PK X kws t) (i : ∀ σ H Q, u σ H Q → t σ H Q) : PK X kws u := ⟨fun pos pins s σ H Q I q => h.run pos pins s σ H Q I (i σ H Q q)⟩
abbrev DK (B : Bs) (X : Cx) (kws : List Keyword) (w : WA) : Prop := PK X kws (tDA X.K B w)
section
variable {X : Cx} {B : Bs} {CX : CXT} {k : Nat} {f C : Addr} {sp : DSp} {n x p1 : Str} {nm : Option Str} {p kpos pos : Pos} {e : Expr} {we : WE} {was : WA} {RX : RXe} {kws : List Keyword} {names : List Str}
theorem dk_nil : DK B X [] wNil := by
  refine pk_nil.imp fun σ H Q => ?_
  rintro ⟨P, al, M, env, R, rs, hw, L⟩
  exact L _ _ _ _ _ _ Ext.refl rs .nil hw
theorem dk_cons (ha : DE B X e we) (hr : DK B X kws was) : DK B X (⟨nm, e, kpos⟩ :: kws) (wCons we was) := by
  refine (pk_cons ha hr).imp fun σ H Q => ?_
  rintro ⟨P, al, M, env, R, rs, hw, L⟩
  exact ⟨P, al, M, env, _, rs, hw, fun d M1 v H1 P1 al1 e1 rs1 r1 hw1 => ⟨P1, al1, M1, env, _, rs1, hw1, fun ds M2 vs H2 P2 al2 e2 rs2 r2 q =>
    L _ _ _ _ _ _ (e1.trans e2) rs2 (.cons (r1.mono e2.pp e2.pre) r2) q⟩⟩
theorem zip_keys {K : PySem.W.Frag} {P : Hp} {al : List Addr} : ∀ {ns : List Str} {ds : List D} {vs : List V}, Reps K P al ds vs → RepKs K P al ((ns.zip ds).map fun p => ((Sum.inr p.1 : Key), p.2)) ((ns.zip vs).map keyS)
  | [], _, _, _ => .nil
  | _ :: _, _, _, .nil => .nil
  | _ :: _, _, _, .cons r t => .cons r (zip_keys t)
theorem zip_kv : ∀ {ns : List Str} {vs : List V} {us : List Value}, Vals vs us → KV (ns.zip vs) (ns.zip us)
  | [], _, _, _ => .nil
  | _ :: _, _, _, .nil => .nil
  | _ :: _, _, _, .cons r t => .cons ⟨rfl, r⟩ (zip_kv t)
end
/-! ### a list that is no longer changed, published ahead of a statement -/
section
variable {X : Cx} {B : Bs} {st : Stmt} {w : WS} {i : Nat}
theorem d_frz (h : DS B X st w) : DS B X st (wFrz i w) := by
  refine h.imp fun D σ H => ?_
  rintro ⟨P, al, M, env, k, rs, hw, L⟩
  unfold wFrz at hw
  split at hw
  · rename_i d hd
    obtain ⟨v, hv, r⟩ := rs.slot i d hd
    obtain ⟨d', M', P', e, r0, rd, q⟩ := frz_ok rs.toRS0 r hw
    refine ⟨P', al, M', _, k, ⟨r0, by rw [List.length_map]; exact rs.slen, fun j z hz => ?_⟩, q, L.after e⟩
    rw [List.getElem?_map] at hz
    cases ho : env[j]? with
    | none => rw [ho] at hz; cases hz
    | some o =>
      rw [ho] at hz
      cases o with
      | none => cases hz
      | some y =>
        obtain ⟨v2, hv2, r2⟩ := rs.slot j y ho
        have r2' := r2.mono e.pp e.pre
        have key : (z = y) ∨ (z = d' ∧ v2 = v) := by
          dsimp only [Option.map] at hz
          split at hz
          · rename_i m n
            split at hz
            · rename_i hmn
              subst hmn
              refine .inr ⟨(Option.some.inj (Option.some.inj hz)).symm, ?_⟩
              cases r with
              | cel a1 => cases r2 with
                | cel a2 => rw [a1] at a2; cases a2; rfl
            · exact .inl (Option.some.inj (Option.some.inj hz)).symm
          · exact .inl (Option.some.inj (Option.some.inj hz)).symm
        rcases key with rfl | ⟨rfl, rfl⟩
        · exact ⟨v2, hv2, r2'⟩
        · exact ⟨_, hv2, rd⟩
  · exact hw.elim
end
end L3


namespace L3
open PySem PySem.Spec PyProof.Rows L2
/-! ### operators by own methods -/
structure OpC (K : PySem.W.Frag) (C : Addr) (m : Str) (f : Addr) : Prop where
  at_ : PySem.W.findIn K (.ref C) m = some (some (.ref f))
  fn : PySem.W.isFn K (.ref f) = true
section
variable {X : Cx} {CX : CXT} {k : Nat} {f C : Addr} {E : XK}
/-- the callee runs, called from a built-in -/
theorem run_in1 {sp : Sp} {pins : List (Addr × Obj)} {σ : L2.St} {H : Hp} {s : Shared} {Q : VK} {us : List Value} {vs : List V} (F : FnR X.prog X.w X.K X.mg X.base CX k f sp) (hr : Room (k + 1) X.A) (hx : PassesAt CX X σ E) (I : Inv X pins σ H s) (r : Vals vs us) (h : sp vs H Q E) :
    codeAny (model X.prog X.w) X.A.in1 (.call (.ref f) ⟨us, []⟩) (fun r s' => match r with
      | .ok (.ret v) => EP X pins σ Q v s'
      | .ok _ => False
      | .error e => X.xe e s') s := by
  refine codeAny_mono (F X.A.in1 X.stack s H us vs Q E hr.in1 I.env0.in1 r h) fun r s' hq => ?_
  match r, hq with
  | .error e, hq => exact hx pins H s e s' I hq
  | .ok (.ret u), hq => exact I.after hq
  | .ok .next, hq => exact hq.elim
  | .ok .brk, hq => exact hq.elim
  | .ok .cont, hq => exact hq.elim
end
section
variable {X : Cx} {B : Bs} {CX : CXT} {k : Nat} {f C : Addr} {sp : DSp} {n : Str} {a b : Expr} {wa wb : WE} {op : Operator} {pos : Pos} {RX : RXe}
theorem view_objOf {K : PySem.W.Frag} {B : Bs} {P : Hp} {al : List Addr} {M : Mt} {H : Hp} {d : D} {v : V} {fs : List (Str × D)} (ca : ClsAt K n C) (r : RS0 K B P al M H) (q : Rep K P al d v) (e : viewD M d = .obj n fs) : ∃ a dx xs, v = .ref a ∧ H a = some (.ins C dx xs) := by
  obtain ⟨a, C', dx, xs, rfl, ha, hc, _⟩ := view_obj r q e
  obtain rfl := ca.one hc
  exact ⟨a, dx, xs, rfl, ha⟩
/-- o[i], o of the class n, by its own __getitem__ -/
def wSubO (n : Str) (sp : DSp) (RX : RXe) (wa wb : WE) : WE := fun env M R => wa env M fun x M1 => wb env M1 fun y M2 => match viewD M2 x with
  | .obj n1 _ => Need (n1 = n) ∧ sp [x, y] M2 R fun n fs M' => RX n fs env M'
  | _ => False
theorem d_subO (ca : ClsAt X.K n C) (oc : OpC X.K C "__getitem__" f) (hf : PySem.W.fnIn X.K f = true) (F : FnR X.prog X.w X.K X.mg X.base CX k f (toSp X.K sp)) (hr : Room (k + 1) X.A) (hx : Rz X B CX RX) (ha : DE B X a wa) (hb : DE B X b wb)
    (hs : ∀ (x : Addr) (i : Value), subscripted b true (.ref x) i = runValue (.builtin "lifetime.subscript" ⟨[.ref x, i], []⟩) := by intros; with_unfolding_all rfl) : DE B X (.Subscript a b pos) (wSubO n sp RX wa wb) := by
  refine ⟨fun pins s σ H Q I h => ?_⟩
  obtain ⟨P, al, M, env, R, rs, hw, L⟩ := h
  refine Subscript_ (binT (ta := tD X.K B wa) (tb := tD X.K B wb) (R := fun x y H1 => ∃ p dx fs, x = .ref p ∧ H1 p = some (.ins C dx fs) ∧ toSp X.K sp [.ref p, y] H1 Q (L2.WE (WL X.K B RX) σ)) ha hb I ⟨P, al, M, env, _, rs, hw, fun x M1 v H1 P1 al1 e1 rs1 r1 hw1 => ⟨P1, al1, M1, env, _, rs1, hw1, fun y M2 v2 H2 P2 al2 e2 rs2 r2 q => ?_⟩⟩ fun v u s2 x y H2 I2 rx ry q => ?_)
  · split at q
    · rename_i n1 fs1 v1
      obtain ⟨hn, q⟩ := q
      have h1 := hn.out
      subst h1
      have r1' := r1.mono e2.pp e2.pre
      obtain ⟨p, dx, xs, rfl, hp⟩ := view_objOf ca rs2.toRS0 r1' v1
      exact ⟨p, dx, xs, rfl, hp, sp_at rs2 (.cons r1' (.cons r2 .nil)) (L.after (e1.trans e2)) q⟩
    · exact q.elim
  · obtain ⟨p, dx, fs, rfl, hp, h⟩ := q
    cases rx
    obtain ⟨m, fr⟩ := I2.fr
    obtain ⟨_, O, _⟩ := ins_get I2.hok hp
    obtain ⟨od, J, _⟩ := O.look
    exact PySem.W.sub_K fr I2.ok.mod.kin J oc.at_ hf oc.fn (wpAny_call (run_in1 (us := [.ref p, u]) (vs := [.ref p, y]) F hr (hx σ) I2 (.cons rfl (.cons ry .nil)) h)) (hs _ _)
end
end L3

namespace L3
open PySem PySem.Spec PyProof.Rows L2
/-! ### static methods read off their class -/
section
variable {X : Cx} {B : Bs} {CX : CXT} {k : Nat} {C p g : Addr} {mc : Value} {sp : DSp} {n m : Str} {pos apos : Pos} {e o : Expr} {es : List Expr} {was : WA} {wo : WE} {RX : RXe} {dvs : List V} {dds : List D}
end
end L3

namespace L3
open PySem PySem.Spec PyProof.Rows L2
/-! ### defs (a, .., *v, k1, k2) called with their keywords -/
section
variable {CX : CXT} {P : Program} {w : World} {K : PySem.W.Frag} {mg : Str → Option Value} {base : Heap} {k : Nat} {f : Addr} {name qual : Str} {params : Arguments} {body : List Stmt} {scope : Scope} {dV kV doc pm cdv ct oc : Value} {an od : Option Addr}
  {osl : Array (Option Value)} {N ps ks : List Str} {pv : Str} {sp : Sp}
end
section
variable {P : Program} {w : World} {K : PySem.W.Frag} {mg : Str → Option Value} {base : Heap}
end
section
variable {prog : Program} {w : World} {A : Around} {E : Value → Shared → Prop} {s : Shared} {f : Value}
end
section
variable {X : Cx} {B : Bs} {CX : CXT} {k np : Nat} {f C : Addr} {sp : DSp} {n x : Str} {p kpos pos : Pos} {e : Expr} {es : List Expr} {was wks : WA} {RX : RXe} {kws : List Keyword} {names : List Str}
end
end L3

namespace L3
open PySem PySem.Spec PyProof.Rows L2
/-! ### while -/
section
variable {X : Cx} {B : Bs} {c : Expr} {body : List Stmt} {pos : Pos} {t : WT} {b : WS}
end
/-! ### y = [..], and lists that will change -/
section
variable {K : PySem.W.Frag} {B : Bs} {wi : WI} {g : TG} {is vs : List Nat} {t : WTs} {we : WE}
theorem lc_in (bn : Binds1 K g is vs) {σ : L2.St} {H : Hp} {P : Hp} {al : List Addr} {M : Mt} {env : Ev} {R : D → Mt → Prop} {Q : VK} (rs : RS K B P al M env σ H) (hw : wLc wi is t we vs env M R) (L : Lift K B P al env σ H R Q) : tLc (tDI K B wi) g (tDT K B t) (tD K B we) vs σ H Q := by
  refine lc_imp (fin := fun acc M R => R (.lst acc) M) bn (fun P al M σ H p acc vs R Q H0 P0 al0 rs e hp np na hb hv ra hr hq => ?_) rs hw L
  have sm : Same P (upd P p (.lst vs)) := fun b x h => by rw [upd_ne (ne_of_none h np)]; exact h
  refine hq _ _ _ _ (e.pub hp np (.lst vs)) ⟨rs.toRS0.pub np na hb hv, rs.slen, fun j d h => ?_⟩ (.lst upd_same (ra.mono sm (List.prefix_refl _))) hr
  obtain ⟨v, h1, h2⟩ := rs.slot j d h
  exact ⟨v, h1, h2.mono sm (List.prefix_refl _)⟩
end
section
variable {X : Cx} {B : Bs} {e : Expr} {tg elt : Expr} {ifs : List Expr} {scope : Scope} {own : List (Str × Nat)} {g : TG} {is : List Nat} {wi : WI} {t : WTs} {we : WE} {pos spos py : Pos} {i : Nat} {y : Str}
def wSetLc (i : Nat) (w : WE) : WS := fun k env M => w env M fun d M1 => k.nx (env.set i (some d)) M1
theorem d_setLc (hc : X.calm = true) (hN : X.N.Nodup) (hy : X.N[i]? = some y) (hyl : X.env.scope.names.lookup y = some .local)
    (hsw : swapsWith (.ListComp elt [⟨tg, e, ifs, 0⟩] scope pos) (some (.Name y py)) spos.line X.env = pure true) (hi : DI B X tg e wi) (ok : BlkOk X.N X.env.scope scope own)
    (hg : ∀ (s : Shared) (H : Hp) (C : Addr) (cl : List (Str × Addr)) (fp : List Addr), PG (X.blk s H scope (compEnvC scope cl C X.env) fp) tg g) (bn : Binds1 X.K g is (own.map (·.2)))
    (ht : ∀ (s : Shared) (H : Hp) (C : Addr) (cl : List (Str × Addr)) (fp : List Addr), DTs B (X.blk s H scope (compEnvC scope cl C X.env) fp) ifs t)
    (he : ∀ (s : Shared) (H : Hp) (C : Addr) (cl : List (Str × Addr)) (fp : List Addr), DE B (X.blk s H scope (compEnvC scope cl C X.env) fp) elt we) (hs : ∀ x, foldedSetIterable e X.env x = pure x := by intro _; rfl) :
    DS B X (.Assign [.Name y py] (.ListComp elt [⟨tg, e, ifs, 0⟩] scope pos) spos) (wSetLc i (wLc wi is t we (own.map (·.2)))) := by
  refine (ps_setLc (i := i) (tt := tDT X.K B t) (te := tD X.K B we) hc hN hy hyl hsw hi ok hg ht he hs).imp fun D σ H => ?_
  rintro ⟨P, al, M, env, k, rs, hw, L⟩
  exact lc_in bn rs hw fun d M1 v H1 P1 al1 e1 rs1 r1 q => L.nx _ _ _ _ _ _ e1 (rs1.put i r1) q
end
/-! ### sum, sorted -/
def strsD : List D → Option (List Str)
  | [] => some []
  | .str i :: r => (strsD r).map (i :: ·)
  | _ => none
theorem strs_rep {K : PySem.W.Frag} {P : Hp} {al : List Addr} : ∀ {ds : List D} {vs : List V} {bs : List Str}, Reps K P al ds vs → strsD ds = some bs → vs = bs.map V.str
  | _, _, _, .nil, e => by cases e; rfl
  | _, _, _, .cons (d := d) (ds := ds) r t, e => by
    cases d <;> simp [strsD] at e
    obtain ⟨bs, h, rfl⟩ := e
    cases r
    rw [strs_rep t h]; rfl
theorem str_reps {K : PySem.W.Frag} {P : Hp} {al : List Addr} : ∀ ns : List Str, Reps K P al (ns.map D.str) (ns.map V.str)
  | [] => .nil
  | x :: r => .cons (.str x) (str_reps r)
section
variable {X : Cx} {B : Bs} {K : PySem.W.Frag}
/-- sorted(xs), texts -/
def cSortS : WCl := fun ds M R => match ds with
  | [x] => match lstD (viewD M x) with
    | some l => match strsD l with
      | some ns => Need (ns.length < 64) ∧ ∀ ns' : List Str, ns'.Perm ns → sortedS ns' = true → R (.lst (ns'.map D.str)) M
      | none => False
    | none => False
  | _ => False
theorem cSortS_ok : CallD K B (rSortedS K) cSortS := by
  intro P al M env σ H vs ds R Q rs r h L
  unfold cSortS at h
  split at h
  · cases r with
    | cons r1 t =>
      cases t
      split at h
      · rename_i l e1
        split at h
        · rename_i ns e2
          obtain ⟨a, xs, rfl, h1, q1⟩ := view_lstD rs.toRS0 r1 e1
          have := strs_rep q1 e2
          subst this
          exact ⟨a, ns, rfl, h1, h.1.out, fun ns' p hp hs hn => L.alloc rs hn (.lst upd_same (str_reps ns')) (h.2 ns' hp hs)⟩
        · exact h.elim
      · exact h.elim
  · exact h.elim
end
end L3

namespace L3
open PySem PySem.Spec PyProof.Rows L2
/-! ### what is never reached -/
section
variable {X : Cx} {B : Bs} {e : Expr} {st : Stmt} {ss : List Stmt} {pos p : Pos}
end
/-! ### an object of our own beside the state becomes one of the table -/
/-! ### lists of keys, of a range -/
def kD : Key → D
  | .inl i => .int i
  | .inr s => .str s
theorem kD_rep {K : PySem.W.Frag} {P : Hp} {al : List Addr} : ∀ {ks : List (Key × D)} {kvs : List (Key × V)}, RepKs K P al ks kvs → Reps K P al (ks.map fun p => kD p.1) (kvs.map fun p => kV p.1)
  | _, _, .nil => .nil
  | _, _, .cons (k := k) _ t => .cons (by cases k <;> first | exact .int _ | exact .str _) (kD_rep t)
/-- list(x), x a list, a tuple or a dict -/
def cListA (m : Bool) : WCl := fun ds M R => match ds with
  | [x] => match viewD M x with
    | .dct ks => if m then R (.cel M.length) (M ++ [.lst (ks.map fun p => kD p.1)]) else R (.lst (ks.map fun p => kD p.1)) M
    | .fdc ks => if m then R (.cel M.length) (M ++ [.lst (ks.map fun p => kD p.1)]) else R (.lst (ks.map fun p => kD p.1)) M
    | _ => cList m ds M R
  | _ => False
def rListR : List V → Hp → VK → Prop := fun xs H Q => ∃ (a : Addr) (kvs : List (Key × V)), xs = [.ref a] ∧ Rd H a (.dK kvs) ∧ ∀ p, H p = none → Q (.ref p) (upd H p (.lst (kvs.map fun kv => kV kv.1)))
theorem callListA {X : Cx} (hc : X.calm = true) : CallR X (.type "list") (fun xs H Q => (∃ p ys, xs = [.ref p] ∧ (SqL X.K H p ys ∨ SqT X.K H p ys) ∧ ∀ l, H l = none → Q (.ref l) (upd H l (.lst ys))) ∨ rListR xs H Q) := call_list_of.or (call_listD hc)
theorem cListA_ok {K : PySem.W.Frag} {B : Bs} {m : Bool} : CallD K B (fun xs H Q => (∃ p ys, xs = [.ref p] ∧ (SqL K H p ys ∨ SqT K H p ys) ∧ ∀ l, H l = none → Q (.ref l) (upd H l (.lst ys))) ∨ rListR xs H Q) (cListA m) := by
  intro P al M env σ H vs ds R Q rs r h L
  unfold cListA at h
  split at h
  · rename_i x
    split at h
    · rename_i ks e
      cases r with
      | cons r1 t =>
        cases t
        obtain ⟨a, kvs, rfl, ha, rk⟩ := view_dct rs.toRS0 r1 e
        refine .inr ⟨a, kvs, rfl, .inl ha, fun q hq => ?_⟩
        cases m with
        | true => exact L.allocM rs hq (kD_rep rk) h
        | false => exact L.alloc rs hq (.lst upd_same ((kD_rep rk).mono (same_new rs.toRS0 hq) (List.prefix_refl _))) h
    · rename_i ks e
      cases r with
      | cons r1 t =>
        cases t
        obtain ⟨a, kvs, rfl, ha, rk⟩ := view_fdc rs.toRS0 r1 e
        refine .inr ⟨a, kvs, rfl, ha, fun q hq => ?_⟩
        cases m with
        | true => exact L.allocM rs hq (kD_rep rk) h
        | false => exact L.alloc rs hq (.lst upd_same ((kD_rep rk).mono (same_new rs.toRS0 hq) (List.prefix_refl _))) h
    · exact .inl (cList_ok P al M env σ H vs [x] R Q rs r h L)
  · exact h.elim
/-! ### a dict display that will change; list(range(..)) -/
section
variable {X : Cx} {B : Bs} {pos : Pos}
end
end L3

namespace L3
open PySem PySem.Spec PyProof.Rows L2
section
variable {P : Program} {w : World} {K : PySem.W.Frag} {mg : Str → Option Value} {base : Heap}
/-- a def by its raw place (defaults may stand in it) -/
theorem dfnRX {x qual : Str} {st : Stmt} {f : Addr} {oc : Value} {od an : Option Addr} {osl : Array (Option Value)} {dV kV doc pm cdv ct : Value} {N ps : List Str} {k : Nat} {sp : DSp} {wb : RXe → WS}
    (lk : K.lookup f = some ⟨oc, od, .func (PySem.W.fnOf x qual (defArgs st) (defBody st) (defScope st) dV kV doc pm an cdv ct), osl⟩) (hcd : PySem.W.codeIn K cdv qual = true) (S : FnScope N ps (defScope st)) (len : ∀ ds M R RX, sp ds M R RX → ds.length = ps.length)
    (body : ∀ (A : Around) (outer : List Env) (s : Shared) (H : Hp) (E : XK), Room k (A.deeper (envOfC qual (defScope st) s.heap.objs.size f cdv)) → ∀ (B : Bs) (RX : RXe), Takes (cxOf (L2.CX P w) P w K mg base N qual (defScope st) f cdv A outer s H E) (WL K B RX) → DSs B (cxOf (L2.CX P w) P w K mg base N qual (defScope st) f cdv A outer s H E) (defBody st) (wb RX))
    (hw : ∀ ds M R RX, sp ds M R RX → M.all (cellOk M.length) = true → noCels M.length ds = true → wb (fun nm fs _ M' => rxF M.length RX nm fs M') (fnEnds M.length R) (startE N.length ds) M) :
    FnOk P w K mg base (L2.CX P w) (k + 1) f (PySem.W.fnOf x qual (defArgs st) (defBody st) (defScope st) dV kV doc pm an cdv ct) ps (toSp K sp) :=
  fn_of lk hcd S (fun vs H Q E h => by
    obtain ⟨P, al, M, ds, R, RX, _, r, hs, _⟩ := h
    rw [← r.length]; exact len _ _ _ _ hs) fun A outer s H vs Q E hr h => bodyX h (fun B RX => body A outer s H E hr B RX) hw
/-- a promise without defaults, by positional values -/
theorem fnR0 {CX : CXT} {k : Nat} {f : Addr} {fd : FuncData} {ps : List Str} {sp : Sp} (F : FnOk P w K mg base CX k f fd ps sp) (hb : Binds K fd ps []) : FnR P w K mg base CX k f sp :=
  (F.raw hb .nil).imp fun vs H Q E h => by rw [List.append_nil]; exact h
/-- one more default behind what is given -/
theorem binds_dflt {fd : FuncData} {ps : List Str} {ds : List Value} {T : Addr} {o : Obj} {items : Array Value} {n m : Nat} (hd : fd.defaults = .ref T) (ho : K.lookup T = some o) (hs : o.data = .seq items n) (hm : m + ds.length = ps.length)
    (h : ∀ us : List Value, us.length = m → ∃ k : Option (Array Value) → Sem (List (Str × Value)), bindArgs fd ⟨us, []⟩ = seqItems? fd.defaults >>= k ∧ k (some items) = pure (ps.zip (us ++ ds))) : Binds K fd ps ds := fun s us X hl => by
  obtain ⟨k, h1, h2⟩ := h us (by rw [List.length_append] at hl; omega)
  exact PySem.W.binds_K X hd ho hs h1 h2
end
/-! ### y = [..], a list that will change -/
section
variable {K : PySem.W.Frag} {B : Bs} {wi : WI} {g : TG} {is vs : List Nat} {t : WTs} {we : WE}
end
section
variable {X : Cx} {B : Bs} {e : Expr} {tg elt : Expr} {ifs : List Expr} {scope : Scope} {own : List (Str × Nat)} {g : TG} {is : List Nat} {wi : WI} {t : WTs} {we : WE} {pos spos py : Pos} {i : Nat} {y : Str}
end
end L3

namespace L3
open PySem PySem.Spec PyProof.Rows L2
/-! ### steps by what they ask: for walks -/
section
variable {M M0 T : Mt} {R : D → Mt → Prop} {x d : D} {n i : Nat} {l ds : List D} {env : Ev}
theorem range_map (lo : Int) (n : Nat) : rangeD lo n = (List.range n).map fun (k : Nat) => .int (lo + k) := by unfold rangeD; rfl
theorem range_len (lo : Int) (n : Nat) : (rangeD lo n).length = n := by rw [range_map]; simp
theorem range_get {lo : Int} {n i : Nat} {d : D} (h : (rangeD lo n)[i]? = some d) : i < n ∧ d = .int (lo + i) := by
  have hi : i < n := by
    have := (List.getElem?_eq_some_iff.mp h).1
    rwa [range_len] at this
  refine ⟨hi, ?_⟩
  rw [range_map, List.getElem?_map, List.getElem?_range hi] at h
  exact (Option.some.inj h).symm
theorem view_at (h : M[i]? = some (.lst l)) : viewD M (.cel i) = .lst l := by simp only [viewD, h]
theorem len_use (h : viewD M x = .lst l) (k : R (.int l.length) M) : cLen [x] M R := by
  simp only [cLen, h, seqD]; exact k
theorem len_tup (h : viewD M x = .tup l) (k : R (.int l.length) M) : cLen [x] M R := by
  simp only [cLen, h, seqD]; exact k
theorem app_use (h : M[n]? = some (.lst l)) (hl : l.length < sizeLine) (k : R .non (M.set n (.lst (l ++ [d])))) : mAppend (.cel n) [d] M R := by
  simp only [mAppend, h]; exact ⟨⟨hl⟩, k⟩
theorem setIx_use {j : Int} {Q : Mt → Prop} (h : M[n]? = some (.lst l)) (h0 : 0 ≤ j) (h1 : j < l.length) (k : Q (M.set n (.lst (l.set j.toNat d)))) : dsetIx d (.cel n) (.int j) M Q := by
  have e : ixN l.length j = some j.toNat := by unfold ixN; rw [if_pos h0, if_pos h1]
  simp only [dsetIx, h, e]; exact k
theorem len_str {s : Str} (h : viewD M x = .str s) (h2 : s.length ≤ sizeLine) (k : R (.int s.length) M) : cLen [x] M R := by
  simp only [cLen, h]; exact ⟨⟨h2⟩, k⟩
theorem strsD_map : ∀ ns : List Str, strsD (ns.map D.str) = some ns
  | [] => rfl
  | a :: r => by simp only [List.map_cons, strsD, strsD_map r, Option.map_some]
theorem flatDs_strs : ∀ ns : List Str, flatDs (ns.map D.str) = some (ns.map V.str)
  | [] => rfl
  | a :: r => by simp only [List.map_cons, flatDs, flatD, flatDs_strs r]
theorem inV_strs (s : Str) : ∀ ns : List Str, inV (.str s) (ns.map V.str) = decide (s ∈ ns)
  | [] => rfl
  | a :: r => by
    have ih := inV_strs s r
    have e : inV (.str s) ((a :: r).map V.str) = ((a == s) || inV (.str s) (r.map V.str)) := rfl
    rw [e, ih]
    by_cases h : a = s
    · subst h; simp
    · have : (a == s) = false := by simpa using h
      rw [this]; simp [Ne.symm h]
theorem in_use {s : Str} {ns : List Str} {neg : Bool} (h : viewD M x = .lst (ns.map D.str) ∨ viewD M x = .tup (ns.map D.str)) (k : R (.bl (if neg then !decide (s ∈ ns) else decide (s ∈ ns))) M) : oIn neg (.str s) x M R := by
  rcases h with h | h <;> simp only [oIn, h, seqD, flatD, flatDs_strs, inV_strs] <;> exact k
theorem in_flat {s : Str} {vs : List V} {neg : Bool} (h : seqD (viewD M x) = some l) (h2 : flatDs l = some vs) (k : R (.bl (if neg then !inV (.str s) vs else inV (.str s) vs)) M) : oIn neg (.str s) x M R := by
  unfold oIn
  split
  · rename_i e; rw [e] at h; cases h
  · rw [h]; simp only [flatD, h2]; exact k
theorem in_str {s z : Str} {neg : Bool} (h : viewD M x = .str z) (k : R (.bl (if neg then !strIn s z else strIn s z)) M) : oIn neg (.str s) x M R := by
  have e : viewD M (.str s) = .str s := rfl
  simp only [oIn, h, e]; exact k
/-- fields of the object at a place of the table -/
theorem setF_use {n f : Str} {Q : Mt → Prop} {fs : List (Str × D)} (q : Q (M0 ++ .obj n (putFD f d fs) :: T)) (hl : fs.length < 1000 := by decide) : dsetF n f d (.cel M0.length) (M0 ++ .obj n fs :: T) Q := by
  have e1 : (M0 ++ D.obj n fs :: T)[M0.length]? = some (.obj n fs) := by simp
  have e2 : (M0 ++ D.obj n fs :: T).set M0.length (.obj n (putFD f d fs)) = M0 ++ .obj n (putFD f d fs) :: T := by simp
  simp only [dsetF, e1, e2]
  exact ⟨⟨by first | trivial | exact ⟨rfl, hl⟩ | exact ⟨trivial, hl⟩⟩, q⟩
theorem mkEnd_i {fs : List (Str × D)} {n : Str} (h : noCelF M.length fs = true) (k : R (.obj n fs) M) : mkEnd M R (M ++ [.obj n fs]) := by
  unfold mkEnd; exact ⟨n, fs, rfl, ⟨h⟩, k⟩
/-- a comprehension that changes the table: what holds behind each item -/
theorem lcL_inv {is vs : List Nat} {t : WTs} {we : WE} {env : Ev} (I : Nat → List D → Mt → Prop) {ds : List D} {M : Mt} {R : List D → Mt → Prop} (hl : ds.length ≤ sizeLine) (h0 : I 0 [] M)
    (hs : ∀ (i : Nat) (d : D) (acc : List D) (M : Mt) (A : D → Mt → Prop) (C : Mt → Prop), ds[i]? = some d → I i acc M → (∀ y M3, I (i + 1) (acc ++ [y]) M3 → A y M3) → (∀ M3, I (i + 1) acc M3 → C M3) →
      bnd is d (wipeE env vs) fun env1 => t env1 M fun b M2 => ifB b (we env1 M2 A) (C M2))
    (hd : ∀ acc M, acc.length ≤ ds.length → I ds.length acc M → R acc M) : lcL is t we vs env ds [] M R := by
  have key : ∀ (n i : Nat), i + n = ds.length → ∀ acc M, acc.length ≤ i → I i acc M → lcL is t we vs env (ds.drop i) acc M R := by
    intro n
    induction n with
    | zero =>
      intro i hi acc M ha h
      rw [List.drop_eq_nil_of_le (by omega)]
      have : i = ds.length := by omega
      subst this
      exact hd _ _ ha h
    | succ n ih =>
      intro i hi acc M ha h
      have hlt : i < ds.length := by omega
      rw [List.drop_eq_getElem_cons hlt]
      exact hs i _ acc M _ _ (List.getElem?_eq_getElem hlt) h (fun y M3 h3 => ⟨⟨by omega⟩, ih (i + 1) (by omega) _ _ (by simp; omega) h3⟩) fun M3 h3 => ih (i + 1) (by omega) _ _ (by omega) h3
  have := key ds.length 0 (by omega) [] M (Nat.le_refl _) h0
  simpa using this
theorem noCels_mem {n : Nat} : ∀ {l : List D}, noCels n l = true ↔ ∀ d ∈ l, noCel n d = true
  | [] => by simp [noCels]
  | a :: r => by simp only [noCels, Bool.and_eq_true, noCels_mem (l := r), List.mem_cons, forall_eq_or_imp]
theorem noCels_strs {n : Nat} (ss : List Str) : noCels n (ss.map D.str) = true := noCels_mem.mpr fun d hd => by
  obtain ⟨s, _, rfl⟩ := List.mem_map.mp hd; rfl
end
end L3

namespace L3
open PySem PySem.Spec PyProof.Rows L2
/-! ### promises that hold where no guard of a repr stands -/
section
variable {P : Program} {w : World} {K : PySem.W.Frag} {mg : Str → Option Value} {base : Heap} {CX : CXT}
/-- what a def promises to callers around which nothing is being told -/
structure FnG (P : Program) (w : World) (K : PySem.W.Frag) (mg : Str → Option Value) (base : Heap) (CX : CXT) (k : Nat) (f : Addr) (fd : FuncData) (ps : List Str) (sp : Sp) : Prop where
  len : ∀ vs H Q E, sp vs H Q E → vs.length = ps.length
  run : ∀ (A : Around) (outer : List Env) (s : Shared) (H : Hp) (args : Args) (us : List Value) (vs : List V) (Q : VK) (E : XK), A.guards = some [] → Room k A → Env0 P w K mg base A outer s H →
    BindsTo s fd args (ps.zip us) → Vals vs us → sp vs H Q E → codeAny (model P w) A (.call (.ref f) args) (CR CX outer P w H s Q E) s
theorem FnG.of {k : Nat} {f : Addr} {fd : FuncData} {ps : List Str} {sp : Sp} (F : FnOk P w K mg base CX k f fd ps sp) : FnG P w K mg base CX k f fd ps sp :=
  ⟨F.len, fun A outer s H args us vs Q E _ => F.run A outer s H args us vs Q E⟩
theorem FnG.mono {j k : Nat} {f : Addr} {fd : FuncData} {ps : List Str} {sp : Sp} (F : FnG P w K mg base CX j f fd ps sp) (h : j ≤ k) : FnG P w K mg base CX k f fd ps sp :=
  ⟨F.len, fun A outer s H args us vs Q E hg hr => F.run A outer s H args us vs Q E hg (hr.mono h)⟩
end
end L3
namespace L3
open PySem PySem.Spec PyProof.Rows L2
section
variable {X : Cx} {B : Bs} {CX : CXT} {k : Nat} {f : Addr} {fd : FuncData} {ps : List Str} {sp : DSp} {x : Str} {p pos : Pos} {e : Expr} {es : List Expr} {was : WA} {RX : RXe}
/-- such a def is called -/
theorem run_G {sq : Sp} {E : XK} {pins : List (Addr × Obj)} {σ : L2.St} {H : Hp} {s : Shared} {Q : VK} {us : List Value} {vs : List V} (F : FnG X.prog X.w X.K X.mg X.base CX k f fd ps sq) (quiet : X.A.guards = some []) (room : Room k X.A) (binds : Binds X.K fd ps [])
    (pass : PassesAt CX X σ E) (I : Inv X pins σ H s) (r : Vals vs us) (asked : sq vs H Q E) : wpAny (model X.prog X.w) X.A (call (.ref f) us) (EP X pins σ Q) X.xe s := by
  have many : us.length = (ps ++ []).length - ([] : List Value).length := by rw [← r.length, F.len _ _ _ _ asked]; simp
  have bound := binds s us I.kIn (by simp only [List.append_nil, List.length_nil, Nat.sub_zero] at many ⊢; exact many)
  simp only [List.append_nil] at bound
  apply wpAny_call
  apply codeAny_mono (F.run X.A X.stack s H ⟨us, []⟩ us vs Q E quiet room I.env0 bound r asked)
  intro res s2 got
  match res, got with
  | .error err, got => exact pass pins H s err s2 I got
  | .ok (.ret u), got => exact I.after got
  | .ok .next, got => exact got.elim
  | .ok .brk, got => exact got.elim
  | .ok .cont, got => exact got.elim
theorem d_callG (F : FnG X.prog X.w X.K X.mg X.base CX k f fd ps (toSp X.K sp)) (quiet : X.A.guards = some []) (room : Room k X.A) (pass : Rz X B CX RX) (hg : Gl X x) (hm : X.mg x = some (.ref f)) (hk : PySem.W.keepIn X.K (.ref f) = true) (hb : Binds X.K fd ps [])
    (ha : DA B X (e :: es) was) (hdb : (x == ("__debug__" : Str)) = false := by decide) (he : starEach (e :: es) X.env = (false, eval e X.env) :: starEach es X.env := by rfl) (hpl : (backTo pos (starEach es X.env)).any (·.1) = false := by rfl) :
    DE B X (.Call (.Name x p) (e :: es) [] pos) (wCallX sp [] RX was) := by
  constructor
  rintro pins s σ H Q I ⟨P, al, M, env, R, rs, hw, L⟩
  apply wpAny_Call_Name_kw (ld_glob I hg hm ?_ hdb)
  apply PySem.W.callWith_K (h₀ := X.base) I.ok.mod.kin hk ?_ he hpl
  refine thn (ha.run pos pins s σ H (fun vs H1 => toSp X.K sp vs H1 Q (L2.WE (WL X.K B RX) σ)) I ⟨P, al, M, env, _, rs, hw, ?_⟩) ?_
  · intro ds M1 vs H1 P1 al1 e1 rs1 r1 q
    rw [List.append_nil] at q
    exact sp_at rs1 r1 (L.after e1) q
  · rintro us s1 ⟨vs, H1, I1, r, q⟩
    exact ⟨I1.kIn, run_G F quiet room hb (pass _) I1 r q⟩
end
section
variable {P : Program} {w : World} {K : PySem.W.Frag} {mg : Str → Option Value} {base : Heap}
end
end L3

namespace L3
open PySem PySem.Spec PyProof.Rows L2
/-! ### the end of a law whose promise is a quiet one -/
section
end
end L3

namespace L3
open PySem PySem.Spec PyProof.Rows PyProof.V L2
/-! ### repr of data -/
mutual
theorem dp_nodict {K : PySem.W.Frag} {H : Hp} : ∀ {v : V} {p : PyData}, Dp K H v p → p.hasDict = false
  | _, _, .non => by simp [PyData.hasDict]
  | _, _, .bl b => by simp [PyData.hasDict]
  | _, _, .int i => by simp [PyData.hasDict]
  | _, _, .str x => by simp [PyData.hasDict]
  | _, _, .lst _ h => by simpa [PyData.hasDict] using dpAll_nodict h
  | _, _, .tup _ h => by simpa [PyData.hasDict] using dpAll_nodict h
theorem dpAll_nodict {K : PySem.W.Frag} {H : Hp} : ∀ {vs : List V} {ps : List PyData}, DpAll K H vs ps → PyData.hasDictAll ps = false
  | _, _, .nil => by simp [PyData.hasDictAll]
  | _, _, .cons h t => by simp [PyData.hasDictAll, dp_nodict h, dpAll_nodict t]
end
/-- scalars -/
def scal : D → Option PyData
  | .non => some .none
  | .bl b => some (.bool b)
  | .int i => some (.int i)
  | .str s => some (.str s)
  | _ => none
def keyP : Key → PyData
  | .inl i => .int i
  | .inr s => .str s
theorem key_reads {h : Heap} (k : Key) (u : Value) (e : keyIs k u = true) : Reads h u (keyP k) [] := by
  rcases keyIs_shape e with ⟨i, t, rfl, rfl⟩ | ⟨x, t, rfl, rfl⟩
  · exact .int i t
  · exact .str x t
def RpOk (p : PyData) : Prop := p.showable = true ∧ p.depth ≤ 60 ∧ p.shown.length ≤ sizeLine
end L3

namespace L3
open PySem PySem.Spec PyProof.Rows L2
/-! ### try with several clauses, each with a name or without -/
abbrev Clause := Value × Option Nat × (Addr → Value → Option Addr → TS)
/-- the ends of a suite whose name is given up behind it -/
def gone (i : Nat) (D : Ends) : Ends := ⟨fun σ H => D.nx (σ.set i none) H, D.rt, fun σ H => D.bk (σ.set i none) H, fun σ H => D.ct (σ.set i none) H⟩
/-- what the clauses ask of an error, the first that fits -/
def wCls (K : PySem.W.Frag) (out : WX) (D : Ends) : List Clause → WX
  | [] => out
  | (c, o, ts) :: r => fun cls d σ H => ∃ b, PySem.W.exmOne K cls c = some b ∧ (b = false → wCls K out D r cls d σ H) ∧
      (b = true → ∀ a, H a = none → match o with
        | some i => ts a cls d (gone i D) (σ.set i (some (.ref a))) H
        | none => ts a cls d D σ H)
inductive ClsOk (X : Cx) : List ExceptHandler → List Clause → Prop
  | nil : ClsOk X [] []
  | named {x n : Str} {c : Value} {i : Nat} {ts : Addr → Value → Option Addr → TS} {b₀ : Stmt} {suite : List Stmt} {np hp : Pos} {hs : List ExceptHandler} {l : List Clause} (names : Names X x c) (slot : X.N[i]? = some n) (kind : X.env.kindOf n = some .local)
      (walk : ∀ (a : Addr) (oe : Obj) (cls : Value) (d : Option Addr) (pn : List (Addr × Obj)), Zc cls d oe → (∃ vs, oe.data = .fields vs) → PSs (X.suite a ((a, oe) :: pn)) (b₀ :: suite) (ts a cls d)) (rest : ClsOk X hs l) :
      ClsOk X (.ExceptHandler (some (.Name x np)) (some n) (b₀ :: suite) hp :: hs) ((c, some i, ts) :: l)
  | bare {x : Str} {c : Value} {ts : Addr → Value → Option Addr → TS} {b₀ : Stmt} {suite : List Stmt} {np hp : Pos} {hs : List ExceptHandler} {l : List Clause} (names : Names X x c)
      (walk : ∀ (a : Addr) (oe : Obj) (cls : Value) (d : Option Addr) (pn : List (Addr × Obj)), Zc cls d oe → (∃ vs, oe.data = .fields vs) → PSs (X.suite a ((a, oe) :: pn)) (b₀ :: suite) (ts a cls d)) (rest : ClsOk X hs l) :
      ClsOk X (.ExceptHandler (some (.Name x np)) none (b₀ :: suite) hp :: hs) ((c, none, ts) :: l)
section
variable {X : Cx} {body : List Stmt} {first : ExceptHandler} {hs : List ExceptHandler} {l : List Clause} {pos : Pos} {tb : WX → TS} {out : WX}
end
end L3

namespace L3
open PySem PySem.Spec PyProof.Rows L2
/-! ### the same over data -/
abbrev DCl := (Str → Bool) × Option Nat × (Addr → Str → List (Str × D) → WS)
def pickC (k : DEnds) (RX : RXe) : List DCl → RXe
  | [] => RX
  | (sub, o, ws) :: r => fun n fs env M => ifB (sub n) (∀ a : Addr, match o with
      | some i => ws a n fs (outE i k) (env.set i (some (.adr a))) M
      | none => ws a n fs k env M) (pickC k RX r n fs env M)
inductive ClsD (X : Cx) (ok : List Str) : List ExceptHandler → List DCl → Prop
  | nil : ClsD X ok [] []
  | named {x n : Str} {Cc : Addr} {i : Nat} {sub : Str → Bool} {ws : Addr → Str → List (Str × D) → WS} {b₀ : Stmt} {suite : List Stmt} {np hp : Pos} {hs : List ExceptHandler} {cl : List DCl} (names : Names X x (.ref Cc)) (slot : X.N[i]? = some n) (kind : X.env.kindOf n = some .local)
      (hsub : ∀ n C, n ∈ ok → ClsAt X.K n C → PySem.W.exmOne X.K (.ref C) (.ref Cc) = some (sub n))
      (walk : ∀ (B' : Bs) (a C : Addr) (oe : Obj) (n : Str) (fs : List (Str × D)) (d : Option Addr) (pn : List (Addr × Obj)), Zc (.ref C) d oe → (∃ vs, oe.data = .fields vs) → ClsAt X.K n C → n ∈ ok → sub n = true → XdOk X.K B'.1 B'.2.1 B'.2.2 fs d → DSs B' (X.suite a ((a, oe) :: pn)) (b₀ :: suite) (ws a n fs)) (rest : ClsD X ok hs cl) :
      ClsD X ok (.ExceptHandler (some (.Name x np)) (some n) (b₀ :: suite) hp :: hs) ((sub, some i, ws) :: cl)
  | bare {x : Str} {Cc : Addr} {sub : Str → Bool} {ws : Addr → Str → List (Str × D) → WS} {b₀ : Stmt} {suite : List Stmt} {np hp : Pos} {hs : List ExceptHandler} {cl : List DCl} (names : Names X x (.ref Cc))
      (hsub : ∀ n C, n ∈ ok → ClsAt X.K n C → PySem.W.exmOne X.K (.ref C) (.ref Cc) = some (sub n))
      (walk : ∀ (B' : Bs) (a C : Addr) (oe : Obj) (n : Str) (fs : List (Str × D)) (d : Option Addr) (pn : List (Addr × Obj)), Zc (.ref C) d oe → (∃ vs, oe.data = .fields vs) → ClsAt X.K n C → n ∈ ok → sub n = true → XdOk X.K B'.1 B'.2.1 B'.2.2 fs d → DSs B' (X.suite a ((a, oe) :: pn)) (b₀ :: suite) (ws a n fs)) (rest : ClsD X ok hs cl) :
      ClsD X ok (.ExceptHandler (some (.Name x np)) none (b₀ :: suite) hp :: hs) ((sub, none, ws) :: cl)
/-- a suite's wish, the error's data put in -/
def tsOf (K : PySem.W.Frag) (ok : List Str) (sub : Str → Bool) (ws : Addr → Str → List (Str × D) → WS) : Addr → Value → Option Addr → TS := fun a cls d D σ H =>
  ∃ B' C n fs, cls = .ref C ∧ ClsAt K n C ∧ n ∈ ok ∧ sub n = true ∧ XdOk K B'.1 B'.2.1 B'.2.2 fs d ∧ tDS K B' (ws a n fs) D σ H
theorem ClsD.go {X : Cx} {ok : List Str} {hs : List ExceptHandler} {cl : List DCl} (c : ClsD X ok hs cl) : ∃ l : List Clause, ClsOk X hs l ∧
    ∀ {B : Bs} {P P' : Hp} {al al' : List Addr} {H H' : Hp} {k : DEnds} {D : Ends} {RX : RXe} {C : Addr} {nm : Str} {fs : List (Str × L3.D)} {env' : Ev} {M' : Mt} {σ' : L2.St} {d : Option Addr}, DLift X.K B P al H k D → Ext B.1 B.2.1 B.2.2 P al H → ClsAt X.K nm C → nm ∈ ok →
      RS X.K (P, al, H) P' al' M' env' σ' H' → XdOk X.K P' al' H' fs d → pickC k RX cl nm fs env' M' → wCls X.K (WL X.K B RX) D l (.ref C) d σ' H' := by
  induction c with
  | nil =>
    refine ⟨[], .nil, ?_⟩
    intro B P P' al al' H H' k D RX C nm fs env' M' σ' d L base ca ho rs xd q
    exact ⟨C, nm, fs, env', P', al', M', rfl, ca, ⟨rs.toRS0.rebase (base.trans rs.base), rs.slen, rs.slot⟩, xd, q⟩
  | @named x n Cc i sub ws b₀ suite np hp hs cl names slot kind hsub walk rest ih =>
    obtain ⟨l, h1, h2⟩ := ih
    refine ⟨(.ref Cc, some i, tsOf X.K ok sub ws) :: l, .named names slot kind (fun a oe cls d pn hz hd => ⟨?_⟩) h1, ?_⟩
    · rintro pins s σ H D I ⟨B', C, n, fs, ec, ca, ho, hb, xd, h⟩
      subst ec
      exact (walk B' a C oe n fs d pn hz hd ca ho hb xd).run pins s σ H D I h
    · intro B P P' al al' H H' k D RX C nm fs env' M' σ' d L base ca ho rs xd q
      refine ⟨sub nm, hsub nm C ho ca, fun hb => h2 L base ca ho rs xd (q.2 hb), fun hb a na => ?_⟩
      have e0 : Ext P al H P' al' H' := rs.base
      have rs2 : RS X.K (P', al', H') P' al' M' env' σ' H' := ⟨rs.toRS0.here, rs.slen, rs.slot⟩
      refine ⟨(P', al', H'), C, nm, fs, rfl, ca, ho, hb, xd, P', al', M', _, outE i k, rs2.put i (.adr a), q.1 hb a, ⟨fun env2 M2 σ2 H2 P2 al2 e rs3 q3 => ?_, fun d M2 v H2 P2 al2 e rs3 r q3 => ?_, fun env2 M2 σ2 H2 P2 al2 e rs3 q3 => ?_, fun env2 M2 σ2 H2 P2 al2 e rs3 q3 => ?_⟩⟩
      · have rs4 := rs3.drp i
        exact L.nx _ _ _ _ _ _ (e0.trans e) ⟨rs4.toRS0.rebase (base.trans (e0.trans e)), rs4.slen, rs4.slot⟩ q3
      · exact L.rt _ _ _ _ _ _ (e0.trans e) (rs3.rebase (base.trans (e0.trans e))) r q3
      · have rs4 := rs3.drp i
        exact L.bk _ _ _ _ _ _ (e0.trans e) ⟨rs4.toRS0.rebase (base.trans (e0.trans e)), rs4.slen, rs4.slot⟩ q3
      · have rs4 := rs3.drp i
        exact L.ct _ _ _ _ _ _ (e0.trans e) ⟨rs4.toRS0.rebase (base.trans (e0.trans e)), rs4.slen, rs4.slot⟩ q3
  | @bare x Cc sub ws b₀ suite np hp hs cl names hsub walk rest ih =>
    obtain ⟨l, h1, h2⟩ := ih
    refine ⟨(.ref Cc, none, tsOf X.K ok sub ws) :: l, .bare names (fun a oe cls d pn hz hd => ⟨?_⟩) h1, ?_⟩
    · rintro pins s σ H D I ⟨B', C, n, fs, ec, ca, ho, hb, xd, h⟩
      subst ec
      exact (walk B' a C oe n fs d pn hz hd ca ho hb xd).run pins s σ H D I h
    · intro B P P' al al' H H' k D RX C nm fs env' M' σ' d L base ca ho rs xd q
      refine ⟨sub nm, hsub nm C ho ca, fun hb => h2 L base ca ho rs xd (q.2 hb), fun hb a na => ?_⟩
      have e0 : Ext P al H P' al' H' := rs.base
      have rs2 : RS X.K (P', al', H') P' al' M' env' σ' H' := ⟨rs.toRS0.here, rs.slen, rs.slot⟩
      refine ⟨(P', al', H'), C, nm, fs, rfl, ca, ho, hb, xd, P', al', M', _, k, rs2, q.1 hb a, ⟨fun env2 M2 σ2 H2 P2 al2 e rs3 q3 => ?_, fun d M2 v H2 P2 al2 e rs3 r q3 => ?_, fun env2 M2 σ2 H2 P2 al2 e rs3 q3 => ?_, fun env2 M2 σ2 H2 P2 al2 e rs3 q3 => ?_⟩⟩
      · exact L.nx _ _ _ _ _ _ (e0.trans e) ⟨rs3.toRS0.rebase (base.trans (e0.trans e)), rs3.slen, rs3.slot⟩ q3
      · exact L.rt _ _ _ _ _ _ (e0.trans e) (rs3.rebase (base.trans (e0.trans e))) r q3
      · exact L.bk _ _ _ _ _ _ (e0.trans e) ⟨rs3.toRS0.rebase (base.trans (e0.trans e)), rs3.slen, rs3.slot⟩ q3
      · exact L.ct _ _ _ _ _ _ (e0.trans e) ⟨rs3.toRS0.rebase (base.trans (e0.trans e)), rs3.slen, rs3.slot⟩ q3
end L3

namespace L3
open PySem PySem.Spec PyProof.Rows L2
/-! ### in, of a dict or of a row -/
def rInDK (neg : Bool) : R2 := fun x y H Q => ∃ a o, y = .ref a ∧ DGet H a x o ∧ Q (.bl (if neg then !o.isSome else o.isSome)) H
theorem opInDK {X : Cx} (hu : X.A.units + 1 < cLine) : OpR X (compareOp .In) (rInDK false) := by
  rintro pins s σ H x y v u Q I rx ry ⟨a, o, rfl, g, q⟩
  cases ry
  exact d_in hu I g rx fun s3 I3 => ⟨.bl o.isSome, H, I3, rfl, q⟩
def oInU (neg : Bool) : WO2 := fun x y M R => match viewD M y with
  | .dct _ => oDIn neg x y M R
  | _ => oIn neg x y M R
theorem oInU_ok {K : PySem.W.Frag} {B : Bs} : OpD K B (fun x y H Q => rInU K false x y H Q ∨ rInDK false x y H Q) (oInU false) := by
  intro P al M env σ H x y dx dy R Q rs r1 r2 h L
  unfold oInU at h
  split at h
  · rename_i ks hv
    unfold oDIn at h
    split at h
    · rename_i ks2 k h1 h2
      obtain ⟨a, xs, rfl, g1, g2⟩ := view_dct rs.toRS0 r2 h1
      refine .inr ⟨a, _, rfl, .inl ⟨xs, k, .inl g1, key_rep r1 h2, rfl⟩, ?_⟩
      show Q (.bl (valV xs k).isSome) H
      rw [some_iff g2 k]
      exact L.here rs (.bl _) h
    · rename_i h1 _
      rw [hv] at h1; cases h1
    · exact h.elim
  · exact .inl (oIn_ok P al M env σ H x y dx dy R Q rs r1 r2 h L)
theorem inU_dct {M : Mt} {x y : D} {R : D → Mt → Prop} {ks : List (Key × D)} {k : Key} (h : viewD M y = .dct ks) (hk : keyD x = some k) (q : R (.bl (valD ks k).isSome) M) : oInU false x y M R := by
  simp only [oInU, oDIn, h, hk]; exact q
theorem inU_seq {M : Mt} {x y : D} {R : D → Mt → Prop} (h : ∀ ks, viewD M y ≠ .dct ks) (q : oIn false x y M R) : oInU false x y M R := by
  unfold oInU
  split
  · rename_i ks e; exact absurd e (h ks)
  · exact q
/-! ### constants of a class -/
def wCVal (n : Str) (v : D) (w : WE) : WE := fun env M R => w env M fun d M1 => match d with
  | .cls m => Need (m = n) ∧ R v M1
  | _ => False
theorem d_cvalI {X : Cx} {B : Bs} {n f : Str} {i : Int} {t : Tok} {C : Addr} {mc : Value} {e : Expr} {pos : Pos} {w : WE} (ca : ClsAt X.K n C) (r : ClX.CRead X.K C mc) (c : PySem.W.findCls X.K (.ref C) mc f = some (.val (.int i t))) (he : DE B X e w) (hb : attributeBase e f X.env (eval e X.env) = eval e X.env := by rfl) :
    DE B X (.Attribute e f pos) (wCVal n (.int i) w) := by
  refine (ClX.pe_cval he hb).imp fun σ H Q => ?_
  rintro ⟨P, al, M, env, R, rs, hw, L⟩
  refine ⟨P, al, M, env, _, rs, hw, fun d M1 v H1 P1 al1 e1 rs1 r1 q => ?_⟩
  split at q
  · obtain ⟨⟨rfl⟩, q⟩ := q
    cases r1 with
    | cls c2 =>
      obtain rfl := ca.one c2
      exact ⟨C, mc, .int i, _, rfl, r, ⟨c, ⟨t, rfl⟩⟩, (L.after e1).here rs1 (.int i) q⟩
  · exact q.elim
/-! ### tables of classes -/
inductive TabOk (K : PySem.W.Frag) (C : Addr) : List (Str × Bool) → Prop
  | nil : TabOk K C []
  | cons {c : Str} {r : Bool} {Cc : Addr} {tb : List (Str × Bool)} : ClsAt K c Cc → PySem.W.kitOne K (.ref C) (.ref Cc) = some r → TabOk K C tb → TabOk K C ((c, r) :: tb)
theorem TabOk.look {K : PySem.W.Frag} {C : Addr} {tb : List (Str × Bool)} (t : TabOk K C tb) : ∀ c r Cc, tb.lookup c = some r → ClsAt K c Cc → PySem.W.kitOne K (.ref C) (.ref Cc) = some r := by
  induction t with
  | nil => intro c r Cc h; cases h
  | @cons c' r' Cc' tb ca k t ih =>
    intro c r Cc h hc
    rw [List.lookup_cons] at h
    split at h
    · rename_i e
      obtain rfl : c = c' := by simpa using e
      cases h
      obtain rfl := ca.one hc
      exact k
    · exact ih c r Cc h hc
/-- which of the classes ok are caught by 'except n0' -/
inductive ExTab (K : PySem.W.Frag) (Cc : Addr) (n0 : Str) : List Str → Prop
  | nil : ExTab K Cc n0 []
  | cons {m : Str} {C : Addr} {ok : List Str} : ClsAt K m C → PySem.W.exmOne K (.ref C) (.ref Cc) = some (decide (m = n0)) → ExTab K Cc n0 ok → ExTab K Cc n0 (m :: ok)
theorem ExTab.look {K : PySem.W.Frag} {Cc : Addr} {n0 : Str} {ok : List Str} (t : ExTab K Cc n0 ok) : ∀ n C, n ∈ ok → ClsAt K n C → PySem.W.exmOne K (.ref C) (.ref Cc) = some (decide (n = n0)) := by
  induction t with
  | nil => intro n C h; cases h
  | @cons m Cm ok ca e t ih =>
    intro n C h hc
    rcases List.mem_cons.mp h with rfl | h
    · obtain rfl := ca.one hc
      exact e
    · exact ih n C h hc
end L3

namespace L3
open PySem PySem.Spec PyProof.Rows L2
/-! ### comprehensions over a list that changes elsewhere -/
section
variable {K : PySem.W.Frag} {B : Bs}
end
section
variable {X : Cx} {B : Bs} {e : Expr} {tg elt : Expr} {ifs : List Expr} {scope : Scope} {own : List (Str × Nat)} {g : TG} {is : List Nat} {wo : WE} {t : WTs} {we : WE} {pos spos py : Pos} {i : Nat} {y : Str}
end
end L3

/-! sorted of pairs (text, whole number) -/
namespace SrtP
open PySem PySem.Spec PyProof.Rows SrtO L2
def lexS (p q : Str × Int) : Bool := if p.1 = q.1 then decide (p.2 < q.2) else decide (p.1.cps.toList < q.1.cps.toList)
theorem str_ext {a b : Str} (h : a.cps.toList = b.cps.toList) : a = b := by
  cases a; cases b
  simp only at h
  rw [Array.toList_inj.mp h]
theorem lexS_iff {p q : Str × Int} : lexS p q = true ↔ p.1.cps.toList < q.1.cps.toList ∨ (p.1 = q.1 ∧ p.2 < q.2) := by
  unfold lexS
  by_cases e : p.1 = q.1
  · rw [if_pos e, decide_eq_true_eq, e]
    exact ⟨fun h => .inr ⟨rfl, h⟩, fun h => h.elim (fun h => absurd h (List.lt_irrefl _)) (·.2)⟩
  · rw [if_neg e, decide_eq_true_eq]
    exact ⟨.inl, fun h => h.elim id fun h => absurd h.1 e⟩
theorem lexS_no {p q : Str × Int} : lexS p q = false ↔ ¬ (p.1.cps.toList < q.1.cps.toList ∨ (p.1 = q.1 ∧ p.2 < q.2)) := by
  rw [← lexS_iff]
  cases lexS p q <;> simp
theorem lexS_asym {p q : Str × Int} (h : lexS p q = true) : lexS q p = false := by
  refine lexS_no.mpr fun g => ?_
  rcases lexS_iff.mp h with a | ⟨a1, a2⟩
  · rcases g with b | ⟨b1, b2⟩
    · exact List.lt_irrefl _ (List.lt_trans a b)
    · rw [b1] at a; exact List.lt_irrefl _ a
  · rcases g with b | ⟨b1, b2⟩
    · rw [a1] at b; exact List.lt_irrefl _ b
    · omega
theorem lexS_tr {x y z : Str × Int} (h1 : lexS y x = false) (h2 : lexS z y = false) : lexS z x = false := by
  refine lexS_no.mpr fun g => ?_
  have a := lexS_no.mp h1
  have b := lexS_no.mp h2
  have a1 : ¬ y.1.cps.toList < x.1.cps.toList := fun z => a (.inl z)
  have b1 : ¬ z.1.cps.toList < y.1.cps.toList := fun z => b (.inl z)
  have c : x.1.cps.toList ≤ z.1.cps.toList := List.le_trans (List.not_lt.mp a1) (List.not_lt.mp b1)
  rcases g with g | ⟨g1, g2⟩
  · exact List.not_lt.mpr c g
  · have e1 : x.1.cps.toList = y.1.cps.toList := List.le_antisymm (List.not_lt.mp a1) (by rw [← g1]; exact List.not_lt.mp b1)
    have e1 := str_ext e1
    have e2 : z.1 = y.1 := g1.trans e1
    have a2 : ¬ y.2 < x.2 := fun z => a (.inr ⟨e1.symm, z⟩)
    have b2 : ¬ z.2 < y.2 := fun z => b (.inr ⟨e2, z⟩)
    omega
def IsPairS (h : Heap) (v : Value) (x : Str) (y : Int) : Prop := ∃ a o t u n, v = .ref a ∧ h.get? a = some o ∧ o.cls = .type "tuple" ∧ o.data = .seq #[.str x t, .int y u] n
theorem IsPairS.keeps {h h' : Heap} {v : Value} {x : Str} {y : Int} (p : IsPairS h v x y) (k : ∀ b o, h.get? b = some o → o.cls = .type "tuple" → h'.get? b = some o) : IsPairS h' v x y := by
  obtain ⟨a, o, t, u, n, e, ho, hc, hd⟩ := p
  exact ⟨a, o, t, u, n, e, k a o ho hc, hc, hd⟩
section
variable {prog : Program} {w : World} {A : Around} {E : Value → Shared → Prop} {s : Shared}
end
end SrtP
namespace L3
open PySem PySem.Spec PyProof.Rows L2
section
variable {X : Cx}
end
def pD (p : Str × Int) : D := .tup [.str p.1, .int p.2]
section
variable {K : PySem.W.Frag} {P H : Hp} {al : List Addr} {B : Bs}
end
end L3

/-! plain tuples, dict(pairs), d.get(k, x) -/
namespace L3
open PySem PySem.Spec PyProof.Rows L2
section
variable {X : Cx}
theorem Inv.ptup {pins : List (Addr × Obj)} {σ : L2.St} {H : Hp} {s : Shared} {a : Addr} {xs : List V} (I : L2.Inv X pins σ H s) (h : SqP H a xs) :
    ∃ (o : Obj) (its : List Value) (n : Nat), Vals xs its ∧ s.heap.get? a = some o ∧ o.cls = .type "tuple" ∧ o.dict = none ∧ o.data = .seq its.toArray n ∧ xs.length ≤ sizeLine := by
  obtain ⟨o, e, hd⟩ := h
  obtain ⟨g, z, its, r, o', ho', hc, n, hdat⟩ := I.hok _ _ e
  rw [g] at ho'; cases ho'
  exact ⟨o, its, n, r, g, hc, hd, hdat, z⟩
/-- tuple(xs) of a list: a plain tuple -/
def rTupP (K : PySem.W.Frag) : List V → Hp → VK → Prop := fun xs H Q => ∃ p ys, xs = [.ref p] ∧ SqL K H p ys ∧ ∀ (l : Addr) (o : Obj), o.dict = none → H l = none → Q (.ref l) (upd H l (.frz o (.tup ys)))
theorem call_tupP : CallR X (.type "tuple") (rTupP X.K) := by
  intro pins s σ H xs us Q I r h
  obtain ⟨p, ys, rfl, hq, q⟩ := h
  obtain ⟨u, rfl, rx⟩ := vals1 r
  cases rx
  obtain ⟨its, r', pl, hz⟩ := I.list hq
  have hlen := r'.length
  refine call_tuple_list pl.isList (fun h' kp => ?_) (by simp only [List.size_toArray] <;> omega)
  have I1 : L2.Inv X pins σ H { s with heap := h' } := I.kept (t' := s.toks) kp
  have I2 : L2.Inv X pins σ (upd H h'.objs.size (.frz { cls := .type "tuple", data := .seq its.toArray } (.tup ys))) { s with heap := h'.push { cls := .type "tuple", data := .seq its.toArray } } :=
    I1.laid (t' := s.toks) (fun b o e => Heap.get?_push_of_some _ e) (Nat.le_refl _) (show ObjOk X.prog X.w _ _ _ (.frz _ (.tup ys)) from ⟨Heap.get?_push_size _ rfl, hz, its, r', IsTup.new _ _⟩)
  exact ⟨.ref h'.objs.size, _, I2, rfl, q _ _ rfl (I1.hok.fresh (Nat.le_refl _))⟩
theorem pairs_V {h : Heap} : ∀ {prs : List (Key × Value)} {ps : List Addr}, prs.length = ps.length → (∀ (j : Nat) (q : Key × Value), prs[j]? = some q → ∃ (b : Addr) (u : Value), ps[j]? = some b ∧ IsTup h b #[u, q.2] ∧ keyIs q.1 u = true) →
    ∃ pv : List (Value × Value), pv.length = prs.length ∧ ∀ (j : Nat) (k v : Value), pv[j]? = some (k, v) → ∃ (q : Key × Value) (b : Addr), prs[j]? = some q ∧ q.2 = v ∧ ps[j]? = some b ∧ IsTup h b #[k, v] ∧ keyIs q.1 k = true
  | [], ps, _, _ => ⟨[], rfl, fun j k v e => by simp at e⟩
  | q :: prs, [], e, _ => by simp at e
  | q :: prs, p :: ps, e, hp => by
    obtain ⟨b, u, h1, h2, h3⟩ := hp 0 q rfl
    obtain ⟨pv, g1, g2⟩ := pairs_V (prs := prs) (ps := ps) (by simpa using e) fun j q' e' => by
      obtain ⟨b, u, h1, h2⟩ := hp (j + 1) q' (by simpa using e')
      exact ⟨b, u, by simpa using h1, h2⟩
    refine ⟨(u, q.2) :: pv, by simp [g1], fun j k v e' => ?_⟩
    cases j with
    | zero =>
      have e2 : (u, q.2) = (k, v) := Option.some.inj e'
      cases e2
      exact ⟨q, b, rfl, rfl, h1, h2, h3⟩
    | succ j =>
      obtain ⟨q', b', f1, f2, f3, f4⟩ := g2 j k v (by simpa using e')
      exact ⟨q', b', by simpa using f1, f2, by simpa using f3, f4⟩
/-- dict(t) of a plain tuple of pairs -/
def rDictT (K : PySem.W.Frag) : List V → Hp → VK → Prop := fun xs H Q => ∃ (a : Addr) (ps : List Addr) (kvs : List (Key × V)), xs = [.ref a] ∧ SqP H a (ps.map V.ref) ∧ Paired (fun p kv => SqT K H p [kV kv.1, kv.2]) ps kvs ∧
    ∀ p, H p = none → Q (.ref p) (upd H p (.dK (mergeK [] kvs)))
theorem call_dictT (hcalm : X.calm = true) : CallR X (.type "dict") (rDictT X.K) := by
  intro pins s σ H xs us Q I r q
  obtain ⟨a, ps, kvs, ex, hq, hp, q⟩ := q
  subst ex
  obtain ⟨u, eu, rx⟩ := vals1 r
  subst eu
  cases rx
  obtain ⟨o, its, n, rv, ho, hc, hd, hdat, hz⟩ := Inv.ptup I hq
  have ei := refs_at rv
  subst ei
  rw [List.length_map] at hz
  obtain ⟨prs, rel, hl, hpr⟩ := pairs_of I hp
  obtain ⟨pv, g1, g2⟩ := pairs_V hl hpr
  refine call_dict_pairs (knd := mixKind X.prog X.w) (kvs := prs) (PairArg.tuple a (ps.map Value.ref).toArray (fun j => ps.getD j 0) pv) (I.ok.hd hcalm) ⟨⟨o, n, ho, hc, hd, hdat⟩, ?_, fun j k v e => ?_⟩ ⟨g1.symm, fun j k v e => ?_⟩ (by rw [g1, hl]; exact hz) fun h' tk hd' k => ?_
  · simp [g1, hl]
  · obtain ⟨q', b, f1, f2, f3, f4, f5⟩ := g2 j k v e
    have eb : ps.getD j 0 = b := by rw [List.getD_eq_getElem?_getD, f3]; rfl
    refine ⟨?_, .inl ?_⟩
    · simp [f3]
    · show s.heap.IsTuple (ps.getD j 0) #[k, v]
      rw [eb]
      exact f4
  · obtain ⟨q', b, f1, f2, f3, f4, f5⟩ := g2 j k v e
    exact ⟨q'.1, by rw [f1, ← f2], f5⟩
  · have hm : (s.heap.objs.size == sysModules) = false := beq_eq_false_iff_ne.mpr (Nat.ne_of_gt I.big)
    have hlen : (mergeK [] kvs).length ≤ sizeLine := by
      refine Nat.le_trans (length_mergeK kvs []) ?_
      rw [List.length_nil, Nat.zero_add, rel.length, hl]
      exact hz
    exact ⟨.ref s.heap.objs.size, upd H s.heap.objs.size (.dK (mergeK [] kvs)), I.laid (t' := tk) (fun b o e => k b o (by simp) e) (Nat.le_refl _) (show ObjOk X.prog X.w _ _ _ (.dK (mergeK [] kvs)) from ⟨hlen, hm, merged [] prs, KV.merge rel .nil, hd'⟩), rfl, q _ (I.hok.fresh (Nat.le_refl _))⟩
end
/-! ### over data -/
/-- a plain tuple as any tuple -/
def fgt : D → D
  | .ptp l => .tup l
  | d => d
def wFgt (we : WE) : WE := fun env M R => we env M fun d M1 => R (fgt d) M1
section
variable {K : PySem.W.Frag} {P H : Hp} {al : List Addr} {B : Bs} {X : Cx} {e o f : Expr} {we wo wi wf : WE} {pos apos cpos : Pos}
theorem Rep.fgt {d : D} {v : V} (r : Rep K P al d v) : Rep K P al (L3.fgt d) v := by
  cases r with
  | ptp q t => exact .tup q.seqT t
  | non => exact .non
  | bl b => exact .bl b
  | int i => exact .int i
  | str s => exact .str s
  | ty n => exact .ty n
  | adr a => exact .adr a
  | tup q t => exact .tup q t
  | lst q t => exact .lst q t
  | rol q t => exact .rol q t
  | dct q t => exact .dct q t
  | fdc q t => exact .fdc q t
  | obj q c t => exact .obj q c t
  | cls c => exact .cls c
  | cel e => exact .cel e
theorem d_fgt (h : DE B X e we) : DE B X e (wFgt we) := h.imp fun σ H Q => by
  rintro ⟨P, al, M, env, R, rs, hw, L⟩
  exact ⟨P, al, M, env, _, rs, hw, fun d M1 v H1 P1 al1 e1 rs1 r1 q => L _ _ _ _ _ _ e1 rs1 r1.fgt q⟩
/-- tuple(xs) -/
@[irreducible] def cTupP : WCl := fun ds M R => match ds with
  | [x] => match lstD (viewD M x) with
    | some l => R (.ptp l) M
    | none => False
  | _ => False
theorem cTupP_ok : CallD K B (rTupP K) cTupP := by
  intro P al M env σ H vs ds R Q rs r h L
  unfold cTupP at h
  split at h
  · cases r with
    | cons r1 t =>
      cases t
      split at h
      · rename_i l e1
        obtain ⟨a, xs, rfl, h1, q1⟩ := view_lstD rs.toRS0 r1 e1
        exact ⟨a, xs, rfl, h1, fun p o hd hn => L.alloc rs hn (.ptp ⟨o, upd_same, hd⟩ (q1.mono (fun b x e => by rw [upd_ne (ne_of_none e (rs.toRS0.free hn))]; exact e) (List.prefix_refl _))) h⟩
      · exact h.elim
  · exact h.elim
theorem tupP_use {l : List D} {x : D} {M : Mt} {R : D → Mt → Prop} (h : lstD (viewD M x) = some l) (k : R (.ptp l) M) : cTupP [x] M R := by
  simp only [cTupP, h]; exact k
/-- pairs (key, value) -/
def kpD : List D → Option (List (Key × D))
  | [] => some []
  | .tup [k, d] :: r => match keyD k, kpD r with
    | some k', some r' => some ((k', d) :: r')
    | _, _ => none
  | _ => none
theorem kp_rep {xs : List V} : ∀ {l : List D} {xs : List V} {ks : List (Key × D)}, Reps K P al l xs → kpD l = some ks → ∃ (ps : List Addr) (kvs : List (Key × V)), xs = ps.map V.ref ∧ Paired (fun p kv => SqT K P p [kV kv.1, kv.2]) ps kvs ∧ RepKs K P al ks kvs
  | [], _, _, r, h => by
    cases r; cases h
    exact ⟨[], [], rfl, .nil, .nil⟩
  | d :: l, _, ks, r, h => by
    unfold kpD at h
    split at h
    · rename_i e; cases e
    · rename_i k d' r' e
      cases e
      split at h
      · rename_i k' ks' e1 e2
        cases h
        cases r with
        | cons r1 t =>
          obtain ⟨ps, kvs, rfl, g2, g3⟩ := kp_rep (xs := []) t e2
          cases r1 with
          | tup q r1 => cases r1 with
            | cons ra t1 => cases t1 with
              | cons rb t2 =>
                cases t2
                rw [key_rep ra e1] at q
                exact ⟨_ :: ps, (k', _) :: kvs, rfl, .cons q g2, .cons rb g3⟩
      · cases h
    · cases h
theorem paired_imp {α β : Type} {F G : α → β → Prop} (h : ∀ a b, F a b → G a b) : ∀ {l : List α} {m : List β}, Paired F l m → Paired G l m
  | _, _, .nil => .nil
  | _, _, .cons x t => .cons (h _ _ x) (paired_imp h t)
/-- dict(xs) of a list of pairs -/
@[irreducible] def cDictL : WCl := fun ds M R => match ds with
  | [x] => match lstD (viewD M x) with
    | some l => match kpD l with
      | some ks => R (.dct (mergeD [] ks)) M
      | none => False
    | none => False
  | _ => False
theorem cDictL_ok : CallD K B (fun xs H Q => ∃ (a : Addr) (ps : List Addr) (kvs : List (Key × V)), xs = [.ref a] ∧ SqL K H a (ps.map V.ref) ∧ Paired (fun p kv => SqT K H p [kV kv.1, kv.2]) ps kvs ∧
    ∀ p, H p = none → Q (.ref p) (upd H p (.dK (mergeK [] kvs)))) cDictL := by
  intro P al M env σ H vs ds R Q rs r h L
  unfold cDictL at h
  split at h
  · cases r with
    | cons r1 t =>
      cases t
      split at h
      · rename_i l e1
        split at h
        · rename_i ks e2
          obtain ⟨a, xs, rfl, h1, q1⟩ := view_lstD rs.toRS0 r1 e1
          obtain ⟨ps, kvs, rfl, g2, g3⟩ := kp_rep (xs := []) q1 e2
          exact ⟨a, ps, kvs, rfl, h1, paired_imp (fun _ _ z => same_seqT rs.same z) g2, fun p hn => L.alloc rs hn (.dct upd_same ((RepKs.merge g3 .nil).mono (fun b x e => by rw [upd_ne (ne_of_none e (rs.toRS0.free hn))]; exact e) (List.prefix_refl _))) h⟩
        · exact h.elim
      · exact h.elim
  · exact h.elim
/-- dict(t) of a plain tuple of pairs -/
@[irreducible] def cDictT : WCl := fun ds M R => match ds with
  | [.ptp l] => match kpD l with
    | some ks => R (.dct (mergeD [] ks)) M
    | none => False
  | _ => False
theorem cDictT_ok : CallD K B (rDictT K) cDictT := by
  intro P al M env σ H vs ds R Q rs r h L
  unfold cDictT at h
  split at h
  · cases r with
    | cons r1 t =>
      cases t
      split at h
      · rename_i ks e2
        cases r1 with
        | ptp q1 t1 =>
          obtain ⟨ps, kvs, rfl, g2, g3⟩ := kp_rep (xs := []) t1 e2
          exact ⟨_, ps, kvs, rfl, q1.same rs.same, paired_imp (fun _ _ z => same_seqT rs.same z) g2, fun p hn => L.alloc rs hn (.dct upd_same ((RepKs.merge g3 .nil).mono (fun b x e => by rw [upd_ne (ne_of_none e (rs.toRS0.free hn))]; exact e) (List.prefix_refl _))) h⟩
      · exact h.elim
  · exact h.elim
theorem dictL_use {l : List D} {ks : List (Key × D)} {x : D} {M : Mt} {R : D → Mt → Prop} (h : lstD (viewD M x) = some l) (h2 : kpD l = some ks) (k : R (.dct (mergeD [] ks)) M) : cDictL [x] M R := by
  simp only [cDictL, h, h2]; exact k
theorem dictT_use {l : List D} {ks : List (Key × D)} {M : Mt} {R : D → Mt → Prop} (h2 : kpD l = some ks) (k : R (.dct (mergeD [] ks)) M) : cDictT [.ptp l] M R := by
  simp only [cDictT, h2]; exact k
/-- d.get(k, x) -/
def isDct : D → Bool
  | .dct _ => true
  | .fdc _ => true
  | _ => false
@[irreducible] def oGet2 (d y z : D) (M : Mt) (R : D → Mt → Prop) : Prop := match viewD M d, keyD y with
  | .dct ks, some k => R ((valD ks k).getD z) M
  | .fdc ks, some k => R ((valD ks k).getD z) M
  | _, _ => False
def wGet2 (wd wy wz : WE) : WE := fun env M R => wd env M fun d M1 => isDct (viewD M1 d) = true ∧ wy env M1 fun y M2 => wz env M2 fun z M3 => oGet2 d y z M3 R
theorem d_get2 (hu : X.A.units + 1 < cLine) (ho : DE B X o wo) (he : DE B X e wi) (hf : DE B X f wf) (m : M2 X o "get" apos e f cpos := by exact ⟨rfl, rfl, rfl, rfl⟩) : DE B X (.Call (.Attribute o "get" apos) [e, f] [] cpos) (wGet2 wo wi wf) := by
  refine (pe_dget2 hu ho he hf m).imp fun σ H Q => ?_
  rintro ⟨P, al, M, env, R, rs, hw, L⟩
  refine ⟨P, al, M, env, _, rs, hw, fun d1 M1 v1 H1 P1 al1 e1 rs1 r1 hw1 => ?_⟩
  obtain ⟨hd, hw1⟩ := hw1
  have hv : ∃ ks, viewD M1 d1 = .dct ks ∨ viewD M1 d1 = .fdc ks := by
    cases hv : viewD M1 d1 <;> rw [hv] at hd <;> first | exact ⟨_, .inl rfl⟩ | exact ⟨_, .inr rfl⟩ | cases hd
  obtain ⟨ks, hv⟩ := hv
  obtain ⟨a, xs, rfl, g1, g2⟩ := view_dk rs1.toRS0 r1 hv
  refine ⟨a, rfl, .inl ⟨xs, g1⟩, P1, al1, M1, env, _, rs1, hw1, fun d2 M2 v2 H2 P2 al2 e2 rs2 r2 hw2 => ⟨P2, al2, M2, env, _, rs2, hw2, fun d3 M3 v3 H3 P3 al3 e3 rs3 r3 q => ?_⟩⟩
  have q' : ∃ ks2 k, (viewD M3 d1 = .dct ks2 ∨ viewD M3 d1 = .fdc ks2) ∧ keyD d2 = some k ∧ R ((valD ks2 k).getD d3) M3 := by
    unfold oGet2 at q
    split at q
    · exact ⟨_, _, .inl (by assumption), by assumption, q⟩
    · exact ⟨_, _, .inr (by assumption), by assumption, q⟩
    · exact q.elim
  obtain ⟨ks2, k, h1, h2, q⟩ := q'
  obtain ⟨a', xs', ea, f1, f2⟩ := view_dk rs3.toRS0 (r1.mono (e2.trans e3).pp (e2.trans e3).pre) h1
  cases ea
  refine ⟨valV xs' k, .inl ⟨xs', k, f1, ?_, rfl⟩, ?_⟩
  · exact key_rep (r2.mono e3.pp e3.pre) h2
  · cases hv2 : valD ks2 k with
    | none =>
      rw [hv2] at q
      rw [(f2.val k).2 hv2]
      exact L _ _ _ _ _ _ (e1.trans (e2.trans e3)) rs3 r3 q
    | some d =>
      rw [hv2] at q
      obtain ⟨v, g3, g4⟩ := (f2.val k).1 d hv2
      rw [g3]
      exact L _ _ _ _ _ _ (e1.trans (e2.trans e3)) rs3 g4 q
theorem get2_use {d y z : D} {ks : List (Key × D)} {k : Key} {M : Mt} {R : D → Mt → Prop} (h : viewD M d = .dct ks) (h2 : keyD y = some k) (q : R ((valD ks k).getD z) M) : oGet2 d y z M R := by
  simp only [oGet2, h, h2]; exact q
end
end L3

/-! x |= y by an own __or__; min(i, j); list(d.items()); isinstance(e, ValueError) in a suite -/
namespace L3
open PySem PySem.Spec PyProof.Rows L2
theorem toSp_imp {K : PySem.W.Frag} {sp : DSp} {vs : List V} {H : Hp} {Q : VK} {E E' : XK} (h : ∀ C dd H', E C dd H' → E' C dd H') (q : toSp K sp vs H Q E) : toSp K sp vs H Q E' := by
  obtain ⟨P, al, M, ds, R, RX, rs, r, hw, L, LX⟩ := q
  exact ⟨P, al, M, ds, R, RX, rs, r, hw, L, fun C n fs M' H' P' al' dd e r0 c xd q => h _ _ _ (LX C n fs M' H' P' al' dd e r0 c xd q)⟩
section
variable {X : Cx} {B : Bs} {CX : CXT} {k : Nat} {f C : Addr} {sp : DSp} {n : Str} {e : Expr} {we : WE} {op : Operator} {pos pos' : Pos}
end
/-! ### list(d.items()) -/
section
variable {X : Cx} {B : Bs} {e : Expr} {we : WE} {p apos cpos pos : Pos}
end
section
variable {X : Cx} {B : Bs} {CX : CXT} {k : Nat} {f C : Addr} {sp : DSp} {n : Str} {a b e : Expr} {wa wb we : WE} {pos pos' : Pos} {RX : RXe}
end
/-! ### -i, xs[::-1] -/
section
variable {X : Cx} {B : Bs} {a e : Expr} {wa we : WE} {pos : Pos}
def wNeg (we : WE) : WE := fun env M R => we env M fun d M1 => match d with
  | .int i => R (.int (-i)) M1
  | _ => False
theorem d_neg (ha : DE B X a wa) : DE B X (.UnaryOp .USub a pos) (wNeg wa) := by
  refine (pe_un un_neg ha).imp fun σ H Q => ?_
  rintro ⟨P, al, M, env, R, rs, hw, L⟩
  refine ⟨P, al, M, env, _, rs, hw, fun d M1 v H1 P1 al1 e1 rs1 r1 q => ?_⟩
  cases d <;> first | exact q.elim | skip
  cases r1
  exact ⟨_, rfl, (L.after e1).here rs1 (.int _) q⟩
@[irreducible] def oRevL (d : D) (M : Mt) (R : D → Mt → Prop) : Prop := match lstD (viewD M d) with
  | some l => R (.lst l.reverse) M
  | none => False
def wRevL (we : WE) : WE := fun env M R => we env M fun d M1 => oRevL d M1 R
theorem Reps.rev {K : PySem.W.Frag} {P : Hp} {al : List Addr} : ∀ {ds : List D} {vs : List V}, Reps K P al ds vs → Reps K P al ds.reverse vs.reverse
  | _, _, .nil => .nil
  | _, _, .cons r t => by rw [List.reverse_cons, List.reverse_cons]; exact (Reps.rev t).append (.cons r .nil)
theorem d_revL {k : Nat} {p1 p2 p3 : Pos} (he : DE B X e we) : DE B X (.Subscript e (.Slice none none (some (.UnaryOp .USub (.Constant (.int 1) k p1) p2)) p3) pos) (wRevL we) := by
  refine (pe_revL he).imp fun σ H Q => ?_
  rintro ⟨P, al, M, env, R, rs, hw, L⟩
  refine ⟨P, al, M, env, _, rs, hw, fun d M1 v H1 P1 al1 e1 rs1 r1 q => ?_⟩
  unfold oRevL at q
  split at q
  · rename_i l hl
    obtain ⟨a, xs, rfl, h1, q1⟩ := view_lstD rs1.toRS0 r1 hl
    exact ⟨a, xs, rfl, h1, fun p hn => (L.after e1).alloc rs1 hn (.lst upd_same (q1.rev.mono (fun b x e => by rw [upd_ne (ne_of_none e (rs1.toRS0.free hn))]; exact e) (List.prefix_refl _))) q⟩
  · exact q.elim
end
end L3

namespace L3
open PySem PySem.Spec PyProof.Rows L2
/-! ### like data are equal -/
theorem shaped_lay {p : PyData} (h : SeqAt.shaped p = true) : p.canLay0 = true := by
  simp only [SeqAt.shaped, Bool.and_eq_true] at h; exact h.1
theorem eqv_same {p : PyData} (h : SeqAt.shaped p = true) : PyData.eqv p p = true := PySem.SeqAt.eqv_refl p (shaped_lay h)
/-- data that can be compared -/
def ShD (d : D) : Prop := ∃ p, toP d = some p ∧ SeqAt.shaped p = true
theorem plain_nil : plainOk [] := ⟨[], rfl, rfl⟩
theorem eq_same {M : Mt} {x y d : D} {f : Bool → Bool} {R : D → Mt → Prop} (hx : viewD M x = d) (hy : viewD M y = d) (hp : ShD d) (k : R (.bl (f true)) M) : oEqB f x y M R := by
  obtain ⟨p, hp, hs⟩ := hp
  have he := eqv_same hs
  unfold oEqB
  rw [hx, hy]
  cases d with
  | tup l =>
    cases l with
    | nil => exact ⟨⟨plain_nil⟩, k⟩
    | cons a r => simp only [hp]; rw [he]; exact ⟨⟨hs⟩, ⟨hs⟩, k⟩
  | lst l =>
    cases l with
    | nil => exact ⟨⟨plain_nil⟩, k⟩
    | cons a r => simp only [hp]; rw [he]; exact ⟨⟨hs⟩, ⟨hs⟩, k⟩
  | rol l => simp only [hp]; rw [he]; exact ⟨⟨hs⟩, ⟨hs⟩, k⟩
  | non => exact k
  | bl b => simp only [decide_true]; exact k
  | int b => simp only [decide_true]; exact k
  | str b => simp only [decide_true]; exact k
  | _ => simp [toP] at hp
/-- a sequence, cut by what holds between -/
theorem seq_cut {A B : WS} {k : DEnds} {env : Ev} {M : Mt} (I : Ev → Mt → Prop) (h1 : ∀ K : Ev → Mt → Prop, (∀ env M, I env M → K env M) → A { k with nx := K } env M) (h2 : ∀ env M, I env M → B k env M) : wSeq A B k env M := h1 _ h2
/-- ==, kept closed until its operands are known -/
@[irreducible] def oEqI (f : Bool → Bool) : WO2 := oEqB f
theorem oEqI_ok {K : PySem.W.Frag} {B : Bs} : OpD K B (rEqU K) (oEqI fun b => b) := by unfold oEqI; exact oEq_ok
theorem oNeI_ok {K : PySem.W.Frag} {B : Bs} : OpD K B (rNeU K) (oEqI fun b => !b) := by unfold oEqI; exact oNe_ok
section
variable {M : Mt} {x y : D} {f : Bool → Bool} {R : D → Mt → Prop}
theorem eqI_of (h : oEqB f x y M R) : oEqI f x y M R := by unfold oEqI; exact h
theorem eqI_int {i j : Int} (k : R (.bl (f (decide (i = j)))) M) : oEqI f (.int i) (.int j) M R := eqI_of k
theorem eqI_str {i j : Str} (k : R (.bl (f (decide (i = j)))) M) : oEqI f (.str i) (.str j) M R := eqI_of k
theorem eqI_bl {i j : Bool} (k : R (.bl (f (decide (i = j)))) M) : oEqI f (.bl i) (.bl j) M R := eqI_of k
theorem eqI_0  (k : R (.bl (f true)) M) : oEqI f .non .non M R := eqI_of k
theorem eqI_1 {j : Int} (k : R (.bl (f false)) M) : oEqI f .non (.int j) M R := eqI_of k
theorem eqI_2 {i : Int} (k : R (.bl (f false)) M) : oEqI f (.int i) .non M R := eqI_of k
theorem eqI_3 {j : Bool} (k : R (.bl (f false)) M) : oEqI f .non (.bl j) M R := eqI_of k
theorem eqI_4 {i : Bool} (k : R (.bl (f false)) M) : oEqI f (.bl i) .non M R := eqI_of k
theorem eqI_5 {j : Str} (k : R (.bl (f false)) M) : oEqI f .non (.str j) M R := eqI_of k
theorem eqI_6 {i : Str} (k : R (.bl (f false)) M) : oEqI f (.str i) .non M R := eqI_of k
theorem eqI_7 {i : Int} {j : Str} (k : R (.bl (f false)) M) : oEqI f (.int i) (.str j) M R := eqI_of k
theorem eqI_8 {i : Str} {j : Int} (k : R (.bl (f false)) M) : oEqI f (.str i) (.int j) M R := eqI_of k
theorem eqI_9 {i : Bool} {j : Str} (k : R (.bl (f false)) M) : oEqI f (.bl i) (.str j) M R := eqI_of k
theorem eqI_10 {i : Str} {j : Bool} (k : R (.bl (f false)) M) : oEqI f (.str i) (.bl j) M R := eqI_of k
theorem eqI_lnil {l : List D} (h : viewD M x = .lst l) (hp : Need (plainOk l)) (k : R (.bl (f l.isEmpty)) M) : oEqI f x (.lst []) M R := eqI_of (by
  unfold oEqB; rw [h]; exact ⟨hp, k⟩)
theorem eqI_tnil {l : List D} (h : viewD M x = .tup l) (hp : Need (plainOk l)) (k : R (.bl (f l.isEmpty)) M) : oEqI f x (.tup []) M R := eqI_of (by
  unfold oEqB; rw [h]; exact ⟨hp, k⟩)
theorem eqI_same {d : D} (hx : viewD M x = d) (hy : viewD M y = d) (hp : ShD d) (k : R (.bl (f true)) M) : oEqI f x y M R := eqI_of (eq_same hx hy hp k)
theorem eqI_tups {l m : List D} {ps qs : List PyData} (hx : viewD M x = .tup l) (hy : viewD M y = .tup m) (hp : toPs l = some ps) (hq : toPs m = some qs) (hs : SeqAt.shaped (.tuple ps) = true) (hs' : SeqAt.shaped (.tuple qs) = true) (k : R (.bl (f (PyData.eqvAll ps qs))) M) : oEqI f x y M R := eqI_of (by
  unfold oEqB
  rw [hx, hy]
  cases m with
  | nil =>
    cases hq
    refine ⟨⟨ps, hp, by simpa [SeqAt.shaped, PyData.canLay0, PyData.depth] using hs⟩, ?_⟩
    rw [eqvAll_nil] at k
    have : l.isEmpty = ps.isEmpty := by
      cases l with
      | nil => cases hp; rfl
      | cons a r =>
        unfold toPs at hp
        split at hp
        · cases hp; rfl
        · cases hp
    rw [this]; exact k
  | cons a r =>
    have e1 : toP (.tup l) = some (.tuple ps) := by simp [toP, hp]
    have e2 : toP (.tup (a :: r)) = some (.tuple qs) := by simp [toP, hq]
    simp only [e1, e2]
    have e3 : PyData.eqv (.tuple ps) (.tuple qs) = PyData.eqvAll ps qs := by simp [PyData.eqv]
    rw [e3]
    exact ⟨⟨hs⟩, ⟨hs'⟩, k⟩)
end
end L3

/-! ### len, repr, truth of an instance by its own methods -/
namespace L3
open PySem PySem.Spec PyProof.Rows L2
section
variable {X : Cx} {B : Bs} {CX : CXT} {k : Nat} {f C : Addr} {n : Str} {sp : DSp} {P : V → Prop}
/-- a built-in called with an instance, that asks the instance's own method; what comes back is of the form P -/
def rDun (K : PySem.W.Frag) (C : Addr) (sp : DSp) (P : V → Prop) : List V → Hp → VK → Prop := fun vs H Q => ∃ p dx fs, vs = [V.ref p] ∧ H p = some (.ins C dx fs) ∧ toSp K sp [.ref p] H (fun v H' => P v ∧ Q v H') fun _ _ _ => False
def PStr (v : V) : Prop := ∃ s, v = .str s
/-! over data -/
def retS (R : D → Mt → Prop) : D → Mt → Prop := fun d M => match d with
  | .str i => R (.str i) M
  | _ => False
def retB (R : Bool → Mt → Prop) : D → Mt → Prop := fun d M => match d with
  | .bl i => R i M
  | _ => False
def cDun (n : Str) (sp : DSp) (W : (D → Mt → Prop) → D → Mt → Prop) : WCl := fun ds M R => match ds with
  | [x] => match viewD M x with
    | .obj n1 _ => Need (n1 = n) ∧ sp [x] M (W R) fun _ _ _ => False
    | _ => False
  | _ => False
theorem cDun_ok {K : PySem.W.Frag} {B : Bs} {W : (D → Mt → Prop) → D → Mt → Prop} (ca : ClsAt K n C) (hW : ∀ {P' : Hp} {al' : List Addr} {R : D → Mt → Prop} {d : D} {M : Mt} {v : V}, W R d M → Rep K P' al' d v → P v ∧ R d M) : CallD K B (rDun K C sp P) (cDun n sp W) := by
  intro P0 al M env σ H vs ds R Q rs r h L
  unfold cDun at h
  split at h
  · cases r with
    | cons r1 t =>
      cases t
      split at h
      · rename_i n1 fs v1
        obtain ⟨hn, h⟩ := h
        have h1 := hn.out
        subst h1
        obtain ⟨p, dx, xs, rfl, hp⟩ := view_objOf ca rs.toRS0 r1 v1
        refine ⟨p, dx, xs, rfl, hp, P0, al, M, _, _, _, rs.toRS0.here, .cons r1 .nil, h, fun d M' v H' P' al' e r0 r q => ?_, fun _ _ _ _ _ _ _ _ _ _ _ _ q => q.elim⟩
        obtain ⟨q1, q2⟩ := hW q r
        exact ⟨q1, L _ _ _ _ _ _ e (rs.step e (r0.rebase (rs.base.trans e))) r q2⟩
      · exact h.elim
  · exact h.elim
theorem retS_ok {K : PySem.W.Frag} {P' : Hp} {al' : List Addr} {R : D → Mt → Prop} {d : D} {M : Mt} {v : V} (h : retS R d M) (r : Rep K P' al' d v) : PStr v ∧ R d M := by
  unfold retS at h
  split at h
  · cases r; exact ⟨⟨_, rfl⟩, h⟩
  · exact h.elim
end
end L3


namespace L3
open PySem PySem.Spec PyProof.Rows L2 Builtin
theorem plain_str_new' : plainId "str.__new__" = true := by decide +kernel
section
variable {prog : Program} {w : World} {A : Around} {E : Value → Shared → Prop} {s : Shared} {K : PySem.W.Frag} {x C f : Addr} {h₀ : Heap} {Lc : Addr} {m : Str → Option Value} {ox : Obj} {od : Option Obj}
theorem code_str_new {Q₁ : Value → Shared → Prop} (hu : A.in1.units < cLine) (F : Fr h₀ Lc s.heap m) (X₀ : K.In h₀) (I : PySem.W.InstAt s.heap x ox C od) (hs : PySem.W.findIn K (.ref C) "__str__" = some (some (.ref f))) (hf : PySem.W.isFn K (.ref f) = true)
    (h : wpAny (model prog w) A.in1 (call (.ref f) [.ref x]) (PySem.W.StrBack Q₁) E s) :
    codeAny (model prog w) A (.call (.builtin "str.__new__") ⟨[.type "str", .ref x], []⟩) (wants Q₁ E) s := by
  refine codeAny_of_tree ?_
  show wpAny _ A.in1 (do checkBuiltinCall "str.__new__" ⟨[.type "str", .ref x], []⟩; again (.builtin "str.__new__" ⟨[.type "str", .ref x], []⟩)) _ _ s
  refine wpAny_bind (wpAny_of_eq (PySem.F.newCall_str_1 _) (wpAny_pure ⟨plainId_quiet plain_str_new' _, codeAny_builtin PySem.F.entry_str_new ?_⟩))
  rw [Around.under_plainId plain_str_new' _, str_new_tree]
  refine wpAny_bind (wpAny_pure ?_)
  refine wpAny_bind (wpAny_of_eq isSubtype_str_str ?_)
  refine wpAny_bind ?_
  unfold Str.strOf
  show wpAny _ _ (if false = true then _ else _) _ _ _
  rw [if_neg (by decide)]
  refine wpAny_bind (wpAny_cRoomFor hu ?_)
  refine wpAny_bind (m := callSpecial? (.ref x) (Str.ofString "__str__")) (PySem.W.special_fn (X₀.keeps F.keep) I hs (beq_iff_eq.mp hf) (wpAny_mono h (fun r s' hr => ?_) fun _ _ y => y))
  cases r <;> first | exact hr.elim | skip
  refine wpAny_bind (wpAny_pure ?_)
  exact wpAny_pure (wpAny_pure hr)
theorem obj_init_str {b : Value} {n : Str} {u : Tok} {s₁ : Shared} {R : Result → Shared → Prop} (h : R (.ok (.ret .none)) s₁) : wpAny (model prog w) A.in1 (Builtin.«object.__init__» ⟨[.str n u, b], []⟩)
    (fun fin s' => match fin with | .done f => R (.ok f) s' | .again c' => c'.quiet = true ∧ codeAny (model prog w) A c' R s') (fun e s' => R (.error e) s') s₁ := by
  have hT : s₁.TypeIs (.str n u) "str" := typeIs_str _ _ _
  have hl := PySem.F.called_str.init.lookup
  have hm := PySem.F.called_str.made
  have hne : (some "str.__new__" != some "object.__new__") = true := by decide
  repeat (any_goals (first | assumption | wp_step))
theorem str_K {Q : Value → Shared → Prop} (hu : A.in1.in1.units < cLine) (F : Fr h₀ Lc s.heap m) (X₀ : K.In h₀) (I : PySem.W.InstAt s.heap x ox C od) (hs : PySem.W.findIn K (.ref C) "__str__" = some (some (.ref f))) (hf : PySem.W.isFn K (.ref f) = true)
    (h : wpAny (model prog w) A.in1.in1 (call (.ref f) [.ref x]) (PySem.W.StrBack Q) E s) : wpAny (model prog w) A (call (.type "str") [.ref x]) Q E s := by
  refine callType_codes (Q₁ := fun v s' => PySem.W.StrBack Q v s') PySem.F.called_str (PySem.F.typeCall_str_1 _) PySem.F.entry_object_init (code_str_new hu F X₀ I hs hf (wpAny_mono h (fun r s' hr => ?_) fun _ _ y => y)) fun obj s₁ q => ?_
  · cases r <;> first | exact hr.elim | exact hr
  · cases obj <;> first | exact q.elim | skip
    exact ⟨typeIs_str _ _ _, PySem.F.args_object_init_2 _ _, obj_init_str ⟨rfl, q⟩⟩
end
section
variable {X : Cx} {B : Bs} {CX : CXT} {k : Nat} {f C : Addr} {n : Str} {sp : DSp} {P : V → Prop}
theorem call_strO (oc : OpC X.K C "__str__" f) (F : FnR X.prog X.w X.K X.mg X.base CX k f (toSp X.K sp)) (hr : Room (k + 2) X.A) (hx : Rz X B CX RXn) : CallR X (.type "str") (rDun X.K C sp PStr) := by
  intro pins s σ H xs us Q I r h
  obtain ⟨p, dx, fs, rfl, hp, h⟩ := h
  obtain ⟨u, rfl, rx⟩ := vals1 r
  cases rx
  obtain ⟨m, fr⟩ := I.fr
  obtain ⟨_, O, _⟩ := ins_get I.hok hp
  obtain ⟨od, J, _⟩ := O.look
  have hr' : Room (k + 1) X.A.in1 := hr.in1
  have run := codeAny_mono (F X.A.in1.in1 X.stack s H [.ref p] [.ref p] (fun v H' => PStr v ∧ Q v H') (L2.WE (WL X.K B RXn) σ) hr'.in1 I.env0.in1.in1 (.cons rfl .nil) (toSp_imp (fun _ _ _ z => z.elim) h)) (R' := fun r s' => match r with
      | .ok (.ret v) => EP X pins σ (fun v H' => PStr v ∧ Q v H') v s'
      | .ok _ => False
      | .error e => X.xe e s') fun r s' hq => by
    match r, hq with
    | .error e, hq => exact hx σ pins H s e s' I hq
    | .ok (.ret u), hq => exact I.after hq
    | .ok .next, hq => exact hq.elim
    | .ok .brk, hq => exact hq.elim
    | .ok .cont, hq => exact hq.elim
  refine str_K (by have := hr'.in1.units; omega) fr I.ok.mod.kin J oc.at_ oc.fn (wpAny_mono (wpAny_call run) (fun r s' z => ?_) fun _ _ z => z)
  obtain ⟨v, H', I', rv, ⟨n, rfl⟩, q⟩ := z
  obtain ⟨t, rfl⟩ := rv
  exact ⟨.str n, H', I', ⟨_, rfl⟩, q⟩
end
end L3
namespace L3
open PySem PySem.Spec PyProof.Rows L2 Builtin
section
variable {prog : Program} {w : World} {A : Around} {E : Value → Shared → Prop} {s : Shared} {K : PySem.W.Frag} {x C f : Addr} {h₀ : Heap} {Lc : Addr} {m : Str → Option Value} {ox : Obj} {od : Option Obj} {b tb : Value}
theorem ifBound_objNe {M : Model} {args : List Value} {Q : Option Value → Shared → Prop} (X : K.In s.heap) (I : PySem.W.InstAt s.heap x ox C od) (hs : PySem.W.findIn K (.ref C) "__ne__" = some (some (.builtin "object.__ne__")))
    (h : wpAny M A (call (.builtin "object.__ne__") (.ref x :: args)) (fun v => Q (some v)) E s) : wpAny M A (callSpecialIfBound? (.ref x) "__ne__" args) Q E s := by
  simp only [callSpecialIfBound?, bindSpecialIfBound?]
  refine wpAny_holding (wpAny_bind (wpAny_bind (wpAny_bind (I.type.here ((PySem.W.looks_findIn X hs).here ?_)))))
  refine wpAny_bind (wpAny_askSetting (wpAny_ite ?_))
  have fin : wpAny M A (call (.builtin "object.__ne__") ([.ref x] ++ args) >>= fun v => pure (some v)) Q E s := wpAny_bind (wpAny_mono h (fun v s' h' => wpAny_pure h') fun _ _ h' => h')
  split
  · exact wpAny_bind (wpAny_of_eq (PySem.F.cmp_object.ne.bind _) (wpAny_pure (by exact fin)))
  · exact wpAny_tryCatch (wpAny_bind (wpAny_of_eq (PySem.F.cmp_object.ne.bind _) (wpAny_pure (by exact fin))))
def NotBack (Q : Value → Shared → Prop) (v : Value) (s' : Shared) : Prop := match v with
  | .bool b => Q (.bool (!b)) s'
  | _ => False
theorem objNe_entry {Q : Fin → Shared → Prop} (hu : A.units < cLine) (X : K.In s.heap) (I : PySem.W.InstAt s.heap x ox C od) (hs : PySem.W.findIn K (.ref C) "__eq__" = some (some (.ref f))) (hf : PySem.W.isFn K (.ref f) = true)
    (h : wpAny (model prog w) A (call (.ref f) [.ref x, b]) (NotBack fun v s' => Q (.done (.ret v)) s') E s) : wpAny (model prog w) A (Builtin.«object.__ne__» ⟨[.ref x, b], []⟩) Q E s := by
  unfold Builtin.«object.__ne__»
  repeat (first
    | with_reducible refine wpAny_cRoomFor hu ?_
    | (refine wpAny_bind (m := callSpecialIfBound? (.ref x) (Str.ofString "__eq__") [b])
        (PySem.W.ifBound_K X I hs hf (wpAny_mono h (fun r s' hr => by
          cases r <;> first | exact hr.elim | skip
          have hq := hr
          repeat (first | exact hq | exact wpAny_pure hq | exact wpAny_truthy_bool hq | (refine wpAny_bind (m := truthy (.bool _)) (wpAny_truthy_bool ?_)) | wp_step)) fun _ _ e => e)))
    | wp_step)
end
end L3
namespace L3
open PySem PySem.Spec PyProof.Rows L2 Builtin
section
variable {prog : Program} {w : World} {A : Around} {E : Value → Shared → Prop} {s : Shared} {K : PySem.W.Frag} {x C f : Addr} {h₀ : Heap} {Lc : Addr} {m : Str → Option Value} {ox : Obj} {od : Option Obj} {b tb : Value}
/-- what != asks of an own class without __ne__ -/
structure NeC (K : PySem.W.Frag) (C : Addr) : Prop where
  ne : PySem.W.findIn K (.ref C) "__ne__" = some (some (.builtin "object.__ne__"))
  ob : PySem.W.mroIn K C (.type "object") = some true
theorem ne_K {Q : Value → Shared → Prop} (hu : A.units < cLine) (hu1 : A.in1.units < cLine) (F : Fr h₀ Lc s.heap m) (X₀ : K.In h₀) (I : PySem.W.InstAt s.heap x ox C od) (hb : PySem.W.Looks (model prog w) s.heap (typeOf b) tb) (hn : PySem.W.notFirst K C tb = true) (N : NeC K C)
    (hs : PySem.W.findIn K (.ref C) "__eq__" = some (some (.ref f))) (hf : PySem.W.isFn K (.ref f) = true)
    (h : wpAny (model prog w) A.in1 (call (.ref f) [.ref x, b]) (NotBack Q) E s) : wpAny (model prog w) A (richCompare .NotEq (.ref x) b) Q E s := by
  have X := X₀.keeps F.keep
  have one : wpAny (model prog w) A (tryCompare (.ref x) "__ne__" b) (fun r s' => ∃ v, r = some v ∧ Q v s') E s := by
    unfold tryCompare
    refine wpAny_bind (ifBound_objNe X I N.ne (wpAny_mono (Q := fun v s' => (∃ k, v = .bool k) ∧ Q v s') ?_ (fun v s' hv => ?_) fun _ _ e => e))
    · refine wpAny_call (codeAny_call_builtin PySem.F.cmp_object.ne.plain PySem.F.cmpEntry_ne (PySem.W.check_slot PySem.F.cmpKind_ne PySem.F.cmpSplit_ne (I.type.andThen (PySem.W.looks_mroIn X N.ob)) (PySem.F.cmpArgs_ne _ _) (objNe_entry hu1 X I hs hf (wpAny_mono h (fun v s' hv => ?_) fun _ _ e => e))))
      cases v <;> first | exact hv.elim | exact ⟨⟨_, rfl⟩, hv⟩
    · obtain ⟨⟨k, rfl⟩, hq⟩ := hv
      exact wpAny_pure ⟨_, rfl, hq⟩
  unfold richCompare
  simp only [oneThing_ref]
  refine wpAny_holding (wpAny_bind (wpAny_cRoomFor hu ?_))
  refine wpAny_bind (I.type.here (wpAny_bind (hb.here ?_)))
  split
  · rename_i q
    have e : PySem.W.subIn K tb (.ref C) = some false := by
      rcases Bool.or_eq_true_iff.mp hn with e | e
      · rw [beq_iff_eq.mp e] at q; simp at q
      · exact beq_iff_eq.mp e
    refine wpAny_bind ((PySem.W.looks_subIn X e).here ?_)
    simp only [Bool.false_eq_true, if_false]
    refine wpAny_bind (wpAny_mono one (fun r s' z => ?_) fun _ _ e => e)
    obtain ⟨v, rfl, hq⟩ := z
    exact wpAny_pure hq
  · refine wpAny_bind (wpAny_pure ?_)
    simp only [Bool.false_eq_true, if_false]
    refine wpAny_bind (wpAny_mono one (fun r s' z => ?_) fun _ _ e => e)
    obtain ⟨v, rfl, hq⟩ := z
    exact wpAny_pure hq
end
theorem sub_kind {K : PySem.W.Frag} {C : Addr} : ∀ T ∈ isBs, PySem.W.subIn K (.type T) (.ref C) = some false := by
  intro T h
  simp only [isBs, List.mem_cons, List.not_mem_nil, or_false] at h
  rcases h with rfl | rfl | rfl | rfl | rfl | rfl | rfl
  · show (fastBuiltinMro "NoneType").map (·.contains (.ref C)) = some false
    rw [show fastBuiltinMro "NoneType" = some [.type "NoneType", .type "object"] from by decide +kernel]; simp
  · show (fastBuiltinMro "bool").map (·.contains (.ref C)) = some false
    rw [show fastBuiltinMro "bool" = some [.type "bool", .type "int", .type "object"] from by decide +kernel]; simp
  · show (fastBuiltinMro "int").map (·.contains (.ref C)) = some false
    rw [show fastBuiltinMro "int" = some [.type "int", .type "object"] from by decide +kernel]; simp
  · show (fastBuiltinMro "str").map (·.contains (.ref C)) = some false
    rw [show fastBuiltinMro "str" = some [.type "str", .type "object"] from by decide +kernel]; simp
  · show (fastBuiltinMro "tuple").map (·.contains (.ref C)) = some false
    rw [show fastBuiltinMro "tuple" = some [.type "tuple", .type "object"] from by decide +kernel]; simp
  · show (fastBuiltinMro "list").map (·.contains (.ref C)) = some false
    rw [show fastBuiltinMro "list" = some [.type "list", .type "object"] from by decide +kernel]; simp
  · show (fastBuiltinMro "dict").map (·.contains (.ref C)) = some false
    rw [show fastBuiltinMro "dict" = some [.type "dict", .type "object"] from by decide +kernel]; simp
section
variable {X : Cx} {B : Bs} {CX : CXT} {k : Nat} {f C : Addr} {n : Str} {sp : DSp}
/-- an instance == any value -/
def rEqO (K : PySem.W.Frag) (C : Addr) (sp : DSp) (g : Bool → Bool) : R2 := fun x y H Q => ∃ p dx fs, x = V.ref p ∧ H p = some (.ins C dx fs) ∧ ((∃ q dy gs, y = V.ref q ∧ H q = some (.ins C dy gs)) ∨ ∃ T ∈ isBs, TyX K H y (.type T)) ∧
  toSp K sp [.ref p, y] H (fun v H' => ∃ b, v = .bl b ∧ Q (.bl (g b)) H') fun _ _ _ => False
theorem kind_at {pins : List (Addr × Obj)} {σ : L2.St} {H : Hp} {s : Shared} {y : V} {u : Value} (I : L2.Inv X pins σ H s) (ry : RelV y u) (h : (∃ q dy gs, y = V.ref q ∧ H q = some (.ins C dy gs)) ∨ ∃ T ∈ isBs, TyX X.K H y (.type T)) :
    ∃ tb, PySem.W.Looks (model X.prog X.w) s.heap (typeOf u) tb ∧ PySem.W.notFirst X.K C tb = true := by
  rcases h with ⟨q, dy, gs, rfl, hq⟩ | ⟨T, hT, ty⟩
  · cases ry
    obtain ⟨_, O2, _⟩ := ins_get I.hok hq
    obtain ⟨od2, J2, _⟩ := O2.look
    exact ⟨_, J2.type, by simp [PySem.W.notFirst]⟩
  · obtain ⟨P, kx, p, _⟩ := kit_of I ry ty
    refine ⟨_, kx.ty _ _ I.kIn p, ?_⟩
    unfold PySem.W.notFirst
    rw [sub_kind T hT]; simp
theorem op_eqO (oc : OpC X.K C "__eq__" f) (F : FnR X.prog X.w X.K X.mg X.base CX k f (toSp X.K sp)) (hr : Room k X.A) (hx : Rz X B CX RXn) : OpR X (compareOp .Eq) (rEqO X.K C sp id) := by
  intro pins s σ H x y v u Q I rx ry h
  obtain ⟨p, dx, fs, rfl, hp, hy, h⟩ := h
  cases rx
  obtain ⟨m, fr⟩ := I.fr
  obtain ⟨_, O, _⟩ := ins_get I.hok hp
  obtain ⟨od, J, _⟩ := O.look
  obtain ⟨tb, hb, hn⟩ := kind_at I ry hy
  show wpAny (model X.prog X.w) X.A (richCompare .Eq (.ref p) u) (EP X pins σ Q) X.xe s
  refine PySem.W.cmp_K (by have := hr.units; omega) fr I.ok.mod.kin J hb hn oc.at_ oc.fn (wpAny_mono (wpAny_call (run_at (us := [.ref p, u]) (vs := [.ref p, y]) F hr (hx σ) I (.cons rfl (.cons ry .nil)) (toSp_imp (fun _ _ _ z => z.elim) h))) (fun r s' z => ?_) fun _ _ z => z)
  obtain ⟨v, H', I', rv, b, rfl, q⟩ := z
  cases rv
  exact ⟨.bl b, H', I', rfl, q⟩
theorem op_neO (oc : OpC X.K C "__eq__" f) (N : NeC X.K C) (F : FnR X.prog X.w X.K X.mg X.base CX k f (toSp X.K sp)) (hr : Room (k + 1) X.A) (hx : Rz X B CX RXn) : OpR X (compareOp .NotEq) (rEqO X.K C sp fun b => !b) := by
  intro pins s σ H x y v u Q I rx ry h
  obtain ⟨p, dx, fs, rfl, hp, hy, h⟩ := h
  cases rx
  obtain ⟨m, fr⟩ := I.fr
  obtain ⟨_, O, _⟩ := ins_get I.hok hp
  obtain ⟨od, J, _⟩ := O.look
  obtain ⟨tb, hb, hn⟩ := kind_at I ry hy
  show wpAny (model X.prog X.w) X.A (richCompare .NotEq (.ref p) u) (EP X pins σ Q) X.xe s
  refine ne_K (by have := hr.units; omega) (by have := hr.in1.units; omega) fr I.ok.mod.kin J hb hn N oc.at_ oc.fn (wpAny_mono (wpAny_call (run_in1 (us := [.ref p, u]) (vs := [.ref p, y]) F hr (hx σ) I (.cons rfl (.cons ry .nil)) (toSp_imp (fun _ _ _ z => z.elim) h))) (fun r s' z => ?_) fun _ _ z => z)
  obtain ⟨v, H', I', rv, b, rfl, q⟩ := z
  cases rv
  exact ⟨.bl (!b), H', I', rfl, q⟩
/-- == over data: the instance's own method, or what == is of data -/
@[irreducible] def oEqO (n : Str) (sp : DSp) (g : Bool → Bool) : WO2 := fun x y M R => match viewD M x with
  | .obj n1 _ => Need (n1 = n) ∧ (match viewD M y with
    | .obj n2 _ => Need (n2 = n)
    | _ => (tyN M y).isSome = true) ∧ sp [x, y] M (retB fun b M' => R (.bl (g b)) M') fun _ _ _ => False
  | _ => oEqI g x y M R
theorem oEqO_ok {K : PySem.W.Frag} {g : Bool → Bool} {r : R2} (ca : ClsAt K n C) (h0 : OpD K B r (oEqI g)) : OpD K B (fun x y H Q => rEqO K C sp g x y H Q ∨ r x y H Q) (oEqO n sp g) := by
  intro P al M env σ H x y dx dy R Q rs r1 r2 h L
  unfold oEqO at h
  split at h
  · rename_i n1 fs v1
    obtain ⟨hn, hk, h⟩ := h
    have h1 := hn.out
    subst h1
    obtain ⟨p, dx', xs, rfl, hp⟩ := view_objOf ca rs.toRS0 r1 v1
    refine .inl ⟨p, dx', xs, rfl, hp, ?_, P, al, M, _, _, _, rs.toRS0.here, .cons r1 (.cons r2 .nil), h, fun d M' v H' P' al' e r0 r q => ?_, fun _ _ _ _ _ _ _ _ _ _ _ _ q => q.elim⟩
    · split at hk
      · rename_i n2 gs v2
        have h2 := hk.out
        subst h2
        obtain ⟨p2, dx2, xs2, rfl, hp2⟩ := view_objOf ca rs.toRS0 r2 v2
        exact .inl ⟨p2, dx2, xs2, rfl, hp2⟩
      · obtain ⟨T, hT⟩ := Option.isSome_iff_exists.mp hk
        obtain ⟨m, ty⟩ := tyN_ok rs.toRS0 r2 hT
        exact .inr ⟨T, m, ty⟩
    · unfold retB at q
      split at q
      · cases r; exact ⟨_, rfl, L _ _ _ _ _ _ e (rs.step e (r0.rebase (rs.base.trans e))) (.bl _) q⟩
      · exact q.elim
  · exact .inr (h0 P al M env σ H x y dx dy R Q rs r1 r2 h L)
theorem eqO_obj {g : Bool → Bool} {M : Mt} {x y : D} {R : D → Mt → Prop} {fs gs : List (Str × D)} (hx : viewD M x = .obj n fs) (hy : viewD M y = .obj n gs) (h : sp [x, y] M (retB fun b M' => R (.bl (g b)) M') fun _ _ _ => False) : oEqO n sp g x y M R := by
  unfold oEqO; rw [hx, hy]; exact ⟨⟨rfl⟩, ⟨rfl⟩, h⟩
theorem eqO_any {g : Bool → Bool} {M : Mt} {x y : D} {R : D → Mt → Prop} {fs : List (Str × D)} (hx : viewD M x = .obj n fs) (hy : (tyN M y).isSome = true) (h : sp [x, y] M (retB fun b M' => R (.bl (g b)) M') fun _ _ _ => False) : oEqO n sp g x y M R := by
  unfold oEqO; rw [hx]
  refine ⟨⟨rfl⟩, ?_, h⟩
  split
  · rename_i n2 gs v2
    unfold tyN at hy
    rw [v2] at hy
    cases hy
  · exact hy
end
end L3

/-! ### bool of an instance; isinstance of own classes; f-strings; join; str -/
namespace L3
open PySem PySem.Spec PyProof.Rows L2 Builtin
section
variable {prog : Program} {w : World} {A : Around} {E : Value → Shared → Prop} {s : Shared} {K : PySem.W.Frag} {x C f : Addr} {h₀ : Heap} {Lc : Addr} {m : Str → Option Value} {ox : Obj} {od : Option Obj}
end
section
variable {X : Cx} {B : Bs} {CX : CXT} {k : Nat} {f C : Addr} {n : Str} {sp : DSp} {P : V → Prop}
end
/-! isinstance(x, C) -/
structure InsF (K : PySem.W.Frag) (C : Addr) : Prop where
  cl : Cls K C
  ha : PySem.W.findIn K (.ref C) "__class__" = some (some (.builtin "object.__class__"))
  hn : PySem.W.specialIn K (.builtin "object.__class__") "__get__" = some (some (.builtin "getset_descriptor.__get__"))
  htk : PySem.W.takesIn K (.builtin "object.__class__") = some true
  hm : PySem.W.mroIn K C (.type "object") = some true
/-- no built-in is an instance of the class -/
def IscC (K : PySem.W.Frag) (C : Addr) : Prop := PySem.W.kitOne K (.type "NoneType") (.ref C) = some false
theorem IscC.no {K : PySem.W.Frag} {C : Addr} (h : IscC K C) {T : String} (hT : T ∈ isBs) : PySem.W.kitOne K (.type T) (.ref C) = some false := by
  have e : ∀ T, PySem.W.kitOne K (.type T) (.ref C) = if ((PySem.W.clsIn K C).isSome && PySem.W.typeIn K (.ref C) == some (.type "type")) = true then PySem.W.subIn K (.type T) (.ref C) else none := fun T => by
    have : (Value.type T == Value.ref C) = false := rfl
    unfold PySem.W.kitOne
    rw [this]; rfl
  unfold IscC at h
  rw [e] at h ⊢
  split at h
  · rename_i c
    rw [if_pos c]; exact sub_kind T hT
  · cases h
inductive TabI (K : PySem.W.Frag) (Cc : Addr) : List (Str × Bool) → Prop
  | nil : TabI K Cc []
  | cons {n : Str} {r : Bool} {C : Addr} {tb : List (Str × Bool)} : ClsAt K n C → InsF K C → PySem.W.kitOne K (.ref C) (.ref Cc) = some r → TabI K Cc tb → TabI K Cc ((n, r) :: tb)
theorem TabI.look {K : PySem.W.Frag} {Cc : Addr} {tb : List (Str × Bool)} (t : TabI K Cc tb) : ∀ n r C, tb.lookup n = some r → ClsAt K n C → InsF K C ∧ PySem.W.kitOne K (.ref C) (.ref Cc) = some r := by
  induction t with
  | nil => intro n r C h; cases h
  | @cons n' r' C' tb ca i k t ih =>
    intro n r C h hc
    rw [List.lookup_cons] at h
    split at h
    · rename_i e
      obtain rfl : n = n' := by simpa using e
      cases h
      obtain rfl := ca.one hc
      exact ⟨i, k⟩
    · exact ih n r C h hc
@[irreducible] def cIsO (tb : List (Str × Bool)) (c : Str) : WCl := fun ds M R => match ds with
  | [x, .cls c'] => Need (c' = c) ∧ (match viewD M x with
    | .obj n1 _ => match tb.lookup n1 with
      | some r => R (.bl r) M
      | none => False
    | _ => (tyN M x).isSome = true ∧ R (.bl false) M)
  | _ => False
theorem cIsO_ok {K : PySem.W.Frag} {B : Bs} {Cc : Addr} {c : Str} {tb : List (Str × Bool)} (ca : ClsAt K c Cc) (no : IscC K Cc) (t : TabI K Cc tb) : CallD K B (rIsi K) (cIsO tb c) := by
  intro P al M env σ H vs ds R Q rs r h L
  unfold cIsO at h
  split at h
  · rename_i x c'
    obtain ⟨hc, h⟩ := h
    have hc := hc.out
    subst hc
    cases r with
    | cons r1 t1 => cases t1 with
      | cons r2 t2 =>
        cases t2; cases r2
        rename_i C2 c2
        obtain rfl := ca.one c2
        split at h
        · rename_i n1 fs v1
          split at h
          · rename_i r0 hl
            obtain ⟨a, C', dx, xs, rfl, ha, hcl, _⟩ := view_obj rs.toRS0 r1 v1
            obtain ⟨i, kk⟩ := t.look _ _ _ hl hcl
            exact ⟨_, _, _, _, _, rfl, .own _, .base (.ins ha i.cl i.ha i.hn i.htk i.hm), kk, L.here rs (.bl _) h⟩
          · exact h.elim
        · obtain ⟨h1, h2⟩ := h
          obtain ⟨T, hT⟩ := Option.isSome_iff_exists.mp h1
          obtain ⟨m, ty⟩ := tyN_ok rs.toRS0 r1 hT
          exact ⟨_, _, _, _, _, rfl, .own _, ty, no.no m, L.here rs (.bl _) h2⟩
  · exact h.elim
theorem isO_obj {n c : Str} {tb : List (Str × Bool)} {x : D} {fs : List (Str × D)} {b : Bool} {M : Mt} {R : D → Mt → Prop} (hx : viewD M x = .obj n fs) (hl : tb.lookup n = some b) (k : R (.bl b) M) : cIsO tb c [x, .cls c] M R := by
  unfold cIsO
  refine ⟨⟨rfl⟩, ?_⟩
  simp only [hx, hl]; exact k
theorem isO_any {c : Str} {tb : List (Str × Bool)} {x : D} {M : Mt} {R : D → Mt → Prop} (ht : (tyN M x).isSome = true) (k : R (.bl false) M) : cIsO tb c [x, .cls c] M R := by
  unfold cIsO
  refine ⟨⟨rfl⟩, ?_⟩
  split
  · rename_i n1 fs v
    unfold tyN at ht
    rw [v] at ht
    cases ht
  · exact ⟨ht, k⟩
/-! f-strings -/
section
variable {X : Cx} {B : Bs} {e o : Expr} {we wo : WE} {pos apos : Pos}
def wFmt (we : WE) : WE := fun env M R => we env M fun d M1 => match viewD M1 d with
  | .str s => Need (s.length ≤ sizeLine) ∧ R (.str s) M1
  | .int i => Need (i.natAbs.log2 < 1920) ∧ R (.str (toString i)) M1
  | _ => False
theorem d_fmt (h : DE B X e we) : DE B X (.FormattedValue e (-1) none pos) (wFmt we) := by
  refine (pe_fmt h).imp fun σ H Q => ?_
  rintro ⟨P, al, M, env, R, rs, hw, L⟩
  refine ⟨P, al, M, env, _, rs, hw, fun d M1 v H1 P1 al1 e1 rs1 r1 q => ?_⟩
  split at q
  · rename_i s hv; cases view_str r1 hv; exact .inl ⟨_, rfl, q.1.out, (L.after e1).here rs1 (.str _) q.2⟩
  · rename_i i hv; cases view_int r1 hv; exact .inr ⟨_, rfl, q.1.out, (L.after e1).here rs1 (.str _) q.2⟩
  · exact q.elim
inductive DJ (B : Bs) (X : Cx) : List Expr → List WE → Prop where
  | nil : DJ B X [] []
  | cons {e : Expr} {t : WE} {es : List Expr} {ts : List WE} (h : DE B X e t) (r : DJ B X es ts) : DJ B X (e :: es) (t :: ts)
theorem DJ.pj {es : List Expr} {ws : List WE} (h : DJ B X es ws) : PJ X es (ws.map (tD X.K B)) := by
  induction h with
  | nil => exact .nil
  | cons h r ih => exact .cons h ih
def wJs : List WE → Str → Ev → Mt → (Str → Mt → Prop) → Prop
  | [], acc, _, M, Q => Q acc M
  | w :: ws, acc, env, M, Q => w env M fun d M1 => match d with
    | .str y => Need ((acc ++ y).length ≤ sizeLine) ∧ wJs ws (acc ++ y) env M1 Q
    | _ => False
def wJoined (ws : List WE) : WE := fun env M R => wJs ws Str.empty env M fun out M1 => R (.str out) M1
theorem js_imp {K : PySem.W.Frag} {σ : L2.St} {env : Ev} {R : D → Mt → Prop} {Q : VK} : ∀ (ws : List WE) (acc : Str) (P : Hp) (al : List Addr) (M : Mt) (H : Hp), RS K B P al M env σ H → wJs ws acc env M (fun out M1 => R (.str out) M1) → Lift K B P al env σ H R Q →
    tJs (ws.map (tD K B)) acc σ H fun out H1 => Q (.str out) H1
  | [], acc, P, al, M, H, rs, h, L => L.here rs (.str _) h
  | w :: ws, acc, P, al, M, H, rs, h, L => ⟨P, al, M, env, _, rs, h, fun d M1 v H1 P1 al1 e1 rs1 r1 q => by
    split at q
    · cases r1
      exact ⟨_, rfl, q.1.out, js_imp ws _ _ _ _ _ rs1 q.2 (L.after e1)⟩
    · exact q.elim⟩
theorem d_joined {v1 v2 : Expr} {rest : List Expr} {ws : List WE} (h : DJ B X (v1 :: v2 :: rest) ws) : DE B X (.JoinedStr (v1 :: v2 :: rest) pos) (wJoined ws) := by
  refine (pe_joined h.pj).imp fun σ H Q => ?_
  rintro ⟨P, al, M, env, R, rs, hw, L⟩
  exact js_imp ws _ _ _ _ _ rs hw L
/-! join -/
@[irreducible] def oJoin : D → D → Mt → (D → Mt → Prop) → Prop := fun x y M R => match x, seqD (viewD M y) with
  | .str a, some l => match strsD l with
    | some ys => Need ((ys.map (·.length)).sum + ys.length * a.length ≤ 16777216) ∧ R (.str (Txt.join a ys)) M
    | none => False
  | _, _ => False
def isStr : D → Bool
  | .str _ => true
  | _ => false
def wJoin (wo we : WE) : WE := fun env M R => wo env M fun x M1 => isStr x = true ∧ we env M1 fun y M2 => oJoin x y M2 R
theorem d_join (ho : DE B X o wo) (he : DE B X e we) (hs : starEach [e] X.env = [(false, eval e X.env)] := by rfl) (hbase : attributeBase o "join" X.env (eval o X.env) = eval o X.env := by rfl) (hline : (apos.endLine == pos.line) = true := by rfl) : DE B X (.Call (.Attribute o "join" apos) [e] [] pos) (wJoin wo we) := by
  refine (pe_join ho he hs hbase hline).imp fun σ H Q => ?_
  rintro ⟨P, al, M, env, R, rs, hw, L⟩
  refine ⟨P, al, M, env, _, rs, hw, fun d M1 v H1 P1 al1 e1 rs1 r1 q => ?_⟩
  obtain ⟨hs, q⟩ := q
  cases d <;> simp [isStr] at hs
  rename_i a
  cases r1
  refine ⟨⟨_, rfl⟩, P1, al1, M1, env, _, rs1, q, fun y M2 v2 H2 P2 al2 e2 rs2 r2 q2 => ?_⟩
  unfold oJoin at q2
  split at q2
  · rename_i a' l hx hl
    cases hx
    split at q2
    · rename_i ys hy
      obtain ⟨b, xs, rfl, h1, h2⟩ := view_seq rs2.toRS0 r2 hl
      have := strs_rep h2 hy
      subst this
      exact ⟨_, b, ys, rfl, rfl, h1, q2.1.out, (L.after (e1.trans e2)).here rs2 (.str _) q2.2⟩
    · exact q2.elim
  · exact q2.elim
theorem join_use {a : Str} {ys : List Str} {y : D} {M : Mt} {R : D → Mt → Prop} (h : seqD (viewD M y) = some (ys.map D.str)) (hl : (ys.map (·.length)).sum + ys.length * a.length ≤ 16777216) (k : R (.str (Txt.join a ys)) M) : oJoin (.str a) y M R := by
  unfold oJoin; simp only [h, strsD_map]; exact ⟨⟨hl⟩, k⟩
/-! str(x) of a text or an int -/
def cStr1 : WCl := fun ds M R => match ds with
  | [x] => match viewD M x with
    | .int i => Need (i.natAbs.log2 < 1920) ∧ R (.str (toString i)) M
    | .str s => R (.str s) M
    | _ => False
  | _ => False
theorem call_str1 : CallR X (.type "str") (fun xs H Q => (∃ i, xs = [.int i] ∧ i.natAbs.log2 < 1920 ∧ Q (.str (toString i)) H) ∨ ∃ a, xs = [.str a] ∧ Q (.str a) H) := by
  intro pins s σ H xs us Q I r h
  rcases h with h | h
  · exact call_str_int pins s σ H xs us Q I r h
  · exact SkE.call_str_str pins s σ H xs us Q I r h
theorem cStr1_ok {K : PySem.W.Frag} : CallD K B (fun xs H Q => (∃ i, xs = [.int i] ∧ i.natAbs.log2 < 1920 ∧ Q (.str (toString i)) H) ∨ ∃ a, xs = [.str a] ∧ Q (.str a) H) cStr1 := by
  intro P al M env σ H vs ds R Q rs r h L
  unfold cStr1 at h
  split at h
  · cases r with
    | cons r1 t =>
      cases t
      split at h
      · rename_i i hv; cases view_int r1 hv; exact .inl ⟨_, rfl, h.1.out, L.here rs (.str _) h.2⟩
      · rename_i i hv; cases view_str r1 hv; exact .inr ⟨_, rfl, L.here rs (.str _) h⟩
      · exact h.elim
  · exact h.elim
end
end L3

namespace L3
open PySem PySem.Spec PyProof.Rows L2
/-- for over a list, a row that is displayed: the loop is kept closed -/
theorem for_lst {we : WE} {g : WG} {b : WS} {k : DEnds} {env : Ev} {M M' : Mt} (ds : List D) (h : ∀ K : D → Mt → Prop, K (.lst ds) M' → we env M K) (q : forL g b k ds env M') : wFor (wIt we) g b k env M := by
  unfold wFor wIt
  exact h _ q
end L3

namespace L3
open PySem PySem.Spec PyProof.Rows L2
/-! ### i >> j -/
section
variable {K : PySem.W.Frag} {B : Bs}
end
/-! ### {k: v for .. in .. if ..} -/
section
variable {X : Cx} {B : Bs} {tg e : Expr} {pos : Pos}
end
end L3

/-! ### len(set(xs)), xs a tuple of texts, any number of them -/
namespace L3
open PySem PySem.Spec PyProof.Rows L2 PySem.SeqAt
/-- how many different ones -/
def dist : List Str → List Str → Nat
  | _, [] => 0
  | seen, y :: r => (if y ∈ seen then 0 else 1) + dist (seen ++ [y]) r
theorem dist_le : ∀ (l seen : List Str), dist seen l ≤ l.length
  | [], _ => Nat.le_refl _
  | y :: r, seen => by
    have := dist_le r (seen ++ [y])
    unfold dist
    rw [List.length_cons]
    split <;> omega
section
variable {prog : Program} {w : World} {A : Around} {E : Value → Shared → Prop} {s : Shared}
abbrev SetAt (prog : Program) (w : World) (h : Heap) (a : Addr) (ys : List Str) : Prop := h.SetOf (strKind prog w) a (fun k => decide (k ∈ ys)) (dist [] ys)
theorem dist_snoc : ∀ (l seen : List Str) (y : Str), dist seen (l ++ [y]) = dist seen l + (if y ∈ seen ++ l then 0 else 1)
  | [], seen, y => by simp [dist]
  | x :: r, seen, y => by
    have ih := dist_snoc r (seen ++ [x]) y
    show dist seen (x :: (r ++ [y])) = _
    unfold dist
    rw [ih, List.append_assoc]
    simp only [List.singleton_append]
    omega
theorem setAt_far {h h' : Heap} {a : Addr} {ys : List Str} (q : SetAt prog w h a ys) (e : ∀ o, h.get? a = some o → h'.get? a = some o) : SetAt prog w h' a ys := by
  obtain ⟨o, es, ep, t, ho, rest⟩ := q
  exact ⟨o, es, ep, t, e _ ho, rest⟩
theorem turns {Sa Ia : Addr} {fp wr : List Addr} {G : Array GenState → Array GenState → Prop} {n : Nat} {Pv : Nat → Value → Prop} {St : Nat → Shared → Prop} {R : Result → Shared → Prop} {ys : List Str}
    (W : WalksS prog w A.in1 Ia fp wr G n Pv St) (hSf : Sa ∉ fp) (hlen : n = ys.length) (hfit : ys.length + 1 < scanBound) (hv : ∀ i v, Pv i v → ∃ y t, ys[i]? = some y ∧ v = .str y t)
    {s0 : Shared} (fin : ∀ s', Moved (Sa :: wr) G s0 s' → SetAt prog w s'.heap Sa ys → R (.ok (.ret .none)) s') :
    ∀ (m i : Nat), n - i = m → i ≤ n → ∀ s : Shared, Moved (Sa :: wr) G s0 s → St i s → SetAt prog w s.heap Sa (ys.take i) → codeAny (model prog w) A (.builtin "set.update.loop" ⟨[.ref Sa, .ref Ia], []⟩) R s := by
  have hSw : Sa ∉ wr := fun h => hSf (W.sub _ h)
  have up : ∀ b ∈ wr, b ∈ Sa :: wr := fun b hb => List.mem_cons_of_mem _ hb
  intro m
  induction m with
  | zero =>
    intro i hm hi s mv st q
    obtain rfl : i = n := by omega
    refine codeAny_builtin PyProof.Rows.F.entry_set_update_loop (?_ : wpAny _ _ (pyNext (.ref Ia) >>= _) _ _ _)
    rw [Around.under_plainId PyProof.Rows.F.plain_set_update_loop]
    refine wpAny_bind (W.done s _ _ st fun s' mv' => wpAny_pure (fin s' (Moved.trans W.gtrans mv (mv'.mono up)) ?_))
    rw [hlen, List.take_length] at q
    exact setAt_far q fun o e => mv'.heap Sa o hSw e
  | succ m ih =>
    intro i hm hi s mv st q
    have hlt : i < n := by omega
    refine codeAny_builtin PyProof.Rows.F.entry_set_update_loop (?_ : wpAny _ _ (pyNext (.ref Ia) >>= _) _ _ _)
    rw [Around.under_plainId PyProof.Rows.F.plain_set_update_loop]
    refine wpAny_bind (W.item i s _ _ hlt st fun v s' hP st' mv' => ?_)
    obtain ⟨y, t, hy, rfl⟩ := hv i v hP
    have q' : SetAt prog w s'.heap Sa (ys.take i) := setAt_far q fun o e => mv'.heap Sa o hSw e
    have hd := dist_le (ys.take i) []
    have hti : (ys.take i).length ≤ ys.length := by rw [List.length_take]; omega
    have et : ys.take (i + 1) = ys.take i ++ [y] := by rw [List.take_add_one, hy]; rfl
    refine wpAny_bind (m := holding [Value.str y t] (setAdd Sa (.str y t))) (wpAny_holding ?_)
    unfold setAdd
    refine wpAny_holding (wpAny_bind ((strKind prog w).pyHash (k := y) (strKind_is _ _ _ _) ?_))
    refine wpAny_setAddHashed_of (knd := strKind prog w) (s := { s' with toks := s'.toks + 1 }) (strKind_is _ _ _ _) rfl q' (by omega) fun h' sb q2 => ?_
    have q3 : SetAt prog w h' Sa (ys.take (i + 1)) := by
      refine SetOf_congr q2 (fun k => ?_) ?_
      · rw [et]; simp
      · rw [et, dist_snoc, List.nil_append]
        by_cases hm : y ∈ ys.take i <;> simp [hm]
    have far : ∀ b o, b ≠ Sa → s'.heap.get? b = some o → h'.get? b = some o := fun b o hb e => by rw [sb.2 b hb]; exact e
    refine wpAny_pure ⟨plainId_quiet PyProof.Rows.F.plain_set_update_loop _, ih (i + 1) (by omega) hlt _ (Moved.trans W.gtrans mv ((mv'.mono up).then_heap (Nat.le_succ _) fun b o hb e => far b o (fun z => hb (z ▸ List.mem_cons_self)) e)) (W.frame _ s' _ _ st' (Nat.le_succ _) fun b hb o e => far b o (fun z => hSf (z ▸ hb)) e) q3⟩
end
section
variable {X : Cx} {B : Bs} {a : Expr} {wa : WE} {p p2 q pos : Pos}
end
end L3

/-! ### t[::-1] of a tuple; list * int -/
namespace L3
open PySem PySem.Spec PyProof.Rows L2 HT
section
variable {prog : Program} {w : World} {A : Around} {E : Value → Shared → Prop} {s : Shared}
end
section
variable {X : Cx} {B : Bs} {e : Expr} {we : WE} {pos : Pos}
/-! list * int -/
theorem Reps.flat {K : PySem.W.Frag} {P : Hp} {al : List Addr} {ds : List D} {vs : List V} (r : Reps K P al ds vs) : ∀ n : Nat, Reps K P al (List.replicate n ds).flatten (List.replicate n vs).flatten
  | 0 => .nil
  | n + 1 => by
    rw [List.replicate_succ, List.replicate_succ, List.flatten_cons, List.flatten_cons]
    exact r.append (Reps.flat r n)
end
end L3

/-! ### x in a list of data and dicts -/
namespace L3
open PySem PySem.Spec PyProof.Rows L2 PySem.SeqAt
open AutoSeq1 (wpAny_loadPart')
section
variable {A : Around} {s : Shared}
end
end L3
namespace L3
open PySem PySem.Spec PyProof.Rows L2 PySem.SeqAt
section
variable {A : Around} {s : Shared}
structure DctAt (s : Shared) (d : Addr) : Prop where
  ex : ∃ o es ep, s.heap.get? d = some o ∧ o.cls = .type "dict" ∧ o.data = .dict es ep
theorem DctAt.ty {d : Addr} (h : DctAt s d) : s.TypeIs (.ref d) "dict" := by
  obtain ⟨o, es, ep, h1, h2, _⟩ := h.ex
  exact ⟨o, h1, h2⟩
end
end L3
namespace L3
open PySem PySem.Spec PyProof.Rows L2
section
variable {X : Cx} {B : Bs} {tg e : Expr} {pos : Pos}
end
end L3
namespace L3
open PySem PySem.Spec PyProof.Rows L2 PySem.SeqAt
section
variable {X : Cx} {B : Bs} {e : Expr} {we : WE} {pos : Pos}
end
/-! x in a list -/
section
variable {X : Cx}
/-- an empty dict -/
structure EmpAt (s : Shared) (d : Addr) : Prop where
  ex : ∃ o ep, s.heap.get? d = some o ∧ o.cls = .type "dict" ∧ o.ExactDict ∧ o.data = .dict #[] ep
  no : (d == sysModules) = false
theorem EmpAt.dct {s : Shared} {d : Addr} (h : EmpAt s d) : DctAt s d := by
  obtain ⟨o, ep, h1, h2, _, h3⟩ := h.ex
  exact ⟨⟨o, _, ep, h1, h2, h3⟩⟩
theorem EmpAt.of {s : Shared} {d : Addr} (h : EmpAt s d) (prog : Program) (w : World) : s.heap.DictOf (mixKind prog w) d [] := by
  obtain ⟨o, ep, h1, h2, h4, h3⟩ := h.ex
  exact ⟨o, #[], ep, h1, h4, h3, (by intro e he; simp at he), .nil, .nil⟩
end
end L3
namespace L3
open PySem PySem.Spec PyProof.Rows L2 PySem.SeqAt
section
variable {X : Cx} {B : Bs}
end
end L3
namespace L3
open PySem PySem.Spec PyProof.Rows L2
end L3

namespace L3
open PySem PySem.Spec PyProof.Rows L2
end L3


namespace L3
open PySem PySem.Spec PyProof.Rows L2 Builtin
section
variable {X : Cx} {B : Bs} {CX : CXT} {k : Nat} {f C : Addr} {n : Str} {sp : DSp}
end
end L3


namespace L3
open PySem PySem.Spec PyProof.Rows L2 Builtin
section
variable {X : Cx} {B : Bs} {CX : CXT} {k : Nat} {f C : Addr} {n m : Str} {sp : DSp} {o e : Expr} {wo we : WE} {RX : RXe} {p apos pos : Pos}
end
end L3

namespace L3
open PySem PySem.Spec PyProof.Rows L2
/-! ### a comprehension over the keys of a dict that changes elsewhere: the dict is locked meanwhile -/
section
variable {K : PySem.W.Frag} {P P' : Hp} {al : List Addr}
/-- all but a locked dict -/
def NoLk (x : HO) : Prop := ∀ o kvs, x ≠ .frz o (.dK kvs)
def SameX (P P' : Hp) : Prop := ∀ b x, P b = some x → NoLk x → P' b = some x
theorem SameX.seqT {a : Addr} {xs : List V} (e : SameX P P') (h : SqT K P a xs) : SqT K P' a xs := by
  rcases h with h | h
  · rcases h with h | ⟨o, h⟩
    · exact .inl (.inl (e _ _ h fun _ _ z => nomatch z))
    · exact .inl (.inr ⟨o, e _ _ h fun _ _ z => nomatch z⟩)
  · exact .inr h
theorem SameX.seq {a : Addr} {xs : List V} (e : SameX P P') (h : SqL K P a xs) : SqL K P' a xs := by
  rcases h with h | h
  · rcases h with h | ⟨o, h⟩
    · exact .inl (.inl (e _ _ h fun _ _ z => nomatch z))
    · exact .inl (.inr ⟨o, e _ _ h fun _ _ z => nomatch z⟩)
  · exact .inr h
theorem SameX.sqp {a : Addr} {xs : List V} (e : SameX P P') (h : SqP P a xs) : SqP P' a xs := let ⟨o, h, d⟩ := h; ⟨o, e _ _ h (fun _ _ z => nomatch z), d⟩
mutual
/-- no dict that is locked for good -/
def noF : D → Bool
  | .tup l => noFs l
  | .ptp l => noFs l
  | .lst l => noFs l
  | .rol l => noFs l
  | .dct l => noFK l
  | .obj _ l => noFF l
  | .fdc _ => false
  | _ => true
def noFs : List D → Bool
  | [] => true
  | d :: r => noF d && noFs r
def noFK : List (Key × D) → Bool
  | [] => true
  | (_, d) :: r => noF d && noFK r
def noFF : List (Str × D) → Bool
  | [] => true
  | (_, d) :: r => noF d && noFF r
end
mutual
theorem Rep.lk (s : SameX P P') : ∀ {d : D} {v : V}, Rep K P al d v → noF d = true → Rep K P' al d v
  | _, _, .non, _ => .non
  | _, _, .bl b, _ => .bl b
  | _, _, .int i, _ => .int i
  | _, _, .str x, _ => .str x
  | _, _, .ty n, _ => .ty n
  | _, _, .adr a, _ => .adr a
  | _, _, .tup q r, e => .tup (s.seqT q) (Reps.lk s r (by simpa [noF] using e))
  | _, _, .ptp q r, e => .ptp (s.sqp q) (Reps.lk s r (by simpa [noF] using e))
  | _, _, .lst q r, e => .lst (s _ _ q fun _ _ z => nomatch z) (Reps.lk s r (by simpa [noF] using e))
  | _, _, .rol q r, e => .rol (s.seq q) (Reps.lk s r (by simpa [noF] using e))
  | _, _, .dct q r, e => .dct (s _ _ q fun _ _ z => nomatch z) (RepKs.lk s r (by simpa [noF] using e))
  | _, _, .fdc q r, e => by simp [noF] at e
  | _, _, .obj q c r, e => .obj (s _ _ q fun _ _ z => nomatch z) c (RepFs.lk s r (by simpa [noF] using e))
  | _, _, .cls c, _ => .cls c
  | _, _, .cel e, _ => .cel e
theorem Reps.lk (s : SameX P P') : ∀ {ds : List D} {vs : List V}, Reps K P al ds vs → noFs ds = true → Reps K P' al ds vs
  | _, _, .nil, _ => .nil
  | _, _, .cons r t, e => .cons (Rep.lk s r (by simp [noFs] at e; exact e.1)) (Reps.lk s t (by simp [noFs] at e; exact e.2))
theorem RepKs.lk (s : SameX P P') : ∀ {ds : List (Key × D)} {vs : List (Key × V)}, RepKs K P al ds vs → noFK ds = true → RepKs K P' al ds vs
  | _, _, .nil, _ => .nil
  | _, _, .cons r t, e => .cons (Rep.lk s r (by simp [noFK] at e; exact e.1)) (RepKs.lk s t (by simp [noFK] at e; exact e.2))
theorem RepFs.lk (s : SameX P P') : ∀ {ds : List (Str × D)} {vs : List (Str × V)}, RepFs K P al ds vs → noFF ds = true → RepFs K P' al ds vs
  | _, _, .nil, _ => .nil
  | _, _, .cons r t, e => .cons (Rep.lk s r (by simp [noFF] at e; exact e.1)) (RepFs.lk s t (by simp [noFF] at e; exact e.2))
end
theorem ExCell.lk {l : List D} {a : Addr} (s : SameX P P') (c : ExCell K P al l a) (e : noFs l = true) : ExCell K P' al l a := by
  unfold ExCell at c ⊢
  split at c
  · obtain ⟨C, d, oe, h1, h2, h3, h4, h5⟩ := c
    refine ⟨C, d, oe, s _ _ h1 (fun _ _ z => nomatch z), h2, h3, h4, ?_⟩
    rcases h5 with h5 | ⟨dd, gs, g1, g2, g3⟩
    · exact .inl h5
    · exact .inr ⟨dd, gs, g1, s _ _ g2 (fun _ _ z => nomatch z), g3.lk s (by simpa [noFs, noF] using e)⟩
  · trivial
theorem Cell.lk {m : D} {b : Addr} {H H' : Hp} (s : SameX P P') (c : Cell K P al m b H) (nf : noF m = true) (hp : live m = true → P' b = none) (hh : live m = true → H' b = H b) : Cell K P' al m b H' := by
  cases m <;> first | trivial | skip
  · exact ExCell.lk s c (by simpa [noF] using nf)
  · obtain ⟨h1, xs, h2, h3⟩ := c; exact ⟨hp rfl, xs, by rw [hh rfl]; exact h2, h3.lk s (by simpa [noF] using nf)⟩
  · obtain ⟨h1, xs, h2, h3⟩ := c; exact ⟨hp rfl, xs, by rw [hh rfl]; exact h2, h3.lk s (by simpa [noF] using nf)⟩
  · obtain ⟨h1, C, dx, gs, h2, h4, h3⟩ := c; exact ⟨hp rfl, C, dx, gs, by rw [hh rfl]; exact h2, h4, h3.lk s (by simpa [noF] using nf)⟩
  · obtain ⟨h1, ps, h2, h3, h4⟩ := c; exact ⟨hp rfl, ps, by rw [hh rfl]; exact h2, h3, fun pos cv hc => by obtain ⟨c, e1, e2⟩ := h4 pos cv hc; exact ⟨c, e1, s _ _ e2 fun _ _ z => by unfold LamX.CodeO at z; cases z⟩⟩
end
section
variable {K : PySem.W.Frag} {B : Bs}
end
section
variable {X : Cx} {B : Bs} {e : Expr} {tg elt : Expr} {ifs : List Expr} {scope : Scope} {own : List (Str × Nat)} {g : TG} {is : List Nat} {t : WTs} {we : WE} {pos spos py : Pos} {i j : Nat} {y : Str}
end
end L3

namespace L3
open PySem PySem.Spec PyProof.Rows L2
/-! ### o.p, p a property of an own class -/
section
variable {X : Cx} {B : Bs} {CX : CXT} {k : Nat} {f g p C : Addr} {sp : DSp} {n : Str} {e o i value : Expr} {we wo wi wv : WE} {pos pos' : Pos} {RX : RXe}
/-! ### o[i] = v by an own __setitem__ -/
end
/-! ### x op= y by an own method for it, which may raise -/
section
variable {X : Cx} {B : Bs} {CX : CXT} {k : Nat} {f C : Addr} {sp : DSp} {n : Str} {e : Expr} {we : WE} {op : Operator} {pos pos' : Pos} {RX : RXe}
end
end L3

namespace L3
open PySem PySem.Spec PyProof.Rows L2
/-! ### C(..), the object stays in the table; dict(..) that will change; a default at the end of an __init__ -/
section
variable {X : Cx} {B : Bs} {CX : CXT} {k : Nat} {f C : Addr} {sp : DSp} {n x : Str} {p pos : Pos} {e : Expr} {es : List Expr} {was : WA} {RX : RXe}
end
section
variable {P : Program} {w : World} {K : PySem.W.Frag} {mg : Str → Option Value} {base : Heap} {CX : CXT} {k : Nat} {f : Addr} {sp : DSp}
end
section
variable {K : PySem.W.Frag} {B : Bs}
end
end L3

namespace L3
open PySem PySem.Spec PyProof.Rows L2
/-! ### x == y, y of another own class that does not derive from x's -/
section
variable {X : Cx} {B : Bs} {CX : CXT} {k : Nat} {f C C2 : Addr} {n n2 : Str} {sp : DSp}
def rEqO2 (K : PySem.W.Frag) (C C2 : Addr) (sp : DSp) : R2 := fun x y H Q => ∃ p dx fs q dy gs, x = V.ref p ∧ H p = some (.ins C dx fs) ∧ y = V.ref q ∧ H q = some (.ins C2 dy gs) ∧ toSp K sp [.ref p, y] H (fun v H' => ∃ b, v = .bl b ∧ Q (.bl b) H') fun _ _ _ => False
theorem op_eqO2 (oc : OpC X.K C "__eq__" f) (hs : PySem.W.subIn X.K (.ref C2) (.ref C) = some false) (F : FnR X.prog X.w X.K X.mg X.base CX k f (toSp X.K sp)) (hr : Room k X.A) (hx : Rz X B CX RXn) : OpR X (compareOp .Eq) (rEqO2 X.K C C2 sp) := by
  intro pins s σ H x y v u Q I rx ry h
  obtain ⟨p, dx, fs, q, dy, gs, rfl, hp, rfl, hq, h⟩ := h
  cases rx
  cases ry
  obtain ⟨m, fr⟩ := I.fr
  obtain ⟨_, O, _⟩ := ins_get I.hok hp
  obtain ⟨od, J, _⟩ := O.look
  obtain ⟨_, O2, _⟩ := ins_get I.hok hq
  obtain ⟨od2, J2, _⟩ := O2.look
  have hn : PySem.W.notFirst X.K C (.ref C2) = true := by
    unfold PySem.W.notFirst
    rw [hs]; simp
  show wpAny (model X.prog X.w) X.A (richCompare .Eq (.ref p) (.ref q)) (EP X pins σ Q) X.xe s
  refine PySem.W.cmp_K (by have := hr.units; omega) fr I.ok.mod.kin J J2.type hn oc.at_ oc.fn (wpAny_mono (wpAny_call (run_at (us := [.ref p, .ref q]) (vs := [.ref p, .ref q]) F hr (hx σ) I (.cons rfl (.cons rfl .nil)) (toSp_imp (fun _ _ _ z => z.elim) h))) (fun r s' z => ?_) fun _ _ z => z)
  obtain ⟨v, H', I', rv, b, rfl, q⟩ := z
  cases rv
  exact ⟨.bl b, H', I', rfl, q⟩
@[irreducible] def oEqO2 (n n2 : Str) (sp : DSp) : WO2 := fun x y M R => match viewD M x, viewD M y with
  | .obj n1 _, .obj n3 _ => Need (n1 = n ∧ n3 = n2) ∧ sp [x, y] M (retB fun b M' => R (.bl b) M') fun _ _ _ => False
  | _, _ => False
theorem oEqO2_ok {K : PySem.W.Frag} (ca : ClsAt K n C) (cb : ClsAt K n2 C2) : OpD K B (rEqO2 K C C2 sp) (oEqO2 n n2 sp) := by
  intro P al M env σ H x y dx dy R Q rs r1 r2 h L
  unfold oEqO2 at h
  split at h
  · rename_i n1 fs n3 gs v1 v2
    obtain ⟨hn, h⟩ := h
    obtain ⟨h1, h2⟩ := hn.out
    subst h1 h2
    obtain ⟨p, dx', xs, rfl, hp⟩ := view_objOf ca rs.toRS0 r1 v1
    obtain ⟨q, dy', ys, rfl, hq⟩ := view_objOf cb rs.toRS0 r2 v2
    refine ⟨p, dx', xs, q, dy', ys, rfl, hp, rfl, hq, P, al, M, _, _, _, rs.toRS0.here, .cons r1 (.cons r2 .nil), h, fun d M' v H' P' al' e r0 r q => ?_, fun _ _ _ _ _ _ _ _ _ _ _ _ q => q.elim⟩
    unfold retB at q
    split at q
    · cases r; exact ⟨_, rfl, L _ _ _ _ _ _ e (rs.step e (r0.rebase (rs.base.trans e))) (.bl _) q⟩
    · exact q.elim
  · exact h.elim
theorem eqO2_use {x y : D} {M : Mt} {R : D → Mt → Prop} {fs gs : List (Str × D)} (hx : viewD M x = .obj n fs) (hy : viewD M y = .obj n2 gs) (h : sp [x, y] M (retB fun b M' => R (.bl b) M') fun _ _ _ => False) : oEqO2 n n2 sp x y M R := by
  unfold oEqO2; rw [hx, hy]; exact ⟨⟨rfl, rfl⟩, h⟩
end
end L3

namespace L3
open PySem PySem.Spec PyProof.Rows L2
/-! ### try: .. except C as e: y = e -/
section
variable {X : Cx} {pins : List (Addr × Obj)} {σ : L2.St} {H : Hp} {s : Shared} {a : Addr} {oe : Obj}
/-- an error that is held is tracked from now on -/
theorem inv_track (I : L2.Inv X pins σ H s) (ha : s.heap.get? a = some oe) (hd : ∃ vs, oe.data = .fields vs) (na : H a = none) (nL : a ≠ X.env.locals) (np : ∀ p ∈ X.pn ++ pins, p.1 ≠ a) (n0 : ∀ o, X.s_0.heap.get? a = some o → a ∈ X.ex) : L2.Inv X pins σ (upd H a (ExK a oe)) s := by
  have nc : ∀ x c, X.env.cells.lookup x = some c → c ≠ a := fun x c e z => by
    obtain ⟨v, o, e1, e2⟩ := I.cell x c e
    rw [z, ha] at e1
    cases e1
    obtain ⟨vs, hv⟩ := hd
    rw [hv] at e2; cases e2
  have ne : ∀ b o, H b = some o → b ≠ a := fun b o e z => by rw [z, na] at e; cases e
  refine ⟨I.ok, I.os, I.bare, ⟨I.base.keep, I.base.slot, fun b o e n hx => ?_, I.base.there, fun b xs e => ?_, fun b o u e => ?_, fun b ps e => ?_⟩, I.loc, I.cell, ?_, fun x c e => ?_, fun p hp => ?_, fun b o e => ?_, I.len⟩
  · by_cases hb : b = a
    · subst hb; exact absurd (n0 o e) hx
    · rw [upd_ne hb]; exact I.base.free b o e n hx
  · have h := I.base.tups b xs e
    rw [upd_ne (ne _ _ h)]; exact h
  · have h := I.base.frzs b o u e
    rw [upd_ne (ne _ _ h)]; exact h
  · obtain ⟨more, h⟩ := I.base.tbls b ps e
    exact ⟨more, by rw [upd_ne (ne _ _ h)]; exact h⟩
  · rw [upd_ne (Ne.symm nL)]; exact I.free
  · rw [upd_ne (nc x c e)]; exact I.freeC x c e
  · obtain ⟨h1, h2, h3⟩ := I.pin p hp
    exact ⟨h1, by rw [upd_ne (np p hp)]; exact h2, h3⟩
  · by_cases hb : b = a
    · subst hb
      rw [upd_same] at e; cases e
      exact ⟨ha, ⟨oe, ha⟩, fun h1 h2 q k => k oe q⟩
    · rw [upd_ne hb] at e
      exact (I.hok b o e).stay (fun c u _ q => q) (fun c q => by rw [upd_ne (ne _ _ q)]; exact q) fun c xs q => by rw [upd_ne (ne _ _ q)]; exact q
end
/-- what the clause wishes: the error is there, tracked, when the suite has ended -/
def wKeep (K : PySem.W.Frag) (c : Value) (i : Nat) (ts : Addr → Value → Option Addr → TS) (Wout : WX) (D : Ends) : WX := fun cls d σ H =>
  ∃ b, PySem.W.exmOne K cls c = some b ∧ (b = true → ∀ a oe, H a = none → Zc cls d oe → (∃ vs, oe.data = .fields vs) → ts a cls d { nx := fun σ' H' => H' a = none → D.nx (σ'.set i none) (upd H' a (ExK a oe)), rt := fun _ _ => False, bk := fun _ _ => False, ct := fun _ _ => False } (σ.set i (some (.ref a))) H) ∧
    (b = false → Wout cls d σ H)
section
variable {X : Cx} {x n : Str} {c : Value} {i : Nat} {body suite : List Stmt} {b₀ : Stmt} {np pos pos' : Pos} {tb : WX → TS} {ts : Addr → Value → Option Addr → TS} {Wout : WX}
theorem ps_try_keep (hs : X.stack = X.env :: X.outer) (hf : X.env.frame = some X.env.locals) (hN : X.N.Nodup) (hi : X.N[i]? = some n) (hln : X.env.kindOf n = some .local) (hc : Names X x c) (tk : L2.Takes X Wout)
    (hb : ∀ (W : WX) (pn : List (Addr × Obj)) (xe : Value → Shared → Prop), L2.Takes (X.tr pn xe) W → PassesOwn (model X.prog X.w) X.A X.env xe → PSs (X.tr pn xe) body (tb W))
    (hsu : ∀ (a : Addr) (oe : Obj) (cls : Value) (d : Option Addr) (pn : List (Addr × Obj)), Zc cls d oe → (∃ vs, oe.data = .fields vs) → PSs (X.suite a ((a, oe) :: pn)) (b₀ :: suite) (ts a cls d)) :
    PS X (.Try body [.ExceptHandler (some (.Name x np)) (some n) (b₀ :: suite) pos'] [] [] pos) (fun D σ H => tb (wKeep X.K c i ts Wout D) D σ H) := by
  refine ⟨fun pins s σ H D I h => ?_⟩
  have ok := I.ok
  have hfr : X.A.frames = some (X.env :: X.outer) := by rw [ok.frames, hs]
  have hloc : Loc X.env.scope n := .inl hln
  refine wpAny_Try_except ?_
  refine wpAny_mono ((hb (wKeep X.K c i ts Wout D) (X.pn ++ pins) (fun e s₁ => wpAny (model X.prog X.w) X.A (noteFrame e X.env) (fun _ s₂ => wpAny (model X.prog X.w) X.A (setFlight e none) (fun _ s₃ =>
    wpAny (model X.prog X.w) X.A (handleBy e X.env [.ExceptHandler (some (.Name x np)) (some n) (b₀ :: suite) pos']) (SP X pins D) X.xe s₃) X.xe s₂) X.xe s₁) (fun u s' xx => ?_) PassesOwn.looking).run [] s σ H D (I.toTry _) h) (fun f s1 hsp => ?_) (fun e s1 he => he)
  · -- the catch
    obtain ⟨a, B, sI, pins', σ', H', cls, d, rfl, J', nb, up, sky, na, os, ag, b, hb1, hyes, hno⟩ := xx
    have J : L2.Inv X pins σ' H' sI := J'.ofTry ok
    have sky' : Sky B (X.env :: X.outer) a (Zc cls d) X.env.locals s'.heap := by rw [← hs]; exact sky
    show wpAny (model X.prog X.w) X.A (noteFrame (.ref a) X.env) _ _ _
    refine Sky.land Zc.steady hfr hf sky' fun h3 fl3 up3 => ?_
    have J3 : L2.Inv X pins σ' H' { s' with heap := h3 } := J.landed nb fl3.1 (up.trans up3) os ag
    obtain ⟨oe3, vs3, he3, hz3, hd3⟩ := fl3.there
    have notFr : ∀ {h : Heap} {o : Obj} {vs : Array Value}, h.FunFrames B (X.env :: X.outer) → h.get? a = some o → o.data = .fields vs → a ∉ frs (X.env :: X.outer) := fun {h o vs} ff e dd hm => by
      obtain ⟨_, o', e', hnf⟩ := ff.mem hm
      rw [e] at e'; cases e'
      exact hnf _ dd
    have nfr := notFr fl3.2.2.1 he3 hd3
    have nL : a ≠ X.env.locals := fun z => nfr (List.mem_filterMap.mpr ⟨X.env, List.mem_cons_self, by rw [hf, z]⟩)
    have nF : a ∉ X.fs := fun hm => by
      obtain ⟨e, he, q⟩ := List.mem_filterMap.mp hm
      exact nfr (List.mem_filterMap.mpr ⟨e, List.mem_cons_of_mem _ he, q⟩)
    have Ba : B.get? a = none := fl3.2.1
    have inB : ∀ b o, sI.heap.get? b = some o → b ∉ frs X.stack → b ≠ a := fun b o e nf z => by
      have := nb b o e nf
      rw [z, Ba] at this; cases this
    have np0 : ∀ p ∈ X.pn ++ pins, p.1 ≠ a := fun p hp => by
      obtain ⟨h1, _, h3, h4, _⟩ := J.pin p hp
      exact inB p.1 _ h1 fun hm => (List.mem_cons.mp (J.stkSub _ hm)).elim h3 h4
    have n0 : ∀ o, X.s_0.heap.get? a = some o → a ∈ X.ex := fun o e => by
      by_cases hx : a ∈ X.ex
      · exact hx
      · obtain ⟨o', e'⟩ := J.base.there a o e hx
        exact absurd rfl (inB a o' e' (by rw [hs]; exact nfr))
    have S3 := J3.suite he3 hd3 na nL nF
    refine wpAny_handleBy_cons (codeAny_handlers_test ?_) (by intro q; cases q)
    have LT : PySem.W.Looks (model X.prog X.w) h3 (typeOf (.ref a)) cls := fun A Q E s k q => wpAny_typeOf_ref (k _ _ he3) (by rw [hz3.1]; exact q)
    have LM := PySem.W.exm_one (M := model X.prog X.w) (J3.kIn) LT hb1
    have test : ∀ {Q : Value → Shared → Prop} {E : Value → Shared → Prop}, Q c { s' with heap := h3 } → wpAny (model X.prog X.w) (X.A.mark (some (.ref a))) (eval (.Name x np) X.env) Q E { s' with heap := h3 } := fun {Q E} q => by
      obtain ⟨hg, hdbg, hm | ⟨hm, hv, hnn⟩⟩ := hc
      · exact ld_glob (X := X.suite a ((a, oe3) :: (X.pn ++ pins))) S3 hg hm q hdbg
      · exact ld_blt (X := X.suite a ((a, oe3) :: (X.pn ++ pins))) S3 hg hm hv q hnn hdbg
    refine test (LM.here ?_)
    cases b with
    | true =>
      refine codeAny_handlers_suite_as ?_
      refine HandSPX.lands_againZ fl3 fun h4 fl4 up4 => ?_
      have J4 : L2.Inv X pins σ' H' { s' with heap := h4 } := J.landed nb fl4.1 ((up.trans up3).trans up4) os ag
      obtain ⟨oe4, vs4, he4, hz4, hd4⟩ := fl4.there
      have S4 := J4.suite he4 hd4 na nL nF
      refine store_ok (X := X.suite a ((a, oe4) :: (X.pn ++ pins))) (v := .ref a) S4 hN hi hloc rfl (fun s5 S5 => ?_) (.inr hln)
      refine wpAny_mono ((hsu a oe4 cls d (X.pn ++ pins) hz4 ⟨_, hd4⟩).run [] s5 _ H' _ S5 (hyes rfl a oe4 na hz4 ⟨_, hd4⟩)) (fun f s6 hsp => ?_) (fun _ _ z => False.elim z)
      cases f with
      | next =>
        obtain ⟨σ6, H6, S6, q6⟩ := hsp
        obtain ⟨g1, g2, _⟩ := S6.pin (a, oe4) (List.mem_append_left _ List.mem_cons_self)
        have J6 : L2.Inv X pins σ6 H6 s6 := S6.unsuite ok
        exact gone_ok (inv_track J6 g1 ⟨_, hd4⟩ g2 nL np0 n0) hN hi hln fun s7 J7 => ⟨_, _, J7, q6 g2⟩
      | brk =>
        obtain ⟨_, _, _, q6⟩ := hsp
        exact q6.elim
      | cont =>
        obtain ⟨_, _, _, q6⟩ := hsp
        exact q6.elim
      | ret u =>
        obtain ⟨_, _, _, _, _, q6⟩ := hsp
        exact q6.elim
    | false =>
      show wpAny _ X.A (handleBy (.ref a) X.env []) _ _ _
      refine wpAny_handleBy_nil ?_
      obtain ⟨k1, k2, k3, oe, vs, T, oT, ts', he, hz, hd, h1, hr⟩ := id fl3
      unfold PySem.passOn
      refine wpAny_bind (wpAny_field he hd h1 ?_)
      rw [if_neg (show ¬ ((Value.ref T == Value.none) = true) from by simp)]
      have fin : wpAny (model X.prog X.w) X.A (setFlight (.ref a) X.env.frame) (fun _ s4 => wpAny (model X.prog X.w) X.A (throw (.ref a) : Sem Flow) (SP X pins D) X.xe s4) X.xe { s' with heap := h3 } := by
        rw [hf]
        refine HandSPX.setFlight_upZ fl3 fun h4 hh4 up4 => wpAny_throw (tk _ _ ?_)
        exact ⟨a, B, sI, pins, σ', H', cls, d, rfl, J, nb, (up.trans up3).trans up4, .inr (.inr (by rw [hs]; exact hh4)), na, os, ag, hno rfl⟩
      first
        | exact wpAny_bind (wpAny_pure (wpAny_bind fin))
        | exact wpAny_bind fin
  · cases f with
    | next =>
      obtain ⟨σ', H', J', q⟩ := hsp
      exact wpAny_execs_nil ⟨σ', H', J'.ofTry ok, q⟩
    | brk =>
      obtain ⟨σ', H', J', q⟩ := hsp
      exact ⟨σ', H', J'.ofTry ok, q⟩
    | cont =>
      obtain ⟨σ', H', J', q⟩ := hsp
      exact ⟨σ', H', J'.ofTry ok, q⟩
    | ret u =>
      obtain ⟨v, σ', H', J', r, q⟩ := hsp
      exact ⟨v, σ', H', J'.ofTry ok, r, q⟩
end
end L3

namespace L3
open PySem PySem.Spec PyProof.Rows L2
/-! ### an error that is kept as a cell -/
section
variable {K : PySem.W.Frag} {B : Bs} {P P' : Hp} {al al' : List Addr} {M M' : Mt} {env : Ev} {σ : L2.St} {H H' : Hp} {a : Addr} {oe : Obj} {l : List D}
/-- an error's dict is published -/
theorem RS0.pubX {d : Addr} {gs : List (Str × V)} (r : RS0 K B P al M H) (hd : H d = some (.xd gs)) (na : d ∉ al) : Ext P al H (upd P d (.xd gs)) al H ∧ RS0 K B (upd P d (.xd gs)) al M H := by
  have sm : Same P (upd P d (.xd gs)) := fun b x h => by
    by_cases hb : b = d
    · subst hb; rw [upd_same, ← hd]; exact r.same _ _ h
    · rw [upd_ne hb]; exact h
  have e : Ext P al H (upd P d (.xd gs)) al H := ⟨sm, List.prefix_refl _, fun _ _ h _ => h, fun b m n => absurd m n, fun b x h ok hb n => by
    by_cases hz : b = d
    · subst hz; rw [hd] at h; cases h; exact absurd rfl (ok.2 gs)
    · rw [upd_ne hz]; exact hb⟩
  refine ⟨e, r.base.trans e, fun b x h => ?_, r.len, fun i a m h1 h2 => ?_, r.inj, r.trk⟩
  · by_cases hz : b = d
    · rw [hz, upd_same] at h; cases h; rw [hz]; exact hd
    · rw [upd_ne hz] at h; exact r.same _ _ h
  · have ne : a ≠ d := fun z => na (z ▸ List.mem_of_getElem? h1)
    exact (r.cell i a m h1 h2).mono sm (List.prefix_refl _) (fun l => by rw [upd_ne ne]; exact (live_cell l (r.cell i a m h1 h2)).1) fun o' _ h => h
theorem xd_pub {fs : List (Str × D)} {dd : Option Addr} (x : XdOk K P al H fs dd) (r : RS0 K B P al M H) :
    ∃ P', Ext P al H P' al H ∧ RS0 K B P' al M H ∧ ((dd = none ∧ fs = []) ∨ ∃ d gs, dd = some d ∧ P' d = some (.xd gs) ∧ RepFs K P' al fs gs) := by
  rcases x with x | ⟨d, gs, h1, h2, h3, h4⟩
  · exact ⟨P, Ext.refl, r, .inl x⟩
  · obtain ⟨e, r'⟩ := r.pubX h3 h2
    exact ⟨_, e, r', .inr ⟨d, gs, h1, upd_same, h4.mono e.pp e.pre⟩⟩
/-- the error is a cell from now on -/
theorem RS0.cellE (r : RS0 K B P al M H) (ha : H a = none) (hc : ∀ P' al', Same P P' → al <+: al' → P' a = some (ExK a oe) → ExCell K P' al' l a) :
    Ext P al H (upd P a (ExK a oe)) (al ++ [a]) (upd H a (ExK a oe)) ∧ RS0 K B (upd P a (ExK a oe)) (al ++ [a]) (M ++ [.ptp l]) (upd H a (ExK a oe)) := by
  obtain ⟨e1, r1⟩ := r.alloc ha (ExK a oe)
  have e : Ext P al H (upd P a (ExK a oe)) (al ++ [a]) (upd H a (ExK a oe)) := by
    refine ⟨e1.pp, List.prefix_append _ _, e1.fr, fun b m n => ?_, e1.pn⟩
    rcases List.mem_append.mp m with z | z
    · exact absurd z n
    · have : b = a := by simpa using z
      rw [this]; exact ha
  have old : ∀ (i : Nat) (b : Addr), (al ++ [a])[i]? = some b → (i < al.length ∧ al[i]? = some b) ∨ (i = al.length ∧ b = a) := fun i b h => by
    by_cases hi : i < al.length
    · rw [List.getElem?_append_left hi] at h; exact .inl ⟨hi, h⟩
    · rw [List.getElem?_append_right (by omega)] at h
      have : i - al.length = 0 := by
        cases hq : i - al.length with
        | zero => rfl
        | succ n => rw [hq] at h; simp at h
      rw [this] at h
      exact .inr ⟨by omega, by simpa using h.symm⟩
  have oldM : ∀ (i : Nat) (n : D), i < al.length → (M ++ [.ptp l])[i]? = some n → M[i]? = some n := fun i n hi h => by
    rw [List.getElem?_append_left (by have := r.len; omega)] at h; exact h
  have newM : ∀ (n : D), (M ++ [.ptp l])[al.length]? = some n → n = .ptp l := fun n h => by
    rw [List.getElem?_append_right (by have := r.len; omega), r.len, Nat.sub_self] at h
    simpa using h.symm
  refine ⟨e, r.base.trans e, r1.same, by simp [r.len], fun i b n h1 h2 => ?_, fun i j b n n' h1 h2 h3 h4 l1 l2 => ?_, fun b hb => ?_⟩
  · rcases old i b h1 with ⟨hi, h1'⟩ | ⟨hi, rfl⟩
    · have c := r1.cell i b n h1' (oldM i n hi h2)
      exact c.mono (Same.refl _) (List.prefix_append _ _) (fun hl => (live_cell hl c).1) fun o' _ h => h
    · rw [hi] at h2
      rw [newM _ h2]
      exact hc _ _ e1.pp (List.prefix_append _ _) upd_same
  · rcases old i b h1 with ⟨hi, h1'⟩ | ⟨hi, e1⟩
    · rcases old j b h2 with ⟨hj, h2'⟩ | ⟨hj, e2⟩
      · exact r.inj i j b n n' h1' h2' (oldM i n hi h3) (oldM j n' hj h4) l1 l2
      · rw [hj] at h4
        rw [newM _ h4] at l2; cases l2
    · rw [hi] at h3
      rw [newM _ h3] at l1; cases l1
  · rcases List.mem_append.mp hb with z | z
    · exact r1.trk b z
    · have : b = a := by simpa using z
      rw [this, upd_same]; exact ⟨_, rfl⟩
theorem RS.retype (r : RS K B P al M env σ H) {j : Nat} {d d' : D} (h : env[j]? = some (some d)) (c : ∀ v, Rep K P al d v → Rep K P al d' v) : RS K B P al M (env.set j (some d')) σ H := by
  refine ⟨r.toRS0, by simp [r.slen], fun i x hx => ?_⟩
  by_cases hi : i = j
  · subst hi
    have hl := (List.getElem?_eq_some_iff.mp h).1
    rw [List.getElem?_set_self hl] at hx
    cases hx
    obtain ⟨v, h1, h2⟩ := r.slot i d h
    exact ⟨v, h1, c v h2⟩
  · rw [List.getElem?_set_ne (Ne.symm hi)] at hx
    exact r.slot i x hx
end
/-- try: .. except C as e: y = e -/
def wTryKeep (ok : List Str) (sub : Str → Bool) (i j : Nat) (wb : RXe → WS) (RX : RXe) : WS := fun k env M =>
  wb (fun n fs env' M' => Need (n ∈ ok) ∧ Need (i < env'.length ∧ j < env'.length) ∧ ifB (sub n) (k.nx ((env'.set j (some (.cel M'.length))).set i none) (M' ++ [.ptp [.obj n fs]])) (RX n fs env' M')) k env M
section
variable {X : Cx} {B : Bs} {x n : Str} {Cc : Addr} {i j : Nat} {body suite : List Stmt} {b₀ : Stmt} {np pos pos' : Pos} {RX : RXe} {ok : List Str} {sub : Str → Bool} {wb : RXe → WS}
theorem d_tryKeep (hs : X.stack = X.env :: X.outer) (hf : X.env.frame = some X.env.locals) (hN : X.N.Nodup) (hi : X.N[i]? = some n) (hln : X.env.kindOf n = some .local) (hc : Names X x (.ref Cc)) (tk : Takes X (WL X.K B RX)) (hij : i ≠ j)
    (hsub : ∀ n C, n ∈ ok → ClsAt X.K n C → PySem.W.exmOne X.K (.ref C) (.ref Cc) = some (sub n))
    (hb : ∀ (B' : Bs) (RX' : RXe) (pn : List (Addr × Obj)) (xe : Value → Shared → Prop), Takes (X.tr pn xe) (WL X.K B' RX') → DSs B' (X.tr pn xe) body (wb RX'))
    (hsu : ∀ (B' : Bs) (a : Addr) (oe : Obj) (pn : List (Addr × Obj)), DSs B' (X.suite a ((a, oe) :: pn)) (b₀ :: suite) (wAsg (wVar i) (gN j))) :
    DS B X (.Try body [.ExceptHandler (some (.Name x np)) (some n) (b₀ :: suite) pos'] [] [] pos) (wTryKeep ok sub i j wb RX) := by
  refine (ps_try_keep (Wout := WL X.K B RX) (tb := fun W D σ H => ∃ B' RX', (∀ c d σ H, WL X.K B' RX' c d σ H → W c d σ H) ∧ tDS X.K B' (wb RX') D σ H)
    (ts := fun a cls d D σ H => ∃ B', tDS X.K B' (wAsg (wVar i) (gN j)) D σ H) hs hf hN hi hln hc tk
    (fun W pn xe tkW po => ⟨fun pins s σ H D I ⟨B', RX', imp, h⟩ => (hb B' RX' pn xe (tkW.imp imp)).run pins s σ H D I h⟩)
    (fun a oe cls d pn hz hd => ⟨fun pins s σ H D I ⟨B', h⟩ => (hsu B' a oe pn).run pins s σ H D I h⟩)).imp fun D σ H => ?_
  rintro ⟨P, al, M, env, k, rs, hw, L⟩
  refine ⟨(P, al, H), _, fun c d σ' H' q => ?_, P, al, M, env, k, ⟨rs.toRS0.here, rs.slen, rs.slot⟩, hw, ⟨fun env' M' σ' H' P' al' e rs' q => L.nx _ _ _ _ _ _ e ⟨rs'.toRS0.rebase (rs.base.trans e), rs'.slen, rs'.slot⟩ q, fun d M' v H' P' al' e rs' r q => L.rt _ _ _ _ _ _ e (rs'.rebase (rs.base.trans e)) r q,
    fun env' M' σ' H' P' al' e rs' q => L.bk _ _ _ _ _ _ e ⟨rs'.toRS0.rebase (rs.base.trans e), rs'.slen, rs'.slot⟩ q, fun env' M' σ' H' P' al' e rs' q => L.ct _ _ _ _ _ _ e ⟨rs'.toRS0.rebase (rs.base.trans e), rs'.slen, rs'.slot⟩ q⟩⟩
  obtain ⟨C, nm, fs, env', P', al', M', rfl, ca, rs', xd, ho, hlen, q⟩ := q
  obtain ⟨hil, hjl⟩ := hlen.out
  have e0 : Ext P al H P' al' H' := rs'.base
  refine ⟨sub nm, hsub nm C ho.out ca, fun hb a oe hna hz hd => ?_, fun hb => ⟨C, nm, fs, env', P', al', M', rfl, ca, ⟨rs'.toRS0.rebase (rs.base.trans e0), rs'.slen, rs'.slot⟩, xd, q.2 hb⟩⟩
  have rs2 : RS X.K (P', al', H') P' al' M' env' σ' H' := ⟨rs'.toRS0.here, rs'.slen, rs'.slot⟩
  refine ⟨(P', al', H'), P', al', M', _, ⟨fun e m => e = (env'.set i (some (.adr a))).set j (some (.adr a)) ∧ m = M', fun _ _ => False, fun _ _ => False, fun _ _ => False⟩, rs2.put i (.adr a), ?_, ⟨fun env2 M2 σ2 H2 P2 al2 e rs3 q3 => ?_, fun _ _ _ _ _ _ _ _ _ z => z.elim, fun _ _ _ _ _ _ _ _ z => z.elim, fun _ _ _ _ _ _ _ _ z => z.elim⟩⟩
  · show wVar i _ _ _
    unfold wVar
    rw [List.getElem?_set_self hil]
    exact ⟨rfl, rfl⟩
  · obtain ⟨rfl, eM⟩ := q3
    rw [eM] at rs3
    intro na2
    have rs4 := rs3.drp i
    obtain ⟨P5, e5, r5, hx⟩ := xd_pub (xd.go e) rs4.toRS0
    obtain ⟨e6, r6⟩ := r5.cellE (a := a) (oe := oe) (l := [.obj nm fs]) na2 fun P7 al7 s7 p7 h7 => by
      refine ⟨C, d, oe, h7, ca, hz, hd, ?_⟩
      rcases hx with hx | ⟨dd, gs, g1, g2, g3⟩
      · exact .inl hx
      · exact .inr ⟨dd, gs, g1, s7 _ _ g2, g3.mono s7 p7⟩
    have rs6 := rs4.step (e5.trans e6) r6
    have hget : (((env'.set i (some (L3.D.adr a))).set j (some (L3.D.adr a))).set i none)[j]? = some (some (L3.D.adr a)) := by
      rw [List.getElem?_set_ne hij, List.getElem?_set_self (by simpa using hjl)]
    have la : (al2 ++ [a])[M'.length]? = some a := by
      rw [← rs4.len, List.getElem?_append_right (Nat.le_refl _), Nat.sub_self]; rfl
    have rs7 := rs6.retype (d' := .cel M'.length) hget fun v hv => by cases hv; exact .cel la
    have eq : ((((env'.set i (some (L3.D.adr a))).set j (some (L3.D.adr a))).set i none).set j (some (L3.D.cel M'.length))) = (env'.set j (some (.cel M'.length))).set i none := by
      apply List.ext_getElem?
      intro t
      by_cases h1 : t = i
      · subst h1
        rw [List.getElem?_set_ne (Ne.symm hij), List.getElem?_set_self (by simpa using hil), List.getElem?_set_self (by simpa using hil)]
      · by_cases h2 : t = j
        · subst h2
          rw [List.getElem?_set_self (by simpa using hjl), List.getElem?_set_ne hij, List.getElem?_set_self (by simpa using hjl)]
        · rw [List.getElem?_set_ne (Ne.symm h2), List.getElem?_set_ne (Ne.symm h1), List.getElem?_set_ne (Ne.symm h2), List.getElem?_set_ne (Ne.symm h1), List.getElem?_set_ne (Ne.symm h1), List.getElem?_set_ne (Ne.symm h2)]
    rw [eq] at rs7
    have ea := e0.trans (e.trans (e5.trans e6))
    exact L.nx _ _ _ _ _ _ ea ⟨rs7.toRS0.rebase (rs.base.trans ea), rs7.slen, rs7.slot⟩ (q.1 hb)
end
/-! ### e.f, isinstance(e, C) of such a cell -/
section
variable {X : Cx}
def tXe (K : PySem.W.Frag) (f : Str) (te : TE) : TE := fun σ H Q => te σ H fun x H1 => ∃ (a C : Addr) (oe : Obj) (dd : Addr) (fs : List (Str × V)) (v : V), x = .ref a ∧ H1 a = some (ExK a oe) ∧ XfC K C ∧ PySem.W.findIn K (.ref C) f = some none ∧
  Zc (.ref C) (some dd) oe ∧ (∃ vs, oe.data = .fields vs) ∧ H1 dd = some (.xd fs) ∧ fs.lookup f = some v ∧ Q v H1
theorem pe_xe {e : Expr} {te : TE} {pos : Pos} {n : Str} (he : PE X e te) (hb : attributeBase e n X.env (eval e X.env) = eval e X.env := by rfl) : PE X (.Attribute e n pos) (tXe X.K n te) := by
  refine ⟨fun pins s σ H Q I h => ?_⟩
  refine attr_of hb (thn (he.run pins s σ H _ I h) fun u s1 hh => ?_)
  obtain ⟨x, H1, I1, rx, a, C, oe, dd, fs, v, ex, hA, T, hno, hz, hf, ea, l, q⟩ := hh
  subst ex
  obtain rfl : u = Value.ref a := rx
  have ha : s1.heap.get? a = some oe := (I1.hok a _ hA).1
  obtain ⟨vs, hd⟩ := hf
  have hx : ObjOk X.prog X.w H1 s1.heap dd (.xd fs) := I1.hok dd _ ea
  obtain ⟨mA, hns, hr⟩ := hx
  obtain ⟨od, ho, hl⟩ := lookIn_ns hns
  obtain ⟨u, hu, ru⟩ := RelO.some_of (v := v) (o := mA n) (by rw [← l]; exact hr n)
  have J : PySem.W.InstAt s1.heap a oe C (some od) := ⟨ha, hz.1, by unfold PySem.W.notCls; rw [hd] <;> rfl, by rw [hz.2]; exact ho⟩
  exact HandSPX.exc_get I1.kIn J T.ga T.gg T.exC (PySem.W.findObj_own T.hdC hno rfl (by rw [hl, hu])) (handed_of ru) ⟨v, H1, I1.tok _, ru, q⟩
def rIsK (K : PySem.W.Frag) : List V → Hp → VK → Prop := fun xs H Q => ∃ (a C : Addr) (oe : Obj) (d : Option Addr) (c : V) (cv : Value) (b : Bool), xs = [.ref a, c] ∧ H a = some (ExK a oe) ∧ ErC K C ∧ Zc (.ref C) d oe ∧ (∃ vs, oe.data = .fields vs) ∧
  (∀ u, RelV c u → u = cv) ∧ PySem.W.kitOne K (.ref C) cv = some b ∧ (d = none ∨ ∃ dd gs, d = some dd ∧ H dd = some (.xd gs)) ∧ Q (.bl b) H
theorem call_isK : CallR X (.builtin "isinstance") (rIsK X.K) := by
  intro pins s σ H xs us Q I r h
  obtain ⟨a, C, oe, d, c, cv, b, rfl, hA, T, hz, hf, hcv, e, hd, q⟩ := h
  cases r with
  | cons rx rr =>
    cases rr with
    | cons rt rr =>
      cases rr
      cases rx
      have ec := hcv _ rt
      subst ec
      have hget : s.heap.get? a = some oe := (I.hok a _ hA).1
      obtain ⟨vs, hv⟩ := hf
      obtain ⟨oc, od, oda, osl⟩ := oe
      obtain ⟨h1, h2⟩ := hz
      dsimp only at h1 h2 hv
      subst h1 h2 hv
      have J : ∃ ob, PySem.W.InstAt s.heap a ⟨.ref C, od, .fields vs, osl⟩ C ob := by
        rcases hd with rfl | ⟨dd, gs, rfl, hx⟩
        · exact ⟨none, hget, rfl, rfl, trivial⟩
        · obtain ⟨mA, hns, _⟩ := (show ObjOk X.prog X.w H s.heap dd (.xd gs) from I.hok dd _ hx)
          obtain ⟨o, ho, _⟩ := lookIn_ns hns
          exact ⟨some o, hget, rfl, rfl, ho⟩
      obtain ⟨ob, J⟩ := J
      exact PySem.W.kia_one (PySem.W.kitx_exc T.cl T.ga T.gg T.sb T.ca T.cg T.tk T.ob) I.kIn J e (fun z => nomatch z) fun tk => ⟨.bl b, H, I.kept (t' := tk) fun _ _ z => z, rfl, q⟩
end
section
variable {X : Cx} {B : Bs} {K : PySem.W.Frag} {P : Hp} {al : List Addr} {M : Mt} {H : Hp} {i : Nat} {n : Str} {fs : List (Str × D)} {v : V}
/-- the cell i is an error of the class n -/
theorem ex_at (rs : RS0 K B P al M H) (hm : M[i]? = some (.ptp [.obj n fs])) (r : Rep K P al (.cel i) v) :
    ∃ a C d oe, v = .ref a ∧ H a = some (ExK a oe) ∧ ClsAt K n C ∧ Zc (.ref C) d oe ∧ (∃ vs, oe.data = .fields vs) ∧ ((d = none ∧ fs = []) ∨ ∃ dd gs, d = some dd ∧ H dd = some (.xd gs) ∧ RepFs K P al fs gs) := by
  cases r with
  | cel e =>
    rename_i a
    have c : ExCell K P al [.obj n fs] a := rs.cell i a _ e hm
    obtain ⟨C, d, oe, h1, h2, h3, h4, h5⟩ := c
    refine ⟨a, C, d, oe, rfl, rs.same _ _ h1, h2, h3, h4, ?_⟩
    rcases h5 with h5 | ⟨dd, gs, g1, g2, g3⟩
    · exact .inl h5
    · exact .inr ⟨dd, gs, g1, rs.same _ _ g2, g3⟩
def wXe (ns : List Str) (f : Str) (w : WE) : WE := fun env M R => w env M fun d M1 => match d with
  | .cel i => match M1[i]? with
    | some (.ptp [.obj n fs]) => Need (n ∈ ns) ∧ match fs.lookup f with
      | some v => R v M1
      | none => False
    | _ => False
  | _ => False
theorem d_xe {e : Expr} {pos : Pos} {ns : List Str} {f : Str} {w : WE} (hT : ∀ n C, n ∈ ns → ClsAt X.K n C → XfC X.K C ∧ PySem.W.findIn X.K (.ref C) f = some none) (he : DE B X e w) (hb : attributeBase e f X.env (eval e X.env) = eval e X.env := by rfl) :
    DE B X (.Attribute e f pos) (wXe ns f w) := by
  refine (pe_xe he hb).imp fun σ H Q => ?_
  rintro ⟨P, al, M, env, R, rs, hw, L⟩
  refine ⟨P, al, M, env, _, rs, hw, fun d M1 y H1 P1 al1 e1 rs1 r1 q => ?_⟩
  split at q
  · split at q
    · rename_i i n fs hm
      obtain ⟨hn, q⟩ := q
      split at q
      · rename_i v' el
        obtain ⟨a, C, d, oe, rfl, hA, ca, hz, hf, h5⟩ := ex_at rs1.toRS0 hm r1
        obtain ⟨T, hno⟩ := hT n C hn.out ca
        rcases h5 with ⟨_, h⟩ | ⟨dd, gs, rfl, h3, h4⟩
        · rw [h] at el; cases el
        · obtain ⟨z, l, rz⟩ := h4.find el
          exact ⟨a, C, oe, dd, gs, z, rfl, hA, T, hno, hz, hf, h3, l, (L.after e1).here rs1 rz q⟩
      · exact q.elim
    · exact q.elim
  · exact q.elim
@[irreducible] def cIsK (tb : List ((Str × Str) × Bool)) (tt : List ((Str × String) × Bool)) : WCl := fun ds M R => match ds with
  | [.cel i, .cls c] => match M[i]? with
    | some (.ptp [.obj n _]) => match tb.lookup (n, c) with
      | some r => R (.bl r) M
      | none => False
    | _ => False
  | [.cel i, .ty c] => match M[i]? with
    | some (.ptp [.obj n _]) => match tt.lookup (n, c) with
      | some r => R (.bl r) M
      | none => False
    | _ => False
  | _ => False
theorem isK_cls {tb : List ((Str × Str) × Bool)} {tt : List ((Str × String) × Bool)} {M : Mt} {i : Nat} {n c : Str} {fs : List (Str × D)} {r : Bool} {R : D → Mt → Prop} (h : M[i]? = some (.ptp [.obj n fs])) (hl : tb.lookup (n, c) = some r) (k : R (.bl r) M) : cIsK tb tt [.cel i, .cls c] M R := by
  unfold cIsK
  simp only [h, hl]; exact k
theorem isK_ty {tb : List ((Str × Str) × Bool)} {tt : List ((Str × String) × Bool)} {M : Mt} {i : Nat} {n : Str} {c : String} {fs : List (Str × D)} {r : Bool} {R : D → Mt → Prop} (h : M[i]? = some (.ptp [.obj n fs])) (hl : tt.lookup (n, c) = some r) (k : R (.bl r) M) : cIsK tb tt [.cel i, .ty c] M R := by
  unfold cIsK
  simp only [h, hl]; exact k
/-- what the classes say -/
structure KitTab (K : PySem.W.Frag) (tb : List ((Str × Str) × Bool)) (tt : List ((Str × String) × Bool)) : Prop where
  cls : ∀ n c r, tb.lookup (n, c) = some r → ∃ C Cc, ClsAt K n C ∧ ClsAt K c Cc ∧ ErC K C ∧ PySem.W.kitOne K (.ref C) (.ref Cc) = some r
  tys : ∀ n c r, tt.lookup (n, c) = some r → ∃ C, ClsAt K n C ∧ ErC K C ∧ PySem.W.kitOne K (.ref C) (.type c) = some r
theorem cIsK_ok {tb : List ((Str × Str) × Bool)} {tt : List ((Str × String) × Bool)} (T : KitTab K tb tt) : CallD K B (rIsK K) (cIsK tb tt) := by
  intro P al M env σ H vs ds R Q rs r h L
  unfold cIsK at h
  split at h
  · rename_i i c
    cases r with
    | cons r1 t => cases t with
      | cons r2 t =>
        cases t
        split at h
        · rename_i n fs hm
          split at h
          · rename_i z hl
            obtain ⟨a, C, d, oe, rfl, hA, ca, hz, hf, h5⟩ := ex_at rs.toRS0 hm r1
            obtain ⟨C', Cc, c1, c2, er, kit⟩ := T.cls _ _ _ hl
            obtain rfl := ca.one c1
            cases r2 with
            | cls cc =>
              obtain rfl := cc.one c2
              refine ⟨a, C, oe, d, _, _, z, rfl, hA, er, hz, hf, fun u ru => by cases ru; rfl, kit, ?_, L.here rs (.bl _) h⟩
              rcases h5 with ⟨h, _⟩ | ⟨dd, gs, h1, h3, _⟩
              · exact .inl h
              · exact .inr ⟨dd, gs, h1, h3⟩
          · exact h.elim
        · exact h.elim
  · rename_i i c
    cases r with
    | cons r1 t => cases t with
      | cons r2 t =>
        cases t
        split at h
        · rename_i n fs hm
          split at h
          · rename_i z hl
            obtain ⟨a, C, d, oe, rfl, hA, ca, hz, hf, h5⟩ := ex_at rs.toRS0 hm r1
            obtain ⟨C', c1, er, kit⟩ := T.tys _ _ _ hl
            obtain rfl := ca.one c1
            cases r2
            refine ⟨a, C, oe, d, _, _, z, rfl, hA, er, hz, hf, fun u ru => ru, kit, ?_, L.here rs (.bl _) h⟩
            rcases h5 with ⟨h, _⟩ | ⟨dd, gs, h1, h3, _⟩
            · exact .inl h
            · exact .inr ⟨dd, gs, h1, h3⟩
          · exact h.elim
        · exact h.elim
  · exact h.elim
theorem KitTab.nil {K : PySem.W.Frag} : KitTab K [] [] := ⟨fun _ _ _ h => (by cases h), fun _ _ _ h => (by cases h)⟩
theorem KitTab.cons {n c : Str} {r : Bool} {C Cc : Addr} {tb : List ((Str × Str) × Bool)} {tt : List ((Str × String) × Bool)} (c1 : ClsAt K n C) (c2 : ClsAt K c Cc) (er : ErC K C) (kit : PySem.W.kitOne K (.ref C) (.ref Cc) = some r) (T : KitTab K tb tt) : KitTab K (((n, c), r) :: tb) tt := by
  refine ⟨fun n' c' r' h => ?_, T.tys⟩
  rw [List.lookup_cons] at h
  split at h
  · rename_i e
    have e := beq_iff_eq.mp e
    cases h; cases e
    exact ⟨C, Cc, c1, c2, er, kit⟩
  · exact T.cls _ _ _ h
theorem KitTab.consT {n : Str} {c : String} {r : Bool} {C : Addr} {tb : List ((Str × Str) × Bool)} {tt : List ((Str × String) × Bool)} (c1 : ClsAt K n C) (er : ErC K C) (kit : PySem.W.kitOne K (.ref C) (.type c) = some r) (T : KitTab K tb tt) : KitTab K tb (((n, c), r) :: tt) := by
  refine ⟨T.cls, fun n' c' r' h => ?_⟩
  rw [List.lookup_cons] at h
  split at h
  · rename_i e
    have e := beq_iff_eq.mp e
    cases h; cases e
    exact ⟨C, c1, er, kit⟩
  · exact T.tys _ _ _ h
end

/-- all of these are caught -/
inductive ExAll (K : PySem.W.Frag) (Cc : Addr) : List Str → Prop
  | nil : ExAll K Cc []
  | cons {m : Str} {C : Addr} {ok : List Str} : ClsAt K m C → PySem.W.exmOne K (.ref C) (.ref Cc) = some true → ExAll K Cc ok → ExAll K Cc (m :: ok)
theorem ExAll.look {K : PySem.W.Frag} {Cc : Addr} {ok : List Str} (t : ExAll K Cc ok) : ∀ n C, n ∈ ok → ClsAt K n C → PySem.W.exmOne K (.ref C) (.ref Cc) = some ((fun _ => true) n) := by
  induction t with
  | nil => intro n C h; cases h
  | @cons m Cm ok ca e t ih =>
    intro n C h hc
    rcases List.mem_cons.mp h with rfl | h
    · obtain rfl := ca.one hc
      exact e
    · exact ih n C h hc
/-- these have a field f -/
inductive XeTab (K : PySem.W.Frag) (f : Str) : List Str → Prop
  | nil : XeTab K f []
  | cons {m : Str} {C : Addr} {ok : List Str} : ClsAt K m C → XfC K C → PySem.W.findIn K (.ref C) f = some none → XeTab K f ok → XeTab K f (m :: ok)
theorem XeTab.look {K : PySem.W.Frag} {f : Str} {ok : List Str} (t : XeTab K f ok) : ∀ n C, n ∈ ok → ClsAt K n C → XfC K C ∧ PySem.W.findIn K (.ref C) f = some none := by
  induction t with
  | nil => intro n C h; cases h
  | @cons m Cm ok ca x e t ih =>
    intro n C h hc
    rcases List.mem_cons.mp h with rfl | h
    · obtain rfl := ca.one hc
      exact ⟨x, e⟩
    · exact ih n C h hc
end L3

namespace L3
open PySem PySem.Spec PyProof.Rows L2
/-! ### for over a list of the table that stays as it is meanwhile -/
def WalkQ (c : Mt → Prop) (K : PySem.W.Frag) (J : It) (ds : List D) (P : Hp) (al : List Addr) : Prop :=
  ∀ (B : Bs) (P2 : Hp) (al2 : List Addr) (M2 : Mt) (H2 : Hp), Same P P2 → al <+: al2 → RS0 K B P2 al2 M2 H2 → c M2 →
    (∀ (i : Nat) (d : D), ds[i]? = some d → J.go i H2 ∧ ∀ x H3, J.yld i H2 x H3 → ∃ P3, Ext P2 al2 H2 P3 al2 H3 ∧ RS0 K B P3 al2 M2 H3 ∧ Rep K P3 al2 d x) ∧ J.stop ds.length H2
theorem Walk.c {K : PySem.W.Frag} {J : It} {ds : List D} {P : Hp} {al : List Addr} (h : Walk K J ds P al) (c : Mt → Prop) : WalkQ c K J ds P al := fun B P2 al2 M2 H2 s p r _ => h B P2 al2 M2 H2 s p r
section
variable {X : Cx} {B : Bs} {e tg : Expr} {pos : Pos}
end
section
variable {K : PySem.W.Frag} {a : Addr} {ds : List D} {P : Hp} {al : List Addr} {i : Nat}
end
end L3

namespace L3
open PySem PySem.Spec PyProof.Rows L2
/-! ### C(e, .., k = v, ..): arguments one by one, some by name -/
section
variable {X : Cx} {B : Bs} {CX : CXT} {k np : Nat} {f C : Addr} {sp : DSp} {n x : Str} {p kpos pos : Pos} {e : Expr} {es : List Expr} {was wks : WA} {RX : RXe} {kws : List Keyword} {names : List Str}
end
/-! ### x + y of lists: a new list that will change -/
section
variable {K : PySem.W.Frag} {B : Bs}
end
/-! ### a, b, .. = a list -/
end L3

namespace L3
open PySem PySem.Spec PyProof.Rows L2 HotX
/-! ### raise C(..) from e, in the except suite that names e -/
section
variable {X : Cx} {pins : List (Addr × Obj)} {σ : L2.St} {H : Hp} {s : Shared}
end
section
variable {X : Cx} {x n : Str} {c : Value} {i : Nat} {body suite : List Stmt} {b₀ : Stmt} {np pos pos' : Pos} {tb : WX → TS} {ts : Addr → Obj → Value → Option Addr → TS} {Wout : WX}
end
end L3

namespace L3
open PySem PySem.Spec PyProof.Rows L2 HotX
/-! ### exceptions without a context, in the D-layer -/
section
variable {X : Cx} {B : Bs} {RX : RXe}
end
section
variable {P : Program} {w : World} {K : PySem.W.Frag} {mg : Str → Option Value} {base : Heap}
end
/-! ### raising where what is raised has no context -/
section
variable {X : Cx} {B : Bs} {C fI : Addr} {k : Nat} {fd : FuncData} {n x : Str} {p pos pos2 : Pos} {e : Expr} {es : List Expr} {was : WA} {ps ns : List Str} {RX : RXe} {ta : TA} {CX : CXT} {sp : Sp} {ds : List Value} {dvs : List V}
end
/-! ### own errors' __init__ while an exception is handled -/
section
variable {P : Program} {w : World} {K : PySem.W.Frag} {mg : Str → Option Value} {base : Heap} {C : Addr}
end
/-! ### try: .. except C as n: raise R(..) from n -/
section
variable {X : Cx} {B : Bs} {x y n n2 : Str} {Cc C2 fI : Addr} {i k : Nat} {body : List Stmt} {np npos pos pos' p rpos rpos2 : Pos} {e : Expr} {es : List Expr} {RX : RXe} {ok ps ns : List Str} {sub : Str → Bool} {wb : RXe → WS} {was : WA} {fd : FuncData}
end
/-- these are exceptions that may be raised -/
inductive RaTab (K : PySem.W.Frag) : List Str → Prop
  | nil : RaTab K []
  | cons {m : Str} {C : Addr} {ok : List Str} : ClsAt K m C → OexC K C → RaTab K ok → RaTab K (m :: ok)
theorem RaTab.look {X : Cx} {ok : List Str} (t : RaTab X.K ok) : ∀ n C, n ∈ ok → ClsAt X.K n C → Raises X (.ref C) := by
  induction t with
  | nil => intro n C h; cases h
  | @cons m Cm ok ca x t ih =>
    intro n C h hc
    rcases List.mem_cons.mp h with rfl | h
    · obtain rfl := ca.one hc
      exact raises_own x.exC x.tyC
    · exact ih n C h hc
end L3

namespace L3
open PySem PySem.Spec PyProof.Rows L2
/-! ### a dict that no longer changes, locked for good ahead of a statement; a loop over its keys -/
section
variable {X : Cx} {B : Bs} {st : Stmt} {w : WS} {i : Nat} {t : TS}
end
section
variable {X : Cx} {B : Bs} {tg e : Expr} {we : WE}
end
end L3

namespace L3
open PySem PySem.Spec PyProof.Rows L2
/-! ### isinstance(x, T) with a built-in T, x perhaps of an own class -/
inductive TabT (K : PySem.W.Frag) (T : String) : List (Str × Bool) → Prop
  | nil : TabT K T []
  | cons {n : Str} {r : Bool} {C : Addr} {tb : List (Str × Bool)} : ClsAt K n C → InsF K C → PySem.W.kitOne K (.ref C) (.type T) = some r → TabT K T tb → TabT K T ((n, r) :: tb)
theorem TabT.look {K : PySem.W.Frag} {T : String} {tb : List (Str × Bool)} (t : TabT K T tb) : ∀ n r C, tb.lookup n = some r → ClsAt K n C → InsF K C ∧ PySem.W.kitOne K (.ref C) (.type T) = some r := by
  induction t with
  | nil => intro n r C h; cases h
  | @cons n' r' C' tb ca i k t ih =>
    intro n r C h hc
    rw [List.lookup_cons] at h
    split at h
    · rename_i e
      obtain rfl : n = n' := by simpa using e
      cases h
      obtain rfl := ca.one hc
      exact ⟨i, k⟩
    · exact ih n r C h hc
/-! ### not x, x of an own class with a __bool__ -/
section
variable {X : Cx} {B : Bs} {k : Nat} {f C : Addr} {n : Str} {sp : DSp} {CX : CXT} {pos : Pos} {e : Expr} {we : WE}
end
end L3


namespace L3
open PySem PySem.Spec PyProof.Rows L2 Builtin
/-! ### a constant of a class, read off an instance -/
/-! ### C(*y), cls(*y) -/
section
variable {X : Cx} {B : Bs} {CX : CXT} {k i : Nat} {f C : Addr} {n : Str} {sp : DSp} {e : Expr} {we : WE} {RX : RXe} {p p2 pos : Pos}
end
end L3


namespace L3
open PySem PySem.Spec PyProof.Rows L2 Builtin
/-! ### d.values(), d a dict that is locked for good: in a loop, in list(..) -/
section
variable {X : Cx} {B : Bs} {tg e : Expr} {we : WE} {te : TE} {p apos cpos pos : Pos}
end
end L3


/-! ### == of two lists of instances with an own __eq__ -/
namespace GB
open PySem PySem.SeqAt GQ
open AutoSeq1 (wpAny_loadPart')
open MeetsSeq MeetsSeq2 MeetsSeq3 SeqRoads2
section
variable {prog : Program} {w : World} {A : Around} {R : Result → Shared → Prop}
end
section
variable {prog : Program} {w : World} {A : Around} {E : Value → Shared → Prop} {s : Shared}
end
end GB
namespace L3
open PySem PySem.Spec PyProof.Rows L2 Builtin
section
variable {X : Cx} {B : Bs} {CX : CXT} {k : Nat} {f C : Addr} {n : Str} {sp : DSp}
end
end L3

namespace L3
open PySem PySem.Spec PyProof.Rows L2
/-! ### in, of a dict, as a test -/
section
variable {X : Cx} {B : Bs} {i o : Expr} {wi wo : WE} {pos : Pos}
end
end L3

namespace L3
open PySem PySem.Spec PyProof.Rows L2
/-! ### the head's facts, looked at behind one run of the top -/
abbrev FrB := PySem.W.Frag → Bool
def xRef : Option (Option Value) → Addr
  | some (some (.ref a)) => a
  | _ => 0
def xTok : Option (Option Value) → Tok
  | some (some (.int _ t)) => t
  | some (some (.str _ t)) => t
  | _ => 0
def xCg : Option PySem.W.CFound → Addr
  | some (.get _ (.ref a) _ _) => a
  | _ => 0
def xCt : Option PySem.W.CFound → Tok
  | some (.val (.int _ t)) => t
  | _ => 0
def xRecA : Option (List Value) → Addr
  | some (.ref a :: _) => a
  | _ => 0
def xRecR : Option (List Value) → List Value
  | some (_ :: l) => l
  | _ => []
def xV : Value → Addr
  | .ref a => a
  | _ => 0
def xVT : Value → Tok
  | .int _ t => t
  | .str _ t => t
  | _ => 0
/-- what is found is the maker's, out of the place a -/
def cgB (r : Option PySem.W.CFound) (b : String) (C : Addr) : Bool := match r with
  | some (.get (.builtin b') (.ref _) .none (.ref C')) => decide (b' = b) && decide (C' = C)
  | _ => false
theorem cgB_ok {r : Option PySem.W.CFound} {b : String} {C : Addr} (h : cgB r b C = true) : r = some (.get (.builtin b) (.ref (xCg r)) .none (.ref C)) := by
  unfold cgB at h
  split at h
  · rw [Bool.and_eq_true] at h
    have h1 := of_decide_eq_true h.1
    have h2 := of_decide_eq_true h.2
    subst h1 h2; rfl
  · cases h
def cvB (r : Option PySem.W.CFound) (i : Int) : Bool := match r with
  | some (.val (.int j _)) => decide (j = i)
  | _ => false
theorem cvB_ok {r : Option PySem.W.CFound} {i : Int} (h : cvB r i = true) : r = some (.val (.int i (xCt r))) := by
  unfold cvB at h
  split at h
  · have h1 := of_decide_eq_true h
    subst h1; rfl
  · cases h
/-! functions -/
abbrev FV : Type := Option (Str × Str × Arguments × FuncBody × Scope × Addr × List (Str × Addr) × Addr)
def fnV (K : PySem.W.Frag) (f : Addr) : FV := match K.lookup f with
  | some ⟨_, _, .func fd, _⟩ => some (fd.name, fd.qualname, fd.params, fd.body, fd.scope, fd.globals, fd.closure.map fun c => (c.1, 0), fd.builtins)
  | _ => none
def dfV (K : PySem.W.Frag) (f : Addr) : Value := match K.lookup f with
  | some ⟨_, _, .func fd, _⟩ => fd.defaults
  | _ => .none
def cdV (K : PySem.W.Frag) (f : Addr) : Value := match K.lookup f with
  | some ⟨_, _, .func fd, _⟩ => fd.code
  | _ => .none
def fnW (n q : Str) (a : Arguments) (b : List Stmt) (s : Scope) : FV := some (n, q, a, .stmts b, s, mainGlobals, [], builtinsNs)
theorem fn_look {K : PySem.W.Frag} {f : Addr} {n q : Str} {a : Arguments} {b : List Stmt} {s : Scope} {v : Value} (h : fnV K f = fnW n q a b s) (hd : dfV K f = v) :
    ∃ oc od sl kV dc pm an ct, K.lookup f = some ⟨oc, od, .func (PySem.W.fnOf n q a b s v kV dc pm an (cdV K f) ct), sl⟩ := by
  unfold fnV at h
  split at h
  · rename_i oc od fd sl e
    unfold dfV at hd
    unfold cdV
    rw [e] at hd ⊢
    obtain ⟨n1, n2, n3, n4, n5, n6, n7, n8, n9, n10, n11, n12, n13, n14, n15⟩ := fd
    simp only [fnW, Option.some.injEq, Prod.mk.injEq] at h
    obtain ⟨h1, h2, h3, h4, h5, h6, h7, h8⟩ := h
    have h7 : n7 = [] := List.map_eq_nil_iff.mp h7
    subst h1 h2 h3 h4 h5 h6 h7 h8
    have hd : n8 = v := hd
    subst hd
    exact ⟨oc, od, sl, n9, n10, n11, n12, n14, rfl⟩
  · cases h
/-! rows -/
def sqV (K : PySem.W.Frag) (a : Addr) : Option (List Value) := match K.lookup a with
  | some ⟨.type t, _, .seq its _, _⟩ => (match decide (t = "tuple") with
    | true => some its.toList
    | false => none)
  | _ => none
def xIt (K : PySem.W.Frag) (a : Addr) (i : Nat) : Value := match sqV K a with
  | some l => l.getD i .none
  | none => .none
theorem sq_look {K : PySem.W.Frag} {a : Addr} {l : List Value} (h : sqV K a = some l) : ∃ od n sl, K.lookup a = some ⟨.type "tuple", od, .seq l.toArray n, sl⟩ := by
  unfold sqV at h
  split at h
  · rename_i t od its n sl e
    cases ht : decide (t = "tuple") with
    | false => rw [ht] at h; cases h
    | true =>
      rw [ht] at h
      have h1 := of_decide_eq_true ht
      subst h1
      have h2 : its.toList = l := Option.some.inj h
      subst h2
      exact ⟨od, n, sl, e⟩
  · cases h
/-! errors' classes -/
def oexB (K : PySem.W.Frag) (C : Addr) : Bool := (match K.lookup C with
  | some ⟨.type t, _, .cls cd, sl⟩ => decide (t = "type") && (match cd.mro, sl.toList with
    | .ref C' :: bm, [_, _, _, _, some (.builtin n), _] => decide (C' = C) && (decide (n = "ValueError.__new__") && (!cd.hasDel && (cd.hasDict && PySem.HandSPX.refsVE bm)))
    | _, _ => false)
  | _ => false) && (decide (PySem.W.findIn K (.ref C) "__setattr__" = some (some (.builtin "object.__setattr__"))) && (decide (PySem.W.subIn K (.ref C) (.type "BaseException") = some true) && (decide (PySem.W.typeIn K (.ref C) = some (.type "type")) && PySem.W.keepIn K (.ref C))))
theorem oexB_ok {K : PySem.W.Frag} {C : Addr} (h : oexB K C = true) : OexC K C := by
  unfold oexB at h
  rw [Bool.and_eq_true] at h
  obtain ⟨h1, h2⟩ := h
  simp only [Bool.and_eq_true] at h2
  obtain ⟨s1, s2, s3, s4⟩ := h2
  refine ⟨?_, of_decide_eq_true s1, of_decide_eq_true s2, of_decide_eq_true s3, s4⟩
  split at h1
  · rename_i t dd cd sl ho
    rw [Bool.and_eq_true] at h1
    obtain ⟨ht, h1⟩ := h1
    have ht := of_decide_eq_true ht
    subst ht
    split at h1
    · rename_i C' bm k0 k1 k2 k3 n k5 hm hs
      simp only [Bool.and_eq_true, Bool.not_eq_true'] at h1
      obtain ⟨hc, hn, hdel, hdict, hr⟩ := h1
      have hc := of_decide_eq_true hc
      have hn := of_decide_eq_true hn
      subst hc hn
      obtain ⟨nm, bs, mro, ns, qn, hd, sn, sub, ab, col, del⟩ := cd
      dsimp only at hm hdel hdict
      subst hm hdel hdict
      have hsl : sl = #[k0, k1, k2, k3, some (.builtin "ValueError.__new__"), k5] := by
        obtain ⟨l⟩ := sl
        simp only at hs
        rw [hs]
      subst hsl
      exact ⟨nm, qn, ns, bs, bm, sn, sub, ab, col, dd, k0, k1, k2, k3, k5, ho, hr⟩
    · cases h1
  · cases h1
/-! the part of the heap that is looked at -/
def frNat {β : Type} (n : Nat) (k : Nat → β) : β := match n with
  | 0 => k 0
  | m + 1 => k (m + 1)
theorem frNat_eq {β : Type} (n : Nat) (k : Nat → β) : frNat n k = k n := by cases n <;> rfl
def frK {β : Type} (g : Addr → Option Obj) : Nat → Nat → (PySem.W.Frag → β) → β
  | 0, _, k => k []
  | m + 1, a, k => match g a with
    | none => frNat (a + 1) fun b => frK g m b k
    | some o => frNat (a + 1) fun b => frK g m b fun r => k ((a, o) :: r)
theorem frK_eq {β : Type} (g : Addr → Option Obj) : ∀ (m a : Nat) (k : PySem.W.Frag → β), frK g m a k = k (He.frG g (List.range' a m))
  | 0, a, k => rfl
  | m + 1, a, k => by
    unfold frK
    rw [List.range'_succ]
    unfold He.frG
    cases h : g a with
    | none =>
      rw [List.filterMap_cons, h]
      show (frNat (a + 1) fun b => frK g m b k) = _
      rw [frNat_eq, frK_eq g m (a + 1) k]; rfl
    | some o =>
      rw [List.filterMap_cons, h]
      show (frNat (a + 1) fun b => frK g m b fun r => k ((a, o) :: r)) = _
      rw [frNat_eq, frK_eq g m (a + 1)]; rfl
abbrev AlH : Type := Bool × List FV
def lookB (fl : List (List FrB)) (fn : List (PySem.W.Frag → Addr)) (K : PySem.W.Frag) : AlH := (fl.all fun l => l.all fun f => f K, fn.map fun f => fnV K (f K))
theorem look_f {fl : List (List FrB)} {fn : List (PySem.W.Frag → Addr)} {vs : List FV} {K : PySem.W.Frag} (c : lookB fl fn K = (true, vs)) (i j : Nat) {l : List FrB} {f : FrB} (h : fl[i]? = some l) (h2 : l[j]? = some f) : f K = true := by
  have c1 : (fl.all fun l => l.all fun f => f K) = true := congrArg Prod.fst c
  exact List.all_eq_true.mp (List.all_eq_true.mp c1 l (List.mem_of_getElem? h)) f (List.mem_of_getElem? h2)
theorem look_v {fl : List (List FrB)} {fn : List (PySem.W.Frag → Addr)} {vs : List FV} {K : PySem.W.Frag} (c : lookB fl fn K = (true, vs)) (i : Nat) {f : PySem.W.Frag → Addr} {v : FV} (h : fn[i]? = some f) (h2 : vs[i]? = some v) : fnV K (f K) = v := by
  have e : (fn.map fun f => fnV K (f K)) = vs := congrArg Prod.snd c
  have e2 : (fn.map fun f => fnV K (f K))[i]? = vs[i]? := by rw [e]
  rw [List.getElem?_map, h, h2] at e2
  exact Option.some.inj e2
end L3

/-! ### sorted(set(xs)), xs a tuple of texts -/
namespace L3
open PySem PySem.Spec PyProof.Rows L2 PySem.SeqAt
def txt (e : Int × Value) : Str := match e.2 with
  | .str x _ => x
  | _ => default
def TxtE (w : World) (e : Int × Value) : Prop := ∃ x u, e.2 = Value.str x u ∧ e.1 = hashStr w x
/-- what the set at a holds: the texts ys -/
def SetX (w : World) (h : Heap) (a : Addr) (ys : List Str) : Prop :=
  ∃ o rows ep tb, h.get? a = some o ∧ o.ExactSet ∧ o.data = .set rows ep tb ∧ ((∀ e ∈ rows.toList, TxtE w e) ∧ (rows.toList.map txt).Nodup ∧ (∀ y, y ∈ ys ↔ y ∈ rows.toList.map txt)) ∧
    (rows.size ≤ ys.length ∧ rows.size < scanBound) ∧ tb.fits rows.size = true ∧ Ris tb.place.toList ∧ (w.params.followText "set-order" = true ∨ tb.led = true)
section
variable {prog : Program} {w : World} {A : Around} {E : Value → Shared → Prop} {s : Shared} {a : Addr} {ys : List Str}
theorem SetX.far {h h' : Heap} (q : SetX w h a ys) (k : ∀ o, h.get? a = some o → h'.get? a = some o) : SetX w h' a ys := by
  obtain ⟨o, rows, ep, tb, ho, r⟩ := q
  exact ⟨o, rows, ep, tb, k o ho, r⟩
end
end L3

namespace L3
open PySem PySem.Spec PyProof.Rows L2 PySem.SeqAt
section
variable {prog : Program} {w : World} {A : Around} {E : Value → Shared → Prop} {s : Shared}
end
section
variable {X : Cx} {B : Bs} {a : Expr} {wa : WE} {p p2 q pos : Pos}
end
end L3

namespace L3
open PySem PySem.Spec PyProof.Rows L2
/-! ### for k, v in d.items(), d a dict that is locked for good -/
section
variable {X : Cx} {B : Bs} {e : Expr} {we : WE} {elts : List Expr} {kk : Nat} {apos cpos tpos : Pos}
end
end L3

/-! ### tuple(d) of a dict: its keys -/
namespace L3
open PySem PySem.Spec PyProof.Rows L2
section
variable {prog : Program} {w : World} {A : Around} {E : Value → Shared → Prop} {s : Shared} {d : Addr} {N : Nat} {P : Nat → Value → Prop} {At : Heap → Prop}
end
section
variable {X : Cx}
end
section
variable {K : PySem.W.Frag} {B : Bs}
end
/-! ### raise C(), an own error without an __init__ -/
section
variable {X : Cx} {C : Addr} {bmB : List Value} {Bn newId initId : String}
end
section
variable {X : Cx} {B : Bs} {C : Addr} {n x : Str} {p pos pos2 : Pos} {RX : RXe}
end
/-! ### o(..), o an object with a __call__ of its class -/
section
variable {M : Model} {A : Around} {E : Value → Shared → Prop} {s : Shared} {env : Env} {pos : Pos} {x : Addr} {first : List Value} {Q : Value → Shared → Prop}
end
section
variable {X : Cx} {B : Bs} {CX : CXT} {k : Nat} {f C : Addr} {sp : DSp} {n x : Str} {p pos : Pos} {e : Expr} {es : List Expr} {was : WA} {wo : WE} {RX : RXe}
end
end L3

namespace L3
open PySem PySem.Spec PyProof.Rows L2
/-! ### methods that close over their class, and say super() -/
section
variable {M : Model} {A : Around} {E : Value → Shared → Prop} {s0 : Shared} {env : Env}
end
section
variable {CX : CXT} {P : Program} {w : World} {K : PySem.W.Frag} {mg : Str → Option Value} {base : Heap} {N ps : List Str} {qual : Str} {sc : Scope} {f cc : Addr} {cd : Value} {A : Around} {outer : List Env} {s s1 : Shared} {H : Hp} {E : XK}
end
/-! ### readings in the known activation -/
structure PEA (X : Cx) (b : List Stmt) (e : Expr) (t : TE) : Prop where
  run : ∀ (pins : List (Addr × Obj)) (s : Shared) (σ : L2.St) (H : Hp) (Q : VK), Inv X pins σ H s → t σ H Q → _root_.PySem.wpAt (model X.prog X.w) X.A (.func b X.env) (eval e X.env) (EP X pins σ Q) X.xe s
structure PSA (X : Cx) (b : List Stmt) (st : Stmt) (t : TS) : Prop where
  run : ∀ (pins : List (Addr × Obj)) (s : Shared) (σ : L2.St) (H : Hp) (D : Ends), Inv X pins σ H s → t D σ H → _root_.PySem.wpAt (model X.prog X.w) X.A (.func b X.env) (exec st X.env) (SP X pins D) X.xe s
structure PSsA (X : Cx) (b st : List Stmt) (t : TS) : Prop where
  run : ∀ (pins : List (Addr × Obj)) (s : Shared) (σ : L2.St) (H : Hp) (D : Ends), Inv X pins σ H s → t D σ H → _root_.PySem.wpAt (model X.prog X.w) X.A (.func b X.env) (execs st X.env) (SP X pins D) X.xe s
section
variable {X : Cx} {b : List Stmt} {st : Stmt} {rest : List Stmt} {t u : TS} {e e2 : Expr} {te te2 : TE} {pos : Pos}
theorem PSA.of (h : PS X st t) : PSA X b st t := ⟨fun pins s σ H D I q => _root_.PySem.wpAt_of_wpAny (h.run pins s σ H D I q)⟩
theorem PSsA.of (h : PSs X rest t) : PSsA X b rest t := ⟨fun pins s σ H D I q => _root_.PySem.wpAt_of_wpAny (h.run pins s σ H D I q)⟩
end
/-! ### a def's promise by a body in the known activation -/
section
variable {CX : CXT} {P : Program} {w : World} {K : PySem.W.Frag} {mg : Str → Option Value} {base : Heap} {N ps : List Str} {name qual : Str} {params : Arguments} {body : List Stmt} {sc : Scope} {dV kV doc pm cdv ct oc : Value} {an od : Option Addr} {osl : Array (Option Value)} {f cc : Addr} {k : Nat} {sp : Sp}
end
end L3

namespace L3
open PySem PySem.Spec PyProof.Rows L2
/-! ### super() -/
/-- the program's main text is that of P0 -/
class SameMain (P P0 : Program) : Prop where
  eq : P.main = P0.main
/-- behind the class at D, for an instance of the class at C, m is the def at g -/
structure SupM (K : PySem.W.Frag) (C D : Addr) (m : Str) (g : Addr) : Prop where
  at_ : PySem.W.ks_superIn K C D m = some (some (.ref g))
  ty : PySem.W.typeIn K (.ref g) = some (.type "function")
  fi : PySem.W.fnIn K g = true
  sub : PySem.W.mroIn K C (.ref D) = some true
  op : PySem.W.nsIn K cStatics "thirdparty.any" = some none
section
variable {X : Cx} {P0 : Program} {pins : List (Addr × Obj)} {σ : L2.St} {H : Hp} {s : Shared} {b : List Stmt} {whole : Sem Value} {p0 p1 : Pos} {m a0 : Str} {f g cc D x C dx : Addr} {fs : List (Str × V)} {E : Value → Shared → Prop}
end
end L3

namespace L3
open PySem PySem.Spec PyProof.Rows L2
/-! ### super(), over data -/
theorem PEA.imp {X : Cx} {b : List Stmt} {e : Expr} {t u : TE} (h : PEA X b e t) (i : ∀ σ H Q, u σ H Q → t σ H Q) : PEA X b e u := ⟨fun pins s σ H Q I q => h.run pins s σ H Q I (i σ H Q q)⟩
theorem PSA.imp {X : Cx} {b : List Stmt} {e : Stmt} {t u : TS} (h : PSA X b e t) (i : ∀ D σ H, u D σ H → t D σ H) : PSA X b e u := ⟨fun pins s σ H D I q => h.run pins s σ H D I (i D σ H q)⟩
theorem PSsA.imp {X : Cx} {b e : List Stmt} {t u : TS} (h : PSsA X b e t) (i : ∀ D σ H, u D σ H → t D σ H) : PSsA X b e u := ⟨fun pins s σ H D I q => h.run pins s σ H D I (i D σ H q)⟩
section
variable {X : Cx} {B : Bs} {b : List Stmt} {st : Stmt} {rest : List Stmt} {w u : WS} {e e2 : Expr} {we wb : WE} {pos : Pos}
end
inductive SupTab (X : Cx) (CX : CXT) (k : Nat) (Dc : Addr) (m : Str) : List (Str × DSp) → Prop
  | nil : SupTab X CX k Dc m []
  | cons {n : Str} {C g : Addr} {sp : DSp} {l : List (Str × DSp)} : ClsAt X.K n C → SupM X.K C Dc m g → FnR X.prog X.w X.K X.mg X.base CX k g (toSp X.K sp) → SupTab X CX k Dc m l → SupTab X CX k Dc m ((n, sp) :: l)
theorem SupTab.look {X : Cx} {CX : CXT} {k : Nat} {Dc : Addr} {m n : Str} {sp : DSp} : ∀ {l : List (Str × DSp)}, SupTab X CX k Dc m l → l.lookup n = some sp → ∃ C g, ClsAt X.K n C ∧ SupM X.K C Dc m g ∧ FnR X.prog X.w X.K X.mg X.base CX k g (toSp X.K sp)
  | _, .nil, e => by cases e
  | _, .cons (n := n') ca sm F t, e => by
    by_cases h : (n == n') = true
    · rw [List.lookup, h] at e
      cases e
      have := eq_of_beq h
      subst this
      exact ⟨_, _, ca, sm, F⟩
    · have h : (n == n') = false := by simpa using h
      rw [List.lookup, h] at e
      exact SupTab.look t e
section
variable {X : Cx} {B : Bs} {CX : CXT} {P0 : Program} {k : Nat} {f cc Dc : Addr} {a0 m : Str} {b : List Stmt} {l : List (Str × DSp)} {RX : RXe} {was : WA} {e : Expr} {es : List Expr} {p0 p1 apos pos : Pos}
end
/-! ### the defs -/
section
variable {P : Program} {w : World} {K : PySem.W.Frag} {mg : Str → Option Value} {base : Heap}
end
end L3

namespace L3
open PySem PySem.Spec PyProof.Rows L2
/-! ### o.m(..), o of one of several classes -/
inductive MethTab (X : Cx) (CX : CXT) (k : Nat) (m : Str) : List (Str × DSp) → Prop
  | nil : MethTab X CX k m []
  | cons {n : Str} {C g : Addr} {sp : DSp} {l : List (Str × DSp)} : ClsAt X.K n C → Cls X.K C → Meth X.K C m g → FnR X.prog X.w X.K X.mg X.base CX k g (toSp X.K sp) → MethTab X CX k m l → MethTab X CX k m ((n, sp) :: l)
theorem MethTab.look {X : Cx} {CX : CXT} {k : Nat} {m n : Str} {sp : DSp} : ∀ {l : List (Str × DSp)}, MethTab X CX k m l → l.lookup n = some sp → ∃ C g, ClsAt X.K n C ∧ Cls X.K C ∧ Meth X.K C m g ∧ FnR X.prog X.w X.K X.mg X.base CX k g (toSp X.K sp)
  | _, .nil, e => by cases e
  | _, .cons (n := n') ca cl me F t, e => by
    by_cases h : (n == n') = true
    · rw [List.lookup, h] at e
      cases e
      have := eq_of_beq h
      subst this
      exact ⟨_, _, ca, cl, me, F⟩
    · have h : (n == n') = false := by simpa using h
      rw [List.lookup, h] at e
      exact MethTab.look t e
section
variable {X : Cx} {B : Bs} {CX : CXT} {k : Nat} {l : List (Str × DSp)} {m : Str} {RX : RXe} {wo : WE} {was : WA} {o e : Expr} {es : List Expr} {apos pos : Pos} {pl : Sem Bool}
end
/-! ### o(..), o of one of several classes -/
/-! ### fields of instances of several classes -/
inductive FldTab (K : PySem.W.Frag) (f : Str) : List Str → Prop
  | nil : FldTab K f []
  | cons {n : Str} {C : Addr} {l : List Str} : ClsAt K n C → Cls K C → NoAttr K C f → FldTab K f l → FldTab K f (n :: l)
theorem FldTab.look {K : PySem.W.Frag} {f n : Str} : ∀ {l : List Str}, FldTab K f l → l.contains n = true → ∃ C, ClsAt K n C ∧ Cls K C ∧ NoAttr K C f
  | _, .nil, e => by cases e
  | _, .cons (n := n') ca cl na t, e => by
    rw [List.contains_cons, Bool.or_eq_true] at e
    rcases e with e | e
    · have := eq_of_beq e
      subst this
      exact ⟨_, ca, cl, na⟩
    · exact FldTab.look t e
section
variable {X : Cx} {B : Bs} {e o value : Expr} {w wo wv : WE} {pos pos' : Pos} {f : Str} {ns : List Str}
end
/-! ### a dict that changes is walked and read within one expression -/
/-! ### l.reverse() -/
end L3

namespace L3
open PySem PySem.Spec PyProof.Rows PyProof.V L2
/-! ### repr of nested data, through the table -/
mutual
inductive Gr (K : PySem.W.Frag) (H : Hp) : V → PyData → Prop
  | non : Gr K H .non .none
  | bl (b : Bool) : Gr K H (.bl b) (.bool b)
  | int (i : Int) : Gr K H (.int i) (.int i)
  | str (s : Str) : Gr K H (.str s) (.str s)
  | lst {a : Addr} {xs : List V} {ps : List PyData} : SqL K H a xs → GrA K H xs ps → Gr K H (.ref a) (.list ps)
  | tup {a : Addr} {xs : List V} {ps : List PyData} : SqT K H a xs → GrA K H xs ps → Gr K H (.ref a) (.tuple ps)
  | dct {a : Addr} {kvs : List (Key × V)} {ps : List (PyData × PyData)} : Rd H a (.dK kvs) → GrK K H kvs ps → Gr K H (.ref a) (.dict ps)
inductive GrA (K : PySem.W.Frag) (H : Hp) : List V → List PyData → Prop
  | nil : GrA K H [] []
  | cons {v : V} {p : PyData} {vs : List V} {ps : List PyData} : Gr K H v p → GrA K H vs ps → GrA K H (v :: vs) (p :: ps)
inductive GrK (K : PySem.W.Frag) (H : Hp) : List (Key × V) → List (PyData × PyData) → Prop
  | nil : GrK K H [] []
  | cons {k : Key} {v : V} {p : PyData} {vs : List (Key × V)} {ps : List (PyData × PyData)} : Gr K H v p → GrK K H vs ps → GrK K H ((k, v) :: vs) ((keyP k, p) :: ps)
end
/-- the table of modules is a dict -/
def SmK (K : PySem.W.Frag) : Prop := ∃ o, K.lookup sysModules = some o ∧ o.cls = .type "dict"
section
variable {X : Cx} {pins : List (Addr × Obj)} {σ : L2.St} {H : Hp} {s : Shared}
mutual
theorem Gr.reads (I : Inv X pins σ H s) (sm : SmK X.K) : ∀ {v : V} {p : PyData} {u : Value}, Gr X.K H v p → RelV v u → ∃ as, Reads s.heap u p as ∧ sysModules ∉ as
  | _, _, _, .non, r => by cases r; exact ⟨_, .none, by simp⟩
  | _, _, _, .bl b, r => by cases r; exact ⟨_, .bool b, by simp⟩
  | _, _, _, .int i, r => by obtain ⟨t, rfl⟩ := r; exact ⟨_, .int i t, by simp⟩
  | _, _, _, .str x, r => by obtain ⟨t, rfl⟩ := r; exact ⟨_, .str x t, by simp⟩
  | _, _, _, .lst hs ha, r => by
    cases r
    obtain ⟨its, rv, ⟨o, n, ho, hc, _, hd⟩, _⟩ := I.list hs
    obtain ⟨as, hr, hn⟩ := GrA.reads I sm (us := its) ha rv
    refine ⟨_, Reads.list ho hc hd hr, fun z => ?_⟩
    rcases List.mem_cons.mp z with e | e
    · obtain ⟨o2, h2, h3⟩ := sm
      have h4 := I.kIn _ _ h2
      rw [e, ho] at h4
      cases h4
      rw [hc] at h3
      exact absurd h3 (by decide)
    · exact hn e
  | _, _, _, .tup hs ha, r => by
    cases r
    obtain ⟨its, rv, ⟨o, ho, hc, n, hd⟩, _⟩ := I.tuple hs
    obtain ⟨as, hr, hn⟩ := GrA.reads I sm (us := its) ha rv
    exact ⟨_, Reads.tuple ho hc hd hr, hn⟩
  | _, _, _, .dct hd hk, r => by
    cases r
    obtain ⟨_, lo, vs, rel, dd⟩ := dk_rd I.hok hd
    obtain ⟨bs, hr, hn⟩ := GrK.reads I sm hk rel
    refine ⟨_, reads_dictOf (enc := keyP) key_reads dd hr, fun z => ?_⟩
    rcases List.mem_cons.mp z with e | e
    · rw [← e] at lo
      simp at lo
    · exact hn e
theorem GrA.reads (I : Inv X pins σ H s) (sm : SmK X.K) : ∀ {vs : List V} {ps : List PyData} {us : List Value}, GrA X.K H vs ps → Vals vs us → ∃ as, ReadsAll s.heap us ps as ∧ sysModules ∉ as
  | _, _, _, .nil, r => by cases r; exact ⟨_, .nil, by simp⟩
  | _, _, _, .cons h t, r => by
    cases r with
    | cons r1 r2 =>
      obtain ⟨as, q1, n1⟩ := Gr.reads I sm h r1
      obtain ⟨bs, q2, n2⟩ := GrA.reads I sm t r2
      exact ⟨_, .cons q1 q2, fun z => (List.mem_append.mp z).elim n1 n2⟩
theorem GrK.reads (I : Inv X pins σ H s) (sm : SmK X.K) : ∀ {kvs : List (Key × V)} {ps : List (PyData × PyData)} {vs : List (Key × Value)}, GrK X.K H kvs ps → KV kvs vs → ∃ bs, PairsRead s.heap keyP vs ps bs ∧ sysModules ∉ bs
  | _, _, _, .nil, r => by cases r; exact ⟨_, .nil, by simp⟩
  | _, _, _, .cons (k := k) h t, r => by
    cases r with
    | cons r1 r2 =>
      rename_i y ys
      obtain ⟨k', u⟩ := y
      obtain ⟨e, r1⟩ := r1
      have e' : k = k' := e
      subst e'
      obtain ⟨as, q1, n1⟩ := Gr.reads I sm h r1
      obtain ⟨bs, q2, n2⟩ := GrK.reads I sm t r2
      exact ⟨_, .cons q1 q2, fun z => (List.mem_append.mp z).elim n1 n2⟩
end
end
def rReprC (K : PySem.W.Frag) : List V → Hp → VK → Prop := fun xs H Q => ∃ v p, xs = [v] ∧ Gr K H v p ∧ RpOk p ∧ Q (.str p.shown) H
theorem repr_C {X : Cx} (sm : SmK X.K) (quiet : X.A.guards = some []) (room : X.A.units + 64 < cLine) : CallR X (.builtin "repr") (rReprC X.K) := by
  intro pins s σ H xs us Q I r h
  obtain ⟨v, p, rfl, hd, ⟨hs, hdep, hsz⟩, q⟩ := h
  obtain ⟨u, rfl, rv⟩ := vals1 r
  obtain ⟨as, hr, hsm⟩ := hd.reads I sm rv
  have fin : ∀ (h' : Heap) (tok : Tok) (tk : Tok), (∀ b o, s.heap.get? b = some o → h'.get? b = some o) → EP X pins σ Q (.str p.shown tok) { s with heap := h', toks := tk } := fun h' tok tk k =>
    ⟨.str p.shown, H, I.kept k, ⟨_, rfl⟩, q⟩
  have same : ∀ (tok tk : Tok), EP X pins σ Q (.str p.shown tok) { s with toks := tk } := fun tok tk => ⟨.str p.shown, H, I.tok tk, ⟨_, rfl⟩, q⟩
  cases hr with
  | none => exact PySem.P.repr_of_none (same _ _)
  | bool b => exact PySem.P.repr_of_bool (by have := same s.toks (s.toks + 1); simpa [PyData.shown] using this)
  | int i t => exact PySem.P.repr_of_int (by simpa [PyData.showable] using hs) (by have := same s.toks (s.toks + 1); simpa [PyData.shown] using this)
  | str x t => exact PySem.P.repr_of_str (by have := same s.toks (s.toks + 1); simpa [PyData.shown] using this) (by simpa [PyData.shown] using hsz)
  | list h1 h2 h3 h4 => exact repr_of_reads' (.list h1 h2 h3 h4) hs (fun _ => hsm) quiet (by omega) (fun _ _ e => e) (fun h' u tk k => fin h' u tk k) hsz
  | tuple h1 h2 h3 h4 => exact repr_of_reads' (.tuple h1 h2 h3 h4) hs (fun _ => hsm) quiet (by omega) (fun _ _ e => e) (fun h' u tk k => fin h' u tk k) hsz
  | dict h1 h2 h3 h4 h5 => exact repr_of_reads' (.dict h1 h2 h3 h4 h5) hs (fun _ => hsm) quiet (by omega) (fun _ _ e => e) (fun h' u tk k => fin h' u tk k) hsz
def mapO {α β : Type} (f : α → Option β) : List α → Option (List β)
  | [] => some []
  | a :: r => match f a, mapO f r with
    | some b, some bs => some (b :: bs)
    | _, _ => none
/-- the datum that repr tells, objects that change looked up in the table -/
def rpC (M : Mt) : Nat → D → Option PyData
  | 0, _ => none
  | n + 1, d => match viewD M d with
    | .non => some .none
    | .bl b => some (.bool b)
    | .int i => some (.int i)
    | .str s => some (.str s)
    | .tup l => (mapO (rpC M n) l).map .tuple
    | .lst l => (mapO (rpC M n) l).map .list
    | .rol l => (mapO (rpC M n) l).map .list
    | .dct ks => (mapO (fun (p : Key × D) => (rpC M n p.2).map fun q => (keyP p.1, q)) ks).map .dict
    | .fdc ks => (mapO (fun (p : Key × D) => (rpC M n p.2).map fun q => (keyP p.1, q)) ks).map .dict
    | _ => none
section
variable {K : PySem.W.Frag} {B : Bs} {P : Hp} {al : List Addr} {M : Mt} {H : Hp}
theorem mapO_gr {f : D → Option PyData} (h : ∀ {d : D} {v : V} {p : PyData}, Rep K P al d v → f d = some p → Gr K H v p) : ∀ {ds : List D} {vs : List V} {ps : List PyData}, Reps K P al ds vs → mapO f ds = some ps → GrA K H vs ps
  | _, _, _, .nil, e => by cases e; exact .nil
  | _, _, _, .cons r t, e => by
    unfold mapO at e
    split at e
    · rename_i b bs h1 h2
      cases e
      exact .cons (h r h1) (mapO_gr h t h2)
    · cases e
theorem mapO_grK {f : D → Option PyData} (h : ∀ {d : D} {v : V} {p : PyData}, Rep K P al d v → f d = some p → Gr K H v p) : ∀ {ds : List (Key × D)} {vs : List (Key × V)} {ps : List (PyData × PyData)}, RepKs K P al ds vs → mapO (fun (p : Key × D) => (f p.2).map fun q => (keyP p.1, q)) ds = some ps → GrK K H vs ps
  | _, _, _, .nil, e => by cases e; exact .nil
  | _, _, _, .cons (d := d) r t, e => by
    unfold mapO at e
    split at e
    · rename_i b bs h1 h2
      cases e
      cases hf : f d with
      | none => simp [hf] at h1
      | some q =>
        simp [hf] at h1
        subst h1
        exact .cons (h r hf) (mapO_grK h t h2)
    · cases e
theorem map_some {α β : Type} {f : α → β} {o : Option α} {b : β} (h : o.map f = some b) : ∃ a, o = some a ∧ f a = b := by
  cases o with
  | none => cases h
  | some a => exact ⟨a, rfl, Option.some.inj h⟩
theorem rpC_gr (rs : RS0 K B P al M H) : ∀ (n : Nat) {d : D} {v : V} {p : PyData}, Rep K P al d v → rpC M n d = some p → Gr K H v p
  | 0, _, _, _, _, e => by cases e
  | n + 1, d, v, p, r, e => by
    have ih : ∀ {d : D} {v : V} {p : PyData}, Rep K P al d v → rpC M n d = some p → Gr K H v p := fun r e => rpC_gr rs n r e
    unfold rpC at e
    split at e
    · rename_i h; cases view_non r h; cases e; exact .non
    · rename_i h; cases view_bl r h; cases e; exact .bl _
    · rename_i h; cases view_int r h; cases e; exact .int _
    · rename_i h; cases view_str r h; cases e; exact .str _
    · rename_i h
      obtain ⟨a, xs, rfl, h1, h2⟩ := view_tup rs r h
      obtain ⟨ps, e1, rfl⟩ := map_some e
      exact .tup h1 (mapO_gr ih h2 e1)
    · rename_i h
      obtain ⟨a, xs, rfl, h1, h2⟩ := view_lst rs r h
      obtain ⟨ps, e1, rfl⟩ := map_some e
      exact .lst (.inl (.inl h1)) (mapO_gr ih h2 e1)
    · rename_i h
      obtain ⟨a, xs, rfl, h1, h2⟩ := view_rol rs r h
      obtain ⟨ps, e1, rfl⟩ := map_some e
      exact .lst h1 (mapO_gr ih h2 e1)
    · rename_i h
      obtain ⟨a, xs, rfl, h1, h2⟩ := view_dct rs r h
      obtain ⟨ps, e1, rfl⟩ := map_some e
      exact .dct (.inl h1) (mapO_grK ih h2 e1)
    · rename_i h
      obtain ⟨a, xs, rfl, h1, h2⟩ := view_fdc rs r h
      obtain ⟨ps, e1, rfl⟩ := map_some e
      exact .dct h1 (mapO_grK ih h2 e1)
    · cases e
end
@[irreducible] def cReprC : WCl := fun ds M R => match ds with
  | [x] => match rpC M 12 x with
    | some p => Need (RpOk p) ∧ R (.str p.shown) M
    | none => False
  | _ => False
theorem cReprC_ok {K : PySem.W.Frag} {B : Bs} : CallD K B (rReprC K) cReprC := by
  intro P al M env σ H vs ds R Q rs r h L
  unfold cReprC at h
  split at h
  · cases r with
    | cons r1 t =>
      cases t
      split at h
      · rename_i p e
        exact ⟨_, p, rfl, rpC_gr rs.toRS0 12 r1 e, h.1.out, L.here rs (.str _) h.2⟩
      · exact h.elim
  · exact h.elim
theorem reprC_use {M : Mt} {x : D} {R : D → Mt → Prop} {p : PyData} (h : rpC M 12 x = some p) (ok : RpOk p) (k : R (.str p.shown) M) : cReprC [x] M R := by
  simp only [cReprC, h]; exact ⟨⟨ok⟩, k⟩
/-! ### dict(d), a copy -/
/-! ### dicts of ints compared -/
section
variable {X : Cx}
end
end L3

namespace L3
open PySem PySem.Spec PyProof.Rows PyProof.V L2
/-! ### o(..), o of one of several classes -/
inductive CallTab (X : Cx) (CX : CXT) (k : Nat) : List (Str × DSp) → Prop
  | nil : CallTab X CX k []
  | cons {n : Str} {C g : Addr} {sp : DSp} {l : List (Str × DSp)} : ClsAt X.K n C → OpC X.K C "__call__" g → PySem.W.fnIn X.K g = true → FnR X.prog X.w X.K X.mg X.base CX k g (toSp X.K sp) → CallTab X CX k l → CallTab X CX k ((n, sp) :: l)
theorem CallTab.look {X : Cx} {CX : CXT} {k : Nat} {n : Str} {sp : DSp} : ∀ {l : List (Str × DSp)}, CallTab X CX k l → l.lookup n = some sp → ∃ C g, ClsAt X.K n C ∧ OpC X.K C "__call__" g ∧ PySem.W.fnIn X.K g = true ∧ FnR X.prog X.w X.K X.mg X.base CX k g (toSp X.K sp)
  | _, .nil, e => by cases e
  | _, .cons (n := n') ca oc hf F t, e => by
    by_cases h : (n == n') = true
    · rw [List.lookup, h] at e
      cases e
      have := eq_of_beq h
      subst this
      exact ⟨_, _, ca, oc, hf, F⟩
    · have h : (n == n') = false := by simpa using h
      rw [List.lookup, h] at e
      exact CallTab.look t e
section
variable {X : Cx} {B : Bs} {CX : CXT} {k : Nat} {l : List (Str × DSp)} {RX : RXe} {wo : WE} {was : WA} {o e : Expr} {es : List Expr} {pos : Pos}
end
/-! ### the head's facts of methods that close over their class -/
def smB (K : PySem.W.Frag) : Bool := match K.lookup sysModules with
  | some ⟨.type t, _, _, _⟩ => decide (t = "dict")
  | _ => false
theorem smB_ok {K : PySem.W.Frag} (h : smB K = true) : SmK K := by
  unfold smB at h
  split at h
  · rename_i t od dt sl e
    have := of_decide_eq_true h
    subst this
    exact ⟨_, e, rfl⟩
  · cases h
end L3

namespace L3
open PySem PySem.Spec PyProof.Rows PyProof.V L2
/-! ### small data: their repr fits -/
mutual
def smallP : PyData → Bool
  | .none => true
  | .bool _ => true
  | .int i => decide (i.natAbs.log2 < 1920)
  | .str s => decide (s.length ≤ 1000) && PyData.strOk s
  | .list xs => smallA xs
  | .tuple xs => smallA xs
  | .dict kvs => smallK kvs
def smallA : List PyData → Bool
  | [] => true
  | x :: r => smallP x && smallA r
def smallK : List (PyData × PyData) → Bool
  | [] => true
  | (k, v) :: r => smallP k && (smallP v && smallK r)
end
mutual
def wtP : PyData → Nat
  | .list xs => 1 + wtA xs
  | .tuple xs => 1 + wtA xs
  | .dict kvs => 1 + wtK kvs
  | _ => 1
def wtA : List PyData → Nat
  | [] => 0
  | x :: r => wtP x + wtA r
def wtK : List (PyData × PyData) → Nat
  | [] => 0
  | (k, v) :: r => wtP k + (wtP v + wtK r)
end
theorem len_app (a b : Str) : (a ++ b).length = a.length + b.length := by
  show (a.cps ++ b.cps).size = _
  rw [Array.size_append] <;> rfl
theorem textFrom_le : ∀ (ts : List Str) (k : Nat) (acc : Str), (textFrom k acc ts).length ≤ acc.length + piled ts
  | [], _, acc => by show acc.length ≤ _; omega
  | t :: r, k, acc => by
    have ih := textFrom_le r (k + 1) (acc ++ (if k > 0 then ", " else "" : String) ++ t)
    have e : (acc ++ (if k > 0 then ", " else "" : String) ++ t : Str).length ≤ acc.length + 2 + t.length := by
      rw [len_app, len_app]
      split
      · have : (Str.ofString ", ").length = 2 := by decide +kernel
        omega
      · have : (Str.ofString "").length = 0 := by decide +kernel
        omega
    rw [piled_cons]
    show (textFrom (k + 1) (acc ++ (if k > 0 then ", " else "" : String) ++ t) r).length ≤ _
    omega
theorem join_le (ts : List Str) : (Str.join ", " ts).length ≤ piled ts := by
  by_cases h : ts = []
  · subst h
    have : (Str.join (", " : Str) []).length = 0 := by decide +kernel
    omega
  · have := join_length_add ts h
    omega
theorem l1 : (Str.ofString "[").length = 1 := by decide +kernel
theorem l2 : (Str.ofString "]").length = 1 := by decide +kernel
theorem l3 : (Str.ofString "(").length = 1 := by decide +kernel
theorem l4 : (Str.ofString ")").length = 1 := by decide +kernel
theorem l5 : (Str.ofString ",)").length = 2 := by decide +kernel
theorem l6 : (Str.ofString "{").length = 1 := by decide +kernel
theorem l7 : (Str.ofString "}").length = 1 := by decide +kernel
theorem l8 : (Str.ofString ": ").length = 2 := by decide +kernel
theorem str_cps {s : Str} (h : PyData.strOk s = true) : ∀ c ∈ s.cps.toList, c < 16 ^ 8 := fun c hc => by
  have h1 : (s.cps.all fun x => decide (x < 0x110000)) = true := h
  rw [← Array.all_toList] at h1
  have := of_decide_eq_true (List.all_eq_true.mp h1 c hc)
  omega
mutual
theorem shown_le : ∀ (p : PyData), smallP p = true → p.shown.length + 2 ≤ 10010 * wtP p
  | .none, _ => by
    have : (PyData.shown .none).length = 4 := by decide +kernel
    rw [this]; simp [wtP]
  | .bool b, _ => by
    have : (PyData.shown (.bool b)).length ≤ 5 := by cases b <;> decide +kernel
    simp [wtP]; omega
  | .int i, h => by
    have h1 : i.natAbs.log2 < 1920 := of_decide_eq_true h
    have := int_text_len_1921 h1
    have e : PyData.shown (.int i) = Str.ofString (toString i) := by rw [PyData.shown]
    rw [e]; simp only [wtP]; omega
  | .str s, h => by
    have h : (decide (s.length ≤ 1000) && PyData.strOk s) = true := h
    rw [Bool.and_eq_true] at h
    have h1 := of_decide_eq_true h.1
    have := StrLaws.reprText_len s (str_cps h.2)
    have e : PyData.shown (.str s) = reprText s := by rw [PyData.shown]
    rw [e]; simp only [wtP]; omega
  | .list xs, h => by
    have := shownA_le xs h
    have e : PyData.shown (.list xs) = listText (PyData.shownAll xs) := by rw [PyData.shown]
    have e2 : (listText (PyData.shownAll xs)).length = (textFrom 0 "[" (PyData.shownAll xs)).length + 1 := by
      unfold listText; rw [len_app, l2]
    have := textFrom_le (PyData.shownAll xs) 0 "["
    rw [l1] at this
    rw [e, e2]; simp only [wtP]; omega
  | .tuple xs, h => by
    have := shownA_le xs h
    have e : PyData.shown (.tuple xs) = tupleText (PyData.shownAll xs) := by rw [PyData.shown]
    have e2 : (tupleText (PyData.shownAll xs)).length ≤ 3 + (Str.join ", " (PyData.shownAll xs)).length := by
      unfold tupleText; rw [len_app, len_app, l3]
      split
      · rw [l5]; omega
      · rw [l4]; omega
    have := join_le (PyData.shownAll xs)
    rw [e]; simp only [wtP]; omega
  | .dict kvs, h => by
    have := shownK_le kvs h
    have e : PyData.shown (.dict kvs) = dictText (PyData.shownKv kvs) := by rw [PyData.shown]
    have e2 : (dictText (PyData.shownKv kvs)).length = 2 + (Str.join ", " (PyData.shownKv kvs)).length := by
      unfold dictText; rw [len_app, len_app, l6, l7]; omega
    have := join_le (PyData.shownKv kvs)
    rw [e, e2]; simp only [wtP]; omega
theorem shownA_le : ∀ (xs : List PyData), smallA xs = true → piled (PyData.shownAll xs) ≤ 10010 * wtA xs
  | [], _ => by simp [PyData.shownAll, piled_nil]
  | x :: r, h => by
    have h : (smallP x && smallA r) = true := h
    rw [Bool.and_eq_true] at h
    have h1 := shown_le x h.1
    have h2 := shownA_le r h.2
    rw [PyData.shownAll, piled_cons]
    simp only [wtA]; omega
theorem shownK_le : ∀ (xs : List (PyData × PyData)), smallK xs = true → piled (PyData.shownKv xs) ≤ 10010 * wtK xs
  | [], _ => by simp [PyData.shownKv, piled_nil]
  | (k, v) :: r, h => by
    have h : (smallP k && (smallP v && smallK r)) = true := h
    rw [Bool.and_eq_true, Bool.and_eq_true] at h
    have h1 := shown_le k h.1
    have h2 := shown_le v h.2.1
    have h3 := shownK_le r h.2.2
    rw [PyData.shownKv, piled_cons, len_app, len_app, l8]
    simp only [wtK]; omega
end
mutual
theorem showable_of : ∀ (p : PyData), smallP p = true → p.showable = true
  | .none, _ => by simp [PyData.showable]
  | .bool _, _ => by simp [PyData.showable]
  | .int i, h => by
    have h1 : i.natAbs.log2 < 1920 := of_decide_eq_true h
    simp [PyData.showable, h1]
  | .str _, _ => by simp [PyData.showable]
  | .list xs, h => by simp only [PyData.showable]; exact showableA_of xs h
  | .tuple xs, h => by simp only [PyData.showable]; exact showableA_of xs h
  | .dict kvs, h => by simp only [PyData.showable]; exact showableK_of kvs h
theorem showableA_of : ∀ (xs : List PyData), smallA xs = true → PyData.showableAll xs = true
  | [], _ => by simp [PyData.showableAll]
  | x :: r, h => by
    have h : (smallP x && smallA r) = true := h
    rw [Bool.and_eq_true] at h
    simp [PyData.showableAll, showable_of x h.1, showableA_of r h.2]
theorem showableK_of : ∀ (xs : List (PyData × PyData)), smallK xs = true → PyData.showableKv xs = true
  | [], _ => by simp [PyData.showableKv]
  | (k, v) :: r, h => by
    have h : (smallP k && (smallP v && smallK r)) = true := h
    rw [Bool.and_eq_true, Bool.and_eq_true] at h
    simp [PyData.showableKv, showable_of k h.1, showable_of v h.2.1, showableK_of r h.2.2]
end
theorem rpOk_of {p : PyData} (h : smallP p = true) (d : p.depth ≤ 60) (w : wtP p ≤ 1500) : RpOk p := ⟨showable_of p h, d, by
  have := shown_le p h
  have : 10010 * wtP p ≤ 10010 * 1500 := Nat.mul_le_mul_left _ w
  rw [line16]; omega⟩
theorem smallA_map {α : Type} {f : α → PyData} : ∀ {l : List α}, (∀ x ∈ l, smallP (f x) = true) → smallA (l.map f) = true
  | [], _ => rfl
  | x :: r, h => by
    show (smallP (f x) && smallA (r.map f)) = true
    rw [h x List.mem_cons_self, smallA_map fun y hy => h y (List.mem_cons_of_mem _ hy)] <;> rfl
theorem wtA_map {α : Type} {f : α → PyData} {n : Nat} : ∀ {l : List α}, (∀ x ∈ l, wtP (f x) ≤ n) → wtA (l.map f) ≤ n * l.length
  | [], _ => Nat.zero_le _
  | x :: r, h => by
    have h1 := h x List.mem_cons_self
    have h2 := wtA_map (l := r) fun y hy => h y (List.mem_cons_of_mem _ hy)
    show wtP (f x) + wtA (r.map f) ≤ n * (r.length + 1)
    rw [Nat.mul_add]; omega
/-! ### or of numbers -/
end L3

namespace L3
open PySem PySem.Spec PyProof.Rows L2 Builtin
/-! ### == of objects of one tree of classes: the right one is asked first if its class derives from the left one's -/
section
variable {prog : Program} {w : World} {A : Around} {E : Value → Shared → Prop} {s : Shared} {K : PySem.W.Frag} {x y C D f : Addr} {h₀ : Heap} {Lc : Addr} {m : Str → Option Value} {ox oy : Obj} {od od' : Option Obj} {b tb : Value}
end
end L3

namespace L3
open PySem PySem.Spec PyProof.Rows L2 Builtin
/-! ### data == an object: the data's own == says nothing to it -/
section
variable {prog : Program} {w : World} {A : Around} {E : Value → Shared → Prop} {s : Shared} {K : PySem.W.Frag} {y D : Addr} {u : Value} {oy : Obj} {od : Option Obj}
end
end L3

namespace L3
open PySem PySem.Spec PyProof.Rows L2 Builtin
/-! ### == and != of objects of one tree of classes and data, over data -/
def leftBs : List String := ["NoneType", "int", "str", "tuple", "list", "dict"]
structure EqTr (X : Cx) (cs : List Addr) (f : Addr) : Prop where
  oc : ∀ C ∈ cs, OpC X.K C "__eq__" f
  ne : ∀ C ∈ cs, NeC X.K C
  sub : ∀ C ∈ cs, ∀ D ∈ cs, (PySem.W.subIn X.K (.ref D) (.ref C)).isSome = true
  bi : ∀ D ∈ cs, ∀ T ∈ leftBs, PySem.W.subIn X.K (.ref D) (.type T) = some false
section
variable {X : Cx} {B : Bs} {CX : CXT} {k : Nat} {f : Addr} {cs : List Addr} {sp : DSp}
end
end L3

namespace L3
open PySem PySem.Spec PyProof.Rows L2 Builtin
def treB (K : PySem.W.Frag) (cs : List Addr) : Bool := cs.all fun C => (cs.all fun D => (PySem.W.subIn K (.ref D) (.ref C)).isSome) && leftBs.all fun T => decide (PySem.W.subIn K (.ref C) (.type T) = some false)
inductive EqTab (K : PySem.W.Frag) (f : Addr) : List Str → List Addr → Prop
  | nil : EqTab K f [] []
  | cons {n : Str} {C : Addr} {l : List Str} {cs : List Addr} : ClsAt K n C → OpC K C "__eq__" f → NeC K C → EqTab K f l cs → EqTab K f (n :: l) (C :: cs)
theorem EqTab.oc {K : PySem.W.Frag} {f : Addr} : ∀ {l : List Str} {cs : List Addr}, EqTab K f l cs → ∀ C ∈ cs, OpC K C "__eq__" f
  | _, _, .nil, _, h => by cases h
  | _, _, .cons _ o _ t, C, h => by
    rcases List.mem_cons.mp h with rfl | h
    · exact o
    · exact t.oc C h
theorem EqTab.ne {K : PySem.W.Frag} {f : Addr} : ∀ {l : List Str} {cs : List Addr}, EqTab K f l cs → ∀ C ∈ cs, NeC K C
  | _, _, .nil, _, h => by cases h
  | _, _, .cons _ _ o t, C, h => by
    rcases List.mem_cons.mp h with rfl | h
    · exact o
    · exact t.ne C h
theorem EqTab.look {K : PySem.W.Frag} {f : Addr} {n : Str} : ∀ {l : List Str} {cs : List Addr}, EqTab K f l cs → l.contains n = true → ∃ C ∈ cs, ClsAt K n C
  | _, _, .nil, e => by cases e
  | _, _, .cons (n := n') ca _ _ t, e => by
    rw [List.contains_cons, Bool.or_eq_true] at e
    rcases e with e | e
    · have := eq_of_beq e
      subst this
      exact ⟨_, List.mem_cons_self, ca⟩
    · obtain ⟨C, h1, h2⟩ := t.look e
      exact ⟨C, List.mem_cons_of_mem _ h1, h2⟩
theorem EqTab.tr {X : Cx} {f : Addr} {l : List Str} {cs : List Addr} (t : EqTab X.K f l cs) (h : treB X.K cs = true) : EqTr X cs f := by
  have h1 := List.all_eq_true.mp h
  refine ⟨t.oc, t.ne, fun C hC D hD => ?_, fun D hD T hT => ?_⟩
  · have := h1 C hC
    rw [Bool.and_eq_true] at this
    exact List.all_eq_true.mp this.1 D hD
  · have := h1 D hD
    rw [Bool.and_eq_true] at this
    exact of_decide_eq_true (List.all_eq_true.mp this.2 T hT)
section
variable {K : PySem.W.Frag} {B : Bs} {f : Addr} {ns : List Str} {cs : List Addr} {sp : DSp} {g : Bool → Bool}
end
section
variable {ns : List Str} {sp : DSp} {g : Bool → Bool} {lf : Bool} {M : Mt} {x y : D} {R : D → Mt → Prop} {n1 n2 : Str} {fs gs : List (Str × D)}
end
/-! ### isinstance, data with fixed dicts too -/
end L3

namespace L3
open PySem PySem.Spec PyProof.Rows L2 Builtin
/-! ### sorted(xs), xs a list of pairs (text, int) of different texts -/
section
variable {prog : Program} {w : World} {A : Around} {E : Value → Shared → Prop} {s : Shared}
def IsTx (h : Heap) (v : Value) (x : Str) : Prop := ∃ a o t y u n, v = .ref a ∧ h.get? a = some o ∧ o.cls = .type "tuple" ∧ o.data = .seq #[.str x t, .int y u] n
theorem IsTx.keeps {h h' : Heap} {v : Value} {x : Str} (p : IsTx h v x) (k : ∀ b o, h.get? b = some o → o.cls = .type "tuple" → h'.get? b = some o) : IsTx h' v x := by
  obtain ⟨a, o, t, y, u, n, e, ho, hc, hd⟩ := p
  exact ⟨a, o, t, y, u, n, e, k _ _ ho hc, hc, hd⟩
end
/-! over data -/
end L3

namespace L3
open PySem PySem.Spec PyProof.Rows L2 Builtin
/-! ### xs.index(y), flat things -/
end L3

namespace L3
open PySem PySem.Spec PyProof.Rows L2 Builtin
/-! ### dict(d): a copy that never changes -/
end L3

namespace L3
open PySem PySem.Spec PyProof.Rows L2 Builtin
/-! ### iter(t), t a tuple -/
section
variable {prog : Program} {w : World} {A : Around} {E : Value → Shared → Prop} {s : Shared} {l : Addr} {items : Array Value}
end
/-! ### for x in o, o's class with __iter__ that gives a tuple's iterator -/
end L3

namespace L3
open PySem PySem.Spec PyProof.Rows L2 Builtin
/-! ### for x in o, o's __iter__: return iter(self.fld), fld a tuple -/
end L3

namespace L3
open PySem PySem.Spec PyProof.Rows L2 Builtin
end L3

namespace L3
open PySem PySem.Spec PyProof.Rows L2
/-! ### a lambda without parameters is made, and called by the def that got it -/
/-- behind the making: the code object at c was told by the table at T, or it is new and the table tells it -/
inductive Grown (H : Hp) (T : Addr) (ps : Array Value) (q : Str) (c : Addr) : Hp → Prop
  | found (pos : Pos) : codeAmong pos ps.toList = some (.ref c) → Grown H T ps q c H
  | made (more : Array Value) : H c = none → c ≠ T → TriplesOk (ps ++ more).toList → (∀ pos cv, codeAmong pos (ps ++ more).toList = some cv → codeAmong pos ps.toList = some cv ∨ cv = .ref c) →
      Grown H T ps q c (upd (upd H T (.tbl (ps ++ more))) c (LamX.CodeO c q))
section
variable {X : Cx} {pins : List (Addr × Obj)} {σ : L2.St} {H HZ : Hp} {s s1 : Shared}
theorem lam_made {c T : Addr} {ps : Array Value} {params : Arguments} {body : Expr} {scope : Scope} {pos : Pos} {E Q : Value → Shared → Prop} (I : Inv X pins σ H s) (TB : LamX.TabB X.base X.mg c T) (code : X.env.code = .ref c)
    (hT : H T = some (.tbl ps)) (tri : TriplesOk ps.toList) (told : ∀ pos cv, codeAmong pos ps.toList = some cv → ∃ c1, cv = .ref c1)
    (nodef : defaultsOf params X.env = ([], [])) (caught : ∀ y ∈ scope.names, y.2 = .free → ∃ c, X.env.cells.lookup y.1 = some c)
    (next : ∀ (f c1 : Addr) (pm ctv : Value) (H1 : Hp) (s1 : Shared), Inv X pins σ H1 s1 → Grown H T ps (X.env.qual ++ "<lambda>") c1 H1 →
      s1.heap.get? f = some (PySem.W.kla_obj "<lambda>" (X.env.qual ++ "<lambda>") params body scope (cloFrom X.env.cells scope.names []) pm c1 ctv) → H1 f = none → f ∉ frs X.stack → Q (.ref f) s1) :
    wpAny (model X.prog X.w) X.A (eval (.Lambda params body scope pos) X.env) Q E s := by
  have builtins_ok : s.heap.BuiltinsAt X.mg T := TB.bm.keeps I.bk
  have table_ok : s.heap.get? T = some { cls := .none, data := .fields ps } := I.hok T _ hT
  have not_frame : ∀ f, s.heap.objs.size ≤ f → f ∉ frs X.stack := by
    intro f big is_in
    rcases List.mem_cons.mp (I.stkSub _ is_in) with z | z
    · have small := I.lt
      rw [← z] at small
      exact absurd (Nat.lt_of_lt_of_le small big) (Nat.lt_irrefl _)
    · exact I.nofs big z
  apply PySem.W.kla_eval nodef
  rcases known : codeAmong pos ps.toList with _ | cv
  · apply PySem.W.kla_makeFunction (mg := X.mg) (c := c) (P := T) (ps := ps) (closure_ok caught) I.ok.glob (I.mod.glob.keeps I.bk) code (TB.code.keeps I.bk) table_ok tri known TB.gP builtins_ok
    intro c1 ctv h1 tk but big below rec tab
    obtain ⟨c2, oc, vs, t, e2, at_c, dat, nm⟩ := rec
    cases e2
    have grow : s.heap.objs.size ≤ h1.objs.size := by omega
    have free : H c1 = none := I.hok.fresh big
    have J := LamX.inv_table (q := X.env.qual ++ "<lambda>") (t' := tk) (more := #[rawInt pos.line, rawInt pos.col, .ref c1]) (h' := h1.push (PySem.W.kla_obj "<lambda>" (X.env.qual ++ "<lambda>") params body scope (cloFrom X.env.cells scope.names []) ((X.mg "__name__").getD .none) c1 ctv)) I hT
      (fun b o ne e => Heap.get?_push_of_some _ (but b o ne e)) (Heap.get?_push_of_some _ tab) big ⟨oc, vs, t, Heap.get?_push_of_some _ at_c, dat, nm⟩
    have el : (ps ++ #[rawInt pos.line, rawInt pos.col, .ref c1]).toList = ps.toList ++ [rawInt pos.line, rawInt pos.col, .ref c1] := by simp
    have cT : c1 ≠ T := fun z => by rw [z, hT] at free; cases free
    have fc : h1.objs.size ≠ c1 := Nat.ne_of_gt below
    have fT : h1.objs.size ≠ T := Nat.ne_of_gt (Nat.lt_of_lt_of_le (Heap.lt_size table_ok) grow)
    refine next h1.objs.size c1 ((X.mg "__name__").getD .none) ctv _ _ J (.made _ free cT ?_ ?_) (Heap.get?_push_size _ rfl) ?_ (not_frame _ grow)
    · rw [el]; exact PySem.TriplesOk_snoc _ _ _ _ tri
    · intro p' cv hcv
      rw [el] at hcv
      exact LamX.among_app _ tri hcv
    · rw [upd_ne fc, upd_ne fT]
      exact I.hok.fresh grow
  · obtain ⟨c1, e1⟩ := told pos cv known
    subst e1
    apply PySem.W.kla_makeFunctionHit (mg := X.mg) (c := c) (P := T) (ps := ps) (closure_ok caught) I.ok.glob (I.mod.glob.keeps I.bk) code (TB.code.keeps I.bk) table_ok tri known builtins_ok
    intro ctv h1 tk keep big
    have J : Inv X pins σ H { s with heap := h1.push (PySem.W.kla_obj "<lambda>" (X.env.qual ++ "<lambda>") params body scope (cloFrom X.env.cells scope.names []) ((X.mg "__name__").getD .none) c1 ctv), toks := tk } := I.kept fun b o e => Heap.get?_push_of_some _ (keep b o e)
    exact next h1.objs.size c1 ((X.mg "__name__").getD .none) ctv H _ J (.found pos known) (Heap.get?_push_size _ rfl) (I.hok.fresh big) (not_frame _ big)
/-- x(), in the def that got the lambda: what it may raise is asked at the slots of that def -/
theorem pe_ask {CXg : CXT} {Eg : XK} {Ng : List Str} {qg : Str} {sg : Scope} {g f c1 : Addr} {cdg pm ctv : Value} {params : Arguments} {body : Expr} {scope : Scope} {k i : Nat} {a : Str} {pn : List (Addr × Obj)} {xe : Value → Shared → Prop} {W : WX} {tb : XK → TE} {p1 p2 : Pos}
    (I : Inv X pins σ H s) (L : LamX.LamS X.env.scope scope) (hf : s.heap.get? f = some (PySem.W.kla_obj "<lambda>" (X.env.qual ++ "<lambda>") params body scope (cloFrom X.env.cells scope.names []) pm c1 ctv)) (hfn : H f = none) (hfr : f ∉ frs X.stack)
    (nopar : bindArgs (PySem.W.kla_fn "<lambda>" (X.env.qual ++ "<lambda>") params body scope (cloFrom X.env.cells scope.names []) pm (.ref c1) ctv) ⟨[], []⟩ = pure [])
    (tk : Takes ((cxOf CXg X.prog X.w X.K X.mg X.base Ng qg sg g cdg X.A X.stack s H Eg).tr pn xe) W) (room : Room (k + 1) (X.A.deeper (envOfC qg sg s.heap.objs.size g cdg)))
    (inner : ∀ (A : Around) (outer : List Env) (s : Shared) (H : Hp) (E : XK), Room k (A.deeper (LamX.lamEnv X scope s.heap.objs.size f c1)) → PE (LamX.lamCx X A outer s H E scope f c1) body (tb E))
    (hN : Ng[i]? = some a) (hv : Vis sg a) (hd : (a == ("__debug__" : Str)) = false) (hcd : (a == ("__classdict__" : Str)) = false) :
    PE ((cxOf CXg X.prog X.w X.K X.mg X.base Ng qg sg g cdg X.A X.stack s H Eg).tr pn xe) (.Call (.Name a p1) [] [] p2)
      (fun σZ HZ Q => σZ[i]? = some (some (.ref f)) ∧ HZ c1 = some (LamX.CodeO c1 (X.env.qual ++ "<lambda>")) ∧ tb (L2.WE W σZ) σ HZ Q) := by
  constructor
  rintro pinsZ sZ σZ HZ Q IZ ⟨slot, code, asked⟩
  apply wpAny_Call_Name_kw
  refine thn ((pe_var (pos := p1) (i := i) hN hv hd hcd).run pinsZ sZ σZ HZ (fun v H1 => v = .ref f ∧ H1 = HZ) IZ ⟨.ref f, slot, rfl, rfl⟩) ?_
  rintro u s1 ⟨v, H1, I1, r1, ev, eH⟩
  subst ev eH
  obtain rfl : u = Value.ref f := r1
  have fn_at := I1.base.keep f _ hf hfn hfr (fun z => nomatch (show f ∈ ([] : List Addr) from z))
  apply PySem.W.callWith_F0 ⟨_, _, _, _, fn_at⟩
  have un : Un (frs X.stack) [] H H1 s.heap s1.heap := I1.base
  obtain ⟨⟨oc, vs, t, oc_at, oc_dat, oc_nm⟩, _, _⟩ := I1.hok c1 _ code
  apply wpAny_call
  have ran : codeAny (model X.prog X.w) (X.A.deeper (envOfC qg sg s.heap.objs.size g cdg)) (.call (.ref f) ⟨[], []⟩) (CR (L2.CX X.prog X.w) (envOfC qg sg s.heap.objs.size g cdg :: X.stack) X.prog X.w H1 s1 Q (L2.WE W σZ)) s1 := by
    apply PySem.W.kla_callFunE room.depth fn_at rfl L.co L.gen rfl ⟨c1, oc, vs, t, rfl, oc_at, oc_dat, oc_nm⟩
    rw [nopar]
    apply wpAny_pure
    refine wpAny_newFunctionEnv (fun y hy => (L.own y hy).2) (fun y hy => absurd hy (by simp)) (fun h2 names_at shape => ⟨I1.nolimit.fresh _ shape, ?_⟩) L.kind
    have keep : ∀ b o, s1.heap.get? b = some o → h2.get? b = some o := by
      intro b o e
      exact shape.extBut b o (Nat.ne_of_lt (Heap.lt_size e)) (Heap.get?_push_of_some _ e)
    have J : Inv (LamX.lamCx X (X.A.deeper (envOfC qg sg s.heap.objs.size g cdg)) (envOfC qg sg s.heap.objs.size g cdg :: X.stack) s1 H1 (L2.WE W σZ) scope f c1) [] σ H1 { s1 with heap := h2, toks := s1.toks + ([] : List (Str × Value)).length } :=
      LamX.lam_start2 I L I1.env0 room.hd un names_at keep
    apply PySem.W.kla_codeExpr
    refine wpAny_mono ((inner _ _ s1 H1 (L2.WE W σZ) (room.deeper _)).run [] _ _ H1 Q J asked) ?_ (fun e s2 he => he)
    rintro v s2 ⟨w2, H2, J2, rv, q⟩
    exact ⟨w2, H2, J2.os, J2.bare, J2.base, J2.hok, rv, q⟩
  refine codeAny_mono ran ?_
  intro r s2 got
  match r, got with
  | .error e, got => exact passAt tk σZ pinsZ H1 s1 e s2 I1 got
  | .ok (.ret u), got => exact I1.after got
  | .ok .next, got => exact got.elim
  | .ok .brk, got => exact got.elim
  | .ok .cont, got => exact got.elim
end
/-! ### over data -/
section
variable {K : PySem.W.Frag} {B : Bs} {P : Hp} {al : List Addr} {M : Mt} {env : Ev} {σ : L2.St} {H H1 : Hp} {T c : Addr} {n : Str} {i : Nat} {ps : Array Value}
theorem RS.grown (rs : RS K B P al M env σ H) (hM : M[i]? = some (.cls n)) (ha : al[i]? = some T) (hT : H T = some (.tbl ps)) (g : Grown H T ps (lamQ n) c H1) :
    ∃ P1, Ext P al H P1 al H1 ∧ RS K B P1 al M env σ H1 ∧ P1 c = some (LamX.CodeO c (lamQ n)) := by
  have cell : TabC K P T n H := rs.cell i T _ ha hM
  obtain ⟨np, ps', hT', ⟨tri, c0, et⟩, told⟩ := cell
  rw [hT] at hT'
  cases hT'
  cases g with
  | found pos h =>
    obtain ⟨c1, e1, e2⟩ := told pos _ h
    cases e1
    exact ⟨P, Ext.refl, rs, e2⟩
  | made more hc ne tri' told' =>
    have hP : P c = none := rs.toRS0.free hc
    have hnal : c ∉ al := fun z => by obtain ⟨o, ho⟩ := rs.trk c z; rw [hc] at ho; cases ho
    -- the code object first, then the table
    obtain ⟨e1, r1⟩ := rs.toRS0.alloc hc (LamX.CodeO c (lamQ n))
    have hT1 : (upd H c (LamX.CodeO c (lamQ n))) T = some (.tbl ps) := by rw [upd_ne (Ne.symm ne)]; exact hT
    have np1 : (upd P c (LamX.CodeO c (lamQ n))) T = none := by rw [upd_ne (Ne.symm ne)]; exact np
    obtain ⟨e2, r2⟩ := r1.change (o' := .tbl (ps ++ more)) (m' := .cls n) ha hM rfl fun H' hH' => by
      refine ⟨np1, _, hH', ⟨tri', c0, et⟩, fun pos cv hcv => ?_⟩
      rcases told' pos cv hcv with h | h
      · obtain ⟨c1, q1, q2⟩ := told pos cv h
        exact ⟨c1, q1, e1.pp _ _ q2⟩
      · exact ⟨c, h, upd_same⟩
    have em : M.set i (.cls n) = M := by
      apply List.ext_getElem?
      intro j
      by_cases hj : j = i
      · subst hj
        rw [List.getElem?_set_self (List.getElem?_eq_some_iff.mp hM).1, hM]
      · rw [List.getElem?_set_ne (Ne.symm hj)]
    rw [em] at r2
    have eH : upd (upd H c (LamX.CodeO c (lamQ n))) T (.tbl (ps ++ more)) = upd (upd H T (.tbl (ps ++ more))) c (LamX.CodeO c (lamQ n)) := by
      funext b
      by_cases h1 : b = T
      · subst h1
        rw [upd_same, upd_ne (Ne.symm ne), upd_same]
      · rw [upd_ne h1]
        by_cases h2 : b = c
        · subst h2; rw [upd_same, upd_same]
        · rw [upd_ne h2, upd_ne h2, upd_ne h1]
    rw [eH] at e2 r2
    exact ⟨_, e1.trans e2, rs.step (e1.trans e2) r2, upd_same⟩
end
/-- x(lambda: body), x a def of the module that calls what it gets: wb, what x does with it; we, what the lambda tells. i: the place of the maker n's table of code objects -/
@[irreducible] def wLam (i : Nat) (n : Str) (N : Nat) (wb : (RXe → WE) → WS) (we : RXe → WE) : WE := fun env M R =>
  Need (M[i]? = some (.cls n)) ∧ ∀ f : Addr, wb (fun RX env1 M1 R1 => Need (env1[0]? = some (some (.adr f))) ∧ we (fun nm fs _ M' => RX nm fs env1 M') env M1 R1) (fnEnds M.length R) (startE N [.adr f]) M
/-- the context of such a def -/
abbrev askCx (X : Cx) (N : List Str) (x : Str) (st : Stmt) (g : Addr) (cdv : Value) (s : Shared) (H : Hp) : Cx := cxOf CX0 X.prog X.w X.K X.mg X.base N x (defScope st) g cdv X.A X.stack s H E0
section
variable {X : Cx} {B : Bs} {x a n : Str} {st : Stmt} {g : Addr} {fd : FuncData} {k i : Nat} {Ng : List Str} {params : Arguments} {body : Expr} {scope : Scope} {wb : (RXe → WE) → WS} {we : RXe → WE} {p lpos pos : Pos} {c T : Addr}
theorem RS.other {K : PySem.W.Frag} {B B' : Bs} {P P' : Hp} {al al' : List Addr} {M M' : Mt} {env env' : Ev} {σ σ' : L2.St} {H H' : Hp} (rs : RS K B P al M env σ H) (e : Ext P al H P' al' H') (rs' : RS K B' P' al' M' env' σ' H') : RS K (P', al', H') P' al' M' env σ H' :=
  ⟨rs'.toRS0.here, rs.slen, fun j d h => by obtain ⟨v, h1, h2⟩ := rs.slot j d h; exact ⟨v, h1, h2.mono e.pp e.pre⟩⟩
theorem d_lam (hg : Gl X x) (hm : X.mg x = some (.ref g)) (hk : PySem.W.keepIn X.K (.ref g) = true) (F : Fun X.K x x st g fd) (Sg : FnScope Ng [a] (defScope st)) (hb : Binds X.K fd [a] []) (h0 : Ng[0]? = some a) (hva : Vis (defScope st) a)
    (tb : PySem.W.tabIn X.K n = some (c, T)) (TB : LamX.TabB X.base X.mg c T) (code : X.env.code = .ref c) (qual : X.env.qual ++ "<lambda>" = lamQ n) (room : Room (k + 2) X.A) (L : LamX.LamS X.env.scope scope) (nodef : defaultsOf params X.env = ([], []))
    (nopar : ∀ (q : Str) (cl : List (Str × Addr)) (pm cv ctv : Value), bindArgs (PySem.W.kla_fn "<lambda>" q params body scope cl pm cv ctv) ⟨[], []⟩ = pure [])
    (heard : ∀ (B : Bs) (cdv : Value) (s : Shared) (H : Hp) (wl : RXe → WE), Room (k + 1) (X.A.deeper (envOfC x (defScope st) s.heap.objs.size g cdv)) →
      (∀ (B' : Bs) (RX : RXe) (pn : List (Addr × Obj)) (xe : Value → Shared → Prop) (p1 p2 : Pos), Ext B.1 B.2.1 B.2.2 B'.1 B'.2.1 B'.2.2 → Takes ((askCx X Ng x st g cdv s H).tr pn xe) (WL X.K B' RX) → DE B' ((askCx X Ng x st g cdv s H).tr pn xe) (.Call (.Name a p1) [] [] p2) (wl RX)) →
      DSs B (askCx X Ng x st g cdv s H).nox (defBody st) (wb wl))
    (told : ∀ (A : Around) (outer : List Env) (s : Shared) (H : Hp) (E : XK) (f c1 : Addr) (B' : Bs) (RX : RXe), Room k (A.deeper (LamX.lamEnv X scope s.heap.objs.size f c1)) → Takes (LamX.lamCx X A outer s H E scope f c1) (WL X.K B' RX) → DE B' (LamX.lamCx X A outer s H E scope f c1) body (we RX))
    (hdb : (x == ("__debug__" : Str)) = false := by decide) (hd : (a == ("__debug__" : Str)) = false := by decide) (hcd : (a == ("__classdict__" : Str)) = false := by decide) :
    DE B X (.Call (.Name x p) [.Lambda params body scope lpos] [] pos) (wLam i n Ng.length wb we) := by
  constructor
  rintro pins s σ H Q I ⟨P, al, M, env, R, rs, hw, lift⟩
  unfold wLam at hw
  obtain ⟨hMi, hw⟩ := hw
  have hMi := hMi.out
  obtain ⟨T1, ha⟩ : ∃ T1, al[i]? = some T1 := ⟨_, List.getElem?_eq_getElem (by rw [rs.len]; exact (List.getElem?_eq_some_iff.mp hMi).1)⟩
  have cell : TabC X.K P T1 n H := rs.cell i T1 _ ha hMi
  obtain ⟨np, ps, hT, ⟨tri, c0, et⟩, codes⟩ := cell
  rw [tb] at et
  cases et
  obtain ⟨oc, od, kV, doc, pm0, an, cdv, ct, osl, rfl, look, codeg⟩ := F.ex
  refine wpAny_Call_Name_kw (ld_glob I hg hm ?_ hdb)
  refine PySem.W.callWith_K (h₀ := X.base) I.ok.mod.kin hk ?_ (by rfl) (by rfl)
  show wpAny _ _ (spliced ((false, eval (.Lambda params body scope lpos) X.env) :: backTo pos (starEach [] X.env))) _ _ s
  refine Calls.spliced_cons (lam_made I TB code hT tri (fun pos cv h => let ⟨c1, e1, _⟩ := codes pos cv h; ⟨c1, e1⟩) nodef (L.has I.ok) fun f c1 pm ctv H1 s1 I1 gr hf hfn hfr => ?_)
  refine Calls.spliced_nil ⟨I1.kIn, ?_⟩
  rw [qual] at gr
  obtain ⟨P1, e1, rs1, pc⟩ : ∃ P1, Ext P al H P1 al H1 ∧ RS X.K B P1 al M env σ H1 ∧ P1 c1 = some (LamX.CodeO c1 (lamQ n)) := rs.grown hMi ha hT gr
  have sl := rs1.slen
  have ran : codeAny (model X.prog X.w) X.A (.call (.ref g) ⟨[.ref f], []⟩) (CR CX0 X.stack X.prog X.w H1 s1 Q E0) s1 := by
    refine LamX.run_ofS (CX := CX0) (E := E0) (N := Ng) (ps := [a]) (us := [.ref f]) (vs := [.ref f]) look codeg Sg room I1.env0 (hb s1 [.ref f] I1.kIn rfl) (.cons rfl .nil) rfl fun room1 => ?_
    have W := heard (P1, al, H1) cdv s1 H1 (fun RX env1 M1 R1 => Need (env1[0]? = some (some (.adr f))) ∧ we (fun nm fs _ M' => RX nm fs env1 M') env M1 R1) room1 fun B' RX pn xe p1 p2 eB tk => by
      refine (pe_ask (i := 0) (tb := fun E σ' H' Q' => ∃ B2 RX2, (∀ c d σ2 H2, WL X.K B2 RX2 c d σ2 H2 → E c d H2) ∧ tD X.K B2 (we RX2) σ' H' Q') I1 L hf hfn hfr (nopar _ _ _ _ _) tk room1
        (fun A outer s2 H2 E room2 => ⟨fun pins3 s3 σ3 H3 Q3 I3 ⟨B2, RX2, imp, h⟩ => (told A outer s2 H2 E f c1 B2 RX2 room2 ((takes_of rfl rfl rfl rfl).imp fun c d σ4 H4 z => imp c d σ4 H4 z)).run pins3 s3 σ3 H3 Q3 I3 h⟩) h0 hva hd hcd).imp ?_
      rintro σZ HZ QZ ⟨P2, al2, M2, env2, R2, rs2, ⟨hs0, hw2⟩, lift2⟩
      have e2 : Ext P1 al H1 P2 al2 HZ := eB.trans rs2.base
      have rs3 := rs1.other e2 rs2
      obtain ⟨v, hv1, hv2⟩ := rs2.slot 0 _ hs0.out
      cases hv2
      refine ⟨hv1, ?_, (P2, al2, HZ), _, fun c d σ2 H2 z => ?_, P2, al2, M2, env, _, rs3, hw2, fun d M3 v H3 P3 al3 e3 rs4 r q => lift2 d M3 v H3 P3 al3 e3 (rs2.step e3 (rs4.toRS0.rebase (rs2.base.trans e3))) r q⟩
      · rw [qual]; exact rs2.same _ _ (e2.pp _ _ pc)
      · obtain ⟨C, nm, fs, env3, P3, al3, M3, rfl, ca, rs4, xd, q⟩ := z
        exact ⟨C, nm, fs, env2, P3, al3, M3, rfl, ca, rs2.step rs4.base (rs4.toRS0.rebase (rs2.base.trans rs4.base)), xd, q⟩
    have el := rs1.len
    have fin : ∀ d M' v H' P' al', Ext P1 al H1 P' al' H' → RS0 X.K (P1, al, H1) P' al' M' H' → Rep X.K P' al' d v → retF M.length R d M' → Q v H' := fun d M' v H' P' al' e r' rd q => by
      have go : ∀ {P' al' M' v}, Ext P1 al H1 P' al' H' → RS0 X.K (P1, al, H1) P' al' M' H' → Rep X.K P' al' d v → R d M' → Q v H' := fun e r' rd q =>
        lift d _ _ H' _ _ (e1.trans e) (rs1.step e (r'.rebase (rs1.base.trans e))) rd q
      cases q with
      | keep q => exact go e r' rd q
      | less q1 q2 q3 =>
        rw [← el] at q1 q2 q3
        refine go ⟨e.pp, List.prefix_refl _, e.fr, fun b m n => absurd m n, e.pn⟩ (r'.drop fun i m hi hm => ?_) (rd.cut e.pre q1) q3
        exact List.all_eq_true.mp q2 m (List.mem_of_getElem? (by rw [List.getElem?_take_of_lt hi]; exact hm))
    have reps : Reps X.K P1 al [D.adr f] [V.ref f] := .cons (.adr f) .nil
    obtain ⟨z1, z2⟩ := start_slots (N := Ng) reps
    exact ⟨_, PSs.nox W, P1, al, M, _, _, ⟨rs1.toRS0.here, z1, z2⟩, hw f, ⟨fun env' M' σ' H' P' al' e rs q => fin _ _ _ _ _ _ e rs.toRS0 .non q, fun d M' v H' P' al' e rs rd q => fin _ _ _ _ _ _ e rs rd q, fun _ _ _ _ _ _ _ _ z => z.elim, fun _ _ _ _ _ _ _ _ z => z.elim⟩⟩
  refine wpAny_call (codeAny_mono ran ?_)
  intro r s2 got
  match r, got with
  | .error e, got => exact (show False from got).elim
  | .ok (.ret u), got => exact I1.after got
  | .ok .next, got => exact got.elim
  | .ok .brk, got => exact got.elim
  | .ok .cont, got => exact got.elim
end
end L3

namespace L3
open PySem PySem.Spec PyProof.Rows L2
/-! ### try within a def that got a lambda -/
section
variable {X : Cx} {B : Bs} {x n : Str} {Cc : Addr} {i j : Nat} {body suite : List Stmt} {b₀ : Stmt} {np pos pos' : Pos} {RX : RXe} {ok : List Str} {sub : Str → Bool} {wb : RXe → WS}
/-- as d_tryKeep; the tried part is told that its base lies behind ours -/
theorem d_tryKeepL (hs : X.stack = X.env :: X.outer) (hf : X.env.frame = some X.env.locals) (hN : X.N.Nodup) (hi : X.N[i]? = some n) (hln : X.env.kindOf n = some .local) (hc : Names X x (.ref Cc)) (tk : Takes X (WL X.K B RX)) (hij : i ≠ j)
    (hsub : ∀ n C, n ∈ ok → ClsAt X.K n C → PySem.W.exmOne X.K (.ref C) (.ref Cc) = some (sub n))
    (hb : ∀ (B' : Bs) (RX' : RXe) (pn : List (Addr × Obj)) (xe : Value → Shared → Prop), Ext B.1 B.2.1 B.2.2 B'.1 B'.2.1 B'.2.2 → Takes (X.tr pn xe) (WL X.K B' RX') → DSs B' (X.tr pn xe) body (wb RX'))
    (hsu : ∀ (B' : Bs) (a : Addr) (oe : Obj) (pn : List (Addr × Obj)), DSs B' (X.suite a ((a, oe) :: pn)) (b₀ :: suite) (wAsg (wVar i) (gN j))) :
    DS B X (.Try body [.ExceptHandler (some (.Name x np)) (some n) (b₀ :: suite) pos'] [] [] pos) (wTryKeep ok sub i j wb RX) := by
  refine (ps_try_keep (Wout := WL X.K B RX) (tb := fun W D σ H => ∃ B' RX', (∀ c d σ H, WL X.K B' RX' c d σ H → W c d σ H) ∧ Ext B.1 B.2.1 B.2.2 B'.1 B'.2.1 B'.2.2 ∧ tDS X.K B' (wb RX') D σ H)
    (ts := fun a cls d D σ H => ∃ B', tDS X.K B' (wAsg (wVar i) (gN j)) D σ H) hs hf hN hi hln hc tk
    (fun W pn xe tkW po => ⟨fun pins s σ H D I ⟨B', RX', imp, eB, h⟩ => (hb B' RX' pn xe eB (tkW.imp imp)).run pins s σ H D I h⟩)
    (fun a oe cls d pn hz hd => ⟨fun pins s σ H D I ⟨B', h⟩ => (hsu B' a oe pn).run pins s σ H D I h⟩)).imp fun D σ H => ?_
  rintro ⟨P, al, M, env, k, rs, hw, L⟩
  refine ⟨(P, al, H), _, fun c d σ' H' q => ?_, rs.base, P, al, M, env, k, ⟨rs.toRS0.here, rs.slen, rs.slot⟩, hw, ⟨fun env' M' σ' H' P' al' e rs' q => L.nx _ _ _ _ _ _ e ⟨rs'.toRS0.rebase (rs.base.trans e), rs'.slen, rs'.slot⟩ q, fun d M' v H' P' al' e rs' r q => L.rt _ _ _ _ _ _ e (rs'.rebase (rs.base.trans e)) r q,
    fun env' M' σ' H' P' al' e rs' q => L.bk _ _ _ _ _ _ e ⟨rs'.toRS0.rebase (rs.base.trans e), rs'.slen, rs'.slot⟩ q, fun env' M' σ' H' P' al' e rs' q => L.ct _ _ _ _ _ _ e ⟨rs'.toRS0.rebase (rs.base.trans e), rs'.slen, rs'.slot⟩ q⟩⟩
  obtain ⟨C, nm, fs, env', P', al', M', rfl, ca, rs', xd, ho, hlen, q⟩ := q
  obtain ⟨hil, hjl⟩ := hlen.out
  have e0 : Ext P al H P' al' H' := rs'.base
  refine ⟨sub nm, hsub nm C ho.out ca, fun hb a oe hna hz hd => ?_, fun hb => ⟨C, nm, fs, env', P', al', M', rfl, ca, ⟨rs'.toRS0.rebase (rs.base.trans e0), rs'.slen, rs'.slot⟩, xd, q.2 hb⟩⟩
  have rs2 : RS X.K (P', al', H') P' al' M' env' σ' H' := ⟨rs'.toRS0.here, rs'.slen, rs'.slot⟩
  refine ⟨(P', al', H'), P', al', M', _, ⟨fun e m => e = (env'.set i (some (.adr a))).set j (some (.adr a)) ∧ m = M', fun _ _ => False, fun _ _ => False, fun _ _ => False⟩, rs2.put i (.adr a), ?_, ⟨fun env2 M2 σ2 H2 P2 al2 e rs3 q3 => ?_, fun _ _ _ _ _ _ _ _ _ z => z.elim, fun _ _ _ _ _ _ _ _ z => z.elim, fun _ _ _ _ _ _ _ _ z => z.elim⟩⟩
  · show wVar i _ _ _
    unfold wVar
    rw [List.getElem?_set_self hil]
    exact ⟨rfl, rfl⟩
  · obtain ⟨rfl, eM⟩ := q3
    rw [eM] at rs3
    intro na2
    have rs4 := rs3.drp i
    obtain ⟨P5, e5, r5, hx⟩ := xd_pub (xd.go e) rs4.toRS0
    obtain ⟨e6, r6⟩ := r5.cellE (a := a) (oe := oe) (l := [.obj nm fs]) na2 fun P7 al7 s7 p7 h7 => by
      refine ⟨C, d, oe, h7, ca, hz, hd, ?_⟩
      rcases hx with hx | ⟨dd, gs, g1, g2, g3⟩
      · exact .inl hx
      · exact .inr ⟨dd, gs, g1, s7 _ _ g2, g3.mono s7 p7⟩
    have rs6 := rs4.step (e5.trans e6) r6
    have hget : (((env'.set i (some (L3.D.adr a))).set j (some (L3.D.adr a))).set i none)[j]? = some (some (L3.D.adr a)) := by
      rw [List.getElem?_set_ne hij, List.getElem?_set_self (by simpa using hjl)]
    have la : (al2 ++ [a])[M'.length]? = some a := by
      rw [← rs4.len, List.getElem?_append_right (Nat.le_refl _), Nat.sub_self]; rfl
    have rs7 := rs6.retype (d' := .cel M'.length) hget fun v hv => by cases hv; exact .cel la
    have eq : ((((env'.set i (some (L3.D.adr a))).set j (some (L3.D.adr a))).set i none).set j (some (L3.D.cel M'.length))) = (env'.set j (some (.cel M'.length))).set i none := by
      apply List.ext_getElem?
      intro t
      by_cases h1 : t = i
      · subst h1
        rw [List.getElem?_set_ne (Ne.symm hij), List.getElem?_set_self (by simpa using hil), List.getElem?_set_self (by simpa using hil)]
      · by_cases h2 : t = j
        · subst h2
          rw [List.getElem?_set_self (by simpa using hjl), List.getElem?_set_ne hij, List.getElem?_set_self (by simpa using hjl)]
        · rw [List.getElem?_set_ne (Ne.symm h2), List.getElem?_set_ne (Ne.symm h1), List.getElem?_set_ne (Ne.symm h2), List.getElem?_set_ne (Ne.symm h1), List.getElem?_set_ne (Ne.symm h1), List.getElem?_set_ne (Ne.symm h2)]
    rw [eq] at rs7
    have ea := e0.trans (e.trans (e5.trans e6))
    exact L.nx _ _ _ _ _ _ ea ⟨rs7.toRS0.rebase (rs.base.trans ea), rs7.slen, rs7.slot⟩ (q.1 hb)
end
end L3

namespace L3
open PySem PySem.Spec PyProof.Rows L2
/-! ### makers of lambdas, and the end of a law with such -/
/-- what is known of the maker n, at f: its code object c and the table T of that -/
structure TabF (K : PySem.W.Frag) (base : Heap) (mg : Str → Option Value) (n : Str) (f c T : Addr) : Prop where
  tab : PySem.W.tabIn K n = some (c, T)
  at_ : PySem.W.nsIn K mainGlobals n = some (some (.ref f))
  B : LamX.TabB base mg c T
theorem TabF.code {K : PySem.W.Frag} {base : Heap} {mg : Str → Option Value} {n : Str} {f c T : Addr} (Z : TabF K base mg n f c T) {oc : Value} {od : Option Addr} {fd : FuncData} {sl : Array (Option Value)} (lk : K.lookup f = some ⟨oc, od, .func fd, sl⟩) : fd.code = .ref c := by
  have h := Z.tab
  unfold PySem.W.tabIn at h
  rw [Z.at_] at h
  simp only [lk] at h
  split at h
  · rename_i c1 e1
    split at h
    · split at h
      · injection h with h
        injection h with h1 h2
        rw [e1, h1]
      · cases h
    · cases h
  · cases h
section
variable {P : Program} {w : World} {K : PySem.W.Frag} {mg : Str → Option Value} {base : Heap} {CX : CXT}
/-- a def by its body, its code object known -/
theorem fnG_ofC {x qual : Str} {st : Stmt} {f : Addr} {fd : FuncData} {N ps : List Str} {k : Nat} {sp : Sp} (F : Fun K x qual st f fd) (sc : FnScope N ps (defScope st)) (len : ∀ vs H Q E, sp vs H Q E → vs.length = ps.length)
    (body : ∀ (cdv : Value) (A : Around) (outer : List Env) (s : Shared) (H : Hp) (vs : List V) (Q : VK) (E : XK), (∀ oc od fd sl, K.lookup f = some ⟨oc, od, .func fd, sl⟩ → fd.code = cdv) → A.guards = some [] → Room k (A.deeper (envOfC qual (defScope st) s.heap.objs.size f cdv)) → sp vs H Q E →
      ∃ t, PSs (cxOf CX P w K mg base N qual (defScope st) f cdv A outer s H E) (defBody st) t ∧ t { nx := fun _ H' => Q .non H', rt := Q } (start N vs) H) : FnG P w K mg base CX (k + 1) f fd ps sp := by
  obtain ⟨oc, od, kV, doc, pm, an, cdv, ct, osl, rfl, look, code⟩ := F.ex
  have coded : ∀ oc od fd sl, K.lookup f = some ⟨oc, od, .func fd, sl⟩ → fd.code = cdv := by
    intro oc1 od1 fd1 sl1 look1
    rw [look] at look1
    cases look1
    rfl
  constructor
  · exact len
  intro A outer s H args us vs Q E hg room env0 binds vals asked
  have inK : K.In s.heap := (env0.mod.kin).keeps fun b o at_b => (env0.bs b o at_b).1
  have free : s.heap.NoLimit := (env0.mod.nolimit).keeps fun b o at_b => (env0.bs b o at_b).1
  have kinds : ∀ z ∈ ps.zip us, (defScope st).names.lookup z.1 = some .local ∨ ((defScope st).names.lookup z.1 = some .cell ∧ ((cellsFrom (s.heap.objs.size + 1) (defScope st).names []).lookup z.1).isSome = true) := by
    rintro ⟨n, v⟩ hz
    cases sc.par n (List.of_mem_zip hz).1 with
    | inl q => exact Or.inl q
    | inr q => exact Or.inr (And.intro q (PySem.W.cellsFrom_some _ _ _ (Or.inl q)))
  apply codeAny_call_function room.depth (inK _ _ look) rfl sc.co sc.gen rfl (PySem.W.codeRec_of inK code)
  apply binds
  apply wpAny_newFunctionEnv_cells sc.kind kinds
  intro env is_env s1 inside
  subst is_env
  constructor
  · exact free.keeps inside.toInCall.keep
  apply codeAny_func
  obtain ⟨t, walk, start_ok⟩ := body cdv A outer s H vs Q E coded hg (room.deeper _) asked
  have inv0 := inv_start (CX := CX) (E := E) (qual := qual) (f := f) (cd := cdv) sc room.hd env0 (len _ _ _ _ asked) vals inside
  have ran := walk.run [] s1 (start N vs) H _ inv0 start_ok
  refine wpAny_mono ran ?_ ?_
  · intro flow s2 got
    cases flow with
    | next =>
      obtain ⟨σ2, H2, J, q⟩ := got
      exact ⟨.non, H2, J.os, J.bare, J.base, J.hok, rfl, q⟩
    | ret u =>
      obtain ⟨v, σ2, H2, J, rv, q⟩ := got
      exact ⟨v, H2, J.os, J.bare, J.base, J.hok, rv, q⟩
    | brk => obtain ⟨_, _, _, no⟩ := got; exact no.elim
    | cont => obtain ⟨_, _, _, no⟩ := got; exact no.elim
  · exact fun e s2 got => got
/-- a def that makes lambdas and asks for repr -/
theorem dfnGT {x qual n : Str} {st : Stmt} {f c T : Addr} {fd : FuncData} {N ps : List Str} {k : Nat} {sp : DSp} (Z : TabF K base mg n f c T) (F : Fun K x qual st f fd) (S : FnScope N ps (defScope st)) (len : ∀ ds M R RX, sp ds M R RX → ds.length = ps.length)
    (body : ∀ (B : Bs) (cdv : Value) (A : Around) (outer : List Env) (s : Shared) (H : Hp) (E : XK), cdv = .ref c → A.guards = some [] → Room k (A.deeper (envOfC qual (defScope st) s.heap.objs.size f cdv)) →
      ∃ wb : RXe → WS, (∀ RX : RXe, Takes (cxOf (L2.CX P w) P w K mg base N qual (defScope st) f cdv A outer s H E) (WL K B RX) → DSs B (cxOf (L2.CX P w) P w K mg base N qual (defScope st) f cdv A outer s H E) (defBody st) (wb RX)) ∧
        ∀ ds M R RX, sp ds M R RX → M.all (cellOk M.length) = true → noCels M.length ds = true → wb (fun nm fs _ M' => rxF M.length RX nm fs M') (fnEnds M.length R) (startE N.length ds) M) :
    FnG P w K mg base (L2.CX P w) (k + 1) f fd ps (toSp K sp) := by
  refine fnG_ofC F S (fun vs H Q E h => ?_) (fun cdv A outer s H vs Q E coded quiet hr h => ?_)
  · obtain ⟨P, al, M, ds, R, RX, _, r, hs, _⟩ := h
    rw [← r.length]; exact len _ _ _ _ hs
  · obtain ⟨Pp, al, M, ds, R, RX, r0, r, hs, L, LX⟩ := h
    obtain ⟨oc, od, kV, doc, pm, an, cdv2, ct, osl, _, look, _⟩ := F.ex
    have hcd : cdv = .ref c := (coded _ _ _ _ look).symm.trans (Z.code look)
    obtain ⟨wb, hb, hw⟩ := body (Pp, al, H) cdv A outer s H E hcd quiet hr
    have el := r0.len
    have fin : ∀ d M' v H' P' al', Ext Pp al H P' al' H' → RS0 K (Pp, al, H) P' al' M' H' → Rep K P' al' d v → retF M.length R d M' → Q v H' := fun d M' v H' P' al' e r' rd q => by
      cases q with
      | keep q => exact L d M' v H' P' al' e r' rd q
      | less q1 q2 q3 =>
        rw [← el] at q1 q2 q3
        refine L d _ v H' P' al ⟨e.pp, List.prefix_refl _, e.fr, fun b m n => absurd m n, e.pn⟩ (r'.drop fun i m hi hm => ?_) (rd.cut e.pre q1) q3
        exact List.all_eq_true.mp q2 m (List.mem_of_getElem? (by rw [List.getElem?_take_of_lt hi]; exact hm))
    have finX : ∀ C nm fs M' H' P' al' dd, Ext Pp al H P' al' H' → RS0 K (Pp, al, H) P' al' M' H' → ClsAt K nm C → XdOk K P' al' H' fs dd → rxF M.length RX nm fs M' → E (.ref C) dd H' := fun C nm fs M' H' P' al' dd e r' c xd q => by
      cases q with
      | keep q => exact LX C nm fs M' H' P' al' dd e r' c xd q
      | less q1 q2 q3 =>
        rw [← el] at q1 q2 q3
        refine LX C nm fs _ H' P' al dd ⟨e.pp, List.prefix_refl _, e.fr, fun b m n => absurd m n, e.pn⟩ (r'.drop fun i m hi hm => ?_) c (xd.cut e.pre q1) q3
        exact List.all_eq_true.mp q2 m (List.mem_of_getElem? (by rw [List.getElem?_take_of_lt hi]; exact hm))
    obtain ⟨s1, s2⟩ := start_slots (N := N) r
    refine ⟨_, hb _ ((takes_of rfl rfl rfl rfl).imp fun c d σ H' h => ?_), Pp, al, M, _, _, ⟨r0, s1, s2⟩, hw ds M R RX hs r0.inside (by rw [← el]; exact r.inside), ⟨fun env' M' σ' H' P' al' e rs q => fin _ _ _ _ _ _ e rs.toRS0 .non q, fun d M' v H' P' al' e rs rd q => fin _ _ _ _ _ _ e rs rd q, fun _ _ _ _ _ _ _ _ z => z.elim, fun _ _ _ _ _ _ _ _ z => z.elim⟩⟩
    obtain ⟨C, nm, fs, env, P', al', M', rfl, c, rs, xd, q⟩ := h
    exact finX C nm fs M' H' P' al' d rs.base rs.toRS0 c xd q
end
theorem takesN {X : Cx} {B : Bs} : Takes X (WL X.K B RXn) := fun u s' x => by
  obtain ⟨_, _, _, _, _, _, _, _, _, _, _, _, _, _, _, _, z⟩ := x
  obtain ⟨_, _, _, _, _, _, _, _, _, _, _, q⟩ := z
  exact q.elim
/-! the end -/
/-- the law at its script, in a heap where no more than the script and the tables are tracked -/
theorem lawT_at {P : Program} {w : World} {K : PySem.W.Frag} {mg mb : Str → Option Value} {CX : CXT} {k : Nat} {fa a : Addr} {fd : FuncData} {x : Str} {sp : Sp} {s : Shared} {vs : List Value} {H : Hp} {cs : List (Addr × Addr)}
    (inK : K.In s.heap) (glob : s.heap.Ns mainGlobals mg) (bi : s.heap.Ns builtinsNs mb) (boot : ∀ x : Str, x ≠ "__name__" → mb x = bootBuiltins x) (free : s.heap.NoLimit) (none_yet : s.gens = #[])
    (empty : ∀ p ∈ cs, s.heap.get? p.2 = some { cls := .none, data := .fields #[] }) (outside : ∀ p ∈ cs, K.lookup p.2 = none) (codes : ∀ p ∈ cs, PySem.W.CodeHd s.heap p.1 p.2)
    (bmain : ∃ (bm : Addr) (ob : Obj), mg "__builtins__" = some (.ref bm) ∧ bm ≠ builtinsNs ∧ s.heap.get? bm = some ob ∧ ob.cls = .type "module" ∧ ob.dict = some builtinsNs ∧ ob.data = .plain)
    (script : s.heap.get? a = some { cls := .type "list", data := .seq vs.toArray }) (room : Room k callerA)
    (F : ∀ base : Heap, K.In base → base.Ns mainGlobals mg → (∀ p ∈ cs, LamX.TabB base mg p.1 p.2) → FnG P w K mg base CX k fa fd [x] sp) (binds : ∀ (s : Shared) (u : Value), BindsTo s fd ⟨[u], []⟩ [(x, u)])
    (asked : sp [.ref a] H (fun v _ => v = .bl true) fun _ _ _ => False) (clean : ∀ e s', CX [] H s (fun _ _ _ => False) e s' → False)
    (tabs : ∀ p ∈ cs, H p.2 = some (.tbl #[])) (only : ∀ b, H b = none ∨ (∃ p ∈ cs, b = p.2) ∨ ∃ o xs, H b = some (.frz o (.lst xs))) (ok : HOk P w H s.heap) (alone : ∀ b, H b ≠ none → b = a ∨ ∃ p ∈ cs, b = p.2) (apart : H a ≠ none → K.lookup a = none) :
    codeAny (model P w) callerA (.call (.ref fa) ⟨[.ref a], []⟩) (fun r s' => r = .ok (.ret (.bool true)) ∧ OldK s.heap s'.heap ∧ s'.os = s.os ∧ AllBare s'.gens) s := by
  -- what is neither a list nor a table stays in the written part
  have untracked : ∀ {b : Addr} {o : Obj}, s.heap.get? b = some o → (∀ vs n, o.data ≠ .seq vs n) → o.data ≠ .fields #[] → H b = none := by
    intro b o at_b n1 n2
    by_cases hb : H b = none
    · exact hb
    · rcases alone b hb with z | ⟨p, hp, z⟩
      · rw [z, script] at at_b; cases at_b; exact absurd rfl (n1 _ _)
      · rw [z, empty p hp] at at_b; cases at_b; exact absurd rfl n2
  have kept_ns : ∀ {b : Addr} {m : Str → Option Value}, s.heap.Ns b m → (hidT s.heap H).Ns b m := by
    rintro b m ⟨o, es, ep, at_b, is_dict, rest⟩
    exact ⟨o, es, ep, hidT_get at_b (untracked at_b (fun vs n z => by rw [is_dict] at z; cases z) (fun z => by rw [is_dict] at z; cases z)), is_dict, rest⟩
  have in_base : K.In (hidT s.heap H) := by
    intro b o at_b
    apply hidT_get (inK b o at_b)
    by_cases hb : H b = none
    · exact hb
    · rcases alone b hb with z | ⟨p, hp, z⟩
      · rw [z] at at_b hb; rw [apart hb] at at_b; cases at_b
      · rw [z, outside p hp] at at_b; cases at_b
  have lim : (hidT s.heap H).NoLimit := by
    obtain ⟨mc, q1, q2⟩ := free
    exact ⟨mc, kept_ns q1, q2⟩
  have module : Mod K mg (hidT s.heap H) := ⟨in_base, kept_ns glob, ⟨mb, kept_ns bi, boot⟩, lim⟩
  have known : ∀ p ∈ cs, LamX.TabB (hidT s.heap H) mg p.1 p.2 := by
    intro p hp
    have at_t := empty p hp
    constructor
    · obtain ⟨o, us, file, tf, flags, tg, inF, text, tt, at_c, cls_c, dat_c, i1, rest⟩ := codes p hp
      refine ⟨o, us, file, tf, flags, tg, inF, text, tt, hidT_get at_c (untracked at_c (fun vs n z => ?_) fun z => ?_), cls_c, dat_c, i1, rest⟩
      · rw [dat_c] at z; cases z
      · rw [dat_c] at z; cases z; simp at i1
    · obtain ⟨bm, ob, named, not_b, at_m, cls_m, dict_m, plain_m⟩ := bmain
      refine ⟨bm, ob, named, not_b, fun z => ?_, fun z => ?_, hidT_get at_m (untracked at_m (fun vs n z => ?_) fun z => ?_), cls_m, dict_m, plain_m⟩
      · obtain ⟨o, es, ep, at_g, is_dict, _⟩ := glob
        rw [z, at_g] at at_m
        cases at_m
        rw [plain_m] at is_dict
        cases is_dict
      · rw [z, at_t] at at_m
        cases at_m
        cases plain_m
      · rw [plain_m] at z; cases z
      · rw [plain_m] at z; cases z
    · intro z
      obtain ⟨o, es, ep, at_g, is_dict, _⟩ := glob
      rw [z, at_t] at at_g
      cases at_g
      cases is_dict
  have start_env : Env0 P w K mg (hidT s.heap H) callerA [] s H := by
    refine ⟨rfl, module, fun b o at_b => of_hidT at_b, Nat.le_of_eq (hidT_size _ _), trivial, ?_, ok, AllBare.of_eq none_yet⟩
    intro b hb
    cases (show b ∈ ([] : List Addr) from hb)
  have ran := (F _ in_base (kept_ns glob) known).run callerA [] s H ⟨[.ref a], []⟩ [.ref a] [.ref a] _ _ rfl room start_env (binds s (.ref a)) (.cons rfl .nil) asked
  refine codeAny_mono ran ?_
  intro r s' got
  match r, got with
  | .error e, got => exact (clean e s' got).elim
  | .ok .next, got => exact got.elim
  | .ok .brk, got => exact got.elim
  | .ok .cont, got => exact got.elim
  | .ok (.ret u), got =>
    obtain ⟨v, H2, same_os, bare, un, ok2, rv, is_true⟩ := got
    have is_true' : v = .bl true := is_true
    subst is_true'
    have eu : u = Value.bool true := rv
    subst eu
    have stays : ∀ b o, (∀ p ∈ cs, b ≠ p.2) → s.heap.get? b = some o → s'.heap.get? b = some o := by
      intro b o no at_b
      cases hb : H b with
      | none => exact un.keep b o at_b hb (fun z => by cases (show b ∈ ([] : List Addr) from z)) (by simp)
      | some u =>
        rcases only b with z | ⟨p, hp, z⟩ | ⟨ob, xs, z⟩
        · rw [hb] at z; cases z
        · exact absurd z (no p hp)
        · obtain ⟨e1, _⟩ := ok b _ z
          obtain ⟨e2, _⟩ := ok2 b _ (un.frzs b ob _ z)
          rw [at_b] at e1
          cases e1
          exact e2
    have longer : ∀ p ∈ cs, ∃ more : Array Value, s'.heap.get? p.2 = some { cls := .none, data := .fields more } := by
      intro p hp
      obtain ⟨more, z⟩ := un.tbls p.2 #[] (tabs p hp)
      exact ⟨_, ok2 p.2 _ z⟩
    refine ⟨rfl, ⟨?_, ?_⟩, same_os, bare⟩
    · intro b o at_b
      by_cases hb : ∃ p ∈ cs, b = p.2
      · obtain ⟨p, hp, z⟩ := hb
        obtain ⟨more, at_2⟩ := longer p hp
        subst z
        have at_t := empty p hp
        rw [at_t] at at_b
        cases at_b
        exact Or.inr (Or.inl ⟨((codes p hp).tab at_t).isCodeTable, rfl, #[], more, rfl, by rw [Array.empty_append]; exact at_2⟩)
      · exact Or.inl (stays b o (fun p hp z => hb ⟨p, hp, z⟩) at_b)
    · intro b o at_b
      by_cases hb : ∃ p ∈ cs, b = p.2
      · obtain ⟨p, hp, z⟩ := hb
        obtain ⟨more, at_2⟩ := longer p hp
        subst z
        exact ⟨_, at_2⟩
      · exact ⟨o, stays b o (fun p hp z => hb ⟨p, hp, z⟩) at_b⟩
theorem lawT_call {P : Program} {w : World} {K : PySem.W.Frag} {mg mb : Str → Option Value} {CX : CXT} {k : Nat} {fa a : Addr} {fd : FuncData} {x : Str} {sp : Sp} {s : Shared} {vs : List Value} {ns : List Int} {cs : List (Addr × Addr)}
    (inK : K.In s.heap) (glob : s.heap.Ns mainGlobals mg) (bi : s.heap.Ns builtinsNs mb) (boot : ∀ x : Str, x ≠ "__name__" → mb x = bootBuiltins x) (free : s.heap.NoLimit) (none_yet : s.gens = #[])
    (empty : ∀ p ∈ cs, s.heap.get? p.2 = some { cls := .none, data := .fields #[] }) (outside : ∀ p ∈ cs, K.lookup p.2 = none) (codes : ∀ p ∈ cs, PySem.W.CodeHd s.heap p.1 p.2)
    (bmain : ∃ (bm : Addr) (ob : Obj), mg "__builtins__" = some (.ref bm) ∧ bm ≠ builtinsNs ∧ s.heap.get? bm = some ob ∧ ob.cls = .type "module" ∧ ob.dict = some builtinsNs ∧ ob.data = .plain)
    (script : s.heap.get? a = some { cls := .type "list", data := .seq vs.toArray }) (whole : IntsAre vs ns) (few : ns.length ≤ sizeLine) (room : Room k callerA)
    (F : ∀ base : Heap, K.In base → base.Ns mainGlobals mg → (∀ p ∈ cs, LamX.TabB base mg p.1 p.2) → FnG P w K mg base CX k fa fd [x] sp) (binds : ∀ (s : Shared) (u : Value), BindsTo s fd ⟨[u], []⟩ [(x, u)])
    (asked : ∀ H : Hp, (∀ p ∈ cs, H p.2 = some (.tbl #[])) → SqL K H a (ns.map V.int) → sp [.ref a] H (fun v _ => v = .bl true) fun _ _ _ => False) (clean : ∀ H e s', CX [] H s (fun _ _ _ => False) e s' → False) :
    codeAny (model P w) callerA (.call (.ref fa) ⟨[.ref a], []⟩) (fun r s' => r = .ok (.ret (.bool true)) ∧ OldK s.heap s'.heap ∧ s'.os = s.os ∧ AllBare s'.gens) s := by
  have vals := vals_ints whole
  have long := whole.length
  have not_tab : ∀ p ∈ cs, p.2 ≠ a := by
    intro p hp z
    have at_t := empty p hp
    rw [z, script] at at_t
    have d : Data.seq vs.toArray _ = Data.fields #[] := congrArg Obj.data (Option.some.inj at_t)
    cases d
  obtain ⟨G, hG⟩ : ∃ G : Hp, G = fun b => if b ∈ cs.map (·.2) then some (.tbl #[]) else none := ⟨_, rfl⟩
  have mem : ∀ b, b ∈ cs.map (·.2) ↔ ∃ p ∈ cs, b = p.2 := fun b => by
    rw [List.mem_map]
    exact ⟨fun ⟨p, hp, e⟩ => ⟨p, hp, e.symm⟩, fun ⟨p, hp, e⟩ => ⟨p, hp, e.symm⟩⟩
  have g_tab : ∀ p ∈ cs, G p.2 = some (.tbl #[]) := fun p hp => by rw [hG]; exact if_pos ((mem _).mpr ⟨p, hp, rfl⟩)
  have g_off : ∀ b, (¬ ∃ p ∈ cs, b = p.2) → G b = none := fun b nb => by rw [hG]; exact if_neg fun z => nb ((mem _).mp z)
  by_cases written : ∃ o, K.lookup a = some o
  · obtain ⟨o, at_a⟩ := written
    have there := inK a o at_a
    rw [script] at there
    cases there
    refine lawT_at (H := G) inK glob bi boot free none_yet empty outside codes bmain script room F binds (asked _ g_tab ?_) (clean _) g_tab ?_ ?_ ?_ (fun z => absurd (g_off a fun ⟨p, hp, e⟩ => not_tab p hp e.symm) z)
    · exact Or.inr ⟨_, vs.toArray, _, at_a, rfl, rfl, rfl, by rw [List.size_toArray, long]; exact few, by simpa using vals⟩
    · intro b
      by_cases hb : ∃ p ∈ cs, b = p.2
      · exact Or.inr (Or.inl hb)
      · exact Or.inl (g_off b hb)
    · intro b u z
      by_cases hb : ∃ p ∈ cs, b = p.2
      · obtain ⟨p, hp, e⟩ := hb
        subst e
        rw [g_tab p hp] at z
        cases z
        exact empty p hp
      · rw [g_off b hb] at z; cases z
    · intro b z
      by_cases hb : ∃ p ∈ cs, b = p.2
      · exact Or.inr hb
      · exact absurd (g_off b hb) z
  · have not_there : K.lookup a = none := by
      cases h : K.lookup a with
      | none => rfl
      | some o => exact absurd ⟨o, h⟩ written
    obtain ⟨H, hH⟩ : ∃ H : Hp, H = fun b => if b = a then some (.frz { cls := .type "list", data := .seq vs.toArray } (.lst (ns.map V.int))) else G b := ⟨_, rfl⟩
    have at_a : H a = some (.frz { cls := .type "list", data := .seq vs.toArray } (.lst (ns.map V.int))) := by rw [hH]; exact if_pos rfl
    have off_a : ∀ b, b ≠ a → H b = G b := fun b hb => by rw [hH]; exact if_neg hb
    have h_tab : ∀ p ∈ cs, H p.2 = some (.tbl #[]) := fun p hp => by rw [off_a _ (not_tab p hp)]; exact g_tab p hp
    refine lawT_at (H := H) inK glob bi boot free none_yet empty outside codes bmain script room F binds (asked _ h_tab ?_) (clean _) h_tab ?_ ?_ ?_ (fun _ => not_there)
    · exact Or.inl (Or.inr ⟨_, at_a⟩)
    · intro b
      by_cases hb : b = a
      · subst hb; exact Or.inr (Or.inr ⟨_, _, at_a⟩)
      · by_cases hc : ∃ p ∈ cs, b = p.2
        · exact Or.inr (Or.inl hc)
        · exact Or.inl (by rw [off_a b hb]; exact g_off b hc)
    · intro b u z
      by_cases hb : b = a
      · subst hb
        rw [at_a] at z
        cases z
        exact ⟨script, by rw [List.length_map]; exact few, vs, _, vals, script⟩
      · rw [off_a b hb] at z
        by_cases hc : ∃ p ∈ cs, b = p.2
        · obtain ⟨p, hp, e⟩ := hc
          subst e
          rw [g_tab p hp] at z
          cases z
          exact empty p hp
        · rw [g_off b hc] at z; cases z
    · intro b z
      by_cases hb : b = a
      · exact Or.inl hb
      · by_cases hc : ∃ p ∈ cs, b = p.2
        · exact Or.inr hc
        · exact absurd (by rw [off_a b hb]; exact g_off b hc) z
/-- the law's call: the script is a list that is read alone, the tables are empty; ts: the makers, in the order of their tables -/
theorem law_spT {K : PySem.W.Frag} {H : Hp} {a : Addr} {ns : List Int} {sp : DSp} {E : XK} {ts : List (Str × Addr)} (hsp : ∀ ns : List Int, ns.length ≤ 63 → ∀ R RX, (∀ M, R (.bl true) M) → sp [.rol (ns.map D.int)] (ts.map fun t => .cls t.1) R RX) (hl : ns.length ≤ 63) (hS : SqL K H a (ns.map V.int))
    (known : ∀ t ∈ ts, ∃ c, PySem.W.tabIn K t.1 = some (c, t.2)) (apart : (ts.map (·.2)).Nodup) (tabs : ∀ t ∈ ts, H t.2 = some (.tbl #[])) : toSp K sp [.ref a] H (fun v _ => v = .bl true) E := by
  have wholes : ∀ (P : Hp) (al : List Addr) (l : List Int), Reps K P al (l.map D.int) (l.map V.int) := fun P al l => by
    induction l with
    | nil => exact .nil
    | cons x r ih => exact .cons (.int x) ih
  obtain ⟨P, hP⟩ : ∃ P : Hp, P = fun b => if b ∈ ts.map (·.2) then none else H b := ⟨_, rfl⟩
  have p_tab : ∀ b, b ∈ ts.map (·.2) → P b = none := fun b hb => by rw [hP]; exact if_pos hb
  have p_off : ∀ b, b ∉ ts.map (·.2) → P b = H b := fun b hb => by rw [hP]; exact if_neg hb
  have is_tab : ∀ b, b ∈ ts.map (·.2) → H b = some (.tbl #[]) := fun b hb => by
    obtain ⟨t, ht, e⟩ := List.mem_map.mp hb
    rw [← e]; exact tabs t ht
  have sub : Same P H := fun b o h => by
    by_cases hb : b ∈ ts.map (·.2)
    · rw [p_tab b hb] at h; cases h
    · rw [p_off b hb] at h; exact h
  have look : ∀ (i : Nat) (b : Addr) (m : D), (ts.map (·.2))[i]? = some b → (ts.map fun t => D.cls t.1)[i]? = some m → ∃ t ∈ ts, b = t.2 ∧ m = .cls t.1 := fun i b m h1 h2 => by
    rw [List.getElem?_map] at h1 h2
    cases e : ts[i]? with
    | none => rw [e] at h1; cases h1
    | some t =>
      rw [e] at h1 h2
      cases h1; cases h2
      exact ⟨t, List.mem_of_getElem? e, rfl, rfl⟩
  refine ⟨P, ts.map (·.2), ts.map fun t => .cls t.1, _, fun d _ => d = .bl true, RX0, ⟨Ext.refl, sub, by simp, fun i b m h1 h2 => ?_, fun i j b m n h1 h2 _ _ _ _ => ?_, fun b hb => ⟨_, is_tab b hb⟩⟩, .cons (.rol ?_ (wholes _ _ ns)) .nil, hsp ns hl _ _ fun _ => rfl, fun d M' v H' P' al' e r0 r hd => ?_, fun _ _ _ _ _ _ _ _ _ _ _ _ z => z.elim⟩
  · obtain ⟨t, ht, rfl, rfl⟩ := look i b m h1 h2
    exact ⟨p_tab _ (List.mem_map.mpr ⟨t, ht, rfl⟩), #[], tabs t ht, ⟨True.intro, known t ht⟩, fun pos cv hc => by
      have z : codeAmong pos [] = some cv := hc
      simp [codeAmong] at z⟩
  · exact (List.getElem?_inj (List.getElem?_eq_some_iff.mp h1).1 apart).mp (h1.trans h2.symm)
  · rcases hS with (h | ⟨o, h⟩) | h
    · refine Or.inl (Or.inl ?_)
      rw [p_off a fun z => by rw [is_tab a z] at h; cases h]; exact h
    · refine Or.inl (Or.inr ⟨o, ?_⟩)
      rw [p_off a fun z => by rw [is_tab a z] at h; cases h]; exact h
    · exact Or.inr h
  · subst hd; cases r; rfl
end L3

namespace L3
open PySem PySem.Spec PyProof.Rows L2
/-! ### the head's facts where lambdas are made: the tables of code objects are set apart -/
def xTbC : Option (Addr × Addr) → Addr
  | some (c, _) => c
  | none => 0
def xTbT : Option (Addr × Addr) → Addr
  | some (_, t) => t
  | none => 0
/-- an empty table -/
def tabO : Option Obj → Bool
  | some ⟨.none, none, .fields ⟨[]⟩, ⟨[]⟩⟩ => true
  | _ => false
theorem tabO_ok {o : Option Obj} (h : tabO o = true) : o = some { cls := .none, data := .fields #[] } := by
  unfold tabO at h
  split at h
  · rfl
  · cases h
theorem memT {α β : Type} {tb : List (α → β)} {K : α} {l : List β} (e : (tb.map fun t => t K) = l) {t : α → β} (h : t ∈ tb) : t K ∈ l := by
  subst e
  exact List.mem_map.mpr ⟨t, h, rfl⟩
def lessG (g : Addr → Option Obj) (ps : List Addr) (b : Addr) : Option Obj := match ps.contains b with
  | true => none
  | false => g b
theorem lessG_of {g : Addr → Option Obj} {ps : List Addr} {b : Addr} {o : Obj} (h : lessG g ps b = some o) : g b = some o := by
  unfold lessG at h
  split at h
  · cases h
  · exact h
def frNats {β : Type} : List Nat → (List Nat → β) → β
  | [], k => k []
  | n :: r, k => frNat n fun m => frNats r fun l => k (m :: l)
theorem frNats_eq {β : Type} : ∀ (l : List Nat) (k : List Nat → β), frNats l k = k l
  | [], _ => rfl
  | n :: r, k => by
    unfold frNats
    rw [frNat_eq, frNats_eq r]
abbrev AlHT : Type := Bool × (Bool × AlH)
def obsBT (lo : Nat) (tb : List (PySem.W.Frag → Addr)) (fl : List (List FrB)) (fn : List (PySem.W.Frag → Addr)) (n : Nat) (g : Addr → Option Obj) : AlHT := match g mainGlobals with
  | none => (false, (false, (false, [])))
  | some o => frK g (n - lo) lo fun r => frNats (tb.map fun t => t ((mainGlobals, o) :: r)) fun ps => (ps.all fun p => tabO (g p),
      frK (lessG g ps) (n - lo) lo fun r2 => (decide ((tb.map fun t => t ((mainGlobals, o) :: r2)) = ps), lookB fl fn ((mainGlobals, o) :: r2)))
def saysT (tb : List (PySem.W.Frag → Addr)) (fl : List (List FrB)) (fn : List (PySem.W.Frag → Addr)) (vs : List FV) (h : Heap) : Prop :=
  ∃ K : PySem.W.Frag, K.In h ∧ (∀ t ∈ tb, h.get? (t K) = some { cls := .none, data := .fields #[] }) ∧ lookB fl fn K = (true, vs)
def hookBT (lo : Nat) (tb : List (PySem.W.Frag → Addr)) (fl : List (List FrB)) (fn : List (PySem.W.Frag → Addr)) (vs : List FV) : PySem.W.Hook where
  α := AlHT
  obs := fun s => obsBT lo tb fl fn s.heap.objs.size s.heap.get?
  val := fun _ => (true, (true, (true, vs)))
  says := fun _ h => saysT tb fl fn vs h
  of := fun w s e => by
    unfold obsBT at e
    cases h : s.heap.get? mainGlobals with
    | none => rw [h] at e; cases (Prod.mk.inj e).1
    | some o =>
      rw [h] at e
      simp only [frK_eq, frNats_eq] at e
      obtain ⟨e1, e2⟩ := Prod.mk.inj e
      obtain ⟨e2, e3⟩ := Prod.mk.inj e2
      have e2 := of_decide_eq_true e2
      refine ⟨_, ?_, ?_, e3⟩
      · intro a x hx
        rw [List.lookup_cons] at hx
        split at hx
        · rename_i z
          have z : a = mainGlobals := by simpa using z
          rw [z, h]; exact hx
        · exact lessG_of (He.frG_at _ hx)
      · intro t ht
        exact tabO_ok (List.all_eq_true.mp e1 _ (memT e2 ht))
  keeps := fun _ _ _ ⟨K, hK, ht, c⟩ k => ⟨K, PySem.W.Frag.In.keeps hK k, fun t m => k _ _ (ht t m), c⟩
def obTT (lo : Nat) (tb : List (PySem.W.Frag → Addr)) (fl : List (List FrB)) (fn : List (PySem.W.Frag → Addr)) (s : PySem.W.SharedT) : AlHT := obsBT lo tb fl fn s.n (HandSHeadRun.getT s)
theorem obTT_eq (lo : Nat) (tb : List (PySem.W.Frag → Addr)) (fl : List (List FrB)) (fn : List (PySem.W.Frag → Addr)) (vs : List FV) (s : PySem.W.SharedT) : obTT lo tb fl fn s = (hookBT lo tb fl fn vs).obs s.abs := by
  have e : HandSHeadRun.getT s = s.abs.heap.get? := funext fun a => HandSHeadRun.getT_eq s a
  have e2 : s.abs.heap.objs.size = s.n := PySem.W.absHeap_size s.tree s.n s.life
  show obsBT lo tb fl fn s.n (HandSHeadRun.getT s) = obsBT lo tb fl fn s.abs.heap.objs.size s.abs.heap.get?
  rw [e, e2]
/-- what the law's row wants, of the law's promise, where lambdas are made -/
theorem walk_ofHT {l : PySem.W.OpenLaw} {n k : Nat} {q : Program} {loose : List Str} {XP : (Str → Option Value) → Heap → Prop} {YP : World → Heap → Prop} {d : DefRec} {CX : World → CXT} {sp : PySem.W.Frag → Sp} {x : Str}
    (most : l.most = some n) (few : n ≤ sizeLine) (plain : d.params.defaults = []) (room : Room k callerA)
    (F : ∀ (w : World) (mg : Str → Option Value) (fa : Addr) (h : Heap), YP w h → h.Ns mainGlobals mg → mg d.name = some (.ref fa) →
      ∃ K : PySem.W.Frag, K.In h ∧ ∃ (fd : FuncData) (cs : List (Addr × Addr)), (∀ p ∈ cs, h.get? p.2 = some { cls := .none, data := .fields #[] }) ∧ (∀ p ∈ cs, K.lookup p.2 = none) ∧ (∀ p ∈ cs, PySem.W.CodeHd h p.1 p.2) ∧
        (∀ (H : Hp) (a : Addr) (ns : List Int), ns.length ≤ n → (∀ p ∈ cs, H p.2 = some (.tbl #[])) → SqL K H a (ns.map V.int) → sp K [.ref a] H (fun v _ => v = .bl true) fun _ _ _ => False) ∧
        (∀ (s : Shared) (u : Value), BindsTo s fd ⟨[u], []⟩ [(x, u)]) ∧ ∀ base : Heap, K.In base → base.Ns mainGlobals mg → (∀ p ∈ cs, LamX.TabB base mg p.1 p.2) → FnG l.prog w K mg base (CX w) k fa fd [x] (sp K))
    (clean : ∀ (w : World) (H : Hp) (s : Shared) (e : Value) (s' : Shared), CX w [] H s (fun _ _ _ => False) e s' → False) : PySem.W.WalkO q loose XP YP l.row.toRowW d [] (fun f vs => PySem.call f vs) := by
  apply Att.attach_call most plain
  intro w s0 s1 mg mb fa o pm cd doc a vs ns G Y there is_fn code name script whole short bare
  obtain ⟨K, kin, fd, cs, empty, outside, codes, asked, binds, promise⟩ := F w mg fa _ Y G.T.g name
  exact lawT_call kin G.T.g G.T.b G.T.builtins G.T.nolimit bare empty outside codes G.T.bmain script whole (Nat.le_trans short few) room promise binds (fun H t q => asked H a ns short t q) fun H e s' => clean w H s1 e s'
end L3

namespace L3
open PySem PySem.Spec PyProof.Rows L2
/-! ### isinstance(e, (C, D, ..)), e an error that is kept as a cell -/
section
variable {X : Cx}
def rIsKT (K : PySem.W.Frag) : List V → Hp → VK → Prop := fun xs H Q => ∃ (a tp C : Addr) (oe : Obj) (d : Option Addr) (cs : List V) (us : List Value) (b : Bool), xs = [.ref a, .ref tp] ∧ SqT K H tp cs ∧ H a = some (ExK a oe) ∧ ErC K C ∧ Zc (.ref C) d oe ∧ (∃ vs, oe.data = .fields vs) ∧
  (∀ ws, Vals cs ws → ws = us) ∧ PySem.W.kitAny K (.ref C) us = some b ∧ (d = none ∨ ∃ dd gs, d = some dd ∧ H dd = some (.xd gs)) ∧ Q (.bl b) H
theorem call_isKT : CallR X (.builtin "isinstance") (rIsKT X.K) := by
  intro pins s σ H xs us Q I r h
  obtain ⟨a, tp, C, oe, d, cs, ws, b, rfl, hT, hA, T, hz, hf, one, e, hd, q⟩ := h
  cases r with
  | cons rx rr =>
    cases rr with
    | cons rt rr =>
      cases rr
      cases rx
      cases rt
      obtain ⟨its, rv, ⟨o, at_t, cls_t, n, dat_t⟩, _⟩ := I.tuple hT
      have e3 := one _ rv
      subst e3
      obtain ⟨oc, od, dt, sl⟩ := o
      simp only at cls_t dat_t
      subst cls_t dat_t
      have hget : s.heap.get? a = some oe := (I.hok a _ hA).1
      obtain ⟨vs, hv⟩ := hf
      obtain ⟨oc, od2, oda, osl⟩ := oe
      obtain ⟨h1, h2⟩ := hz
      dsimp only at h1 h2 hv
      subst h1 h2 hv
      have J : ∃ ob, PySem.W.InstAt s.heap a ⟨.ref C, od2, .fields vs, osl⟩ C ob := by
        rcases hd with rfl | ⟨dd, gs, rfl, hx⟩
        · exact ⟨none, hget, rfl, rfl, trivial⟩
        · obtain ⟨mA, hns, _⟩ := (show ObjOk X.prog X.w H s.heap dd (.xd gs) from I.hok dd _ hx)
          obtain ⟨o, ho, _⟩ := lookIn_ns hns
          exact ⟨some o, hget, rfl, rfl, ho⟩
      obtain ⟨ob, J⟩ := J
      exact PySem.W.kia_tup (PySem.W.kitx_exc T.cl T.ga T.gg T.sb T.ca T.cg T.tk T.ob) I.kIn J at_t e (fun z => nomatch z) fun tk => ⟨.bl b, H, I.kept (t' := tk) fun _ _ z => z, rfl, q⟩
end
/-- what the classes say of an error of the class n -/
def oneK (tb : List ((Str × Str) × Bool)) (tt : List ((Str × String) × Bool)) (n : Str) : D → Option Bool
  | .cls c => tb.lookup (n, c)
  | .ty c => tt.lookup (n, c)
  | _ => none
def anyK (tb : List ((Str × Str) × Bool)) (tt : List ((Str × String) × Bool)) (n : Str) : List D → Option Bool
  | [] => some false
  | d :: r => match oneK tb tt n d, anyK tb tt n r with
    | some x, some y => some (x || y)
    | _, _ => none
section
variable {K : PySem.W.Frag} {B : Bs}
theorem oneK_kit {tb : List ((Str × Str) × Bool)} {tt : List ((Str × String) × Bool)} (T : KitTab K tb tt) {n : Str} {C : Addr} (ca : ClsAt K n C) {d : D} {P : Hp} {al : List Addr} {v : V} {b : Bool} (r : Rep K P al d v) (e : oneK tb tt n d = some b) :
    ErC K C ∧ ∃ u, (∀ w, RelV v w → w = u) ∧ PySem.W.kitOne K (.ref C) u = some b := by
  unfold oneK at e
  split at e
  · rename_i c
    obtain ⟨C', Cc, c1, c2, er, kit⟩ := T.cls _ _ _ e
    obtain rfl := ca.one c1
    cases r with
    | cls cc =>
      obtain rfl := cc.one c2
      exact ⟨er, _, fun w h => by cases h; rfl, kit⟩
  · rename_i c
    obtain ⟨C', c1, er, kit⟩ := T.tys _ _ _ e
    obtain rfl := ca.one c1
    cases r
    exact ⟨er, _, fun w h => h, kit⟩
  · cases e
theorem anyK_kit {tb : List ((Str × Str) × Bool)} {tt : List ((Str × String) × Bool)} (T : KitTab K tb tt) {n : Str} {C : Addr} (ca : ClsAt K n C) {P : Hp} {al : List Addr} : ∀ {ds : List D} {vs : List V} {b : Bool}, Reps K P al ds vs → anyK tb tt n ds = some b →
    ∃ us, (∀ ws, Vals vs ws → ws = us) ∧ PySem.W.kitAny K (.ref C) us = some b := by
  intro ds
  induction ds with
  | nil => intro vs b r e; cases r; exact ⟨[], fun ws h => by cases h; rfl, e⟩
  | cons d l ih =>
    intro vs b r e
    cases r with
    | cons r1 t =>
      unfold anyK at e
      split at e
      · rename_i x y hx hy
        obtain ⟨_, u, hu, kit⟩ := oneK_kit T ca r1 hx
        obtain ⟨us, hus, kits⟩ := ih t hy
        refine ⟨u :: us, fun ws h => ?_, ?_⟩
        · cases h with
          | cons h1 h2 => rw [hu _ h1, hus _ h2]
        · unfold PySem.W.kitAny
          rw [kit]
          cases x with
          | true => exact e
          | false => rw [Bool.false_or] at e; rw [← e]; exact kits
      · cases e
@[irreducible] def cIsKT (tb : List ((Str × Str) × Bool)) (tt : List ((Str × String) × Bool)) : WCl := fun ds M R => match ds with
  | [.cel i, .tup (c :: cs)] => match M[i]? with
    | some (.ptp [.obj n _]) => match anyK tb tt n (c :: cs) with
      | some r => R (.bl r) M
      | none => False
    | _ => False
  | _ => False
theorem isKT_use {tb : List ((Str × Str) × Bool)} {tt : List ((Str × String) × Bool)} {M : Mt} {i : Nat} {n : Str} {c : D} {cs : List D} {fs : List (Str × D)} {r : Bool} {R : D → Mt → Prop} (h : M[i]? = some (.ptp [.obj n fs])) (hl : anyK tb tt n (c :: cs) = some r) (k : R (.bl r) M) : cIsKT tb tt [.cel i, .tup (c :: cs)] M R := by
  unfold cIsKT
  simp only [h, hl]; exact k
theorem cIsKT_ok {tb : List ((Str × Str) × Bool)} {tt : List ((Str × String) × Bool)} (T : KitTab K tb tt) : CallD K B (rIsKT K) (cIsKT tb tt) := by
  intro P al M env σ H vs ds R Q rs r h L
  unfold cIsKT at h
  split at h
  · rename_i i c cs
    cases r with
    | cons r1 t => cases t with
      | cons r2 t =>
        cases t
        split at h
        · rename_i n fs hm
          split at h
          · rename_i z hl
            obtain ⟨a, C, d, oe, rfl, hA, ca, hz, hf, h5⟩ := ex_at rs.toRS0 hm r1
            cases r2 with
            | tup q rr =>
              obtain ⟨us, one, kit⟩ := anyK_kit T ca rr hl
              have hE : ErC K C := by
                cases rr with
                | cons r3 _ =>
                  unfold anyK at hl
                  split at hl
                  · rename_i x y hx hy
                    exact (oneK_kit T ca r3 hx).1
                  · cases hl
              refine ⟨a, _, C, oe, d, _, us, z, rfl, same_seqT rs.same q, hA, hE, hz, hf, one, kit, ?_, L.here rs (.bl _) h⟩
              rcases h5 with ⟨h, _⟩ | ⟨dd, gs, h1, h3, _⟩
              · exact .inl h
              · exact .inr ⟨dd, gs, h1, h3⟩
          · exact h.elim
        · exact h.elim
  · exact h.elim
end
end L3

namespace L3
open PySem PySem.Spec PyProof.Rows L2
/-! ### defs (a, b, c, **fields) -/
theorem bind_kw3 {name qual p1 p2 p3 pd : Str} {body : List Stmt} {scope : Scope} {dV kV doc pm cdv ct : Value} {an : Option Addr} {params : Arguments} (h1 : params.posonlyargs = []) (h2 : params.args.map (·.arg) = [p1, p2, p3]) (h3 : params.kwonlyargs = []) (h4 : params.vararg = none) (h5 : params.kwarg.map (·.arg) = some pd) (hd : dV = .none)
    (n12 : (p2 == p1) = false) (n13 : (p3 == p1) = false) (n23 : (p3 == p2) = false) (v1 v2 v3 : Value) (kw : List (Str × Value)) (hk : ∀ x ∈ kw, ([p1, p2, p3] : List Str).contains x.1 = false) (hz : kw.length ≤ sizeLine) :
    bindArgs (PySem.W.fnOf name qual params body scope dV kV doc pm an cdv ct) ⟨[v1, v2, v3], kw⟩ =
      (do let d ← (alloc ({ cls := .type "dict", data := .dict #[] } : Obj) : Sem Addr)
          forIn kw PUnit.unit fun x _ => (nsSet d x.1 x.2 >>= fun _ => pure (ForInStep.yield PUnit.unit))
          pure [(p1, v1), (p2, v2), (p3, v3), (pd, .ref d)]) := by
  obtain ⟨po, ar, va, ko, kd, ka, df⟩ := params
  simp only at h1 h2 h3 h4 h5
  subst h1 h3 h4 hd
  obtain ⟨a, b, c, rfl⟩ : ∃ a b c, ar = [a, b, c] := by
    match ar, h2 with
    | [a, b, c], _ => exact ⟨a, b, c, rfl⟩
  simp only [List.map_cons, List.map_nil, List.cons.injEq, and_true] at h2
  obtain ⟨e1, e2, e3⟩ := h2
  subst e1 e2 e3
  cases ka with
  | none => cases h5
  | some ka =>
    have h5 : ka.arg = pd := by simpa using h5
    subst h5
    unfold bindArgs
    simp only [PySem.W.fnOf]
    rw [forIn_yield _ (fun b x => (b.1, b.2 ++ [(x.1, x.2)])) kw _ (fun x hx q => by
      have hc : (([a, b, c].map (fun x => x.arg)).contains x.1 || (([] : List Arg).map (fun x => x.arg)).contains x.1) = true → False := fun h => by
        have := hk x hx
        simp only [List.map_cons, List.map_nil, List.contains_nil, Bool.or_false] at h
        rw [h] at this; cases this
      rw [if_neg hc]; rfl)]
    rw [fold_ext]
    have hz' : (kw.length > sizeLine + 1) = False := eq_false (by omega)
    have hs : seqItems? Value.none = pure none := rfl
    simp only [pure_bind, List.nil_append, hz', if_false, hs]
    simp [List.lookup, n12, n13, n23]
section
variable {CX : CXT} {P : Program} {w : World} {K : PySem.W.Frag} {mg : Str → Option Value} {base : Heap} {k : Nat} {f : Addr} {name qual : Str} {params : Arguments} {body : List Stmt} {scope : Scope} {kV doc pm cdv ct oc : Value} {an od : Option Addr}
  {osl : Array (Option Value)} {N ps : List Str} {pd : Str} {sp : Sp}
theorem fn_kwdN (lk : K.lookup f = some ⟨oc, od, .func (PySem.W.fnOf name qual params body scope .none kV doc pm an cdv ct), osl⟩) (hcd : PySem.W.codeIn K cdv qual = true) (S : FnScope N (ps ++ [pd]) scope) (hCX : StX.CXUp CX)
    (hbi : ∀ (us : List Value) (kw : List (Str × Value)), us.length = ps.length → (∀ x ∈ kw, ps.contains x.1 = false) → kw.length ≤ sizeLine → bindArgs (PySem.W.fnOf name qual params body scope .none kV doc pm an cdv ct) ⟨us, kw⟩ =
      (do let d ← (alloc ({ cls := .type "dict", data := .dict #[] } : Obj) : Sem Addr)
          forIn kw PUnit.unit fun x _ => (nsSet d x.1 x.2 >>= fun _ => pure (ForInStep.yield PUnit.unit))
          pure (ps.zip us ++ [(pd, .ref d)])))
    (hbody : ∀ (A : Around) (outer : List Env) (s : Shared) (H : Hp) (vs : List V) (Q : VK) (E : XK), Room k (A.deeper (envOfC qual scope s.heap.objs.size f cdv)) → sp vs H Q E →
      ∃ t, PSs (cxOf CX P w K mg base N qual scope f cdv A outer s H E) body t ∧ t { nx := fun _ H' => Q .non H', rt := Q } (start N vs) H) :
    FnW P w K mg base CX (k + 1) f (fun vs kvs H Q E => vs.length = ps.length ∧ (kvs.map (·.1)).Nodup ∧ (∀ x ∈ kvs, ps.contains x.1 = false) ∧ kvs.length ≤ sizeLine ∧ ∀ d, H d = Option.none → sp (vs ++ [.ref d]) (upd H d (.dK (kvs.map keyS))) Q E) := by
  intro A outer s H us vs kws kvs Q E hr e0 r rk hsp
  obtain ⟨hl, hn, hne, hz, hq⟩ := hsp
  have hul : us.length = ps.length := by rw [← r.length]; exact hl
  have hnm := kv_names rk
  have hn' : (kws.map (·.1)).Nodup := by rw [← hnm]; exact hn
  have hz' : kws.length ≤ sizeLine := by rw [← kv_len rk]; exact hz
  have hne' : ∀ x ∈ kws, ps.contains x.1 = false := fun x hx => by
    have : x.1 ∈ kvs.map (·.1) := by rw [hnm]; exact List.mem_map_of_mem hx
    obtain ⟨y, hy, e⟩ := List.mem_map.mp this
    rw [← show y.1 = x.1 from e]; exact hne y hy
  have hd : H s.heap.objs.size = Option.none := e0.hok.fresh (Nat.le_refl _)
  refine StX.run_bnd (ps := ps ++ [pd]) lk hcd S hr e0 (G := fun xs H2 => ∃ d, H d = Option.none ∧ xs = vs ++ [V.ref d] ∧ H2 = upd H d (.dK (kvs.map keyS))) (fun A' Ex Q' h => ?_) fun s2 H2 xs ⟨d, hd, ex, eH⟩ hr' => ?_
  · rw [hbi us kws hul hne' hz']
    obtain ⟨hp, g, dr, tk, os⟩ := s
    refine wpAny_bind (wpAny_alloc (wpAny_bind (kw_fill kws [] 0 tk (fun _ z => nomatch z) (fun _ z => nomatch z) hn' (wpAny_pure ?_))))
    have new := kw_dict (P := P) (w := w) (H := upd H hp.objs.size (.dK (kvs.map keyS))) (hp := hp) tk (0 + kws.length) (StX.env0_big e0) rk hn' hz'
    have e1 : Env0 P w K mg base A outer ⟨hp.push (PySem.W.dictOf (PySem.W.kwEs w.params tk kws) (0 + kws.length)), g, dr, tk, os⟩ (upd H hp.objs.size (.dK (kvs.map keyS))) := StX.env0_laid (s := ⟨hp, g, dr, tk, os⟩) e0 new
    have e2 : Env0 P w K mg base A outer ⟨hp.push (PySem.W.dictOf (PySem.W.kwEs w.params tk kws) (0 + kws.length)), g, dr, tk + kws.length, os⟩ (upd H hp.objs.size (.dK (kvs.map keyS))) := ⟨e1.frames, e1.mod, e1.bs, e1.bsz, e1.funs, e1.frf, e1.hok, e1.bare⟩
    have un := StX.un_laid (fs := frs outer) (s := ⟨hp, g, dr, tk, os⟩) (o := PySem.W.dictOf (PySem.W.kwEs w.params tk kws) (0 + kws.length)) (u := .dK (kvs.map keyS)) hd
    have z := h ⟨hp.push (PySem.W.dictOf (PySem.W.kwEs w.params tk kws) (0 + kws.length)), g, dr, tk + kws.length, os⟩ _ (vs ++ [V.ref hp.objs.size]) (us ++ [Value.ref hp.objs.size]) e2 un rfl
      (fun e s' => hCX outer ⟨hp, g, dr, tk, os⟩ H _ _ E e s' un (fun b o q => Heap.get?_push_of_some _ q) rfl) (r.append (.cons rfl .nil)) (by simp [hl]) ⟨_, hd, rfl, rfl⟩
    rw [List.zip_append (by rw [hul])] at z
    exact z
  · subst ex eH
    exact hbody A outer s2 _ _ Q E hr' (hq d hd)
end
/-- what a def(a, .., **fields) promises: dsp of the values and the dict of keywords -/
def spKwN (K : PySem.W.Frag) (ps : List Str) (dsp : DSp) : List V → List (Str × V) → Hp → VK → XK → Prop := fun vs kvs H Q E =>
  vs.length = ps.length ∧ (kvs.map (·.1)).Nodup ∧ (∀ x ∈ kvs, ps.contains x.1 = false) ∧ kvs.length ≤ sizeLine ∧ ∀ d, H d = Option.none → toSp K dsp (vs ++ [.ref d]) (upd H d (.dK (kvs.map keyS))) Q E
section
variable {P : Program} {w : World} {K : PySem.W.Frag} {mg : Str → Option Value} {base : Heap}
theorem dfnK3 {x qual p1 p2 p3 pd : Str} {st : Stmt} {f : Addr} {fd : FuncData} {N : List Str} {k : Nat} {sp : DSp} {wb : RXe → WS} (F : Fun K x qual st f fd) (S : FnScope N [p1, p2, p3, pd] (defScope st))
    (h1 : (defArgs st).posonlyargs = []) (h2 : (defArgs st).args.map (·.arg) = [p1, p2, p3]) (h3 : (defArgs st).kwonlyargs = []) (h4 : (defArgs st).vararg = none) (h5 : (defArgs st).kwarg.map (·.arg) = some pd) (n12 : (p2 == p1) = false) (n13 : (p3 == p1) = false) (n23 : (p3 == p2) = false)
    (body : ∀ (cdv : Value) (A : Around) (outer : List Env) (s : Shared) (H : Hp) (E : XK), Room k (A.deeper (envOfC qual (defScope st) s.heap.objs.size f cdv)) → ∀ (B : Bs) (RX : RXe), Takes (cxOf (L2.CX P w) P w K mg base N qual (defScope st) f cdv A outer s H E) (WL K B RX) → DSs B (cxOf (L2.CX P w) P w K mg base N qual (defScope st) f cdv A outer s H E) (defBody st) (wb RX))
    (hw : ∀ ds M R RX, sp ds M R RX → M.all (cellOk M.length) = true → noCels M.length ds = true → wb (fun nm fs _ M' => rxF M.length RX nm fs M') (fnEnds M.length R) (startE N.length ds) M) :
    FnW P w K mg base (L2.CX P w) (k + 1) f (spKwN K [p1, p2, p3] sp) := by
  obtain ⟨oc, od, kV, doc, pm, an, cdv, ct, osl, rfl, lk, hcd⟩ := F.ex
  exact fn_kwdN (ps := [p1, p2, p3]) lk hcd S StX.cxUp (fun us kw hl hk hz => match us, hl with
    | [v1, v2, v3], _ => bind_kw3 h1 h2 h3 h4 h5 rfl n12 n13 n23 v1 v2 v3 kw hk hz) fun A outer s H vs Q E hr h => bodyX h (fun B RX => body cdv A outer s H E hr B RX) hw
end
/-! ### C.m(e, .., k = v, ..), m a class method (cls, a, .., **fields); cls(e, ..) -/
section
variable {X : Cx} {B : Bs} {CX : CXT} {k i : Nat} {f C : Addr} {sp : DSp} {n x m : Str} {p p2 pos apos : Pos} {e o : Expr} {es : List Expr} {was wks : WA} {we wo : WE} {RX : RXe} {kws : List Keyword} {names ps : List Str}
theorem run_atW {sp : List V → List (Str × V) → Hp → VK → XK → Prop} {E : XK} {pins : List (Addr × Obj)} {σ : L2.St} {H : Hp} {s : Shared} {Q : VK} {us : List Value} {vs : List V} {zs : List (Str × Value)} {kvs : List (Str × V)} (F : FnW X.prog X.w X.K X.mg X.base CX k f sp) (hr : Room k X.A) (hx : PassesAt CX X σ E) (I : Inv X pins σ H s) (r : Vals vs us) (rk : KV kvs zs) (h : sp vs kvs H Q E) :
    codeAny (model X.prog X.w) X.A (.call (.ref f) ⟨us, zs⟩) (fun r s' => match r with
      | .ok (.ret v) => EP X pins σ Q v s'
      | .ok _ => False
      | .error e => X.xe e s') s := by
  refine codeAny_mono (F X.A X.stack s H us vs zs kvs Q E hr I.env0 r rk h) ?_
  intro r s' hq
  match r, hq with
  | .error e, hq => exact hx pins H s e s' I hq
  | .ok (.ret u), hq => exact I.after hq
  | .ok .next, hq => exact hq.elim
  | .ok .brk, hq => exact hq.elim
  | .ok .cont, hq => exact hq.elim
def wCMethK (n : Str) (ps names : List Str) (sp : DSp) (RX : RXe) (wo : WE) (was wks : WA) : WE := fun env M R => wo env M fun o M1 => match o with
  | .cls n' => Need (n' = n) ∧ was env M1 fun ds M2 => wks env M2 fun kds M3 => Need (ds.length + 1 = ps.length ∧ kds.length = names.length) ∧
      sp (.cls n :: ds ++ [.dct ((names.zip kds).map fun p => (Sum.inr p.1, p.2))]) M3 R fun n fs M' => RX n fs env M'
  | _ => False
theorem sp_kwN {K : PySem.W.Frag} {P : Hp} {al : List Addr} {M : Mt} {env : Ev} {σ : L2.St} {H : Hp} {R : D → Mt → Prop} {Q : VK} {ks : List (Key × D)} {ds : List D} {vs : List V} {kvs : List (Str × V)} (rs : RS K B P al M env σ H) (r : Reps K P al ds vs) (rk : RepKs K P al ks (kvs.map keyS)) (L : Lift K B P al env σ H R Q)
    (hl : ds.length = ps.length) (hn : (kvs.map (·.1)).Nodup) (hp : ∀ z ∈ kvs, ps.contains z.1 = false) (hz : kvs.length ≤ sizeLine) (h : sp (ds ++ [.dct ks]) M R fun n fs M' => RX n fs env M') : spKwN K ps sp vs kvs H Q (L2.WE (WL K B RX) σ) := by
  refine ⟨by rw [← r.length]; exact hl, hn, hp, hz, fun d hd => ?_⟩
  obtain ⟨e1, r1⟩ := rs.toRS0.alloc hd (.dK (kvs.map keyS))
  exact sp_at (rs.step e1 r1) ((r.mono e1.pp e1.pre).append (.cons (.dct upd_same (rk.mono e1.pp e1.pre)) .nil)) (L.after e1) h
theorem d_cmethK {mc : Value} {q g : Addr} {pl : Sem Bool} (ca : ClsAt X.K n C) (ho : DE B X o wo) (r : ClX.CRead X.K C mc) (c : ClX.CMet X.K C mc m q g) (F : FnW X.prog X.w X.K X.mg X.base CX k g (spKwN X.K ps sp)) (hr : Room k X.A) (hx : Rz X B CX RX) (ha : DA B X (e :: es) was) (hkw : DK B X kws wks)
    (hn : names.Nodup) (hp : ∀ z ∈ names, ps.contains z = false) (hz : names.length ≤ 1000)
    (hall : (backToKw pos (keywordEach kws X.env)).all (·.1.isSome) = true := by rfl) (hks : (backToKw pos (keywordEach kws X.env)).filterMap (·.1) = names := by rfl)
    (hst : starEach (e :: es) X.env = (false, eval e X.env) :: starEach es X.env := by rfl) (hpl : ((backTo pos (starEach (e :: es) X.env)).any (·.1) || (backToKw pos (keywordEach kws X.env)).any (·.1.isNone)) = false := by rfl)
    (ht : eval (.Call (.Attribute o m apos) (e :: es) kws pos) X.env = (do
      let ov ← eval o X.env
      standAt apos.atName
      let (f, fst) ← holding [ov] (getMethod ov m pl)
      callWith pos f fst (backTo pos (starEach (e :: es) X.env)) (backToKw pos (keywordEach kws X.env))) := by rfl) : DE B X (.Call (.Attribute o m apos) (e :: es) kws pos) (wCMethK n ps names sp RX wo was wks) := by
  refine ⟨fun pins s σ H Q I h => ?_⟩
  obtain ⟨P, al, M, env, R, rs, hw, L⟩ := h
  refine PySem.W.methodCall_KW (pl := pl) (thn (ho.run pins s σ H (fun x H1 => x = .ref C ∧ tDA X.K B was σ H1 fun vs H2 => tDA X.K B wks σ H2 fun zs H3 => zs.length = names.length ∧ spKwN X.K ps sp (.ref C :: vs) (names.zip zs) H3 Q (L2.WE (WL X.K B RX) σ)) I ⟨P, al, M, env, _, rs, hw, fun d M1 v H1 P1 al1 e1 rs1 r1 q => ?_⟩) fun u s1 ⟨x, H1, I1, rx, ex, q⟩ => ?_) ht
  · split at q
    · obtain ⟨hn1, q⟩ := q
      have hn1 := hn1.out
      subst hn1
      cases r1 with
      | cls c2 =>
        obtain rfl := ca.one c2
        refine ⟨rfl, P1, al1, M1, env, _, rs1, q, fun ds M2 vs H2 P2 al2 e2 rs2 r2 q2 => ⟨P2, al2, M2, env, _, rs2, q2, fun kds M3 zs H3 P3 al3 e3 rs3 r3 q3 => ?_⟩⟩
        obtain ⟨h4, q3⟩ := q3
        obtain ⟨h4, h5⟩ := h4.out
        have h6 : zs.length = names.length := by rw [← r3.length]; exact h5
        have hz1 : (names.zip zs).map (·.1) = names := by rw [List.map_fst_zip (by omega)]
        refine ⟨h6, sp_kwN rs3 (.cons (.cls ca) (r2.mono e3.pp e3.pre)) (zip_keys r3) (L.after (e1.trans (e2.trans e3))) (by simpa using h4) (by rw [hz1]; exact hn) (fun z hz2 => hp _ ?_) (Nat.le_trans (by rw [List.length_zip]; omega) (by decide : 1000 ≤ sizeLine)) q3⟩
        rw [← hz1]; exact List.mem_map_of_mem hz2
    · exact q.elim
  · subst ex
    cases rx
    refine ClX.getmethcm_ok I1 r c fun s2 I2 => ?_
    refine PySem.W.callWith_of hpl (PySem.W.keeps_M (K := X.K) c.fi) (evalArgs_kw2 hall (thn (ha.run pos _ s2 σ H1 _ I2 q) fun us s3 ⟨vs, H2, I3, rv, q2⟩ => thn (hkw.run pos _ s3 σ H2 _ I3 q2) fun ws s4 ⟨zs, H3, I4, rz, l1, q3⟩ => ⟨⟨ClX.pin_at I4, I4.kIn⟩, ?_⟩) hst)
    rw [hks]
    have z := wpAny_call (PySem.W.method_call (ClX.pin_at I4) (run_atW (us := .ref C :: us) (vs := .ref C :: vs) F hr (hx σ) I4 (.cons rfl rv) (zip_kv rz) q3))
    exact thn z fun _ _ y => ClX.unpinE y
/-- cls(e, ..), the i-th slot a class, no star -/
theorem d_mkLP (ca : ClsAt X.K n C) (Mc : Mk X.K C f) (F : FnR X.prog X.w X.K X.mg X.base CX k f (toSp X.K sp)) (hr : Room (k + 1) X.A) (hx : Rz X B CX RX) (hN : X.N[i]? = some x) (hv : Vis X.env.scope x) (ha : DA B X (e :: es) was)
    (hdb : (x == ("__debug__" : Str)) = false := by decide) (hcd : (x == ("__classdict__" : Str)) = false := by decide)
    (he : starEach (e :: es) X.env = (false, eval e X.env) :: starEach es X.env := by rfl) (hpl : (backTo pos (starEach es X.env)).any (·.1) = false := by rfl) : DE B X (.Call (.Name x p) (e :: es) [] pos) (wMkL i n sp RX was) := by
  refine ⟨fun pins s σ H Q I h => ?_⟩
  obtain ⟨P, al, M, env, R, rs, hw, L⟩ := h
  unfold wMkL at hw
  split at hw
  · rename_i n' en
    obtain ⟨hn, hw⟩ := hw
    have hn := hn.out
    subst hn
    obtain ⟨v, h1, h2⟩ := rs.slot i _ en
    cases h2 with
    | cls c2 =>
      obtain rfl := ca.one c2
      refine wpAny_Call_Name_kw (thn ((pe_var (pos := p) hN hv hdb hcd).run pins s σ H (fun v H1 => v = .ref C ∧ H1 = H) I ⟨.ref C, h1, rfl, rfl⟩) fun u s1 ⟨v, H1, I1, r1, q1⟩ => ?_)
      obtain ⟨rfl, rfl⟩ := q1
      cases r1
      refine PySem.W.callWith_K (h₀ := X.base) I.ok.mod.kin Mc.kp (thn (ha.run pos pins s1 σ _ (fun vs H1 => ∀ x dx, H1 x = none → H1 dx = none → dx ≠ x → toSp X.K sp (V.ref x :: vs) (upd (upd H1 dx (.own x)) x (.ins C dx [])) (fun v H2 => v = .non ∧ Q (.ref x) H2) (L2.WE (WL X.K B RX) σ)) I1 ⟨P, al, M, env, _, rs, hw, fun ds M1 vs H1 P1 al1 e1 rs1 r1 q x dx hx hd ne => mk_sp ca rs1 r1 (L.after e1) hx hd ne (fun _ _ h => ⟨h.1, .inr h.2⟩) q⟩) fun us s2 ⟨vs, H2, I2, r, q⟩ => ⟨I2.kIn, ?_⟩) he hpl
      exact make_at Mc F hr (hx σ) I2 r q
  · exact hw.elim
end
end L3

namespace L3
open PySem PySem.Spec PyProof.Rows L2
/-! ### an operator of which two readings are known -/
def oOrO (o1 o2 : WO2) : WO2 := fun x y M R => o1 x y M R ∨ o2 x y M R
theorem oOrO_ok {K : PySem.W.Frag} {B : Bs} {r1 r2 : R2} {o1 o2 : WO2} (h1 : OpD K B r1 o1) (h2 : OpD K B r2 o2) : OpD K B (fun x y H Q => r1 x y H Q ∨ r2 x y H Q) (oOrO o1 o2) := by
  intro P al M env σ H x y dx dy R Q rs rx ry h L
  rcases h with h | h
  · exact Or.inl (h1 P al M env σ H x y dx dy R Q rs rx ry h L)
  · exact Or.inr (h2 P al M env σ H x y dx dy R Q rs rx ry h L)
end L3

namespace L3
open PySem PySem.Spec PyProof.Rows L2
/-! ### what stands within a table stands within a longer one -/
section
variable {n m : Nat}
mutual
theorem noCel_mono (h : n ≤ m) : ∀ d : D, noCel n d = true → noCel m d = true
  | .non, _ => rfl
  | .bl _, _ => rfl
  | .int _, _ => rfl
  | .str _, _ => rfl
  | .ty _, _ => rfl
  | .adr _, _ => rfl
  | .cls _, _ => rfl
  | .tup l, e => by unfold noCel at e ⊢; exact noCels_mono h l e
  | .ptp l, e => by unfold noCel at e ⊢; exact noCels_mono h l e
  | .lst l, e => by unfold noCel at e ⊢; exact noCels_mono h l e
  | .rol l, e => by unfold noCel at e ⊢; exact noCels_mono h l e
  | .dct l, e => by unfold noCel at e ⊢; exact noCelK_mono h l e
  | .fdc l, e => by unfold noCel at e ⊢; exact noCelK_mono h l e
  | .obj _ l, e => by unfold noCel at e ⊢; exact noCelF_mono h l e
  | .cel i, e => by
    unfold noCel at e ⊢
    have := of_decide_eq_true e
    exact decide_eq_true (Nat.lt_of_lt_of_le this h)
theorem noCels_mono (h : n ≤ m) : ∀ l : List D, noCels n l = true → noCels m l = true
  | [], _ => rfl
  | d :: r, e => by
    unfold noCels at e ⊢
    rw [Bool.and_eq_true] at e ⊢
    exact ⟨noCel_mono h d e.1, noCels_mono h r e.2⟩
theorem noCelK_mono (h : n ≤ m) : ∀ l : List (Key × D), noCelK n l = true → noCelK m l = true
  | [], _ => rfl
  | (_, d) :: r, e => by
    unfold noCelK at e ⊢
    rw [Bool.and_eq_true] at e ⊢
    exact ⟨noCel_mono h d e.1, noCelK_mono h r e.2⟩
theorem noCelF_mono (h : n ≤ m) : ∀ l : List (Str × D), noCelF n l = true → noCelF m l = true
  | [], _ => rfl
  | (_, d) :: r, e => by
    unfold noCelF at e ⊢
    rw [Bool.and_eq_true] at e ⊢
    exact ⟨noCel_mono h d e.1, noCelF_mono h r e.2⟩
end
theorem exOk_mono (h : n ≤ m) : ∀ l : List D, exOk n l = true → exOk m l = true
  | [.obj _ fs], e => noCelF_mono h fs e
  | [], _ => rfl
  | [.non], _ => rfl
  | [.bl _], _ => rfl
  | [.int _], _ => rfl
  | [.str _], _ => rfl
  | [.ty _], _ => rfl
  | [.adr _], _ => rfl
  | [.cls _], _ => rfl
  | [.tup _], _ => rfl
  | [.ptp _], _ => rfl
  | [.lst _], _ => rfl
  | [.rol _], _ => rfl
  | [.dct _], _ => rfl
  | [.fdc _], _ => rfl
  | [.cel _], _ => rfl
  | a :: b :: r, _ => by cases a <;> rfl
theorem cellOk_mono (h : n ≤ m) : ∀ d : D, cellOk n d = true → cellOk m d = true
  | .lst l, e => noCels_mono h l e
  | .dct l, e => noCelK_mono h l e
  | .obj _ l, e => noCelF_mono h l e
  | .ptp l, e => exOk_mono h l e
  | .non, _ => rfl
  | .bl _, _ => rfl
  | .int _, _ => rfl
  | .str _, _ => rfl
  | .ty _, _ => rfl
  | .adr _, _ => rfl
  | .cls _, _ => rfl
  | .tup _, _ => rfl
  | .rol _, _ => rfl
  | .fdc _, _ => rfl
  | .cel _, _ => rfl
theorem cellsOk_mono (h : n ≤ m) {M : Mt} (e : M.all (cellOk n) = true) : M.all (cellOk m) = true :=
  List.all_eq_true.mpr fun d hd => cellOk_mono h d (List.all_eq_true.mp e d hd)
end
end L3

namespace K20
open PySem PySem.Spec PyProof.Rows L2 L3
local macro_rules | `(tactic| walk_at "hyp") => `(tactic| try simp only [decide_eq_true_eq, decide_eq_false_iff_not, Bool.not_eq_true', Bool.not_eq_false', Int.not_lt, Int.not_le, Bool.false_eq_true, if_false, if_true, reduceIte, strIn_one, List.length_map] at *)
local macro_rules | `(tactic| walk_at "leaf") => `(tactic| (refine Need.mk ?_; first | exact rfl | ((try dsimp only); first | omega | decide | (simp only [List.length_map]; omega) | exact Nat.le_of_ble_eq_true rfl | (decide +kernel) | exact plain_ints _ | exact cdivw (by omega) (by omega) | exact cpow (by omega) (by omega) (by omega) (by omega) | exact cmul_l (by omega) (by omega) | exact cmul_r (by omega) (by omega) | (rw [line16]; omega) | (rw [line16]; simp only [List.length_cons, List.length_nil, List.length_map, List.length_append]; omega) | exact ⟨rfl, rfl⟩)))
local macro_rules | `(tactic| walk_at "call") => `(tactic| fail)
local macro_rules | `(tactic| walk_at "go") => `(tactic| ((conv => whnf); first
  | (refine And.intro ?_ ?_ <;> walk_at "go")
  | (intro h; first | (exact absurd h (by decide)) | (walk_at "hyp"; first | (exfalso; omega) | (exact absurd rfl ‹_›) | walk_at "go"))
  | walk_at "leaf"
  | exact rfl
  | walk_at "call"
  | (refine eqI_int ?_; walk_at "go")
  | (refine eqI_lnil rfl ?_ ?_ <;> walk_at "go")
  | (refine eqI_tnil rfl ?_ ?_ <;> walk_at "go")
  | (refine eqI_str ?_; walk_at "go")
  | (refine eqI_bl ?_; walk_at "go")
  | (refine eqI_0 ?_; walk_at "go")
  | (refine eqI_1 ?_; walk_at "go")
  | (refine eqI_2 ?_; walk_at "go")
  | (refine eqI_3 ?_; walk_at "go")
  | (refine eqI_4 ?_; walk_at "go")
  | (refine eqI_5 ?_; walk_at "go")
  | (refine eqI_6 ?_; walk_at "go")
  | (refine eqI_7 ?_; walk_at "go")
  | (refine eqI_8 ?_; walk_at "go")
  | (refine eqI_9 ?_; walk_at "go")
  | (refine eqI_10 ?_; walk_at "go")
  | (refine len_use rfl ?_; walk_at "go")
  | (refine len_tup rfl ?_; walk_at "go")
  | (refine Exists.intro _ (And.intro (fun _ _ h => h) ?_); walk_at "go")
  | skip))
def LET : Str := "abcdefghijklmnopqrstuvwxyz"
def DIG : Str := "0123456789"
def RES : List V := [.str "to", .str "if", .str "tag", .str "all", .str "none"]
def nmV (s : Str) : Bool := decide (1 ≤ (s.length : Int)) && decide ((s.length : Int) ≤ 8) && !inV (.str s) RES && (match s.cps.toList with
  | c :: _ => decide (c ∈ LET.cps.toList)
  | [] => false) && s.cps.toList.all fun c => decide (c ∈ LET.cps.toList) || decide (c ∈ DIG.cps.toList)
def isNm : D → Bool
  | .str s => nmV s
  | _ => false
def isNum (a b : Int) : D → Bool
  | .int i => decide (a ≤ i) && decide (i ≤ b)
  | _ => false
/-- values that can be asked -/
def askB : D → Bool
  | .str s => decide (s.length ≤ 1000)
  | .non => true
  | .bl _ => true
  | .int _ => true
  | .tup _ => true
  | .lst _ => true
  | .dct _ => true
  | _ => false
structure Val (d : D) : Prop where
  ask : askB d = true
  nc : ∀ n, noCel n d = true
theorem Val.view {d : D} (h : Val d) (M : Mt) : viewD M d = d := by
  have := h.ask
  cases d <;> first | rfl | (simp [askB] at this)
/-- the pen -/
def pen (cs : List Int) (a r : Int) : D := .lst [.lst (cs.map D.int), .int a, .int r]
def PenOk (n : Int) (b : D) : Prop := ∃ cs a r, b = pen cs a r ∧ 0 ≤ a ∧ a ≤ n ∧ 0 ≤ r
theorem PenOk.mono {n m : Int} {b : D} (h : PenOk n b) (hm : n ≤ m) : PenOk m b := by
  obtain ⟨cs, a, r, e, h1, h2, h3⟩ := h
  exact ⟨cs, a, r, e, h1, by omega, h3⟩
theorem pen_cell {n : Int} {m : D} (h : PenOk n m) (k : Nat) : cellOk k m = true := by
  obtain ⟨cs, a, r, rfl, _⟩ := h
  have : noCels k (cs.map D.int) = true := noCels_mem.mpr fun d hd => by
    obtain ⟨c, _, rfl⟩ := List.mem_map.mp hd; rfl
  simp [cellOk, pen, noCels, noCel, this]
/-- the tables of code objects, then the pen, then the rest -/
abbrev TB (b : D) (M2 : Mt) : Mt := .cls "_law_right" :: .cls "_law_refused_right" :: .cls "_law_named_right" :: .cls "law" :: b :: M2
abbrev TS0 : Mt := [.cls "_law_right", .cls "_law_refused_right", .cls "_law_named_right", .cls "law"]
theorem tb_all {n : Nat} {b b' : D} {M2 : Mt} (h : (TB b M2).all (cellOk n) = true) (hb : cellOk n b' = true) : (TB b' M2).all (cellOk n) = true := by
  simp only [TB, List.all_cons, Bool.and_eq_true] at h ⊢
  exact ⟨rfl, rfl, rfl, rfl, hb, h.2.2.2.2.2⟩
theorem tb_cut {b b' : D} {M2 l : Mt} : (TB b' (M2 ++ l)).take (TB b M2).length = TB b' M2 := by simp [TB]
theorem set_rest {cs : List Int} {a r v : Int} {M2 : Mt} {Q : Mt → Prop} (k : Q (TB (pen cs a v) M2)) : dsetIx (.int v) (.cel 4) (.int 2) (TB (pen cs a r) M2) Q :=
  setIx_use (l := [.lst (cs.map D.int), .int a, .int r]) rfl (by decide) (by simp) k
theorem set_at {cs : List Int} {a r v : Int} {M2 : Mt} {Q : Mt → Prop} (k : Q (TB (pen cs v r) M2)) : dsetIx (.int v) (.cel 4) (.int 1) (TB (pen cs a r) M2) Q :=
  setIx_use (l := [.lst (cs.map D.int), .int a, .int r]) rfl (by decide) (by simp) k
def al (c : Nat) : Bool := decide (c ∈ LET.cps.toList) || decide (c ∈ DIG.cps.toList)
theorem al_ok : (LET.cps.toList ++ DIG.cps.toList).all (fun c => decide (c < 1114112)) = true := by decide +kernel
theorem al_lt {c : Nat} (h : al c = true) : c < 1114112 := by
  unfold al at h
  rw [Bool.or_eq_true, decide_eq_true_eq, decide_eq_true_eq] at h
  exact of_decide_eq_true (List.all_eq_true.mp al_ok c (List.mem_append.mpr h))
theorem nm_sok {s : Str} (h : nmV s = true) : PyData.strOk s = true := by
  have h2 : s.cps.toList.all (fun c => decide (c ∈ LET.cps.toList) || decide (c ∈ DIG.cps.toList)) = true := by
    unfold nmV at h
    rw [Bool.and_eq_true] at h
    exact h.2
  unfold PyData.strOk
  rw [← Array.all_toList]
  exact List.all_eq_true.mpr fun c hc => decide_eq_true (al_lt (List.all_eq_true.mp h2 c hc))
/-! is_integer: 0 value -/
abbrev p_is_integer : List Str := ["value"]
def isInt : D → Bool
  | .int _ => true
  | _ => false
@[irreducible] def sp_is_integer : DSp := fun ds M R _ => ∃ d, ds = [d] ∧ Val d ∧ R (.bl (isInt d)) M
theorem len_is_integer : ∀ ds M R RX, sp_is_integer ds M R RX → ds.length = p_is_integer.length := by
  unfold sp_is_integer; rintro ds M R RX ⟨d, rfl, _⟩; rfl
theorem use_is_integer {d : D} {M : Mt} {R RX} (h : Val d) (k : R (.bl (isInt d)) M) : sp_is_integer [d] M R RX := by
  unfold sp_is_integer; exact ⟨d, rfl, h, k⟩
def w_is_integer : WS :=
  (wRet (wAndV (wCB cIsi (wCons (wVar 0) (wCons (wC (.ty "int")) wNil))) (wNotV (wCB cIsi (wCons (wVar 0) (wCons (wC (.ty "bool")) wNil))))))
theorem wp_is_integer : ∀ ds M R RX, sp_is_integer ds M R RX → M.all (cellOk M.length) = true → noCels M.length ds = true → w_is_integer (fnEnds M.length R) (startE 1 ds) M := by
  unfold sp_is_integer; rintro ds M R RX ⟨d, rfl, h, k⟩ _ _
  have ha := h.ask
  cases d <;> first | (simp [askB] at ha; done) | (walk_at "go" <;> first | exact .keep k | (rename_i z; exact absurd z (by decide)))
/-! is_between: 0 value, 1 least, 2 most -/
abbrev p_is_between : List Str := ["value", "least", "most"]
@[irreducible] def sp_is_between : DSp := fun ds M R _ => ∃ (d : D) (a b : Int), ds = [d, .int a, .int b] ∧ Val d ∧ R (.bl (isNum a b d)) M
theorem len_is_between : ∀ ds M R RX, sp_is_between ds M R RX → ds.length = p_is_between.length := by
  unfold sp_is_between; rintro ds M R RX ⟨d, a, b, rfl, _⟩; rfl
theorem use_is_between {d : D} {a b : Int} {M : Mt} {R RX} (h : Val d) (k : R (.bl (isNum a b d)) M) : sp_is_between [d, .int a, .int b] M R RX := by
  unfold sp_is_between; exact ⟨d, a, b, rfl, h, k⟩
def w_is_between : WS :=
  (wRet (wAndV (wCall sp_is_integer [] RX0 (wCons (wVar 0) wNil)) (wChain oLe oLe (wVar 1) (wVar 0) (wVar 2))))
theorem wp_is_between : ∀ ds M R RX, sp_is_between ds M R RX → M.all (cellOk M.length) = true → noCels M.length ds = true → w_is_between (fnEnds M.length R) (startE 3 ds) M := by
  unfold sp_is_between; rintro ds M R RX ⟨d, a, b, rfl, h, k⟩ _ _
  walk_at "go"
  refine use_is_integer h ?_
  have ha := h.ask
  cases d with
  | int i =>
    simp only [isInt]
    walk_at "go"
    · rename_i h1
      refine .keep ?_
      have e : isNum a b (.int i) = decide (i ≤ b) := by simp [isNum, h1]
      rw [e] at k; exact k
    · rename_i h1
      refine .keep ?_
      have e : isNum a b (.int i) = false := by
        have : ¬ a ≤ i := by omega
        simp [isNum, this]
      rw [e] at k; exact k
  | _ => first | (simp [askB] at ha; done) | (simp only [isInt]; walk_at "go"; exact .keep k)
/-! is_name: 0 value, 1 sign -/
abbrev p_is_name : List Str := ["value"]
@[irreducible] def sp_is_name : DSp := fun ds M R _ => ∃ d, ds = [d] ∧ Val d ∧ R (.bl (isNm d)) M
theorem len_is_name : ∀ ds M R RX, sp_is_name ds M R RX → ds.length = p_is_name.length := by
  unfold sp_is_name; rintro ds M R RX ⟨d, rfl, _⟩; rfl
theorem use_is_name {d : D} {M : Mt} {R RX} (h : Val d) (k : R (.bl (isNm d)) M) : sp_is_name [d] M R RX := by
  unfold sp_is_name; exact ⟨d, rfl, h, k⟩
def w_is_name : WS :=
  (wSeq (wIfS (wOrT (wNotT (wTru (wCB cIsi (wCons (wVar 0) (wCons (wC (.ty "str")) wNil))))) (wOrT (wNotT (wTest (wChain oLe oLe (wC (.int 1)) (wCB cLen (wCons (wVar 0) wNil)) (wC (.int 8))))) (wTest (wOp (oIn false) (wVar 0) (wC (.tup [.str "to", .str "if", .str "tag", .str "all", .str "none"])))))) (wRet (wC (.bl false))) wSkip)
    (wRet (wAndV (wOp (oIn false) (wOp oIx (wVar 0) (wC (.int 0))) (wC (.str "abcdefghijklmnopqrstuvwxyz"))) (wCB (cAll fun bs => bs.all id) (wCons (wLc (wIt (wVar 0)) [1] wYes (wOrV (wOp (oIn false) (wVar 1) (wC (.str "abcdefghijklmnopqrstuvwxyz"))) (wOp (oIn false) (wVar 1) (wC (.str "0123456789")))) [1]) wNil)))))
theorem wp_is_name : ∀ ds M R RX, sp_is_name ds M R RX → M.all (cellOk M.length) = true → noCels M.length ds = true → w_is_name (fnEnds M.length R) (startE 2 ds) M := by
  unfold sp_is_name; rintro ds M R RX ⟨d, rfl, hv, k⟩ _ _
  have ha := hv.ask
  cases d with
  | str s =>
    have hl : s.length ≤ 1000 := by simpa [askB] using ha
    have cut : ∀ b : Bool, nmV s = b → retF M.length R (.bl b) M := fun b e => .keep (by rw [← e]; exact k)
    walk_at "go"
    refine len_str rfl (by rw [line16]; omega) ?_
    walk_at "go"
    · rename_i h1 h2
      refine cut _ ?_
      have : ¬ (s.length : Int) ≤ 8 := by omega
      simp [nmV, this]
    · refine in_flat rfl rfl ?_
      walk_at "go"
      · rename_i h1 h2 h3
        refine cut _ ?_
        have : inV (.str s) RES = true := h3
        simp [nmV, this]
      · rename_i h1 h2 h3
        have h3' : inV (.str s) RES = false := h3
        obtain ⟨c, cs, e⟩ : ∃ c cs, s.cps.toList = c :: cs := by
          cases e : s.cps.toList with
          | nil =>
            have : s.length = 0 := by show s.cps.size = 0; rw [← Array.length_toList, e]; rfl
            omega
          | cons c cs => exact ⟨c, cs, rfl⟩
        have e0 : L2.atI s.cps.toList 0 = some c := by rw [e]; exact atI_nat (j := 0) rfl
        rw [e0]
        walk_at "go"
        refine in_str rfl ?_
        walk_at "go"
        · rename_i h4
          have h4' : c ∈ LET.cps.toList := h4
          refine lcL_map (fun d => match d with | .str x => .bl (strIn x LET || strIn x DIG) | _ => .non) _ _ (by rw [chars_len, line16]; omega) (fun d hd A hA => ?_) ?_
          · obtain ⟨c, hc, rfl⟩ := mem_chars hd
            have hA' : A (.bl (strIn ⟨#[c]⟩ LET || strIn ⟨#[c]⟩ DIG)) M := hA
            clear hA
            walk_at "go"
            refine in_str rfl ?_
            cases hq : strIn ⟨#[c]⟩ LET
            · rw [hq, Bool.false_or] at hA'
              have hq' : strIn ⟨#[c]⟩ "abcdefghijklmnopqrstuvwxyz" = false := hq
              rw [hq']
              walk_at "go"
              refine in_str rfl ?_
              walk_at "go"
              show A (.bl (strIn ⟨#[c]⟩ DIG)) M
              first | exact hA' | (rw [strIn_one]; exact hA')
            · rw [hq, Bool.true_or] at hA'
              have hq' : strIn ⟨#[c]⟩ "abcdefghijklmnopqrstuvwxyz" = true := hq
              rw [hq']
              walk_at "go"
              exact hA'
          · rw [chars_map]
            walk_at "go"
            rw [boolsD_map (g := fun c => strIn ⟨#[c]⟩ LET || strIn ⟨#[c]⟩ DIG) fun _ => rfl]
            walk_at "go"
            refine cut _ ?_
            simp only [nmV, h1, h2, h3', e, h4', List.all_map, strIn_one, decide_true, Bool.not_false, Bool.true_and, Bool.and_true, List.all_cons, Function.comp, id]
            rfl
        · rename_i h4
          refine cut _ ?_
          have h4' : ¬ c ∈ LET.cps.toList := h4
          simp [nmV, e, h4']
    · rename_i h1
      refine cut _ ?_
      have : ¬ 1 ≤ (s.length : Int) := by omega
      simp [nmV, this]
  | _ => first | (simp [askB] at ha; done) | (walk_at "go"; exact .keep k)
/-- what can be picked of -/
def PickOf (x : D) (l : List D) : Prop := x = .lst l ∨ ∃ s : Str, x = .str s ∧ l = chars s
/-! need_told: 0 field, 1 number, 2 taken -/
abbrev p_need_told : List Str := ["field", "number", "taken"]
/-- the first thing amiss with a field and a number -/
def inT (taken : List Str) : D → Bool
  | .str s => decide (s ∈ taken)
  | _ => false
def verd (a b c : Bool) (f n : D) : Option (Str × D) := match a, b, c with
  | true, false, true => none
  | true, false, false => some ("InvalidNumber", n)
  | _, _, _ => some ("InvalidName", f)
def verdict (taken : List Str) (f n : D) : Option (Str × D) := verd (isNm f) (inT taken f) (isNum 0 1000000000 n) f n
/-- what holds the fields that were met: a row without any, or a dict -/
def Taken (M : Mt) (tk : D) (taken : List Str) : Prop := (tk = .tup [] ∧ taken = []) ∨ ∃ ks, viewD M tk = .dct ks ∧ ks.map (·.1) = taken.map fun s => (Sum.inr s : Key)
theorem val_some {ks : List (Key × D)} {taken : List Str} (h : ks.map (·.1) = taken.map fun s => (Sum.inr s : Key)) (s : Str) : (valD ks (Sum.inr s)).isSome = decide (s ∈ taken) := by
  induction ks generalizing taken with
  | nil =>
    cases taken with
    | nil => rfl
    | cons a r => simp at h
  | cons p ks ih =>
    cases taken with
    | nil => simp at h
    | cons a r =>
      rw [List.map_cons, List.map_cons, List.cons.injEq] at h
      have ih := ih h.2
      unfold valD at ih ⊢
      rw [List.find?_cons]
      by_cases e : s = a
      · subst e
        have : decide (p.1 = Sum.inr s) = true := decide_eq_true h.1
        rw [this]; simp
      · have e1 : ¬ p.1 = Sum.inr s := fun z => e (by rw [h.1] at z; exact (Sum.inr.inj z).symm)
        rw [decide_eq_false e1]
        simp only [ih]
        simp [e]
structure PairsOk (prs : List (Str × Int)) : Prop where
  nd : (prs.map (·.1)).Nodup
  nm : ∀ p ∈ prs, nmV p.1 = true
  nb : ∀ p ∈ prs, 0 ≤ p.2 ∧ p.2 ≤ 1000000000
  len : prs.length ≤ 8
theorem rising_all : ∀ (l : List Str) (p : Str), risingS p l = true → ∀ x ∈ l, ¬ x.cps.toList < p.cps.toList
  | [], _, _, x, h => by cases h
  | a :: r, p, h, x, hx => by
    have h' : (!ltCps a.cps.toList p.cps.toList && risingS a r) = true := h
    rw [Bool.and_eq_true, Bool.not_eq_true', ltCps_eq, decide_eq_false_iff_not] at h'
    rcases List.mem_cons.mp hx with rfl | hx
    · exact h'.1
    · exact List.not_lt.mpr (List.le_trans (List.not_lt.mp h'.1) (List.not_lt.mp (rising_all r a h'.2 x hx)))
theorem pair_of_sorted : ∀ (l : List Str), sortedS l = true → l.Pairwise fun a b => ¬ b.cps.toList < a.cps.toList
  | [], _ => .nil
  | a :: r, h => by
    have h' : risingS a r = true := h
    refine List.pairwise_cons.mpr ⟨rising_all r a h', pair_of_sorted r ?_⟩
    cases r with
    | nil => rfl
    | cons b r =>
      have h2 : (!ltCps b.cps.toList a.cps.toList && risingS b r) = true := h'
      rw [Bool.and_eq_true] at h2
      exact h2.2
theorem nms_nm : ∀ s : Str, nmV s = true → nmV s = true ∧ s.length ≤ 8 := fun s h => ⟨h, by
    unfold nmV at h
    simp only [Bool.and_eq_true, decide_eq_true_eq] at h
    omega⟩
theorem nms_sok : ∀ s : Str, nmV s = true → PyData.strOk s = true := fun s h => nm_sok h
/-! ### pairs, in order -/
abbrev PL := List (Str × Int)
abbrev Asc (l : PL) : Prop := l.Pairwise fun p q => SrtP.lexS q p = false
def nz (p : Str × Int) : Bool := decide (p.2 ≠ 0)
def canon (ps : PL) : PL := (ps.filter nz).mergeSort fun p q => !SrtP.lexS q p
theorem lex_anti {p q : Str × Int} (h1 : SrtP.lexS q p = false) (h2 : SrtP.lexS p q = false) : p = q := by
  have a := SrtP.lexS_no.mp h1
  have b := SrtP.lexS_no.mp h2
  have e1 : p.1 = q.1 := SrtP.str_ext (List.le_antisymm (List.not_lt.mp fun z => a (.inl z)) (List.not_lt.mp fun z => b (.inl z)))
  have e2 : p.2 = q.2 := by
    have a2 : ¬ q.2 < p.2 := fun z => a (.inr ⟨e1.symm, z⟩)
    have b2 : ¬ p.2 < q.2 := fun z => b (.inr ⟨e1, z⟩)
    omega
  exact Prod.ext e1 e2
theorem asc_uniq {l m : PL} (h1 : Asc l) (h2 : Asc m) (p : l.Perm m) : l = m := List.Perm.eq_of_pairwise (fun _ _ _ _ => lex_anti) h1 h2 p
theorem canon_perm (ps : PL) : (canon ps).Perm (ps.filter nz) := List.mergeSort_perm _ _
theorem canon_asc (ps : PL) : Asc (canon ps) := by
  have := List.pairwise_mergeSort (le := fun p q : Str × Int => !SrtP.lexS q p) (fun a b c h1 h2 => by
    simp only [Bool.not_eq_true'] at h1 h2 ⊢
    exact SrtP.lexS_tr h1 h2) (fun a b => by
    cases h : SrtP.lexS b a
    · rfl
    · rw [SrtP.lexS_asym h]; rfl) (ps.filter nz)
  exact this.imp fun h => by simpa using h
theorem canon_of {ps qs : PL} (h : qs.Perm (ps.filter nz)) (ha : Asc qs) : qs = canon ps := asc_uniq ha (canon_asc ps) (h.trans (canon_perm ps).symm)
theorem canon_mem {ps : PL} {p : Str × Int} : p ∈ canon ps ↔ p ∈ ps ∧ p.2 ≠ 0 := by
  rw [(canon_perm ps).mem_iff, List.mem_filter]
  simp [nz]
theorem canon_nd {ps : PL} (h : (ps.map (·.1)).Nodup) : ((canon ps).map (·.1)).Nodup :=
  ((canon_perm ps).map (·.1)).nodup_iff.mpr (h.sublist ((List.filter_sublist).map _))
theorem canon_ok {ps : PL} (h : PairsOk ps) : PairsOk (canon ps) :=
  ⟨canon_nd h.nd, fun p hp => h.nm p (canon_mem.mp hp).1, fun p hp => h.nb p (canon_mem.mp hp).1, by rw [(canon_perm ps).length_eq]; exact Nat.le_trans (List.length_filter_le ..) h.len⟩
theorem ok_len {ps : PL} (h : PairsOk ps) : ps.length ≤ 8 := h.len
theorem ok_perm {ps qs : PL} (h : PairsOk ps) (p : qs.Perm ps) : PairsOk qs := ⟨(p.map (·.1)).nodup_iff.mpr h.nd, fun x hx => h.nm x (p.subset hx), fun x hx => h.nb x (p.subset hx), by rw [p.length_eq]; exact h.len⟩
/-- the number of a field -/
def getN (ps : PL) (s : Str) : Int := (ps.lookup s).getD 0
theorem look_nd : ∀ {ps : PL}, (ps.map (·.1)).Nodup → ∀ {s : Str} {i : Int}, ps.lookup s = some i ↔ (s, i) ∈ ps
  | [], _, s, i => by simp
  | (a, j) :: r, nd, s, i => by
    obtain ⟨n1, n2⟩ := List.nodup_cons.mp nd
    rw [List.lookup_cons]
    by_cases e : s = a
    · subst e
      simp only [beq_self_eq_true, Option.some.injEq, List.mem_cons, Prod.mk.injEq, true_and]
      exact ⟨fun h => .inl h.symm, fun h => h.elim (·.symm) fun h => absurd (List.mem_map.mpr ⟨_, h, rfl⟩) n1⟩
    · have e2 : (s == a) = false := by simpa using e
      rw [e2]
      simp only [List.mem_cons, Prod.mk.injEq, e, false_and, false_or]
      exact look_nd n2
theorem getN_mem {ps : PL} (nd : (ps.map (·.1)).Nodup) {p : Str × Int} (h : p ∈ ps) : getN ps p.1 = p.2 := by
  unfold getN; rw [(look_nd nd).mpr (show (p.1, p.2) ∈ ps from h)]; rfl
theorem getN_canon {ps : PL} (nd : (ps.map (·.1)).Nodup) (s : Str) : getN (canon ps) s = getN ps s := by
  unfold getN
  cases h : ps.lookup s with
  | none =>
    cases h2 : (canon ps).lookup s with
    | none => rfl
    | some i =>
      have := (canon_mem.mp ((look_nd (canon_nd nd)).mp h2)).1
      rw [(look_nd nd).mpr this] at h; cases h
  | some i =>
    have hm := (look_nd nd).mp h
    by_cases e : i = 0
    · subst e
      cases h2 : (canon ps).lookup s with
      | none => rfl
      | some j =>
        obtain ⟨g1, g2⟩ := canon_mem.mp ((look_nd (canon_nd nd)).mp h2)
        rw [(look_nd nd).mpr g1] at h; cases h
        exact absurd rfl g2
    · rw [(look_nd (canon_nd nd)).mpr (canon_mem.mpr ⟨hm, e⟩)]
/-- names in order, with their numbers -/
theorem asc_names {ps : PL} {ns : List Str} (nd : (ps.map (·.1)).Nodup) (hp : ns.Perm (ps.map (·.1))) (hs : sortedS ns = true) : (ns.map fun s => (s, getN ps s)).Perm ps ∧ Asc (ns.map fun s => (s, getN ps s)) := by
  have e : (ps.map (·.1)).map (fun s => (s, getN ps s)) = ps := by
    rw [List.map_map]
    refine (List.map_congr_left fun p hm => ?_).trans (List.map_id ps)
    show (p.1, getN ps p.1) = p
    rw [getN_mem nd hm]
  refine ⟨by have := hp.map fun s => (s, getN ps s); rw [e] at this; exact this, ?_⟩
  refine List.pairwise_map.mpr (List.Pairwise.imp_of_mem (fun {a b} ha hb hab => ?_) (List.Pairwise.and (pair_of_sorted ns hs) (hp.nodup_iff.mpr nd)))
  refine SrtP.lexS_no.mpr fun z => ?_
  rcases z with z | ⟨z, _⟩
  · exact hab.1 z
  · exact hab.2 z.symm
theorem filt_asc {ps qs : PL} (hp : qs.Perm ps) (ha : Asc qs) : qs.filter nz = canon ps := canon_of (hp.filter nz) (ha.filter nz)
/-! ### what clashes -/
/-- put at its key -/
def put1 (acc : PL) (p : Str × Int) : PL := if acc.any (fun q => decide (q.1 = p.1)) then acc.map (fun q => if q.1 = p.1 then (q.1, p.2) else q) else acc ++ [p]
def mrg (l : PL) : PL := l.foldl put1 []
/-- a dict of numbers -/
def kdI (ps : PL) : List (Key × D) := ps.map fun p => (Sum.inr p.1, .int p.2)
theorem kp_map : ∀ ps : PL, kpD (ps.map pD) = some (kdI ps)
  | [] => rfl
  | p :: r => by
    show (match keyD (D.str p.1), kpD (r.map pD) with | some k', some r' => some ((k', D.int p.2) :: r') | _, _ => none) = _
    rw [kp_map r]; rfl
theorem put_kdI (acc : PL) (p : Str × Int) : putD (kdI acc) (Sum.inr p.1) (.int p.2) = kdI (put1 acc p) := by
  have e : ((kdI acc).any fun kv => decide (kv.1 = (Sum.inr p.1 : Key))) = acc.any (fun q => decide (q.1 = p.1)) := by
    unfold kdI
    rw [List.any_map]
    refine List.any_congr rfl fun q => ?_
    show decide ((Sum.inr q.1 : Key) = Sum.inr p.1) = decide (q.1 = p.1)
    by_cases h : q.1 = p.1
    · rw [h]; simp
    · rw [decide_eq_false h, decide_eq_false fun z => h (Sum.inr.inj z)]
  unfold putD put1
  rw [e]
  split
  · unfold kdI
    rw [List.map_map, List.map_map]
    refine List.map_congr_left fun q _ => ?_
    show (if (Sum.inr q.1 : Key) = Sum.inr p.1 then ((Sum.inr q.1 : Key), D.int p.2) else (Sum.inr q.1, D.int q.2)) = _
    by_cases h : q.1 = p.1
    · have h' : (Sum.inr q.1 : Key) = Sum.inr p.1 := by rw [h]
      rw [if_pos h']
      show _ = ((Sum.inr (if q.1 = p.1 then (q.1, p.2) else q).1 : Key), D.int (if q.1 = p.1 then (q.1, p.2) else q).2)
      rw [if_pos h]
    · have h' : ¬ (Sum.inr q.1 : Key) = Sum.inr p.1 := fun z => h (Sum.inr.inj z)
      rw [if_neg h']
      show _ = ((Sum.inr (if q.1 = p.1 then (q.1, p.2) else q).1 : Key), D.int (if q.1 = p.1 then (q.1, p.2) else q).2)
      rw [if_neg h]
  · unfold kdI; rw [List.map_append]; rfl
theorem merge_kdI (l : PL) : mergeD [] (kdI l) = kdI (mrg l) := by
  have : ∀ (l acc : PL), (kdI l).foldl (fun acc kv => putD acc kv.1 kv.2) (kdI acc) = kdI (l.foldl put1 acc) := by
    intro l
    induction l with
    | nil => intro acc; rfl
    | cons p r ih =>
      intro acc
      show (kdI r).foldl _ (putD (kdI acc) (Sum.inr p.1) (.int p.2)) = _
      rw [put_kdI]; exact ih _
  exact this l []
theorem put1_new {acc : PL} {p : Str × Int} (h : p.1 ∉ acc.map (·.1)) : put1 acc p = acc ++ [p] := by
  unfold put1
  rw [if_neg]
  intro z
  obtain ⟨q, h1, h2⟩ := List.any_eq_true.mp z
  exact h (List.mem_map.mpr ⟨q, h1, of_decide_eq_true h2⟩)
theorem mrg_nd {l : PL} (nd : (l.map (·.1)).Nodup) : mrg l = l := by
  have : ∀ (l acc : PL), ((acc ++ l).map (·.1)).Nodup → l.foldl put1 acc = acc ++ l := by
    intro l
    induction l with
    | nil => intro acc _; simp
    | cons p r ih =>
      intro acc nd
      have hp : p.1 ∉ acc.map (·.1) := fun z => by
        rw [List.map_append, List.nodup_append] at nd
        exact nd.2.2 _ z p.1 List.mem_cons_self rfl
      show r.foldl put1 (put1 acc p) = _
      rw [put1_new hp, ih (acc ++ [p]) (by simpa using nd)]
      simp
  exact (this l [] (by simpa using nd)).trans (List.nil_append l)
theorem val_kdI (ps : PL) (s : Str) : ((valD (kdI ps) (Sum.inr s)).getD (.int 0)) = .int (getN ps s) := by
  induction ps with
  | nil => rfl
  | cons p r ih =>
    obtain ⟨a, j⟩ := p
    unfold valD kdI getN at ih ⊢
    rw [List.map_cons, List.find?_cons, List.lookup_cons]
    by_cases e : a = s
    · subst e; simp
    · have e1 : ¬ (Sum.inr a : Key) = Sum.inr s := fun z => e (Sum.inr.inj z)
      have e2 : (s == a) = false := by simpa using Ne.symm e
      rw [decide_eq_false e1, e2]
      exact ih
theorem val_kdI_some {ps : PL} {s : Str} (h : s ∈ ps.map (·.1)) : valD (kdI ps) (Sum.inr s) = some (.int (getN ps s)) := by
  have e := val_kdI ps s
  cases hv : valD (kdI ps) (Sum.inr s) with
  | some d => rw [hv] at e; rw [← e]; rfl
  | none =>
    exfalso
    unfold valD at hv
    rw [Option.map_eq_none_iff, List.find?_eq_none] at hv
    obtain ⟨p, hp, rfl⟩ := List.mem_map.mp h
    exact hv (Sum.inr p.1, .int p.2) (List.mem_map.mpr ⟨p, hp, rfl⟩) (by simp)
/-- signals -/
def sig (t : PL) : D := .obj "Signals" [("told", .ptp (t.map pD))]
theorem noC_pD (n : Nat) (t : PL) : noCels n (t.map pD) = true := noCels_mem.mpr fun d hd => by
  obtain ⟨p, _, rfl⟩ := List.mem_map.mp hd; rfl
theorem noC_sig (n : Nat) (t : PL) : noCel n (sig t) = true := by
  show (noCel n (.ptp (t.map pD)) && true) = true
  rw [Bool.and_true]
  exact noC_pD n t
def pP (p : Str × Int) : PyData := .tuple [.str p.1, .int p.2]
theorem pP_lay {p : Str × Int} (h : nmV p.1 = true) : (pP p).canLay0 = true := by simp [pP, PyData.canLay0, PyData.canLayAll0, nms_sok _ h]
theorem pP_dep (p : Str × Int) : (pP p).depth ≤ 1 := by simp [pP, PyData.depth, PyData.depthAll]
theorem toPs_pD (l : PL) : toPs (l.map pD) = some (l.map pP) := toPs_map (fun _ => rfl) l
theorem lay_pD {l : PL} (h : ∀ p ∈ l, nmV p.1 = true) : PyData.canLayAll0 (l.map pP) = true := canLay_map fun p hp => pP_lay (h p hp)
theorem dep_pD (l : PL) : PyData.depthAll (l.map pP) ≤ 1 := depth_map fun p _ => pP_dep p
@[irreducible] def sp_need_told : DSp := fun ds M R RX => ∃ (f n tk : D) (taken : List Str), ds = [f, n, tk] ∧ Val f ∧ Val n ∧ Taken M tk taken ∧ match verdict taken f n with
  | some x => RX x.1 [("value", x.2)] M
  | none => R .non M
theorem len_need_told : ∀ ds M R RX, sp_need_told ds M R RX → ds.length = p_need_told.length := by
  unfold sp_need_told; rintro ds M R RX ⟨_, _, _, _, rfl, _⟩; rfl
theorem use_need_told {f n tk : D} {taken : List Str} {M : Mt} {R RX} (hf : Val f) (hn : Val n) (ht : Taken M tk taken) (k : match verdict taken f n with
  | some x => RX x.1 [("value", x.2)] M
  | none => R .non M) : sp_need_told [f, n, tk] M R RX := by
  unfold sp_need_told; exact ⟨f, n, tk, taken, rfl, hf, hn, ht, k⟩
def w_need_told (RX : RXe) : WS :=
  (wSeq (wIfS (wOrT (wNotT (wTru (wCall sp_is_name [] RX0 (wCons (wVar 0) wNil)))) (wTest (wOp (oInU false) (wVar 0) (wVar 2)))) (wRaise "InvalidName" ["value"] RX (wCons (wVar 0) wNil)) wSkip)
    (wIfS (wNotT (wTru (wCall sp_is_between [] RX0 (wCons (wVar 1) (wCons (wC (.int 0)) (wCons (wCVal "Signals" (.int 1000000000) (wC (.cls "Signals"))) wNil)))))) (wRaise "InvalidNumber" ["value"] RX (wCons (wVar 1) wNil)) wSkip))
theorem wp_need_told : ∀ ds M R RX, sp_need_told ds M R RX → M.all (cellOk M.length) = true → noCels M.length ds = true → w_need_told (fun nm fs _ M' => rxF M.length RX nm fs M') (fnEnds M.length R) (startE 3 ds) M := by
  unfold sp_need_told; rintro ds M R RX ⟨f, n, tk, taken, rfl, hf, hn, ht, k⟩ _ _
  walk_at "go"
  refine use_is_name hf ?_
  unfold verdict at k
  cases hnm : isNm f
  · rw [hnm] at k
    walk_at "go"
    exact .keep k
  · rw [hnm] at k
    obtain ⟨s, rfl⟩ : ∃ s, f = .str s := by cases f <;> first | exact ⟨_, rfl⟩ | cases hnm
    have inq : ∀ Q : D → Mt → Prop, Q (.bl (inT taken (.str s))) M → oInU false (.str s) tk M Q := fun Q q => by
      rcases ht with ⟨rfl, rfl⟩ | ⟨ks, hv, hk⟩
      · refine inU_seq (fun ks z => by cases z) (in_use (ns := []) (.inr rfl) ?_)
        exact q
      · refine inU_dct hv rfl ?_
        rw [val_some hk]; exact q
    walk_at "go"
    refine inq _ ?_
    cases hin : inT taken (.str s)
    · rw [hin] at k
      walk_at "go"
      refine use_is_between hn ?_
      cases hb : isNum 0 1000000000 n
      · rw [hb] at k
        walk_at "go"
        exact .keep k
      · rw [hb] at k
        walk_at "go"
        exact .keep k
    · rw [hin] at k
      walk_at "go"
      exact .keep k


/-! Signals.__init__: 0 this_object, 1 fields, 2 field -/
abbrev p_Signals_init__ : List Str := ["this_object", "fields"]
theorem get_use {ks : List (Key × D)} {x y d : D} {k : Key} {M : Mt} {R : D → Mt → Prop} (h : viewD M x = .dct ks) (hk : keyD y = some k) (hv : valD ks k = some d) (q : R d M) : oDGet x y M R := by
  simp only [oDGet, h, hk, hv]; exact q
theorem dput_last {M : Mt} {ks : List (Key × D)} {y d : D} {j : Key} {R : Mt → Prop} {n : Nat} (hn : n = M.length) (hk : keyD y = some j) (hl : ks.length < sizeLine) (k : R (M ++ [.dct (putD ks j d)])) : dput (.cel n) y d (M ++ [.dct ks]) R := by
  subst hn
  have e1 : (M ++ [D.dct ks])[M.length]? = some (.dct ks) := by simp
  have e2 : (M ++ [D.dct ks]).set M.length (.dct (putD ks j d)) = M ++ [.dct (putD ks j d)] := by simp
  unfold dput
  rw [hk]
  simp only [e1, e2]; exact ⟨⟨hl⟩, k⟩
theorem view_lastK {M : Mt} {ks : List (Key × D)} : viewD (M ++ [.dct ks]) (.cel M.length) = .dct ks := by
  have e1 : (M ++ [D.dct ks])[M.length]? = some (.dct ks) := by simp
  show (match (M ++ [D.dct ks])[M.length]? with | some (.lst l) => D.lst l | some (.dct l) => D.dct l | some (.obj C fs) => D.obj C fs | _ => D.cel M.length) = _
  rw [e1]
theorem keys_kdI (ps : PL) : (kdI ps).map (fun p => kD p.1) = (ps.map (·.1)).map D.str := by
  unfold kdI; rw [List.map_map, List.map_map]; rfl
theorem good_verdict {taken : List Str} {p : Str × Int} (h1 : nmV p.1 = true) (h2 : 0 ≤ p.2 ∧ p.2 ≤ 1000000000) (h3 : p.1 ∉ taken) : verdict taken (.str p.1) (.int p.2) = none := by
  unfold verdict
  have e1 : isNm (.str p.1) = true := (nms_nm _ h1).1
  have e2 : inT taken (.str p.1) = false := decide_eq_false h3
  have e3 : isNum 0 1000000000 (.int p.2) = true := by simp [isNum, h2.1, h2.2]
  rw [e1, e2, e3]; rfl
theorem val_nm8 {s : Str} (h : nmV s = true) : Val (.str s) := ⟨by have := (nms_nm s h).2; simp [askB]; omega, fun n => rfl⟩
def firstBad (kv : List (Str × D)) : List Str → Option (Str × D)
  | [] => none
  | s :: r => match verdict [] (.str s) ((kv.lookup s).getD .non) with
    | some x => some x
    | none => firstBad kv r
def kd (kv : List (Str × D)) : List (Key × D) := kv.map fun p => (Sum.inr p.1, p.2)
theorem val_kd : ∀ (kv : List (Str × D)) (s : Str), valD (kd kv) (Sum.inr s) = kv.lookup s
  | [], _ => rfl
  | (a, d) :: r, s => by
    have ih := val_kd r s
    unfold valD kd at ih ⊢
    rw [List.map_cons, List.find?_cons, List.lookup_cons]
    by_cases e : a = s
    · subst e; simp
    · have e1 : ¬ (Sum.inr a : Key) = Sum.inr s := fun z => e (Sum.inr.inj z)
      have e2 : (s == a) = false := by simpa using Ne.symm e
      rw [decide_eq_false e1, e2]
      exact ih
theorem look_mem : ∀ {kv : List (Str × D)} {s : Str}, s ∈ kv.map (·.1) → ∃ d, kv.lookup s = some d ∧ (s, d) ∈ kv
  | (a, d) :: r, s, h => by
    rw [List.lookup_cons]
    by_cases e : s = a
    · subst e; exact ⟨d, by simp, List.mem_cons_self⟩
    · have e2 : (s == a) = false := by simpa using e
      rw [e2]
      obtain ⟨d', h1, h2⟩ := look_mem (kv := r) (s := s) (by
        rcases List.mem_cons.mp h with z | z
        · exact absurd z e
        · exact z)
      exact ⟨d', h1, List.mem_cons_of_mem _ h2⟩
theorem keys_kd (kv : List (Str × D)) : (kd kv).map (fun p => kD p.1) = (kv.map (·.1)).map D.str := by
  unfold kd; rw [List.map_map, List.map_map]; rfl
theorem firstBad_cons (kv : List (Str × D)) (s : Str) (r : List Str) : firstBad kv (s :: r) = match verdict [] (.str s) ((kv.lookup s).getD .non) with
    | some x => some x
    | none => firstBad kv r := rfl
@[irreducible] def sp_Signals_init__ : DSp := fun ds M R RX => ∃ M0 : Mt, M = M0 ++ [.obj "Signals" []] ∧ ((∃ ps : PL, ds = [.cel M0.length, .dct (kdI ps)] ∧ PairsOk ps ∧ R .non (M0 ++ [sig (canon ps)])) ∨
  ∃ (kv : List (Str × D)) (x : Str × D), ds = [.cel M0.length, .dct (kd kv)] ∧ (∀ p ∈ kv, Val p.2 ∧ p.1.length ≤ 1000) ∧ kv.length < 60 ∧ (∀ ns : List Str, ns.Perm (kv.map (·.1)) → sortedS ns = true → firstBad kv ns = some x) ∧ RX x.1 [("value", x.2)] M)
theorem use_Signals_init__ {M0 : Mt} {ps : PL} {R RX} (h1 : PairsOk ps) (k : R .non (M0 ++ [sig (canon ps)])) : sp_Signals_init__ [.cel M0.length, .dct (kdI ps)] (M0 ++ [.obj "Signals" []]) R RX := by
  unfold sp_Signals_init__; exact ⟨M0, rfl, .inl ⟨ps, rfl, h1, k⟩⟩
theorem use_Signals_bad {M0 : Mt} {kv : List (Str × D)} {x : Str × D} {R RX} (h1 : ∀ p ∈ kv, Val p.2 ∧ p.1.length ≤ 1000) (h2 : kv.length < 60) (h3 : ∀ ns : List Str, ns.Perm (kv.map (·.1)) → sortedS ns = true → firstBad kv ns = some x) (k : RX x.1 [("value", x.2)] (M0 ++ [.obj "Signals" []])) : sp_Signals_init__ [.cel M0.length, .dct (kd kv)] (M0 ++ [.obj "Signals" []]) R RX := by
  unfold sp_Signals_init__; exact ⟨M0, rfl, .inr ⟨kv, x, rfl, h1, h2, h3, k⟩⟩
def w_Signals_init__ (RX : RXe) : WS :=
  (wSeq (wFor (wIt (wCB cSortS (wCons (wCB (cListA false) (wCons (wVar 1) wNil)) wNil))) (gN 2) (wExp (wCallX sp_need_told [.tup []] RX (wCons (wVar 2) (wCons (wOp oDGet (wVar 1) (wVar 2)) wNil)))))
    (wSetF "Signals" "told" (wVar 0) (wCB cTupP (wCons (wLc (wIt (wCB cSortS (wCons (wCB (cListA false) (wCons (wVar 1) wNil)) wNil))) [2] (wTest (wOp (oEqI fun b => !b) (wOp oDGet (wVar 1) (wVar 2)) (wC (.int 0)))) (wTup (wCons (wVar 2) (wCons (wOp oDGet (wVar 1) (wVar 2)) wNil))) [2]) wNil))))
theorem wp_Signals_init__ : ∀ ds M R RX, sp_Signals_init__ ds M R RX → M.all (cellOk M.length) = true → noCels M.length ds = true → w_Signals_init__ (fun nm fs _ M' => rxF M.length RX nm fs M') (fnEnds M.length R) (startE 3 ds) M := by
  unfold sp_Signals_init__; rintro ds M R RX ⟨M0, rfl, ⟨ps, rfl, ok, k⟩ | ⟨kv, x, rfl, h1, h2, h3, k⟩⟩ hM hds
  · have hl := ok_len ok
    walk_at "go"
    rw [keys_kdI, strsD_map]
    walk_at "go"
    rename_i ns hp hs
    refine forL_inv (fun i env M => ∃ e2, env = [some (.cel M0.length), some (.dct (kdI ps)), e2] ∧ M = M0 ++ [.obj "Signals" []]) ⟨none, rfl, rfl⟩ ?_ ?_
    · rintro i d env M hd ⟨e2, rfl, rfl⟩
      obtain ⟨s, hsm, rfl⟩ := List.mem_map.mp (List.mem_of_getElem? hd)
      have hsp : s ∈ ps.map (·.1) := hp.subset hsm
      obtain ⟨p, hpm, rfl⟩ := List.mem_map.mp hsp
      walk_at "go"
      refine get_use rfl rfl (val_kdI_some hsp) ?_
      rw [getN_mem ok.nd hpm]
      walk_at "go"
      refine use_need_told (taken := []) (val_nm8 (ok.nm p hpm)) ⟨rfl, fun n => rfl⟩ (.inl ⟨rfl, rfl⟩) ?_
      rw [good_verdict (ok.nm p hpm) (ok.nb p hpm) (by simp)]
      walk_at "go"
      exact ⟨_, rfl, rfl⟩
    rintro env M ⟨e2, rfl, rfl⟩
    walk_at "go"
    rw [keys_kdI, strsD_map]
    walk_at "go"
    rename_i ns2 hp2 hs2
    obtain ⟨an1, an2⟩ := asc_names ok.nd hp2 hs2
    refine lcL_inv (fun i acc M => M = M0 ++ [.obj "Signals" []] ∧ acc = (((ns2.take i).map fun s => (s, getN ps s)).filter nz).map pD) (by rw [List.length_map, hp2.length_eq, List.length_map, line16]; omega) ⟨rfl, rfl⟩ ?_ ?_
    · rintro i d acc M A C hd ⟨rfl, rfl⟩ hA hC
      obtain ⟨s, hsi, rfl⟩ : ∃ s, ns2[i]? = some s ∧ d = .str s := by
        rw [List.getElem?_map] at hd
        cases h : ns2[i]? with
        | none => rw [h] at hd; cases hd
        | some p => rw [h] at hd; exact ⟨p, rfl, (Option.some.inj hd).symm⟩
      have hsp : s ∈ ps.map (·.1) := hp2.subset (List.mem_of_getElem? hsi)
      have et : ns2.take (i + 1) = ns2.take i ++ [s] := by rw [List.take_add_one, hsi]; rfl
      walk_at "go"
      refine get_use rfl rfl (val_kdI_some hsp) ?_
      walk_at "go"
      · refine get_use rfl rfl (val_kdI_some hsp) ?_
        walk_at "go"
        refine hA _ _ ⟨rfl, ?_⟩
        have hz : nz (s, getN ps s) = true := by simp [nz]; assumption
        rw [et, List.map_append, List.filter_append, List.map_append]
        simp [hz, pD]
      · refine hC _ ⟨rfl, ?_⟩
        have hz : nz (s, getN ps s) = false := by simp [nz]; assumption
        rw [et, List.map_append, List.filter_append, List.map_append]
        simp [hz]
    · rintro acc M hal ⟨rfl, rfl⟩
      rw [List.length_map, List.take_length, filt_asc an1 an2]
      walk_at "go"
      refine tupP_use rfl ?_
      refine setF_use (T := []) ?_ (by simp)
      walk_at "go"
      exact .keep k
  · walk_at "go"
    rw [keys_kd, strsD_map]
    walk_at "go"
    rename_i ns hp hs
    have h3 := h3 ns hp hs
    have lk : ∀ s ∈ ns, ∃ d, kv.lookup s = some d ∧ Val d ∧ s.length ≤ 1000 := fun s hs => by
      obtain ⟨d, e1, e2⟩ := look_mem (hp.subset hs)
      exact ⟨d, e1, h1 _ e2⟩
    refine forL_inv (fun i env M => ∃ e2, env = [some (.cel M0.length), some (.dct (kd kv)), e2] ∧ M = M0 ++ [.obj "Signals" []] ∧ firstBad kv (ns.drop i) = some x) ⟨none, rfl, rfl, h3⟩ ?_ ?_
    · rintro i d env M hd ⟨e2, rfl, rfl, hb⟩
      obtain ⟨s, hsi, rfl⟩ : ∃ s, ns[i]? = some s ∧ d = .str s := by
        rw [List.getElem?_map] at hd
        cases h : ns[i]? with
        | none => rw [h] at hd; cases hd
        | some p => rw [h] at hd; exact ⟨p, rfl, (Option.some.inj hd).symm⟩
      obtain ⟨hil, hse⟩ := List.getElem?_eq_some_iff.mp hsi
      obtain ⟨d, el, vd, sl⟩ := lk s (List.mem_of_getElem? hsi)
      rw [List.drop_eq_getElem_cons hil, hse] at hb
      rw [firstBad_cons, el] at hb
      simp only [Option.getD_some] at hb
      walk_at "go"
      refine get_use rfl rfl (by rw [val_kd, el]) ?_
      walk_at "go"
      refine use_need_told (taken := []) ⟨by simp [askB, sl], fun n => rfl⟩ vd (.inl ⟨rfl, rfl⟩) ?_
      cases hv : verdict [] (.str s) d with
      | some y =>
        rw [hv] at hb
        cases hb
        exact .keep k
      | none =>
        rw [hv] at hb
        walk_at "go"
        exact ⟨_, rfl, rfl, hb⟩
    rintro env M ⟨e2, rfl, rfl, hb⟩
    rw [List.length_map, List.drop_length] at hb
    cases hb
/-! Signals.of: 0 cls, 1 pairs, 2 found, 3 field, 4 number -/
abbrev p_Signals_of : List Str := ["cls", "pairs"]
def Row (d : D) (ps : PL) : Prop := d = .lst (ps.map pD) ∨ d = .tup (ps.map pD)
@[irreducible] def sp_Signals_of : DSp := fun ds M R RX => ∃ (d : D) (ps : PL), ds = [.cls "Signals", d] ∧ Row d ps ∧ PairsOk ps ∧ R (sig (canon ps)) M
theorem len_Signals_of : ∀ ds M R RX, sp_Signals_of ds M R RX → ds.length = p_Signals_of.length := by
  unfold sp_Signals_of; rintro ds M R RX ⟨_, _, rfl, _⟩; rfl
theorem use_Signals_of {d : D} {ps : PL} {M : Mt} {R RX} (h1 : Row d ps) (h2 : PairsOk ps) (k : R (sig (canon ps)) M) : sp_Signals_of [.cls "Signals", d] M R RX := by
  unfold sp_Signals_of; exact ⟨d, ps, rfl, h1, h2, k⟩
def w_Signals_of (RX : RXe) : WS :=
  (wSeq (wAsg (wDict0 true) (gN 2))
    (wSeq (wFor (wIt (wVar 1)) (gT 2 (gsCons (gN 3) (gsCons (gN 4) gsNil))) (wSeq (wExp (wCallX sp_need_told [] RX (wCons (wVar 3) (wCons (wVar 4) (wCons (wVar 2) wNil)))))
    (wDPut (wVar 2) (wVar 3) (wVar 4))))
    (wRet (wMkSL 0 "Signals" "this_object" sp_Signals_init__ RX 2))))
theorem wp_Signals_of : ∀ ds M R RX, sp_Signals_of ds M R RX → M.all (cellOk M.length) = true → noCels M.length ds = true → w_Signals_of (fun nm fs _ M' => rxF M.length RX nm fs M') (fnEnds M.length R) (startE 5 ds) M := by
  unfold sp_Signals_of; rintro ds M R RX ⟨d, ps, rfl, hrow, ok, k⟩ hM hds
  have hl := ok_len ok
  have main : forL (gT 2 (gsCons (gN 3) (gsCons (gN 4) gsNil))) (wSeq (wExp (wCallX sp_need_told [] (fun nm fs _ M' => rxF M.length RX nm fs M') (wCons (wVar 3) (wCons (wVar 4) (wCons (wVar 2) wNil))))) (wDPut (wVar 2) (wVar 3) (wVar 4)))
      { nx := wRet (wMkSL 0 "Signals" "this_object" sp_Signals_init__ (fun nm fs _ M' => rxF M.length RX nm fs M') 2) (fnEnds M.length R), rt := (fnEnds M.length R).rt, bk := (fnEnds M.length R).bk, ct := (fnEnds M.length R).ct } (ps.map pD) [some (.cls "Signals"), some d, some (.cel M.length), none, none] (M ++ [.dct []]) := by
    refine forL_inv (fun i env M' => ∃ (e3 e4 : Option D), env = [some (.cls "Signals"), some d, some (.cel M.length), e3, e4] ∧ M' = M ++ [.dct (kdI (ps.take i))]) ⟨none, none, rfl, rfl⟩ ?_ ?_
    · rintro i d2 env M' hd ⟨e3, e4, rfl, rfl⟩
      obtain ⟨p, hpi, rfl⟩ : ∃ p, ps[i]? = some p ∧ d2 = pD p := by
        rw [List.getElem?_map] at hd
        cases h : ps[i]? with
        | none => rw [h] at hd; cases hd
        | some p => rw [h] at hd; exact ⟨p, rfl, (Option.some.inj hd).symm⟩
      have hpm := List.mem_of_getElem? hpi
      have et : ps.take (i + 1) = ps.take i ++ [p] := by rw [List.take_add_one, hpi]; rfl
      have hnew : p.1 ∉ (ps.take i).map (·.1) := fun z => by
        have nd : ((ps.take (i + 1)).map (·.1)).Nodup := ok.nd.sublist ((List.take_sublist _ _).map _)
        rw [et, List.map_append, List.nodup_append] at nd
        exact nd.2.2 _ z p.1 (by simp) rfl
      walk_at "go"
      refine use_need_told (taken := (ps.take i).map (·.1)) (val_nm8 (ok.nm p hpm)) ⟨rfl, fun n => rfl⟩ (.inr ⟨kdI (ps.take i), view_lastK, by unfold kdI; rw [List.map_map, List.map_map]; rfl⟩) ?_
      rw [good_verdict (ok.nm p hpm) (ok.nb p hpm) hnew]
      walk_at "go"
      refine dput_last rfl rfl (by rw [line16]; simp [kdI]; omega) ?_
      rw [put_kdI, put1_new hnew, ← et]
      walk_at "go"
      exact ⟨_, _, rfl, rfl⟩
    · rintro env M' ⟨e3, e4, rfl, rfl⟩
      rw [List.length_map, List.take_length]
      walk_at "go"
      rw [view_lastK]
      have hkd : (kdI ps).length = ps.length := by unfold kdI; rw [List.length_map]
      have hkey : ∀ p ∈ kdI ps, ∃ k, p.1 = (Sum.inr k : Key) ∧ (k == Str.ofString "this_object") = false := fun p hp => by
        obtain ⟨q, hq2, rfl⟩ := List.mem_map.mp hp
        refine ⟨q.1, rfl, ?_⟩
        have h8 := (nms_nm _ (ok.nm q hq2)).2
        have h11 : (Str.ofString "this_object").length = 11 := by decide +kernel
        rw [beq_eq_false_iff_ne]
        intro e
        rw [e, h11] at h8
        omega
      refine ⟨⟨by omega, hkey⟩, ?_⟩
      refine use_Signals_init__ (M0 := M ++ [.dct (kdI ps)]) (ps := ps) ok ?_
      walk_at "go"
      have nc := fun n => noC_pD n (canon ps)
      refine mkEnd_i (by simp [noCelF, noCel, nc]) ?_
      walk_at "go"
      have ht : (M ++ [D.dct (kdI ps)]).take M.length = M := List.take_left' rfl
      refine .less (noC_sig _ _) ?_ ?_
      · rw [ht]; exact hM
      · rw [ht]; exact k
  rcases hrow with rfl | rfl
  · walk_at "go"
    exact main
  · walk_at "go"
    exact main
/-! Signals.__getitem__: 0 self, 1 field -/
abbrev p_Signals_getitem__ : List Str := ["self", "field"]
@[irreducible] def sp_Signals_getitem__ : DSp := fun ds M R RX => ∃ (t : PL) (f : D), ds = [sig t, f] ∧ PairsOk t ∧ Val f ∧ (isNm f = true → ∀ s, f = .str s → R (.int (getN t s)) M) ∧ (isNm f = false → RX "InvalidName" [("value", f)] M)
theorem len_Signals_getitem__ : ∀ ds M R RX, sp_Signals_getitem__ ds M R RX → ds.length = p_Signals_getitem__.length := by
  unfold sp_Signals_getitem__; rintro ds M R RX ⟨_, _, rfl, _⟩; rfl
theorem use_Signals_getitem__ {t : PL} {f : D} {M : Mt} {R RX} (h1 : PairsOk t) (h2 : Val f) (k : isNm f = true → ∀ s, f = .str s → R (.int (getN t s)) M) (k2 : isNm f = false → RX "InvalidName" [("value", f)] M) : sp_Signals_getitem__ [sig t, f] M R RX := by
  unfold sp_Signals_getitem__; exact ⟨t, f, rfl, h1, h2, k, k2⟩
def w_Signals_getitem__ (RX : RXe) : WS :=
  (wSeq (wIfS (wNotT (wTru (wCall sp_is_name [] RX0 (wCons (wVar 1) wNil)))) (wRaise "InvalidName" ["value"] RX (wCons (wVar 1) wNil)) wSkip)
    (wRet (wGet2 (wCB cDictT (wCons (wFld "Signals" "told" (wVar 0)) wNil)) (wVar 1) (wC (.int 0)))))
theorem wp_Signals_getitem__ : ∀ ds M R RX, sp_Signals_getitem__ ds M R RX → M.all (cellOk M.length) = true → noCels M.length ds = true → w_Signals_getitem__ (fun nm fs _ M' => rxF M.length RX nm fs M') (fnEnds M.length R) (startE 2 ds) M := by
  unfold sp_Signals_getitem__; rintro ds M R RX ⟨t, f, rfl, ok, hv, k, k2⟩ hM hds
  walk_at "go"
  refine use_is_name hv ?_
  cases e1 : isNm f
  · walk_at "go"
    exact .keep (k2 e1)
  · obtain ⟨s, rfl⟩ : ∃ s, f = .str s := by cases f <;> first | exact ⟨_, rfl⟩ | cases e1
    walk_at "go"
    refine dictT_use (kp_map t) ?_
    rw [merge_kdI, mrg_nd ok.nd]
    walk_at "go"
    refine get2_use rfl rfl ?_
    rw [val_kdI]
    walk_at "go"
    exact .keep (k e1 s rfl)
/-! Signals.__eq__: 0 self, 1 other -/
abbrev p_Signals_eq__ : List Str := ["self", "other"]
/-- another thing than signals -/
def other (d : D) : Prop := (∀ M, viewD M d = d) ∧ ∀ M, (tyN M d).isSome = true
theorem eqvAll_pP : ∀ l m : PL, PyData.eqvAll (l.map pP) (m.map pP) = decide (l = m)
  | [], [] => by simp [PyData.eqvAll]
  | [], _ :: _ => by simp [PyData.eqvAll]
  | _ :: _, [] => by simp [PyData.eqvAll]
  | (a, i) :: l, (b, j) :: m => by
    have ih := eqvAll_pP l m
    simp only [List.map_cons, PyData.eqvAll, ih]
    have e : PyData.eqv (pP (a, i)) (pP (b, j)) = (decide (a = b) && decide (i = j)) := by
      simp only [pP, PyData.eqv, PyData.eqvAll, Bool.and_true]
      by_cases u : a = b <;> by_cases v : i = j <;> simp [u, v]
    rw [e]
    by_cases u : a = b <;> by_cases v : i = j <;> by_cases z : l = m <;> simp [u, v, z]
theorem sh_pairs2 {l : PL} (h : ∀ p ∈ l, nmV p.1 = true) : SeqAt.shaped (.tuple (l.map pP)) = true := by
  have := dep_pD l
  simp [SeqAt.shaped, PyData.canLay0, PyData.depth, lay_pD h]; omega
theorem eq_told {M : Mt} {l m : PL} {f : Bool → Bool} {R : D → Mt → Prop} (h1 : ∀ p ∈ l, nmV p.1 = true) (h2 : ∀ p ∈ m, nmV p.1 = true) (k : R (.bl (f (decide (l = m)))) M) : oEqI f (.tup (l.map pD)) (.tup (m.map pD)) M R :=
  eqI_tups rfl rfl (toPs_pD l) (toPs_pD m) (sh_pairs2 h1) (sh_pairs2 h2) (by rw [eqvAll_pP]; exact k)
@[irreducible] def sp_Signals_eq__ : DSp := fun ds M R _ => ∃ (t : PL) (y : D), ds = [sig t, y] ∧ PairsOk t ∧ ((∃ t2, y = sig t2 ∧ PairsOk t2 ∧ R (.bl (decide (t = t2))) M) ∨ (other y ∧ R (.bl false) M))
theorem len_Signals_eq__ : ∀ ds M R RX, sp_Signals_eq__ ds M R RX → ds.length = p_Signals_eq__.length := by
  unfold sp_Signals_eq__; rintro ds M R RX ⟨_, _, rfl, _⟩; rfl
theorem use_Signals_eq__ {t t2 : PL} {M : Mt} {R RX} (h1 : PairsOk t) (h2 : PairsOk t2) (k : R (.bl (decide (t = t2))) M) : sp_Signals_eq__ [sig t, sig t2] M R RX := by
  unfold sp_Signals_eq__; exact ⟨t, _, rfl, h1, .inl ⟨t2, rfl, h2, k⟩⟩
def w_Signals_eq__ : WS :=
  (wRet (wAndV (wCB (cIsO [("Signals", true)] "Signals") (wCons (wVar 1) (wCons (wC (.cls "Signals")) wNil))) (wOp (oEqI fun b => b) (wFgt (wFld "Signals" "told" (wVar 0))) (wFgt (wFld "Signals" "told" (wVar 1))))))
theorem wp_Signals_eq__ : ∀ ds M R RX, sp_Signals_eq__ ds M R RX → M.all (cellOk M.length) = true → noCels M.length ds = true → w_Signals_eq__ (fnEnds M.length R) (startE 2 ds) M := by
  unfold sp_Signals_eq__; rintro ds M R RX ⟨t, y, rfl, ok, h⟩ hM hds
  rcases h with ⟨t2, rfl, ok2, k⟩ | ⟨ho, k⟩
  · walk_at "go"
    refine isO_obj rfl rfl ?_
    walk_at "go"
    refine eq_told (fun p hp => ok.nm p hp) (fun p hp => ok2.nm p hp) ?_
    walk_at "go"
    exact .keep k
  · walk_at "go"
    refine isO_any (ho.2 M) ?_
    walk_at "go"
    exact .keep k

/-! Word.__init__: 0 self, 1 kind, 2 base, 3 signals -/
abbrev p_Word_init__ : List Str := ["self", "kind", "base", "signals"]
/-! ### words -/
def isSig : D → Bool
  | .obj _ _ => true
  | _ => false
def SigOr (d : D) : Prop := (∃ t, d = sig t ∧ PairsOk t) ∨ Val d
theorem val_other {d : D} (h : Val d) : other d := by
  refine ⟨fun M => h.view M, fun M => ?_⟩
  have := h.ask
  cases d <;> first | rfl | (simp [askB] at this)
theorem val_nsig {d : D} (h : Val d) : isSig d = false := by
  have := h.ask
  cases d <;> first | rfl | (simp [askB] at this)
def wordBad (k b s : D) : Option Str := match isNm k, isNum 0 255 b, isSig s with
  | false, _, _ => some "kind"
  | true, false, _ => some "base"
  | true, true, false => some "signals"
  | true, true, true => none
def wd (k b s : D) : D := .obj "Word" [("kind", k), ("base", b), ("signals", s)]
abbrev wrd (k : Str) (b : Int) (t : PL) : D := wd (.str k) (.int b) (sig t)
structure WordOk (k : Str) (b : Int) (t : PL) : Prop where
  nm : nmV k = true
  lo : 0 ≤ b
  hi : b ≤ 255
  ok : PairsOk t
theorem noC_wd {n : Nat} {k b s : D} (h1 : noCel n k = true) (h2 : noCel n b = true) (h3 : noCel n s = true) : noCelF n [("kind", k), ("base", b), ("signals", s)] = true := by
  simp [noCelF, h1, h2, h3]
@[irreducible] def sp_Word_init__ : DSp := fun ds M R RX => ∃ (M0 : Mt) (k b s : D), ds = [.cel M0.length, k, b, s] ∧ M = M0 ++ [.obj "Word" []] ∧ Val k ∧ Val b ∧ SigOr s ∧ match wordBad k b s with
  | some p => RX "InvalidWord" [("part", .str p)] M
  | none => R .non (M0 ++ [wd k b s])
theorem len_Word_init__ : ∀ ds M R RX, sp_Word_init__ ds M R RX → ds.length = p_Word_init__.length := by
  unfold sp_Word_init__; rintro ds M R RX ⟨_, _, _, _, rfl, _⟩; rfl
theorem use_Word_init__ {M0 : Mt} {k b s : D} {R RX} (hk : Val k) (hb : Val b) (hs : SigOr s) (q : match wordBad k b s with
  | some p => RX "InvalidWord" [("part", .str p)] (M0 ++ [.obj "Word" []])
  | none => R .non (M0 ++ [wd k b s])) : sp_Word_init__ [.cel M0.length, k, b, s] (M0 ++ [.obj "Word" []]) R RX := by
  unfold sp_Word_init__; exact ⟨M0, k, b, s, rfl, rfl, hk, hb, hs, q⟩
def w_Word_init__ (RX : RXe) : WS :=
  (wSeq (wIfS (wNotT (wTru (wCall sp_is_name [] RX0 (wCons (wVar 1) wNil)))) (wRaise "InvalidWord" ["part"] RX (wCons (wC (.str "kind")) wNil)) wSkip)
    (wSeq (wIfS (wNotT (wTru (wCall sp_is_between [] RX0 (wCons (wVar 2) (wCons (wC (.int 0)) (wCons (wC (.int 255)) wNil)))))) (wRaise "InvalidWord" ["part"] RX (wCons (wC (.str "base")) wNil)) wSkip)
    (wSeq (wIfS (wNotT (wTru (wCB (cIsO [("Signals", true)] "Signals") (wCons (wVar 3) (wCons (wC (.cls "Signals")) wNil))))) (wRaise "InvalidWord" ["part"] RX (wCons (wC (.str "signals")) wNil)) wSkip)
    (wSeq (wSetF "Word" "kind" (wVar 0) (wVar 1))
    (wSeq (wSetF "Word" "base" (wVar 0) (wVar 2))
    (wSetF "Word" "signals" (wVar 0) (wVar 3)))))))
theorem wp_Word_init__ : ∀ ds M R RX, sp_Word_init__ ds M R RX → M.all (cellOk M.length) = true → noCels M.length ds = true → w_Word_init__ (fun nm fs _ M' => rxF M.length RX nm fs M') (fnEnds M.length R) (startE 4 ds) M := by
  unfold sp_Word_init__; rintro ds M R RX ⟨M0, k, b, s, rfl, rfl, hk, hb, hs, q⟩ hM hds
  unfold wordBad at q
  walk_at "go"
  refine use_is_name hk ?_
  cases h1 : isNm k
  · rw [h1] at q
    walk_at "go"
    exact .keep q
  rw [h1] at q
  walk_at "go"
  refine use_is_between hb ?_
  cases h2 : isNum 0 255 b
  · rw [h2] at q
    walk_at "go"
    exact .keep q
  rw [h2] at q
  walk_at "go"
  rcases hs with ⟨t, rfl, ok⟩ | hv
  · refine isO_obj rfl rfl ?_
    walk_at "go"
    refine setF_use (T := []) ?_ (Nat.le_of_ble_eq_true rfl)
    walk_at "go"
    refine setF_use (T := []) ?_ (Nat.le_of_ble_eq_true rfl)
    walk_at "go"
    refine setF_use (T := []) ?_ (Nat.le_of_ble_eq_true rfl)
    walk_at "go"
    exact .keep q
  · refine isO_any ((val_other hv).2 _) ?_
    rw [val_nsig hv] at q
    walk_at "go"
    exact .keep q
/-! Word.of: 0 cls, 1 kind, 2 base, 3 fields, 4 signals -/
abbrev p_Word_of : List Str := ["cls", "kind", "base", "fields"]
@[irreducible] def sp_Word_of : DSp := fun ds M R RX => ∃ (k b : D) (ks : List (Key × D)), ds = [.cls "Word", k, b, .dct ks] ∧ Val k ∧ Val b ∧ ((∃ ps : PL, ks = kdI ps ∧ PairsOk ps ∧ match wordBad k b (sig (canon ps)) with
    | some p => RX "InvalidWord" [("part", .str p)] M
    | none => R (wd k b (sig (canon ps))) M) ∨
  ∃ (kv : List (Str × D)) (x : Str × D), ks = kd kv ∧ (∀ p ∈ kv, Val p.2 ∧ p.1.length ≤ 8) ∧ kv.length < 60 ∧ (∀ ns : List Str, ns.Perm (kv.map (·.1)) → sortedS ns = true → firstBad kv ns = some x) ∧ Val x.2 ∧ RX x.1 [("value", x.2)] M)
theorem use_Word_of {k b : D} {ps : PL} {M : Mt} {R RX} (hk : Val k) (hb : Val b) (ok : PairsOk ps) (q : match wordBad k b (sig (canon ps)) with
    | some p => RX "InvalidWord" [("part", .str p)] M
    | none => R (wd k b (sig (canon ps))) M) : sp_Word_of [.cls "Word", k, b, .dct (kdI ps)] M R RX := by
  unfold sp_Word_of; exact ⟨k, b, _, rfl, hk, hb, .inl ⟨ps, rfl, ok, q⟩⟩
theorem use_Word_ofX {k b : D} {kv : List (Str × D)} {x : Str × D} {M : Mt} {R RX} (hk : Val k) (hb : Val b) (h1 : ∀ p ∈ kv, Val p.2 ∧ p.1.length ≤ 8) (h2 : kv.length < 60) (h3 : ∀ ns : List Str, ns.Perm (kv.map (·.1)) → sortedS ns = true → firstBad kv ns = some x) (h4 : Val x.2) (q : RX x.1 [("value", x.2)] M) : sp_Word_of [.cls "Word", k, b, .dct (kd kv)] M R RX := by
  unfold sp_Word_of; exact ⟨k, b, _, rfl, hk, hb, .inr ⟨kv, x, rfl, h1, h2, h3, h4, q⟩⟩
def w_Word_of (RX : RXe) : WS :=
  (wSeq (wAsg (wMkS "Signals" "this_object" sp_Signals_init__ RX 3) (gN 4))
    (wRet (wMkL 0 "Word" sp_Word_init__ RX (wCons (wVar 1) (wCons (wVar 2) (wCons (wVar 4) wNil))))))
theorem wp_Word_of : ∀ ds M R RX, sp_Word_of ds M R RX → M.all (cellOk M.length) = true → noCels M.length ds = true → w_Word_of (fun nm fs _ M' => rxF M.length RX nm fs M') (fnEnds M.length R) (startE 5 ds) M := by
  unfold sp_Word_of; rintro ds M R RX ⟨k, b, ks, rfl, hk, hb, hq⟩ hM hds
  have h11 : (Str.ofString "this_object").length = 11 := by decide +kernel
  have ht : ∀ d : D, (M ++ [d]).take M.length = M := fun d => List.take_left' rfl
  rcases hq with ⟨ps, rfl, ok, q⟩ | ⟨kv, x, rfl, h1, h2, h3, h4, q⟩
  · have hl := ok_len ok
    have hkd : (kdI ps).length = ps.length := by unfold kdI; rw [List.length_map]
    have hkey : ∀ p ∈ kdI ps, ∃ k, p.1 = (Sum.inr k : Key) ∧ (k == Str.ofString "this_object") = false := fun p hp => by
      obtain ⟨q, hq2, rfl⟩ := List.mem_map.mp hp
      refine ⟨q.1, rfl, ?_⟩
      have h8 := (nms_nm _ (ok.nm q hq2)).2
      rw [beq_eq_false_iff_ne]
      intro e
      rw [e, h11] at h8
      omega
    walk_at "go"
    · exact ⟨by omega, hkey⟩
    refine use_Signals_init__ (M0 := M) ok ?_
    walk_at "go"
    have nc := fun n => noC_pD n (canon ps)
    refine mkEnd_i (by simp [noCelF, noCel, nc]) ?_
    walk_at "go"
    refine use_Word_init__ (M0 := M) (s := sig (canon ps)) hk hb (.inl ⟨_, rfl, canon_ok ok⟩) ?_
    cases hw : wordBad k b (sig (canon ps)) with
    | some p =>
      rw [hw] at q
      exact .less rfl (by rw [ht]; exact hM) (by rw [ht]; exact q)
    | none =>
      rw [hw] at q
      dsimp only
      refine ⟨rfl, mkEnd_i (noC_wd (hk.nc _) (hb.nc _) (noC_sig _ _)) ?_⟩
      exact .keep q
  · have hkd : (kd kv).length = kv.length := by unfold kd; rw [List.length_map]
    have hkey : ∀ p ∈ kd kv, ∃ k, p.1 = (Sum.inr k : Key) ∧ (k == Str.ofString "this_object") = false := fun p hp => by
      obtain ⟨q, hq2, rfl⟩ := List.mem_map.mp hp
      refine ⟨q.1, rfl, ?_⟩
      have h8 := (h1 q hq2).2
      rw [beq_eq_false_iff_ne]
      intro e
      rw [e, h11] at h8
      omega
    walk_at "go"
    · exact ⟨by omega, hkey⟩
    refine use_Signals_bad (M0 := M) (fun p hp => ⟨(h1 p hp).1, by have := (h1 p hp).2; omega⟩) h2 h3 ?_
    exact .less (by simp [noCelF, h4.nc]) (by rw [ht]; exact hM) (by rw [ht]; exact q)
/-! Word.__getitem__: 0 self, 1 field -/
abbrev p_Word_getitem__ : List Str := ["self", "field"]
@[irreducible] def sp_Word_getitem__ : DSp := fun ds M R RX => ∃ (k b : D) (t : PL) (f : D), ds = [wd k b (sig t), f] ∧ PairsOk t ∧ Val f ∧ (isNm f = true → ∀ s, f = .str s → R (.int (getN t s)) M) ∧ (isNm f = false → RX "InvalidName" [("value", f)] M)
theorem len_Word_getitem__ : ∀ ds M R RX, sp_Word_getitem__ ds M R RX → ds.length = p_Word_getitem__.length := by
  unfold sp_Word_getitem__; rintro ds M R RX ⟨_, _, _, _, rfl, _⟩; rfl
theorem use_Word_getitem__ {k b : D} {t : PL} {f : D} {M : Mt} {R RX} (h1 : PairsOk t) (h2 : Val f) (q : isNm f = true → ∀ s, f = .str s → R (.int (getN t s)) M) (q2 : isNm f = false → RX "InvalidName" [("value", f)] M) : sp_Word_getitem__ [wd k b (sig t), f] M R RX := by
  unfold sp_Word_getitem__; exact ⟨k, b, t, f, rfl, h1, h2, q, q2⟩
def w_Word_getitem__ (RX : RXe) : WS :=
  (wRet (wSubO "Signals" sp_Signals_getitem__ RX (wFld "Word" "signals" (wVar 0)) (wVar 1)))
theorem wp_Word_getitem__ : ∀ ds M R RX, sp_Word_getitem__ ds M R RX → M.all (cellOk M.length) = true → noCels M.length ds = true → w_Word_getitem__ (fun nm fs _ M' => rxF M.length RX nm fs M') (fnEnds M.length R) (startE 2 ds) M := by
  unfold sp_Word_getitem__; rintro ds M R RX ⟨k, b, t, f, rfl, ok, hv, q, q2⟩ hM hds
  walk_at "go"
  exact use_Signals_getitem__ ok hv (fun h s e => .keep (q h s e)) fun h => .keep (q2 h)
/-! Word.__eq__: 0 self, 1 other -/
abbrev p_Word_eq__ : List Str := ["self", "other"]
@[irreducible] def sp_Word_eq__ : DSp := fun ds M R _ => ∃ (k : Str) (b : Int) (t : PL) (y : D), ds = [wrd k b t, y] ∧ WordOk k b t ∧ ((∃ k2 b2 t2, y = wrd k2 b2 t2 ∧ WordOk k2 b2 t2 ∧ R (.bl (decide (k = k2 ∧ b = b2 ∧ t = t2))) M) ∨ ((other y ∨ ∃ t2, y = sig t2) ∧ R (.bl false) M))
theorem len_Word_eq__ : ∀ ds M R RX, sp_Word_eq__ ds M R RX → ds.length = p_Word_eq__.length := by
  unfold sp_Word_eq__; rintro ds M R RX ⟨_, _, _, _, rfl, _⟩; rfl
theorem use_Word_eq__ {k k2 : Str} {b b2 : Int} {t t2 : PL} {M : Mt} {R RX} (h1 : WordOk k b t) (h2 : WordOk k2 b2 t2) (q : R (.bl (decide (k = k2 ∧ b = b2 ∧ t = t2))) M) : sp_Word_eq__ [wrd k b t, wrd k2 b2 t2] M R RX := by
  unfold sp_Word_eq__; exact ⟨k, b, t, _, rfl, h1, .inl ⟨k2, b2, t2, rfl, h2, q⟩⟩
theorem use_Word_eqX {k : Str} {b : Int} {t : PL} {y : D} {M : Mt} {R RX} (h1 : WordOk k b t) (h2 : other y ∨ ∃ t2, y = sig t2) (q : R (.bl false) M) : sp_Word_eq__ [wrd k b t, y] M R RX := by
  unfold sp_Word_eq__; exact ⟨k, b, t, y, rfl, h1, .inr ⟨h2, q⟩⟩
def w_Word_eq__ : WS :=
  (wSeq (wIfS (wOrT (wNotT (wTru (wCB (cIsO [("Word", true), ("Signals", false)] "Word") (wCons (wVar 1) (wCons (wC (.cls "Word")) wNil))))) (wOrT (wTest (wOp (oEqI fun b => !b) (wFld "Word" "kind" (wVar 0)) (wFld "Word" "kind" (wVar 1)))) (wTest (wOp (oEqI fun b => !b) (wFld "Word" "base" (wVar 0)) (wFld "Word" "base" (wVar 1)))))) (wRet (wC (.bl false))) wSkip)
    (wRet (wOp (oEqO "Signals" sp_Signals_eq__ id) (wFld "Word" "signals" (wVar 0)) (wFld "Word" "signals" (wVar 1)))))
theorem wp_Word_eq__ : ∀ ds M R RX, sp_Word_eq__ ds M R RX → M.all (cellOk M.length) = true → noCels M.length ds = true → w_Word_eq__ (fnEnds M.length R) (startE 2 ds) M := by
  unfold sp_Word_eq__; rintro ds M R RX ⟨k, b, t, y, rfl, ok, h⟩ hM hds
  rcases h with ⟨k2, b2, t2, rfl, ok2, q⟩ | ⟨ho, q⟩
  · walk_at "go"
    refine isO_obj rfl rfl ?_
    walk_at "go"
    · have e : decide (k = k2 ∧ b = b2 ∧ t = t2) = false := decide_eq_false fun z => by rcases z with ⟨z1, z2, z3⟩; subst z1; contradiction
      rw [e] at q
      exact .keep q
    · have e : decide (k = k2 ∧ b = b2 ∧ t = t2) = false := decide_eq_false fun z => by rcases z with ⟨z1, z2, z3⟩; subst z2; contradiction
      rw [e] at q
      exact .keep q
    · refine eqO_obj rfl rfl (use_Signals_eq__ ok.ok ok2.ok ?_)
      walk_at "go"
      have e : decide (k = k2 ∧ b = b2 ∧ t = t2) = decide (t = t2) := by
        have h1 : k = k2 := by assumption
        have h2 : b = b2 := by assumption
        simp [h1, h2]
      rw [e] at q
      exact .keep q
  · walk_at "go"
    have key : ∀ R : D → Mt → Prop, R (.bl false) M → cIsO [("Word", true), ("Signals", false)] "Word" [y, .cls "Word"] M R := fun R r => by
      rcases ho with ho | ⟨t2, rfl⟩
      · exact isO_any (ho.2 M) r
      · exact isO_obj rfl rfl r
    refine key _ ?_
    walk_at "go"
    exact .keep q
/-! Word.__str__: 0 self, 1 field, 2 number -/
abbrev p_Word_str__ : List Str := ["self"]
def part (p : Str × Int) : Str := (p.1 ++ "=") ++ (Str.ofString (toString p.2))
def wtext (k : Str) (b : Int) (t : PL) : Str := Txt.join " " (k :: Str.ofString (toString b) :: t.map part)
@[irreducible] def sp_Word_str__ : DSp := fun ds M R _ => ∃ (k : Str) (b : Int) (t : PL), ds = [wrd k b t] ∧ WordOk k b t ∧ R (.str (wtext k b t)) M
theorem len_Word_str__ : ∀ ds M R RX, sp_Word_str__ ds M R RX → ds.length = p_Word_str__.length := by
  unfold sp_Word_str__; rintro ds M R RX ⟨_, _, _, rfl, _⟩; rfl
theorem use_Word_str__ {k : Str} {b : Int} {t : PL} {M : Mt} {R RX} (h1 : WordOk k b t) (q : R (.str (wtext k b t)) M) : sp_Word_str__ [wrd k b t] M R RX := by
  unfold sp_Word_str__; exact ⟨k, b, t, rfl, h1, q⟩
def w_Word_str__ : WS :=
  (wRet (wJoin (wC (.str " ")) (wLst (wCons (wFld "Word" "kind" (wVar 0)) (wCons (wCB cStr1 (wCons (wFld "Word" "base" (wVar 0)) wNil)) (wStar (wLc (wIt (wFgt (wFld "Signals" "told" (wFld "Word" "signals" (wVar 0))))) [1, 2] wYes (wJoined [(wFmt (wVar 1)), (wC (.str "=")), (wFmt (wVar 2))]) [1, 2]) wNil))))))
theorem num_len {i : Int} (h : 0 ≤ i ∧ i ≤ 1000000000) : (Str.ofString (toString i)).length ≤ 11 := by
  have e : (10 : Nat) ^ 10 = 10000000000 := by decide
  have := int_text_length_le10 (a := i) (k := 10) (by decide) (by rw [e]; omega)
  rw [PySem.ofString_length]; omega
theorem num_log {i : Int} (h : 0 ≤ i ∧ i ≤ 1000000000) : i.natAbs.log2 < 1920 := by
  by_cases e : i.natAbs = 0
  · rw [e]; decide
  · refine Nat.lt_of_lt_of_le ((Nat.log2_lt (k := 40) e).mpr ?_) (by decide)
    have e : (2 : Nat) ^ 40 = 1099511627776 := by decide
    rw [e]; omega
theorem str_app_len (a b : Str) : (a ++ b).length = a.length + b.length := strLen_append a b
theorem part_len {p : Str × Int} (h1 : nmV p.1 = true) (h2 : 0 ≤ p.2 ∧ p.2 ≤ 1000000000) : (part p).length ≤ 20 := by
  have h3 := (nms_nm _ h1).2
  have h4 := num_len h2
  unfold part
  rw [str_app_len, str_app_len]
  have e2 : (Str.ofString "=").length = 1 := rfl
  rw [e2]; omega
theorem empty_app (s : Str) : Str.empty ++ s = s := TL.ext_tl (by rw [TL.tl_append]; rfl)
theorem sum_le {α : Type} (f : α → Nat) (n : Nat) : ∀ l : List α, (∀ x ∈ l, f x ≤ n) → (l.map f).sum ≤ n * l.length
  | [], _ => by simp
  | x :: r, h => by
    have ih := sum_le f n r fun y hy => h y (List.mem_cons_of_mem _ hy)
    have h1 := h x List.mem_cons_self
    rw [List.map_cons, List.sum_cons, List.length_cons, Nat.mul_add]
    omega
theorem text_fits {k : Str} {b : Int} {t : PL} (h : WordOk k b t) : ((k :: Str.ofString (toString b) :: t.map part).map (·.length)).sum + (k :: Str.ofString (toString b) :: t.map part).length * (Str.ofString " ").length ≤ 16777216 := by
  have h1 := (nms_nm _ h.nm).2
  have h2 := num_len (i := b) ⟨h.lo, by have := h.hi; omega⟩
  have h3 := sum_le (fun p : Str × Int => (part p).length) 20 t fun p hp => part_len (h.ok.nm p hp) (h.ok.nb p hp)
  have h4 := h.ok.len
  have e : (Str.ofString " ").length = 1 := rfl
  rw [e]
  simp only [List.map_cons, List.sum_cons, List.length_cons, List.length_map, List.map_map, Function.comp_def] at h3 ⊢
  omega
theorem wp_Word_str__ : ∀ ds M R RX, sp_Word_str__ ds M R RX → M.all (cellOk M.length) = true → noCels M.length ds = true → w_Word_str__ (fnEnds M.length R) (startE 3 ds) M := by
  unfold sp_Word_str__; rintro ds M R RX ⟨k, b, t, rfl, ok, q⟩ hM hds
  have hl := ok.ok.len
  have hlo := ok.lo
  have hhi := ok.hi
  walk_at "go"
  · exact ⟨num_log ⟨hlo, by omega⟩⟩
  refine lcL_map (fun d => match d with | .tup [.str s, .int i] => .str (part (s, i)) | _ => .non) _ _ (by rw [line16, List.length_map]; omega) (fun d hd A hA => ?_) ?_
  · obtain ⟨p, hp, rfl⟩ := List.mem_map.mp hd
    have hA' : A (.str (part p)) M := hA
    have hn := ok.ok.nm p hp
    have hb := ok.ok.nb p hp
    have h8 := (nms_nm _ hn).2
    have b1 : Str.empty.length = 0 := rfl
    have b2 : (Str.ofString "=").length = 1 := rfl
    have b3 := num_len hb
    unfold part at hA'
    rw [← empty_app p.1] at hA'
    walk_at "go"
    all_goals first
      | exact hA'
      | exact ⟨num_log hb⟩
      | exact ⟨by rw [line16]; simp only [str_app_len]; omega⟩
  · have e : ((t.map pD).map fun d => match d with | .tup [.str s, .int i] => D.str (part (s, i)) | _ => .non) = (t.map part).map D.str := by rw [List.map_map, List.map_map]; rfl
    rw [e]
    walk_at "go"
    refine join_use (ys := k :: Str.ofString (toString b) :: t.map part) (by simp [seqD, viewD]) (text_fits ok) ?_
    walk_at "go"
    exact .keep q

/-! _law_pen: 0 _law_script -/
abbrev p_law_pen : List Str := ["_law_script"]
@[irreducible] def sp_law_pen : DSp := fun ds M R _ => ∃ ns : List Int, ds = [.rol (ns.map D.int)] ∧ M = TS0 ∧ ∀ b, PenOk 0 b → R (.cel 4) (TB b [])
theorem len_law_pen : ∀ ds M R RX, sp_law_pen ds M R RX → ds.length = p_law_pen.length := by
  unfold sp_law_pen; rintro ds M R RX ⟨ns, rfl, _⟩; rfl
theorem use_law_pen {ns : List Int} {R RX} (k : ∀ b, PenOk 0 b → R (.cel 4) (TB b [])) : sp_law_pen [.rol (ns.map D.int)] TS0 R RX := by
  unfold sp_law_pen; exact ⟨ns, rfl, rfl, k⟩
def w_law_pen : WS :=
  (wRet (wLstM (wCons (wCB (cListA false) (wCons (wSl (wVar 0) wNoP (wP (wC (.int 63)))) wNil)) (wCons (wC (.int 0)) (wCons (wC (.int 0)) wNil)))))
theorem wp_law_pen : ∀ ds M R RX, sp_law_pen ds M R RX → M.all (cellOk M.length) = true → noCels M.length ds = true → w_law_pen (fnEnds M.length R) (startE 1 ds) M := by
  unfold sp_law_pen; rintro ds M R RX ⟨ns, rfl, rfl, k⟩ _ _
  walk_at "go"
  have e : L3.cutD (ns.map D.int) none (some 63) = ((ns.drop (HT.sIx ns.length 0 none)).take (HT.sIx ns.length ns.length (some 63) - HT.sIx ns.length 0 none)).map D.int := by
    unfold L3.cutD; simp only [List.length_map, List.map_drop, List.map_take]
  refine .keep ?_
  rw [e]
  exact k _ ⟨_, 0, 0, rfl, by decide, by decide, by decide⟩
/-! _law_draw: 0 _law_pen_here, 1 _law_many, 2 _law_at, 3 _law_cell, 4 _law_mixed, 5 _law_digit, 6 _law_great -/
abbrev p_law_draw : List Str := ["_law_pen_here", "_law_many"]
@[irreducible] def sp_law_draw : DSp := fun ds M R _ => ∃ (many n : Int) (b : D) (M2 : Mt), ds = [.cel 4, .int many] ∧ M = TB b M2 ∧ PenOk n b ∧ n ≤ 1000000 ∧ 1 ≤ many ∧ many < 1073741824 ∧
  ∀ (d : Int) (b' : D), 0 ≤ d → d < many → PenOk (n + 1) b' → R (.int d) (TB b' M2)
theorem len_law_draw : ∀ ds M R RX, sp_law_draw ds M R RX → ds.length = p_law_draw.length := by
  unfold sp_law_draw; rintro ds M R RX ⟨_, _, _, _, rfl, _⟩; rfl
theorem use_law_draw {b : D} {many n : Int} {M2 : Mt} {R RX} (hb : PenOk n b) (hn : n ≤ 1000000) (h1 : 1 ≤ many) (h2 : many < 1073741824)
    (k : ∀ (d : Int) (b' : D), 0 ≤ d → d < many → PenOk (n + 1) b' → R (.int d) (TB b' M2)) : sp_law_draw [.cel 4, .int many] (TB b M2) R RX := by
  unfold sp_law_draw; exact ⟨many, n, b, M2, rfl, rfl, hb, hn, h1, h2, k⟩
def w_law_draw : WS :=
  (wSeq (wIfS (wTest (wOp oGt (wOp oIx (wVar 0) (wC (.int 2))) (wC (.int 0)))) (wSeq (wAsg (wOp oMod (wCB cInt (wCons (wOp oIx (wVar 0) (wC (.int 2))) wNil)) (wVar 1)) (gN 5))
    (wSeq (wAsg (wOp oFdiv (wCB cInt (wCons (wOp oIx (wVar 0) (wC (.int 2))) wNil)) (wVar 1)) (gIxL (wVar 0) (wC (.int 2))))
    (wRet (wVar 5)))) wSkip)
    (wSeq (wAsg (wOp oIx (wVar 0) (wC (.int 1))) (gN 2))
    (wSeq (wAsg (wOp oAdd (wVar 2) (wC (.int 1))) (gIxL (wVar 0) (wC (.int 1))))
    (wSeq (wAsg (wOp oAdd (wOp oMul (wC (.int 61129)) (wVar 2)) (wC (.int 449))) (gN 3))
    (wSeq (wIfS (wTest (wOp (oEqI fun b => !b) (wOp oIx (wVar 0) (wC (.int 0))) (wLst wNil))) (wAsg (wOp oIx (wOp oIx (wVar 0) (wC (.int 0))) (wOp oMod (wCB cInt (wCons (wVar 2) wNil)) (wCB cLen (wCons (wOp oIx (wVar 0) (wC (.int 0))) wNil)))) (gN 3)) wSkip)
    (wSeq (wIfS (wAndT (wTest (wOp oLt (wVar 2) (wCB cLen (wCons (wOp oIx (wVar 0) (wC (.int 0))) wNil)))) (wTest (wOp oGe (wCB cAbs (wCons (wVar 3) wNil)) (wOp oPow (wC (.int 10)) (wC (.int 18)))))) (wSeq (wAsg (wOp oAdd (wOp oMul (wC (.int 2)) (wOp oSub (wCB cAbs (wCons (wVar 3) wNil)) (wOp oPow (wC (.int 10)) (wC (.int 18))))) (wCB cInt (wCons (wOp oLt (wVar 3) (wC (.int 0))) wNil))) (gN 6))
    (wSeq (wAsg (wOp oFdiv (wCB cInt (wCons (wVar 6) wNil)) (wVar 1)) (gIxL (wVar 0) (wC (.int 2))))
    (wRet (wOp oMod (wCB cInt (wCons (wVar 6) wNil)) (wVar 1))))) wSkip)
    (wSeq (wAsg (wOp oMod (wCB cInt (wCons (wOp oPow (wOp oAdd (wOp oAdd (wOp oMod (wCB cInt (wCons (wVar 3) wNil)) (wC (.int 2147483549))) (wOp oMul (wC (.int 70021)) (wVar 2))) (wC (.int 149))) (wC (.int 5))) wNil)) (wC (.int 2147483629))) (gN 4))
    (wSeq (wAsg (wOp oMod (wCB cInt (wCons (wOp oPow (wOp oAdd (wOp oAdd (wOp oMul (wVar 4) (wOp oAdd (wOp oMul (wC (.int 2)) (wVar 2)) (wC (.int 223)))) (wOp oMul (wOp oMul (wC (.int 81043)) (wVar 2)) (wVar 2))) (wC (.int 11))) (wC (.int 3))) wNil)) (wC (.int 2147483587))) (gN 4))
    (wRet (wOp oMod (wCB cInt (wCons (wOp oFdiv (wVar 4) (wC (.int 32))) wNil)) (wVar 1)))))))))))
theorem atI_mod {cs : List Int} {a : Int} (hp : 0 < cs.length) (h0 : 0 ≤ a) : ∃ c, L2.atI (cs.map D.int) (a % ((cs.map D.int).length : Int)) = some (D.int c) := by
  have h1 := Int.emod_nonneg a (show ((cs.map D.int).length : Int) ≠ 0 by rw [List.length_map]; omega)
  have h2 := Int.emod_lt_of_pos a (show (0 : Int) < ((cs.map D.int).length : Int) by rw [List.length_map]; omega)
  rw [atI_in h1 h2, List.getElem?_map, List.getElem?_eq_getElem (by rw [List.length_map] at *; omega)]
  exact ⟨_, rfl⟩
theorem great_ok {c : Int} (h : 10 ^ Int.toNat 18 ≤ absI c) : 0 ≤ 2 * (absI c - 10 ^ Int.toNat 18) + (if decide (c < 0) = true then 1 else 0) := by
  split <;> omega
theorem pow_ok (m a x y z e : Int) (he0 : 0 ≤ e) (he1 : e ≤ 10) (hx : 0 ≤ x) (hx' : x < 1000) (hy : 0 ≤ y) (hy' : y < 100000) (hz : 0 ≤ z) (hz' : z < 100000) (h : 0 ≤ m) (h' : m < 2147483647) (h0 : 0 ≤ a) (h1 : a ≤ 1000000) : CPow (m * (2 * a + x) + y * a * a + z) e := by
  have h2 : m * (2 * a + x) ≤ 2147483647 * 2001000 := Int.mul_le_mul (by omega) (by omega) (by omega) (by omega)
  have h3 : 0 ≤ m * (2 * a + x) := Int.mul_nonneg h (by omega)
  have h4 : y * a ≤ 100000 * 1000000 := Int.mul_le_mul (by omega) (by omega) (by omega) (by omega)
  have h5 : 0 ≤ y * a := Int.mul_nonneg hy h0
  have h6 : y * a * a ≤ 100000000000 * 1000000 := Int.mul_le_mul (by omega) (by omega) (by omega) (by omega)
  have h7 : 0 ≤ y * a * a := Int.mul_nonneg h5 h0
  exact cpow (by omega) (by omega) (by omega) (by omega)
local macro_rules | `(tactic| walk_at "call") => `(tactic| first
  | (refine set_rest ?_; walk_at "go")
  | (refine set_at ?_; walk_at "go"))
theorem wp_law_draw : ∀ ds M R RX, sp_law_draw ds M R RX → M.all (cellOk M.length) = true → noCels M.length ds = true → w_law_draw (fnEnds M.length R) (startE 7 ds) M := by
  unfold sp_law_draw; rintro ds M R RX ⟨many, n, b, M2, rfl, rfl, ⟨cs, at_, rest, rfl, h0, hn0, h2⟩, hn, h3, h4, k⟩ _ _
  have h1 : at_ ≤ 1000000 := by omega
  have fin : ∀ (x a' r' : Int), at_ ≤ a' → a' ≤ at_ + 1 → 0 ≤ r' → retF (TB (pen cs at_ rest) M2).length R (.int (x % many)) (TB (pen cs a' r') M2) := fun x a' r' q1 q2 q3 =>
    .keep (k _ _ (Int.emod_nonneg _ (by omega)) (Int.emod_lt_of_pos _ (by omega)) ⟨cs, a', r', rfl, by omega, by omega, q3⟩)
  have m31 : ∀ x : Int, 0 ≤ x % 2147483647 ∧ x % 2147483647 < 2147483647 := fun x => ⟨Int.emod_nonneg _ (by decide), Int.emod_lt_of_pos _ (by decide)⟩
  have end1 : ∀ x : Int, retF (TB (pen cs at_ rest) M2).length R (.int (x % many)) (TB (pen cs (at_ + 1) rest) M2) := fun x => fin _ _ _ (by omega) (by omega) (by omega)
  have end2 : ∀ x : Int, 0 ≤ x → retF (TB (pen cs at_ rest) M2).length R (.int (x % many)) (TB (pen cs (at_ + 1) (x / many)) M2) := fun x hx => fin _ _ _ (by omega) (by omega) (Int.ediv_nonneg hx (by omega))
  have pos : (cs.map D.int).isEmpty = false → 0 < cs.length := fun h => by
    cases cs with
    | nil => cases h
    | cons _ _ => simp
  walk_at "go"
  · exact fin _ _ _ (by omega) (by omega) (Int.ediv_nonneg h2 (by omega))
  · exact ⟨by rw [List.length_map]; have := pos (by assumption); omega⟩
  · obtain ⟨c, hc⟩ := atI_mod (a := at_) (pos (by assumption)) h0
    rw [hc]
    walk_at "go"
    all_goals first
      | exact end1 _
      | exact end2 _ (great_ok (by assumption))
      | exact ⟨pow_ok _ _ _ _ _ _ (by decide) (by decide) (by decide) (by decide) (by decide) (by decide) (by decide) (by decide) (Int.emod_nonneg _ (by decide)) (Int.lt_of_lt_of_le (Int.emod_lt_of_pos _ (by decide)) (by decide)) h0 h1⟩
  all_goals first
    | exact end1 _
    | exact end2 _ (great_ok (by assumption))
    | exact ⟨pow_ok _ _ _ _ _ _ (by decide) (by decide) (by decide) (by decide) (by decide) (by decide) (by decide) (by decide) (Int.emod_nonneg _ (by decide)) (Int.lt_of_lt_of_le (Int.emod_lt_of_pos _ (by decide)) (by decide)) h0 h1⟩

/-! _law_pick: 0 _law_pen_here, 1 _law_some -/
abbrev p_law_pick : List Str := ["_law_pen_here", "_law_some"]
@[irreducible] def sp_law_pick : DSp := fun ds M R _ => ∃ (x : D) (l : List D) (n : Int) (b : D) (M2 : Mt), ds = [.cel 4, x] ∧ PickOf x l ∧ M = TB b M2 ∧ PenOk n b ∧ n ≤ 1000000 ∧ 1 ≤ l.length ∧ l.length ≤ 1000 ∧
  ∀ (d : D) (b' : D), d ∈ l → PenOk (n + 1) b' → R d (TB b' M2)
theorem len_law_pick : ∀ ds M R RX, sp_law_pick ds M R RX → ds.length = p_law_pick.length := by
  unfold sp_law_pick; rintro ds M R RX ⟨_, _, _, _, _, rfl, _⟩; rfl
theorem use_law_pick {l : List D} {n : Int} {b : D} {M2 : Mt} {R RX} (hb : PenOk n b) (hn : n ≤ 1000000) (h1 : 1 ≤ l.length) (h2 : l.length ≤ 1000)
    (k : ∀ (d : D) (b' : D), d ∈ l → PenOk (n + 1) b' → R d (TB b' M2)) : sp_law_pick [.cel 4, .lst l] (TB b M2) R RX := by
  unfold sp_law_pick; exact ⟨_, l, n, b, M2, rfl, .inl rfl, rfl, hb, hn, h1, h2, k⟩
theorem use_law_pickS {s : Str} {n : Int} {b : D} {M2 : Mt} {R RX} (hb : PenOk n b) (hn : n ≤ 1000000) (h1 : 1 ≤ s.length) (h2 : s.length ≤ 1000)
    (k : ∀ (c : Nat) (b' : D), c ∈ s.cps.toList → PenOk (n + 1) b' → R (.str ⟨#[c]⟩) (TB b' M2)) : sp_law_pick [.cel 4, .str s] (TB b M2) R RX := by
  unfold sp_law_pick; exact ⟨_, chars s, n, b, M2, rfl, .inr ⟨s, rfl, rfl⟩, rfl, hb, hn, by rw [chars_len]; exact h1, by rw [chars_len]; exact h2, fun d b' hd hb' => by
    obtain ⟨c, hc, rfl⟩ := mem_chars hd
    exact k c b' hc hb'⟩
def w_law_pick : WS :=
  (wRet (wOp oIx (wVar 1) (wCall sp_law_draw [] RX0 (wCons (wVar 0) (wCons (wCB cLen (wCons (wVar 1) wNil)) wNil)))))
theorem wp_law_pick : ∀ ds M R RX, sp_law_pick ds M R RX → M.all (cellOk M.length) = true → noCels M.length ds = true → w_law_pick (fnEnds M.length R) (startE 2 ds) M := by
  unfold sp_law_pick; rintro ds M R RX ⟨x, l, n, b, M2, rfl, hx, rfl, hb, hn, h1, h2, k⟩ _ _
  rcases hx with rfl | ⟨s, rfl, rfl⟩
  · walk_at "go"
    refine use_law_draw hb hn (by omega) (by omega) fun dr b2 hd0 hd1 hb2 => ?_
    walk_at "go"
    rw [atI_in hd0 hd1, List.getElem?_eq_getElem (by omega)]
    walk_at "go"
    exact .keep (k _ _ (List.getElem_mem _) hb2)
  · rw [chars_len] at h1 h2
    walk_at "go"
    refine len_str rfl (by rw [line16]; omega) ?_
    walk_at "go"
    refine use_law_draw hb hn (by omega) (by omega) fun dr b2 hd0 hd1 hb2 => ?_
    have hsl : s.length = s.cps.toList.length := by show s.cps.size = _; rw [Array.length_toList]
    have ha : L2.atI s.cps.toList dr = some (s.cps.toList[dr.toNat]'(by omega)) := by
      rw [atI_in hd0 (by omega), List.getElem?_eq_getElem (by omega)]
    walk_at "go"
    rw [ha]
    walk_at "go"
    refine .keep (k _ _ ?_ hb2)
    unfold chars
    exact List.mem_map.mpr ⟨_, List.getElem_mem _, rfl⟩

/-! _law_names: 0 _law_pen_here, 1 _law_many, 2 _law_letters, 3 _law_size, 4 _law_signs, 5 _law_base, 6 _law_at, 7 _law_found, 8 _law_k, 9 _law_start, 10 _law_hop, 11 _law_word -/
abbrev p_law_names : List Str := ["_law_pen_here", "_law_many"]
theorem last1 {b : D} {M2 : Mt} {x : D} : (TB (b) (M2 ++ [x]))[M2.length + 5]? = some x := by simp
theorem set1L {b x z : D} {M2 : Mt} : (TB (b) (M2 ++ [x])).set (M2.length + 5) z = TB b (M2 ++ [z]) := by simp
/-! ### drawn names -/
abbrev RS5 : List Str := ["to", "if", "tag", "all", "none"]
theorem res_rs : RES = RS5.map V.str := rfl
structure Base (B : Str) (k : Nat) : Prop where
  len : B.length ≤ 7
  al : ∀ c ∈ TL.tl B, al c = true
  at_ : k ≤ B.length
  hd : 0 < k → ∀ c, (TL.tl B).head? = some c → c ∈ LET.cps.toList
def word (B : Str) (k : Nat) (c : Nat) : Str := cutS B none (some (k : Int)) ++ ⟨#[c]⟩ ++ cutS B (some (k : Int)) none
def fin (W : Str) : Str := W ++ mulS "z" (if decide (W ∈ RS5) = true then 1 else 0)
theorem tl_lo {B : Str} {k : Nat} (h : k ≤ B.length) : TL.tl (cutS B none (some (k : Int))) = (TL.tl B).take k := by
  show ((B.cps.toList.drop (HT.sIx B.length 0 none)).take (HT.sIx B.length B.length (some (k : Int)) - HT.sIx B.length 0 none)).toArray.toList = _
  rw [HT.sIx_none, HT.sIx_nat, Nat.min_eq_left h, List.drop_zero, Nat.sub_zero]
theorem tl_hi {B : Str} {k : Nat} (h : k ≤ B.length) : TL.tl (cutS B (some (k : Int)) none) = (TL.tl B).drop k := by
  show ((B.cps.toList.drop (HT.sIx B.length 0 (some (k : Int)))).take (HT.sIx B.length B.length none - HT.sIx B.length 0 (some (k : Int)))).toArray.toList = _
  rw [HT.sIx_none, HT.sIx_nat, Nat.min_eq_left h]
  have e : B.cps.toList.length = B.length := by rw [Array.length_toList]; rfl
  rw [List.take_of_length_le (by rw [List.length_drop]; omega)]
theorem tl_word {B : Str} {k c : Nat} (h : k ≤ B.length) : TL.tl (word B k c) = (TL.tl B).take k ++ c :: (TL.tl B).drop k := by
  unfold word
  rw [TL.tl_append, TL.tl_append, tl_lo h, tl_hi h, List.append_assoc]; rfl
theorem mul0 : mulS "z" 0 = Str.empty := by decide +kernel
theorem mul1 : mulS "z" 1 = "z" := by decide +kernel
theorem mul_ok (b : Bool) : MulOk "z" (if b = true then 1 else 0) := by
  cases b
  · exact ⟨by decide, fun h => absurd (by decide) h, fun h => absurd (by decide) h⟩
  · exact ⟨by decide, fun _ h => (by simp at h), fun _ h => (by simp at h)⟩
theorem fin_in {W : Str} (h : W ∈ RS5) : fin W = W ++ "z" := by unfold fin; rw [decide_eq_true h, if_pos rfl, mul1]
theorem fin_out {W : Str} (h : ¬ W ∈ RS5) : fin W = W := by
  unfold fin
  rw [decide_eq_false h, if_neg Bool.false_ne_true, mul0]
  exact TL.ext_tl (by rw [TL.tl_append]; show TL.tl W ++ [] = _; rw [List.append_nil])
theorem word_len {B : Str} {k c : Nat} (h : k ≤ B.length) : (word B k c).length = B.length + 1 := by
  rw [TL.len_tl, tl_word h, List.length_append, List.length_cons, List.length_take, List.length_drop, ← TL.len_tl]
  omega
theorem rs_z : ∀ r ∈ RS5, nmV (r ++ "z") = true := by decide +kernel
theorem word_nm {B : Str} {k c : Nat} (h : Base B k) (hc : c ∈ LET.cps.toList) (hr : ¬ word B k c ∈ RS5) : nmV (word B k c) = true := by
  have e := tl_word (c := c) h.at_
  have hl := word_len (c := c) h.at_
  have h7 := h.len
  have h1 : decide (1 ≤ ((word B k c).length : Int)) = true := decide_eq_true (by omega)
  have h2 : decide (((word B k c).length : Int) ≤ 8) = true := decide_eq_true (by omega)
  have h3 : inV (.str (word B k c)) RES = false := by rw [res_rs, inV_strs]; exact decide_eq_false hr
  have h4 : (word B k c).cps.toList.all (fun c => decide (c ∈ LET.cps.toList) || decide (c ∈ DIG.cps.toList)) = true := by
    refine List.all_eq_true.mpr fun d hd => ?_
    have hd : d ∈ TL.tl (word B k c) := hd
    rw [e] at hd
    rcases List.mem_append.mp hd with hd | hd
    · exact h.al d (List.mem_of_mem_take hd)
    · rcases List.mem_cons.mp hd with rfl | hd
      · rw [decide_eq_true hc]; rfl
      · exact h.al d (List.mem_of_mem_drop hd)
  have h5 : (match (word B k c).cps.toList with
    | c :: _ => decide (c ∈ LET.cps.toList)
    | [] => false) = true := by
    have e' : (word B k c).cps.toList = (TL.tl B).take k ++ c :: (TL.tl B).drop k := e
    rw [e']
    cases k with
    | zero => rw [List.take_zero, List.nil_append]; exact decide_eq_true hc
    | succ j =>
      have hat := h.at_
      rw [TL.len_tl] at hat
      obtain ⟨x, r, eB⟩ : ∃ x r, TL.tl B = x :: r := by
        cases hq : TL.tl B with
        | nil => rw [hq] at hat; simp at hat
        | cons x r => exact ⟨x, r, rfl⟩
      rw [eB, List.take_succ_cons, List.cons_append]
      exact decide_eq_true (h.hd (Nat.succ_pos _) x (by rw [eB]; rfl))
  unfold nmV
  simp only [Bool.and_eq_true]
  exact ⟨⟨⟨⟨h1, h2⟩, by rw [h3]; rfl⟩, h5⟩, h4⟩
theorem fin_nm {B : Str} {k c : Nat} (h : Base B k) (hc : c ∈ LET.cps.toList) : nmV (fin (word B k c)) = true := by
  by_cases hr : word B k c ∈ RS5
  · rw [fin_in hr]; exact rs_z _ hr
  · rw [fin_out hr]; exact word_nm h hc hr
theorem word_inj {B : Str} {k c d : Nat} (h : k ≤ B.length) (e : word B k c = word B k d) : c = d := by
  have e2 : TL.tl (word B k c) = TL.tl (word B k d) := by rw [e]
  rw [tl_word h, tl_word h] at e2
  have := List.append_cancel_left e2
  exact (List.cons.inj this).1
theorem fin_inj {B : Str} {k c d : Nat} (h : k ≤ B.length) (e : fin (word B k c) = fin (word B k d)) : c = d := by
  have lc := word_len (c := c) h
  have ld := word_len (c := d) h
  have lz : (Str.ofString "z").length = 1 := by decide +kernel
  by_cases h1 : word B k c ∈ RS5 <;> by_cases h2 : word B k d ∈ RS5
  · rw [fin_in h1, fin_in h2] at e
    have e2 : TL.tl (word B k c ++ "z") = TL.tl (word B k d ++ "z") := by rw [e]
    rw [TL.tl_append, TL.tl_append] at e2
    exact word_inj h (TL.ext_tl (List.append_cancel_right e2))
  · rw [fin_in h1, fin_out h2] at e
    have := congrArg Str.length e
    rw [len_app, lc, ld, lz] at this
    omega
  · rw [fin_out h1, fin_in h2] at e
    have := congrArg Str.length e
    rw [len_app, lc, ld, lz] at this
    omega
  · rw [fin_out h1, fin_out h2] at e
    exact word_inj h e
theorem let26 : LET.cps.toList.length = 26 := by decide +kernel
theorem let_nd : LET.cps.toList.Nodup := by decide +kernel
def chr (st hp : Int) (i : Nat) : Nat := LET.cps.toList.getD ((st + hp * (i : Int)) % 26).toNat 0
theorem chr_ix (st hp : Int) (i : Nat) : ((st + hp * (i : Int)) % 26).toNat < 26 := by
  have := Int.emod_lt_of_pos (st + hp * (i : Int)) (show (0 : Int) < 26 by decide)
  omega
theorem chr_mem (st hp : Int) (i : Nat) : chr st hp i ∈ LET.cps.toList := by
  unfold chr
  have h := chr_ix st hp i
  rw [List.getD_eq_getElem?_getD, List.getElem?_eq_getElem (by rw [let26]; exact h)]
  exact List.getElem_mem _
theorem chr_at (st hp : Int) (i : Nat) : L2.atI LET.cps.toList ((st + hp * (i : Int)) % 26) = some (chr st hp i) := by
  have h0 := Int.emod_nonneg (st + hp * (i : Int)) (show (26 : Int) ≠ 0 by decide)
  have h := chr_ix st hp i
  rw [atI_in h0 (by rw [let26]; omega)]
  unfold chr
  rw [List.getD_eq_getElem?_getD, List.getElem?_eq_getElem (by rw [let26]; exact h)]; rfl
abbrev HOPS : List Int := [1, 3, 5, 7, 9, 11, 15, 17, 19, 21, 23, 25]
theorem chr_inj {st hp : Int} (hh : hp ∈ HOPS) {i j : Nat} (hi : i < 26) (hj : j < 26) (e : chr st hp i = chr st hp j) : i = j := by
  have h1 := chr_ix st hp i
  have h2 := chr_ix st hp j
  unfold chr at e
  rw [List.getD_eq_getElem?_getD, List.getD_eq_getElem?_getD, List.getElem?_eq_getElem (by rw [let26]; exact h1), List.getElem?_eq_getElem (by rw [let26]; exact h2), Option.getD_some, Option.getD_some] at e
  have e2 := (List.getElem_inj let_nd).mp e
  have n1 := Int.emod_nonneg (st + hp * (i : Int)) (show (26 : Int) ≠ 0 by decide)
  have n2 := Int.emod_nonneg (st + hp * (j : Int)) (show (26 : Int) ≠ 0 by decide)
  have e3 : (st + hp * (i : Int)) % 26 = (st + hp * (j : Int)) % 26 := by omega
  simp only [List.mem_cons, List.not_mem_nil, or_false] at hh
  rcases hh with rfl | rfl | rfl | rfl | rfl | rfl | rfl | rfl | rfl | rfl | rfl | rfl <;> omega
structure Words (ws : List Str) : Prop where
  nd : ws.Nodup
  nm : ∀ w ∈ ws, nmV w = true
theorem words_of {B : Str} {k : Nat} {st hp : Int} (h : Base B k) (hh : hp ∈ HOPS) {m : Nat} (hm : m ≤ 26) : Words ((List.range m).map fun i => fin (word B k (chr st hp i))) := by
  refine ⟨?_, fun w hw => ?_⟩
  · exact List.pairwise_map.mpr (List.Pairwise.imp_of_mem (fun {i j} hi hj hne e => hne (chr_inj hh (by have := List.mem_range.mp hi; omega) (by have := List.mem_range.mp hj; omega) (fin_inj h.at_ e))) List.nodup_range)
  · obtain ⟨i, _, rfl⟩ := List.mem_map.mp hw
    exact fin_nm h (chr_mem _ _ _)
theorem base_pick {ys : List Nat} (h7 : ys.length ≤ 7) (h : ∀ c ∈ ys, al c = true) {d : D} (hd : d ∈ [D.str ⟨ys.toArray⟩, .str ⟨ys.toArray⟩, .str ⟨ys.toArray⟩, .str "o", .str "ag", .str "nne"]) : ∃ B : Str, d = .str B ∧ B.length ≤ 7 ∧ ∀ c ∈ TL.tl B, al c = true := by
  have h1 : ∃ B : Str, D.str ⟨ys.toArray⟩ = .str B ∧ B.length ≤ 7 ∧ ∀ c ∈ TL.tl B, al c = true := ⟨_, rfl, by show ys.toArray.size ≤ 7; simpa using h7, fun c hc => h c hc⟩
  simp only [List.mem_cons, List.not_mem_nil, or_false] at hd
  rcases hd with rfl | rfl | rfl | rfl | rfl | rfl
  · exact h1
  · exact h1
  · exact h1
  · exact ⟨_, rfl, by decide +kernel, by decide +kernel⟩
  · exact ⟨_, rfl, by decide +kernel, by decide +kernel⟩
  · exact ⟨_, rfl, by decide +kernel, by decide +kernel⟩
theorem joinL_nil : ∀ l : List (List Nat), TL.joinL [] l = l.flatten
  | [] => rfl
  | [p] => by simp [TL.joinL]
  | p :: q :: r => by
    have := joinL_nil (q :: r)
    show p ++ ([] ++ TL.joinL [] (q :: r)) = _
    rw [this]; simp
theorem join_one (cs : List Nat) : Txt.join "" (cs.map fun c => (⟨#[c]⟩ : Str)) = ⟨cs.toArray⟩ := by
  refine TL.ext_tl ?_
  rw [TL.join_eq, TL.tl_join]
  have e : TL.tl ("" : Str) = [] := by decide +kernel
  rw [e, joinL_nil, List.map_map]
  show (cs.map fun c => [c]).flatten = cs
  induction cs with
  | nil => rfl
  | cons c r ih => rw [List.map_cons, List.flatten_cons, ih]; rfl
theorem ones_len : ∀ cs : List Nat, ((cs.map fun c => (⟨#[c]⟩ : Str)).map (·.length)).sum + (cs.map fun c => (⟨#[c]⟩ : Str)).length * 0 = cs.length
  | [] => rfl
  | c :: r => by
    have := ones_len r
    simp only [List.map_cons, List.sum_cons, List.length_cons] at this ⊢
    have e : (⟨#[c]⟩ : Str).length = 1 := rfl
    omega
theorem base_new {B : Str} {k c : Nat} (h7 : B.length ≤ 7) (hal : ∀ c ∈ TL.tl B, al c = true) (h1 : 1 ≤ k) (hk : k ≤ B.length) (hc : c ∈ LET.cps.toList) : Base (⟨#[c]⟩ ++ cutS B (some 1) none) k := by
  have e : TL.tl (⟨#[c]⟩ ++ cutS B (some 1) none) = c :: (TL.tl B).drop 1 := by
    rw [TL.tl_append]
    have := tl_hi (B := B) (k := 1) (by omega)
    rw [show ((1 : Nat) : Int) = 1 from rfl] at this
    rw [this]; rfl
  have el : (⟨#[c]⟩ ++ cutS B (some 1) none : Str).length = B.length := by
    rw [TL.len_tl, e, List.length_cons, List.length_drop, ← TL.len_tl]; omega
  refine ⟨by omega, fun d hd => ?_, by omega, fun _ d hd => ?_⟩
  · rw [e] at hd
    rcases List.mem_cons.mp hd with rfl | hd
    · unfold al; rw [decide_eq_true hc]; rfl
    · exact hal d (List.mem_of_mem_drop hd)
  · rw [e] at hd
    cases hd; exact hc
theorem sign_al : ∀ c ∈ (LET ++ DIG).cps.toList, al c = true := by decide +kernel
theorem mul_len (b : Bool) : (mulS "z" (if b = true then 1 else 0)).length ≤ 1 := by cases b <;> decide +kernel
theorem appL {b d : D} {M2 : Mt} {l : List D} {R : D → Mt → Prop} (hl : l.length < sizeLine) (k : R .non (TB b (M2 ++ [.lst (l ++ [d])]))) : mAppend (.cel (M2.length + 5)) [d] (TB b (M2 ++ [.lst l])) R :=
  app_use last1 hl (by rw [set1L]; exact k)
theorem frzL {b : D} {M2 : Mt} {l : List D} {R : D → Mt → Prop} (k : R (.lst l) (TB b (M2 ++ [.non]))) : frz (.cel (M2.length + 5)) (TB b (M2 ++ [.lst l])) R := by
  simp only [frz, last1, set1L]; exact k
theorem noCel_strs (n : Nat) (l : List Str) : noCel n (.lst (l.map D.str)) = true := by
  unfold noCel
  exact noCels_mem.mpr fun d hd => by
    obtain ⟨c, _, rfl⟩ := List.mem_map.mp hd; rfl
@[irreducible] def sp_law_names : DSp := fun ds M R _ => ∃ (m : Nat) (n : Int) (b : D) (M2 : Mt), ds = [.cel 4, .int m] ∧ M = TB b M2 ∧ PenOk n b ∧ n ≤ 999000 ∧ m ≤ 26 ∧
  ∀ (ws : List Str) (b' : D), Words ws → ws.length = m → PenOk (n + 20) b' → R (.lst (ws.map D.str)) (TB b' M2)
theorem len_law_names : ∀ ds M R RX, sp_law_names ds M R RX → ds.length = p_law_names.length := by
  unfold sp_law_names; rintro ds M R RX ⟨_, _, _, _, rfl, _⟩; rfl
theorem use_law_names {m : Nat} {n : Int} {b : D} {M2 : Mt} {R RX} (hb : PenOk n b) (hn : n ≤ 999000) (hm : m ≤ 26)
    (k : ∀ (ws : List Str) (b' : D), Words ws → ws.length = m → PenOk (n + 20) b' → R (.lst (ws.map D.str)) (TB b' M2)) : sp_law_names [.cel 4, .int m] (TB b M2) R RX := by
  unfold sp_law_names; exact ⟨m, n, b, M2, rfl, rfl, hb, hn, hm, k⟩
def w_law_names : WS :=
  (wSeq (wAsg (wC (.str "abcdefghijklmnopqrstuvwxyz")) (gN 2))
    (wSeq (wAsg (wCall sp_law_pick [] RX0 (wCons (wVar 0) (wCons (wLst (wCons (wC (.int 0)) (wCons (wC (.int 0)) (wCons (wC (.int 1)) (wCons (wC (.int 2)) (wCons (wC (.int 3)) (wCons (wC (.int 7)) wNil))))))) wNil))) (gN 3))
    (wSeq (wAsg (wOp oAdd (wVar 2) (wC (.str "0123456789"))) (gN 4))
    (wSeq (wAsg (wJoin (wC (.str "")) (wLc (wRng1 (wCons (wVar 3) wNil)) [8] wYes (wCall sp_law_pick [] RX0 (wCons (wVar 0) (wCons (wVar 4) wNil))) [8])) (gN 5))
    (wSeq (wAsg (wCall sp_law_pick [] RX0 (wCons (wVar 0) (wCons (wLst (wCons (wVar 5) (wCons (wVar 5) (wCons (wVar 5) (wCons (wC (.str "o")) (wCons (wC (.str "ag")) (wCons (wC (.str "nne")) wNil))))))) wNil))) (gN 5))
    (wSeq (wAsg (wCall sp_law_draw [] RX0 (wCons (wVar 0) (wCons (wOp oAdd (wCB cLen (wCons (wVar 5) wNil)) (wC (.int 1))) wNil))) (gN 6))
    (wSeq (wIfS (wTest (wOp oGt (wVar 6) (wC (.int 0)))) (wAsg (wOp oAdd (wCall sp_law_pick [] RX0 (wCons (wVar 0) (wCons (wVar 2) wNil))) (wSl (wVar 5) (wP (wC (.int 1))) wNoP)) (gN 5)) wSkip)
    (wSeq (wPar 9 10 (wCons (wCall sp_law_draw [] RX0 (wCons (wVar 0) (wCons (wC (.int 26)) wNil))) (wCons (wCall sp_law_pick [] RX0 (wCons (wVar 0) (wCons (wLst (wCons (wC (.int 1)) (wCons (wC (.int 3)) (wCons (wC (.int 5)) (wCons (wC (.int 7)) (wCons (wC (.int 9)) (wCons (wC (.int 11)) (wCons (wC (.int 15)) (wCons (wC (.int 17)) (wCons (wC (.int 19)) (wCons (wC (.int 21)) (wCons (wC (.int 23)) (wCons (wC (.int 25)) wNil))))))))))))) wNil))) wNil)))
    (wSeq (wAsg (wLstM wNil) (gN 7))
    (wSeq (wFor (wRng1 (wCons (wVar 1) wNil)) (gN 8) (wSeq (wAsg (wOp oAdd (wOp oAdd (wSl (wVar 5) wNoP (wP (wVar 6))) (wOp oIx (wVar 2) (wOp oMod (wCB cInt (wCons (wOp oAdd (wVar 9) (wOp oMul (wVar 10) (wVar 8))) wNil)) (wC (.int 26))))) (wSl (wVar 5) (wP (wVar 6)) wNoP)) (gN 11))
    (wExp (wBM "list" mAppend (wVar 7) (wCons (wOp oAdd (wVar 11) (wOp oMul (wC (.str "z")) (wCB cInt (wCons (wOp (oIn false) (wVar 11) (wLst (wCons (wC (.str "to")) (wCons (wC (.str "if")) (wCons (wC (.str "tag")) (wCons (wC (.str "all")) (wCons (wC (.str "none")) wNil))))))) wNil)))) wNil)))))
    (wRetF (wVar 7))))))))))))
theorem wp_law_names : ∀ ds M R RX, sp_law_names ds M R RX → M.all (cellOk M.length) = true → noCels M.length ds = true → w_law_names (fnEnds M.length R) (startE 12 ds) M := by
  unfold sp_law_names; rintro ds M R RX ⟨m, n, b, M2, rfl, rfl, hb, hn, hm, k⟩ hM hds
  walk_at "go"
  refine use_law_pick hb (by omega) (by decide) (by decide) fun d b1 hd hb1 => ?_
  obtain ⟨sz, rfl, hs0, hs7⟩ : ∃ sz : Nat, d = .int sz ∧ 0 ≤ sz ∧ sz ≤ 7 := by
    simp only [List.mem_cons, List.not_mem_nil, or_false] at hd
    rcases hd with rfl | rfl | rfl | rfl | rfl | rfl
    · exact ⟨0, rfl, by decide, by decide⟩
    · exact ⟨0, rfl, by decide, by decide⟩
    · exact ⟨1, rfl, by decide, by decide⟩
    · exact ⟨2, rfl, by decide, by decide⟩
    · exact ⟨3, rfl, by decide, by decide⟩
    · exact ⟨7, rfl, by decide, by decide⟩
  walk_at "go"
  refine lcL_inv (fun i acc M => ∃ (cs : List Nat) (b' : D), M = TB b' M2 ∧ acc = (cs.map fun c => (⟨#[c]⟩ : Str)).map D.str ∧ cs.length = i ∧ (∀ c ∈ cs, al c = true) ∧ PenOk (n + 1 + i) b') (by simp only [rangeD, List.length_map, List.length_range]; rw [line16]; omega) ⟨[], b1, rfl, rfl, rfl, by simp, by simpa using hb1⟩ ?_ ?_
  · rintro i d acc M A C hd ⟨cs, b', rfl, rfl, hac, hal, hb'⟩ hA hC
    obtain ⟨hi, rfl⟩ := range_get hd
    simp only [Int.toNat_natCast] at hi
    walk_at "go"
    refine use_law_pickS hb' (by omega) (by decide +kernel) (by decide +kernel) fun c b2 hc hb2 => ?_
    refine hA _ _ ⟨cs ++ [c], b2, rfl, by simp, by simp [hac], fun x hx => ?_, by rw [show n + 1 + ((i + 1 : Nat) : Int) = n + 1 + i + 1 by omega]; exact hb2⟩
    rcases List.mem_append.mp hx with hx | hx
    · exact hal x hx
    · rw [List.mem_singleton.mp hx]; exact sign_al c hc
  · rintro acc M hal ⟨cs, b', rfl, rfl, hac, hal, hb'⟩
    have e : (rangeD 0 (Int.toNat ↑sz)).length = sz := by simp [rangeD]
    rw [e] at hac hb'
    walk_at "go"
    refine join_use rfl (by rw [show (Str.ofString "").length = 0 by decide, ones_len]; omega) ?_
    rw [join_one]
    walk_at "go"
    refine use_law_pick hb' (by omega) (by simp) (by simp) fun d b2 hd hb2 => ?_
    obtain ⟨B, rfl, hB7, hBal⟩ := base_pick (by omega) hal hd
    clear hd
    walk_at "go"
    refine len_str rfl (by rw [line16]; omega) ?_
    walk_at "go"
    refine use_law_draw hb2 (by omega) (by omega) (by omega) fun at_ b3 ha0 ha1 hb3 => ?_
    obtain ⟨k_, rfl⟩ : ∃ k_ : Nat, at_ = k_ := ⟨at_.toNat, by omega⟩
    walk_at "go"
    · rename_i hk
      refine use_law_pickS hb3 (by omega) (by decide) (by decide) fun c b4 hc hb4 => ?_
      have hbase : Base (⟨#[c]⟩ ++ cutS B (some 1) none) k_ := base_new hB7 hBal (by omega) (by omega) hc
      walk_at "go"
      · exact ⟨by have := hbase.len; rw [len_app] at this; rw [line16]; omega⟩
      replace hb4 : PenOk (n + 11) b4 := hb4.mono (by omega)
      generalize (⟨#[c]⟩ ++ cutS B (some 1) none : Str) = B' at hbase ⊢
      refine use_law_draw hb4 (by omega) (by decide) (by decide) fun st b5 hs0 hs1 hb5 => ?_
      walk_at "go"
      refine use_law_pick hb5 (by omega) (by simp) (by simp) fun d b6 hd hb6 => ?_
      obtain ⟨hp, hhp, rfl⟩ := List.mem_map.mp (show d ∈ HOPS.map D.int from hd)
      clear hd
      walk_at "go"
      refine forL_inv (fun i env M => ∃ (e8 e11 : Option D), env = [some (.cel 4), some (.int m), some (.str "abcdefghijklmnopqrstuvwxyz"), some (.int sz), some (.str ("abcdefghijklmnopqrstuvwxyz" ++ "0123456789")), some (.str B'), some (.int k_), some (.cel (M2.length + 5)), e8, some (.int st), some (.int hp), e11] ∧ M = TB b6 (M2 ++ [.lst (((List.range i).map fun k => fin (word B' k_ (chr st hp k))).map D.str)])) ⟨none, none, rfl, rfl⟩ ?_ ?_
      · rintro i d env M hd ⟨e8, e11, rfl, rfl⟩
        obtain ⟨hi, rfl⟩ := range_get hd
        clear hd
        walk_at "go"
        · exact ⟨by have := hbase.len; rw [line16]; omega⟩
        have ec : L2.atI (Str.ofString "abcdefghijklmnopqrstuvwxyz").cps.toList ((st + hp * (0 + (i : Int))) % 26) = some (chr st hp i) := by rw [Int.zero_add]; exact chr_at st hp i
        rw [ec]
        have hwl := word_len (c := chr st hp i) hbase.at_
        have hB7 := hbase.len
        have hwl2 := hwl
        unfold word at hwl2
        rw [len_app] at hwl2
        have hwl3 := hwl2
        rw [len_app] at hwl3
        walk_at "go"
        · exact ⟨by rw [view_at last1]; rfl⟩
        rw [show cutS B' none (some (k_ : Int)) ++ (⟨#[chr st hp i]⟩ : Str) ++ cutS B' (some (k_ : Int)) none = word B' k_ (chr st hp i) from rfl]
        refine in_use (ns := RS5) (.inl rfl) ?_
        walk_at "go"
        · exact ⟨mul_ok _⟩
        · refine ⟨?_⟩
          exact Nat.le_trans (Nat.add_le_add_left (mul_len (decide (word B' k_ (chr st hp i) ∈ RS5))) _) (by rw [line16, hwl]; omega)
        · refine appL (by rw [List.length_map, List.length_map, List.length_range, line16]; omega) ?_
          refine ⟨_, _, rfl, ?_⟩
          rw [List.range_succ, List.map_append, List.map_append]; rfl
      · rintro env M ⟨e8, e11, rfl, rfl⟩
        walk_at "go"
        refine frzL ?_
        walk_at "go"
        have e : (rangeD 0 (Int.toNat ↑m)).length = m := by simp [rangeD]
        rw [e]
        have ht : (TB (b6) (M2 ++ [D.non])).take (TB b M2).length = TB b6 M2 := by simp
        refine .less ?_ ?_ ?_
        · exact noCel_strs _ _
        · rw [ht]
          exact tb_all hM (pen_cell hb6 _)
        · rw [ht]
          exact k _ _ (words_of hbase hhp hm) (by simp) (hb6.mono (by omega))
    · rename_i hk
      have hbase : Base B k_ := ⟨hB7, hBal, by omega, fun h => absurd h (by omega)⟩
      have hb4 : PenOk (n + 11) b3 := hb3.mono (by omega)
      generalize b3 = b4 at hb4 ⊢
      generalize B = B' at hbase ⊢
      refine use_law_draw hb4 (by omega) (by decide) (by decide) fun st b5 hs0 hs1 hb5 => ?_
      walk_at "go"
      refine use_law_pick hb5 (by omega) (by simp) (by simp) fun d b6 hd hb6 => ?_
      obtain ⟨hp, hhp, rfl⟩ := List.mem_map.mp (show d ∈ HOPS.map D.int from hd)
      clear hd
      walk_at "go"
      refine forL_inv (fun i env M => ∃ (e8 e11 : Option D), env = [some (.cel 4), some (.int m), some (.str "abcdefghijklmnopqrstuvwxyz"), some (.int sz), some (.str ("abcdefghijklmnopqrstuvwxyz" ++ "0123456789")), some (.str B'), some (.int k_), some (.cel (M2.length + 5)), e8, some (.int st), some (.int hp), e11] ∧ M = TB b6 (M2 ++ [.lst (((List.range i).map fun k => fin (word B' k_ (chr st hp k))).map D.str)])) ⟨none, none, rfl, rfl⟩ ?_ ?_
      · rintro i d env M hd ⟨e8, e11, rfl, rfl⟩
        obtain ⟨hi, rfl⟩ := range_get hd
        clear hd
        walk_at "go"
        · exact ⟨by have := hbase.len; rw [line16]; omega⟩
        have ec : L2.atI (Str.ofString "abcdefghijklmnopqrstuvwxyz").cps.toList ((st + hp * (0 + (i : Int))) % 26) = some (chr st hp i) := by rw [Int.zero_add]; exact chr_at st hp i
        rw [ec]
        have hwl := word_len (c := chr st hp i) hbase.at_
        have hB7 := hbase.len
        have hwl2 := hwl
        unfold word at hwl2
        rw [len_app] at hwl2
        have hwl3 := hwl2
        rw [len_app] at hwl3
        walk_at "go"
        · exact ⟨by rw [view_at last1]; rfl⟩
        rw [show cutS B' none (some (k_ : Int)) ++ (⟨#[chr st hp i]⟩ : Str) ++ cutS B' (some (k_ : Int)) none = word B' k_ (chr st hp i) from rfl]
        refine in_use (ns := RS5) (.inl rfl) ?_
        walk_at "go"
        · exact ⟨mul_ok _⟩
        · refine ⟨?_⟩
          exact Nat.le_trans (Nat.add_le_add_left (mul_len (decide (word B' k_ (chr st hp i) ∈ RS5))) _) (by rw [line16, hwl]; omega)
        · refine appL (by rw [List.length_map, List.length_map, List.length_range, line16]; omega) ?_
          refine ⟨_, _, rfl, ?_⟩
          rw [List.range_succ, List.map_append, List.map_append]; rfl
      · rintro env M ⟨e8, e11, rfl, rfl⟩
        walk_at "go"
        refine frzL ?_
        walk_at "go"
        have e : (rangeD 0 (Int.toNat ↑m)).length = m := by simp [rangeD]
        rw [e]
        have ht : (TB (b6) (M2 ++ [D.non])).take (TB b M2).length = TB b6 M2 := by simp
        refine .less ?_ ?_ ?_
        · exact noCel_strs _ _
        · rw [ht]
          exact tb_all hM (pen_cell hb6 _)
        · rw [ht]
          exact k _ _ (words_of hbase hhp hm) (by simp) (hb6.mono (by omega))

/-! _law_is_name: 0 _law_value, 1 _law_letters, 2 _law_sign -/
abbrev p_law_is_name : List Str := ["_law_value"]
/-! ### the law's own helpers -/
def SG : Str := LET ++ DIG
theorem sg_cps : SG.cps.toList = LET.cps.toList ++ DIG.cps.toList := TL.tl_append _ _
/-- a value that may be told -/
structure Ent (d : D) : Prop where
  val : Val d
  so : ∀ s, d = .str s → PyData.strOk s = true
@[irreducible] def sp_law_is_name : DSp := fun ds M R _ => ∃ d, ds = [d] ∧ Ent d ∧ R (.bl (isNm d)) M
theorem len_law_is_name : ∀ ds M R RX, sp_law_is_name ds M R RX → ds.length = p_law_is_name.length := by
  unfold sp_law_is_name; rintro ds M R RX ⟨d, rfl, _⟩; rfl
theorem use_law_is_name {d : D} {M : Mt} {R RX} (h : Ent d) (k : R (.bl (isNm d)) M) : sp_law_is_name [d] M R RX := by
  unfold sp_law_is_name; exact ⟨d, rfl, h, k⟩
def w_law_is_name : WS :=
  (wSeq (wIfS (wOrT (wNotT (wTru (wCB cIsi (wCons (wVar 0) (wCons (wC (.ty "str")) wNil))))) (wOrT (wNotT (wTest (wChain oLe oLe (wC (.int 1)) (wCB cLen (wCons (wVar 0) wNil)) (wC (.int 8))))) (wTest (wOp (oIn false) (wVar 0) (wLst (wCons (wC (.str "to")) (wCons (wC (.str "if")) (wCons (wC (.str "tag")) (wCons (wC (.str "all")) (wCons (wC (.str "none")) wNil)))))))))) (wRet (wC (.bl false))) wSkip)
    (wSeq (wAsg (wC (.str "abcdefghijklmnopqrstuvwxyz")) (gN 1))
    (wRet (wAndV (wOp (oIn false) (wOp oIx (wVar 0) (wC (.int 0))) (wVar 1)) (wOp (oEqI fun b => b) (wLc (wIt (wVar 0)) [2] (wTest (wOp (oIn true) (wVar 2) (wOp oAdd (wVar 1) (wC (.str "0123456789"))))) (wVar 2) [2]) (wLst wNil))))))
theorem wp_law_is_name : ∀ ds M R RX, sp_law_is_name ds M R RX → M.all (cellOk M.length) = true → noCels M.length ds = true → w_law_is_name (fnEnds M.length R) (startE 3 ds) M := by
  unfold sp_law_is_name; rintro ds M R RX ⟨d, rfl, hv, k⟩ _ _
  have ha := hv.val.ask
  cases d with
  | str s =>
    have hl : s.length ≤ 1000 := by simpa [askB] using ha
    have hso := hv.so s rfl
    have cut : ∀ b : Bool, nmV s = b → retF M.length R (.bl b) M := fun b e => .keep (by rw [← e]; exact k)
    walk_at "go"
    refine len_str rfl (by rw [line16]; omega) ?_
    walk_at "go"
    · rename_i h1 h2
      refine cut _ ?_
      have : ¬ (s.length : Int) ≤ 8 := by omega
      simp [nmV, this]
    · refine in_use (ns := RS5) (.inl rfl) ?_
      walk_at "go"
      · rename_i h1 h2 h3
        refine cut _ ?_
        have : inV (.str s) RES = true := by rw [res_rs, inV_strs]; exact decide_eq_true h3
        simp [nmV, this]
      · rename_i h1 h2 h3
        have h3' : inV (.str s) RES = false := by rw [res_rs, inV_strs]; exact decide_eq_false h3
        obtain ⟨c, cs, e⟩ : ∃ c cs, s.cps.toList = c :: cs := by
          cases e : s.cps.toList with
          | nil =>
            have : s.length = 0 := by show s.cps.size = 0; rw [← Array.length_toList, e]; rfl
            omega
          | cons c cs => exact ⟨c, cs, rfl⟩
        have e0 : L2.atI s.cps.toList 0 = some c := by rw [e]; exact atI_nat (j := 0) rfl
        rw [e0]
        walk_at "go"
        refine in_str rfl ?_
        walk_at "go"
        · rename_i h4
          have h4' : c ∈ LET.cps.toList := h4
          have hsc : ∀ z ∈ s.cps.toList, PyData.strOk ⟨#[z]⟩ = true := fun z hz => by
            unfold PyData.strOk at hso ⊢
            rw [← Array.all_toList, List.all_eq_true] at hso
            have := hso z hz
            simpa using this
          refine lcL_fun (fun d => match d with | .str x => !strIn x SG | _ => false) (fun d => d) _ _ _ (by rw [chars_len, line16]; simp; omega) (fun d hd A C hA hC => ?_) ?_
          · obtain ⟨z, hz, rfl⟩ := mem_chars hd
            walk_at "go"
            refine in_str rfl ?_
            show ifB (!strIn ⟨#[z]⟩ SG) _ _
            cases hq : strIn ⟨#[z]⟩ SG
            · have hA' : A (.str ⟨#[z]⟩) M := hA (by show (!strIn ⟨#[z]⟩ SG) = true; rw [hq]; rfl)
              walk_at "go"
              exact hA'
            · have hC' : C M := hC (by show (!strIn ⟨#[z]⟩ SG) = false; rw [hq]; rfl)
              walk_at "go"
              exact hC'
          · have ef : ([] ++ ((chars s).filter fun d => match d with | .str x => !strIn x SG | _ => false).map fun d => d) = ((s.cps.toList.filter fun c => !decide (c ∈ SG.cps.toList)).map fun c => (⟨#[c]⟩ : Str)).map D.str := by
              unfold chars
              rw [List.nil_append, List.map_id', List.filter_map, List.map_map]
              congr 1
              refine List.filter_congr fun c _ => ?_
              show (!strIn ⟨#[c]⟩ SG) = _
              rw [strIn_one]
            rw [ef]
            have pl : plainOk (((s.cps.toList.filter fun c => !decide (c ∈ SG.cps.toList)).map fun c => (⟨#[c]⟩ : Str)).map D.str) := plain_strs _ fun x hx => by
              obtain ⟨z, hz, rfl⟩ := List.mem_map.mp hx
              exact hsc z (List.mem_filter.mp hz).1
            have ee : (((s.cps.toList.filter fun c => !decide (c ∈ SG.cps.toList)).map fun c => (⟨#[c]⟩ : Str)).map D.str).isEmpty = s.cps.toList.all fun c => decide (c ∈ LET.cps.toList) || decide (c ∈ DIG.cps.toList) := by
              rw [List.isEmpty_map, List.isEmpty_map]
              rw [Bool.eq_iff_iff, List.isEmpty_iff, List.filter_eq_nil_iff, List.all_eq_true]
              refine forall_congr' fun c => forall_congr' fun hc => ?_
              rw [sg_cps]
              by_cases g1 : c ∈ LET.cps.toList <;> by_cases g2 : c ∈ DIG.cps.toList <;> simp only [List.mem_append, g1, g2] <;> decide
            generalize ((s.cps.toList.filter fun c => !decide (c ∈ SG.cps.toList)).map fun c => (⟨#[c]⟩ : Str)).map D.str = L at *
            walk_at "go"
            rw [ee]
            refine cut _ ?_
            simp only [nmV, h1, h2, h3', e, h4', decide_true, Bool.not_false, Bool.true_and, Bool.and_true]
        · rename_i h4
          refine cut _ ?_
          have h4' : ¬ c ∈ LET.cps.toList := h4
          simp [nmV, e, h4']
    · rename_i h1
      refine cut _ ?_
      have : ¬ 1 ≤ (s.length : Int) := by omega
      simp [nmV, this]
  | _ => first | (simp [askB] at ha; done) | (walk_at "go"; exact .keep k)
/-! _law_is_between: 0 _law_value, 1 _law_low_end, 2 _law_high_end -/
abbrev p_law_is_between : List Str := ["_law_value", "_law_low_end", "_law_high_end"]
@[irreducible] def sp_law_is_between : DSp := fun ds M R _ => ∃ (d : D) (a b : Int), ds = [d, .int a, .int b] ∧ Val d ∧ R (.bl (isNum a b d)) M
theorem len_law_is_between : ∀ ds M R RX, sp_law_is_between ds M R RX → ds.length = p_law_is_between.length := by
  unfold sp_law_is_between; rintro ds M R RX ⟨d, a, b, rfl, _⟩; rfl
theorem use_law_is_between {d : D} {a b : Int} {M : Mt} {R RX} (h : Val d) (k : R (.bl (isNum a b d)) M) : sp_law_is_between [d, .int a, .int b] M R RX := by
  unfold sp_law_is_between; exact ⟨d, a, b, rfl, h, k⟩
def w_law_is_between : WS :=
  (wRet (wAndV (wCB cIsi (wCons (wVar 0) (wCons (wC (.ty "int")) wNil))) (wAndV (wNotV (wCB cIsi (wCons (wVar 0) (wCons (wC (.ty "bool")) wNil)))) (wChain oLe oLe (wVar 1) (wVar 0) (wVar 2)))))
theorem wp_law_is_between : ∀ ds M R RX, sp_law_is_between ds M R RX → M.all (cellOk M.length) = true → noCels M.length ds = true → w_law_is_between (fnEnds M.length R) (startE 3 ds) M := by
  unfold sp_law_is_between; rintro ds M R RX ⟨d, a, b, rfl, h, k⟩ _ _
  have ha := h.ask
  cases d with
  | int i =>
    walk_at "go"
    · rename_i h1
      refine .keep ?_
      have e : isNum a b (.int i) = decide (i ≤ b) := by simp [isNum, h1]
      rw [e] at k; exact k
    · rename_i h1
      refine .keep ?_
      have e : isNum a b (.int i) = false := by
        have : ¬ a ≤ i := by omega
        simp [isNum, this]
      rw [e] at k; exact k
  | _ => first | (simp [askB] at ha; done) | (walk_at "go"; first | exact .keep k | (rename_i z; exact absurd z (by decide)))

/-! _law_fault: 0 _law_error, 1 _law_found -/
abbrev p_law_fault : List Str := ["_law_error"]
/-! ### what is heard -/
def Tag (nm f tag : Str) : Prop := (nm = "InvalidWord" ∧ f = "part" ∧ tag = "word") ∨ (nm = "InvalidName" ∧ f = "value" ∧ tag = "name") ∨ (nm = "InvalidNumber" ∧ f = "value" ∧ tag = "number")
theorem isK_r {tb : List ((Str × Str) × Bool)} {M : Mt} {i : Nat} {n c : Str} {fs : List (Str × D)} (r : Bool) {R : D → Mt → Prop} (h : M[i]? = some (.ptp [.obj n fs])) (hl : tb.lookup (n, c) = some r) (k : R (.bl r) M) : cIsK tb [] [.cel i, .cls c] M R := isK_cls h hl k
theorem isT_r {tb : List ((Str × String) × Bool)} {M : Mt} {i : Nat} {n : Str} {c : String} {fs : List (Str × D)} (r : Bool) {R : D → Mt → Prop} (h : M[i]? = some (.ptp [.obj n fs])) (hl : tb.lookup (n, c) = some r) (k : R (.bl r) M) : cIsK [] tb [.cel i, .ty c] M R := isK_ty h hl k
theorem get_app {M l : Mt} {i : Nat} {x : D} (h : M[i]? = some x) : (M ++ l)[i]? = some x := by
  rw [List.getElem?_append_left (List.getElem?_eq_some_iff.mp h).1]; exact h
theorem lastA {M : Mt} {x : D} : (M ++ [x])[M.length]? = some x := by simp
theorem setA {M : Mt} {x z : D} : (M ++ [x]).set M.length z = M ++ [z] := by simp
theorem viewA {M : Mt} {l : List D} : viewD (M ++ [.lst l]) (.cel M.length) = .lst l := by
  show (match (M ++ [D.lst l])[M.length]? with | some (.lst l) => D.lst l | some (.dct l) => D.dct l | some (.obj C fs) => D.obj C fs | _ => D.cel M.length) = _
  rw [lastA]
@[irreducible] def sp_law_fault : DSp := fun ds M R _ => ∃ (e : Nat) (nm f tag : Str) (v : D), ds = [.cel e] ∧ M[e]? = some (.ptp [.obj nm [(f, v)]]) ∧ Tag nm f tag ∧ (∀ n, noCel n v = true) ∧ R (.tup [.str tag, v]) M
theorem len_law_fault : ∀ ds M R RX, sp_law_fault ds M R RX → ds.length = p_law_fault.length := by
  unfold sp_law_fault; rintro ds M R RX ⟨_, _, _, _, _, rfl, _⟩; rfl
theorem use_law_fault {e : Nat} {nm f tag : Str} {v : D} {M : Mt} {R RX} (h : M[e]? = some (.ptp [.obj nm [(f, v)]])) (ht : Tag nm f tag) (hv : ∀ n, noCel n v = true) (k : R (.tup [.str tag, v]) M) : sp_law_fault [.cel e] M R RX := by
  unfold sp_law_fault; exact ⟨e, nm, f, tag, v, rfl, h, ht, hv, k⟩
def w_law_fault : WS :=
  (wSeq (wAsg (wLstM wNil) (gN 1))
    (wSeq (wIfS (wTru (wCB (cIsK [(("InvalidName", "InvalidWord"), false), (("InvalidNumber", "InvalidWord"), false), (("InvalidWord", "InvalidWord"), true)] []) (wCons (wVar 0) (wCons (wC (.cls "InvalidWord")) wNil)))) (wExp (wBM "list" mAppend (wVar 1) (wCons (wTup (wCons (wC (.str "word")) (wCons (wXe ["InvalidWord"] "part" (wVar 0)) wNil))) wNil))) wSkip)
    (wSeq (wIfS (wTru (wCB (cIsK [(("InvalidName", "InvalidName"), true), (("InvalidNumber", "InvalidName"), false), (("InvalidWord", "InvalidName"), false)] []) (wCons (wVar 0) (wCons (wC (.cls "InvalidName")) wNil)))) (wExp (wBM "list" mAppend (wVar 1) (wCons (wTup (wCons (wC (.str "name")) (wCons (wXe ["InvalidName", "InvalidNumber"] "value" (wVar 0)) wNil))) wNil))) wSkip)
    (wSeq (wIfS (wTru (wCB (cIsK [(("InvalidName", "InvalidNumber"), false), (("InvalidNumber", "InvalidNumber"), true), (("InvalidWord", "InvalidNumber"), false)] []) (wCons (wVar 0) (wCons (wC (.cls "InvalidNumber")) wNil)))) (wExp (wBM "list" mAppend (wVar 1) (wCons (wTup (wCons (wC (.str "number")) (wCons (wXe ["InvalidName", "InvalidNumber"] "value" (wVar 0)) wNil))) wNil))) wSkip)
    (wSeq (wIfS (wOrT (wTru (wCB (cIsKT [(("InvalidName", "InvalidFrame"), false), (("InvalidName", "InvalidKind"), false), (("InvalidNumber", "InvalidFrame"), false), (("InvalidNumber", "InvalidKind"), false), (("InvalidWord", "InvalidFrame"), false), (("InvalidWord", "InvalidKind"), false)] []) (wCons (wVar 0) (wCons (wTup (wCons (wC (.cls "InvalidFrame")) (wCons (wC (.cls "InvalidKind")) wNil))) wNil)))) (wOrT (wNotT (wTru (wCB (cIsK [] [(("InvalidName", "ValueError"), true), (("InvalidNumber", "ValueError"), true), (("InvalidWord", "ValueError"), true)]) (wCons (wVar 0) (wCons (wC (.ty "ValueError")) wNil))))) (wTest (wOp (oEqI fun b => !b) (wCB cLen (wCons (wVar 1) wNil)) (wC (.int 1)))))) (wRet (wTup (wCons (wC (.str "other")) wNil))) wSkip)
    (wRet (wOp oIx (wVar 1) (wC (.int 0)))))))))
theorem wp_law_fault : ∀ ds M R RX, sp_law_fault ds M R RX → M.all (cellOk M.length) = true → noCels M.length ds = true → w_law_fault (fnEnds M.length R) (startE 2 ds) M := by
  unfold sp_law_fault; rintro ds M R RX ⟨e, nm, f, tag, v, rfl, hm, ht, hv, k⟩ hM _
  have fin : retF M.length R (.tup [.str tag, v]) (M ++ [.lst [.tup [.str tag, v]]]) := by
    have htk : (M ++ [D.lst [.tup [.str tag, v]]]).take M.length = M := List.take_left' rfl
    refine .less ?_ ?_ ?_
    · simp [noCel, noCels, hv]
    · rw [htk]; exact hM
    · rw [htk]; exact k
  have app : ∀ {l : List D} {d : D} {R : D → Mt → Prop}, l.length < 5 → R .non (M ++ [.lst (l ++ [d])]) → mAppend (.cel M.length) [d] (M ++ [.lst l]) R := fun hl r => app_use lastA (by rw [line16]; omega) (by rw [setA]; exact r)
  have hg : ∀ l : List D, (M ++ [.lst l])[e]? = some (.ptp [.obj nm [(f, v)]]) := fun l => get_app hm
  rcases ht with ⟨rfl, rfl, rfl⟩ | ⟨rfl, rfl, rfl⟩ | ⟨rfl, rfl, rfl⟩
  · walk_at "go"
    refine isK_r true (hg _) rfl ?_
    walk_at "go"
    · exact ⟨by rw [viewA]; rfl⟩
    rw [hg]
    walk_at "go"
    refine app (by simp) ?_
    walk_at "go"
    refine isK_r false (hg _) rfl ?_
    walk_at "go"
    refine isK_r false (hg _) rfl ?_
    walk_at "go"
    refine isKT_use (hg _) (r := false) rfl ?_
    walk_at "go"
    refine isT_r true (hg _) rfl ?_
    walk_at "go"
    refine len_use viewA ?_
    walk_at "go"
    first | exact fin | (rw [viewA]; walk_at "go"; exact fin)
  · walk_at "go"
    refine isK_r false (hg _) rfl ?_
    walk_at "go"
    refine isK_r true (hg _) rfl ?_
    walk_at "go"
    · exact ⟨by rw [viewA]; rfl⟩
    rw [hg]
    walk_at "go"
    refine app (by simp) ?_
    walk_at "go"
    refine isK_r false (hg _) rfl ?_
    walk_at "go"
    refine isKT_use (hg _) (r := false) rfl ?_
    walk_at "go"
    refine isT_r true (hg _) rfl ?_
    walk_at "go"
    refine len_use viewA ?_
    walk_at "go"
    first | exact fin | (rw [viewA]; walk_at "go"; exact fin)
  · walk_at "go"
    refine isK_r false (hg _) rfl ?_
    walk_at "go"
    refine isK_r false (hg _) rfl ?_
    walk_at "go"
    refine isK_r true (hg _) rfl ?_
    walk_at "go"
    · exact ⟨by rw [viewA]; rfl⟩
    rw [hg]
    walk_at "go"
    refine app (by simp) ?_
    walk_at "go"
    refine isKT_use (hg _) (r := false) rfl ?_
    walk_at "go"
    refine isT_r true (hg _) rfl ?_
    walk_at "go"
    refine len_use viewA ?_
    walk_at "go"
    first | exact fin | (rw [viewA]; walk_at "go"; exact fin)

/-! _law_heard: 0 _law_ask, 1 _law_error, 2 _law_caught, 3 _law_found -/
abbrev p_law_heard : List Str := ["_law_ask"]
--NOSPEC law_heard
def w_law_heard (wl : RXe → WE) (RX : RXe) : WS :=
  (wSeq (wAsg (wTup (wCons (wC .non) (wCons (wC .non) wNil))) (gT 2 (gsCons (gN 2) (gsCons (gN 3) gsNil))))
    (wSeq (wTryKeep ["InvalidName", "InvalidNumber", "InvalidWord"] (fun _ => true) 1 2 (fun RX => (wAsg (wl RX) (gN 3))) RX)
    (wRet (wIfE (wTest (wOp (oIs false) (wVar 2) (wC .non))) (wLst (wCons (wVar 3) wNil)) (wCall sp_law_fault [] RX0 (wCons (wVar 2) wNil))))))
/-! _law_odd: 0 _law_pen_here, 1 _law_some -/
abbrev p_law_odd : List Str := ["_law_pen_here"]
--BLOCK law_heard
/-- what is wanted of an error that a lambda raises -/
def HearX (R : D → Mt → Prop) (M : Mt) (RX : RXe) : Prop := ∀ (nm f tag : Str) (v : D) (env1 : Ev) (l : Mt), Tag nm f tag → (∀ n, noCel n v = true) → R (.tup [.str tag, v]) M → RX nm [(f, v)] env1 (M ++ l)
theorem HearX.here {R : D → Mt → Prop} {M : Mt} {RX : RXe} (h : HearX R M RX) (nm f tag : Str) (v : D) (env1 : Ev) (ht : Tag nm f tag) (hv : ∀ n, noCel n v = true) (r : R (.tup [.str tag, v]) M) : RX nm [(f, v)] env1 M := by
  have := h nm f tag v env1 [] ht hv r
  rwa [List.append_nil] at this
/-- what a lambda is heard to tell: we, asked with what is wanted of a datum and of an error -/
theorem heard_use {i : Nat} {n : Str} {env : Ev} {M : Mt} {R : D → Mt → Prop} {we : RXe → WE} (hM : M[i]? = some (.cls n)) (hok : M.all (cellOk M.length) = true)
    (q : ∀ (RX : RXe) (R' : D → Mt → Prop), HearX R M RX → (∀ d, R (.lst [d]) M → R' d M) → we RX env M R') :
    wLam i n 4 (fun wl => w_law_heard wl RXn) we env M R := by
  unfold wLam
  refine ⟨⟨hM⟩, fun fa => ?_⟩
  unfold w_law_heard
  walk_at "go"
  refine q _ _ ?_ ?_
  · intro nm f tag v env1 l ht hv r
    have htk : (M ++ l ++ [D.ptp [.obj nm [(f, v)]]]).take M.length = M := by rw [List.append_assoc]; exact List.take_left' rfl
    have fin : retF M.length R (.tup [.str tag, v]) (M ++ l ++ [D.ptp [.obj nm [(f, v)]]]) := .less (by simp [noCel, noCels, hv]) (by rw [htk]; exact hok) (by rw [htk]; exact r)
    have mem : nm ∈ ([Str.ofString "InvalidName", Str.ofString "InvalidNumber", Str.ofString "InvalidWord"] : List Str) := by
      rcases ht with ⟨rfl, _⟩ | ⟨rfl, _⟩ | ⟨rfl, _⟩ <;> decide
    walk_at "go"
    all_goals first
      | exact ⟨mem⟩
      | exact use_law_fault lastA ht hv fin
      | exact ⟨by simp [startE]⟩
      | (rename_i z; cases z; done)
  · intro d r
    walk_at "go"
    exact .keep r
/-! ### odd values, fields, texts -/
def ODD : List D := [.non, .bl true, .bl false, .int (-1), .int 256, .int 255, .int 0, .int (10 ^ Int.toNat 59), .str "", .str "A", .str "to", .str "none", .str "abcdefghi", .str "abcdefgh", .str "n", .tup [], .lst [], .dct [], .tup [.str "n"], .dct [(Sum.inr "a", .int 1)], .lst [.tup [.str "a", .int 1]], .tup [.tup [.str "a", .int 1]]]
@[irreducible] def sp_law_odd : DSp := fun ds M R _ => ∃ (n : Int) (b : D) (M2 : Mt), ds = [.cel 4] ∧ M = TB b M2 ∧ PenOk n b ∧ n ≤ 1000000 ∧ ∀ (d : D) (b' : D), d ∈ ODD → PenOk (n + 1) b' → R d (TB b' M2)
theorem len_law_odd : ∀ ds M R RX, sp_law_odd ds M R RX → ds.length = p_law_odd.length := by
  unfold sp_law_odd; rintro ds M R RX ⟨_, _, _, rfl, _⟩; rfl
theorem use_law_odd {n : Int} {b : D} {M2 : Mt} {R RX} (hb : PenOk n b) (hn : n ≤ 1000000) (k : ∀ (d : D) (b' : D), d ∈ ODD → PenOk (n + 1) b' → R d (TB b' M2)) : sp_law_odd [.cel 4] (TB b M2) R RX := by
  unfold sp_law_odd; exact ⟨n, b, M2, rfl, rfl, hb, hn, k⟩
def w_law_odd : WS :=
  (wSeq (wAsg (wLst (wCons (wC .non) (wCons (wC (.bl true)) (wCons (wC (.bl false)) (wCons (wNeg (wC (.int 1))) (wCons (wC (.int 256)) (wCons (wC (.int 255)) (wCons (wC (.int 0)) (wCons (wOp oPow (wC (.int 10)) (wC (.int 59))) (wCons (wC (.str "")) (wCons (wC (.str "A")) (wCons (wC (.str "to")) (wCons (wC (.str "none")) (wCons (wC (.str "abcdefghi")) (wCons (wC (.str "abcdefgh")) (wCons (wC (.str "n")) (wCons (wTup wNil) (wCons (wLst wNil) wNil)))))))))))))))))) (gN 1))
    (wRet (wCall sp_law_pick [] RX0 (wCons (wVar 0) (wCons (wOp oAdd (wVar 1) (wLst (wCons (wDict0 false) (wCons (wTup (wCons (wC (.str "n")) wNil)) (wCons (wDisp [((wC (.str "a")), (wC (.int 1)))]) (wCons (wLst (wCons (wTup (wCons (wC (.str "a")) (wCons (wC (.int 1)) wNil))) wNil)) (wCons (wTup (wCons (wTup (wCons (wC (.str "a")) (wCons (wC (.int 1)) wNil))) wNil)) wNil))))))) wNil)))))
theorem wp_law_odd : ∀ ds M R RX, sp_law_odd ds M R RX → M.all (cellOk M.length) = true → noCels M.length ds = true → w_law_odd (fnEnds M.length R) (startE 2 ds) M := by
  unfold sp_law_odd; rintro ds M R RX ⟨n, b, M2, rfl, rfl, hb, hn, k⟩ _ _
  walk_at "go"
  exact use_law_pick hb hn (by decide) (by decide) fun d b' hd hb' => .keep (k d b' hd hb')
/-! _law_fields: 0 _law_pen_here, 1 _law_words, 2 _law_some, 3 _law_word -/
abbrev p_law_fields : List Str := ["_law_pen_here", "_law_words"]
structure FieldsOk (ps : PL) : Prop where
  ok : PairsOk ps
  asc : ps.filter nz = canon ps
  six : ps.length ≤ 6
theorem asc_of : ∀ {ps : PL}, (ps.map (·.1)).Pairwise (fun a b => ¬ b.cps.toList < a.cps.toList) → (ps.map (·.1)).Nodup → Asc ps := fun h nd => by
  refine List.Pairwise.imp (fun {p q} z => ?_) (List.pairwise_map.mp (List.Pairwise.and h nd))
  refine SrtP.lexS_no.mpr fun y => ?_
  rcases y with y | ⟨y, _⟩
  · exact z.1 y
  · exact z.2 y.symm
@[irreducible] def sp_law_fields : DSp := fun ds M R _ => ∃ (ws : List Str) (n : Int) (b : D) (M2 : Mt), ds = [.cel 4, .lst (ws.map D.str)] ∧ M = TB b M2 ∧ Words ws ∧ ws.length = 6 ∧ PenOk n b ∧ n ≤ 999000 ∧ ∀ (ps : PL) (b' : D), FieldsOk ps → PenOk (n + 18) b' → R (.lst (ps.map pD)) (TB b' M2)
theorem len_law_fields : ∀ ds M R RX, sp_law_fields ds M R RX → ds.length = p_law_fields.length := by
  unfold sp_law_fields; rintro ds M R RX ⟨_, _, _, _, rfl, _⟩; rfl
theorem use_law_fields {ws : List Str} {n : Int} {b : D} {M2 : Mt} {R RX} (hw : Words ws) (h6 : ws.length = 6) (hb : PenOk n b) (hn : n ≤ 999000) (k : ∀ (ps : PL) (b' : D), FieldsOk ps → PenOk (n + 18) b' → R (.lst (ps.map pD)) (TB b' M2)) : sp_law_fields [.cel 4, .lst (ws.map D.str)] (TB b M2) R RX := by
  unfold sp_law_fields; exact ⟨ws, n, b, M2, rfl, rfl, hw, h6, hb, hn, k⟩
def w_law_fields : WS :=
  (wSeq (wSetLc 2 (wLc (wIt (wCB cSortS (wCons (wVar 1) wNil))) [3] (wTest (wOp (oEqI fun b => b) (wCall sp_law_draw [] RX0 (wCons (wVar 0) (wCons (wC (.int 2)) wNil))) (wC (.int 0)))) (wVar 3) [3]))
    (wRet (wLc (wIt (wVar 2)) [3] wYes (wTup (wCons (wVar 3) (wCons (wCall sp_law_pick [] RX0 (wCons (wVar 0) (wCons (wLst (wCons (wC (.int 0)) (wCons (wC (.int 1)) (wCons (wC (.int 7)) (wCons (wOp oPow (wC (.int 10)) (wC (.int 9))) (wCons (wCall sp_law_draw [] RX0 (wCons (wVar 0) (wCons (wC (.int 1000)) wNil))) wNil)))))) wNil))) wNil))) [3])))
theorem sub_take {α : Type} {l m : List α} {x : α} {i : Nat} (h : l.Sublist (m.take i)) (hx : m[i]? = some x) : (l ++ [x]).Sublist (m.take (i + 1)) ∧ l.Sublist (m.take (i + 1)) := by
  have e : m.take (i + 1) = m.take i ++ [x] := by rw [List.take_add_one, hx]; rfl
  rw [e]
  exact ⟨h.append (List.Sublist.refl _), h.trans (List.sublist_append_left _ _)⟩
theorem get_strs {l : List Str} {i : Nat} {d : D} (h : (l.map D.str)[i]? = some d) : ∃ s, l[i]? = some s ∧ d = .str s := by
  rw [List.getElem?_map] at h
  cases e : l[i]? with
  | none => rw [e] at h; cases h
  | some p => rw [e] at h; exact ⟨p, rfl, (Option.some.inj h).symm⟩
theorem wp_law_fields : ∀ ds M R RX, sp_law_fields ds M R RX → M.all (cellOk M.length) = true → noCels M.length ds = true → w_law_fields (fnEnds M.length R) (startE 4 ds) M := by
  unfold sp_law_fields; rintro ds M R RX ⟨ws, n, b, M2, rfl, rfl, hw, h6, hb, hn, k⟩ _ _
  walk_at "go"
  rw [strsD_map]
  walk_at "go"
  rename_i ns hp1 hs
  have hl : ns.length = 6 := by rw [hp1.length_eq, h6]
  have nd : ns.Nodup := hp1.nodup_iff.mpr hw.nd
  refine lcL_inv (fun i acc M' => ∃ (l : List Str) (b' : D), M' = TB b' M2 ∧ acc = l.map D.str ∧ l.Sublist (ns.take i) ∧ PenOk (n + i) b') (by rw [List.length_map, hl, line16]; decide) ⟨[], b, rfl, rfl, List.Sublist.refl _, by simpa using hb⟩ ?_ ?_
  · rintro i d acc M' A C hd ⟨l, b', rfl, rfl, hsl, hb'⟩ hA hC
    obtain ⟨s, hsi, rfl⟩ := get_strs hd
    have hi : i < 6 := by rw [← hl]; exact (List.getElem?_eq_some_iff.mp hsi).1
    obtain ⟨t1, t2⟩ := sub_take hsl hsi
    walk_at "go"
    refine use_law_draw hb' (by omega) (by decide) (by decide) fun dr b2 _ _ hb2 => ?_
    have hb3 : PenOk (n + ((i + 1 : Nat) : Int)) b2 := by rw [show n + ((i + 1 : Nat) : Int) = n + i + 1 by omega]; exact hb2
    walk_at "go"
    · exact hA _ _ ⟨l ++ [s], b2, rfl, by simp, t1, hb3⟩
    · exact hC _ ⟨l, b2, rfl, rfl, t2, hb3⟩
  rintro acc M' hal ⟨l, b1, rfl, rfl, hsl, hb1⟩
  rw [List.length_map, hl] at hb1
  rw [List.take_of_length_le (by rw [List.length_map]; exact Nat.le_refl _)] at hsl
  have hl6 : l.length ≤ 6 := by rw [← hl]; exact hsl.length_le
  walk_at "go"
  refine lcL_inv (fun i acc M' => ∃ (ps : PL) (b' : D), M' = TB b' M2 ∧ acc = ps.map pD ∧ ps.map (·.1) = l.take i ∧ (∀ p ∈ ps, 0 ≤ p.2 ∧ p.2 ≤ 1000000000) ∧ PenOk (n + 6 + 2 * i) b') (by rw [List.length_map, line16]; omega) ⟨[], b1, rfl, rfl, rfl, by simp, by simpa using hb1⟩ ?_ ?_
  · rintro i d acc M' A C hd ⟨ps, b', rfl, rfl, hps, hbd, hb'⟩ hA hC
    obtain ⟨s, hsi, rfl⟩ := get_strs hd
    have hi : i < 6 := by have := (List.getElem?_eq_some_iff.mp hsi).1; omega
    have et : l.take (i + 1) = l.take i ++ [s] := by rw [List.take_add_one, hsi]; rfl
    walk_at "go"
    refine use_law_draw hb' (by omega) (by decide) (by decide) fun dr b2 hd0 hd1 hb2 => ?_
    walk_at "go"
    refine use_law_pick hb2 (by omega) (by simp) (by simp) fun d b3 hd3 hb3 => ?_
    obtain ⟨v, rfl, hv⟩ : ∃ v : Int, d = .int v ∧ 0 ≤ v ∧ v ≤ 1000000000 := by
      simp only [List.mem_cons, List.not_mem_nil, or_false] at hd3
      rcases hd3 with rfl | rfl | rfl | rfl | rfl
      · exact ⟨0, rfl, by decide⟩
      · exact ⟨1, rfl, by decide⟩
      · exact ⟨7, rfl, by decide⟩
      · exact ⟨_, rfl, by decide⟩
      · exact ⟨dr, rfl, by omega, by omega⟩
    walk_at "go"
    refine hA _ _ ⟨ps ++ [(s, v)], b3, rfl, by simp [pD], by rw [List.map_append, hps, et]; rfl, fun p hp => ?_, by rw [show n + 6 + 2 * ((i + 1 : Nat) : Int) = n + 6 + 2 * i + 1 + 1 by omega]; exact hb3⟩
    rcases List.mem_append.mp hp with hp | hp
    · exact hbd p hp
    · rw [List.mem_singleton.mp hp]; exact hv
  rintro acc M' hal2 ⟨ps, b2, rfl, rfl, hps, hbd, hb2⟩
  rw [List.length_map, List.take_length] at *
  have hnd : (ps.map (·.1)).Nodup := by rw [hps]; exact nd.sublist hsl
  have hlen : ps.length = l.length := by rw [← hps, List.length_map]
  walk_at "go"
  refine .keep (k ps b2 ⟨⟨hnd, fun p hp => hw.nm _ (hp1.subset (hsl.subset (by rw [← hps]; exact List.mem_map_of_mem hp))), hbd, by omega⟩, ?_, by omega⟩ (hb2.mono (by omega)))
  exact filt_asc (List.Perm.refl _) (asc_of (by rw [hps]; exact (pair_of_sorted ns hs).sublist hsl) hnd)

/-! _law_text: 0 _law_kind, 1 _law_stem, 2 _law_pairs, 3 _law_field, 4 _law_number -/
abbrev p_law_text : List Str := ["_law_kind", "_law_stem", "_law_pairs"]
@[irreducible] def sp_law_text : DSp := fun ds M R _ => ∃ (k : Str) (b : Int) (ps : PL), ds = [.str k, .int b, .lst (ps.map pD)] ∧ WordOk k b ps ∧ R (.str (wtext k b (ps.filter nz))) M
theorem len_law_text : ∀ ds M R RX, sp_law_text ds M R RX → ds.length = p_law_text.length := by
  unfold sp_law_text; rintro ds M R RX ⟨_, _, _, rfl, _⟩; rfl
theorem use_law_text {k : Str} {b : Int} {ps : PL} {M : Mt} {R RX} (h : WordOk k b ps) (q : R (.str (wtext k b (ps.filter nz))) M) : sp_law_text [.str k, .int b, .lst (ps.map pD)] M R RX := by
  unfold sp_law_text; exact ⟨k, b, ps, rfl, h, q⟩
def w_law_text : WS :=
  (wRet (wJoin (wC (.str " ")) (wOp oAdd (wLst (wCons (wVar 0) (wCons (wCB cStr1 (wCons (wVar 1) wNil)) wNil))) (wLc (wIt (wVar 2)) [3, 4] (wTest (wOp (oEqI fun b => !b) (wVar 4) (wC (.int 0)))) (wOp oAdd (wOp oAdd (wVar 3) (wC (.str "="))) (wCB cStr1 (wCons (wVar 4) wNil))) [3, 4]))))
theorem ok_sub {ps qs : PL} (h : PairsOk ps) (s : qs.Sublist ps) : PairsOk qs := ⟨h.nd.sublist (s.map _), fun p hp => h.nm p (s.subset hp), fun p hp => h.nb p (s.subset hp), Nat.le_trans s.length_le h.len⟩
theorem wp_law_text : ∀ ds M R RX, sp_law_text ds M R RX → M.all (cellOk M.length) = true → noCels M.length ds = true → w_law_text (fnEnds M.length R) (startE 5 ds) M := by
  unfold sp_law_text; rintro ds M R RX ⟨k, b, ps, rfl, ok, q⟩ hM hds
  have hl := ok.ok.len
  have hlo := ok.lo
  have hhi := ok.hi
  walk_at "go"
  · exact ⟨num_log ⟨hlo, by omega⟩⟩
  refine lcL_fun (fun d => match d with | .tup [_, .int i] => decide (i ≠ 0) | _ => false) (fun d => match d with | .tup [.str s, .int i] => .str (part (s, i)) | _ => .non) _ _ _ (by rw [line16, List.length_map]; simp; omega) (fun d hd A C hA hC => ?_) ?_
  · obtain ⟨p, hp, rfl⟩ := List.mem_map.mp hd
    have hn := ok.ok.nm p hp
    have hb := ok.ok.nb p hp
    have h8 := (nms_nm _ hn).2
    have b2 : (Str.ofString "=").length = 1 := rfl
    have b3 := num_len hb
    have hA1 : p.2 ≠ 0 → A (.str (part p)) M := fun h => hA (decide_eq_true h)
    have hC1 : p.2 = 0 → C M := fun h => hC (decide_eq_false fun z => z h)
    unfold part at hA1
    walk_at "go"
    all_goals first
      | exact hA1 (by assumption)
      | exact hC1 (by assumption)
      | exact ⟨num_log hb⟩
      | exact ⟨by rw [line16]; simp only [str_app_len]; omega⟩
  · have e : ([] ++ ((ps.map pD).filter fun d => match d with | .tup [_, .int i] => decide (i ≠ 0) | _ => false).map fun d => match d with | .tup [.str s, .int i] => D.str (part (s, i)) | _ => .non) = ((ps.filter nz).map part).map D.str := by
      rw [List.nil_append, List.filter_map, List.map_map, List.map_map]; rfl
    rw [e]
    have ok2 : WordOk k b (ps.filter nz) := ⟨ok.nm, ok.lo, ok.hi, ok_sub ok.ok List.filter_sublist⟩
    have hl2 := ok2.ok.len
    walk_at "go"
    refine join_use (ys := k :: Str.ofString (toString b) :: (ps.filter nz).map part) rfl (text_fits ok2) ?_
    walk_at "go"
    exact .keep q

/-! _law_right: 0 _law_pen_here, 1 _law_row, 2 _law_words, 3 _law_made, 4 _law_told, 5 _law_due, 6 _law_word, 7 _law_thing, 8 _law_twin, 9 _law_kind, 10 _law_stem, 11 _law_pairs, 12 _law_pair, 13 _law_one -/
abbrev p_law_right : List Str := ["_law_pen_here", "_law_row", "_law_words"]
/-! ### texts and values that are told -/
theorem sok_iff {s : Str} : PyData.strOk s = true ↔ ∀ c ∈ TL.tl s, c < 1114112 := by
  unfold PyData.strOk
  rw [← Array.all_toList, List.all_eq_true]
  exact ⟨fun h c hc => of_decide_eq_true (h c hc), fun h c hc => decide_eq_true (h c hc)⟩
theorem sok_app {a b : Str} (ha : PyData.strOk a = true) (hb : PyData.strOk b = true) : PyData.strOk (a ++ b) = true := by
  rw [sok_iff] at ha hb ⊢
  rw [TL.tl_append]
  intro c hc
  rcases List.mem_append.mp hc with h | h
  · exact ha c h
  · exact hb c h
theorem sok_of (s : String) : PyData.strOk (Str.ofString s) = true := by
  rw [sok_iff, Str.ofString_eq_toList]
  intro c hc
  have hc : c ∈ s.toList.map Char.toNat := by simpa [TL.tl] using hc
  obtain ⟨x, _, rfl⟩ := List.mem_map.mp hc
  have e : x.toNat = x.val.toNat := rfl
  rcases x.valid with h | h
  · rw [e]; exact Nat.lt_trans h (by decide)
  · rw [e]; exact h.2
theorem joinL_mem {S : List Nat} {c : Nat} : ∀ {l : List (List Nat)}, c ∈ TL.joinL S l → c ∈ S ∨ ∃ p ∈ l, c ∈ p
  | [], h => by cases h
  | [p], h => .inr ⟨p, by simp, h⟩
  | p :: q :: r, h => by
    have h : c ∈ p ++ (S ++ TL.joinL S (q :: r)) := h
    rcases List.mem_append.mp h with h | h
    · exact .inr ⟨p, by simp, h⟩
    · rcases List.mem_append.mp h with h | h
      · exact .inl h
      · rcases joinL_mem h with h | ⟨x, hx, h⟩
        · exact .inl h
        · exact .inr ⟨x, List.mem_cons_of_mem _ hx, h⟩
theorem joinL_len {S : List Nat} : ∀ {l : List (List Nat)}, (TL.joinL S l).length ≤ (l.map (·.length)).sum + l.length * S.length
  | [] => by simp [TL.joinL]
  | [p] => by simp [TL.joinL]
  | p :: q :: r => by
    have ih := joinL_len (S := S) (l := q :: r)
    show (p ++ (S ++ TL.joinL S (q :: r))).length ≤ _
    rw [List.length_append, List.length_append]
    simp only [List.map_cons, List.sum_cons, List.length_cons, Nat.add_mul, Nat.one_mul] at ih ⊢
    omega
theorem wtext_ok {k : Str} {b : Int} {t : PL} (h : WordOk k b t) : (wtext k b t).length ≤ 1000 ∧ PyData.strOk (wtext k b t) = true := by
  have e : TL.tl (wtext k b t) = TL.joinL (TL.tl " ") ((k :: Str.ofString (toString b) :: t.map part).map TL.tl) := by unfold wtext; rw [TL.join_eq, TL.tl_join]
  constructor
  · rw [TL.len_tl, e]
    have h1 := (nms_nm _ h.nm).2
    have h2 := num_len (i := b) ⟨h.lo, by have := h.hi; omega⟩
    have h3 := sum_le (fun p : Str × Int => (part p).length) 20 t fun p hp => part_len (h.ok.nm p hp) (h.ok.nb p hp)
    have h4 := h.ok.len
    have e1 : (TL.tl (" " : Str)).length = 1 := by decide +kernel
    have j := joinL_len (S := TL.tl (" " : Str)) (l := (k :: Str.ofString (toString b) :: t.map part).map TL.tl)
    rw [e1] at j
    have el : ((k :: Str.ofString (toString b) :: t.map part).map TL.tl).map (·.length) = (k :: Str.ofString (toString b) :: t.map part).map (·.length) := by
      rw [List.map_map]
      exact List.map_congr_left fun x _ => (TL.len_tl x).symm
    rw [el] at j
    simp only [List.map_cons, List.sum_cons, List.length_cons, List.length_map, List.map_map, Function.comp_def] at h3 j ⊢
    omega
  · rw [sok_iff, e]
    intro c hc
    rcases joinL_mem hc with hc | ⟨p, hp, hc⟩
    · exact sok_iff.mp (sok_of " ") c hc
    · obtain ⟨s, hs, rfl⟩ := List.mem_map.mp hp
      refine sok_iff.mp ?_ c hc
      rcases List.mem_cons.mp hs with rfl | hs
      · exact nm_sok h.nm
      · rcases List.mem_cons.mp hs with rfl | hs
        · exact sok_of _
        · obtain ⟨q, hq, rfl⟩ := List.mem_map.mp hs
          exact sok_app (sok_app (nm_sok (h.ok.nm q hq)) (sok_of _)) (sok_of _)
theorem log_num {i : Int} (h : 0 ≤ i ∧ i ≤ 1000000000) : smallP (.int i) = true := decide_eq_true (num_log h)
theorem small_str {s : Str} (h : s.length ≤ 1000) (h2 : PyData.strOk s = true) : smallP (.str s) = true := by
  show (decide (s.length ≤ 1000) && PyData.strOk s) = true
  rw [decide_eq_true h, h2]; rfl
/-- a value that may be told within others -/
structure Tl (d : D) (p : PyData) : Prop where
  rp : ∀ M n, rpC M (n + 4) d = some p
  sm : smallP p = true
  dp : p.depth ≤ 4
  wt : wtP p ≤ 100
theorem tl_int {i : Int} (h : 0 ≤ i ∧ i ≤ 1000000000) : Tl (.int i) (.int i) := ⟨fun M n => rfl, log_num h, by simp [PyData.depth], by simp [wtP]⟩
theorem tl_str {s : Str} (h : s.length ≤ 1000) (h2 : PyData.strOk s = true) : Tl (.str s) (.str s) := ⟨fun M n => rfl, small_str h h2, by simp [PyData.depth], by simp [wtP]⟩
theorem odd_tl : ∀ d ∈ ODD, ∃ p, Tl d p := by
  intro d hd
  simp only [ODD, List.mem_cons, List.not_mem_nil, or_false] at hd
  rcases hd with rfl | rfl | rfl | rfl | rfl | rfl | rfl | rfl | rfl | rfl | rfl | rfl | rfl | rfl | rfl | rfl | rfl | rfl | rfl | rfl | rfl | rfl
  all_goals exact ⟨_, fun M n => rfl, by decide +kernel, by decide +kernel, by decide +kernel⟩
theorem odd_ent : ∀ d ∈ ODD, Ent d := by
  intro d hd
  simp only [ODD, List.mem_cons, List.not_mem_nil, or_false] at hd
  rcases hd with rfl | rfl | rfl | rfl | rfl | rfl | rfl | rfl | rfl | rfl | rfl | rfl | rfl | rfl | rfl | rfl | rfl | rfl | rfl | rfl | rfl | rfl
  all_goals exact ⟨⟨by decide +kernel, fun n => rfl⟩, fun s e => by first | (cases e; done) | (cases e; decide +kernel)⟩
theorem say_one {d : D} {p : PyData} (h : Tl d p) (M : Mt) : rpC M 12 (.lst [d]) = some (.list [p]) ∧ RpOk (.list [p]) := by
  constructor
  · show (mapO (rpC M 11) [d]).map PyData.list = _
    simp only [mapO, h.rp M 7]; rfl
  · refine rpOk_of ?_ ?_ ?_
    · show (smallP p && true) = true
      rw [h.sm]; rfl
    · have := h.dp
      simp [PyData.depth, PyData.depthAll]; omega
    · have := h.wt
      simp [wtP, wtA]; omega
theorem say_tag {tag : Str} {d : D} {p : PyData} (ht : tag.length ≤ 1000 ∧ PyData.strOk tag = true) (h : Tl d p) (M : Mt) : rpC M 12 (.tup [.str tag, d]) = some (.tuple [.str tag, p]) ∧ RpOk (.tuple [.str tag, p]) := by
  constructor
  · show (mapO (rpC M 11) [.str tag, d]).map PyData.tuple = _
    have e : rpC M 11 (.str tag) = some (.str tag) := rfl
    simp only [mapO, h.rp M 7, e]; rfl
  · refine rpOk_of ?_ ?_ ?_
    · show (smallP (.str tag) && (smallP p && true)) = true
      rw [h.sm, small_str ht.1 ht.2]; rfl
    · have := h.dp
      simp [PyData.depth, PyData.depthAll]; omega
    · have := h.wt
      simp [wtP, wtA]; omega
structure RowOk (k : Str) (b : Int) (ps : PL) : Prop where
  wd : WordOk k b ps
  fs : FieldsOk ps
theorem RowOk.cn {k : Str} {b : Int} {ps : PL} (h : RowOk k b ps) : WordOk k b (canon ps) := ⟨h.wd.nm, h.wd.lo, h.wd.hi, canon_ok h.wd.ok⟩
@[irreducible] def sp_law_right : DSp := fun ds M R RX => ∃ (k : Str) (b : Int) (ps : PL) (ws : List Str) (n : Int) (pb : D) (M2 : Mt), ds = [.cel 4, .tup [.str k, .int b, .lst (ps.map pD)], .lst (ws.map D.str)] ∧ M = TB pb M2 ∧ RowOk k b ps ∧ Words ws ∧ ws.length = 6 ∧ PenOk n pb ∧ n ≤ 990000 ∧ ∀ b', PenOk (n + 1) b' → R (.bl true) (TB b' M2)
theorem len_law_right : ∀ ds M R RX, sp_law_right ds M R RX → ds.length = p_law_right.length := by
  unfold sp_law_right; rintro ds M R RX ⟨_, _, _, _, _, _, _, rfl, _⟩; rfl
theorem use_law_right {k : Str} {b : Int} {ps : PL} {ws : List Str} {n : Int} {pb : D} {M2 : Mt} {R RX} (h : RowOk k b ps) (hw : Words ws) (h6 : ws.length = 6) (hb : PenOk n pb) (hn : n ≤ 990000) (q : ∀ b', PenOk (n + 1) b' → R (.bl true) (TB b' M2)) :
    sp_law_right [.cel 4, .tup [.str k, .int b, .lst (ps.map pD)], .lst (ws.map D.str)] (TB pb M2) R RX := by
  unfold sp_law_right; exact ⟨k, b, ps, ws, n, pb, M2, rfl, rfl, h, hw, h6, hb, hn, q⟩
def w_law_right (RX : RXe) : WS :=
  (wSeq (wAsg (wVar 1) (gT 3 (gsCons (gN 9) (gsCons (gN 10) (gsCons (gN 11) gsNil)))))
    (wSeq (wAsg (wMk "Word" sp_Word_init__ RX (wCons (wVar 9) (wCons (wVar 10) (wCons (wCMeth "Signals" sp_Signals_of RX (wC (.cls "Signals")) (wCons (wVar 11) wNil)) wNil)))) (gN 3))
    (wSeq (wSetLc 4 (wLc (wIt (wVar 11)) [12] (wTest (wOp (oEqI fun b => !b) (wOp oIx (wVar 12) (wC (.int 1))) (wC (.int 0)))) (wVar 12) [12]))
    (wSeq (wAsg (wLst (wCons (wVar 9) (wCons (wVar 10) (wCons (wVar 4) (wCons (wCall sp_law_text [] RX0 (wCons (wVar 9) (wCons (wVar 10) (wCons (wVar 11) wNil)))) wNil))))) (gN 5))
    (wSeq (wIfS (wTest (wOp (oEqI fun b => !b) (wCB cReprC (wCons (wLst (wCons (wFld "Word" "kind" (wVar 3)) (wCons (wFld "Word" "base" (wVar 3)) (wCons (wCB (cListA false) (wCons (wFgt (wFld "Signals" "told" (wFld "Word" "signals" (wVar 3)))) wNil)) (wCons (wCB (cDun "Word" sp_Word_str__ retS) (wCons (wVar 3) wNil)) wNil))))) wNil)) (wCB cReprC (wCons (wVar 5) wNil)))) (wRet (wC (.bl false))) wSkip)
    (wSeq (wFor (wIt (wVar 2)) (gN 6) (wIfS (wTest (wOp (oEqI fun b => !b) (wCB cReprC (wCons (wSubO "Word" sp_Word_getitem__ RX (wVar 3) (wVar 6)) wNil)) (wCB cReprC (wCons (wGet2 (wCB cDictL (wCons (wVar 11) wNil)) (wVar 6) (wC (.int 0))) wNil)))) (wRet (wC (.bl false))) wSkip))
    (wSeq (wAsg (wCall sp_law_odd [] RX0 (wCons (wVar 0) wNil)) (gN 7))
    (wSeq (wAsg (wIfE (wTru (wCall sp_law_is_name [] RX0 (wCons (wVar 7) wNil))) (wLst (wCons (wGet2 (wCB cDictL (wCons (wVar 11) wNil)) (wVar 7) (wC (.int 0))) wNil)) (wTup (wCons (wC (.str "name")) (wCons (wVar 7) wNil)))) (gN 5))
    (wSeq (wIfS (wTest (wOp (oEqI fun b => !b) (wCB cReprC (wCons (wLam 0 "_law_right" 4 (fun wl => w_law_heard wl RXn) (fun RX => (wSubO "Word" sp_Word_getitem__ RX (wVar 3) (wVar 7)))) wNil)) (wCB cReprC (wCons (wVar 5) wNil)))) (wRet (wC (.bl false))) wSkip)
    (wSeq (wAsg (wMk "Word" sp_Word_init__ RX (wCons (wVar 9) (wCons (wVar 10) (wCons (wCMeth "Signals" sp_Signals_of RX (wC (.cls "Signals")) (wCons (wRevL (wVar 4)) wNil)) wNil)))) (gN 8))
    (wSeq (wIfS (wOrT (wNotT (wTest (wOp (oEqO "Word" sp_Word_eq__ id) (wVar 3) (wVar 8)))) (wTest (wOp (oEqO "Word" sp_Word_eq__ (fun b => !b)) (wVar 3) (wVar 8)))) (wRet (wC (.bl false))) wSkip)
    (wRet (wOp (oEqI fun b => b) (wLc (wIt (wLst (wCons (wC .non) (wCons (wVar 1) (wCons (wCB (cDun "Word" sp_Word_str__ retS) (wCons (wVar 3) wNil)) (wCons (wFld "Word" "signals" (wVar 3)) (wCons (wDict0 false) (wCons (wC (.int 0)) wNil)))))))) [13] (wTest (wOp (oOrO (oEqO2 "Word" "Signals" sp_Word_eq__) (oEqO "Word" sp_Word_eq__ id)) (wVar 3) (wVar 13))) (wVar 13) [13]) (wLst wNil))))))))))))))
theorem wordBad_ok {k : Str} {b : Int} {t : PL} (h : WordOk k b t) : wordBad (.str k) (.int b) (sig t) = none := by
  unfold wordBad
  have e1 : isNm (.str k) = true := h.nm
  have e2 : isNum 0 255 (.int b) = true := by simp [isNum, h.lo, h.hi]
  rw [e1, e2]; rfl
theorem val_nm {s : Str} (h : nmV s = true) : Val (.str s) := ⟨by have := (nms_nm s h).2; simp [askB]; omega, fun n => rfl⟩
theorem val_int (i : Int) : Val (.int i) := ⟨rfl, fun n => rfl⟩
/-- the row's repr -/
theorem say_row {k : Str} {b : Int} {t : PL} (h : WordOk k b t) (M : Mt) : rpC M 12 (.lst [.str k, .int b, .lst (t.map pD), .str (wtext k b t)]) = some (.list [.str k, .int b, .list (t.map pP), .str (wtext k b t)]) ∧ RpOk (.list [.str k, .int b, .list (t.map pP), .str (wtext k b t)]) := by
  have hp : ∀ n, ∀ l : PL, mapO (rpC M (n + 2)) (l.map pD) = some (l.map pP) := fun n l => by
    induction l with
    | nil => rfl
    | cons p r ih =>
      have e : rpC M (n + 2) (pD p) = some (pP p) := rfl
      simp only [List.map_cons, mapO, e, ih]
  have e3 : rpC M 11 (.lst (t.map pD)) = some (.list (t.map pP)) := by
    show (mapO (rpC M 10) (t.map pD)).map PyData.list = _
    rw [hp 8]; rfl
  have e1 : rpC M 11 (.str k) = some (.str k) := rfl
  have e2 : rpC M 11 (.int b) = some (.int b) := rfl
  have e4 : rpC M 11 (.str (wtext k b t)) = some (.str (wtext k b t)) := rfl
  obtain ⟨w1, w2⟩ := wtext_ok h
  have hk := (nms_nm _ h.nm).2
  constructor
  · show (mapO (rpC M 11) [.str k, .int b, .lst (t.map pD), .str (wtext k b t)]).map PyData.list = _
    simp only [mapO, e1, e2, e3, e4]; rfl
  · refine rpOk_of ?_ ?_ ?_
    · show (smallP (.str k) && (smallP (.int b) && (smallA (t.map pP) && (smallP (.str (wtext k b t)) && true)))) = true
      rw [small_str (by omega) (nm_sok h.nm), log_num ⟨h.lo, by have := h.hi; omega⟩, small_str w1 w2, smallA_map fun p hp => ?_]
      · rfl
      · show (smallP (.str p.1) && (smallP (.int p.2) && true)) = true
        have := (nms_nm _ (h.ok.nm p hp)).2
        rw [small_str (by omega) (nm_sok (h.ok.nm p hp)), log_num (h.ok.nb p hp)]; rfl
    · have := dep_pD t
      simp [PyData.depth, PyData.depthAll]; omega
    · have := wtA_map (f := pP) (n := 50) (l := t) fun p hp => by simp [pP, wtP, wtA]
      have := h.ok.len
      simp only [wtP, wtA]; omega
theorem getN_b {ps : PL} (h : PairsOk ps) (s : Str) : 0 ≤ getN ps s ∧ getN ps s ≤ 1000000000 := by
  unfold getN
  cases e : ps.lookup s with
  | none => exact ⟨by decide, by decide⟩
  | some i => exact h.nb (s, i) ((look_nd h.nd).mp e)
theorem say_int {i : Int} (h : 0 ≤ i ∧ i ≤ 1000000000) : RpOk (.int i) := rpOk_of (log_num h) (by simp [PyData.depth]) (by simp [wtP])
theorem revL_use {x : D} {l : List D} {M : Mt} {R : D → Mt → Prop} (h : lstD (viewD M x) = some l) (k : R (.lst l.reverse) M) : oRevL x M R := by
  simp only [oRevL, h]; exact k
theorem made_end {M : Mt} {R : D → Mt → Prop} {k b s : D} (hk : noCel M.length k = true) (hb : noCel M.length b = true) (hs : noCel M.length s = true) (q : R (wd k b s) M) : mkEnd M R (M ++ [wd k b s]) := mkEnd_i (noC_wd hk hb hs) q
theorem wp_law_right : ∀ ds M R RX, sp_law_right ds M R RX → M.all (cellOk M.length) = true → noCels M.length ds = true → w_law_right (fun nm fs _ M' => rxF M.length RX nm fs M') (fnEnds M.length R) (startE 14 ds) M := by
  unfold sp_law_right; rintro ds M R RX ⟨k, b, ps, ws, n, pb, M2, rfl, rfl, h, hw, h6, hb, hn, q⟩ hM hds
  have hasc := h.fs.asc
  have cn := h.cn
  have hl := h.wd.ok.len
  have hcl := cn.ok.len
  unfold w_law_right
  refine seq_cut (fun env M' => env = [some (.cel 4), some (.tup [.str k, .int b, .lst (ps.map pD)]), some (.lst (ws.map D.str)), none, none, none, none, none, none, some (.str k), some (.int b), some (.lst (ps.map pD)), none, none] ∧ M' = TB pb M2) (fun K hK => ?_) ?_
  · walk_at "go"
    exact hK _ _ ⟨rfl, rfl⟩
  rintro env M' ⟨rfl, rfl⟩
  refine seq_cut (fun env M' => env = [some (.cel 4), some (.tup [.str k, .int b, .lst (ps.map pD)]), some (.lst (ws.map D.str)), some (wrd k b (canon ps)), none, none, none, none, none, some (.str k), some (.int b), some (.lst (ps.map pD)), none, none] ∧ M' = TB pb M2) (fun K hK => ?_) ?_
  · walk_at "go"
    refine use_Signals_of (.inl rfl) h.wd.ok ?_
    walk_at "go"
    refine use_Word_init__ (M0 := TB pb M2) (val_nm h.wd.nm) (val_int b) (.inl ⟨_, rfl, cn.ok⟩) ?_
    rw [wordBad_ok cn]
    refine ⟨rfl, made_end rfl rfl (noC_sig _ _) ?_⟩
    walk_at "go"
    exact hK _ _ ⟨rfl, rfl⟩
  rintro env M' ⟨rfl, rfl⟩
  refine seq_cut (fun env M' => env = [some (.cel 4), some (.tup [.str k, .int b, .lst (ps.map pD)]), some (.lst (ws.map D.str)), some (wrd k b (canon ps)), some (.lst ((canon ps).map pD)), none, none, none, none, some (.str k), some (.int b), some (.lst (ps.map pD)), none, none] ∧ M' = TB pb M2) (fun K hK => ?_) ?_
  · walk_at "go"
    refine lcL_fun (fun d => match d with | .tup [_, .int i] => decide (i ≠ 0) | _ => false) (fun d => d) _ _ _ (by rw [line16, List.length_map]; simp; omega) (fun d hd A C hA hC => ?_) ?_
    · obtain ⟨p, hp, rfl⟩ := List.mem_map.mp hd
      have hA1 : p.2 ≠ 0 → A (pD p) (TB pb M2) := fun h => hA (decide_eq_true h)
      have hC1 : p.2 = 0 → C (TB pb M2) := fun h => hC (decide_eq_false fun z => z h)
      walk_at "go"
      all_goals first
        | exact hA1 (by assumption)
        | exact hC1 (by assumption)
    · have e : ([] ++ ((ps.map pD).filter fun d => match d with | .tup [_, .int i] => decide (i ≠ 0) | _ => false).map fun d => d) = (canon ps).map pD := by
        rw [List.nil_append, List.filter_map, List.map_map, ← hasc]; rfl
      rw [e]
      walk_at "go"
      exact hK _ _ ⟨rfl, rfl⟩
  rintro env M' ⟨rfl, rfl⟩
  refine seq_cut (fun env M' => env = [some (.cel 4), some (.tup [.str k, .int b, .lst (ps.map pD)]), some (.lst (ws.map D.str)), some (wrd k b (canon ps)), some (.lst ((canon ps).map pD)), some (.lst [.str k, .int b, .lst ((canon ps).map pD), .str (wtext k b (canon ps))]), none, none, none, some (.str k), some (.int b), some (.lst (ps.map pD)), none, none] ∧ M' = TB pb M2) (fun K hK => ?_) ?_
  · walk_at "go"
    refine use_law_text h.wd ?_
    rw [hasc]
    walk_at "go"
    exact hK _ _ ⟨rfl, rfl⟩
  rintro env M' ⟨rfl, rfl⟩
  obtain ⟨s1, s2⟩ := say_row cn (TB pb M2)
  refine seq_cut (fun env M' => env = [some (.cel 4), some (.tup [.str k, .int b, .lst (ps.map pD)]), some (.lst (ws.map D.str)), some (wrd k b (canon ps)), some (.lst ((canon ps).map pD)), some (.lst [.str k, .int b, .lst ((canon ps).map pD), .str (wtext k b (canon ps))]), none, none, none, some (.str k), some (.int b), some (.lst (ps.map pD)), none, none] ∧ M' = TB pb M2) (fun K hK => ?_) ?_
  · walk_at "go"
    refine use_Word_str__ cn ?_
    walk_at "go"
    refine reprC_use s1 s2 ?_
    walk_at "go"
    refine reprC_use s1 s2 ?_
    walk_at "go"
    all_goals first
      | exact hK _ _ ⟨rfl, rfl⟩
      | (exfalso; simp_all; done)
  rintro env M' ⟨rfl, rfl⟩
  refine seq_cut (fun env M' => ∃ e6, env = [some (.cel 4), some (.tup [.str k, .int b, .lst (ps.map pD)]), some (.lst (ws.map D.str)), some (wrd k b (canon ps)), some (.lst ((canon ps).map pD)), some (.lst [.str k, .int b, .lst ((canon ps).map pD), .str (wtext k b (canon ps))]), e6, none, none, some (.str k), some (.int b), some (.lst (ps.map pD)), none, none] ∧ M' = TB pb M2) (fun K hK => ?_) ?_
  · refine for_lst (M' := TB pb M2) (ws.map D.str) (fun K hK => ?_) ?_
    · walk_at "go"
      exact hK
    refine forL_inv (fun i env M' => ∃ e6, env = [some (.cel 4), some (.tup [.str k, .int b, .lst (ps.map pD)]), some (.lst (ws.map D.str)), some (wrd k b (canon ps)), some (.lst ((canon ps).map pD)), some (.lst [.str k, .int b, .lst ((canon ps).map pD), .str (wtext k b (canon ps))]), e6, none, none, some (.str k), some (.int b), some (.lst (ps.map pD)), none, none] ∧ M' = TB pb M2) ⟨_, rfl, rfl⟩ ?_ ?_
    · rintro i d env M' hd ⟨e6, rfl, rfl⟩
      obtain ⟨s, hs, rfl⟩ := get_strs hd
      have hnm := hw.nm s (List.mem_of_getElem? hs)
      have hb2 := getN_b cn.ok s
      walk_at "go"
      refine use_Word_getitem__ cn.ok (val_nm hnm) (fun _ s' e => ?_) (fun z => absurd (hnm.symm.trans z) (by decide))
      cases e
      walk_at "go"
      refine reprC_use (p := .int (getN (canon ps) s)) rfl (say_int hb2) ?_
      walk_at "go"
      refine dictL_use rfl (kp_map ps) ?_
      rw [merge_kdI, mrg_nd h.wd.ok.nd]
      walk_at "go"
      refine get2_use rfl rfl ?_
      rw [val_kdI, ← getN_canon h.wd.ok.nd]
      walk_at "go"
      refine reprC_use (p := .int (getN (canon ps) s)) rfl (say_int hb2) ?_
      walk_at "go"
      all_goals first
        | exact ⟨_, rfl, rfl⟩
        | (rename_i h; exact absurd rfl h)
        | (exfalso; simp_all; done)
    · rintro env M' ⟨e6, rfl, rfl⟩
      exact hK _ _ ⟨_, rfl, rfl⟩
  rintro env M' ⟨e6, rfl, rfl⟩
  refine seq_cut (fun env M' => ∃ (d : D) (b1 : D), env = [some (.cel 4), some (.tup [.str k, .int b, .lst (ps.map pD)]), some (.lst (ws.map D.str)), some (wrd k b (canon ps)), some (.lst ((canon ps).map pD)), some (.lst [.str k, .int b, .lst ((canon ps).map pD), .str (wtext k b (canon ps))]), e6, some d, none, some (.str k), some (.int b), some (.lst (ps.map pD)), none, none] ∧ M' = TB b1 M2 ∧ d ∈ ODD ∧ PenOk (n + 1) b1) (fun K hK => ?_) ?_
  · walk_at "go"
    refine use_law_odd hb (by omega) fun d b1 hd hb1 => ?_
    walk_at "go"
    exact hK _ _ ⟨_, _, rfl, rfl, hd, hb1⟩
  rintro env M' ⟨d, b1, rfl, rfl, hd, hb1⟩
  have he := odd_ent d hd
  obtain ⟨p, hp⟩ := odd_tl d hd
  have hok : (TB b1 M2).all (cellOk (TB b1 M2).length) = true := tb_all hM (pen_cell hb1 _)
  refine seq_cut (fun env M' => ∃ (due : D) (pp : PyData), env = [some (.cel 4), some (.tup [.str k, .int b, .lst (ps.map pD)]), some (.lst (ws.map D.str)), some (wrd k b (canon ps)), some (.lst ((canon ps).map pD)), some due, e6, some d, none, some (.str k), some (.int b), some (.lst (ps.map pD)), none, none] ∧ M' = TB b1 M2 ∧ RpOk pp ∧ (∀ M, rpC M 12 due = some pp) ∧
      ((∃ s, d = .str s ∧ isNm d = true ∧ due = .lst [.int (getN (canon ps) s)]) ∨ (isNm d = false ∧ due = .tup [.str "name", d]))) (fun K hK => ?_) ?_
  · walk_at "go"
    refine use_law_is_name he ?_
    cases hn : isNm d
    · walk_at "go"
      have st := say_tag (tag := "name") ⟨by decide, by decide +kernel⟩ hp
      exact hK _ _ ⟨_, _, rfl, rfl, (st []).2, fun M => (st M).1, .inr ⟨hn, rfl⟩⟩
    · obtain ⟨s, rfl⟩ : ∃ s, d = .str s := by cases d <;> first | exact ⟨_, rfl⟩ | cases hn
      walk_at "go"
      refine dictL_use rfl (kp_map ps) ?_
      rw [merge_kdI, mrg_nd h.wd.ok.nd]
      walk_at "go"
      refine get2_use rfl rfl ?_
      rw [val_kdI, ← getN_canon h.wd.ok.nd]
      walk_at "go"
      have st := say_one (tl_int (getN_b cn.ok s))
      exact hK _ _ ⟨_, _, rfl, rfl, (st []).2, fun M => (st M).1, .inl ⟨s, rfl, hn, rfl⟩⟩
  rintro env M' ⟨due, pp, rfl, rfl, rok, rsay, hdue⟩
  refine seq_cut (fun env M' => env = [some (.cel 4), some (.tup [.str k, .int b, .lst (ps.map pD)]), some (.lst (ws.map D.str)), some (wrd k b (canon ps)), some (.lst ((canon ps).map pD)), some due, e6, some d, none, some (.str k), some (.int b), some (.lst (ps.map pD)), none, none] ∧ M' = TB b1 M2) (fun K hK => ?_) ?_
  · walk_at "go"
    refine heard_use rfl hok fun RX' R' hx hr => ?_
    have said : ∀ {K2 : D → Mt → Prop}, K2 (.str pp.shown) (TB b1 M2) → cReprC [due] (TB b1 M2) K2 := fun z => reprC_use (rsay _) rok z
    walk_at "go"
    refine use_Word_getitem__ cn.ok he.val (fun hn s e => ?_) (fun hn => ?_)
    · refine hr _ ?_
      rcases hdue with ⟨s2, e2, _, rfl⟩ | ⟨hn2, _⟩
      · rw [e2] at e; cases e
        refine said ?_
        walk_at "go"
        refine said ?_
        walk_at "go"
        all_goals first
          | exact hK _ _ ⟨rfl, rfl⟩
          | (rename_i h; exact absurd rfl h)
          | (exfalso; simp_all; done)
      · rw [hn2] at hn; cases hn
    · refine hx.here _ _ _ _ _ (.inr (.inl ⟨rfl, rfl, rfl⟩)) he.val.nc ?_
      rcases hdue with ⟨s2, e2, hn2, rfl⟩ | ⟨_, rfl⟩
      · rw [hn2] at hn; cases hn
      · refine said ?_
        walk_at "go"
        refine said ?_
        walk_at "go"
        all_goals first
          | exact hK _ _ ⟨rfl, rfl⟩
          | (rename_i h; exact absurd rfl h)
          | (exfalso; simp_all; done)
  rintro env M' ⟨rfl, rfl⟩
  have okf : PairsOk (canon ps).reverse := ok_perm cn.ok (List.reverse_perm _)
  have ecr : canon (canon ps).reverse = canon ps := by
    refine (canon_of ?_ (canon_asc ps)).symm
    have e1 : (canon ps).reverse.filter nz = (canon ps).reverse := List.filter_eq_self.mpr fun p hp => by simp [nz, (canon_mem.mp (List.mem_reverse.mp hp)).2]
    rw [e1]
    exact (List.reverse_perm _).symm
  refine seq_cut (fun env M' => env = [some (.cel 4), some (.tup [.str k, .int b, .lst (ps.map pD)]), some (.lst (ws.map D.str)), some (wrd k b (canon ps)), some (.lst ((canon ps).map pD)), some due, e6, some d, some (wrd k b (canon ps)), some (.str k), some (.int b), some (.lst (ps.map pD)), none, none] ∧ M' = TB b1 M2) (fun K hK => ?_) ?_
  · walk_at "go"
    refine revL_use rfl ?_
    rw [← List.map_reverse]
    walk_at "go"
    refine use_Signals_of (.inl rfl) okf ?_
    rw [ecr]
    walk_at "go"
    refine use_Word_init__ (M0 := TB b1 M2) (val_nm h.wd.nm) (val_int b) (.inl ⟨_, rfl, cn.ok⟩) ?_
    rw [wordBad_ok cn]
    refine ⟨rfl, made_end rfl rfl (noC_sig _ _) ?_⟩
    walk_at "go"
    exact hK _ _ ⟨rfl, rfl⟩
  rintro env M' ⟨rfl, rfl⟩
  refine seq_cut (fun env M' => env = [some (.cel 4), some (.tup [.str k, .int b, .lst (ps.map pD)]), some (.lst (ws.map D.str)), some (wrd k b (canon ps)), some (.lst ((canon ps).map pD)), some due, e6, some d, some (wrd k b (canon ps)), some (.str k), some (.int b), some (.lst (ps.map pD)), none, none] ∧ M' = TB b1 M2) (fun K hK => ?_) ?_
  · walk_at "go"
    refine eqO_obj rfl rfl (use_Word_eq__ cn cn ?_)
    rw [decide_eq_true (show k = k ∧ b = b ∧ canon ps = canon ps from ⟨rfl, rfl, rfl⟩)]
    walk_at "go"
    refine eqO_obj rfl rfl (use_Word_eq__ cn cn ?_)
    rw [decide_eq_true (show k = k ∧ b = b ∧ canon ps = canon ps from ⟨rfl, rfl, rfl⟩)]
    walk_at "go"
    all_goals first
      | exact hK _ _ ⟨rfl, rfl⟩
      | (rename_i h; exact absurd rfl h)
      | (exfalso; simp_all; done)
  rintro env M' ⟨rfl, rfl⟩
  walk_at "go"
  refine use_Word_str__ cn ?_
  walk_at "go"
  have key : ∀ y : D, (other y ∨ ∃ t2, y = sig t2) → ∀ R : D → Mt → Prop, R (.bl false) (TB b1 M2) → oOrO (oEqO2 "Word" "Signals" sp_Word_eq__) (oEqO "Word" sp_Word_eq__ id) (wrd k b (canon ps)) y (TB b1 M2) R := fun y hy R r => by
    rcases hy with hy | ⟨t2, rfl⟩
    · exact .inr (eqO_any rfl (hy.2 _) (use_Word_eqX cn (.inl hy) r))
    · exact .inl (eqO2_use rfl rfl (use_Word_eqX cn (.inr ⟨t2, rfl⟩) r))
  refine key .non (.inl ⟨fun _ => rfl, fun _ => rfl⟩) _ ?_
  walk_at "go"
  refine key (.tup [.str k, .int b, .lst (ps.map pD)]) (.inl ⟨fun _ => rfl, fun _ => rfl⟩) _ ?_
  walk_at "go"
  refine key (.str (wtext k b (canon ps))) (.inl ⟨fun _ => rfl, fun _ => rfl⟩) _ ?_
  walk_at "go"
  refine key (sig (canon ps)) (.inr ⟨_, rfl⟩) _ ?_
  walk_at "go"
  refine key (.dct []) (.inl ⟨fun _ => rfl, fun _ => rfl⟩) _ ?_
  walk_at "go"
  refine key (.int 0) (.inl ⟨fun _ => rfl, fun _ => rfl⟩) _ ?_
  walk_at "go"
  · exact ⟨plain_ints []⟩
  exact .keep (q b1 hb1)

/-! _law_refused_right: 0 _law_pen_here, 1 _law_row, 2 _law_given, 3 _law_turn, 4 _law_wrong, 5 _law_due -/
abbrev p_law_refused_right : List Str := ["_law_pen_here", "_law_row"]
/-- a value that may be handed in -/
def EntT (d : D) : Prop := Ent d ∧ ∃ p, Tl d p
theorem odd_t {d : D} (h : d ∈ ODD) : EntT d := ⟨odd_ent d h, odd_tl d h⟩
theorem nm_t {s : Str} (h : nmV s = true) : EntT (.str s) := ⟨⟨val_nm h, fun t e => by cases e; exact nm_sok h⟩, _, tl_str (by have := (nms_nm _ h).2; omega) (nm_sok h)⟩
theorem int_t {i : Int} (h : 0 ≤ i ∧ i ≤ 1000000000) : EntT (.int i) := ⟨⟨val_int i, fun t e => by cases e⟩, _, tl_int h⟩
/-- the three that are given: two of the rest behind the tables and the pen -/
theorem get5 {b x : D} {M2 l : Mt} : (TB b (M2 ++ x :: l))[M2.length + 5]? = some x := by simp
theorem get6 {b x y : D} {M2 l : Mt} : (TB b (M2 ++ x :: y :: l))[M2.length + 6]? = some y := by
  show (TB b (M2 ++ ([x] ++ y :: l)))[M2.length + 6]? = _
  rw [← List.append_assoc]
  have := get5 (b := b) (x := y) (M2 := M2 ++ [x]) (l := l)
  rw [List.length_append] at this
  exact this
theorem set5 {b x z : D} {M2 l : Mt} : (TB b (M2 ++ x :: l)).set (M2.length + 5) z = TB b (M2 ++ z :: l) := by simp
theorem set6 {b x y z : D} {M2 l : Mt} : (TB b (M2 ++ x :: y :: l)).set (M2.length + 6) z = TB b (M2 ++ x :: z :: l) := by
  have e : (TB b ((M2 ++ [x]) ++ y :: l)).set ((M2 ++ [x]).length + 5) z = TB b ((M2 ++ [x]) ++ z :: l) := set5
  rw [List.length_append, List.append_assoc, List.append_assoc] at e
  exact e
def w1 (a : D) : List Str := if isNm a then [] else ["kind"]
def w2 (c : D) : List Str := if isNum 0 255 c then [] else ["base"]
def w3 (e : D) : List Str := if isSig e then [] else ["signals"]
def wl (a c e : D) : List Str := w1 a ++ (w2 c ++ w3 e)
theorem wl_sok (a c e : D) : ∀ s ∈ wl a c e, PyData.strOk s = true := by
  unfold wl w1 w2 w3
  cases isNm a <;> cases isNum 0 255 c <;> cases isSig e <;> decide +kernel
theorem wl_bad (a c e : D) : (wl a c e = [] ∧ wordBad a c e = none) ∨ ∃ p r, wl a c e = p :: r ∧ wordBad a c e = some p ∧ p.length ≤ 1000 ∧ PyData.strOk p = true := by
  unfold wl w1 w2 w3 wordBad
  cases isNm a
  · exact .inr ⟨_, _, rfl, rfl, by decide, by decide +kernel⟩
  · cases isNum 0 255 c
    · exact .inr ⟨_, _, rfl, rfl, by decide, by decide +kernel⟩
    · cases isSig e
      · exact .inr ⟨_, _, rfl, rfl, by decide, by decide +kernel⟩
      · exact .inl ⟨rfl, rfl⟩
@[irreducible] def sp_law_refused_right : DSp := fun ds M R RX => ∃ (k : Str) (b : Int) (ps : PL) (n : Int) (pb : D) (M2 : Mt), ds = [.cel 4, .tup [.str k, .int b, .lst (ps.map pD)]] ∧ M = TB pb M2 ∧ RowOk k b ps ∧ PenOk n pb ∧ n ≤ 990000 ∧ ∀ b', PenOk (n + 5) b' → R (.bl true) (TB b' M2)
theorem len_law_refused_right : ∀ ds M R RX, sp_law_refused_right ds M R RX → ds.length = p_law_refused_right.length := by
  unfold sp_law_refused_right; rintro ds M R RX ⟨_, _, _, _, _, _, rfl, _⟩; rfl
theorem use_law_refused_right {k : Str} {b : Int} {ps : PL} {n : Int} {pb : D} {M2 : Mt} {R RX} (h : RowOk k b ps) (hb : PenOk n pb) (hn : n ≤ 990000) (q : ∀ b', PenOk (n + 5) b' → R (.bl true) (TB b' M2)) :
    sp_law_refused_right [.cel 4, .tup [.str k, .int b, .lst (ps.map pD)]] (TB pb M2) R RX := by
  unfold sp_law_refused_right; exact ⟨k, b, ps, n, pb, M2, rfl, rfl, h, hb, hn, q⟩
def w_law_refused_right (RX : RXe) : WS :=
  (wSeq (wAsg (wLstM (wCons (wOp oIx (wVar 1) (wC (.int 0))) (wCons (wOp oIx (wVar 1) (wC (.int 1))) (wCons (wCMeth "Signals" sp_Signals_of RX (wC (.cls "Signals")) (wCons (wOp oIx (wVar 1) (wC (.int 2))) wNil)) wNil)))) (gN 2))
    (wSeq (wFor (wRng1 (wCons (wCall sp_law_pick [] RX0 (wCons (wVar 0) (wCons (wLst (wCons (wC (.int 0)) (wCons (wC (.int 1)) (wCons (wC (.int 1)) (wCons (wC (.int 2)) wNil))))) wNil))) wNil)) (gN 3) (wAsg (wCall sp_law_odd [] RX0 (wCons (wVar 0) wNil)) (gIxL (wVar 2) (wCall sp_law_draw [] RX0 (wCons (wVar 0) (wCons (wC (.int 3)) wNil))))))
    (wSeq (wAsg (wLstM wNil) (gN 4))
    (wSeq (wIfS (wNotT (wTru (wCall sp_law_is_name [] RX0 (wCons (wOp oIx (wVar 2) (wC (.int 0))) wNil)))) (wExp (wBM "list" mAppend (wVar 4) (wCons (wC (.str "kind")) wNil))) wSkip)
    (wSeq (wIfS (wNotT (wTru (wCall sp_law_is_between [] RX0 (wCons (wOp oIx (wVar 2) (wC (.int 1))) (wCons (wC (.int 0)) (wCons (wC (.int 255)) wNil)))))) (wExp (wBM "list" mAppend (wVar 4) (wCons (wC (.str "base")) wNil))) wSkip)
    (wSeq (wIfS (wNotT (wTru (wCB (cIsO [("Signals", true)] "Signals") (wCons (wOp oIx (wVar 2) (wC (.int 2))) (wCons (wC (.cls "Signals")) wNil))))) (wExp (wBM "list" mAppend (wVar 4) (wCons (wC (.str "signals")) wNil))) wSkip)
    (wSeq (wAsg (wIfE (wTest (wOp (oEqI fun b => b) (wVar 4) (wLst wNil))) (wLst (wCons (wOp oIx (wVar 2) (wC (.int 1))) wNil)) (wTup (wCons (wC (.str "word")) (wCons (wOp oIx (wVar 4) (wC (.int 0))) wNil)))) (gN 5))
    (wRet (wOp (oEqI fun b => b) (wCB cReprC (wCons (wLam 1 "_law_refused_right" 4 (fun wl => w_law_heard wl RXn) (fun RX => (wFld "Word" "base" (wMk "Word" sp_Word_init__ RX (wCons (wOp oIx (wVar 2) (wC (.int 0))) (wCons (wOp oIx (wVar 2) (wC (.int 1))) (wCons (wOp oIx (wVar 2) (wC (.int 2))) wNil))))))) wNil)) (wCB cReprC (wCons (wVar 5) wNil)))))))))))
theorem sig_or {e : D} {t : PL} (ok : PairsOk t) (h : e = sig t ∨ EntT e) : SigOr e := by
  rcases h with rfl | h
  · exact .inl ⟨t, rfl, ok⟩
  · exact .inr h.1.val
theorem sig_nc {e : D} {t : PL} (h : e = sig t ∨ EntT e) (n : Nat) : noCel n e = true := by
  rcases h with rfl | h
  · exact noC_sig _ _
  · exact h.1.val.nc n
theorem wp_law_refused_right : ∀ ds M R RX, sp_law_refused_right ds M R RX → M.all (cellOk M.length) = true → noCels M.length ds = true → w_law_refused_right (fun nm fs _ M' => rxF M.length RX nm fs M') (fnEnds M.length R) (startE 6 ds) M := by
  unfold sp_law_refused_right; rintro ds M R RX ⟨k, b, ps, n, pb, M2, rfl, rfl, h, hb, hn, q⟩ hM hds
  have cn := h.cn
  obtain ⟨row, hrow⟩ : ∃ row, row = D.tup [.str k, .int b, .lst (ps.map pD)] := ⟨_, rfl⟩
  unfold w_law_refused_right
  refine seq_cut (fun env M' => env = [some (.cel 4), some row, some (.cel (M2.length + 5)), none, none, none] ∧ M' = TB pb (M2 ++ [.lst [.str k, .int b, sig (canon ps)]])) (fun K hK => ?_) ?_
  · rw [hrow] at hK
    walk_at "go"
    refine use_Signals_of (.inl rfl) h.wd.ok ?_
    walk_at "go"
    exact hK _ _ ⟨rfl, rfl⟩
  rintro env M' ⟨rfl, rfl⟩
  clear hrow
  refine seq_cut (fun env M' => ∃ (a c e b1 : D) (e3 : Option D), env = [some (.cel 4), some row, some (.cel (M2.length + 5)), e3, none, none] ∧ M' = TB b1 (M2 ++ [.lst [a, c, e]]) ∧ EntT a ∧ EntT c ∧ (e = sig (canon ps) ∨ EntT e) ∧ PenOk (n + 5) b1) (fun K hK => ?_) ?_
  · walk_at "go"
    refine use_law_pick hb (by omega) (by decide) (by decide) fun d b1 hd hb1 => ?_
    obtain ⟨m, rfl, hm⟩ : ∃ m : Nat, d = .int m ∧ m ≤ 2 := by
      simp only [List.mem_cons, List.not_mem_nil, or_false] at hd
      rcases hd with rfl | rfl | rfl | rfl
      · exact ⟨0, rfl, by decide⟩
      · exact ⟨1, rfl, by decide⟩
      · exact ⟨1, rfl, by decide⟩
      · exact ⟨2, rfl, by decide⟩
    walk_at "go"
    refine forL_inv (fun i env M' => ∃ (a c e b1 : D) (e3 : Option D), env = [some (.cel 4), some row, some (.cel (M2.length + 5)), e3, none, none] ∧ M' = TB b1 (M2 ++ [.lst [a, c, e]]) ∧ EntT a ∧ EntT c ∧ (e = sig (canon ps) ∨ EntT e) ∧ PenOk (n + 1 + 2 * i) b1) ⟨_, _, _, b1, none, rfl, rfl, nm_t h.wd.nm, int_t ⟨h.wd.lo, by have := h.wd.hi; omega⟩, .inl rfl, by simpa using hb1⟩ ?_ ?_
    · rintro i d env M' hd2 ⟨a, c, e, b2, e3, rfl, rfl, ha, hc, he, hb2⟩
      obtain ⟨hi, rfl⟩ := range_get hd2
      simp only [Int.toNat_natCast] at hi
      walk_at "go"
      refine use_law_odd hb2 (by omega) fun d b3 hd3 hb3 => ?_
      walk_at "go"
      refine use_law_draw hb3 (by omega) (by decide) (by decide) fun dr b4 hd0 hd1 hb4 => ?_
      have hb5 : PenOk (n + 1 + 2 * ((i + 1 : Nat) : Int)) b4 := by rw [show n + 1 + 2 * ((i + 1 : Nat) : Int) = n + 1 + 2 * i + 1 + 1 by omega]; exact hb4
      have ht := odd_t hd3
      have h3 : dr = 0 ∨ dr = 1 ∨ dr = 2 := by omega
      rcases h3 with rfl | rfl | rfl
      · refine setIx_use (l := [a, c, e]) get5 (by decide) (by simp) ?_
        rw [set5]
        exact ⟨d, c, e, b4, _, rfl, rfl, ht, hc, he, hb5⟩
      · refine setIx_use (l := [a, c, e]) get5 (by decide) (by simp) ?_
        rw [set5]
        exact ⟨a, d, e, b4, _, rfl, rfl, ha, ht, he, hb5⟩
      · refine setIx_use (l := [a, c, e]) get5 (by decide) (by simp) ?_
        rw [set5]
        exact ⟨a, c, d, b4, _, rfl, rfl, ha, hc, .inr ht, hb5⟩
    · rintro env M' ⟨a, c, e, b2, e3, rfl, rfl, ha, hc, he, hb2⟩
      refine hK _ _ ⟨a, c, e, b2, e3, rfl, rfl, ha, hc, he, hb2.mono ?_⟩
      have : (rangeD 0 (Int.toNat (m : Int))).length = m := by simp [rangeD]
      rw [this]; omega
  rintro env M' ⟨a, c, e, b1, e3, rfl, rfl, ha, hc, he, hb1⟩
  have app : ∀ {l : List D} {d : D} {R : D → Mt → Prop}, l.length < 5 → R .non (TB b1 (M2 ++ [.lst [a, c, e], .lst (l ++ [d])])) → mAppend (.cel (M2.length + 6)) [d] (TB b1 (M2 ++ [.lst [a, c, e], .lst l])) R := fun hl r => app_use get6 (by rw [line16]; omega) (by rw [set6]; exact r)
  have v5 : ∀ l : List D, viewD (TB b1 (M2 ++ [.lst [a, c, e], .lst l])) (.cel (M2.length + 5)) = .lst [a, c, e] := fun l => view_at get5
  have v6 : ∀ l : List D, viewD (TB b1 (M2 ++ [.lst [a, c, e], .lst l])) (.cel (M2.length + 6)) = .lst l := fun l => view_at get6
  refine seq_cut (fun env M' => env = [some (.cel 4), some row, some (.cel (M2.length + 5)), e3, some (.cel (M2.length + 6)), none] ∧ M' = TB b1 (M2 ++ [.lst [a, c, e], .lst []])) (fun K hK => ?_) ?_
  · walk_at "go"
    refine hK _ _ ⟨?_, ?_⟩
    · simp
    · simp
  rintro env M' ⟨rfl, rfl⟩
  refine seq_cut (fun env M' => env = [some (.cel 4), some row, some (.cel (M2.length + 5)), e3, some (.cel (M2.length + 6)), none] ∧ M' = TB b1 (M2 ++ [.lst [a, c, e], .lst ((w1 a).map D.str)])) (fun K hK => ?_) ?_
  · walk_at "go"
    rw [v5]
    walk_at "go"
    refine use_law_is_name ha.1 ?_
    unfold w1 at hK
    cases h1 : isNm a
    · rw [h1] at hK
      walk_at "go"
      · exact ⟨by rw [v6]; rfl⟩
      refine app (by simp) ?_
      walk_at "go"
      exact hK _ _ ⟨rfl, rfl⟩
    · rw [h1] at hK
      walk_at "go"
      exact hK _ _ ⟨rfl, rfl⟩
  rintro env M' ⟨rfl, rfl⟩
  refine seq_cut (fun env M' => env = [some (.cel 4), some row, some (.cel (M2.length + 5)), e3, some (.cel (M2.length + 6)), none] ∧ M' = TB b1 (M2 ++ [.lst [a, c, e], .lst ((w1 a ++ w2 c).map D.str)])) (fun K hK => ?_) ?_
  · have hl1 : (w1 a).length ≤ 1 := by unfold w1; split <;> simp
    walk_at "go"
    rw [v5]
    walk_at "go"
    refine use_law_is_between hc.1.val ?_
    unfold w2 at hK
    cases h1 : isNum 0 255 c
    · rw [h1] at hK
      walk_at "go"
      · exact ⟨by rw [v6]; rfl⟩
      refine app (by rw [List.length_map]; omega) ?_
      walk_at "go"
      exact hK _ _ ⟨rfl, by rw [List.map_append]; rfl⟩
    · rw [h1] at hK
      walk_at "go"
      exact hK _ _ ⟨rfl, by simp⟩
  rintro env M' ⟨rfl, rfl⟩
  refine seq_cut (fun env M' => env = [some (.cel 4), some row, some (.cel (M2.length + 5)), e3, some (.cel (M2.length + 6)), none] ∧ M' = TB b1 (M2 ++ [.lst [a, c, e], .lst ((wl a c e).map D.str)])) (fun K hK => ?_) ?_
  · have hl1 : (w1 a ++ w2 c).length ≤ 2 := by unfold w1 w2; split <;> split <;> simp
    have isq : ∀ {R : D → Mt → Prop} {M : Mt}, R (.bl (isSig e)) M → cIsO [("Signals", true)] "Signals" [e, .cls "Signals"] M R := fun {R M} r => by
      rcases he with rfl | he
      · exact isO_obj rfl rfl r
      · rw [val_nsig he.1.val] at r
        exact isO_any ((val_other he.1.val).2 M) r
    unfold wl at hK
    rw [← List.append_assoc] at hK
    unfold w3 at hK
    walk_at "go"
    rw [v5]
    walk_at "go"
    refine isq ?_
    cases h1 : isSig e
    · rw [h1] at hK
      walk_at "go"
      · exact ⟨by rw [v6]; rfl⟩
      refine app (by rw [List.length_map]; omega) ?_
      walk_at "go"
      exact hK _ _ ⟨rfl, by rw [List.map_append (l₁ := w1 a ++ w2 c)]; rfl⟩
    · rw [h1] at hK
      walk_at "go"
      exact hK _ _ ⟨rfl, by simp⟩
  rintro env M' ⟨rfl, rfl⟩
  obtain ⟨pc, tc⟩ := hc.2
  have hso := sig_or cn.ok he
  have hok : (TB b1 (M2 ++ [.lst [a, c, e], .lst ((wl a c e).map D.str)])).all (cellOk (TB b1 (M2 ++ [.lst [a, c, e], .lst ((wl a c e).map D.str)])).length) = true := by
    have le : (TB pb M2).length ≤ (TB b1 (M2 ++ [.lst [a, c, e], .lst ((wl a c e).map D.str)])).length := by simp
    have h0 := cellsOk_mono le hM
    have h1 : (TB b1 M2).all (cellOk (TB b1 (M2 ++ [.lst [a, c, e], .lst ((wl a c e).map D.str)])).length) = true := tb_all h0 (pen_cell hb1 _)
    show (TB b1 M2 ++ [D.lst [a, c, e], D.lst ((wl a c e).map D.str)]).all _ = true
    rw [List.all_append, h1, Bool.true_and]
    have e1 : ∀ n, cellOk n (.lst [a, c, e]) = true := fun n => by
      show noCels n [a, c, e] = true
      simp [noCels, ha.1.val.nc, hc.1.val.nc, sig_nc he]
    have e2 : ∀ n, cellOk n (.lst ((wl a c e).map D.str)) = true := fun n => noCels_strs _
    simp only [List.all_cons, List.all_nil, e1, e2, Bool.and_self]
  have ok2 : (TB b1 M2).all (cellOk (TB pb M2).length) = true := tb_all hM (pen_cell hb1 _)
  have fin : retF (TB pb M2).length R (.bl true) (TB b1 (M2 ++ [.lst [a, c, e], .lst ((wl a c e).map D.str)])) := .less rfl (by rw [tb_cut]; exact ok2) (by rw [tb_cut]; exact q b1 hb1)
  have v5 := v5 ((wl a c e).map D.str)
  have v6 := v6 ((wl a c e).map D.str)
  obtain ⟨Z, hZ⟩ : ∃ Z, Z = TB b1 (M2 ++ [.lst [a, c, e], .lst ((wl a c e).map D.str)]) := ⟨_, rfl⟩
  have h0 : Z[1]? = some (.cls "_law_refused_right") := by rw [hZ]; rfl
  rw [← hZ] at hok fin v5 v6
  rw [← hZ]
  clear hZ
  refine seq_cut (fun env M' => ∃ (due : D) (pp : PyData), env = [some (.cel 4), some row, some (.cel (M2.length + 5)), e3, some (.cel (M2.length + 6)), some due] ∧ M' = Z ∧ RpOk pp ∧ (∀ M, rpC M 12 due = some pp) ∧
      ((wordBad a c e = none ∧ due = .lst [c]) ∨ ∃ s, wordBad a c e = some s ∧ due = .tup [.str "word", .str s])) (fun K hK => ?_) ?_
  · rcases wl_bad a c e with ⟨w, wb⟩ | ⟨s, r, w, wb, sl, so⟩
    · rw [w] at v6
      walk_at "go"
      refine eqI_lnil (l := []) v6 ⟨plain_ints []⟩ ?_
      walk_at "go"
      rw [v5]
      walk_at "go"
      have st := say_one tc
      exact hK _ _ ⟨_, _, rfl, rfl, (st []).2, fun M => (st M).1, .inl ⟨wb, rfl⟩⟩
    · rw [w] at v6
      have pl : plainOk ((s :: r).map D.str) := plain_strs _ fun x hx => wl_sok a c e x (by rw [w]; exact hx)
      walk_at "go"
      refine eqI_lnil (l := (s :: r).map D.str) v6 ⟨pl⟩ ?_
      rw [show (List.map D.str (s :: r)).isEmpty = false from rfl]
      walk_at "go"
      rw [v6]
      walk_at "go"
      rw [show L2.atI (List.map D.str (s :: r)) 0 = some (.str s) from atI_nat (j := 0) rfl]
      walk_at "go"
      have st := say_tag (tag := "word") ⟨by decide, by decide +kernel⟩ (tl_str sl so)
      exact hK _ _ ⟨_, _, rfl, rfl, (st []).2, fun M => (st M).1, .inr ⟨s, wb, rfl⟩⟩
  rintro env M' ⟨due, pp, rfl, rfl, rok, rsay, hdue⟩
  walk_at "go"
  refine heard_use h0 hok fun RX' R' hx hr => ?_
  have said : ∀ {K2 : D → Mt → Prop}, K2 (.str pp.shown) M' → cReprC [due] M' K2 := fun z => reprC_use (rsay _) rok z
  walk_at "go"
  rw [v5]
  walk_at "go"
  rw [v5]
  walk_at "go"
  rw [v5]
  walk_at "go"
  refine use_Word_init__ (M0 := M') ha.1.val hc.1.val hso ?_
  rcases hdue with ⟨wb, rfl⟩ | ⟨s, wb, rfl⟩
  · rw [wb]
    refine ⟨rfl, made_end (ha.1.val.nc _) (hc.1.val.nc _) (sig_nc he _) ?_⟩
    walk_at "go"
    refine hr _ ?_
    refine said ?_
    walk_at "go"
    refine said ?_
    walk_at "go"
    rw [decide_eq_true (rfl : pp.shown = pp.shown)]
    exact fin
  · rw [wb]
    refine hx _ _ _ _ _ [.obj "Word" []] (.inl ⟨rfl, rfl, rfl⟩) (fun _ => rfl) ?_
    refine said ?_
    walk_at "go"
    refine said ?_
    walk_at "go"
    rw [decide_eq_true (rfl : pp.shown = pp.shown)]
    exact fin

/-! _law_named_right: 0 _law_pen_here, 1 _law_row, 2 _law_wrong, 3 _law_heard_here, 4 _law_one, 5 _law_two, 6 _law_kind, 7 _law_stem, 8 _law_thing -/
abbrev p_law_named_right : List Str := ["_law_pen_here", "_law_row"]
abbrev BIG : Int := 1000000000
theorem big_eq : (10 : Int) ^ Int.toNat 9 = 1000000000 := by decide
theorem num_int {d : D} {a b : Int} (h : isNum a b d = true) : ∃ i, d = .int i ∧ a ≤ i ∧ i ≤ b := by
  cases d <;> first | (cases h; done) | skip
  rename_i i
  have h : (decide (a ≤ i) && decide (i ≤ b)) = true := h
  rw [Bool.and_eq_true] at h
  exact ⟨i, rfl, of_decide_eq_true h.1, of_decide_eq_true h.2⟩
theorem two_sorted {ns : List Str} (hp : ns.Perm (["alu", "bus"] : List Str)) (hs : sortedS ns = true) : ns = (["alu", "bus"] : List Str) := by
  have hl := hp.length_eq
  have nd : ns.Nodup := hp.nodup_iff.mpr (by decide)
  match ns, hl with
  | [x, y], _ =>
    have hx : x ∈ (["alu", "bus"] : List Str) := hp.subset (by simp)
    have hy : y ∈ (["alu", "bus"] : List Str) := hp.subset (by simp)
    simp only [List.mem_cons, List.not_mem_nil, or_false] at hx hy
    rcases hx with rfl | rfl <;> rcases hy with rfl | rfl
    · exact absurd nd (by decide)
    · rfl
    · exact absurd hs (by decide)
    · exact absurd nd (by decide)
/-- the first of the two that is no number -/
def bad2 (one two : D) : List D := (if isNum 0 BIG one then [] else [one]) ++ (if isNum 0 BIG two then [] else [two])
theorem bad2_first {one two x : D} {r : List D} (h : bad2 one two = x :: r) : ∀ ns : List Str, ns.Perm (([("alu", one), ("bus", two)] : List (Str × D)).map (·.1)) → sortedS ns = true → firstBad [("alu", one), ("bus", two)] ns = some ((Str.ofString "InvalidNumber"), x) := by
  intro ns hp hs
  have e := two_sorted hp hs
  subst e
  have l1 : (([("alu", one), ("bus", two)] : List (Str × D)).lookup (Str.ofString "alu")) = some one := rfl
  have l2 : (([("alu", one), ("bus", two)] : List (Str × D)).lookup (Str.ofString "bus")) = some two := rfl
  have n1 : isNm (.str "alu") = true := by decide +kernel
  have n2 : isNm (.str "bus") = true := by decide +kernel
  rw [firstBad_cons, firstBad_cons, l1, l2]
  simp only [Option.getD_some]
  unfold verdict
  rw [n1, n2]
  have t1 : inT [] (.str "alu") = false := rfl
  have t2 : inT [] (.str "bus") = false := rfl
  rw [t1, t2]
  unfold bad2 at h
  cases h1 : isNum 0 BIG one
  · rw [h1] at h
    cases h
    rfl
  · rw [h1] at h
    cases h2 : isNum 0 BIG two
    · rw [h2] at h
      cases h
      rfl
    · rw [h2] at h
      cases h
theorem pairs2 {i j : Int} (hi : 0 ≤ i ∧ i ≤ BIG) (hj : 0 ≤ j ∧ j ≤ BIG) : PairsOk [("alu", i), ("bus", j)] := by
  refine ⟨(show ((["alu", "bus"] : List Str)).Nodup by decide), fun p hp => ?_, fun p hp => ?_, Nat.le_of_ble_eq_true rfl⟩
  · simp only [List.mem_cons, List.not_mem_nil, or_false] at hp
    rcases hp with rfl | rfl
    · exact (show nmV "alu" = true by decide +kernel)
    · exact (show nmV "bus" = true by decide +kernel)
  · simp only [List.mem_cons, List.not_mem_nil, or_false] at hp
    rcases hp with rfl | rfl
    · exact hi
    · exact hj
theorem asc2 (i j : Int) : ([("alu", i), ("bus", j)] : PL).filter nz = canon [("alu", i), ("bus", j)] :=
  filt_asc (List.Perm.refl _) (asc_of (by
    refine List.Pairwise.cons (fun b hb => ?_) (List.Pairwise.cons (fun b hb => by cases hb) .nil)
    have : b = "bus" := by simpa using hb
    subst this
    exact (show ¬ (Str.ofString "bus").cps.toList < (Str.ofString "alu").cps.toList by decide)) (show ((["alu", "bus"] : List Str)).Nodup by decide))
@[irreducible] def sp_law_named_right : DSp := fun ds M R RX => ∃ (k : Str) (b : Int) (ps : PL) (n : Int) (pb : D) (M2 : Mt), ds = [.cel 4, .tup [.str k, .int b, .lst (ps.map pD)]] ∧ M = TB pb M2 ∧ RowOk k b ps ∧ PenOk n pb ∧ n ≤ 990000 ∧ ∀ b', PenOk (n + 4) b' → R (.bl true) (TB b' M2)
theorem len_law_named_right : ∀ ds M R RX, sp_law_named_right ds M R RX → ds.length = p_law_named_right.length := by
  unfold sp_law_named_right; rintro ds M R RX ⟨_, _, _, _, _, _, rfl, _⟩; rfl
theorem use_law_named_right {k : Str} {b : Int} {ps : PL} {n : Int} {pb : D} {M2 : Mt} {R RX} (h : RowOk k b ps) (hb : PenOk n pb) (hn : n ≤ 990000) (q : ∀ b', PenOk (n + 4) b' → R (.bl true) (TB b' M2)) :
    sp_law_named_right [.cel 4, .tup [.str k, .int b, .lst (ps.map pD)]] (TB pb M2) R RX := by
  unfold sp_law_named_right; exact ⟨k, b, ps, n, pb, M2, rfl, rfl, h, hb, hn, q⟩
def w_law_named_right (RX : RXe) : WS :=
  (wSeq (wAsg (wTup (wCons (wCall sp_law_pick [] RX0 (wCons (wVar 0) (wCons (wLst (wCons (wC (.int 0)) (wCons (wC (.int 5)) (wCons (wOp oPow (wC (.int 10)) (wC (.int 9))) (wCons (wNeg (wC (.int 1))) (wCons (wOp oAdd (wOp oPow (wC (.int 10)) (wC (.int 9))) (wC (.int 1))) (wCons (wC (.bl true)) wNil))))))) wNil))) (wCons (wCall sp_law_pick [] RX0 (wCons (wVar 0) (wCons (wLst (wCons (wC (.int 0)) (wCons (wC (.int 3)) (wCons (wC .non) (wCons (wC (.str "3")) wNil))))) wNil))) wNil))) (gT 2 (gsCons (gN 4) (gsCons (gN 5) gsNil))))
    (wSeq (wAsg (wTup (wCons (wCall sp_law_pick [] RX0 (wCons (wVar 0) (wCons (wLst (wCons (wOp oIx (wVar 1) (wC (.int 0))) (wCons (wOp oIx (wVar 1) (wC (.int 0))) (wCons (wC (.str "A")) wNil)))) wNil))) (wCons (wCall sp_law_pick [] RX0 (wCons (wVar 0) (wCons (wLst (wCons (wOp oIx (wVar 1) (wC (.int 1))) (wCons (wOp oIx (wVar 1) (wC (.int 1))) (wCons (wC (.int 256)) wNil)))) wNil))) wNil))) (gT 2 (gsCons (gN 6) (gsCons (gN 7) gsNil))))
    (wSeq (wSetLc 2 (wLc (wIt (wLst (wCons (wVar 4) (wCons (wVar 5) wNil)))) [8] (wNotT (wTru (wCall sp_law_is_between [] RX0 (wCons (wVar 8) (wCons (wC (.int 0)) (wCons (wOp oPow (wC (.int 10)) (wC (.int 9))) wNil)))))) (wVar 8) [8]))
    (wSeq (wAsg (wLam 2 "_law_named_right" 4 (fun wl => w_law_heard wl RXn) (fun RX => (wCB (cDun "Word" sp_Word_str__ retS) (wCons (wCMethK "Word" ["cls", "kind", "base"] ["alu", "bus"] sp_Word_of RX (wC (.cls "Word")) (wCons (wVar 6) (wCons (wVar 7) wNil)) (wCons (wVar 4) (wCons (wVar 5) wNil))) wNil)))) (gN 3))
    (wSeq (wIfS (wTest (wOp (oEqI fun b => !b) (wVar 2) (wLst wNil))) (wRet (wOp (oEqI fun b => b) (wCB cReprC (wCons (wVar 3) wNil)) (wCB cReprC (wCons (wTup (wCons (wC (.str "number")) (wCons (wOp oIx (wVar 2) (wC (.int 0))) wNil))) wNil)))) wSkip)
    (wSeq (wIfS (wTest (wOp (oEqI fun b => b) (wVar 6) (wC (.str "A")))) (wRet (wOp (oEqI fun b => b) (wVar 3) (wTup (wCons (wC (.str "word")) (wCons (wC (.str "kind")) wNil))))) wSkip)
    (wSeq (wIfS (wTest (wOp (oEqI fun b => b) (wVar 7) (wC (.int 256)))) (wRet (wOp (oEqI fun b => b) (wVar 3) (wTup (wCons (wC (.str "word")) (wCons (wC (.str "base")) wNil))))) wSkip)
    (wRet (wOp (oEqI fun b => b) (wVar 3) (wLst (wCons (wCall sp_law_text [] RX0 (wCons (wVar 6) (wCons (wVar 7) (wCons (wLst (wCons (wTup (wCons (wC (.str "alu")) (wCons (wVar 4) wNil))) (wCons (wTup (wCons (wC (.str "bus")) (wCons (wVar 5) wNil))) wNil))) wNil)))) wNil)))))))))))
/-- what is heard of the word by name -/
inductive Heard (k kk : Str) (b bb : Int) (one two : D) : D → Prop
  | num (x : D) (r : List D) : bad2 one two = x :: r → Heard k kk b bb one two (.tup [.str "number", x])
  | kind : bad2 one two = [] → kk = "A" → Heard k kk b bb one two (.tup [.str "word", .str "kind"])
  | base : bad2 one two = [] → kk = k → bb = 256 → Heard k kk b bb one two (.tup [.str "word", .str "base"])
  | text (i j : Int) : one = .int i → two = .int j → (0 ≤ i ∧ i ≤ BIG) → (0 ≤ j ∧ j ≤ BIG) → kk = k → bb = b → Heard k kk b bb one two (.lst [.str (wtext k b (([("alu", i), ("bus", j)] : PL).filter nz))])
theorem bad2_nil {one two : D} (h : bad2 one two = []) : ∃ i j, one = .int i ∧ two = .int j ∧ (0 ≤ i ∧ i ≤ BIG) ∧ (0 ≤ j ∧ j ≤ BIG) := by
  unfold bad2 at h
  cases h1 : isNum 0 BIG one
  · rw [h1] at h; cases h
  · rw [h1] at h
    cases h2 : isNum 0 BIG two
    · rw [h2] at h; cases h
    · obtain ⟨i, rfl, a1, a2⟩ := num_int h1
      obtain ⟨j, rfl, b1, b2⟩ := num_int h2
      exact ⟨i, j, rfl, rfl, ⟨a1, a2⟩, ⟨b1, b2⟩⟩
def ONE : List D := [.int 0, .int 5, .int (10 ^ Int.toNat 9), .int (-1), .int (10 ^ Int.toNat 9 + 1), .bl true]
def TWO : List D := [.int 0, .int 3, .non, .str "3"]
theorem one_t : ∀ d ∈ ONE, EntT d := by
  intro d hd
  simp only [ONE, List.mem_cons, List.not_mem_nil, or_false] at hd
  rcases hd with rfl | rfl | rfl | rfl | rfl | rfl
  all_goals exact ⟨⟨⟨by decide +kernel, fun n => rfl⟩, fun s e => by cases e⟩, _, fun M n => rfl, by decide +kernel, by decide +kernel, by decide +kernel⟩
theorem two_t : ∀ d ∈ TWO, EntT d := by
  intro d hd
  simp only [TWO, List.mem_cons, List.not_mem_nil, or_false] at hd
  rcases hd with rfl | rfl | rfl | rfl
  all_goals exact ⟨⟨⟨by decide +kernel, fun n => rfl⟩, fun s e => by first | (cases e; done) | (cases e; decide +kernel)⟩, _, fun M n => rfl, by decide +kernel, by decide +kernel, by decide +kernel⟩
theorem bad2_pl : ∀ one ∈ ONE, ∀ two ∈ TWO, plainOk (bad2 one two) := by
  intro one h1 two h2
  simp only [ONE, List.mem_cons, List.not_mem_nil, or_false] at h1
  simp only [TWO, List.mem_cons, List.not_mem_nil, or_false] at h2
  rcases h1 with rfl | rfl | rfl | rfl | rfl | rfl <;> rcases h2 with rfl | rfl | rfl | rfl
  all_goals exact ⟨_, rfl, by decide +kernel⟩
theorem wp_law_named_right : ∀ ds M R RX, sp_law_named_right ds M R RX → M.all (cellOk M.length) = true → noCels M.length ds = true → w_law_named_right (fun nm fs _ M' => rxF M.length RX nm fs M') (fnEnds M.length R) (startE 9 ds) M := by
  unfold sp_law_named_right; rintro ds M R RX ⟨k, b, ps, n, pb, M2, rfl, rfl, h, hb, hn, q⟩ hM hds
  obtain ⟨row, hrow⟩ : ∃ row, row = D.tup [.str k, .int b, .lst (ps.map pD)] := ⟨_, rfl⟩
  have hA : nmV "A" = false := by decide +kernel
  have hkA : k ≠ "A" := fun z => by have := h.wd.nm; rw [z, hA] at this; cases this
  have hlo := h.wd.lo
  have hhi := h.wd.hi
  unfold w_law_named_right
  refine seq_cut (fun env M' => ∃ one two b1, env = [some (.cel 4), some row, none, none, some one, some two, none, none, none] ∧ M' = TB b1 M2 ∧ one ∈ ONE ∧ two ∈ TWO ∧ PenOk (n + 2) b1) (fun K hK => ?_) ?_
  · rw [hrow] at hK
    walk_at "go"
    refine use_law_pick hb (by omega) (by decide) (by decide) fun one b1 h1 hb1 => ?_
    walk_at "go"
    refine use_law_pick hb1 (by omega) (by decide) (by decide) fun two b2 h2 hb2 => ?_
    walk_at "go"
    exact hK _ _ ⟨one, two, b2, rfl, rfl, h1, h2, hb2.mono (by omega)⟩
  rintro env M' ⟨one, two, b1, rfl, rfl, h1, h2, hb1⟩
  refine seq_cut (fun env M' => ∃ (kk : Str) (bb : Int) (b2 : D), env = [some (.cel 4), some row, none, none, some one, some two, some (.str kk), some (.int bb), none] ∧ M' = TB b2 M2 ∧ (kk = "A" ∨ kk = k) ∧ (bb = 256 ∨ bb = b) ∧ PenOk (n + 4) b2) (fun K hK => ?_) ?_
  · rw [hrow] at hK ⊢
    walk_at "go"
    refine use_law_pick hb1 (by omega) (by simp) (by simp) fun d b2 hd hb2 => ?_
    obtain ⟨kk, rfl, hk⟩ : ∃ kk : Str, d = .str kk ∧ (kk = "A" ∨ kk = k) := by
      simp only [List.mem_cons, List.not_mem_nil, or_false] at hd
      rcases hd with rfl | rfl | rfl
      · exact ⟨_, rfl, .inr rfl⟩
      · exact ⟨_, rfl, .inr rfl⟩
      · exact ⟨_, rfl, .inl rfl⟩
    walk_at "go"
    refine use_law_pick hb2 (by omega) (by simp) (by simp) fun d b3 hd3 hb3 => ?_
    obtain ⟨bb, rfl, hbb⟩ : ∃ bb : Int, d = .int bb ∧ (bb = 256 ∨ bb = b) := by
      simp only [List.mem_cons, List.not_mem_nil, or_false] at hd3
      rcases hd3 with rfl | rfl | rfl
      · exact ⟨_, rfl, .inr rfl⟩
      · exact ⟨_, rfl, .inr rfl⟩
      · exact ⟨_, rfl, .inl rfl⟩
    walk_at "go"
    exact hK _ _ ⟨kk, bb, b3, rfl, rfl, hk, hbb, hb3.mono (by omega)⟩
  rintro env M' ⟨kk, bb, b2, rfl, rfl, hk, hbb, hb2⟩
  clear hrow
  have t1 := one_t _ h1
  have t2 := two_t _ h2
  refine seq_cut (fun env M' => env = [some (.cel 4), some row, some (.lst (bad2 one two)), none, some one, some two, some (.str kk), some (.int bb), none] ∧ M' = TB b2 M2) (fun K hK => ?_) ?_
  · unfold bad2 at hK
    walk_at "go"
    refine use_law_is_between t1.1.val ?_
    rw [big_eq]
    cases g1 : isNum 0 1000000000 one
    · rw [g1] at hK
      walk_at "go"
      refine use_law_is_between t2.1.val ?_
      rw [big_eq]
      cases g2 : isNum 0 1000000000 two
      · rw [g2] at hK
        walk_at "go"
        exact hK _ _ ⟨rfl, rfl⟩
      · rw [g2] at hK
        walk_at "go"
        exact hK _ _ ⟨rfl, rfl⟩
    · rw [g1] at hK
      walk_at "go"
      refine use_law_is_between t2.1.val ?_
      rw [big_eq]
      cases g2 : isNum 0 1000000000 two
      · rw [g2] at hK
        walk_at "go"
        exact hK _ _ ⟨rfl, rfl⟩
      · rw [g2] at hK
        walk_at "go"
        exact hK _ _ ⟨rfl, rfl⟩
  rintro env M' ⟨rfl, rfl⟩
  have hok : (TB b2 M2).all (cellOk (TB b2 M2).length) = true := tb_all hM (pen_cell hb2 _)
  have vk : Val (.str kk) := by
    rcases hk with rfl | rfl
    · exact ⟨by decide +kernel, fun n => rfl⟩
    · exact val_nm h.wd.nm
  refine seq_cut (fun env M' => ∃ hv, env = [some (.cel 4), some row, some (.lst (bad2 one two)), some hv, some one, some two, some (.str kk), some (.int bb), none] ∧ M' = TB b2 M2 ∧ Heard k kk b bb one two hv) (fun K hK => ?_) ?_
  · have fin : ∀ hv, Heard k kk b bb one two hv → K [some (.cel 4), some row, some (.lst (bad2 one two)), some hv, some one, some two, some (.str kk), some (.int bb), none] (TB b2 M2) := fun hv hh => hK _ _ ⟨hv, rfl, rfl, hh⟩
    walk_at "go"
    refine heard_use rfl hok fun RX' R' hx hr => ?_
    walk_at "go"
    cases hb2' : bad2 one two with
    | cons x r =>
      have hxm : x = one ∨ x = two := by
        have : x ∈ bad2 one two := by rw [hb2']; simp
        unfold bad2 at this
        rcases List.mem_append.mp this with z | z
        · split at z
          · cases z
          · exact .inl (by simpa using z)
        · split at z
          · cases z
          · exact .inr (by simpa using z)
      have vx : Val x := by
        rcases hxm with rfl | rfl
        · exact t1.1.val
        · exact t2.1.val
      refine use_Word_ofX (kv := [("alu", one), ("bus", two)]) (x := (Str.ofString "InvalidNumber", x)) vk (val_int bb) (fun p hp => ?_) (Nat.le_of_ble_eq_true rfl) (bad2_first hb2') vx ?_
      · simp only [List.mem_cons, List.not_mem_nil, or_false] at hp
        rcases hp with rfl | rfl
        · exact ⟨t1.1.val, (show (Str.ofString "alu").length ≤ 8 by decide)⟩
        · exact ⟨t2.1.val, (show (Str.ofString "bus").length ≤ 8 by decide)⟩
      · refine hx.here _ _ _ _ _ (.inr (.inr ⟨rfl, rfl, rfl⟩)) vx.nc ?_
        walk_at "go"
        exact fin _ (.num x r hb2')
    | nil =>
      obtain ⟨i, j, rfl, rfl, hi, hj⟩ := bad2_nil hb2'
      have ok2 := pairs2 hi hj
      refine use_Word_of (ps := [("alu", i), ("bus", j)]) vk (val_int bb) ok2 ?_
      rcases hk with rfl | rfl
      · have e : wordBad (.str "A") (.int bb) (sig (canon [("alu", i), ("bus", j)])) = some (Str.ofString "kind") := by
          unfold wordBad
          rw [show isNm (.str "A") = false from hA]
        rw [e]
        refine hx.here _ _ _ _ _ (.inl ⟨rfl, rfl, rfl⟩) (fun _ => rfl) ?_
        walk_at "go"
        exact fin _ (.kind hb2' rfl)
      · have ek : isNm (.str kk) = true := h.wd.nm
        rcases hbb with rfl | rfl
        · have e : wordBad (.str kk) (.int 256) (sig (canon [("alu", i), ("bus", j)])) = some (Str.ofString "base") := by
            unfold wordBad
            rw [ek, show isNum 0 255 (.int 256) = false from by decide]
          rw [e]
          refine hx.here _ _ _ _ _ (.inl ⟨rfl, rfl, rfl⟩) (fun _ => rfl) ?_
          walk_at "go"
          exact fin _ (.base hb2' rfl rfl)
        · have wk : WordOk kk bb (canon [("alu", i), ("bus", j)]) := ⟨h.wd.nm, hlo, hhi, canon_ok ok2⟩
          rw [wordBad_ok wk]
          walk_at "go"
          refine use_Word_str__ wk ?_
          walk_at "go"
          refine hr _ ?_
          walk_at "go"
          have z := fin _ (.text i j rfl rfl hi hj rfl rfl)
          rw [asc2] at z
          exact z
  rintro env M' ⟨hv, rfl, rfl, hh⟩
  have pl := bad2_pl _ h1 _ h2
  have fin : retF (TB pb M2).length R (.bl true) (TB b2 M2) := .keep (q b2 hb2)
  clear hk hbb
  cases hh with
  | num x r e =>
    have hxm : EntT x := by
      have : x ∈ bad2 one two := by rw [e]; simp
      unfold bad2 at this
      rcases List.mem_append.mp this with z | z
      · split at z
        · cases z
        · rw [show x = one by simpa using z]; exact t1
      · split at z
        · cases z
        · rw [show x = two by simpa using z]; exact t2
    obtain ⟨px, tx⟩ := hxm.2
    have st := say_tag (tag := "number") ⟨by decide, by decide +kernel⟩ tx (TB b2 M2)
    rw [e] at pl ⊢
    walk_at "go"
    · refine reprC_use st.1 st.2 ?_
      walk_at "go"
      rw [show L2.atI (x :: r) 0 = some x from atI_nat (j := 0) rfl]
      walk_at "go"
      refine reprC_use st.1 st.2 ?_
      walk_at "go"
      rw [decide_eq_true (rfl : PyData.shown _ = PyData.shown _)]
      exact fin
    all_goals exact absurd (by assumption : (x :: r).isEmpty = true) (by simp)
  | kind e ek =>
    rw [e] at pl ⊢
    subst ek
    walk_at "go"
    refine eqI_same (d := .tup [.str "word", .str "kind"]) rfl rfl ⟨_, rfl, by decide +kernel⟩ ?_
    walk_at "go"
    exact fin
  | base e ek eb =>
    rw [e] at pl ⊢
    subst ek eb
    walk_at "go"
    · exact absurd (by assumption) hkA
    refine eqI_same (d := .tup [.str "word", .str "base"]) rfl rfl ⟨_, rfl, by decide +kernel⟩ ?_
    walk_at "go"
    exact fin
  | text i j e1 e2 hi hj ek eb =>
    have e : bad2 one two = [] := by
      subst e1 e2
      unfold bad2
      have g1 : isNum 0 BIG (.int i) = true := by simp [isNum, hi.1, hi.2]
      have g2 : isNum 0 BIG (.int j) = true := by simp [isNum, hj.1, hj.2]
      rw [g1, g2]; rfl
    rw [e] at pl ⊢
    subst ek eb e1 e2
    have wk : WordOk kk bb [("alu", i), ("bus", j)] := ⟨h.wd.nm, hlo, hhi, pairs2 hi hj⟩
    have wk2 : WordOk kk bb (([("alu", i), ("bus", j)] : PL).filter nz) := ⟨h.wd.nm, hlo, hhi, ok_sub (pairs2 hi hj) List.filter_sublist⟩
    obtain ⟨x1, x2⟩ := wtext_ok wk2
    walk_at "go"
    · exact absurd (by assumption) hkA
    refine use_law_text (ps := [("alu", i), ("bus", j)]) wk ?_
    walk_at "go"
    refine eqI_same (d := .lst [.str (wtext kk bb (([("alu", i), ("bus", j)] : PL).filter nz))]) rfl rfl ⟨.list [.str (wtext kk bb (([("alu", i), ("bus", j)] : PL).filter nz))], rfl, by simp [SeqAt.shaped, PyData.canLay0, PyData.canLayAll0, PyData.depth, PyData.depthAll, x2]⟩ ?_
    walk_at "go"
    exact fin

/-! law: 0 _law_script, 1 _law_pen_here, 2 _law_rows, 3 _law_turn, 4 _law_row, 5 _law_words, 6 _law_titles, 7 _law_other, 8 _law_due, 9 _law_one, 10 _law_two -/
abbrev p_law : List Str := ["_law_script"]
/-! ### texts tell words apart -/
theorem nm_free {s : Str} (h : nmV s = true) {c : Nat} (hc : al c = false) : c ∉ TL.tl s := fun z => by
  have h2 : s.cps.toList.all (fun c => decide (c ∈ LET.cps.toList) || decide (c ∈ DIG.cps.toList)) = true := by
    unfold nmV at h
    rw [Bool.and_eq_true] at h
    exact h.2
  have := List.all_eq_true.mp h2 c z
  rw [show (decide (c ∈ LET.cps.toList) || decide (c ∈ DIG.cps.toList)) = al c from rfl, hc] at this
  cases this
theorem tl_int' {i : Int} (h : 0 ≤ i) : TL.tl (Str.ofString (toString i)) = TL.numL i.toNat := by
  have := TL.tl_num i.toNat
  rw [Int.toNat_of_nonneg h] at this
  exact this
theorem num_inj {i j : Int} (hi : 0 ≤ i) (hj : 0 ≤ j) (e : Str.ofString (toString i) = Str.ofString (toString j)) : i = j := by
  have e2 := congrArg TL.tl e
  rw [tl_int' hi, tl_int' hj] at e2
  have := TL.numL_inj e2
  omega
theorem al32 : al 32 = false := by decide +kernel
theorem al61 : al 61 = false := by decide +kernel
theorem eq_tl : TL.tl ("=" : Str) = 61 :: [] := by decide +kernel
theorem sp_tl : TL.tl (" " : Str) = 32 :: [] := by decide +kernel
theorem part_inj {p q : Str × Int} (hp : nmV p.1 = true) (hq : nmV q.1 = true) (bp : 0 ≤ p.2) (bq : 0 ≤ q.2) (e : part p = part q) : p = q := by
  unfold part at e
  have a := TL.partition_app (y := "=") (b := Str.ofString (toString p.2)) eq_tl (nm_free hp al61)
  have b := TL.partition_app (y := "=") (b := Str.ofString (toString q.2)) eq_tl (nm_free hq al61)
  rw [e, b] at a
  simp only [Prod.mk.injEq, true_and] at a
  exact Prod.ext a.1.symm (num_inj bp bq a.2.symm)
theorem map_inj {α β : Type} {f : α → β} : ∀ {l m : List α}, (∀ x ∈ l, ∀ y ∈ m, f x = f y → x = y) → l.map f = m.map f → l = m
  | [], [], _, _ => rfl
  | [], _ :: _, _, e => by cases e
  | _ :: _, [], _, e => by cases e
  | x :: l, y :: m, h, e => by
    rw [List.map_cons, List.map_cons, List.cons.injEq] at e
    rw [h x List.mem_cons_self y List.mem_cons_self e.1, map_inj (fun a ha b hb => h a (List.mem_cons_of_mem _ ha) b (List.mem_cons_of_mem _ hb)) e.2]
theorem parts_free {k : Str} {b : Int} {t : PL} (h : WordOk k b t) : ∀ p ∈ k :: Str.ofString (toString b) :: t.map part, 32 ∉ TL.tl p := by
  intro p hp
  rcases List.mem_cons.mp hp with rfl | hp
  · exact nm_free h.nm al32
  · rcases List.mem_cons.mp hp with rfl | hp
    · rw [tl_int' h.lo]; exact TL.numL_free (by decide)
    · obtain ⟨q, hq, rfl⟩ := List.mem_map.mp hp
      unfold part
      rw [TL.tl_append, TL.tl_append, eq_tl, tl_int' (h.ok.nb q hq).1]
      intro z
      rcases List.mem_append.mp z with z | z
      · rcases List.mem_append.mp z with z | z
        · exact nm_free (h.ok.nm q hq) al32 z
        · simp at z
      · exact TL.numL_free (by decide) z
theorem wtext_inj {k k2 : Str} {b b2 : Int} {t t2 : PL} (h : WordOk k b t) (h2 : WordOk k2 b2 t2) (e : wtext k b t = wtext k2 b2 t2) : k = k2 ∧ b = b2 ∧ t = t2 := by
  have e1 := TL.split_join (y := " ") sp_tl (by decide +kernel) (by simp) (parts_free h)
  have e2 := TL.split_join (y := " ") sp_tl (by decide +kernel) (by simp) (parts_free h2)
  unfold wtext at e
  rw [e, e2] at e1
  simp only [List.cons.injEq] at e1
  obtain ⟨a1, a2, a3⟩ := e1
  refine ⟨a1.symm, num_inj h.lo h2.lo a2.symm, map_inj (fun p hp q hq z => part_inj (h.ok.nm p hp) (h2.ok.nm q hq) (h.ok.nb p hp).1 (h2.ok.nb q hq).1 z) a3.symm⟩
/-- a row -/
abbrev Rw := Str × Int × PL
def rd (r : Rw) : D := .tup [.str r.1, .int r.2.1, .lst (r.2.2.map pD)]
def RwOk (r : Rw) : Prop := RowOk r.1 r.2.1 r.2.2
def txt (r : Rw) : Str := wtext r.1 r.2.1 (r.2.2.filter nz)
theorem txt_same {r s : Rw} (hr : RwOk r) (hs : RwOk s) : decide (txt r = txt s) = decide (r.1 = s.1 ∧ r.2.1 = s.2.1 ∧ canon r.2.2 = canon s.2.2) := by
  unfold txt
  rw [hr.fs.asc, hs.fs.asc]
  by_cases h : r.1 = s.1 ∧ r.2.1 = s.2.1 ∧ canon r.2.2 = canon s.2.2
  · rw [decide_eq_true h, h.1, h.2.1, h.2.2]; exact decide_eq_true rfl
  · rw [decide_eq_false h]
    exact decide_eq_false fun z => h (wtext_inj hr.cn hs.cn z)
theorem say_two (x y : Bool) (M : Mt) : rpC M 12 (.lst [.bl x, .bl y]) = some (.list [.bool x, .bool y]) ∧ RpOk (.list [.bool x, .bool y]) :=
  ⟨rfl, rpOk_of rfl (by simp [PyData.depth, PyData.depthAll]) (by simp [wtP, wtA])⟩
@[irreducible] def sp_law : DSp := fun ds M R _ => ∃ ns : List Int, ds = [.rol (ns.map D.int)] ∧ M = TS0 ∧ ∀ M, R (.bl true) M
theorem len_law : ∀ ds M R RX, sp_law ds M R RX → ds.length = p_law.length := by
  unfold sp_law; rintro ds M R RX ⟨_, rfl, _⟩; rfl
theorem law_start (ns : List Int) (hl : ns.length ≤ 63) (R : D → Mt → Prop) (RX : RXt) (h : ∀ M, R (.bl true) M) : sp_law [.rol (ns.map D.int)] TS0 R RX := by
  unfold sp_law; exact ⟨ns, rfl, rfl, h⟩
def w_law (RX : RXe) : WS :=
  (wSeq (wAsg (wCall sp_law_pen [] RX0 (wCons (wVar 0) wNil)) (gN 1))
    (wSeq (wAsg (wLstM wNil) (gN 2))
    (wSeq (wPar 5 6 (wCons (wCall sp_law_names [] RX0 (wCons (wVar 1) (wCons (wC (.int 6)) wNil))) (wCons (wCall sp_law_names [] RX0 (wCons (wVar 1) (wCons (wC (.int 2)) wNil))) wNil)))
    (wSeq (wFor (wRng1 (wCons (wC (.int 8)) wNil)) (gN 3) (wSeq (wAsg (wTup (wCons (wCall sp_law_pick [] RX0 (wCons (wVar 1) (wCons (wVar 6) wNil))) (wCons (wCall sp_law_pick [] RX0 (wCons (wVar 1) (wCons (wLst (wCons (wC (.int 0)) (wCons (wC (.int 255)) (wCons (wC (.int 1)) (wCons (wCall sp_law_draw [] RX0 (wCons (wVar 1) (wCons (wC (.int 256)) wNil))) wNil))))) wNil))) (wCons (wCall sp_law_fields [] RX0 (wCons (wVar 1) (wCons (wVar 5) wNil))) wNil)))) (gN 4))
    (wSeq (wExp (wBM "list" mAppend (wVar 2) (wCons (wVar 4) wNil)))
    (wIfS (wOrT (wNotT (wTru (wCallX sp_law_right [] RX (wCons (wVar 1) (wCons (wVar 4) (wCons (wVar 5) wNil)))))) (wOrT (wNotT (wTru (wCallX sp_law_refused_right [] RX (wCons (wVar 1) (wCons (wVar 4) wNil))))) (wNotT (wTru (wCallX sp_law_named_right [] RX (wCons (wVar 1) (wCons (wVar 4) wNil))))))) (wRet (wC (.bl false))) wSkip))))
    (wSeq (wFrz 2 (wFor (wIt (wVar 2)) (gN 4) (wFor (wIt (wVar 2)) (gN 7) (wSeq (wAsg (wOp (oEqI fun b => b) (wCall sp_law_text [] RX0 (wCons (wOp oIx (wVar 4) (wC (.int 0))) (wCons (wOp oIx (wVar 4) (wC (.int 1))) (wCons (wOp oIx (wVar 4) (wC (.int 2))) wNil)))) (wCall sp_law_text [] RX0 (wCons (wOp oIx (wVar 7) (wC (.int 0))) (wCons (wOp oIx (wVar 7) (wC (.int 1))) (wCons (wOp oIx (wVar 7) (wC (.int 2))) wNil))))) (gN 8))
    (wSeq (wPar 9 10 (wCons (wMk "Word" sp_Word_init__ RX (wCons (wOp oIx (wVar 4) (wC (.int 0))) (wCons (wOp oIx (wVar 4) (wC (.int 1))) (wCons (wCMeth "Signals" sp_Signals_of RX (wC (.cls "Signals")) (wCons (wOp oIx (wVar 4) (wC (.int 2))) wNil)) wNil)))) (wCons (wMk "Word" sp_Word_init__ RX (wCons (wOp oIx (wVar 7) (wC (.int 0))) (wCons (wOp oIx (wVar 7) (wC (.int 1))) (wCons (wCMeth "Signals" sp_Signals_of RX (wC (.cls "Signals")) (wCons (wOp oIx (wVar 7) (wC (.int 2))) wNil)) wNil)))) wNil)))
    (wIfS (wTest (wOp (oEqI fun b => !b) (wCB cReprC (wCons (wLst (wCons (wOp (oEqO "Word" sp_Word_eq__ id) (wVar 9) (wVar 10)) (wCons (wOp (oEqO "Word" sp_Word_eq__ (fun b => !b)) (wVar 9) (wVar 10)) wNil))) wNil)) (wCB cReprC (wCons (wLst (wCons (wVar 8) (wCons (wNotV (wVar 8)) wNil))) wNil)))) (wRet (wC (.bl false))) wSkip))))))
    (wRet (wOp (oEqI fun b => b) (wLam 3 "law" 4 (fun wl => w_law_heard wl RXn) (fun RX => (wFld "Word" "base" (wCMethK "Word" ["cls", "kind", "base"] ["B"] sp_Word_of RX (wC (.cls "Word")) (wCons (wC (.str "A")) (wCons (wC (.int 256)) wNil)) (wCons (wC (.int 1)) wNil))))) (wTup (wCons (wC (.str "name")) (wCons (wC (.str "B")) wNil))))))))))
theorem get_rd {l : List Rw} {i : Nat} {d : D} (h : (l.map rd)[i]? = some d) : ∃ r, l[i]? = some r ∧ d = rd r := by
  rw [List.getElem?_map] at h
  cases e : l[i]? with
  | none => rw [e] at h; cases h
  | some p => rw [e] at h; exact ⟨p, rfl, (Option.some.inj h).symm⟩
theorem frz5 {b : D} {l : List D} {R : D → Mt → Prop} (k : R (.lst l) (TB b [.non])) : frz (.cel 5) (TB b [.lst l]) R := by
  have h5 : (TB b [D.lst l])[5]? = some (.lst l) := rfl
  have s5 : (TB b [D.lst l]).set 5 .non = TB b [.non] := rfl
  simp only [frz, h5, s5]; exact k
theorem wp_law : ∀ ds M R RX, sp_law ds M R RX → M.all (cellOk M.length) = true → noCels M.length ds = true → w_law (fun nm fs _ M' => rxF M.length RX nm fs M') (fnEnds M.length R) (startE 11 ds) M := by
  unfold sp_law; rintro ds M R RX ⟨ns, rfl, rfl, k⟩ _ _
  unfold w_law
  refine seq_cut (fun env M' => ∃ b, env = [some (.rol (ns.map D.int)), some (.cel 4), none, none, none, none, none, none, none, none, none] ∧ M' = TB b [] ∧ PenOk 0 b) (fun K hK => ?_) ?_
  · walk_at "go"
    refine use_law_pen fun b hb => ?_
    walk_at "go"
    exact hK _ _ ⟨b, rfl, rfl, hb⟩
  rintro env M' ⟨b, rfl, rfl, hb⟩
  refine seq_cut (fun env M' => env = [some (.rol (ns.map D.int)), some (.cel 4), some (.cel 5), none, none, none, none, none, none, none, none] ∧ M' = TB b [.lst []]) (fun K hK => ?_) ?_
  · walk_at "go"
    exact hK _ _ ⟨rfl, rfl⟩
  rintro env M' ⟨rfl, rfl⟩
  refine seq_cut (fun env M' => ∃ (ws ts : List Str) (b1 : D), env = [some (.rol (ns.map D.int)), some (.cel 4), some (.cel 5), none, none, some (.lst (ws.map D.str)), some (.lst (ts.map D.str)), none, none, none, none] ∧ M' = TB b1 [.lst []] ∧ Words ws ∧ ws.length = 6 ∧ Words ts ∧ ts.length = 2 ∧ PenOk 40 b1) (fun K hK => ?_) ?_
  · walk_at "go"
    refine use_law_names (m := 6) hb (by omega) (by omega) fun ws b1 hws hwl hb1 => ?_
    walk_at "go"
    refine use_law_names (m := 2) hb1 (by omega) (by omega) fun ts b2 hts htl hb2 => ?_
    walk_at "go"
    exact hK _ _ ⟨ws, ts, b2, rfl, rfl, hws, hwl, hts, htl, hb2.mono (by omega)⟩
  rintro env M' ⟨ws, ts, b1, rfl, rfl, hws, hwl, hts, htl, hb1⟩
  refine seq_cut (fun env M' => ∃ (rs : List Rw) (b2 : D) (e3 e4 : Option D), env = [some (.rol (ns.map D.int)), some (.cel 4), some (.cel 5), e3, e4, some (.lst (ws.map D.str)), some (.lst (ts.map D.str)), none, none, none, none] ∧ M' = TB b2 [.lst (rs.map rd)] ∧ PenOk 1000 b2 ∧ (∀ r ∈ rs, RwOk r) ∧ rs.length = 8) (fun K hK => ?_) ?_
  · walk_at "go"
    refine forL_inv (fun i env M' => ∃ (rs : List Rw) (b2 : D) (e3 e4 : Option D), env = [some (.rol (ns.map D.int)), some (.cel 4), some (.cel 5), e3, e4, some (.lst (ws.map D.str)), some (.lst (ts.map D.str)), none, none, none, none] ∧ M' = TB b2 [.lst (rs.map rd)] ∧ PenOk (40 + 40 * i) b2 ∧ (∀ r ∈ rs, RwOk r) ∧ rs.length = i) ⟨[], b1, none, none, rfl, rfl, by simpa using hb1, by simp, rfl⟩ ?_ ?_
    · rintro i d env M' hd ⟨rs, b2, e3, e4, rfl, rfl, hb2, hrs, hrl⟩
      obtain ⟨hi, rfl⟩ := range_get hd
      have hi8 : i < 8 := by omega
      clear hd
      walk_at "go"
      refine use_law_pick hb2 (by omega) (by rw [List.length_map]; omega) (by rw [List.length_map]; omega) fun kd_ b3 hkd hb3 => ?_
      obtain ⟨k_, hkt, rfl⟩ := List.mem_map.mp hkd
      walk_at "go"
      refine use_law_draw hb3 (by omega) (by decide) (by decide) fun dr b4 hd0 hd1 hb4 => ?_
      walk_at "go"
      refine use_law_pick hb4 (by omega) (by simp) (by simp) fun d_ b5 hd_ hb5 => ?_
      obtain ⟨st, rfl, hst⟩ : ∃ st : Int, d_ = .int st ∧ 0 ≤ st ∧ st ≤ 255 := by
        simp only [List.mem_cons, List.not_mem_nil, or_false] at hd_
        rcases hd_ with rfl | rfl | rfl | rfl
        · exact ⟨0, rfl, by decide⟩
        · exact ⟨255, rfl, by decide⟩
        · exact ⟨1, rfl, by decide⟩
        · exact ⟨dr, rfl, by omega, by omega⟩
      walk_at "go"
      refine use_law_fields hws hwl hb5 (by omega) fun ps b6 hps hb6 => ?_
      have row : RwOk (k_, st, ps) := ⟨⟨hts.nm _ hkt, hst.1, hst.2, hps.ok⟩, hps⟩
      walk_at "go"
      refine app_use (l := rs.map rd) (M := TB b6 [.lst (rs.map rd)]) rfl (by rw [List.length_map, line16]; omega) ?_
      have em : (TB b6 [.lst (rs.map rd)]).set 5 (.lst (rs.map rd ++ [D.tup [.str k_, .int st, .lst (ps.map pD)]])) = TB b6 [.lst ((rs ++ [(k_, st, ps)]).map rd)] := by
        rw [List.map_append]; rfl
      rw [em]
      walk_at "go"
      refine use_law_right (k := k_) (b := st) (ps := ps) row hws hwl hb6 (by omega) fun b7 hb7 => ?_
      walk_at "go"
      refine use_law_refused_right (k := k_) (b := st) (ps := ps) row hb7 (by omega) fun b8 hb8 => ?_
      walk_at "go"
      refine use_law_named_right (k := k_) (b := st) (ps := ps) row hb8 (by omega) fun b9 hb9 => ?_
      walk_at "go"
      refine ⟨rs ++ [(k_, st, ps)], b9, _, _, rfl, rfl, hb9.mono (by omega), fun r hr => ?_, by rw [List.length_append, hrl]; rfl⟩
      rcases List.mem_append.mp hr with hr | hr
      · exact hrs r hr
      · rw [List.mem_singleton.mp hr]; exact row
    · rintro env M' ⟨rs, b2, e3, e4, rfl, rfl, hb2, hrs, hrl⟩
      have e : (rangeD 0 (Int.toNat 8)).length = 8 := by simp [rangeD]
      rw [e] at hb2 hrl
      exact hK _ _ ⟨rs, b2, e3, e4, rfl, rfl, hb2.mono (by omega), hrs, hrl⟩
  rintro env M' ⟨rs, b2, e3, e4, rfl, rfl, hb2, hrs, hrl⟩
  refine seq_cut (fun env M' => M' = TB b2 [.non]) (fun K hK => ?_) ?_
  · walk_at "go"
    refine frz5 ?_
    walk_at "go"
    refine forL_inv (fun i env M' => ∃ (e3 e4 e7 e8 e9 e10 : Option D), env = [some (.rol (ns.map D.int)), some (.cel 4), some (.lst (rs.map rd)), e3, e4, some (.lst (ws.map D.str)), some (.lst (ts.map D.str)), e7, e8, e9, e10] ∧ M' = TB b2 [.non]) ⟨_, _, _, _, _, _, rfl, rfl⟩ ?_ ?_
    · rintro i d env M' hd ⟨e3, e4, e7, e8, e9, e10, rfl, rfl⟩
      obtain ⟨r, hri, rfl⟩ := get_rd hd
      have hr := hrs r (List.mem_of_getElem? hri)
      clear hd
      walk_at "go"
      refine forL_inv (fun i env M' => ∃ (e7 e8 e9 e10 : Option D), env = [some (.rol (ns.map D.int)), some (.cel 4), some (.lst (rs.map rd)), e3, some (rd r), some (.lst (ws.map D.str)), some (.lst (ts.map D.str)), e7, e8, e9, e10] ∧ M' = TB b2 [.non]) ⟨_, _, _, _, rfl, rfl⟩ ?_ ?_
      · rintro j d env M' hd ⟨e7, e8, e9, e10, rfl, rfl⟩
        obtain ⟨s, hsj, rfl⟩ := get_rd hd
        have hs := hrs s (List.mem_of_getElem? hsj)
        clear hd
        have es := txt_same hr hs
        obtain ⟨due, hdue⟩ : ∃ due, due = decide (txt r = txt s) := ⟨_, rfl⟩
        refine seq_cut (fun env M' => env = [some (.rol (ns.map D.int)), some (.cel 4), some (.lst (rs.map rd)), e3, some (rd r), some (.lst (ws.map D.str)), some (.lst (ts.map D.str)), some (rd s), some (.bl due), e9, e10] ∧ M' = TB b2 [.non]) (fun K hK => ?_) ?_
        · walk_at "go"
          refine use_law_text (k := r.1) (b := r.2.1) (ps := r.2.2) hr.wd ?_
          walk_at "go"
          refine use_law_text (k := s.1) (b := s.2.1) (ps := s.2.2) hs.wd ?_
          walk_at "go"
          rw [hdue] at hK
          exact hK _ _ ⟨rfl, rfl⟩
        rintro env M' ⟨rfl, rfl⟩
        refine seq_cut (fun env M' => env = [some (.rol (ns.map D.int)), some (.cel 4), some (.lst (rs.map rd)), e3, some (rd r), some (.lst (ws.map D.str)), some (.lst (ts.map D.str)), some (rd s), some (.bl due), some (wrd r.1 r.2.1 (canon r.2.2)), some (wrd s.1 s.2.1 (canon s.2.2))] ∧ M' = TB b2 [.non]) (fun K hK => ?_) ?_
        · walk_at "go"
          refine use_Signals_of (.inl rfl) hr.wd.ok ?_
          walk_at "go"
          refine use_Word_init__ (M0 := TB b2 [.non]) (val_nm hr.wd.nm) (val_int r.2.1) (.inl ⟨_, rfl, hr.cn.ok⟩) ?_
          rw [wordBad_ok hr.cn]
          refine ⟨rfl, made_end rfl rfl (noC_sig _ _) ?_⟩
          walk_at "go"
          refine use_Signals_of (.inl rfl) hs.wd.ok ?_
          walk_at "go"
          refine use_Word_init__ (M0 := TB b2 [.non]) (val_nm hs.wd.nm) (val_int s.2.1) (.inl ⟨_, rfl, hs.cn.ok⟩) ?_
          rw [wordBad_ok hs.cn]
          refine ⟨rfl, made_end rfl rfl (noC_sig _ _) ?_⟩
          walk_at "go"
          exact hK _ _ ⟨rfl, rfl⟩
        rintro env M' ⟨rfl, rfl⟩
        rw [es] at hdue
        have st := say_two due (!due) (TB b2 [.non])
        walk_at "go"
        refine eqO_obj rfl rfl (use_Word_eq__ hr.cn hs.cn ?_)
        rw [← hdue]
        walk_at "go"
        refine eqO_obj rfl rfl (use_Word_eq__ hr.cn hs.cn ?_)
        rw [← hdue]
        walk_at "go"
        refine reprC_use st.1 st.2 ?_
        walk_at "go"
        refine reprC_use st.1 st.2 ?_
        walk_at "go"
        all_goals first
          | exact ⟨_, _, _, _, rfl, rfl⟩
          | (exfalso; simp_all; done)
      · rintro env M' ⟨e7, e8, e9, e10, rfl, rfl⟩
        exact ⟨_, _, _, _, _, _, rfl, rfl⟩
    · rintro env M' ⟨e3, e4, e7, e8, e9, e10, rfl, rfl⟩
      exact hK _ _ rfl
  rintro env M' rfl
  walk_at "go"
  refine heard_use rfl (by have e := pen_cell hb2 6; show (true && (true && (true && (true && (cellOk 6 b2 && (true && true)))))) = true; rw [e]; rfl) fun RX' R' hx hr => ?_
  walk_at "go"
  refine use_Word_ofX (kv := [("B", .int 1)]) (x := (Str.ofString "InvalidName", .str "B")) ⟨by decide +kernel, fun n => rfl⟩ (val_int 256) (fun p hp => ?_) (Nat.le_of_ble_eq_true rfl) (fun ns hp hs => ?_) ⟨by decide +kernel, fun n => rfl⟩ ?_
  · rw [List.mem_singleton.mp hp]
    exact ⟨val_int 1, (show (Str.ofString "B").length ≤ 8 by decide)⟩
  · have e : ns = [Str.ofString "B"] := List.perm_singleton.mp hp
    subst e
    rw [firstBad_cons]
    unfold verdict
    rw [show isNm (.str (Str.ofString "B")) = false by decide +kernel]
    rfl
  · refine hx.here _ _ _ _ _ (.inr (.inl ⟨rfl, rfl, rfl⟩)) (fun _ => rfl) ?_
    walk_at "go"
    refine eqI_same (d := .tup [.str "name", .str "B"]) rfl rfl ⟨_, rfl, by decide +kernel⟩ ?_
    walk_at "go"
    exact .keep (k _)



def topS (i : Nat) : Stmt := PySem.Challenge.pw_orplaces_k20_words.main.body.getD i (.Pass ⟨0, 0, 0, 0⟩)
abbrev p_InvalidName_init__ : List Str := ["self", "value"]
abbrev s_InvalidName_init__ : Stmt := (inClass (topS 3) 0)
abbrev N_InvalidName_init__ : List Str := ["self", "value"]
theorem sc_InvalidName_init__ : FnScope N_InvalidName_init__ p_InvalidName_init__ (defScope s_InvalidName_init__) := ⟨rfl, rfl, rfl, by decide +kernel, rfl, by decide +kernel, by decide +kernel⟩
abbrev p_InvalidNumber_init__ : List Str := ["self", "value"]
abbrev s_InvalidNumber_init__ : Stmt := (inClass (topS 4) 0)
abbrev N_InvalidNumber_init__ : List Str := ["self", "value"]
theorem sc_InvalidNumber_init__ : FnScope N_InvalidNumber_init__ p_InvalidNumber_init__ (defScope s_InvalidNumber_init__) := ⟨rfl, rfl, rfl, by decide +kernel, rfl, by decide +kernel, by decide +kernel⟩
abbrev p_InvalidWord_init__ : List Str := ["self", "part"]
abbrev s_InvalidWord_init__ : Stmt := (inClass (topS 7) 0)
abbrev N_InvalidWord_init__ : List Str := ["self", "part"]
theorem sc_InvalidWord_init__ : FnScope N_InvalidWord_init__ p_InvalidWord_init__ (defScope s_InvalidWord_init__) := ⟨rfl, rfl, rfl, by decide +kernel, rfl, by decide +kernel, by decide +kernel⟩
abbrev s_is_integer : Stmt := topS 10
abbrev N_is_integer : List Str := ["value"]
theorem sc_is_integer : FnScope N_is_integer p_is_integer (defScope s_is_integer) := ⟨rfl, rfl, rfl, by decide +kernel, rfl, by decide +kernel, by decide +kernel⟩
abbrev s_is_between : Stmt := topS 11
abbrev N_is_between : List Str := ["value", "least", "most"]
theorem sc_is_between : FnScope N_is_between p_is_between (defScope s_is_between) := ⟨rfl, rfl, rfl, by decide +kernel, rfl, by decide +kernel, by decide +kernel⟩
abbrev s_is_name : Stmt := topS 17
abbrev N_is_name : List Str := ["value", "sign"]
theorem sc_is_name : FnScope N_is_name p_is_name (defScope s_is_name) := ⟨rfl, rfl, rfl, by decide +kernel, rfl, by decide +kernel, by decide +kernel⟩
abbrev s_need_told : Stmt := topS 20
abbrev N_need_told : List Str := ["field", "number", "taken"]
theorem sc_need_told : FnScope N_need_told p_need_told (defScope s_need_told) := ⟨rfl, rfl, rfl, by decide +kernel, rfl, by decide +kernel, by decide +kernel⟩
abbrev s_Signals_init__ : Stmt := (inClass (topS 19) 1)
abbrev N_Signals_init__ : List Str := ["this_object", "fields", "field"]
theorem sc_Signals_init__ : FnScope N_Signals_init__ p_Signals_init__ (defScope s_Signals_init__) := ⟨rfl, rfl, rfl, by decide +kernel, rfl, by decide +kernel, by decide +kernel⟩
abbrev s_Signals_of : Stmt := (inClass (topS 19) 2)
abbrev N_Signals_of : List Str := ["cls", "pairs", "found", "field", "number"]
theorem sc_Signals_of : FnScope N_Signals_of p_Signals_of (defScope s_Signals_of) := ⟨rfl, rfl, rfl, by decide +kernel, rfl, by decide +kernel, by decide +kernel⟩
abbrev s_Signals_getitem__ : Stmt := (inClass (topS 19) 3)
abbrev N_Signals_getitem__ : List Str := ["self", "field"]
theorem sc_Signals_getitem__ : FnScope N_Signals_getitem__ p_Signals_getitem__ (defScope s_Signals_getitem__) := ⟨rfl, rfl, rfl, by decide +kernel, rfl, by decide +kernel, by decide +kernel⟩
abbrev s_Signals_eq__ : Stmt := (inClass (topS 19) 9)
abbrev N_Signals_eq__ : List Str := ["self", "other"]
theorem sc_Signals_eq__ : FnScope N_Signals_eq__ p_Signals_eq__ (defScope s_Signals_eq__) := ⟨rfl, rfl, rfl, by decide +kernel, rfl, by decide +kernel, by decide +kernel⟩
abbrev s_Word_init__ : Stmt := (inClass (topS 24) 0)
abbrev N_Word_init__ : List Str := ["self", "kind", "base", "signals"]
theorem sc_Word_init__ : FnScope N_Word_init__ p_Word_init__ (defScope s_Word_init__) := ⟨rfl, rfl, rfl, by decide +kernel, rfl, by decide +kernel, by decide +kernel⟩
abbrev s_Word_of : Stmt := (inClass (topS 24) 1)
abbrev N_Word_of : List Str := ["cls", "kind", "base", "fields", "signals"]
theorem sc_Word_of : FnScope N_Word_of p_Word_of (defScope s_Word_of) := ⟨rfl, rfl, rfl, by decide +kernel, rfl, by decide +kernel, by decide +kernel⟩
abbrev s_Word_getitem__ : Stmt := (inClass (topS 24) 2)
abbrev N_Word_getitem__ : List Str := ["self", "field"]
theorem sc_Word_getitem__ : FnScope N_Word_getitem__ p_Word_getitem__ (defScope s_Word_getitem__) := ⟨rfl, rfl, rfl, by decide +kernel, rfl, by decide +kernel, by decide +kernel⟩
abbrev s_Word_eq__ : Stmt := (inClass (topS 24) 4)
abbrev N_Word_eq__ : List Str := ["self", "other"]
theorem sc_Word_eq__ : FnScope N_Word_eq__ p_Word_eq__ (defScope s_Word_eq__) := ⟨rfl, rfl, rfl, by decide +kernel, rfl, by decide +kernel, by decide +kernel⟩
abbrev s_Word_str__ : Stmt := (inClass (topS 24) 5)
abbrev N_Word_str__ : List Str := ["self", "field", "number"]
theorem sc_Word_str__ : FnScope N_Word_str__ p_Word_str__ (defScope s_Word_str__) := ⟨rfl, rfl, rfl, by decide +kernel, rfl, by decide +kernel, by decide +kernel⟩
abbrev s_law_pen : Stmt := topS 26
abbrev N_law_pen : List Str := ["_law_script"]
theorem sc_law_pen : FnScope N_law_pen p_law_pen (defScope s_law_pen) := ⟨rfl, rfl, rfl, by decide +kernel, rfl, by decide +kernel, by decide +kernel⟩
abbrev s_law_draw : Stmt := topS 27
abbrev N_law_draw : List Str := ["_law_pen_here", "_law_many", "_law_at", "_law_cell", "_law_mixed", "_law_digit", "_law_great"]
theorem sc_law_draw : FnScope N_law_draw p_law_draw (defScope s_law_draw) := ⟨rfl, rfl, rfl, by decide +kernel, rfl, by decide +kernel, by decide +kernel⟩
abbrev s_law_pick : Stmt := topS 28
abbrev N_law_pick : List Str := ["_law_pen_here", "_law_some"]
theorem sc_law_pick : FnScope N_law_pick p_law_pick (defScope s_law_pick) := ⟨rfl, rfl, rfl, by decide +kernel, rfl, by decide +kernel, by decide +kernel⟩
abbrev s_law_names : Stmt := topS 29
abbrev N_law_names : List Str := ["_law_pen_here", "_law_many", "_law_letters", "_law_size", "_law_signs", "_law_base", "_law_at", "_law_found", "_law_k", "_law_start", "_law_hop", "_law_word"]
theorem sc_law_names : FnScope N_law_names p_law_names (defScope s_law_names) := ⟨rfl, rfl, rfl, by decide +kernel, rfl, by decide +kernel, by decide +kernel⟩
abbrev s_law_is_name : Stmt := topS 30
abbrev N_law_is_name : List Str := ["_law_value", "_law_letters", "_law_sign"]
theorem sc_law_is_name : FnScope N_law_is_name p_law_is_name (defScope s_law_is_name) := ⟨rfl, rfl, rfl, by decide +kernel, rfl, by decide +kernel, by decide +kernel⟩
abbrev s_law_is_between : Stmt := topS 31
abbrev N_law_is_between : List Str := ["_law_value", "_law_low_end", "_law_high_end"]
theorem sc_law_is_between : FnScope N_law_is_between p_law_is_between (defScope s_law_is_between) := ⟨rfl, rfl, rfl, by decide +kernel, rfl, by decide +kernel, by decide +kernel⟩
abbrev s_law_fault : Stmt := topS 32
abbrev N_law_fault : List Str := ["_law_error", "_law_found"]
theorem sc_law_fault : FnScope N_law_fault p_law_fault (defScope s_law_fault) := ⟨rfl, rfl, rfl, by decide +kernel, rfl, by decide +kernel, by decide +kernel⟩
abbrev s_law_heard : Stmt := topS 33
abbrev N_law_heard : List Str := ["_law_ask", "_law_error", "_law_caught", "_law_found"]
theorem sc_law_heard : FnScope N_law_heard p_law_heard (defScope s_law_heard) := ⟨rfl, rfl, rfl, by decide +kernel, rfl, by decide +kernel, by decide +kernel⟩
abbrev s_law_odd : Stmt := topS 34
abbrev N_law_odd : List Str := ["_law_pen_here", "_law_some"]
theorem sc_law_odd : FnScope N_law_odd p_law_odd (defScope s_law_odd) := ⟨rfl, rfl, rfl, by decide +kernel, rfl, by decide +kernel, by decide +kernel⟩
abbrev s_law_fields : Stmt := topS 35
abbrev N_law_fields : List Str := ["_law_pen_here", "_law_words", "_law_some", "_law_word"]
theorem sc_law_fields : FnScope N_law_fields p_law_fields (defScope s_law_fields) := ⟨rfl, rfl, rfl, by decide +kernel, rfl, by decide +kernel, by decide +kernel⟩
abbrev s_law_text : Stmt := topS 36
abbrev N_law_text : List Str := ["_law_kind", "_law_stem", "_law_pairs", "_law_field", "_law_number"]
theorem sc_law_text : FnScope N_law_text p_law_text (defScope s_law_text) := ⟨rfl, rfl, rfl, by decide +kernel, rfl, by decide +kernel, by decide +kernel⟩
abbrev s_law_right : Stmt := topS 37
abbrev N_law_right : List Str := ["_law_pen_here", "_law_row", "_law_words", "_law_made", "_law_told", "_law_due", "_law_word", "_law_thing", "_law_twin", "_law_kind", "_law_stem", "_law_pairs", "_law_pair", "_law_one"]
theorem sc_law_right : FnScope N_law_right p_law_right (defScope s_law_right) := ⟨rfl, rfl, rfl, by decide +kernel, rfl, by decide +kernel, by decide +kernel⟩
abbrev s_law_refused_right : Stmt := topS 38
abbrev N_law_refused_right : List Str := ["_law_pen_here", "_law_row", "_law_given", "_law_turn", "_law_wrong", "_law_due"]
theorem sc_law_refused_right : FnScope N_law_refused_right p_law_refused_right (defScope s_law_refused_right) := ⟨rfl, rfl, rfl, by decide +kernel, rfl, by decide +kernel, by decide +kernel⟩
abbrev s_law_named_right : Stmt := topS 39
abbrev N_law_named_right : List Str := ["_law_pen_here", "_law_row", "_law_wrong", "_law_heard_here", "_law_one", "_law_two", "_law_kind", "_law_stem", "_law_thing"]
theorem sc_law_named_right : FnScope N_law_named_right p_law_named_right (defScope s_law_named_right) := ⟨rfl, rfl, rfl, by decide +kernel, rfl, by decide +kernel, by decide +kernel⟩
abbrev s_law : Stmt := topS 40
abbrev N_law : List Str := ["_law_script", "_law_pen_here", "_law_rows", "_law_turn", "_law_row", "_law_words", "_law_titles", "_law_other", "_law_due", "_law_one", "_law_two"]
theorem sc_law : FnScope N_law p_law (defScope s_law) := ⟨rfl, rfl, rfl, by decide +kernel, rfl, by decide +kernel, by decide +kernel⟩
set_option genInjectivity false in
set_option genSizeOf false in
/-- what the top has written -/
structure Tx (K : PySem.W.Frag) (mg : Str → Option Value) (base : Heap) where
  {C_Signals : Addr}
  m_Signals : mg "Signals" = some (.ref C_Signals)
  at_Signals : ClsAt K "Signals" C_Signals
  {C_Word : Addr}
  m_Word : mg "Word" = some (.ref C_Word)
  at_Word : ClsAt K "Word" C_Word
  {C_InvalidFrame : Addr}
  m_InvalidFrame : mg "InvalidFrame" = some (.ref C_InvalidFrame)
  at_InvalidFrame : ClsAt K "InvalidFrame" C_InvalidFrame
  {C_InvalidKind : Addr}
  m_InvalidKind : mg "InvalidKind" = some (.ref C_InvalidKind)
  at_InvalidKind : ClsAt K "InvalidKind" C_InvalidKind
  {C_InvalidName : Addr}
  m_InvalidName : mg "InvalidName" = some (.ref C_InvalidName)
  at_InvalidName : ClsAt K "InvalidName" C_InvalidName
  {C_InvalidNumber : Addr}
  m_InvalidNumber : mg "InvalidNumber" = some (.ref C_InvalidNumber)
  at_InvalidNumber : ClsAt K "InvalidNumber" C_InvalidNumber
  {C_InvalidWord : Addr}
  m_InvalidWord : mg "InvalidWord" = some (.ref C_InvalidWord)
  at_InvalidWord : ClsAt K "InvalidWord" C_InvalidWord
  {C_OrError : Addr}
  m_OrError : mg "OrError" = some (.ref C_OrError)
  at_OrError : ClsAt K "OrError" C_OrError
  cl_Signals : Cls K C_Signals
  cl_Word : Cls K C_Word
  cr_Signals : ClX.CRead K C_Signals (.type "type")
  {sp_a_Signals_of : Addr}
  {f_Signals_of : Addr}
  cm_Signals_of : ClX.CMet K C_Signals (.type "type") "of" sp_a_Signals_of f_Signals_of
  cr_Word : ClX.CRead K C_Word (.type "type")
  {sp_a_Word_of : Addr}
  {f_Word_of : Addr}
  cm_Word_of : ClX.CMet K C_Word (.type "type") "of" sp_a_Word_of f_Word_of
  {tk_Signals_MOST : Tok}
  cv_Signals_MOST : PySem.W.findCls K (.ref C_Signals) (.type "type") "MOST" = some (.val (.int 1000000000 tk_Signals_MOST))
  er_InvalidName : ErC K C_InvalidName
  er_InvalidNumber : ErC K C_InvalidNumber
  er_InvalidWord : ErC K C_InvalidWord
  inf_Signals : InsF K C_Signals
  inf_Word : InsF K C_Word
  isc_Signals : PySem.W.kitOne K (.type "NoneType") (.ref C_Signals) = some false
  isc_Word : PySem.W.kitOne K (.type "NoneType") (.ref C_Word) = some false
  kit_InvalidName_InvalidFrame : PySem.W.kitOne K (.ref C_InvalidName) (.ref C_InvalidFrame) = some false
  kit_InvalidName_InvalidKind : PySem.W.kitOne K (.ref C_InvalidName) (.ref C_InvalidKind) = some false
  kit_InvalidName_InvalidName : PySem.W.kitOne K (.ref C_InvalidName) (.ref C_InvalidName) = some true
  kit_InvalidName_InvalidNumber : PySem.W.kitOne K (.ref C_InvalidName) (.ref C_InvalidNumber) = some false
  kit_InvalidName_InvalidWord : PySem.W.kitOne K (.ref C_InvalidName) (.ref C_InvalidWord) = some false
  kit_InvalidNumber_InvalidFrame : PySem.W.kitOne K (.ref C_InvalidNumber) (.ref C_InvalidFrame) = some false
  kit_InvalidNumber_InvalidKind : PySem.W.kitOne K (.ref C_InvalidNumber) (.ref C_InvalidKind) = some false
  kit_InvalidNumber_InvalidName : PySem.W.kitOne K (.ref C_InvalidNumber) (.ref C_InvalidName) = some false
  kit_InvalidNumber_InvalidNumber : PySem.W.kitOne K (.ref C_InvalidNumber) (.ref C_InvalidNumber) = some true
  kit_InvalidNumber_InvalidWord : PySem.W.kitOne K (.ref C_InvalidNumber) (.ref C_InvalidWord) = some false
  kit_InvalidWord_InvalidFrame : PySem.W.kitOne K (.ref C_InvalidWord) (.ref C_InvalidFrame) = some false
  kit_InvalidWord_InvalidKind : PySem.W.kitOne K (.ref C_InvalidWord) (.ref C_InvalidKind) = some false
  kit_InvalidWord_InvalidName : PySem.W.kitOne K (.ref C_InvalidWord) (.ref C_InvalidName) = some false
  kit_InvalidWord_InvalidNumber : PySem.W.kitOne K (.ref C_InvalidWord) (.ref C_InvalidNumber) = some false
  kit_InvalidWord_InvalidWord : PySem.W.kitOne K (.ref C_InvalidWord) (.ref C_InvalidWord) = some true
  kitC_Signals_Signals : PySem.W.kitOne K (.ref C_Signals) (.ref C_Signals) = some true
  kitC_Signals_Word : PySem.W.kitOne K (.ref C_Signals) (.ref C_Word) = some false
  kitC_Word_Word : PySem.W.kitOne K (.ref C_Word) (.ref C_Word) = some true
  kitT_InvalidName_ValueError : PySem.W.kitOne K (.ref C_InvalidName) (.type "ValueError") = some true
  kitT_InvalidNumber_ValueError : PySem.W.kitOne K (.ref C_InvalidNumber) (.type "ValueError") = some true
  kitT_InvalidWord_ValueError : PySem.W.kitOne K (.ref C_InvalidWord) (.type "ValueError") = some true
  {f_Signals_init__ : Addr}
  mk_Signals : Mk K C_Signals f_Signals_init__
  {f_Word_init__ : Addr}
  mk_Word : Mk K C_Word f_Word_init__
  na_Signals_told : NoAttr K C_Signals "told"
  na_Word_base : NoAttr K C_Word "base"
  na_Word_kind : NoAttr K C_Word "kind"
  na_Word_signals : NoAttr K C_Word "signals"
  nec_Word : NeC K C_Word
  {f_Signals_eq__ : Addr}
  oc_Signals___eq__ : OpC K C_Signals "__eq__" f_Signals_eq__
  {f_Signals_getitem__ : Addr}
  oc_Signals___getitem__ : OpC K C_Signals "__getitem__" f_Signals_getitem__
  {f_Word_eq__ : Addr}
  oc_Word___eq__ : OpC K C_Word "__eq__" f_Word_eq__
  {f_Word_getitem__ : Addr}
  oc_Word___getitem__ : OpC K C_Word "__getitem__" f_Word_getitem__
  {f_Word_str__ : Addr}
  oc_Word___str__ : OpC K C_Word "__str__" f_Word_str__
  ox_InvalidName : OexC K C_InvalidName
  {f_InvalidName_init__ : Addr}
  ii_InvalidName : PySem.W.findIn K (.ref C_InvalidName) "__init__" = some (some (.ref f_InvalidName_init__))
  ti_InvalidName : PySem.W.typeIn K (.ref f_InvalidName_init__) = some (.type "function")
  xi_InvalidName_value : PySem.W.findIn K (.ref C_InvalidName) "value" = some none
  ox_InvalidNumber : OexC K C_InvalidNumber
  {f_InvalidNumber_init__ : Addr}
  ii_InvalidNumber : PySem.W.findIn K (.ref C_InvalidNumber) "__init__" = some (some (.ref f_InvalidNumber_init__))
  ti_InvalidNumber : PySem.W.typeIn K (.ref f_InvalidNumber_init__) = some (.type "function")
  xi_InvalidNumber_value : PySem.W.findIn K (.ref C_InvalidNumber) "value" = some none
  ox_InvalidWord : OexC K C_InvalidWord
  {f_InvalidWord_init__ : Addr}
  ii_InvalidWord : PySem.W.findIn K (.ref C_InvalidWord) "__init__" = some (some (.ref f_InvalidWord_init__))
  ti_InvalidWord : PySem.W.typeIn K (.ref f_InvalidWord_init__) = some (.type "function")
  xi_InvalidWord_part : PySem.W.findIn K (.ref C_InvalidWord) "part" = some none
  sbn_Signals_Word : PySem.W.subIn K (.ref C_Signals) (.ref C_Word) = some false
  smK : SmK K
  {f_law_named_right tbc_law_named_right tbt_law_named_right : Addr}
  tF_law_named_right : TabF K base mg "_law_named_right" f_law_named_right tbc_law_named_right tbt_law_named_right
  {f_law_refused_right tbc_law_refused_right tbt_law_refused_right : Addr}
  tF_law_refused_right : TabF K base mg "_law_refused_right" f_law_refused_right tbc_law_refused_right tbt_law_refused_right
  {f_law_right tbc_law_right tbt_law_right : Addr}
  tF_law_right : TabF K base mg "_law_right" f_law_right tbc_law_right tbt_law_right
  {f_law tbc_law tbt_law : Addr}
  tF_law : TabF K base mg "law" f_law tbc_law tbt_law
  xa_InvalidName_value : PySem.W.findIn K (.ref C_InvalidName) "value" = some none
  xa_InvalidNumber_value : PySem.W.findIn K (.ref C_InvalidNumber) "value" = some none
  xa_InvalidWord_part : PySem.W.findIn K (.ref C_InvalidWord) "part" = some none
  xf_InvalidName : XfC K C_InvalidName
  xf_InvalidNumber : XfC K C_InvalidNumber
  xf_InvalidWord : XfC K C_InvalidWord
  xm_InvalidName_OrError : PySem.W.exmOne K (.ref C_InvalidName) (.ref C_OrError) = some true
  xm_InvalidNumber_OrError : PySem.W.exmOne K (.ref C_InvalidNumber) (.ref C_OrError) = some true
  xm_InvalidWord_OrError : PySem.W.exmOne K (.ref C_InvalidWord) (.ref C_OrError) = some true
  fn_Signals___getitem__ : PySem.W.fnIn K f_Signals_getitem__ = true
  fn_Word___getitem__ : PySem.W.fnIn K f_Word_getitem__ = true
  {oc_InvalidName_init__ kV_InvalidName_init__ dc_InvalidName_init__ pm_InvalidName_init__ cd_InvalidName_init__ ct_InvalidName_init__ : Value}
  {od_InvalidName_init__ an_InvalidName_init__ : Option Addr}
  {sl_InvalidName_init__ : Array (Option Value)}
  l_InvalidName_init__ : K.lookup f_InvalidName_init__ = some ⟨oc_InvalidName_init__, od_InvalidName_init__, .func (PySem.W.fnOf "__init__" "InvalidName.__init__" (defArgs s_InvalidName_init__) (defBody s_InvalidName_init__) (defScope s_InvalidName_init__) .none kV_InvalidName_init__ dc_InvalidName_init__ pm_InvalidName_init__ an_InvalidName_init__ cd_InvalidName_init__ ct_InvalidName_init__), sl_InvalidName_init__⟩
  c_InvalidName_init__ : PySem.W.codeIn K cd_InvalidName_init__ "InvalidName.__init__" = true
  k_InvalidName_init__ : PySem.W.keepIn K (.ref f_InvalidName_init__) = true
  {oc_InvalidNumber_init__ kV_InvalidNumber_init__ dc_InvalidNumber_init__ pm_InvalidNumber_init__ cd_InvalidNumber_init__ ct_InvalidNumber_init__ : Value}
  {od_InvalidNumber_init__ an_InvalidNumber_init__ : Option Addr}
  {sl_InvalidNumber_init__ : Array (Option Value)}
  l_InvalidNumber_init__ : K.lookup f_InvalidNumber_init__ = some ⟨oc_InvalidNumber_init__, od_InvalidNumber_init__, .func (PySem.W.fnOf "__init__" "InvalidNumber.__init__" (defArgs s_InvalidNumber_init__) (defBody s_InvalidNumber_init__) (defScope s_InvalidNumber_init__) .none kV_InvalidNumber_init__ dc_InvalidNumber_init__ pm_InvalidNumber_init__ an_InvalidNumber_init__ cd_InvalidNumber_init__ ct_InvalidNumber_init__), sl_InvalidNumber_init__⟩
  c_InvalidNumber_init__ : PySem.W.codeIn K cd_InvalidNumber_init__ "InvalidNumber.__init__" = true
  k_InvalidNumber_init__ : PySem.W.keepIn K (.ref f_InvalidNumber_init__) = true
  {oc_InvalidWord_init__ kV_InvalidWord_init__ dc_InvalidWord_init__ pm_InvalidWord_init__ cd_InvalidWord_init__ ct_InvalidWord_init__ : Value}
  {od_InvalidWord_init__ an_InvalidWord_init__ : Option Addr}
  {sl_InvalidWord_init__ : Array (Option Value)}
  l_InvalidWord_init__ : K.lookup f_InvalidWord_init__ = some ⟨oc_InvalidWord_init__, od_InvalidWord_init__, .func (PySem.W.fnOf "__init__" "InvalidWord.__init__" (defArgs s_InvalidWord_init__) (defBody s_InvalidWord_init__) (defScope s_InvalidWord_init__) .none kV_InvalidWord_init__ dc_InvalidWord_init__ pm_InvalidWord_init__ an_InvalidWord_init__ cd_InvalidWord_init__ ct_InvalidWord_init__), sl_InvalidWord_init__⟩
  c_InvalidWord_init__ : PySem.W.codeIn K cd_InvalidWord_init__ "InvalidWord.__init__" = true
  k_InvalidWord_init__ : PySem.W.keepIn K (.ref f_InvalidWord_init__) = true
  {f_is_integer : Addr}
  g_is_integer : mg "is_integer" = some (.ref f_is_integer)
  {oc_is_integer kV_is_integer dc_is_integer pm_is_integer cd_is_integer ct_is_integer : Value}
  {od_is_integer an_is_integer : Option Addr}
  {sl_is_integer : Array (Option Value)}
  l_is_integer : K.lookup f_is_integer = some ⟨oc_is_integer, od_is_integer, .func (PySem.W.fnOf "is_integer" "is_integer" (defArgs s_is_integer) (defBody s_is_integer) (defScope s_is_integer) .none kV_is_integer dc_is_integer pm_is_integer an_is_integer cd_is_integer ct_is_integer), sl_is_integer⟩
  c_is_integer : PySem.W.codeIn K cd_is_integer "is_integer" = true
  k_is_integer : PySem.W.keepIn K (.ref f_is_integer) = true
  {f_is_between : Addr}
  g_is_between : mg "is_between" = some (.ref f_is_between)
  {oc_is_between kV_is_between dc_is_between pm_is_between cd_is_between ct_is_between : Value}
  {od_is_between an_is_between : Option Addr}
  {sl_is_between : Array (Option Value)}
  l_is_between : K.lookup f_is_between = some ⟨oc_is_between, od_is_between, .func (PySem.W.fnOf "is_between" "is_between" (defArgs s_is_between) (defBody s_is_between) (defScope s_is_between) .none kV_is_between dc_is_between pm_is_between an_is_between cd_is_between ct_is_between), sl_is_between⟩
  c_is_between : PySem.W.codeIn K cd_is_between "is_between" = true
  k_is_between : PySem.W.keepIn K (.ref f_is_between) = true
  {f_is_name : Addr}
  g_is_name : mg "is_name" = some (.ref f_is_name)
  {oc_is_name kV_is_name dc_is_name pm_is_name cd_is_name ct_is_name : Value}
  {od_is_name an_is_name : Option Addr}
  {sl_is_name : Array (Option Value)}
  l_is_name : K.lookup f_is_name = some ⟨oc_is_name, od_is_name, .func (PySem.W.fnOf "is_name" "is_name" (defArgs s_is_name) (defBody s_is_name) (defScope s_is_name) .none kV_is_name dc_is_name pm_is_name an_is_name cd_is_name ct_is_name), sl_is_name⟩
  c_is_name : PySem.W.codeIn K cd_is_name "is_name" = true
  k_is_name : PySem.W.keepIn K (.ref f_is_name) = true
  {f_need_told : Addr}
  g_need_told : mg "need_told" = some (.ref f_need_told)
  {df_need_told : Addr}
  {oc_need_told kV_need_told dc_need_told pm_need_told cd_need_told ct_need_told : Value}
  {od_need_told an_need_told : Option Addr}
  {sl_need_told : Array (Option Value)}
  l_need_told : K.lookup f_need_told = some ⟨oc_need_told, od_need_told, .func (PySem.W.fnOf "need_told" "need_told" (defArgs s_need_told) (defBody s_need_told) (defScope s_need_told) (.ref df_need_told) kV_need_told dc_need_told pm_need_told an_need_told cd_need_told ct_need_told), sl_need_told⟩
  c_need_told : PySem.W.codeIn K cd_need_told "need_told" = true
  k_need_told : PySem.W.keepIn K (.ref f_need_told) = true
  {de_need_told : Addr}
  {dod_need_told : Option Addr}
  {dn_need_told : Nat}
  {dsl_need_told : Array (Option Value)}
  df__need_told : K.lookup df_need_told = some ⟨.type "tuple", dod_need_told, .seq #[.ref de_need_told] dn_need_told, dsl_need_told⟩
  {eod_need_told : Option Addr}
  {en_need_told : Nat}
  {esl_need_told : Array (Option Value)}
  de__need_told : K.lookup de_need_told = some ⟨.type "tuple", eod_need_told, .seq #[] en_need_told, esl_need_told⟩
  {oc_Signals_init__ kV_Signals_init__ dc_Signals_init__ pm_Signals_init__ cd_Signals_init__ ct_Signals_init__ : Value}
  {od_Signals_init__ an_Signals_init__ : Option Addr}
  {sl_Signals_init__ : Array (Option Value)}
  l_Signals_init__ : K.lookup f_Signals_init__ = some ⟨oc_Signals_init__, od_Signals_init__, .func (PySem.W.fnOf "__init__" "Signals.__init__" (defArgs s_Signals_init__) (defBody s_Signals_init__) (defScope s_Signals_init__) .none kV_Signals_init__ dc_Signals_init__ pm_Signals_init__ an_Signals_init__ cd_Signals_init__ ct_Signals_init__), sl_Signals_init__⟩
  c_Signals_init__ : PySem.W.codeIn K cd_Signals_init__ "Signals.__init__" = true
  k_Signals_init__ : PySem.W.keepIn K (.ref f_Signals_init__) = true
  {oc_Signals_of kV_Signals_of dc_Signals_of pm_Signals_of cd_Signals_of ct_Signals_of : Value}
  {od_Signals_of an_Signals_of : Option Addr}
  {sl_Signals_of : Array (Option Value)}
  l_Signals_of : K.lookup f_Signals_of = some ⟨oc_Signals_of, od_Signals_of, .func (PySem.W.fnOf "of" "Signals.of" (defArgs s_Signals_of) (defBody s_Signals_of) (defScope s_Signals_of) .none kV_Signals_of dc_Signals_of pm_Signals_of an_Signals_of cd_Signals_of ct_Signals_of), sl_Signals_of⟩
  c_Signals_of : PySem.W.codeIn K cd_Signals_of "Signals.of" = true
  k_Signals_of : PySem.W.keepIn K (.ref f_Signals_of) = true
  {oc_Signals_getitem__ kV_Signals_getitem__ dc_Signals_getitem__ pm_Signals_getitem__ cd_Signals_getitem__ ct_Signals_getitem__ : Value}
  {od_Signals_getitem__ an_Signals_getitem__ : Option Addr}
  {sl_Signals_getitem__ : Array (Option Value)}
  l_Signals_getitem__ : K.lookup f_Signals_getitem__ = some ⟨oc_Signals_getitem__, od_Signals_getitem__, .func (PySem.W.fnOf "__getitem__" "Signals.__getitem__" (defArgs s_Signals_getitem__) (defBody s_Signals_getitem__) (defScope s_Signals_getitem__) .none kV_Signals_getitem__ dc_Signals_getitem__ pm_Signals_getitem__ an_Signals_getitem__ cd_Signals_getitem__ ct_Signals_getitem__), sl_Signals_getitem__⟩
  c_Signals_getitem__ : PySem.W.codeIn K cd_Signals_getitem__ "Signals.__getitem__" = true
  k_Signals_getitem__ : PySem.W.keepIn K (.ref f_Signals_getitem__) = true
  {oc_Signals_eq__ kV_Signals_eq__ dc_Signals_eq__ pm_Signals_eq__ cd_Signals_eq__ ct_Signals_eq__ : Value}
  {od_Signals_eq__ an_Signals_eq__ : Option Addr}
  {sl_Signals_eq__ : Array (Option Value)}
  l_Signals_eq__ : K.lookup f_Signals_eq__ = some ⟨oc_Signals_eq__, od_Signals_eq__, .func (PySem.W.fnOf "__eq__" "Signals.__eq__" (defArgs s_Signals_eq__) (defBody s_Signals_eq__) (defScope s_Signals_eq__) .none kV_Signals_eq__ dc_Signals_eq__ pm_Signals_eq__ an_Signals_eq__ cd_Signals_eq__ ct_Signals_eq__), sl_Signals_eq__⟩
  c_Signals_eq__ : PySem.W.codeIn K cd_Signals_eq__ "Signals.__eq__" = true
  k_Signals_eq__ : PySem.W.keepIn K (.ref f_Signals_eq__) = true
  {oc_Word_init__ kV_Word_init__ dc_Word_init__ pm_Word_init__ cd_Word_init__ ct_Word_init__ : Value}
  {od_Word_init__ an_Word_init__ : Option Addr}
  {sl_Word_init__ : Array (Option Value)}
  l_Word_init__ : K.lookup f_Word_init__ = some ⟨oc_Word_init__, od_Word_init__, .func (PySem.W.fnOf "__init__" "Word.__init__" (defArgs s_Word_init__) (defBody s_Word_init__) (defScope s_Word_init__) .none kV_Word_init__ dc_Word_init__ pm_Word_init__ an_Word_init__ cd_Word_init__ ct_Word_init__), sl_Word_init__⟩
  c_Word_init__ : PySem.W.codeIn K cd_Word_init__ "Word.__init__" = true
  k_Word_init__ : PySem.W.keepIn K (.ref f_Word_init__) = true
  {oc_Word_of kV_Word_of dc_Word_of pm_Word_of cd_Word_of ct_Word_of : Value}
  {od_Word_of an_Word_of : Option Addr}
  {sl_Word_of : Array (Option Value)}
  l_Word_of : K.lookup f_Word_of = some ⟨oc_Word_of, od_Word_of, .func (PySem.W.fnOf "of" "Word.of" (defArgs s_Word_of) (defBody s_Word_of) (defScope s_Word_of) .none kV_Word_of dc_Word_of pm_Word_of an_Word_of cd_Word_of ct_Word_of), sl_Word_of⟩
  c_Word_of : PySem.W.codeIn K cd_Word_of "Word.of" = true
  k_Word_of : PySem.W.keepIn K (.ref f_Word_of) = true
  {oc_Word_getitem__ kV_Word_getitem__ dc_Word_getitem__ pm_Word_getitem__ cd_Word_getitem__ ct_Word_getitem__ : Value}
  {od_Word_getitem__ an_Word_getitem__ : Option Addr}
  {sl_Word_getitem__ : Array (Option Value)}
  l_Word_getitem__ : K.lookup f_Word_getitem__ = some ⟨oc_Word_getitem__, od_Word_getitem__, .func (PySem.W.fnOf "__getitem__" "Word.__getitem__" (defArgs s_Word_getitem__) (defBody s_Word_getitem__) (defScope s_Word_getitem__) .none kV_Word_getitem__ dc_Word_getitem__ pm_Word_getitem__ an_Word_getitem__ cd_Word_getitem__ ct_Word_getitem__), sl_Word_getitem__⟩
  c_Word_getitem__ : PySem.W.codeIn K cd_Word_getitem__ "Word.__getitem__" = true
  k_Word_getitem__ : PySem.W.keepIn K (.ref f_Word_getitem__) = true
  {oc_Word_eq__ kV_Word_eq__ dc_Word_eq__ pm_Word_eq__ cd_Word_eq__ ct_Word_eq__ : Value}
  {od_Word_eq__ an_Word_eq__ : Option Addr}
  {sl_Word_eq__ : Array (Option Value)}
  l_Word_eq__ : K.lookup f_Word_eq__ = some ⟨oc_Word_eq__, od_Word_eq__, .func (PySem.W.fnOf "__eq__" "Word.__eq__" (defArgs s_Word_eq__) (defBody s_Word_eq__) (defScope s_Word_eq__) .none kV_Word_eq__ dc_Word_eq__ pm_Word_eq__ an_Word_eq__ cd_Word_eq__ ct_Word_eq__), sl_Word_eq__⟩
  c_Word_eq__ : PySem.W.codeIn K cd_Word_eq__ "Word.__eq__" = true
  k_Word_eq__ : PySem.W.keepIn K (.ref f_Word_eq__) = true
  {oc_Word_str__ kV_Word_str__ dc_Word_str__ pm_Word_str__ cd_Word_str__ ct_Word_str__ : Value}
  {od_Word_str__ an_Word_str__ : Option Addr}
  {sl_Word_str__ : Array (Option Value)}
  l_Word_str__ : K.lookup f_Word_str__ = some ⟨oc_Word_str__, od_Word_str__, .func (PySem.W.fnOf "__str__" "Word.__str__" (defArgs s_Word_str__) (defBody s_Word_str__) (defScope s_Word_str__) .none kV_Word_str__ dc_Word_str__ pm_Word_str__ an_Word_str__ cd_Word_str__ ct_Word_str__), sl_Word_str__⟩
  c_Word_str__ : PySem.W.codeIn K cd_Word_str__ "Word.__str__" = true
  k_Word_str__ : PySem.W.keepIn K (.ref f_Word_str__) = true
  {f_law_pen : Addr}
  g_law_pen : mg "_law_pen" = some (.ref f_law_pen)
  {oc_law_pen kV_law_pen dc_law_pen pm_law_pen cd_law_pen ct_law_pen : Value}
  {od_law_pen an_law_pen : Option Addr}
  {sl_law_pen : Array (Option Value)}
  l_law_pen : K.lookup f_law_pen = some ⟨oc_law_pen, od_law_pen, .func (PySem.W.fnOf "_law_pen" "_law_pen" (defArgs s_law_pen) (defBody s_law_pen) (defScope s_law_pen) .none kV_law_pen dc_law_pen pm_law_pen an_law_pen cd_law_pen ct_law_pen), sl_law_pen⟩
  c_law_pen : PySem.W.codeIn K cd_law_pen "_law_pen" = true
  k_law_pen : PySem.W.keepIn K (.ref f_law_pen) = true
  {f_law_draw : Addr}
  g_law_draw : mg "_law_draw" = some (.ref f_law_draw)
  {oc_law_draw kV_law_draw dc_law_draw pm_law_draw cd_law_draw ct_law_draw : Value}
  {od_law_draw an_law_draw : Option Addr}
  {sl_law_draw : Array (Option Value)}
  l_law_draw : K.lookup f_law_draw = some ⟨oc_law_draw, od_law_draw, .func (PySem.W.fnOf "_law_draw" "_law_draw" (defArgs s_law_draw) (defBody s_law_draw) (defScope s_law_draw) .none kV_law_draw dc_law_draw pm_law_draw an_law_draw cd_law_draw ct_law_draw), sl_law_draw⟩
  c_law_draw : PySem.W.codeIn K cd_law_draw "_law_draw" = true
  k_law_draw : PySem.W.keepIn K (.ref f_law_draw) = true
  {f_law_pick : Addr}
  g_law_pick : mg "_law_pick" = some (.ref f_law_pick)
  {oc_law_pick kV_law_pick dc_law_pick pm_law_pick cd_law_pick ct_law_pick : Value}
  {od_law_pick an_law_pick : Option Addr}
  {sl_law_pick : Array (Option Value)}
  l_law_pick : K.lookup f_law_pick = some ⟨oc_law_pick, od_law_pick, .func (PySem.W.fnOf "_law_pick" "_law_pick" (defArgs s_law_pick) (defBody s_law_pick) (defScope s_law_pick) .none kV_law_pick dc_law_pick pm_law_pick an_law_pick cd_law_pick ct_law_pick), sl_law_pick⟩
  c_law_pick : PySem.W.codeIn K cd_law_pick "_law_pick" = true
  k_law_pick : PySem.W.keepIn K (.ref f_law_pick) = true
  {f_law_names : Addr}
  g_law_names : mg "_law_names" = some (.ref f_law_names)
  {oc_law_names kV_law_names dc_law_names pm_law_names cd_law_names ct_law_names : Value}
  {od_law_names an_law_names : Option Addr}
  {sl_law_names : Array (Option Value)}
  l_law_names : K.lookup f_law_names = some ⟨oc_law_names, od_law_names, .func (PySem.W.fnOf "_law_names" "_law_names" (defArgs s_law_names) (defBody s_law_names) (defScope s_law_names) .none kV_law_names dc_law_names pm_law_names an_law_names cd_law_names ct_law_names), sl_law_names⟩
  c_law_names : PySem.W.codeIn K cd_law_names "_law_names" = true
  k_law_names : PySem.W.keepIn K (.ref f_law_names) = true
  {f_law_is_name : Addr}
  g_law_is_name : mg "_law_is_name" = some (.ref f_law_is_name)
  {oc_law_is_name kV_law_is_name dc_law_is_name pm_law_is_name cd_law_is_name ct_law_is_name : Value}
  {od_law_is_name an_law_is_name : Option Addr}
  {sl_law_is_name : Array (Option Value)}
  l_law_is_name : K.lookup f_law_is_name = some ⟨oc_law_is_name, od_law_is_name, .func (PySem.W.fnOf "_law_is_name" "_law_is_name" (defArgs s_law_is_name) (defBody s_law_is_name) (defScope s_law_is_name) .none kV_law_is_name dc_law_is_name pm_law_is_name an_law_is_name cd_law_is_name ct_law_is_name), sl_law_is_name⟩
  c_law_is_name : PySem.W.codeIn K cd_law_is_name "_law_is_name" = true
  k_law_is_name : PySem.W.keepIn K (.ref f_law_is_name) = true
  {f_law_is_between : Addr}
  g_law_is_between : mg "_law_is_between" = some (.ref f_law_is_between)
  {oc_law_is_between kV_law_is_between dc_law_is_between pm_law_is_between cd_law_is_between ct_law_is_between : Value}
  {od_law_is_between an_law_is_between : Option Addr}
  {sl_law_is_between : Array (Option Value)}
  l_law_is_between : K.lookup f_law_is_between = some ⟨oc_law_is_between, od_law_is_between, .func (PySem.W.fnOf "_law_is_between" "_law_is_between" (defArgs s_law_is_between) (defBody s_law_is_between) (defScope s_law_is_between) .none kV_law_is_between dc_law_is_between pm_law_is_between an_law_is_between cd_law_is_between ct_law_is_between), sl_law_is_between⟩
  c_law_is_between : PySem.W.codeIn K cd_law_is_between "_law_is_between" = true
  k_law_is_between : PySem.W.keepIn K (.ref f_law_is_between) = true
  {f_law_fault : Addr}
  g_law_fault : mg "_law_fault" = some (.ref f_law_fault)
  {oc_law_fault kV_law_fault dc_law_fault pm_law_fault cd_law_fault ct_law_fault : Value}
  {od_law_fault an_law_fault : Option Addr}
  {sl_law_fault : Array (Option Value)}
  l_law_fault : K.lookup f_law_fault = some ⟨oc_law_fault, od_law_fault, .func (PySem.W.fnOf "_law_fault" "_law_fault" (defArgs s_law_fault) (defBody s_law_fault) (defScope s_law_fault) .none kV_law_fault dc_law_fault pm_law_fault an_law_fault cd_law_fault ct_law_fault), sl_law_fault⟩
  c_law_fault : PySem.W.codeIn K cd_law_fault "_law_fault" = true
  k_law_fault : PySem.W.keepIn K (.ref f_law_fault) = true
  {f_law_heard : Addr}
  g_law_heard : mg "_law_heard" = some (.ref f_law_heard)
  {oc_law_heard kV_law_heard dc_law_heard pm_law_heard cd_law_heard ct_law_heard : Value}
  {od_law_heard an_law_heard : Option Addr}
  {sl_law_heard : Array (Option Value)}
  l_law_heard : K.lookup f_law_heard = some ⟨oc_law_heard, od_law_heard, .func (PySem.W.fnOf "_law_heard" "_law_heard" (defArgs s_law_heard) (defBody s_law_heard) (defScope s_law_heard) .none kV_law_heard dc_law_heard pm_law_heard an_law_heard cd_law_heard ct_law_heard), sl_law_heard⟩
  c_law_heard : PySem.W.codeIn K cd_law_heard "_law_heard" = true
  k_law_heard : PySem.W.keepIn K (.ref f_law_heard) = true
  {f_law_odd : Addr}
  g_law_odd : mg "_law_odd" = some (.ref f_law_odd)
  {oc_law_odd kV_law_odd dc_law_odd pm_law_odd cd_law_odd ct_law_odd : Value}
  {od_law_odd an_law_odd : Option Addr}
  {sl_law_odd : Array (Option Value)}
  l_law_odd : K.lookup f_law_odd = some ⟨oc_law_odd, od_law_odd, .func (PySem.W.fnOf "_law_odd" "_law_odd" (defArgs s_law_odd) (defBody s_law_odd) (defScope s_law_odd) .none kV_law_odd dc_law_odd pm_law_odd an_law_odd cd_law_odd ct_law_odd), sl_law_odd⟩
  c_law_odd : PySem.W.codeIn K cd_law_odd "_law_odd" = true
  k_law_odd : PySem.W.keepIn K (.ref f_law_odd) = true
  {f_law_fields : Addr}
  g_law_fields : mg "_law_fields" = some (.ref f_law_fields)
  {oc_law_fields kV_law_fields dc_law_fields pm_law_fields cd_law_fields ct_law_fields : Value}
  {od_law_fields an_law_fields : Option Addr}
  {sl_law_fields : Array (Option Value)}
  l_law_fields : K.lookup f_law_fields = some ⟨oc_law_fields, od_law_fields, .func (PySem.W.fnOf "_law_fields" "_law_fields" (defArgs s_law_fields) (defBody s_law_fields) (defScope s_law_fields) .none kV_law_fields dc_law_fields pm_law_fields an_law_fields cd_law_fields ct_law_fields), sl_law_fields⟩
  c_law_fields : PySem.W.codeIn K cd_law_fields "_law_fields" = true
  k_law_fields : PySem.W.keepIn K (.ref f_law_fields) = true
  {f_law_text : Addr}
  g_law_text : mg "_law_text" = some (.ref f_law_text)
  {oc_law_text kV_law_text dc_law_text pm_law_text cd_law_text ct_law_text : Value}
  {od_law_text an_law_text : Option Addr}
  {sl_law_text : Array (Option Value)}
  l_law_text : K.lookup f_law_text = some ⟨oc_law_text, od_law_text, .func (PySem.W.fnOf "_law_text" "_law_text" (defArgs s_law_text) (defBody s_law_text) (defScope s_law_text) .none kV_law_text dc_law_text pm_law_text an_law_text cd_law_text ct_law_text), sl_law_text⟩
  c_law_text : PySem.W.codeIn K cd_law_text "_law_text" = true
  k_law_text : PySem.W.keepIn K (.ref f_law_text) = true
  g_law_right : mg "_law_right" = some (.ref f_law_right)
  {oc_law_right kV_law_right dc_law_right pm_law_right cd_law_right ct_law_right : Value}
  {od_law_right an_law_right : Option Addr}
  {sl_law_right : Array (Option Value)}
  l_law_right : K.lookup f_law_right = some ⟨oc_law_right, od_law_right, .func (PySem.W.fnOf "_law_right" "_law_right" (defArgs s_law_right) (defBody s_law_right) (defScope s_law_right) .none kV_law_right dc_law_right pm_law_right an_law_right cd_law_right ct_law_right), sl_law_right⟩
  c_law_right : PySem.W.codeIn K cd_law_right "_law_right" = true
  k_law_right : PySem.W.keepIn K (.ref f_law_right) = true
  g_law_refused_right : mg "_law_refused_right" = some (.ref f_law_refused_right)
  {oc_law_refused_right kV_law_refused_right dc_law_refused_right pm_law_refused_right cd_law_refused_right ct_law_refused_right : Value}
  {od_law_refused_right an_law_refused_right : Option Addr}
  {sl_law_refused_right : Array (Option Value)}
  l_law_refused_right : K.lookup f_law_refused_right = some ⟨oc_law_refused_right, od_law_refused_right, .func (PySem.W.fnOf "_law_refused_right" "_law_refused_right" (defArgs s_law_refused_right) (defBody s_law_refused_right) (defScope s_law_refused_right) .none kV_law_refused_right dc_law_refused_right pm_law_refused_right an_law_refused_right cd_law_refused_right ct_law_refused_right), sl_law_refused_right⟩
  c_law_refused_right : PySem.W.codeIn K cd_law_refused_right "_law_refused_right" = true
  k_law_refused_right : PySem.W.keepIn K (.ref f_law_refused_right) = true
  g_law_named_right : mg "_law_named_right" = some (.ref f_law_named_right)
  {oc_law_named_right kV_law_named_right dc_law_named_right pm_law_named_right cd_law_named_right ct_law_named_right : Value}
  {od_law_named_right an_law_named_right : Option Addr}
  {sl_law_named_right : Array (Option Value)}
  l_law_named_right : K.lookup f_law_named_right = some ⟨oc_law_named_right, od_law_named_right, .func (PySem.W.fnOf "_law_named_right" "_law_named_right" (defArgs s_law_named_right) (defBody s_law_named_right) (defScope s_law_named_right) .none kV_law_named_right dc_law_named_right pm_law_named_right an_law_named_right cd_law_named_right ct_law_named_right), sl_law_named_right⟩
  c_law_named_right : PySem.W.codeIn K cd_law_named_right "_law_named_right" = true
  k_law_named_right : PySem.W.keepIn K (.ref f_law_named_right) = true
  g_law : mg "law" = some (.ref f_law)
  {oc_law kV_law dc_law pm_law cd_law ct_law : Value}
  {od_law an_law : Option Addr}
  {sl_law : Array (Option Value)}
  l_law : K.lookup f_law = some ⟨oc_law, od_law, .func (PySem.W.fnOf "law" "law" (defArgs s_law) (defBody s_law) (defScope s_law) .none kV_law dc_law pm_law an_law cd_law ct_law), sl_law⟩
  c_law : PySem.W.codeIn K cd_law "law" = true
  k_law : PySem.W.keepIn K (.ref f_law) = true
  {t_DIGITS : Tok}
  g_DIGITS : mg "DIGITS" = some (.str "0123456789" t_DIGITS)
  {t_LETTERS : Tok}
  g_LETTERS : mg "LETTERS" = some (.str "abcdefghijklmnopqrstuvwxyz" t_LETTERS)
  {t_LONGEST : Tok}
  g_LONGEST : mg "LONGEST" = some (.int 8 t_LONGEST)
  {t_MOST_BASE : Tok}
  g_MOST_BASE : mg "MOST_BASE" = some (.int 255 t_MOST_BASE)
  {a_RESERVED : Addr}
  {t_RESERVED_0 t_RESERVED_1 t_RESERVED_2 t_RESERVED_3 t_RESERVED_4 : Tok}
  {od_RESERVED : Option Addr}
  {n_RESERVED : Nat}
  {sl_RESERVED : Array (Option Value)}
  g_RESERVED : mg "RESERVED" = some (.ref a_RESERVED)
  k_RESERVED : K.lookup a_RESERVED = some ⟨.type "tuple", od_RESERVED, .seq #[(.str "to" t_RESERVED_0), (.str "if" t_RESERVED_1), (.str "tag" t_RESERVED_2), (.str "all" t_RESERVED_3), (.str "none" t_RESERVED_4)] n_RESERVED, sl_RESERVED⟩
  z_ValueError : mg "ValueError" = none
  z_abs : mg "abs" = none
  z_all : mg "all" = none
  z_bool : mg "bool" = none
  z_dict : mg "dict" = none
  z_int : mg "int" = none
  z_isinstance : mg "isinstance" = none
  z_len : mg "len" = none
  z_list : mg "list" = none
  z_range : mg "range" = none
  z_repr : mg "repr" = none
  z_sorted : mg "sorted" = none
  z_str : mg "str" = none
  z_tuple : mg "tuple" = none
section
variable {P : Program} {w : World} {K : PySem.W.Frag} {mg : Str → Option Value} {base : Heap}
theorem Tx.F_InvalidName_init__ (T : Tx K mg base) : Fun K "__init__" "InvalidName.__init__" s_InvalidName_init__ T.f_InvalidName_init__ (PySem.W.fnOf "__init__" "InvalidName.__init__" (defArgs s_InvalidName_init__) (defBody s_InvalidName_init__) (defScope s_InvalidName_init__) .none T.kV_InvalidName_init__ T.dc_InvalidName_init__ T.pm_InvalidName_init__ T.an_InvalidName_init__ T.cd_InvalidName_init__ T.ct_InvalidName_init__) := fun_mk T.l_InvalidName_init__ T.c_InvalidName_init__ T.k_InvalidName_init__
theorem Tx.b_InvalidName_init__ (T : Tx K mg base) : Binds K (PySem.W.fnOf "__init__" "InvalidName.__init__" (defArgs s_InvalidName_init__) (defBody s_InvalidName_init__) (defScope s_InvalidName_init__) .none T.kV_InvalidName_init__ T.dc_InvalidName_init__ T.pm_InvalidName_init__ T.an_InvalidName_init__ T.cd_InvalidName_init__ T.ct_InvalidName_init__) p_InvalidName_init__ [] := T.F_InvalidName_init__.binds fun _ _ _ _ _ _ us hl => match us, hl with | [_, _], _ => rfl
theorem ok_InvalidName_init__ (T : Tx K mg base) : FnOk P w K mg base CX0 1 T.f_InvalidName_init__ (PySem.W.fnOf "__init__" "InvalidName.__init__" (defArgs s_InvalidName_init__) (defBody s_InvalidName_init__) (defScope s_InvalidName_init__) .none T.kV_InvalidName_init__ T.dc_InvalidName_init__ T.pm_InvalidName_init__ T.an_InvalidName_init__ T.cd_InvalidName_init__ T.ct_InvalidName_init__) p_InvalidName_init__ (spI T.C_InvalidName ["value"]) :=
  init_1 T.F_InvalidName_init__ sc_InvalidName_init__ rfl T.ox_InvalidName T.xi_InvalidName_value rfl rfl
theorem Tx.F_InvalidNumber_init__ (T : Tx K mg base) : Fun K "__init__" "InvalidNumber.__init__" s_InvalidNumber_init__ T.f_InvalidNumber_init__ (PySem.W.fnOf "__init__" "InvalidNumber.__init__" (defArgs s_InvalidNumber_init__) (defBody s_InvalidNumber_init__) (defScope s_InvalidNumber_init__) .none T.kV_InvalidNumber_init__ T.dc_InvalidNumber_init__ T.pm_InvalidNumber_init__ T.an_InvalidNumber_init__ T.cd_InvalidNumber_init__ T.ct_InvalidNumber_init__) := fun_mk T.l_InvalidNumber_init__ T.c_InvalidNumber_init__ T.k_InvalidNumber_init__
theorem Tx.b_InvalidNumber_init__ (T : Tx K mg base) : Binds K (PySem.W.fnOf "__init__" "InvalidNumber.__init__" (defArgs s_InvalidNumber_init__) (defBody s_InvalidNumber_init__) (defScope s_InvalidNumber_init__) .none T.kV_InvalidNumber_init__ T.dc_InvalidNumber_init__ T.pm_InvalidNumber_init__ T.an_InvalidNumber_init__ T.cd_InvalidNumber_init__ T.ct_InvalidNumber_init__) p_InvalidNumber_init__ [] := T.F_InvalidNumber_init__.binds fun _ _ _ _ _ _ us hl => match us, hl with | [_, _], _ => rfl
theorem ok_InvalidNumber_init__ (T : Tx K mg base) : FnOk P w K mg base CX0 1 T.f_InvalidNumber_init__ (PySem.W.fnOf "__init__" "InvalidNumber.__init__" (defArgs s_InvalidNumber_init__) (defBody s_InvalidNumber_init__) (defScope s_InvalidNumber_init__) .none T.kV_InvalidNumber_init__ T.dc_InvalidNumber_init__ T.pm_InvalidNumber_init__ T.an_InvalidNumber_init__ T.cd_InvalidNumber_init__ T.ct_InvalidNumber_init__) p_InvalidNumber_init__ (spI T.C_InvalidNumber ["value"]) :=
  init_1 T.F_InvalidNumber_init__ sc_InvalidNumber_init__ rfl T.ox_InvalidNumber T.xi_InvalidNumber_value rfl rfl
theorem Tx.F_InvalidWord_init__ (T : Tx K mg base) : Fun K "__init__" "InvalidWord.__init__" s_InvalidWord_init__ T.f_InvalidWord_init__ (PySem.W.fnOf "__init__" "InvalidWord.__init__" (defArgs s_InvalidWord_init__) (defBody s_InvalidWord_init__) (defScope s_InvalidWord_init__) .none T.kV_InvalidWord_init__ T.dc_InvalidWord_init__ T.pm_InvalidWord_init__ T.an_InvalidWord_init__ T.cd_InvalidWord_init__ T.ct_InvalidWord_init__) := fun_mk T.l_InvalidWord_init__ T.c_InvalidWord_init__ T.k_InvalidWord_init__
theorem Tx.b_InvalidWord_init__ (T : Tx K mg base) : Binds K (PySem.W.fnOf "__init__" "InvalidWord.__init__" (defArgs s_InvalidWord_init__) (defBody s_InvalidWord_init__) (defScope s_InvalidWord_init__) .none T.kV_InvalidWord_init__ T.dc_InvalidWord_init__ T.pm_InvalidWord_init__ T.an_InvalidWord_init__ T.cd_InvalidWord_init__ T.ct_InvalidWord_init__) p_InvalidWord_init__ [] := T.F_InvalidWord_init__.binds fun _ _ _ _ _ _ us hl => match us, hl with | [_, _], _ => rfl
theorem ok_InvalidWord_init__ (T : Tx K mg base) : FnOk P w K mg base CX0 1 T.f_InvalidWord_init__ (PySem.W.fnOf "__init__" "InvalidWord.__init__" (defArgs s_InvalidWord_init__) (defBody s_InvalidWord_init__) (defScope s_InvalidWord_init__) .none T.kV_InvalidWord_init__ T.dc_InvalidWord_init__ T.pm_InvalidWord_init__ T.an_InvalidWord_init__ T.cd_InvalidWord_init__ T.ct_InvalidWord_init__) p_InvalidWord_init__ (spI T.C_InvalidWord ["part"]) :=
  init_1 T.F_InvalidWord_init__ sc_InvalidWord_init__ rfl T.ox_InvalidWord T.xi_InvalidWord_part rfl rfl
theorem Tx.F_is_integer (T : Tx K mg base) : Fun K "is_integer" "is_integer" s_is_integer T.f_is_integer (PySem.W.fnOf "is_integer" "is_integer" (defArgs s_is_integer) (defBody s_is_integer) (defScope s_is_integer) .none T.kV_is_integer T.dc_is_integer T.pm_is_integer T.an_is_integer T.cd_is_integer T.ct_is_integer) := fun_mk T.l_is_integer T.c_is_integer T.k_is_integer
theorem Tx.b_is_integer (T : Tx K mg base) : Binds K (PySem.W.fnOf "is_integer" "is_integer" (defArgs s_is_integer) (defBody s_is_integer) (defScope s_is_integer) .none T.kV_is_integer T.dc_is_integer T.pm_is_integer T.an_is_integer T.cd_is_integer T.ct_is_integer) p_is_integer [] := T.F_is_integer.binds fun _ _ _ _ _ _ us hl => match us, hl with | [_], _ => rfl
theorem ok_is_integer (T : Tx K mg base) : FnOk P w K mg base CX0 2 T.f_is_integer (PySem.W.fnOf "is_integer" "is_integer" (defArgs s_is_integer) (defBody s_is_integer) (defScope s_is_integer) .none T.kV_is_integer T.dc_is_integer T.pm_is_integer T.an_is_integer T.cd_is_integer T.ct_is_integer) p_is_integer (toSp K sp_is_integer) :=
  dfn2 T.F_is_integer sc_is_integer len_is_integer fun B cdv A outer s H E hr => ⟨w_is_integer,
    (ds_one (d_ret (d_andV (d_callB call_isi cIsi_ok (by rfl) T.z_isinstance (by decide +kernel) (da_cons (d_var (i := 0)) (da_cons (d_ty T.z_int (by decide +kernel)) da_nil))) (d_one (d_notV (d_callB call_isi cIsi_ok (by rfl) T.z_isinstance (by decide +kernel) (da_cons (d_var (i := 0)) (da_cons (d_ty T.z_bool (by decide +kernel)) da_nil)))))))),
    wp_is_integer⟩
theorem Tx.F_is_between (T : Tx K mg base) : Fun K "is_between" "is_between" s_is_between T.f_is_between (PySem.W.fnOf "is_between" "is_between" (defArgs s_is_between) (defBody s_is_between) (defScope s_is_between) .none T.kV_is_between T.dc_is_between T.pm_is_between T.an_is_between T.cd_is_between T.ct_is_between) := fun_mk T.l_is_between T.c_is_between T.k_is_between
theorem Tx.b_is_between (T : Tx K mg base) : Binds K (PySem.W.fnOf "is_between" "is_between" (defArgs s_is_between) (defBody s_is_between) (defScope s_is_between) .none T.kV_is_between T.dc_is_between T.pm_is_between T.an_is_between T.cd_is_between T.ct_is_between) p_is_between [] := T.F_is_between.binds fun _ _ _ _ _ _ us hl => match us, hl with | [_, _, _], _ => rfl
theorem ok_is_between (T : Tx K mg base) : FnOk P w K mg base CX0 4 T.f_is_between (PySem.W.fnOf "is_between" "is_between" (defArgs s_is_between) (defBody s_is_between) (defScope s_is_between) .none T.kV_is_between T.dc_is_between T.pm_is_between T.an_is_between T.cd_is_between T.ct_is_between) p_is_between (toSp K sp_is_between) :=
  dfn2 T.F_is_between sc_is_between len_is_between fun B cdv A outer s H E hr => ⟨w_is_between,
    (ds_one (d_ret (d_andV (d_call (ok_is_integer T) (hr.mono (by decide)) (by rfl) T.g_is_integer T.F_is_integer.kp T.b_is_integer .nil (fun _ _ => .nil) (da_cons (d_var (i := 0)) da_nil)) (d_one (d_chain op_le oLe_ok op_le oLe_ok (d_var (i := 1)) (d_var (i := 0)) (d_var (i := 2))))))),
    wp_is_between⟩
theorem Tx.F_is_name (T : Tx K mg base) : Fun K "is_name" "is_name" s_is_name T.f_is_name (PySem.W.fnOf "is_name" "is_name" (defArgs s_is_name) (defBody s_is_name) (defScope s_is_name) .none T.kV_is_name T.dc_is_name T.pm_is_name T.an_is_name T.cd_is_name T.ct_is_name) := fun_mk T.l_is_name T.c_is_name T.k_is_name
theorem Tx.b_is_name (T : Tx K mg base) : Binds K (PySem.W.fnOf "is_name" "is_name" (defArgs s_is_name) (defBody s_is_name) (defScope s_is_name) .none T.kV_is_name T.dc_is_name T.pm_is_name T.an_is_name T.cd_is_name T.ct_is_name) p_is_name [] := T.F_is_name.binds fun _ _ _ _ _ _ us hl => match us, hl with | [_], _ => rfl
theorem ok_is_name (T : Tx K mg base) : FnOk P w K mg base CX0 2 T.f_is_name (PySem.W.fnOf "is_name" "is_name" (defArgs s_is_name) (defBody s_is_name) (defScope s_is_name) .none T.kV_is_name T.dc_is_name T.pm_is_name T.an_is_name T.cd_is_name T.ct_is_name) p_is_name (toSp K sp_is_name) :=
  dfn2 T.F_is_name sc_is_name len_is_name fun B cdv A outer s H E hr => ⟨w_is_name,
    (ds_cons (d_if (L2.PW.pt (d_or (d_not (d_truth (d_callB call_isi cIsi_ok (by rfl) T.z_isinstance (by decide +kernel) (da_cons (d_var (i := 0)) (da_cons (d_ty T.z_str (by decide +kernel)) da_nil))))) (d_or (d_not (d_chainT op_le oLe_ok op_le oLe_ok d_int (d_callB callLen cLen_ok (by rfl) T.z_len (by decide +kernel) (da_cons (d_var (i := 0)) da_nil)) (d_gint T.g_LONGEST))) (d_or1 (d_cmpT opIn oIn_ok (d_var (i := 0)) (d_gtup T.g_RESERVED T.k_RESERVED rfl rfl (Nat.le_of_ble_eq_true rfl) rfl) (by rfl)))))) (ds_one (d_ret d_bl)) ds_nil)
    (ds_one (d_ret (d_andV (d_cmp opIn oIn_ok (d_ix (d_var (i := 0)) d_int) (d_gstr T.g_LETTERS) (by rfl)) (d_one (d_callB (cr_all rfl) cAll_ok (by rfl) T.z_all (by decide +kernel) (da_cons (d_lc (own := [("sign", 1)]) rfl sc_is_name.nd (di_any (d_var (i := 0))) (blkOk_by (by show blkC N_is_name (defScope s_is_name) _ _ = true; decide +kernel)) (fun _ _ _ _ _ => pg_name (i := 1) sc_is_name.nd rfl (Or.inl rfl)) (binds_one (by decide)) (fun _ _ _ _ _ => dts_nil) (fun _ _ _ _ _ => (d_orV (d_cmp opIn oIn_ok (d_var (i := 1)) (d_gstr T.g_LETTERS) (by rfl)) (d_one (d_cmp opIn oIn_ok (d_var (i := 1)) (d_gstr T.g_DIGITS) (by rfl)))))) da_nil))))))),
    wp_is_name⟩
theorem Tx.b0_need_told (T : Tx K mg base) : Binds K (PySem.W.fnOf "need_told" "need_told" (defArgs s_need_told) (defBody s_need_told) (defScope s_need_told) (.ref T.df_need_told) T.kV_need_told T.dc_need_told T.pm_need_told T.an_need_told T.cd_need_told T.ct_need_told) p_need_told [] := binds_dflt (m := 3) rfl T.df__need_told rfl rfl fun us hl => match us, hl with | [_, _, _], _ => ⟨_, rfl, rfl⟩
theorem Tx.b1_need_told (T : Tx K mg base) : Binds K (PySem.W.fnOf "need_told" "need_told" (defArgs s_need_told) (defBody s_need_told) (defScope s_need_told) (.ref T.df_need_told) T.kV_need_told T.dc_need_told T.pm_need_told T.an_need_told T.cd_need_told T.ct_need_told) p_need_told [.ref T.de_need_told] := binds_dflt (m := 2) rfl T.df__need_told rfl rfl fun us hl => match us, hl with | [_, _], _ => ⟨_, rfl, rfl⟩
theorem Tx.dd_need_told (T : Tx K mg base) (P : Hp) (al : List Addr) : Reps K P al [.tup []] [.ref T.de_need_told] := .cons (.tup (.inr ⟨_, _, _, T.de__need_told, rfl, rfl, Nat.zero_le _, .nil⟩) .nil) .nil
theorem ok_need_told (T : Tx K mg base) : FnOk P w K mg base (L2.CX P w) 6 T.f_need_told (PySem.W.fnOf "need_told" "need_told" (defArgs s_need_told) (defBody s_need_told) (defScope s_need_told) (.ref T.df_need_told) T.kV_need_told T.dc_need_told T.pm_need_told T.an_need_told T.cd_need_told T.ct_need_told) p_need_told (toSp K sp_need_told) :=
  dfnRX (k := 5) T.l_need_told T.c_need_told sc_need_told len_need_told (fun A outer s H E hr B RX tk =>
    (ds_cons (d_if (L2.PW.pt (d_or (d_not (d_truth (d_call (ok_is_name T) (hr.mono (by decide)) (by rfl) T.g_is_name T.F_is_name.kp T.b_is_name .nil (fun _ _ => .nil) (da_cons (d_var (i := 0)) da_nil)))) (d_or1 (d_cmpT (opIn.or (opInDK (hu_of hr))) oInU_ok (d_var (i := 0)) (d_var (i := 2)) (by rfl))))) (ds_one (d_raise rfl tk T.at_InvalidName T.ox_InvalidName T.ii_InvalidName T.ti_InvalidName (ok_InvalidName_init__ T) (by decide) (hr.mono (by decide)) T.b_InvalidName_init__ (by rfl) T.m_InvalidName (da_cons (d_var (i := 0)) da_nil))) ds_nil)
    (ds_one (d_if (d_not (d_truth (d_call (ok_is_between T) (hr.mono (by decide)) (by rfl) T.g_is_between T.F_is_between.kp T.b_is_between .nil (fun _ _ => .nil) (da_cons (d_var (i := 1)) (da_cons d_int (da_cons (d_cvalI T.at_Signals T.cr_Signals T.cv_Signals_MOST (d_gcls (by rfl) T.m_Signals T.at_Signals)) da_nil)))))) (ds_one (d_raise rfl tk T.at_InvalidNumber T.ox_InvalidNumber T.ii_InvalidNumber T.ti_InvalidNumber (ok_InvalidNumber_init__ T) (by decide) (hr.mono (by decide)) T.b_InvalidNumber_init__ (by rfl) T.m_InvalidNumber (da_cons (d_var (i := 1)) da_nil))) ds_nil)))) wp_need_told
theorem Tx.F_Signals_init__ (T : Tx K mg base) : Fun K "__init__" "Signals.__init__" s_Signals_init__ T.f_Signals_init__ (PySem.W.fnOf "__init__" "Signals.__init__" (defArgs s_Signals_init__) (defBody s_Signals_init__) (defScope s_Signals_init__) .none T.kV_Signals_init__ T.dc_Signals_init__ T.pm_Signals_init__ T.an_Signals_init__ T.cd_Signals_init__ T.ct_Signals_init__) := fun_mk T.l_Signals_init__ T.c_Signals_init__ T.k_Signals_init__
theorem ok_Signals_init__ (T : Tx K mg base) : FnW P w K mg base (L2.CX P w) 8 T.f_Signals_init__ (spKw K "this_object" sp_Signals_init__) :=
  dfnK T.F_Signals_init__ sc_Signals_init__ rfl rfl rfl rfl rfl (fun cdv A outer s H E hr B RX tk =>
    (ds_cons (d_for (L2.passes_of rfl) rfl (di_any (d_callB cr_sortedS cSortS_ok (by rfl) T.z_sorted (by decide +kernel) (da_cons (d_callTy (callListA rfl) cListA_ok (by rfl) T.z_list (by decide +kernel) (da_cons (d_var (i := 1)) da_nil)) da_nil))) (dg_name (i := 2) sc_Signals_init__.nd) (ds_one (d_exp (d_callX (ok_need_told T) (hr.mono (by decide)) tk (by rfl) T.g_need_told T.k_need_told T.b1_need_told (.cons (show L2.RelV (.ref T.de_need_told) (.ref T.de_need_told) from rfl) .nil) (T.dd_need_told) (da_cons (d_var (i := 2)) (da_cons (d_dget (hu_of hr) (d_var (i := 1)) (d_var (i := 2))) da_nil))))))
    (ds_one (d_setF T.at_Signals T.cl_Signals T.na_Signals_told (d_var (i := 0)) (d_callTy call_tupP cTupP_ok (by rfl) T.z_tuple (by decide +kernel) (da_cons (d_lc (own := [("field", 2)]) rfl sc_Signals_init__.nd (di_any (d_callB cr_sortedS cSortS_ok (by rfl) T.z_sorted (by decide +kernel) (da_cons (d_callTy (callListA rfl) cListA_ok (by rfl) T.z_list (by decide +kernel) (da_cons (d_var (i := 1)) da_nil)) da_nil))) (blkOk_by (by show blkC N_Signals_init__ (defScope s_Signals_init__) _ _ = true; decide +kernel)) (fun _ _ _ _ _ => pg_name (i := 2) sc_Signals_init__.nd rfl (Or.inl rfl)) (binds_one (by decide)) (fun _ _ _ _ _ => (dts_one (d_cmpT (opNe hr.units) oNeI_ok (d_dget (hu_of hr) (d_var (i := 1)) (d_var (i := 2))) d_int (nomark _)))) (fun _ _ _ _ _ => (d_tup (da_cons (d_var (i := 2)) (da_cons (d_dget (hu_of hr) (d_var (i := 1)) (d_var (i := 2))) da_nil))))) da_nil)))))) wp_Signals_init__
theorem Tx.F_Signals_of (T : Tx K mg base) : Fun K "of" "Signals.of" s_Signals_of T.f_Signals_of (PySem.W.fnOf "of" "Signals.of" (defArgs s_Signals_of) (defBody s_Signals_of) (defScope s_Signals_of) .none T.kV_Signals_of T.dc_Signals_of T.pm_Signals_of T.an_Signals_of T.cd_Signals_of T.ct_Signals_of) := fun_mk T.l_Signals_of T.c_Signals_of T.k_Signals_of
theorem Tx.b_Signals_of (T : Tx K mg base) : Binds K (PySem.W.fnOf "of" "Signals.of" (defArgs s_Signals_of) (defBody s_Signals_of) (defScope s_Signals_of) .none T.kV_Signals_of T.dc_Signals_of T.pm_Signals_of T.an_Signals_of T.cd_Signals_of T.ct_Signals_of) p_Signals_of [] := T.F_Signals_of.binds fun _ _ _ _ _ _ us hl => match us, hl with | [_, _], _ => rfl
theorem ok_Signals_of (T : Tx K mg base) : FnR P w K mg base (L2.CX P w) 10 T.f_Signals_of (toSp K sp_Signals_of) := fnR0 (FnOk.mono (j := 10) (dfnX T.F_Signals_of sc_Signals_of len_Signals_of fun B cdv A outer s H E hr => ⟨w_Signals_of, fun RX tk =>
    (ds_cons (d_set (i := 2) sc_Signals_of.nd (d_dict0 true))
    (ds_cons (d_for (L2.passes_of rfl) rfl (di_any (d_var (i := 1))) (dg_tup rfl (dgs_cons (dg_name (i := 3) sc_Signals_of.nd) (dgs_cons (dg_name (i := 4) sc_Signals_of.nd) dgs_nil))) (ds_cons (d_exp (d_callX (ok_need_told T) (hr.mono (by decide)) tk (by rfl) T.g_need_told T.k_need_told T.b0_need_told (.nil) (fun _ _ => .nil) (da_cons (d_var (i := 3)) (da_cons (d_var (i := 4)) (da_cons (d_var (i := 2)) da_nil)))))
    (ds_one (d_dput (hu_of hr) (d_var (i := 2)) (d_var (i := 3)) (d_var (i := 4))))))
    (ds_one (d_ret (d_mkSL T.at_Signals T.mk_Signals (ok_Signals_init__ T) (hr.mono (by decide)) (rzX tk) (i := 2) (j := 0) rfl (Or.inl rfl) rfl (Or.inl rfl)))))),
    wp_Signals_of⟩) (by decide)) T.b_Signals_of
theorem Tx.F_Signals_getitem__ (T : Tx K mg base) : Fun K "__getitem__" "Signals.__getitem__" s_Signals_getitem__ T.f_Signals_getitem__ (PySem.W.fnOf "__getitem__" "Signals.__getitem__" (defArgs s_Signals_getitem__) (defBody s_Signals_getitem__) (defScope s_Signals_getitem__) .none T.kV_Signals_getitem__ T.dc_Signals_getitem__ T.pm_Signals_getitem__ T.an_Signals_getitem__ T.cd_Signals_getitem__ T.ct_Signals_getitem__) := fun_mk T.l_Signals_getitem__ T.c_Signals_getitem__ T.k_Signals_getitem__
theorem Tx.b_Signals_getitem__ (T : Tx K mg base) : Binds K (PySem.W.fnOf "__getitem__" "Signals.__getitem__" (defArgs s_Signals_getitem__) (defBody s_Signals_getitem__) (defScope s_Signals_getitem__) .none T.kV_Signals_getitem__ T.dc_Signals_getitem__ T.pm_Signals_getitem__ T.an_Signals_getitem__ T.cd_Signals_getitem__ T.ct_Signals_getitem__) p_Signals_getitem__ [] := T.F_Signals_getitem__.binds fun _ _ _ _ _ _ us hl => match us, hl with | [_, _], _ => rfl
theorem ok_Signals_getitem__ (T : Tx K mg base) : FnR P w K mg base (L2.CX P w) 4 T.f_Signals_getitem__ (toSp K sp_Signals_getitem__) := fnR0 (FnOk.mono (j := 4) (dfnX T.F_Signals_getitem__ sc_Signals_getitem__ len_Signals_getitem__ fun B cdv A outer s H E hr => ⟨w_Signals_getitem__, fun RX tk =>
    (ds_cons (d_if (d_not (d_truth (d_call (ok_is_name T) (hr.mono (by decide)) (by rfl) T.g_is_name T.F_is_name.kp T.b_is_name .nil (fun _ _ => .nil) (da_cons (d_var (i := 1)) da_nil)))) (ds_one (d_raise rfl tk T.at_InvalidName T.ox_InvalidName T.ii_InvalidName T.ti_InvalidName (ok_InvalidName_init__ T) (by decide) (hr.mono (by decide)) T.b_InvalidName_init__ (by rfl) T.m_InvalidName (da_cons (d_var (i := 1)) da_nil))) ds_nil)
    (ds_one (d_ret (d_get2 (hu_of hr) (d_callTy (call_dictT rfl) cDictT_ok (by rfl) T.z_dict (by decide +kernel) (da_cons (d_fld T.at_Signals T.cl_Signals T.na_Signals_told (d_var (i := 0))) da_nil)) (d_var (i := 1)) d_int)))),
    wp_Signals_getitem__⟩) (by decide)) T.b_Signals_getitem__
theorem Tx.F_Signals_eq__ (T : Tx K mg base) : Fun K "__eq__" "Signals.__eq__" s_Signals_eq__ T.f_Signals_eq__ (PySem.W.fnOf "__eq__" "Signals.__eq__" (defArgs s_Signals_eq__) (defBody s_Signals_eq__) (defScope s_Signals_eq__) .none T.kV_Signals_eq__ T.dc_Signals_eq__ T.pm_Signals_eq__ T.an_Signals_eq__ T.cd_Signals_eq__ T.ct_Signals_eq__) := fun_mk T.l_Signals_eq__ T.c_Signals_eq__ T.k_Signals_eq__
theorem Tx.b_Signals_eq__ (T : Tx K mg base) : Binds K (PySem.W.fnOf "__eq__" "Signals.__eq__" (defArgs s_Signals_eq__) (defBody s_Signals_eq__) (defScope s_Signals_eq__) .none T.kV_Signals_eq__ T.dc_Signals_eq__ T.pm_Signals_eq__ T.an_Signals_eq__ T.cd_Signals_eq__ T.ct_Signals_eq__) p_Signals_eq__ [] := T.F_Signals_eq__.binds fun _ _ _ _ _ _ us hl => match us, hl with | [_, _], _ => rfl
theorem ok_Signals_eq__ (T : Tx K mg base) : FnR P w K mg base CX0 2 T.f_Signals_eq__ (toSp K sp_Signals_eq__) := fnR0 (FnOk.mono (j := 2) (dfn2 T.F_Signals_eq__ sc_Signals_eq__ len_Signals_eq__ fun B cdv A outer s H E hr => ⟨w_Signals_eq__,
    (ds_one (d_ret (d_andV (d_callB L2.call_isi (cIsO_ok T.at_Signals T.isc_Signals (TabI.cons T.at_Signals T.inf_Signals T.kitC_Signals_Signals TabI.nil)) (by rfl) T.z_isinstance (by decide +kernel) (da_cons (d_var (i := 1)) (da_cons (d_gcls (by rfl) T.m_Signals T.at_Signals) da_nil))) (d_one (d_cmp (opEq hr.units) oEqI_ok (d_fgt (d_fld T.at_Signals T.cl_Signals T.na_Signals_told (d_var (i := 0)))) (d_fgt (d_fld T.at_Signals T.cl_Signals T.na_Signals_told (d_var (i := 1)))) (nomark _)))))),
    wp_Signals_eq__⟩) (by decide)) T.b_Signals_eq__
theorem Tx.F_Word_init__ (T : Tx K mg base) : Fun K "__init__" "Word.__init__" s_Word_init__ T.f_Word_init__ (PySem.W.fnOf "__init__" "Word.__init__" (defArgs s_Word_init__) (defBody s_Word_init__) (defScope s_Word_init__) .none T.kV_Word_init__ T.dc_Word_init__ T.pm_Word_init__ T.an_Word_init__ T.cd_Word_init__ T.ct_Word_init__) := fun_mk T.l_Word_init__ T.c_Word_init__ T.k_Word_init__
theorem Tx.b_Word_init__ (T : Tx K mg base) : Binds K (PySem.W.fnOf "__init__" "Word.__init__" (defArgs s_Word_init__) (defBody s_Word_init__) (defScope s_Word_init__) .none T.kV_Word_init__ T.dc_Word_init__ T.pm_Word_init__ T.an_Word_init__ T.cd_Word_init__ T.ct_Word_init__) p_Word_init__ [] := T.F_Word_init__.binds fun _ _ _ _ _ _ us hl => match us, hl with | [_, _, _, _], _ => rfl
theorem ok_Word_init__ (T : Tx K mg base) : FnR P w K mg base (L2.CX P w) 6 T.f_Word_init__ (toSp K sp_Word_init__) := fnR0 (FnOk.mono (j := 6) (dfnX T.F_Word_init__ sc_Word_init__ len_Word_init__ fun B cdv A outer s H E hr => ⟨w_Word_init__, fun RX tk =>
    (ds_cons (d_if (d_not (d_truth (d_call (ok_is_name T) (hr.mono (by decide)) (by rfl) T.g_is_name T.F_is_name.kp T.b_is_name .nil (fun _ _ => .nil) (da_cons (d_var (i := 1)) da_nil)))) (ds_one (d_raise rfl tk T.at_InvalidWord T.ox_InvalidWord T.ii_InvalidWord T.ti_InvalidWord (ok_InvalidWord_init__ T) (by decide) (hr.mono (by decide)) T.b_InvalidWord_init__ (by rfl) T.m_InvalidWord (da_cons d_str da_nil))) ds_nil)
    (ds_cons (d_if (d_not (d_truth (d_call (ok_is_between T) (hr.mono (by decide)) (by rfl) T.g_is_between T.F_is_between.kp T.b_is_between .nil (fun _ _ => .nil) (da_cons (d_var (i := 2)) (da_cons d_int (da_cons (d_gint T.g_MOST_BASE) da_nil)))))) (ds_one (d_raise rfl tk T.at_InvalidWord T.ox_InvalidWord T.ii_InvalidWord T.ti_InvalidWord (ok_InvalidWord_init__ T) (by decide) (hr.mono (by decide)) T.b_InvalidWord_init__ (by rfl) T.m_InvalidWord (da_cons d_str da_nil))) ds_nil)
    (ds_cons (d_if (d_not (d_truth (d_callB L2.call_isi (cIsO_ok T.at_Signals T.isc_Signals (TabI.cons T.at_Signals T.inf_Signals T.kitC_Signals_Signals TabI.nil)) (by rfl) T.z_isinstance (by decide +kernel) (da_cons (d_var (i := 3)) (da_cons (d_gcls (by rfl) T.m_Signals T.at_Signals) da_nil))))) (ds_one (d_raise rfl tk T.at_InvalidWord T.ox_InvalidWord T.ii_InvalidWord T.ti_InvalidWord (ok_InvalidWord_init__ T) (by decide) (hr.mono (by decide)) T.b_InvalidWord_init__ (by rfl) T.m_InvalidWord (da_cons d_str da_nil))) ds_nil)
    (ds_cons (d_setF T.at_Word T.cl_Word T.na_Word_kind (d_var (i := 0)) (d_var (i := 1)))
    (ds_cons (d_setF T.at_Word T.cl_Word T.na_Word_base (d_var (i := 0)) (d_var (i := 2)))
    (ds_one (d_setF T.at_Word T.cl_Word T.na_Word_signals (d_var (i := 0)) (d_var (i := 3))))))))),
    wp_Word_init__⟩) (by decide)) T.b_Word_init__
theorem Tx.F_Word_of (T : Tx K mg base) : Fun K "of" "Word.of" s_Word_of T.f_Word_of (PySem.W.fnOf "of" "Word.of" (defArgs s_Word_of) (defBody s_Word_of) (defScope s_Word_of) .none T.kV_Word_of T.dc_Word_of T.pm_Word_of T.an_Word_of T.cd_Word_of T.ct_Word_of) := fun_mk T.l_Word_of T.c_Word_of T.k_Word_of
theorem ok_Word_of (T : Tx K mg base) : FnW P w K mg base (L2.CX P w) 10 T.f_Word_of (spKwN K ["cls", "kind", "base"] sp_Word_of) :=
  dfnK3 T.F_Word_of sc_Word_of rfl rfl rfl rfl rfl (by decide) (by decide) (by decide) (fun cdv A outer s H E hr B RX tk =>
    (ds_cons (d_set (i := 4) sc_Word_of.nd (d_mkS T.at_Signals T.mk_Signals (ok_Signals_init__ T) (hr.mono (by decide)) (rzX tk) (by rfl) T.m_Signals (i := 3) rfl (Or.inl rfl)))
    (ds_one (d_ret (d_mkLP T.at_Word T.mk_Word (ok_Word_init__ T) (hr.mono (by decide)) (rzX tk) (i := 0) rfl (Or.inl rfl) (da_cons (d_var (i := 1)) (da_cons (d_var (i := 2)) (da_cons (d_var (i := 4)) da_nil)))))))) wp_Word_of
theorem Tx.F_Word_getitem__ (T : Tx K mg base) : Fun K "__getitem__" "Word.__getitem__" s_Word_getitem__ T.f_Word_getitem__ (PySem.W.fnOf "__getitem__" "Word.__getitem__" (defArgs s_Word_getitem__) (defBody s_Word_getitem__) (defScope s_Word_getitem__) .none T.kV_Word_getitem__ T.dc_Word_getitem__ T.pm_Word_getitem__ T.an_Word_getitem__ T.cd_Word_getitem__ T.ct_Word_getitem__) := fun_mk T.l_Word_getitem__ T.c_Word_getitem__ T.k_Word_getitem__
theorem Tx.b_Word_getitem__ (T : Tx K mg base) : Binds K (PySem.W.fnOf "__getitem__" "Word.__getitem__" (defArgs s_Word_getitem__) (defBody s_Word_getitem__) (defScope s_Word_getitem__) .none T.kV_Word_getitem__ T.dc_Word_getitem__ T.pm_Word_getitem__ T.an_Word_getitem__ T.cd_Word_getitem__ T.ct_Word_getitem__) p_Word_getitem__ [] := T.F_Word_getitem__.binds fun _ _ _ _ _ _ us hl => match us, hl with | [_, _], _ => rfl
theorem ok_Word_getitem__ (T : Tx K mg base) : FnR P w K mg base (L2.CX P w) 6 T.f_Word_getitem__ (toSp K sp_Word_getitem__) := fnR0 (FnOk.mono (j := 6) (dfnX T.F_Word_getitem__ sc_Word_getitem__ len_Word_getitem__ fun B cdv A outer s H E hr => ⟨w_Word_getitem__, fun RX tk =>
    (ds_one (d_ret (d_subO T.at_Signals T.oc_Signals___getitem__ T.fn_Signals___getitem__ (ok_Signals_getitem__ T) (hr.mono (by decide)) (rzX tk) (d_fld T.at_Word T.cl_Word T.na_Word_signals (d_var (i := 0))) (d_var (i := 1))))),
    wp_Word_getitem__⟩) (by decide)) T.b_Word_getitem__
theorem Tx.F_Word_eq__ (T : Tx K mg base) : Fun K "__eq__" "Word.__eq__" s_Word_eq__ T.f_Word_eq__ (PySem.W.fnOf "__eq__" "Word.__eq__" (defArgs s_Word_eq__) (defBody s_Word_eq__) (defScope s_Word_eq__) .none T.kV_Word_eq__ T.dc_Word_eq__ T.pm_Word_eq__ T.an_Word_eq__ T.cd_Word_eq__ T.ct_Word_eq__) := fun_mk T.l_Word_eq__ T.c_Word_eq__ T.k_Word_eq__
theorem Tx.b_Word_eq__ (T : Tx K mg base) : Binds K (PySem.W.fnOf "__eq__" "Word.__eq__" (defArgs s_Word_eq__) (defBody s_Word_eq__) (defScope s_Word_eq__) .none T.kV_Word_eq__ T.dc_Word_eq__ T.pm_Word_eq__ T.an_Word_eq__ T.cd_Word_eq__ T.ct_Word_eq__) p_Word_eq__ [] := T.F_Word_eq__.binds fun _ _ _ _ _ _ us hl => match us, hl with | [_, _], _ => rfl
theorem ok_Word_eq__ (T : Tx K mg base) : FnR P w K mg base CX0 6 T.f_Word_eq__ (toSp K sp_Word_eq__) := fnR0 (FnOk.mono (j := 6) (dfn2 T.F_Word_eq__ sc_Word_eq__ len_Word_eq__ fun B cdv A outer s H E hr => ⟨w_Word_eq__,
    (ds_cons (d_if (L2.PW.pt (d_or (d_not (d_truth (d_callB L2.call_isi (cIsO_ok T.at_Word T.isc_Word (TabI.cons T.at_Word T.inf_Word T.kitC_Word_Word (TabI.cons T.at_Signals T.inf_Signals T.kitC_Signals_Word TabI.nil))) (by rfl) T.z_isinstance (by decide +kernel) (da_cons (d_var (i := 1)) (da_cons (d_gcls (by rfl) T.m_Word T.at_Word) da_nil))))) (d_or (d_cmpT (opNe hr.units) oNeI_ok (d_fld T.at_Word T.cl_Word T.na_Word_kind (d_var (i := 0))) (d_fld T.at_Word T.cl_Word T.na_Word_kind (d_var (i := 1))) (nomark _)) (d_or1 (d_cmpT (opNe hr.units) oNeI_ok (d_fld T.at_Word T.cl_Word T.na_Word_base (d_var (i := 0))) (d_fld T.at_Word T.cl_Word T.na_Word_base (d_var (i := 1))) (nomark _)))))) (ds_one (d_ret d_bl)) ds_nil)
    (ds_one (d_ret (d_cmp ((op_eqO (B := B) T.oc_Signals___eq__ (ok_Signals_eq__ T) (hr.mono (by decide)) rz0).or (opEq hr.units)) (oEqO_ok T.at_Signals oEqI_ok) (d_fld T.at_Word T.cl_Word T.na_Word_signals (d_var (i := 0))) (d_fld T.at_Word T.cl_Word T.na_Word_signals (d_var (i := 1))) (nomark _))))),
    wp_Word_eq__⟩) (by decide)) T.b_Word_eq__
theorem Tx.F_Word_str__ (T : Tx K mg base) : Fun K "__str__" "Word.__str__" s_Word_str__ T.f_Word_str__ (PySem.W.fnOf "__str__" "Word.__str__" (defArgs s_Word_str__) (defBody s_Word_str__) (defScope s_Word_str__) .none T.kV_Word_str__ T.dc_Word_str__ T.pm_Word_str__ T.an_Word_str__ T.cd_Word_str__ T.ct_Word_str__) := fun_mk T.l_Word_str__ T.c_Word_str__ T.k_Word_str__
theorem Tx.b_Word_str__ (T : Tx K mg base) : Binds K (PySem.W.fnOf "__str__" "Word.__str__" (defArgs s_Word_str__) (defBody s_Word_str__) (defScope s_Word_str__) .none T.kV_Word_str__ T.dc_Word_str__ T.pm_Word_str__ T.an_Word_str__ T.cd_Word_str__ T.ct_Word_str__) p_Word_str__ [] := T.F_Word_str__.binds fun _ _ _ _ _ _ us hl => match us, hl with | [_], _ => rfl
theorem ok_Word_str__ (T : Tx K mg base) : FnR P w K mg base CX0 2 T.f_Word_str__ (toSp K sp_Word_str__) := fnR0 (FnOk.mono (j := 2) (dfn2 T.F_Word_str__ sc_Word_str__ len_Word_str__ fun B cdv A outer s H E hr => ⟨w_Word_str__,
    (ds_one (d_ret (d_join d_str (d_lst (da_cons (d_fld T.at_Word T.cl_Word T.na_Word_kind (d_var (i := 0))) (da_cons (d_callTy call_str1 cStr1_ok (by rfl) T.z_str (by decide +kernel) (da_cons (d_fld T.at_Word T.cl_Word T.na_Word_base (d_var (i := 0))) da_nil)) (da_star (d_lc (own := [("field", 1), ("number", 2)]) rfl sc_Word_str__.nd (di_any (d_fgt (d_fld T.at_Signals T.cl_Signals T.na_Signals_told (d_fld T.at_Word T.cl_Word T.na_Word_signals (d_var (i := 0)))))) (blkOk_by (by show blkC N_Word_str__ (defScope s_Word_str__) _ _ = true; decide +kernel)) (fun _ _ _ _ _ => pg_tup rfl (pgs_cons (pg_name (i := 1) sc_Word_str__.nd rfl (Or.inl rfl)) (pgs_cons (pg_name (i := 2) sc_Word_str__.nd rfl (Or.inl rfl)) pgs_nil))) (binds_two (by decide) (by decide)) (fun _ _ _ _ _ => dts_nil) (fun _ _ _ _ _ => (d_joined (DJ.cons (d_fmt (d_var (i := 1))) (DJ.cons d_str (DJ.cons (d_fmt (d_var (i := 2))) DJ.nil)))))) da_nil))))))),
    wp_Word_str__⟩) (by decide)) T.b_Word_str__
theorem Tx.F_law_pen (T : Tx K mg base) : Fun K "_law_pen" "_law_pen" s_law_pen T.f_law_pen (PySem.W.fnOf "_law_pen" "_law_pen" (defArgs s_law_pen) (defBody s_law_pen) (defScope s_law_pen) .none T.kV_law_pen T.dc_law_pen T.pm_law_pen T.an_law_pen T.cd_law_pen T.ct_law_pen) := fun_mk T.l_law_pen T.c_law_pen T.k_law_pen
theorem Tx.b_law_pen (T : Tx K mg base) : Binds K (PySem.W.fnOf "_law_pen" "_law_pen" (defArgs s_law_pen) (defBody s_law_pen) (defScope s_law_pen) .none T.kV_law_pen T.dc_law_pen T.pm_law_pen T.an_law_pen T.cd_law_pen T.ct_law_pen) p_law_pen [] := T.F_law_pen.binds fun _ _ _ _ _ _ us hl => match us, hl with | [_], _ => rfl
theorem ok_law_pen (T : Tx K mg base) : FnOk P w K mg base CX0 2 T.f_law_pen (PySem.W.fnOf "_law_pen" "_law_pen" (defArgs s_law_pen) (defBody s_law_pen) (defScope s_law_pen) .none T.kV_law_pen T.dc_law_pen T.pm_law_pen T.an_law_pen T.cd_law_pen T.ct_law_pen) p_law_pen (toSp K sp_law_pen) :=
  dfn2 T.F_law_pen sc_law_pen len_law_pen fun B cdv A outer s H E hr => ⟨w_law_pen,
    (ds_one (d_ret (d_lstM (da_cons (d_callTy (callListA rfl) cListA_ok (by rfl) T.z_list (by decide +kernel) (da_cons (d_sl (d_var (i := 0)) do_none (do_some d_int)) da_nil)) (da_cons d_int (da_cons d_int da_nil)))))),
    wp_law_pen⟩
theorem Tx.F_law_draw (T : Tx K mg base) : Fun K "_law_draw" "_law_draw" s_law_draw T.f_law_draw (PySem.W.fnOf "_law_draw" "_law_draw" (defArgs s_law_draw) (defBody s_law_draw) (defScope s_law_draw) .none T.kV_law_draw T.dc_law_draw T.pm_law_draw T.an_law_draw T.cd_law_draw T.ct_law_draw) := fun_mk T.l_law_draw T.c_law_draw T.k_law_draw
theorem Tx.b_law_draw (T : Tx K mg base) : Binds K (PySem.W.fnOf "_law_draw" "_law_draw" (defArgs s_law_draw) (defBody s_law_draw) (defScope s_law_draw) .none T.kV_law_draw T.dc_law_draw T.pm_law_draw T.an_law_draw T.cd_law_draw T.ct_law_draw) p_law_draw [] := T.F_law_draw.binds fun _ _ _ _ _ _ us hl => match us, hl with | [_, _], _ => rfl
theorem ok_law_draw (T : Tx K mg base) : FnOk P w K mg base CX0 2 T.f_law_draw (PySem.W.fnOf "_law_draw" "_law_draw" (defArgs s_law_draw) (defBody s_law_draw) (defScope s_law_draw) .none T.kV_law_draw T.dc_law_draw T.pm_law_draw T.an_law_draw T.cd_law_draw T.ct_law_draw) p_law_draw (toSp K sp_law_draw) :=
  dfn2 T.F_law_draw sc_law_draw len_law_draw fun B cdv A outer s H E hr => ⟨w_law_draw,
    (ds_cons (d_if (d_cmpT op_gt oGt_ok (d_ix (d_var (i := 0)) d_int) d_int (nomark _)) (ds_cons (d_set (i := 5) sc_law_draw.nd (d_op op_mod oMod_ok (d_callTy call_int1 cInt_ok (by rfl) T.z_int (by decide +kernel) (da_cons (d_ix (d_var (i := 0)) d_int) da_nil)) (d_var (i := 1))))
    (ds_cons (d_asg (d_op op_fdivW oFdiv_ok (d_callTy call_int1 cInt_ok (by rfl) T.z_int (by decide +kernel) (da_cons (d_ix (d_var (i := 0)) d_int) da_nil)) (d_var (i := 1))) (dg_ixL (d_var (i := 0)) d_int))
    (ds_one (d_ret (d_var (i := 5)))))) ds_nil)
    (ds_cons (d_set (i := 2) sc_law_draw.nd (d_ix (d_var (i := 0)) d_int))
    (ds_cons (d_asg (d_op opAdd oAdd_ok (d_var (i := 2)) d_int) (dg_ixL (d_var (i := 0)) d_int))
    (ds_cons (d_set (i := 3) sc_law_draw.nd (d_op opAdd oAdd_ok (d_op opMul oMul_ok d_int (d_var (i := 2))) d_int))
    (ds_cons (d_if (d_cmpT (opNe hr.units) oNeI_ok (d_ix (d_var (i := 0)) d_int) (d_lst da_nil) (nomark _)) (ds_one (d_set (i := 3) sc_law_draw.nd (d_ix (d_ix (d_var (i := 0)) d_int) (d_op op_mod oMod_ok (d_callTy call_int1 cInt_ok (by rfl) T.z_int (by decide +kernel) (da_cons (d_var (i := 2)) da_nil)) (d_callB callLen cLen_ok (by rfl) T.z_len (by decide +kernel) (da_cons (d_ix (d_var (i := 0)) d_int) da_nil)))))) ds_nil)
    (ds_cons (d_if (L2.PW.pt (d_and (d_cmpT op_lt oLt_ok (d_var (i := 2)) (d_callB callLen cLen_ok (by rfl) T.z_len (by decide +kernel) (da_cons (d_ix (d_var (i := 0)) d_int) da_nil)) (nomark _)) (d_and1 (d_cmpT op_ge oGe_ok (d_callB call_abs cAbs_ok (by rfl) T.z_abs (by decide +kernel) (da_cons (d_var (i := 3)) da_nil)) (d_op op_pow oPow_ok d_int d_int) (nomark _))))) (ds_cons (d_set (i := 6) sc_law_draw.nd (d_op opAdd oAdd_ok (d_op opMul oMul_ok d_int (d_op op_sub oSub_ok (d_callB call_abs cAbs_ok (by rfl) T.z_abs (by decide +kernel) (da_cons (d_var (i := 3)) da_nil)) (d_op op_pow oPow_ok d_int d_int))) (d_callTy call_int1 cInt_ok (by rfl) T.z_int (by decide +kernel) (da_cons (d_cmp op_lt oLt_ok (d_var (i := 3)) d_int (nomark _)) da_nil))))
    (ds_cons (d_asg (d_op op_fdivW oFdiv_ok (d_callTy call_int1 cInt_ok (by rfl) T.z_int (by decide +kernel) (da_cons (d_var (i := 6)) da_nil)) (d_var (i := 1))) (dg_ixL (d_var (i := 0)) d_int))
    (ds_one (d_ret (d_op op_mod oMod_ok (d_callTy call_int1 cInt_ok (by rfl) T.z_int (by decide +kernel) (da_cons (d_var (i := 6)) da_nil)) (d_var (i := 1))))))) ds_nil)
    (ds_cons (d_set (i := 4) sc_law_draw.nd (d_op op_mod oMod_ok (d_callTy call_int1 cInt_ok (by rfl) T.z_int (by decide +kernel) (da_cons (d_op op_pow oPow_ok (d_op opAdd oAdd_ok (d_op opAdd oAdd_ok (d_op op_mod oMod_ok (d_callTy call_int1 cInt_ok (by rfl) T.z_int (by decide +kernel) (da_cons (d_var (i := 3)) da_nil)) d_int) (d_op opMul oMul_ok d_int (d_var (i := 2)))) d_int) d_int) da_nil)) d_int))
    (ds_cons (d_set (i := 4) sc_law_draw.nd (d_op op_mod oMod_ok (d_callTy call_int1 cInt_ok (by rfl) T.z_int (by decide +kernel) (da_cons (d_op op_pow oPow_ok (d_op opAdd oAdd_ok (d_op opAdd oAdd_ok (d_op opMul oMul_ok (d_var (i := 4)) (d_op opAdd oAdd_ok (d_op opMul oMul_ok d_int (d_var (i := 2))) d_int)) (d_op opMul oMul_ok (d_op opMul oMul_ok d_int (d_var (i := 2))) (d_var (i := 2)))) d_int) d_int) da_nil)) d_int))
    (ds_one (d_ret (d_op op_mod oMod_ok (d_callTy call_int1 cInt_ok (by rfl) T.z_int (by decide +kernel) (da_cons (d_op op_fdivW oFdiv_ok (d_var (i := 4)) d_int) da_nil)) (d_var (i := 1))))))))))))),
    wp_law_draw⟩
theorem Tx.F_law_pick (T : Tx K mg base) : Fun K "_law_pick" "_law_pick" s_law_pick T.f_law_pick (PySem.W.fnOf "_law_pick" "_law_pick" (defArgs s_law_pick) (defBody s_law_pick) (defScope s_law_pick) .none T.kV_law_pick T.dc_law_pick T.pm_law_pick T.an_law_pick T.cd_law_pick T.ct_law_pick) := fun_mk T.l_law_pick T.c_law_pick T.k_law_pick
theorem Tx.b_law_pick (T : Tx K mg base) : Binds K (PySem.W.fnOf "_law_pick" "_law_pick" (defArgs s_law_pick) (defBody s_law_pick) (defScope s_law_pick) .none T.kV_law_pick T.dc_law_pick T.pm_law_pick T.an_law_pick T.cd_law_pick T.ct_law_pick) p_law_pick [] := T.F_law_pick.binds fun _ _ _ _ _ _ us hl => match us, hl with | [_, _], _ => rfl
theorem ok_law_pick (T : Tx K mg base) : FnOk P w K mg base CX0 4 T.f_law_pick (PySem.W.fnOf "_law_pick" "_law_pick" (defArgs s_law_pick) (defBody s_law_pick) (defScope s_law_pick) .none T.kV_law_pick T.dc_law_pick T.pm_law_pick T.an_law_pick T.cd_law_pick T.ct_law_pick) p_law_pick (toSp K sp_law_pick) :=
  dfn2 T.F_law_pick sc_law_pick len_law_pick fun B cdv A outer s H E hr => ⟨w_law_pick,
    (ds_one (d_ret (d_ix (d_var (i := 1)) (d_call (ok_law_draw T) (hr.mono (by decide)) (by rfl) T.g_law_draw T.F_law_draw.kp T.b_law_draw .nil (fun _ _ => .nil) (da_cons (d_var (i := 0)) (da_cons (d_callB callLen cLen_ok (by rfl) T.z_len (by decide +kernel) (da_cons (d_var (i := 1)) da_nil)) da_nil)))))),
    wp_law_pick⟩
theorem Tx.F_law_names (T : Tx K mg base) : Fun K "_law_names" "_law_names" s_law_names T.f_law_names (PySem.W.fnOf "_law_names" "_law_names" (defArgs s_law_names) (defBody s_law_names) (defScope s_law_names) .none T.kV_law_names T.dc_law_names T.pm_law_names T.an_law_names T.cd_law_names T.ct_law_names) := fun_mk T.l_law_names T.c_law_names T.k_law_names
theorem Tx.b_law_names (T : Tx K mg base) : Binds K (PySem.W.fnOf "_law_names" "_law_names" (defArgs s_law_names) (defBody s_law_names) (defScope s_law_names) .none T.kV_law_names T.dc_law_names T.pm_law_names T.an_law_names T.cd_law_names T.ct_law_names) p_law_names [] := T.F_law_names.binds fun _ _ _ _ _ _ us hl => match us, hl with | [_, _], _ => rfl
theorem ok_law_names (T : Tx K mg base) : FnOk P w K mg base CX0 6 T.f_law_names (PySem.W.fnOf "_law_names" "_law_names" (defArgs s_law_names) (defBody s_law_names) (defScope s_law_names) .none T.kV_law_names T.dc_law_names T.pm_law_names T.an_law_names T.cd_law_names T.ct_law_names) p_law_names (toSp K sp_law_names) :=
  dfn2 T.F_law_names sc_law_names len_law_names fun B cdv A outer s H E hr => ⟨w_law_names,
    (ds_cons (d_set (i := 2) sc_law_names.nd d_str)
    (ds_cons (d_set (i := 3) sc_law_names.nd (d_call (ok_law_pick T) (hr.mono (by decide)) (by rfl) T.g_law_pick T.F_law_pick.kp T.b_law_pick .nil (fun _ _ => .nil) (da_cons (d_var (i := 0)) (da_cons (d_lst (da_cons d_int (da_cons d_int (da_cons d_int (da_cons d_int (da_cons d_int (da_cons d_int da_nil))))))) da_nil))))
    (ds_cons (d_set (i := 4) sc_law_names.nd (d_op opAdd oAdd_ok (d_var (i := 2)) d_str))
    (ds_cons (d_set (i := 5) sc_law_names.nd (d_join d_str (d_lc (own := [("_law_k", 8)]) rfl sc_law_names.nd (di_range1 (by rfl) T.z_range (da_cons (d_var (i := 3)) da_nil)) (blkOk_by (by show blkC N_law_names (defScope s_law_names) _ _ = true; decide +kernel)) (fun _ _ _ _ _ => pg_name (i := 8) sc_law_names.nd rfl (Or.inl rfl)) (binds_one (by decide)) (fun _ _ _ _ _ => dts_nil) (fun _ _ _ _ _ => (d_call (ok_law_pick T) (hr.mono (by decide)) (by rfl) T.g_law_pick T.F_law_pick.kp T.b_law_pick .nil (fun _ _ => .nil) (da_cons (d_var (i := 0)) (da_cons (d_var (i := 4)) da_nil)))))))
    (ds_cons (d_set (i := 5) sc_law_names.nd (d_call (ok_law_pick T) (hr.mono (by decide)) (by rfl) T.g_law_pick T.F_law_pick.kp T.b_law_pick .nil (fun _ _ => .nil) (da_cons (d_var (i := 0)) (da_cons (d_lst (da_cons (d_var (i := 5)) (da_cons (d_var (i := 5)) (da_cons (d_var (i := 5)) (da_cons d_str (da_cons d_str (da_cons d_str da_nil))))))) da_nil))))
    (ds_cons (d_set (i := 6) sc_law_names.nd (d_call (ok_law_draw T) (hr.mono (by decide)) (by rfl) T.g_law_draw T.F_law_draw.kp T.b_law_draw .nil (fun _ _ => .nil) (da_cons (d_var (i := 0)) (da_cons (d_op opAdd oAdd_ok (d_callB callLen cLen_ok (by rfl) T.z_len (by decide +kernel) (da_cons (d_var (i := 5)) da_nil)) d_int) da_nil))))
    (ds_cons (d_if (d_cmpT op_gt oGt_ok (d_var (i := 6)) d_int (nomark _)) (ds_one (d_set (i := 5) sc_law_names.nd (d_op opAdd oAdd_ok (d_call (ok_law_pick T) (hr.mono (by decide)) (by rfl) T.g_law_pick T.F_law_pick.kp T.b_law_pick .nil (fun _ _ => .nil) (da_cons (d_var (i := 0)) (da_cons (d_var (i := 2)) da_nil))) (d_sl (d_var (i := 5)) (do_some d_int) do_none)))) ds_nil)
    (ds_cons (d_par (i := 9) (j := 10) rfl sc_law_names.nd rfl rfl (by decide) rfl rfl (da_cons (d_call (ok_law_draw T) (hr.mono (by decide)) (by rfl) T.g_law_draw T.F_law_draw.kp T.b_law_draw .nil (fun _ _ => .nil) (da_cons (d_var (i := 0)) (da_cons d_int da_nil))) (da_cons (d_call (ok_law_pick T) (hr.mono (by decide)) (by rfl) T.g_law_pick T.F_law_pick.kp T.b_law_pick .nil (fun _ _ => .nil) (da_cons (d_var (i := 0)) (da_cons (d_lst (da_cons d_int (da_cons d_int (da_cons d_int (da_cons d_int (da_cons d_int (da_cons d_int (da_cons d_int (da_cons d_int (da_cons d_int (da_cons d_int (da_cons d_int (da_cons d_int da_nil))))))))))))) da_nil))) da_nil)) (by rfl))
    (ds_cons (d_set (i := 7) sc_law_names.nd (d_lstM da_nil))
    (ds_cons (d_for PassesOwn.never rfl (di_range1 (by rfl) T.z_range (da_cons (d_var (i := 1)) da_nil)) (dg_name (i := 8) sc_law_names.nd) (ds_cons (d_set (i := 11) sc_law_names.nd (d_op opAdd oAdd_ok (d_op opAdd oAdd_ok (d_sl (d_var (i := 5)) do_none (do_some (d_var (i := 6)))) (d_ix (d_var (i := 2)) (d_op op_mod oMod_ok (d_callTy call_int1 cInt_ok (by rfl) T.z_int (by decide +kernel) (da_cons (d_op opAdd oAdd_ok (d_var (i := 9)) (d_op opMul oMul_ok (d_var (i := 10)) (d_var (i := 8)))) da_nil)) d_int))) (d_sl (d_var (i := 5)) (do_some (d_var (i := 6))) do_none)))
    (ds_one (d_exp (d_bm PySem.F.plainAttrs_list PySem.F.slot_list_append PySem.F.type_list_append mt_append mAppend_ok (d_var (i := 7)) (da_cons (d_op opAdd oAdd_ok (d_var (i := 11)) (d_op opMul oMul_ok d_str (d_callTy call_int1 cInt_ok (by rfl) T.z_int (by decide +kernel) (da_cons (d_cmp opIn oIn_ok (d_var (i := 11)) (d_lst (da_cons d_str (da_cons d_str (da_cons d_str (da_cons d_str (da_cons d_str da_nil)))))) (by rfl)) da_nil)))) da_nil))))))
    (ds_one (d_retF (d_var (i := 7)))))))))))))),
    wp_law_names⟩
theorem Tx.F_law_is_name (T : Tx K mg base) : Fun K "_law_is_name" "_law_is_name" s_law_is_name T.f_law_is_name (PySem.W.fnOf "_law_is_name" "_law_is_name" (defArgs s_law_is_name) (defBody s_law_is_name) (defScope s_law_is_name) .none T.kV_law_is_name T.dc_law_is_name T.pm_law_is_name T.an_law_is_name T.cd_law_is_name T.ct_law_is_name) := fun_mk T.l_law_is_name T.c_law_is_name T.k_law_is_name
theorem Tx.b_law_is_name (T : Tx K mg base) : Binds K (PySem.W.fnOf "_law_is_name" "_law_is_name" (defArgs s_law_is_name) (defBody s_law_is_name) (defScope s_law_is_name) .none T.kV_law_is_name T.dc_law_is_name T.pm_law_is_name T.an_law_is_name T.cd_law_is_name T.ct_law_is_name) p_law_is_name [] := T.F_law_is_name.binds fun _ _ _ _ _ _ us hl => match us, hl with | [_], _ => rfl
theorem ok_law_is_name (T : Tx K mg base) : FnOk P w K mg base CX0 2 T.f_law_is_name (PySem.W.fnOf "_law_is_name" "_law_is_name" (defArgs s_law_is_name) (defBody s_law_is_name) (defScope s_law_is_name) .none T.kV_law_is_name T.dc_law_is_name T.pm_law_is_name T.an_law_is_name T.cd_law_is_name T.ct_law_is_name) p_law_is_name (toSp K sp_law_is_name) :=
  dfn2 T.F_law_is_name sc_law_is_name len_law_is_name fun B cdv A outer s H E hr => ⟨w_law_is_name,
    (ds_cons (d_if (L2.PW.pt (d_or (d_not (d_truth (d_callB call_isi cIsi_ok (by rfl) T.z_isinstance (by decide +kernel) (da_cons (d_var (i := 0)) (da_cons (d_ty T.z_str (by decide +kernel)) da_nil))))) (d_or (d_not (d_chainT op_le oLe_ok op_le oLe_ok d_int (d_callB callLen cLen_ok (by rfl) T.z_len (by decide +kernel) (da_cons (d_var (i := 0)) da_nil)) d_int)) (d_or1 (d_cmpT opIn oIn_ok (d_var (i := 0)) (d_lst (da_cons d_str (da_cons d_str (da_cons d_str (da_cons d_str (da_cons d_str da_nil)))))) (by rfl)))))) (ds_one (d_ret d_bl)) ds_nil)
    (ds_cons (d_set (i := 1) sc_law_is_name.nd d_str)
    (ds_one (d_ret (d_andV (d_cmp opIn oIn_ok (d_ix (d_var (i := 0)) d_int) (d_var (i := 1)) (by rfl)) (d_one (d_cmp (opEq hr.units) oEqI_ok (d_lc (own := [("_law_sign", 2)]) rfl sc_law_is_name.nd (di_any (d_var (i := 0))) (blkOk_by (by show blkC N_law_is_name (defScope s_law_is_name) _ _ = true; decide +kernel)) (fun _ _ _ _ _ => pg_name (i := 2) sc_law_is_name.nd rfl (Or.inl rfl)) (binds_one (by decide)) (fun _ _ _ _ _ => (dts_one (d_cmpT opNotIn oIn_ok (d_var (i := 2)) (d_op opAdd oAdd_ok (d_var (i := 1)) d_str) (by rfl)))) (fun _ _ _ _ _ => (d_var (i := 2)))) (d_lst da_nil) (nomark _)))))))),
    wp_law_is_name⟩
theorem Tx.F_law_is_between (T : Tx K mg base) : Fun K "_law_is_between" "_law_is_between" s_law_is_between T.f_law_is_between (PySem.W.fnOf "_law_is_between" "_law_is_between" (defArgs s_law_is_between) (defBody s_law_is_between) (defScope s_law_is_between) .none T.kV_law_is_between T.dc_law_is_between T.pm_law_is_between T.an_law_is_between T.cd_law_is_between T.ct_law_is_between) := fun_mk T.l_law_is_between T.c_law_is_between T.k_law_is_between
theorem Tx.b_law_is_between (T : Tx K mg base) : Binds K (PySem.W.fnOf "_law_is_between" "_law_is_between" (defArgs s_law_is_between) (defBody s_law_is_between) (defScope s_law_is_between) .none T.kV_law_is_between T.dc_law_is_between T.pm_law_is_between T.an_law_is_between T.cd_law_is_between T.ct_law_is_between) p_law_is_between [] := T.F_law_is_between.binds fun _ _ _ _ _ _ us hl => match us, hl with | [_, _, _], _ => rfl
theorem ok_law_is_between (T : Tx K mg base) : FnOk P w K mg base CX0 2 T.f_law_is_between (PySem.W.fnOf "_law_is_between" "_law_is_between" (defArgs s_law_is_between) (defBody s_law_is_between) (defScope s_law_is_between) .none T.kV_law_is_between T.dc_law_is_between T.pm_law_is_between T.an_law_is_between T.cd_law_is_between T.ct_law_is_between) p_law_is_between (toSp K sp_law_is_between) :=
  dfn2 T.F_law_is_between sc_law_is_between len_law_is_between fun B cdv A outer s H E hr => ⟨w_law_is_between,
    (ds_one (d_ret (d_andV (d_callB call_isi cIsi_ok (by rfl) T.z_isinstance (by decide +kernel) (da_cons (d_var (i := 0)) (da_cons (d_ty T.z_int (by decide +kernel)) da_nil))) (d_andV (d_notV (d_callB call_isi cIsi_ok (by rfl) T.z_isinstance (by decide +kernel) (da_cons (d_var (i := 0)) (da_cons (d_ty T.z_bool (by decide +kernel)) da_nil)))) (d_one (d_chain op_le oLe_ok op_le oLe_ok (d_var (i := 1)) (d_var (i := 0)) (d_var (i := 2)))))))),
    wp_law_is_between⟩
theorem Tx.F_law_fault (T : Tx K mg base) : Fun K "_law_fault" "_law_fault" s_law_fault T.f_law_fault (PySem.W.fnOf "_law_fault" "_law_fault" (defArgs s_law_fault) (defBody s_law_fault) (defScope s_law_fault) .none T.kV_law_fault T.dc_law_fault T.pm_law_fault T.an_law_fault T.cd_law_fault T.ct_law_fault) := fun_mk T.l_law_fault T.c_law_fault T.k_law_fault
theorem Tx.b_law_fault (T : Tx K mg base) : Binds K (PySem.W.fnOf "_law_fault" "_law_fault" (defArgs s_law_fault) (defBody s_law_fault) (defScope s_law_fault) .none T.kV_law_fault T.dc_law_fault T.pm_law_fault T.an_law_fault T.cd_law_fault T.ct_law_fault) p_law_fault [] := T.F_law_fault.binds fun _ _ _ _ _ _ us hl => match us, hl with | [_], _ => rfl
theorem ok_law_fault (T : Tx K mg base) : FnOk P w K mg base CX0 2 T.f_law_fault (PySem.W.fnOf "_law_fault" "_law_fault" (defArgs s_law_fault) (defBody s_law_fault) (defScope s_law_fault) .none T.kV_law_fault T.dc_law_fault T.pm_law_fault T.an_law_fault T.cd_law_fault T.ct_law_fault) p_law_fault (toSp K sp_law_fault) :=
  dfn2 T.F_law_fault sc_law_fault len_law_fault fun B cdv A outer s H E hr => ⟨w_law_fault,
    (ds_cons (d_set (i := 1) sc_law_fault.nd (d_lstM da_nil))
    (ds_cons (d_if (d_truth (d_callB call_isK (cIsK_ok (KitTab.cons T.at_InvalidName T.at_InvalidWord T.er_InvalidName T.kit_InvalidName_InvalidWord (KitTab.cons T.at_InvalidNumber T.at_InvalidWord T.er_InvalidNumber T.kit_InvalidNumber_InvalidWord (KitTab.cons T.at_InvalidWord T.at_InvalidWord T.er_InvalidWord T.kit_InvalidWord_InvalidWord KitTab.nil)))) (by rfl) T.z_isinstance (by decide +kernel) (da_cons (d_var (i := 0)) (da_cons (d_gcls (by rfl) T.m_InvalidWord T.at_InvalidWord) da_nil)))) (ds_one (d_exp (d_bm PySem.F.plainAttrs_list PySem.F.slot_list_append PySem.F.type_list_append mt_append mAppend_ok (d_var (i := 1)) (da_cons (d_tup (da_cons d_str (da_cons (d_xe (XeTab.cons T.at_InvalidWord T.xf_InvalidWord T.xa_InvalidWord_part XeTab.nil).look (d_var (i := 0))) da_nil))) da_nil)))) ds_nil)
    (ds_cons (d_if (d_truth (d_callB call_isK (cIsK_ok (KitTab.cons T.at_InvalidName T.at_InvalidName T.er_InvalidName T.kit_InvalidName_InvalidName (KitTab.cons T.at_InvalidNumber T.at_InvalidName T.er_InvalidNumber T.kit_InvalidNumber_InvalidName (KitTab.cons T.at_InvalidWord T.at_InvalidName T.er_InvalidWord T.kit_InvalidWord_InvalidName KitTab.nil)))) (by rfl) T.z_isinstance (by decide +kernel) (da_cons (d_var (i := 0)) (da_cons (d_gcls (by rfl) T.m_InvalidName T.at_InvalidName) da_nil)))) (ds_one (d_exp (d_bm PySem.F.plainAttrs_list PySem.F.slot_list_append PySem.F.type_list_append mt_append mAppend_ok (d_var (i := 1)) (da_cons (d_tup (da_cons d_str (da_cons (d_xe (XeTab.cons T.at_InvalidName T.xf_InvalidName T.xa_InvalidName_value (XeTab.cons T.at_InvalidNumber T.xf_InvalidNumber T.xa_InvalidNumber_value XeTab.nil)).look (d_var (i := 0))) da_nil))) da_nil)))) ds_nil)
    (ds_cons (d_if (d_truth (d_callB call_isK (cIsK_ok (KitTab.cons T.at_InvalidName T.at_InvalidNumber T.er_InvalidName T.kit_InvalidName_InvalidNumber (KitTab.cons T.at_InvalidNumber T.at_InvalidNumber T.er_InvalidNumber T.kit_InvalidNumber_InvalidNumber (KitTab.cons T.at_InvalidWord T.at_InvalidNumber T.er_InvalidWord T.kit_InvalidWord_InvalidNumber KitTab.nil)))) (by rfl) T.z_isinstance (by decide +kernel) (da_cons (d_var (i := 0)) (da_cons (d_gcls (by rfl) T.m_InvalidNumber T.at_InvalidNumber) da_nil)))) (ds_one (d_exp (d_bm PySem.F.plainAttrs_list PySem.F.slot_list_append PySem.F.type_list_append mt_append mAppend_ok (d_var (i := 1)) (da_cons (d_tup (da_cons d_str (da_cons (d_xe (XeTab.cons T.at_InvalidName T.xf_InvalidName T.xa_InvalidName_value (XeTab.cons T.at_InvalidNumber T.xf_InvalidNumber T.xa_InvalidNumber_value XeTab.nil)).look (d_var (i := 0))) da_nil))) da_nil)))) ds_nil)
    (ds_cons (d_if (L2.PW.pt (d_or (d_truth (d_callB call_isKT (cIsKT_ok (KitTab.cons T.at_InvalidName T.at_InvalidFrame T.er_InvalidName T.kit_InvalidName_InvalidFrame (KitTab.cons T.at_InvalidName T.at_InvalidKind T.er_InvalidName T.kit_InvalidName_InvalidKind (KitTab.cons T.at_InvalidNumber T.at_InvalidFrame T.er_InvalidNumber T.kit_InvalidNumber_InvalidFrame (KitTab.cons T.at_InvalidNumber T.at_InvalidKind T.er_InvalidNumber T.kit_InvalidNumber_InvalidKind (KitTab.cons T.at_InvalidWord T.at_InvalidFrame T.er_InvalidWord T.kit_InvalidWord_InvalidFrame (KitTab.cons T.at_InvalidWord T.at_InvalidKind T.er_InvalidWord T.kit_InvalidWord_InvalidKind KitTab.nil))))))) (by rfl) T.z_isinstance (by decide +kernel) (da_cons (d_var (i := 0)) (da_cons (d_tup (da_cons (d_gcls (by rfl) T.m_InvalidFrame T.at_InvalidFrame) (da_cons (d_gcls (by rfl) T.m_InvalidKind T.at_InvalidKind) da_nil))) da_nil)))) (d_or (d_not (d_truth (d_callB call_isK (cIsK_ok (KitTab.consT T.at_InvalidName T.er_InvalidName T.kitT_InvalidName_ValueError (KitTab.consT T.at_InvalidNumber T.er_InvalidNumber T.kitT_InvalidNumber_ValueError (KitTab.consT T.at_InvalidWord T.er_InvalidWord T.kitT_InvalidWord_ValueError KitTab.nil)))) (by rfl) T.z_isinstance (by decide +kernel) (da_cons (d_var (i := 0)) (da_cons (d_ty T.z_ValueError (by decide +kernel)) da_nil))))) (d_or1 (d_cmpT (opNe hr.units) oNeI_ok (d_callB callLen cLen_ok (by rfl) T.z_len (by decide +kernel) (da_cons (d_var (i := 1)) da_nil)) d_int (nomark _)))))) (ds_one (d_ret (d_tup (da_cons d_str da_nil)))) ds_nil)
    (ds_one (d_ret (d_ix (d_var (i := 1)) d_int)))))))),
    wp_law_fault⟩
theorem Tx.F_law_heard (T : Tx K mg base) : Fun K "_law_heard" "_law_heard" s_law_heard T.f_law_heard (PySem.W.fnOf "_law_heard" "_law_heard" (defArgs s_law_heard) (defBody s_law_heard) (defScope s_law_heard) .none T.kV_law_heard T.dc_law_heard T.pm_law_heard T.an_law_heard T.cd_law_heard T.ct_law_heard) := fun_mk T.l_law_heard T.c_law_heard T.k_law_heard
theorem Tx.b_law_heard (T : Tx K mg base) : Binds K (PySem.W.fnOf "_law_heard" "_law_heard" (defArgs s_law_heard) (defBody s_law_heard) (defScope s_law_heard) .none T.kV_law_heard T.dc_law_heard T.pm_law_heard T.an_law_heard T.cd_law_heard T.ct_law_heard) p_law_heard [] := T.F_law_heard.binds fun _ _ _ _ _ _ us hl => match us, hl with | [_], _ => rfl
theorem hd_law_heard (T : Tx K mg base) {A : Around} {outer : List Env} {B : Bs} {cdv : Value} {s : Shared} {H : Hp} {wl : RXe → WE} (hr : Room 3 (A.deeper (envOfC "_law_heard" (defScope s_law_heard) s.heap.objs.size T.f_law_heard cdv)))
    (act : ∀ (B' : Bs) (RX : RXe) (pn : List (Addr × Obj)) (xe : Value → Shared → Prop) (p1 p2 : Pos), Ext B.1 B.2.1 B.2.2 B'.1 B'.2.1 B'.2.2 → Takes ((cxOf CX0 P w K mg base N_law_heard "_law_heard" (defScope s_law_heard) T.f_law_heard cdv A outer s H E0).tr pn xe) (WL K B' RX) → DE B' ((cxOf CX0 P w K mg base N_law_heard "_law_heard" (defScope s_law_heard) T.f_law_heard cdv A outer s H E0).tr pn xe) (.Call (.Name "_law_ask" p1) [] [] p2) (wl RX)) :
    DSs B (cxOf CX0 P w K mg base N_law_heard "_law_heard" (defScope s_law_heard) T.f_law_heard cdv A outer s H E0).nox (defBody s_law_heard) (w_law_heard wl RXn) := by
  have tk : Takes (cxOf CX0 P w K mg base N_law_heard "_law_heard" (defScope s_law_heard) T.f_law_heard cdv A outer s H E0).nox (WL K B RXn) := takesN
  exact (ds_cons (d_asg (d_tup (da_cons d_non (da_cons d_non da_nil))) (dg_tup rfl (dgs_cons (dg_name (i := 2) sc_law_heard.nd) (dgs_cons (dg_name (i := 3) sc_law_heard.nd) dgs_nil))))
    (ds_cons (d_tryKeepL (i := 1) (j := 2) rfl rfl sc_law_heard.nd rfl (by rfl) ⟨by rfl, by decide, .inl T.m_OrError⟩ tk (by decide) (ExAll.cons T.at_InvalidName T.xm_InvalidName_OrError (ExAll.cons T.at_InvalidNumber T.xm_InvalidNumber_OrError (ExAll.cons T.at_InvalidWord T.xm_InvalidWord_OrError ExAll.nil))).look (fun B RX pn xe eB tk => (ds_one (d_set (i := 3) sc_law_heard.nd (act _ _ _ _ _ _ eB tk)))) (fun B a oe pn => ds_one (d_set (i := 2) sc_law_heard.nd (d_var (i := 1)))))
    (ds_one (d_ret (d_ifE (d_cmpT op_isN oIs_ok (d_var (i := 2)) d_non (nomark _)) (d_lst (da_cons (d_var (i := 3)) da_nil)) (d_call (ok_law_fault T) (hr.mono (by decide)) (by rfl) T.g_law_fault T.F_law_fault.kp T.b_law_fault .nil (fun _ _ => .nil) (da_cons (d_var (i := 2)) da_nil)))))))
theorem Tx.F_law_odd (T : Tx K mg base) : Fun K "_law_odd" "_law_odd" s_law_odd T.f_law_odd (PySem.W.fnOf "_law_odd" "_law_odd" (defArgs s_law_odd) (defBody s_law_odd) (defScope s_law_odd) .none T.kV_law_odd T.dc_law_odd T.pm_law_odd T.an_law_odd T.cd_law_odd T.ct_law_odd) := fun_mk T.l_law_odd T.c_law_odd T.k_law_odd
theorem Tx.b_law_odd (T : Tx K mg base) : Binds K (PySem.W.fnOf "_law_odd" "_law_odd" (defArgs s_law_odd) (defBody s_law_odd) (defScope s_law_odd) .none T.kV_law_odd T.dc_law_odd T.pm_law_odd T.an_law_odd T.cd_law_odd T.ct_law_odd) p_law_odd [] := T.F_law_odd.binds fun _ _ _ _ _ _ us hl => match us, hl with | [_], _ => rfl
theorem ok_law_odd (T : Tx K mg base) : FnOk P w K mg base CX0 6 T.f_law_odd (PySem.W.fnOf "_law_odd" "_law_odd" (defArgs s_law_odd) (defBody s_law_odd) (defScope s_law_odd) .none T.kV_law_odd T.dc_law_odd T.pm_law_odd T.an_law_odd T.cd_law_odd T.ct_law_odd) p_law_odd (toSp K sp_law_odd) :=
  dfn2 T.F_law_odd sc_law_odd len_law_odd fun B cdv A outer s H E hr => ⟨w_law_odd,
    (ds_cons (d_set (i := 1) sc_law_odd.nd (d_lst (da_cons d_non (da_cons d_bl (da_cons d_bl (da_cons (d_neg d_int) (da_cons d_int (da_cons d_int (da_cons d_int (da_cons (d_op op_pow oPow_ok d_int d_int) (da_cons d_str (da_cons d_str (da_cons d_str (da_cons d_str (da_cons d_str (da_cons d_str (da_cons d_str (da_cons (d_tup da_nil) (da_cons (d_lst da_nil) da_nil)))))))))))))))))))
    (ds_one (d_ret (d_call (ok_law_pick T) (hr.mono (by decide)) (by rfl) T.g_law_pick T.F_law_pick.kp T.b_law_pick .nil (fun _ _ => .nil) (da_cons (d_var (i := 0)) (da_cons (d_op opAdd oAdd_ok (d_var (i := 1)) (d_lst (da_cons (d_dict0 false) (da_cons (d_tup (da_cons d_str da_nil)) (da_cons (d_disp (ws := [((wC (.str "a")), (wC (.int 1)))]) (pps_cons d_str d_int pps_nil) rfl rfl (fun z => by cases z) (by decide)) (da_cons (d_lst (da_cons (d_tup (da_cons d_str (da_cons d_int da_nil))) da_nil)) (da_cons (d_tup (da_cons (d_tup (da_cons d_str (da_cons d_int da_nil))) da_nil)) da_nil))))))) da_nil)))))),
    wp_law_odd⟩
theorem Tx.F_law_fields (T : Tx K mg base) : Fun K "_law_fields" "_law_fields" s_law_fields T.f_law_fields (PySem.W.fnOf "_law_fields" "_law_fields" (defArgs s_law_fields) (defBody s_law_fields) (defScope s_law_fields) .none T.kV_law_fields T.dc_law_fields T.pm_law_fields T.an_law_fields T.cd_law_fields T.ct_law_fields) := fun_mk T.l_law_fields T.c_law_fields T.k_law_fields
theorem Tx.b_law_fields (T : Tx K mg base) : Binds K (PySem.W.fnOf "_law_fields" "_law_fields" (defArgs s_law_fields) (defBody s_law_fields) (defScope s_law_fields) .none T.kV_law_fields T.dc_law_fields T.pm_law_fields T.an_law_fields T.cd_law_fields T.ct_law_fields) p_law_fields [] := T.F_law_fields.binds fun _ _ _ _ _ _ us hl => match us, hl with | [_, _], _ => rfl
theorem ok_law_fields (T : Tx K mg base) : FnOk P w K mg base CX0 6 T.f_law_fields (PySem.W.fnOf "_law_fields" "_law_fields" (defArgs s_law_fields) (defBody s_law_fields) (defScope s_law_fields) .none T.kV_law_fields T.dc_law_fields T.pm_law_fields T.an_law_fields T.cd_law_fields T.ct_law_fields) p_law_fields (toSp K sp_law_fields) :=
  dfn2 T.F_law_fields sc_law_fields len_law_fields fun B cdv A outer s H E hr => ⟨w_law_fields,
    (ds_cons (d_setLc (i := 2) (own := [("_law_word", 3)]) rfl sc_law_fields.nd rfl rfl (sw_true rfl rfl rfl (by decide +kernel)) (di_any (d_callB cr_sortedS cSortS_ok (by rfl) T.z_sorted (by decide +kernel) (da_cons (d_var (i := 1)) da_nil))) (blkOk_by (by show blkC N_law_fields (defScope s_law_fields) _ _ = true; decide +kernel)) (fun _ _ _ _ _ => pg_name (i := 3) sc_law_fields.nd rfl (Or.inl rfl)) (binds_one (by decide)) (fun _ _ _ _ _ => (dts_one (d_cmpT (opEq hr.units) oEqI_ok (d_call (ok_law_draw T) (hr.mono (by decide)) (by rfl) T.g_law_draw T.F_law_draw.kp T.b_law_draw .nil (fun _ _ => .nil) (da_cons (d_var (i := 0)) (da_cons d_int da_nil))) d_int (nomark _)))) (fun _ _ _ _ _ => (d_var (i := 3))))
    (ds_one (d_ret (d_lc (own := [("_law_word", 3)]) rfl sc_law_fields.nd (di_any (d_var (i := 2))) (blkOk_by (by show blkC N_law_fields (defScope s_law_fields) _ _ = true; decide +kernel)) (fun _ _ _ _ _ => pg_name (i := 3) sc_law_fields.nd rfl (Or.inl rfl)) (binds_one (by decide)) (fun _ _ _ _ _ => dts_nil) (fun _ _ _ _ _ => (d_tup (da_cons (d_var (i := 3)) (da_cons (d_call (ok_law_pick T) (hr.mono (by decide)) (by rfl) T.g_law_pick T.F_law_pick.kp T.b_law_pick .nil (fun _ _ => .nil) (da_cons (d_var (i := 0)) (da_cons (d_lst (da_cons d_int (da_cons d_int (da_cons d_int (da_cons (d_op op_pow oPow_ok d_int d_int) (da_cons (d_call (ok_law_draw T) (hr.mono (by decide)) (by rfl) T.g_law_draw T.F_law_draw.kp T.b_law_draw .nil (fun _ _ => .nil) (da_cons (d_var (i := 0)) (da_cons d_int da_nil))) da_nil)))))) da_nil))) da_nil)))))))),
    wp_law_fields⟩
theorem Tx.F_law_text (T : Tx K mg base) : Fun K "_law_text" "_law_text" s_law_text T.f_law_text (PySem.W.fnOf "_law_text" "_law_text" (defArgs s_law_text) (defBody s_law_text) (defScope s_law_text) .none T.kV_law_text T.dc_law_text T.pm_law_text T.an_law_text T.cd_law_text T.ct_law_text) := fun_mk T.l_law_text T.c_law_text T.k_law_text
theorem Tx.b_law_text (T : Tx K mg base) : Binds K (PySem.W.fnOf "_law_text" "_law_text" (defArgs s_law_text) (defBody s_law_text) (defScope s_law_text) .none T.kV_law_text T.dc_law_text T.pm_law_text T.an_law_text T.cd_law_text T.ct_law_text) p_law_text [] := T.F_law_text.binds fun _ _ _ _ _ _ us hl => match us, hl with | [_, _, _], _ => rfl
theorem ok_law_text (T : Tx K mg base) : FnOk P w K mg base CX0 2 T.f_law_text (PySem.W.fnOf "_law_text" "_law_text" (defArgs s_law_text) (defBody s_law_text) (defScope s_law_text) .none T.kV_law_text T.dc_law_text T.pm_law_text T.an_law_text T.cd_law_text T.ct_law_text) p_law_text (toSp K sp_law_text) :=
  dfn2 T.F_law_text sc_law_text len_law_text fun B cdv A outer s H E hr => ⟨w_law_text,
    (ds_one (d_ret (d_join d_str (d_op opAdd oAdd_ok (d_lst (da_cons (d_var (i := 0)) (da_cons (d_callTy call_str1 cStr1_ok (by rfl) T.z_str (by decide +kernel) (da_cons (d_var (i := 1)) da_nil)) da_nil))) (d_lc (own := [("_law_field", 3), ("_law_number", 4)]) rfl sc_law_text.nd (di_any (d_var (i := 2))) (blkOk_by (by show blkC N_law_text (defScope s_law_text) _ _ = true; decide +kernel)) (fun _ _ _ _ _ => pg_tup rfl (pgs_cons (pg_name (i := 3) sc_law_text.nd rfl (Or.inl rfl)) (pgs_cons (pg_name (i := 4) sc_law_text.nd rfl (Or.inl rfl)) pgs_nil))) (binds_two (by decide) (by decide)) (fun _ _ _ _ _ => (dts_one (d_cmpT (opNe hr.units) oNeI_ok (d_var (i := 4)) d_int (nomark _)))) (fun _ _ _ _ _ => (d_op opAdd oAdd_ok (d_op opAdd oAdd_ok (d_var (i := 3)) d_str) (d_callTy call_str1 cStr1_ok (by rfl) T.z_str (by decide +kernel) (da_cons (d_var (i := 4)) da_nil))))))))),
    wp_law_text⟩
theorem Tx.F_law_right (T : Tx K mg base) : Fun K "_law_right" "_law_right" s_law_right T.f_law_right (PySem.W.fnOf "_law_right" "_law_right" (defArgs s_law_right) (defBody s_law_right) (defScope s_law_right) .none T.kV_law_right T.dc_law_right T.pm_law_right T.an_law_right T.cd_law_right T.ct_law_right) := fun_mk T.l_law_right T.c_law_right T.k_law_right
theorem Tx.b_law_right (T : Tx K mg base) : Binds K (PySem.W.fnOf "_law_right" "_law_right" (defArgs s_law_right) (defBody s_law_right) (defScope s_law_right) .none T.kV_law_right T.dc_law_right T.pm_law_right T.an_law_right T.cd_law_right T.ct_law_right) p_law_right [] := T.F_law_right.binds fun _ _ _ _ _ _ us hl => match us, hl with | [_, _, _], _ => rfl
theorem ok_law_right (T : Tx K mg base) : FnG P w K mg base (L2.CX P w) 12 T.f_law_right (PySem.W.fnOf "_law_right" "_law_right" (defArgs s_law_right) (defBody s_law_right) (defScope s_law_right) .none T.kV_law_right T.dc_law_right T.pm_law_right T.an_law_right T.cd_law_right T.ct_law_right) p_law_right (toSp K sp_law_right) :=
  FnG.mono (j := 12) (dfnGT T.tF_law_right T.F_law_right sc_law_right len_law_right fun B cdv A outer s H E hcd quiet hr => ⟨w_law_right, fun RX tk =>
    (ds_cons (d_asg (d_var (i := 1)) (dg_tup rfl (dgs_cons (dg_name (i := 9) sc_law_right.nd) (dgs_cons (dg_name (i := 10) sc_law_right.nd) (dgs_cons (dg_name (i := 11) sc_law_right.nd) dgs_nil)))))
    (ds_cons (d_set (i := 3) sc_law_right.nd (d_mk T.at_Word T.mk_Word (ok_Word_init__ T) (hr.mono (by decide)) (rzX tk) (by rfl) T.m_Word (da_cons (d_var (i := 9)) (da_cons (d_var (i := 10)) (da_cons (d_cmeth T.at_Signals (d_gcls (by rfl) T.m_Signals T.at_Signals) T.cr_Signals T.cm_Signals_of (ok_Signals_of T) (hr.mono (by decide)) (rzX tk) (da_cons (d_var (i := 11)) da_nil)) da_nil)))))
    (ds_cons (d_setLc (i := 4) (own := [("_law_pair", 12)]) rfl sc_law_right.nd rfl rfl (sw_true rfl rfl rfl (by decide +kernel)) (di_any (d_var (i := 11))) (blkOk_by (by show blkC N_law_right (defScope s_law_right) _ _ = true; decide +kernel)) (fun _ _ _ _ _ => pg_name (i := 12) sc_law_right.nd rfl (Or.inl rfl)) (binds_one (by decide)) (fun _ _ _ _ _ => (dts_one (d_cmpT (opNe hr.units) oNeI_ok (d_ix (d_var (i := 12)) d_int) d_int (nomark _)))) (fun _ _ _ _ _ => (d_var (i := 12))))
    (ds_cons (d_set (i := 5) sc_law_right.nd (d_lst (da_cons (d_var (i := 9)) (da_cons (d_var (i := 10)) (da_cons (d_var (i := 4)) (da_cons (d_call (ok_law_text T) (hr.mono (by decide)) (by rfl) T.g_law_text T.F_law_text.kp T.b_law_text .nil (fun _ _ => .nil) (da_cons (d_var (i := 9)) (da_cons (d_var (i := 10)) (da_cons (d_var (i := 11)) da_nil)))) da_nil))))))
    (ds_cons (d_if (d_cmpT (opNe hr.units) oNeI_ok (d_callB (repr_C T.smK (by exact quiet) (by exact hr.units)) cReprC_ok (by rfl) T.z_repr (by decide +kernel) (da_cons (d_lst (da_cons (d_fld T.at_Word T.cl_Word T.na_Word_kind (d_var (i := 3))) (da_cons (d_fld T.at_Word T.cl_Word T.na_Word_base (d_var (i := 3))) (da_cons (d_callTy (callListA rfl) cListA_ok (by rfl) T.z_list (by decide +kernel) (da_cons (d_fgt (d_fld T.at_Signals T.cl_Signals T.na_Signals_told (d_fld T.at_Word T.cl_Word T.na_Word_signals (d_var (i := 3))))) da_nil)) (da_cons (d_callTy (call_strO (B := B) T.oc_Word___str__ (ok_Word_str__ T) (hr.mono (by decide)) rz0) (cDun_ok T.at_Word retS_ok) (by rfl) T.z_str (by decide +kernel) (da_cons (d_var (i := 3)) da_nil)) da_nil))))) da_nil)) (d_callB (repr_C T.smK (by exact quiet) (by exact hr.units)) cReprC_ok (by rfl) T.z_repr (by decide +kernel) (da_cons (d_var (i := 5)) da_nil)) (nomark _)) (ds_one (d_ret d_bl)) ds_nil)
    (ds_cons (d_for (L2.passes_of rfl) rfl (di_any (d_var (i := 2))) (dg_name (i := 6) sc_law_right.nd) (ds_one (d_if (d_cmpT (opNe hr.units) oNeI_ok (d_callB (repr_C T.smK (by exact quiet) (by exact hr.units)) cReprC_ok (by rfl) T.z_repr (by decide +kernel) (da_cons (d_subO T.at_Word T.oc_Word___getitem__ T.fn_Word___getitem__ (ok_Word_getitem__ T) (hr.mono (by decide)) (rzX tk) (d_var (i := 3)) (d_var (i := 6))) da_nil)) (d_callB (repr_C T.smK (by exact quiet) (by exact hr.units)) cReprC_ok (by rfl) T.z_repr (by decide +kernel) (da_cons (d_get2 (hu_of hr) (d_callTy (call_dictP rfl) cDictL_ok (by rfl) T.z_dict (by decide +kernel) (da_cons (d_var (i := 11)) da_nil)) (d_var (i := 6)) d_int) da_nil)) (nomark _)) (ds_one (d_ret d_bl)) ds_nil)))
    (ds_cons (d_set (i := 7) sc_law_right.nd (d_call (ok_law_odd T) (hr.mono (by decide)) (by rfl) T.g_law_odd T.F_law_odd.kp T.b_law_odd .nil (fun _ _ => .nil) (da_cons (d_var (i := 0)) da_nil)))
    (ds_cons (d_set (i := 5) sc_law_right.nd (d_ifE (d_truth (d_call (ok_law_is_name T) (hr.mono (by decide)) (by rfl) T.g_law_is_name T.F_law_is_name.kp T.b_law_is_name .nil (fun _ _ => .nil) (da_cons (d_var (i := 7)) da_nil))) (d_lst (da_cons (d_get2 (hu_of hr) (d_callTy (call_dictP rfl) cDictL_ok (by rfl) T.z_dict (by decide +kernel) (da_cons (d_var (i := 11)) da_nil)) (d_var (i := 7)) d_int) da_nil)) (d_tup (da_cons d_str (da_cons (d_var (i := 7)) da_nil)))))
    (ds_cons (d_if (d_cmpT (opNe hr.units) oNeI_ok (d_callB (repr_C T.smK (by exact quiet) (by exact hr.units)) cReprC_ok (by rfl) T.z_repr (by decide +kernel) (da_cons (d_lam (k := 9) (i := 0) (by rfl) T.g_law_heard T.F_law_heard.kp T.F_law_heard sc_law_heard T.b_law_heard rfl (.inl rfl) T.tF_law_right.tab T.tF_law_right.B hcd rfl (hr.mono (by decide)) (LamX.lamS_by (by show LamX.lamSB (defScope s_law_right) _ = true; decide +kernel)) rfl (fun _ _ _ _ _ => rfl) (fun B cdv s H wl hr act => hd_law_heard T (hr.mono (by decide)) act) (fun A outer s H E f c1 B RX hr tk => (d_subO T.at_Word T.oc_Word___getitem__ T.fn_Word___getitem__ (ok_Word_getitem__ T) (hr.mono (by decide)) (rzX tk) (d_var (i := 3)) (d_var (i := 7))))) da_nil)) (d_callB (repr_C T.smK (by exact quiet) (by exact hr.units)) cReprC_ok (by rfl) T.z_repr (by decide +kernel) (da_cons (d_var (i := 5)) da_nil)) (nomark _)) (ds_one (d_ret d_bl)) ds_nil)
    (ds_cons (d_set (i := 8) sc_law_right.nd (d_mk T.at_Word T.mk_Word (ok_Word_init__ T) (hr.mono (by decide)) (rzX tk) (by rfl) T.m_Word (da_cons (d_var (i := 9)) (da_cons (d_var (i := 10)) (da_cons (d_cmeth T.at_Signals (d_gcls (by rfl) T.m_Signals T.at_Signals) T.cr_Signals T.cm_Signals_of (ok_Signals_of T) (hr.mono (by decide)) (rzX tk) (da_cons (d_revL (d_var (i := 4))) da_nil)) da_nil)))))
    (ds_cons (d_if (L2.PW.pt (d_or (d_not (d_cmpT ((op_eqO (B := B) T.oc_Word___eq__ (ok_Word_eq__ T) (hr.mono (by decide)) rz0).or (opEq hr.units)) (oEqO_ok T.at_Word oEqI_ok) (d_var (i := 3)) (d_var (i := 8)) (nomark _))) (d_or1 (d_cmpT ((op_neO (B := B) T.oc_Word___eq__ T.nec_Word (ok_Word_eq__ T) (hr.mono (by decide)) rz0).or (opNe hr.units)) (oEqO_ok T.at_Word oNeI_ok) (d_var (i := 3)) (d_var (i := 8)) (nomark _))))) (ds_one (d_ret d_bl)) ds_nil)
    (ds_one (d_ret (d_cmp (opEq hr.units) oEqI_ok (d_lc (own := [("_law_one", 13)]) rfl sc_law_right.nd (di_any (d_lst (da_cons d_non (da_cons (d_var (i := 1)) (da_cons (d_callTy (call_strO (B := B) T.oc_Word___str__ (ok_Word_str__ T) (hr.mono (by decide)) rz0) (cDun_ok T.at_Word retS_ok) (by rfl) T.z_str (by decide +kernel) (da_cons (d_var (i := 3)) da_nil)) (da_cons (d_fld T.at_Word T.cl_Word T.na_Word_signals (d_var (i := 3))) (da_cons (d_dict0 false) (da_cons d_int da_nil)))))))) (blkOk_by (by show blkC N_law_right (defScope s_law_right) _ _ = true; decide +kernel)) (fun _ _ _ _ _ => pg_name (i := 13) sc_law_right.nd rfl (Or.inl rfl)) (binds_one (by decide)) (fun _ _ _ _ _ => (dts_one (d_cmpT ((op_eqO2 (B := B) T.oc_Word___eq__ T.sbn_Signals_Word (ok_Word_eq__ T) (hr.mono (by decide)) rz0).or ((op_eqO (B := B) T.oc_Word___eq__ (ok_Word_eq__ T) (hr.mono (by decide)) rz0).or (opEq hr.units))) (oOrO_ok (oEqO2_ok T.at_Word T.at_Signals) (oEqO_ok T.at_Word oEqI_ok)) (d_var (i := 3)) (d_var (i := 13)) (nomark _)))) (fun _ _ _ _ _ => (d_var (i := 13)))) (d_lst da_nil) (nomark _))))))))))))))),
    wp_law_right⟩) (by decide)
theorem Tx.F_law_refused_right (T : Tx K mg base) : Fun K "_law_refused_right" "_law_refused_right" s_law_refused_right T.f_law_refused_right (PySem.W.fnOf "_law_refused_right" "_law_refused_right" (defArgs s_law_refused_right) (defBody s_law_refused_right) (defScope s_law_refused_right) .none T.kV_law_refused_right T.dc_law_refused_right T.pm_law_refused_right T.an_law_refused_right T.cd_law_refused_right T.ct_law_refused_right) := fun_mk T.l_law_refused_right T.c_law_refused_right T.k_law_refused_right
theorem Tx.b_law_refused_right (T : Tx K mg base) : Binds K (PySem.W.fnOf "_law_refused_right" "_law_refused_right" (defArgs s_law_refused_right) (defBody s_law_refused_right) (defScope s_law_refused_right) .none T.kV_law_refused_right T.dc_law_refused_right T.pm_law_refused_right T.an_law_refused_right T.cd_law_refused_right T.ct_law_refused_right) p_law_refused_right [] := T.F_law_refused_right.binds fun _ _ _ _ _ _ us hl => match us, hl with | [_, _], _ => rfl
theorem ok_law_refused_right (T : Tx K mg base) : FnG P w K mg base (L2.CX P w) 12 T.f_law_refused_right (PySem.W.fnOf "_law_refused_right" "_law_refused_right" (defArgs s_law_refused_right) (defBody s_law_refused_right) (defScope s_law_refused_right) .none T.kV_law_refused_right T.dc_law_refused_right T.pm_law_refused_right T.an_law_refused_right T.cd_law_refused_right T.ct_law_refused_right) p_law_refused_right (toSp K sp_law_refused_right) :=
  FnG.mono (j := 12) (dfnGT T.tF_law_refused_right T.F_law_refused_right sc_law_refused_right len_law_refused_right fun B cdv A outer s H E hcd quiet hr => ⟨w_law_refused_right, fun RX tk =>
    (ds_cons (d_set (i := 2) sc_law_refused_right.nd (d_lstM (da_cons (d_ix (d_var (i := 1)) d_int) (da_cons (d_ix (d_var (i := 1)) d_int) (da_cons (d_cmeth T.at_Signals (d_gcls (by rfl) T.m_Signals T.at_Signals) T.cr_Signals T.cm_Signals_of (ok_Signals_of T) (hr.mono (by decide)) (rzX tk) (da_cons (d_ix (d_var (i := 1)) d_int) da_nil)) da_nil)))))
    (ds_cons (d_for (L2.passes_of rfl) rfl (di_range1 (by rfl) T.z_range (da_cons (d_call (ok_law_pick T) (hr.mono (by decide)) (by rfl) T.g_law_pick T.F_law_pick.kp T.b_law_pick .nil (fun _ _ => .nil) (da_cons (d_var (i := 0)) (da_cons (d_lst (da_cons d_int (da_cons d_int (da_cons d_int (da_cons d_int da_nil))))) da_nil))) da_nil)) (dg_name (i := 3) sc_law_refused_right.nd) (ds_one (d_asg (d_call (ok_law_odd T) (hr.mono (by decide)) (by rfl) T.g_law_odd T.F_law_odd.kp T.b_law_odd .nil (fun _ _ => .nil) (da_cons (d_var (i := 0)) da_nil)) (dg_ixL (d_var (i := 2)) (d_call (ok_law_draw T) (hr.mono (by decide)) (by rfl) T.g_law_draw T.F_law_draw.kp T.b_law_draw .nil (fun _ _ => .nil) (da_cons (d_var (i := 0)) (da_cons d_int da_nil)))))))
    (ds_cons (d_set (i := 4) sc_law_refused_right.nd (d_lstM da_nil))
    (ds_cons (d_if (d_not (d_truth (d_call (ok_law_is_name T) (hr.mono (by decide)) (by rfl) T.g_law_is_name T.F_law_is_name.kp T.b_law_is_name .nil (fun _ _ => .nil) (da_cons (d_ix (d_var (i := 2)) d_int) da_nil)))) (ds_one (d_exp (d_bm PySem.F.plainAttrs_list PySem.F.slot_list_append PySem.F.type_list_append mt_append mAppend_ok (d_var (i := 4)) (da_cons d_str da_nil)))) ds_nil)
    (ds_cons (d_if (d_not (d_truth (d_call (ok_law_is_between T) (hr.mono (by decide)) (by rfl) T.g_law_is_between T.F_law_is_between.kp T.b_law_is_between .nil (fun _ _ => .nil) (da_cons (d_ix (d_var (i := 2)) d_int) (da_cons d_int (da_cons d_int da_nil)))))) (ds_one (d_exp (d_bm PySem.F.plainAttrs_list PySem.F.slot_list_append PySem.F.type_list_append mt_append mAppend_ok (d_var (i := 4)) (da_cons d_str da_nil)))) ds_nil)
    (ds_cons (d_if (d_not (d_truth (d_callB L2.call_isi (cIsO_ok T.at_Signals T.isc_Signals (TabI.cons T.at_Signals T.inf_Signals T.kitC_Signals_Signals TabI.nil)) (by rfl) T.z_isinstance (by decide +kernel) (da_cons (d_ix (d_var (i := 2)) d_int) (da_cons (d_gcls (by rfl) T.m_Signals T.at_Signals) da_nil))))) (ds_one (d_exp (d_bm PySem.F.plainAttrs_list PySem.F.slot_list_append PySem.F.type_list_append mt_append mAppend_ok (d_var (i := 4)) (da_cons d_str da_nil)))) ds_nil)
    (ds_cons (d_set (i := 5) sc_law_refused_right.nd (d_ifE (d_cmpT (opEq hr.units) oEqI_ok (d_var (i := 4)) (d_lst da_nil) (nomark _)) (d_lst (da_cons (d_ix (d_var (i := 2)) d_int) da_nil)) (d_tup (da_cons d_str (da_cons (d_ix (d_var (i := 4)) d_int) da_nil)))))
    (ds_one (d_ret (d_cmp (opEq hr.units) oEqI_ok (d_callB (repr_C T.smK (by exact quiet) (by exact hr.units)) cReprC_ok (by rfl) T.z_repr (by decide +kernel) (da_cons (d_lam (k := 9) (i := 1) (by rfl) T.g_law_heard T.F_law_heard.kp T.F_law_heard sc_law_heard T.b_law_heard rfl (.inl rfl) T.tF_law_refused_right.tab T.tF_law_refused_right.B hcd rfl (hr.mono (by decide)) (LamX.lamS_by (by show LamX.lamSB (defScope s_law_refused_right) _ = true; decide +kernel)) rfl (fun _ _ _ _ _ => rfl) (fun B cdv s H wl hr act => hd_law_heard T (hr.mono (by decide)) act) (fun A outer s H E f c1 B RX hr tk => (d_fld T.at_Word T.cl_Word T.na_Word_base (d_mk T.at_Word T.mk_Word (ok_Word_init__ T) (hr.mono (by decide)) (rzX tk) (by rfl) T.m_Word (da_cons (d_ix (d_var (i := 2)) d_int) (da_cons (d_ix (d_var (i := 2)) d_int) (da_cons (d_ix (d_var (i := 2)) d_int) da_nil))))))) da_nil)) (d_callB (repr_C T.smK (by exact quiet) (by exact hr.units)) cReprC_ok (by rfl) T.z_repr (by decide +kernel) (da_cons (d_var (i := 5)) da_nil)) (nomark _))))))))))),
    wp_law_refused_right⟩) (by decide)
theorem Tx.F_law_named_right (T : Tx K mg base) : Fun K "_law_named_right" "_law_named_right" s_law_named_right T.f_law_named_right (PySem.W.fnOf "_law_named_right" "_law_named_right" (defArgs s_law_named_right) (defBody s_law_named_right) (defScope s_law_named_right) .none T.kV_law_named_right T.dc_law_named_right T.pm_law_named_right T.an_law_named_right T.cd_law_named_right T.ct_law_named_right) := fun_mk T.l_law_named_right T.c_law_named_right T.k_law_named_right
theorem Tx.b_law_named_right (T : Tx K mg base) : Binds K (PySem.W.fnOf "_law_named_right" "_law_named_right" (defArgs s_law_named_right) (defBody s_law_named_right) (defScope s_law_named_right) .none T.kV_law_named_right T.dc_law_named_right T.pm_law_named_right T.an_law_named_right T.cd_law_named_right T.ct_law_named_right) p_law_named_right [] := T.F_law_named_right.binds fun _ _ _ _ _ _ us hl => match us, hl with | [_, _], _ => rfl
theorem ok_law_named_right (T : Tx K mg base) : FnG P w K mg base (L2.CX P w) 14 T.f_law_named_right (PySem.W.fnOf "_law_named_right" "_law_named_right" (defArgs s_law_named_right) (defBody s_law_named_right) (defScope s_law_named_right) .none T.kV_law_named_right T.dc_law_named_right T.pm_law_named_right T.an_law_named_right T.cd_law_named_right T.ct_law_named_right) p_law_named_right (toSp K sp_law_named_right) :=
  FnG.mono (j := 14) (dfnGT T.tF_law_named_right T.F_law_named_right sc_law_named_right len_law_named_right fun B cdv A outer s H E hcd quiet hr => ⟨w_law_named_right, fun RX tk =>
    (ds_cons (d_asg (d_tup (da_cons (d_call (ok_law_pick T) (hr.mono (by decide)) (by rfl) T.g_law_pick T.F_law_pick.kp T.b_law_pick .nil (fun _ _ => .nil) (da_cons (d_var (i := 0)) (da_cons (d_lst (da_cons d_int (da_cons d_int (da_cons (d_op op_pow oPow_ok d_int d_int) (da_cons (d_neg d_int) (da_cons (d_op opAdd oAdd_ok (d_op op_pow oPow_ok d_int d_int) d_int) (da_cons d_bl da_nil))))))) da_nil))) (da_cons (d_call (ok_law_pick T) (hr.mono (by decide)) (by rfl) T.g_law_pick T.F_law_pick.kp T.b_law_pick .nil (fun _ _ => .nil) (da_cons (d_var (i := 0)) (da_cons (d_lst (da_cons d_int (da_cons d_int (da_cons d_non (da_cons d_str da_nil))))) da_nil))) da_nil))) (dg_tup rfl (dgs_cons (dg_name (i := 4) sc_law_named_right.nd) (dgs_cons (dg_name (i := 5) sc_law_named_right.nd) dgs_nil))))
    (ds_cons (d_asg (d_tup (da_cons (d_call (ok_law_pick T) (hr.mono (by decide)) (by rfl) T.g_law_pick T.F_law_pick.kp T.b_law_pick .nil (fun _ _ => .nil) (da_cons (d_var (i := 0)) (da_cons (d_lst (da_cons (d_ix (d_var (i := 1)) d_int) (da_cons (d_ix (d_var (i := 1)) d_int) (da_cons d_str da_nil)))) da_nil))) (da_cons (d_call (ok_law_pick T) (hr.mono (by decide)) (by rfl) T.g_law_pick T.F_law_pick.kp T.b_law_pick .nil (fun _ _ => .nil) (da_cons (d_var (i := 0)) (da_cons (d_lst (da_cons (d_ix (d_var (i := 1)) d_int) (da_cons (d_ix (d_var (i := 1)) d_int) (da_cons d_int da_nil)))) da_nil))) da_nil))) (dg_tup rfl (dgs_cons (dg_name (i := 6) sc_law_named_right.nd) (dgs_cons (dg_name (i := 7) sc_law_named_right.nd) dgs_nil))))
    (ds_cons (d_setLc (i := 2) (own := [("_law_thing", 8)]) rfl sc_law_named_right.nd rfl rfl (sw_true rfl rfl rfl (by decide +kernel)) (di_any (d_lst (da_cons (d_var (i := 4)) (da_cons (d_var (i := 5)) da_nil)))) (blkOk_by (by show blkC N_law_named_right (defScope s_law_named_right) _ _ = true; decide +kernel)) (fun _ _ _ _ _ => pg_name (i := 8) sc_law_named_right.nd rfl (Or.inl rfl)) (binds_one (by decide)) (fun _ _ _ _ _ => (dts_one (d_not (d_truth (d_call (ok_law_is_between T) (hr.mono (by decide)) (by rfl) T.g_law_is_between T.F_law_is_between.kp T.b_law_is_between .nil (fun _ _ => .nil) (da_cons (d_var (i := 8)) (da_cons d_int (da_cons (d_op op_pow oPow_ok d_int d_int) da_nil)))))))) (fun _ _ _ _ _ => (d_var (i := 8))))
    (ds_cons (d_set (i := 3) sc_law_named_right.nd (d_lam (k := 11) (i := 2) (by rfl) T.g_law_heard T.F_law_heard.kp T.F_law_heard sc_law_heard T.b_law_heard rfl (.inl rfl) T.tF_law_named_right.tab T.tF_law_named_right.B hcd rfl (hr.mono (by decide)) (LamX.lamS_by (by show LamX.lamSB (defScope s_law_named_right) _ = true; decide +kernel)) rfl (fun _ _ _ _ _ => rfl) (fun B cdv s H wl hr act => hd_law_heard T (hr.mono (by decide)) act) (fun A outer s H E f c1 B RX hr tk => (d_callTy (call_strO (B := B) T.oc_Word___str__ (ok_Word_str__ T) (hr.mono (by decide)) rz0) (cDun_ok T.at_Word retS_ok) (by rfl) T.z_str (by decide +kernel) (da_cons (d_cmethK (names := ["alu", "bus"]) T.at_Word (d_gcls (by rfl) T.m_Word T.at_Word) T.cr_Word T.cm_Word_of (ok_Word_of T) (hr.mono (by decide)) (rzX tk) (da_cons (d_var (i := 6)) (da_cons (d_var (i := 7)) da_nil)) (dk_cons (d_var (i := 4)) (dk_cons (d_var (i := 5)) dk_nil)) (by decide) (by decide) (by decide)) da_nil)))))
    (ds_cons (d_if (d_cmpT (opNe hr.units) oNeI_ok (d_var (i := 2)) (d_lst da_nil) (nomark _)) (ds_one (d_ret (d_cmp (opEq hr.units) oEqI_ok (d_callB (repr_C T.smK (by exact quiet) (by exact hr.units)) cReprC_ok (by rfl) T.z_repr (by decide +kernel) (da_cons (d_var (i := 3)) da_nil)) (d_callB (repr_C T.smK (by exact quiet) (by exact hr.units)) cReprC_ok (by rfl) T.z_repr (by decide +kernel) (da_cons (d_tup (da_cons d_str (da_cons (d_ix (d_var (i := 2)) d_int) da_nil))) da_nil)) (nomark _)))) ds_nil)
    (ds_cons (d_if (d_cmpT (opEq hr.units) oEqI_ok (d_var (i := 6)) d_str (nomark _)) (ds_one (d_ret (d_cmp (opEq hr.units) oEqI_ok (d_var (i := 3)) (d_tup (da_cons d_str (da_cons d_str da_nil))) (nomark _)))) ds_nil)
    (ds_cons (d_if (d_cmpT (opEq hr.units) oEqI_ok (d_var (i := 7)) d_int (nomark _)) (ds_one (d_ret (d_cmp (opEq hr.units) oEqI_ok (d_var (i := 3)) (d_tup (da_cons d_str (da_cons d_str da_nil))) (nomark _)))) ds_nil)
    (ds_one (d_ret (d_cmp (opEq hr.units) oEqI_ok (d_var (i := 3)) (d_lst (da_cons (d_call (ok_law_text T) (hr.mono (by decide)) (by rfl) T.g_law_text T.F_law_text.kp T.b_law_text .nil (fun _ _ => .nil) (da_cons (d_var (i := 6)) (da_cons (d_var (i := 7)) (da_cons (d_lst (da_cons (d_tup (da_cons d_str (da_cons (d_var (i := 4)) da_nil))) (da_cons (d_tup (da_cons d_str (da_cons (d_var (i := 5)) da_nil))) da_nil))) da_nil)))) da_nil)) (nomark _))))))))))),
    wp_law_named_right⟩) (by decide)
theorem Tx.F_law (T : Tx K mg base) : Fun K "law" "law" s_law T.f_law (PySem.W.fnOf "law" "law" (defArgs s_law) (defBody s_law) (defScope s_law) .none T.kV_law T.dc_law T.pm_law T.an_law T.cd_law T.ct_law) := fun_mk T.l_law T.c_law T.k_law
theorem ok_law (T : Tx K mg base) : FnG P w K mg base (L2.CX P w) 16 T.f_law (PySem.W.fnOf "law" "law" (defArgs s_law) (defBody s_law) (defScope s_law) .none T.kV_law T.dc_law T.pm_law T.an_law T.cd_law T.ct_law) p_law (toSp K sp_law) :=
  FnG.mono (j := 16) (dfnGT T.tF_law T.F_law sc_law len_law fun B cdv A outer s H E hcd quiet hr => ⟨w_law, fun RX tk =>
    (ds_cons (d_set (i := 1) sc_law.nd (d_call (ok_law_pen T) (hr.mono (by decide)) (by rfl) T.g_law_pen T.F_law_pen.kp T.b_law_pen .nil (fun _ _ => .nil) (da_cons (d_var (i := 0)) da_nil)))
    (ds_cons (d_set (i := 2) sc_law.nd (d_lstM da_nil))
    (ds_cons (d_par (i := 5) (j := 6) rfl sc_law.nd rfl rfl (by decide) rfl rfl (da_cons (d_call (ok_law_names T) (hr.mono (by decide)) (by rfl) T.g_law_names T.F_law_names.kp T.b_law_names .nil (fun _ _ => .nil) (da_cons (d_var (i := 1)) (da_cons d_int da_nil))) (da_cons (d_call (ok_law_names T) (hr.mono (by decide)) (by rfl) T.g_law_names T.F_law_names.kp T.b_law_names .nil (fun _ _ => .nil) (da_cons (d_var (i := 1)) (da_cons d_int da_nil))) da_nil)) (by rfl))
    (ds_cons (d_for (L2.passes_of rfl) rfl (di_range1 (by rfl) T.z_range (da_cons d_int da_nil)) (dg_name (i := 3) sc_law.nd) (ds_cons (d_set (i := 4) sc_law.nd (d_tup (da_cons (d_call (ok_law_pick T) (hr.mono (by decide)) (by rfl) T.g_law_pick T.F_law_pick.kp T.b_law_pick .nil (fun _ _ => .nil) (da_cons (d_var (i := 1)) (da_cons (d_var (i := 6)) da_nil))) (da_cons (d_call (ok_law_pick T) (hr.mono (by decide)) (by rfl) T.g_law_pick T.F_law_pick.kp T.b_law_pick .nil (fun _ _ => .nil) (da_cons (d_var (i := 1)) (da_cons (d_lst (da_cons d_int (da_cons d_int (da_cons d_int (da_cons (d_call (ok_law_draw T) (hr.mono (by decide)) (by rfl) T.g_law_draw T.F_law_draw.kp T.b_law_draw .nil (fun _ _ => .nil) (da_cons (d_var (i := 1)) (da_cons d_int da_nil))) da_nil))))) da_nil))) (da_cons (d_call (ok_law_fields T) (hr.mono (by decide)) (by rfl) T.g_law_fields T.F_law_fields.kp T.b_law_fields .nil (fun _ _ => .nil) (da_cons (d_var (i := 1)) (da_cons (d_var (i := 5)) da_nil))) da_nil)))))
    (ds_cons (d_exp (d_bm PySem.F.plainAttrs_list PySem.F.slot_list_append PySem.F.type_list_append mt_append mAppend_ok (d_var (i := 2)) (da_cons (d_var (i := 4)) da_nil)))
    (ds_one (d_if (L2.PW.pt (d_or (d_not (d_truth (d_callG (ok_law_right T) (by exact quiet) (hr.mono (by decide)) (rzX tk) (by rfl) T.g_law_right T.F_law_right.kp T.b_law_right (da_cons (d_var (i := 1)) (da_cons (d_var (i := 4)) (da_cons (d_var (i := 5)) da_nil)))))) (d_or (d_not (d_truth (d_callG (ok_law_refused_right T) (by exact quiet) (hr.mono (by decide)) (rzX tk) (by rfl) T.g_law_refused_right T.F_law_refused_right.kp T.b_law_refused_right (da_cons (d_var (i := 1)) (da_cons (d_var (i := 4)) da_nil))))) (d_or1 (d_not (d_truth (d_callG (ok_law_named_right T) (by exact quiet) (hr.mono (by decide)) (rzX tk) (by rfl) T.g_law_named_right T.F_law_named_right.kp T.b_law_named_right (da_cons (d_var (i := 1)) (da_cons (d_var (i := 4)) da_nil))))))))) (ds_one (d_ret d_bl)) ds_nil)))))
    (ds_cons (d_frz (i := 2) (d_for (L2.passes_of rfl) rfl (di_any (d_var (i := 2))) (dg_name (i := 4) sc_law.nd) (ds_one (d_for (L2.passes_of rfl) rfl (di_any (d_var (i := 2))) (dg_name (i := 7) sc_law.nd) (ds_cons (d_set (i := 8) sc_law.nd (d_cmp (opEq hr.units) oEqI_ok (d_call (ok_law_text T) (hr.mono (by decide)) (by rfl) T.g_law_text T.F_law_text.kp T.b_law_text .nil (fun _ _ => .nil) (da_cons (d_ix (d_var (i := 4)) d_int) (da_cons (d_ix (d_var (i := 4)) d_int) (da_cons (d_ix (d_var (i := 4)) d_int) da_nil)))) (d_call (ok_law_text T) (hr.mono (by decide)) (by rfl) T.g_law_text T.F_law_text.kp T.b_law_text .nil (fun _ _ => .nil) (da_cons (d_ix (d_var (i := 7)) d_int) (da_cons (d_ix (d_var (i := 7)) d_int) (da_cons (d_ix (d_var (i := 7)) d_int) da_nil)))) (nomark _)))
    (ds_cons (d_par (i := 9) (j := 10) rfl sc_law.nd rfl rfl (by decide) rfl rfl (da_cons (d_mk T.at_Word T.mk_Word (ok_Word_init__ T) (hr.mono (by decide)) (rzX tk) (by rfl) T.m_Word (da_cons (d_ix (d_var (i := 4)) d_int) (da_cons (d_ix (d_var (i := 4)) d_int) (da_cons (d_cmeth T.at_Signals (d_gcls (by rfl) T.m_Signals T.at_Signals) T.cr_Signals T.cm_Signals_of (ok_Signals_of T) (hr.mono (by decide)) (rzX tk) (da_cons (d_ix (d_var (i := 4)) d_int) da_nil)) da_nil)))) (da_cons (d_mk T.at_Word T.mk_Word (ok_Word_init__ T) (hr.mono (by decide)) (rzX tk) (by rfl) T.m_Word (da_cons (d_ix (d_var (i := 7)) d_int) (da_cons (d_ix (d_var (i := 7)) d_int) (da_cons (d_cmeth T.at_Signals (d_gcls (by rfl) T.m_Signals T.at_Signals) T.cr_Signals T.cm_Signals_of (ok_Signals_of T) (hr.mono (by decide)) (rzX tk) (da_cons (d_ix (d_var (i := 7)) d_int) da_nil)) da_nil)))) da_nil)) (by rfl))
    (ds_one (d_if (d_cmpT (opNe hr.units) oNeI_ok (d_callB (repr_C T.smK (by exact quiet) (by exact hr.units)) cReprC_ok (by rfl) T.z_repr (by decide +kernel) (da_cons (d_lst (da_cons (d_cmp ((op_eqO (B := B) T.oc_Word___eq__ (ok_Word_eq__ T) (hr.mono (by decide)) rz0).or (opEq hr.units)) (oEqO_ok T.at_Word oEqI_ok) (d_var (i := 9)) (d_var (i := 10)) (nomark _)) (da_cons (d_cmp ((op_neO (B := B) T.oc_Word___eq__ T.nec_Word (ok_Word_eq__ T) (hr.mono (by decide)) rz0).or (opNe hr.units)) (oEqO_ok T.at_Word oNeI_ok) (d_var (i := 9)) (d_var (i := 10)) (nomark _)) da_nil))) da_nil)) (d_callB (repr_C T.smK (by exact quiet) (by exact hr.units)) cReprC_ok (by rfl) T.z_repr (by decide +kernel) (da_cons (d_lst (da_cons (d_var (i := 8)) (da_cons (d_notV (d_var (i := 8))) da_nil))) da_nil)) (nomark _)) (ds_one (d_ret d_bl)) ds_nil))))))))
    (ds_one (d_ret (d_cmp (opEq hr.units) oEqI_ok (d_lam (k := 13) (i := 3) (by rfl) T.g_law_heard T.F_law_heard.kp T.F_law_heard sc_law_heard T.b_law_heard rfl (.inl rfl) T.tF_law.tab T.tF_law.B hcd rfl (hr.mono (by decide)) (LamX.lamS_by (by show LamX.lamSB (defScope s_law) _ = true; decide +kernel)) rfl (fun _ _ _ _ _ => rfl) (fun B cdv s H wl hr act => hd_law_heard T (hr.mono (by decide)) act) (fun A outer s H E f c1 B RX hr tk => (d_fld T.at_Word T.cl_Word T.na_Word_base (d_cmethK (names := ["B"]) T.at_Word (d_gcls (by rfl) T.m_Word T.at_Word) T.cr_Word T.cm_Word_of (ok_Word_of T) (hr.mono (by decide)) (rzX tk) (da_cons d_str (da_cons d_int da_nil)) (dk_cons d_int dk_nil) (by decide) (by decide) (by decide))))) (d_tup (da_cons d_str (da_cons d_str da_nil))) (nomark _))))))))),
    wp_law⟩) (by decide)
end
theorem all_mk {l : PySem.W.OpenLaw} {w : World} {K : PySem.W.Frag} {h : Heap} {mg : Str → Option Value} {fa : Addr} (X : K.In h) (G : h.Ns mainGlobals mg) (hfa : mg "law" = some (.ref fa))
    {C_Signals : Addr}
    (q_Signals_at : PySem.W.nsIn K mainGlobals "Signals" = some (some (.ref C_Signals)))
    {C_Word : Addr}
    (q_Word_at : PySem.W.nsIn K mainGlobals "Word" = some (some (.ref C_Word)))
    {C_InvalidFrame : Addr}
    (q_InvalidFrame_at : PySem.W.nsIn K mainGlobals "InvalidFrame" = some (some (.ref C_InvalidFrame)))
    {C_InvalidKind : Addr}
    (q_InvalidKind_at : PySem.W.nsIn K mainGlobals "InvalidKind" = some (some (.ref C_InvalidKind)))
    {C_InvalidName : Addr}
    (q_InvalidName_at : PySem.W.nsIn K mainGlobals "InvalidName" = some (some (.ref C_InvalidName)))
    {C_InvalidNumber : Addr}
    (q_InvalidNumber_at : PySem.W.nsIn K mainGlobals "InvalidNumber" = some (some (.ref C_InvalidNumber)))
    {C_InvalidWord : Addr}
    (q_InvalidWord_at : PySem.W.nsIn K mainGlobals "InvalidWord" = some (some (.ref C_InvalidWord)))
    {C_OrError : Addr}
    (q_OrError_at : PySem.W.nsIn K mainGlobals "OrError" = some (some (.ref C_OrError)))
    (q_Signals_pg : PySem.W.plainGet K C_Signals Str.empty = true)
    (q_Signals_hd : PySem.W.hasDictIn K C_Signals = true)
    (q_Signals_po : PySem.W.plainOver K C_Signals = true)
    (q_Signals_sa : PySem.W.findIn K (.ref C_Signals) "__setattr__" = some (some (.builtin "object.__setattr__")))
    (q_Word_pg : PySem.W.plainGet K C_Word Str.empty = true)
    (q_Word_hd : PySem.W.hasDictIn K C_Word = true)
    (q_Word_po : PySem.W.plainOver K C_Word = true)
    (q_Word_sa : PySem.W.findIn K (.ref C_Word) "__setattr__" = some (some (.builtin "object.__setattr__")))
    (q_Signals_rd : PySem.W.readsIn K C_Signals (.type "type") = true)
    (q_Signals_ga : PySem.W.specialIn K (.ref C_Signals) "__getattribute__" = some (some (.builtin "type.__getattribute__")))
    {sp_a_Signals_of : Addr}
    (q_Signals_of_find : PySem.W.findCls K (.ref C_Signals) (.type "type") "of" = some (.get (.builtin "classmethod.__get__") (.ref sp_a_Signals_of) .none (.ref C_Signals)))
    {f_Signals_of : Addr}
    {rest_Signals_of : List Value}
    (q_Signals_of_rec : PySem.W.recIn K sp_a_Signals_of "classmethod" = some (.ref f_Signals_of :: rest_Signals_of))
    (q_Signals_of_fi : PySem.W.fnIn K f_Signals_of = true)
    (q_Word_rd : PySem.W.readsIn K C_Word (.type "type") = true)
    (q_Word_ga : PySem.W.specialIn K (.ref C_Word) "__getattribute__" = some (some (.builtin "type.__getattribute__")))
    {sp_a_Word_of : Addr}
    (q_Word_of_find : PySem.W.findCls K (.ref C_Word) (.type "type") "of" = some (.get (.builtin "classmethod.__get__") (.ref sp_a_Word_of) .none (.ref C_Word)))
    {f_Word_of : Addr}
    {rest_Word_of : List Value}
    (q_Word_of_rec : PySem.W.recIn K sp_a_Word_of "classmethod" = some (.ref f_Word_of :: rest_Word_of))
    (q_Word_of_fi : PySem.W.fnIn K f_Word_of = true)
    {tk_Signals_MOST : Tok}
    (q_cv_Signals_MOST : PySem.W.findCls K (.ref C_Signals) (.type "type") "MOST" = some (.val (.int 1000000000 tk_Signals_MOST)))
    (q_InvalidName_ercl : (PySem.W.clsIn K C_InvalidName).isSome = true)
    (q_InvalidName_ergA : PySem.W.findIn K (.ref C_InvalidName) "__getattribute__" = some (some (.builtin "BaseException.__getattribute__")))
    (q_InvalidName_ergg : PySem.W.findIn K (.ref C_InvalidName) "__getattr__" = some none)
    (q_InvalidName_ersb : PySem.W.subIn K (.ref C_InvalidName) (.type "BaseException") = some true)
    (q_InvalidName_erca : PySem.W.findIn K (.ref C_InvalidName) "__class__" = some (some (.builtin "object.__class__")))
    (q_InvalidName_ercg : PySem.W.specialIn K (.builtin "object.__class__") "__get__" = some (some (.builtin "getset_descriptor.__get__")))
    (q_InvalidName_ertk : PySem.W.takesIn K (.builtin "object.__class__") = some true)
    (q_InvalidName_erob : PySem.W.mroIn K C_InvalidName (.type "object") = some true)
    (q_InvalidNumber_ercl : (PySem.W.clsIn K C_InvalidNumber).isSome = true)
    (q_InvalidNumber_ergA : PySem.W.findIn K (.ref C_InvalidNumber) "__getattribute__" = some (some (.builtin "BaseException.__getattribute__")))
    (q_InvalidNumber_ergg : PySem.W.findIn K (.ref C_InvalidNumber) "__getattr__" = some none)
    (q_InvalidNumber_ersb : PySem.W.subIn K (.ref C_InvalidNumber) (.type "BaseException") = some true)
    (q_InvalidNumber_erca : PySem.W.findIn K (.ref C_InvalidNumber) "__class__" = some (some (.builtin "object.__class__")))
    (q_InvalidNumber_ercg : PySem.W.specialIn K (.builtin "object.__class__") "__get__" = some (some (.builtin "getset_descriptor.__get__")))
    (q_InvalidNumber_ertk : PySem.W.takesIn K (.builtin "object.__class__") = some true)
    (q_InvalidNumber_erob : PySem.W.mroIn K C_InvalidNumber (.type "object") = some true)
    (q_InvalidWord_ercl : (PySem.W.clsIn K C_InvalidWord).isSome = true)
    (q_InvalidWord_ergA : PySem.W.findIn K (.ref C_InvalidWord) "__getattribute__" = some (some (.builtin "BaseException.__getattribute__")))
    (q_InvalidWord_ergg : PySem.W.findIn K (.ref C_InvalidWord) "__getattr__" = some none)
    (q_InvalidWord_ersb : PySem.W.subIn K (.ref C_InvalidWord) (.type "BaseException") = some true)
    (q_InvalidWord_erca : PySem.W.findIn K (.ref C_InvalidWord) "__class__" = some (some (.builtin "object.__class__")))
    (q_InvalidWord_ercg : PySem.W.specialIn K (.builtin "object.__class__") "__get__" = some (some (.builtin "getset_descriptor.__get__")))
    (q_InvalidWord_ertk : PySem.W.takesIn K (.builtin "object.__class__") = some true)
    (q_InvalidWord_erob : PySem.W.mroIn K C_InvalidWord (.type "object") = some true)
    (q_Signals_inf_ha : PySem.W.findIn K (.ref C_Signals) "__class__" = some (some (.builtin "object.__class__")))
    (q_Signals_inf_hn : PySem.W.specialIn K (.builtin "object.__class__") "__get__" = some (some (.builtin "getset_descriptor.__get__")))
    (q_Signals_inf_tk : PySem.W.takesIn K (.builtin "object.__class__") = some true)
    (q_Signals_inf_hm : PySem.W.mroIn K C_Signals (.type "object") = some true)
    (q_Word_inf_ha : PySem.W.findIn K (.ref C_Word) "__class__" = some (some (.builtin "object.__class__")))
    (q_Word_inf_hn : PySem.W.specialIn K (.builtin "object.__class__") "__get__" = some (some (.builtin "getset_descriptor.__get__")))
    (q_Word_inf_tk : PySem.W.takesIn K (.builtin "object.__class__") = some true)
    (q_Word_inf_hm : PySem.W.mroIn K C_Word (.type "object") = some true)
    (q_isc_Signals : PySem.W.kitOne K (.type "NoneType") (.ref C_Signals) = some false)
    (q_isc_Word : PySem.W.kitOne K (.type "NoneType") (.ref C_Word) = some false)
    (q_kit_InvalidName_InvalidFrame : PySem.W.kitOne K (.ref C_InvalidName) (.ref C_InvalidFrame) = some false)
    (q_kit_InvalidName_InvalidKind : PySem.W.kitOne K (.ref C_InvalidName) (.ref C_InvalidKind) = some false)
    (q_kit_InvalidName_InvalidName : PySem.W.kitOne K (.ref C_InvalidName) (.ref C_InvalidName) = some true)
    (q_kit_InvalidName_InvalidNumber : PySem.W.kitOne K (.ref C_InvalidName) (.ref C_InvalidNumber) = some false)
    (q_kit_InvalidName_InvalidWord : PySem.W.kitOne K (.ref C_InvalidName) (.ref C_InvalidWord) = some false)
    (q_kit_InvalidNumber_InvalidFrame : PySem.W.kitOne K (.ref C_InvalidNumber) (.ref C_InvalidFrame) = some false)
    (q_kit_InvalidNumber_InvalidKind : PySem.W.kitOne K (.ref C_InvalidNumber) (.ref C_InvalidKind) = some false)
    (q_kit_InvalidNumber_InvalidName : PySem.W.kitOne K (.ref C_InvalidNumber) (.ref C_InvalidName) = some false)
    (q_kit_InvalidNumber_InvalidNumber : PySem.W.kitOne K (.ref C_InvalidNumber) (.ref C_InvalidNumber) = some true)
    (q_kit_InvalidNumber_InvalidWord : PySem.W.kitOne K (.ref C_InvalidNumber) (.ref C_InvalidWord) = some false)
    (q_kit_InvalidWord_InvalidFrame : PySem.W.kitOne K (.ref C_InvalidWord) (.ref C_InvalidFrame) = some false)
    (q_kit_InvalidWord_InvalidKind : PySem.W.kitOne K (.ref C_InvalidWord) (.ref C_InvalidKind) = some false)
    (q_kit_InvalidWord_InvalidName : PySem.W.kitOne K (.ref C_InvalidWord) (.ref C_InvalidName) = some false)
    (q_kit_InvalidWord_InvalidNumber : PySem.W.kitOne K (.ref C_InvalidWord) (.ref C_InvalidNumber) = some false)
    (q_kit_InvalidWord_InvalidWord : PySem.W.kitOne K (.ref C_InvalidWord) (.ref C_InvalidWord) = some true)
    (q_kitC_Signals_Signals : PySem.W.kitOne K (.ref C_Signals) (.ref C_Signals) = some true)
    (q_kitC_Signals_Word : PySem.W.kitOne K (.ref C_Signals) (.ref C_Word) = some false)
    (q_kitC_Word_Word : PySem.W.kitOne K (.ref C_Word) (.ref C_Word) = some true)
    (q_kitT_InvalidName_ValueError : PySem.W.kitOne K (.ref C_InvalidName) (.type "ValueError") = some true)
    (q_kitT_InvalidNumber_ValueError : PySem.W.kitOne K (.ref C_InvalidNumber) (.type "ValueError") = some true)
    (q_kitT_InvalidWord_ValueError : PySem.W.kitOne K (.ref C_InvalidWord) (.type "ValueError") = some true)
    (q_Signals_mkm : PySem.W.makesIn K C_Signals = true)
    {f_Signals_init__ : Addr}
    (q_Signals_mki : PySem.W.findIn K (.ref C_Signals) "__init__" = some (some (.ref f_Signals_init__)))
    (q_Signals_mkf : PySem.W.isFn K (.ref f_Signals_init__) = true)
    (q_Signals_mkk : PySem.W.keepIn K (.ref C_Signals) = true)
    (q_Word_mkm : PySem.W.makesIn K C_Word = true)
    {f_Word_init__ : Addr}
    (q_Word_mki : PySem.W.findIn K (.ref C_Word) "__init__" = some (some (.ref f_Word_init__)))
    (q_Word_mkf : PySem.W.isFn K (.ref f_Word_init__) = true)
    (q_Word_mkk : PySem.W.keepIn K (.ref C_Word) = true)
    (q_Signals_na_told : PySem.W.findIn K (.ref C_Signals) "told" = some none)
    (q_Word_na_base : PySem.W.findIn K (.ref C_Word) "base" = some none)
    (q_Word_na_kind : PySem.W.findIn K (.ref C_Word) "kind" = some none)
    (q_Word_na_signals : PySem.W.findIn K (.ref C_Word) "signals" = some none)
    (q_Word_nec_ne : PySem.W.findIn K (.ref C_Word) "__ne__" = some (some (.builtin "object.__ne__")))
    (q_Word_nec_ob : PySem.W.mroIn K C_Word (.type "object") = some true)
    {f_Signals_eq__ : Addr}
    (q_Signals_eq___at : PySem.W.findIn K (.ref C_Signals) "__eq__" = some (some (.ref f_Signals_eq__)))
    (q_Signals_eq___fn : PySem.W.isFn K (.ref f_Signals_eq__) = true)
    {f_Signals_getitem__ : Addr}
    (q_Signals_getitem___at : PySem.W.findIn K (.ref C_Signals) "__getitem__" = some (some (.ref f_Signals_getitem__)))
    (q_Signals_getitem___fn : PySem.W.isFn K (.ref f_Signals_getitem__) = true)
    {f_Word_eq__ : Addr}
    (q_Word_eq___at : PySem.W.findIn K (.ref C_Word) "__eq__" = some (some (.ref f_Word_eq__)))
    (q_Word_eq___fn : PySem.W.isFn K (.ref f_Word_eq__) = true)
    {f_Word_getitem__ : Addr}
    (q_Word_getitem___at : PySem.W.findIn K (.ref C_Word) "__getitem__" = some (some (.ref f_Word_getitem__)))
    (q_Word_getitem___fn : PySem.W.isFn K (.ref f_Word_getitem__) = true)
    {f_Word_str__ : Addr}
    (q_Word_str___at : PySem.W.findIn K (.ref C_Word) "__str__" = some (some (.ref f_Word_str__)))
    (q_Word_str___fn : PySem.W.isFn K (.ref f_Word_str__) = true)
    (q_InvalidName_ox : OexC K C_InvalidName)
    {f_InvalidName_init__ : Addr}
    (q_InvalidName_ii : PySem.W.findIn K (.ref C_InvalidName) "__init__" = some (some (.ref f_InvalidName_init__)))
    (q_InvalidName_ti : PySem.W.typeIn K (.ref f_InvalidName_init__) = some (.type "function"))
    (q_xi_InvalidName_value : PySem.W.findIn K (.ref C_InvalidName) "value" = some none)
    (q_InvalidNumber_ox : OexC K C_InvalidNumber)
    {f_InvalidNumber_init__ : Addr}
    (q_InvalidNumber_ii : PySem.W.findIn K (.ref C_InvalidNumber) "__init__" = some (some (.ref f_InvalidNumber_init__)))
    (q_InvalidNumber_ti : PySem.W.typeIn K (.ref f_InvalidNumber_init__) = some (.type "function"))
    (q_xi_InvalidNumber_value : PySem.W.findIn K (.ref C_InvalidNumber) "value" = some none)
    (q_InvalidWord_ox : OexC K C_InvalidWord)
    {f_InvalidWord_init__ : Addr}
    (q_InvalidWord_ii : PySem.W.findIn K (.ref C_InvalidWord) "__init__" = some (some (.ref f_InvalidWord_init__)))
    (q_InvalidWord_ti : PySem.W.typeIn K (.ref f_InvalidWord_init__) = some (.type "function"))
    (q_xi_InvalidWord_part : PySem.W.findIn K (.ref C_InvalidWord) "part" = some none)
    (q_sbn_Signals_Word : PySem.W.subIn K (.ref C_Signals) (.ref C_Word) = some false)
    (q_smK : SmK K)
    {tbc_law_named_right tbt_law_named_right : Addr}
    (q_tb_law_named_right : PySem.W.tabIn K "_law_named_right" = some (tbc_law_named_right, tbt_law_named_right))
    (q_tn_law_named_right : (K.lookup tbt_law_named_right).isNone = true)
    (q_tc_law_named_right : PySem.W.codeHdIn K tbc_law_named_right tbt_law_named_right = true)
    {tbc_law_refused_right tbt_law_refused_right : Addr}
    (q_tb_law_refused_right : PySem.W.tabIn K "_law_refused_right" = some (tbc_law_refused_right, tbt_law_refused_right))
    (q_tn_law_refused_right : (K.lookup tbt_law_refused_right).isNone = true)
    (q_tc_law_refused_right : PySem.W.codeHdIn K tbc_law_refused_right tbt_law_refused_right = true)
    {tbc_law_right tbt_law_right : Addr}
    (q_tb_law_right : PySem.W.tabIn K "_law_right" = some (tbc_law_right, tbt_law_right))
    (q_tn_law_right : (K.lookup tbt_law_right).isNone = true)
    (q_tc_law_right : PySem.W.codeHdIn K tbc_law_right tbt_law_right = true)
    {tbc_law tbt_law : Addr}
    (q_tb_law : PySem.W.tabIn K "law" = some (tbc_law, tbt_law))
    (q_tn_law : (K.lookup tbt_law).isNone = true)
    (q_tc_law : PySem.W.codeHdIn K tbc_law tbt_law = true)
    (q_xa_InvalidName_value : PySem.W.findIn K (.ref C_InvalidName) "value" = some none)
    (q_xa_InvalidNumber_value : PySem.W.findIn K (.ref C_InvalidNumber) "value" = some none)
    (q_xa_InvalidWord_part : PySem.W.findIn K (.ref C_InvalidWord) "part" = some none)
    (q_InvalidName_xfga : PySem.W.findIn K (.ref C_InvalidName) "__getattribute__" = some (some (.builtin "BaseException.__getattribute__")))
    (q_InvalidName_xfgg : PySem.W.findIn K (.ref C_InvalidName) "__getattr__" = some none)
    (q_InvalidName_xfex : PySem.W.subIn K (.ref C_InvalidName) (.type "BaseException") = some true)
    (q_InvalidName_xfhd : PySem.W.hasDictIn K C_InvalidName = true)
    (q_InvalidNumber_xfga : PySem.W.findIn K (.ref C_InvalidNumber) "__getattribute__" = some (some (.builtin "BaseException.__getattribute__")))
    (q_InvalidNumber_xfgg : PySem.W.findIn K (.ref C_InvalidNumber) "__getattr__" = some none)
    (q_InvalidNumber_xfex : PySem.W.subIn K (.ref C_InvalidNumber) (.type "BaseException") = some true)
    (q_InvalidNumber_xfhd : PySem.W.hasDictIn K C_InvalidNumber = true)
    (q_InvalidWord_xfga : PySem.W.findIn K (.ref C_InvalidWord) "__getattribute__" = some (some (.builtin "BaseException.__getattribute__")))
    (q_InvalidWord_xfgg : PySem.W.findIn K (.ref C_InvalidWord) "__getattr__" = some none)
    (q_InvalidWord_xfex : PySem.W.subIn K (.ref C_InvalidWord) (.type "BaseException") = some true)
    (q_InvalidWord_xfhd : PySem.W.hasDictIn K C_InvalidWord = true)
    (q_xm_InvalidName_OrError : PySem.W.exmOne K (.ref C_InvalidName) (.ref C_OrError) = some true)
    (q_xm_InvalidNumber_OrError : PySem.W.exmOne K (.ref C_InvalidNumber) (.ref C_OrError) = some true)
    (q_xm_InvalidWord_OrError : PySem.W.exmOne K (.ref C_InvalidWord) (.ref C_OrError) = some true)
    (q_Signals_getitem___fnI : PySem.W.fnIn K f_Signals_getitem__ = true)
    (q_Word_getitem___fnI : PySem.W.fnIn K f_Word_getitem__ = true)
    {oc_InvalidName_init__ kV_InvalidName_init__ dc_InvalidName_init__ pm_InvalidName_init__ cd_InvalidName_init__ ct_InvalidName_init__ : Value}
    {od_InvalidName_init__ an_InvalidName_init__ : Option Addr}
    {sl_InvalidName_init__ : Array (Option Value)}
    (l_InvalidName_init__ : K.lookup f_InvalidName_init__ = some ⟨oc_InvalidName_init__, od_InvalidName_init__, .func (PySem.W.fnOf "__init__" "InvalidName.__init__" (defArgs s_InvalidName_init__) (defBody s_InvalidName_init__) (defScope s_InvalidName_init__) .none kV_InvalidName_init__ dc_InvalidName_init__ pm_InvalidName_init__ an_InvalidName_init__ cd_InvalidName_init__ ct_InvalidName_init__), sl_InvalidName_init__⟩)
    (c_InvalidName_init__ : PySem.W.codeIn K cd_InvalidName_init__ "InvalidName.__init__" = true)
    (k_InvalidName_init__ : PySem.W.keepIn K (.ref f_InvalidName_init__) = true)
    {oc_InvalidNumber_init__ kV_InvalidNumber_init__ dc_InvalidNumber_init__ pm_InvalidNumber_init__ cd_InvalidNumber_init__ ct_InvalidNumber_init__ : Value}
    {od_InvalidNumber_init__ an_InvalidNumber_init__ : Option Addr}
    {sl_InvalidNumber_init__ : Array (Option Value)}
    (l_InvalidNumber_init__ : K.lookup f_InvalidNumber_init__ = some ⟨oc_InvalidNumber_init__, od_InvalidNumber_init__, .func (PySem.W.fnOf "__init__" "InvalidNumber.__init__" (defArgs s_InvalidNumber_init__) (defBody s_InvalidNumber_init__) (defScope s_InvalidNumber_init__) .none kV_InvalidNumber_init__ dc_InvalidNumber_init__ pm_InvalidNumber_init__ an_InvalidNumber_init__ cd_InvalidNumber_init__ ct_InvalidNumber_init__), sl_InvalidNumber_init__⟩)
    (c_InvalidNumber_init__ : PySem.W.codeIn K cd_InvalidNumber_init__ "InvalidNumber.__init__" = true)
    (k_InvalidNumber_init__ : PySem.W.keepIn K (.ref f_InvalidNumber_init__) = true)
    {oc_InvalidWord_init__ kV_InvalidWord_init__ dc_InvalidWord_init__ pm_InvalidWord_init__ cd_InvalidWord_init__ ct_InvalidWord_init__ : Value}
    {od_InvalidWord_init__ an_InvalidWord_init__ : Option Addr}
    {sl_InvalidWord_init__ : Array (Option Value)}
    (l_InvalidWord_init__ : K.lookup f_InvalidWord_init__ = some ⟨oc_InvalidWord_init__, od_InvalidWord_init__, .func (PySem.W.fnOf "__init__" "InvalidWord.__init__" (defArgs s_InvalidWord_init__) (defBody s_InvalidWord_init__) (defScope s_InvalidWord_init__) .none kV_InvalidWord_init__ dc_InvalidWord_init__ pm_InvalidWord_init__ an_InvalidWord_init__ cd_InvalidWord_init__ ct_InvalidWord_init__), sl_InvalidWord_init__⟩)
    (c_InvalidWord_init__ : PySem.W.codeIn K cd_InvalidWord_init__ "InvalidWord.__init__" = true)
    (k_InvalidWord_init__ : PySem.W.keepIn K (.ref f_InvalidWord_init__) = true)
    {f_is_integer : Addr}
    (a_is_integer : PySem.W.nsIn K mainGlobals "is_integer" = some (some (.ref f_is_integer)))
    {oc_is_integer kV_is_integer dc_is_integer pm_is_integer cd_is_integer ct_is_integer : Value}
    {od_is_integer an_is_integer : Option Addr}
    {sl_is_integer : Array (Option Value)}
    (l_is_integer : K.lookup f_is_integer = some ⟨oc_is_integer, od_is_integer, .func (PySem.W.fnOf "is_integer" "is_integer" (defArgs s_is_integer) (defBody s_is_integer) (defScope s_is_integer) .none kV_is_integer dc_is_integer pm_is_integer an_is_integer cd_is_integer ct_is_integer), sl_is_integer⟩)
    (c_is_integer : PySem.W.codeIn K cd_is_integer "is_integer" = true)
    (k_is_integer : PySem.W.keepIn K (.ref f_is_integer) = true)
    {f_is_between : Addr}
    (a_is_between : PySem.W.nsIn K mainGlobals "is_between" = some (some (.ref f_is_between)))
    {oc_is_between kV_is_between dc_is_between pm_is_between cd_is_between ct_is_between : Value}
    {od_is_between an_is_between : Option Addr}
    {sl_is_between : Array (Option Value)}
    (l_is_between : K.lookup f_is_between = some ⟨oc_is_between, od_is_between, .func (PySem.W.fnOf "is_between" "is_between" (defArgs s_is_between) (defBody s_is_between) (defScope s_is_between) .none kV_is_between dc_is_between pm_is_between an_is_between cd_is_between ct_is_between), sl_is_between⟩)
    (c_is_between : PySem.W.codeIn K cd_is_between "is_between" = true)
    (k_is_between : PySem.W.keepIn K (.ref f_is_between) = true)
    {f_is_name : Addr}
    (a_is_name : PySem.W.nsIn K mainGlobals "is_name" = some (some (.ref f_is_name)))
    {oc_is_name kV_is_name dc_is_name pm_is_name cd_is_name ct_is_name : Value}
    {od_is_name an_is_name : Option Addr}
    {sl_is_name : Array (Option Value)}
    (l_is_name : K.lookup f_is_name = some ⟨oc_is_name, od_is_name, .func (PySem.W.fnOf "is_name" "is_name" (defArgs s_is_name) (defBody s_is_name) (defScope s_is_name) .none kV_is_name dc_is_name pm_is_name an_is_name cd_is_name ct_is_name), sl_is_name⟩)
    (c_is_name : PySem.W.codeIn K cd_is_name "is_name" = true)
    (k_is_name : PySem.W.keepIn K (.ref f_is_name) = true)
    {f_need_told : Addr}
    (a_need_told : PySem.W.nsIn K mainGlobals "need_told" = some (some (.ref f_need_told)))
    {df_need_told : Addr}
    {oc_need_told kV_need_told dc_need_told pm_need_told cd_need_told ct_need_told : Value}
    {od_need_told an_need_told : Option Addr}
    {sl_need_told : Array (Option Value)}
    (l_need_told : K.lookup f_need_told = some ⟨oc_need_told, od_need_told, .func (PySem.W.fnOf "need_told" "need_told" (defArgs s_need_told) (defBody s_need_told) (defScope s_need_told) (.ref df_need_told) kV_need_told dc_need_told pm_need_told an_need_told cd_need_told ct_need_told), sl_need_told⟩)
    (c_need_told : PySem.W.codeIn K cd_need_told "need_told" = true)
    (k_need_told : PySem.W.keepIn K (.ref f_need_told) = true)
    {de_need_told : Addr}
    {dod_need_told : Option Addr}
    {dn_need_told : Nat}
    {dsl_need_told : Array (Option Value)}
    (q_df__need_told : K.lookup df_need_told = some ⟨.type "tuple", dod_need_told, .seq #[.ref de_need_told] dn_need_told, dsl_need_told⟩)
    {eod_need_told : Option Addr}
    {en_need_told : Nat}
    {esl_need_told : Array (Option Value)}
    (q_de__need_told : K.lookup de_need_told = some ⟨.type "tuple", eod_need_told, .seq #[] en_need_told, esl_need_told⟩)
    {oc_Signals_init__ kV_Signals_init__ dc_Signals_init__ pm_Signals_init__ cd_Signals_init__ ct_Signals_init__ : Value}
    {od_Signals_init__ an_Signals_init__ : Option Addr}
    {sl_Signals_init__ : Array (Option Value)}
    (l_Signals_init__ : K.lookup f_Signals_init__ = some ⟨oc_Signals_init__, od_Signals_init__, .func (PySem.W.fnOf "__init__" "Signals.__init__" (defArgs s_Signals_init__) (defBody s_Signals_init__) (defScope s_Signals_init__) .none kV_Signals_init__ dc_Signals_init__ pm_Signals_init__ an_Signals_init__ cd_Signals_init__ ct_Signals_init__), sl_Signals_init__⟩)
    (c_Signals_init__ : PySem.W.codeIn K cd_Signals_init__ "Signals.__init__" = true)
    (k_Signals_init__ : PySem.W.keepIn K (.ref f_Signals_init__) = true)
    {oc_Signals_of kV_Signals_of dc_Signals_of pm_Signals_of cd_Signals_of ct_Signals_of : Value}
    {od_Signals_of an_Signals_of : Option Addr}
    {sl_Signals_of : Array (Option Value)}
    (l_Signals_of : K.lookup f_Signals_of = some ⟨oc_Signals_of, od_Signals_of, .func (PySem.W.fnOf "of" "Signals.of" (defArgs s_Signals_of) (defBody s_Signals_of) (defScope s_Signals_of) .none kV_Signals_of dc_Signals_of pm_Signals_of an_Signals_of cd_Signals_of ct_Signals_of), sl_Signals_of⟩)
    (c_Signals_of : PySem.W.codeIn K cd_Signals_of "Signals.of" = true)
    (k_Signals_of : PySem.W.keepIn K (.ref f_Signals_of) = true)
    {oc_Signals_getitem__ kV_Signals_getitem__ dc_Signals_getitem__ pm_Signals_getitem__ cd_Signals_getitem__ ct_Signals_getitem__ : Value}
    {od_Signals_getitem__ an_Signals_getitem__ : Option Addr}
    {sl_Signals_getitem__ : Array (Option Value)}
    (l_Signals_getitem__ : K.lookup f_Signals_getitem__ = some ⟨oc_Signals_getitem__, od_Signals_getitem__, .func (PySem.W.fnOf "__getitem__" "Signals.__getitem__" (defArgs s_Signals_getitem__) (defBody s_Signals_getitem__) (defScope s_Signals_getitem__) .none kV_Signals_getitem__ dc_Signals_getitem__ pm_Signals_getitem__ an_Signals_getitem__ cd_Signals_getitem__ ct_Signals_getitem__), sl_Signals_getitem__⟩)
    (c_Signals_getitem__ : PySem.W.codeIn K cd_Signals_getitem__ "Signals.__getitem__" = true)
    (k_Signals_getitem__ : PySem.W.keepIn K (.ref f_Signals_getitem__) = true)
    {oc_Signals_eq__ kV_Signals_eq__ dc_Signals_eq__ pm_Signals_eq__ cd_Signals_eq__ ct_Signals_eq__ : Value}
    {od_Signals_eq__ an_Signals_eq__ : Option Addr}
    {sl_Signals_eq__ : Array (Option Value)}
    (l_Signals_eq__ : K.lookup f_Signals_eq__ = some ⟨oc_Signals_eq__, od_Signals_eq__, .func (PySem.W.fnOf "__eq__" "Signals.__eq__" (defArgs s_Signals_eq__) (defBody s_Signals_eq__) (defScope s_Signals_eq__) .none kV_Signals_eq__ dc_Signals_eq__ pm_Signals_eq__ an_Signals_eq__ cd_Signals_eq__ ct_Signals_eq__), sl_Signals_eq__⟩)
    (c_Signals_eq__ : PySem.W.codeIn K cd_Signals_eq__ "Signals.__eq__" = true)
    (k_Signals_eq__ : PySem.W.keepIn K (.ref f_Signals_eq__) = true)
    {oc_Word_init__ kV_Word_init__ dc_Word_init__ pm_Word_init__ cd_Word_init__ ct_Word_init__ : Value}
    {od_Word_init__ an_Word_init__ : Option Addr}
    {sl_Word_init__ : Array (Option Value)}
    (l_Word_init__ : K.lookup f_Word_init__ = some ⟨oc_Word_init__, od_Word_init__, .func (PySem.W.fnOf "__init__" "Word.__init__" (defArgs s_Word_init__) (defBody s_Word_init__) (defScope s_Word_init__) .none kV_Word_init__ dc_Word_init__ pm_Word_init__ an_Word_init__ cd_Word_init__ ct_Word_init__), sl_Word_init__⟩)
    (c_Word_init__ : PySem.W.codeIn K cd_Word_init__ "Word.__init__" = true)
    (k_Word_init__ : PySem.W.keepIn K (.ref f_Word_init__) = true)
    {oc_Word_of kV_Word_of dc_Word_of pm_Word_of cd_Word_of ct_Word_of : Value}
    {od_Word_of an_Word_of : Option Addr}
    {sl_Word_of : Array (Option Value)}
    (l_Word_of : K.lookup f_Word_of = some ⟨oc_Word_of, od_Word_of, .func (PySem.W.fnOf "of" "Word.of" (defArgs s_Word_of) (defBody s_Word_of) (defScope s_Word_of) .none kV_Word_of dc_Word_of pm_Word_of an_Word_of cd_Word_of ct_Word_of), sl_Word_of⟩)
    (c_Word_of : PySem.W.codeIn K cd_Word_of "Word.of" = true)
    (k_Word_of : PySem.W.keepIn K (.ref f_Word_of) = true)
    {oc_Word_getitem__ kV_Word_getitem__ dc_Word_getitem__ pm_Word_getitem__ cd_Word_getitem__ ct_Word_getitem__ : Value}
    {od_Word_getitem__ an_Word_getitem__ : Option Addr}
    {sl_Word_getitem__ : Array (Option Value)}
    (l_Word_getitem__ : K.lookup f_Word_getitem__ = some ⟨oc_Word_getitem__, od_Word_getitem__, .func (PySem.W.fnOf "__getitem__" "Word.__getitem__" (defArgs s_Word_getitem__) (defBody s_Word_getitem__) (defScope s_Word_getitem__) .none kV_Word_getitem__ dc_Word_getitem__ pm_Word_getitem__ an_Word_getitem__ cd_Word_getitem__ ct_Word_getitem__), sl_Word_getitem__⟩)
    (c_Word_getitem__ : PySem.W.codeIn K cd_Word_getitem__ "Word.__getitem__" = true)
    (k_Word_getitem__ : PySem.W.keepIn K (.ref f_Word_getitem__) = true)
    {oc_Word_eq__ kV_Word_eq__ dc_Word_eq__ pm_Word_eq__ cd_Word_eq__ ct_Word_eq__ : Value}
    {od_Word_eq__ an_Word_eq__ : Option Addr}
    {sl_Word_eq__ : Array (Option Value)}
    (l_Word_eq__ : K.lookup f_Word_eq__ = some ⟨oc_Word_eq__, od_Word_eq__, .func (PySem.W.fnOf "__eq__" "Word.__eq__" (defArgs s_Word_eq__) (defBody s_Word_eq__) (defScope s_Word_eq__) .none kV_Word_eq__ dc_Word_eq__ pm_Word_eq__ an_Word_eq__ cd_Word_eq__ ct_Word_eq__), sl_Word_eq__⟩)
    (c_Word_eq__ : PySem.W.codeIn K cd_Word_eq__ "Word.__eq__" = true)
    (k_Word_eq__ : PySem.W.keepIn K (.ref f_Word_eq__) = true)
    {oc_Word_str__ kV_Word_str__ dc_Word_str__ pm_Word_str__ cd_Word_str__ ct_Word_str__ : Value}
    {od_Word_str__ an_Word_str__ : Option Addr}
    {sl_Word_str__ : Array (Option Value)}
    (l_Word_str__ : K.lookup f_Word_str__ = some ⟨oc_Word_str__, od_Word_str__, .func (PySem.W.fnOf "__str__" "Word.__str__" (defArgs s_Word_str__) (defBody s_Word_str__) (defScope s_Word_str__) .none kV_Word_str__ dc_Word_str__ pm_Word_str__ an_Word_str__ cd_Word_str__ ct_Word_str__), sl_Word_str__⟩)
    (c_Word_str__ : PySem.W.codeIn K cd_Word_str__ "Word.__str__" = true)
    (k_Word_str__ : PySem.W.keepIn K (.ref f_Word_str__) = true)
    {f_law_pen : Addr}
    (a_law_pen : PySem.W.nsIn K mainGlobals "_law_pen" = some (some (.ref f_law_pen)))
    {oc_law_pen kV_law_pen dc_law_pen pm_law_pen cd_law_pen ct_law_pen : Value}
    {od_law_pen an_law_pen : Option Addr}
    {sl_law_pen : Array (Option Value)}
    (l_law_pen : K.lookup f_law_pen = some ⟨oc_law_pen, od_law_pen, .func (PySem.W.fnOf "_law_pen" "_law_pen" (defArgs s_law_pen) (defBody s_law_pen) (defScope s_law_pen) .none kV_law_pen dc_law_pen pm_law_pen an_law_pen cd_law_pen ct_law_pen), sl_law_pen⟩)
    (c_law_pen : PySem.W.codeIn K cd_law_pen "_law_pen" = true)
    (k_law_pen : PySem.W.keepIn K (.ref f_law_pen) = true)
    {f_law_draw : Addr}
    (a_law_draw : PySem.W.nsIn K mainGlobals "_law_draw" = some (some (.ref f_law_draw)))
    {oc_law_draw kV_law_draw dc_law_draw pm_law_draw cd_law_draw ct_law_draw : Value}
    {od_law_draw an_law_draw : Option Addr}
    {sl_law_draw : Array (Option Value)}
    (l_law_draw : K.lookup f_law_draw = some ⟨oc_law_draw, od_law_draw, .func (PySem.W.fnOf "_law_draw" "_law_draw" (defArgs s_law_draw) (defBody s_law_draw) (defScope s_law_draw) .none kV_law_draw dc_law_draw pm_law_draw an_law_draw cd_law_draw ct_law_draw), sl_law_draw⟩)
    (c_law_draw : PySem.W.codeIn K cd_law_draw "_law_draw" = true)
    (k_law_draw : PySem.W.keepIn K (.ref f_law_draw) = true)
    {f_law_pick : Addr}
    (a_law_pick : PySem.W.nsIn K mainGlobals "_law_pick" = some (some (.ref f_law_pick)))
    {oc_law_pick kV_law_pick dc_law_pick pm_law_pick cd_law_pick ct_law_pick : Value}
    {od_law_pick an_law_pick : Option Addr}
    {sl_law_pick : Array (Option Value)}
    (l_law_pick : K.lookup f_law_pick = some ⟨oc_law_pick, od_law_pick, .func (PySem.W.fnOf "_law_pick" "_law_pick" (defArgs s_law_pick) (defBody s_law_pick) (defScope s_law_pick) .none kV_law_pick dc_law_pick pm_law_pick an_law_pick cd_law_pick ct_law_pick), sl_law_pick⟩)
    (c_law_pick : PySem.W.codeIn K cd_law_pick "_law_pick" = true)
    (k_law_pick : PySem.W.keepIn K (.ref f_law_pick) = true)
    {f_law_names : Addr}
    (a_law_names : PySem.W.nsIn K mainGlobals "_law_names" = some (some (.ref f_law_names)))
    {oc_law_names kV_law_names dc_law_names pm_law_names cd_law_names ct_law_names : Value}
    {od_law_names an_law_names : Option Addr}
    {sl_law_names : Array (Option Value)}
    (l_law_names : K.lookup f_law_names = some ⟨oc_law_names, od_law_names, .func (PySem.W.fnOf "_law_names" "_law_names" (defArgs s_law_names) (defBody s_law_names) (defScope s_law_names) .none kV_law_names dc_law_names pm_law_names an_law_names cd_law_names ct_law_names), sl_law_names⟩)
    (c_law_names : PySem.W.codeIn K cd_law_names "_law_names" = true)
    (k_law_names : PySem.W.keepIn K (.ref f_law_names) = true)
    {f_law_is_name : Addr}
    (a_law_is_name : PySem.W.nsIn K mainGlobals "_law_is_name" = some (some (.ref f_law_is_name)))
    {oc_law_is_name kV_law_is_name dc_law_is_name pm_law_is_name cd_law_is_name ct_law_is_name : Value}
    {od_law_is_name an_law_is_name : Option Addr}
    {sl_law_is_name : Array (Option Value)}
    (l_law_is_name : K.lookup f_law_is_name = some ⟨oc_law_is_name, od_law_is_name, .func (PySem.W.fnOf "_law_is_name" "_law_is_name" (defArgs s_law_is_name) (defBody s_law_is_name) (defScope s_law_is_name) .none kV_law_is_name dc_law_is_name pm_law_is_name an_law_is_name cd_law_is_name ct_law_is_name), sl_law_is_name⟩)
    (c_law_is_name : PySem.W.codeIn K cd_law_is_name "_law_is_name" = true)
    (k_law_is_name : PySem.W.keepIn K (.ref f_law_is_name) = true)
    {f_law_is_between : Addr}
    (a_law_is_between : PySem.W.nsIn K mainGlobals "_law_is_between" = some (some (.ref f_law_is_between)))
    {oc_law_is_between kV_law_is_between dc_law_is_between pm_law_is_between cd_law_is_between ct_law_is_between : Value}
    {od_law_is_between an_law_is_between : Option Addr}
    {sl_law_is_between : Array (Option Value)}
    (l_law_is_between : K.lookup f_law_is_between = some ⟨oc_law_is_between, od_law_is_between, .func (PySem.W.fnOf "_law_is_between" "_law_is_between" (defArgs s_law_is_between) (defBody s_law_is_between) (defScope s_law_is_between) .none kV_law_is_between dc_law_is_between pm_law_is_between an_law_is_between cd_law_is_between ct_law_is_between), sl_law_is_between⟩)
    (c_law_is_between : PySem.W.codeIn K cd_law_is_between "_law_is_between" = true)
    (k_law_is_between : PySem.W.keepIn K (.ref f_law_is_between) = true)
    {f_law_fault : Addr}
    (a_law_fault : PySem.W.nsIn K mainGlobals "_law_fault" = some (some (.ref f_law_fault)))
    {oc_law_fault kV_law_fault dc_law_fault pm_law_fault cd_law_fault ct_law_fault : Value}
    {od_law_fault an_law_fault : Option Addr}
    {sl_law_fault : Array (Option Value)}
    (l_law_fault : K.lookup f_law_fault = some ⟨oc_law_fault, od_law_fault, .func (PySem.W.fnOf "_law_fault" "_law_fault" (defArgs s_law_fault) (defBody s_law_fault) (defScope s_law_fault) .none kV_law_fault dc_law_fault pm_law_fault an_law_fault cd_law_fault ct_law_fault), sl_law_fault⟩)
    (c_law_fault : PySem.W.codeIn K cd_law_fault "_law_fault" = true)
    (k_law_fault : PySem.W.keepIn K (.ref f_law_fault) = true)
    {f_law_heard : Addr}
    (a_law_heard : PySem.W.nsIn K mainGlobals "_law_heard" = some (some (.ref f_law_heard)))
    {oc_law_heard kV_law_heard dc_law_heard pm_law_heard cd_law_heard ct_law_heard : Value}
    {od_law_heard an_law_heard : Option Addr}
    {sl_law_heard : Array (Option Value)}
    (l_law_heard : K.lookup f_law_heard = some ⟨oc_law_heard, od_law_heard, .func (PySem.W.fnOf "_law_heard" "_law_heard" (defArgs s_law_heard) (defBody s_law_heard) (defScope s_law_heard) .none kV_law_heard dc_law_heard pm_law_heard an_law_heard cd_law_heard ct_law_heard), sl_law_heard⟩)
    (c_law_heard : PySem.W.codeIn K cd_law_heard "_law_heard" = true)
    (k_law_heard : PySem.W.keepIn K (.ref f_law_heard) = true)
    {f_law_odd : Addr}
    (a_law_odd : PySem.W.nsIn K mainGlobals "_law_odd" = some (some (.ref f_law_odd)))
    {oc_law_odd kV_law_odd dc_law_odd pm_law_odd cd_law_odd ct_law_odd : Value}
    {od_law_odd an_law_odd : Option Addr}
    {sl_law_odd : Array (Option Value)}
    (l_law_odd : K.lookup f_law_odd = some ⟨oc_law_odd, od_law_odd, .func (PySem.W.fnOf "_law_odd" "_law_odd" (defArgs s_law_odd) (defBody s_law_odd) (defScope s_law_odd) .none kV_law_odd dc_law_odd pm_law_odd an_law_odd cd_law_odd ct_law_odd), sl_law_odd⟩)
    (c_law_odd : PySem.W.codeIn K cd_law_odd "_law_odd" = true)
    (k_law_odd : PySem.W.keepIn K (.ref f_law_odd) = true)
    {f_law_fields : Addr}
    (a_law_fields : PySem.W.nsIn K mainGlobals "_law_fields" = some (some (.ref f_law_fields)))
    {oc_law_fields kV_law_fields dc_law_fields pm_law_fields cd_law_fields ct_law_fields : Value}
    {od_law_fields an_law_fields : Option Addr}
    {sl_law_fields : Array (Option Value)}
    (l_law_fields : K.lookup f_law_fields = some ⟨oc_law_fields, od_law_fields, .func (PySem.W.fnOf "_law_fields" "_law_fields" (defArgs s_law_fields) (defBody s_law_fields) (defScope s_law_fields) .none kV_law_fields dc_law_fields pm_law_fields an_law_fields cd_law_fields ct_law_fields), sl_law_fields⟩)
    (c_law_fields : PySem.W.codeIn K cd_law_fields "_law_fields" = true)
    (k_law_fields : PySem.W.keepIn K (.ref f_law_fields) = true)
    {f_law_text : Addr}
    (a_law_text : PySem.W.nsIn K mainGlobals "_law_text" = some (some (.ref f_law_text)))
    {oc_law_text kV_law_text dc_law_text pm_law_text cd_law_text ct_law_text : Value}
    {od_law_text an_law_text : Option Addr}
    {sl_law_text : Array (Option Value)}
    (l_law_text : K.lookup f_law_text = some ⟨oc_law_text, od_law_text, .func (PySem.W.fnOf "_law_text" "_law_text" (defArgs s_law_text) (defBody s_law_text) (defScope s_law_text) .none kV_law_text dc_law_text pm_law_text an_law_text cd_law_text ct_law_text), sl_law_text⟩)
    (c_law_text : PySem.W.codeIn K cd_law_text "_law_text" = true)
    (k_law_text : PySem.W.keepIn K (.ref f_law_text) = true)
    {f_law_right : Addr}
    (a_law_right : PySem.W.nsIn K mainGlobals "_law_right" = some (some (.ref f_law_right)))
    {oc_law_right kV_law_right dc_law_right pm_law_right cd_law_right ct_law_right : Value}
    {od_law_right an_law_right : Option Addr}
    {sl_law_right : Array (Option Value)}
    (l_law_right : K.lookup f_law_right = some ⟨oc_law_right, od_law_right, .func (PySem.W.fnOf "_law_right" "_law_right" (defArgs s_law_right) (defBody s_law_right) (defScope s_law_right) .none kV_law_right dc_law_right pm_law_right an_law_right cd_law_right ct_law_right), sl_law_right⟩)
    (c_law_right : PySem.W.codeIn K cd_law_right "_law_right" = true)
    (k_law_right : PySem.W.keepIn K (.ref f_law_right) = true)
    {f_law_refused_right : Addr}
    (a_law_refused_right : PySem.W.nsIn K mainGlobals "_law_refused_right" = some (some (.ref f_law_refused_right)))
    {oc_law_refused_right kV_law_refused_right dc_law_refused_right pm_law_refused_right cd_law_refused_right ct_law_refused_right : Value}
    {od_law_refused_right an_law_refused_right : Option Addr}
    {sl_law_refused_right : Array (Option Value)}
    (l_law_refused_right : K.lookup f_law_refused_right = some ⟨oc_law_refused_right, od_law_refused_right, .func (PySem.W.fnOf "_law_refused_right" "_law_refused_right" (defArgs s_law_refused_right) (defBody s_law_refused_right) (defScope s_law_refused_right) .none kV_law_refused_right dc_law_refused_right pm_law_refused_right an_law_refused_right cd_law_refused_right ct_law_refused_right), sl_law_refused_right⟩)
    (c_law_refused_right : PySem.W.codeIn K cd_law_refused_right "_law_refused_right" = true)
    (k_law_refused_right : PySem.W.keepIn K (.ref f_law_refused_right) = true)
    {f_law_named_right : Addr}
    (a_law_named_right : PySem.W.nsIn K mainGlobals "_law_named_right" = some (some (.ref f_law_named_right)))
    {oc_law_named_right kV_law_named_right dc_law_named_right pm_law_named_right cd_law_named_right ct_law_named_right : Value}
    {od_law_named_right an_law_named_right : Option Addr}
    {sl_law_named_right : Array (Option Value)}
    (l_law_named_right : K.lookup f_law_named_right = some ⟨oc_law_named_right, od_law_named_right, .func (PySem.W.fnOf "_law_named_right" "_law_named_right" (defArgs s_law_named_right) (defBody s_law_named_right) (defScope s_law_named_right) .none kV_law_named_right dc_law_named_right pm_law_named_right an_law_named_right cd_law_named_right ct_law_named_right), sl_law_named_right⟩)
    (c_law_named_right : PySem.W.codeIn K cd_law_named_right "_law_named_right" = true)
    (k_law_named_right : PySem.W.keepIn K (.ref f_law_named_right) = true)
    {f_law : Addr}
    (a_law : PySem.W.nsIn K mainGlobals "law" = some (some (.ref f_law)))
    {oc_law kV_law dc_law pm_law cd_law ct_law : Value}
    {od_law an_law : Option Addr}
    {sl_law : Array (Option Value)}
    (l_law : K.lookup f_law = some ⟨oc_law, od_law, .func (PySem.W.fnOf "law" "law" (defArgs s_law) (defBody s_law) (defScope s_law) .none kV_law dc_law pm_law an_law cd_law ct_law), sl_law⟩)
    (c_law : PySem.W.codeIn K cd_law "law" = true)
    (k_law : PySem.W.keepIn K (.ref f_law) = true)
    {t_DIGITS : Tok}
    (g_DIGITS : PySem.W.nsIn K mainGlobals "DIGITS" = some (some (.str "0123456789" t_DIGITS)))
    {t_LETTERS : Tok}
    (g_LETTERS : PySem.W.nsIn K mainGlobals "LETTERS" = some (some (.str "abcdefghijklmnopqrstuvwxyz" t_LETTERS)))
    {t_LONGEST : Tok}
    (g_LONGEST : PySem.W.nsIn K mainGlobals "LONGEST" = some (some (.int 8 t_LONGEST)))
    {t_MOST_BASE : Tok}
    (g_MOST_BASE : PySem.W.nsIn K mainGlobals "MOST_BASE" = some (some (.int 255 t_MOST_BASE)))
    {a_RESERVED : Addr}
    {t_RESERVED_0 t_RESERVED_1 t_RESERVED_2 t_RESERVED_3 t_RESERVED_4 : Tok}
    {od_RESERVED : Option Addr}
    {n_RESERVED : Nat}
    {sl_RESERVED : Array (Option Value)}
    (g_RESERVED : PySem.W.nsIn K mainGlobals "RESERVED" = some (some (.ref a_RESERVED)))
    (k_RESERVED : K.lookup a_RESERVED = some ⟨.type "tuple", od_RESERVED, .seq #[(.str "to" t_RESERVED_0), (.str "if" t_RESERVED_1), (.str "tag" t_RESERVED_2), (.str "all" t_RESERVED_3), (.str "none" t_RESERVED_4)] n_RESERVED, sl_RESERVED⟩)
    (z_ValueError : PySem.W.nsIn K mainGlobals "ValueError" = some none)
    (z_abs : PySem.W.nsIn K mainGlobals "abs" = some none)
    (z_all : PySem.W.nsIn K mainGlobals "all" = some none)
    (z_bool : PySem.W.nsIn K mainGlobals "bool" = some none)
    (z_dict : PySem.W.nsIn K mainGlobals "dict" = some none)
    (z_int : PySem.W.nsIn K mainGlobals "int" = some none)
    (z_isinstance : PySem.W.nsIn K mainGlobals "isinstance" = some none)
    (z_len : PySem.W.nsIn K mainGlobals "len" = some none)
    (z_list : PySem.W.nsIn K mainGlobals "list" = some none)
    (z_range : PySem.W.nsIn K mainGlobals "range" = some none)
    (z_repr : PySem.W.nsIn K mainGlobals "repr" = some none)
    (z_sorted : PySem.W.nsIn K mainGlobals "sorted" = some none)
    (z_str : PySem.W.nsIn K mainGlobals "str" = some none)
    (z_tuple : PySem.W.nsIn K mainGlobals "tuple" = some none)
    : ∃ fd : FuncData, (∀ (s : Shared) (v : Value), BindsTo s fd ⟨[v], []⟩ [("_law_script", v)]) ∧ ∀ base : Heap, K.In base → base.Ns mainGlobals mg → (∀ p ∈ ([(tbc_law_right, tbt_law_right), (tbc_law_refused_right, tbt_law_refused_right), (tbc_law_named_right, tbt_law_named_right), (tbc_law, tbt_law)] : List (Addr × Addr)), LamX.TabB base mg p.1 p.2) → FnG l.prog w K mg base (L2.CX l.prog w) 16 fa fd p_law (toSp K sp_law) := by
  have e := hfa.symm.trans (PySem.W.mg_of X G a_law)
  cases e
  exact ⟨PySem.W.fnOf "law" "law" (defArgs s_law) (defBody s_law) (defScope s_law) .none kV_law dc_law pm_law an_law cd_law ct_law, fun s v => .of_eq rfl, fun base _ _ tabs => ok_law { m_Signals := PySem.W.mg_of X G q_Signals_at, at_Signals := q_Signals_at, m_Word := PySem.W.mg_of X G q_Word_at, at_Word := q_Word_at, m_InvalidFrame := PySem.W.mg_of X G q_InvalidFrame_at, at_InvalidFrame := q_InvalidFrame_at, m_InvalidKind := PySem.W.mg_of X G q_InvalidKind_at, at_InvalidKind := q_InvalidKind_at, m_InvalidName := PySem.W.mg_of X G q_InvalidName_at, at_InvalidName := q_InvalidName_at, m_InvalidNumber := PySem.W.mg_of X G q_InvalidNumber_at, at_InvalidNumber := q_InvalidNumber_at, m_InvalidWord := PySem.W.mg_of X G q_InvalidWord_at, at_InvalidWord := q_InvalidWord_at, m_OrError := PySem.W.mg_of X G q_OrError_at, at_OrError := q_OrError_at, cl_Signals := ⟨q_Signals_pg, q_Signals_hd, q_Signals_po, q_Signals_sa⟩, cl_Word := ⟨q_Word_pg, q_Word_hd, q_Word_po, q_Word_sa⟩, cr_Signals := ⟨q_Signals_rd, q_Signals_ga⟩, cm_Signals_of := ⟨q_Signals_of_find, ⟨_, q_Signals_of_rec⟩, q_Signals_of_fi⟩, cr_Word := ⟨q_Word_rd, q_Word_ga⟩, cm_Word_of := ⟨q_Word_of_find, ⟨_, q_Word_of_rec⟩, q_Word_of_fi⟩, cv_Signals_MOST := q_cv_Signals_MOST, er_InvalidName := ⟨q_InvalidName_ercl, q_InvalidName_ergA, q_InvalidName_ergg, q_InvalidName_ersb, q_InvalidName_erca, q_InvalidName_ercg, q_InvalidName_ertk, q_InvalidName_erob⟩, er_InvalidNumber := ⟨q_InvalidNumber_ercl, q_InvalidNumber_ergA, q_InvalidNumber_ergg, q_InvalidNumber_ersb, q_InvalidNumber_erca, q_InvalidNumber_ercg, q_InvalidNumber_ertk, q_InvalidNumber_erob⟩, er_InvalidWord := ⟨q_InvalidWord_ercl, q_InvalidWord_ergA, q_InvalidWord_ergg, q_InvalidWord_ersb, q_InvalidWord_erca, q_InvalidWord_ercg, q_InvalidWord_ertk, q_InvalidWord_erob⟩, inf_Signals := ⟨⟨q_Signals_pg, q_Signals_hd, q_Signals_po, q_Signals_sa⟩, q_Signals_inf_ha, q_Signals_inf_hn, q_Signals_inf_tk, q_Signals_inf_hm⟩, inf_Word := ⟨⟨q_Word_pg, q_Word_hd, q_Word_po, q_Word_sa⟩, q_Word_inf_ha, q_Word_inf_hn, q_Word_inf_tk, q_Word_inf_hm⟩, isc_Signals := q_isc_Signals, isc_Word := q_isc_Word, kit_InvalidName_InvalidFrame := q_kit_InvalidName_InvalidFrame, kit_InvalidName_InvalidKind := q_kit_InvalidName_InvalidKind, kit_InvalidName_InvalidName := q_kit_InvalidName_InvalidName, kit_InvalidName_InvalidNumber := q_kit_InvalidName_InvalidNumber, kit_InvalidName_InvalidWord := q_kit_InvalidName_InvalidWord, kit_InvalidNumber_InvalidFrame := q_kit_InvalidNumber_InvalidFrame, kit_InvalidNumber_InvalidKind := q_kit_InvalidNumber_InvalidKind, kit_InvalidNumber_InvalidName := q_kit_InvalidNumber_InvalidName, kit_InvalidNumber_InvalidNumber := q_kit_InvalidNumber_InvalidNumber, kit_InvalidNumber_InvalidWord := q_kit_InvalidNumber_InvalidWord, kit_InvalidWord_InvalidFrame := q_kit_InvalidWord_InvalidFrame, kit_InvalidWord_InvalidKind := q_kit_InvalidWord_InvalidKind, kit_InvalidWord_InvalidName := q_kit_InvalidWord_InvalidName, kit_InvalidWord_InvalidNumber := q_kit_InvalidWord_InvalidNumber, kit_InvalidWord_InvalidWord := q_kit_InvalidWord_InvalidWord, kitC_Signals_Signals := q_kitC_Signals_Signals, kitC_Signals_Word := q_kitC_Signals_Word, kitC_Word_Word := q_kitC_Word_Word, kitT_InvalidName_ValueError := q_kitT_InvalidName_ValueError, kitT_InvalidNumber_ValueError := q_kitT_InvalidNumber_ValueError, kitT_InvalidWord_ValueError := q_kitT_InvalidWord_ValueError, mk_Signals := ⟨q_Signals_mkm, q_Signals_mki, q_Signals_mkf, q_Signals_mkk⟩, mk_Word := ⟨q_Word_mkm, q_Word_mki, q_Word_mkf, q_Word_mkk⟩, na_Signals_told := q_Signals_na_told, na_Word_base := q_Word_na_base, na_Word_kind := q_Word_na_kind, na_Word_signals := q_Word_na_signals, nec_Word := ⟨q_Word_nec_ne, q_Word_nec_ob⟩, oc_Signals___eq__ := ⟨q_Signals_eq___at, q_Signals_eq___fn⟩, oc_Signals___getitem__ := ⟨q_Signals_getitem___at, q_Signals_getitem___fn⟩, oc_Word___eq__ := ⟨q_Word_eq___at, q_Word_eq___fn⟩, oc_Word___getitem__ := ⟨q_Word_getitem___at, q_Word_getitem___fn⟩, oc_Word___str__ := ⟨q_Word_str___at, q_Word_str___fn⟩, ox_InvalidName := q_InvalidName_ox, ii_InvalidName := q_InvalidName_ii, ti_InvalidName := q_InvalidName_ti, xi_InvalidName_value := q_xi_InvalidName_value, ox_InvalidNumber := q_InvalidNumber_ox, ii_InvalidNumber := q_InvalidNumber_ii, ti_InvalidNumber := q_InvalidNumber_ti, xi_InvalidNumber_value := q_xi_InvalidNumber_value, ox_InvalidWord := q_InvalidWord_ox, ii_InvalidWord := q_InvalidWord_ii, ti_InvalidWord := q_InvalidWord_ti, xi_InvalidWord_part := q_xi_InvalidWord_part, sbn_Signals_Word := q_sbn_Signals_Word, smK := q_smK, tF_law_named_right := ⟨q_tb_law_named_right, a_law_named_right, tabs (tbc_law_named_right, tbt_law_named_right) (by simp)⟩, tF_law_refused_right := ⟨q_tb_law_refused_right, a_law_refused_right, tabs (tbc_law_refused_right, tbt_law_refused_right) (by simp)⟩, tF_law_right := ⟨q_tb_law_right, a_law_right, tabs (tbc_law_right, tbt_law_right) (by simp)⟩, tF_law := ⟨q_tb_law, a_law, tabs (tbc_law, tbt_law) (by simp)⟩, xa_InvalidName_value := q_xa_InvalidName_value, xa_InvalidNumber_value := q_xa_InvalidNumber_value, xa_InvalidWord_part := q_xa_InvalidWord_part, xf_InvalidName := ⟨q_InvalidName_xfga, q_InvalidName_xfgg, q_InvalidName_xfex, q_InvalidName_xfhd⟩, xf_InvalidNumber := ⟨q_InvalidNumber_xfga, q_InvalidNumber_xfgg, q_InvalidNumber_xfex, q_InvalidNumber_xfhd⟩, xf_InvalidWord := ⟨q_InvalidWord_xfga, q_InvalidWord_xfgg, q_InvalidWord_xfex, q_InvalidWord_xfhd⟩, xm_InvalidName_OrError := q_xm_InvalidName_OrError, xm_InvalidNumber_OrError := q_xm_InvalidNumber_OrError, xm_InvalidWord_OrError := q_xm_InvalidWord_OrError, fn_Signals___getitem__ := q_Signals_getitem___fnI, fn_Word___getitem__ := q_Word_getitem___fnI, l_InvalidName_init__ := l_InvalidName_init__, c_InvalidName_init__ := c_InvalidName_init__, k_InvalidName_init__ := k_InvalidName_init__, l_InvalidNumber_init__ := l_InvalidNumber_init__, c_InvalidNumber_init__ := c_InvalidNumber_init__, k_InvalidNumber_init__ := k_InvalidNumber_init__, l_InvalidWord_init__ := l_InvalidWord_init__, c_InvalidWord_init__ := c_InvalidWord_init__, k_InvalidWord_init__ := k_InvalidWord_init__, g_is_integer := PySem.W.mg_of X G a_is_integer, l_is_integer := l_is_integer, c_is_integer := c_is_integer, k_is_integer := k_is_integer, g_is_between := PySem.W.mg_of X G a_is_between, l_is_between := l_is_between, c_is_between := c_is_between, k_is_between := k_is_between, g_is_name := PySem.W.mg_of X G a_is_name, l_is_name := l_is_name, c_is_name := c_is_name, k_is_name := k_is_name, g_need_told := PySem.W.mg_of X G a_need_told, l_need_told := l_need_told, c_need_told := c_need_told, k_need_told := k_need_told, df__need_told := q_df__need_told, de__need_told := q_de__need_told, l_Signals_init__ := l_Signals_init__, c_Signals_init__ := c_Signals_init__, k_Signals_init__ := k_Signals_init__, l_Signals_of := l_Signals_of, c_Signals_of := c_Signals_of, k_Signals_of := k_Signals_of, l_Signals_getitem__ := l_Signals_getitem__, c_Signals_getitem__ := c_Signals_getitem__, k_Signals_getitem__ := k_Signals_getitem__, l_Signals_eq__ := l_Signals_eq__, c_Signals_eq__ := c_Signals_eq__, k_Signals_eq__ := k_Signals_eq__, l_Word_init__ := l_Word_init__, c_Word_init__ := c_Word_init__, k_Word_init__ := k_Word_init__, l_Word_of := l_Word_of, c_Word_of := c_Word_of, k_Word_of := k_Word_of, l_Word_getitem__ := l_Word_getitem__, c_Word_getitem__ := c_Word_getitem__, k_Word_getitem__ := k_Word_getitem__, l_Word_eq__ := l_Word_eq__, c_Word_eq__ := c_Word_eq__, k_Word_eq__ := k_Word_eq__, l_Word_str__ := l_Word_str__, c_Word_str__ := c_Word_str__, k_Word_str__ := k_Word_str__, g_law_pen := PySem.W.mg_of X G a_law_pen, l_law_pen := l_law_pen, c_law_pen := c_law_pen, k_law_pen := k_law_pen, g_law_draw := PySem.W.mg_of X G a_law_draw, l_law_draw := l_law_draw, c_law_draw := c_law_draw, k_law_draw := k_law_draw, g_law_pick := PySem.W.mg_of X G a_law_pick, l_law_pick := l_law_pick, c_law_pick := c_law_pick, k_law_pick := k_law_pick, g_law_names := PySem.W.mg_of X G a_law_names, l_law_names := l_law_names, c_law_names := c_law_names, k_law_names := k_law_names, g_law_is_name := PySem.W.mg_of X G a_law_is_name, l_law_is_name := l_law_is_name, c_law_is_name := c_law_is_name, k_law_is_name := k_law_is_name, g_law_is_between := PySem.W.mg_of X G a_law_is_between, l_law_is_between := l_law_is_between, c_law_is_between := c_law_is_between, k_law_is_between := k_law_is_between, g_law_fault := PySem.W.mg_of X G a_law_fault, l_law_fault := l_law_fault, c_law_fault := c_law_fault, k_law_fault := k_law_fault, g_law_heard := PySem.W.mg_of X G a_law_heard, l_law_heard := l_law_heard, c_law_heard := c_law_heard, k_law_heard := k_law_heard, g_law_odd := PySem.W.mg_of X G a_law_odd, l_law_odd := l_law_odd, c_law_odd := c_law_odd, k_law_odd := k_law_odd, g_law_fields := PySem.W.mg_of X G a_law_fields, l_law_fields := l_law_fields, c_law_fields := c_law_fields, k_law_fields := k_law_fields, g_law_text := PySem.W.mg_of X G a_law_text, l_law_text := l_law_text, c_law_text := c_law_text, k_law_text := k_law_text, g_law_right := PySem.W.mg_of X G a_law_right, l_law_right := l_law_right, c_law_right := c_law_right, k_law_right := k_law_right, g_law_refused_right := PySem.W.mg_of X G a_law_refused_right, l_law_refused_right := l_law_refused_right, c_law_refused_right := c_law_refused_right, k_law_refused_right := k_law_refused_right, g_law_named_right := PySem.W.mg_of X G a_law_named_right, l_law_named_right := l_law_named_right, c_law_named_right := c_law_named_right, k_law_named_right := k_law_named_right, g_law := PySem.W.mg_of X G a_law, l_law := l_law, c_law := c_law, k_law := k_law, g_DIGITS := PySem.W.mg_of X G g_DIGITS, g_LETTERS := PySem.W.mg_of X G g_LETTERS, g_LONGEST := PySem.W.mg_of X G g_LONGEST, g_MOST_BASE := PySem.W.mg_of X G g_MOST_BASE, g_RESERVED := PySem.W.mg_of X G g_RESERVED, k_RESERVED := k_RESERVED, z_ValueError := PySem.W.mg_none_of X G z_ValueError, z_abs := PySem.W.mg_none_of X G z_abs, z_all := PySem.W.mg_none_of X G z_all, z_bool := PySem.W.mg_none_of X G z_bool, z_dict := PySem.W.mg_none_of X G z_dict, z_int := PySem.W.mg_none_of X G z_int, z_isinstance := PySem.W.mg_none_of X G z_isinstance, z_len := PySem.W.mg_none_of X G z_len, z_list := PySem.W.mg_none_of X G z_list, z_range := PySem.W.mg_none_of X G z_range, z_repr := PySem.W.mg_none_of X G z_repr, z_sorted := PySem.W.mg_none_of X G z_sorted, z_str := PySem.W.mg_none_of X G z_str, z_tuple := PySem.W.mg_none_of X G z_tuple }⟩
def v_C_Signals (K : PySem.W.Frag) : Addr := L3.xRef (PySem.W.nsIn K mainGlobals "Signals")
def v_C_Word (K : PySem.W.Frag) : Addr := L3.xRef (PySem.W.nsIn K mainGlobals "Word")
def v_C_InvalidFrame (K : PySem.W.Frag) : Addr := L3.xRef (PySem.W.nsIn K mainGlobals "InvalidFrame")
def v_C_InvalidKind (K : PySem.W.Frag) : Addr := L3.xRef (PySem.W.nsIn K mainGlobals "InvalidKind")
def v_C_InvalidName (K : PySem.W.Frag) : Addr := L3.xRef (PySem.W.nsIn K mainGlobals "InvalidName")
def v_C_InvalidNumber (K : PySem.W.Frag) : Addr := L3.xRef (PySem.W.nsIn K mainGlobals "InvalidNumber")
def v_C_InvalidWord (K : PySem.W.Frag) : Addr := L3.xRef (PySem.W.nsIn K mainGlobals "InvalidWord")
def v_C_OrError (K : PySem.W.Frag) : Addr := L3.xRef (PySem.W.nsIn K mainGlobals "OrError")
def v_sp_a_Signals_of (K : PySem.W.Frag) : Addr := L3.xCg (PySem.W.findCls K (.ref (v_C_Signals K)) (.type "type") "of")
def v_f_Signals_of (K : PySem.W.Frag) : Addr := L3.xRecA (PySem.W.recIn K (v_sp_a_Signals_of K) "classmethod")
def v_rest_Signals_of (K : PySem.W.Frag) : List Value := L3.xRecR (PySem.W.recIn K (v_sp_a_Signals_of K) "classmethod")
def v_sp_a_Word_of (K : PySem.W.Frag) : Addr := L3.xCg (PySem.W.findCls K (.ref (v_C_Word K)) (.type "type") "of")
def v_f_Word_of (K : PySem.W.Frag) : Addr := L3.xRecA (PySem.W.recIn K (v_sp_a_Word_of K) "classmethod")
def v_rest_Word_of (K : PySem.W.Frag) : List Value := L3.xRecR (PySem.W.recIn K (v_sp_a_Word_of K) "classmethod")
def v_f_Signals_init__ (K : PySem.W.Frag) : Addr := L3.xRef (PySem.W.findIn K (.ref (v_C_Signals K)) "__init__")
def v_f_Word_init__ (K : PySem.W.Frag) : Addr := L3.xRef (PySem.W.findIn K (.ref (v_C_Word K)) "__init__")
def v_f_Signals_eq__ (K : PySem.W.Frag) : Addr := L3.xRef (PySem.W.findIn K (.ref (v_C_Signals K)) "__eq__")
def v_f_Signals_getitem__ (K : PySem.W.Frag) : Addr := L3.xRef (PySem.W.findIn K (.ref (v_C_Signals K)) "__getitem__")
def v_f_Word_eq__ (K : PySem.W.Frag) : Addr := L3.xRef (PySem.W.findIn K (.ref (v_C_Word K)) "__eq__")
def v_f_Word_getitem__ (K : PySem.W.Frag) : Addr := L3.xRef (PySem.W.findIn K (.ref (v_C_Word K)) "__getitem__")
def v_f_Word_str__ (K : PySem.W.Frag) : Addr := L3.xRef (PySem.W.findIn K (.ref (v_C_Word K)) "__str__")
def v_f_InvalidName_init__ (K : PySem.W.Frag) : Addr := L3.xRef (PySem.W.findIn K (.ref (v_C_InvalidName K)) "__init__")
def v_f_InvalidNumber_init__ (K : PySem.W.Frag) : Addr := L3.xRef (PySem.W.findIn K (.ref (v_C_InvalidNumber K)) "__init__")
def v_f_InvalidWord_init__ (K : PySem.W.Frag) : Addr := L3.xRef (PySem.W.findIn K (.ref (v_C_InvalidWord K)) "__init__")
def v_tbc_law_named_right (K : PySem.W.Frag) : Addr := L3.xTbC (PySem.W.tabIn K "_law_named_right")
def v_tbt_law_named_right (K : PySem.W.Frag) : Addr := L3.xTbT (PySem.W.tabIn K "_law_named_right")
def v_tbc_law_refused_right (K : PySem.W.Frag) : Addr := L3.xTbC (PySem.W.tabIn K "_law_refused_right")
def v_tbt_law_refused_right (K : PySem.W.Frag) : Addr := L3.xTbT (PySem.W.tabIn K "_law_refused_right")
def v_tbc_law_right (K : PySem.W.Frag) : Addr := L3.xTbC (PySem.W.tabIn K "_law_right")
def v_tbt_law_right (K : PySem.W.Frag) : Addr := L3.xTbT (PySem.W.tabIn K "_law_right")
def v_tbc_law (K : PySem.W.Frag) : Addr := L3.xTbC (PySem.W.tabIn K "law")
def v_tbt_law (K : PySem.W.Frag) : Addr := L3.xTbT (PySem.W.tabIn K "law")
def v_f_is_integer (K : PySem.W.Frag) : Addr := L3.xRef (PySem.W.nsIn K mainGlobals "is_integer")
def v_f_is_between (K : PySem.W.Frag) : Addr := L3.xRef (PySem.W.nsIn K mainGlobals "is_between")
def v_f_is_name (K : PySem.W.Frag) : Addr := L3.xRef (PySem.W.nsIn K mainGlobals "is_name")
def v_f_need_told (K : PySem.W.Frag) : Addr := L3.xRef (PySem.W.nsIn K mainGlobals "need_told")
def v_df_need_told (K : PySem.W.Frag) : Addr := L3.xV (L3.dfV K (v_f_need_told K))
def v_de_need_told (K : PySem.W.Frag) : Addr := L3.xV (L3.xIt K (v_df_need_told K) 0)
def v_f_law_pen (K : PySem.W.Frag) : Addr := L3.xRef (PySem.W.nsIn K mainGlobals "_law_pen")
def v_f_law_draw (K : PySem.W.Frag) : Addr := L3.xRef (PySem.W.nsIn K mainGlobals "_law_draw")
def v_f_law_pick (K : PySem.W.Frag) : Addr := L3.xRef (PySem.W.nsIn K mainGlobals "_law_pick")
def v_f_law_names (K : PySem.W.Frag) : Addr := L3.xRef (PySem.W.nsIn K mainGlobals "_law_names")
def v_f_law_is_name (K : PySem.W.Frag) : Addr := L3.xRef (PySem.W.nsIn K mainGlobals "_law_is_name")
def v_f_law_is_between (K : PySem.W.Frag) : Addr := L3.xRef (PySem.W.nsIn K mainGlobals "_law_is_between")
def v_f_law_fault (K : PySem.W.Frag) : Addr := L3.xRef (PySem.W.nsIn K mainGlobals "_law_fault")
def v_f_law_heard (K : PySem.W.Frag) : Addr := L3.xRef (PySem.W.nsIn K mainGlobals "_law_heard")
def v_f_law_odd (K : PySem.W.Frag) : Addr := L3.xRef (PySem.W.nsIn K mainGlobals "_law_odd")
def v_f_law_fields (K : PySem.W.Frag) : Addr := L3.xRef (PySem.W.nsIn K mainGlobals "_law_fields")
def v_f_law_text (K : PySem.W.Frag) : Addr := L3.xRef (PySem.W.nsIn K mainGlobals "_law_text")
def v_f_law_right (K : PySem.W.Frag) : Addr := L3.xRef (PySem.W.nsIn K mainGlobals "_law_right")
def v_f_law_refused_right (K : PySem.W.Frag) : Addr := L3.xRef (PySem.W.nsIn K mainGlobals "_law_refused_right")
def v_f_law_named_right (K : PySem.W.Frag) : Addr := L3.xRef (PySem.W.nsIn K mainGlobals "_law_named_right")
def v_f_law (K : PySem.W.Frag) : Addr := L3.xRef (PySem.W.nsIn K mainGlobals "law")
def v_t_DIGITS (K : PySem.W.Frag) : Tok := L3.xTok (PySem.W.nsIn K mainGlobals "DIGITS")
def v_t_LETTERS (K : PySem.W.Frag) : Tok := L3.xTok (PySem.W.nsIn K mainGlobals "LETTERS")
def v_t_LONGEST (K : PySem.W.Frag) : Tok := L3.xTok (PySem.W.nsIn K mainGlobals "LONGEST")
def v_t_MOST_BASE (K : PySem.W.Frag) : Tok := L3.xTok (PySem.W.nsIn K mainGlobals "MOST_BASE")
def v_a_RESERVED (K : PySem.W.Frag) : Addr := L3.xRef (PySem.W.nsIn K mainGlobals "RESERVED")
def v_t_RESERVED_0 (K : PySem.W.Frag) : Tok := L3.xVT (L3.xIt K (v_a_RESERVED K) 0)
def v_t_RESERVED_1 (K : PySem.W.Frag) : Tok := L3.xVT (L3.xIt K (v_a_RESERVED K) 1)
def v_t_RESERVED_2 (K : PySem.W.Frag) : Tok := L3.xVT (L3.xIt K (v_a_RESERVED K) 2)
def v_t_RESERVED_3 (K : PySem.W.Frag) : Tok := L3.xVT (L3.xIt K (v_a_RESERVED K) 3)
def v_t_RESERVED_4 (K : PySem.W.Frag) : Tok := L3.xVT (L3.xIt K (v_a_RESERVED K) 4)
def fl_0 : List L3.FrB := [
  fun K => decide (PySem.W.nsIn K mainGlobals "Signals" = some (some (.ref (v_C_Signals K)))),
  fun K => decide (PySem.W.nsIn K mainGlobals "Word" = some (some (.ref (v_C_Word K)))),
  fun K => decide (PySem.W.nsIn K mainGlobals "InvalidFrame" = some (some (.ref (v_C_InvalidFrame K)))),
  fun K => decide (PySem.W.nsIn K mainGlobals "InvalidKind" = some (some (.ref (v_C_InvalidKind K)))),
  fun K => decide (PySem.W.nsIn K mainGlobals "InvalidName" = some (some (.ref (v_C_InvalidName K)))),
  fun K => decide (PySem.W.nsIn K mainGlobals "InvalidNumber" = some (some (.ref (v_C_InvalidNumber K)))),
  fun K => decide (PySem.W.nsIn K mainGlobals "InvalidWord" = some (some (.ref (v_C_InvalidWord K)))),
  fun K => decide (PySem.W.nsIn K mainGlobals "OrError" = some (some (.ref (v_C_OrError K)))),
  fun K => PySem.W.plainGet K (v_C_Signals K) Str.empty,
  fun K => PySem.W.hasDictIn K (v_C_Signals K),
  fun K => PySem.W.plainOver K (v_C_Signals K),
  fun K => decide (PySem.W.findIn K (.ref (v_C_Signals K)) "__setattr__" = some (some (.builtin "object.__setattr__"))),
  fun K => PySem.W.plainGet K (v_C_Word K) Str.empty,
  fun K => PySem.W.hasDictIn K (v_C_Word K),
  fun K => PySem.W.plainOver K (v_C_Word K),
  fun K => decide (PySem.W.findIn K (.ref (v_C_Word K)) "__setattr__" = some (some (.builtin "object.__setattr__"))),
  fun K => PySem.W.readsIn K (v_C_Signals K) (.type "type"),
  fun K => decide (PySem.W.specialIn K (.ref (v_C_Signals K)) "__getattribute__" = some (some (.builtin "type.__getattribute__"))),
  fun K => L3.cgB (PySem.W.findCls K (.ref (v_C_Signals K)) (.type "type") "of") "classmethod.__get__" (v_C_Signals K),
  fun K => decide (PySem.W.recIn K (v_sp_a_Signals_of K) "classmethod" = some (.ref (v_f_Signals_of K) :: (v_rest_Signals_of K))),
  fun K => PySem.W.fnIn K (v_f_Signals_of K),
  fun K => PySem.W.readsIn K (v_C_Word K) (.type "type"),
  fun K => decide (PySem.W.specialIn K (.ref (v_C_Word K)) "__getattribute__" = some (some (.builtin "type.__getattribute__"))),
  fun K => L3.cgB (PySem.W.findCls K (.ref (v_C_Word K)) (.type "type") "of") "classmethod.__get__" (v_C_Word K),
  fun K => decide (PySem.W.recIn K (v_sp_a_Word_of K) "classmethod" = some (.ref (v_f_Word_of K) :: (v_rest_Word_of K))),
  fun K => PySem.W.fnIn K (v_f_Word_of K),
  fun K => L3.cvB (PySem.W.findCls K (.ref (v_C_Signals K)) (.type "type") "MOST") 1000000000,
  fun K => (PySem.W.clsIn K (v_C_InvalidName K)).isSome,
  fun K => decide (PySem.W.findIn K (.ref (v_C_InvalidName K)) "__getattribute__" = some (some (.builtin "BaseException.__getattribute__"))),
  fun K => decide (PySem.W.findIn K (.ref (v_C_InvalidName K)) "__getattr__" = some none),
  fun K => decide (PySem.W.subIn K (.ref (v_C_InvalidName K)) (.type "BaseException") = some true),
  fun K => decide (PySem.W.findIn K (.ref (v_C_InvalidName K)) "__class__" = some (some (.builtin "object.__class__"))),
  fun K => decide (PySem.W.specialIn K (.builtin "object.__class__") "__get__" = some (some (.builtin "getset_descriptor.__get__"))),
  fun K => decide (PySem.W.takesIn K (.builtin "object.__class__") = some true),
  fun K => decide (PySem.W.mroIn K (v_C_InvalidName K) (.type "object") = some true),
  fun K => (PySem.W.clsIn K (v_C_InvalidNumber K)).isSome,
  fun K => decide (PySem.W.findIn K (.ref (v_C_InvalidNumber K)) "__getattribute__" = some (some (.builtin "BaseException.__getattribute__"))),
  fun K => decide (PySem.W.findIn K (.ref (v_C_InvalidNumber K)) "__getattr__" = some none),
  fun K => decide (PySem.W.subIn K (.ref (v_C_InvalidNumber K)) (.type "BaseException") = some true),
  fun K => decide (PySem.W.findIn K (.ref (v_C_InvalidNumber K)) "__class__" = some (some (.builtin "object.__class__")))]
def fl_1 : List L3.FrB := [
  fun K => decide (PySem.W.specialIn K (.builtin "object.__class__") "__get__" = some (some (.builtin "getset_descriptor.__get__"))),
  fun K => decide (PySem.W.takesIn K (.builtin "object.__class__") = some true),
  fun K => decide (PySem.W.mroIn K (v_C_InvalidNumber K) (.type "object") = some true),
  fun K => (PySem.W.clsIn K (v_C_InvalidWord K)).isSome,
  fun K => decide (PySem.W.findIn K (.ref (v_C_InvalidWord K)) "__getattribute__" = some (some (.builtin "BaseException.__getattribute__"))),
  fun K => decide (PySem.W.findIn K (.ref (v_C_InvalidWord K)) "__getattr__" = some none),
  fun K => decide (PySem.W.subIn K (.ref (v_C_InvalidWord K)) (.type "BaseException") = some true),
  fun K => decide (PySem.W.findIn K (.ref (v_C_InvalidWord K)) "__class__" = some (some (.builtin "object.__class__"))),
  fun K => decide (PySem.W.specialIn K (.builtin "object.__class__") "__get__" = some (some (.builtin "getset_descriptor.__get__"))),
  fun K => decide (PySem.W.takesIn K (.builtin "object.__class__") = some true),
  fun K => decide (PySem.W.mroIn K (v_C_InvalidWord K) (.type "object") = some true),
  fun K => decide (PySem.W.findIn K (.ref (v_C_Signals K)) "__class__" = some (some (.builtin "object.__class__"))),
  fun K => decide (PySem.W.specialIn K (.builtin "object.__class__") "__get__" = some (some (.builtin "getset_descriptor.__get__"))),
  fun K => decide (PySem.W.takesIn K (.builtin "object.__class__") = some true),
  fun K => decide (PySem.W.mroIn K (v_C_Signals K) (.type "object") = some true),
  fun K => decide (PySem.W.findIn K (.ref (v_C_Word K)) "__class__" = some (some (.builtin "object.__class__"))),
  fun K => decide (PySem.W.specialIn K (.builtin "object.__class__") "__get__" = some (some (.builtin "getset_descriptor.__get__"))),
  fun K => decide (PySem.W.takesIn K (.builtin "object.__class__") = some true),
  fun K => decide (PySem.W.mroIn K (v_C_Word K) (.type "object") = some true),
  fun K => decide (PySem.W.kitOne K (.type "NoneType") (.ref (v_C_Signals K)) = some false),
  fun K => decide (PySem.W.kitOne K (.type "NoneType") (.ref (v_C_Word K)) = some false),
  fun K => decide (PySem.W.kitOne K (.ref (v_C_InvalidName K)) (.ref (v_C_InvalidFrame K)) = some false),
  fun K => decide (PySem.W.kitOne K (.ref (v_C_InvalidName K)) (.ref (v_C_InvalidKind K)) = some false),
  fun K => decide (PySem.W.kitOne K (.ref (v_C_InvalidName K)) (.ref (v_C_InvalidName K)) = some true),
  fun K => decide (PySem.W.kitOne K (.ref (v_C_InvalidName K)) (.ref (v_C_InvalidNumber K)) = some false),
  fun K => decide (PySem.W.kitOne K (.ref (v_C_InvalidName K)) (.ref (v_C_InvalidWord K)) = some false),
  fun K => decide (PySem.W.kitOne K (.ref (v_C_InvalidNumber K)) (.ref (v_C_InvalidFrame K)) = some false),
  fun K => decide (PySem.W.kitOne K (.ref (v_C_InvalidNumber K)) (.ref (v_C_InvalidKind K)) = some false),
  fun K => decide (PySem.W.kitOne K (.ref (v_C_InvalidNumber K)) (.ref (v_C_InvalidName K)) = some false),
  fun K => decide (PySem.W.kitOne K (.ref (v_C_InvalidNumber K)) (.ref (v_C_InvalidNumber K)) = some true),
  fun K => decide (PySem.W.kitOne K (.ref (v_C_InvalidNumber K)) (.ref (v_C_InvalidWord K)) = some false),
  fun K => decide (PySem.W.kitOne K (.ref (v_C_InvalidWord K)) (.ref (v_C_InvalidFrame K)) = some false),
  fun K => decide (PySem.W.kitOne K (.ref (v_C_InvalidWord K)) (.ref (v_C_InvalidKind K)) = some false),
  fun K => decide (PySem.W.kitOne K (.ref (v_C_InvalidWord K)) (.ref (v_C_InvalidName K)) = some false),
  fun K => decide (PySem.W.kitOne K (.ref (v_C_InvalidWord K)) (.ref (v_C_InvalidNumber K)) = some false),
  fun K => decide (PySem.W.kitOne K (.ref (v_C_InvalidWord K)) (.ref (v_C_InvalidWord K)) = some true),
  fun K => decide (PySem.W.kitOne K (.ref (v_C_Signals K)) (.ref (v_C_Signals K)) = some true),
  fun K => decide (PySem.W.kitOne K (.ref (v_C_Signals K)) (.ref (v_C_Word K)) = some false),
  fun K => decide (PySem.W.kitOne K (.ref (v_C_Word K)) (.ref (v_C_Word K)) = some true),
  fun K => decide (PySem.W.kitOne K (.ref (v_C_InvalidName K)) (.type "ValueError") = some true)]
def fl_2 : List L3.FrB := [
  fun K => decide (PySem.W.kitOne K (.ref (v_C_InvalidNumber K)) (.type "ValueError") = some true),
  fun K => decide (PySem.W.kitOne K (.ref (v_C_InvalidWord K)) (.type "ValueError") = some true),
  fun K => PySem.W.makesIn K (v_C_Signals K),
  fun K => decide (PySem.W.findIn K (.ref (v_C_Signals K)) "__init__" = some (some (.ref (v_f_Signals_init__ K)))),
  fun K => PySem.W.isFn K (.ref (v_f_Signals_init__ K)),
  fun K => PySem.W.keepIn K (.ref (v_C_Signals K)),
  fun K => PySem.W.makesIn K (v_C_Word K),
  fun K => decide (PySem.W.findIn K (.ref (v_C_Word K)) "__init__" = some (some (.ref (v_f_Word_init__ K)))),
  fun K => PySem.W.isFn K (.ref (v_f_Word_init__ K)),
  fun K => PySem.W.keepIn K (.ref (v_C_Word K)),
  fun K => decide (PySem.W.findIn K (.ref (v_C_Signals K)) "told" = some none),
  fun K => decide (PySem.W.findIn K (.ref (v_C_Word K)) "base" = some none),
  fun K => decide (PySem.W.findIn K (.ref (v_C_Word K)) "kind" = some none),
  fun K => decide (PySem.W.findIn K (.ref (v_C_Word K)) "signals" = some none),
  fun K => decide (PySem.W.findIn K (.ref (v_C_Word K)) "__ne__" = some (some (.builtin "object.__ne__"))),
  fun K => decide (PySem.W.mroIn K (v_C_Word K) (.type "object") = some true),
  fun K => decide (PySem.W.findIn K (.ref (v_C_Signals K)) "__eq__" = some (some (.ref (v_f_Signals_eq__ K)))),
  fun K => PySem.W.isFn K (.ref (v_f_Signals_eq__ K)),
  fun K => decide (PySem.W.findIn K (.ref (v_C_Signals K)) "__getitem__" = some (some (.ref (v_f_Signals_getitem__ K)))),
  fun K => PySem.W.isFn K (.ref (v_f_Signals_getitem__ K)),
  fun K => decide (PySem.W.findIn K (.ref (v_C_Word K)) "__eq__" = some (some (.ref (v_f_Word_eq__ K)))),
  fun K => PySem.W.isFn K (.ref (v_f_Word_eq__ K)),
  fun K => decide (PySem.W.findIn K (.ref (v_C_Word K)) "__getitem__" = some (some (.ref (v_f_Word_getitem__ K)))),
  fun K => PySem.W.isFn K (.ref (v_f_Word_getitem__ K)),
  fun K => decide (PySem.W.findIn K (.ref (v_C_Word K)) "__str__" = some (some (.ref (v_f_Word_str__ K)))),
  fun K => PySem.W.isFn K (.ref (v_f_Word_str__ K)),
  fun K => L3.oexB K (v_C_InvalidName K),
  fun K => decide (PySem.W.findIn K (.ref (v_C_InvalidName K)) "__init__" = some (some (.ref (v_f_InvalidName_init__ K)))),
  fun K => decide (PySem.W.typeIn K (.ref (v_f_InvalidName_init__ K)) = some (.type "function")),
  fun K => decide (PySem.W.findIn K (.ref (v_C_InvalidName K)) "value" = some none),
  fun K => L3.oexB K (v_C_InvalidNumber K),
  fun K => decide (PySem.W.findIn K (.ref (v_C_InvalidNumber K)) "__init__" = some (some (.ref (v_f_InvalidNumber_init__ K)))),
  fun K => decide (PySem.W.typeIn K (.ref (v_f_InvalidNumber_init__ K)) = some (.type "function")),
  fun K => decide (PySem.W.findIn K (.ref (v_C_InvalidNumber K)) "value" = some none),
  fun K => L3.oexB K (v_C_InvalidWord K),
  fun K => decide (PySem.W.findIn K (.ref (v_C_InvalidWord K)) "__init__" = some (some (.ref (v_f_InvalidWord_init__ K)))),
  fun K => decide (PySem.W.typeIn K (.ref (v_f_InvalidWord_init__ K)) = some (.type "function")),
  fun K => decide (PySem.W.findIn K (.ref (v_C_InvalidWord K)) "part" = some none),
  fun K => decide (PySem.W.subIn K (.ref (v_C_Signals K)) (.ref (v_C_Word K)) = some false),
  fun K => L3.smB K]
def fl_3 : List L3.FrB := [
  fun K => decide (PySem.W.tabIn K "_law_named_right" = some ((v_tbc_law_named_right K), (v_tbt_law_named_right K))),
  fun K => (K.lookup (v_tbt_law_named_right K)).isNone,
  fun K => PySem.W.codeHdIn K (v_tbc_law_named_right K) (v_tbt_law_named_right K),
  fun K => decide (PySem.W.tabIn K "_law_refused_right" = some ((v_tbc_law_refused_right K), (v_tbt_law_refused_right K))),
  fun K => (K.lookup (v_tbt_law_refused_right K)).isNone,
  fun K => PySem.W.codeHdIn K (v_tbc_law_refused_right K) (v_tbt_law_refused_right K),
  fun K => decide (PySem.W.tabIn K "_law_right" = some ((v_tbc_law_right K), (v_tbt_law_right K))),
  fun K => (K.lookup (v_tbt_law_right K)).isNone,
  fun K => PySem.W.codeHdIn K (v_tbc_law_right K) (v_tbt_law_right K),
  fun K => decide (PySem.W.tabIn K "law" = some ((v_tbc_law K), (v_tbt_law K))),
  fun K => (K.lookup (v_tbt_law K)).isNone,
  fun K => PySem.W.codeHdIn K (v_tbc_law K) (v_tbt_law K),
  fun K => decide (PySem.W.findIn K (.ref (v_C_InvalidName K)) "value" = some none),
  fun K => decide (PySem.W.findIn K (.ref (v_C_InvalidNumber K)) "value" = some none),
  fun K => decide (PySem.W.findIn K (.ref (v_C_InvalidWord K)) "part" = some none),
  fun K => decide (PySem.W.findIn K (.ref (v_C_InvalidName K)) "__getattribute__" = some (some (.builtin "BaseException.__getattribute__"))),
  fun K => decide (PySem.W.findIn K (.ref (v_C_InvalidName K)) "__getattr__" = some none),
  fun K => decide (PySem.W.subIn K (.ref (v_C_InvalidName K)) (.type "BaseException") = some true),
  fun K => PySem.W.hasDictIn K (v_C_InvalidName K),
  fun K => decide (PySem.W.findIn K (.ref (v_C_InvalidNumber K)) "__getattribute__" = some (some (.builtin "BaseException.__getattribute__"))),
  fun K => decide (PySem.W.findIn K (.ref (v_C_InvalidNumber K)) "__getattr__" = some none),
  fun K => decide (PySem.W.subIn K (.ref (v_C_InvalidNumber K)) (.type "BaseException") = some true),
  fun K => PySem.W.hasDictIn K (v_C_InvalidNumber K),
  fun K => decide (PySem.W.findIn K (.ref (v_C_InvalidWord K)) "__getattribute__" = some (some (.builtin "BaseException.__getattribute__"))),
  fun K => decide (PySem.W.findIn K (.ref (v_C_InvalidWord K)) "__getattr__" = some none),
  fun K => decide (PySem.W.subIn K (.ref (v_C_InvalidWord K)) (.type "BaseException") = some true),
  fun K => PySem.W.hasDictIn K (v_C_InvalidWord K),
  fun K => decide (PySem.W.exmOne K (.ref (v_C_InvalidName K)) (.ref (v_C_OrError K)) = some true),
  fun K => decide (PySem.W.exmOne K (.ref (v_C_InvalidNumber K)) (.ref (v_C_OrError K)) = some true),
  fun K => decide (PySem.W.exmOne K (.ref (v_C_InvalidWord K)) (.ref (v_C_OrError K)) = some true),
  fun K => PySem.W.fnIn K (v_f_Signals_getitem__ K),
  fun K => PySem.W.fnIn K (v_f_Word_getitem__ K),
  fun K => decide (L3.dfV K (v_f_InvalidName_init__ K) = .none),
  fun K => PySem.W.codeIn K (L3.cdV K (v_f_InvalidName_init__ K)) "InvalidName.__init__",
  fun K => PySem.W.keepIn K (.ref (v_f_InvalidName_init__ K)),
  fun K => decide (L3.dfV K (v_f_InvalidNumber_init__ K) = .none),
  fun K => PySem.W.codeIn K (L3.cdV K (v_f_InvalidNumber_init__ K)) "InvalidNumber.__init__",
  fun K => PySem.W.keepIn K (.ref (v_f_InvalidNumber_init__ K)),
  fun K => decide (L3.dfV K (v_f_InvalidWord_init__ K) = .none),
  fun K => PySem.W.codeIn K (L3.cdV K (v_f_InvalidWord_init__ K)) "InvalidWord.__init__"]
def fl_4 : List L3.FrB := [
  fun K => PySem.W.keepIn K (.ref (v_f_InvalidWord_init__ K)),
  fun K => decide (PySem.W.nsIn K mainGlobals "is_integer" = some (some (.ref (v_f_is_integer K)))),
  fun K => decide (L3.dfV K (v_f_is_integer K) = .none),
  fun K => PySem.W.codeIn K (L3.cdV K (v_f_is_integer K)) "is_integer",
  fun K => PySem.W.keepIn K (.ref (v_f_is_integer K)),
  fun K => decide (PySem.W.nsIn K mainGlobals "is_between" = some (some (.ref (v_f_is_between K)))),
  fun K => decide (L3.dfV K (v_f_is_between K) = .none),
  fun K => PySem.W.codeIn K (L3.cdV K (v_f_is_between K)) "is_between",
  fun K => PySem.W.keepIn K (.ref (v_f_is_between K)),
  fun K => decide (PySem.W.nsIn K mainGlobals "is_name" = some (some (.ref (v_f_is_name K)))),
  fun K => decide (L3.dfV K (v_f_is_name K) = .none),
  fun K => PySem.W.codeIn K (L3.cdV K (v_f_is_name K)) "is_name",
  fun K => PySem.W.keepIn K (.ref (v_f_is_name K)),
  fun K => decide (PySem.W.nsIn K mainGlobals "need_told" = some (some (.ref (v_f_need_told K)))),
  fun K => decide (L3.dfV K (v_f_need_told K) = (.ref (v_df_need_told K))),
  fun K => PySem.W.codeIn K (L3.cdV K (v_f_need_told K)) "need_told",
  fun K => PySem.W.keepIn K (.ref (v_f_need_told K)),
  fun K => decide (L3.sqV K (v_df_need_told K) = some [.ref (v_de_need_told K)]),
  fun K => decide (L3.sqV K (v_de_need_told K) = some []),
  fun K => decide (L3.dfV K (v_f_Signals_init__ K) = .none),
  fun K => PySem.W.codeIn K (L3.cdV K (v_f_Signals_init__ K)) "Signals.__init__",
  fun K => PySem.W.keepIn K (.ref (v_f_Signals_init__ K)),
  fun K => decide (L3.dfV K (v_f_Signals_of K) = .none),
  fun K => PySem.W.codeIn K (L3.cdV K (v_f_Signals_of K)) "Signals.of",
  fun K => PySem.W.keepIn K (.ref (v_f_Signals_of K)),
  fun K => decide (L3.dfV K (v_f_Signals_getitem__ K) = .none),
  fun K => PySem.W.codeIn K (L3.cdV K (v_f_Signals_getitem__ K)) "Signals.__getitem__",
  fun K => PySem.W.keepIn K (.ref (v_f_Signals_getitem__ K)),
  fun K => decide (L3.dfV K (v_f_Signals_eq__ K) = .none),
  fun K => PySem.W.codeIn K (L3.cdV K (v_f_Signals_eq__ K)) "Signals.__eq__",
  fun K => PySem.W.keepIn K (.ref (v_f_Signals_eq__ K)),
  fun K => decide (L3.dfV K (v_f_Word_init__ K) = .none),
  fun K => PySem.W.codeIn K (L3.cdV K (v_f_Word_init__ K)) "Word.__init__",
  fun K => PySem.W.keepIn K (.ref (v_f_Word_init__ K)),
  fun K => decide (L3.dfV K (v_f_Word_of K) = .none),
  fun K => PySem.W.codeIn K (L3.cdV K (v_f_Word_of K)) "Word.of",
  fun K => PySem.W.keepIn K (.ref (v_f_Word_of K)),
  fun K => decide (L3.dfV K (v_f_Word_getitem__ K) = .none),
  fun K => PySem.W.codeIn K (L3.cdV K (v_f_Word_getitem__ K)) "Word.__getitem__",
  fun K => PySem.W.keepIn K (.ref (v_f_Word_getitem__ K))]
def fl_5 : List L3.FrB := [
  fun K => decide (L3.dfV K (v_f_Word_eq__ K) = .none),
  fun K => PySem.W.codeIn K (L3.cdV K (v_f_Word_eq__ K)) "Word.__eq__",
  fun K => PySem.W.keepIn K (.ref (v_f_Word_eq__ K)),
  fun K => decide (L3.dfV K (v_f_Word_str__ K) = .none),
  fun K => PySem.W.codeIn K (L3.cdV K (v_f_Word_str__ K)) "Word.__str__",
  fun K => PySem.W.keepIn K (.ref (v_f_Word_str__ K)),
  fun K => decide (PySem.W.nsIn K mainGlobals "_law_pen" = some (some (.ref (v_f_law_pen K)))),
  fun K => decide (L3.dfV K (v_f_law_pen K) = .none),
  fun K => PySem.W.codeIn K (L3.cdV K (v_f_law_pen K)) "_law_pen",
  fun K => PySem.W.keepIn K (.ref (v_f_law_pen K)),
  fun K => decide (PySem.W.nsIn K mainGlobals "_law_draw" = some (some (.ref (v_f_law_draw K)))),
  fun K => decide (L3.dfV K (v_f_law_draw K) = .none),
  fun K => PySem.W.codeIn K (L3.cdV K (v_f_law_draw K)) "_law_draw",
  fun K => PySem.W.keepIn K (.ref (v_f_law_draw K)),
  fun K => decide (PySem.W.nsIn K mainGlobals "_law_pick" = some (some (.ref (v_f_law_pick K)))),
  fun K => decide (L3.dfV K (v_f_law_pick K) = .none),
  fun K => PySem.W.codeIn K (L3.cdV K (v_f_law_pick K)) "_law_pick",
  fun K => PySem.W.keepIn K (.ref (v_f_law_pick K)),
  fun K => decide (PySem.W.nsIn K mainGlobals "_law_names" = some (some (.ref (v_f_law_names K)))),
  fun K => decide (L3.dfV K (v_f_law_names K) = .none),
  fun K => PySem.W.codeIn K (L3.cdV K (v_f_law_names K)) "_law_names",
  fun K => PySem.W.keepIn K (.ref (v_f_law_names K)),
  fun K => decide (PySem.W.nsIn K mainGlobals "_law_is_name" = some (some (.ref (v_f_law_is_name K)))),
  fun K => decide (L3.dfV K (v_f_law_is_name K) = .none),
  fun K => PySem.W.codeIn K (L3.cdV K (v_f_law_is_name K)) "_law_is_name",
  fun K => PySem.W.keepIn K (.ref (v_f_law_is_name K)),
  fun K => decide (PySem.W.nsIn K mainGlobals "_law_is_between" = some (some (.ref (v_f_law_is_between K)))),
  fun K => decide (L3.dfV K (v_f_law_is_between K) = .none),
  fun K => PySem.W.codeIn K (L3.cdV K (v_f_law_is_between K)) "_law_is_between",
  fun K => PySem.W.keepIn K (.ref (v_f_law_is_between K)),
  fun K => decide (PySem.W.nsIn K mainGlobals "_law_fault" = some (some (.ref (v_f_law_fault K)))),
  fun K => decide (L3.dfV K (v_f_law_fault K) = .none),
  fun K => PySem.W.codeIn K (L3.cdV K (v_f_law_fault K)) "_law_fault",
  fun K => PySem.W.keepIn K (.ref (v_f_law_fault K)),
  fun K => decide (PySem.W.nsIn K mainGlobals "_law_heard" = some (some (.ref (v_f_law_heard K)))),
  fun K => decide (L3.dfV K (v_f_law_heard K) = .none),
  fun K => PySem.W.codeIn K (L3.cdV K (v_f_law_heard K)) "_law_heard",
  fun K => PySem.W.keepIn K (.ref (v_f_law_heard K)),
  fun K => decide (PySem.W.nsIn K mainGlobals "_law_odd" = some (some (.ref (v_f_law_odd K)))),
  fun K => decide (L3.dfV K (v_f_law_odd K) = .none)]
def fl_6 : List L3.FrB := [
  fun K => PySem.W.codeIn K (L3.cdV K (v_f_law_odd K)) "_law_odd",
  fun K => PySem.W.keepIn K (.ref (v_f_law_odd K)),
  fun K => decide (PySem.W.nsIn K mainGlobals "_law_fields" = some (some (.ref (v_f_law_fields K)))),
  fun K => decide (L3.dfV K (v_f_law_fields K) = .none),
  fun K => PySem.W.codeIn K (L3.cdV K (v_f_law_fields K)) "_law_fields",
  fun K => PySem.W.keepIn K (.ref (v_f_law_fields K)),
  fun K => decide (PySem.W.nsIn K mainGlobals "_law_text" = some (some (.ref (v_f_law_text K)))),
  fun K => decide (L3.dfV K (v_f_law_text K) = .none),
  fun K => PySem.W.codeIn K (L3.cdV K (v_f_law_text K)) "_law_text",
  fun K => PySem.W.keepIn K (.ref (v_f_law_text K)),
  fun K => decide (PySem.W.nsIn K mainGlobals "_law_right" = some (some (.ref (v_f_law_right K)))),
  fun K => decide (L3.dfV K (v_f_law_right K) = .none),
  fun K => PySem.W.codeIn K (L3.cdV K (v_f_law_right K)) "_law_right",
  fun K => PySem.W.keepIn K (.ref (v_f_law_right K)),
  fun K => decide (PySem.W.nsIn K mainGlobals "_law_refused_right" = some (some (.ref (v_f_law_refused_right K)))),
  fun K => decide (L3.dfV K (v_f_law_refused_right K) = .none),
  fun K => PySem.W.codeIn K (L3.cdV K (v_f_law_refused_right K)) "_law_refused_right",
  fun K => PySem.W.keepIn K (.ref (v_f_law_refused_right K)),
  fun K => decide (PySem.W.nsIn K mainGlobals "_law_named_right" = some (some (.ref (v_f_law_named_right K)))),
  fun K => decide (L3.dfV K (v_f_law_named_right K) = .none),
  fun K => PySem.W.codeIn K (L3.cdV K (v_f_law_named_right K)) "_law_named_right",
  fun K => PySem.W.keepIn K (.ref (v_f_law_named_right K)),
  fun K => decide (PySem.W.nsIn K mainGlobals "law" = some (some (.ref (v_f_law K)))),
  fun K => decide (L3.dfV K (v_f_law K) = .none),
  fun K => PySem.W.codeIn K (L3.cdV K (v_f_law K)) "law",
  fun K => PySem.W.keepIn K (.ref (v_f_law K)),
  fun K => decide (PySem.W.nsIn K mainGlobals "DIGITS" = some (some (.str "0123456789" (v_t_DIGITS K)))),
  fun K => decide (PySem.W.nsIn K mainGlobals "LETTERS" = some (some (.str "abcdefghijklmnopqrstuvwxyz" (v_t_LETTERS K)))),
  fun K => decide (PySem.W.nsIn K mainGlobals "LONGEST" = some (some (.int 8 (v_t_LONGEST K)))),
  fun K => decide (PySem.W.nsIn K mainGlobals "MOST_BASE" = some (some (.int 255 (v_t_MOST_BASE K)))),
  fun K => decide (PySem.W.nsIn K mainGlobals "RESERVED" = some (some (.ref (v_a_RESERVED K)))),
  fun K => decide (L3.sqV K (v_a_RESERVED K) = some [(.str "to" (v_t_RESERVED_0 K)), (.str "if" (v_t_RESERVED_1 K)), (.str "tag" (v_t_RESERVED_2 K)), (.str "all" (v_t_RESERVED_3 K)), (.str "none" (v_t_RESERVED_4 K))]),
  fun K => decide (PySem.W.nsIn K mainGlobals "ValueError" = some none),
  fun K => decide (PySem.W.nsIn K mainGlobals "abs" = some none),
  fun K => decide (PySem.W.nsIn K mainGlobals "all" = some none),
  fun K => decide (PySem.W.nsIn K mainGlobals "bool" = some none),
  fun K => decide (PySem.W.nsIn K mainGlobals "dict" = some none),
  fun K => decide (PySem.W.nsIn K mainGlobals "int" = some none),
  fun K => decide (PySem.W.nsIn K mainGlobals "isinstance" = some none),
  fun K => decide (PySem.W.nsIn K mainGlobals "len" = some none)]
def fl_7 : List L3.FrB := [
  fun K => decide (PySem.W.nsIn K mainGlobals "list" = some none),
  fun K => decide (PySem.W.nsIn K mainGlobals "range" = some none),
  fun K => decide (PySem.W.nsIn K mainGlobals "repr" = some none),
  fun K => decide (PySem.W.nsIn K mainGlobals "sorted" = some none),
  fun K => decide (PySem.W.nsIn K mainGlobals "str" = some none),
  fun K => decide (PySem.W.nsIn K mainGlobals "tuple" = some none),
  fun K => decide (([v_tbt_law_right K, v_tbt_law_refused_right K, v_tbt_law_named_right K, v_tbt_law K] : List Addr).Nodup)]
def fls : List (List L3.FrB) := [fl_0, fl_1, fl_2, fl_3, fl_4, fl_5, fl_6, fl_7]
def fns : List (PySem.W.Frag → Addr) := [v_f_InvalidName_init__, v_f_InvalidNumber_init__, v_f_InvalidWord_init__, v_f_is_integer, v_f_is_between, v_f_is_name, v_f_need_told, v_f_Signals_init__, v_f_Signals_of, v_f_Signals_getitem__, v_f_Signals_eq__, v_f_Word_init__, v_f_Word_of, v_f_Word_getitem__, v_f_Word_eq__, v_f_Word_str__, v_f_law_pen, v_f_law_draw, v_f_law_pick, v_f_law_names, v_f_law_is_name, v_f_law_is_between, v_f_law_fault, v_f_law_heard, v_f_law_odd, v_f_law_fields, v_f_law_text, v_f_law_right, v_f_law_refused_right, v_f_law_named_right, v_f_law]
def fvs : List L3.FV := [
  L3.fnW "__init__" "InvalidName.__init__" (defArgs s_InvalidName_init__) (defBody s_InvalidName_init__) (defScope s_InvalidName_init__),
  L3.fnW "__init__" "InvalidNumber.__init__" (defArgs s_InvalidNumber_init__) (defBody s_InvalidNumber_init__) (defScope s_InvalidNumber_init__),
  L3.fnW "__init__" "InvalidWord.__init__" (defArgs s_InvalidWord_init__) (defBody s_InvalidWord_init__) (defScope s_InvalidWord_init__),
  L3.fnW "is_integer" "is_integer" (defArgs s_is_integer) (defBody s_is_integer) (defScope s_is_integer),
  L3.fnW "is_between" "is_between" (defArgs s_is_between) (defBody s_is_between) (defScope s_is_between),
  L3.fnW "is_name" "is_name" (defArgs s_is_name) (defBody s_is_name) (defScope s_is_name),
  L3.fnW "need_told" "need_told" (defArgs s_need_told) (defBody s_need_told) (defScope s_need_told),
  L3.fnW "__init__" "Signals.__init__" (defArgs s_Signals_init__) (defBody s_Signals_init__) (defScope s_Signals_init__),
  L3.fnW "of" "Signals.of" (defArgs s_Signals_of) (defBody s_Signals_of) (defScope s_Signals_of),
  L3.fnW "__getitem__" "Signals.__getitem__" (defArgs s_Signals_getitem__) (defBody s_Signals_getitem__) (defScope s_Signals_getitem__),
  L3.fnW "__eq__" "Signals.__eq__" (defArgs s_Signals_eq__) (defBody s_Signals_eq__) (defScope s_Signals_eq__),
  L3.fnW "__init__" "Word.__init__" (defArgs s_Word_init__) (defBody s_Word_init__) (defScope s_Word_init__),
  L3.fnW "of" "Word.of" (defArgs s_Word_of) (defBody s_Word_of) (defScope s_Word_of),
  L3.fnW "__getitem__" "Word.__getitem__" (defArgs s_Word_getitem__) (defBody s_Word_getitem__) (defScope s_Word_getitem__),
  L3.fnW "__eq__" "Word.__eq__" (defArgs s_Word_eq__) (defBody s_Word_eq__) (defScope s_Word_eq__),
  L3.fnW "__str__" "Word.__str__" (defArgs s_Word_str__) (defBody s_Word_str__) (defScope s_Word_str__),
  L3.fnW "_law_pen" "_law_pen" (defArgs s_law_pen) (defBody s_law_pen) (defScope s_law_pen),
  L3.fnW "_law_draw" "_law_draw" (defArgs s_law_draw) (defBody s_law_draw) (defScope s_law_draw),
  L3.fnW "_law_pick" "_law_pick" (defArgs s_law_pick) (defBody s_law_pick) (defScope s_law_pick),
  L3.fnW "_law_names" "_law_names" (defArgs s_law_names) (defBody s_law_names) (defScope s_law_names),
  L3.fnW "_law_is_name" "_law_is_name" (defArgs s_law_is_name) (defBody s_law_is_name) (defScope s_law_is_name),
  L3.fnW "_law_is_between" "_law_is_between" (defArgs s_law_is_between) (defBody s_law_is_between) (defScope s_law_is_between),
  L3.fnW "_law_fault" "_law_fault" (defArgs s_law_fault) (defBody s_law_fault) (defScope s_law_fault),
  L3.fnW "_law_heard" "_law_heard" (defArgs s_law_heard) (defBody s_law_heard) (defScope s_law_heard),
  L3.fnW "_law_odd" "_law_odd" (defArgs s_law_odd) (defBody s_law_odd) (defScope s_law_odd),
  L3.fnW "_law_fields" "_law_fields" (defArgs s_law_fields) (defBody s_law_fields) (defScope s_law_fields),
  L3.fnW "_law_text" "_law_text" (defArgs s_law_text) (defBody s_law_text) (defScope s_law_text),
  L3.fnW "_law_right" "_law_right" (defArgs s_law_right) (defBody s_law_right) (defScope s_law_right),
  L3.fnW "_law_refused_right" "_law_refused_right" (defArgs s_law_refused_right) (defBody s_law_refused_right) (defScope s_law_refused_right),
  L3.fnW "_law_named_right" "_law_named_right" (defArgs s_law_named_right) (defBody s_law_named_right) (defScope s_law_named_right),
  L3.fnW "law" "law" (defArgs s_law) (defBody s_law) (defScope s_law)]
def names : List PySem.Str := (["_wall", "OrError", "InvalidName", "InvalidNumber", "InvalidKind", "InvalidFrame", "InvalidWord", "FieldClash", "is_integer", "is_between", "LETTERS", "DIGITS", "RESERVED", "LONGEST", "is_name", "Signals", "need_told", "parts_of", "MOST_BASE", "Word", "_law_pen", "_law_draw", "_law_pick", "_law_names", "_law_is_name", "_law_is_between", "_law_fault", "_law_heard", "_law_odd", "_law_fields"] : List PySem.Str) ++ (["_law_text", "_law_right", "_law_refused_right", "_law_named_right"] : List PySem.Str)
theorem facts {l : PySem.W.OpenLaw} {w : World} {K : PySem.W.Frag} {h : Heap} {mg : Str → Option Value} {fa : Addr} (X : K.In h) (G : h.Ns mainGlobals mg) (hfa : mg "law" = some (.ref fa)) (c : L3.lookB fls fns K = (true, fvs)) :
    ∃ fd : FuncData, (∀ (s : Shared) (v : Value), BindsTo s fd ⟨[v], []⟩ [("_law_script", v)]) ∧ ∀ base : Heap, K.In base → base.Ns mainGlobals mg → (∀ p ∈ ([((v_tbc_law_right K), (v_tbt_law_right K)), ((v_tbc_law_refused_right K), (v_tbt_law_refused_right K)), ((v_tbc_law_named_right K), (v_tbt_law_named_right K)), ((v_tbc_law K), (v_tbt_law K))] : List (Addr × Addr)), LamX.TabB base mg p.1 p.2) → FnG l.prog w K mg base (L2.CX l.prog w) 16 fa fd p_law (toSp K sp_law) := by
  obtain ⟨oc_InvalidName_init__, od_InvalidName_init__, sl_InvalidName_init__, kV_InvalidName_init__, dc_InvalidName_init__, pm_InvalidName_init__, an_InvalidName_init__, ct_InvalidName_init__, p_l_InvalidName_init__⟩ := L3.fn_look (L3.look_v c 0 rfl rfl) (of_decide_eq_true (L3.look_f c 3 32 rfl rfl))
  obtain ⟨oc_InvalidNumber_init__, od_InvalidNumber_init__, sl_InvalidNumber_init__, kV_InvalidNumber_init__, dc_InvalidNumber_init__, pm_InvalidNumber_init__, an_InvalidNumber_init__, ct_InvalidNumber_init__, p_l_InvalidNumber_init__⟩ := L3.fn_look (L3.look_v c 1 rfl rfl) (of_decide_eq_true (L3.look_f c 3 35 rfl rfl))
  obtain ⟨oc_InvalidWord_init__, od_InvalidWord_init__, sl_InvalidWord_init__, kV_InvalidWord_init__, dc_InvalidWord_init__, pm_InvalidWord_init__, an_InvalidWord_init__, ct_InvalidWord_init__, p_l_InvalidWord_init__⟩ := L3.fn_look (L3.look_v c 2 rfl rfl) (of_decide_eq_true (L3.look_f c 3 38 rfl rfl))
  obtain ⟨oc_is_integer, od_is_integer, sl_is_integer, kV_is_integer, dc_is_integer, pm_is_integer, an_is_integer, ct_is_integer, p_l_is_integer⟩ := L3.fn_look (L3.look_v c 3 rfl rfl) (of_decide_eq_true (L3.look_f c 4 2 rfl rfl))
  obtain ⟨oc_is_between, od_is_between, sl_is_between, kV_is_between, dc_is_between, pm_is_between, an_is_between, ct_is_between, p_l_is_between⟩ := L3.fn_look (L3.look_v c 4 rfl rfl) (of_decide_eq_true (L3.look_f c 4 6 rfl rfl))
  obtain ⟨oc_is_name, od_is_name, sl_is_name, kV_is_name, dc_is_name, pm_is_name, an_is_name, ct_is_name, p_l_is_name⟩ := L3.fn_look (L3.look_v c 5 rfl rfl) (of_decide_eq_true (L3.look_f c 4 10 rfl rfl))
  obtain ⟨oc_need_told, od_need_told, sl_need_told, kV_need_told, dc_need_told, pm_need_told, an_need_told, ct_need_told, p_l_need_told⟩ := L3.fn_look (L3.look_v c 6 rfl rfl) (of_decide_eq_true (L3.look_f c 4 14 rfl rfl))
  obtain ⟨dod_need_told, dn_need_told, dsl_need_told, p_q_df__need_told⟩ := L3.sq_look (of_decide_eq_true (L3.look_f c 4 17 rfl rfl))
  obtain ⟨eod_need_told, en_need_told, esl_need_told, p_q_de__need_told⟩ := L3.sq_look (of_decide_eq_true (L3.look_f c 4 18 rfl rfl))
  obtain ⟨oc_Signals_init__, od_Signals_init__, sl_Signals_init__, kV_Signals_init__, dc_Signals_init__, pm_Signals_init__, an_Signals_init__, ct_Signals_init__, p_l_Signals_init__⟩ := L3.fn_look (L3.look_v c 7 rfl rfl) (of_decide_eq_true (L3.look_f c 4 19 rfl rfl))
  obtain ⟨oc_Signals_of, od_Signals_of, sl_Signals_of, kV_Signals_of, dc_Signals_of, pm_Signals_of, an_Signals_of, ct_Signals_of, p_l_Signals_of⟩ := L3.fn_look (L3.look_v c 8 rfl rfl) (of_decide_eq_true (L3.look_f c 4 22 rfl rfl))
  obtain ⟨oc_Signals_getitem__, od_Signals_getitem__, sl_Signals_getitem__, kV_Signals_getitem__, dc_Signals_getitem__, pm_Signals_getitem__, an_Signals_getitem__, ct_Signals_getitem__, p_l_Signals_getitem__⟩ := L3.fn_look (L3.look_v c 9 rfl rfl) (of_decide_eq_true (L3.look_f c 4 25 rfl rfl))
  obtain ⟨oc_Signals_eq__, od_Signals_eq__, sl_Signals_eq__, kV_Signals_eq__, dc_Signals_eq__, pm_Signals_eq__, an_Signals_eq__, ct_Signals_eq__, p_l_Signals_eq__⟩ := L3.fn_look (L3.look_v c 10 rfl rfl) (of_decide_eq_true (L3.look_f c 4 28 rfl rfl))
  obtain ⟨oc_Word_init__, od_Word_init__, sl_Word_init__, kV_Word_init__, dc_Word_init__, pm_Word_init__, an_Word_init__, ct_Word_init__, p_l_Word_init__⟩ := L3.fn_look (L3.look_v c 11 rfl rfl) (of_decide_eq_true (L3.look_f c 4 31 rfl rfl))
  obtain ⟨oc_Word_of, od_Word_of, sl_Word_of, kV_Word_of, dc_Word_of, pm_Word_of, an_Word_of, ct_Word_of, p_l_Word_of⟩ := L3.fn_look (L3.look_v c 12 rfl rfl) (of_decide_eq_true (L3.look_f c 4 34 rfl rfl))
  obtain ⟨oc_Word_getitem__, od_Word_getitem__, sl_Word_getitem__, kV_Word_getitem__, dc_Word_getitem__, pm_Word_getitem__, an_Word_getitem__, ct_Word_getitem__, p_l_Word_getitem__⟩ := L3.fn_look (L3.look_v c 13 rfl rfl) (of_decide_eq_true (L3.look_f c 4 37 rfl rfl))
  obtain ⟨oc_Word_eq__, od_Word_eq__, sl_Word_eq__, kV_Word_eq__, dc_Word_eq__, pm_Word_eq__, an_Word_eq__, ct_Word_eq__, p_l_Word_eq__⟩ := L3.fn_look (L3.look_v c 14 rfl rfl) (of_decide_eq_true (L3.look_f c 5 0 rfl rfl))
  obtain ⟨oc_Word_str__, od_Word_str__, sl_Word_str__, kV_Word_str__, dc_Word_str__, pm_Word_str__, an_Word_str__, ct_Word_str__, p_l_Word_str__⟩ := L3.fn_look (L3.look_v c 15 rfl rfl) (of_decide_eq_true (L3.look_f c 5 3 rfl rfl))
  obtain ⟨oc_law_pen, od_law_pen, sl_law_pen, kV_law_pen, dc_law_pen, pm_law_pen, an_law_pen, ct_law_pen, p_l_law_pen⟩ := L3.fn_look (L3.look_v c 16 rfl rfl) (of_decide_eq_true (L3.look_f c 5 7 rfl rfl))
  obtain ⟨oc_law_draw, od_law_draw, sl_law_draw, kV_law_draw, dc_law_draw, pm_law_draw, an_law_draw, ct_law_draw, p_l_law_draw⟩ := L3.fn_look (L3.look_v c 17 rfl rfl) (of_decide_eq_true (L3.look_f c 5 11 rfl rfl))
  obtain ⟨oc_law_pick, od_law_pick, sl_law_pick, kV_law_pick, dc_law_pick, pm_law_pick, an_law_pick, ct_law_pick, p_l_law_pick⟩ := L3.fn_look (L3.look_v c 18 rfl rfl) (of_decide_eq_true (L3.look_f c 5 15 rfl rfl))
  obtain ⟨oc_law_names, od_law_names, sl_law_names, kV_law_names, dc_law_names, pm_law_names, an_law_names, ct_law_names, p_l_law_names⟩ := L3.fn_look (L3.look_v c 19 rfl rfl) (of_decide_eq_true (L3.look_f c 5 19 rfl rfl))
  obtain ⟨oc_law_is_name, od_law_is_name, sl_law_is_name, kV_law_is_name, dc_law_is_name, pm_law_is_name, an_law_is_name, ct_law_is_name, p_l_law_is_name⟩ := L3.fn_look (L3.look_v c 20 rfl rfl) (of_decide_eq_true (L3.look_f c 5 23 rfl rfl))
  obtain ⟨oc_law_is_between, od_law_is_between, sl_law_is_between, kV_law_is_between, dc_law_is_between, pm_law_is_between, an_law_is_between, ct_law_is_between, p_l_law_is_between⟩ := L3.fn_look (L3.look_v c 21 rfl rfl) (of_decide_eq_true (L3.look_f c 5 27 rfl rfl))
  obtain ⟨oc_law_fault, od_law_fault, sl_law_fault, kV_law_fault, dc_law_fault, pm_law_fault, an_law_fault, ct_law_fault, p_l_law_fault⟩ := L3.fn_look (L3.look_v c 22 rfl rfl) (of_decide_eq_true (L3.look_f c 5 31 rfl rfl))
  obtain ⟨oc_law_heard, od_law_heard, sl_law_heard, kV_law_heard, dc_law_heard, pm_law_heard, an_law_heard, ct_law_heard, p_l_law_heard⟩ := L3.fn_look (L3.look_v c 23 rfl rfl) (of_decide_eq_true (L3.look_f c 5 35 rfl rfl))
  obtain ⟨oc_law_odd, od_law_odd, sl_law_odd, kV_law_odd, dc_law_odd, pm_law_odd, an_law_odd, ct_law_odd, p_l_law_odd⟩ := L3.fn_look (L3.look_v c 24 rfl rfl) (of_decide_eq_true (L3.look_f c 5 39 rfl rfl))
  obtain ⟨oc_law_fields, od_law_fields, sl_law_fields, kV_law_fields, dc_law_fields, pm_law_fields, an_law_fields, ct_law_fields, p_l_law_fields⟩ := L3.fn_look (L3.look_v c 25 rfl rfl) (of_decide_eq_true (L3.look_f c 6 3 rfl rfl))
  obtain ⟨oc_law_text, od_law_text, sl_law_text, kV_law_text, dc_law_text, pm_law_text, an_law_text, ct_law_text, p_l_law_text⟩ := L3.fn_look (L3.look_v c 26 rfl rfl) (of_decide_eq_true (L3.look_f c 6 7 rfl rfl))
  obtain ⟨oc_law_right, od_law_right, sl_law_right, kV_law_right, dc_law_right, pm_law_right, an_law_right, ct_law_right, p_l_law_right⟩ := L3.fn_look (L3.look_v c 27 rfl rfl) (of_decide_eq_true (L3.look_f c 6 11 rfl rfl))
  obtain ⟨oc_law_refused_right, od_law_refused_right, sl_law_refused_right, kV_law_refused_right, dc_law_refused_right, pm_law_refused_right, an_law_refused_right, ct_law_refused_right, p_l_law_refused_right⟩ := L3.fn_look (L3.look_v c 28 rfl rfl) (of_decide_eq_true (L3.look_f c 6 15 rfl rfl))
  obtain ⟨oc_law_named_right, od_law_named_right, sl_law_named_right, kV_law_named_right, dc_law_named_right, pm_law_named_right, an_law_named_right, ct_law_named_right, p_l_law_named_right⟩ := L3.fn_look (L3.look_v c 29 rfl rfl) (of_decide_eq_true (L3.look_f c 6 19 rfl rfl))
  obtain ⟨oc_law, od_law, sl_law, kV_law, dc_law, pm_law, an_law, ct_law, p_l_law⟩ := L3.fn_look (L3.look_v c 30 rfl rfl) (of_decide_eq_true (L3.look_f c 6 23 rfl rfl))
  obtain ⟨od_RESERVED, n_RESERVED, sl_RESERVED, p_k_RESERVED⟩ := L3.sq_look (of_decide_eq_true (L3.look_f c 6 31 rfl rfl))
  exact all_mk X G hfa (of_decide_eq_true (L3.look_f c 0 0 rfl rfl)) (of_decide_eq_true (L3.look_f c 0 1 rfl rfl)) (of_decide_eq_true (L3.look_f c 0 2 rfl rfl)) (of_decide_eq_true (L3.look_f c 0 3 rfl rfl)) (of_decide_eq_true (L3.look_f c 0 4 rfl rfl)) (of_decide_eq_true (L3.look_f c 0 5 rfl rfl)) (of_decide_eq_true (L3.look_f c 0 6 rfl rfl)) (of_decide_eq_true (L3.look_f c 0 7 rfl rfl)) (L3.look_f c 0 8 rfl rfl) (L3.look_f c 0 9 rfl rfl) (L3.look_f c 0 10 rfl rfl) (of_decide_eq_true (L3.look_f c 0 11 rfl rfl)) (L3.look_f c 0 12 rfl rfl) (L3.look_f c 0 13 rfl rfl) (L3.look_f c 0 14 rfl rfl) (of_decide_eq_true (L3.look_f c 0 15 rfl rfl)) (L3.look_f c 0 16 rfl rfl) (of_decide_eq_true (L3.look_f c 0 17 rfl rfl)) (L3.cgB_ok (L3.look_f c 0 18 rfl rfl)) (of_decide_eq_true (L3.look_f c 0 19 rfl rfl)) (L3.look_f c 0 20 rfl rfl) (L3.look_f c 0 21 rfl rfl) (of_decide_eq_true (L3.look_f c 0 22 rfl rfl)) (L3.cgB_ok (L3.look_f c 0 23 rfl rfl)) (of_decide_eq_true (L3.look_f c 0 24 rfl rfl)) (L3.look_f c 0 25 rfl rfl) (L3.cvB_ok (L3.look_f c 0 26 rfl rfl)) (L3.look_f c 0 27 rfl rfl) (of_decide_eq_true (L3.look_f c 0 28 rfl rfl)) (of_decide_eq_true (L3.look_f c 0 29 rfl rfl)) (of_decide_eq_true (L3.look_f c 0 30 rfl rfl)) (of_decide_eq_true (L3.look_f c 0 31 rfl rfl)) (of_decide_eq_true (L3.look_f c 0 32 rfl rfl)) (of_decide_eq_true (L3.look_f c 0 33 rfl rfl)) (of_decide_eq_true (L3.look_f c 0 34 rfl rfl)) (L3.look_f c 0 35 rfl rfl) (of_decide_eq_true (L3.look_f c 0 36 rfl rfl)) (of_decide_eq_true (L3.look_f c 0 37 rfl rfl)) (of_decide_eq_true (L3.look_f c 0 38 rfl rfl)) (of_decide_eq_true (L3.look_f c 0 39 rfl rfl)) (of_decide_eq_true (L3.look_f c 1 0 rfl rfl)) (of_decide_eq_true (L3.look_f c 1 1 rfl rfl)) (of_decide_eq_true (L3.look_f c 1 2 rfl rfl)) (L3.look_f c 1 3 rfl rfl) (of_decide_eq_true (L3.look_f c 1 4 rfl rfl)) (of_decide_eq_true (L3.look_f c 1 5 rfl rfl)) (of_decide_eq_true (L3.look_f c 1 6 rfl rfl)) (of_decide_eq_true (L3.look_f c 1 7 rfl rfl)) (of_decide_eq_true (L3.look_f c 1 8 rfl rfl)) (of_decide_eq_true (L3.look_f c 1 9 rfl rfl)) (of_decide_eq_true (L3.look_f c 1 10 rfl rfl)) (of_decide_eq_true (L3.look_f c 1 11 rfl rfl)) (of_decide_eq_true (L3.look_f c 1 12 rfl rfl)) (of_decide_eq_true (L3.look_f c 1 13 rfl rfl)) (of_decide_eq_true (L3.look_f c 1 14 rfl rfl)) (of_decide_eq_true (L3.look_f c 1 15 rfl rfl)) (of_decide_eq_true (L3.look_f c 1 16 rfl rfl)) (of_decide_eq_true (L3.look_f c 1 17 rfl rfl)) (of_decide_eq_true (L3.look_f c 1 18 rfl rfl)) (of_decide_eq_true (L3.look_f c 1 19 rfl rfl)) (of_decide_eq_true (L3.look_f c 1 20 rfl rfl)) (of_decide_eq_true (L3.look_f c 1 21 rfl rfl)) (of_decide_eq_true (L3.look_f c 1 22 rfl rfl)) (of_decide_eq_true (L3.look_f c 1 23 rfl rfl)) (of_decide_eq_true (L3.look_f c 1 24 rfl rfl)) (of_decide_eq_true (L3.look_f c 1 25 rfl rfl)) (of_decide_eq_true (L3.look_f c 1 26 rfl rfl)) (of_decide_eq_true (L3.look_f c 1 27 rfl rfl)) (of_decide_eq_true (L3.look_f c 1 28 rfl rfl)) (of_decide_eq_true (L3.look_f c 1 29 rfl rfl)) (of_decide_eq_true (L3.look_f c 1 30 rfl rfl)) (of_decide_eq_true (L3.look_f c 1 31 rfl rfl)) (of_decide_eq_true (L3.look_f c 1 32 rfl rfl)) (of_decide_eq_true (L3.look_f c 1 33 rfl rfl)) (of_decide_eq_true (L3.look_f c 1 34 rfl rfl)) (of_decide_eq_true (L3.look_f c 1 35 rfl rfl)) (of_decide_eq_true (L3.look_f c 1 36 rfl rfl)) (of_decide_eq_true (L3.look_f c 1 37 rfl rfl)) (of_decide_eq_true (L3.look_f c 1 38 rfl rfl)) (of_decide_eq_true (L3.look_f c 1 39 rfl rfl)) (of_decide_eq_true (L3.look_f c 2 0 rfl rfl)) (of_decide_eq_true (L3.look_f c 2 1 rfl rfl)) (L3.look_f c 2 2 rfl rfl) (of_decide_eq_true (L3.look_f c 2 3 rfl rfl)) (L3.look_f c 2 4 rfl rfl) (L3.look_f c 2 5 rfl rfl) (L3.look_f c 2 6 rfl rfl) (of_decide_eq_true (L3.look_f c 2 7 rfl rfl)) (L3.look_f c 2 8 rfl rfl) (L3.look_f c 2 9 rfl rfl) (of_decide_eq_true (L3.look_f c 2 10 rfl rfl)) (of_decide_eq_true (L3.look_f c 2 11 rfl rfl)) (of_decide_eq_true (L3.look_f c 2 12 rfl rfl)) (of_decide_eq_true (L3.look_f c 2 13 rfl rfl)) (of_decide_eq_true (L3.look_f c 2 14 rfl rfl)) (of_decide_eq_true (L3.look_f c 2 15 rfl rfl)) (of_decide_eq_true (L3.look_f c 2 16 rfl rfl)) (L3.look_f c 2 17 rfl rfl) (of_decide_eq_true (L3.look_f c 2 18 rfl rfl)) (L3.look_f c 2 19 rfl rfl) (of_decide_eq_true (L3.look_f c 2 20 rfl rfl)) (L3.look_f c 2 21 rfl rfl) (of_decide_eq_true (L3.look_f c 2 22 rfl rfl)) (L3.look_f c 2 23 rfl rfl) (of_decide_eq_true (L3.look_f c 2 24 rfl rfl)) (L3.look_f c 2 25 rfl rfl) (L3.oexB_ok (L3.look_f c 2 26 rfl rfl)) (of_decide_eq_true (L3.look_f c 2 27 rfl rfl)) (of_decide_eq_true (L3.look_f c 2 28 rfl rfl)) (of_decide_eq_true (L3.look_f c 2 29 rfl rfl)) (L3.oexB_ok (L3.look_f c 2 30 rfl rfl)) (of_decide_eq_true (L3.look_f c 2 31 rfl rfl)) (of_decide_eq_true (L3.look_f c 2 32 rfl rfl)) (of_decide_eq_true (L3.look_f c 2 33 rfl rfl)) (L3.oexB_ok (L3.look_f c 2 34 rfl rfl)) (of_decide_eq_true (L3.look_f c 2 35 rfl rfl)) (of_decide_eq_true (L3.look_f c 2 36 rfl rfl)) (of_decide_eq_true (L3.look_f c 2 37 rfl rfl)) (of_decide_eq_true (L3.look_f c 2 38 rfl rfl)) (L3.smB_ok (L3.look_f c 2 39 rfl rfl)) (of_decide_eq_true (L3.look_f c 3 0 rfl rfl)) (L3.look_f c 3 1 rfl rfl) (L3.look_f c 3 2 rfl rfl) (of_decide_eq_true (L3.look_f c 3 3 rfl rfl)) (L3.look_f c 3 4 rfl rfl) (L3.look_f c 3 5 rfl rfl) (of_decide_eq_true (L3.look_f c 3 6 rfl rfl)) (L3.look_f c 3 7 rfl rfl) (L3.look_f c 3 8 rfl rfl) (of_decide_eq_true (L3.look_f c 3 9 rfl rfl)) (L3.look_f c 3 10 rfl rfl) (L3.look_f c 3 11 rfl rfl) (of_decide_eq_true (L3.look_f c 3 12 rfl rfl)) (of_decide_eq_true (L3.look_f c 3 13 rfl rfl)) (of_decide_eq_true (L3.look_f c 3 14 rfl rfl)) (of_decide_eq_true (L3.look_f c 3 15 rfl rfl)) (of_decide_eq_true (L3.look_f c 3 16 rfl rfl)) (of_decide_eq_true (L3.look_f c 3 17 rfl rfl)) (L3.look_f c 3 18 rfl rfl) (of_decide_eq_true (L3.look_f c 3 19 rfl rfl)) (of_decide_eq_true (L3.look_f c 3 20 rfl rfl)) (of_decide_eq_true (L3.look_f c 3 21 rfl rfl)) (L3.look_f c 3 22 rfl rfl) (of_decide_eq_true (L3.look_f c 3 23 rfl rfl)) (of_decide_eq_true (L3.look_f c 3 24 rfl rfl)) (of_decide_eq_true (L3.look_f c 3 25 rfl rfl)) (L3.look_f c 3 26 rfl rfl) (of_decide_eq_true (L3.look_f c 3 27 rfl rfl)) (of_decide_eq_true (L3.look_f c 3 28 rfl rfl)) (of_decide_eq_true (L3.look_f c 3 29 rfl rfl)) (L3.look_f c 3 30 rfl rfl) (L3.look_f c 3 31 rfl rfl) p_l_InvalidName_init__ (L3.look_f c 3 33 rfl rfl) (L3.look_f c 3 34 rfl rfl) p_l_InvalidNumber_init__ (L3.look_f c 3 36 rfl rfl) (L3.look_f c 3 37 rfl rfl) p_l_InvalidWord_init__ (L3.look_f c 3 39 rfl rfl) (L3.look_f c 4 0 rfl rfl) (of_decide_eq_true (L3.look_f c 4 1 rfl rfl)) p_l_is_integer (L3.look_f c 4 3 rfl rfl) (L3.look_f c 4 4 rfl rfl) (of_decide_eq_true (L3.look_f c 4 5 rfl rfl)) p_l_is_between (L3.look_f c 4 7 rfl rfl) (L3.look_f c 4 8 rfl rfl) (of_decide_eq_true (L3.look_f c 4 9 rfl rfl)) p_l_is_name (L3.look_f c 4 11 rfl rfl) (L3.look_f c 4 12 rfl rfl) (of_decide_eq_true (L3.look_f c 4 13 rfl rfl)) p_l_need_told (L3.look_f c 4 15 rfl rfl) (L3.look_f c 4 16 rfl rfl) p_q_df__need_told p_q_de__need_told p_l_Signals_init__ (L3.look_f c 4 20 rfl rfl) (L3.look_f c 4 21 rfl rfl) p_l_Signals_of (L3.look_f c 4 23 rfl rfl) (L3.look_f c 4 24 rfl rfl) p_l_Signals_getitem__ (L3.look_f c 4 26 rfl rfl) (L3.look_f c 4 27 rfl rfl) p_l_Signals_eq__ (L3.look_f c 4 29 rfl rfl) (L3.look_f c 4 30 rfl rfl) p_l_Word_init__ (L3.look_f c 4 32 rfl rfl) (L3.look_f c 4 33 rfl rfl) p_l_Word_of (L3.look_f c 4 35 rfl rfl) (L3.look_f c 4 36 rfl rfl) p_l_Word_getitem__ (L3.look_f c 4 38 rfl rfl) (L3.look_f c 4 39 rfl rfl) p_l_Word_eq__ (L3.look_f c 5 1 rfl rfl) (L3.look_f c 5 2 rfl rfl) p_l_Word_str__ (L3.look_f c 5 4 rfl rfl) (L3.look_f c 5 5 rfl rfl) (of_decide_eq_true (L3.look_f c 5 6 rfl rfl)) p_l_law_pen (L3.look_f c 5 8 rfl rfl) (L3.look_f c 5 9 rfl rfl) (of_decide_eq_true (L3.look_f c 5 10 rfl rfl)) p_l_law_draw (L3.look_f c 5 12 rfl rfl) (L3.look_f c 5 13 rfl rfl) (of_decide_eq_true (L3.look_f c 5 14 rfl rfl)) p_l_law_pick (L3.look_f c 5 16 rfl rfl) (L3.look_f c 5 17 rfl rfl) (of_decide_eq_true (L3.look_f c 5 18 rfl rfl)) p_l_law_names (L3.look_f c 5 20 rfl rfl) (L3.look_f c 5 21 rfl rfl) (of_decide_eq_true (L3.look_f c 5 22 rfl rfl)) p_l_law_is_name (L3.look_f c 5 24 rfl rfl) (L3.look_f c 5 25 rfl rfl) (of_decide_eq_true (L3.look_f c 5 26 rfl rfl)) p_l_law_is_between (L3.look_f c 5 28 rfl rfl) (L3.look_f c 5 29 rfl rfl) (of_decide_eq_true (L3.look_f c 5 30 rfl rfl)) p_l_law_fault (L3.look_f c 5 32 rfl rfl) (L3.look_f c 5 33 rfl rfl) (of_decide_eq_true (L3.look_f c 5 34 rfl rfl)) p_l_law_heard (L3.look_f c 5 36 rfl rfl) (L3.look_f c 5 37 rfl rfl) (of_decide_eq_true (L3.look_f c 5 38 rfl rfl)) p_l_law_odd (L3.look_f c 6 0 rfl rfl) (L3.look_f c 6 1 rfl rfl) (of_decide_eq_true (L3.look_f c 6 2 rfl rfl)) p_l_law_fields (L3.look_f c 6 4 rfl rfl) (L3.look_f c 6 5 rfl rfl) (of_decide_eq_true (L3.look_f c 6 6 rfl rfl)) p_l_law_text (L3.look_f c 6 8 rfl rfl) (L3.look_f c 6 9 rfl rfl) (of_decide_eq_true (L3.look_f c 6 10 rfl rfl)) p_l_law_right (L3.look_f c 6 12 rfl rfl) (L3.look_f c 6 13 rfl rfl) (of_decide_eq_true (L3.look_f c 6 14 rfl rfl)) p_l_law_refused_right (L3.look_f c 6 16 rfl rfl) (L3.look_f c 6 17 rfl rfl) (of_decide_eq_true (L3.look_f c 6 18 rfl rfl)) p_l_law_named_right (L3.look_f c 6 20 rfl rfl) (L3.look_f c 6 21 rfl rfl) (of_decide_eq_true (L3.look_f c 6 22 rfl rfl)) p_l_law (L3.look_f c 6 24 rfl rfl) (L3.look_f c 6 25 rfl rfl) (of_decide_eq_true (L3.look_f c 6 26 rfl rfl)) (of_decide_eq_true (L3.look_f c 6 27 rfl rfl)) (of_decide_eq_true (L3.look_f c 6 28 rfl rfl)) (of_decide_eq_true (L3.look_f c 6 29 rfl rfl)) (of_decide_eq_true (L3.look_f c 6 30 rfl rfl)) p_k_RESERVED (of_decide_eq_true (L3.look_f c 6 32 rfl rfl)) (of_decide_eq_true (L3.look_f c 6 33 rfl rfl)) (of_decide_eq_true (L3.look_f c 6 34 rfl rfl)) (of_decide_eq_true (L3.look_f c 6 35 rfl rfl)) (of_decide_eq_true (L3.look_f c 6 36 rfl rfl)) (of_decide_eq_true (L3.look_f c 6 37 rfl rfl)) (of_decide_eq_true (L3.look_f c 6 38 rfl rfl)) (of_decide_eq_true (L3.look_f c 6 39 rfl rfl)) (of_decide_eq_true (L3.look_f c 7 0 rfl rfl)) (of_decide_eq_true (L3.look_f c 7 1 rfl rfl)) (of_decide_eq_true (L3.look_f c 7 2 rfl rfl)) (of_decide_eq_true (L3.look_f c 7 3 rfl rfl)) (of_decide_eq_true (L3.look_f c 7 4 rfl rfl)) (of_decide_eq_true (L3.look_f c 7 5 rfl rfl))
def tbs : List (PySem.W.Frag → Addr) := [v_tbt_law_right, v_tbt_law_refused_right, v_tbt_law_named_right, v_tbt_law]
abbrev CS (K : PySem.W.Frag) : List (Addr × Addr) := [(v_tbc_law_right K, v_tbt_law_right K), (v_tbc_law_refused_right K, v_tbt_law_refused_right K), (v_tbc_law_named_right K, v_tbt_law_named_right K), (v_tbc_law K, v_tbt_law K)]
abbrev TS (K : PySem.W.Frag) : List (Str × Addr) := [("_law_right", v_tbt_law_right K), ("_law_refused_right", v_tbt_law_refused_right K), ("_law_named_right", v_tbt_law_named_right K), ("law", v_tbt_law K)]
theorem tabsK {K : PySem.W.Frag} {h : Heap} (ht : ∀ t ∈ tbs, h.get? (t K) = some { cls := .none, data := .fields #[] }) : ∀ p ∈ CS K, h.get? p.2 = some { cls := .none, data := .fields #[] } := by
  intro p hp
  simp only [CS, List.mem_cons, List.not_mem_nil, or_false] at hp
  rcases hp with rfl | rfl | rfl | rfl
  · exact ht v_tbt_law_right (by simp [tbs])
  · exact ht v_tbt_law_refused_right (by simp [tbs])
  · exact ht v_tbt_law_named_right (by simp [tbs])
  · exact ht v_tbt_law (by simp [tbs])
theorem tabsH {K : PySem.W.Frag} {H : L2.Hp} (ht : ∀ p ∈ CS K, H p.2 = some (.tbl #[])) : ∀ p ∈ TS K, H p.2 = some (.tbl #[]) := by
  intro p hp
  simp only [TS, List.mem_cons, List.not_mem_nil, or_false] at hp
  rcases hp with rfl | rfl | rfl | rfl
  · exact ht (v_tbc_law_right K, v_tbt_law_right K) (by simp [CS])
  · exact ht (v_tbc_law_refused_right K, v_tbt_law_refused_right K) (by simp [CS])
  · exact ht (v_tbc_law_named_right K, v_tbt_law_named_right K) (by simp [CS])
  · exact ht (v_tbc_law K, v_tbt_law K) (by simp [CS])
theorem outK {K : PySem.W.Frag} {h : Heap} (c : L3.lookB fls fns K = (true, fvs)) : ∀ p ∈ CS K, K.lookup p.2 = none := by
  intro p hp
  simp only [CS, List.mem_cons, List.not_mem_nil, or_false] at hp
  rcases hp with rfl | rfl | rfl | rfl
  · exact (Option.isNone_iff_eq_none.mp (L3.look_f c 3 7 rfl rfl))
  · exact (Option.isNone_iff_eq_none.mp (L3.look_f c 3 4 rfl rfl))
  · exact (Option.isNone_iff_eq_none.mp (L3.look_f c 3 1 rfl rfl))
  · exact (Option.isNone_iff_eq_none.mp (L3.look_f c 3 10 rfl rfl))
theorem codesK {K : PySem.W.Frag} {h : Heap} (X : K.In h) (c : L3.lookB fls fns K = (true, fvs)) : ∀ p ∈ CS K, PySem.W.CodeHd h p.1 p.2 := by
  intro p hp
  simp only [CS, List.mem_cons, List.not_mem_nil, or_false] at hp
  rcases hp with rfl | rfl | rfl | rfl
  · exact (PySem.W.codeHd_of_K X (L3.look_f c 3 8 rfl rfl))
  · exact (PySem.W.codeHd_of_K X (L3.look_f c 3 5 rfl rfl))
  · exact (PySem.W.codeHd_of_K X (L3.look_f c 3 2 rfl rfl))
  · exact (PySem.W.codeHd_of_K X (L3.look_f c 3 11 rfl rfl))
theorem knownK {K : PySem.W.Frag} {h : Heap} (c : L3.lookB fls fns K = (true, fvs)) : ∀ p ∈ TS K, ∃ c', PySem.W.tabIn K p.1 = some (c', p.2) := by
  intro p hp
  simp only [TS, List.mem_cons, List.not_mem_nil, or_false] at hp
  rcases hp with rfl | rfl | rfl | rfl
  · exact ⟨_, (of_decide_eq_true (L3.look_f c 3 6 rfl rfl))⟩
  · exact ⟨_, (of_decide_eq_true (L3.look_f c 3 3 rfl rfl))⟩
  · exact ⟨_, (of_decide_eq_true (L3.look_f c 3 0 rfl rfl))⟩
  · exact ⟨_, (of_decide_eq_true (L3.look_f c 3 9 rfl rfl))⟩
theorem apartK {K : PySem.W.Frag} (c : L3.lookB fls fns K = (true, fvs)) : ((TS K).map (·.2)).Nodup := of_decide_eq_true (L3.look_f c 7 6 rfl rfl)
abbrev R_ : PySem.W.OpenRow := PySem.W.OpenLaw.row PySem.Challenge.rw_orplaces_k20_words
set_option maxHeartbeats 0 in
theorem run (w : World) : HandSHeadRun.RunEq R_ (PySem.W.view R_.prog [40]) (L3.hookBT 0 tbs fls fns fvs) (L3.obTT 0 tbs fls fns) 60000 names w := by
  intro os
  kernel_rfl
end K20
open PySem PySem.W PyProof.Rows
set_option maxHeartbeats 0 in
theorem PySem.Challenge.cw_orplaces_k20_words_holds : PySem.Challenge.rw_orplaces_k20_words.Holds := by
  w_on; o_law
  refine HandSHeadRun.head_any (r := (PySem.W.OpenLaw.row PySem.Challenge.rw_orplaces_k20_words)) (q := PySem.W.view (PySem.W.OpenLaw.row PySem.Challenge.rw_orplaces_k20_words).prog [40]) (H := L3.hookBT 0 K20.tbs K20.fls K20.fns K20.fvs) (ob := L3.obTT 0 K20.tbs K20.fls K20.fns) (M := 60000) (loose := K20.names) (d := HandSHeadRun.topDef (PySem.W.OpenLaw.row PySem.Challenge.rw_orplaces_k20_words).prog 40) (kwd := []) (L3.obTT_eq _ _ _ _ _)
    (by kernel_rfl) (fun s => by kernel_rfl) K20.run (by kernel_rfl) (by kernel_rfl) (by kernel_rfl) (by rfl) (by first | assumption | decide +kernel) (by decide +kernel) ⟨rfl, rfl, rfl, rfl, rfl, by decide +kernel⟩ ?hw ?hc
  case hw => w_witness2
  case hc =>
    refine L3.walk_ofHT (l := PySem.Challenge.rw_orplaces_k20_words) (n := 63) (k := 16) (x := "_law_script") (CX := fun w => L2.CX (PySem.Challenge.rw_orplaces_k20_words).prog w) (sp := fun K => L3.toSp K K20.sp_law) rfl (by decide) (by kernel_rfl) ⟨rfl, by decide, by decide⟩ ?F (fun _ _ _ _ _ ⟨_, _, _, _, _, _, _, _, _, _, _, _, no⟩ => no)
    intro w mg fa h Y G hmg0
    obtain ⟨K, KX, ht, c⟩ := Y
    have hmg : mg ("law" : PySem.Str) = some (.ref fa) := by
      have e : (HandSHeadRun.topDef (PySem.W.OpenLaw.row PySem.Challenge.rw_orplaces_k20_words).prog 40).name = ("law" : PySem.Str) := by kernel_rfl
      rw [← e]
      exact hmg0
    obtain ⟨fd, hb, hF⟩ := K20.facts KX G hmg c
    exact ⟨K, KX, fd, K20.CS K, K20.tabsK ht, K20.outK (h := h) c, K20.codesK KX c, fun H a ns hl hT hS => L3.law_spT (ts := K20.TS K) (fun ns hl R RX h => K20.law_start ns hl R RX h) hl hS (K20.knownK (h := h) c) (K20.apartK c) (K20.tabsH hT), hb, hF⟩
