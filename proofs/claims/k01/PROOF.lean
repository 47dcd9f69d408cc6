import PyProof.Rows.All
import Wide.All
import OpenK.AllK
import Wide.FinOn
import HandS.ForMost
import HandS.Exc
import HandS.Lambda
import HandS.TupAny
import HandS.IsInst
import HandS.Wide
import HandS.ClsMeth
import HandS.More
import HandS.ForExc
import HandS.CallSlots
import HandS.ExcInit
import HandS.ExcIs
import HandS.ExcField
import HandS.TryMany
import HandS.Star
import KE.GoesMore
import PyProof.Draws
import HandS.Iter
import KE.KExcIs
import HandS.Codes
import KE.KParD
import KE.KStar
import HandS.SortInts
import HandS.Conv
import HandS.Ends
import PyProof.RowDictHeap
import HandS.SortRule
import KE.KDictPairs
import HandS.ListItems
import HandS.Style
import PyProof.P3Eq
import HandS.Records
import HandS.FStr
import HandS.Text
import HandS.RaiseMore
import HandS.DictComp
import HandS.Strs
import KE.KRevSl
import HandS.Deep
import HandS.DictEq
import HandS.OwnEq
import PyProof.EqKinds
import KE.BitLaws
import HandS.MethStar
import HandS.Property
import KE.KOpsOwn
import HandS.TryOnly
import HandS.SuiteRaise
import HandS.RaiseFrom
import HandS.ExcInitHot
import HandS.Flow
import HandS.Head0
import HandS.Head1
import HandS.Head2
import HandS.HeadHook1
import KE.KCallOwn
import KE.KSuper
import KE.KEqDict
import HandS.DeepEq
import PyProof.StrLawsRepr
import PyProof.ReprReads
import PyProof.Rows.RegStrFacts
import PyProof.EqAt
import PyProof.InstEq
import HandS.Spec
import HandS.IterVal
import HandS.EndTab
import PySem.Challenge.RW_orplaces_k01_errors_and_their_parts
set_option Elab.async false
set_option linter.all false
set_option maxRecDepth 100000
set_option maxHeartbeats 4000000
set_option pp.maxSteps 400
namespace L3
open PySem PySem.Spec PyProof.Rows L2

/-- what a step needs of its data: shown by arithmetic, or by hand -/
structure Need (p : Prop) : Prop where
  out : p
/-- pure data: what a Python value is, the heap put away. mut i: the i-th object that changes (its content stands in the table) -/
inductive D where
  | non | bl (b : Bool) | int (i : Int) | str (s : Str) | ty (n : String) | adr (a : Addr)
  | tup (l : List D) | ptp (l : List D) | lst (l : List D) | rol (l : List D) | dct (l : List (Key × D)) | fdc (l : List (Key × D)) | obj (n : Str) (fs : List (Str × D)) | cls (n : Str) | cel (i : Nat)

/-- a tuple that has no attributes of its own -/
def SqP (P : Hp) (a : Addr) (xs : List V) : Prop := ∃ o, P a = some (.frz o (.tup xs)) ∧ o.dict = none
/-- the class that the module's name n holds -/
def ClsAt (K : PySem.W.Frag) (n : Str) (C : Addr) : Prop := PySem.W.nsIn K mainGlobals n = some (some (.ref C))
theorem ClsAt.one {K : PySem.W.Frag} {n : Str} {C C' : Addr} (a : ClsAt K n C) (b : ClsAt K n C') : C = C' := by
  have e : some (some (Value.ref C)) = some (some (Value.ref C')) := a.symm.trans b
  cases e; rfl
mutual
inductive Rep (K : PySem.W.Frag) (P : Hp) (al : List Addr) : D → V → Prop
  | non : Rep K P al .non .non
  | bl (b : Bool) : Rep K P al (.bl b) (.bl b)
  | int (i : Int) : Rep K P al (.int i) (.int i)
  | str (s : Str) : Rep K P al (.str s) (.str s)
  | ty (n : String) : Rep K P al (.ty n) (.ty n)
  | adr (a : Addr) : Rep K P al (.adr a) (.ref a)
  | tup {a : Addr} {xs : List V} {ds : List D} : SqT K P a xs → Reps K P al ds xs → Rep K P al (.tup ds) (.ref a)
  | ptp {a : Addr} {xs : List V} {ds : List D} : SqP P a xs → Reps K P al ds xs → Rep K P al (.ptp ds) (.ref a)
  | lst {a : Addr} {xs : List V} {ds : List D} : P a = some (.lst xs) → Reps K P al ds xs → Rep K P al (.lst ds) (.ref a)
  | rol {a : Addr} {xs : List V} {ds : List D} : SqL K P a xs → Reps K P al ds xs → Rep K P al (.rol ds) (.ref a)
  | dct {a : Addr} {kvs : List (Key × V)} {ks : List (Key × D)} : P a = some (.dK kvs) → RepKs K P al ks kvs → Rep K P al (.dct ks) (.ref a)
  | fdc {a : Addr} {o : Obj} {kvs : List (Key × V)} {ks : List (Key × D)} : P a = some (.frz o (.dK kvs)) → RepKs K P al ks kvs → Rep K P al (.fdc ks) (.ref a)
  | obj {n : Str} {a C dx : Addr} {gs : List (Str × V)} {fs : List (Str × D)} : P a = some (.ins C dx gs) → ClsAt K n C → RepFs K P al fs gs → Rep K P al (.obj n fs) (.ref a)
  | cls {n : Str} {C : Addr} : ClsAt K n C → Rep K P al (.cls n) (.ref C)
  | cel {i : Nat} {a : Addr} : al[i]? = some a → Rep K P al (.cel i) (.ref a)
inductive Reps (K : PySem.W.Frag) (P : Hp) (al : List Addr) : List D → List V → Prop
  | nil : Reps K P al [] []
  | cons {d : D} {v : V} {ds : List D} {vs : List V} : Rep K P al d v → Reps K P al ds vs → Reps K P al (d :: ds) (v :: vs)
inductive RepKs (K : PySem.W.Frag) (P : Hp) (al : List Addr) : List (Key × D) → List (Key × V) → Prop
  | nil : RepKs K P al [] []
  | cons {k : Key} {d : D} {v : V} {ds : List (Key × D)} {vs : List (Key × V)} : Rep K P al d v → RepKs K P al ds vs → RepKs K P al ((k, d) :: ds) ((k, v) :: vs)
inductive RepFs (K : PySem.W.Frag) (P : Hp) (al : List Addr) : List (Str × D) → List (Str × V) → Prop
  | nil : RepFs K P al [] []
  | cons {k : Str} {d : D} {v : V} {ds : List (Str × D)} {vs : List (Str × V)} : Rep K P al d v → RepFs K P al ds vs → RepFs K P al ((k, d) :: ds) ((k, v) :: vs)
end

theorem same_seqT {K : PySem.W.Frag} {H H' : Hp} {a : Addr} {xs : List V} (e : Same H H') (h : SqT K H a xs) : SqT K H' a xs := by
  rcases h with h | h
  · rcases h with h | ⟨o, h⟩
    · exact .inl (.inl (e _ _ h))
    · exact .inl (.inr ⟨o, e _ _ h⟩)
  · exact .inr h
theorem SqP.same {P P' : Hp} {a : Addr} {xs : List V} (s : Same P P') (h : SqP P a xs) : SqP P' a xs := let ⟨o, e, d⟩ := h; ⟨o, s _ _ e, d⟩
theorem SqP.seqT {K : PySem.W.Frag} {P : Hp} {a : Addr} {xs : List V} (h : SqP P a xs) : SqT K P a xs := let ⟨o, e, _⟩ := h; .inl (.inr ⟨o, e⟩)
theorem pre_get {al al' : List Addr} (h : al <+: al') {i : Nat} {a : Addr} (e : al[i]? = some a) : al'[i]? = some a := by
  obtain ⟨t, rfl⟩ := h
  rw [List.getElem?_append_left (List.getElem?_eq_some_iff.mp e).1]; exact e
section
variable {K : PySem.W.Frag} {P P' : Hp} {al al' : List Addr}
mutual
theorem Rep.mono (s : Same P P') (h : al <+: al') : ∀ {d : D} {v : V}, Rep K P al d v → Rep K P' al' d v
  | _, _, .non => .non
  | _, _, .bl b => .bl b
  | _, _, .int i => .int i
  | _, _, .str x => .str x
  | _, _, .ty n => .ty n
  | _, _, .adr a => .adr a
  | _, _, .tup q r => .tup (same_seqT s q) (Reps.mono s h r)
  | _, _, .ptp q r => .ptp (q.same s) (Reps.mono s h r)
  | _, _, .lst q r => .lst (s _ _ q) (Reps.mono s h r)
  | _, _, .rol q r => .rol (s.seq q) (Reps.mono s h r)
  | _, _, .dct q r => .dct (s _ _ q) (RepKs.mono s h r)
  | _, _, .fdc q r => .fdc (s _ _ q) (RepKs.mono s h r)
  | _, _, .obj q c r => .obj (s _ _ q) c (RepFs.mono s h r)
  | _, _, .cls c => .cls c
  | _, _, .cel e => .cel (pre_get h e)
theorem Reps.mono (s : Same P P') (h : al <+: al') : ∀ {ds : List D} {vs : List V}, Reps K P al ds vs → Reps K P' al' ds vs
  | _, _, .nil => .nil
  | _, _, .cons r t => .cons (Rep.mono s h r) (Reps.mono s h t)
theorem RepKs.mono (s : Same P P') (h : al <+: al') : ∀ {ds : List (Key × D)} {vs : List (Key × V)}, RepKs K P al ds vs → RepKs K P' al' ds vs
  | _, _, .nil => .nil
  | _, _, .cons r t => .cons (Rep.mono s h r) (RepKs.mono s h t)
theorem RepFs.mono (s : Same P P') (h : al <+: al') : ∀ {ds : List (Str × D)} {vs : List (Str × V)}, RepFs K P al ds vs → RepFs K P' al' ds vs
  | _, _, .nil => .nil
  | _, _, .cons r t => .cons (Rep.mono s h r) (RepFs.mono s h t)
end
theorem Reps.length : ∀ {ds : List D} {vs : List V}, Reps K P al ds vs → ds.length = vs.length
  | _, _, .nil => rfl
  | _, _, .cons _ t => by simp [Reps.length t]
theorem Reps.append : ∀ {ds es : List D} {vs ws : List V}, Reps K P al ds vs → Reps K P al es ws → Reps K P al (ds ++ es) (vs ++ ws)
  | _, _, _, _, .nil, s => s
  | _, _, _, _, .cons r t, s => .cons r (Reps.append t s)
theorem Reps.get : ∀ {ds : List D} {vs : List V} {i : Nat} {d : D}, Reps K P al ds vs → ds[i]? = some d → ∃ v, vs[i]? = some v ∧ Rep K P al d v
  | _, _, _, _, .nil, e => by simp at e
  | _, _, 0, _, .cons r _, e => by simp at e; subst e; exact ⟨_, rfl, r⟩
  | _, _, i + 1, d, .cons _ t, e => by
    obtain ⟨v, h1, h2⟩ := Reps.get (i := i) (d := d) t (by simpa using e)
    exact ⟨v, by simpa using h1, h2⟩
theorem Reps.set {d : D} {v : V} (r : Rep K P al d v) : ∀ {ds : List D} {vs : List V} (i : Nat), Reps K P al ds vs → Reps K P al (ds.set i d) (vs.set i v)
  | _, _, _, .nil => .nil
  | _, _, 0, .cons _ t => .cons r t
  | _, _, i + 1, .cons q t => .cons q (Reps.set r i t)
theorem Reps.take : ∀ {ds : List D} {vs : List V} (n : Nat), Reps K P al ds vs → Reps K P al (ds.take n) (vs.take n)
  | _, _, 0, _ => by simp; exact .nil
  | _, _, _ + 1, .nil => .nil
  | _, _, n + 1, .cons r t => .cons r (Reps.take n t)
theorem Reps.drop : ∀ {ds : List D} {vs : List V} (n : Nat), Reps K P al ds vs → Reps K P al (ds.drop n) (vs.drop n)
  | _, _, 0, r => r
  | _, _, _ + 1, .nil => .nil
  | _, _, n + 1, .cons r t => Reps.drop n t
end

/-! ### steps of the heap -/
/-- what stays unpublished: neither an instance's dict nor an error's -/
def PnOk (o : HO) : Prop := (∀ x, o ≠ .own x) ∧ ∀ g, o ≠ .xd g
/-- from one state to a later one: the published part grows, the table's places stay, what is tracked beside them stays -/
structure Ext (P : Hp) (al : List Addr) (H : Hp) (P' : Hp) (al' : List Addr) (H' : Hp) : Prop where
  pp : Same P P'
  pre : al <+: al'
  fr : ∀ b o, H b = some o → b ∉ al → H' b = some o
  new : ∀ b, b ∈ al' → b ∉ al → H b = none
  pn : ∀ b o, H b = some o → PnOk o → P b = none → b ∉ al → P' b = none
theorem Ext.refl {P : Hp} {al : List Addr} {H : Hp} : Ext P al H P al H :=
  ⟨Same.refl _, List.prefix_refl _, fun _ _ h _ => h, fun _ h n => absurd h n, fun _ _ _ _ h _ => h⟩
theorem Ext.trans {P P1 P2 : Hp} {al al1 al2 : List Addr} {H H1 H2 : Hp} (a : Ext P al H P1 al1 H1) (b : Ext P1 al1 H1 P2 al2 H2) : Ext P al H P2 al2 H2 := by
  have nin : ∀ c o, H c = some o → c ∉ al → c ∉ al1 := fun c o h n m => by
    have := a.new c m n
    rw [h] at this; cases this
  refine ⟨a.pp.trans b.pp, List.IsPrefix.trans a.pre b.pre, fun c o h n => b.fr c o (a.fr c o h n) (nin c o h n), fun c m n => ?_, fun c o h ho hp n => ?_⟩
  · by_cases m1 : c ∈ al1
    · exact a.new c m1 n
    · have h1 := b.new c m m1
      cases h : H c with
      | none => rfl
      | some o => rw [a.fr c o h n] at h1; cases h1
  · exact b.pn c o (a.fr c o h n) ho (a.pn c o h ho hp n) (nin c o h n)

/-- what stands in the table: alive if an object of it changes -/
def live : D → Bool
  | .lst _ => true
  | .dct _ => true
  | .obj _ _ => true
  | .cls _ => true
  | _ => false
/-- what a lambda is called that the module's def n makes -/
def lamQ (n : Str) : Str := n ++ ".<locals>." ++ "<lambda>"
/-- the table of code objects of the module's def n, at a (it grows when a lambda is first made); each code that it tells is of such a lambda -/
def TabC (K : PySem.W.Frag) (P : Hp) (a : Addr) (n : Str) (H : Hp) : Prop :=
  P a = none ∧ ∃ ps : Array Value, H a = some (.tbl ps) ∧ (TriplesOk ps.toList ∧ ∃ c, PySem.W.tabIn K n = some (c, a)) ∧ ∀ (pos : Pos) (cv : Value), codeAmong pos ps.toList = some cv → ∃ c, cv = .ref c ∧ P c = some (LamX.CodeO c (lamQ n))
/-- an error that is kept as a value -/
def ExK (a : Addr) (oe : Obj) : HO := .ext fun h => h.get? a = some oe
/-- [.obj n fs]: the object at a is an error of the class n with the fields fs -/
def ExCell (K : PySem.W.Frag) (P : Hp) (al : List Addr) (l : List D) (a : Addr) : Prop := match l with
  | [.obj n fs] => ∃ C d oe, P a = some (ExK a oe) ∧ ClsAt K n C ∧ L2.Zc (.ref C) d oe ∧ (∃ vs, oe.data = .fields vs) ∧ ((d = none ∧ fs = []) ∨ ∃ dd gs, d = some dd ∧ P dd = some (.xd gs) ∧ RepFs K P al fs gs)
  | _ => True
theorem ExCell.mono {K : PySem.W.Frag} {P P' : Hp} {al al' : List Addr} {l : List D} {a : Addr} (c : ExCell K P al l a) (s : Same P P') (h : al <+: al') : ExCell K P' al' l a := by
  unfold ExCell at c ⊢
  split at c
  · obtain ⟨C, d, oe, h1, h2, h3, h4, h5⟩ := c
    refine ⟨C, d, oe, s _ _ h1, h2, h3, h4, ?_⟩
    rcases h5 with h5 | ⟨dd, gs, g1, g2, g3⟩
    · exact .inl h5
    · exact .inr ⟨dd, gs, g1, s _ _ g2, g3.mono s h⟩
  · trivial
/-- the i-th object that changes, at a -/
def Cell (K : PySem.W.Frag) (P : Hp) (al : List Addr) (m : D) (a : Addr) (H : Hp) : Prop :=
  match m with
  | .lst ds => P a = none ∧ ∃ xs, H a = some (.lst xs) ∧ Reps K P al ds xs
  | .dct ks => P a = none ∧ ∃ kvs, H a = some (.dK kvs) ∧ RepKs K P al ks kvs
  | .obj n fs => P a = none ∧ ∃ C dx gs, H a = some (.ins C dx gs) ∧ ClsAt K n C ∧ RepFs K P al fs gs
  | .ptp l => ExCell K P al l a
  | .cls n => TabC K P a n H
  | _ => True
abbrev Bs := Hp × List Addr × Hp
abbrev Mt := List D
abbrev Ev := List (Option D)
structure RS0 (K : PySem.W.Frag) (B : Bs) (P : Hp) (al : List Addr) (M : Mt) (H : Hp) : Prop where
  base : Ext B.1 B.2.1 B.2.2 P al H
  same : Same P H
  len : al.length = M.length
  cell : ∀ (i : Nat) (a : Addr) (m : D), al[i]? = some a → M[i]? = some m → Cell K P al m a H
  inj : ∀ (i j : Nat) (a : Addr) (m n : D), al[i]? = some a → al[j]? = some a → M[i]? = some m → M[j]? = some n → live m = true → live n = true → i = j
  trk : ∀ a, a ∈ al → ∃ o, H a = some o
structure RS (K : PySem.W.Frag) (B : Bs) (P : Hp) (al : List Addr) (M : Mt) (env : Ev) (σ : L2.St) (H : Hp) : Prop extends RS0 K B P al M H where
  slen : env.length = σ.length
  slot : ∀ (j : Nat) (d : D), env[j]? = some (some d) → ∃ v, σ[j]? = some (some v) ∧ Rep K P al d v
section
variable {K : PySem.W.Frag} {B : Bs} {P P' : Hp} {al al' : List Addr} {M M' : Mt} {env : Ev} {σ : L2.St} {H H' : Hp} {a p : Addr} {d : D} {v : V}
theorem live_cell {m : D} (h : live m = true) (c : Cell K P al m a H) : P a = none ∧ ∃ o, H a = some o := by
  cases m <;> simp [live] at h
  · obtain ⟨h1, xs, h2, _⟩ := c; exact ⟨h1, _, h2⟩
  · obtain ⟨h1, xs, h2, _⟩ := c; exact ⟨h1, _, h2⟩
  · obtain ⟨h1, _, _, _, h2, _⟩ := c; exact ⟨h1, _, h2⟩
  · obtain ⟨h1, ps, h2, _⟩ := c; exact ⟨h1, _, h2⟩
theorem Cell.mono {m : D} (c : Cell K P al m a H) (s : Same P P') (h : al <+: al') (hp : live m = true → P' a = none) (hh : ∀ o, live m = true → H a = some o → H' a = some o) : Cell K P' al' m a H' := by
  cases m <;> first | trivial | skip
  · exact ExCell.mono c s h
  · obtain ⟨h1, xs, h2, h3⟩ := c; exact ⟨hp rfl, xs, hh _ rfl h2, h3.mono s h⟩
  · obtain ⟨h1, xs, h2, h3⟩ := c; exact ⟨hp rfl, xs, hh _ rfl h2, h3.mono s h⟩
  · obtain ⟨h1, C, dx, xs, h2, hc, h3⟩ := c; exact ⟨hp rfl, C, dx, xs, hh _ rfl h2, hc, h3.mono s h⟩
  · obtain ⟨h1, ps, h2, h3, h4⟩ := c
    exact ⟨hp rfl, ps, hh _ rfl h2, h3, fun pos cv hc => by obtain ⟨c, e1, e2⟩ := h4 pos cv hc; exact ⟨c, e1, s _ _ e2⟩⟩
/-- slots behind a step -/
theorem RS.step (r : RS K B P al M env σ H) (e : Ext P al H P' al' H') (r' : RS0 K B P' al' M' H') : RS K B P' al' M' env σ H' :=
  ⟨r', r.slen, fun j d h => by obtain ⟨v, h1, h2⟩ := r.slot j d h; exact ⟨v, h1, h2.mono e.pp e.pre⟩⟩
theorem RS0.free (r : RS0 K B P al M H) (hp : H p = none) : P p = none := by
  cases h : P p with
  | none => rfl
  | some o => rw [r.same _ _ h] at hp; cases hp
/-- a new object, published at once -/
theorem RS0.alloc (r : RS0 K B P al M H) (hp : H p = none) (o : HO) : Ext P al H (upd P p o) al (upd H p o) ∧ RS0 K B (upd P p o) al M (upd H p o) := by
  have np := r.free hp
  have e : Ext P al H (upd P p o) al (upd H p o) := by
    refine ⟨fun b x h => by rw [upd_ne (ne_of_none h np)]; exact h, List.prefix_refl _, fun b x h _ => by rw [upd_ne (ne_of_none h hp)]; exact h, fun b m n => absurd m n, fun b x h _ hb _ => by rw [upd_ne (ne_of_none h hp)]; exact hb⟩
  refine ⟨e, r.base.trans e, fun b x h => ?_, r.len, fun i a m h1 h2 => ?_, r.inj, fun a ha => by obtain ⟨o', h⟩ := r.trk a ha; exact ⟨o', by rw [upd_ne (ne_of_none h hp)]; exact h⟩⟩
  · by_cases hb : b = p
    · subst hb; rw [upd_same] at h ⊢; exact h
    · rw [upd_ne hb] at h ⊢; exact r.same _ _ h
  · have c := r.cell i a m h1 h2
    have hne : live m = true → a ≠ p := fun hl => by
      obtain ⟨_, o', ho⟩ := live_cell hl c
      exact ne_of_none ho hp
    exact c.mono e.pp e.pre (fun hl => by rw [upd_ne (hne hl)]; exact (live_cell hl c).1) fun o' hl ho => by rw [upd_ne (hne hl)]; exact ho
/-- a new object that will change -/
theorem RS0.allocM (r : RS0 K B P al M H) (hp : H p = none) {o : HO} {m : D} (hc : ∀ P' al', Same P P' → al <+: al' → P' p = none → ∀ H', H' p = some o → Cell K P' al' m p H') :
    Ext P al H P (al ++ [p]) (upd H p o) ∧ RS0 K B P (al ++ [p]) (M ++ [m]) (upd H p o) := by
  have np := r.free hp
  have e : Ext P al H P (al ++ [p]) (upd H p o) := by
    refine ⟨Same.refl _, List.prefix_append _ _, fun b x h _ => by rw [upd_ne (ne_of_none h hp)]; exact h, fun b m n => ?_, fun b x h _ hb _ => hb⟩
    rcases List.mem_append.mp m with z | z
    · exact absurd z n
    · have : b = p := by simpa using z
      rw [this]; exact hp
  have old : ∀ (i : Nat) (a : Addr), (al ++ [p])[i]? = some a → (i < al.length ∧ al[i]? = some a) ∨ (i = al.length ∧ a = p) := fun i a h => by
    by_cases hi : i < al.length
    · rw [List.getElem?_append_left hi] at h; exact .inl ⟨hi, h⟩
    · rw [List.getElem?_append_right (by omega)] at h
      have : i - al.length = 0 := by
        cases hq : i - al.length with
        | zero => rfl
        | succ n => rw [hq] at h; simp at h
      rw [this] at h
      exact .inr ⟨by omega, by simpa using h.symm⟩
  have oldM : ∀ (i : Nat) (n : D), i < al.length → (M ++ [m])[i]? = some n → M[i]? = some n := fun i n hi h => by
    rw [List.getElem?_append_left (by have := r.len; omega)] at h; exact h
  refine ⟨e, r.base.trans e, fun b x h => by rw [upd_ne (ne_of_none h np)]; exact r.same _ _ h, by simp [r.len], fun i a n h1 h2 => ?_, fun i j a n n' h1 h2 h3 h4 l1 l2 => ?_, fun a ha => ?_⟩
  · rcases old i a h1 with ⟨hi, h1'⟩ | ⟨hi, rfl⟩
    · have c := r.cell i a n h1' (oldM i n hi h2)
      have hne : live n = true → a ≠ p := fun hl => by
        obtain ⟨_, o', ho⟩ := live_cell hl c
        exact ne_of_none ho hp
      exact c.mono e.pp e.pre (fun hl => (live_cell hl c).1) fun o' hl ho => by rw [upd_ne (hne hl)]; exact ho
    · rw [hi, List.getElem?_append_right (by have := r.len; omega), r.len, Nat.sub_self] at h2
      have : m = n := by simpa using h2
      subst this
      exact hc _ _ (Same.refl _) e.pre np _ upd_same
  · rcases old i a h1 with ⟨hi, h1'⟩ | ⟨hi, e1⟩
    · rcases old j a h2 with ⟨hj, h2'⟩ | ⟨hj, e2⟩
      · exact r.inj i j a n n' h1' h2' (oldM i n hi h3) (oldM j n' hj h4) l1 l2
      · exfalso
        obtain ⟨_, o', ho⟩ := live_cell l1 (r.cell i a n h1' (oldM i n hi h3))
        rw [e2, hp] at ho; cases ho
    · rcases old j a h2 with ⟨hj, h2'⟩ | ⟨hj, e2⟩
      · exfalso
        obtain ⟨_, o', ho⟩ := live_cell l2 (r.cell j a n' h2' (oldM j n' hj h4))
        rw [e1, hp] at ho; cases ho
      · omega
  · rcases List.mem_append.mp ha with z | z
    · obtain ⟨o', h⟩ := r.trk a z; exact ⟨o', by rw [upd_ne (ne_of_none h hp)]; exact h⟩
    · have : a = p := by simpa using z
      rw [this]; exact ⟨_, upd_same⟩
/-- the i-th object changes -/
theorem RS0.change (r : RS0 K B P al M H) {i : Nat} {m m' : D} {o' : HO} (ha : al[i]? = some a) (hm : M[i]? = some m) (hl : live m = true) (hc : ∀ H', H' a = some o' → Cell K P al m' a H') :
    Ext P al H P al (upd H a o') ∧ RS0 K B P al (M.set i m') (upd H a o') := by
  have c := r.cell i a m ha hm
  have np := (live_cell hl c).1
  have im : i < M.length := (List.getElem?_eq_some_iff.mp hm).1
  have ia : a ∈ al := List.mem_of_getElem? ha
  have e : Ext P al H P al (upd H a o') := by
    refine ⟨Same.refl _, List.prefix_refl _, fun b x h n => ?_, fun b m n => absurd m n, fun b x h _ hb _ => hb⟩
    have hne : b ≠ a := fun z => n (by rw [z]; exact ia)
    rw [upd_ne hne]; exact h
  have gm : ∀ (j : Nat) (n : D), (M.set i m')[j]? = some n → (j = i ∧ n = m') ∨ (j ≠ i ∧ M[j]? = some n) := fun j n h => by
    by_cases hj : j = i
    · subst hj; rw [List.getElem?_set_self im] at h; exact .inl ⟨rfl, (Option.some.inj h).symm⟩
    · rw [List.getElem?_set_ne (Ne.symm hj)] at h; exact .inr ⟨hj, h⟩
  refine ⟨e, r.base.trans e, fun b x h => ?_, by simp [r.len], fun j b n h1 h2 => ?_, fun j k b n n' h1 h2 h3 h4 l1 l2 => ?_, fun b hb => ?_⟩
  · rw [upd_ne (fun z => by rw [z, np] at h; cases h)]; exact r.same _ _ h
  · rcases gm j n h2 with ⟨rfl, rfl⟩ | ⟨hj, h2⟩
    · rw [ha] at h1; cases h1
      exact hc _ upd_same
    · have c' := r.cell j b n h1 h2
      refine c'.mono (Same.refl _) (List.prefix_refl _) (fun l => (live_cell l c').1) (fun o l ho => ?_)
      have hne : b ≠ a := fun z => hj (r.inj j i a n m (z ▸ h1) ha h2 hm l hl)
      rw [upd_ne hne]; exact ho
  · rcases gm j n h3 with ⟨e1, e2⟩ | ⟨hj, g3⟩
    · rcases gm k n' h4 with ⟨e3, e4⟩ | ⟨hk, g4⟩
      · omega
      · rw [e1, ha] at h1; cases h1
        rw [e1]
        exact (r.inj k i a n' m h2 ha g4 hm l2 hl).symm
    · rcases gm k n' h4 with ⟨e3, e4⟩ | ⟨hk, g4⟩
      · rw [e3, ha] at h2; cases h2
        rw [e3]
        exact r.inj j i a n m h1 ha g3 hm l1 hl
      · exact r.inj j k b n n' h1 h2 g3 g4 l1 l2
  · by_cases hz : b = a
    · rw [hz]; exact ⟨_, upd_same⟩
    · obtain ⟨o2, h⟩ := r.trk b hb; exact ⟨o2, by rw [upd_ne hz]; exact h⟩
/-- what is not tracked was not tracked at the base -/
theorem RS0.fresh (r : RS0 K B P al M H) (hp : H p = none) : B.2.2 p = none ∧ p ∉ al := by
  have na : p ∉ al := fun h => by obtain ⟨o, e⟩ := r.trk p h; rw [hp] at e; cases e
  refine ⟨?_, na⟩
  cases h : B.2.2 p with
  | none => rfl
  | some o =>
    have nb : p ∉ B.2.1 := fun z => na (r.base.pre.subset z)
    rw [r.base.fr p o h nb] at hp; cases hp
/-- an object of our own beside the state: made, changed, published -/
theorem Ext.priv (e : Ext P al H P' al' H') (hp : H p = none) (o : HO) : Ext P al H P' al' (upd H' p o) :=
  ⟨e.pp, e.pre, fun b x h n => by rw [upd_ne (ne_of_none h hp)]; exact e.fr b x h n, e.new, e.pn⟩
theorem Ext.pub (e : Ext P al H P' al' H') (hp : H p = none) (hq : P' p = none) (o : HO) : Ext P al H (upd P' p o) al' H' :=
  ⟨fun b x h => by rw [upd_ne (ne_of_none (e.pp b x h) hq)]; exact e.pp b x h, e.pre, e.fr, e.new, fun b x h h1 h2 h3 => by rw [upd_ne (ne_of_none h hp)]; exact e.pn b x h h1 h2 h3⟩
theorem RS0.priv (r : RS0 K B P al M H) (hq : P p = none) (na : p ∉ al) (hb : B.2.2 p = none) (o : HO) : RS0 K B P al M (upd H p o) := by
  refine ⟨r.base.priv hb o, fun b x h => by rw [upd_ne (ne_of_none h hq)]; exact r.same _ _ h, r.len, fun i a m h1 h2 => ?_, r.inj, fun a ha => ?_⟩
  · have ne : a ≠ p := fun z => na (z ▸ List.mem_of_getElem? h1)
    exact (r.cell i a m h1 h2).mono (Same.refl _) (List.prefix_refl _) (fun l => (live_cell l (r.cell i a m h1 h2)).1) fun o' _ h => by rw [upd_ne ne]; exact h
  · have ne : a ≠ p := fun z => na (z ▸ ha)
    obtain ⟨o2, h⟩ := r.trk a ha; exact ⟨o2, by rw [upd_ne ne]; exact h⟩
theorem RS0.pub (r : RS0 K B P al M H) (hq : P p = none) (na : p ∉ al) (hb : B.2.2 p = none) {o : HO} (ho : H p = some o) : RS0 K B (upd P p o) al M H := by
  have sm : Same P (upd P p o) := fun b x h => by rw [upd_ne (ne_of_none h hq)]; exact h
  refine ⟨r.base.pub hb hq o, fun b x h => ?_, r.len, fun i a m h1 h2 => ?_, r.inj, r.trk⟩
  · by_cases hz : b = p
    · rw [hz, upd_same] at h; cases h; rw [hz]; exact ho
    · rw [upd_ne hz] at h; exact r.same _ _ h
  · have ne : a ≠ p := fun z => na (z ▸ List.mem_of_getElem? h1)
    exact (r.cell i a m h1 h2).mono sm (List.prefix_refl _) (fun l => by rw [upd_ne ne]; exact (live_cell l (r.cell i a m h1 h2)).1) fun o' _ h => h
end

/-! ### judgements: pure readings -/
abbrev WE := Ev → Mt → (D → Mt → Prop) → Prop
abbrev WT := Ev → Mt → (Bool → Mt → Prop) → Prop
abbrev WA := Ev → Mt → (List D → Mt → Prop) → Prop
structure DEnds where
  nx : Ev → Mt → Prop
  rt : D → Mt → Prop
  bk : Ev → Mt → Prop
  ct : Ev → Mt → Prop
abbrev WS := DEnds → Ev → Mt → Prop
abbrev WG := D → Ev → Mt → (Ev → Mt → Prop) → Prop
section
variable (K : PySem.W.Frag) (B : Bs)
def Lift (P : Hp) (al : List Addr) (env : Ev) (σ : L2.St) (H : Hp) (R : D → Mt → Prop) (Q : VK) : Prop :=
  ∀ d M' v H' P' al', Ext P al H P' al' H' → RS K B P' al' M' env σ H' → Rep K P' al' d v → R d M' → Q v H'
def tD (w : WE) : TE := fun σ H Q => ∃ P al M env R, RS K B P al M env σ H ∧ w env M R ∧ Lift K B P al env σ H R Q
def tDT (w : WT) : TT := fun σ H Q => ∃ P al M env R, RS K B P al M env σ H ∧ w env M R ∧
  ∀ b M' H' P' al', Ext P al H P' al' H' → RS K B P' al' M' env σ H' → R b M' → Q b H'
def tDA (w : WA) : TA := fun σ H Q => ∃ P al M env R, RS K B P al M env σ H ∧ w env M R ∧
  ∀ ds M' vs H' P' al', Ext P al H P' al' H' → RS K B P' al' M' env σ H' → Reps K P' al' ds vs → R ds M' → Q vs H'
structure DLift (P : Hp) (al : List Addr) (H : Hp) (k : DEnds) (D : Ends) : Prop where
  nx : ∀ env' M' σ' H' P' al', Ext P al H P' al' H' → RS K B P' al' M' env' σ' H' → k.nx env' M' → D.nx σ' H'
  rt : ∀ d M' v H' P' al', Ext P al H P' al' H' → RS0 K B P' al' M' H' → Rep K P' al' d v → k.rt d M' → D.rt v H'
  bk : ∀ env' M' σ' H' P' al', Ext P al H P' al' H' → RS K B P' al' M' env' σ' H' → k.bk env' M' → D.bk σ' H'
  ct : ∀ env' M' σ' H' P' al', Ext P al H P' al' H' → RS K B P' al' M' env' σ' H' → k.ct env' M' → D.ct σ' H'
def tDS (w : WS) : TS := fun D σ H => ∃ P al M env, ∃ k : DEnds, RS K B P al M env σ H ∧ w k env M ∧ DLift K B P al H k D
def tDG (g : WG) : TG := fun v σ H Q => ∃ P al M env d R, RS K B P al M env σ H ∧ Rep K P al d v ∧ g d env M R ∧
  ∀ env' M' σ' H' P' al', Ext P al H P' al' H' → RS K B P' al' M' env' σ' H' → R env' M' → Q σ' H'
end
theorem DLift.after {K : PySem.W.Frag} {B : Bs} {P P' : Hp} {al al' : List Addr} {H H' : Hp} {k : DEnds} {D : Ends} (L : DLift K B P al H k D) (e : Ext P al H P' al' H') : DLift K B P' al' H' k D :=
  ⟨fun _ _ _ _ _ _ e2 => L.nx _ _ _ _ _ _ (e.trans e2), fun _ _ _ _ _ _ e2 => L.rt _ _ _ _ _ _ (e.trans e2), fun _ _ _ _ _ _ e2 => L.bk _ _ _ _ _ _ (e.trans e2), fun _ _ _ _ _ _ e2 => L.ct _ _ _ _ _ _ (e.trans e2)⟩
theorem _root_.L2.PE.imp {X : Cx} {e : Expr} {t u : TE} (h : PE X e t) (i : ∀ σ H Q, u σ H Q → t σ H Q) : PE X e u := ⟨fun pins s σ H Q I q => h.run pins s σ H Q I (i σ H Q q)⟩
theorem _root_.L2.PT.imp {X : Cx} {e : Expr} {t u : TT} (h : PT X e t) (i : ∀ σ H Q, u σ H Q → t σ H Q) : PT X e u := ⟨fun pins s σ H Q I q => h.run pins s σ H Q I (i σ H Q q)⟩
theorem _root_.L2.PW.imp {X : Cx} {e : Expr} {t u : TT} (h : PW X e t) (i : ∀ σ H Q, u σ H Q → t σ H Q) : PW X e u := ⟨fun wh pins s σ H Q I q => h.run wh pins s σ H Q I (i σ H Q q)⟩
theorem _root_.L2.PA.imp {X : Cx} {e : List Expr} {t u : TA} (h : PA X e t) (i : ∀ σ H Q, u σ H Q → t σ H Q) : PA X e u := ⟨fun p pins s σ H Q I q => h.run p pins s σ H Q I (i σ H Q q)⟩
theorem _root_.L2.PS.imp {X : Cx} {e : Stmt} {t u : TS} (h : PS X e t) (i : ∀ D σ H, u D σ H → t D σ H) : PS X e u := ⟨fun pins s σ H D I q => h.run pins s σ H D I (i D σ H q)⟩
theorem _root_.L2.PSs.imp {X : Cx} {e : List Stmt} {t u : TS} (h : PSs X e t) (i : ∀ D σ H, u D σ H → t D σ H) : PSs X e u := ⟨fun pins s σ H D I q => h.run pins s σ H D I (i D σ H q)⟩
theorem _root_.L2.PI.imp {X : Cx} {tg e : Expr} {t u : TI} (h : PI X tg e t) (i : ∀ σ H Q, u σ H Q → t σ H Q) : PI X tg e u := ⟨fun pins s σ H R I q => h.run pins s σ H R I (i σ H R q)⟩
theorem _root_.L2.PG.imp {X : Cx} {e : Expr} {t u : TG} (h : PG X e t) (i : ∀ v σ H Q, u v σ H Q → t v σ H Q) : PG X e u := ⟨fun pins s σ H v u' Q I r q => h.run pins s σ H v u' Q I r (i v σ H Q q)⟩
abbrev DE (B : Bs) (X : Cx) (e : Expr) (w : WE) : Prop := PE X e (tD X.K B w)
abbrev DT (B : Bs) (X : Cx) (e : Expr) (w : WT) : Prop := PT X e (tDT X.K B w)
abbrev DW (B : Bs) (X : Cx) (e : Expr) (w : WT) : Prop := PW X e (tDT X.K B w)
abbrev DA (B : Bs) (X : Cx) (es : List Expr) (w : WA) : Prop := PA X es (tDA X.K B w)
abbrev DS (B : Bs) (X : Cx) (st : Stmt) (w : WS) : Prop := PS X st (tDS X.K B w)
abbrev DSs (B : Bs) (X : Cx) (st : List Stmt) (w : WS) : Prop := PSs X st (tDS X.K B w)
abbrev DG (B : Bs) (X : Cx) (e : Expr) (g : WG) : Prop := PG X e (tDG X.K B g)
end L3

namespace L3
open PySem PySem.Spec PyProof.Rows L2
/-! ### looking through the table -/
def viewD (M : Mt) : D → D
  | .cel i => match M[i]? with
    | some (.lst l) => .lst l
    | some (.dct l) => .dct l
    | some (.obj C fs) => .obj C fs
    | _ => .cel i
  | d => d
section
variable {K : PySem.W.Frag} {B : Bs} {P P' : Hp} {al al' : List Addr} {M M' : Mt} {env : Ev} {σ : L2.St} {H H' : Hp} {a p : Addr} {d : D} {v : V}
/-- what is looked through -/
def liveV : D → Bool
  | .lst _ => true
  | .dct _ => true
  | .obj _ _ => true
  | _ => false
theorem liveV_live {m : D} (h : liveV m = true) : live m = true := by cases m <;> first | rfl | cases h
theorem view_cases (M : Mt) (d : D) : viewD M d = d ∨ ∃ i m, d = .cel i ∧ M[i]? = some m ∧ liveV m = true ∧ viewD M d = m := by
  cases d <;> first | exact .inl rfl | skip
  rename_i i
  obtain ⟨o, h⟩ : ∃ o, M[i]? = o := ⟨_, rfl⟩
  cases o with
  | none => exact .inl (by simp only [viewD, h])
  | some m =>
    cases m <;> first
      | exact .inr ⟨i, _, rfl, h, rfl, by simp only [viewD, h]⟩
      | exact .inl (by simp only [viewD, h])
theorem view_same {m : D} (hl : liveV m = false) (e : viewD M d = m) : d = m := by
  rcases view_cases M d with h | ⟨i, n, _, _, l, h⟩
  · rw [← h, e]
  · rw [e] at h; subst h; rw [hl] at l; cases l
theorem cell_at (r : RS0 K B P al M H) {i : Nat} {m : D} (hm : M[i]? = some m) (q : Rep K P al (.cel i) v) : ∃ a, v = .ref a ∧ al[i]? = some a ∧ Cell K P al m a H := by
  cases q with
  | cel e => exact ⟨_, rfl, e, r.cell _ _ _ e hm⟩
theorem view_lst (r : RS0 K B P al M H) (q : Rep K P al d v) {ds : List D} (e : viewD M d = .lst ds) : ∃ a xs, v = .ref a ∧ H a = some (.lst xs) ∧ Reps K P al ds xs := by
  rcases view_cases M d with h | ⟨i, m, rfl, hm, l, h⟩
  · rw [e] at h; subst h
    cases q with
    | lst h1 h2 => exact ⟨_, _, rfl, r.same _ _ h1, h2⟩
  · rw [e] at h; subst h
    obtain ⟨a, rfl, _, _, xs, h1, h2⟩ := cell_at r hm q
    exact ⟨a, xs, rfl, h1, h2⟩
theorem view_dct (r : RS0 K B P al M H) (q : Rep K P al d v) {ds : List (Key × D)} (e : viewD M d = .dct ds) : ∃ a xs, v = .ref a ∧ H a = some (.dK xs) ∧ RepKs K P al ds xs := by
  rcases view_cases M d with h | ⟨i, m, rfl, hm, l, h⟩
  · rw [e] at h; subst h
    cases q with
    | dct h1 h2 => exact ⟨_, _, rfl, r.same _ _ h1, h2⟩
  · rw [e] at h; subst h
    obtain ⟨a, rfl, _, _, xs, h1, h2⟩ := cell_at r hm q
    exact ⟨a, xs, rfl, h1, h2⟩
theorem view_fdc (r : RS0 K B P al M H) (q : Rep K P al d v) {ds : List (Key × D)} (e : viewD M d = .fdc ds) : ∃ a xs, v = .ref a ∧ Rd H a (.dK xs) ∧ RepKs K P al ds xs := by
  rw [view_same rfl e] at q
  cases q with
  | fdc h1 h2 => exact ⟨_, _, rfl, .inr ⟨_, r.same _ _ h1⟩, h2⟩
theorem view_tup (r : RS0 K B P al M H) (q : Rep K P al d v) {ds : List D} (e : viewD M d = .tup ds) : ∃ a xs, v = .ref a ∧ SqT K H a xs ∧ Reps K P al ds xs := by
  rw [view_same rfl e] at q
  cases q with
  | tup h1 h2 => exact ⟨_, _, rfl, same_seqT r.same h1, h2⟩
theorem view_rol (r : RS0 K B P al M H) (q : Rep K P al d v) {ds : List D} (e : viewD M d = .rol ds) : ∃ a xs, v = .ref a ∧ SqL K H a xs ∧ Reps K P al ds xs := by
  rw [view_same rfl e] at q
  cases q with
  | rol h1 h2 => exact ⟨_, _, rfl, r.same.seq h1, h2⟩
theorem view_int (q : Rep K P al d v) {i : Int} (e : viewD M d = .int i) : v = .int i := by
  rw [view_same rfl e] at q; cases q; rfl
theorem view_bl (q : Rep K P al d v) {i : Bool} (e : viewD M d = .bl i) : v = .bl i := by
  rw [view_same rfl e] at q; cases q; rfl
theorem view_str (q : Rep K P al d v) {i : Str} (e : viewD M d = .str i) : v = .str i := by
  rw [view_same rfl e] at q; cases q; rfl
theorem view_non (q : Rep K P al d v) (e : viewD M d = .non) : v = .non := by
  rw [view_same rfl e] at q; cases q; rfl
/-- what can be read in order -/
def seqD : D → Option (List D)
  | .lst l => some l
  | .rol l => some l
  | .tup l => some l
  | _ => none
theorem view_seq (r : RS0 K B P al M H) (q : Rep K P al d v) {ds : List D} (e : seqD (viewD M d) = some ds) : ∃ a xs, v = .ref a ∧ (SqL K H a xs ∨ SqT K H a xs) ∧ Reps K P al ds xs := by
  cases h : viewD M d <;> rw [h] at e <;> simp [seqD] at e
  · obtain ⟨a, xs, e1, e2, e3⟩ := view_tup r q h; subst e; exact ⟨a, xs, e1, .inr e2, e3⟩
  · obtain ⟨a, xs, e1, e2, e3⟩ := view_lst r q h; subst e; exact ⟨a, xs, e1, .inl (.inl (.inl e2)), e3⟩
  · obtain ⟨a, xs, e1, e2, e3⟩ := view_rol r q h; subst e; exact ⟨a, xs, e1, .inl e2, e3⟩

/-! ### lifting -/
theorem Lift.after {R : D → Mt → Prop} {Q : VK} (L : Lift K B P al env σ H R Q) (e : Ext P al H P' al' H') : Lift K B P' al' env σ H' R Q :=
  fun d M v H2 P2 al2 e2 rs r q => L d M v H2 P2 al2 (e.trans e2) rs r q
/-- the value is there already -/
theorem Lift.here {R : D → Mt → Prop} {Q : VK} (L : Lift K B P al env σ H R Q) (rs : RS K B P al M env σ H) (r : Rep K P al d v) (q : R d M) : Q v H := L _ _ _ _ _ _ Ext.refl rs r q
/-- a new object is the value -/
theorem Lift.alloc {R : D → Mt → Prop} {Q : VK} (L : Lift K B P al env σ H R Q) (rs : RS K B P al M env σ H) (hp : H p = none) {o : HO} (r : Rep K (upd P p o) al d (.ref p)) (q : R d M) : Q (.ref p) (upd H p o) := by
  obtain ⟨e, r0⟩ := rs.toRS0.alloc hp o
  exact L _ _ _ _ _ _ e (rs.step e r0) r q
theorem Ext.rs (e : Ext P al H P' al' H') (rs : RS K B P al M env σ H) (r0 : RS0 K B P' al' M' H') : RS K B P' al' M' env σ H' := rs.step e r0
theorem same_new (rs : RS0 K B P al M H) (hp : H p = none) {o : HO} : Same P (upd P p o) := (rs.alloc hp o).1.pp
end

/-! ### names and constants -/
def look (env : Ev) (i : Nat) : Option D := match env[i]? with
  | some (some d) => some d
  | _ => none
def wVar (i : Nat) : WE := fun env M R => match env[i]? with
  | some (some d) => R d M
  | _ => False
def wC (d : D) : WE := fun _ M R => R d M
section
variable {X : Cx} {B : Bs} {a b c e : Expr} {es : List Expr} {wa wb wc we : WE} {pos : Pos}
theorem d_var {i : Nat} {x : Str} {pos : Pos} (hN : X.N[i]? = some x := by rfl) (hv : Vis X.env.scope x := by first | exact Or.inl rfl | exact Or.inr (Or.inl rfl) | exact Or.inr (Or.inr rfl)) (hd : (x == ("__debug__" : Str)) = false := by decide) (hcd : (x == ("__classdict__" : Str)) = false := by decide) :
    DE B X (.Name x pos) (wVar i) := by
  refine (pe_var hN hv hd hcd).imp fun σ H Q => ?_
  rintro ⟨P, al, M, env, R, rs, hw, L⟩
  unfold wVar at hw
  split at hw
  · rename_i d hd
    obtain ⟨v, h1, h2⟩ := rs.slot _ _ hd
    exact ⟨v, h1, L.here rs h2 hw⟩
  · exact hw.elim
theorem d_C {d : D} {v : V} (h : PE X e (tC v)) (hd : ∀ P al, Rep X.K P al d v) : DE B X e (wC d) := by
  refine h.imp fun σ H Q => ?_
  rintro ⟨P, al, M, env, R, rs, hw, L⟩
  exact L.here rs (hd _ _) hw
theorem d_int {i : Int} {j pos} : DE B X (.Constant (.int i) j pos) (wC (.int i)) := d_C pe_int fun _ _ => .int i
theorem d_str {x : Str} {j pos} : DE B X (.Constant (.str x) j pos) (wC (.str x)) := d_C pe_str fun _ _ => .str x
theorem d_bl {x : Bool} {j pos} : DE B X (.Constant (.bool x) j pos) (wC (.bl x)) := d_C pe_bl fun _ _ => .bl x
theorem d_non {j pos} : DE B X (.Constant .none j pos) (wC .non) := d_C pe_non fun _ _ => .non

/-! ### two places -/
abbrev WO2 := D → D → Mt → (D → Mt → Prop) → Prop
def wOp (o : WO2) (wa wb : WE) : WE := fun env M R => wa env M fun x M1 => wb env M1 fun y M2 => o x y M2 R
def OpD (K : PySem.W.Frag) (B : Bs) (r : R2) (o : WO2) : Prop := ∀ P al M env σ H x y dx dy R Q, RS K B P al M env σ H → Rep K P al dx x → Rep K P al dy y → o dx dy M R → Lift K B P al env σ H R Q → r x y H Q
theorem op_imp {K : PySem.W.Frag} {r : R2} {o : WO2} (h : OpD K B r o) (σ : L2.St) (H : Hp) (Q : VK) : tD K B (wOp o wa wb) σ H Q → tOp r (tD K B wa) (tD K B wb) σ H Q := by
  rintro ⟨P, al, M, env, R, rs, hw, L⟩
  exact ⟨P, al, M, env, _, rs, hw, fun d1 M1 v1 H1 P1 al1 e1 rs1 r1 hw1 => ⟨P1, al1, M1, env, _, rs1, hw1, fun d2 M2 v2 H2 P2 al2 e2 rs2 r2 hw2 =>
    h _ _ _ _ _ _ _ _ _ _ _ _ rs2 (r1.mono e2.pp e2.pre) r2 hw2 (L.after (e1.trans e2))⟩⟩
theorem d_op {op : Operator} {r : R2} {o : WO2} (ho : OpR X (binaryOp op) r) (h : OpD X.K B r o) (ha : DE B X a wa) (hb : DE B X b wb) : DE B X (.BinOp a op b pos) (wOp o wa wb) :=
  (pe_op ho ha hb).imp (op_imp h)
theorem d_cmp {op : CmpOp} {r : R2} {o : WO2} (ho : OpR X (compareOp op) r) (h : OpD X.K B r o) (ha : DE B X a wa) (hb : DE B X b wb) (hm : behindInMarks op b = false) : DE B X (.Compare a [op] [b] pos) (wOp o wa wb) :=
  (pe_cmpR ho ha hb hm).imp (op_imp h)
/-- a value that must be a bool, as a test -/
def wTest (w : WE) : WT := fun env M R => w env M fun d M1 => match d with
  | .bl b => R b M1
  | _ => False
theorem test_imp {K : PySem.W.Frag} {t : TE} {w : WE} (h : ∀ σ H Q, tD K B w σ H Q → t σ H Q) (σ : L2.St) (H : Hp) (Q : Bool → Hp → Prop) : tDT K B (wTest w) σ H Q → tTest t σ H Q := by
  rintro ⟨P, al, M, env, R, rs, hw, L⟩
  refine h σ H _ ⟨P, al, M, env, _, rs, hw, fun d M1 v H1 P1 al1 e1 rs1 r1 q => ?_⟩
  split at q
  · rename_i b; cases r1; exact ⟨b, rfl, L _ _ _ _ _ e1 rs1 q⟩
  · exact q.elim
theorem d_cmpT {op : CmpOp} {r : R2} {o : WO2} (ho : OpR X (compareOp op) r) (h : OpD X.K B r o) (ha : DE B X a wa) (hb : DE B X b wb) (hm : behindInMarks op b = false) : DT B X (.Compare a [op] [b] pos) (wTest (wOp o wa wb)) :=
  (pt_cmpR ho ha hb hm).imp (test_imp (op_imp h))
/-- both ways of a truth value -/
def ifB (b : Bool) (A C : Prop) : Prop := (b = true → A) ∧ (b = false → C)
def wAndT (t u : WT) : WT := fun env M R => t env M fun b M1 => ifB b (u env M1 R) (R false M1)
def wOrT (t u : WT) : WT := fun env M R => t env M fun b M1 => ifB b (R true M1) (u env M1 R)
def wNotT (t : WT) : WT := fun env M R => t env M fun b M1 => R (!b) M1
variable {ta tb : WT} {rest : List Expr}
theorem d_and1 (ha : DT B X a ta) : DW B X (.BoolOp .And [a] pos) ta := pw_and1 ha
theorem d_or1 (ha : DT B X a ta) : DW B X (.BoolOp .Or [a] pos) ta := pw_or1 ha
theorem d_and (ha : DT B X a ta) (hb : DW B X (.BoolOp .And (b :: rest) pos) tb) : DW B X (.BoolOp .And (a :: b :: rest) pos) (wAndT ta tb) := by
  refine (pw_and ha hb).imp fun σ H Q => ?_
  rintro ⟨P, al, M, env, R, rs, hw, L⟩
  refine ⟨P, al, M, env, _, rs, hw, fun b' M1 H1 P1 al1 e1 rs1 q => ?_⟩
  cases b' with
  | true => rw [if_pos rfl]; exact ⟨P1, al1, M1, env, _, rs1, q.1 rfl, fun c M2 H2 P2 al2 e2 rs2 q2 => L _ _ _ _ _ (e1.trans e2) rs2 q2⟩
  | false => rw [if_neg Bool.false_ne_true]; exact L _ _ _ _ _ e1 rs1 (q.2 rfl)
theorem d_or (ha : DT B X a ta) (hb : DW B X (.BoolOp .Or (b :: rest) pos) tb) : DW B X (.BoolOp .Or (a :: b :: rest) pos) (wOrT ta tb) := by
  refine (pw_or ha hb).imp fun σ H Q => ?_
  rintro ⟨P, al, M, env, R, rs, hw, L⟩
  refine ⟨P, al, M, env, _, rs, hw, fun b' M1 H1 P1 al1 e1 rs1 q => ?_⟩
  cases b' with
  | true => rw [if_pos rfl]; exact L _ _ _ _ _ e1 rs1 (q.1 rfl)
  | false => rw [if_neg Bool.false_ne_true]; exact ⟨P1, al1, M1, env, _, rs1, q.2 rfl, fun c M2 H2 P2 al2 e2 rs2 q2 => L _ _ _ _ _ (e1.trans e2) rs2 q2⟩
theorem d_not (ha : DT B X a ta) : DT B X (.UnaryOp .Not a pos) (wNotT ta) := by
  refine (pt_not ha).imp fun σ H Q => ?_
  rintro ⟨P, al, M, env, R, rs, hw, L⟩
  exact ⟨P, al, M, env, _, rs, hw, fun b' M1 H1 P1 al1 e1 rs1 q => L _ _ _ _ _ e1 rs1 q⟩
/-- as values -/
def wAndV (wa wb : WE) : WE := fun env M R => wa env M fun d M1 => match d with
  | .bl b => ifB b (wb env M1 R) (R (.bl false) M1)
  | _ => False
def wOrV (wa wb : WE) : WE := fun env M R => wa env M fun d M1 => match d with
  | .bl b => ifB b (R (.bl true) M1) (wb env M1 R)
  | _ => False
def wNotV (wa : WE) : WE := fun env M R => wa env M fun d M1 => match d with
  | .bl b => R (.bl (!b)) M1
  | _ => False
theorem d_one {op} (h : DE B X a wa) : DE B X (.BoolOp op [a] pos) wa := pe_one h
theorem d_andV (ha : DE B X a wa) (hb : DE B X (.BoolOp .And (b :: rest) pos) wb) : DE B X (.BoolOp .And (a :: b :: rest) pos) (wAndV wa wb) := by
  refine (pe_and ha hb).imp fun σ H Q => ?_
  rintro ⟨P, al, M, env, R, rs, hw, L⟩
  refine ⟨P, al, M, env, _, rs, hw, fun d M1 v H1 P1 al1 e1 rs1 r1 q => ?_⟩
  split at q
  · rename_i b'; cases r1; refine ⟨b', rfl, ?_⟩
    cases b' with
    | true => rw [if_pos rfl]; exact ⟨P1, al1, M1, env, _, rs1, q.1 rfl, L.after e1⟩
    | false => rw [if_neg Bool.false_ne_true]; exact L _ _ _ _ _ _ e1 rs1 (.bl false) (q.2 rfl)
  · exact q.elim
theorem d_orV (ha : DE B X a wa) (hb : DE B X (.BoolOp .Or (b :: rest) pos) wb) : DE B X (.BoolOp .Or (a :: b :: rest) pos) (wOrV wa wb) := by
  refine (pe_or ha hb).imp fun σ H Q => ?_
  rintro ⟨P, al, M, env, R, rs, hw, L⟩
  refine ⟨P, al, M, env, _, rs, hw, fun d M1 v H1 P1 al1 e1 rs1 r1 q => ?_⟩
  split at q
  · rename_i b'; cases r1; refine ⟨b', rfl, ?_⟩
    cases b' with
    | true => rw [if_pos rfl]; exact L _ _ _ _ _ _ e1 rs1 (.bl true) (q.1 rfl)
    | false => rw [if_neg Bool.false_ne_true]; exact ⟨P1, al1, M1, env, _, rs1, q.2 rfl, L.after e1⟩
  · exact q.elim
theorem d_notV (ha : DE B X a wa) : DE B X (.UnaryOp .Not a pos) (wNotV wa) := by
  refine (pe_not ha).imp fun σ H Q => ?_
  rintro ⟨P, al, M, env, R, rs, hw, L⟩
  refine ⟨P, al, M, env, _, rs, hw, fun d M1 v H1 P1 al1 e1 rs1 r1 q => ?_⟩
  split at q
  · rename_i b'; cases r1; exact ⟨b', rfl, L _ _ _ _ _ _ e1 rs1 (.bl _) q⟩
  · exact q.elim
/-- any value's truth -/
def truD (M : Mt) (d : D) (R : Bool → Prop) : Prop := match viewD M d with
  | .non => R false
  | .bl b => R b
  | .int i => R (i != 0)
  | .str s => Need (s.length ≤ sizeLine) ∧ R ((s.length : Int) != 0)
  | .lst l => R (!l.isEmpty)
  | .rol l => R (!l.isEmpty)
  | .tup l => R (!l.isEmpty)
  | .dct l => R (!l.isEmpty)
  | _ => False
def wTru (w : WE) : WT := fun env M R => w env M fun d M1 => truD M1 d fun b => R b M1
theorem empty_of {α β : Type} {xs : List α} {ys : List β} (h : xs.length = ys.length) : xs.isEmpty = ys.isEmpty := by
  cases xs <;> cases ys <;> simp_all
theorem RepKs.length {K : PySem.W.Frag} {P : Hp} {al : List Addr} : ∀ {ds : List (Key × D)} {vs : List (Key × V)}, RepKs K P al ds vs → ds.length = vs.length
  | _, _, .nil => rfl
  | _, _, .cons _ t => by simp [RepKs.length t]
theorem d_truth (h : DE B X e we) (he : ∀ whole, isTrue e X.env whole = (do let v ← whole; standAt e.pos; holding [v] (truthy v)) := by intro _; rfl) : DT B X e (wTru we) := by
  refine (pt_truth h he).imp fun σ H Q => ?_
  rintro ⟨P, al, M, env, R, rs, hw, L⟩
  refine ⟨P, al, M, env, _, rs, hw, fun d M1 v H1 P1 al1 e1 rs1 r1 q => ?_⟩
  unfold truD at q
  have L' := fun b => L b M1 H1 P1 al1 e1 rs1
  split at q
  · rename_i h; cases view_non r1 h; exact ⟨_, rfl, L' _ q⟩
  · rename_i h; cases view_bl r1 h; exact ⟨_, rfl, L' _ q⟩
  · rename_i h; cases view_int r1 h; exact ⟨_, rfl, L' _ q⟩
  · rename_i h; cases view_str r1 h; exact ⟨_, ⟨q.1.out, rfl⟩, L' _ q.2⟩
  · rename_i h; obtain ⟨a, xs, rfl, h1, h2⟩ := view_lst rs1.toRS0 r1 h
    rw [empty_of h2.length] at q; exact ⟨_, .inl ⟨xs, .inl (.inl h1), rfl⟩, L' _ q⟩
  · rename_i h; obtain ⟨a, xs, rfl, h1, h2⟩ := view_rol rs1.toRS0 r1 h
    rw [empty_of h2.length] at q; exact ⟨_, .inl ⟨xs, h1, rfl⟩, L' _ q⟩
  · rename_i h; obtain ⟨a, xs, rfl, h1, h2⟩ := view_tup rs1.toRS0 r1 h
    rw [empty_of h2.length] at q; exact ⟨_, .inr (.inl ⟨xs, h1, rfl⟩), L' _ q⟩
  · rename_i h; obtain ⟨a, xs, rfl, h1, h2⟩ := view_dct rs1.toRS0 r1 h
    rw [empty_of h2.length] at q; exact ⟨_, .inr (.inr ⟨xs, h1, rfl⟩), L' _ q⟩
  · exact q.elim
/-! ### arguments, displays -/
def wNil : WA := fun _ M R => R [] M
def wCons (w : WE) (r : WA) : WA := fun env M R => w env M fun d M1 => r env M1 fun ds M2 => R (d :: ds) M2
variable {was : WA}
theorem da_nil : DA B X [] wNil := by
  refine pa_nil.imp fun σ H Q => ?_
  rintro ⟨P, al, M, env, R, rs, hw, L⟩
  exact L _ _ _ _ _ _ Ext.refl rs .nil hw
theorem da_cons (ha : DE B X e we) (hr : DA B X es was) (hs : starEach (e :: es) X.env = (false, eval e X.env) :: starEach es X.env := by rfl) : DA B X (e :: es) (wCons we was) := by
  refine (pa_cons ha hr hs).imp fun σ H Q => ?_
  rintro ⟨P, al, M, env, R, rs, hw, L⟩
  exact ⟨P, al, M, env, _, rs, hw, fun d M1 v H1 P1 al1 e1 rs1 r1 hw1 => ⟨P1, al1, M1, env, _, rs1, hw1, fun ds M2 vs H2 P2 al2 e2 rs2 r2 q =>
    L _ _ _ _ _ _ (e1.trans e2) rs2 (.cons (r1.mono e2.pp e2.pre) r2) q⟩⟩
def wTup (w : WA) : WE := fun env M R => w env M fun ds M1 => Need (ds.length ≤ sizeLine) ∧ R (.tup ds) M1
def wLst (w : WA) : WE := fun env M R => w env M fun ds M1 => Need (ds.length ≤ sizeLine) ∧ R (.lst ds) M1
/-- a list that will be changed -/
def wLstM (w : WA) : WE := fun env M R => w env M fun ds M1 => Need (ds.length ≤ sizeLine) ∧ R (.cel M1.length) (M1 ++ [.lst ds])
theorem d_tup {k} (h : DA B X es was) : DE B X (.Tuple es k pos) (wTup was) := by
  refine (pe_tup h).imp fun σ H Q => ?_
  rintro ⟨P, al, M, env, R, rs, hw, L⟩
  refine ⟨P, al, M, env, _, rs, hw, fun ds M1 vs H1 P1 al1 e1 rs1 r1 q => ⟨by rw [← r1.length]; exact q.1.out, fun p hp => ?_⟩⟩
  exact (L.after e1).alloc rs1 hp (.tup (.inl (.inl upd_same)) (r1.mono (same_new rs1.toRS0 hp) (List.prefix_refl _))) q.2
theorem d_lst (h : DA B X es was) : DE B X (.List es pos) (wLst was) := by
  refine (pe_lst h).imp fun σ H Q => ?_
  rintro ⟨P, al, M, env, R, rs, hw, L⟩
  refine ⟨P, al, M, env, _, rs, hw, fun ds M1 vs H1 P1 al1 e1 rs1 r1 q => ⟨by rw [← r1.length]; exact q.1.out, fun p hp => ?_⟩⟩
  exact (L.after e1).alloc rs1 hp (.lst upd_same (r1.mono (same_new rs1.toRS0 hp) (List.prefix_refl _))) q.2
theorem Lift.allocM {K : PySem.W.Frag} {P : Hp} {al : List Addr} {M : Mt} {env : Ev} {σ : L2.St} {H : Hp} {p : Addr} {R : D → Mt → Prop} {Q : VK} (L : Lift K B P al env σ H R Q) (rs : RS K B P al M env σ H) (hp : H p = none) {ds : List D} {vs : List V} (r : Reps K P al ds vs)
    (q : R (.cel M.length) (M ++ [.lst ds])) : Q (.ref p) (upd H p (.lst vs)) := by
  obtain ⟨e, r0⟩ := rs.toRS0.allocM (m := .lst ds) (o := .lst vs) hp fun P' al' s h hn H' e => ⟨hn, vs, e, r.mono s h⟩
  refine L _ _ _ _ _ _ e (rs.step e r0) (.cel ?_) q
  rw [← rs.len, List.getElem?_append_right (Nat.le_refl _), Nat.sub_self]; rfl
theorem d_lstM (h : DA B X es was) : DE B X (.List es pos) (wLstM was) := by
  refine (pe_lst h).imp fun σ H Q => ?_
  rintro ⟨P, al, M, env, R, rs, hw, L⟩
  refine ⟨P, al, M, env, _, rs, hw, fun ds M1 vs H1 P1 al1 e1 rs1 r1 q => ⟨by rw [← r1.length]; exact q.1.out, fun p hp => ?_⟩⟩
  exact (L.after e1).allocM rs1 hp r1 q.2

/-! ### calls of builtins -/
abbrev WCl := List D → Mt → (D → Mt → Prop) → Prop
def wCB (c : WCl) (w : WA) : WE := fun env M R => w env M fun ds M1 => c ds M1 R
def CallD (K : PySem.W.Frag) (B : Bs) (r : List V → Hp → VK → Prop) (c : WCl) : Prop := ∀ P al M env σ H vs ds R Q, RS K B P al M env σ H → Reps K P al ds vs → c ds M R → Lift K B P al env σ H R Q → r vs H Q
theorem cb_imp {K : PySem.W.Frag} {r : List V → Hp → VK → Prop} {c : WCl} (h : CallD K B r c) (σ : L2.St) (H : Hp) (Q : VK) : tD K B (wCB c was) σ H Q → tCB r (tDA K B was) σ H Q := by
  rintro ⟨P, al, M, env, R, rs, hw, L⟩
  exact ⟨P, al, M, env, _, rs, hw, fun ds M1 vs H1 P1 al1 e1 rs1 r1 q => h _ _ _ _ _ _ _ _ _ _ rs1 r1 q (L.after e1)⟩
theorem d_callB {id : String} {x : Str} {p : Pos} {r : List V → Hp → VK → Prop} {c : WCl} (hc : CallR X (.builtin id) r) (h : CallD X.K B r c) (hg : Gl X x) (hm : X.mg x = none) (hv : bootBuiltins x = some (.builtin id)) (ha : DA B X (e :: es) was) (hn : x ≠ "__name__" := by decide) (hdb : (x == ("__debug__" : Str)) = false := by decide)
    (he : starEach (e :: es) X.env = (false, eval e X.env) :: starEach es X.env := by rfl) (hpl : (backTo pos (starEach es X.env)).any (·.1) = false := by rfl) : DE B X (.Call (.Name x p) (e :: es) [] pos) (wCB c was) :=
  (pe_callB hc hg hm hv ha hn hdb he hpl).imp (cb_imp h)
theorem d_callTy {T : String} {x : Str} {p : Pos} {r : List V → Hp → VK → Prop} {c : WCl} (hc : CallR X (.type T) r) (h : CallD X.K B r c) (hg : Gl X x) (hm : X.mg x = none) (hv : bootBuiltins x = some (.type T)) (ha : DA B X (e :: es) was) (hn : x ≠ "__name__" := by decide) (hdb : (x == ("__debug__" : Str)) = false := by decide)
    (he : starEach (e :: es) X.env = (false, eval e X.env) :: starEach es X.env := by rfl) (hpl : (backTo pos (starEach es X.env)).any (·.1) = false := by rfl) : DE B X (.Call (.Name x p) (e :: es) [] pos) (wCB c was) :=
  (pe_callTy hc hg hm hv ha hn hdb he hpl).imp (cb_imp h)
end
end L3

namespace L3
open PySem PySem.Spec PyProof.Rows L2
section
variable {X : Cx} {B : Bs} {K : PySem.W.Frag}
/-! ### arithmetic -/
def oAdd : WO2 := fun x y M R => match viewD M x, viewD M y with
  | .int i, .int j => R (.int (i + j)) M
  | .str s, .str t => Need (s.length + t.length ≤ sizeLine) ∧ R (.str (s ++ t)) M
  | .lst a, .lst b => Need (a.length + b.length ≤ sizeLine) ∧ R (.lst (a ++ b)) M
  | .tup a, .tup b => Need (a.length + b.length ≤ sizeLine) ∧ R (.tup (a ++ b)) M
  | _, _ => False
def rAddU (K : PySem.W.Frag) : R2 := fun x y H Q => (rI0 fun i j => .int (i + j)) x y H Q ∨ (fun x y H Q => ∃ i j, x = V.str i ∧ y = .str j ∧ i.length + j.length ≤ sizeLine ∧ Q (.str (i ++ j)) H) x y H Q ∨ rCat x y H Q ∨ rCatA K x y H Q
theorem opAdd : OpR X (binaryOp .Add) (rAddU X.K) := op_add.or (op_add_str.or (op_cat.or op_catA))
theorem oAdd_ok : OpD K B (rAddU K) oAdd := by
  intro P al M env σ H x y dx dy R Q rs r1 r2 h L
  unfold oAdd at h
  split at h
  · rename_i i j e1 e2
    cases view_int r1 e1; cases view_int r2 e2
    exact .inl ⟨i, j, rfl, rfl, L.here rs (.int _) h⟩
  · rename_i s t e1 e2
    cases view_str r1 e1; cases view_str r2 e2
    exact .inr (.inl ⟨s, t, rfl, rfl, h.1.out, L.here rs (.str _) h.2⟩)
  · rename_i s t e1 e2
    obtain ⟨a, xs, rfl, h1, q1⟩ := view_lst rs.toRS0 r1 e1
    obtain ⟨b, ys, rfl, h2, q2⟩ := view_lst rs.toRS0 r2 e2
    refine .inr (.inr (.inl ⟨a, b, xs, ys, rfl, rfl, h1, h2, by rw [← q1.length, ← q2.length]; exact h.1.out, fun p hp => ?_⟩))
    have sm := same_new rs.toRS0 hp (o := .lst (xs ++ ys))
    exact L.alloc rs hp (.lst upd_same ((q1.append q2).mono sm (List.prefix_refl _))) h.2
  · rename_i s t e1 e2
    obtain ⟨a, xs, rfl, h1, q1⟩ := view_tup rs.toRS0 r1 e1
    obtain ⟨b, ys, rfl, h2, q2⟩ := view_tup rs.toRS0 r2 e2
    have r1' := r1; have r2' := r2
    rw [view_same rfl e1] at r1'; rw [view_same rfl e2] at r2'
    refine .inr (.inr (.inr ⟨a, b, xs, ys, rfl, rfl, h1, h2, by rw [← q1.length, ← q2.length]; exact h.1.out, fun e => ?_, fun e1 e => ?_, fun e1 e2 p hp => ?_⟩))
    · subst e; cases q1; exact L.here rs r2' h.2
    · subst e; cases q2; refine L.here rs r1' ?_; have := h.2; rw [List.append_nil] at this; exact this
    · have sm := same_new rs.toRS0 hp (o := .tup (xs ++ ys))
      exact L.alloc rs hp (.tup (.inl (.inl upd_same)) ((q1.append q2).mono sm (List.prefix_refl _))) h.2
  · exact h.elim
/-- ints alone -/
def oI (C : Int → Int → Prop) (g : Int → Int → D) : WO2 := fun x y M R => match viewD M x, viewD M y with
  | .int i, .int j => Need (C i j) ∧ R (g i j) M
  | _, _ => False
def oI0 (g : Int → Int → D) : WO2 := fun x y M R => match viewD M x, viewD M y with
  | .int i, .int j => R (g i j) M
  | _, _ => False
theorem oI_ok {C : Int → Int → Prop} {g : Int → Int → D} {gV : Int → Int → V} (hg : ∀ P al i j, Rep K P al (g i j) (gV i j)) : OpD K B (rI C gV) (oI C g) := by
  intro P al M env σ H x y dx dy R Q rs r1 r2 h L
  unfold oI at h
  split at h
  · rename_i i j e1 e2
    cases view_int r1 e1; cases view_int r2 e2
    exact ⟨i, j, rfl, rfl, h.1.out, L.here rs (hg _ _ _ _) h.2⟩
  · exact h.elim
theorem oI0_ok {g : Int → Int → D} {gV : Int → Int → V} (hg : ∀ P al i j, Rep K P al (g i j) (gV i j)) : OpD K B (rI0 gV) (oI0 g) := by
  intro P al M env σ H x y dx dy R Q rs r1 r2 h L
  unfold oI0 at h
  split at h
  · rename_i i j e1 e2
    cases view_int r1 e1; cases view_int r2 e2
    exact ⟨i, j, rfl, rfl, L.here rs (hg _ _ _ _) h⟩
  · exact h.elim
abbrev oSub : WO2 := oI0 fun i j => .int (i - j)
theorem oSub_ok : OpD K B (rI0 fun i j => .int (i - j)) oSub := oI0_ok fun _ _ _ _ => .int _
abbrev oMod : WO2 := oI (fun _ j => 0 < j) fun i j => .int (i % j)
theorem oMod_ok : OpD K B (rI (fun _ j => 0 < j) fun i j => .int (i % j)) oMod := oI_ok fun _ _ _ _ => .int _
abbrev oFdiv : WO2 := oI CDivW fun i j => .int (i / j)
theorem oFdiv_ok : OpD K B (rI CDivW fun i j => .int (i / j)) oFdiv := oI_ok fun _ _ _ _ => .int _
abbrev oPow : WO2 := oI CPow fun i j => .int (i ^ j.toNat)
theorem oPow_ok : OpD K B (rI CPow fun i j => .int (i ^ j.toNat)) oPow := oI_ok fun _ _ _ _ => .int _
/-- n times a text -/
def mulS (x : Str) (n : Int) : Str := Txt.mul x n
def rMulS : R2 := fun x y H Q => ∃ s n, x = .str s ∧ y = .int n ∧ MulOk s n ∧ Q (.str (mulS s n)) H
theorem op_mulS : OpR X (binaryOp .Mult) rMulS := by
  intro pins s σ H x y v u Q I rx ry h
  obtain ⟨z, n, rfl, rfl, ok, q⟩ := h
  obtain ⟨t, rfl⟩ := rx
  obtain ⟨t', rfl⟩ := ry
  exact SB.mul ok fun t2 k => ⟨.str _, H, I.tok k, ⟨_, rfl⟩, q⟩
def CMulU (i j : Int) : Prop := CMul i j ∨ CMulW i j
theorem op_mulU : OpR X (binaryOp .Mult) (rI CMulU fun i j => .int (i * j)) := by
  intro pins s σ H x y v u Q I rx ry h
  obtain ⟨i, j, e1, e2, c, q⟩ := h
  rcases c with c | c
  · exact op_mul pins s σ H x y v u Q I rx ry ⟨i, j, e1, e2, c, q⟩
  · exact op_mulW pins s σ H x y v u Q I rx ry ⟨i, j, e1, e2, c, q⟩
def rMulU : R2 := fun x y H Q => rI CMulU (fun i j => .int (i * j)) x y H Q ∨ rMulS x y H Q ∨ rRep x y H Q
theorem opMul : OpR X (binaryOp .Mult) rMulU := op_mulU.or (op_mulS.or op_rep)
def oMul : WO2 := fun x y M R => match viewD M x, viewD M y with
  | .int i, .int j => Need (CMulU i j) ∧ R (.int (i * j)) M
  | .str s, .int n => Need (MulOk s n) ∧ R (.str (mulS s n)) M
  | _, _ => False
theorem oMul_ok : OpD K B rMulU oMul := by
  intro P al M env σ H x y dx dy R Q rs r1 r2 h L
  unfold oMul at h
  split at h
  · rename_i i j e1 e2
    cases view_int r1 e1; cases view_int r2 e2
    exact .inl ⟨i, j, rfl, rfl, h.1.out, L.here rs (.int _) h.2⟩
  · rename_i s n e1 e2
    cases view_str r1 e1; cases view_int r2 e2
    exact .inr (.inl ⟨s, n, rfl, rfl, h.1.out, L.here rs (.str _) h.2⟩)
  · exact h.elim

/-! ### comparisons -/
abbrev oLt : WO2 := oI0 fun i j => .bl (decide (i < j))
theorem oLt_ok : OpD K B (rI0 fun i j => .bl (decide (i < j))) oLt := oI0_ok fun _ _ _ _ => .bl _
abbrev oGt : WO2 := oI0 fun i j => .bl (decide (j < i))
theorem oGt_ok : OpD K B (rI0 fun i j => .bl (decide (j < i))) oGt := oI0_ok fun _ _ _ _ => .bl _
abbrev oGe : WO2 := oI0 fun i j => .bl (decide (j ≤ i))
theorem oGe_ok : OpD K B (rI0 fun i j => .bl (decide (j ≤ i))) oGe := oI0_ok fun _ _ _ _ => .bl _
mutual
/-- plain data of a datum -/
def toP : D → Option PyData
  | .non => some .none
  | .bl b => some (.bool b)
  | .int i => some (.int i)
  | .str s => some (.str s)
  | .tup l => (toPs l).map .tuple
  | .lst l => (toPs l).map .list
  | .rol l => (toPs l).map .list
  | _ => none
def toPs : List D → Option (List PyData)
  | [] => some []
  | d :: r => match toP d, toPs r with
    | some p, some ps => some (p :: ps)
    | _, _ => none
end
section
variable {P : Hp} {al : List Addr} {H : Hp}
mutual
theorem Rep.toDp (s : Same P H) : ∀ {d : D} {v : V} {p : PyData}, Rep K P al d v → toP d = some p → Dp K H v p
  | _, _, _, .non, e => by cases e; exact .non
  | _, _, _, .bl b, e => by cases e; exact .bl b
  | _, _, _, .int i, e => by cases e; exact .int i
  | _, _, _, .str x, e => by cases e; exact .str x
  | _, _, _, .ty n, e => by cases e
  | _, _, _, .adr a, e => by cases e
  | _, _, _, .tup (ds := ds) q r, e => by
    unfold toP at e
    cases h : toPs ds with
    | none => rw [h] at e; cases e
    | some ps => rw [h] at e; cases e; exact .tup (same_seqT s q) (Reps.toDp s r h)
  | _, _, _, .lst (ds := ds) q r, e => by
    unfold toP at e
    cases h : toPs ds with
    | none => rw [h] at e; cases e
    | some ps => rw [h] at e; cases e; exact .lst (.inl (.inl (s _ _ q))) (Reps.toDp s r h)
  | _, _, _, .rol (ds := ds) q r, e => by
    unfold toP at e
    cases h : toPs ds with
    | none => rw [h] at e; cases e
    | some ps => rw [h] at e; cases e; exact .lst (s.seq q) (Reps.toDp s r h)
  | _, _, _, .ptp q r, e => by cases e
  | _, _, _, .dct q r, e => by cases e
  | _, _, _, .fdc q r, e => by cases e
  | _, _, _, .obj q c r, e => by cases e
  | _, _, _, .cls c, e => by cases e
  | _, _, _, .cel h, e => by cases e
theorem Reps.toDp (s : Same P H) : ∀ {ds : List D} {vs : List V} {ps : List PyData}, Reps K P al ds vs → toPs ds = some ps → DpAll K H vs ps
  | _, _, _, .nil, e => by cases e; exact .nil
  | _, _, _, .cons (d := d) (ds := ds) r t, e => by
    unfold toPs at e
    split at e
    · rename_i p ps h1 h2
      cases e
      exact .cons (Rep.toDp s r h1) (Reps.toDp s t h2)
    · cases e
end
end
/-- what an object in the table is as plain data -/
theorem view_dp {P : Hp} {al : List Addr} {M : Mt} {H : Hp} {d : D} {v : V} {p : PyData} (rs : RS0 K B P al M H) (r : Rep K P al d v) (e : toP (viewD M d) = some p) : Dp K H v p := by
  rcases view_cases M d with h | ⟨i, m, rfl, hm, l, h⟩
  · rw [h] at e; exact r.toDp rs.same e
  · rw [h] at e
    obtain ⟨a, rfl, _, c⟩ := cell_at rs hm r
    cases m with
    | lst ds =>
      obtain ⟨_, xs, h1, h2⟩ := c
      unfold toP at e
      cases h : toPs ds with
      | none => rw [h] at e; cases e
      | some ps => rw [h] at e; cases e; exact .lst (.inl (.inl h1)) (h2.toDp rs.same h)
    | dct ks => cases e
    | obj C fs => cases e
    | _ => simp [liveV] at l
/-- plain data, that == can ask -/
def plainOk (l : List D) : Prop := ∃ ps, toPs l = some ps ∧ SeqAt.shaped (.list ps) = true
theorem toPs_len : ∀ {l : List D} {ps : List PyData}, toPs l = some ps → l.isEmpty = ps.isEmpty
  | [], _, e => by cases e; rfl
  | d :: r, _, e => by
    unfold toPs at e
    split at e
    · cases e; rfl
    · cases e
theorem eqvAll_nil (ps : List PyData) : PyData.eqvAll ps [] = ps.isEmpty := by cases ps <;> simp [PyData.eqvAll]
theorem shaped_tup {ps : List PyData} (h : SeqAt.shaped (.list ps) = true) : SeqAt.shaped (.tuple ps) = true := by
  simpa [SeqAt.shaped, PyData.canLay0, PyData.depth] using h
/-- == of a scalar and a scalar; of data of any depth -/
def oEqB (f : Bool → Bool) : WO2 := fun x y M R => match viewD M x, viewD M y with
  | .int i, .int j => R (.bl (f (decide (i = j)))) M
  | .bl i, .bl j => R (.bl (f (decide (i = j)))) M
  | .str i, .str j => R (.bl (f (decide (i = j)))) M
  | .non, .non => R (.bl (f true)) M
  | .non, .int _ => R (.bl (f false)) M
  | .int _, .non => R (.bl (f false)) M
  | .non, .bl _ => R (.bl (f false)) M
  | .bl _, .non => R (.bl (f false)) M
  | .non, .str _ => R (.bl (f false)) M
  | .str _, .non => R (.bl (f false)) M
  | .int _, .str _ => R (.bl (f false)) M
  | .str _, .int _ => R (.bl (f false)) M
  | .bl _, .str _ => R (.bl (f false)) M
  | .str _, .bl _ => R (.bl (f false)) M
  | .lst l, .lst [] => Need (plainOk l) ∧ R (.bl (f l.isEmpty)) M
  | .tup l, .tup [] => Need (plainOk l) ∧ R (.bl (f l.isEmpty)) M
  | x', y' => match toP x', toP y' with
    | some p, some q => Need (SeqAt.shaped p = true) ∧ Need (SeqAt.shaped q = true) ∧ R (.bl (f (PyData.eqv p q))) M
    | _, _ => False
abbrev oEq : WO2 := oEqB fun b => b
abbrev oNe : WO2 := oEqB fun b => !b
def rEqU (K : PySem.W.Frag) : R2 := fun x y H Q => L2.rEq x y H Q ∨ rEqD K x y H Q
def rNeU (K : PySem.W.Frag) : R2 := fun x y H Q => L2.rNe x y H Q ∨ rNeD K x y H Q
theorem opEq (hu : X.A.units + 64 < cLine) : OpR X (compareOp .Eq) (rEqU X.K) := op_eq.or (op_eqD hu)
theorem opNe (hu : X.A.units + 64 < cLine) : OpR X (compareOp .NotEq) (rNeU X.K) := op_ne.or (op_neD hu)
theorem eqB_core {f : Bool → Bool} {P : Hp} {al : List Addr} {M : Mt} {env : Ev} {σ : L2.St} {H : Hp} {x y : V} {dx dy : D} {R : D → Mt → Prop} {Q : VK} (rs : RS K B P al M env σ H) (r1 : Rep K P al dx x) (r2 : Rep K P al dy y) (h : oEqB f dx dy M R) (L : Lift K B P al env σ H R Q) :
    (scal x y = true ∧ Q (.bl (f (decide (x = y)))) H) ∨ (∃ d e, Dp K H x d ∧ Dp K H y e ∧ SeqAt.shaped d = true ∧ SeqAt.shaped e = true ∧ Q (.bl (f (PyData.eqv d e))) H) := by
  have fin : ∀ b c, R (.bl (f b)) M → b = c → Q (.bl (f c)) H := fun b c q e => by subst e; exact L.here rs (.bl _) q
  unfold oEqB at h
  split at h
  · rename_i i j e1 e2; cases view_int r1 e1; cases view_int r2 e2; exact .inl ⟨rfl, fin _ _ h (by simp)⟩
  · rename_i i j e1 e2; cases view_bl r1 e1; cases view_bl r2 e2; exact .inl ⟨rfl, fin _ _ h (by simp)⟩
  · rename_i i j e1 e2; cases view_str r1 e1; cases view_str r2 e2; exact .inl ⟨rfl, fin _ _ h (by simp)⟩
  · rename_i e1 e2; cases view_non r1 e1; cases view_non r2 e2; exact .inl ⟨rfl, fin _ _ h (by simp)⟩
  · rename_i e1 e2; cases view_non r1 e1; cases view_int r2 e2; exact .inl ⟨rfl, fin _ _ h (by simp)⟩
  · rename_i e1 e2; cases view_int r1 e1; cases view_non r2 e2; exact .inl ⟨rfl, fin _ _ h (by simp)⟩
  · rename_i e1 e2; cases view_non r1 e1; cases view_bl r2 e2; exact .inl ⟨rfl, fin _ _ h (by simp)⟩
  · rename_i e1 e2; cases view_bl r1 e1; cases view_non r2 e2; exact .inl ⟨rfl, fin _ _ h (by simp)⟩
  · rename_i e1 e2; cases view_non r1 e1; cases view_str r2 e2; exact .inl ⟨rfl, fin _ _ h (by simp)⟩
  · rename_i e1 e2; cases view_str r1 e1; cases view_non r2 e2; exact .inl ⟨rfl, fin _ _ h (by simp)⟩
  · rename_i e1 e2; cases view_int r1 e1; cases view_str r2 e2; exact .inl ⟨rfl, fin _ _ h (by simp)⟩
  · rename_i e1 e2; cases view_str r1 e1; cases view_int r2 e2; exact .inl ⟨rfl, fin _ _ h (by simp)⟩
  · rename_i e1 e2; cases view_bl r1 e1; cases view_str r2 e2; exact .inl ⟨rfl, fin _ _ h (by simp)⟩
  · rename_i e1 e2; cases view_str r1 e1; cases view_bl r2 e2; exact .inl ⟨rfl, fin _ _ h (by simp)⟩
  · rename_i l e1 e2
    obtain ⟨⟨ps, h1, h2⟩, h3⟩ := h
    refine .inr ⟨.list ps, .list [], view_dp rs.toRS0 r1 (by rw [e1]; simp [toP, h1]), view_dp rs.toRS0 r2 (by rw [e2]; rfl), h2, rfl, ?_⟩
    exact fin _ _ h3 (by rw [toPs_len h1, ← eqvAll_nil]; simp [PyData.eqv])
  · rename_i l e1 e2
    obtain ⟨⟨ps, h1, h2⟩, h3⟩ := h
    refine .inr ⟨.tuple ps, .tuple [], view_dp rs.toRS0 r1 (by rw [e1]; simp [toP, h1]), view_dp rs.toRS0 r2 (by rw [e2]; rfl), shaped_tup h2, rfl, ?_⟩
    exact fin _ _ h3 (by rw [toPs_len h1, ← eqvAll_nil]; simp [PyData.eqv])
  · split at h
    · rename_i p q e1 e2
      exact .inr ⟨p, q, view_dp rs.toRS0 r1 e1, view_dp rs.toRS0 r2 e2, h.1.out, h.2.1.out, fin _ _ h.2.2 rfl⟩
    · exact h.elim
theorem oEq_ok : OpD K B (rEqU K) oEq := fun P al M env σ H x y dx dy R Q rs r1 r2 h L => eqB_core rs r1 r2 h L
theorem oNe_ok : OpD K B (rNeU K) oNe := fun P al M env σ H x y dx dy R Q rs r1 r2 h L => eqB_core rs r1 r2 h L
/-- a text in a text; a flat thing in a list or tuple of flat things -/
def strIn (x z : Str) : Bool := !(Builtin.Str.occurrences z x 0 z.length 1).isEmpty
theorem strIn_one (c : Nat) (z : Str) : strIn ⟨#[c]⟩ z = decide (c ∈ z.cps.toList) := PySem.StrLaws.found_one z c
mutual
def flatD : D → Option V
  | .non => some .non
  | .bl b => some (.bl b)
  | .int i => some (.int i)
  | .str s => some (.str s)
  | _ => none
end
end

/-! ### subscripts, slices -/
section
variable {X : Cx} {B : Bs} {K : PySem.W.Frag} {a b e : Expr} {wa wb we : WE} {pos : Pos}
theorem Reps.atI {P : Hp} {al : List Addr} {ds : List D} {vs : List V} (r : Reps K P al ds vs) {i : Int} {d : D} (e : L2.atI ds i = some d) : ∃ v, L2.atI vs i = some v ∧ Rep K P al d v := by
  unfold L2.atI at e ⊢
  rw [← r.length]
  cases h : ixN ds.length i with
  | none => rw [h] at e; cases e
  | some j => rw [h] at e; exact r.get e
def oIx : WO2 := fun x y M R => match y with
  | .int i => match viewD M x with
    | .str s => Need (s.length ≤ sizeLine) ∧ (match L2.atI s.cps.toList i with
      | some c => R (.str ⟨#[c]⟩) M
      | none => False)
    | x' => match seqD x' with
      | some l => match L2.atI l i with
        | some d => R d M
        | none => False
      | none => False
  | _ => False
theorem oIx_ok : OpD K B (rIx K) oIx := by
  intro P al M env σ H x y dx dy R Q rs r1 r2 h L
  unfold oIx at h
  split at h
  · rename_i i
    cases r2
    split at h
    · rename_i s e1
      cases view_str r1 e1
      obtain ⟨h1, h2⟩ := h
      split at h2
      · rename_i c e; exact .inr (.inr ⟨s, i, c, rfl, rfl, h1.out, e, L.here rs (.str _) h2⟩)
      · exact h2.elim
    · split at h
      · rename_i l e1
        obtain ⟨a, xs, rfl, h1, q1⟩ := view_seq rs.toRS0 r1 e1
        split at h
        · rename_i d e
          obtain ⟨v, e2, q2⟩ := q1.atI e
          rcases h1 with h1 | h1
          · exact .inl ⟨a, xs, i, v, rfl, rfl, h1, e2, L.here rs q2 h⟩
          · exact .inr (.inl ⟨a, xs, i, v, rfl, rfl, h1, e2, L.here rs q2 h⟩)
        · exact h.elim
      · exact h.elim
  · exact h.elim
theorem d_ix (ha : DE B X a wa) (hb : DE B X b wb) (hs : PlainIx b := by intro _ _; rfl) : DE B X (.Subscript a b pos) (wOp oIx wa wb) := (pe_ix ix_seq ha hb hs).imp (op_imp oIx_ok)
abbrev WO := Ev → Mt → (Option Int → Mt → Prop) → Prop
def tDO (K : PySem.W.Frag) (B : Bs) (w : WO) : TO := fun σ H Q => ∃ P al M env R, RS K B P al M env σ H ∧ w env M R ∧ ∀ o M' H' P' al', Ext P al H P' al' H' → RS K B P' al' M' env σ H' → R o M' → Q o H'
theorem _root_.L2.PO.imp {X : Cx} {e : Option Expr} {t u : TO} (h : PO X e t) (i : ∀ σ H Q, u σ H Q → t σ H Q) : PO X e u := ⟨fun pins s σ H Q I q => h.run pins s σ H Q I (i σ H Q q)⟩
abbrev DO (B : Bs) (X : Cx) (e : Option Expr) (w : WO) : Prop := PO X e (tDO X.K B w)
def wNoP : WO := fun _ M R => R none M
def wP (w : WE) : WO := fun env M R => w env M fun d M1 => match d with
  | .int i => R (some i) M1
  | _ => False
theorem do_none : DO B X none wNoP := by
  refine po_none.imp fun σ H Q => ?_
  rintro ⟨P, al, M, env, R, rs, hw, L⟩
  exact L _ _ _ _ _ Ext.refl rs hw
theorem do_some (h : DE B X e we) : DO B X (some e) (wP we) := by
  refine (po_some h).imp fun σ H Q => ?_
  rintro ⟨P, al, M, env, R, rs, hw, L⟩
  refine ⟨P, al, M, env, _, rs, hw, fun d M1 v H1 P1 al1 e1 rs1 r1 q => ?_⟩
  split at q
  · cases r1; exact ⟨_, rfl, L _ _ _ _ _ e1 rs1 q⟩
  · exact q.elim
def cutD (xs : List D) (lo hi : Option Int) : List D := (xs.drop (HT.sIx xs.length 0 lo)).take (HT.sIx xs.length xs.length hi - HT.sIx xs.length 0 lo)
theorem Reps.cut {P : Hp} {al : List Addr} {ds : List D} {vs : List V} (r : Reps K P al ds vs) (lo hi : Option Int) : Reps K P al (cutD ds lo hi) (cutV vs lo hi) := by
  unfold cutD cutV
  rw [r.length]
  exact (r.drop _).take _
def wSl (we : WE) (wl wh : WO) : WE := fun env M R => we env M fun x M1 => wl env M1 fun lo M2 => wh env M2 fun hi M3 => match viewD M3 x with
  | .str s => Need (s.length ≤ sizeLine) ∧ R (.str (cutS s lo hi)) M3
  | .lst l => R (.lst (cutD l lo hi)) M3
  | .rol l => R (.lst (cutD l lo hi)) M3
  | .tup l => R (.tup (cutD l lo hi)) M3
  | _ => False
theorem cut_all {xs : List D} {lo hi : Option Int} (h : HT.sIx xs.length 0 lo = 0 ∧ HT.sIx xs.length xs.length hi = xs.length) : cutD xs lo hi = xs := by
  unfold cutD; rw [h.1, h.2]; simp
theorem d_sl {lo hi : Option Expr} {wl wh : WO} {p2 : Pos} (he : DE B X e we) (hl : DO B X lo wl) (hh : DO B X hi wh) : DE B X (.Subscript e (.Slice lo hi none p2) pos) (wSl we wl wh) := by
  refine (pe_slice (sl_str.or (sl_list.or sl_tupA)) he hl hh).imp fun σ H Q => ?_
  rintro ⟨P, al, M, env, R, rs, hw, L⟩
  refine ⟨P, al, M, env, _, rs, hw, fun d M1 v H1 P1 al1 e1 rs1 r1 hw1 => ⟨P1, al1, M1, env, _, rs1, hw1, fun lo M2 H2 P2 al2 e2 rs2 hw2 => ⟨P2, al2, M2, env, _, rs2, hw2, fun hi M3 H3 P3 al3 e3 rs3 q => ?_⟩⟩⟩
  have r3 := r1.mono (e2.trans e3).pp (e2.trans e3).pre
  have L3 := L.after (e1.trans (e2.trans e3))
  split at q
  · rename_i s e; cases view_str r3 e; exact .inl ⟨s, rfl, q.1.out, L3.here rs3 (.str _) q.2⟩
  · rename_i l e
    obtain ⟨a, xs, rfl, h1, q1⟩ := view_lst rs3.toRS0 r3 e
    refine .inr (.inl ⟨a, xs, rfl, .inl (.inl h1), fun p hp => ?_⟩)
    exact L3.alloc rs3 hp (.lst upd_same ((q1.cut lo hi).mono (same_new rs3.toRS0 hp) (List.prefix_refl _))) q
  · rename_i l e
    obtain ⟨a, xs, rfl, h1, q1⟩ := view_rol rs3.toRS0 r3 e
    refine .inr (.inl ⟨a, xs, rfl, h1, fun p hp => ?_⟩)
    exact L3.alloc rs3 hp (.lst upd_same ((q1.cut lo hi).mono (same_new rs3.toRS0 hp) (List.prefix_refl _))) q
  · rename_i l e
    obtain ⟨a, xs, rfl, h1, q1⟩ := view_tup rs3.toRS0 r3 e
    refine .inr (.inr ⟨a, xs, rfl, h1, fun hz => ?_, fun hz p hp => ?_⟩)
    · rw [← q1.length] at hz
      rw [cut_all hz] at q
      rw [view_same rfl e] at r3
      exact L3.here rs3 r3 q
    · exact L3.alloc rs3 hp (.tup (.inl (.inl upd_same)) ((q1.cut lo hi).mono (same_new rs3.toRS0 hp) (List.prefix_refl _))) q
  · exact q.elim
end
end L3

namespace L3
open PySem PySem.Spec PyProof.Rows L2
section
variable {X : Cx} {B : Bs} {K : PySem.W.Frag} {a b e : Expr} {es : List Expr} {wa wb we : WE} {was : WA} {pos : Pos} {st : Stmt} {rest : List Stmt} {w u : WS}
/-! ### statements -/
theorem RS.put {P : Hp} {al : List Addr} {M : Mt} {env : Ev} {σ : L2.St} {H : Hp} {d : D} {v : V} (rs : RS K B P al M env σ H) (i : Nat) (r : Rep K P al d v) : RS K B P al M (env.set i (some d)) (σ.set i (some v)) H := by
  refine ⟨rs.toRS0, by simp [rs.slen], fun j x h => ?_⟩
  by_cases hj : j = i
  · subst hj
    have hi : j < env.length := by
      have := (List.getElem?_eq_some_iff.mp h).1
      simpa using this
    rw [List.getElem?_set_self hi] at h
    cases h
    exact ⟨v, List.getElem?_set_self (by rw [← rs.slen]; exact hi), r⟩
  · rw [List.getElem?_set_ne (Ne.symm hj)] at h ⊢
    exact rs.slot j x h
def wSeq (w u : WS) : WS := fun k env M => w { k with nx := u k } env M
def wSkip : WS := fun k env M => k.nx env M
theorem ds_nil : DSs B X [] wSkip := by
  refine pss_nil.imp fun D σ H => ?_
  rintro ⟨P, al, M, env, k, rs, hw, L⟩
  exact L.nx _ _ _ _ _ _ Ext.refl rs hw
theorem ds_cons (h1 : DS B X st w) (h2 : DSs B X rest u) : DSs B X (st :: rest) (wSeq w u) := by
  refine (pss_cons h1 h2).imp fun D σ H => ?_
  rintro ⟨P, al, M, env, k, rs, hw, L⟩
  exact ⟨P, al, M, env, _, rs, hw, ⟨fun env' M' σ' H' P' al' e rs' q => ⟨P', al', M', env', k, rs', q, L.after e⟩, L.rt, L.bk, L.ct⟩⟩
theorem ds_one (h1 : DS B X st w) : DSs B X [st] w := pss_one h1
def wExp (we : WE) : WS := fun k env M => we env M fun _ M1 => k.nx env M1
theorem d_exp (he : DE B X e we) (hs : swapsWith e none pos.line X.env = pure false := by rfl) : DS B X (.Expr e pos) (wExp we) := by
  refine (ps_expr he hs).imp fun D σ H => ?_
  rintro ⟨P, al, M, env, k, rs, hw, L⟩
  exact ⟨P, al, M, env, _, rs, hw, fun d M1 v H1 P1 al1 e1 rs1 r1 q => L.nx _ _ _ _ _ _ e1 rs1 q⟩
def wRet (we : WE) : WS := fun k env M => we env M k.rt
theorem d_ret (he : DE B X e we) : DS B X (.Return (some e) pos) (wRet we) := by
  refine (ps_ret he).imp fun D σ H => ?_
  rintro ⟨P, al, M, env, k, rs, hw, L⟩
  exact ⟨P, al, M, env, _, rs, hw, fun d M1 v H1 P1 al1 e1 rs1 r1 q => L.rt _ _ _ _ _ _ e1 rs1.toRS0 r1 q⟩
/-- what is returned is published: an object that was made and filled here -/
@[irreducible] def frz (d : D) (M : Mt) (R : D → Mt → Prop) : Prop := match d with
  | .cel i => match M[i]? with
    | some (.lst l) => R (.lst l) (M.set i .non)
    | some (.dct l) => R (.dct l) (M.set i .non)
    | some (.obj C fs) => R (.obj C fs) (M.set i .non)
    | _ => False
  | _ => R d M
theorem RS0.freeze {P : Hp} {al : List Addr} {M : Mt} {H : Hp} {i : Nat} {m : D} {v : V} (rs : RS0 K B P al M H) (hm : M[i]? = some m) (hv : liveV m = true) (q : Rep K P al (.cel i) v) :
    ∃ P', Ext P al H P' al H ∧ RS0 K B P' al (M.set i .non) H ∧ Rep K P' al m v := by
  have hl := liveV_live hv
  obtain ⟨a, rfl, ha, c⟩ := cell_at rs hm q
  obtain ⟨hp, o, ho⟩ := live_cell hl c
  have ia : a ∈ al := List.mem_of_getElem? ha
  have sm : Same P (upd P a o) := fun b x h => by rw [upd_ne (ne_of_none h hp)]; exact h
  have e : Ext P al H (upd P a o) al H := ⟨sm, List.prefix_refl _, fun _ _ h _ => h, fun b m n => absurd m n, fun b x h _ hb n => by
    rw [upd_ne (fun z => n (by rw [z]; exact ia))]; exact hb⟩
  have im : i < M.length := (List.getElem?_eq_some_iff.mp hm).1
  have gm : ∀ (j : Nat) (n : D), (M.set i .non)[j]? = some n → live n = true → j ≠ i ∧ M[j]? = some n := fun j n h ln => by
    by_cases hj : j = i
    · subst hj; rw [List.getElem?_set_self im] at h; cases h; cases ln
    · rw [List.getElem?_set_ne (Ne.symm hj)] at h; exact ⟨hj, h⟩
  refine ⟨upd P a o, e, ⟨rs.base.trans e, fun b x h => ?_, by simp [rs.len], fun j b n h1 h2 => ?_, fun j k b n n' h1 h2 h3 h4 l1 l2 => ?_, rs.trk⟩, ?_⟩
  · by_cases hb : b = a
    · subst hb; rw [upd_same] at h; cases h; exact ho
    · rw [upd_ne hb] at h; exact rs.same _ _ h
  · by_cases ln : live n = true
    · obtain ⟨hj, g⟩ := gm j n h2 ln
      have c' := rs.cell j b n h1 g
      have hne : b ≠ a := fun z => hj (rs.inj j i a n m (z ▸ h1) ha g hm ln hl)
      exact c'.mono sm (List.prefix_refl _) (fun _ => by rw [upd_ne hne]; exact (live_cell ln c').1) fun _ _ h => h
    · cases n <;> first | trivial | exact absurd rfl ln | skip
      have hj : j ≠ i := fun z => by subst z; rw [List.getElem?_set_self im] at h2; cases h2
      rw [List.getElem?_set_ne (Ne.symm hj)] at h2
      exact ExCell.mono (rs.cell j b _ h1 h2) sm (List.prefix_refl _)
  · obtain ⟨_, g3⟩ := gm j n h3 l1
    obtain ⟨_, g4⟩ := gm k n' h4 l2
    exact rs.inj j k b n n' h1 h2 g3 g4 l1 l2
  · cases m with
    | lst ds => obtain ⟨_, xs, h1, h2⟩ := c; rw [ho] at h1; cases h1; exact .lst upd_same (h2.mono sm (List.prefix_refl _))
    | dct ds => obtain ⟨_, xs, h1, h2⟩ := c; rw [ho] at h1; cases h1; exact .dct upd_same (h2.mono sm (List.prefix_refl _))
    | obj C ds => obtain ⟨_, _, dx, xs, h1, hc, h2⟩ := c; rw [ho] at h1; cases h1; exact .obj upd_same hc (h2.mono sm (List.prefix_refl _))
    | _ => simp [liveV] at hv
theorem frz_ok {P : Hp} {al : List Addr} {M : Mt} {H : Hp} {d : D} {v : V} {R : D → Mt → Prop} (rs : RS0 K B P al M H) (r : Rep K P al d v) (q : frz d M R) : ∃ d' M' P', Ext P al H P' al H ∧ RS0 K B P' al M' H ∧ Rep K P' al d' v ∧ R d' M' := by
  unfold frz at q
  split at q
  · split at q
    · rename_i hm; obtain ⟨P', e, r0, r1⟩ := rs.freeze hm rfl r; exact ⟨_, _, P', e, r0, r1, q⟩
    · rename_i hm; obtain ⟨P', e, r0, r1⟩ := rs.freeze hm rfl r; exact ⟨_, _, P', e, r0, r1, q⟩
    · rename_i hm; obtain ⟨P', e, r0, r1⟩ := rs.freeze hm rfl r; exact ⟨_, _, P', e, r0, r1, q⟩
    · exact q.elim
  · exact ⟨d, M, P, Ext.refl, rs, r, q⟩
def wRetF (we : WE) : WS := fun k env M => we env M fun d M1 => frz d M1 k.rt
theorem d_retF (he : DE B X e we) : DS B X (.Return (some e) pos) (wRetF we) := by
  refine (ps_ret he).imp fun D σ H => ?_
  rintro ⟨P, al, M, env, k, rs, hw, L⟩
  refine ⟨P, al, M, env, _, rs, hw, fun d M1 v H1 P1 al1 e1 rs1 r1 q => ?_⟩
  obtain ⟨d', M', P', e2, r0, r2, q2⟩ := frz_ok rs1.toRS0 r1 q
  exact L.rt _ _ _ _ _ _ (e1.trans e2) r0 r2 q2
def wIfS (t : WT) (w u : WS) : WS := fun k env M => t env M fun b M1 => ifB b (w k env M1) (u k env M1)
theorem d_if {c : Expr} {x y : List Stmt} {t : WT} (hc : DT B X c t) (ha : DSs B X x w) (hb : DSs B X y u) : DS B X (.If c x y pos) (wIfS t w u) := by
  refine (ps_if hc ha hb).imp fun D σ H => ?_
  rintro ⟨P, al, M, env, k, rs, hw, L⟩
  refine ⟨P, al, M, env, _, rs, hw, fun b' M1 H1 P1 al1 e1 rs1 q => ?_⟩
  cases b' with
  | true => rw [if_pos rfl]; exact ⟨P1, al1, M1, env, k, rs1, q.1 rfl, L.after e1⟩
  | false => rw [if_neg Bool.false_ne_true]; exact ⟨P1, al1, M1, env, k, rs1, q.2 rfl, L.after e1⟩
/-! ### targets -/
def gN (i : Nat) : WG := fun d env M R => R (env.set i (some d)) M
theorem dg_name {i : Nat} {x : Str} (hN : X.N.Nodup) (hi : X.N[i]? = some x := by rfl) (hx : Loc X.env.scope x := by first | exact .inl rfl | exact .inr rfl) (hf : X.fn x = true ∨ X.env.scope.names.lookup x = some .local := by first | exact .inl rfl | exact .inr rfl | assumption) : DG B X (.Name x pos) (gN i) := by
  refine (pg_name hN hi hx hf).imp fun v σ H Q => ?_
  rintro ⟨P, al, M, env, d, R, rs, r, hw, L⟩
  exact L _ _ _ _ _ _ Ext.refl (rs.put i r) hw
abbrev WGs := List D → Ev → Mt → (Ev → Mt → Prop) → Prop
def tDGs (K : PySem.W.Frag) (B : Bs) (g : WGs) : TGs := fun vs σ H Q => ∃ P al M env ds R, RS K B P al M env σ H ∧ Reps K P al ds vs ∧ g ds env M R ∧
  ∀ env' M' σ' H' P' al', Ext P al H P' al' H' → RS K B P' al' M' env' σ' H' → R env' M' → Q σ' H'
theorem _root_.L2.PGs.imp {X : Cx} {e : List Expr} {t u : TGs} (h : PGs X e t) (i : ∀ v σ H Q, u v σ H Q → t v σ H Q) : PGs X e u := ⟨fun pins s σ H v u' Q I r q => h.run pins s σ H v u' Q I r (i v σ H Q q)⟩
abbrev DGs (B : Bs) (X : Cx) (es : List Expr) (g : WGs) : Prop := PGs X es (tDGs X.K B g)
def gsNil : WGs := fun ds env M R => match ds with
  | [] => R env M
  | _ => False
def gsCons (g : WG) (r : WGs) : WGs := fun ds env M R => match ds with
  | d :: t => g d env M fun env1 M1 => r t env1 M1 R
  | [] => False
theorem dgs_nil : DGs B X [] gsNil := by
  refine pgs_nil.imp fun v σ H Q => ?_
  rintro ⟨P, al, M, env, ds, R, rs, r, hw, L⟩
  cases r with
  | nil => exact ⟨rfl, L _ _ _ _ _ _ Ext.refl rs hw⟩
  | cons _ _ => exact hw.elim
theorem dgs_cons {g : WG} {gs : WGs} (h1 : DG B X e g) (h2 : DGs B X es gs) (hs : (assignEach (e :: es) X.env).map (·.2) = assign e X.env :: (assignEach es X.env).map (·.2) := by rfl) : DGs B X (e :: es) (gsCons g gs) := by
  refine (pgs_cons h1 h2 hs).imp fun v σ H Q => ?_
  rintro ⟨P, al, M, env, ds, R, rs, r, hw, L⟩
  cases r with
  | nil => exact hw.elim
  | cons r1 r2 =>
    exact ⟨_, _, rfl, P, al, M, env, _, _, rs, r1, hw, fun env' M' σ' H' P' al' e rs' q => ⟨P', al', M', env', _, R, rs', r2.mono e.pp e.pre, q, fun env2 M2 σ2 H2 P2 al2 e2 rs2 q2 => L _ _ _ _ _ _ (e.trans e2) rs2 q2⟩⟩
/-- a, b, .. = a tuple -/
def gT (n : Nat) (g : WGs) : WG := fun d env M R => match d with
  | .tup ds => Need (ds.length = n) ∧ g ds env M R
  | _ => False
theorem dg_tup {k : Nat} {g : WGs} {n : Nat} (hc : X.calm = true) (h : DGs B X es g) (hn : (assignEach es X.env).length = n := by rfl) (hst : (assignEach es X.env).findIdx? (·.1) = none := by rfl) : DG B X (.Tuple es k pos) (gT n g) := by
  refine (pg_tup hc h hn hst).imp fun v σ H Q => ?_
  rintro ⟨P, al, M, env, d, R, rs, r, hw, L⟩
  unfold gT at hw
  split at hw
  · cases r with
    | tup h1 h2 => exact ⟨_, _, rfl, same_seqT rs.same h1, by rw [← h2.length]; exact hw.1.out, P, al, M, env, _, R, rs, h2, hw.2, L⟩
  · exact hw.elim
/-- xs[i] = .., xs an object that changes -/
@[irreducible] def dsetIx (d o i : D) (M2 : Mt) (R : Mt → Prop) : Prop := match o, i with
  | .cel n, .int k => match M2[n]? with
    | some (.lst l) => match ixN l.length k with
      | some j => R (M2.set n (.lst (l.set j d)))
      | none => False
    | _ => False
  | _, _ => False
def gIxL (wo wi : WE) : WG := fun d env M R => wo env M fun o M1 => wi env M1 fun i M2 => dsetIx d o i M2 (R env)
theorem Reps.setR {P : Hp} {al : List Addr} {ds : List D} {vs : List V} {d : D} {v : V} (r : Reps K P al ds vs) (q : Rep K P al d v) (i : Nat) : Reps K P al (ds.set i d) (vs.set i v) := Reps.set q i r
theorem dg_ixL {o i : Expr} {wo wi : WE} (ho : DE B X o wo) (hi : DE B X i wi) (ha : ∀ v, assign (.Subscript o i pos) X.env v = (do
      let ov ← holding [v] (eval o X.env)
      let iv ← holding [v, ov] (eval i X.env)
      standAt pos
      holding [v, ov, iv] (setItem ov iv v)
      release [v, ov, iv] []) := by intro _; rfl) : DG B X (.Subscript o i pos) (gIxL wo wi) := by
  refine (pg_sub ho hi set_list ha).imp fun v σ H Q => ?_
  rintro ⟨P, al, M, env, d, R, rs, r, hw, L⟩
  refine ⟨P, al, M, env, _, rs, hw, fun d1 M1 v1 H1 P1 al1 e1 rs1 r1 hw1 => ⟨P1, al1, M1, env, _, rs1, hw1, fun d2 M2 v2 H2 P2 al2 e2 rs2 r2 q => ?_⟩⟩
  unfold dsetIx at q
  split at q
  · rename_i n k
    split at q
    · rename_i l hm
      split at q
      · rename_i j hj
        cases r2
        obtain ⟨a, rfl, ha, _, xs, h1, h2⟩ := cell_at rs2.toRS0 hm (r1.mono e2.pp e2.pre)
        have e12 := e1.trans e2
        obtain ⟨e3, r3⟩ := rs2.toRS0.change (o' := .lst (xs.set j v)) (m' := .lst (l.set j d)) ha hm rfl fun H' hH => ⟨(live_cell rfl (rs2.cell n a _ ha hm)).1, _, hH, h2.setR (r.mono e12.pp e12.pre) j⟩
        exact ⟨a, xs, k, j, rfl, rfl, h1, by rw [← h2.length]; exact hj, L _ _ _ _ _ _ (e12.trans e3) (rs2.step e3 r3) q⟩
      · exact q.elim
    · exact q.elim
  · exact q.elim
/-- target = value -/
def wAsg (we : WE) (g : WG) : WS := fun k env M => we env M fun d M1 => g d env M1 k.nx
theorem d_asg {tg : Expr} {g : WG} (he : DE B X e we) (hg : DG B X tg g) (hs : swapsWithSole [tg] e pos.line X.env = pure false := by rfl) (hw : swappedStores [tg] e X.env = pure none := by rfl)
    (h1 : (assignEach [tg] X.env).map (·.2) = [assign tg X.env] := by rfl) : DS B X (.Assign [tg] e pos) (wAsg we g) := by
  refine (ps_asg he hg hs hw h1).imp fun D σ H => ?_
  rintro ⟨P, al, M, env, k, rs, hw, L⟩
  exact ⟨P, al, M, env, _, rs, hw, fun d M1 v H1 P1 al1 e1 rs1 r1 q => ⟨P1, al1, M1, env, d, _, rs1, r1, q, fun env' M' σ' H' P' al' e rs' q' => L.nx _ _ _ _ _ _ (e1.trans e) rs' q'⟩⟩
theorem d_set {i : Nat} {x : Str} {pos' : Pos} (hN : X.N.Nodup) (he : DE B X e we) (hi : X.N[i]? = some x := by rfl) (hx : Loc X.env.scope x := by first | exact .inl rfl | exact .inr rfl) (hs : swapsWith e (some (.Name x pos')) pos.line X.env = pure false := by rfl)
    (hf : X.fn x = true ∨ X.env.scope.names.lookup x = some .local := by first | exact .inl rfl | exact .inr rfl | assumption) : DS B X (.Assign [.Name x pos'] e pos) (wAsg we (gN i)) := by
  refine (ps_set hN hi hx he hs hf).imp fun D σ H => ?_
  rintro ⟨P, al, M, env, k, rs, hw, L⟩
  exact ⟨P, al, M, env, _, rs, hw, fun d M1 v H1 P1 al1 e1 rs1 r1 q => L.nx _ _ _ _ _ _ e1 (rs1.put i r1) q⟩
/-- a, b = x, y -/
def wPar (i j : Nat) (was : WA) : WS := fun k env M => was env M fun ds M1 => match ds with
  | [d1, d2] => k.nx ((env.set i (some d1)).set j (some d2)) M1
  | _ => False
theorem d_par {i j : Nat} {x y : Str} {px py pt : Pos} {kt k2 pt2} (hc : X.calm = true) (hN : X.N.Nodup) (hi : X.N[i]? = some x) (hj : X.N[j]? = some y) (hij : i ≠ j)
    (hx : X.env.scope.names.lookup x = some .local) (hy : X.env.scope.names.lookup y = some .local) (ha : DA B X [a, b] was)
    (hw : swappedStores [.Tuple [.Name x px, .Name y py] kt pt] (.Tuple [a, b] k2 pt2) X.env = pure (some [x, y]))
    (hs : swapsWithSole [.Tuple [.Name x px, .Name y py] kt pt] (.Tuple [a, b] k2 pt2) pos.line X.env = pure false := by rfl) :
    DS B X (.Assign [.Tuple [.Name x px, .Name y py] kt pt] (.Tuple [a, b] k2 pt2) pos) (wPar i j was) := by
  refine (ps_par hc hN hi hj hij hx hy ha hw hs).imp fun D σ H => ?_
  rintro ⟨P, al, M, env, k, rs, hw, L⟩
  refine ⟨P, al, M, env, _, rs, hw, fun ds M1 vs H1 P1 al1 e1 rs1 r1 q => ?_⟩
  split at q
  · cases r1 with
    | cons q1 t => cases t with
      | cons q2 t => cases t; exact ⟨_, _, rfl, L.nx _ _ _ _ _ _ e1 ((rs1.put i q1).put j q2) q⟩
  · exact q.elim
end

/-! ### what is walked -/
section
variable {X : Cx} {B : Bs} {K : PySem.W.Frag} {e tg : Expr} {es : List Expr} {we : WE} {was : WA} {pos : Pos}
def Walk (K : PySem.W.Frag) (J : It) (ds : List D) (P : Hp) (al : List Addr) : Prop :=
  ∀ (B : Bs) (P2 : Hp) (al2 : List Addr) (M2 : Mt) (H2 : Hp), Same P P2 → al <+: al2 → RS0 K B P2 al2 M2 H2 →
    (∀ (i : Nat) (d : D), ds[i]? = some d → J.go i H2 ∧ ∀ x H3, J.yld i H2 x H3 → ∃ P3, Ext P2 al2 H2 P3 al2 H3 ∧ RS0 K B P3 al2 M2 H3 ∧ Rep K P3 al2 d x) ∧ J.stop ds.length H2
abbrev WI := Ev → Mt → (List D → Mt → Prop) → Prop
def tDI (K : PySem.W.Frag) (B : Bs) (w : WI) : TI := fun σ H R => ∃ P al M env RR, RS K B P al M env σ H ∧ w env M RR ∧
  ∀ ds M' H' P' al' J, Ext P al H P' al' H' → RS K B P' al' M' env σ H' → Walk K J ds P' al' → RR ds M' → R J H'
abbrev DI (B : Bs) (X : Cx) (tg e : Expr) (w : WI) : Prop := PI X tg e (tDI X.K B w)
def rIt (K : PySem.W.Frag) (x : V) (H : Hp) (R : It → Hp → Prop) : Prop := (∃ a, x = .ref a ∧ (∃ xs, SqL K H a xs) ∧ R (Itl K a) H) ∨ (∃ a, x = .ref a ∧ (∃ xs, SqT K H a xs) ∧ R (Itt K a) H) ∨ ∃ z, x = .str z ∧ R (Its z) H
theorem pi_any {tl : TE} (hl : PE X e tl) : PI X tg e (fun σ H R => tl σ H fun x H1 => rIt X.K x H1 R) := by
  refine ⟨fun pins s σ H R I h => ?_⟩
  refine thn (hl.run pins s σ H _ I h) fun v s1 ⟨x, H1, I1, r1, q1⟩ => ?_
  rcases q1 with ⟨a, e, ⟨xs, hq⟩, q⟩ | ⟨a, e, ⟨xs, hq⟩, q⟩ | ⟨z, e, q⟩
  · subst e
    cases r1
    obtain ⟨its, rv, p, hz⟩ := I1.list hq
    refine wpAny_pyIter_list p.isList ?_
    exact pi_one (tk := s1.toks) I1 _ (turn_list a _) ⟨_, Heap.get?_push_size _ rfl, rfl, rfl⟩ q
  · subst e
    cases r1
    obtain ⟨its, rv, p, hz⟩ := I1.tuple hq
    refine wpAny_pyIter_tuple (show s1.heap.IsTuple a its.toArray from p) ?_
    exact pi_one (tk := s1.toks) I1 _ (turn_tuple a _) ⟨_, Heap.get?_push_size _ rfl, rfl, rfl⟩ q
  · subst e
    obtain ⟨t, rfl⟩ := r1
    cases ha : z.cps.all (· < 128)
    · exact wpAny_pyIter_wide ha (pi_one (tk := s1.toks) I1 _ (turn_str _ z t "str_iterator" (.inr rfl)) ⟨_, Heap.get?_push_size _ rfl, rfl, rfl⟩ q)
    · exact wpAny_pyIter_ascii ha (pi_one (tk := s1.toks) I1 _ (turn_str _ z t "str_ascii_iterator" (.inl rfl)) ⟨_, Heap.get?_push_size _ rfl, rfl, rfl⟩ q)
/-- the signs of a text -/
def chars (s : Str) : List D := s.cps.toList.map fun c => .str ⟨#[c]⟩
theorem walk_str (s : Str) (P : Hp) (al : List Addr) : Walk K (Its s) (chars s) P al := by
  intro B P2 al2 M2 H2 _ _ r0
  have hl : (chars s).length = s.cps.size := by simp [chars]
  refine ⟨fun i d hd => ?_, by show s.cps.size ≤ (chars s).length; omega⟩
  have hi : i < (chars s).length := (List.getElem?_eq_some_iff.mp hd).1
  refine ⟨by show i < s.cps.size; omega, fun x H3 ⟨e, c, hc, ex⟩ => ⟨P2, ?_⟩⟩
  subst e; subst ex
  have : d = .str ⟨#[c]⟩ := by
    unfold chars at hd
    rw [List.getElem?_map, Array.getElem?_toList, hc] at hd
    exact (Option.some.inj hd).symm
  subst this
  exact ⟨Ext.refl, r0, .str _⟩
theorem walk_list {a : Addr} {xs : List V} {ds : List D} {P : Hp} {al : List Addr} (h : P a = some (.lst xs)) (r : Reps K P al ds xs) : Walk K (Itl K a) ds P al := by
  intro B P2 al2 M2 H2 s p r0
  have h2 : H2 a = some (.lst xs) := r0.same _ _ (s _ _ h)
  have r2 := r.mono s p
  refine ⟨fun i d hd => ?_, ⟨xs, SqL.of h2, by rw [r.length]; exact Nat.le_refl _⟩⟩
  obtain ⟨v, hv, rv⟩ := r2.get hd
  refine ⟨⟨xs, v, SqL.of h2, hv⟩, fun x H3 ⟨e, f⟩ => ⟨P2, ?_⟩⟩
  subst e
  have := f _ (SqL.of h2)
  rw [hv] at this; cases this
  exact ⟨Ext.refl, r0, rv⟩
theorem walk_rol {a : Addr} {xs : List V} {ds : List D} {P : Hp} {al : List Addr} (h : SqL K P a xs) (r : Reps K P al ds xs) : Walk K (Itl K a) ds P al := by
  intro B P2 al2 M2 H2 s p r0
  have h2 : SqL K H2 a xs := r0.same.seq (s.seq h)
  have r2 := r.mono s p
  refine ⟨fun i d hd => ?_, ⟨xs, h2, by rw [r.length]; exact Nat.le_refl _⟩⟩
  obtain ⟨v, hv, rv⟩ := r2.get hd
  refine ⟨⟨xs, v, h2, hv⟩, fun x H3 ⟨e, f⟩ => ⟨P2, ?_⟩⟩
  subst e
  have := f _ h2
  rw [hv] at this; cases this
  exact ⟨Ext.refl, r0, rv⟩
theorem walk_tup {a : Addr} {xs : List V} {ds : List D} {P : Hp} {al : List Addr} (h : SqT K P a xs) (r : Reps K P al ds xs) : Walk K (Itt K a) ds P al := by
  intro B P2 al2 M2 H2 s p r0
  have h2 : SqT K H2 a xs := same_seqT r0.same (same_seqT s h)
  have r2 := r.mono s p
  refine ⟨fun i d hd => ?_, ⟨xs, h2, by rw [r.length]; exact Nat.le_refl _⟩⟩
  obtain ⟨v, hv, rv⟩ := r2.get hd
  refine ⟨⟨xs, v, h2, hv⟩, fun x H3 ⟨e, f⟩ => ⟨P2, ?_⟩⟩
  subst e
  have := f _ h2
  rw [hv] at this; cases this
  exact ⟨Ext.refl, r0, rv⟩
def wIt (we : WE) : WI := fun env M RR => we env M fun d M1 => match d with
  | .str s => RR (chars s) M1
  | .lst l => RR l M1
  | .rol l => RR l M1
  | .tup l => RR l M1
  | _ => False
theorem di_any (h : DE B X e we) : DI B X tg e (wIt we) := by
  refine (pi_any h).imp fun σ H R => ?_
  rintro ⟨P, al, M, env, RR, rs, hw, L⟩
  refine ⟨P, al, M, env, _, rs, hw, fun d M1 v H1 P1 al1 e1 rs1 r1 q => ?_⟩
  split at q
  · cases r1; exact .inr (.inr ⟨_, rfl, L _ _ _ _ _ _ e1 rs1 (walk_str _ _ _) q⟩)
  · cases r1 with
    | lst h1 h2 => exact .inl ⟨_, rfl, ⟨_, SqL.of (rs1.same _ _ h1)⟩, L _ _ _ _ _ _ e1 rs1 (walk_list h1 h2) q⟩
  · cases r1 with
    | rol h1 h2 => exact .inl ⟨_, rfl, ⟨_, rs1.same.seq h1⟩, L _ _ _ _ _ _ e1 rs1 (walk_rol h1 h2) q⟩
  · cases r1 with
    | tup h1 h2 => exact .inr (.inl ⟨_, rfl, ⟨_, same_seqT rs1.same h1⟩, L _ _ _ _ _ _ e1 rs1 (walk_tup h1 h2) q⟩)
  · exact q.elim
@[irreducible] def rangeD (lo : Int) (n : Nat) : List D := (List.range n).map fun (k : Nat) => .int (lo + k)
theorem walk_range (lo : Int) (n : Nat) (P : Hp) (al : List Addr) : Walk K (Itr lo n) (rangeD lo n) P al := by
  intro B P2 al2 M2 H2 _ _ r0
  have hl : (rangeD lo n).length = n := by simp [rangeD]
  refine ⟨fun i d hd => ?_, by show n ≤ (rangeD lo n).length; omega⟩
  have hi : i < (rangeD lo n).length := (List.getElem?_eq_some_iff.mp hd).1
  refine ⟨by show i < n; omega, fun x H3 ⟨e, ex⟩ => ⟨P2, ?_⟩⟩
  subst e; subst ex
  have : d = .int (lo + i) := by
    unfold rangeD at hd
    rw [List.getElem?_map, List.getElem?_range (by omega)] at hd
    exact (Option.some.inj hd).symm
  subst this
  exact ⟨Ext.refl, r0, .int _⟩
def wRng1 (was : WA) : WI := fun env M RR => was env M fun ds M1 => match ds with
  | [.int j] => Need (-(2 ^ 62) ≤ j ∧ j < 2 ^ 62) ∧ RR (rangeD 0 j.toNat) M1
  | _ => False
def wRng2 (was : WA) : WI := fun env M RR => was env M fun ds M1 => match ds with
  | [.int i, .int j] => Need (-(2 ^ 62) ≤ i ∧ i < 2 ^ 62 ∧ -(2 ^ 62) ≤ j ∧ j < 2 ^ 62) ∧ RR (rangeD i (j - i).toNat) M1
  | _ => False
theorem di_range1 {p : Pos} (hg : Gl X "range") (hm : X.mg "range" = none) (ha : DA B X [e] was) (hs : starEach [e] X.env = [(false, eval e X.env)] := by rfl) : DI B X tg (.Call (.Name "range" p) [e] [] pos) (wRng1 was) := by
  refine (pi_range1 hg hm ha hs).imp fun σ H R => ?_
  rintro ⟨P, al, M, env, RR, rs, hw, L⟩
  refine ⟨P, al, M, env, _, rs, hw, fun ds M1 vs H1 P1 al1 e1 rs1 r1 q => ?_⟩
  split at q
  · rename_i j
    cases r1 with
    | cons q1 t =>
      cases t; cases q1
      exact ⟨j, rfl, q.1.out.1, q.1.out.2, L _ _ _ _ _ _ e1 rs1 (walk_range 0 _ _ _) q.2⟩
  · exact q.elim
theorem di_range2 {a b : Expr} {p : Pos} (hg : Gl X "range") (hm : X.mg "range" = none) (ha : DA B X [a, b] was) (hs : starEach [a, b] X.env = [(false, eval a X.env), (false, eval b X.env)] := by rfl) (hs2 : starEach [b] X.env = [(false, eval b X.env)] := by rfl) : DI B X tg (.Call (.Name "range" p) [a, b] [] pos) (wRng2 was) := by
  refine (pi_range2 hg hm ha hs hs2).imp fun σ H R => ?_
  rintro ⟨P, al, M, env, RR, rs, hw, L⟩
  refine ⟨P, al, M, env, _, rs, hw, fun ds M1 vs H1 P1 al1 e1 rs1 r1 q => ?_⟩
  split at q
  · rename_i i j
    cases r1 with
    | cons q1 t =>
      cases t with
      | cons q2 t =>
        cases t; cases q1; cases q2
        exact ⟨i, j, rfl, q.1.out, L _ _ _ _ _ _ e1 rs1 (walk_range i _ _ _) q.2⟩
  · exact q.elim

/-! ### for -/
/-- the turns over the items; N: what a turn is to reach -/
def forL (g : WG) (b : WS) (k : DEnds) : List D → Ev → Mt → Prop
  | [], env, M => k.nx env M
  | d :: r, env, M => ∃ N : Ev → Mt → Prop, (∀ env' M', N env' M' → forL g b k r env' M') ∧ g d env M fun env1 M1 => b { nx := N, ct := N, bk := k.nx, rt := k.rt } env1 M1
def wFor (wi : WI) (g : WG) (b : WS) : WS := fun k env M => wi env M fun ds M1 => forL g b k ds env M1
theorem d_for {body : List Stmt} {wi : WI} {g : WG} {wb : WS} (hp : PassesOwn (model X.prog X.w) X.A X.env X.xe) (hc : X.calm = true) (hi : DI B X tg e wi) (hg : DG B X tg g) (hb : DSs B X body wb) (hs : ∀ x, foldedSetIterable e X.env x = pure x := by intro _; rfl) :
    DS B X (.For tg e body [] pos) (wFor wi g wb) := by
  refine (ps_for hp hc hi hg hb hs).imp fun D σ H => ?_
  rintro ⟨P, al, M, env, k, rs, hw, L⟩
  refine ⟨P, al, M, env, _, rs, hw, fun ds M1 H1 P1 al1 J e1 rs1 wk q => ?_⟩
  refine ⟨fun i m σ2 H2 => m = ds.length - i ∧ i ≤ ds.length ∧ ∃ P2 al2 M2 env2, Ext P1 al1 H1 P2 al2 H2 ∧ RS X.K B P2 al2 M2 env2 σ2 H2 ∧ forL g wb k (ds.drop i) env2 M2, ⟨ds.length, by simp, Nat.zero_le _, P1, al1, M1, env, Ext.refl, rs1, q⟩, ?_⟩
  rintro i m σ2 H2 ⟨rfl, hi, P2, al2, M2, env2, e2, rs2, q2⟩
  obtain ⟨wk1, wk2⟩ := wk B P2 al2 M2 H2 e2.pp e2.pre rs2.toRS0
  by_cases hlt : i < ds.length
  · right
    have hd : ds[i]? = some ds[i] := List.getElem?_eq_getElem hlt
    obtain ⟨go, yl⟩ := wk1 i _ hd
    rw [List.drop_eq_getElem_cons hlt] at q2
    obtain ⟨N, hN, q2⟩ := q2
    refine ⟨go, fun σ' H' => ∃ P' al' M' env', Ext P1 al1 H1 P' al' H' ∧ RS X.K B P' al' M' env' σ' H' ∧ N env' M', fun σ' H' ⟨P', al', M', env', e', rs', n'⟩ => ⟨ds.length - (i + 1), by omega, rfl, hlt, P', al', M', env', e', rs', hN _ _ n'⟩, fun x H3 y => ?_⟩
    obtain ⟨P3, e3, r3, rx⟩ := yl x H3 y
    refine ⟨P3, al2, M2, env2, _, _, rs2.step e3 r3, rx, q2, fun env4 M4 σ4 H4 P4 al4 e4 rs4 q4 => ?_⟩
    have e14 := e2.trans (e3.trans e4)
    refine ⟨P4, al4, M4, env4, _, rs4, q4, ⟨fun env5 M5 σ5 H5 P5 al5 e5 rs5 n5 => ⟨P5, al5, M5, env5, e14.trans e5, rs5, n5⟩, fun d M5 v H5 P5 al5 e5 rs5 r5 q5 => L.rt _ _ _ _ _ _ (e1.trans (e14.trans e5)) rs5 r5 q5, fun env5 M5 σ5 H5 P5 al5 e5 rs5 q5 => L.nx _ _ _ _ _ _ (e1.trans (e14.trans e5)) rs5 q5, fun env5 M5 σ5 H5 P5 al5 e5 rs5 n5 => ⟨P5, al5, M5, env5, e14.trans e5, rs5, n5⟩⟩⟩
  · left
    have ei : i = ds.length := by omega
    subst ei
    rw [List.drop_length] at q2
    exact ⟨wk2, L.nx _ _ _ _ _ _ (e1.trans e2) rs2 q2⟩

/-! ### list comprehensions -/
def wipeE (env : Ev) : List Nat → Ev
  | [] => env
  | v :: vs => (wipeE env vs).set v none
theorem RS.wipe {P : Hp} {al : List Addr} {M : Mt} {env : Ev} {σ : L2.St} {H : Hp} (rs : RS K B P al M env σ H) : ∀ vs : List Nat, RS K B P al M (wipeE env vs) (L2.wipe σ vs) H
  | [] => rs
  | v :: vs => by
    have ih := rs.wipe vs
    refine ⟨ih.toRS0, by simp [wipeE, L2.wipe, ih.slen], fun j d h => ?_⟩
    unfold wipeE at h
    by_cases hj : j = v
    · subst hj
      have hi : j < (wipeE env vs).length := by
        have := (List.getElem?_eq_some_iff.mp h).1
        simpa using this
      rw [List.getElem?_set_self hi] at h; cases h
    · rw [List.getElem?_set_ne (Ne.symm hj)] at h
      unfold L2.wipe
      rw [List.getElem?_set_ne (Ne.symm hj)]
      exact ih.slot j d h
abbrev WTs := Ev → Mt → (Bool → Mt → Prop) → Prop
abbrev DTs (B : Bs) (X : Cx) (ifs : List Expr) (w : WTs) : Prop := PTs X ifs (tDT X.K B w)
def wYes : WTs := fun _ M R => R true M
theorem _root_.L2.PTs.imp {X : Cx} {e : List Expr} {t u : TT} (h : PTs X e t) (i : ∀ σ H Q, u σ H Q → t σ H Q) : PTs X e u := ⟨fun pins s σ H Q I q => h.run pins s σ H Q I (i σ H Q q)⟩
theorem dts_nil : DTs B X [] wYes := by
  refine pts_nil.imp fun σ H Q => ?_
  rintro ⟨P, al, M, env, R, rs, hw, L⟩
  exact L _ _ _ _ _ Ext.refl rs hw
theorem dts_one {c : Expr} {t : WT} (h : DT B X c t) : DTs B X [c] t := pts_one h
theorem wipe_get (σ : L2.St) : ∀ (vs : List Nat) (j : Nat), (L2.wipe σ vs)[j]? = if j ∈ vs then (if j < σ.length then some none else none) else σ[j]?
  | [], j => by simp [L2.wipe]
  | v :: vs, j => by
    unfold L2.wipe
    by_cases hj : j = v
    · subst hj
      by_cases hl : j < σ.length
      · rw [List.getElem?_set_self (by rw [wipe_length]; exact hl)]; simp [hl]
      · rw [List.getElem?_eq_none (by rw [List.length_set, wipe_length]; omega)]; simp [hl]
    · rw [List.getElem?_set_ne (Ne.symm hj), wipe_get σ vs j]
      simp [hj]
theorem wipe_put {σ : L2.St} {vs : List Nat} {i : Nat} {x : Option V} (hi : i ∈ vs) : L2.wipe (σ.set i x) vs = L2.wipe σ vs := by
  apply List.ext_getElem?
  intro j
  rw [wipe_get, wipe_get, List.length_set]
  by_cases hj : j ∈ vs
  · simp [hj]
  · have : i ≠ j := fun z => hj (z ▸ hi)
    simp [hj, List.getElem?_set_ne this]
theorem wipe_wipe {σ : L2.St} {vs : List Nat} : L2.wipe (L2.wipe σ vs) vs = L2.wipe σ vs := by
  apply List.ext_getElem?
  intro j
  rw [wipe_get, wipe_length]
  by_cases hj : j ∈ vs
  · simp only [hj, if_true]; rw [wipe_get]; simp [hj]
  · simp [hj]
/-- a comprehension's names: one, or two, three of a tuple -/
def bnd (is : List Nat) (d : D) (env : Ev) (k : Ev → Prop) : Prop := match is with
  | [i] => k (env.set i (some d))
  | [i, j] => match d with
    | .tup [a, b] => k ((env.set i (some a)).set j (some b))
    | _ => False
  | _ => False
def lcL (is : List Nat) (t : WTs) (we : WE) (vs : List Nat) (env : Ev) : List D → List D → Mt → (List D → Mt → Prop) → Prop
  | [], acc, M, R => R acc M
  | d :: r, acc, M, R => bnd is d (wipeE env vs) fun env1 => t env1 M fun b M2 =>
      ifB b (we env1 M2 fun y M3 => Need (acc.length < sizeLine) ∧ lcL is t we vs env r (acc ++ [y]) M3 R) (lcL is t we vs env r acc M2 R)
def wLc (wi : WI) (is : List Nat) (t : WTs) (we : WE) (vs : List Nat) : WE := fun env M R => wi env M fun ds M1 => lcL is t we vs env ds [] M1 fun acc M2 => R (.lst acc) M2
/-- how the target takes an item -/
def Binds1 (K : PySem.W.Frag) (g : TG) (is vs : List Nat) : Prop := ∀ (B : Bs) (P : Hp) (al : List Addr) (M : Mt) (env : Ev) (σ : L2.St) (H : Hp) (d : D) (v : V) (k : Ev → Prop) (Q : L2.St → Hp → Prop), RS K B P al M env σ H → Rep K P al d v → bnd is d env k →
  (∀ env' σ', RS K B P al M env' σ' H → L2.wipe σ' vs = L2.wipe σ vs → k env' → Q σ' H) → g v σ H Q
theorem binds_one {i : Nat} {vs : List Nat} (hi : i ∈ vs) : Binds1 K (gName i) [i] vs := fun B P al M env σ H d v k Q rs r h q => q _ _ (rs.put i r) (wipe_put hi) h
theorem binds_two {i j : Nat} {vs : List Nat} (hi : i ∈ vs) (hj : j ∈ vs) : Binds1 K (gTup K 2 (gCons (gName i) (gCons (gName j) gNil))) [i, j] vs := by
  intro B P al M env σ H d v k Q rs r h q
  cases r with
  | tup h1 h2 =>
    cases h2 with
    | nil => exact (show False from h).elim
    | cons q1 t =>
      cases t with
      | nil => exact (show False from h).elim
      | cons q2 t =>
        cases t with
        | nil => exact ⟨_, _, rfl, same_seqT rs.same h1, rfl, _, _, rfl, _, _, rfl, rfl, q _ _ ((rs.put i q1).put j q2) (by rw [wipe_put hj, wipe_put hi]) h⟩
        | cons _ _ => exact (show False from h).elim
  | _ => exact (show False from h).elim
/-- the core: what the block's rule asks -/
theorem lc_imp {wi : WI} {g : TG} {is vs : List Nat} {t : WTs} {we : WE} (bn : Binds1 K g is vs) {P al M env σ H} {R : D → Mt → Prop} {Q : VK} {fin : List D → Mt → (D → Mt → Prop) → Prop}
    (hfin : ∀ (P : Hp) (al : List Addr) (M : Mt) (σ : L2.St) (H : Hp) (p : Addr) (acc : List D) (vs : List V) (R : D → Mt → Prop) (Q : VK) (H0 P0 : Hp) (al0 : List Addr), RS K B P al M env σ H → Ext P0 al0 H0 P al H → H0 p = none → P p = none → p ∉ al → B.2.2 p = none → H p = some (.lst vs) → Reps K P al acc vs → fin acc M R → (∀ d M' P' al', Ext P0 al0 H0 P' al' H → RS K B P' al' M' env σ H → Rep K P' al' d (.ref p) → R d M' → Q (.ref p) H) → Q (.ref p) H)
    (rs : RS K B P al M env σ H) (hw : wi env M fun ds M1 => lcL is t we vs env ds [] M1 fun acc M2 => fin acc M2 R) (L : Lift K B P al env σ H R Q) : tLc (tDI K B wi) g (tDT K B t) (tD K B we) vs σ H Q := by
  refine ⟨P, al, M, env, _, rs, hw, fun ds M1 H1 P1 al1 J e1 rs1 wk q => fun p hp => ?_⟩
  obtain ⟨hb, na⟩ := rs1.toRS0.fresh hp
  have np := rs1.toRS0.free hp
  refine ⟨fun i m H2 => m = ds.length - i ∧ i ≤ ds.length ∧ ∃ P2 al2 M2 acc av, Ext P1 al1 H1 P2 al2 H2 ∧ RS K B P2 al2 M2 env σ H2 ∧ P2 p = none ∧ p ∉ al2 ∧ H2 p = some (.lst av) ∧ Reps K P2 al2 acc av ∧ lcL is t we vs env (ds.drop i) acc M2 (fun acc M2 => fin acc M2 R),
    ⟨ds.length, by simp, Nat.zero_le _, P1, al1, M1, [], [], Ext.refl.priv hp _, ⟨rs1.toRS0.priv np na hb _, rs1.slen, rs1.slot⟩, np, na, upd_same, .nil, q⟩, ?_⟩
  rintro i m H2 ⟨rfl, hi, P2, al2, M2, acc, av, e2, rs2, np2, na2, hpv, racc, q2⟩
  obtain ⟨wk1, wk2⟩ := wk B P2 al2 M2 H2 e2.pp e2.pre rs2.toRS0
  by_cases hlt : i < ds.length
  · right
    have hd : ds[i]? = some ds[i] := List.getElem?_eq_getElem hlt
    obtain ⟨go, yl⟩ := wk1 i _ hd
    rw [List.drop_eq_getElem_cons hlt] at q2
    refine ⟨go, fun H' => ∃ P' al' M' acc' av', Ext P1 al1 H1 P' al' H' ∧ RS K B P' al' M' env σ H' ∧ P' p = none ∧ p ∉ al' ∧ H' p = some (.lst av') ∧ Reps K P' al' acc' av' ∧ lcL is t we vs env (ds.drop (i + 1)) acc' M' (fun acc M2 => fin acc M2 R), fun H' ⟨P', al', M', acc', av', x⟩ => ⟨ds.length - (i + 1), by omega, rfl, hlt, P', al', M', acc', av', x⟩, fun x H3 y => ?_⟩
    obtain ⟨P3, e3, r3, rx⟩ := yl x H3 y
    have rs3 := (rs2.step e3 r3)
    -- what our own list is behind a step
    have keep : ∀ {Pa ala Ha Pb alb Hb w'}, Ext Pa ala Ha Pb alb Hb → Ha p = some (.lst w') → p ∉ ala → Pa p = none → Hb p = some (.lst w') ∧ p ∉ alb ∧ Pb p = none := fun {Pa ala Ha Pb alb Hb w'} e h n z =>
      ⟨e.fr _ _ h n, (fun m => by have := e.new _ m n; rw [h] at this; cases this), e.pn _ _ h ⟨fun _ u => (by cases u), fun _ u => (by cases u)⟩ z n⟩
    obtain ⟨hp3, na3, np3⟩ := keep e3 hpv na2 np2
    refine bn B P3 al2 M2 _ _ H3 _ x _ _ (rs3.wipe vs) rx q2 fun env4 σ4 rs4 hwp q4 => ⟨by rw [hwp, wipe_wipe], P3, al2, M2, env4, _, rs4, q4, fun b M5 H5 P5 al5 e5 rs5 q5 => ?_⟩
    obtain ⟨hp5, na5, np5⟩ := keep e5 hp3 na3 np3
    have e15 := e2.trans (e3.trans e5)
    have back : ∀ {P' al' M' H'}, Ext P3 al2 H3 P' al' H' → RS0 K B P' al' M' H' → RS K B P' al' M' env σ H' := fun {P' al' M' H'} e r => rs3.step e r
    cases b with
    | true =>
      rw [if_pos rfl]
      refine ⟨P5, al5, M5, env4, _, rs5, q5.1 rfl, fun y M6 v H6 P6 al6 e6 rs6 r6 q6 => ?_⟩
      obtain ⟨hp6, na6, np6⟩ := keep e6 hp5 na5 np5
      have racc6 := racc.mono (e3.trans (e5.trans e6)).pp (e3.trans (e5.trans e6)).pre
      refine ⟨av, hp6, by rw [← racc.length]; exact q6.1.out, P6, al6, M6, acc ++ [y], av ++ [v], (e15.trans e6).priv hp _, ?_, np6, na6, upd_same, racc6.append (.cons r6 .nil), q6.2⟩
      have r7 := back (e5.trans e6) rs6.toRS0
      exact ⟨r7.toRS0.priv np6 na6 hb _, r7.slen, r7.slot⟩
    | false =>
      rw [if_neg Bool.false_ne_true]
      exact ⟨P5, al5, M5, acc, av, e15, back e5 rs5.toRS0, np5, na5, hp5, racc.mono (e3.trans e5).pp (e3.trans e5).pre, q5.2 rfl⟩
  · left
    have ei : i = ds.length := by omega
    subst ei
    rw [List.drop_length] at q2
    refine ⟨wk2, ?_⟩
    exact hfin P2 al2 M2 σ H2 p acc av R Q H1 P1 al1 rs2 e2 hp np2 na2 hb hpv racc q2 fun d M' P' al' e rs' r z => L _ _ _ _ _ _ (e1.trans e) rs' r z
theorem d_lc {elt : Expr} {ifs : List Expr} {scope : Scope} {own : List (Str × Nat)} {g : TG} {is : List Nat} {wi : WI} {t : WTs} (hc : X.calm = true) (hN : X.N.Nodup) (hi : DI B X tg e wi) (ok : BlkOk X.N X.env.scope scope own)
    (hg : ∀ (s : Shared) (H : Hp) (C : Addr) (cl : List (Str × Addr)) (fp : List Addr), PG (X.blk s H scope (compEnvC scope cl C X.env) fp) tg g) (bn : Binds1 X.K g is (own.map (·.2)))
    (ht : ∀ (s : Shared) (H : Hp) (C : Addr) (cl : List (Str × Addr)) (fp : List Addr), DTs B (X.blk s H scope (compEnvC scope cl C X.env) fp) ifs t)
    (he : ∀ (s : Shared) (H : Hp) (C : Addr) (cl : List (Str × Addr)) (fp : List Addr), DE B (X.blk s H scope (compEnvC scope cl C X.env) fp) elt we) (hs : ∀ x, foldedSetIterable e X.env x = pure x := by intro _; rfl) :
    DE B X (.ListComp elt [⟨tg, e, ifs, 0⟩] scope pos) (wLc wi is t we (own.map (·.2))) := by
  refine (pe_lc (tt := tDT X.K B t) (te := tD X.K B we) hc hN hi ok hg ht he hs).imp fun σ H Q => ?_
  rintro ⟨P, al, M, env, R, rs, hw, L⟩
  refine lc_imp (fin := fun acc M R => R (.lst acc) M) bn (fun P al M σ H p acc vs R Q H0 P0 al0 rs e hp np na hb hv ra hr hq => ?_) rs hw L
  have sm : Same P (upd P p (.lst vs)) := fun b x h => by rw [upd_ne (ne_of_none h np)]; exact h
  refine hq _ _ _ _ (e.pub hp np (.lst vs)) ⟨rs.toRS0.pub np na hb hv, rs.slen, fun j d h => ?_⟩ (.lst upd_same (ra.mono sm (List.prefix_refl _))) hr
  obtain ⟨v, h1, h2⟩ := rs.slot j d h
  exact ⟨v, h1, h2.mono sm (List.prefix_refl _)⟩
end
end L3

namespace L3
open PySem PySem.Spec PyProof.Rows L2
/-! ### calls of the text's defs -/
abbrev RXt := Str → List (Str × D) → Mt → Prop
abbrev RX0 : RXt := fun _ _ _ => False
abbrev DSp := List D → Mt → (D → Mt → Prop) → RXt → Prop
/-- an exception's own dict -/
def XdOk (K : PySem.W.Frag) (P : Hp) (al : List Addr) (H : Hp) (fs : List (Str × D)) (dd : Option Addr) : Prop :=
  (dd = none ∧ fs = []) ∨ ∃ d gs, dd = some d ∧ d ∉ al ∧ H d = some (.xd gs) ∧ RepFs K P al fs gs
def toSp (K : PySem.W.Frag) (sp : DSp) : Sp := fun vs H Q E => ∃ P al M ds R, ∃ RX : RXt, RS0 K (P, al, H) P al M H ∧ Reps K P al ds vs ∧ sp ds M R RX ∧
  (∀ d M' v H' P' al', Ext P al H P' al' H' → RS0 K (P, al, H) P' al' M' H' → Rep K P' al' d v → R d M' → Q v H') ∧
  (∀ C n fs M' H' P' al' dd, Ext P al H P' al' H' → RS0 K (P, al, H) P' al' M' H' → ClsAt K n C → XdOk K P' al' H' fs dd → RX n fs M' → E (.ref C) dd H')
section
variable {K : PySem.W.Frag} {B B' : Bs} {P P' : Hp} {al al' : List Addr} {M M' : Mt} {env : Ev} {σ : L2.St} {H H' : Hp}
theorem RS0.rebase (r : RS0 K B P al M H) (e : Ext B'.1 B'.2.1 B'.2.2 P al H) : RS0 K B' P al M H := ⟨e, r.same, r.len, r.cell, r.inj, r.trk⟩
theorem RS0.here (r : RS0 K B P al M H) : RS0 K (P, al, H) P al M H := r.rebase Ext.refl
end
section
variable {X : Cx} {B : Bs} {CX : CXT} {k : Nat} {f : Addr} {fd : FuncData} {ps : List Str} {sp : DSp} {dvs : List V} {dds : List D} {ds : List Value} {x : Str} {p pos : Pos} {e : Expr} {es : List Expr} {was : WA}
def wCall (sp : DSp) (dds : List D) (RX : RXt) (was : WA) : WE := fun env M R => was env M fun ds M1 => sp (ds ++ dds) M1 R RX
theorem call_imp {K : PySem.W.Frag} (hdd : ∀ P al, Reps K P al dds dvs) (σ : L2.St) (H : Hp) (Q : VK) : tD K B (wCall sp dds RX0 was) σ H Q → tCall (toSp K sp) dvs E0 (tDA K B was) σ H Q := by
  rintro ⟨P, al, M, env, R, rs, hw, L⟩
  refine ⟨P, al, M, env, _, rs, hw, fun ds M1 vs H1 P1 al1 e1 rs1 r1 q => ?_⟩
  exact ⟨P1, al1, M1, _, R, RX0, rs1.toRS0.here, r1.append (hdd _ _), q, fun d M' v H' P' al' e r0 r hq => L _ _ _ _ _ _ (e1.trans e) (rs1.step e (r0.rebase (rs1.base.trans e))) r hq, fun _ _ _ _ _ _ _ _ _ _ _ _ z => z.elim⟩
theorem d_call (F : FnOk X.prog X.w X.K X.mg X.base CX0 k f fd ps (toSp X.K sp)) (hr : Room k X.A) (hg : Gl X x) (hm : X.mg x = some (.ref f)) (hk : PySem.W.keepIn X.K (.ref f) = true) (hb : Binds X.K fd ps ds) (hd : Vals dvs ds) (hdd : ∀ P al, Reps X.K P al dds dvs) (ha : DA B X (e :: es) was)
    (hdb : (x == ("__debug__" : Str)) = false := by decide) (he : starEach (e :: es) X.env = (false, eval e X.env) :: starEach es X.env := by rfl) (hpl : (backTo pos (starEach es X.env)).any (·.1) = false := by rfl) : DE B X (.Call (.Name x p) (e :: es) [] pos) (wCall sp dds RX0 was) :=
  (pe_call F hr hg hm hk hb hd pass0 ha hdb he hpl).imp (call_imp hdd)
end
/-! ### the end of a def -/
mutual
def noCel (n : Nat) : D → Bool
  | .tup l => noCels n l
  | .ptp l => noCels n l
  | .lst l => noCels n l
  | .rol l => noCels n l
  | .dct l => noCelK n l
  | .fdc l => noCelK n l
  | .obj _ l => noCelF n l
  | .cel i => decide (i < n)
  | _ => true
def noCels (n : Nat) : List D → Bool
  | [] => true
  | d :: r => noCel n d && noCels n r
def noCelK (n : Nat) : List (Key × D) → Bool
  | [] => true
  | (_, d) :: r => noCel n d && noCelK n r
def noCelF (n : Nat) : List (Str × D) → Bool
  | [] => true
  | (_, d) :: r => noCel n d && noCelF n r
end
section
variable {K : PySem.W.Frag} {B : Bs} {P : Hp} {al al' : List Addr} {M : Mt} {H : Hp}
theorem and_l {a b : Bool} (h : (a && b) = true) : a = true := (Bool.and_eq_true_iff.mp h).1
theorem and_r {a b : Bool} (h : (a && b) = true) : b = true := (Bool.and_eq_true_iff.mp h).2
mutual
theorem Rep.cut (h : al <+: al') : ∀ {d : D} {v : V}, Rep K P al' d v → noCel al.length d = true → Rep K P al d v
  | _, _, .non, _ => .non
  | _, _, .bl b, _ => .bl b
  | _, _, .int i, _ => .int i
  | _, _, .str x, _ => .str x
  | _, _, .ty n, _ => .ty n
  | _, _, .adr a, _ => .adr a
  | _, _, .tup q r, e => .tup q (Reps.cutA h r (by simpa [noCel] using e))
  | _, _, .ptp q r, e => .ptp q (Reps.cutA h r (by simpa [noCel] using e))
  | _, _, .lst q r, e => .lst q (Reps.cutA h r (by simpa [noCel] using e))
  | _, _, .rol q r, e => .rol q (Reps.cutA h r (by simpa [noCel] using e))
  | _, _, .dct q r, e => .dct q (RepKs.cutA h r (by simpa [noCel] using e))
  | _, _, .fdc q r, e => .fdc q (RepKs.cutA h r (by simpa [noCel] using e))
  | _, _, .obj q c r, e => .obj q c (RepFs.cutA h r (by simpa [noCel] using e))
  | _, _, .cls c, _ => .cls c
  | _, _, .cel q, e => .cel (by
    have hi : _ < al.length := of_decide_eq_true (by simpa [noCel] using e)
    obtain ⟨t, rfl⟩ := h
    rw [List.getElem?_append_left hi] at q; exact q)
theorem Reps.cutA (h : al <+: al') : ∀ {ds : List D} {vs : List V}, Reps K P al' ds vs → noCels al.length ds = true → Reps K P al ds vs
  | _, _, .nil, _ => .nil
  | _, _, .cons r t, e => .cons (Rep.cut h r (and_l (by simpa only [noCels] using e))) (Reps.cutA h t (and_r (by simpa only [noCels] using e)))
theorem RepKs.cutA (h : al <+: al') : ∀ {ds : List (Key × D)} {vs : List (Key × V)}, RepKs K P al' ds vs → noCelK al.length ds = true → RepKs K P al ds vs
  | _, _, .nil, _ => .nil
  | _, _, .cons r t, e => .cons (Rep.cut h r (and_l (by simpa only [noCelK] using e))) (RepKs.cutA h t (and_r (by simpa only [noCelK] using e)))
theorem RepFs.cutA (h : al <+: al') : ∀ {ds : List (Str × D)} {vs : List (Str × V)}, RepFs K P al' ds vs → noCelF al.length ds = true → RepFs K P al ds vs
  | _, _, .nil, _ => .nil
  | _, _, .cons r t, e => .cons (Rep.cut h r (and_l (by simpa only [noCelF] using e))) (RepFs.cutA h t (and_r (by simpa only [noCelF] using e)))
end
def exOk (n : Nat) : List D → Bool
  | [.obj _ fs] => noCelF n fs
  | _ => true
/-- what an object of the table may hold, when the later places are dropped -/
def cellOk (n : Nat) : D → Bool
  | .lst l => noCels n l
  | .dct l => noCelK n l
  | .obj _ l => noCelF n l
  | .ptp l => exOk n l
  | _ => true
theorem ExCell.cut {l : List D} {a : Addr} (h : al <+: al') (c : ExCell K P al' l a) (k : exOk al.length l = true) : ExCell K P al l a := by
  unfold ExCell at c ⊢
  split at c
  · obtain ⟨C, d, oe, h1, h2, h3, h4, h5⟩ := c
    refine ⟨C, d, oe, h1, h2, h3, h4, ?_⟩
    rcases h5 with h5 | ⟨dd, gs, g1, g2, g3⟩
    · exact .inl h5
    · exact .inr ⟨dd, gs, g1, g2, g3.cutA h k⟩
  · trivial
theorem RS0.drop {P0 H0 : Hp} (r : RS0 K (P0, al, H0) P al' M H) (hc : ∀ (i : Nat) (m : D), i < al.length → M[i]? = some m → cellOk al.length m = true) : RS0 K (P0, al, H0) P al (M.take al.length) H := by
  have pre : al <+: al' := r.base.pre
  have hl : al.length ≤ M.length := by rw [← r.len]; exact pre.length_le
  refine ⟨⟨r.base.pp, List.prefix_refl _, r.base.fr, fun b m n => absurd m n, r.base.pn⟩, r.same, by simp; omega, fun i a m h1 h2 => ?_, fun i j a m n h1 h2 h3 h4 => r.inj i j a m n (pre_get pre h1) (pre_get pre h2) ?_ ?_, fun a h => r.trk a (pre.subset h)⟩
  · have hi := (List.getElem?_eq_some_iff.mp h1).1
    rw [List.getElem?_take_of_lt hi] at h2
    have c := r.cell i a m (pre_get pre h1) h2
    have k := hc i m hi h2
    cases m <;> first | trivial | skip
    · exact ExCell.cut pre c k
    · obtain ⟨q1, xs, q2, q3⟩ := c; exact ⟨q1, xs, q2, q3.cutA pre k⟩
    · obtain ⟨q1, xs, q2, q3⟩ := c; exact ⟨q1, xs, q2, q3.cutA pre k⟩
    · obtain ⟨q1, C, dx, xs, q2, hc, q3⟩ := c; exact ⟨q1, C, dx, xs, q2, hc, q3.cutA pre k⟩
  · rw [List.getElem?_take_of_lt (List.getElem?_eq_some_iff.mp h1).1] at h3; exact h3
  · rw [List.getElem?_take_of_lt (List.getElem?_eq_some_iff.mp h2).1] at h4; exact h4
end
/-- a def's end: the objects that it made and did not hand back are dropped -/
inductive retF (n : Nat) (R : D → Mt → Prop) (d : D) (M : Mt) : Prop where
  | keep : R d M → retF n R d M
  | less : noCel n d = true → (M.take n).all (cellOk n) = true → R d (M.take n) → retF n R d M
def startE (n : Nat) (ds : List D) : Ev := ds.map some ++ List.replicate (n - ds.length) none
def fnEnds (n : Nat) (R : D → Mt → Prop) : DEnds := ⟨fun _ M => retF n R .non M, retF n R, fun _ _ => False, fun _ _ => False⟩
section
variable {P : Program} {w : World} {K : PySem.W.Frag} {mg : Str → Option Value} {base : Heap}
theorem start_slots {Pp : Hp} {al : List Addr} {ds : List D} {vs : List V} {N : List Str} (r : Reps K Pp al ds vs) : (startE N.length ds).length = (L2.start N vs).length ∧ ∀ (j : Nat) (d : D), (startE N.length ds)[j]? = some (some d) → ∃ v, (L2.start N vs)[j]? = some (some v) ∧ Rep K Pp al d v := by
  have hl := r.length
  refine ⟨by simp [startE, L2.start, hl], fun j d h => ?_⟩
  unfold startE at h
  unfold L2.start
  by_cases hj : j < ds.length
  · rw [List.getElem?_append_left (by simpa using hj), List.getElem?_map] at h
    cases hd : ds[j]? with
    | none => rw [hd] at h; cases h
    | some d' =>
      rw [hd] at h; cases h
      obtain ⟨v, h1, h2⟩ := r.get hd
      exact ⟨v, by rw [List.getElem?_append_left (by simp; omega), List.getElem?_map, h1]; rfl, h2⟩
  · rw [List.getElem?_append_right (by simp; omega)] at h
    have := List.mem_of_getElem? h
    simp at this
theorem dfn {x qual : Str} {st : Stmt} {f : Addr} {fd : FuncData} {N ps : List Str} {k : Nat} {sp : DSp} (F : Fun K x qual st f fd) (S : FnScope N ps (defScope st)) (len : ∀ ds M R RX, sp ds M R RX → ds.length = ps.length)
    (body : ∀ (B : Bs) (cdv : Value) (A : Around) (outer : List Env) (s : Shared) (H : Hp) (E : XK), Room k (A.deeper (envOfC qual (defScope st) s.heap.objs.size f cdv)) →
      ∃ wb : WS, DSs B (cxOf CX0 P w K mg base N qual (defScope st) f cdv A outer s H E).nox (defBody st) wb ∧ ∀ ds M R RX, sp ds M R RX → wb (fnEnds M.length R) (startE N.length ds) M) :
    FnOk P w K mg base CX0 (k + 1) f fd ps (toSp K sp) := by
  refine F.ok S (fun vs H Q E h => ?_) (fun cdv A outer s H vs Q E hr h => ?_)
  · obtain ⟨P, al, M, ds, R, RX, _, r, hs, _⟩ := h
    rw [← r.length]; exact len _ _ _ _ hs
  · obtain ⟨Pp, al, M, ds, R, RX, r0, r, hs, L, _⟩ := h
    obtain ⟨wb, hb, hw⟩ := body (Pp, al, H) cdv A outer s H E hr
    have el := r0.len
    have fin : ∀ d M' v H' P' al', Ext Pp al H P' al' H' → RS0 K (Pp, al, H) P' al' M' H' → Rep K P' al' d v → retF M.length R d M' → Q v H' := fun d M' v H' P' al' e r' rd q => by
      cases q with
      | keep q => exact L d M' v H' P' al' e r' rd q
      | less q1 q2 q3 =>
        rw [← el] at q1 q2 q3
        refine L d _ v H' P' al ⟨e.pp, List.prefix_refl _, e.fr, fun b m n => absurd m n, e.pn⟩ (r'.drop fun i m hi hm => ?_) (rd.cut e.pre q1) q3
        exact List.all_eq_true.mp q2 m (List.mem_of_getElem? (by rw [List.getElem?_take_of_lt hi]; exact hm))
    obtain ⟨s1, s2⟩ := start_slots (N := N) r
    exact ⟨_, hb, Pp, al, M, _, _, ⟨r0, s1, s2⟩, hw ds M R RX hs, ⟨fun env' M' σ' H' P' al' e rs q => fin _ _ _ _ _ _ e rs.toRS0 .non q, fun d M' v H' P' al' e rs rd q => fin _ _ _ _ _ _ e rs rd q, fun _ _ _ _ _ _ _ _ z => z.elim, fun _ _ _ _ _ _ _ _ z => z.elim⟩⟩
end

/-! ### built-in functions -/
section
variable {X : Cx} {B : Bs} {K : PySem.W.Frag}
@[irreducible] def cLen : WCl := fun ds M R => match ds with
  | [x] => match viewD M x with
    | .str s => Need (s.length ≤ sizeLine) ∧ R (.int s.length) M
    | .dct l => R (.int l.length) M
    | .fdc l => R (.int l.length) M
    | x' => match seqD x' with
      | some l => R (.int l.length) M
      | none => False
  | _ => False
def rLenU (K : PySem.W.Frag) : List V → Hp → VK → Prop := fun xs H Q => (∃ x n, xs = [x] ∧ LenV K x H n ∧ Q (.int n) H) ∨ ∃ a kvs, xs = [V.ref a] ∧ Rd H a (.dK kvs) ∧ Q (.int kvs.length) H
theorem call_lenR : CallR X (.builtin "len") (fun xs H Q => ∃ a kvs, xs = [V.ref a] ∧ Rd H a (.dK kvs) ∧ Q (.int kvs.length) H) := by
  intro pins s σ H xs us Q I r h
  obtain ⟨a, kvs, rfl, ha, q⟩ := h
  obtain ⟨u, rfl, ru⟩ := vals1 r
  cases ru
  exact d_len I ha fun t s' I' => ⟨.int kvs.length, H, I', ⟨t, rfl⟩, q⟩
theorem callLen : CallR X (.builtin "len") (rLenU X.K) := call_len.or call_lenR
theorem cLen_ok : CallD K B (rLenU K) cLen := by
  intro P al M env σ H vs ds R Q rs r h L
  unfold cLen at h
  split at h
  · rename_i x
    cases r with
    | cons r1 t =>
      cases t
      split at h
      · rename_i s e; cases view_str r1 e; exact .inl ⟨_, _, rfl, ⟨h.1.out, rfl⟩, L.here rs (.int _) h.2⟩
      · rename_i l e
        obtain ⟨a, xs, rfl, h1, q1⟩ := view_dct rs.toRS0 r1 e
        exact .inr ⟨a, xs, rfl, .inl h1, by rw [q1.length] at h; exact L.here rs (.int _) h⟩
      · rename_i l e
        obtain ⟨a, xs, rfl, h1, q1⟩ := view_fdc rs.toRS0 r1 e
        exact .inr ⟨a, xs, rfl, h1, by rw [q1.length] at h; exact L.here rs (.int _) h⟩
      · split at h
        · rename_i l e
          obtain ⟨a, xs, rfl, h1, q1⟩ := view_seq rs.toRS0 r1 e
          rw [q1.length] at h
          refine .inl ⟨_, xs.length, rfl, ?_, L.here rs (.int _) h⟩
          rcases h1 with h1 | h1
          · exact .inl ⟨xs, h1, rfl⟩
          · exact .inr ⟨xs, h1, rfl⟩
        · exact h.elim
  · exact h.elim
def cInt : WCl := fun ds M R => match ds with
  | [.int i] => R (.int i) M
  | [.bl b] => R (.int (if b then 1 else 0)) M
  | _ => False
theorem cInt_ok : CallD K B (fun xs H Q => (∃ i, xs = [.int i] ∧ Q (.int i) H) ∨ ∃ k, xs = [.bl k] ∧ Q (.int (if k then 1 else 0)) H) cInt := by
  intro P al M env σ H vs ds R Q rs r h L
  unfold cInt at h
  split at h
  · cases r with | cons r1 t => cases t; cases r1; exact .inl ⟨_, rfl, L.here rs (.int _) h⟩
  · cases r with | cons r1 t => cases t; cases r1; exact .inr ⟨_, rfl, L.here rs (.int _) h⟩
  · exact h.elim
def absI (i : Int) : Int := if i < 0 then -i else i
def cAbs : WCl := fun ds M R => match ds with
  | [.int i] => R (.int (absI i)) M
  | _ => False
theorem cAbs_ok : CallD K B (fun xs H Q => ∃ i, xs = [.int i] ∧ Q (.int (if i < 0 then -i else i)) H) cAbs := by
  intro P al M env σ H vs ds R Q rs r h L
  unfold cAbs at h
  split at h
  · cases r with | cons r1 t => cases t; cases r1; exact ⟨_, rfl, L.here rs (.int _) h⟩
  · exact h.elim
/-- list(x), a new one -/
def cList (m : Bool) : WCl := fun ds M R => match ds with
  | [x] => match seqD (viewD M x) with
    | some l => if m then R (.cel M.length) (M ++ [.lst l]) else R (.lst l) M
    | none => False
  | _ => False
theorem cList_ok {m : Bool} : CallD K B (fun xs H Q => ∃ p ys, xs = [.ref p] ∧ (SqL K H p ys ∨ SqT K H p ys) ∧ ∀ l, H l = none → Q (.ref l) (upd H l (.lst ys))) (cList m) := by
  intro P al M env σ H vs ds R Q rs r h L
  unfold cList at h
  split at h
  · cases r with
    | cons r1 t =>
      cases t
      split at h
      · rename_i l e
        obtain ⟨a, xs, rfl, h1, q1⟩ := view_seq rs.toRS0 r1 e
        refine ⟨a, xs, rfl, h1, fun p hp => ?_⟩
        cases m with
        | true => exact L.allocM rs hp q1 h
        | false => exact L.alloc rs hp (.lst upd_same (q1.mono (same_new rs.toRS0 hp) (List.prefix_refl _))) h
      · exact h.elim
  · exact h.elim
def isBs : List String := ["NoneType", "bool", "int", "str", "tuple", "list", "dict"]
end
end L3

namespace L3
open PySem PySem.Spec PyProof.Rows L2
/-! ### dicts -/
section
variable {κ : Type} [DecidableEq κ]
def valD (kvs : List (κ × D)) (k : κ) : Option D := (kvs.find? fun kv => decide (kv.1 = k)).map (·.2)
def putD (kvs : List (κ × D)) (k : κ) (v : D) : List (κ × D) :=
  if (kvs.any fun kv => decide (kv.1 = k)) = true then kvs.map (fun kv => if kv.1 = k then (kv.1, v) else kv) else kvs ++ [(k, v)]
def mergeD (kvs more : List (κ × D)) : List (κ × D) := more.foldl (fun acc kv => putD acc kv.1 kv.2) kvs
end
section
variable {K : PySem.W.Frag} {P : Hp} {al : List Addr}
theorem RepKs.val : ∀ {ks : List (Key × D)} {vs : List (Key × V)}, RepKs K P al ks vs → ∀ (k : Key), (∀ d, valD ks k = some d → ∃ v, valV vs k = some v ∧ Rep K P al d v) ∧ (valD ks k = none → valV vs k = none)
  | _, _, .nil, k => ⟨fun d h => by simp [valD] at h, fun _ => rfl⟩
  | _, _, .cons (k := j) (d := d) (v := v) (ds := ds) (vs := vs) r t, k => by
    have ih := t.val k
    by_cases h : j = k
    · subst h
      have e1 : valD ((j, d) :: ds) j = some d := by simp [valD]
      have e2 : valV ((j, v) :: vs) j = some v := valV_pos rfl
      refine ⟨fun d' h => ?_, fun h => ?_⟩
      · rw [e1] at h; cases h; exact ⟨v, e2, r⟩
      · rw [e1] at h; cases h
    · have e1 : valD ((j, d) :: ds) k = valD ds k := by simp [valD, List.find?_cons, h]
      have e2 : valV ((j, v) :: vs) k = valV vs k := valV_neg h
      rw [e1, e2]; exact ih
theorem RepKs.any : ∀ {ks : List (Key × D)} {vs : List (Key × V)}, RepKs K P al ks vs → ∀ (k : Key), (ks.any fun kv => decide (kv.1 = k)) = vs.any fun kv => decide (kv.1 = k)
  | _, _, .nil, k => rfl
  | _, _, .cons r t, k => by rw [List.any_cons, List.any_cons, t.any k]
theorem RepKs.repl {d : D} {v : V} (q : Rep K P al d v) (k : Key) : ∀ {ks : List (Key × D)} {vs : List (Key × V)}, RepKs K P al ks vs → RepKs K P al (ks.map fun kv => if kv.1 = k then (kv.1, d) else kv) (vs.map fun kv => if kv.1 = k then (kv.1, v) else kv)
  | _, _, .nil => .nil
  | _, _, .cons (k := j) r t => by
    rw [List.map_cons, List.map_cons]
    by_cases h : j = k
    · simp only [h, if_true]; exact .cons q (t.repl q k)
    · simp only [h, if_false]; exact .cons r (t.repl q k)
theorem RepKs.snoc {d : D} {v : V} (q : Rep K P al d v) (k : Key) : ∀ {ks : List (Key × D)} {vs : List (Key × V)}, RepKs K P al ks vs → RepKs K P al (ks ++ [(k, d)]) (vs ++ [(k, v)])
  | _, _, .nil => .cons q .nil
  | _, _, .cons r t => .cons r (t.snoc q k)
theorem RepKs.put {d : D} {v : V} {ks : List (Key × D)} {vs : List (Key × V)} (r : RepKs K P al ks vs) (q : Rep K P al d v) (k : Key) : RepKs K P al (putD ks k d) (putK vs k v) := by
  unfold putD putK
  rw [r.any k]
  by_cases h : (vs.any fun kv => decide (kv.1 = k)) = true
  · rw [if_pos h, if_pos h]; exact r.repl q k
  · rw [if_neg h, if_neg h]; exact r.snoc q k
theorem RepKs.merge : ∀ {more : List (Key × D)} {moreV : List (Key × V)} {ks : List (Key × D)} {vs : List (Key × V)}, RepKs K P al more moreV → RepKs K P al ks vs → RepKs K P al (mergeD ks more) (mergeK vs moreV)
  | _, _, _, _, .nil, r => r
  | _, _, ks, vs, .cons (k := k) (d := d) (v := v) (ds := ds) (vs := vs') q t, r => by
    have h := RepKs.merge t (r.put q k)
    exact h
end
def keyD : D → Option Key
  | .int i => some (.inl i)
  | .str s => some (.inr s)
  | _ => none
theorem key_rep {K : PySem.W.Frag} {P : Hp} {al : List Addr} {d : D} {v : V} {k : Key} (r : Rep K P al d v) (e : keyD d = some k) : v = kV k := by
  cases r <;> simp [keyD] at e <;> subst e <;> rfl
def keysD : List (D × D) → Option (List (Key × D))
  | [] => some []
  | (k, d) :: r => match keyD k, keysD r with
    | some k', some r' => some ((k', d) :: r')
    | _, _ => none
def wPairs : List (WE × WE) → Ev → Mt → (List (D × D) → Mt → Prop) → Prop
  | [], _, M, R => R [] M
  | (wk, wv) :: r, env, M, R => wk env M fun x M1 => wv env M1 fun y M2 => wPairs r env M2 fun ps M3 => R ((x, y) :: ps) M3
section
variable {X : Cx} {B : Bs} {K : PySem.W.Frag} {a b o i e value : Expr} {es : List Expr} {wa wb we wo wi wv : WE} {was : WA} {pos tpos pos' : Pos}
/-- {} -/
def wDict0 (m : Bool) : WE := fun env M R => if m then R (.cel M.length) (M ++ [.dct []]) else R (.dct []) M
theorem Lift.allocDM {P : Hp} {al : List Addr} {M : Mt} {env : Ev} {σ : L2.St} {H : Hp} {p : Addr} {R : D → Mt → Prop} {Q : VK} (L : Lift K B P al env σ H R Q) (rs : RS K B P al M env σ H) (hp : H p = none) {ds : List (Key × D)} {vs : List (Key × V)} (r : RepKs K P al ds vs)
    (q : R (.cel M.length) (M ++ [.dct ds])) : Q (.ref p) (upd H p (.dK vs)) := by
  obtain ⟨e, r0⟩ := rs.toRS0.allocM (m := .dct ds) (o := .dK vs) hp fun P' al' s h hn H' e => ⟨hn, vs, e, r.mono s h⟩
  refine L _ _ _ _ _ _ e (rs.step e r0) (.cel ?_) q
  rw [← rs.len, List.getElem?_append_right (Nat.le_refl _), Nat.sub_self]; rfl
theorem d_dict0 (m : Bool) : DE B X (.Dict [] [] pos) (wDict0 m) := by
  refine pe_dnewK.imp fun σ H Q => ?_
  rintro ⟨P, al, M, env, R, rs, hw, L⟩
  intro p hp
  cases m with
  | true => exact L.allocDM rs hp .nil hw
  | false => exact L.alloc rs hp (.dct upd_same .nil) hw
/-- the pairs of a display, while the new dict stands empty at p -/
theorem pairs_imp : ∀ (ws : List (WE × WE)) {P : Hp} {al : List Addr} {M : Mt} {env : Ev} {σ : L2.St} {H : Hp} {R : List (D × D) → Mt → Prop} {Q : List (V × V) → Hp → Prop}, RS K B P al M env σ H → wPairs ws env M R →
    (∀ ps M' vs H' P' al', Ext P al H P' al' H' → RS K B P' al' M' env σ H' → Paired (fun (x : D × D) (y : V × V) => Rep K P' al' x.1 y.1 ∧ Rep K P' al' x.2 y.2) ps vs → R ps M' → Q vs H') → tPairs (ws.map fun w => (tD K B w.1, tD K B w.2)) σ H Q
  | [], P, al, M, env, σ, H, R, Q, rs, hw, L => L _ _ _ _ _ _ Ext.refl rs .nil hw
  | (wk, wv) :: r, P, al, M, env, σ, H, R, Q, rs, hw, L => by
    refine ⟨P, al, M, env, _, rs, hw, fun d1 M1 v1 H1 P1 al1 e1 rs1 r1 hw1 => ⟨P1, al1, M1, env, _, rs1, hw1, fun d2 M2 v2 H2 P2 al2 e2 rs2 r2 hw2 => ?_⟩⟩
    exact pairs_imp r rs2 hw2 fun ps M3 vs H3 P3 al3 e3 rs3 r3 q =>
      L _ _ _ _ _ _ (e1.trans (e2.trans e3)) rs3 (.cons ⟨r1.mono (e2.trans e3).pp (e2.trans e3).pre, r2.mono e3.pp e3.pre⟩ r3) q
theorem keys_rep {P : Hp} {al : List Addr} : ∀ {ps : List (D × D)} {vs : List (V × V)} {ks : List (Key × D)}, Paired (fun (x : D × D) (y : V × V) => Rep K P al x.1 y.1 ∧ Rep K P al x.2 y.2) ps vs → keysD ps = some ks → ∃ kvs : List (Key × V), vs = kvs.map (fun kv => (kV kv.1, kv.2)) ∧ RepKs K P al ks kvs
  | _, _, _, .nil, e => by cases e; exact ⟨[], rfl, .nil⟩
  | _, _, _, .cons (a := (x, y)) (b := (v, u)) r t, e => by
    unfold keysD at e
    split at e
    · rename_i k ks h1 h2
      cases e
      obtain ⟨kvs, rfl, q⟩ := keys_rep t h2
      refine ⟨(k, u) :: kvs, ?_, .cons r.2 q⟩
      rw [List.map_cons]
      have := key_rep r.1 h1
      simp only at this
      rw [this]
    · cases e
def wDisp (ws : List (WE × WE)) : WE := fun env M R => wPairs ws env M fun ps M1 => match keysD ps with
  | some ks => Need (ks.length ≤ 15) ∧ R (.dct (mergeD [] ks)) M1
  | none => False
theorem RepKs.len {P : Hp} {al : List Addr} : ∀ {ds : List (Key × D)} {vs : List (Key × V)}, RepKs K P al ds vs → ds.length = vs.length
  | _, _, .nil => rfl
  | _, _, .cons _ t => by simp [RepKs.len t]
theorem d_disp {keys : List (Option Expr)} {values : List Expr} {ws : List (WE × WE)} (h : PPs X pos keys values (ws.map fun w => (tD X.K B w.1, tD X.K B w.2))) (hall : keys.all (·.isSome) = true) (hl : keys.length = values.length) (h0 : keys ≠ []) (h15 : keys.length ≤ 15) : DE B X (.Dict keys values pos) (wDisp ws) := by
  refine (pe_disp h hall hl h0 h15).imp fun σ H Q => ?_
  rintro ⟨P, al, M, env, R, rs, hw, L⟩
  intro p hp
  obtain ⟨hb, na⟩ := rs.toRS0.fresh hp
  have np := rs.toRS0.free hp
  have rs1 : RS X.K B P al M env σ (upd H p (.dK [])) := ⟨rs.toRS0.priv np na hb _, rs.slen, rs.slot⟩
  refine pairs_imp ws rs1 hw fun ps M2 vs H2 P2 al2 e2 rs2 r2 q => ?_
  have hp2 : H2 p = some (.dK []) := e2.fr _ _ upd_same na
  have na2 : p ∉ al2 := fun m => by have := e2.new _ m na; rw [upd_same] at this; cases this
  have np2 : P2 p = none := e2.pn _ _ upd_same ⟨fun _ u => (by cases u), fun _ u => (by cases u)⟩ np na
  split at q
  · rename_i ks hk
    obtain ⟨kvs, rfl, rk⟩ := keys_rep r2 hk
    refine ⟨hp2, kvs, rfl, by rw [← rk.len]; exact q.1.out, ?_⟩
    have e3 : Ext P al H P2 al2 H2 := ⟨e2.pp, e2.pre, fun b x h n => e2.fr b x (by rw [upd_ne (ne_of_none h hp)]; exact h) n, fun b m n => by
        have := e2.new b m n
        by_cases hz : b = p
        · rw [hz]; exact hp
        · rw [upd_ne hz] at this; exact this, fun b x h h1 h2 h3 => e2.pn b x (by rw [upd_ne (ne_of_none h hp)]; exact h) h1 h2 h3⟩
    have e4 := (e3.priv hp (.dK (mergeK [] kvs))).pub hp np2 (.dK (mergeK [] kvs))
    have r4 := (rs2.toRS0.priv np2 na2 hb (.dK (mergeK [] kvs))).pub np2 na2 hb upd_same
    have sm : Same P2 (upd P2 p (.dK (mergeK [] kvs))) := fun b x h => by rw [upd_ne (ne_of_none h np2)]; exact h
    exact L _ _ _ _ _ _ e4 (rs.step e4 r4) (.dct upd_same ((RepKs.merge rk .nil).mono sm (List.prefix_refl _))) q.2
  · exact q.elim
/-! ### methods of built-in types -/
def tyM (T : String) (d : D) : Prop := match d with
  | .str _ => T = "str"
  | .lst _ => T = "list"
  | .rol _ => T = "list"
  | .dct _ => T = "dict"
  | _ => False
abbrev WM := D → List D → Mt → (D → Mt → Prop) → Prop
def wBM (T : String) (m : WM) (wo : WE) (was : WA) : WE := fun env M R => wo env M fun x M1 => Need (tyM T (viewD M1 x)) ∧ was env M1 fun ds M2 => m x ds M2 R
def MethD (K : PySem.W.Frag) (B : Bs) (r : V → List V → Hp → VK → Prop) (m : WM) : Prop := ∀ P al M env σ H x dx vs ds R Q, RS K B P al M env σ H → Rep K P al dx x → Reps K P al ds vs → m dx ds M R → Lift K B P al env σ H R Q → r x vs H Q
theorem tyM_ok {P : Hp} {al : List Addr} {M : Mt} {H : Hp} {d : D} {v : V} {T : String} (rs : RS0 K B P al M H) (r : Rep K P al d v) (e : tyM T (viewD M d)) : tyV K T v H := by
  unfold tyM at e
  split at e
  · rename_i h; cases view_str r h; exact e
  · rename_i h; obtain ⟨a, xs, rfl, h1, _⟩ := view_lst rs r h; exact .inl ⟨e, xs, .inl (.inl h1)⟩
  · rename_i h; obtain ⟨a, xs, rfl, h1, _⟩ := view_rol rs r h; exact .inl ⟨e, xs, h1⟩
  · rename_i h; obtain ⟨a, xs, rfl, h1, _⟩ := view_dct rs r h; exact .inr (.inr (.inl ⟨e, .inl ⟨xs, h1⟩⟩))
  · exact e.elim
theorem bm_imp {r : V → List V → Hp → VK → Prop} {m : WM} {T : String} (h : MethD K B r m) (σ : L2.St) (H : Hp) (Q : VK) : tD K B (wBM T m wo was) σ H Q → tBM K T r (tD K B wo) (tDA K B was) σ H Q := by
  rintro ⟨P, al, M, env, R, rs, hw, L⟩
  exact ⟨P, al, M, env, _, rs, hw, fun d1 M1 v1 H1 P1 al1 e1 rs1 r1 hw1 => ⟨tyM_ok rs1.toRS0 r1 hw1.1.out, P1, al1, M1, env, _, rs1, hw1.2, fun ds M2 vs H2 P2 al2 e2 rs2 r2 q =>
    h _ _ _ _ _ _ _ _ _ _ _ _ rs2 (r1.mono e2.pp e2.pre) r2 q (L.after (e1.trans e2))⟩⟩
theorem d_bm {T id : String} {name : Str} {apos cpos : Pos} {r : V → List V → Hp → VK → Prop} {m : WM} (pa : PlainAttrs T) (slot : Slot T name id) (hty : typeOf (.builtin id) = pure (.type "method_descriptor")) (hm : MtR X id r) (h : MethD X.K B r m) (ho : DE B X o wo) (ha : DA B X (e :: es) was)
    (hbase : attributeBase o name X.env (eval o X.env) = eval o X.env := by rfl)
    (hfew : ((backTo cpos (starEach (e :: es) X.env)).all (fun x => !x.1) && (backToKw cpos (keywordEach [] X.env)).all (fun x => x.1.isSome)
      && decide ((e :: es).length + ([] : List Keyword).length + (if ([] : List Keyword).isEmpty then 0 else 1) < 30)) = true := by rfl)
    (hline : (apos.endLine == cpos.line) = true := by rfl) (hs : starEach (e :: es) X.env = (false, eval e X.env) :: starEach es X.env := by rfl) (hplain : (backTo cpos (starEach es X.env)).any (·.1) = false := by rfl) :
    DE B X (.Call (.Attribute o name apos) (e :: es) [] cpos) (wBM T m wo was) := (pe_bm pa slot hty hm ho ha hbase hfew hline hs hplain).imp (bm_imp h)
@[irreducible] def mAppend : WM := fun x ds M R => match x, ds with
  | .cel n, [d] => match M[n]? with
    | some (.lst l) => Need (l.length < sizeLine) ∧ R .non (M.set n (.lst (l ++ [d])))
    | _ => False
  | _, _ => False
theorem mAppend_ok : MethD K B rAppend mAppend := by
  intro P al M env σ H x dx vs ds R Q rs r1 r2 h L
  unfold mAppend at h
  split at h
  · rename_i n d
    cases r2 with
    | cons q1 t =>
      cases t
      split at h
      · rename_i l hm
        obtain ⟨a, rfl, ha, _, xs, g1, g2⟩ := cell_at rs.toRS0 hm r1
        obtain ⟨e4, r4⟩ := rs.toRS0.change (o' := .lst (xs ++ [_])) (m' := .lst (l ++ [d])) ha hm rfl fun H' hH => ⟨(live_cell rfl (rs.cell n a _ ha hm)).1, _, hH, g2.append (.cons q1 .nil)⟩
        exact ⟨a, xs, _, rfl, rfl, g1, by rw [← g2.length]; exact h.1.out, L _ _ _ _ _ _ e4 (rs.step e4 r4) .non h.2⟩
      · exact h.elim
  · exact h.elim
/-! ### names of the module -/
theorem d_ty {x : Str} {T : String} (hm : X.mg x = none) (hv : bootBuiltins x = some (.type T)) (hg : Gl X x := by rfl) (hn : x ≠ "__name__" := by decide) (hd : (x == ("__debug__" : Str)) = false := by decide) : DE B X (.Name x pos) (wC (.ty T)) := d_C (v := .ty T) (pe_bltn hg hm hv rfl hn hd) fun _ _ => .ty T
end
end L3

namespace L3
open PySem PySem.Spec PyProof.Rows L2
/-! ### plain facts for the ends of a step -/
theorem cdivw {i j : Int} (h : 0 < j) (h2 : j < 1073741824) : CDivW i j :=
  wide_div (b := 30) h (by omega) (by decide) (by decide)
theorem cpow {i j : Int} (h : 0 ≤ j) (h2 : j ≤ 1000000) (h3 : -18446744073709551616 < i) (h4 : i < 18446744073709551616) : CPow i j := ⟨h, h2, by omega⟩
theorem cmul_l {i j : Int} (h3 : -18446744073709551616 < i) (h4 : i < 18446744073709551616) : CMulU i j := .inl (.inl ⟨by omega, by omega⟩)
theorem cmul_r {i j : Int} (h3 : -18446744073709551616 < j) (h4 : j < 18446744073709551616) : CMulU i j := .inl (.inr ⟨by omega, by omega⟩)
theorem toPs_map {α : Type} {f : α → D} {g : α → PyData} (h : ∀ x, toP (f x) = some (g x)) : ∀ l : List α, toPs (l.map f) = some (l.map g)
  | [] => rfl
  | x :: r => by simp only [List.map_cons, toPs, h, toPs_map h r]
theorem canLay_map {α : Type} {g : α → PyData} : ∀ {l : List α}, (∀ x ∈ l, PyData.canLay0 (g x) = true) → PyData.canLayAll0 (l.map g) = true
  | [], _ => rfl
  | x :: r, h => by
    rw [List.map_cons]
    simp only [PyData.canLayAll0, h x List.mem_cons_self, canLay_map fun y hy => h y (List.mem_cons_of_mem _ hy), Bool.and_self]
theorem depth_map {α : Type} {g : α → PyData} {n : Nat} : ∀ {l : List α}, (∀ x ∈ l, PyData.depth (g x) ≤ n) → PyData.depthAll (l.map g) ≤ n
  | [], _ => Nat.zero_le _
  | x :: r, h => by
    rw [List.map_cons]
    simp only [PyData.depthAll]
    exact Nat.max_le.mpr ⟨h x List.mem_cons_self, depth_map fun y hy => h y (List.mem_cons_of_mem _ hy)⟩
theorem shaped_map {α : Type} {g : α → PyData} {l : List α} (h : ∀ x ∈ l, PyData.canLay0 (g x) = true) (h2 : ∀ x ∈ l, PyData.depth (g x) ≤ 63) : SeqAt.shaped (.list (l.map g)) = true := by
  unfold SeqAt.shaped
  simp only [PyData.canLay0, canLay_map h, PyData.depth, Bool.true_and]
  have := depth_map h2
  exact decide_eq_true (by omega)
theorem plain_ints (l : List Int) : plainOk (l.map D.int) := ⟨_, toPs_map (g := .int) (fun _ => rfl) l, shaped_map (fun _ _ => rfl) fun _ _ => Nat.zero_le _⟩
theorem line16 : (sizeLine : Nat) = 16777216 := sizeLine_eq
theorem atI_in {α : Type} {xs : List α} {i : Int} (h : 0 ≤ i) (h2 : i < xs.length) : L2.atI xs i = xs[i.toNat]? := by
  have e : ixN xs.length i = some i.toNat := by unfold ixN; rw [if_pos h, if_pos h2]
  unfold L2.atI; rw [e]; rfl
/-! ### loops and comprehensions by what they do -/
theorem bnd_mono {is : List Nat} {d : D} {env : Ev} {k k' : Ev → Prop} (h : ∀ e, k e → k' e) (q : bnd is d env k) : bnd is d env k' := by
  rcases is with _ | ⟨i, _ | ⟨j, _ | ⟨l, r⟩⟩⟩
  · exact False.elim q
  · exact h _ q
  · cases d with
    | tup l =>
      rcases l with _ | ⟨x, _ | ⟨y, _ | ⟨z, r⟩⟩⟩
      · exact False.elim q
      · exact False.elim q
      · exact h _ q
      · exact False.elim q
    | _ => exact False.elim q
  · exact False.elim q
/-- a comprehension whose element and test are functions of the item -/
theorem lcL_fun {is vs : List Nat} {t : WTs} {we : WE} {env : Ev} {M : Mt} (p : D → Bool) (f : D → D) : ∀ (ds acc : List D) (R : List D → Mt → Prop), acc.length + ds.length ≤ sizeLine →
    (∀ d ∈ ds, ∀ (A : D → Mt → Prop) (C : Mt → Prop), (p d = true → A (f d) M) → (p d = false → C M) → bnd is d (wipeE env vs) fun env1 => t env1 M fun b M2 => ifB b (we env1 M2 A) (C M2)) →
    R (acc ++ (ds.filter p).map f) M → lcL is t we vs env ds acc M R
  | [], acc, R, _, _, h => by
    show R acc M
    simpa using h
  | d :: r, acc, R, hl, hs, h => by
    refine hs d List.mem_cons_self _ _ (fun hp => ⟨⟨by simp at hl; omega⟩, ?_⟩) fun hp => ?_
    · refine lcL_fun p f r (acc ++ [f d]) R (by simp at hl ⊢; omega) (fun x hx => hs x (List.mem_cons_of_mem _ hx)) ?_
      rw [List.filter_cons_of_pos hp, List.map_cons] at h
      simpa using h
    · refine lcL_fun p f r acc R (by simp at hl ⊢; omega) (fun x hx => hs x (List.mem_cons_of_mem _ hx)) ?_
      rw [List.filter_cons_of_neg (by simp [hp])] at h
      exact h
/-- without a test -/
theorem lcL_map {is vs : List Nat} {we : WE} {env : Ev} {M : Mt} (f : D → D) (ds : List D) (R : List D → Mt → Prop) (hl : ds.length ≤ sizeLine)
    (hs : ∀ d ∈ ds, ∀ (A : D → Mt → Prop), A (f d) M → bnd is d (wipeE env vs) fun env1 => we env1 M A) (h : R (ds.map f) M) : lcL is wYes we vs env ds [] M R := by
  refine lcL_fun (fun _ => true) f ds [] R (by simpa using hl) (fun d hd A C hA _ => ?_) (by rw [List.filter_eq_self.mpr fun _ _ => rfl]; exact h)
  exact bnd_mono (fun e q => ⟨fun _ => q, fun z => by cases z⟩) (hs d hd A (hA rfl))
/-- a for loop by an invariant over the turn -/
theorem forL_inv {g : WG} {b : WS} {k : DEnds} (I : Nat → Ev → Mt → Prop) {ds : List D} {env : Ev} {M : Mt} (h0 : I 0 env M)
    (hs : ∀ (i : Nat) (d : D) (env : Ev) (M : Mt), ds[i]? = some d → I i env M → g d env M fun env1 M1 => b { nx := I (i + 1), ct := I (i + 1), bk := k.nx, rt := k.rt } env1 M1)
    (hd : ∀ env M, I ds.length env M → k.nx env M) : forL g b k ds env M := by
  have key : ∀ (n i : Nat), i + n = ds.length → ∀ env M, I i env M → forL g b k (ds.drop i) env M := by
    intro n
    induction n with
    | zero =>
      intro i hi env M h
      rw [List.drop_eq_nil_of_le (by omega)]
      have : i = ds.length := by omega
      subst this
      exact hd _ _ h
    | succ n ih =>
      intro i hi env M h
      have hlt : i < ds.length := by omega
      rw [List.drop_eq_getElem_cons hlt]
      exact ⟨I (i + 1), fun env' M' h' => ih (i + 1) (by omega) env' M' h', hs i _ env M (List.getElem?_eq_getElem hlt) h⟩
  have := key ds.length 0 (by omega) env M h0
  simpa using this
/-- the law's call: the script is a list that is read alone -/
theorem law_sp {K : PySem.W.Frag} {H : Hp} {a : Addr} {ns : List Int} {sp : DSp} {E : XK} (hsp : ∀ ns : List Int, ns.length ≤ 63 → ∀ R RX, (∀ M, R (.bl true) M) → sp [.rol (ns.map D.int)] [] R RX) (hl : ns.length ≤ 63) (hS : SqL K H a (ns.map V.int)) :
    toSp K sp [.ref a] H (fun v _ => v = .bl true) E := by
  have hr : ∀ l : List Int, Reps K H [] (l.map D.int) (l.map V.int) := fun l => by
    induction l with
    | nil => exact .nil
    | cons x r ih => exact .cons (.int x) ih
  refine ⟨H, [], [], _, fun d _ => d = .bl true, RX0, ⟨Ext.refl, Same.refl _, rfl, fun i a m h => by simp at h, fun i j a m n h => by simp at h, fun a h => by cases h⟩, .cons (.rol hS (hr ns)) .nil, hsp ns hl _ _ fun _ => rfl, fun d M' v H' P' al' e r0 r hd => ?_, fun _ _ _ _ _ _ _ _ _ _ _ _ z => z.elim⟩
  subst hd; cases r; rfl
end L3

namespace L3
open PySem PySem.Spec PyProof.Rows L2
/-! ### fields -/
section
variable {K : PySem.W.Frag} {B B' : Bs} {P P' : Hp} {al al' : List Addr} {M M' : Mt} {env : Ev} {σ : L2.St} {H H' : Hp} {a p : Addr} {d : D} {v : V} {f : Str}
theorem RepFs.length : ∀ {fs : List (Str × D)} {gs : List (Str × V)}, RepFs K P al fs gs → fs.length = gs.length
  | _, _, .nil => rfl
  | _, _, .cons _ t => by simp [RepFs.length t]
theorem RepFs.find : ∀ {fs : List (Str × D)} {gs : List (Str × V)}, RepFs K P al fs gs → fs.lookup f = some d → ∃ v, gs.lookup f = some v ∧ Rep K P al d v
  | _, _, .nil, e => by cases e
  | _, _, .cons (k := k) r t, e => by
    by_cases h : (f == k) = true
    · rw [List.lookup, h] at e; cases e
      exact ⟨_, by rw [List.lookup, h], r⟩
    · have h : (f == k) = false := by simpa using h
      rw [List.lookup, h] at e
      obtain ⟨v, h1, h2⟩ := RepFs.find t e
      exact ⟨v, by rw [List.lookup, h]; exact h1, h2⟩
def putFD (f : Str) (d : D) : List (Str × D) → List (Str × D)
  | [] => [(f, d)]
  | (g, x) :: r => if g = f then (g, d) :: r else (g, x) :: putFD f d r
theorem RepFs.put (q : Rep K P al d v) : ∀ {fs : List (Str × D)} {gs : List (Str × V)}, RepFs K P al fs gs → RepFs K P al (putFD f d fs) (putF f v gs)
  | _, _, .nil => .cons q .nil
  | _, _, .cons (k := k) r t => by
    unfold putFD putF
    by_cases h : k = f
    · rw [if_pos h, if_pos h]; exact .cons q t
    · rw [if_neg h, if_neg h]; exact .cons r (RepFs.put q t)
end
section
variable {X : Cx} {B : Bs} {e o value : Expr} {w wo wv : WE} {pos pos' : Pos} {n f : Str} {C : Addr}
end
/-! ### what may be raised -/
abbrev RXe := Str → List (Str × D) → Ev → Mt → Prop
/-- the wish of an exception, over data -/
def WL (K : PySem.W.Frag) (B : Bs) (RX : RXe) : WX := fun cls d σ H => ∃ C n fs env P al M, cls = .ref C ∧ ClsAt K n C ∧ RS K B P al M env σ H ∧ XdOk K P al H fs d ∧ RX n fs env M
/-- calls of defs: with what may be raised -/
def wCallX (sp : DSp) (dds : List D) (RX : RXe) (was : WA) : WE := fun env M R => was env M fun ds M1 => sp (ds ++ dds) M1 R fun n fs M' => RX n fs env M'
section
variable {X : Cx} {B : Bs} {k : Nat} {f : Addr} {fd : FuncData} {ps : List Str} {sp : DSp} {dvs : List V} {dds : List D} {ds : List Value} {x : Str} {p pos apos : Pos} {e o : Expr} {es : List Expr} {was : WA} {wo : WE} {RX : RXe}
/-- a callee's promise, asked at a state -/
theorem sp_at {K : PySem.W.Frag} {P : Hp} {al : List Addr} {M : Mt} {env : Ev} {σ : L2.St} {H : Hp} {R : D → Mt → Prop} {Q : VK} {ds : List D} {vs : List V} (rs : RS K B P al M env σ H) (r : Reps K P al ds vs) (L : Lift K B P al env σ H R Q)
    (h : sp ds M R fun n fs M' => RX n fs env M') : toSp K sp vs H Q (L2.WE (WL K B RX) σ) :=
  ⟨P, al, M, ds, R, _, rs.toRS0.here, r, h, fun d M' v H' P' al' e r0 r q => L _ _ _ _ _ _ e (rs.step e (r0.rebase (rs.base.trans e))) r q,
    fun C n fs M' H' P' al' dd e r0 c xd q => ⟨C, n, fs, env, P', al', M', rfl, c, rs.step e (r0.rebase (rs.base.trans e)), xd, q⟩⟩
end
/-! ### no reference beyond the table -/
section
variable {K : PySem.W.Frag} {P : Hp} {al : List Addr}
mutual
theorem Rep.inside : ∀ {d : D} {v : V}, Rep K P al d v → noCel al.length d = true
  | _, _, .non => rfl
  | _, _, .bl _ => rfl
  | _, _, .int _ => rfl
  | _, _, .str _ => rfl
  | _, _, .ty _ => rfl
  | _, _, .adr _ => rfl
  | _, _, .cls _ => rfl
  | _, _, .tup _ r => by unfold noCel; exact Reps.inside r
  | _, _, .ptp _ r => by unfold noCel; exact Reps.inside r
  | _, _, .lst _ r => by unfold noCel; exact Reps.inside r
  | _, _, .rol _ r => by unfold noCel; exact Reps.inside r
  | _, _, .dct _ r => by unfold noCel; exact RepKs.inside r
  | _, _, .fdc _ r => by unfold noCel; exact RepKs.inside r
  | _, _, .obj _ _ r => by unfold noCel; exact RepFs.inside r
  | _, _, .cel e => by unfold noCel; exact decide_eq_true (List.getElem?_eq_some_iff.mp e).1
theorem Reps.inside : ∀ {ds : List D} {vs : List V}, Reps K P al ds vs → noCels al.length ds = true
  | _, _, .nil => rfl
  | _, _, .cons r t => by unfold noCels; rw [Rep.inside r, Reps.inside t] <;> rfl
theorem RepKs.inside : ∀ {ds : List (Key × D)} {vs : List (Key × V)}, RepKs K P al ds vs → noCelK al.length ds = true
  | _, _, .nil => rfl
  | _, _, .cons r t => by unfold noCelK; rw [Rep.inside r, RepKs.inside t] <;> rfl
theorem RepFs.inside : ∀ {ds : List (Str × D)} {vs : List (Str × V)}, RepFs K P al ds vs → noCelF al.length ds = true
  | _, _, .nil => rfl
  | _, _, .cons r t => by unfold noCelF; rw [Rep.inside r, RepFs.inside t] <;> rfl
end
theorem RS0.inside {B : Bs} {M : Mt} {H : Hp} (r : RS0 K B P al M H) : M.all (cellOk M.length) = true := by
  refine List.all_eq_true.mpr fun m hm => ?_
  obtain ⟨i, hi, e⟩ := List.mem_iff_getElem.mp hm
  have e' : M[i]? = some m := by rw [List.getElem?_eq_getElem hi, e]
  have ha : ∃ a, al[i]? = some a := ⟨_, List.getElem?_eq_getElem (by rw [r.len]; exact hi)⟩
  obtain ⟨a, ha⟩ := ha
  have c := r.cell i a m ha e'
  rw [← r.len]
  cases m <;> first | rfl | skip
  · rename_i l
    have c : ExCell K P al l a := c
    show exOk al.length l = true
    unfold ExCell at c
    unfold exOk
    split
    · obtain ⟨_, _, _, _, _, _, _, h5⟩ := c
      rcases h5 with ⟨_, rfl⟩ | ⟨_, _, _, _, g3⟩
      · rfl
      · exact g3.inside
    · rfl
  · obtain ⟨_, _, _, h⟩ := c; exact h.inside
  · obtain ⟨_, _, _, h⟩ := c; exact h.inside
  · obtain ⟨_, _, _, _, _, _, h⟩ := c; exact h.inside
end
/-! ### making, methods -/
/-- how a callee's exceptions pass -/
def Rz (X : Cx) (B : Bs) (CX : CXT) (RX : RXe) : Prop := ∀ σ, PassesAt CX X σ (L2.WE (WL X.K B RX) σ)
theorem rzX {X : Cx} {B : Bs} {RX : RXe} (tk : Takes X (WL X.K B RX)) : Rz X B (L2.CX X.prog X.w) RX := passAt tk
section
variable {X : Cx} {CX : CXT} {k : Nat} {f C : Addr} {E : XK} {x m : Str} {p pos apos : Pos} {e o : Expr} {es : List Expr}
end
section
variable {X : Cx} {B : Bs} {CX : CXT} {k : Nat} {f C : Addr} {sp : DSp} {n x m : Str} {p pos apos : Pos} {e o : Expr} {es : List Expr} {was : WA} {wo : WE} {RX : RXe}
end
end L3

namespace L3
open PySem PySem.Spec PyProof.Rows L2
/-! ### defs that may raise -/
section
variable {K : PySem.W.Frag} {B : Bs} {P P' : Hp} {al al' : List Addr} {M : Mt} {H H' : Hp} {fs : List (Str × D)} {dd : Option Addr}
theorem XdOk.cut (x : XdOk K P al' H fs dd) (h : al <+: al') (n : noCelF al.length fs = true) : XdOk K P al H fs dd := by
  rcases x with x | ⟨d, gs, h1, h2, h3, h4⟩
  · exact .inl x
  · exact .inr ⟨d, gs, h1, fun z => h2 (h.subset z), h3, h4.cutA h n⟩
theorem XdOk.go (x : XdOk K P al H fs dd) (e : Ext P al H P' al' H') : XdOk K P' al' H' fs dd := by
  rcases x with x | ⟨d, gs, h1, h2, h3, h4⟩
  · exact .inl x
  · refine .inr ⟨d, gs, h1, fun z => ?_, e.fr _ _ h3 h2, h4.mono e.pp e.pre⟩
    have := e.new d z h2
    rw [h3] at this; cases this
end
inductive rxF (n : Nat) (RX : RXt) (nm : Str) (fs : List (Str × D)) (M : Mt) : Prop where
  | keep : RX nm fs M → rxF n RX nm fs M
  | less : noCelF n fs = true → (M.take n).all (cellOk n) = true → RX nm fs (M.take n) → rxF n RX nm fs M
section
variable {P : Program} {w : World} {K : PySem.W.Frag} {mg : Str → Option Value} {base : Heap}
/-- as dfn; its table is known to be in order -/
theorem dfn2 {x qual : Str} {st : Stmt} {f : Addr} {fd : FuncData} {N ps : List Str} {k : Nat} {sp : DSp} (F : Fun K x qual st f fd) (S : FnScope N ps (defScope st)) (len : ∀ ds M R RX, sp ds M R RX → ds.length = ps.length)
    (body : ∀ (B : Bs) (cdv : Value) (A : Around) (outer : List Env) (s : Shared) (H : Hp) (E : XK), Room k (A.deeper (envOfC qual (defScope st) s.heap.objs.size f cdv)) →
      ∃ wb : WS, DSs B (cxOf CX0 P w K mg base N qual (defScope st) f cdv A outer s H E).nox (defBody st) wb ∧ ∀ ds M R RX, sp ds M R RX → M.all (cellOk M.length) = true → noCels M.length ds = true → wb (fnEnds M.length R) (startE N.length ds) M) :
    FnOk P w K mg base CX0 (k + 1) f fd ps (toSp K sp) := by
  refine F.ok S (fun vs H Q E h => ?_) (fun cdv A outer s H vs Q E hr h => ?_)
  · obtain ⟨P, al, M, ds, R, RX, _, r, hs, _⟩ := h
    rw [← r.length]; exact len _ _ _ _ hs
  · obtain ⟨Pp, al, M, ds, R, RX, r0, r, hs, L, _⟩ := h
    obtain ⟨wb, hb, hw⟩ := body (Pp, al, H) cdv A outer s H E hr
    have el := r0.len
    have fin : ∀ d M' v H' P' al', Ext Pp al H P' al' H' → RS0 K (Pp, al, H) P' al' M' H' → Rep K P' al' d v → retF M.length R d M' → Q v H' := fun d M' v H' P' al' e r' rd q => by
      cases q with
      | keep q => exact L d M' v H' P' al' e r' rd q
      | less q1 q2 q3 =>
        rw [← el] at q1 q2 q3
        refine L d _ v H' P' al ⟨e.pp, List.prefix_refl _, e.fr, fun b m n => absurd m n, e.pn⟩ (r'.drop fun i m hi hm => ?_) (rd.cut e.pre q1) q3
        exact List.all_eq_true.mp q2 m (List.mem_of_getElem? (by rw [List.getElem?_take_of_lt hi]; exact hm))
    obtain ⟨s1, s2⟩ := start_slots (N := N) r
    exact ⟨_, hb, Pp, al, M, _, _, ⟨r0, s1, s2⟩, hw ds M R RX hs r0.inside (by rw [← el]; exact r.inside), ⟨fun env' M' σ' H' P' al' e rs q => fin _ _ _ _ _ _ e rs.toRS0 .non q, fun d M' v H' P' al' e rs rd q => fin _ _ _ _ _ _ e rs rd q, fun _ _ _ _ _ _ _ _ z => z.elim, fun _ _ _ _ _ _ _ _ z => z.elim⟩⟩
end
/-! ### own errors: their __init__ keeps what it is given -/
/-- __init__ keeps ws under the names ns -/
def spI (C : Addr) (ns : List Str) : Sp := fun vs H Q _ => ∃ a ws, vs = .ref a :: ws ∧ ws.length = ns.length ∧ H a = some (exo a C none) ∧
  ∀ d, H d = none → d ≠ a → ∀ H', H' a = some (exo a C (some d)) → H' d = some (exd d (ns.zip ws).reverse) → (∀ b, b ≠ a → b ≠ d → H' b = H b) → Q .non H'
section
variable {X : Cx} {C fI : Addr} {k : Nat} {fd : FuncData} {x : Str} {p pos : Pos} {e : Expr} {es : List Expr} {ta : TA} {ps ns : List Str}
theorem spI_len (vs : List V) (H : Hp) (Q : VK) (E : XK) (h : spI C ns vs H Q E) : vs.length = ns.length + 1 := by
  obtain ⟨a, ws, rfl, h, _⟩ := h
  simp [h]
end
section
variable {X : Cx} {B : Bs} {C fI : Addr} {k : Nat} {fd : FuncData} {n x : Str} {p pos pos2 : Pos} {e : Expr} {es : List Expr} {was : WA} {ps ns : List Str} {RX : RXe}
theorem del_eq {H1 H' : Hp} {a d : Addr} {u v w : HO} (ha : H1 a = none) (hne : d ≠ a) (h : ∀ b, b ≠ a → b ≠ d → H' b = upd H1 a u b) : upd (del H' a) d v = upd H1 d v := by
  funext b
  by_cases h1 : b = d
  · rw [h1, upd_same, upd_same]
  · rw [upd_ne h1, upd_ne h1]
    by_cases h2 : b = a
    · rw [h2, del_same, ha]
    · rw [del_ne h2, h b h2 h1, upd_ne h2]
theorem zip_fs {K : PySem.W.Frag} {P : Hp} {al : List Addr} : ∀ {ns : List Str} {ds : List D} {vs : List V}, Reps K P al ds vs → RepFs K P al (ns.zip ds) (ns.zip vs)
  | [], _, _, _ => .nil
  | _ :: _, _, _, .nil => .nil
  | _ :: _, _, _, .cons r t => .cons r (zip_fs t)
theorem RepFs.app {K : PySem.W.Frag} {P : Hp} {al : List Addr} : ∀ {fs gs : List (Str × D)} {vs ws : List (Str × V)}, RepFs K P al fs vs → RepFs K P al gs ws → RepFs K P al (fs ++ gs) (vs ++ ws)
  | _, _, _, _, .nil, s => s
  | _, _, _, _, .cons r t, s => .cons r (RepFs.app t s)
theorem RepFs.rev {K : PySem.W.Frag} {P : Hp} {al : List Addr} : ∀ {fs : List (Str × D)} {vs : List (Str × V)}, RepFs K P al fs vs → RepFs K P al fs.reverse vs.reverse
  | _, _, .nil => .nil
  | _, _, .cons r t => by rw [List.reverse_cons, List.reverse_cons]; exact (RepFs.rev t).app (.cons r .nil)
/-- an error's dict, new -/
theorem xd_new {K : PySem.W.Frag} {B : Bs} {P : Hp} {al : List Addr} {M : Mt} {env : Ev} {σ : L2.St} {H : Hp} {d : Addr} {fs : List (Str × D)} {gs : List (Str × V)} (rs : RS K B P al M env σ H) (hd : H d = none) (r : RepFs K P al fs gs) :
    RS K B P al M env σ (upd H d (.xd gs)) ∧ XdOk K P al (upd H d (.xd gs)) fs (some d) := by
  obtain ⟨b1, b2⟩ := rs.toRS0.fresh hd
  exact ⟨⟨rs.toRS0.priv (rs.toRS0.free hd) b2 b1 _, rs.slen, rs.slot⟩, .inr ⟨d, gs, rfl, b2, upd_same, r⟩⟩
end
/-! ### the bodies of such an __init__ -/
section
variable {P : Program} {w : World} {K : PySem.W.Frag} {mg : Str → Option Value} {base : Heap} {C : Addr}
theorem init_1 {x qual : Str} {st : Stmt} {f : Addr} {fd : FuncData} {s a f1 : Str} {q1 q2 q3 q4 : Pos} (F : Fun K x qual st f fd) (S : FnScope [s, a] [s, a] (defScope st)) (hbody : defBody st = [.Assign [.Attribute (.Name s q1) f1 q2] (.Name a q3) q4])
    (T : OexC K C) (h1 : PySem.W.findIn K (.ref C) f1 = some none) (l1 : (defScope st).names.lookup s = some .local) (l2 : (defScope st).names.lookup a = some .local)
    (d1 : (s == ("__debug__" : Str)) = false := by decide) (d2 : (a == ("__debug__" : Str)) = false := by decide) (hc1 : (s == ("__classdict__" : Str)) = false := by decide) (hc2 : (a == ("__classdict__" : Str)) = false := by decide)
    (hsw : ∀ (env : Env), swapsWith (.Name a q3) (some (.Attribute (.Name s q1) f1 q2)) q4.line env = pure false := by intro _; rfl) : FnOk P w K mg base CX0 1 f fd [s, a] (spI C [f1]) := by
  refine F.ok S (fun vs H Q E h => spI_len (C := C) (ns := [f1]) vs H Q E h) fun cdv A outer s0 H vs Q E hr h => ?_
  rw [hbody]
  refine ⟨_, pss_one (ps_ost (pe_var (i := 0) rfl (.inl l1) d1 hc1) (pe_var (i := 1) rfl (.inl l2) d2 hc2) (hsw _)), ?_⟩
  obtain ⟨o, ws, rfl, hl, ho, q⟩ := h
  obtain ⟨y, rfl⟩ : ∃ y, ws = [y] := by
    cases ws with
    | nil => cases hl
    | cons y r => cases r with
      | nil => exact ⟨y, rfl⟩
      | cons _ _ => cases hl
  exact ⟨y, rfl, .ref o, rfl, o, C, rfl, T, h1, .inl ⟨ho, fun dx hdx hne => q dx hdx hne _ upd_same (by rw [upd_ne hne, upd_same]; rfl) fun b h1 h2 => by rw [upd_ne h1, upd_ne h2]⟩⟩
theorem init_2 {x qual : Str} {st : Stmt} {f : Addr} {fd : FuncData} {s a b f1 f2 : Str} {q1 q2 q3 q4 r1 r2 r3 r4 : Pos} (F : Fun K x qual st f fd) (S : FnScope [s, a, b] [s, a, b] (defScope st))
    (hbody : defBody st = [.Assign [.Attribute (.Name s q1) f1 q2] (.Name a q3) q4, .Assign [.Attribute (.Name s r1) f2 r2] (.Name b r3) r4])
    (T : OexC K C) (h1 : PySem.W.findIn K (.ref C) f1 = some none) (h2 : PySem.W.findIn K (.ref C) f2 = some none) (l1 : (defScope st).names.lookup s = some .local) (l2 : (defScope st).names.lookup a = some .local) (l3 : (defScope st).names.lookup b = some .local)
    (d1 : (s == ("__debug__" : Str)) = false := by decide) (d2 : (a == ("__debug__" : Str)) = false := by decide) (d3 : (b == ("__debug__" : Str)) = false := by decide) (hc1 : (s == ("__classdict__" : Str)) = false := by decide) (hc2 : (a == ("__classdict__" : Str)) = false := by decide) (hc3 : (b == ("__classdict__" : Str)) = false := by decide)
    (hsw : ∀ (y o g : Str) (p1 p2 p3 p4 : Pos) (env : Env), swapsWith (.Name y p3) (some (.Attribute (.Name o p1) g p2)) p4.line env = pure false := by intros; rfl) : FnOk P w K mg base CX0 1 f fd [s, a, b] (spI C [f1, f2]) := by
  refine F.ok S (fun vs H Q E h => spI_len (C := C) (ns := [f1, f2]) vs H Q E h) fun cdv A outer s0 H vs Q E hr h => ?_
  rw [hbody]
  refine ⟨_, pss_cons (ps_ost (pe_var (i := 0) rfl (.inl l1) d1 hc1) (pe_var (i := 1) rfl (.inl l2) d2 hc2) (hsw ..)) (pss_one (ps_ost (pe_var (i := 0) rfl (.inl l1) d1 hc1) (pe_var (i := 2) rfl (.inl l3) d3 hc3) (hsw ..))), ?_⟩
  obtain ⟨o, ws, rfl, hl, ho, q⟩ := h
  obtain ⟨y, z, rfl⟩ : ∃ y z, ws = [y, z] := by
    match ws, hl with
    | [y, z], _ => exact ⟨y, z, rfl⟩
  refine ⟨y, rfl, .ref o, rfl, o, C, rfl, T, h1, .inl ⟨ho, fun dx hdx hne => ?_⟩⟩
  refine ⟨z, rfl, .ref o, rfl, o, C, rfl, T, h2, .inr ⟨dx, _, upd_same, by rw [upd_ne hne, upd_same], Nat.le_of_ble_eq_true rfl, ?_⟩⟩
  exact q dx hdx hne _ (by rw [upd_ne (Ne.symm hne), upd_same]) upd_same fun b h1 h2 => by rw [upd_ne h2, upd_ne h1, upd_ne h2]
theorem init_3 {x qual : Str} {st : Stmt} {f : Addr} {fd : FuncData} {s a b c f1 f2 f3 : Str} {q1 q2 q3 q4 r1 r2 r3 r4 u1 u2 u3 u4 : Pos} (F : Fun K x qual st f fd) (S : FnScope [s, a, b, c] [s, a, b, c] (defScope st))
    (hbody : defBody st = [.Assign [.Attribute (.Name s q1) f1 q2] (.Name a q3) q4, .Assign [.Attribute (.Name s r1) f2 r2] (.Name b r3) r4, .Assign [.Attribute (.Name s u1) f3 u2] (.Name c u3) u4])
    (T : OexC K C) (h1 : PySem.W.findIn K (.ref C) f1 = some none) (h2 : PySem.W.findIn K (.ref C) f2 = some none) (h3 : PySem.W.findIn K (.ref C) f3 = some none)
    (l1 : (defScope st).names.lookup s = some .local) (l2 : (defScope st).names.lookup a = some .local) (l3 : (defScope st).names.lookup b = some .local) (l4 : (defScope st).names.lookup c = some .local)
    (d1 : (s == ("__debug__" : Str)) = false := by decide) (d2 : (a == ("__debug__" : Str)) = false := by decide) (d3 : (b == ("__debug__" : Str)) = false := by decide) (d4 : (c == ("__debug__" : Str)) = false := by decide)
    (hc1 : (s == ("__classdict__" : Str)) = false := by decide) (hc2 : (a == ("__classdict__" : Str)) = false := by decide) (hc3 : (b == ("__classdict__" : Str)) = false := by decide) (hc4 : (c == ("__classdict__" : Str)) = false := by decide)
    (hsw : ∀ (y o g : Str) (p1 p2 p3 p4 : Pos) (env : Env), swapsWith (.Name y p3) (some (.Attribute (.Name o p1) g p2)) p4.line env = pure false := by intros; rfl) : FnOk P w K mg base CX0 1 f fd [s, a, b, c] (spI C [f1, f2, f3]) := by
  refine F.ok S (fun vs H Q E h => spI_len (C := C) (ns := [f1, f2, f3]) vs H Q E h) fun cdv A outer s0 H vs Q E hr h => ?_
  rw [hbody]
  refine ⟨_, pss_cons (ps_ost (pe_var (i := 0) rfl (.inl l1) d1 hc1) (pe_var (i := 1) rfl (.inl l2) d2 hc2) (hsw ..)) (pss_cons (ps_ost (pe_var (i := 0) rfl (.inl l1) d1 hc1) (pe_var (i := 2) rfl (.inl l3) d3 hc3) (hsw ..)) (pss_one (ps_ost (pe_var (i := 0) rfl (.inl l1) d1 hc1) (pe_var (i := 3) rfl (.inl l4) d4 hc4) (hsw ..)))), ?_⟩
  obtain ⟨o, ws, rfl, hl, ho, q⟩ := h
  obtain ⟨y, z, v, rfl⟩ : ∃ y z v, ws = [y, z, v] := by
    match ws, hl with
    | [y, z, v], _ => exact ⟨y, z, v, rfl⟩
  refine ⟨y, rfl, .ref o, rfl, o, C, rfl, T, h1, .inl ⟨ho, fun dx hdx hne => ?_⟩⟩
  refine ⟨z, rfl, .ref o, rfl, o, C, rfl, T, h2, .inr ⟨dx, _, upd_same, by rw [upd_ne hne, upd_same], Nat.le_of_ble_eq_true rfl, ?_⟩⟩
  refine ⟨v, rfl, .ref o, rfl, o, C, rfl, T, h3, .inr ⟨dx, _, by rw [upd_ne (Ne.symm hne), upd_same], upd_same, Nat.le_of_ble_eq_true rfl, ?_⟩⟩
  exact q dx hdx hne _ (by rw [upd_ne (Ne.symm hne), upd_ne (Ne.symm hne), upd_same]) upd_same fun b h1 h2 => by rw [upd_ne h2, upd_ne h2, upd_ne h1, upd_ne h2]
end
/-! ### try .. except n as x -/
theorem RS.drp {K : PySem.W.Frag} {B : Bs} {P : Hp} {al : List Addr} {M : Mt} {env : Ev} {σ : L2.St} {H : Hp} (r : RS K B P al M env σ H) (i : Nat) : RS K B P al M (env.set i none) (σ.set i none) H := by
  refine ⟨r.toRS0, by simp [r.slen], fun j d h => ?_⟩
  by_cases hj : j = i
  · subst hj
    have hl : j < (env.set j none).length := (List.getElem?_eq_some_iff.mp h).1
    rw [List.getElem?_set_self (by simpa using hl)] at h; cases h
  · rw [List.getElem?_set_ne (Ne.symm hj)] at h
    obtain ⟨v, h1, h2⟩ := r.slot j d h
    exact ⟨v, by rw [List.getElem?_set_ne (Ne.symm hj)]; exact h1, h2⟩
def outE (i : Nat) (k : DEnds) : DEnds := ⟨fun e m => k.nx (e.set i none) m, k.rt, fun e m => k.bk (e.set i none) m, fun e m => k.ct (e.set i none) m⟩
section
variable {X : Cx} {B : Bs} {x n : Str} {Cc : Addr} {i : Nat} {body suite : List Stmt} {b₀ : Stmt} {np pos pos' : Pos} {RX : RXe} {ok : List Str} {sub : Str → Bool} {wb : RXe → WS} {ws : Addr → Str → List (Str × D) → WS}
end
end L3

namespace L3
open PySem PySem.Spec PyProof.Rows L2
/-! ### defs with *args -/
section
variable {P : Program} {w : World} {K : PySem.W.Frag} {mg : Str → Option Value} {base : Heap}
end
/-! ### starred arguments, classes by name, class methods -/
section
variable {X : Cx} {B : Bs} {CX : CXT} {k i : Nat} {f C : Addr} {sp : DSp} {n x m : Str} {p p2 pos apos : Pos} {e o : Expr} {es : List Expr} {was : WA} {we wo : WE} {RX : RXe}
theorem d_gcls (hg : Gl X x) (hm : X.mg x = some (.ref C)) (ca : ClsAt X.K n C) (hdb : (x == ("__debug__" : Str)) = false := by decide) : DE B X (.Name x p) (wC (.cls n)) := by
  refine (pe_glob (v := .ref C) hg hm rfl hdb).imp fun σ H Q => ?_
  rintro ⟨P, al, M, env, R, rs, hw, L⟩
  exact L.here rs (.cls ca) hw
end
end L3

namespace L3
open PySem PySem.Spec PyProof.Rows L2
/-! ### enumerate of a tuple -/
open Builtin in
theorem enum_newT (l : Addr) (items : Array Value) (n : Nat) (dct : Option Addr) (sl : Array (Option Value)) :
    Meets (Builtin.«enumerate.__new__» ⟨[.type "enumerate", .ref l], []⟩) (fun _ R s => s.heap.get? l = some { cls := .type "tuple", dict := dct, data := .seq items n, slots := sl } ∧
      R (.ok (.ret (.ref (s.heap.push { cls := .type "tuple_iterator", data := .fields #[.ref l, .int 0 0] }).objs.size)))
        { s with heap := (s.heap.push { cls := .type "tuple_iterator", data := .fields #[.ref l, .int 0 0] }).push { cls := .type "enumerate", data := .fields #[.none, .bool false, .ref s.heap.objs.size, rawInt 0, .none, .none] } }) :=
  .of_wp fun prog w A R s h => by
    obtain ⟨hp, g, d, tk, os⟩ := s
    obtain ⟨hl, h⟩ := h
    have hsub := sub_enumerate
    have hL : Heap.IsTuple (Shared.heap ⟨hp, g, d, tk, os⟩) l items := ⟨_, hl, rfl, n, rfl⟩
    wp_walk using AutoSeq1.wpAny_loadPart' hl
    refine wpAny_stack_any fun st => wpAny_pure ?_
    split
    · rename_i c _ _ _ _ _
      cases (c == Value.type "enumerate") <;>
        (wp_walk using AutoSeq1.wpAny_loadPart' hl, wpAny_pyIter_tuple hL
         exact ⟨_, rfl, h⟩)
    · wp_walk using AutoSeq1.wpAny_loadPart' hl, wpAny_pyIter_tuple hL
      exact ⟨_, rfl, h⟩
section
variable {prog : Program} {w : World} {A : Around} {E : Value → Shared → Prop} {s : Shared}
theorem call_enumT {l : Addr} {items : Array Value} {Q : Value → Shared → Prop} (hL : s.heap.IsTuple l items)
    (h : ∀ h', IsEnum h' (s.heap.objs.size + 1) s.heap.objs.size 0 .none → h'.IsTupleIter s.heap.objs.size l 0 → (∀ b o, s.heap.get? b = some o → h'.get? b = some o) → Q (.ref (s.heap.objs.size + 1)) { s with heap := h' }) :
    wpAny (model prog w) A (call (.type "enumerate") [.ref l]) Q E s := by
  obtain ⟨⟨c, dct, dt, sl⟩, hl, hc, n, hd⟩ := hL
  replace hc : c = .type "tuple" := hc
  replace hd : dt = .seq items n := hd
  subst hc hd
  refine callType_new F.called_enumerate (by decide) (F.typeCall_enumerate_1 _) (F.newCall_enumerate_1 _)
    (fun obj => F.args_object_init_2 obj _) F.entry_enumerate_new (enum_newT l items n dct sl) ⟨hl, ?_⟩
  have hz : (s.heap.push { cls := .type "tuple_iterator", data := .fields #[.ref l, .int 0 0] }).objs.size = s.heap.objs.size + 1 := Heap.size_push ..
  show _ ∧ _
  rw [hz]
  have he : IsEnum ((s.heap.push { cls := .type "tuple_iterator", data := .fields #[.ref l, .int 0 0] }).push
      { cls := .type "enumerate", data := .fields #[.none, .bool false, .ref s.heap.objs.size, rawInt 0, .none, .none] }) (s.heap.objs.size + 1) s.heap.objs.size 0 .none := by
    have q := Heap.get?_push_size (s.heap.push { cls := .type "tuple_iterator", data := .fields #[.ref l, .int 0 0] })
      (o := { cls := .type "enumerate", data := .fields #[.none, .bool false, .ref s.heap.objs.size, rawInt 0, .none, .none] }) rfl
    rw [hz] at q; exact q
  exact ⟨⟨_, he, rfl⟩, h _ he ⟨_, Heap.get?_push_of_some _ (Heap.get?_push_size _ rfl), rfl, rfl⟩ fun b o x => Heap.get?_push_of_some _ (Heap.get?_push_of_some _ x)⟩
end
/-- the tuple at a, each item in a new pair -/
def ItET (K : PySem.W.Frag) (a : Addr) : It :=
  ⟨fun i H => ∃ (xs : List V) (x : V), SqT K H a xs ∧ xs[i]? = some x,
    fun i H v H' => ∃ T x, v = .ref T ∧ H T = none ∧ H' = upd H T (.tup [.int (i : Nat), x]) ∧ ∀ xs, SqT K H a xs → xs[i]? = some x,
    fun i H => ∃ xs : List V, SqT K H a xs ∧ xs.length ≤ i⟩
theorem turn_enumT {P : Program} {w : World} {K : PySem.W.Frag} {elts : List Expr} {kk : Nat} {tpos : Pos} (a e it : Addr) : Turn P w K (.Tuple elts kk tpos) (ItET K a) [e, it] e (fun i h => (∃ old, IsEnum h e it ((i : Nat) : Int) old) ∧ h.IsTupleIter it a i ∧ e ≠ it) where
  mem := by simp
  obj := fun i h st b hb => by
    obtain ⟨⟨old, he⟩, ⟨o, ho, hc, hd⟩, _⟩ := st
    rcases (by simpa using hb : b = e ∨ b = it) with z | z
    · rw [z]; exact ⟨_, he, fun v q => nomatch q⟩
    · rw [z]; exact ⟨o, ho, fun v q => by rw [hd] at q; cases q⟩
  keep := fun i h h' st k => by
    obtain ⟨⟨old, he⟩, hi, hne⟩ := st
    exact ⟨⟨old, k e (by simp) _ he⟩, hi.at fun o q => k it (by simp) o q, hne⟩
  item := by
    intro X hP hw hK hc i pins s σ H E I hf st hg
    subst hP hw hK
    obtain ⟨⟨old, he⟩, hit, hne⟩ := st
    obtain ⟨xs, x, hq, hx⟩ := hg
    obtain ⟨its, rv, p, hz⟩ := I.tuple hq
    obtain ⟨u, hu, ru⟩ := rv.get hx
    have hT : s.heap.IsTuple a its.toArray := p
    have nae : e ≠ a := fun z => by
      obtain ⟨o, h1, h2, _⟩ := hT
      rw [← z, he] at h1; cases h1
      exact absurd (Value.type.inj h2) (by decide)
    have nai : a ≠ it := fun z => by
      obtain ⟨o, h1, h2, _⟩ := hT
      obtain ⟨o', g1, g2, _⟩ := hit
      rw [z, g1] at h1; cases h1
      rw [g2] at h2
      exact absurd (Value.type.inj h2) (by decide)
    have hel : e < s.heap.objs.size := Heap.lt_size he
    have hil : it < s.heap.objs.size := by obtain ⟨_, q, _⟩ := hit; exact Heap.lt_size q
    have hh : X.A.in1.handled = none := I.ok.hd hc
    have hlt : i < its.toArray.size := by simpa using (List.getElem?_eq_some_iff.mp hu).1
    refine wpAny_pyNext_enum_itemD (Draws.tuple hh it a nai its.toArray) he ⟨hit, hT⟩ hlt hne (by simp; exact ⟨hne, nae⟩) fun v h' tk hv ho hst hTp hsz hk => ?_
    have hv : v = u := by
      have hu' : its.toArray[i]? = some u := by simpa using hu
      rw [hu'] at hv; exact (Option.some.inj hv).symm
    subst hv
    refine ⟨_, rfl, wpAny_letOwnedTupleGo_enum (s := { s with heap := h', toks := tk + 1 }) ho fun h'' he' sb => ?_⟩
    have hT2 : h''.get? s.heap.objs.size = some { cls := .type "tuple", data := .seq #[.int i tk, v] } := (sb.2 _ (Nat.ne_of_gt hel)).trans hTp
    have new : ObjOk X.prog X.w (upd H s.heap.objs.size (.tup [.int (i : Nat), x])) h'' s.heap.objs.size (.tup [.int (i : Nat), x]) :=
      ⟨by show 2 ≤ sizeLine; decide, [.int i tk, v], .cons ⟨_, rfl⟩ (.cons ru .nil), ⟨_, hT2, rfl, _, rfl⟩⟩
    have J : Inv X pins σ (upd H s.heap.objs.size (.tup [.int (i : Nat), x])) { s with heap := h'', toks := tk + 1 } :=
      I.turnedNew (ch := [e, it]) (fun b ob hb q => (sb.2 b (fun z => hb (by simp [z]))).trans (hk b ob (fun z => hb (by simp [z])) (fun z => hb (by simp [z])) q)) hf (Nat.le_refl _) new
    refine ⟨.ref s.heap.objs.size, _, J, rfl, ⟨_, x, rfl, I.hok.fresh (Nat.le_refl _), rfl, fun ys hy => by rw [I.tuple_inj hy hq]; exact hx⟩, ⟨⟨v, ?_⟩, hst.1.at fun o q => (sb.2 it (Ne.symm hne)).trans q, hne⟩, fun b hb => ?_⟩
    · rw [show ((i + 1 : Nat) : Int) = (i : Int) + 1 from by omega]; exact he'
    · have hb' : b < s.heap.objs.size := by
        rcases (by simpa using hb : b = e ∨ b = it) with z | z
        · rw [z]; exact hel
        · rw [z]; exact hil
      rw [upd_ne (Nat.ne_of_lt hb')]
      exact (hf b hb).1
  done := by
    intro X hP hw hK hc i pins s σ H E I hf st hg
    subst hP hw hK
    obtain ⟨⟨old, he⟩, hit, hne⟩ := st
    obtain ⟨xs, hq, hx⟩ := hg
    obtain ⟨its, rv, p, hz⟩ := I.tuple hq
    obtain ⟨f0, f1, f2, f3, f4, f5⟩ := hf it (by simp)
    have hT : s.heap.IsTuple a its.toArray := p
    have hT0 : s.TypeIs (.ref e) "enumerate" := ⟨_, he, rfl⟩
    have hnone : its.toArray[i]? = none := by have := rv.length; simp; omega
    unfold pyNext
    refine wpAny_bind (wpAny_attempt (wpAny_callSpecial?_slot (name := Str.ofString "__next__") hT0 F.slot_enumerate_next
      (wpAny_call_entry F.slot_enumerate_next hT0 F.entry_enumerate_next ?_ (F.args_enumerate_next_1 _))))
    show wpAny _ _ (field (.ref e) 2 >>= _) _ _ _
    refine wpAny_bind (wpAny_field he rfl (x := .ref it) rfl ?_)
    refine wpAny_bind (wpAny_nextOf_tuple_end (show X.A.in1.handled = none from I.ok.hd hc) hit hT hnone fun h' x he' hx' => ?_)
    obtain ⟨o, ho, hc'⟩ := hx'
    refine wpAny_bind (wpAny_isInstance (T := "StopIteration") (b := true) ⟨o, ho, hc'⟩ isSubtype_stop ?_)
    exact wpAny_pure ⟨rfl, I.turned (t' := s.toks) (fun b o hb q => he' b o hb q) f0 f1 f3 f4 f5⟩
  self := fun A i s Q E st h => by
    obtain ⟨⟨_, he⟩, _⟩ := st
    exact wpAny_pyIter_enum he h
def iEnumA (K : PySem.W.Frag) (ta : TA) : TI := fun σ H R => ta σ H fun vs H1 => (∃ a xs, vs = [.ref a] ∧ SqL K H1 a xs ∧ R (Ite K a) H1) ∨ ∃ a xs, vs = [.ref a] ∧ SqT K H1 a xs ∧ R (ItET K a) H1
theorem pi_enumA {X : Cx} {e : Expr} {ta : TA} {p pos tpos : Pos} {elts : List Expr} {kk : Nat} (hg : Gl X "enumerate") (hm : X.mg "enumerate" = none) (ha : PA X [e] ta) (hs : starEach [e] X.env = [(false, eval e X.env)] := by rfl) :
    PI X (.Tuple elts kk tpos) (.Call (.Name "enumerate" p) [e] [] pos) (iEnumA X.K ta) := by
  refine ⟨fun pins s σ H R I h => Call_ (ld_blt I hg hm boot_enumerate (PyProof.Rows.callWith_type1 (thn (ha.run pos pins s σ H _ I h) fun us s1 ⟨vs, H1, I1, r1, q1⟩ => ?_) hs rfl))⟩
  have fpk : ∀ b ∈ [s1.heap.objs.size + 1, s1.heap.objs.size], FpOk X pins H1 b := fun b hb => by
    have hle : s1.heap.objs.size ≤ b := by
      rcases (by simpa using hb : b = s1.heap.objs.size + 1 ∨ b = s1.heap.objs.size) with z | z <;> omega
    exact I1.fpOk hle (I1.hok.fresh hle)
  have one : ∀ {a : Addr} {us : List Value}, Vals [V.ref a] us → us = [Value.ref a] := fun {a us} r => by
    cases r with
    | cons r rr => cases rr; cases r; rfl
  rcases q1 with ⟨a, xs, ex, hq, q⟩ | ⟨a, xs, ex, hq, q⟩ <;> subst ex <;> obtain rfl := one r1
  · obtain ⟨its, rv, p', hz⟩ := I1.list hq
    refine call_enumerate_list p'.isList fun h' he hit hsz hk => wpAny_pyIter_enum he ?_
    exact ⟨_, [s1.heap.objs.size + 1, s1.heap.objs.size], _, _, H1, rfl, I1.kept (t' := s1.toks) hk, turn_enum a _ _, ⟨⟨.none, he⟩, hit, Nat.succ_ne_self _⟩, fpk, q⟩
  · obtain ⟨its, rv, p', hz⟩ := I1.tuple hq
    refine call_enumT (show s1.heap.IsTuple a its.toArray from p') fun h' he hit hk => wpAny_pyIter_enum he ?_
    exact ⟨_, [s1.heap.objs.size + 1, s1.heap.objs.size], _, _, H1, rfl, I1.kept (t' := s1.toks) hk, turn_enumT a _ _, ⟨⟨.none, he⟩, hit, Nat.succ_ne_self _⟩, fpk, q⟩
/-! ### over data -/
def enumD (k : Nat) : List D → List D
  | [] => []
  | d :: r => .tup [.int k, d] :: enumD (k + 1) r
theorem enumD_len : ∀ (l : List D) (k : Nat), (enumD k l).length = l.length
  | [], _ => rfl
  | _ :: r, k => by show (enumD (k + 1) r).length + 1 = r.length + 1; rw [enumD_len r]
theorem enumD_get : ∀ (l : List D) (k i : Nat) (d : D), (enumD k l)[i]? = some d → ∃ x, l[i]? = some x ∧ d = .tup [.int ((k + i : Nat) : Int), x]
  | [], _, _, _, h => by cases h
  | x :: r, k, 0, d, h => ⟨x, rfl, (Option.some.inj h).symm⟩
  | x :: r, k, i + 1, d, h => by
    obtain ⟨y, h1, h2⟩ := enumD_get r (k + 1) i d h
    exact ⟨y, h1, by rw [h2, show k + 1 + i = k + (i + 1) from by omega]⟩
section
variable {K : PySem.W.Frag} {a : Addr} {xs : List V} {ds : List D} {P : Hp} {al : List Addr}
theorem enum_turn {B : Bs} {P2 : Hp} {al2 : List Addr} {M2 : Mt} {H2 H3 : Hp} {T : Addr} {i : Nat} {v : V} {d : D} (r0 : RS0 K B P2 al2 M2 H2) (hT : H2 T = none) (rv : Rep K P2 al2 d v) (e : H3 = upd H2 T (.tup [.int (i : Nat), v])) :
    ∃ P3, Ext P2 al2 H2 P3 al2 H3 ∧ RS0 K B P3 al2 M2 H3 ∧ Rep K P3 al2 (.tup [.int (i : Nat), d]) (.ref T) := by
  subst e
  obtain ⟨e1, r1⟩ := r0.alloc hT (.tup [.int (i : Nat), v])
  exact ⟨_, e1, r1, .tup (.inl (.inl upd_same)) (.cons (.int _) (.cons (rv.mono e1.pp e1.pre) .nil))⟩
theorem walk_enumL (h : ∀ H2, Same P H2 → SqL K H2 a xs) (r : Reps K P al ds xs) : Walk K (Ite K a) (enumD 0 ds) P al := by
  intro B P2 al2 M2 H2 s p r0
  have h2 : SqL K H2 a xs := h _ (s.trans r0.same)
  have r2 := r.mono s p
  refine ⟨fun i d hd => ?_, ⟨xs, h2, by rw [enumD_len, r.length]; exact Nat.le_refl _⟩⟩
  obtain ⟨x, hx, rfl⟩ := enumD_get ds 0 i d hd
  obtain ⟨v, hv, rv⟩ := r2.get hx
  refine ⟨⟨xs, v, h2, hv⟩, fun y H3 ⟨T, z, e1, e2, e3, f⟩ => ?_⟩
  have hz := f _ h2
  rw [hv] at hz; cases hz
  subst e1
  rw [show (0 + i : Nat) = i from Nat.zero_add i]
  exact enum_turn r0 e2 rv e3
theorem walk_enumT (h : SqT K P a xs) (r : Reps K P al ds xs) : Walk K (ItET K a) (enumD 0 ds) P al := by
  intro B P2 al2 M2 H2 s p r0
  have h2 : SqT K H2 a xs := same_seqT r0.same (same_seqT s h)
  have r2 := r.mono s p
  refine ⟨fun i d hd => ?_, ⟨xs, h2, by rw [enumD_len, r.length]; exact Nat.le_refl _⟩⟩
  obtain ⟨x, hx, rfl⟩ := enumD_get ds 0 i d hd
  obtain ⟨v, hv, rv⟩ := r2.get hx
  refine ⟨⟨xs, v, h2, hv⟩, fun y H3 ⟨T, z, e1, e2, e3, f⟩ => ?_⟩
  have hz := f _ h2
  rw [hv] at hz; cases hz
  subst e1
  rw [show (0 + i : Nat) = i from Nat.zero_add i]
  exact enum_turn r0 e2 rv e3
end
def wEnumerate (was : WA) : WI := fun env M RR => was env M fun ds M1 => match ds with
  | [.lst l] => RR (enumD 0 l) M1
  | [.rol l] => RR (enumD 0 l) M1
  | [.tup l] => RR (enumD 0 l) M1
  | _ => False
theorem di_enumerate {X : Cx} {B : Bs} {e : Expr} {was : WA} {elts : List Expr} {kk : Nat} {p pos tpos : Pos} (hg : Gl X "enumerate") (hm : X.mg "enumerate" = none) (ha : DA B X [e] was) (hs : starEach [e] X.env = [(false, eval e X.env)] := by rfl) :
    DI B X (.Tuple elts kk tpos) (.Call (.Name "enumerate" p) [e] [] pos) (wEnumerate was) := by
  refine (pi_enumA hg hm ha hs).imp fun σ H R => ?_
  rintro ⟨P, al, M, env, RR, rs, hw, L⟩
  refine ⟨P, al, M, env, _, rs, hw, fun ds M1 vs H1 P1 al1 e1 rs1 r1 q => ?_⟩
  split at q
  · cases r1 with
    | cons q1 t =>
      cases t
      cases q1 with
      | lst h1 h2 => exact .inl ⟨_, _, rfl, SqL.of (rs1.same _ _ h1), L _ _ _ _ _ _ e1 rs1 (walk_enumL (fun _ s => SqL.of (s _ _ h1)) h2) q⟩
  · cases r1 with
    | cons q1 t =>
      cases t
      cases q1 with
      | rol h1 h2 => exact .inl ⟨_, _, rfl, rs1.same.seq h1, L _ _ _ _ _ _ e1 rs1 (walk_enumL (fun _ s => s.seq h1) h2) q⟩
  · cases r1 with
    | cons q1 t =>
      cases t
      cases q1 with
      | tup h1 h2 => exact .inr ⟨_, _, rfl, same_seqT rs1.same h1, L _ _ _ _ _ _ e1 rs1 (walk_enumT h1 h2) q⟩
  · exact q.elim
end L3

namespace L3
open PySem PySem.Spec PyProof.Rows L2
/-! ### isinstance of the error that a suite holds -/
/-- what isinstance asks of an own error's class -/
structure ErC (K : PySem.W.Frag) (C : Addr) : Prop where
  cl : (PySem.W.clsIn K C).isSome = true
  ga : PySem.W.findIn K (.ref C) "__getattribute__" = some (some (.builtin "BaseException.__getattribute__"))
  gg : PySem.W.findIn K (.ref C) "__getattr__" = some none
  sb : PySem.W.subIn K (.ref C) (.type "BaseException") = some true
  ca : PySem.W.findIn K (.ref C) "__class__" = some (some (.builtin "object.__class__"))
  cg : PySem.W.specialIn K (.builtin "object.__class__") "__get__" = some (some (.builtin "getset_descriptor.__get__"))
  tk : PySem.W.takesIn K (.builtin "object.__class__") = some true
  ob : PySem.W.mroIn K C (.type "object") = some true
/-! ### isinstance of instances and other things, an own class asked -/
end L3

namespace L3
open PySem PySem.Spec PyProof.Rows L2
end L3

namespace L3
open PySem PySem.Spec PyProof.Rows L2 PySem.W
section
variable {prog : Program} {w : World} {A : Around} {E : Value → Shared → Prop} {hp : Heap} {g : Array GenState} {d : Drawn} {os : OsState}
end
end L3

namespace L3
open PySem PySem.Spec PyProof.Rows L2
/-! ### defs with **fields -/
section
variable {CX : CXT} {P : Program} {w : World} {K : PySem.W.Frag} {mg : Str → Option Value} {base : Heap} {k : Nat} {f : Addr} {name qual : Str} {params : Arguments} {body : List Stmt} {scope : Scope} {kV doc pm cdv ct oc : Value} {an od : Option Addr}
  {osl : Array (Option Value)} {N : List Str} {p1 pd : Str} {sp : Sp}
end
end L3

namespace L3
open PySem PySem.Spec PyProof.Rows L2
section
variable {M : Model} {A : Around} {E : Value → Shared → Prop} {s : Shared} {f : Value} {x : Sem Value}
end
section
variable {prog : Program} {w : World} {A : Around} {E : Value → Shared → Prop} {s : Shared}
end
end L3

namespace L3
open PySem PySem.Spec PyProof.Rows L2
section
variable {prog : Program} {w : World} {A : Around} {E : Value → Shared → Prop} {s : Shared} {f : Value} {x : Sem Value}
end
end L3

namespace L3
open PySem PySem.Spec PyProof.Rows L2
section
variable {X : Cx} {CX : CXT} {k : Nat} {f C : Addr} {E : XK}
end
section
variable {X : Cx} {CX : CXT} {k i : Nat} {f C : Addr} {E : L2.St → XK} {x y : Str} {p p2 pos : Pos}
end
end L3

namespace L3
open PySem PySem.Spec PyProof.Rows L2
/-! ### over data -/
section
variable {P : Program} {w : World} {K : PySem.W.Frag} {mg : Str → Option Value} {base : Heap}
end
section
variable {X : Cx} {B : Bs} {CX : CXT} {k i j : Nat} {f C : Addr} {sp : DSp} {n x y p1 : Str} {p p2 kpos pos : Pos} {was : WA} {RX : RXe} {kws : List Keyword} {names : List Str}
end
end L3

namespace L3
open PySem PySem.Spec PyProof.Rows L2
theorem _root_.L2.PK.imp {X : Cx} {kws : List Keyword} {t u : TA} (h : PK X kws t) (i : ∀ σ H Q, u σ H Q → t σ H Q) : PK X kws u := ⟨fun pos pins s σ H Q I q => h.run pos pins s σ H Q I (i σ H Q q)⟩
section
variable {X : Cx} {B : Bs} {CX : CXT} {k : Nat} {f C : Addr} {sp : DSp} {n x p1 : Str} {nm : Option Str} {p kpos pos : Pos} {e : Expr} {we : WE} {was : WA} {RX : RXe} {kws : List Keyword} {names : List Str}
end
/-! ### a list that is no longer changed, published ahead of a statement -/
section
variable {X : Cx} {B : Bs} {st : Stmt} {w : WS} {i : Nat}
end
end L3


namespace L3
open PySem PySem.Spec PyProof.Rows L2
/-! ### operators by own methods -/
structure OpC (K : PySem.W.Frag) (C : Addr) (m : Str) (f : Addr) : Prop where
  at_ : PySem.W.findIn K (.ref C) m = some (some (.ref f))
  fn : PySem.W.isFn K (.ref f) = true
section
variable {X : Cx} {CX : CXT} {k : Nat} {f C : Addr} {E : XK}
end
section
variable {X : Cx} {B : Bs} {CX : CXT} {k : Nat} {f C : Addr} {sp : DSp} {n : Str} {a b : Expr} {wa wb : WE} {op : Operator} {pos : Pos} {RX : RXe}
end
end L3

namespace L3
open PySem PySem.Spec PyProof.Rows L2
/-! ### static methods read off their class -/
section
variable {X : Cx} {B : Bs} {CX : CXT} {k : Nat} {C p g : Addr} {mc : Value} {sp : DSp} {n m : Str} {pos apos : Pos} {e o : Expr} {es : List Expr} {was : WA} {wo : WE} {RX : RXe} {dvs : List V} {dds : List D}
end
end L3

namespace L3
open PySem PySem.Spec PyProof.Rows L2
/-! ### defs (a, .., *v, k1, k2) called with their keywords -/
section
variable {CX : CXT} {P : Program} {w : World} {K : PySem.W.Frag} {mg : Str → Option Value} {base : Heap} {k : Nat} {f : Addr} {name qual : Str} {params : Arguments} {body : List Stmt} {scope : Scope} {dV kV doc pm cdv ct oc : Value} {an od : Option Addr}
  {osl : Array (Option Value)} {N ps ks : List Str} {pv : Str} {sp : Sp}
end
section
variable {P : Program} {w : World} {K : PySem.W.Frag} {mg : Str → Option Value} {base : Heap}
end
section
variable {prog : Program} {w : World} {A : Around} {E : Value → Shared → Prop} {s : Shared} {f : Value}
end
section
variable {X : Cx} {B : Bs} {CX : CXT} {k np : Nat} {f C : Addr} {sp : DSp} {n x : Str} {p kpos pos : Pos} {e : Expr} {es : List Expr} {was wks : WA} {RX : RXe} {kws : List Keyword} {names : List Str}
end
end L3

namespace L3
open PySem PySem.Spec PyProof.Rows L2
/-! ### while -/
section
variable {X : Cx} {B : Bs} {c : Expr} {body : List Stmt} {pos : Pos} {t : WT} {b : WS}
end
/-! ### y = [..], and lists that will change -/
section
variable {K : PySem.W.Frag} {B : Bs} {wi : WI} {g : TG} {is vs : List Nat} {t : WTs} {we : WE}
theorem lc_in (bn : Binds1 K g is vs) {σ : L2.St} {H : Hp} {P : Hp} {al : List Addr} {M : Mt} {env : Ev} {R : D → Mt → Prop} {Q : VK} (rs : RS K B P al M env σ H) (hw : wLc wi is t we vs env M R) (L : Lift K B P al env σ H R Q) : tLc (tDI K B wi) g (tDT K B t) (tD K B we) vs σ H Q := by
  refine lc_imp (fin := fun acc M R => R (.lst acc) M) bn (fun P al M σ H p acc vs R Q H0 P0 al0 rs e hp np na hb hv ra hr hq => ?_) rs hw L
  have sm : Same P (upd P p (.lst vs)) := fun b x h => by rw [upd_ne (ne_of_none h np)]; exact h
  refine hq _ _ _ _ (e.pub hp np (.lst vs)) ⟨rs.toRS0.pub np na hb hv, rs.slen, fun j d h => ?_⟩ (.lst upd_same (ra.mono sm (List.prefix_refl _))) hr
  obtain ⟨v, h1, h2⟩ := rs.slot j d h
  exact ⟨v, h1, h2.mono sm (List.prefix_refl _)⟩
end
section
variable {X : Cx} {B : Bs} {e : Expr} {tg elt : Expr} {ifs : List Expr} {scope : Scope} {own : List (Str × Nat)} {g : TG} {is : List Nat} {wi : WI} {t : WTs} {we : WE} {pos spos py : Pos} {i : Nat} {y : Str}
def wSetLc (i : Nat) (w : WE) : WS := fun k env M => w env M fun d M1 => k.nx (env.set i (some d)) M1
theorem d_setLc (hc : X.calm = true) (hN : X.N.Nodup) (hy : X.N[i]? = some y) (hyl : X.env.scope.names.lookup y = some .local)
    (hsw : swapsWith (.ListComp elt [⟨tg, e, ifs, 0⟩] scope pos) (some (.Name y py)) spos.line X.env = pure true) (hi : DI B X tg e wi) (ok : BlkOk X.N X.env.scope scope own)
    (hg : ∀ (s : Shared) (H : Hp) (C : Addr) (cl : List (Str × Addr)) (fp : List Addr), PG (X.blk s H scope (compEnvC scope cl C X.env) fp) tg g) (bn : Binds1 X.K g is (own.map (·.2)))
    (ht : ∀ (s : Shared) (H : Hp) (C : Addr) (cl : List (Str × Addr)) (fp : List Addr), DTs B (X.blk s H scope (compEnvC scope cl C X.env) fp) ifs t)
    (he : ∀ (s : Shared) (H : Hp) (C : Addr) (cl : List (Str × Addr)) (fp : List Addr), DE B (X.blk s H scope (compEnvC scope cl C X.env) fp) elt we) (hs : ∀ x, foldedSetIterable e X.env x = pure x := by intro _; rfl) :
    DS B X (.Assign [.Name y py] (.ListComp elt [⟨tg, e, ifs, 0⟩] scope pos) spos) (wSetLc i (wLc wi is t we (own.map (·.2)))) := by
  refine (ps_setLc (i := i) (tt := tDT X.K B t) (te := tD X.K B we) hc hN hy hyl hsw hi ok hg ht he hs).imp fun D σ H => ?_
  rintro ⟨P, al, M, env, k, rs, hw, L⟩
  exact lc_in bn rs hw fun d M1 v H1 P1 al1 e1 rs1 r1 q => L.nx _ _ _ _ _ _ e1 (rs1.put i r1) q
end
/-! ### sum, sorted -/
section
variable {X : Cx} {B : Bs} {K : PySem.W.Frag}
end
end L3

namespace L3
open PySem PySem.Spec PyProof.Rows L2
/-! ### what is never reached -/
section
variable {X : Cx} {B : Bs} {e : Expr} {st : Stmt} {ss : List Stmt} {pos p : Pos}
end
/-! ### an object of our own beside the state becomes one of the table -/
/-! ### lists of keys, of a range -/
def kD : Key → D
  | .inl i => .int i
  | .inr s => .str s
theorem kD_rep {K : PySem.W.Frag} {P : Hp} {al : List Addr} : ∀ {ks : List (Key × D)} {kvs : List (Key × V)}, RepKs K P al ks kvs → Reps K P al (ks.map fun p => kD p.1) (kvs.map fun p => kV p.1)
  | _, _, .nil => .nil
  | _, _, .cons (k := k) _ t => .cons (by cases k <;> first | exact .int _ | exact .str _) (kD_rep t)
/-- list(x), x a list, a tuple or a dict -/
def cListA (m : Bool) : WCl := fun ds M R => match ds with
  | [x] => match viewD M x with
    | .dct ks => if m then R (.cel M.length) (M ++ [.lst (ks.map fun p => kD p.1)]) else R (.lst (ks.map fun p => kD p.1)) M
    | .fdc ks => if m then R (.cel M.length) (M ++ [.lst (ks.map fun p => kD p.1)]) else R (.lst (ks.map fun p => kD p.1)) M
    | _ => cList m ds M R
  | _ => False
def rListR : List V → Hp → VK → Prop := fun xs H Q => ∃ (a : Addr) (kvs : List (Key × V)), xs = [.ref a] ∧ Rd H a (.dK kvs) ∧ ∀ p, H p = none → Q (.ref p) (upd H p (.lst (kvs.map fun kv => kV kv.1)))
theorem callListA {X : Cx} (hc : X.calm = true) : CallR X (.type "list") (fun xs H Q => (∃ p ys, xs = [.ref p] ∧ (SqL X.K H p ys ∨ SqT X.K H p ys) ∧ ∀ l, H l = none → Q (.ref l) (upd H l (.lst ys))) ∨ rListR xs H Q) := call_list_of.or (call_listD hc)
theorem cListA_ok {K : PySem.W.Frag} {B : Bs} {m : Bool} : CallD K B (fun xs H Q => (∃ p ys, xs = [.ref p] ∧ (SqL K H p ys ∨ SqT K H p ys) ∧ ∀ l, H l = none → Q (.ref l) (upd H l (.lst ys))) ∨ rListR xs H Q) (cListA m) := by
  intro P al M env σ H vs ds R Q rs r h L
  unfold cListA at h
  split at h
  · rename_i x
    split at h
    · rename_i ks e
      cases r with
      | cons r1 t =>
        cases t
        obtain ⟨a, kvs, rfl, ha, rk⟩ := view_dct rs.toRS0 r1 e
        refine .inr ⟨a, kvs, rfl, .inl ha, fun q hq => ?_⟩
        cases m with
        | true => exact L.allocM rs hq (kD_rep rk) h
        | false => exact L.alloc rs hq (.lst upd_same ((kD_rep rk).mono (same_new rs.toRS0 hq) (List.prefix_refl _))) h
    · rename_i ks e
      cases r with
      | cons r1 t =>
        cases t
        obtain ⟨a, kvs, rfl, ha, rk⟩ := view_fdc rs.toRS0 r1 e
        refine .inr ⟨a, kvs, rfl, ha, fun q hq => ?_⟩
        cases m with
        | true => exact L.allocM rs hq (kD_rep rk) h
        | false => exact L.alloc rs hq (.lst upd_same ((kD_rep rk).mono (same_new rs.toRS0 hq) (List.prefix_refl _))) h
    · exact .inl (cList_ok P al M env σ H vs [x] R Q rs r h L)
  · exact h.elim
/-! ### a dict display that will change; list(range(..)) -/
section
variable {X : Cx} {B : Bs} {pos : Pos}
end
end L3

namespace L3
open PySem PySem.Spec PyProof.Rows L2
section
variable {P : Program} {w : World} {K : PySem.W.Frag} {mg : Str → Option Value} {base : Heap}
end
/-! ### y = [..], a list that will change -/
section
variable {K : PySem.W.Frag} {B : Bs} {wi : WI} {g : TG} {is vs : List Nat} {t : WTs} {we : WE}
end
section
variable {X : Cx} {B : Bs} {e : Expr} {tg elt : Expr} {ifs : List Expr} {scope : Scope} {own : List (Str × Nat)} {g : TG} {is : List Nat} {wi : WI} {t : WTs} {we : WE} {pos spos py : Pos} {i : Nat} {y : Str}
end
end L3

namespace L3
open PySem PySem.Spec PyProof.Rows L2
/-! ### steps by what they ask: for walks -/
section
variable {M M0 T : Mt} {R : D → Mt → Prop} {x d : D} {n i : Nat} {l ds : List D} {env : Ev}
theorem range_map (lo : Int) (n : Nat) : rangeD lo n = (List.range n).map fun (k : Nat) => .int (lo + k) := by unfold rangeD; rfl
theorem range_len (lo : Int) (n : Nat) : (rangeD lo n).length = n := by rw [range_map]; simp
theorem len_use (h : viewD M x = .lst l) (k : R (.int l.length) M) : cLen [x] M R := by
  simp only [cLen, h, seqD]; exact k
theorem len_tup (h : viewD M x = .tup l) (k : R (.int l.length) M) : cLen [x] M R := by
  simp only [cLen, h, seqD]; exact k
theorem app_use (h : M[n]? = some (.lst l)) (hl : l.length < sizeLine) (k : R .non (M.set n (.lst (l ++ [d])))) : mAppend (.cel n) [d] M R := by
  simp only [mAppend, h]; exact ⟨⟨hl⟩, k⟩
theorem setIx_use {j : Int} {Q : Mt → Prop} (h : M[n]? = some (.lst l)) (h0 : 0 ≤ j) (h1 : j < l.length) (k : Q (M.set n (.lst (l.set j.toNat d)))) : dsetIx d (.cel n) (.int j) M Q := by
  have e : ixN l.length j = some j.toNat := by unfold ixN; rw [if_pos h0, if_pos h1]
  simp only [dsetIx, h, e]; exact k
/-- a comprehension that changes the table: what holds behind each item -/
theorem lcL_inv {is vs : List Nat} {t : WTs} {we : WE} {env : Ev} (I : Nat → List D → Mt → Prop) {ds : List D} {M : Mt} {R : List D → Mt → Prop} (hl : ds.length ≤ sizeLine) (h0 : I 0 [] M)
    (hs : ∀ (i : Nat) (d : D) (acc : List D) (M : Mt) (A : D → Mt → Prop) (C : Mt → Prop), ds[i]? = some d → I i acc M → (∀ y M3, I (i + 1) (acc ++ [y]) M3 → A y M3) → (∀ M3, I (i + 1) acc M3 → C M3) →
      bnd is d (wipeE env vs) fun env1 => t env1 M fun b M2 => ifB b (we env1 M2 A) (C M2))
    (hd : ∀ acc M, acc.length ≤ ds.length → I ds.length acc M → R acc M) : lcL is t we vs env ds [] M R := by
  have key : ∀ (n i : Nat), i + n = ds.length → ∀ acc M, acc.length ≤ i → I i acc M → lcL is t we vs env (ds.drop i) acc M R := by
    intro n
    induction n with
    | zero =>
      intro i hi acc M ha h
      rw [List.drop_eq_nil_of_le (by omega)]
      have : i = ds.length := by omega
      subst this
      exact hd _ _ ha h
    | succ n ih =>
      intro i hi acc M ha h
      have hlt : i < ds.length := by omega
      rw [List.drop_eq_getElem_cons hlt]
      exact hs i _ acc M _ _ (List.getElem?_eq_getElem hlt) h (fun y M3 h3 => ⟨⟨by omega⟩, ih (i + 1) (by omega) _ _ (by simp; omega) h3⟩) fun M3 h3 => ih (i + 1) (by omega) _ _ (by omega) h3
  have := key ds.length 0 (by omega) [] M (Nat.le_refl _) h0
  simpa using this
end
end L3

namespace L3
open PySem PySem.Spec PyProof.Rows L2
/-! ### promises that hold where no guard of a repr stands -/
section
variable {P : Program} {w : World} {K : PySem.W.Frag} {mg : Str → Option Value} {base : Heap} {CX : CXT}
/-- what a def promises to callers around which nothing is being told -/
structure FnG (P : Program) (w : World) (K : PySem.W.Frag) (mg : Str → Option Value) (base : Heap) (CX : CXT) (k : Nat) (f : Addr) (fd : FuncData) (ps : List Str) (sp : Sp) : Prop where
  len : ∀ vs H Q E, sp vs H Q E → vs.length = ps.length
  run : ∀ (A : Around) (outer : List Env) (s : Shared) (H : Hp) (args : Args) (us : List Value) (vs : List V) (Q : VK) (E : XK), A.guards = some [] → Room k A → Env0 P w K mg base A outer s H →
    BindsTo s fd args (ps.zip us) → Vals vs us → sp vs H Q E → codeAny (model P w) A (.call (.ref f) args) (CR CX outer P w H s Q E) s
theorem FnG.of {k : Nat} {f : Addr} {fd : FuncData} {ps : List Str} {sp : Sp} (F : FnOk P w K mg base CX k f fd ps sp) : FnG P w K mg base CX k f fd ps sp :=
  ⟨F.len, fun A outer s H args us vs Q E _ => F.run A outer s H args us vs Q E⟩
theorem FnG.mono {j k : Nat} {f : Addr} {fd : FuncData} {ps : List Str} {sp : Sp} (F : FnG P w K mg base CX j f fd ps sp) (h : j ≤ k) : FnG P w K mg base CX k f fd ps sp :=
  ⟨F.len, fun A outer s H args us vs Q E hg hr => F.run A outer s H args us vs Q E hg (hr.mono h)⟩
/-- a def by its body -/
theorem fnG_of {x qual : Str} {st : Stmt} {f : Addr} {fd : FuncData} {N ps : List Str} {k : Nat} {sp : Sp} (F : Fun K x qual st f fd) (sc : FnScope N ps (defScope st)) (len : ∀ vs H Q E, sp vs H Q E → vs.length = ps.length)
    (body : ∀ (cdv : Value) (A : Around) (outer : List Env) (s : Shared) (H : Hp) (vs : List V) (Q : VK) (E : XK), A.guards = some [] → Room k (A.deeper (envOfC qual (defScope st) s.heap.objs.size f cdv)) → sp vs H Q E →
      ∃ t, PSs (cxOf CX P w K mg base N qual (defScope st) f cdv A outer s H E) (defBody st) t ∧ t { nx := fun _ H' => Q .non H', rt := Q } (start N vs) H) : FnG P w K mg base CX (k + 1) f fd ps sp := by
  obtain ⟨oc, od, kV, doc, pm, an, cdv, ct, osl, rfl, look, code⟩ := F.ex
  constructor
  · exact len
  intro A outer s H args us vs Q E hg room env0 binds vals asked
  have inK : K.In s.heap := (env0.mod.kin).keeps fun b o at_b => (env0.bs b o at_b).1
  have free : s.heap.NoLimit := (env0.mod.nolimit).keeps fun b o at_b => (env0.bs b o at_b).1
  have kinds : ∀ z ∈ ps.zip us, (defScope st).names.lookup z.1 = some .local ∨ ((defScope st).names.lookup z.1 = some .cell ∧ ((cellsFrom (s.heap.objs.size + 1) (defScope st).names []).lookup z.1).isSome = true) := by
    rintro ⟨n, v⟩ hz
    cases sc.par n (List.of_mem_zip hz).1 with
    | inl q => exact Or.inl q
    | inr q => exact Or.inr (And.intro q (PySem.W.cellsFrom_some _ _ _ (Or.inl q)))
  apply codeAny_call_function room.depth (inK _ _ look) rfl sc.co sc.gen rfl (PySem.W.codeRec_of inK code)
  apply binds
  apply wpAny_newFunctionEnv_cells sc.kind kinds
  intro env is_env s1 inside
  subst is_env
  constructor
  · exact free.keeps inside.toInCall.keep
  apply codeAny_func
  obtain ⟨t, walk, start_ok⟩ := body cdv A outer s H vs Q E hg (room.deeper _) asked
  have inv0 := inv_start (CX := CX) (E := E) (qual := qual) (f := f) (cd := cdv) sc room.hd env0 (len _ _ _ _ asked) vals inside
  have ran := walk.run [] s1 (start N vs) H _ inv0 start_ok
  refine wpAny_mono ran ?_ ?_
  · intro flow s2 got
    cases flow with
    | next =>
      obtain ⟨σ2, H2, J, q⟩ := got
      exact ⟨.non, H2, J.os, J.bare, J.base, J.hok, rfl, q⟩
    | ret u =>
      obtain ⟨v, σ2, H2, J, rv, q⟩ := got
      exact ⟨v, H2, J.os, J.bare, J.base, J.hok, rv, q⟩
    | brk => obtain ⟨_, _, _, no⟩ := got; exact no.elim
    | cont => obtain ⟨_, _, _, no⟩ := got; exact no.elim
  · exact fun e s2 got => got
end
end L3
namespace L3
open PySem PySem.Spec PyProof.Rows L2
section
variable {X : Cx} {B : Bs} {CX : CXT} {k : Nat} {f : Addr} {fd : FuncData} {ps : List Str} {sp : DSp} {x : Str} {p pos : Pos} {e : Expr} {es : List Expr} {was : WA} {RX : RXe}
/-- such a def is called -/
theorem run_G {sq : Sp} {E : XK} {pins : List (Addr × Obj)} {σ : L2.St} {H : Hp} {s : Shared} {Q : VK} {us : List Value} {vs : List V} (F : FnG X.prog X.w X.K X.mg X.base CX k f fd ps sq) (quiet : X.A.guards = some []) (room : Room k X.A) (binds : Binds X.K fd ps [])
    (pass : PassesAt CX X σ E) (I : Inv X pins σ H s) (r : Vals vs us) (asked : sq vs H Q E) : wpAny (model X.prog X.w) X.A (call (.ref f) us) (EP X pins σ Q) X.xe s := by
  have many : us.length = (ps ++ []).length - ([] : List Value).length := by rw [← r.length, F.len _ _ _ _ asked]; simp
  have bound := binds s us I.kIn (by simp only [List.append_nil, List.length_nil, Nat.sub_zero] at many ⊢; exact many)
  simp only [List.append_nil] at bound
  apply wpAny_call
  apply codeAny_mono (F.run X.A X.stack s H ⟨us, []⟩ us vs Q E quiet room I.env0 bound r asked)
  intro res s2 got
  match res, got with
  | .error err, got => exact pass pins H s err s2 I got
  | .ok (.ret u), got => exact I.after got
  | .ok .next, got => exact got.elim
  | .ok .brk, got => exact got.elim
  | .ok .cont, got => exact got.elim
theorem d_callG (F : FnG X.prog X.w X.K X.mg X.base CX k f fd ps (toSp X.K sp)) (quiet : X.A.guards = some []) (room : Room k X.A) (pass : Rz X B CX RX) (hg : Gl X x) (hm : X.mg x = some (.ref f)) (hk : PySem.W.keepIn X.K (.ref f) = true) (hb : Binds X.K fd ps [])
    (ha : DA B X (e :: es) was) (hdb : (x == ("__debug__" : Str)) = false := by decide) (he : starEach (e :: es) X.env = (false, eval e X.env) :: starEach es X.env := by rfl) (hpl : (backTo pos (starEach es X.env)).any (·.1) = false := by rfl) :
    DE B X (.Call (.Name x p) (e :: es) [] pos) (wCallX sp [] RX was) := by
  constructor
  rintro pins s σ H Q I ⟨P, al, M, env, R, rs, hw, L⟩
  apply wpAny_Call_Name_kw (ld_glob I hg hm ?_ hdb)
  apply PySem.W.callWith_K (h₀ := X.base) I.ok.mod.kin hk ?_ he hpl
  refine thn (ha.run pos pins s σ H (fun vs H1 => toSp X.K sp vs H1 Q (L2.WE (WL X.K B RX) σ)) I ⟨P, al, M, env, _, rs, hw, ?_⟩) ?_
  · intro ds M1 vs H1 P1 al1 e1 rs1 r1 q
    rw [List.append_nil] at q
    exact sp_at rs1 r1 (L.after e1) q
  · rintro us s1 ⟨vs, H1, I1, r, q⟩
    exact ⟨I1.kIn, run_G F quiet room hb (pass _) I1 r q⟩
end
section
variable {P : Program} {w : World} {K : PySem.W.Frag} {mg : Str → Option Value} {base : Heap}
/-- a def whose body asks for repr -/
theorem dfnG {x qual : Str} {st : Stmt} {f : Addr} {fd : FuncData} {N ps : List Str} {k : Nat} {sp : DSp} (F : Fun K x qual st f fd) (S : FnScope N ps (defScope st)) (len : ∀ ds M R RX, sp ds M R RX → ds.length = ps.length)
    (body : ∀ (B : Bs) (cdv : Value) (A : Around) (outer : List Env) (s : Shared) (H : Hp) (E : XK), A.guards = some [] → Room k (A.deeper (envOfC qual (defScope st) s.heap.objs.size f cdv)) →
      ∃ wb : RXe → WS, (∀ RX : RXe, Takes (cxOf (L2.CX P w) P w K mg base N qual (defScope st) f cdv A outer s H E) (WL K B RX) → DSs B (cxOf (L2.CX P w) P w K mg base N qual (defScope st) f cdv A outer s H E) (defBody st) (wb RX)) ∧
        ∀ ds M R RX, sp ds M R RX → M.all (cellOk M.length) = true → noCels M.length ds = true → wb (fun nm fs _ M' => rxF M.length RX nm fs M') (fnEnds M.length R) (startE N.length ds) M) :
    FnG P w K mg base (L2.CX P w) (k + 1) f fd ps (toSp K sp) := by
  refine fnG_of F S (fun vs H Q E h => ?_) (fun cdv A outer s H vs Q E quiet hr h => ?_)
  · obtain ⟨P, al, M, ds, R, RX, _, r, hs, _⟩ := h
    rw [← r.length]; exact len _ _ _ _ hs
  · obtain ⟨Pp, al, M, ds, R, RX, r0, r, hs, L, LX⟩ := h
    obtain ⟨wb, hb, hw⟩ := body (Pp, al, H) cdv A outer s H E quiet hr
    have el := r0.len
    have fin : ∀ d M' v H' P' al', Ext Pp al H P' al' H' → RS0 K (Pp, al, H) P' al' M' H' → Rep K P' al' d v → retF M.length R d M' → Q v H' := fun d M' v H' P' al' e r' rd q => by
      cases q with
      | keep q => exact L d M' v H' P' al' e r' rd q
      | less q1 q2 q3 =>
        rw [← el] at q1 q2 q3
        refine L d _ v H' P' al ⟨e.pp, List.prefix_refl _, e.fr, fun b m n => absurd m n, e.pn⟩ (r'.drop fun i m hi hm => ?_) (rd.cut e.pre q1) q3
        exact List.all_eq_true.mp q2 m (List.mem_of_getElem? (by rw [List.getElem?_take_of_lt hi]; exact hm))
    have finX : ∀ C nm fs M' H' P' al' dd, Ext Pp al H P' al' H' → RS0 K (Pp, al, H) P' al' M' H' → ClsAt K nm C → XdOk K P' al' H' fs dd → rxF M.length RX nm fs M' → E (.ref C) dd H' := fun C nm fs M' H' P' al' dd e r' c xd q => by
      cases q with
      | keep q => exact LX C nm fs M' H' P' al' dd e r' c xd q
      | less q1 q2 q3 =>
        rw [← el] at q1 q2 q3
        refine LX C nm fs _ H' P' al dd ⟨e.pp, List.prefix_refl _, e.fr, fun b m n => absurd m n, e.pn⟩ (r'.drop fun i m hi hm => ?_) c (xd.cut e.pre q1) q3
        exact List.all_eq_true.mp q2 m (List.mem_of_getElem? (by rw [List.getElem?_take_of_lt hi]; exact hm))
    obtain ⟨s1, s2⟩ := start_slots (N := N) r
    refine ⟨_, hb _ ((takes_of rfl rfl rfl rfl).imp fun c d σ H' h => ?_), Pp, al, M, _, _, ⟨r0, s1, s2⟩, hw ds M R RX hs r0.inside (by rw [← el]; exact r.inside), ⟨fun env' M' σ' H' P' al' e rs q => fin _ _ _ _ _ _ e rs.toRS0 .non q, fun d M' v H' P' al' e rs rd q => fin _ _ _ _ _ _ e rs rd q, fun _ _ _ _ _ _ _ _ z => z.elim, fun _ _ _ _ _ _ _ _ z => z.elim⟩⟩
    obtain ⟨C, nm, fs, env, P', al', M', rfl, c, rs, xd, q⟩ := h
    exact finX C nm fs M' H' P' al' d rs.base rs.toRS0 c xd q
end
end L3

namespace L3
open PySem PySem.Spec PyProof.Rows L2
/-! ### the end of a law whose promise is a quiet one -/
section
/-- the law at its script, in a heap where no more than the script is tracked -/
theorem lawG_at {P : Program} {w : World} {K : PySem.W.Frag} {mg mb : Str → Option Value} {CX : CXT} {k : Nat} {fa a : Addr} {fd : FuncData} {x : Str} {sp : Sp} {s : Shared} {vs : List Value} {H : Hp}
    (inK : K.In s.heap) (glob : s.heap.Ns mainGlobals mg) (bi : s.heap.Ns builtinsNs mb) (boot : ∀ x : Str, x ≠ "__name__" → mb x = bootBuiltins x) (free : s.heap.NoLimit) (none_yet : s.gens = #[])
    (script : s.heap.get? a = some { cls := .type "list", data := .seq vs.toArray }) (room : Room k callerA)
    (F : ∀ base : Heap, K.In base → base.Ns mainGlobals mg → FnG P w K mg base CX k fa fd [x] sp) (binds : ∀ (s : Shared) (u : Value), BindsTo s fd ⟨[u], []⟩ [(x, u)])
    (asked : sp [.ref a] H (fun v _ => v = .bl true) fun _ _ _ => False) (clean : ∀ e s', CX [] H s (fun _ _ _ => False) e s' → False)
    (only : Only H) (ok : HOk P w H s.heap) (alone : ∀ b, H b ≠ none → b = a) (apart : H a ≠ none → K.lookup a = none) :
    codeAny (model P w) callerA (.call (.ref fa) ⟨[.ref a], []⟩) (fun r s' => r = .ok (.ret (.bool true)) ∧ OldK s.heap s'.heap ∧ s'.os = s.os ∧ AllBare s'.gens) s := by
  -- what is no dict of the script's stays in the written part
  have untracked : ∀ {b : Addr} {o : Obj} {es : Array DictEntry} {ep : Nat}, s.heap.get? b = some o → o.data = .dict es ep → H b = none := by
    intro b o es ep at_b is_dict
    by_cases hb : H b = none
    · exact hb
    · obtain rfl := alone b hb
      rw [script] at at_b
      cases at_b
      cases is_dict
  have kept_ns : ∀ {b : Addr} {m : Str → Option Value}, s.heap.Ns b m → (hidT s.heap H).Ns b m := by
    rintro b m ⟨o, es, ep, at_b, is_dict, rest⟩
    exact ⟨o, es, ep, hidT_get at_b (untracked at_b is_dict), is_dict, rest⟩
  have in_base : K.In (hidT s.heap H) := by
    intro b o at_b
    apply hidT_get (inK b o at_b)
    by_cases hb : H b = none
    · exact hb
    · obtain rfl := alone b hb
      rw [apart hb] at at_b
      cases at_b
  have lim : (hidT s.heap H).NoLimit := by
    obtain ⟨mc, q1, q2⟩ := free
    exact ⟨mc, kept_ns q1, q2⟩
  have module : Mod K mg (hidT s.heap H) := ⟨in_base, kept_ns glob, ⟨mb, kept_ns bi, boot⟩, lim⟩
  have start_env : Env0 P w K mg (hidT s.heap H) callerA [] s H := by
    refine ⟨rfl, module, fun b o at_b => of_hidT at_b, Nat.le_of_eq (hidT_size _ _), trivial, ?_, ok, AllBare.of_eq none_yet⟩
    intro b hb
    cases (show b ∈ ([] : List Addr) from hb)
  have ran := (F _ in_base (kept_ns glob)).run callerA [] s H ⟨[.ref a], []⟩ [.ref a] [.ref a] _ _ rfl room start_env (binds s (.ref a)) (.cons rfl .nil) asked
  refine codeAny_mono ran ?_
  intro r s' got
  match r, got with
  | .error e, got => exact (clean e s' got).elim
  | .ok .next, got => exact got.elim
  | .ok .brk, got => exact got.elim
  | .ok .cont, got => exact got.elim
  | .ok (.ret u), got =>
    obtain ⟨v, H2, same_os, bare, un, ok2, rv, is_true⟩ := got
    have is_true' : v = .bl true := is_true
    subst is_true'
    have eu : u = Value.bool true := rv
    subst eu
    refine ⟨rfl, OldK.of_keep ?_, same_os, bare⟩
    intro b o at_b
    cases hb : H b with
    | none => exact un.keep b o at_b hb (fun z => by cases (show b ∈ ([] : List Addr) from z)) (by simp)
    | some u =>
      cases only b with
      | inl z => rw [hb] at z; cases z
      | inr z =>
        obtain ⟨ob, xs, z⟩ := z
        obtain ⟨e1, _⟩ := ok b _ z
        obtain ⟨e2, _⟩ := ok2 b _ (un.frzs b ob _ z)
        rw [at_b] at e1
        cases e1
        exact e2
theorem lawG_call {P : Program} {w : World} {K : PySem.W.Frag} {mg mb : Str → Option Value} {CX : CXT} {k : Nat} {fa a : Addr} {fd : FuncData} {x : Str} {sp : Sp} {s : Shared} {vs : List Value} {ns : List Int}
    (inK : K.In s.heap) (glob : s.heap.Ns mainGlobals mg) (bi : s.heap.Ns builtinsNs mb) (boot : ∀ x : Str, x ≠ "__name__" → mb x = bootBuiltins x) (free : s.heap.NoLimit) (none_yet : s.gens = #[])
    (script : s.heap.get? a = some { cls := .type "list", data := .seq vs.toArray }) (whole : IntsAre vs ns) (few : ns.length ≤ sizeLine) (room : Room k callerA)
    (F : ∀ base : Heap, K.In base → base.Ns mainGlobals mg → FnG P w K mg base CX k fa fd [x] sp) (binds : ∀ (s : Shared) (u : Value), BindsTo s fd ⟨[u], []⟩ [(x, u)])
    (asked : ∀ H : Hp, Only H → SqL K H a (ns.map V.int) → sp [.ref a] H (fun v _ => v = .bl true) fun _ _ _ => False) (clean : ∀ H e s', CX [] H s (fun _ _ _ => False) e s' → False) :
    codeAny (model P w) callerA (.call (.ref fa) ⟨[.ref a], []⟩) (fun r s' => r = .ok (.ret (.bool true)) ∧ OldK s.heap s'.heap ∧ s'.os = s.os ∧ AllBare s'.gens) s := by
  have vals := vals_ints whole
  have long := whole.length
  by_cases written : ∃ o, K.lookup a = some o
  · obtain ⟨o, at_a⟩ := written
    have there := inK a o at_a
    rw [script] at there
    cases there
    have only : Only fun _ => none := fun _ => Or.inl rfl
    refine lawG_at (H := fun _ => none) inK glob bi boot free none_yet script room F binds (asked _ only ?_) (clean _) only ?_ (fun b z => absurd rfl z) (fun z => absurd rfl z)
    · exact Or.inr ⟨_, vs.toArray, _, at_a, rfl, rfl, rfl, by rw [List.size_toArray, long]; exact few, by simpa using vals⟩
    · intro b u z
      cases (show (none : Option HO) = some u from z)
  · have not_there : K.lookup a = none := by
      cases h : K.lookup a with
      | none => rfl
      | some o => exact absurd ⟨o, h⟩ written
    obtain ⟨H, hH⟩ : ∃ H : Hp, H = fun b => if b = a then some (.frz { cls := .type "list", data := .seq vs.toArray } (.lst (ns.map V.int))) else none := ⟨_, rfl⟩
    have at_a : H a = some (.frz { cls := .type "list", data := .seq vs.toArray } (.lst (ns.map V.int))) := by rw [hH]; exact if_pos rfl
    have off_a : ∀ b, b ≠ a → H b = none := fun b hb => by rw [hH]; exact if_neg hb
    have only : Only H := by
      intro b
      by_cases hb : b = a
      · subst hb; exact Or.inr ⟨_, _, at_a⟩
      · exact Or.inl (off_a b hb)
    refine lawG_at (H := H) inK glob bi boot free none_yet script room F binds (asked _ only ?_) (clean _) only ?_ ?_ (fun _ => not_there)
    · exact Or.inl (Or.inr ⟨_, at_a⟩)
    · intro b u z
      by_cases hb : b = a
      · subst hb
        rw [at_a] at z
        cases z
        exact ⟨script, by rw [List.length_map]; exact few, vs, _, vals, script⟩
      · rw [off_a b hb] at z; cases z
    · intro b z
      by_cases hb : b = a
      · exact hb
      · exact absurd (off_a b hb) z
end
end L3

namespace L3
open PySem PySem.Spec PyProof.Rows PyProof.V L2
/-! ### repr of data -/
mutual
theorem dp_nodict {K : PySem.W.Frag} {H : Hp} : ∀ {v : V} {p : PyData}, Dp K H v p → p.hasDict = false
  | _, _, .non => by simp [PyData.hasDict]
  | _, _, .bl b => by simp [PyData.hasDict]
  | _, _, .int i => by simp [PyData.hasDict]
  | _, _, .str x => by simp [PyData.hasDict]
  | _, _, .lst _ h => by simpa [PyData.hasDict] using dpAll_nodict h
  | _, _, .tup _ h => by simpa [PyData.hasDict] using dpAll_nodict h
theorem dpAll_nodict {K : PySem.W.Frag} {H : Hp} : ∀ {vs : List V} {ps : List PyData}, DpAll K H vs ps → PyData.hasDictAll ps = false
  | _, _, .nil => by simp [PyData.hasDictAll]
  | _, _, .cons h t => by simp [PyData.hasDictAll, dp_nodict h, dpAll_nodict t]
end
/-- scalars -/
def scal : D → Option PyData
  | .non => some .none
  | .bl b => some (.bool b)
  | .int i => some (.int i)
  | .str s => some (.str s)
  | _ => none
def keyP : Key → PyData
  | .inl i => .int i
  | .inr s => .str s
theorem key_reads {h : Heap} (k : Key) (u : Value) (e : keyIs k u = true) : Reads h u (keyP k) [] := by
  rcases keyIs_shape e with ⟨i, t, rfl, rfl⟩ | ⟨x, t, rfl, rfl⟩
  · exact .int i t
  · exact .str x t
def RpOk (p : PyData) : Prop := p.showable = true ∧ p.depth ≤ 60 ∧ p.shown.length ≤ sizeLine
end L3

namespace L3
open PySem PySem.Spec PyProof.Rows L2
/-! ### try with several clauses, each with a name or without -/
abbrev Clause := Value × Option Nat × (Addr → Value → Option Addr → TS)
/-- the ends of a suite whose name is given up behind it -/
def gone (i : Nat) (D : Ends) : Ends := ⟨fun σ H => D.nx (σ.set i none) H, D.rt, fun σ H => D.bk (σ.set i none) H, fun σ H => D.ct (σ.set i none) H⟩
/-- what the clauses ask of an error, the first that fits -/
def wCls (K : PySem.W.Frag) (out : WX) (D : Ends) : List Clause → WX
  | [] => out
  | (c, o, ts) :: r => fun cls d σ H => ∃ b, PySem.W.exmOne K cls c = some b ∧ (b = false → wCls K out D r cls d σ H) ∧
      (b = true → ∀ a, H a = none → match o with
        | some i => ts a cls d (gone i D) (σ.set i (some (.ref a))) H
        | none => ts a cls d D σ H)
inductive ClsOk (X : Cx) : List ExceptHandler → List Clause → Prop
  | nil : ClsOk X [] []
  | named {x n : Str} {c : Value} {i : Nat} {ts : Addr → Value → Option Addr → TS} {b₀ : Stmt} {suite : List Stmt} {np hp : Pos} {hs : List ExceptHandler} {l : List Clause} (names : Names X x c) (slot : X.N[i]? = some n) (kind : X.env.kindOf n = some .local)
      (walk : ∀ (a : Addr) (oe : Obj) (cls : Value) (d : Option Addr) (pn : List (Addr × Obj)), Zc cls d oe → (∃ vs, oe.data = .fields vs) → PSs (X.suite a ((a, oe) :: pn)) (b₀ :: suite) (ts a cls d)) (rest : ClsOk X hs l) :
      ClsOk X (.ExceptHandler (some (.Name x np)) (some n) (b₀ :: suite) hp :: hs) ((c, some i, ts) :: l)
  | bare {x : Str} {c : Value} {ts : Addr → Value → Option Addr → TS} {b₀ : Stmt} {suite : List Stmt} {np hp : Pos} {hs : List ExceptHandler} {l : List Clause} (names : Names X x c)
      (walk : ∀ (a : Addr) (oe : Obj) (cls : Value) (d : Option Addr) (pn : List (Addr × Obj)), Zc cls d oe → (∃ vs, oe.data = .fields vs) → PSs (X.suite a ((a, oe) :: pn)) (b₀ :: suite) (ts a cls d)) (rest : ClsOk X hs l) :
      ClsOk X (.ExceptHandler (some (.Name x np)) none (b₀ :: suite) hp :: hs) ((c, none, ts) :: l)
section
variable {X : Cx} {body : List Stmt} {first : ExceptHandler} {hs : List ExceptHandler} {l : List Clause} {pos : Pos} {tb : WX → TS} {out : WX}
end
end L3

namespace L3
open PySem PySem.Spec PyProof.Rows L2
/-! ### the same over data -/
abbrev DCl := (Str → Bool) × Option Nat × (Addr → Str → List (Str × D) → WS)
def pickC (k : DEnds) (RX : RXe) : List DCl → RXe
  | [] => RX
  | (sub, o, ws) :: r => fun n fs env M => ifB (sub n) (∀ a : Addr, match o with
      | some i => ws a n fs (outE i k) (env.set i (some (.adr a))) M
      | none => ws a n fs k env M) (pickC k RX r n fs env M)
inductive ClsD (X : Cx) (ok : List Str) : List ExceptHandler → List DCl → Prop
  | nil : ClsD X ok [] []
  | named {x n : Str} {Cc : Addr} {i : Nat} {sub : Str → Bool} {ws : Addr → Str → List (Str × D) → WS} {b₀ : Stmt} {suite : List Stmt} {np hp : Pos} {hs : List ExceptHandler} {cl : List DCl} (names : Names X x (.ref Cc)) (slot : X.N[i]? = some n) (kind : X.env.kindOf n = some .local)
      (hsub : ∀ n C, n ∈ ok → ClsAt X.K n C → PySem.W.exmOne X.K (.ref C) (.ref Cc) = some (sub n))
      (walk : ∀ (B' : Bs) (a C : Addr) (oe : Obj) (n : Str) (fs : List (Str × D)) (d : Option Addr) (pn : List (Addr × Obj)), Zc (.ref C) d oe → (∃ vs, oe.data = .fields vs) → ClsAt X.K n C → n ∈ ok → sub n = true → XdOk X.K B'.1 B'.2.1 B'.2.2 fs d → DSs B' (X.suite a ((a, oe) :: pn)) (b₀ :: suite) (ws a n fs)) (rest : ClsD X ok hs cl) :
      ClsD X ok (.ExceptHandler (some (.Name x np)) (some n) (b₀ :: suite) hp :: hs) ((sub, some i, ws) :: cl)
  | bare {x : Str} {Cc : Addr} {sub : Str → Bool} {ws : Addr → Str → List (Str × D) → WS} {b₀ : Stmt} {suite : List Stmt} {np hp : Pos} {hs : List ExceptHandler} {cl : List DCl} (names : Names X x (.ref Cc))
      (hsub : ∀ n C, n ∈ ok → ClsAt X.K n C → PySem.W.exmOne X.K (.ref C) (.ref Cc) = some (sub n))
      (walk : ∀ (B' : Bs) (a C : Addr) (oe : Obj) (n : Str) (fs : List (Str × D)) (d : Option Addr) (pn : List (Addr × Obj)), Zc (.ref C) d oe → (∃ vs, oe.data = .fields vs) → ClsAt X.K n C → n ∈ ok → sub n = true → XdOk X.K B'.1 B'.2.1 B'.2.2 fs d → DSs B' (X.suite a ((a, oe) :: pn)) (b₀ :: suite) (ws a n fs)) (rest : ClsD X ok hs cl) :
      ClsD X ok (.ExceptHandler (some (.Name x np)) none (b₀ :: suite) hp :: hs) ((sub, none, ws) :: cl)
/-- a suite's wish, the error's data put in -/
def tsOf (K : PySem.W.Frag) (ok : List Str) (sub : Str → Bool) (ws : Addr → Str → List (Str × D) → WS) : Addr → Value → Option Addr → TS := fun a cls d D σ H =>
  ∃ B' C n fs, cls = .ref C ∧ ClsAt K n C ∧ n ∈ ok ∧ sub n = true ∧ XdOk K B'.1 B'.2.1 B'.2.2 fs d ∧ tDS K B' (ws a n fs) D σ H
theorem ClsD.go {X : Cx} {ok : List Str} {hs : List ExceptHandler} {cl : List DCl} (c : ClsD X ok hs cl) : ∃ l : List Clause, ClsOk X hs l ∧
    ∀ {B : Bs} {P P' : Hp} {al al' : List Addr} {H H' : Hp} {k : DEnds} {D : Ends} {RX : RXe} {C : Addr} {nm : Str} {fs : List (Str × L3.D)} {env' : Ev} {M' : Mt} {σ' : L2.St} {d : Option Addr}, DLift X.K B P al H k D → Ext B.1 B.2.1 B.2.2 P al H → ClsAt X.K nm C → nm ∈ ok →
      RS X.K (P, al, H) P' al' M' env' σ' H' → XdOk X.K P' al' H' fs d → pickC k RX cl nm fs env' M' → wCls X.K (WL X.K B RX) D l (.ref C) d σ' H' := by
  induction c with
  | nil =>
    refine ⟨[], .nil, ?_⟩
    intro B P P' al al' H H' k D RX C nm fs env' M' σ' d L base ca ho rs xd q
    exact ⟨C, nm, fs, env', P', al', M', rfl, ca, ⟨rs.toRS0.rebase (base.trans rs.base), rs.slen, rs.slot⟩, xd, q⟩
  | @named x n Cc i sub ws b₀ suite np hp hs cl names slot kind hsub walk rest ih =>
    obtain ⟨l, h1, h2⟩ := ih
    refine ⟨(.ref Cc, some i, tsOf X.K ok sub ws) :: l, .named names slot kind (fun a oe cls d pn hz hd => ⟨?_⟩) h1, ?_⟩
    · rintro pins s σ H D I ⟨B', C, n, fs, ec, ca, ho, hb, xd, h⟩
      subst ec
      exact (walk B' a C oe n fs d pn hz hd ca ho hb xd).run pins s σ H D I h
    · intro B P P' al al' H H' k D RX C nm fs env' M' σ' d L base ca ho rs xd q
      refine ⟨sub nm, hsub nm C ho ca, fun hb => h2 L base ca ho rs xd (q.2 hb), fun hb a na => ?_⟩
      have e0 : Ext P al H P' al' H' := rs.base
      have rs2 : RS X.K (P', al', H') P' al' M' env' σ' H' := ⟨rs.toRS0.here, rs.slen, rs.slot⟩
      refine ⟨(P', al', H'), C, nm, fs, rfl, ca, ho, hb, xd, P', al', M', _, outE i k, rs2.put i (.adr a), q.1 hb a, ⟨fun env2 M2 σ2 H2 P2 al2 e rs3 q3 => ?_, fun d M2 v H2 P2 al2 e rs3 r q3 => ?_, fun env2 M2 σ2 H2 P2 al2 e rs3 q3 => ?_, fun env2 M2 σ2 H2 P2 al2 e rs3 q3 => ?_⟩⟩
      · have rs4 := rs3.drp i
        exact L.nx _ _ _ _ _ _ (e0.trans e) ⟨rs4.toRS0.rebase (base.trans (e0.trans e)), rs4.slen, rs4.slot⟩ q3
      · exact L.rt _ _ _ _ _ _ (e0.trans e) (rs3.rebase (base.trans (e0.trans e))) r q3
      · have rs4 := rs3.drp i
        exact L.bk _ _ _ _ _ _ (e0.trans e) ⟨rs4.toRS0.rebase (base.trans (e0.trans e)), rs4.slen, rs4.slot⟩ q3
      · have rs4 := rs3.drp i
        exact L.ct _ _ _ _ _ _ (e0.trans e) ⟨rs4.toRS0.rebase (base.trans (e0.trans e)), rs4.slen, rs4.slot⟩ q3
  | @bare x Cc sub ws b₀ suite np hp hs cl names hsub walk rest ih =>
    obtain ⟨l, h1, h2⟩ := ih
    refine ⟨(.ref Cc, none, tsOf X.K ok sub ws) :: l, .bare names (fun a oe cls d pn hz hd => ⟨?_⟩) h1, ?_⟩
    · rintro pins s σ H D I ⟨B', C, n, fs, ec, ca, ho, hb, xd, h⟩
      subst ec
      exact (walk B' a C oe n fs d pn hz hd ca ho hb xd).run pins s σ H D I h
    · intro B P P' al al' H H' k D RX C nm fs env' M' σ' d L base ca ho rs xd q
      refine ⟨sub nm, hsub nm C ho ca, fun hb => h2 L base ca ho rs xd (q.2 hb), fun hb a na => ?_⟩
      have e0 : Ext P al H P' al' H' := rs.base
      have rs2 : RS X.K (P', al', H') P' al' M' env' σ' H' := ⟨rs.toRS0.here, rs.slen, rs.slot⟩
      refine ⟨(P', al', H'), C, nm, fs, rfl, ca, ho, hb, xd, P', al', M', _, k, rs2, q.1 hb a, ⟨fun env2 M2 σ2 H2 P2 al2 e rs3 q3 => ?_, fun d M2 v H2 P2 al2 e rs3 r q3 => ?_, fun env2 M2 σ2 H2 P2 al2 e rs3 q3 => ?_, fun env2 M2 σ2 H2 P2 al2 e rs3 q3 => ?_⟩⟩
      · exact L.nx _ _ _ _ _ _ (e0.trans e) ⟨rs3.toRS0.rebase (base.trans (e0.trans e)), rs3.slen, rs3.slot⟩ q3
      · exact L.rt _ _ _ _ _ _ (e0.trans e) (rs3.rebase (base.trans (e0.trans e))) r q3
      · exact L.bk _ _ _ _ _ _ (e0.trans e) ⟨rs3.toRS0.rebase (base.trans (e0.trans e)), rs3.slen, rs3.slot⟩ q3
      · exact L.ct _ _ _ _ _ _ (e0.trans e) ⟨rs3.toRS0.rebase (base.trans (e0.trans e)), rs3.slen, rs3.slot⟩ q3
end L3

namespace L3
open PySem PySem.Spec PyProof.Rows L2
/-! ### in, of a dict or of a row -/
/-! ### constants of a class -/
/-! ### tables of classes -/
inductive TabOk (K : PySem.W.Frag) (C : Addr) : List (Str × Bool) → Prop
  | nil : TabOk K C []
  | cons {c : Str} {r : Bool} {Cc : Addr} {tb : List (Str × Bool)} : ClsAt K c Cc → PySem.W.kitOne K (.ref C) (.ref Cc) = some r → TabOk K C tb → TabOk K C ((c, r) :: tb)
theorem TabOk.look {K : PySem.W.Frag} {C : Addr} {tb : List (Str × Bool)} (t : TabOk K C tb) : ∀ c r Cc, tb.lookup c = some r → ClsAt K c Cc → PySem.W.kitOne K (.ref C) (.ref Cc) = some r := by
  induction t with
  | nil => intro c r Cc h; cases h
  | @cons c' r' Cc' tb ca k t ih =>
    intro c r Cc h hc
    rw [List.lookup_cons] at h
    split at h
    · rename_i e
      obtain rfl : c = c' := by simpa using e
      cases h
      obtain rfl := ca.one hc
      exact k
    · exact ih c r Cc h hc
/-- which of the classes ok are caught by 'except n0' -/
inductive ExTab (K : PySem.W.Frag) (Cc : Addr) (n0 : Str) : List Str → Prop
  | nil : ExTab K Cc n0 []
  | cons {m : Str} {C : Addr} {ok : List Str} : ClsAt K m C → PySem.W.exmOne K (.ref C) (.ref Cc) = some (decide (m = n0)) → ExTab K Cc n0 ok → ExTab K Cc n0 (m :: ok)
theorem ExTab.look {K : PySem.W.Frag} {Cc : Addr} {n0 : Str} {ok : List Str} (t : ExTab K Cc n0 ok) : ∀ n C, n ∈ ok → ClsAt K n C → PySem.W.exmOne K (.ref C) (.ref Cc) = some (decide (n = n0)) := by
  induction t with
  | nil => intro n C h; cases h
  | @cons m Cm ok ca e t ih =>
    intro n C h hc
    rcases List.mem_cons.mp h with rfl | h
    · obtain rfl := ca.one hc
      exact e
    · exact ih n C h hc
end L3

namespace L3
open PySem PySem.Spec PyProof.Rows L2
/-! ### comprehensions over a list that changes elsewhere -/
section
variable {K : PySem.W.Frag} {B : Bs}
end
section
variable {X : Cx} {B : Bs} {e : Expr} {tg elt : Expr} {ifs : List Expr} {scope : Scope} {own : List (Str × Nat)} {g : TG} {is : List Nat} {wo : WE} {t : WTs} {we : WE} {pos spos py : Pos} {i : Nat} {y : Str}
end
end L3

/-! sorted of pairs (text, whole number) -/
namespace SrtP
open PySem PySem.Spec PyProof.Rows SrtO L2
def IsPairS (h : Heap) (v : Value) (x : Str) (y : Int) : Prop := ∃ a o t u n, v = .ref a ∧ h.get? a = some o ∧ o.cls = .type "tuple" ∧ o.data = .seq #[.str x t, .int y u] n
theorem IsPairS.keeps {h h' : Heap} {v : Value} {x : Str} {y : Int} (p : IsPairS h v x y) (k : ∀ b o, h.get? b = some o → o.cls = .type "tuple" → h'.get? b = some o) : IsPairS h' v x y := by
  obtain ⟨a, o, t, u, n, e, ho, hc, hd⟩ := p
  exact ⟨a, o, t, u, n, e, k a o ho hc, hc, hd⟩
section
variable {prog : Program} {w : World} {A : Around} {E : Value → Shared → Prop} {s : Shared}
end
end SrtP
namespace L3
open PySem PySem.Spec PyProof.Rows L2
section
variable {X : Cx}
end
section
variable {K : PySem.W.Frag} {P H : Hp} {al : List Addr} {B : Bs}
end
end L3

/-! plain tuples, dict(pairs), d.get(k, x) -/
namespace L3
open PySem PySem.Spec PyProof.Rows L2
section
variable {X : Cx}
end
/-! ### over data -/
section
variable {K : PySem.W.Frag} {P H : Hp} {al : List Addr} {B : Bs} {X : Cx} {e o f : Expr} {we wo wi wf : WE} {pos apos cpos : Pos}
end
end L3

/-! x |= y by an own __or__; min(i, j); list(d.items()); isinstance(e, ValueError) in a suite -/
namespace L3
open PySem PySem.Spec PyProof.Rows L2
section
variable {X : Cx} {B : Bs} {CX : CXT} {k : Nat} {f C : Addr} {sp : DSp} {n : Str} {e : Expr} {we : WE} {op : Operator} {pos pos' : Pos}
end
/-! ### list(d.items()) -/
section
variable {X : Cx} {B : Bs} {e : Expr} {we : WE} {p apos cpos pos : Pos}
end
section
variable {X : Cx} {B : Bs} {CX : CXT} {k : Nat} {f C : Addr} {sp : DSp} {n : Str} {a b e : Expr} {wa wb we : WE} {pos pos' : Pos} {RX : RXe}
end
/-! ### -i, xs[::-1] -/
section
variable {X : Cx} {B : Bs} {a e : Expr} {wa we : WE} {pos : Pos}
theorem Reps.rev {K : PySem.W.Frag} {P : Hp} {al : List Addr} : ∀ {ds : List D} {vs : List V}, Reps K P al ds vs → Reps K P al ds.reverse vs.reverse
  | _, _, .nil => .nil
  | _, _, .cons r t => by rw [List.reverse_cons, List.reverse_cons]; exact (Reps.rev t).append (.cons r .nil)
end
end L3

namespace L3
open PySem PySem.Spec PyProof.Rows L2
/-! ### like data are equal -/
theorem shaped_lay {p : PyData} (h : SeqAt.shaped p = true) : p.canLay0 = true := by
  simp only [SeqAt.shaped, Bool.and_eq_true] at h; exact h.1
theorem eqv_same {p : PyData} (h : SeqAt.shaped p = true) : PyData.eqv p p = true := PySem.SeqAt.eqv_refl p (shaped_lay h)
/-- data that can be compared -/
def ShD (d : D) : Prop := ∃ p, toP d = some p ∧ SeqAt.shaped p = true
theorem plain_nil : plainOk [] := ⟨[], rfl, rfl⟩
theorem eq_same {M : Mt} {x y d : D} {f : Bool → Bool} {R : D → Mt → Prop} (hx : viewD M x = d) (hy : viewD M y = d) (hp : ShD d) (k : R (.bl (f true)) M) : oEqB f x y M R := by
  obtain ⟨p, hp, hs⟩ := hp
  have he := eqv_same hs
  unfold oEqB
  rw [hx, hy]
  cases d with
  | tup l =>
    cases l with
    | nil => exact ⟨⟨plain_nil⟩, k⟩
    | cons a r => simp only [hp]; rw [he]; exact ⟨⟨hs⟩, ⟨hs⟩, k⟩
  | lst l =>
    cases l with
    | nil => exact ⟨⟨plain_nil⟩, k⟩
    | cons a r => simp only [hp]; rw [he]; exact ⟨⟨hs⟩, ⟨hs⟩, k⟩
  | rol l => simp only [hp]; rw [he]; exact ⟨⟨hs⟩, ⟨hs⟩, k⟩
  | non => exact k
  | bl b => simp only [decide_true]; exact k
  | int b => simp only [decide_true]; exact k
  | str b => simp only [decide_true]; exact k
  | _ => simp [toP] at hp
theorem get_map {α : Type} {f : α → D} {l : List α} {i : Nat} {d : D} (h : (l.map f)[i]? = some d) : ∃ p, l[i]? = some p ∧ d = f p := by
  rw [List.getElem?_map] at h
  cases e : l[i]? with
  | none => rw [e] at h; cases h
  | some p => rw [e] at h; exact ⟨p, rfl, (Option.some.inj h).symm⟩
/-- ==, kept closed until its operands are known -/
@[irreducible] def oEqI (f : Bool → Bool) : WO2 := oEqB f
theorem oEqI_ok {K : PySem.W.Frag} {B : Bs} : OpD K B (rEqU K) (oEqI fun b => b) := by unfold oEqI; exact oEq_ok
theorem oNeI_ok {K : PySem.W.Frag} {B : Bs} : OpD K B (rNeU K) (oEqI fun b => !b) := by unfold oEqI; exact oNe_ok
section
variable {M : Mt} {x y : D} {f : Bool → Bool} {R : D → Mt → Prop}
theorem eqI_of (h : oEqB f x y M R) : oEqI f x y M R := by unfold oEqI; exact h
theorem eqI_int {i j : Int} (k : R (.bl (f (decide (i = j)))) M) : oEqI f (.int i) (.int j) M R := eqI_of k
theorem eqI_str {i j : Str} (k : R (.bl (f (decide (i = j)))) M) : oEqI f (.str i) (.str j) M R := eqI_of k
theorem eqI_bl {i j : Bool} (k : R (.bl (f (decide (i = j)))) M) : oEqI f (.bl i) (.bl j) M R := eqI_of k
theorem eqI_0  (k : R (.bl (f true)) M) : oEqI f .non .non M R := eqI_of k
theorem eqI_1 {j : Int} (k : R (.bl (f false)) M) : oEqI f .non (.int j) M R := eqI_of k
theorem eqI_2 {i : Int} (k : R (.bl (f false)) M) : oEqI f (.int i) .non M R := eqI_of k
theorem eqI_3 {j : Bool} (k : R (.bl (f false)) M) : oEqI f .non (.bl j) M R := eqI_of k
theorem eqI_4 {i : Bool} (k : R (.bl (f false)) M) : oEqI f (.bl i) .non M R := eqI_of k
theorem eqI_5 {j : Str} (k : R (.bl (f false)) M) : oEqI f .non (.str j) M R := eqI_of k
theorem eqI_6 {i : Str} (k : R (.bl (f false)) M) : oEqI f (.str i) .non M R := eqI_of k
theorem eqI_7 {i : Int} {j : Str} (k : R (.bl (f false)) M) : oEqI f (.int i) (.str j) M R := eqI_of k
theorem eqI_8 {i : Str} {j : Int} (k : R (.bl (f false)) M) : oEqI f (.str i) (.int j) M R := eqI_of k
theorem eqI_9 {i : Bool} {j : Str} (k : R (.bl (f false)) M) : oEqI f (.bl i) (.str j) M R := eqI_of k
theorem eqI_10 {i : Str} {j : Bool} (k : R (.bl (f false)) M) : oEqI f (.str i) (.bl j) M R := eqI_of k
theorem eqI_lnil {l : List D} (h : viewD M x = .lst l) (hp : Need (plainOk l)) (k : R (.bl (f l.isEmpty)) M) : oEqI f x (.lst []) M R := eqI_of (by
  unfold oEqB; rw [h]; exact ⟨hp, k⟩)
theorem eqI_tnil {l : List D} (h : viewD M x = .tup l) (hp : Need (plainOk l)) (k : R (.bl (f l.isEmpty)) M) : oEqI f x (.tup []) M R := eqI_of (by
  unfold oEqB; rw [h]; exact ⟨hp, k⟩)
theorem eqI_same {d : D} (hx : viewD M x = d) (hy : viewD M y = d) (hp : ShD d) (k : R (.bl (f true)) M) : oEqI f x y M R := eqI_of (eq_same hx hy hp k)
end
end L3

/-! ### len, repr, truth of an instance by its own methods -/
namespace L3
open PySem PySem.Spec PyProof.Rows L2
section
variable {X : Cx} {B : Bs} {CX : CXT} {k : Nat} {f C : Addr} {n : Str} {sp : DSp} {P : V → Prop}
/-! over data -/
end
end L3


namespace L3
open PySem PySem.Spec PyProof.Rows L2 Builtin
section
variable {prog : Program} {w : World} {A : Around} {E : Value → Shared → Prop} {s : Shared} {K : PySem.W.Frag} {x C f : Addr} {h₀ : Heap} {Lc : Addr} {m : Str → Option Value} {ox : Obj} {od : Option Obj}
end
section
variable {X : Cx} {B : Bs} {CX : CXT} {k : Nat} {f C : Addr} {n : Str} {sp : DSp} {P : V → Prop}
end
end L3
namespace L3
open PySem PySem.Spec PyProof.Rows L2 Builtin
section
variable {prog : Program} {w : World} {A : Around} {E : Value → Shared → Prop} {s : Shared} {K : PySem.W.Frag} {x C f : Addr} {h₀ : Heap} {Lc : Addr} {m : Str → Option Value} {ox : Obj} {od : Option Obj} {b tb : Value}
end
end L3
namespace L3
open PySem PySem.Spec PyProof.Rows L2 Builtin
section
variable {prog : Program} {w : World} {A : Around} {E : Value → Shared → Prop} {s : Shared} {K : PySem.W.Frag} {x C f : Addr} {h₀ : Heap} {Lc : Addr} {m : Str → Option Value} {ox : Obj} {od : Option Obj} {b tb : Value}
/-- what != asks of an own class without __ne__ -/
structure NeC (K : PySem.W.Frag) (C : Addr) : Prop where
  ne : PySem.W.findIn K (.ref C) "__ne__" = some (some (.builtin "object.__ne__"))
  ob : PySem.W.mroIn K C (.type "object") = some true
end
theorem sub_kind {K : PySem.W.Frag} {C : Addr} : ∀ T ∈ isBs, PySem.W.subIn K (.type T) (.ref C) = some false := by
  intro T h
  simp only [isBs, List.mem_cons, List.not_mem_nil, or_false] at h
  rcases h with rfl | rfl | rfl | rfl | rfl | rfl | rfl
  · show (fastBuiltinMro "NoneType").map (·.contains (.ref C)) = some false
    rw [show fastBuiltinMro "NoneType" = some [.type "NoneType", .type "object"] from by decide +kernel]; simp
  · show (fastBuiltinMro "bool").map (·.contains (.ref C)) = some false
    rw [show fastBuiltinMro "bool" = some [.type "bool", .type "int", .type "object"] from by decide +kernel]; simp
  · show (fastBuiltinMro "int").map (·.contains (.ref C)) = some false
    rw [show fastBuiltinMro "int" = some [.type "int", .type "object"] from by decide +kernel]; simp
  · show (fastBuiltinMro "str").map (·.contains (.ref C)) = some false
    rw [show fastBuiltinMro "str" = some [.type "str", .type "object"] from by decide +kernel]; simp
  · show (fastBuiltinMro "tuple").map (·.contains (.ref C)) = some false
    rw [show fastBuiltinMro "tuple" = some [.type "tuple", .type "object"] from by decide +kernel]; simp
  · show (fastBuiltinMro "list").map (·.contains (.ref C)) = some false
    rw [show fastBuiltinMro "list" = some [.type "list", .type "object"] from by decide +kernel]; simp
  · show (fastBuiltinMro "dict").map (·.contains (.ref C)) = some false
    rw [show fastBuiltinMro "dict" = some [.type "dict", .type "object"] from by decide +kernel]; simp
section
variable {X : Cx} {B : Bs} {CX : CXT} {k : Nat} {f C : Addr} {n : Str} {sp : DSp}
end
end L3

/-! ### bool of an instance; isinstance of own classes; f-strings; join; str -/
namespace L3
open PySem PySem.Spec PyProof.Rows L2 Builtin
section
variable {prog : Program} {w : World} {A : Around} {E : Value → Shared → Prop} {s : Shared} {K : PySem.W.Frag} {x C f : Addr} {h₀ : Heap} {Lc : Addr} {m : Str → Option Value} {ox : Obj} {od : Option Obj}
end
section
variable {X : Cx} {B : Bs} {CX : CXT} {k : Nat} {f C : Addr} {n : Str} {sp : DSp} {P : V → Prop}
end
/-! isinstance(x, C) -/
structure InsF (K : PySem.W.Frag) (C : Addr) : Prop where
  cl : Cls K C
  ha : PySem.W.findIn K (.ref C) "__class__" = some (some (.builtin "object.__class__"))
  hn : PySem.W.specialIn K (.builtin "object.__class__") "__get__" = some (some (.builtin "getset_descriptor.__get__"))
  htk : PySem.W.takesIn K (.builtin "object.__class__") = some true
  hm : PySem.W.mroIn K C (.type "object") = some true
/-- no built-in is an instance of the class -/
def IscC (K : PySem.W.Frag) (C : Addr) : Prop := PySem.W.kitOne K (.type "NoneType") (.ref C) = some false
theorem IscC.no {K : PySem.W.Frag} {C : Addr} (h : IscC K C) {T : String} (hT : T ∈ isBs) : PySem.W.kitOne K (.type T) (.ref C) = some false := by
  have e : ∀ T, PySem.W.kitOne K (.type T) (.ref C) = if ((PySem.W.clsIn K C).isSome && PySem.W.typeIn K (.ref C) == some (.type "type")) = true then PySem.W.subIn K (.type T) (.ref C) else none := fun T => by
    have : (Value.type T == Value.ref C) = false := rfl
    unfold PySem.W.kitOne
    rw [this]; rfl
  unfold IscC at h
  rw [e] at h ⊢
  split at h
  · rename_i c
    rw [if_pos c]; exact sub_kind T hT
  · cases h
inductive TabI (K : PySem.W.Frag) (Cc : Addr) : List (Str × Bool) → Prop
  | nil : TabI K Cc []
  | cons {n : Str} {r : Bool} {C : Addr} {tb : List (Str × Bool)} : ClsAt K n C → InsF K C → PySem.W.kitOne K (.ref C) (.ref Cc) = some r → TabI K Cc tb → TabI K Cc ((n, r) :: tb)
theorem TabI.look {K : PySem.W.Frag} {Cc : Addr} {tb : List (Str × Bool)} (t : TabI K Cc tb) : ∀ n r C, tb.lookup n = some r → ClsAt K n C → InsF K C ∧ PySem.W.kitOne K (.ref C) (.ref Cc) = some r := by
  induction t with
  | nil => intro n r C h; cases h
  | @cons n' r' C' tb ca i k t ih =>
    intro n r C h hc
    rw [List.lookup_cons] at h
    split at h
    · rename_i e
      obtain rfl : n = n' := by simpa using e
      cases h
      obtain rfl := ca.one hc
      exact ⟨i, k⟩
    · exact ih n r C h hc
/-! f-strings -/
section
variable {X : Cx} {B : Bs} {e o : Expr} {we wo : WE} {pos apos : Pos}
/-! join -/
/-! str(x) of a text or an int -/
end
end L3

namespace L3
open PySem PySem.Spec PyProof.Rows L2
end L3

namespace L3
open PySem PySem.Spec PyProof.Rows L2
/-! ### i >> j -/
section
variable {K : PySem.W.Frag} {B : Bs}
end
/-! ### {k: v for .. in .. if ..} -/
section
variable {X : Cx} {B : Bs} {tg e : Expr} {pos : Pos}
end
end L3

/-! ### len(set(xs)), xs a tuple of texts, any number of them -/
namespace L3
open PySem PySem.Spec PyProof.Rows L2 PySem.SeqAt
/-- how many different ones -/
def dist : List Str → List Str → Nat
  | _, [] => 0
  | seen, y :: r => (if y ∈ seen then 0 else 1) + dist (seen ++ [y]) r
theorem dist_le : ∀ (l seen : List Str), dist seen l ≤ l.length
  | [], _ => Nat.le_refl _
  | y :: r, seen => by
    have := dist_le r (seen ++ [y])
    unfold dist
    rw [List.length_cons]
    split <;> omega
section
variable {prog : Program} {w : World} {A : Around} {E : Value → Shared → Prop} {s : Shared}
abbrev SetAt (prog : Program) (w : World) (h : Heap) (a : Addr) (ys : List Str) : Prop := h.SetOf (strKind prog w) a (fun k => decide (k ∈ ys)) (dist [] ys)
theorem dist_snoc : ∀ (l seen : List Str) (y : Str), dist seen (l ++ [y]) = dist seen l + (if y ∈ seen ++ l then 0 else 1)
  | [], seen, y => by simp [dist]
  | x :: r, seen, y => by
    have ih := dist_snoc r (seen ++ [x]) y
    show dist seen (x :: (r ++ [y])) = _
    unfold dist
    rw [ih, List.append_assoc]
    simp only [List.singleton_append]
    omega
theorem setAt_far {h h' : Heap} {a : Addr} {ys : List Str} (q : SetAt prog w h a ys) (e : ∀ o, h.get? a = some o → h'.get? a = some o) : SetAt prog w h' a ys := by
  obtain ⟨o, es, ep, t, ho, rest⟩ := q
  exact ⟨o, es, ep, t, e _ ho, rest⟩
theorem turns {Sa Ia : Addr} {fp wr : List Addr} {G : Array GenState → Array GenState → Prop} {n : Nat} {Pv : Nat → Value → Prop} {St : Nat → Shared → Prop} {R : Result → Shared → Prop} {ys : List Str}
    (W : WalksS prog w A.in1 Ia fp wr G n Pv St) (hSf : Sa ∉ fp) (hlen : n = ys.length) (hfit : ys.length + 1 < scanBound) (hv : ∀ i v, Pv i v → ∃ y t, ys[i]? = some y ∧ v = .str y t)
    {s0 : Shared} (fin : ∀ s', Moved (Sa :: wr) G s0 s' → SetAt prog w s'.heap Sa ys → R (.ok (.ret .none)) s') :
    ∀ (m i : Nat), n - i = m → i ≤ n → ∀ s : Shared, Moved (Sa :: wr) G s0 s → St i s → SetAt prog w s.heap Sa (ys.take i) → codeAny (model prog w) A (.builtin "set.update.loop" ⟨[.ref Sa, .ref Ia], []⟩) R s := by
  have hSw : Sa ∉ wr := fun h => hSf (W.sub _ h)
  have up : ∀ b ∈ wr, b ∈ Sa :: wr := fun b hb => List.mem_cons_of_mem _ hb
  intro m
  induction m with
  | zero =>
    intro i hm hi s mv st q
    obtain rfl : i = n := by omega
    refine codeAny_builtin PyProof.Rows.F.entry_set_update_loop (?_ : wpAny _ _ (pyNext (.ref Ia) >>= _) _ _ _)
    rw [Around.under_plainId PyProof.Rows.F.plain_set_update_loop]
    refine wpAny_bind (W.done s _ _ st fun s' mv' => wpAny_pure (fin s' (Moved.trans W.gtrans mv (mv'.mono up)) ?_))
    rw [hlen, List.take_length] at q
    exact setAt_far q fun o e => mv'.heap Sa o hSw e
  | succ m ih =>
    intro i hm hi s mv st q
    have hlt : i < n := by omega
    refine codeAny_builtin PyProof.Rows.F.entry_set_update_loop (?_ : wpAny _ _ (pyNext (.ref Ia) >>= _) _ _ _)
    rw [Around.under_plainId PyProof.Rows.F.plain_set_update_loop]
    refine wpAny_bind (W.item i s _ _ hlt st fun v s' hP st' mv' => ?_)
    obtain ⟨y, t, hy, rfl⟩ := hv i v hP
    have q' : SetAt prog w s'.heap Sa (ys.take i) := setAt_far q fun o e => mv'.heap Sa o hSw e
    have hd := dist_le (ys.take i) []
    have hti : (ys.take i).length ≤ ys.length := by rw [List.length_take]; omega
    have et : ys.take (i + 1) = ys.take i ++ [y] := by rw [List.take_add_one, hy]; rfl
    refine wpAny_bind (m := holding [Value.str y t] (setAdd Sa (.str y t))) (wpAny_holding ?_)
    unfold setAdd
    refine wpAny_holding (wpAny_bind ((strKind prog w).pyHash (k := y) (strKind_is _ _ _ _) ?_))
    refine wpAny_setAddHashed_of (knd := strKind prog w) (s := { s' with toks := s'.toks + 1 }) (strKind_is _ _ _ _) rfl q' (by omega) fun h' sb q2 => ?_
    have q3 : SetAt prog w h' Sa (ys.take (i + 1)) := by
      refine SetOf_congr q2 (fun k => ?_) ?_
      · rw [et]; simp
      · rw [et, dist_snoc, List.nil_append]
        by_cases hm : y ∈ ys.take i <;> simp [hm]
    have far : ∀ b o, b ≠ Sa → s'.heap.get? b = some o → h'.get? b = some o := fun b o hb e => by rw [sb.2 b hb]; exact e
    refine wpAny_pure ⟨plainId_quiet PyProof.Rows.F.plain_set_update_loop _, ih (i + 1) (by omega) hlt _ (Moved.trans W.gtrans mv ((mv'.mono up).then_heap (Nat.le_succ _) fun b o hb e => far b o (fun z => hb (z ▸ List.mem_cons_self)) e)) (W.frame _ s' _ _ st' (Nat.le_succ _) fun b hb o e => far b o (fun z => hSf (z ▸ hb)) e) q3⟩
end
section
variable {X : Cx} {B : Bs} {a : Expr} {wa : WE} {p p2 q pos : Pos}
end
end L3

/-! ### t[::-1] of a tuple; list * int -/
namespace L3
open PySem PySem.Spec PyProof.Rows L2 HT
section
variable {prog : Program} {w : World} {A : Around} {E : Value → Shared → Prop} {s : Shared}
end
section
variable {X : Cx} {B : Bs} {e : Expr} {we : WE} {pos : Pos}
/-! list * int -/
@[irreducible] def oRepL : WO2 := fun x y M R => match viewD M x, y with
  | .lst l, .int k => Need (0 ≤ k ∧ k < 1000 ∧ l.length ≤ 1000) ∧ R (.lst (List.replicate k.toNat l).flatten) M
  | _, _ => False
theorem Reps.flat {K : PySem.W.Frag} {P : Hp} {al : List Addr} {ds : List D} {vs : List V} (r : Reps K P al ds vs) : ∀ n : Nat, Reps K P al (List.replicate n ds).flatten (List.replicate n vs).flatten
  | 0 => .nil
  | n + 1 => by
    rw [List.replicate_succ, List.replicate_succ, List.flatten_cons, List.flatten_cons]
    exact r.append (Reps.flat r n)
theorem oRepL_ok {K : PySem.W.Frag} : OpD K B rRep oRepL := by
  intro P al M env σ H x y dx dy R Q rs r1 r2 h L
  unfold oRepL at h
  split at h
  · rename_i l k v1
    obtain ⟨hn, h⟩ := h
    obtain ⟨h0, h1, h2⟩ := hn.out
    obtain ⟨a, xs, rfl, ha, q1⟩ := view_lst rs.toRS0 r1 v1
    cases r2
    refine ⟨a, k, xs, rfl, rfl, ha, by omega, by omega, ?_, fun p hp => L.alloc rs hp (.lst upd_same ((Reps.flat q1 k.toNat).mono (same_new rs.toRS0 hp) (List.prefix_refl _))) h⟩
    rw [← q1.length, line16]
    have : l.length * k.toNat ≤ 1000 * 1000 := Nat.mul_le_mul h2 (by omega)
    omega
  · exact h.elim
theorem repL_use {x : D} {l : List D} {k : Int} {M : Mt} {R : D → Mt → Prop} (h : viewD M x = .lst l) (hk : 0 ≤ k ∧ k < 1000 ∧ l.length ≤ 1000) (q : R (.lst (List.replicate k.toNat l).flatten) M) : oRepL x (.int k) M R := by
  unfold oRepL; simp only [h]; exact ⟨⟨hk⟩, q⟩
end
end L3

/-! ### x in a list of data and dicts -/
namespace L3
open PySem PySem.Spec PyProof.Rows L2 PySem.SeqAt
open AutoSeq1 (wpAny_loadPart')
section
variable {A : Around} {s : Shared}
end
end L3
namespace L3
open PySem PySem.Spec PyProof.Rows L2 PySem.SeqAt
section
variable {A : Around} {s : Shared}
structure DctAt (s : Shared) (d : Addr) : Prop where
  ex : ∃ o es ep, s.heap.get? d = some o ∧ o.cls = .type "dict" ∧ o.data = .dict es ep
theorem DctAt.ty {d : Addr} (h : DctAt s d) : s.TypeIs (.ref d) "dict" := by
  obtain ⟨o, es, ep, h1, h2, _⟩ := h.ex
  exact ⟨o, h1, h2⟩
end
end L3
namespace L3
open PySem PySem.Spec PyProof.Rows L2
section
variable {X : Cx} {B : Bs} {tg e : Expr} {pos : Pos}
end
end L3
namespace L3
open PySem PySem.Spec PyProof.Rows L2 PySem.SeqAt
section
variable {X : Cx} {B : Bs} {e : Expr} {we : WE} {pos : Pos}
end
/-! x in a list -/
section
variable {X : Cx}
/-- an empty dict -/
structure EmpAt (s : Shared) (d : Addr) : Prop where
  ex : ∃ o ep, s.heap.get? d = some o ∧ o.cls = .type "dict" ∧ o.ExactDict ∧ o.data = .dict #[] ep
  no : (d == sysModules) = false
theorem EmpAt.dct {s : Shared} {d : Addr} (h : EmpAt s d) : DctAt s d := by
  obtain ⟨o, ep, h1, h2, _, h3⟩ := h.ex
  exact ⟨⟨o, _, ep, h1, h2, h3⟩⟩
theorem EmpAt.of {s : Shared} {d : Addr} (h : EmpAt s d) (prog : Program) (w : World) : s.heap.DictOf (mixKind prog w) d [] := by
  obtain ⟨o, ep, h1, h2, h4, h3⟩ := h.ex
  exact ⟨o, #[], ep, h1, h4, h3, (by intro e he; simp at he), .nil, .nil⟩
end
end L3
namespace L3
open PySem PySem.Spec PyProof.Rows L2 PySem.SeqAt
section
variable {X : Cx} {B : Bs}
end
end L3
namespace L3
open PySem PySem.Spec PyProof.Rows L2
end L3

namespace L3
open PySem PySem.Spec PyProof.Rows L2
end L3


namespace L3
open PySem PySem.Spec PyProof.Rows L2 Builtin
section
variable {X : Cx} {B : Bs} {CX : CXT} {k : Nat} {f C : Addr} {n : Str} {sp : DSp}
end
end L3


namespace L3
open PySem PySem.Spec PyProof.Rows L2 Builtin
section
variable {X : Cx} {B : Bs} {CX : CXT} {k : Nat} {f C : Addr} {n m : Str} {sp : DSp} {o e : Expr} {wo we : WE} {RX : RXe} {p apos pos : Pos}
end
end L3

namespace L3
open PySem PySem.Spec PyProof.Rows L2
/-! ### a comprehension over the keys of a dict that changes elsewhere: the dict is locked meanwhile -/
section
variable {K : PySem.W.Frag} {P P' : Hp} {al : List Addr}
/-- all but a locked dict -/
def NoLk (x : HO) : Prop := ∀ o kvs, x ≠ .frz o (.dK kvs)
def SameX (P P' : Hp) : Prop := ∀ b x, P b = some x → NoLk x → P' b = some x
theorem SameX.seqT {a : Addr} {xs : List V} (e : SameX P P') (h : SqT K P a xs) : SqT K P' a xs := by
  rcases h with h | h
  · rcases h with h | ⟨o, h⟩
    · exact .inl (.inl (e _ _ h fun _ _ z => nomatch z))
    · exact .inl (.inr ⟨o, e _ _ h fun _ _ z => nomatch z⟩)
  · exact .inr h
theorem SameX.seq {a : Addr} {xs : List V} (e : SameX P P') (h : SqL K P a xs) : SqL K P' a xs := by
  rcases h with h | h
  · rcases h with h | ⟨o, h⟩
    · exact .inl (.inl (e _ _ h fun _ _ z => nomatch z))
    · exact .inl (.inr ⟨o, e _ _ h fun _ _ z => nomatch z⟩)
  · exact .inr h
theorem SameX.sqp {a : Addr} {xs : List V} (e : SameX P P') (h : SqP P a xs) : SqP P' a xs := let ⟨o, h, d⟩ := h; ⟨o, e _ _ h (fun _ _ z => nomatch z), d⟩
mutual
/-- no dict that is locked for good -/
def noF : D → Bool
  | .tup l => noFs l
  | .ptp l => noFs l
  | .lst l => noFs l
  | .rol l => noFs l
  | .dct l => noFK l
  | .obj _ l => noFF l
  | .fdc _ => false
  | _ => true
def noFs : List D → Bool
  | [] => true
  | d :: r => noF d && noFs r
def noFK : List (Key × D) → Bool
  | [] => true
  | (_, d) :: r => noF d && noFK r
def noFF : List (Str × D) → Bool
  | [] => true
  | (_, d) :: r => noF d && noFF r
end
mutual
theorem Rep.lk (s : SameX P P') : ∀ {d : D} {v : V}, Rep K P al d v → noF d = true → Rep K P' al d v
  | _, _, .non, _ => .non
  | _, _, .bl b, _ => .bl b
  | _, _, .int i, _ => .int i
  | _, _, .str x, _ => .str x
  | _, _, .ty n, _ => .ty n
  | _, _, .adr a, _ => .adr a
  | _, _, .tup q r, e => .tup (s.seqT q) (Reps.lk s r (by simpa [noF] using e))
  | _, _, .ptp q r, e => .ptp (s.sqp q) (Reps.lk s r (by simpa [noF] using e))
  | _, _, .lst q r, e => .lst (s _ _ q fun _ _ z => nomatch z) (Reps.lk s r (by simpa [noF] using e))
  | _, _, .rol q r, e => .rol (s.seq q) (Reps.lk s r (by simpa [noF] using e))
  | _, _, .dct q r, e => .dct (s _ _ q fun _ _ z => nomatch z) (RepKs.lk s r (by simpa [noF] using e))
  | _, _, .fdc q r, e => by simp [noF] at e
  | _, _, .obj q c r, e => .obj (s _ _ q fun _ _ z => nomatch z) c (RepFs.lk s r (by simpa [noF] using e))
  | _, _, .cls c, _ => .cls c
  | _, _, .cel e, _ => .cel e
theorem Reps.lk (s : SameX P P') : ∀ {ds : List D} {vs : List V}, Reps K P al ds vs → noFs ds = true → Reps K P' al ds vs
  | _, _, .nil, _ => .nil
  | _, _, .cons r t, e => .cons (Rep.lk s r (by simp [noFs] at e; exact e.1)) (Reps.lk s t (by simp [noFs] at e; exact e.2))
theorem RepKs.lk (s : SameX P P') : ∀ {ds : List (Key × D)} {vs : List (Key × V)}, RepKs K P al ds vs → noFK ds = true → RepKs K P' al ds vs
  | _, _, .nil, _ => .nil
  | _, _, .cons r t, e => .cons (Rep.lk s r (by simp [noFK] at e; exact e.1)) (RepKs.lk s t (by simp [noFK] at e; exact e.2))
theorem RepFs.lk (s : SameX P P') : ∀ {ds : List (Str × D)} {vs : List (Str × V)}, RepFs K P al ds vs → noFF ds = true → RepFs K P' al ds vs
  | _, _, .nil, _ => .nil
  | _, _, .cons r t, e => .cons (Rep.lk s r (by simp [noFF] at e; exact e.1)) (RepFs.lk s t (by simp [noFF] at e; exact e.2))
end
theorem ExCell.lk {l : List D} {a : Addr} (s : SameX P P') (c : ExCell K P al l a) (e : noFs l = true) : ExCell K P' al l a := by
  unfold ExCell at c ⊢
  split at c
  · obtain ⟨C, d, oe, h1, h2, h3, h4, h5⟩ := c
    refine ⟨C, d, oe, s _ _ h1 (fun _ _ z => nomatch z), h2, h3, h4, ?_⟩
    rcases h5 with h5 | ⟨dd, gs, g1, g2, g3⟩
    · exact .inl h5
    · exact .inr ⟨dd, gs, g1, s _ _ g2 (fun _ _ z => nomatch z), g3.lk s (by simpa [noFs, noF] using e)⟩
  · trivial
theorem Cell.lk {m : D} {b : Addr} {H H' : Hp} (s : SameX P P') (c : Cell K P al m b H) (nf : noF m = true) (hp : live m = true → P' b = none) (hh : live m = true → H' b = H b) : Cell K P' al m b H' := by
  cases m <;> first | trivial | skip
  · exact ExCell.lk s c (by simpa [noF] using nf)
  · obtain ⟨h1, xs, h2, h3⟩ := c; exact ⟨hp rfl, xs, by rw [hh rfl]; exact h2, h3.lk s (by simpa [noF] using nf)⟩
  · obtain ⟨h1, xs, h2, h3⟩ := c; exact ⟨hp rfl, xs, by rw [hh rfl]; exact h2, h3.lk s (by simpa [noF] using nf)⟩
  · obtain ⟨h1, C, dx, gs, h2, h4, h3⟩ := c; exact ⟨hp rfl, C, dx, gs, by rw [hh rfl]; exact h2, h4, h3.lk s (by simpa [noF] using nf)⟩
  · obtain ⟨h1, ps, h2, h3, h4⟩ := c; exact ⟨hp rfl, ps, by rw [hh rfl]; exact h2, h3, fun pos cv hc => by obtain ⟨c, e1, e2⟩ := h4 pos cv hc; exact ⟨c, e1, s _ _ e2 fun _ _ z => by unfold LamX.CodeO at z; cases z⟩⟩
end
section
variable {K : PySem.W.Frag} {B : Bs}
end
section
variable {X : Cx} {B : Bs} {e : Expr} {tg elt : Expr} {ifs : List Expr} {scope : Scope} {own : List (Str × Nat)} {g : TG} {is : List Nat} {t : WTs} {we : WE} {pos spos py : Pos} {i j : Nat} {y : Str}
end
end L3

namespace L3
open PySem PySem.Spec PyProof.Rows L2
/-! ### o.p, p a property of an own class -/
section
variable {X : Cx} {B : Bs} {CX : CXT} {k : Nat} {f g p C : Addr} {sp : DSp} {n : Str} {e o i value : Expr} {we wo wi wv : WE} {pos pos' : Pos} {RX : RXe}
/-! ### o[i] = v by an own __setitem__ -/
end
/-! ### x op= y by an own method for it, which may raise -/
section
variable {X : Cx} {B : Bs} {CX : CXT} {k : Nat} {f C : Addr} {sp : DSp} {n : Str} {e : Expr} {we : WE} {op : Operator} {pos pos' : Pos} {RX : RXe}
end
end L3

namespace L3
open PySem PySem.Spec PyProof.Rows L2
/-! ### C(..), the object stays in the table; dict(..) that will change; a default at the end of an __init__ -/
section
variable {X : Cx} {B : Bs} {CX : CXT} {k : Nat} {f C : Addr} {sp : DSp} {n x : Str} {p pos : Pos} {e : Expr} {es : List Expr} {was : WA} {RX : RXe}
end
section
variable {P : Program} {w : World} {K : PySem.W.Frag} {mg : Str → Option Value} {base : Heap} {CX : CXT} {k : Nat} {f : Addr} {sp : DSp}
end
section
variable {K : PySem.W.Frag} {B : Bs}
end
end L3

namespace L3
open PySem PySem.Spec PyProof.Rows L2
/-! ### x == y, y of another own class that does not derive from x's -/
section
variable {X : Cx} {B : Bs} {CX : CXT} {k : Nat} {f C C2 : Addr} {n n2 : Str} {sp : DSp}
end
end L3

namespace L3
open PySem PySem.Spec PyProof.Rows L2
/-! ### try: .. except C as e: y = e -/
section
variable {X : Cx} {pins : List (Addr × Obj)} {σ : L2.St} {H : Hp} {s : Shared} {a : Addr} {oe : Obj}
/-- an error that is held is tracked from now on -/
theorem inv_track (I : L2.Inv X pins σ H s) (ha : s.heap.get? a = some oe) (hd : ∃ vs, oe.data = .fields vs) (na : H a = none) (nL : a ≠ X.env.locals) (np : ∀ p ∈ X.pn ++ pins, p.1 ≠ a) (n0 : ∀ o, X.s_0.heap.get? a = some o → a ∈ X.ex) : L2.Inv X pins σ (upd H a (ExK a oe)) s := by
  have nc : ∀ x c, X.env.cells.lookup x = some c → c ≠ a := fun x c e z => by
    obtain ⟨v, o, e1, e2⟩ := I.cell x c e
    rw [z, ha] at e1
    cases e1
    obtain ⟨vs, hv⟩ := hd
    rw [hv] at e2; cases e2
  have ne : ∀ b o, H b = some o → b ≠ a := fun b o e z => by rw [z, na] at e; cases e
  refine ⟨I.ok, I.os, I.bare, ⟨I.base.keep, I.base.slot, fun b o e n hx => ?_, I.base.there, fun b xs e => ?_, fun b o u e => ?_, fun b ps e => ?_⟩, I.loc, I.cell, ?_, fun x c e => ?_, fun p hp => ?_, fun b o e => ?_, I.len⟩
  · by_cases hb : b = a
    · subst hb; exact absurd (n0 o e) hx
    · rw [upd_ne hb]; exact I.base.free b o e n hx
  · have h := I.base.tups b xs e
    rw [upd_ne (ne _ _ h)]; exact h
  · have h := I.base.frzs b o u e
    rw [upd_ne (ne _ _ h)]; exact h
  · obtain ⟨more, h⟩ := I.base.tbls b ps e
    exact ⟨more, by rw [upd_ne (ne _ _ h)]; exact h⟩
  · rw [upd_ne (Ne.symm nL)]; exact I.free
  · rw [upd_ne (nc x c e)]; exact I.freeC x c e
  · obtain ⟨h1, h2, h3⟩ := I.pin p hp
    exact ⟨h1, by rw [upd_ne (np p hp)]; exact h2, h3⟩
  · by_cases hb : b = a
    · subst hb
      rw [upd_same] at e; cases e
      exact ⟨ha, ⟨oe, ha⟩, fun h1 h2 q k => k oe q⟩
    · rw [upd_ne hb] at e
      exact (I.hok b o e).stay (fun c u _ q => q) (fun c q => by rw [upd_ne (ne _ _ q)]; exact q) fun c xs q => by rw [upd_ne (ne _ _ q)]; exact q
end
section
variable {X : Cx} {x n : Str} {c : Value} {i : Nat} {body suite : List Stmt} {b₀ : Stmt} {np pos pos' : Pos} {tb : WX → TS} {ts : Addr → Value → Option Addr → TS} {Wout : WX}
end
end L3

namespace L3
open PySem PySem.Spec PyProof.Rows L2
/-! ### an error that is kept as a cell -/
section
variable {K : PySem.W.Frag} {B : Bs} {P P' : Hp} {al al' : List Addr} {M M' : Mt} {env : Ev} {σ : L2.St} {H H' : Hp} {a : Addr} {oe : Obj} {l : List D}
/-- an error's dict is published -/
theorem RS0.pubX {d : Addr} {gs : List (Str × V)} (r : RS0 K B P al M H) (hd : H d = some (.xd gs)) (na : d ∉ al) : Ext P al H (upd P d (.xd gs)) al H ∧ RS0 K B (upd P d (.xd gs)) al M H := by
  have sm : Same P (upd P d (.xd gs)) := fun b x h => by
    by_cases hb : b = d
    · subst hb; rw [upd_same, ← hd]; exact r.same _ _ h
    · rw [upd_ne hb]; exact h
  have e : Ext P al H (upd P d (.xd gs)) al H := ⟨sm, List.prefix_refl _, fun _ _ h _ => h, fun b m n => absurd m n, fun b x h ok hb n => by
    by_cases hz : b = d
    · subst hz; rw [hd] at h; cases h; exact absurd rfl (ok.2 gs)
    · rw [upd_ne hz]; exact hb⟩
  refine ⟨e, r.base.trans e, fun b x h => ?_, r.len, fun i a m h1 h2 => ?_, r.inj, r.trk⟩
  · by_cases hz : b = d
    · rw [hz, upd_same] at h; cases h; rw [hz]; exact hd
    · rw [upd_ne hz] at h; exact r.same _ _ h
  · have ne : a ≠ d := fun z => na (z ▸ List.mem_of_getElem? h1)
    exact (r.cell i a m h1 h2).mono sm (List.prefix_refl _) (fun l => by rw [upd_ne ne]; exact (live_cell l (r.cell i a m h1 h2)).1) fun o' _ h => h
theorem xd_pub {fs : List (Str × D)} {dd : Option Addr} (x : XdOk K P al H fs dd) (r : RS0 K B P al M H) :
    ∃ P', Ext P al H P' al H ∧ RS0 K B P' al M H ∧ ((dd = none ∧ fs = []) ∨ ∃ d gs, dd = some d ∧ P' d = some (.xd gs) ∧ RepFs K P' al fs gs) := by
  rcases x with x | ⟨d, gs, h1, h2, h3, h4⟩
  · exact ⟨P, Ext.refl, r, .inl x⟩
  · obtain ⟨e, r'⟩ := r.pubX h3 h2
    exact ⟨_, e, r', .inr ⟨d, gs, h1, upd_same, h4.mono e.pp e.pre⟩⟩
/-- the error is a cell from now on -/
theorem RS0.cellE (r : RS0 K B P al M H) (ha : H a = none) (hc : ∀ P' al', Same P P' → al <+: al' → P' a = some (ExK a oe) → ExCell K P' al' l a) :
    Ext P al H (upd P a (ExK a oe)) (al ++ [a]) (upd H a (ExK a oe)) ∧ RS0 K B (upd P a (ExK a oe)) (al ++ [a]) (M ++ [.ptp l]) (upd H a (ExK a oe)) := by
  obtain ⟨e1, r1⟩ := r.alloc ha (ExK a oe)
  have e : Ext P al H (upd P a (ExK a oe)) (al ++ [a]) (upd H a (ExK a oe)) := by
    refine ⟨e1.pp, List.prefix_append _ _, e1.fr, fun b m n => ?_, e1.pn⟩
    rcases List.mem_append.mp m with z | z
    · exact absurd z n
    · have : b = a := by simpa using z
      rw [this]; exact ha
  have old : ∀ (i : Nat) (b : Addr), (al ++ [a])[i]? = some b → (i < al.length ∧ al[i]? = some b) ∨ (i = al.length ∧ b = a) := fun i b h => by
    by_cases hi : i < al.length
    · rw [List.getElem?_append_left hi] at h; exact .inl ⟨hi, h⟩
    · rw [List.getElem?_append_right (by omega)] at h
      have : i - al.length = 0 := by
        cases hq : i - al.length with
        | zero => rfl
        | succ n => rw [hq] at h; simp at h
      rw [this] at h
      exact .inr ⟨by omega, by simpa using h.symm⟩
  have oldM : ∀ (i : Nat) (n : D), i < al.length → (M ++ [.ptp l])[i]? = some n → M[i]? = some n := fun i n hi h => by
    rw [List.getElem?_append_left (by have := r.len; omega)] at h; exact h
  have newM : ∀ (n : D), (M ++ [.ptp l])[al.length]? = some n → n = .ptp l := fun n h => by
    rw [List.getElem?_append_right (by have := r.len; omega), r.len, Nat.sub_self] at h
    simpa using h.symm
  refine ⟨e, r.base.trans e, r1.same, by simp [r.len], fun i b n h1 h2 => ?_, fun i j b n n' h1 h2 h3 h4 l1 l2 => ?_, fun b hb => ?_⟩
  · rcases old i b h1 with ⟨hi, h1'⟩ | ⟨hi, rfl⟩
    · have c := r1.cell i b n h1' (oldM i n hi h2)
      exact c.mono (Same.refl _) (List.prefix_append _ _) (fun hl => (live_cell hl c).1) fun o' _ h => h
    · rw [hi] at h2
      rw [newM _ h2]
      exact hc _ _ e1.pp (List.prefix_append _ _) upd_same
  · rcases old i b h1 with ⟨hi, h1'⟩ | ⟨hi, e1⟩
    · rcases old j b h2 with ⟨hj, h2'⟩ | ⟨hj, e2⟩
      · exact r.inj i j b n n' h1' h2' (oldM i n hi h3) (oldM j n' hj h4) l1 l2
      · rw [hj] at h4
        rw [newM _ h4] at l2; cases l2
    · rw [hi] at h3
      rw [newM _ h3] at l1; cases l1
  · rcases List.mem_append.mp hb with z | z
    · exact r1.trk b z
    · have : b = a := by simpa using z
      rw [this, upd_same]; exact ⟨_, rfl⟩
end
section
variable {X : Cx} {B : Bs} {x n : Str} {Cc : Addr} {i j : Nat} {body suite : List Stmt} {b₀ : Stmt} {np pos pos' : Pos} {RX : RXe} {ok : List Str} {sub : Str → Bool} {wb : RXe → WS}
end
/-! ### e.f, isinstance(e, C) of such a cell -/
section
variable {X : Cx}
def tXe (K : PySem.W.Frag) (f : Str) (te : TE) : TE := fun σ H Q => te σ H fun x H1 => ∃ (a C : Addr) (oe : Obj) (dd : Addr) (fs : List (Str × V)) (v : V), x = .ref a ∧ H1 a = some (ExK a oe) ∧ XfC K C ∧ PySem.W.findIn K (.ref C) f = some none ∧
  Zc (.ref C) (some dd) oe ∧ (∃ vs, oe.data = .fields vs) ∧ H1 dd = some (.xd fs) ∧ fs.lookup f = some v ∧ Q v H1
theorem pe_xe {e : Expr} {te : TE} {pos : Pos} {n : Str} (he : PE X e te) (hb : attributeBase e n X.env (eval e X.env) = eval e X.env := by rfl) : PE X (.Attribute e n pos) (tXe X.K n te) := by
  refine ⟨fun pins s σ H Q I h => ?_⟩
  refine attr_of hb (thn (he.run pins s σ H _ I h) fun u s1 hh => ?_)
  obtain ⟨x, H1, I1, rx, a, C, oe, dd, fs, v, ex, hA, T, hno, hz, hf, ea, l, q⟩ := hh
  subst ex
  obtain rfl : u = Value.ref a := rx
  have ha : s1.heap.get? a = some oe := (I1.hok a _ hA).1
  obtain ⟨vs, hd⟩ := hf
  have hx : ObjOk X.prog X.w H1 s1.heap dd (.xd fs) := I1.hok dd _ ea
  obtain ⟨mA, hns, hr⟩ := hx
  obtain ⟨od, ho, hl⟩ := lookIn_ns hns
  obtain ⟨u, hu, ru⟩ := RelO.some_of (v := v) (o := mA n) (by rw [← l]; exact hr n)
  have J : PySem.W.InstAt s1.heap a oe C (some od) := ⟨ha, hz.1, by unfold PySem.W.notCls; rw [hd] <;> rfl, by rw [hz.2]; exact ho⟩
  exact HandSPX.exc_get I1.kIn J T.ga T.gg T.exC (PySem.W.findObj_own T.hdC hno rfl (by rw [hl, hu])) (handed_of ru) ⟨v, H1, I1.tok _, ru, q⟩
def rIsK (K : PySem.W.Frag) : List V → Hp → VK → Prop := fun xs H Q => ∃ (a C : Addr) (oe : Obj) (d : Option Addr) (c : V) (cv : Value) (b : Bool), xs = [.ref a, c] ∧ H a = some (ExK a oe) ∧ ErC K C ∧ Zc (.ref C) d oe ∧ (∃ vs, oe.data = .fields vs) ∧
  (∀ u, RelV c u → u = cv) ∧ PySem.W.kitOne K (.ref C) cv = some b ∧ (d = none ∨ ∃ dd gs, d = some dd ∧ H dd = some (.xd gs)) ∧ Q (.bl b) H
theorem call_isK : CallR X (.builtin "isinstance") (rIsK X.K) := by
  intro pins s σ H xs us Q I r h
  obtain ⟨a, C, oe, d, c, cv, b, rfl, hA, T, hz, hf, hcv, e, hd, q⟩ := h
  cases r with
  | cons rx rr =>
    cases rr with
    | cons rt rr =>
      cases rr
      cases rx
      have ec := hcv _ rt
      subst ec
      have hget : s.heap.get? a = some oe := (I.hok a _ hA).1
      obtain ⟨vs, hv⟩ := hf
      obtain ⟨oc, od, oda, osl⟩ := oe
      obtain ⟨h1, h2⟩ := hz
      dsimp only at h1 h2 hv
      subst h1 h2 hv
      have J : ∃ ob, PySem.W.InstAt s.heap a ⟨.ref C, od, .fields vs, osl⟩ C ob := by
        rcases hd with rfl | ⟨dd, gs, rfl, hx⟩
        · exact ⟨none, hget, rfl, rfl, trivial⟩
        · obtain ⟨mA, hns, _⟩ := (show ObjOk X.prog X.w H s.heap dd (.xd gs) from I.hok dd _ hx)
          obtain ⟨o, ho, _⟩ := lookIn_ns hns
          exact ⟨some o, hget, rfl, rfl, ho⟩
      obtain ⟨ob, J⟩ := J
      exact PySem.W.kia_one (PySem.W.kitx_exc T.cl T.ga T.gg T.sb T.ca T.cg T.tk T.ob) I.kIn J e (fun z => nomatch z) fun tk => ⟨.bl b, H, I.kept (t' := tk) fun _ _ z => z, rfl, q⟩
end
section
variable {X : Cx} {B : Bs} {K : PySem.W.Frag} {P : Hp} {al : List Addr} {M : Mt} {H : Hp} {i : Nat} {n : Str} {fs : List (Str × D)} {v : V}
/-- the cell i is an error of the class n -/
theorem ex_at (rs : RS0 K B P al M H) (hm : M[i]? = some (.ptp [.obj n fs])) (r : Rep K P al (.cel i) v) :
    ∃ a C d oe, v = .ref a ∧ H a = some (ExK a oe) ∧ ClsAt K n C ∧ Zc (.ref C) d oe ∧ (∃ vs, oe.data = .fields vs) ∧ ((d = none ∧ fs = []) ∨ ∃ dd gs, d = some dd ∧ H dd = some (.xd gs) ∧ RepFs K P al fs gs) := by
  cases r with
  | cel e =>
    rename_i a
    have c : ExCell K P al [.obj n fs] a := rs.cell i a _ e hm
    obtain ⟨C, d, oe, h1, h2, h3, h4, h5⟩ := c
    refine ⟨a, C, d, oe, rfl, rs.same _ _ h1, h2, h3, h4, ?_⟩
    rcases h5 with h5 | ⟨dd, gs, g1, g2, g3⟩
    · exact .inl h5
    · exact .inr ⟨dd, gs, g1, rs.same _ _ g2, g3⟩
def wXe (ns : List Str) (f : Str) (w : WE) : WE := fun env M R => w env M fun d M1 => match d with
  | .cel i => match M1[i]? with
    | some (.ptp [.obj n fs]) => Need (n ∈ ns) ∧ match fs.lookup f with
      | some v => R v M1
      | none => False
    | _ => False
  | _ => False
theorem d_xe {e : Expr} {pos : Pos} {ns : List Str} {f : Str} {w : WE} (hT : ∀ n C, n ∈ ns → ClsAt X.K n C → XfC X.K C ∧ PySem.W.findIn X.K (.ref C) f = some none) (he : DE B X e w) (hb : attributeBase e f X.env (eval e X.env) = eval e X.env := by rfl) :
    DE B X (.Attribute e f pos) (wXe ns f w) := by
  refine (pe_xe he hb).imp fun σ H Q => ?_
  rintro ⟨P, al, M, env, R, rs, hw, L⟩
  refine ⟨P, al, M, env, _, rs, hw, fun d M1 y H1 P1 al1 e1 rs1 r1 q => ?_⟩
  split at q
  · split at q
    · rename_i i n fs hm
      obtain ⟨hn, q⟩ := q
      split at q
      · rename_i v' el
        obtain ⟨a, C, d, oe, rfl, hA, ca, hz, hf, h5⟩ := ex_at rs1.toRS0 hm r1
        obtain ⟨T, hno⟩ := hT n C hn.out ca
        rcases h5 with ⟨_, h⟩ | ⟨dd, gs, rfl, h3, h4⟩
        · rw [h] at el; cases el
        · obtain ⟨z, l, rz⟩ := h4.find el
          exact ⟨a, C, oe, dd, gs, z, rfl, hA, T, hno, hz, hf, h3, l, (L.after e1).here rs1 rz q⟩
      · exact q.elim
    · exact q.elim
  · exact q.elim
/-- what the classes say -/
structure KitTab (K : PySem.W.Frag) (tb : List ((Str × Str) × Bool)) (tt : List ((Str × String) × Bool)) : Prop where
  cls : ∀ n c r, tb.lookup (n, c) = some r → ∃ C Cc, ClsAt K n C ∧ ClsAt K c Cc ∧ ErC K C ∧ PySem.W.kitOne K (.ref C) (.ref Cc) = some r
  tys : ∀ n c r, tt.lookup (n, c) = some r → ∃ C, ClsAt K n C ∧ ErC K C ∧ PySem.W.kitOne K (.ref C) (.type c) = some r
theorem KitTab.nil {K : PySem.W.Frag} : KitTab K [] [] := ⟨fun _ _ _ h => (by cases h), fun _ _ _ h => (by cases h)⟩
theorem KitTab.cons {n c : Str} {r : Bool} {C Cc : Addr} {tb : List ((Str × Str) × Bool)} {tt : List ((Str × String) × Bool)} (c1 : ClsAt K n C) (c2 : ClsAt K c Cc) (er : ErC K C) (kit : PySem.W.kitOne K (.ref C) (.ref Cc) = some r) (T : KitTab K tb tt) : KitTab K (((n, c), r) :: tb) tt := by
  refine ⟨fun n' c' r' h => ?_, T.tys⟩
  rw [List.lookup_cons] at h
  split at h
  · rename_i e
    have e := beq_iff_eq.mp e
    cases h; cases e
    exact ⟨C, Cc, c1, c2, er, kit⟩
  · exact T.cls _ _ _ h
end

/-- all of these are caught -/
inductive ExAll (K : PySem.W.Frag) (Cc : Addr) : List Str → Prop
  | nil : ExAll K Cc []
  | cons {m : Str} {C : Addr} {ok : List Str} : ClsAt K m C → PySem.W.exmOne K (.ref C) (.ref Cc) = some true → ExAll K Cc ok → ExAll K Cc (m :: ok)
theorem ExAll.look {K : PySem.W.Frag} {Cc : Addr} {ok : List Str} (t : ExAll K Cc ok) : ∀ n C, n ∈ ok → ClsAt K n C → PySem.W.exmOne K (.ref C) (.ref Cc) = some ((fun _ => true) n) := by
  induction t with
  | nil => intro n C h; cases h
  | @cons m Cm ok ca e t ih =>
    intro n C h hc
    rcases List.mem_cons.mp h with rfl | h
    · obtain rfl := ca.one hc
      exact e
    · exact ih n C h hc
/-- these have a field f -/
inductive XeTab (K : PySem.W.Frag) (f : Str) : List Str → Prop
  | nil : XeTab K f []
  | cons {m : Str} {C : Addr} {ok : List Str} : ClsAt K m C → XfC K C → PySem.W.findIn K (.ref C) f = some none → XeTab K f ok → XeTab K f (m :: ok)
theorem XeTab.look {K : PySem.W.Frag} {f : Str} {ok : List Str} (t : XeTab K f ok) : ∀ n C, n ∈ ok → ClsAt K n C → XfC K C ∧ PySem.W.findIn K (.ref C) f = some none := by
  induction t with
  | nil => intro n C h; cases h
  | @cons m Cm ok ca x e t ih =>
    intro n C h hc
    rcases List.mem_cons.mp h with rfl | h
    · obtain rfl := ca.one hc
      exact ⟨x, e⟩
    · exact ih n C h hc
end L3

namespace L3
open PySem PySem.Spec PyProof.Rows L2
/-! ### for over a list of the table that stays as it is meanwhile -/
def WalkQ (c : Mt → Prop) (K : PySem.W.Frag) (J : It) (ds : List D) (P : Hp) (al : List Addr) : Prop :=
  ∀ (B : Bs) (P2 : Hp) (al2 : List Addr) (M2 : Mt) (H2 : Hp), Same P P2 → al <+: al2 → RS0 K B P2 al2 M2 H2 → c M2 →
    (∀ (i : Nat) (d : D), ds[i]? = some d → J.go i H2 ∧ ∀ x H3, J.yld i H2 x H3 → ∃ P3, Ext P2 al2 H2 P3 al2 H3 ∧ RS0 K B P3 al2 M2 H3 ∧ Rep K P3 al2 d x) ∧ J.stop ds.length H2
theorem Walk.c {K : PySem.W.Frag} {J : It} {ds : List D} {P : Hp} {al : List Addr} (h : Walk K J ds P al) (c : Mt → Prop) : WalkQ c K J ds P al := fun B P2 al2 M2 H2 s p r _ => h B P2 al2 M2 H2 s p r
section
variable {X : Cx} {B : Bs} {e tg : Expr} {pos : Pos}
end
section
variable {K : PySem.W.Frag} {a : Addr} {ds : List D} {P : Hp} {al : List Addr} {i : Nat}
end
end L3

namespace L3
open PySem PySem.Spec PyProof.Rows L2
/-! ### C(e, .., k = v, ..): arguments one by one, some by name -/
section
variable {X : Cx} {B : Bs} {CX : CXT} {k np : Nat} {f C : Addr} {sp : DSp} {n x : Str} {p kpos pos : Pos} {e : Expr} {es : List Expr} {was wks : WA} {RX : RXe} {kws : List Keyword} {names : List Str}
end
/-! ### x + y of lists: a new list that will change -/
section
variable {K : PySem.W.Frag} {B : Bs}
end
/-! ### a, b, .. = a list -/
end L3

namespace L3
open PySem PySem.Spec PyProof.Rows L2 HotX
/-! ### raise C(..) from e, in the except suite that names e -/
section
variable {X : Cx} {pins : List (Addr × Obj)} {σ : L2.St} {H : Hp} {s : Shared}
end
section
variable {X : Cx} {x n : Str} {c : Value} {i : Nat} {body suite : List Stmt} {b₀ : Stmt} {np pos pos' : Pos} {tb : WX → TS} {ts : Addr → Obj → Value → Option Addr → TS} {Wout : WX}
end
end L3

namespace L3
open PySem PySem.Spec PyProof.Rows L2 HotX
/-! ### exceptions without a context, in the D-layer -/
section
variable {X : Cx} {B : Bs} {RX : RXe}
end
section
variable {P : Program} {w : World} {K : PySem.W.Frag} {mg : Str → Option Value} {base : Heap}
end
/-! ### raising where what is raised has no context -/
section
variable {X : Cx} {B : Bs} {C fI : Addr} {k : Nat} {fd : FuncData} {n x : Str} {p pos pos2 : Pos} {e : Expr} {es : List Expr} {was : WA} {ps ns : List Str} {RX : RXe} {ta : TA} {CX : CXT} {sp : Sp} {ds : List Value} {dvs : List V}
end
/-! ### own errors' __init__ while an exception is handled -/
section
variable {P : Program} {w : World} {K : PySem.W.Frag} {mg : Str → Option Value} {base : Heap} {C : Addr}
end
/-! ### try: .. except C as n: raise R(..) from n -/
section
variable {X : Cx} {B : Bs} {x y n n2 : Str} {Cc C2 fI : Addr} {i k : Nat} {body : List Stmt} {np npos pos pos' p rpos rpos2 : Pos} {e : Expr} {es : List Expr} {RX : RXe} {ok ps ns : List Str} {sub : Str → Bool} {wb : RXe → WS} {was : WA} {fd : FuncData}
end
/-- these are exceptions that may be raised -/
inductive RaTab (K : PySem.W.Frag) : List Str → Prop
  | nil : RaTab K []
  | cons {m : Str} {C : Addr} {ok : List Str} : ClsAt K m C → OexC K C → RaTab K ok → RaTab K (m :: ok)
theorem RaTab.look {X : Cx} {ok : List Str} (t : RaTab X.K ok) : ∀ n C, n ∈ ok → ClsAt X.K n C → Raises X (.ref C) := by
  induction t with
  | nil => intro n C h; cases h
  | @cons m Cm ok ca x t ih =>
    intro n C h hc
    rcases List.mem_cons.mp h with rfl | h
    · obtain rfl := ca.one hc
      exact raises_own x.exC x.tyC
    · exact ih n C h hc
end L3

namespace L3
open PySem PySem.Spec PyProof.Rows L2
/-! ### a dict that no longer changes, locked for good ahead of a statement; a loop over its keys -/
section
variable {X : Cx} {B : Bs} {st : Stmt} {w : WS} {i : Nat} {t : TS}
end
section
variable {X : Cx} {B : Bs} {tg e : Expr} {we : WE}
end
end L3

namespace L3
open PySem PySem.Spec PyProof.Rows L2
/-! ### isinstance(x, T) with a built-in T, x perhaps of an own class -/
inductive TabT (K : PySem.W.Frag) (T : String) : List (Str × Bool) → Prop
  | nil : TabT K T []
  | cons {n : Str} {r : Bool} {C : Addr} {tb : List (Str × Bool)} : ClsAt K n C → InsF K C → PySem.W.kitOne K (.ref C) (.type T) = some r → TabT K T tb → TabT K T ((n, r) :: tb)
theorem TabT.look {K : PySem.W.Frag} {T : String} {tb : List (Str × Bool)} (t : TabT K T tb) : ∀ n r C, tb.lookup n = some r → ClsAt K n C → InsF K C ∧ PySem.W.kitOne K (.ref C) (.type T) = some r := by
  induction t with
  | nil => intro n r C h; cases h
  | @cons n' r' C' tb ca i k t ih =>
    intro n r C h hc
    rw [List.lookup_cons] at h
    split at h
    · rename_i e
      obtain rfl : n = n' := by simpa using e
      cases h
      obtain rfl := ca.one hc
      exact ⟨i, k⟩
    · exact ih n r C h hc
/-! ### not x, x of an own class with a __bool__ -/
section
variable {X : Cx} {B : Bs} {k : Nat} {f C : Addr} {n : Str} {sp : DSp} {CX : CXT} {pos : Pos} {e : Expr} {we : WE}
end
end L3


namespace L3
open PySem PySem.Spec PyProof.Rows L2 Builtin
/-! ### a constant of a class, read off an instance -/
/-! ### C(*y), cls(*y) -/
section
variable {X : Cx} {B : Bs} {CX : CXT} {k i : Nat} {f C : Addr} {n : Str} {sp : DSp} {e : Expr} {we : WE} {RX : RXe} {p p2 pos : Pos}
end
end L3


namespace L3
open PySem PySem.Spec PyProof.Rows L2 Builtin
/-! ### d.values(), d a dict that is locked for good: in a loop, in list(..) -/
section
variable {X : Cx} {B : Bs} {tg e : Expr} {we : WE} {te : TE} {p apos cpos pos : Pos}
end
end L3


/-! ### == of two lists of instances with an own __eq__ -/
namespace GB
open PySem PySem.SeqAt GQ
open AutoSeq1 (wpAny_loadPart')
open MeetsSeq MeetsSeq2 MeetsSeq3 SeqRoads2
section
variable {prog : Program} {w : World} {A : Around} {R : Result → Shared → Prop}
end
section
variable {prog : Program} {w : World} {A : Around} {E : Value → Shared → Prop} {s : Shared}
end
end GB
namespace L3
open PySem PySem.Spec PyProof.Rows L2 Builtin
section
variable {X : Cx} {B : Bs} {CX : CXT} {k : Nat} {f C : Addr} {n : Str} {sp : DSp}
end
end L3

namespace L3
open PySem PySem.Spec PyProof.Rows L2
/-! ### in, of a dict, as a test -/
section
variable {X : Cx} {B : Bs} {i o : Expr} {wi wo : WE} {pos : Pos}
end
end L3

namespace L3
open PySem PySem.Spec PyProof.Rows L2
/-! ### the head's facts, looked at behind one run of the top -/
abbrev FrB := PySem.W.Frag → Bool
def xRef : Option (Option Value) → Addr
  | some (some (.ref a)) => a
  | _ => 0
/-! functions -/
abbrev FV : Type := Option (Str × Str × Arguments × FuncBody × Scope × Addr × List (Str × Addr) × Addr)
def fnV (K : PySem.W.Frag) (f : Addr) : FV := match K.lookup f with
  | some ⟨_, _, .func fd, _⟩ => some (fd.name, fd.qualname, fd.params, fd.body, fd.scope, fd.globals, fd.closure.map fun c => (c.1, 0), fd.builtins)
  | _ => none
def dfV (K : PySem.W.Frag) (f : Addr) : Value := match K.lookup f with
  | some ⟨_, _, .func fd, _⟩ => fd.defaults
  | _ => .none
def cdV (K : PySem.W.Frag) (f : Addr) : Value := match K.lookup f with
  | some ⟨_, _, .func fd, _⟩ => fd.code
  | _ => .none
def fnW (n q : Str) (a : Arguments) (b : List Stmt) (s : Scope) : FV := some (n, q, a, .stmts b, s, mainGlobals, [], builtinsNs)
theorem fn_look {K : PySem.W.Frag} {f : Addr} {n q : Str} {a : Arguments} {b : List Stmt} {s : Scope} {v : Value} (h : fnV K f = fnW n q a b s) (hd : dfV K f = v) :
    ∃ oc od sl kV dc pm an ct, K.lookup f = some ⟨oc, od, .func (PySem.W.fnOf n q a b s v kV dc pm an (cdV K f) ct), sl⟩ := by
  unfold fnV at h
  split at h
  · rename_i oc od fd sl e
    unfold dfV at hd
    unfold cdV
    rw [e] at hd ⊢
    obtain ⟨n1, n2, n3, n4, n5, n6, n7, n8, n9, n10, n11, n12, n13, n14, n15⟩ := fd
    simp only [fnW, Option.some.injEq, Prod.mk.injEq] at h
    obtain ⟨h1, h2, h3, h4, h5, h6, h7, h8⟩ := h
    have h7 : n7 = [] := List.map_eq_nil_iff.mp h7
    subst h1 h2 h3 h4 h5 h6 h7 h8
    have hd : n8 = v := hd
    subst hd
    exact ⟨oc, od, sl, n9, n10, n11, n12, n14, rfl⟩
  · cases h
/-! rows -/
/-! errors' classes -/
def oexB (K : PySem.W.Frag) (C : Addr) : Bool := (match K.lookup C with
  | some ⟨.type t, _, .cls cd, sl⟩ => decide (t = "type") && (match cd.mro, sl.toList with
    | .ref C' :: bm, [_, _, _, _, some (.builtin n), _] => decide (C' = C) && (decide (n = "ValueError.__new__") && (!cd.hasDel && (cd.hasDict && PySem.HandSPX.refsVE bm)))
    | _, _ => false)
  | _ => false) && (decide (PySem.W.findIn K (.ref C) "__setattr__" = some (some (.builtin "object.__setattr__"))) && (decide (PySem.W.subIn K (.ref C) (.type "BaseException") = some true) && (decide (PySem.W.typeIn K (.ref C) = some (.type "type")) && PySem.W.keepIn K (.ref C))))
theorem oexB_ok {K : PySem.W.Frag} {C : Addr} (h : oexB K C = true) : OexC K C := by
  unfold oexB at h
  rw [Bool.and_eq_true] at h
  obtain ⟨h1, h2⟩ := h
  simp only [Bool.and_eq_true] at h2
  obtain ⟨s1, s2, s3, s4⟩ := h2
  refine ⟨?_, of_decide_eq_true s1, of_decide_eq_true s2, of_decide_eq_true s3, s4⟩
  split at h1
  · rename_i t dd cd sl ho
    rw [Bool.and_eq_true] at h1
    obtain ⟨ht, h1⟩ := h1
    have ht := of_decide_eq_true ht
    subst ht
    split at h1
    · rename_i C' bm k0 k1 k2 k3 n k5 hm hs
      simp only [Bool.and_eq_true, Bool.not_eq_true'] at h1
      obtain ⟨hc, hn, hdel, hdict, hr⟩ := h1
      have hc := of_decide_eq_true hc
      have hn := of_decide_eq_true hn
      subst hc hn
      obtain ⟨nm, bs, mro, ns, qn, hd, sn, sub, ab, col, del⟩ := cd
      dsimp only at hm hdel hdict
      subst hm hdel hdict
      have hsl : sl = #[k0, k1, k2, k3, some (.builtin "ValueError.__new__"), k5] := by
        obtain ⟨l⟩ := sl
        simp only at hs
        rw [hs]
      subst hsl
      exact ⟨nm, qn, ns, bs, bm, sn, sub, ab, col, dd, k0, k1, k2, k3, k5, ho, hr⟩
    · cases h1
  · cases h1
/-! the part of the heap that is looked at -/
def frNat {β : Type} (n : Nat) (k : Nat → β) : β := match n with
  | 0 => k 0
  | m + 1 => k (m + 1)
theorem frNat_eq {β : Type} (n : Nat) (k : Nat → β) : frNat n k = k n := by cases n <;> rfl
def frK {β : Type} (g : Addr → Option Obj) : Nat → Nat → (PySem.W.Frag → β) → β
  | 0, _, k => k []
  | m + 1, a, k => match g a with
    | none => frNat (a + 1) fun b => frK g m b k
    | some o => frNat (a + 1) fun b => frK g m b fun r => k ((a, o) :: r)
theorem frK_eq {β : Type} (g : Addr → Option Obj) : ∀ (m a : Nat) (k : PySem.W.Frag → β), frK g m a k = k (He.frG g (List.range' a m))
  | 0, a, k => rfl
  | m + 1, a, k => by
    unfold frK
    rw [List.range'_succ]
    unfold He.frG
    cases h : g a with
    | none =>
      rw [List.filterMap_cons, h]
      show (frNat (a + 1) fun b => frK g m b k) = _
      rw [frNat_eq, frK_eq g m (a + 1) k]; rfl
    | some o =>
      rw [List.filterMap_cons, h]
      show (frNat (a + 1) fun b => frK g m b fun r => k ((a, o) :: r)) = _
      rw [frNat_eq, frK_eq g m (a + 1)]; rfl
abbrev AlH : Type := Bool × List FV
def lookB (fl : List (List FrB)) (fn : List (PySem.W.Frag → Addr)) (K : PySem.W.Frag) : AlH := (fl.all fun l => l.all fun f => f K, fn.map fun f => fnV K (f K))
def obsB (lo : Nat) (fl : List (List FrB)) (fn : List (PySem.W.Frag → Addr)) (n : Nat) (g : Addr → Option Obj) : AlH := match g mainGlobals with
  | none => (false, [])
  | some o => frK g (n - lo) lo fun r => lookB fl fn ((mainGlobals, o) :: r)
def hookB (lo : Nat) (fl : List (List FrB)) (fn : List (PySem.W.Frag → Addr)) (vs : List FV) : PySem.W.Hook where
  α := AlH
  obs := fun s => obsB lo fl fn s.heap.objs.size s.heap.get?
  val := fun _ => (true, vs)
  says := fun _ h => ∃ K : PySem.W.Frag, K.In h ∧ lookB fl fn K = (true, vs)
  of := fun w s e => by
    unfold obsB at e
    cases h : s.heap.get? mainGlobals with
    | none => rw [h] at e; cases (Prod.mk.inj e).1
    | some o =>
      rw [h] at e
      have e : (frK s.heap.get? (s.heap.objs.size - lo) lo fun r => lookB fl fn ((mainGlobals, o) :: r)) = (true, vs) := e
      rw [frK_eq] at e
      refine ⟨_, ?_, e⟩
      have : ((mainGlobals, o) :: He.frG s.heap.get? (List.range' lo (s.heap.objs.size - lo))) = He.frG s.heap.get? (mainGlobals :: List.range' lo (s.heap.objs.size - lo)) := by
        unfold He.frG
        rw [List.filterMap_cons, h]; rfl
      rw [this]
      exact He.frG_in
  keeps := fun _ _ _ ⟨K, hK, c⟩ k => ⟨K, PySem.W.Frag.In.keeps hK k, c⟩
def obT (lo : Nat) (fl : List (List FrB)) (fn : List (PySem.W.Frag → Addr)) (s : PySem.W.SharedT) : AlH := obsB lo fl fn s.n (HandSHeadRun.getT s)
theorem obT_eq (lo : Nat) (fl : List (List FrB)) (fn : List (PySem.W.Frag → Addr)) (vs : List FV) (s : PySem.W.SharedT) : obT lo fl fn s = (hookB lo fl fn vs).obs s.abs := by
  have e : HandSHeadRun.getT s = s.abs.heap.get? := funext fun a => HandSHeadRun.getT_eq s a
  have e2 : s.abs.heap.objs.size = s.n := PySem.W.absHeap_size s.tree s.n s.life
  show obsB lo fl fn s.n (HandSHeadRun.getT s) = obsB lo fl fn s.abs.heap.objs.size s.abs.heap.get?
  rw [e, e2]
theorem look_f {fl : List (List FrB)} {fn : List (PySem.W.Frag → Addr)} {vs : List FV} {K : PySem.W.Frag} (c : lookB fl fn K = (true, vs)) (i j : Nat) {l : List FrB} {f : FrB} (h : fl[i]? = some l) (h2 : l[j]? = some f) : f K = true := by
  have c1 : (fl.all fun l => l.all fun f => f K) = true := congrArg Prod.fst c
  exact List.all_eq_true.mp (List.all_eq_true.mp c1 l (List.mem_of_getElem? h)) f (List.mem_of_getElem? h2)
theorem look_v {fl : List (List FrB)} {fn : List (PySem.W.Frag → Addr)} {vs : List FV} {K : PySem.W.Frag} (c : lookB fl fn K = (true, vs)) (i : Nat) {f : PySem.W.Frag → Addr} {v : FV} (h : fn[i]? = some f) (h2 : vs[i]? = some v) : fnV K (f K) = v := by
  have e : (fn.map fun f => fnV K (f K)) = vs := congrArg Prod.snd c
  have e2 : (fn.map fun f => fnV K (f K))[i]? = vs[i]? := by rw [e]
  rw [List.getElem?_map, h, h2] at e2
  exact Option.some.inj e2
/-- what the law's row wants, of the law's promise, over a part of the heap that the head tells -/
theorem walk_ofH {l : PySem.W.OpenLaw} {n k : Nat} {q : Program} {loose : List Str} {XP : (Str → Option Value) → Heap → Prop} {YP : World → Heap → Prop} {d : DefRec} {CX : World → CXT} {sp : PySem.W.Frag → Sp} {x : Str}
    (most : l.most = some n) (few : n ≤ sizeLine) (plain : d.params.defaults = []) (room : Room k callerA)
    (F : ∀ (w : World) (mg : Str → Option Value) (fa : Addr) (h : Heap), YP w h → h.Ns mainGlobals mg → mg d.name = some (.ref fa) →
      ∃ K : PySem.W.Frag, K.In h ∧ ∃ fd : FuncData, (∀ (s : Shared) (u : Value), BindsTo s fd ⟨[u], []⟩ [(x, u)]) ∧ ∀ base : Heap, K.In base → base.Ns mainGlobals mg → FnG l.prog w K mg base (CX w) k fa fd [x] (sp K))
    (asked : ∀ (K : PySem.W.Frag) (H : Hp) (a : Addr) (ns : List Int), ns.length ≤ n → Only H → SqL K H a (ns.map V.int) → sp K [.ref a] H (fun v _ => v = .bl true) fun _ _ _ => False)
    (clean : ∀ (w : World) (H : Hp) (s : Shared) (e : Value) (s' : Shared), CX w [] H s (fun _ _ _ => False) e s' → False) : PySem.W.WalkO q loose XP YP l.row.toRowW d [] (fun f vs => PySem.call f vs) := by
  apply Att.attach_call most plain
  intro w s0 s1 mg mb fa o pm cd doc a vs ns G Y there is_fn code name script whole short bare
  obtain ⟨K, kin, fd, binds, promise⟩ := F w mg fa _ Y G.T.g name
  exact lawG_call kin G.T.g G.T.b G.T.builtins G.T.nolimit bare script whole (Nat.le_trans short few) room promise binds (fun H o q => asked K H a ns short o q) fun H e s' => clean w H s1 e s'
end L3

/-! ### sorted(set(xs)), xs a tuple of texts -/
namespace L3
open PySem PySem.Spec PyProof.Rows L2 PySem.SeqAt
def txt (e : Int × Value) : Str := match e.2 with
  | .str x _ => x
  | _ => default
def TxtE (w : World) (e : Int × Value) : Prop := ∃ x u, e.2 = Value.str x u ∧ e.1 = hashStr w x
/-- what the set at a holds: the texts ys -/
def SetX (w : World) (h : Heap) (a : Addr) (ys : List Str) : Prop :=
  ∃ o rows ep tb, h.get? a = some o ∧ o.ExactSet ∧ o.data = .set rows ep tb ∧ ((∀ e ∈ rows.toList, TxtE w e) ∧ (rows.toList.map txt).Nodup ∧ (∀ y, y ∈ ys ↔ y ∈ rows.toList.map txt)) ∧
    (rows.size ≤ ys.length ∧ rows.size < scanBound) ∧ tb.fits rows.size = true ∧ Ris tb.place.toList ∧ (w.params.followText "set-order" = true ∨ tb.led = true)
section
variable {prog : Program} {w : World} {A : Around} {E : Value → Shared → Prop} {s : Shared} {a : Addr} {ys : List Str}
theorem SetX.far {h h' : Heap} (q : SetX w h a ys) (k : ∀ o, h.get? a = some o → h'.get? a = some o) : SetX w h' a ys := by
  obtain ⟨o, rows, ep, tb, ho, r⟩ := q
  exact ⟨o, rows, ep, tb, k o ho, r⟩
end
end L3

namespace L3
open PySem PySem.Spec PyProof.Rows L2 PySem.SeqAt
section
variable {prog : Program} {w : World} {A : Around} {E : Value → Shared → Prop} {s : Shared}
end
section
variable {X : Cx} {B : Bs} {a : Expr} {wa : WE} {p p2 q pos : Pos}
end
end L3

namespace L3
open PySem PySem.Spec PyProof.Rows L2
/-! ### for k, v in d.items(), d a dict that is locked for good -/
section
variable {X : Cx} {B : Bs} {e : Expr} {we : WE} {elts : List Expr} {kk : Nat} {apos cpos tpos : Pos}
end
end L3

/-! ### tuple(d) of a dict: its keys -/
namespace L3
open PySem PySem.Spec PyProof.Rows L2
section
variable {prog : Program} {w : World} {A : Around} {E : Value → Shared → Prop} {s : Shared} {d : Addr} {N : Nat} {P : Nat → Value → Prop} {At : Heap → Prop}
end
section
variable {X : Cx}
end
section
variable {K : PySem.W.Frag} {B : Bs}
end
/-! ### raise C(), an own error without an __init__ -/
section
variable {X : Cx} {C : Addr} {bmB : List Value} {Bn newId initId : String}
theorem pmk_own0 {x : Str} {p pos : Pos} (F : ExcBaseFacts Bn newId initId bmB) (q : PySem.W.excIn X.K C bmB newId = true) (gC : X.mg x = some (.ref C)) (kC : PySem.W.keepIn X.K (.ref C) = true) (r : Raises X (.ref C)) (hg : Gl X x)
    (hdb : (x == ("__debug__" : Str)) = false := by decide) : PMk X (.Call (.Name x p) [] [] pos) (fun _ H Q => Q (.ref C) none H) := by
  intro pins s σ H Q I h
  refine wpAny_Call_Name_kw (ld_glob I hg gC ?_ hdb)
  refine PySem.W.callWith_K0 I.kIn kC ?_
  show wpAny _ _ (call (.ref C) []) _ _ _
  obtain ⟨bm, N, nm, qn, bs, hdct, sn, sub, ab, col, dd, k0, k1, k2, k3, k5, mN, hC, hN, hni, T⟩ := exc_obj I.kIn q
  refine wpAny_call_exc_subT F T hC hN hni (fun h' e hm => ?_) (by show 0 ≤ sizeLine; rw [sizeLine_eq]; omega)
  exact mk_of I hm r h (I.hok.gone hm.new)
end
section
variable {X : Cx} {B : Bs} {C : Addr} {n x : Str} {p pos pos2 : Pos} {RX : RXe}
/-- a class over ValueError, without an __init__ of its own -/
structure Oex0 (K : PySem.W.Frag) (C : Addr) : Prop where
  ex : PySem.W.excIn K C [.type "ValueError", .type "Exception", .type "BaseException", .type "object"] "ValueError.__new__" = true
  kp : PySem.W.keepIn K (.ref C) = true
  sub : PySem.W.subIn K (.ref C) (.type "BaseException") = some true
  ty : PySem.W.typeIn K (.ref C) = some (.type "type")
end
/-! ### o(..), o an object with a __call__ of its class -/
section
variable {M : Model} {A : Around} {E : Value → Shared → Prop} {s : Shared} {env : Env} {pos : Pos} {x : Addr} {first : List Value} {Q : Value → Shared → Prop}
end
section
variable {X : Cx} {B : Bs} {CX : CXT} {k : Nat} {f C : Addr} {sp : DSp} {n x : Str} {p pos : Pos} {e : Expr} {es : List Expr} {was : WA} {wo : WE} {RX : RXe}
end
end L3

namespace L3
open PySem PySem.Spec PyProof.Rows L2
/-! ### methods that close over their class, and say super() -/
abbrev kC (n : Nat) (sc : Scope) (cc : Addr) : List (Str × Addr) := cellsFrom n sc.names [(("__class__" : Str), cc)]
section
variable {M : Model} {A : Around} {E : Value → Shared → Prop} {s0 : Shared} {env : Env}
end
section
variable {CX : CXT} {P : Program} {w : World} {K : PySem.W.Frag} {mg : Str → Option Value} {base : Heap} {N ps : List Str} {qual : Str} {sc : Scope} {f cc : Addr} {cd : Value} {A : Around} {outer : List Env} {s s1 : Shared} {H : Hp} {E : XK}
end
/-! ### readings in the known activation -/
structure PEA (X : Cx) (b : List Stmt) (e : Expr) (t : TE) : Prop where
  run : ∀ (pins : List (Addr × Obj)) (s : Shared) (σ : L2.St) (H : Hp) (Q : VK), Inv X pins σ H s → t σ H Q → _root_.PySem.wpAt (model X.prog X.w) X.A (.func b X.env) (eval e X.env) (EP X pins σ Q) X.xe s
structure PSA (X : Cx) (b : List Stmt) (st : Stmt) (t : TS) : Prop where
  run : ∀ (pins : List (Addr × Obj)) (s : Shared) (σ : L2.St) (H : Hp) (D : Ends), Inv X pins σ H s → t D σ H → _root_.PySem.wpAt (model X.prog X.w) X.A (.func b X.env) (exec st X.env) (SP X pins D) X.xe s
structure PSsA (X : Cx) (b st : List Stmt) (t : TS) : Prop where
  run : ∀ (pins : List (Addr × Obj)) (s : Shared) (σ : L2.St) (H : Hp) (D : Ends), Inv X pins σ H s → t D σ H → _root_.PySem.wpAt (model X.prog X.w) X.A (.func b X.env) (execs st X.env) (SP X pins D) X.xe s
section
variable {X : Cx} {b : List Stmt} {st : Stmt} {rest : List Stmt} {t u : TS} {e e2 : Expr} {te te2 : TE} {pos : Pos}
theorem PSA.of (h : PS X st t) : PSA X b st t := ⟨fun pins s σ H D I q => _root_.PySem.wpAt_of_wpAny (h.run pins s σ H D I q)⟩
theorem PSsA.of (h : PSs X rest t) : PSsA X b rest t := ⟨fun pins s σ H D I q => _root_.PySem.wpAt_of_wpAny (h.run pins s σ H D I q)⟩
end
/-! ### a def's promise by a body in the known activation -/
section
variable {CX : CXT} {P : Program} {w : World} {K : PySem.W.Frag} {mg : Str → Option Value} {base : Heap} {N ps : List Str} {name qual : Str} {params : Arguments} {body : List Stmt} {sc : Scope} {dV kV doc pm cdv ct oc : Value} {an od : Option Addr} {osl : Array (Option Value)} {f cc : Addr} {k : Nat} {sp : Sp}
end
end L3

namespace L3
open PySem PySem.Spec PyProof.Rows L2
/-! ### super() -/
/-- the program's main text is that of P0 -/
class SameMain (P P0 : Program) : Prop where
  eq : P.main = P0.main
/-- behind the class at D, for an instance of the class at C, m is the def at g -/
structure SupM (K : PySem.W.Frag) (C D : Addr) (m : Str) (g : Addr) : Prop where
  at_ : PySem.W.ks_superIn K C D m = some (some (.ref g))
  ty : PySem.W.typeIn K (.ref g) = some (.type "function")
  fi : PySem.W.fnIn K g = true
  sub : PySem.W.mroIn K C (.ref D) = some true
  op : PySem.W.nsIn K cStatics "thirdparty.any" = some none
section
variable {X : Cx} {P0 : Program} {pins : List (Addr × Obj)} {σ : L2.St} {H : Hp} {s : Shared} {b : List Stmt} {whole : Sem Value} {p0 p1 : Pos} {m a0 : Str} {f g cc D x C dx : Addr} {fs : List (Str × V)} {E : Value → Shared → Prop}
end
end L3

namespace L3
open PySem PySem.Spec PyProof.Rows L2
/-! ### super(), over data -/
theorem PEA.imp {X : Cx} {b : List Stmt} {e : Expr} {t u : TE} (h : PEA X b e t) (i : ∀ σ H Q, u σ H Q → t σ H Q) : PEA X b e u := ⟨fun pins s σ H Q I q => h.run pins s σ H Q I (i σ H Q q)⟩
theorem PSA.imp {X : Cx} {b : List Stmt} {e : Stmt} {t u : TS} (h : PSA X b e t) (i : ∀ D σ H, u D σ H → t D σ H) : PSA X b e u := ⟨fun pins s σ H D I q => h.run pins s σ H D I (i D σ H q)⟩
theorem PSsA.imp {X : Cx} {b e : List Stmt} {t u : TS} (h : PSsA X b e t) (i : ∀ D σ H, u D σ H → t D σ H) : PSsA X b e u := ⟨fun pins s σ H D I q => h.run pins s σ H D I (i D σ H q)⟩
section
variable {X : Cx} {B : Bs} {b : List Stmt} {st : Stmt} {rest : List Stmt} {w u : WS} {e e2 : Expr} {we wb : WE} {pos : Pos}
end
inductive SupTab (X : Cx) (CX : CXT) (k : Nat) (Dc : Addr) (m : Str) : List (Str × DSp) → Prop
  | nil : SupTab X CX k Dc m []
  | cons {n : Str} {C g : Addr} {sp : DSp} {l : List (Str × DSp)} : ClsAt X.K n C → SupM X.K C Dc m g → FnR X.prog X.w X.K X.mg X.base CX k g (toSp X.K sp) → SupTab X CX k Dc m l → SupTab X CX k Dc m ((n, sp) :: l)
theorem SupTab.look {X : Cx} {CX : CXT} {k : Nat} {Dc : Addr} {m n : Str} {sp : DSp} : ∀ {l : List (Str × DSp)}, SupTab X CX k Dc m l → l.lookup n = some sp → ∃ C g, ClsAt X.K n C ∧ SupM X.K C Dc m g ∧ FnR X.prog X.w X.K X.mg X.base CX k g (toSp X.K sp)
  | _, .nil, e => by cases e
  | _, .cons (n := n') ca sm F t, e => by
    by_cases h : (n == n') = true
    · rw [List.lookup, h] at e
      cases e
      have := eq_of_beq h
      subst this
      exact ⟨_, _, ca, sm, F⟩
    · have h : (n == n') = false := by simpa using h
      rw [List.lookup, h] at e
      exact SupTab.look t e
section
variable {X : Cx} {B : Bs} {CX : CXT} {P0 : Program} {k : Nat} {f cc Dc : Addr} {a0 m : Str} {b : List Stmt} {l : List (Str × DSp)} {RX : RXe} {was : WA} {e : Expr} {es : List Expr} {p0 p1 apos pos : Pos}
end
/-! ### the defs -/
section
variable {P : Program} {w : World} {K : PySem.W.Frag} {mg : Str → Option Value} {base : Heap}
end
end L3

namespace L3
open PySem PySem.Spec PyProof.Rows L2
/-! ### o.m(..), o of one of several classes -/
inductive MethTab (X : Cx) (CX : CXT) (k : Nat) (m : Str) : List (Str × DSp) → Prop
  | nil : MethTab X CX k m []
  | cons {n : Str} {C g : Addr} {sp : DSp} {l : List (Str × DSp)} : ClsAt X.K n C → Cls X.K C → Meth X.K C m g → FnR X.prog X.w X.K X.mg X.base CX k g (toSp X.K sp) → MethTab X CX k m l → MethTab X CX k m ((n, sp) :: l)
theorem MethTab.look {X : Cx} {CX : CXT} {k : Nat} {m n : Str} {sp : DSp} : ∀ {l : List (Str × DSp)}, MethTab X CX k m l → l.lookup n = some sp → ∃ C g, ClsAt X.K n C ∧ Cls X.K C ∧ Meth X.K C m g ∧ FnR X.prog X.w X.K X.mg X.base CX k g (toSp X.K sp)
  | _, .nil, e => by cases e
  | _, .cons (n := n') ca cl me F t, e => by
    by_cases h : (n == n') = true
    · rw [List.lookup, h] at e
      cases e
      have := eq_of_beq h
      subst this
      exact ⟨_, _, ca, cl, me, F⟩
    · have h : (n == n') = false := by simpa using h
      rw [List.lookup, h] at e
      exact MethTab.look t e
section
variable {X : Cx} {B : Bs} {CX : CXT} {k : Nat} {l : List (Str × DSp)} {m : Str} {RX : RXe} {wo : WE} {was : WA} {o e : Expr} {es : List Expr} {apos pos : Pos} {pl : Sem Bool}
end
/-! ### o(..), o of one of several classes -/
/-! ### fields of instances of several classes -/
inductive FldTab (K : PySem.W.Frag) (f : Str) : List Str → Prop
  | nil : FldTab K f []
  | cons {n : Str} {C : Addr} {l : List Str} : ClsAt K n C → Cls K C → NoAttr K C f → FldTab K f l → FldTab K f (n :: l)
theorem FldTab.look {K : PySem.W.Frag} {f n : Str} : ∀ {l : List Str}, FldTab K f l → l.contains n = true → ∃ C, ClsAt K n C ∧ Cls K C ∧ NoAttr K C f
  | _, .nil, e => by cases e
  | _, .cons (n := n') ca cl na t, e => by
    rw [List.contains_cons, Bool.or_eq_true] at e
    rcases e with e | e
    · have := eq_of_beq e
      subst this
      exact ⟨_, ca, cl, na⟩
    · exact FldTab.look t e
section
variable {X : Cx} {B : Bs} {e o value : Expr} {w wo wv : WE} {pos pos' : Pos} {f : Str} {ns : List Str}
end
/-! ### a dict that changes is walked and read within one expression -/
/-! ### l.reverse() -/
end L3

namespace L3
open PySem PySem.Spec PyProof.Rows PyProof.V L2
/-! ### repr of nested data, through the table -/
mutual
inductive Gr (K : PySem.W.Frag) (H : Hp) : V → PyData → Prop
  | non : Gr K H .non .none
  | bl (b : Bool) : Gr K H (.bl b) (.bool b)
  | int (i : Int) : Gr K H (.int i) (.int i)
  | str (s : Str) : Gr K H (.str s) (.str s)
  | lst {a : Addr} {xs : List V} {ps : List PyData} : SqL K H a xs → GrA K H xs ps → Gr K H (.ref a) (.list ps)
  | tup {a : Addr} {xs : List V} {ps : List PyData} : SqT K H a xs → GrA K H xs ps → Gr K H (.ref a) (.tuple ps)
  | dct {a : Addr} {kvs : List (Key × V)} {ps : List (PyData × PyData)} : Rd H a (.dK kvs) → GrK K H kvs ps → Gr K H (.ref a) (.dict ps)
inductive GrA (K : PySem.W.Frag) (H : Hp) : List V → List PyData → Prop
  | nil : GrA K H [] []
  | cons {v : V} {p : PyData} {vs : List V} {ps : List PyData} : Gr K H v p → GrA K H vs ps → GrA K H (v :: vs) (p :: ps)
inductive GrK (K : PySem.W.Frag) (H : Hp) : List (Key × V) → List (PyData × PyData) → Prop
  | nil : GrK K H [] []
  | cons {k : Key} {v : V} {p : PyData} {vs : List (Key × V)} {ps : List (PyData × PyData)} : Gr K H v p → GrK K H vs ps → GrK K H ((k, v) :: vs) ((keyP k, p) :: ps)
end
/-- the table of modules is a dict -/
def SmK (K : PySem.W.Frag) : Prop := ∃ o, K.lookup sysModules = some o ∧ o.cls = .type "dict"
section
variable {X : Cx} {pins : List (Addr × Obj)} {σ : L2.St} {H : Hp} {s : Shared}
mutual
theorem Gr.reads (I : Inv X pins σ H s) (sm : SmK X.K) : ∀ {v : V} {p : PyData} {u : Value}, Gr X.K H v p → RelV v u → ∃ as, Reads s.heap u p as ∧ sysModules ∉ as
  | _, _, _, .non, r => by cases r; exact ⟨_, .none, by simp⟩
  | _, _, _, .bl b, r => by cases r; exact ⟨_, .bool b, by simp⟩
  | _, _, _, .int i, r => by obtain ⟨t, rfl⟩ := r; exact ⟨_, .int i t, by simp⟩
  | _, _, _, .str x, r => by obtain ⟨t, rfl⟩ := r; exact ⟨_, .str x t, by simp⟩
  | _, _, _, .lst hs ha, r => by
    cases r
    obtain ⟨its, rv, ⟨o, n, ho, hc, _, hd⟩, _⟩ := I.list hs
    obtain ⟨as, hr, hn⟩ := GrA.reads I sm (us := its) ha rv
    refine ⟨_, Reads.list ho hc hd hr, fun z => ?_⟩
    rcases List.mem_cons.mp z with e | e
    · obtain ⟨o2, h2, h3⟩ := sm
      have h4 := I.kIn _ _ h2
      rw [e, ho] at h4
      cases h4
      rw [hc] at h3
      exact absurd h3 (by decide)
    · exact hn e
  | _, _, _, .tup hs ha, r => by
    cases r
    obtain ⟨its, rv, ⟨o, ho, hc, n, hd⟩, _⟩ := I.tuple hs
    obtain ⟨as, hr, hn⟩ := GrA.reads I sm (us := its) ha rv
    exact ⟨_, Reads.tuple ho hc hd hr, hn⟩
  | _, _, _, .dct hd hk, r => by
    cases r
    obtain ⟨_, lo, vs, rel, dd⟩ := dk_rd I.hok hd
    obtain ⟨bs, hr, hn⟩ := GrK.reads I sm hk rel
    refine ⟨_, reads_dictOf (enc := keyP) key_reads dd hr, fun z => ?_⟩
    rcases List.mem_cons.mp z with e | e
    · rw [← e] at lo
      simp at lo
    · exact hn e
theorem GrA.reads (I : Inv X pins σ H s) (sm : SmK X.K) : ∀ {vs : List V} {ps : List PyData} {us : List Value}, GrA X.K H vs ps → Vals vs us → ∃ as, ReadsAll s.heap us ps as ∧ sysModules ∉ as
  | _, _, _, .nil, r => by cases r; exact ⟨_, .nil, by simp⟩
  | _, _, _, .cons h t, r => by
    cases r with
    | cons r1 r2 =>
      obtain ⟨as, q1, n1⟩ := Gr.reads I sm h r1
      obtain ⟨bs, q2, n2⟩ := GrA.reads I sm t r2
      exact ⟨_, .cons q1 q2, fun z => (List.mem_append.mp z).elim n1 n2⟩
theorem GrK.reads (I : Inv X pins σ H s) (sm : SmK X.K) : ∀ {kvs : List (Key × V)} {ps : List (PyData × PyData)} {vs : List (Key × Value)}, GrK X.K H kvs ps → KV kvs vs → ∃ bs, PairsRead s.heap keyP vs ps bs ∧ sysModules ∉ bs
  | _, _, _, .nil, r => by cases r; exact ⟨_, .nil, by simp⟩
  | _, _, _, .cons (k := k) h t, r => by
    cases r with
    | cons r1 r2 =>
      rename_i y ys
      obtain ⟨k', u⟩ := y
      obtain ⟨e, r1⟩ := r1
      have e' : k = k' := e
      subst e'
      obtain ⟨as, q1, n1⟩ := Gr.reads I sm h r1
      obtain ⟨bs, q2, n2⟩ := GrK.reads I sm t r2
      exact ⟨_, .cons q1 q2, fun z => (List.mem_append.mp z).elim n1 n2⟩
end
end
def rReprC (K : PySem.W.Frag) : List V → Hp → VK → Prop := fun xs H Q => ∃ v p, xs = [v] ∧ Gr K H v p ∧ RpOk p ∧ Q (.str p.shown) H
theorem repr_C {X : Cx} (sm : SmK X.K) (quiet : X.A.guards = some []) (room : X.A.units + 64 < cLine) : CallR X (.builtin "repr") (rReprC X.K) := by
  intro pins s σ H xs us Q I r h
  obtain ⟨v, p, rfl, hd, ⟨hs, hdep, hsz⟩, q⟩ := h
  obtain ⟨u, rfl, rv⟩ := vals1 r
  obtain ⟨as, hr, hsm⟩ := hd.reads I sm rv
  have fin : ∀ (h' : Heap) (tok : Tok) (tk : Tok), (∀ b o, s.heap.get? b = some o → h'.get? b = some o) → EP X pins σ Q (.str p.shown tok) { s with heap := h', toks := tk } := fun h' tok tk k =>
    ⟨.str p.shown, H, I.kept k, ⟨_, rfl⟩, q⟩
  have same : ∀ (tok tk : Tok), EP X pins σ Q (.str p.shown tok) { s with toks := tk } := fun tok tk => ⟨.str p.shown, H, I.tok tk, ⟨_, rfl⟩, q⟩
  cases hr with
  | none => exact PySem.P.repr_of_none (same _ _)
  | bool b => exact PySem.P.repr_of_bool (by have := same s.toks (s.toks + 1); simpa [PyData.shown] using this)
  | int i t => exact PySem.P.repr_of_int (by simpa [PyData.showable] using hs) (by have := same s.toks (s.toks + 1); simpa [PyData.shown] using this)
  | str x t => exact PySem.P.repr_of_str (by have := same s.toks (s.toks + 1); simpa [PyData.shown] using this) (by simpa [PyData.shown] using hsz)
  | list h1 h2 h3 h4 => exact repr_of_reads' (.list h1 h2 h3 h4) hs (fun _ => hsm) quiet (by omega) (fun _ _ e => e) (fun h' u tk k => fin h' u tk k) hsz
  | tuple h1 h2 h3 h4 => exact repr_of_reads' (.tuple h1 h2 h3 h4) hs (fun _ => hsm) quiet (by omega) (fun _ _ e => e) (fun h' u tk k => fin h' u tk k) hsz
  | dict h1 h2 h3 h4 h5 => exact repr_of_reads' (.dict h1 h2 h3 h4 h5) hs (fun _ => hsm) quiet (by omega) (fun _ _ e => e) (fun h' u tk k => fin h' u tk k) hsz
def mapO {α β : Type} (f : α → Option β) : List α → Option (List β)
  | [] => some []
  | a :: r => match f a, mapO f r with
    | some b, some bs => some (b :: bs)
    | _, _ => none
/-- the datum that repr tells, objects that change looked up in the table -/
def rpC (M : Mt) : Nat → D → Option PyData
  | 0, _ => none
  | n + 1, d => match viewD M d with
    | .non => some .none
    | .bl b => some (.bool b)
    | .int i => some (.int i)
    | .str s => some (.str s)
    | .tup l => (mapO (rpC M n) l).map .tuple
    | .lst l => (mapO (rpC M n) l).map .list
    | .rol l => (mapO (rpC M n) l).map .list
    | .dct ks => (mapO (fun (p : Key × D) => (rpC M n p.2).map fun q => (keyP p.1, q)) ks).map .dict
    | .fdc ks => (mapO (fun (p : Key × D) => (rpC M n p.2).map fun q => (keyP p.1, q)) ks).map .dict
    | _ => none
section
variable {K : PySem.W.Frag} {B : Bs} {P : Hp} {al : List Addr} {M : Mt} {H : Hp}
theorem mapO_gr {f : D → Option PyData} (h : ∀ {d : D} {v : V} {p : PyData}, Rep K P al d v → f d = some p → Gr K H v p) : ∀ {ds : List D} {vs : List V} {ps : List PyData}, Reps K P al ds vs → mapO f ds = some ps → GrA K H vs ps
  | _, _, _, .nil, e => by cases e; exact .nil
  | _, _, _, .cons r t, e => by
    unfold mapO at e
    split at e
    · rename_i b bs h1 h2
      cases e
      exact .cons (h r h1) (mapO_gr h t h2)
    · cases e
theorem mapO_grK {f : D → Option PyData} (h : ∀ {d : D} {v : V} {p : PyData}, Rep K P al d v → f d = some p → Gr K H v p) : ∀ {ds : List (Key × D)} {vs : List (Key × V)} {ps : List (PyData × PyData)}, RepKs K P al ds vs → mapO (fun (p : Key × D) => (f p.2).map fun q => (keyP p.1, q)) ds = some ps → GrK K H vs ps
  | _, _, _, .nil, e => by cases e; exact .nil
  | _, _, _, .cons (d := d) r t, e => by
    unfold mapO at e
    split at e
    · rename_i b bs h1 h2
      cases e
      cases hf : f d with
      | none => simp [hf] at h1
      | some q =>
        simp [hf] at h1
        subst h1
        exact .cons (h r hf) (mapO_grK h t h2)
    · cases e
theorem map_some {α β : Type} {f : α → β} {o : Option α} {b : β} (h : o.map f = some b) : ∃ a, o = some a ∧ f a = b := by
  cases o with
  | none => cases h
  | some a => exact ⟨a, rfl, Option.some.inj h⟩
theorem rpC_gr (rs : RS0 K B P al M H) : ∀ (n : Nat) {d : D} {v : V} {p : PyData}, Rep K P al d v → rpC M n d = some p → Gr K H v p
  | 0, _, _, _, _, e => by cases e
  | n + 1, d, v, p, r, e => by
    have ih : ∀ {d : D} {v : V} {p : PyData}, Rep K P al d v → rpC M n d = some p → Gr K H v p := fun r e => rpC_gr rs n r e
    unfold rpC at e
    split at e
    · rename_i h; cases view_non r h; cases e; exact .non
    · rename_i h; cases view_bl r h; cases e; exact .bl _
    · rename_i h; cases view_int r h; cases e; exact .int _
    · rename_i h; cases view_str r h; cases e; exact .str _
    · rename_i h
      obtain ⟨a, xs, rfl, h1, h2⟩ := view_tup rs r h
      obtain ⟨ps, e1, rfl⟩ := map_some e
      exact .tup h1 (mapO_gr ih h2 e1)
    · rename_i h
      obtain ⟨a, xs, rfl, h1, h2⟩ := view_lst rs r h
      obtain ⟨ps, e1, rfl⟩ := map_some e
      exact .lst (.inl (.inl h1)) (mapO_gr ih h2 e1)
    · rename_i h
      obtain ⟨a, xs, rfl, h1, h2⟩ := view_rol rs r h
      obtain ⟨ps, e1, rfl⟩ := map_some e
      exact .lst h1 (mapO_gr ih h2 e1)
    · rename_i h
      obtain ⟨a, xs, rfl, h1, h2⟩ := view_dct rs r h
      obtain ⟨ps, e1, rfl⟩ := map_some e
      exact .dct (.inl h1) (mapO_grK ih h2 e1)
    · rename_i h
      obtain ⟨a, xs, rfl, h1, h2⟩ := view_fdc rs r h
      obtain ⟨ps, e1, rfl⟩ := map_some e
      exact .dct h1 (mapO_grK ih h2 e1)
    · cases e
end
@[irreducible] def cReprC : WCl := fun ds M R => match ds with
  | [x] => match rpC M 12 x with
    | some p => Need (RpOk p) ∧ R (.str p.shown) M
    | none => False
  | _ => False
theorem cReprC_ok {K : PySem.W.Frag} {B : Bs} : CallD K B (rReprC K) cReprC := by
  intro P al M env σ H vs ds R Q rs r h L
  unfold cReprC at h
  split at h
  · cases r with
    | cons r1 t =>
      cases t
      split at h
      · rename_i p e
        exact ⟨_, p, rfl, rpC_gr rs.toRS0 12 r1 e, h.1.out, L.here rs (.str _) h.2⟩
      · exact h.elim
  · exact h.elim
theorem reprC_use {M : Mt} {x : D} {R : D → Mt → Prop} {p : PyData} (h : rpC M 12 x = some p) (ok : RpOk p) (k : R (.str p.shown) M) : cReprC [x] M R := by
  simp only [cReprC, h]; exact ⟨⟨ok⟩, k⟩
/-! ### dict(d), a copy -/
/-! ### dicts of ints compared -/
section
variable {X : Cx}
end
end L3

namespace L3
open PySem PySem.Spec PyProof.Rows PyProof.V L2
/-! ### o(..), o of one of several classes -/
inductive CallTab (X : Cx) (CX : CXT) (k : Nat) : List (Str × DSp) → Prop
  | nil : CallTab X CX k []
  | cons {n : Str} {C g : Addr} {sp : DSp} {l : List (Str × DSp)} : ClsAt X.K n C → OpC X.K C "__call__" g → PySem.W.fnIn X.K g = true → FnR X.prog X.w X.K X.mg X.base CX k g (toSp X.K sp) → CallTab X CX k l → CallTab X CX k ((n, sp) :: l)
theorem CallTab.look {X : Cx} {CX : CXT} {k : Nat} {n : Str} {sp : DSp} : ∀ {l : List (Str × DSp)}, CallTab X CX k l → l.lookup n = some sp → ∃ C g, ClsAt X.K n C ∧ OpC X.K C "__call__" g ∧ PySem.W.fnIn X.K g = true ∧ FnR X.prog X.w X.K X.mg X.base CX k g (toSp X.K sp)
  | _, .nil, e => by cases e
  | _, .cons (n := n') ca oc hf F t, e => by
    by_cases h : (n == n') = true
    · rw [List.lookup, h] at e
      cases e
      have := eq_of_beq h
      subst this
      exact ⟨_, _, ca, oc, hf, F⟩
    · have h : (n == n') = false := by simpa using h
      rw [List.lookup, h] at e
      exact CallTab.look t e
section
variable {X : Cx} {B : Bs} {CX : CXT} {k : Nat} {l : List (Str × DSp)} {RX : RXe} {wo : WE} {was : WA} {o e : Expr} {es : List Expr} {pos : Pos}
end
/-! ### the head's facts of methods that close over their class -/
def smB (K : PySem.W.Frag) : Bool := match K.lookup sysModules with
  | some ⟨.type t, _, _, _⟩ => decide (t = "dict")
  | _ => false
theorem smB_ok {K : PySem.W.Frag} (h : smB K = true) : SmK K := by
  unfold smB at h
  split at h
  · rename_i t od dt sl e
    have := of_decide_eq_true h
    subst this
    exact ⟨_, e, rfl⟩
  · cases h
end L3

namespace L3
open PySem PySem.Spec PyProof.Rows PyProof.V L2
/-! ### small data: their repr fits -/
mutual
def smallP : PyData → Bool
  | .none => true
  | .bool _ => true
  | .int i => decide (i.natAbs.log2 < 1920)
  | .str s => decide (s.length ≤ 1000) && PyData.strOk s
  | .list xs => smallA xs
  | .tuple xs => smallA xs
  | .dict kvs => smallK kvs
def smallA : List PyData → Bool
  | [] => true
  | x :: r => smallP x && smallA r
def smallK : List (PyData × PyData) → Bool
  | [] => true
  | (k, v) :: r => smallP k && (smallP v && smallK r)
end
mutual
def wtP : PyData → Nat
  | .list xs => 1 + wtA xs
  | .tuple xs => 1 + wtA xs
  | .dict kvs => 1 + wtK kvs
  | _ => 1
def wtA : List PyData → Nat
  | [] => 0
  | x :: r => wtP x + wtA r
def wtK : List (PyData × PyData) → Nat
  | [] => 0
  | (k, v) :: r => wtP k + (wtP v + wtK r)
end
theorem len_app (a b : Str) : (a ++ b).length = a.length + b.length := by
  show (a.cps ++ b.cps).size = _
  rw [Array.size_append] <;> rfl
theorem textFrom_le : ∀ (ts : List Str) (k : Nat) (acc : Str), (textFrom k acc ts).length ≤ acc.length + piled ts
  | [], _, acc => by show acc.length ≤ _; omega
  | t :: r, k, acc => by
    have ih := textFrom_le r (k + 1) (acc ++ (if k > 0 then ", " else "" : String) ++ t)
    have e : (acc ++ (if k > 0 then ", " else "" : String) ++ t : Str).length ≤ acc.length + 2 + t.length := by
      rw [len_app, len_app]
      split
      · have : (Str.ofString ", ").length = 2 := by decide +kernel
        omega
      · have : (Str.ofString "").length = 0 := by decide +kernel
        omega
    rw [piled_cons]
    show (textFrom (k + 1) (acc ++ (if k > 0 then ", " else "" : String) ++ t) r).length ≤ _
    omega
theorem join_le (ts : List Str) : (Str.join ", " ts).length ≤ piled ts := by
  by_cases h : ts = []
  · subst h
    have : (Str.join (", " : Str) []).length = 0 := by decide +kernel
    omega
  · have := join_length_add ts h
    omega
theorem l1 : (Str.ofString "[").length = 1 := by decide +kernel
theorem l2 : (Str.ofString "]").length = 1 := by decide +kernel
theorem l3 : (Str.ofString "(").length = 1 := by decide +kernel
theorem l4 : (Str.ofString ")").length = 1 := by decide +kernel
theorem l5 : (Str.ofString ",)").length = 2 := by decide +kernel
theorem l6 : (Str.ofString "{").length = 1 := by decide +kernel
theorem l7 : (Str.ofString "}").length = 1 := by decide +kernel
theorem l8 : (Str.ofString ": ").length = 2 := by decide +kernel
theorem str_cps {s : Str} (h : PyData.strOk s = true) : ∀ c ∈ s.cps.toList, c < 16 ^ 8 := fun c hc => by
  have h1 : (s.cps.all fun x => decide (x < 0x110000)) = true := h
  rw [← Array.all_toList] at h1
  have := of_decide_eq_true (List.all_eq_true.mp h1 c hc)
  omega
mutual
theorem shown_le : ∀ (p : PyData), smallP p = true → p.shown.length + 2 ≤ 10010 * wtP p
  | .none, _ => by
    have : (PyData.shown .none).length = 4 := by decide +kernel
    rw [this]; simp [wtP]
  | .bool b, _ => by
    have : (PyData.shown (.bool b)).length ≤ 5 := by cases b <;> decide +kernel
    simp [wtP]; omega
  | .int i, h => by
    have h1 : i.natAbs.log2 < 1920 := of_decide_eq_true h
    have := int_text_len_1921 h1
    have e : PyData.shown (.int i) = Str.ofString (toString i) := by rw [PyData.shown]
    rw [e]; simp only [wtP]; omega
  | .str s, h => by
    have h : (decide (s.length ≤ 1000) && PyData.strOk s) = true := h
    rw [Bool.and_eq_true] at h
    have h1 := of_decide_eq_true h.1
    have := StrLaws.reprText_len s (str_cps h.2)
    have e : PyData.shown (.str s) = reprText s := by rw [PyData.shown]
    rw [e]; simp only [wtP]; omega
  | .list xs, h => by
    have := shownA_le xs h
    have e : PyData.shown (.list xs) = listText (PyData.shownAll xs) := by rw [PyData.shown]
    have e2 : (listText (PyData.shownAll xs)).length = (textFrom 0 "[" (PyData.shownAll xs)).length + 1 := by
      unfold listText; rw [len_app, l2]
    have := textFrom_le (PyData.shownAll xs) 0 "["
    rw [l1] at this
    rw [e, e2]; simp only [wtP]; omega
  | .tuple xs, h => by
    have := shownA_le xs h
    have e : PyData.shown (.tuple xs) = tupleText (PyData.shownAll xs) := by rw [PyData.shown]
    have e2 : (tupleText (PyData.shownAll xs)).length ≤ 3 + (Str.join ", " (PyData.shownAll xs)).length := by
      unfold tupleText; rw [len_app, len_app, l3]
      split
      · rw [l5]; omega
      · rw [l4]; omega
    have := join_le (PyData.shownAll xs)
    rw [e]; simp only [wtP]; omega
  | .dict kvs, h => by
    have := shownK_le kvs h
    have e : PyData.shown (.dict kvs) = dictText (PyData.shownKv kvs) := by rw [PyData.shown]
    have e2 : (dictText (PyData.shownKv kvs)).length = 2 + (Str.join ", " (PyData.shownKv kvs)).length := by
      unfold dictText; rw [len_app, len_app, l6, l7]; omega
    have := join_le (PyData.shownKv kvs)
    rw [e, e2]; simp only [wtP]; omega
theorem shownA_le : ∀ (xs : List PyData), smallA xs = true → piled (PyData.shownAll xs) ≤ 10010 * wtA xs
  | [], _ => by simp [PyData.shownAll, piled_nil]
  | x :: r, h => by
    have h : (smallP x && smallA r) = true := h
    rw [Bool.and_eq_true] at h
    have h1 := shown_le x h.1
    have h2 := shownA_le r h.2
    rw [PyData.shownAll, piled_cons]
    simp only [wtA]; omega
theorem shownK_le : ∀ (xs : List (PyData × PyData)), smallK xs = true → piled (PyData.shownKv xs) ≤ 10010 * wtK xs
  | [], _ => by simp [PyData.shownKv, piled_nil]
  | (k, v) :: r, h => by
    have h : (smallP k && (smallP v && smallK r)) = true := h
    rw [Bool.and_eq_true, Bool.and_eq_true] at h
    have h1 := shown_le k h.1
    have h2 := shown_le v h.2.1
    have h3 := shownK_le r h.2.2
    rw [PyData.shownKv, piled_cons, len_app, len_app, l8]
    simp only [wtK]; omega
end
mutual
theorem showable_of : ∀ (p : PyData), smallP p = true → p.showable = true
  | .none, _ => by simp [PyData.showable]
  | .bool _, _ => by simp [PyData.showable]
  | .int i, h => by
    have h1 : i.natAbs.log2 < 1920 := of_decide_eq_true h
    simp [PyData.showable, h1]
  | .str _, _ => by simp [PyData.showable]
  | .list xs, h => by simp only [PyData.showable]; exact showableA_of xs h
  | .tuple xs, h => by simp only [PyData.showable]; exact showableA_of xs h
  | .dict kvs, h => by simp only [PyData.showable]; exact showableK_of kvs h
theorem showableA_of : ∀ (xs : List PyData), smallA xs = true → PyData.showableAll xs = true
  | [], _ => by simp [PyData.showableAll]
  | x :: r, h => by
    have h : (smallP x && smallA r) = true := h
    rw [Bool.and_eq_true] at h
    simp [PyData.showableAll, showable_of x h.1, showableA_of r h.2]
theorem showableK_of : ∀ (xs : List (PyData × PyData)), smallK xs = true → PyData.showableKv xs = true
  | [], _ => by simp [PyData.showableKv]
  | (k, v) :: r, h => by
    have h : (smallP k && (smallP v && smallK r)) = true := h
    rw [Bool.and_eq_true, Bool.and_eq_true] at h
    simp [PyData.showableKv, showable_of k h.1, showable_of v h.2.1, showableK_of r h.2.2]
end
theorem rpOk_of {p : PyData} (h : smallP p = true) (d : p.depth ≤ 60) (w : wtP p ≤ 1500) : RpOk p := ⟨showable_of p h, d, by
  have := shown_le p h
  have : 10010 * wtP p ≤ 10010 * 1500 := Nat.mul_le_mul_left _ w
  rw [line16]; omega⟩
/-! ### or of numbers -/
end L3

namespace L3
open PySem PySem.Spec PyProof.Rows L2 Builtin
/-! ### == of objects of one tree of classes: the right one is asked first if its class derives from the left one's -/
section
variable {prog : Program} {w : World} {A : Around} {E : Value → Shared → Prop} {s : Shared} {K : PySem.W.Frag} {x y C D f : Addr} {h₀ : Heap} {Lc : Addr} {m : Str → Option Value} {ox oy : Obj} {od od' : Option Obj} {b tb : Value}
end
end L3

namespace L3
open PySem PySem.Spec PyProof.Rows L2 Builtin
/-! ### data == an object: the data's own == says nothing to it -/
section
variable {prog : Program} {w : World} {A : Around} {E : Value → Shared → Prop} {s : Shared} {K : PySem.W.Frag} {y D : Addr} {u : Value} {oy : Obj} {od : Option Obj}
end
end L3

namespace L3
open PySem PySem.Spec PyProof.Rows L2 Builtin
/-! ### == and != of objects of one tree of classes and data, over data -/
section
variable {X : Cx} {B : Bs} {CX : CXT} {k : Nat} {f : Addr} {cs : List Addr} {sp : DSp}
end
end L3

namespace L3
open PySem PySem.Spec PyProof.Rows L2 Builtin
inductive EqTab (K : PySem.W.Frag) (f : Addr) : List Str → List Addr → Prop
  | nil : EqTab K f [] []
  | cons {n : Str} {C : Addr} {l : List Str} {cs : List Addr} : ClsAt K n C → OpC K C "__eq__" f → NeC K C → EqTab K f l cs → EqTab K f (n :: l) (C :: cs)
theorem EqTab.oc {K : PySem.W.Frag} {f : Addr} : ∀ {l : List Str} {cs : List Addr}, EqTab K f l cs → ∀ C ∈ cs, OpC K C "__eq__" f
  | _, _, .nil, _, h => by cases h
  | _, _, .cons _ o _ t, C, h => by
    rcases List.mem_cons.mp h with rfl | h
    · exact o
    · exact t.oc C h
theorem EqTab.ne {K : PySem.W.Frag} {f : Addr} : ∀ {l : List Str} {cs : List Addr}, EqTab K f l cs → ∀ C ∈ cs, NeC K C
  | _, _, .nil, _, h => by cases h
  | _, _, .cons _ _ o t, C, h => by
    rcases List.mem_cons.mp h with rfl | h
    · exact o
    · exact t.ne C h
theorem EqTab.look {K : PySem.W.Frag} {f : Addr} {n : Str} : ∀ {l : List Str} {cs : List Addr}, EqTab K f l cs → l.contains n = true → ∃ C ∈ cs, ClsAt K n C
  | _, _, .nil, e => by cases e
  | _, _, .cons (n := n') ca _ _ t, e => by
    rw [List.contains_cons, Bool.or_eq_true] at e
    rcases e with e | e
    · have := eq_of_beq e
      subst this
      exact ⟨_, List.mem_cons_self, ca⟩
    · obtain ⟨C, h1, h2⟩ := t.look e
      exact ⟨C, List.mem_cons_of_mem _ h1, h2⟩
section
variable {K : PySem.W.Frag} {B : Bs} {f : Addr} {ns : List Str} {cs : List Addr} {sp : DSp} {g : Bool → Bool}
end
section
variable {ns : List Str} {sp : DSp} {g : Bool → Bool} {lf : Bool} {M : Mt} {x y : D} {R : D → Mt → Prop} {n1 n2 : Str} {fs gs : List (Str × D)}
end
/-! ### isinstance, data with fixed dicts too -/
end L3

namespace L3
open PySem PySem.Spec PyProof.Rows L2 Builtin
/-! ### sorted(xs), xs a list of pairs (text, int) of different texts -/
section
variable {prog : Program} {w : World} {A : Around} {E : Value → Shared → Prop} {s : Shared}
def IsTx (h : Heap) (v : Value) (x : Str) : Prop := ∃ a o t y u n, v = .ref a ∧ h.get? a = some o ∧ o.cls = .type "tuple" ∧ o.data = .seq #[.str x t, .int y u] n
theorem IsTx.keeps {h h' : Heap} {v : Value} {x : Str} (p : IsTx h v x) (k : ∀ b o, h.get? b = some o → o.cls = .type "tuple" → h'.get? b = some o) : IsTx h' v x := by
  obtain ⟨a, o, t, y, u, n, e, ho, hc, hd⟩ := p
  exact ⟨a, o, t, y, u, n, e, k _ _ ho hc, hc, hd⟩
end
/-! over data -/
end L3

namespace L3
open PySem PySem.Spec PyProof.Rows L2 Builtin
/-! ### xs.index(y), flat things -/
end L3

namespace L3
open PySem PySem.Spec PyProof.Rows L2 Builtin
/-! ### dict(d): a copy that never changes -/
end L3

namespace L3
open PySem PySem.Spec PyProof.Rows L2 Builtin
/-! ### iter(t), t a tuple -/
section
variable {prog : Program} {w : World} {A : Around} {E : Value → Shared → Prop} {s : Shared} {l : Addr} {items : Array Value}
end
/-! ### for x in o, o's class with __iter__ that gives a tuple's iterator -/
end L3

namespace L3
open PySem PySem.Spec PyProof.Rows L2 Builtin
/-! ### for x in o, o's __iter__: return iter(self.fld), fld a tuple -/
end L3

namespace L3
open PySem PySem.Spec PyProof.Rows L2 Builtin
end L3

namespace L3
open PySem PySem.Spec PyProof.Rows L2
/-! ### a lambda without parameters is made, and called by the def that got it -/
section
variable {X : Cx} {pins : List (Addr × Obj)} {σ : L2.St} {H HZ : Hp} {s s1 : Shared}
end
/-! ### over data -/
section
variable {K : PySem.W.Frag} {B : Bs} {P : Hp} {al : List Addr} {M : Mt} {env : Ev} {σ : L2.St} {H H1 : Hp} {T c : Addr} {n : Str} {i : Nat} {ps : Array Value}
end
section
variable {X : Cx} {B : Bs} {x a n : Str} {st : Stmt} {g : Addr} {fd : FuncData} {k i : Nat} {Ng : List Str} {params : Arguments} {body : Expr} {scope : Scope} {wb : (RXe → WE) → WS} {we : RXe → WE} {p lpos pos : Pos} {c T : Addr}
theorem RS.other {K : PySem.W.Frag} {B B' : Bs} {P P' : Hp} {al al' : List Addr} {M M' : Mt} {env env' : Ev} {σ σ' : L2.St} {H H' : Hp} (rs : RS K B P al M env σ H) (e : Ext P al H P' al' H') (rs' : RS K B' P' al' M' env' σ' H') : RS K (P', al', H') P' al' M' env σ H' :=
  ⟨rs'.toRS0.here, rs.slen, fun j d h => by obtain ⟨v, h1, h2⟩ := rs.slot j d h; exact ⟨v, h1, h2.mono e.pp e.pre⟩⟩
end
end L3

namespace L3
open PySem PySem.Spec PyProof.Rows L2
/-! ### try within a def that got a lambda -/
section
variable {X : Cx} {B : Bs} {x n : Str} {Cc : Addr} {i j : Nat} {body suite : List Stmt} {b₀ : Stmt} {np pos pos' : Pos} {RX : RXe} {ok : List Str} {sub : Str → Bool} {wb : RXe → WS}
end
end L3

namespace L3
open PySem PySem.Spec PyProof.Rows L2
/-! ### makers of lambdas, and the end of a law with such -/
/-- what is known of the maker n, at f: its code object c and the table T of that -/
structure TabF (K : PySem.W.Frag) (base : Heap) (mg : Str → Option Value) (n : Str) (f c T : Addr) : Prop where
  tab : PySem.W.tabIn K n = some (c, T)
  at_ : PySem.W.nsIn K mainGlobals n = some (some (.ref f))
  B : LamX.TabB base mg c T
theorem TabF.code {K : PySem.W.Frag} {base : Heap} {mg : Str → Option Value} {n : Str} {f c T : Addr} (Z : TabF K base mg n f c T) {oc : Value} {od : Option Addr} {fd : FuncData} {sl : Array (Option Value)} (lk : K.lookup f = some ⟨oc, od, .func fd, sl⟩) : fd.code = .ref c := by
  have h := Z.tab
  unfold PySem.W.tabIn at h
  rw [Z.at_] at h
  simp only [lk] at h
  split at h
  · rename_i c1 e1
    split at h
    · split at h
      · injection h with h
        injection h with h1 h2
        rw [e1, h1]
      · cases h
    · cases h
  · cases h
section
variable {P : Program} {w : World} {K : PySem.W.Frag} {mg : Str → Option Value} {base : Heap} {CX : CXT}
end
/-! the end -/
end L3

namespace L3
open PySem PySem.Spec PyProof.Rows L2
/-! ### the head's facts where lambdas are made: the tables of code objects are set apart -/
end L3

namespace L3
open PySem PySem.Spec PyProof.Rows L2
/-! ### isinstance(e, (C, D, ..)), e an error that is kept as a cell -/
section
variable {X : Cx}
def rIsKT (K : PySem.W.Frag) : List V → Hp → VK → Prop := fun xs H Q => ∃ (a tp C : Addr) (oe : Obj) (d : Option Addr) (cs : List V) (us : List Value) (b : Bool), xs = [.ref a, .ref tp] ∧ SqT K H tp cs ∧ H a = some (ExK a oe) ∧ ErC K C ∧ Zc (.ref C) d oe ∧ (∃ vs, oe.data = .fields vs) ∧
  (∀ ws, Vals cs ws → ws = us) ∧ PySem.W.kitAny K (.ref C) us = some b ∧ (d = none ∨ ∃ dd gs, d = some dd ∧ H dd = some (.xd gs)) ∧ Q (.bl b) H
theorem call_isKT : CallR X (.builtin "isinstance") (rIsKT X.K) := by
  intro pins s σ H xs us Q I r h
  obtain ⟨a, tp, C, oe, d, cs, ws, b, rfl, hT, hA, T, hz, hf, one, e, hd, q⟩ := h
  cases r with
  | cons rx rr =>
    cases rr with
    | cons rt rr =>
      cases rr
      cases rx
      cases rt
      obtain ⟨its, rv, ⟨o, at_t, cls_t, n, dat_t⟩, _⟩ := I.tuple hT
      have e3 := one _ rv
      subst e3
      obtain ⟨oc, od, dt, sl⟩ := o
      simp only at cls_t dat_t
      subst cls_t dat_t
      have hget : s.heap.get? a = some oe := (I.hok a _ hA).1
      obtain ⟨vs, hv⟩ := hf
      obtain ⟨oc, od2, oda, osl⟩ := oe
      obtain ⟨h1, h2⟩ := hz
      dsimp only at h1 h2 hv
      subst h1 h2 hv
      have J : ∃ ob, PySem.W.InstAt s.heap a ⟨.ref C, od2, .fields vs, osl⟩ C ob := by
        rcases hd with rfl | ⟨dd, gs, rfl, hx⟩
        · exact ⟨none, hget, rfl, rfl, trivial⟩
        · obtain ⟨mA, hns, _⟩ := (show ObjOk X.prog X.w H s.heap dd (.xd gs) from I.hok dd _ hx)
          obtain ⟨o, ho, _⟩ := lookIn_ns hns
          exact ⟨some o, hget, rfl, rfl, ho⟩
      obtain ⟨ob, J⟩ := J
      exact PySem.W.kia_tup (PySem.W.kitx_exc T.cl T.ga T.gg T.sb T.ca T.cg T.tk T.ob) I.kIn J at_t e (fun z => nomatch z) fun tk => ⟨.bl b, H, I.kept (t' := tk) fun _ _ z => z, rfl, q⟩
end
section
variable {K : PySem.W.Frag} {B : Bs}
end
end L3

namespace L3
open PySem PySem.Spec PyProof.Rows L2
/-! ### defs (a, b, c, **fields) -/
section
variable {CX : CXT} {P : Program} {w : World} {K : PySem.W.Frag} {mg : Str → Option Value} {base : Heap} {k : Nat} {f : Addr} {name qual : Str} {params : Arguments} {body : List Stmt} {scope : Scope} {kV doc pm cdv ct oc : Value} {an od : Option Addr}
  {osl : Array (Option Value)} {N ps : List Str} {pd : Str} {sp : Sp}
end
section
variable {P : Program} {w : World} {K : PySem.W.Frag} {mg : Str → Option Value} {base : Heap}
end
/-! ### C.m(e, .., k = v, ..), m a class method (cls, a, .., **fields); cls(e, ..) -/
section
variable {X : Cx} {B : Bs} {CX : CXT} {k i : Nat} {f C : Addr} {sp : DSp} {n x m : Str} {p p2 pos apos : Pos} {e o : Expr} {es : List Expr} {was wks : WA} {we wo : WE} {RX : RXe} {kws : List Keyword} {names ps : List Str}
end
end L3

namespace L3
open PySem PySem.Spec PyProof.Rows L2
/-! ### an operator of which two readings are known -/
end L3

namespace L3
open PySem PySem.Spec PyProof.Rows L2
/-! ### what stands within a table stands within a longer one -/
section
variable {n m : Nat}
mutual
theorem noCel_mono (h : n ≤ m) : ∀ d : D, noCel n d = true → noCel m d = true
  | .non, _ => rfl
  | .bl _, _ => rfl
  | .int _, _ => rfl
  | .str _, _ => rfl
  | .ty _, _ => rfl
  | .adr _, _ => rfl
  | .cls _, _ => rfl
  | .tup l, e => by unfold noCel at e ⊢; exact noCels_mono h l e
  | .ptp l, e => by unfold noCel at e ⊢; exact noCels_mono h l e
  | .lst l, e => by unfold noCel at e ⊢; exact noCels_mono h l e
  | .rol l, e => by unfold noCel at e ⊢; exact noCels_mono h l e
  | .dct l, e => by unfold noCel at e ⊢; exact noCelK_mono h l e
  | .fdc l, e => by unfold noCel at e ⊢; exact noCelK_mono h l e
  | .obj _ l, e => by unfold noCel at e ⊢; exact noCelF_mono h l e
  | .cel i, e => by
    unfold noCel at e ⊢
    have := of_decide_eq_true e
    exact decide_eq_true (Nat.lt_of_lt_of_le this h)
theorem noCels_mono (h : n ≤ m) : ∀ l : List D, noCels n l = true → noCels m l = true
  | [], _ => rfl
  | d :: r, e => by
    unfold noCels at e ⊢
    rw [Bool.and_eq_true] at e ⊢
    exact ⟨noCel_mono h d e.1, noCels_mono h r e.2⟩
theorem noCelK_mono (h : n ≤ m) : ∀ l : List (Key × D), noCelK n l = true → noCelK m l = true
  | [], _ => rfl
  | (_, d) :: r, e => by
    unfold noCelK at e ⊢
    rw [Bool.and_eq_true] at e ⊢
    exact ⟨noCel_mono h d e.1, noCelK_mono h r e.2⟩
theorem noCelF_mono (h : n ≤ m) : ∀ l : List (Str × D), noCelF n l = true → noCelF m l = true
  | [], _ => rfl
  | (_, d) :: r, e => by
    unfold noCelF at e ⊢
    rw [Bool.and_eq_true] at e ⊢
    exact ⟨noCel_mono h d e.1, noCelF_mono h r e.2⟩
end
end
end L3

namespace L3
open PySem PySem.Spec PyProof.Rows L2
/-! ### C(e, ..), an error that is made and kept as a value -/
section
variable {X : Cx} {pins : List (Addr × Obj)} {σ : L2.St} {H : Hp} {sI s' : Shared}
theorem inv_upto (I : Inv X pins σ H sI) (k : ∀ b o, sI.heap.get? b = some o → s'.heap.get? b = some o) (os : s'.os = sI.os) (ag : AllBare s'.gens) : Inv X pins σ H s' := by
  have J := I.call (ch := []) (h' := s'.heap) (g' := s'.gens) (t' := s'.toks) (d' := s'.drawn) (H' := H)
    ⟨fun b o e _ _ _ => k b o e, fun b o e _ _ _ => ⟨_, k b o e⟩, fun _ _ _ n _ => n, fun b o e _ => ⟨o, k b o e⟩, fun _ _ e => e, fun _ _ _ e => e, fun b ps e => ⟨#[], by rw [e]; simp⟩⟩
    (I.hok.kept k) ag (fun _ z => nomatch z)
  obtain ⟨a1, a2, a3, a4, a5⟩ := s'
  have e5 : a5 = sI.os := os
  subst e5
  exact J
theorem pe_mkE {e : Expr} {t : L2.St → Hp → XK → Prop} (h : PMk X e t) : PE X e (fun σ H Q => t σ H fun cls d H1 => ∀ a oe, H1 a = none → Zc cls d oe → (∃ vs, oe.data = .fields vs) → Q (.ref a) (upd H1 a (ExK a oe))) := by
  constructor
  intro pins s σ H Q I asked
  refine wpAny_mono (h pins s σ H _ I asked) ?_ (fun _ _ z => z)
  rintro u s' ⟨a, oe, vs, sI, H', cls, d, rfl, J, k, new, at_a, hz, hd, h1, na, os, ag, r, q⟩
  have J2 := inv_upto J k os ag
  have ne : ∀ b o, sI.heap.get? b = some o → b ≠ a := fun b o e z => by rw [z, new] at e; cases e
  have nL : a ≠ X.env.locals := by
    obtain ⟨m, ⟨o, es, ep, at_l, _⟩, _⟩ := J.loc
    exact Ne.symm (ne _ _ at_l)
  have np : ∀ p ∈ X.pn ++ pins, p.1 ≠ a := fun p hp => by
    obtain ⟨p1, _⟩ := J.pin p hp
    exact ne _ _ p1
  have n0 : ∀ o, X.s_0.heap.get? a = some o → a ∈ X.ex := fun o e => by
    by_cases hx : a ∈ X.ex
    · exact hx
    · obtain ⟨o', e'⟩ := J.base.there a o e hx
      exact absurd rfl (ne _ _ e')
  exact ⟨.ref a, _, inv_track J2 at_a ⟨vs, hd⟩ na nL np n0, rfl, q a oe na hz ⟨vs, hd⟩⟩
end
section
variable {X : Cx} {B : Bs} {C fI : Addr} {k : Nat} {fd : FuncData} {n x : Str} {p pos : Pos} {e : Expr} {es : List Expr} {was : WA} {ps ns : List Str}
/-- C(e, ..): an error that is kept -/
def wMkE (n : Str) (ns : List Str) (was : WA) : WE := fun env M R => was env M fun ds M1 => Need (ds.length = ns.length) ∧ R (.cel M1.length) (M1 ++ [.ptp [.obj n (ns.zip ds).reverse]])
theorem kept_lift {P : Hp} {al : List Addr} {M : Mt} {env : Ev} {σ : L2.St} {H : Hp} {R : D → Mt → Prop} {Q : VK} {fs : List (Str × D)} {dd : Option Addr} {a : Addr} {oe : Obj} (ca : ClsAt X.K n C) (rs : RS X.K B P al M env σ H) (xd : XdOk X.K P al H fs dd) (na : H a = none) (hz : Zc (.ref C) dd oe) (hd : ∃ vs, oe.data = .fields vs)
    (L : Lift X.K B P al env σ H R Q) (q : R (.cel M.length) (M ++ [.ptp [.obj n fs]])) : Q (.ref a) (upd H a (ExK a oe)) := by
  obtain ⟨P5, e5, r5, hx⟩ := xd_pub xd rs.toRS0
  obtain ⟨e6, r6⟩ := r5.cellE (a := a) (oe := oe) (l := [.obj n fs]) na fun P7 al7 s7 p7 h7 => by
    refine ⟨C, dd, oe, h7, ca, hz, hd, ?_⟩
    rcases hx with hx | ⟨d1, gs, g1, g2, g3⟩
    · exact .inl hx
    · exact .inr ⟨d1, gs, g1, s7 _ _ g2, g3.mono s7 p7⟩
  have la : (al ++ [a])[M.length]? = some a := by
    rw [← rs.len, List.getElem?_append_right (Nat.le_refl _), Nat.sub_self]; rfl
  exact L _ _ _ _ _ _ (e5.trans e6) (rs.step (e5.trans e6) r6) (.cel la) q
theorem d_mkE (ca : ClsAt X.K n C) (T : OexC X.K C) (iC : PySem.W.findIn X.K (.ref C) "__init__" = some (some (.ref fI))) (tI : PySem.W.typeIn X.K (.ref fI) = some (.type "function"))
    (F1 : FnOk X.prog X.w X.K X.mg X.base CX0 k fI fd ps (spI C ns)) (hn : ns.length ≤ 900) (hr : Room (k + 1) X.A) (hb : Binds X.K fd ps []) (hg : Gl X x) (hm : X.mg x = some (.ref C)) (ha : DA B X (e :: es) was)
    (hdb : (x == ("__debug__" : Str)) = false := by decide) (he : starEach (e :: es) X.env = (false, eval e X.env) :: starEach es X.env := by rfl) (hpl : (backTo pos (starEach es X.env)).any (·.1) = false := by rfl) :
    DE B X (.Call (.Name x p) (e :: es) [] pos) (wMkE n ns was) := by
  refine (pe_mkE (pmk_oex T iC tI F1 hr hb .nil (fun _ _ _ _ _ _ _ z => z.elim) hg hm ha hdb he hpl)).imp fun σ H Q => ?_
  rintro ⟨P, al, M, env, R, rs, hw, L⟩
  refine ⟨P, al, M, env, _, rs, hw, fun ds M1 vs H1 P1 al1 e1 rs1 r1 q => ?_⟩
  obtain ⟨hl, q⟩ := q
  have hl : vs.length = ns.length := by rw [← r1.length]; exact hl.out
  refine ⟨by omega, fun a hna => ⟨a, vs ++ [], rfl, by simpa using hl, upd_same, fun d hd hne H' h1 h2 h3 => ?_⟩⟩
  rw [List.append_nil] at h2
  have hd' : H1 d = none := by rw [upd_ne hne] at hd; exact hd
  obtain ⟨rs2, xd⟩ := xd_new rs1 hd' (zip_fs (ns := ns) r1).rev
  refine ⟨rfl, d, _, h1, h2, hd', ?_⟩
  rw [del_eq (w := .own a) hna hne h3]
  intro a2 oe na2 hz hdt
  have e2 : Ext P1 al1 H1 P1 al1 (upd H1 d (.xd (ns.zip vs).reverse)) := ⟨Same.refl _, List.prefix_refl _, fun b o h _ => by rw [upd_ne (ne_of_none h hd')]; exact h, fun b m n => absurd m n, fun b o h _ hp _ => hp⟩
  exact kept_lift ca rs2 xd na2 hz hdt ((L.after e1).after e2) q
/-- C(), a class without an __init__ -/
theorem d_mkE0 (ca : ClsAt X.K n C) (T : Oex0 X.K C) (hg : Gl X x) (hm : X.mg x = some (.ref C)) (hdb : (x == ("__debug__" : Str)) = false := by decide) :
    DE B X (.Call (.Name x p) [] [] pos) (wMkE n [] wNil) := by
  refine (pe_mkE (pmk_own0 PySem.F.excBase_ValueError T.ex hm T.kp (raises_own T.sub T.ty) hg hdb)).imp fun σ H Q => ?_
  rintro ⟨P, al, M, env, R, rs, ⟨_, q⟩, L⟩
  intro a oe na hz hdt
  exact kept_lift ca rs (.inl ⟨rfl, rfl⟩) na hz hdt L q
end
end L3

namespace L3
open PySem PySem.Spec PyProof.Rows L2
/-! ### many classes of errors at once -/
structure KitE (K : PySem.W.Frag) (f : Str → Str → Option Bool) (g : Str → String → Option Bool) : Prop where
  cls : ∀ n c r C, f n c = some r → ClsAt K n C → ∃ Cc, ClsAt K c Cc ∧ ErC K C ∧ PySem.W.kitOne K (.ref C) (.ref Cc) = some r
  tys : ∀ n c r C, g n c = some r → ClsAt K n C → ErC K C ∧ PySem.W.kitOne K (.ref C) (.type c) = some r
def oneE (f : Str → Str → Option Bool) (g : Str → String → Option Bool) (n : Str) : D → Option Bool
  | .cls c => f n c
  | .ty c => g n c
  | _ => none
def anyE (f : Str → Str → Option Bool) (g : Str → String → Option Bool) (n : Str) : List D → Option Bool
  | [] => some false
  | d :: r => match oneE f g n d, anyE f g n r with
    | some x, some y => some (x || y)
    | _, _ => none
section
variable {K : PySem.W.Frag} {B : Bs} {f : Str → Str → Option Bool} {g : Str → String → Option Bool}
theorem oneE_kit (T : KitE K f g) {n : Str} {C : Addr} (ca : ClsAt K n C) {d : D} {P : Hp} {al : List Addr} {v : V} {b : Bool} (r : Rep K P al d v) (e : oneE f g n d = some b) :
    ErC K C ∧ ∃ u, (∀ w, RelV v w → w = u) ∧ PySem.W.kitOne K (.ref C) u = some b := by
  unfold oneE at e
  split at e
  · rename_i c
    obtain ⟨Cc, c2, er, kit⟩ := T.cls _ _ _ _ e ca
    cases r with
    | cls cc =>
      obtain rfl := cc.one c2
      exact ⟨er, _, fun w h => by cases h; rfl, kit⟩
  · rename_i c
    obtain ⟨er, kit⟩ := T.tys _ _ _ _ e ca
    cases r
    exact ⟨er, _, fun w h => h, kit⟩
  · cases e
theorem anyE_kit (T : KitE K f g) {n : Str} {C : Addr} (ca : ClsAt K n C) {P : Hp} {al : List Addr} : ∀ {ds : List D} {vs : List V} {b : Bool}, Reps K P al ds vs → anyE f g n ds = some b →
    ∃ us, (∀ ws, Vals vs ws → ws = us) ∧ PySem.W.kitAny K (.ref C) us = some b := by
  intro ds
  induction ds with
  | nil => intro vs b r e; cases r; exact ⟨[], fun ws h => by cases h; rfl, e⟩
  | cons d l ih =>
    intro vs b r e
    cases r with
    | cons r1 t =>
      unfold anyE at e
      split at e
      · rename_i x y hx hy
        obtain ⟨_, u, hu, kit⟩ := oneE_kit T ca r1 hx
        obtain ⟨us, hus, kits⟩ := ih t hy
        refine ⟨u :: us, fun ws h => ?_, ?_⟩
        · cases h with
          | cons h1 h2 => rw [hu _ h1, hus _ h2]
        · unfold PySem.W.kitAny
          rw [kit]
          cases x with
          | true => exact e
          | false => rw [Bool.false_or] at e; rw [← e]; exact kits
      · cases e
@[irreducible] def cIsE (f : Str → Str → Option Bool) (g : Str → String → Option Bool) : WCl := fun ds M R => match ds with
  | [.cel i, c] => match M[i]? with
    | some (.ptp [.obj n _]) => match oneE f g n c with
      | some r => R (.bl r) M
      | none => False
    | _ => False
  | _ => False
@[irreducible] def cIsET (f : Str → Str → Option Bool) (g : Str → String → Option Bool) : WCl := fun ds M R => match ds with
  | [.cel i, .tup (c :: cs)] => match M[i]? with
    | some (.ptp [.obj n _]) => match anyE f g n (c :: cs) with
      | some r => R (.bl r) M
      | none => False
    | _ => False
  | _ => False
theorem isE_use {M : Mt} {i : Nat} {n : Str} {c : D} {fs : List (Str × D)} (r : Bool) {R : D → Mt → Prop} (h : M[i]? = some (.ptp [.obj n fs])) (hl : oneE f g n c = some r) (k : R (.bl r) M) : cIsE f g [.cel i, c] M R := by
  unfold cIsE
  simp only [h, hl]; exact k
theorem isET_use {M : Mt} {i : Nat} {n : Str} {c : D} {cs : List D} {fs : List (Str × D)} (r : Bool) {R : D → Mt → Prop} (h : M[i]? = some (.ptp [.obj n fs])) (hl : anyE f g n (c :: cs) = some r) (k : R (.bl r) M) : cIsET f g [.cel i, .tup (c :: cs)] M R := by
  unfold cIsET
  simp only [h, hl]; exact k
theorem cIsE_ok (T : KitE K f g) : CallD K B (rIsK K) (cIsE f g) := by
  intro P al M env σ H vs ds R Q rs r h L
  unfold cIsE at h
  split at h
  · rename_i i c
    cases r with
    | cons r1 t => cases t with
      | cons r2 t =>
        cases t
        split at h
        · rename_i n fs hm
          split at h
          · rename_i z hl
            obtain ⟨a, C, d, oe, rfl, hA, ca, hz, hf, h5⟩ := ex_at rs.toRS0 hm r1
            obtain ⟨er, u, hu, kit⟩ := oneE_kit T ca r2 hl
            refine ⟨a, C, oe, d, _, u, z, rfl, hA, er, hz, hf, hu, kit, ?_, L.here rs (.bl _) h⟩
            rcases h5 with ⟨h, _⟩ | ⟨dd, gs, h1, h3, _⟩
            · exact .inl h
            · exact .inr ⟨dd, gs, h1, h3⟩
          · exact h.elim
        · exact h.elim
  · exact h.elim
theorem cIsET_ok (T : KitE K f g) : CallD K B (rIsKT K) (cIsET f g) := by
  intro P al M env σ H vs ds R Q rs r h L
  unfold cIsET at h
  split at h
  · rename_i i c cs
    cases r with
    | cons r1 t => cases t with
      | cons r2 t =>
        cases t
        split at h
        · rename_i n fs hm
          split at h
          · rename_i z hl
            obtain ⟨a, C, d, oe, rfl, hA, ca, hz, hf, h5⟩ := ex_at rs.toRS0 hm r1
            cases r2 with
            | tup q rr =>
              obtain ⟨us, one, kit⟩ := anyE_kit T ca rr hl
              have hE : ErC K C := by
                cases rr with
                | cons r3 _ =>
                  unfold anyE at hl
                  split at hl
                  · rename_i x y hx hy
                    exact (oneE_kit T ca r3 hx).1
                  · cases hl
              refine ⟨a, _, C, oe, d, _, us, z, rfl, same_seqT rs.same q, hA, hE, hz, hf, one, kit, ?_, L.here rs (.bl _) h⟩
              rcases h5 with ⟨h, _⟩ | ⟨dd, gs, h1, h3, _⟩
              · exact .inl h
              · exact .inr ⟨dd, gs, h1, h3⟩
          · exact h.elim
        · exact h.elim
  · exact h.elim
end
/-! the classes' facts by one look -/
def erF (ns up : List Str) (n c : Str) : Option Bool := if n ∈ ns then (if c ∈ ns then some (decide (n = c)) else if c ∈ up then some true else none) else none
def erG (ns : List Str) (ts : List (String × Bool)) (n : Str) (c : String) : Option Bool := if n ∈ ns then ts.lookup c else none
def erB (K : PySem.W.Frag) (C : Addr) : Bool := (PySem.W.clsIn K C).isSome && (decide (PySem.W.findIn K (.ref C) "__getattribute__" = some (some (.builtin "BaseException.__getattribute__"))) && (decide (PySem.W.findIn K (.ref C) "__getattr__" = some none) &&
  (decide (PySem.W.subIn K (.ref C) (.type "BaseException") = some true) && (decide (PySem.W.findIn K (.ref C) "__class__" = some (some (.builtin "object.__class__"))) && (decide (PySem.W.mroIn K C (.type "object") = some true) && PySem.W.hasDictIn K C)))))
def erB0 (K : PySem.W.Frag) : Bool := decide (PySem.W.specialIn K (.builtin "object.__class__") "__get__" = some (some (.builtin "getset_descriptor.__get__"))) && decide (PySem.W.takesIn K (.builtin "object.__class__") = some true)
theorem erB_ok {K : PySem.W.Frag} {C : Addr} (h0 : erB0 K = true) (h : erB K C = true) : ErC K C ∧ XfC K C := by
  unfold erB0 at h0
  unfold erB at h
  simp only [Bool.and_eq_true, decide_eq_true_eq] at h h0
  obtain ⟨h1, h2, h3, h4, h5, h6, h7⟩ := h
  exact ⟨⟨h1, h2, h3, h4, h5, h0.1, h0.2, h6⟩, ⟨h2, h3, h4, h7⟩⟩
def erOne (K : PySem.W.Frag) (es us : List (Str × Addr)) (ts : List (String × Bool)) (p : Str × Addr) : Bool := decide (PySem.W.nsIn K mainGlobals p.1 = some (some (.ref p.2))) && (erB K p.2 &&
  ((es.all fun q => decide (PySem.W.kitOne K (.ref p.2) (.ref q.2) = some (decide (p.1 = q.1)))) && ((us.all fun q => decide (PySem.W.kitOne K (.ref p.2) (.ref q.2) = some true)) && ts.all fun t => decide (PySem.W.kitOne K (.ref p.2) (.type t.1) = some t.2))))
def erAll (K : PySem.W.Frag) (es us : List (Str × Addr)) (ts : List (String × Bool)) : Bool := erB0 K && ((us.all fun q => decide (PySem.W.nsIn K mainGlobals q.1 = some (some (.ref q.2)))) && es.all (erOne K es us ts))
theorem look_str {l : List (String × Bool)} {c : String} {b : Bool} (h : l.lookup c = some b) : (c, b) ∈ l := by
  induction l with
  | nil => cases h
  | cons p r ih =>
    rw [List.lookup_cons] at h
    split at h
    · rename_i e
      have e := beq_iff_eq.mp e
      cases h
      rw [e]; exact List.mem_cons_self
    · exact List.mem_cons_of_mem _ (ih h)
section
variable {K : PySem.W.Frag} {es us : List (Str × Addr)} {ts : List (String × Bool)}
theorem erAll_one (h : erAll K es us ts = true) {p : Str × Addr} (hp : p ∈ es) : ClsAt K p.1 p.2 ∧ ErC K p.2 ∧ XfC K p.2 := by
  unfold erAll at h
  rw [Bool.and_eq_true, Bool.and_eq_true] at h
  have z := List.all_eq_true.mp h.2.2 p hp
  unfold erOne at z
  rw [Bool.and_eq_true, Bool.and_eq_true] at z
  exact ⟨(of_decide_eq_true z.1 : PySem.W.nsIn K mainGlobals p.1 = some (some (.ref p.2))), erB_ok h.1 z.2.1⟩
theorem kitE_of (h : erAll K es us ts = true) : KitE K (erF (es.map (·.1)) (us.map (·.1))) (erG (es.map (·.1)) ts) := by
  have key : ∀ n C, n ∈ es.map (·.1) → ClsAt K n C → ∃ p ∈ es, p.1 = n ∧ p.2 = C ∧ ErC K C ∧ erOne K es us ts p = true := fun n C hn ca => by
    obtain ⟨p, hp, e⟩ := List.mem_map.mp hn
    obtain ⟨c1, c2, _⟩ := erAll_one h hp
    have e : p.1 = n := e
    rw [e] at c1
    have eC := c1.one ca
    unfold erAll at h
    rw [Bool.and_eq_true, Bool.and_eq_true] at h
    exact ⟨p, hp, e, eC, eC ▸ c2, List.all_eq_true.mp h.2.2 p hp⟩
  refine ⟨fun n c r C hf ca => ?_, fun n c r C hg ca => ?_⟩
  · unfold erF at hf
    split at hf
    · rename_i hn
      obtain ⟨p, hp, e1, e2, er, one⟩ := key n C hn ca
      subst e1 e2
      unfold erOne at one
      rw [Bool.and_eq_true, Bool.and_eq_true, Bool.and_eq_true, Bool.and_eq_true] at one
      split at hf
      · rename_i hc
        cases hf
        obtain ⟨q, hq, e⟩ := List.mem_map.mp hc
        have e : q.1 = c := e
        subst e
        exact ⟨q.2, (erAll_one h hq).1, er, of_decide_eq_true (List.all_eq_true.mp one.2.2.1 q hq)⟩
      · split at hf
        · rename_i hc
          cases hf
          obtain ⟨q, hq, e⟩ := List.mem_map.mp hc
          have e : q.1 = c := e
          subst e
          unfold erAll at h
          rw [Bool.and_eq_true, Bool.and_eq_true] at h
          exact ⟨q.2, (of_decide_eq_true (List.all_eq_true.mp h.2.1 q hq) : PySem.W.nsIn K mainGlobals q.1 = some (some (.ref q.2))), er, of_decide_eq_true (List.all_eq_true.mp one.2.2.2.1 q hq)⟩
        · cases hf
    · cases hf
  · unfold erG at hg
    split at hg
    · rename_i hn
      obtain ⟨p, hp, e1, e2, er, one⟩ := key n C hn ca
      subst e1 e2
      unfold erOne at one
      rw [Bool.and_eq_true, Bool.and_eq_true, Bool.and_eq_true, Bool.and_eq_true] at one
      exact ⟨er, of_decide_eq_true (List.all_eq_true.mp one.2.2.2.2 _ (look_str hg))⟩
    · cases hg
end
end L3

namespace L3
open PySem PySem.Spec PyProof.Rows L2
/-! ### an object that is no longer changed is published, wherever it stands -/
section
variable (i : Nat) (z : D)
mutual
def subC : D → D
  | .tup l => .tup (subCs l)
  | .ptp l => .ptp (subCs l)
  | .lst l => .lst (subCs l)
  | .rol l => .rol (subCs l)
  | .dct l => .dct (subCK l)
  | .fdc l => .fdc (subCK l)
  | .obj n l => .obj n (subCF l)
  | .cel j => if j = i then z else .cel j
  | .non => .non
  | .bl b => .bl b
  | .int k => .int k
  | .str s => .str s
  | .ty n => .ty n
  | .adr a => .adr a
  | .cls n => .cls n
def subCs : List D → List D
  | [] => []
  | d :: r => subC d :: subCs r
def subCK : List (Key × D) → List (Key × D)
  | [] => []
  | (k, d) :: r => (k, subC d) :: subCK r
def subCF : List (Str × D) → List (Str × D)
  | [] => []
  | (k, d) :: r => (k, subC d) :: subCF r
end
end
section
variable {K : PySem.W.Frag} {P : Hp} {al : List Addr} {i : Nat} {z : D} {a : Addr}
mutual
theorem Rep.sub (ha : al[i]? = some a) (hz : Rep K P al z (.ref a)) : ∀ {d : D} {v : V}, Rep K P al d v → Rep K P al (subC i z d) v
  | _, _, .non => .non
  | _, _, .bl b => .bl b
  | _, _, .int i => .int i
  | _, _, .str x => .str x
  | _, _, .ty n => .ty n
  | _, _, .adr a => .adr a
  | _, _, .tup q r => .tup q (Reps.sub ha hz r)
  | _, _, .ptp q r => .ptp q (Reps.sub ha hz r)
  | _, _, .lst q r => .lst q (Reps.sub ha hz r)
  | _, _, .rol q r => .rol q (Reps.sub ha hz r)
  | _, _, .dct q r => .dct q (RepKs.sub ha hz r)
  | _, _, .fdc q r => .fdc q (RepKs.sub ha hz r)
  | _, _, .obj q c r => .obj q c (RepFs.sub ha hz r)
  | _, _, .cls c => .cls c
  | .cel j, _, .cel e => by
    unfold subC
    split
    · rename_i h
      subst h
      rw [ha] at e
      cases e
      exact hz
    · exact .cel e
theorem Reps.sub (ha : al[i]? = some a) (hz : Rep K P al z (.ref a)) : ∀ {ds : List D} {vs : List V}, Reps K P al ds vs → Reps K P al (subCs i z ds) vs
  | _, _, .nil => .nil
  | _, _, .cons r t => .cons (Rep.sub ha hz r) (Reps.sub ha hz t)
theorem RepKs.sub (ha : al[i]? = some a) (hz : Rep K P al z (.ref a)) : ∀ {ds : List (Key × D)} {vs : List (Key × V)}, RepKs K P al ds vs → RepKs K P al (subCK i z ds) vs
  | _, _, .nil => .nil
  | _, _, .cons r t => .cons (Rep.sub ha hz r) (RepKs.sub ha hz t)
theorem RepFs.sub (ha : al[i]? = some a) (hz : Rep K P al z (.ref a)) : ∀ {ds : List (Str × D)} {vs : List (Str × V)}, RepFs K P al ds vs → RepFs K P al (subCF i z ds) vs
  | _, _, .nil => .nil
  | _, _, .cons r t => .cons (Rep.sub ha hz r) (RepFs.sub ha hz t)
end
end
theorem subCs_map (i : Nat) (z : D) : ∀ l : List D, subCs i z l = l.map (subC i z)
  | [] => rfl
  | d :: r => by unfold subCs; rw [subCs_map i z r]; rfl
/-- a name's object is published ahead of a statement, wherever it stands -/
def wFrzS (i : Nat) (w : WS) : WS := fun k env M => match env[i]? with
  | some (some (.cel m)) => frz (.cel m) M fun d' M' => w k (env.map fun x => x.map (subC m d')) M'
  | _ => False
section
variable {X : Cx} {B : Bs} {st : Stmt} {w : WS} {i : Nat}
theorem d_frzS (h : DS B X st w) : DS B X st (wFrzS i w) := by
  refine h.imp fun D σ H => ?_
  rintro ⟨P, al, M, env, k, rs, hw, L⟩
  unfold wFrzS at hw
  split at hw
  · rename_i m hd
    obtain ⟨v, hv, r⟩ := rs.slot i _ hd
    obtain ⟨d', M', P', e, r0, rd, q⟩ := frz_ok rs.toRS0 r hw
    cases r with
    | cel ha =>
      refine ⟨P', al, M', _, k, ⟨r0, by rw [List.length_map]; exact rs.slen, fun j z hz => ?_⟩, q, L.after e⟩
      rw [List.getElem?_map] at hz
      cases ho : env[j]? with
      | none => rw [ho] at hz; cases hz
      | some o =>
        rw [ho] at hz
        cases o with
        | none => cases hz
        | some y =>
          obtain ⟨v2, hv2, r2⟩ := rs.slot j y ho
          cases hz
          exact ⟨v2, hv2, Rep.sub ha rd (r2.mono e.pp e.pre)⟩
  · exact hw.elim
end
end L3

namespace K01
open PySem PySem.Spec PyProof.Rows L2 L3
local macro_rules | `(tactic| walk_at "hyp") => `(tactic| try simp only [decide_eq_true_eq, decide_eq_false_iff_not, Bool.not_eq_true', Bool.not_eq_false', Int.not_lt, Int.not_le, Bool.false_eq_true, if_false, if_true, reduceIte, strIn_one, List.length_map] at *)
local macro_rules | `(tactic| walk_at "leaf") => `(tactic| (refine Need.mk ?_; first | exact rfl | ((try dsimp only); first | omega | decide | (simp only [List.length_map]; omega) | exact Nat.le_of_ble_eq_true rfl | (decide +kernel) | exact plain_ints _ | exact cdivw (by omega) (by omega) | exact cpow (by omega) (by omega) (by omega) (by omega) | exact cmul_l (by omega) (by omega) | exact cmul_r (by omega) (by omega) | (rw [line16]; omega) | (rw [line16]; simp only [List.length_cons, List.length_nil, List.length_map, List.length_append]; omega) | exact ⟨rfl, rfl⟩)))
local macro_rules | `(tactic| walk_at "call") => `(tactic| fail)
local macro_rules | `(tactic| walk_at "go") => `(tactic| ((conv => whnf); first
  | (refine And.intro ?_ ?_ <;> walk_at "go")
  | (intro h; first | (exact absurd h (by decide)) | (walk_at "hyp"; first | (exfalso; omega) | (exact absurd rfl ‹_›) | walk_at "go"))
  | walk_at "leaf"
  | exact rfl
  | walk_at "call"
  | (refine eqI_int ?_; walk_at "go")
  | (refine eqI_lnil rfl ?_ ?_ <;> walk_at "go")
  | (refine eqI_tnil rfl ?_ ?_ <;> walk_at "go")
  | (refine eqI_str ?_; walk_at "go")
  | (refine eqI_bl ?_; walk_at "go")
  | (refine eqI_0 ?_; walk_at "go")
  | (refine eqI_1 ?_; walk_at "go")
  | (refine eqI_2 ?_; walk_at "go")
  | (refine eqI_3 ?_; walk_at "go")
  | (refine eqI_4 ?_; walk_at "go")
  | (refine eqI_5 ?_; walk_at "go")
  | (refine eqI_6 ?_; walk_at "go")
  | (refine eqI_7 ?_; walk_at "go")
  | (refine eqI_8 ?_; walk_at "go")
  | (refine eqI_9 ?_; walk_at "go")
  | (refine eqI_10 ?_; walk_at "go")
  | (refine len_use rfl ?_; walk_at "go")
  | (refine len_tup rfl ?_; walk_at "go")
  | (refine Exists.intro _ (And.intro (fun _ _ h => h) ?_); walk_at "go")
  | skip))
/-! ### the classes of errors -/
abbrev NS33 : List Str := ("InvalidName" : Str) :: ("InvalidNumber" : Str) :: ("InvalidRow" : Str) :: ("NoTarget" : Str) :: ("NoClass" : Str) :: ("NoLanding" : Str) :: ("InvalidRows" : Str) :: ("InvalidKind" : Str) :: ("InvalidFrame" : Str) :: ("InvalidWord" : Str) :: ("NotReady" : Str) :: ("TooMany" : Str) :: ("InvalidAddress" : Str) :: ("Locked" : Str) :: ("Blank" : Str) :: ("StateClash" : Str) :: ("NoCondition" : Str) :: ("NoField" : Str) :: ("NoKind" : Str) :: ("NoState" : Str) :: ("Taken" : Str) :: ("NotPossible" : Str) :: ("NoCase" : Str) :: ("WrongCount" : Str) :: ("TooLarge" : Str) :: ("InvalidText" : Str) :: ("FieldClash" : Str) :: ("Clash" : Str) :: ("NoStates" : Str) :: ("NoEntries" : Str) :: ("NotEnd" : Str) :: ("NotCarried" : Str) :: ("Unlike" : Str) :: []
abbrev UP1 : List Str := ["OrError"]
abbrev TY8 : List (String × Bool) := [("ValueError", true), ("KeyError", false), ("IndexError", false), ("LookupError", false), ("ArithmeticError", false), ("OverflowError", false), ("TypeError", false), ("RuntimeError", false)]
abbrev ERF : Str → Str → Option Bool := erF NS33 UP1
abbrev ERG : Str → String → Option Bool := erG NS33 TY8
/-- the pen -/
def pen (cs : List Int) (a r : Int) : D := .lst [.lst (cs.map D.int), .int a, .int r]
def PenOk (n : Int) (b : D) : Prop := ∃ cs a r, b = pen cs a r ∧ 0 ≤ a ∧ a ≤ n ∧ 0 ≤ r
theorem PenOk.mono {n m : Int} {b : D} (h : PenOk n b) (hm : n ≤ m) : PenOk m b := by
  obtain ⟨cs, a, r, e, h1, h2, h3⟩ := h
  exact ⟨cs, a, r, e, h1, by omega, h3⟩
/-- the pen, then the rest -/
abbrev TB (b : D) (M2 : Mt) : Mt := b :: M2
abbrev TS0 : Mt := []
theorem set_rest {cs : List Int} {a r v : Int} {M2 : Mt} {Q : Mt → Prop} (k : Q (TB (pen cs a v) M2)) : dsetIx (.int v) (.cel 0) (.int 2) (TB (pen cs a r) M2) Q :=
  setIx_use (l := [.lst (cs.map D.int), .int a, .int r]) rfl (by decide) (by simp) k
theorem set_at {cs : List Int} {a r v : Int} {M2 : Mt} {Q : Mt → Prop} (k : Q (TB (pen cs v r) M2)) : dsetIx (.int v) (.cel 0) (.int 1) (TB (pen cs a r) M2) Q :=
  setIx_use (l := [.lst (cs.map D.int), .int a, .int r]) rfl (by decide) (by simp) k
/-! _law_pen: 0 _law_script -/
abbrev p_law_pen : List Str := ["_law_script"]
@[irreducible] def sp_law_pen : DSp := fun ds M R _ => ∃ ns : List Int, ds = [.rol (ns.map D.int)] ∧ M = TS0 ∧ ∀ b, PenOk 0 b → R (.cel 0) (TB b [])
theorem len_law_pen : ∀ ds M R RX, sp_law_pen ds M R RX → ds.length = p_law_pen.length := by
  unfold sp_law_pen; rintro ds M R RX ⟨ns, rfl, _⟩; rfl
theorem use_law_pen {ns : List Int} {R RX} (k : ∀ b, PenOk 0 b → R (.cel 0) (TB b [])) : sp_law_pen [.rol (ns.map D.int)] TS0 R RX := by
  unfold sp_law_pen; exact ⟨ns, rfl, rfl, k⟩
def w_law_pen : WS :=
  (wRet (wLstM (wCons (wCB (cListA false) (wCons (wSl (wVar 0) wNoP (wP (wC (.int 60)))) wNil)) (wCons (wC (.int 0)) (wCons (wC (.int 0)) wNil)))))
theorem wp_law_pen : ∀ ds M R RX, sp_law_pen ds M R RX → M.all (cellOk M.length) = true → noCels M.length ds = true → w_law_pen (fnEnds M.length R) (startE 1 ds) M := by
  unfold sp_law_pen; rintro ds M R RX ⟨ns, rfl, rfl, k⟩ _ _
  walk_at "go"
  have e : L3.cutD (ns.map D.int) none (some 60) = ((ns.drop (HT.sIx ns.length 0 none)).take (HT.sIx ns.length ns.length (some 60) - HT.sIx ns.length 0 none)).map D.int := by
    unfold L3.cutD; simp only [List.length_map, List.map_drop, List.map_take]
  refine .keep ?_
  rw [e]
  exact k _ ⟨_, 0, 0, rfl, by decide, by decide, by decide⟩
/-! _law_draw: 0 _law_pen_here, 1 _law_many, 2 _law_at, 3 _law_cell, 4 _law_mixed, 5 _law_digit, 6 _law_great -/
abbrev p_law_draw : List Str := ["_law_pen_here", "_law_many"]
@[irreducible] def sp_law_draw : DSp := fun ds M R _ => ∃ (many n : Int) (b : D) (M2 : Mt), ds = [.cel 0, .int many] ∧ M = TB b M2 ∧ PenOk n b ∧ n ≤ 1000000 ∧ 1 ≤ many ∧ many < 1073741824 ∧
  ∀ (d : Int) (b' : D), 0 ≤ d → d < many → PenOk (n + 1) b' → R (.int d) (TB b' M2)
theorem len_law_draw : ∀ ds M R RX, sp_law_draw ds M R RX → ds.length = p_law_draw.length := by
  unfold sp_law_draw; rintro ds M R RX ⟨_, _, _, _, rfl, _⟩; rfl
theorem use_law_draw {b : D} {many n : Int} {M2 : Mt} {R RX} (hb : PenOk n b) (hn : n ≤ 1000000) (h1 : 1 ≤ many) (h2 : many < 1073741824)
    (k : ∀ (d : Int) (b' : D), 0 ≤ d → d < many → PenOk (n + 1) b' → R (.int d) (TB b' M2)) : sp_law_draw [.cel 0, .int many] (TB b M2) R RX := by
  unfold sp_law_draw; exact ⟨many, n, b, M2, rfl, rfl, hb, hn, h1, h2, k⟩
def w_law_draw : WS :=
  (wSeq (wIfS (wTest (wOp oGt (wOp oIx (wVar 0) (wC (.int 2))) (wC (.int 0)))) (wSeq (wAsg (wOp oMod (wCB cInt (wCons (wOp oIx (wVar 0) (wC (.int 2))) wNil)) (wVar 1)) (gN 5))
    (wSeq (wAsg (wOp oFdiv (wOp oIx (wVar 0) (wC (.int 2))) (wVar 1)) (gIxL (wVar 0) (wC (.int 2))))
    (wRet (wVar 5)))) wSkip)
    (wSeq (wAsg (wOp oIx (wVar 0) (wC (.int 1))) (gN 2))
    (wSeq (wAsg (wOp oAdd (wVar 2) (wC (.int 1))) (gIxL (wVar 0) (wC (.int 1))))
    (wSeq (wAsg (wOp oAdd (wOp oMul (wC (.int 7411)) (wVar 2)) (wC (.int 53))) (gN 3))
    (wSeq (wIfS (wTest (wOp (oEqI fun b => !b) (wOp oIx (wVar 0) (wC (.int 0))) (wLst wNil))) (wAsg (wOp oIx (wOp oIx (wVar 0) (wC (.int 0))) (wOp oMod (wCB cInt (wCons (wVar 2) wNil)) (wCB cLen (wCons (wOp oIx (wVar 0) (wC (.int 0))) wNil)))) (gN 3)) wSkip)
    (wSeq (wIfS (wAndT (wTest (wOp oLt (wVar 2) (wCB cLen (wCons (wOp oIx (wVar 0) (wC (.int 0))) wNil)))) (wTest (wOp oGe (wCB cAbs (wCons (wVar 3) wNil)) (wOp oPow (wC (.int 10)) (wC (.int 18)))))) (wSeq (wAsg (wOp oAdd (wOp oMul (wC (.int 2)) (wOp oSub (wCB cAbs (wCons (wVar 3) wNil)) (wOp oPow (wC (.int 10)) (wC (.int 18))))) (wCB cInt (wCons (wOp oLt (wVar 3) (wC (.int 0))) wNil))) (gN 6))
    (wSeq (wAsg (wOp oFdiv (wVar 6) (wVar 1)) (gIxL (wVar 0) (wC (.int 2))))
    (wRet (wOp oMod (wCB cInt (wCons (wVar 6) wNil)) (wVar 1))))) wSkip)
    (wSeq (wAsg (wOp oMod (wCB cInt (wCons (wOp oPow (wOp oAdd (wOp oAdd (wOp oMod (wCB cInt (wCons (wVar 3) wNil)) (wC (.int 2147483563))) (wOp oMul (wC (.int 52067)) (wVar 2))) (wC (.int 53))) (wC (.int 3))) wNil)) (wC (.int 2147483647))) (gN 4))
    (wSeq (wAsg (wOp oMod (wCB cInt (wCons (wOp oPow (wOp oAdd (wOp oAdd (wOp oMul (wVar 4) (wOp oAdd (wOp oMul (wC (.int 2)) (wVar 2)) (wC (.int 19)))) (wOp oMul (wOp oMul (wC (.int 52067)) (wVar 2)) (wVar 2))) (wC (.int 7411))) (wC (.int 5))) wNil)) (wC (.int 2147483587))) (gN 4))
    (wRet (wOp oMod (wCB cInt (wCons (wOp oFdiv (wVar 4) (wC (.int 16))) wNil)) (wVar 1)))))))))))
theorem atI_mod {cs : List Int} {a : Int} (hp : 0 < cs.length) (h0 : 0 ≤ a) : ∃ c, L2.atI (cs.map D.int) (a % ((cs.map D.int).length : Int)) = some (D.int c) := by
  have h1 := Int.emod_nonneg a (show ((cs.map D.int).length : Int) ≠ 0 by rw [List.length_map]; omega)
  have h2 := Int.emod_lt_of_pos a (show (0 : Int) < ((cs.map D.int).length : Int) by rw [List.length_map]; omega)
  rw [atI_in h1 h2, List.getElem?_map, List.getElem?_eq_getElem (by rw [List.length_map] at *; omega)]
  exact ⟨_, rfl⟩
theorem great_ok {c : Int} (h : 10 ^ Int.toNat 18 ≤ absI c) : 0 ≤ 2 * (absI c - 10 ^ Int.toNat 18) + (if decide (c < 0) = true then 1 else 0) := by
  split <;> omega
theorem pow_ok (m a x y z e : Int) (he0 : 0 ≤ e) (he1 : e ≤ 10) (hx : 0 ≤ x) (hx' : x < 1000) (hy : 0 ≤ y) (hy' : y < 100000) (hz : 0 ≤ z) (hz' : z < 100000) (h : 0 ≤ m) (h' : m < 2147483647) (h0 : 0 ≤ a) (h1 : a ≤ 1000000) : CPow (m * (2 * a + x) + y * a * a + z) e := by
  have h2 : m * (2 * a + x) ≤ 2147483647 * 2001000 := Int.mul_le_mul (by omega) (by omega) (by omega) (by omega)
  have h3 : 0 ≤ m * (2 * a + x) := Int.mul_nonneg h (by omega)
  have h4 : y * a ≤ 100000 * 1000000 := Int.mul_le_mul (by omega) (by omega) (by omega) (by omega)
  have h5 : 0 ≤ y * a := Int.mul_nonneg hy h0
  have h6 : y * a * a ≤ 100000000000 * 1000000 := Int.mul_le_mul (by omega) (by omega) (by omega) (by omega)
  have h7 : 0 ≤ y * a * a := Int.mul_nonneg h5 h0
  exact cpow (by omega) (by omega) (by omega) (by omega)
local macro_rules | `(tactic| walk_at "call") => `(tactic| first
  | (refine set_rest ?_; walk_at "go")
  | (refine set_at ?_; walk_at "go"))
theorem wp_law_draw : ∀ ds M R RX, sp_law_draw ds M R RX → M.all (cellOk M.length) = true → noCels M.length ds = true → w_law_draw (fnEnds M.length R) (startE 7 ds) M := by
  unfold sp_law_draw; rintro ds M R RX ⟨many, n, b, M2, rfl, rfl, ⟨cs, at_, rest, rfl, h0, hn0, h2⟩, hn, h3, h4, k⟩ _ _
  have h1 : at_ ≤ 1000000 := by omega
  have fin : ∀ (x a' r' : Int), at_ ≤ a' → a' ≤ at_ + 1 → 0 ≤ r' → retF (TB (pen cs at_ rest) M2).length R (.int (x % many)) (TB (pen cs a' r') M2) := fun x a' r' q1 q2 q3 =>
    .keep (k _ _ (Int.emod_nonneg _ (by omega)) (Int.emod_lt_of_pos _ (by omega)) ⟨cs, a', r', rfl, by omega, by omega, q3⟩)
  have m31 : ∀ x : Int, 0 ≤ x % 2147483647 ∧ x % 2147483647 < 2147483647 := fun x => ⟨Int.emod_nonneg _ (by decide), Int.emod_lt_of_pos _ (by decide)⟩
  have end1 : ∀ x : Int, retF (TB (pen cs at_ rest) M2).length R (.int (x % many)) (TB (pen cs (at_ + 1) rest) M2) := fun x => fin _ _ _ (by omega) (by omega) (by omega)
  have end2 : ∀ x : Int, 0 ≤ x → retF (TB (pen cs at_ rest) M2).length R (.int (x % many)) (TB (pen cs (at_ + 1) (x / many)) M2) := fun x hx => fin _ _ _ (by omega) (by omega) (Int.ediv_nonneg hx (by omega))
  have pos : (cs.map D.int).isEmpty = false → 0 < cs.length := fun h => by
    cases cs with
    | nil => cases h
    | cons _ _ => simp
  walk_at "go"
  · exact fin _ _ _ (by omega) (by omega) (Int.ediv_nonneg h2 (by omega))
  · exact ⟨by rw [List.length_map]; have := pos (by assumption); omega⟩
  · obtain ⟨c, hc⟩ := atI_mod (a := at_) (pos (by assumption)) h0
    rw [hc]
    walk_at "go"
    all_goals first
      | exact end1 _
      | exact end2 _ (great_ok (by assumption))
      | exact ⟨pow_ok _ _ _ _ _ _ (by decide) (by decide) (by decide) (by decide) (by decide) (by decide) (by decide) (by decide) (Int.emod_nonneg _ (by decide)) (Int.lt_of_lt_of_le (Int.emod_lt_of_pos _ (by decide)) (by decide)) h0 h1⟩
  all_goals first
    | exact end1 _
    | exact end2 _ (great_ok (by assumption))
    | exact ⟨pow_ok _ _ _ _ _ _ (by decide) (by decide) (by decide) (by decide) (by decide) (by decide) (by decide) (by decide) (Int.emod_nonneg _ (by decide)) (Int.lt_of_lt_of_le (Int.emod_lt_of_pos _ (by decide)) (by decide)) h0 h1⟩

/-! _law_pick: 0 _law_pen_here, 1 _law_some -/
abbrev p_law_pick : List Str := ["_law_pen_here", "_law_some"]
theorem num_log {i : Int} (h : -1000000000 ≤ i ∧ i ≤ 1000000000) : i.natAbs.log2 < 1920 := by
  by_cases h0 : i.natAbs = 0
  · rw [h0]; decide
  · exact (Nat.log2_lt h0).mpr (Nat.lt_of_le_of_lt (show i.natAbs ≤ 1000000000 by omega) (by decide +kernel))
/-- a value that may be told within others -/
structure Tl (d : D) (p : PyData) : Prop where
  rp : ∀ M n, rpC M (n + 4) d = some p
  sm : smallP p = true
  dp : p.depth ≤ 4
  wt : wtP p ≤ 100
  nc : ∀ n, noCel n d = true
def Th (d : D) : Prop := ∃ p, Tl d p
def THS (n : Int) : List D := [.int n, .int (0 - n), .non, .bl true, .bl false, .str "", .str "word", .str "two words", .tup [], .tup [.int n, .str "a"], .lst [.int n], .dct []] ++ [.dct [(Sum.inr "a", .int n)], .lst [.lst [.int n], .str "x"], .tup [.tup [], .tup [.str "a", .str "b"]], .int (10 ^ Int.toNat 59)]
theorem th_of {n : Int} (h : 0 ≤ n ∧ n < 10000000) : ∀ d ∈ THS n, Th d := by
  intro d hd
  have z : decide (n.natAbs.log2 < 1920) = true := decide_eq_true (num_log (by omega))
  have z2 : decide ((0 - n).natAbs.log2 < 1920) = true := decide_eq_true (num_log (by omega))
  have sa : smallP (.str "a") = true := by decide +kernel
  have sx : smallP (.str "x") = true := by decide +kernel
  simp only [THS, List.mem_cons, List.mem_append, List.not_mem_nil, or_false, or_assoc] at hd
  rcases hd with rfl | rfl | rfl | rfl | rfl | rfl | rfl | rfl | rfl | rfl | rfl | rfl | rfl | rfl | rfl | rfl
  all_goals first
    | exact ⟨_, fun M n => rfl, by decide +kernel, by decide +kernel, by decide +kernel, fun n => rfl⟩
    | exact ⟨_, fun M n => rfl, z, by simp [PyData.depth], by simp [wtP], fun n => rfl⟩
    | exact ⟨_, fun M n => rfl, z2, by simp [PyData.depth], by simp [wtP], fun n => rfl⟩
    | exact ⟨_, fun M n => rfl, by (try simp only [keyP]); simp only [smallP, smallA, smallK, z, sa, sx, Bool.and_true, Bool.true_and] <;> first | exact sa | exact sx | rfl | decide +kernel, by first | decide +kernel | (simp [PyData.depth, PyData.depthAll, PyData.depthKv, keyP]; done) | rfl, by first | decide +kernel | (simp [wtP, wtA, wtK, keyP]; done), fun n => rfl⟩
@[irreducible] def sp_law_pick : DSp := fun ds M R _ => ∃ (l : List D) (n : Int) (b : D) (M2 : Mt), ds = [.cel 0, .lst l] ∧ M = TB b M2 ∧ PenOk n b ∧ n ≤ 1000000 ∧ 1 ≤ l.length ∧ l.length ≤ 1000 ∧
  ∀ (d : D) (b' : D), d ∈ l → PenOk (n + 1) b' → R d (TB b' M2)
theorem len_law_pick : ∀ ds M R RX, sp_law_pick ds M R RX → ds.length = p_law_pick.length := by
  unfold sp_law_pick; rintro ds M R RX ⟨_, _, _, _, rfl, _⟩; rfl
theorem use_law_pick {l : List D} {n : Int} {b : D} {M2 : Mt} {R RX} (hb : PenOk n b) (hn : n ≤ 1000000) (h1 : 1 ≤ l.length) (h2 : l.length ≤ 1000)
    (k : ∀ (d : D) (b' : D), d ∈ l → PenOk (n + 1) b' → R d (TB b' M2)) : sp_law_pick [.cel 0, .lst l] (TB b M2) R RX := by
  unfold sp_law_pick; exact ⟨l, n, b, M2, rfl, rfl, hb, hn, h1, h2, k⟩
def w_law_pick : WS :=
  (wRet (wOp oIx (wVar 1) (wCall sp_law_draw [] RX0 (wCons (wVar 0) (wCons (wCB cLen (wCons (wVar 1) wNil)) wNil)))))
theorem wp_law_pick : ∀ ds M R RX, sp_law_pick ds M R RX → M.all (cellOk M.length) = true → noCels M.length ds = true → w_law_pick (fnEnds M.length R) (startE 2 ds) M := by
  unfold sp_law_pick; rintro ds M R RX ⟨l, n, b, M2, rfl, rfl, hb, hn, h1, h2, k⟩ _ _
  walk_at "go"
  refine use_law_draw hb hn (by omega) (by omega) fun dr b2 hd0 hd1 hb2 => ?_
  walk_at "go"
  rw [atI_in hd0 hd1, List.getElem?_eq_getElem (by omega)]
  walk_at "go"
  exact .keep (k _ _ (List.getElem_mem _) hb2)
/-! _law_thing: 0 _law_pen_here, 1 _law_number, 2 _law_menu -/
abbrev p_law_thing : List Str := ["_law_pen_here"]
@[irreducible] def sp_law_thing : DSp := fun ds M R _ => ∃ (n : Int) (b : D) (M2 : Mt), ds = [.cel 0] ∧ M = TB b M2 ∧ PenOk n b ∧ n ≤ 900000 ∧ ∀ (d : D) (b' : D), Th d → PenOk (n + 2) b' → R d (TB b' M2)
theorem len_law_thing : ∀ ds M R RX, sp_law_thing ds M R RX → ds.length = p_law_thing.length := by
  unfold sp_law_thing; rintro ds M R RX ⟨_, _, _, rfl, _⟩; rfl
theorem use_law_thing {n : Int} {b : D} {M2 : Mt} {R RX} (hb : PenOk n b) (hn : n ≤ 900000) (k : ∀ (d : D) (b' : D), Th d → PenOk (n + 2) b' → R d (TB b' M2)) : sp_law_thing [.cel 0] (TB b M2) R RX := by
  unfold sp_law_thing; exact ⟨n, b, M2, rfl, rfl, hb, hn, k⟩
def w_law_thing : WS :=
  (wSeq (wAsg (wCall sp_law_draw [] RX0 (wCons (wVar 0) (wCons (wOp oPow (wC (.int 10)) (wC (.int 7))) wNil))) (gN 1))
    (wSeq (wAsg (wLst (wCons (wVar 1) (wCons (wOp oSub (wC (.int 0)) (wVar 1)) (wCons (wC .non) (wCons (wC (.bl true)) (wCons (wC (.bl false)) (wCons (wC (.str "")) (wCons (wC (.str "word")) (wCons (wC (.str "two words")) (wCons (wTup wNil) (wCons (wTup (wCons (wVar 1) (wCons (wC (.str "a")) wNil))) (wCons (wLst (wCons (wVar 1) wNil)) (wCons (wDict0 false) wNil))))))))))))) (gN 2))
    (wRet (wCall sp_law_pick [] RX0 (wCons (wVar 0) (wCons (wOp oAdd (wVar 2) (wLst (wCons (wDisp [((wC (.str "a")), (wVar 1))]) (wCons (wLst (wCons (wLst (wCons (wVar 1) wNil)) (wCons (wC (.str "x")) wNil))) (wCons (wTup (wCons (wTup wNil) (wCons (wTup (wCons (wC (.str "a")) (wCons (wC (.str "b")) wNil))) wNil))) (wCons (wOp oPow (wC (.int 10)) (wC (.int 59))) wNil)))))) wNil))))))
theorem wp_law_thing : ∀ ds M R RX, sp_law_thing ds M R RX → M.all (cellOk M.length) = true → noCels M.length ds = true → w_law_thing (fnEnds M.length R) (startE 3 ds) M := by
  unfold sp_law_thing; rintro ds M R RX ⟨n, b, M2, rfl, rfl, hb, hn, k⟩ _ _
  walk_at "go"
  refine use_law_draw hb (by omega) (by decide) (by decide) fun x b1 h0 h1 hb1 => ?_
  walk_at "go"
  refine use_law_pick (l := THS x) hb1 (by omega) (by simp [THS]) (by simp [THS]) fun d b' hd hb' => .keep (k d b' (th_of ⟨h0, h1⟩ d hd) (by rw [show n + 2 = n + 1 + 1 by omega]; exact hb'))

/-! _law_kinds: 0 _law_error, 1 _law_found, 2 _law_at, 3 _law_is_one -/
abbrev p_law_kinds : List Str := ["_law_error"]
@[irreducible] def isC (n c : Str) : Bool := decide (n = c)
theorem one_of {n c : Str} (hn : n ∈ NS33) (hc : c ∈ NS33) : oneE ERF ERG n (.cls c) = some (isC n c) := by
  show (if n ∈ NS33 then _ else _) = _
  rw [if_pos hn, if_pos hc]
  unfold isC; rfl
theorem in_a {c : Str} {n : Nat} (h : NS33[n]? = some c) : c ∈ NS33 := List.mem_of_getElem? h
theorem ns_nd : NS33.Nodup := by decide +kernel
theorem get_map {α : Type} {l : List α} {f : α → D} {i : Nat} {d : D} (h : (l.map f)[i]? = some d) : ∃ a, l[i]? = some a ∧ d = f a := by
  rw [List.getElem?_map] at h
  cases e : l[i]? with
  | none => rw [e] at h; cases h
  | some p => rw [e] at h; exact ⟨p, rfl, (Option.some.inj h).symm⟩
abbrev kC (c : Str) : WE := wCB (cIsE ERF ERG) (wCons (wVar 0) (wCons (wC (.cls c)) wNil))
section
variable {i : Nat} {n c d : Str} {fs : List (Str × D)} {M : Mt} {l : List D} {kk : DEnds} {rest : WS} {z1 z2 : Option D}
local macro_rules | `(tactic| walk_at "call") => `(tactic| (refine isE_use (isC _ _) ‹_› (one_of ‹_› ‹_›) ?_; walk_at "go"))
theorem st_step0 (hm : M[i]? = some (.ptp [.obj n fs])) (hn : n ∈ NS33) (hc : c ∈ NS33) (hd : d ∈ NS33) (h : rest kk [some (.cel i), some (.lst [.bl (isC n c), .bl (isC n d)]), none, none] M) :
    wSeq (wAsg (wLst (wCons (kC c) (wCons (kC d) wNil))) (gN 1)) rest kk [some (.cel i), none, none, none] M := by
  walk_at "go"
  exact h
theorem st_step (hm : M[i]? = some (.ptp [.obj n fs])) (hn : n ∈ NS33) (hc : c ∈ NS33) (hd : d ∈ NS33) (hl : l.length ≤ 200) (h : rest kk [some (.cel i), some (.lst (l ++ [.bl (isC n c), .bl (isC n d)])), none, none] M) :
    wSeq (wAsg (wOp oAdd (wVar 1) (wLst (wCons (kC c) (wCons (kC d) wNil)))) (gN 1)) rest kk [some (.cel i), some (.lst l), none, none] M := by
  walk_at "go"
  exact h
theorem st_step1 (hm : M[i]? = some (.ptp [.obj n fs])) (hn : n ∈ NS33) (hc : c ∈ NS33) (hl : l.length ≤ 200) (h : rest kk [some (.cel i), some (.lst (l ++ [.bl (isC n c)])), none, none] M) :
    wSeq (wAsg (wOp oAdd (wVar 1) (wLst (wCons (kC c) wNil))) (gN 1)) rest kk [some (.cel i), some (.lst l), none, none] M := by
  walk_at "go"
  exact h
end
@[irreducible] def sp_law_kinds : DSp := fun ds M R _ => ∃ (i j : Nat) (n : Str) (fs : List (Str × D)), ds = [.cel i] ∧ M[i]? = some (.ptp [.obj n fs]) ∧ NS33[j]? = some n ∧ R (.lst [.int (j : Int)]) M
theorem len_law_kinds : ∀ ds M R RX, sp_law_kinds ds M R RX → ds.length = p_law_kinds.length := by
  unfold sp_law_kinds; rintro ds M R RX ⟨_, _, _, _, rfl, _⟩; rfl
theorem use_law_kinds {i j : Nat} {n : Str} {fs : List (Str × D)} {M : Mt} {R RX} (hm : M[i]? = some (.ptp [.obj n fs])) (hj : NS33[j]? = some n) (k : R (.lst [.int (j : Int)]) M) : sp_law_kinds [.cel i] M R RX := by
  unfold sp_law_kinds; exact ⟨i, j, n, fs, rfl, hm, hj, k⟩
def w_law_kinds : WS :=
  (wSeq (wAsg (wLst (wCons (wCB (cIsE ERF ERG) (wCons (wVar 0) (wCons (wC (.cls "InvalidName")) wNil))) (wCons (wCB (cIsE ERF ERG) (wCons (wVar 0) (wCons (wC (.cls "InvalidNumber")) wNil))) wNil))) (gN 1))
    (wSeq (wAsg (wOp oAdd (wVar 1) (wLst (wCons (wCB (cIsE ERF ERG) (wCons (wVar 0) (wCons (wC (.cls "InvalidRow")) wNil))) (wCons (wCB (cIsE ERF ERG) (wCons (wVar 0) (wCons (wC (.cls "NoTarget")) wNil))) wNil)))) (gN 1))
    (wSeq (wAsg (wOp oAdd (wVar 1) (wLst (wCons (wCB (cIsE ERF ERG) (wCons (wVar 0) (wCons (wC (.cls "NoClass")) wNil))) (wCons (wCB (cIsE ERF ERG) (wCons (wVar 0) (wCons (wC (.cls "NoLanding")) wNil))) wNil)))) (gN 1))
    (wSeq (wAsg (wOp oAdd (wVar 1) (wLst (wCons (wCB (cIsE ERF ERG) (wCons (wVar 0) (wCons (wC (.cls "InvalidRows")) wNil))) (wCons (wCB (cIsE ERF ERG) (wCons (wVar 0) (wCons (wC (.cls "InvalidKind")) wNil))) wNil)))) (gN 1))
    (wSeq (wAsg (wOp oAdd (wVar 1) (wLst (wCons (wCB (cIsE ERF ERG) (wCons (wVar 0) (wCons (wC (.cls "InvalidFrame")) wNil))) (wCons (wCB (cIsE ERF ERG) (wCons (wVar 0) (wCons (wC (.cls "InvalidWord")) wNil))) wNil)))) (gN 1))
    (wSeq (wAsg (wOp oAdd (wVar 1) (wLst (wCons (wCB (cIsE ERF ERG) (wCons (wVar 0) (wCons (wC (.cls "NotReady")) wNil))) (wCons (wCB (cIsE ERF ERG) (wCons (wVar 0) (wCons (wC (.cls "TooMany")) wNil))) wNil)))) (gN 1))
    (wSeq (wAsg (wOp oAdd (wVar 1) (wLst (wCons (wCB (cIsE ERF ERG) (wCons (wVar 0) (wCons (wC (.cls "InvalidAddress")) wNil))) (wCons (wCB (cIsE ERF ERG) (wCons (wVar 0) (wCons (wC (.cls "Locked")) wNil))) wNil)))) (gN 1))
    (wSeq (wAsg (wOp oAdd (wVar 1) (wLst (wCons (wCB (cIsE ERF ERG) (wCons (wVar 0) (wCons (wC (.cls "Blank")) wNil))) (wCons (wCB (cIsE ERF ERG) (wCons (wVar 0) (wCons (wC (.cls "StateClash")) wNil))) wNil)))) (gN 1))
    (wSeq (wAsg (wOp oAdd (wVar 1) (wLst (wCons (wCB (cIsE ERF ERG) (wCons (wVar 0) (wCons (wC (.cls "NoCondition")) wNil))) (wCons (wCB (cIsE ERF ERG) (wCons (wVar 0) (wCons (wC (.cls "NoField")) wNil))) wNil)))) (gN 1))
    (wSeq (wAsg (wOp oAdd (wVar 1) (wLst (wCons (wCB (cIsE ERF ERG) (wCons (wVar 0) (wCons (wC (.cls "NoKind")) wNil))) (wCons (wCB (cIsE ERF ERG) (wCons (wVar 0) (wCons (wC (.cls "NoState")) wNil))) wNil)))) (gN 1))
    (wSeq (wAsg (wOp oAdd (wVar 1) (wLst (wCons (wCB (cIsE ERF ERG) (wCons (wVar 0) (wCons (wC (.cls "Taken")) wNil))) (wCons (wCB (cIsE ERF ERG) (wCons (wVar 0) (wCons (wC (.cls "NotPossible")) wNil))) wNil)))) (gN 1))
    (wSeq (wAsg (wOp oAdd (wVar 1) (wLst (wCons (wCB (cIsE ERF ERG) (wCons (wVar 0) (wCons (wC (.cls "NoCase")) wNil))) (wCons (wCB (cIsE ERF ERG) (wCons (wVar 0) (wCons (wC (.cls "WrongCount")) wNil))) wNil)))) (gN 1))
    (wSeq (wAsg (wOp oAdd (wVar 1) (wLst (wCons (wCB (cIsE ERF ERG) (wCons (wVar 0) (wCons (wC (.cls "TooLarge")) wNil))) (wCons (wCB (cIsE ERF ERG) (wCons (wVar 0) (wCons (wC (.cls "InvalidText")) wNil))) wNil)))) (gN 1))
    (wSeq (wAsg (wOp oAdd (wVar 1) (wLst (wCons (wCB (cIsE ERF ERG) (wCons (wVar 0) (wCons (wC (.cls "FieldClash")) wNil))) (wCons (wCB (cIsE ERF ERG) (wCons (wVar 0) (wCons (wC (.cls "Clash")) wNil))) wNil)))) (gN 1))
    (wSeq (wAsg (wOp oAdd (wVar 1) (wLst (wCons (wCB (cIsE ERF ERG) (wCons (wVar 0) (wCons (wC (.cls "NoStates")) wNil))) (wCons (wCB (cIsE ERF ERG) (wCons (wVar 0) (wCons (wC (.cls "NoEntries")) wNil))) wNil)))) (gN 1))
    (wSeq (wAsg (wOp oAdd (wVar 1) (wLst (wCons (wCB (cIsE ERF ERG) (wCons (wVar 0) (wCons (wC (.cls "NotEnd")) wNil))) (wCons (wCB (cIsE ERF ERG) (wCons (wVar 0) (wCons (wC (.cls "NotCarried")) wNil))) wNil)))) (gN 1))
    (wSeq (wAsg (wOp oAdd (wVar 1) (wLst (wCons (wCB (cIsE ERF ERG) (wCons (wVar 0) (wCons (wC (.cls "Unlike")) wNil))) wNil))) (gN 1))
    (wRet (wLc (wEnumerate (wCons (wVar 1) wNil)) [2, 3] (wTru (wVar 3)) (wVar 2) [2, 3])))))))))))))))))))
theorem k_end {i j : Nat} {n : Str} {M : Mt} {R : D → Mt → Prop} {l : List D} (hl : l = NS33.map fun c => D.bl (isC n c)) (hj : NS33[j]? = some n) (k : R (.lst [.int (j : Int)]) M) :
    wRet (wLc (wEnumerate (wCons (wVar 1) wNil)) [2, 3] (wTru (wVar 3)) (wVar 2) [2, 3]) (fnEnds M.length R) [some (.cel i), some (.lst l), none, none] M := by
  have hz : l.length = 33 := by rw [hl, List.length_map]; decide +kernel
  walk_at "go"
  refine lcL_inv (fun t acc M' => M' = M ∧ acc = if j < t then [D.int j] else []) (by rw [enumD_len, hz, line16]; omega) ⟨rfl, by simp⟩ ?_ ?_
  · rintro t d acc M' A C hd ⟨rfl, rfl⟩ hA hC
    obtain ⟨x, hx, rfl⟩ := enumD_get _ _ _ _ hd
    rw [hl] at hx
    obtain ⟨c, hci, rfl⟩ := get_map hx
    have e : isC n c = decide (t = j) := by
      unfold isC
      obtain ⟨ht, e1⟩ := List.getElem?_eq_some_iff.mp hci
      obtain ⟨hj2, e2⟩ := List.getElem?_eq_some_iff.mp hj
      rw [← e1, ← e2]
      exact decide_eq_decide.mpr ⟨fun h => ((List.getElem_inj ns_nd).mp h).symm, fun h => by subst h; rfl⟩
    by_cases h : t = j
    · subst h
      rw [e, decide_eq_true rfl]
      walk_at "go"
      refine hA _ _ ⟨rfl, ?_⟩
      rw [if_neg (Nat.lt_irrefl _), if_pos (Nat.lt_succ_self _), Nat.zero_add]; rfl
    · rw [e, decide_eq_false h]
      walk_at "go"
      refine hC _ ⟨rfl, ?_⟩
      by_cases h2 : j < t
      · rw [if_pos h2, if_pos (by omega)]
      · rw [if_neg h2, if_neg (by omega)]
  · rintro acc M' hal ⟨rfl, rfl⟩
    have hj2 : j < 33 := by
      obtain ⟨hj2, e2⟩ := List.getElem?_eq_some_iff.mp hj
      exact Nat.lt_of_lt_of_le hj2 (by decide +kernel)
    rw [enumD_len, hz, if_pos hj2]
    exact .keep k
theorem wp_law_kinds : ∀ ds M R RX, sp_law_kinds ds M R RX → M.all (cellOk M.length) = true → noCels M.length ds = true → w_law_kinds (fnEnds M.length R) (startE 4 ds) M := by
  unfold sp_law_kinds; rintro ds M R RX ⟨i, j, n, fs, rfl, hm, hj, k⟩ _ _
  have hn := in_a hj
  show w_law_kinds (fnEnds M.length R) [some (.cel i), none, none, none] M
  unfold w_law_kinds
  refine st_step0 hm hn (by decide +kernel) (by decide +kernel) ?_
  iterate 15 refine st_step hm hn (by decide +kernel) (by decide +kernel) (by simp only [List.length_append, List.length_cons, List.length_nil]; decide) ?_
  refine st_step1 hm hn (by decide +kernel) (by simp only [List.length_append, List.length_cons, List.length_nil]; decide) ?_
  exact k_end (by simp only [NS33, List.cons_append, List.nil_append, List.map_cons, List.map_nil]) hj k

/-! _law_is_based: 0 _law_error, 1 _law_others -/
abbrev p_law_is_based : List Str := ["_law_error"]
theorem ty_of {n : Str} (hn : n ∈ NS33) (c : String) : oneE ERF ERG n (.ty c) = TY8.lookup c := if_pos hn
theorem any5 {n : Str} (hn : n ∈ NS33) : anyE ERF ERG n [.ty "KeyError", .ty "IndexError", .ty "LookupError", .ty "ArithmeticError", .ty "OverflowError"] = some false := by
  simp only [anyE, ty_of hn]; decide +kernel
theorem any2 {n : Str} (hn : n ∈ NS33) : anyE ERF ERG n [.ty "TypeError", .ty "RuntimeError"] = some false := by
  simp only [anyE, ty_of hn]; decide +kernel
theorem one_up {n : Str} (hn : n ∈ NS33) : oneE ERF ERG n (.cls "OrError") = some true := by
  show (if n ∈ NS33 then _ else _) = _
  rw [if_pos hn, if_neg (by decide +kernel), if_pos (by decide +kernel)]
theorem one_ve {n : Str} (hn : n ∈ NS33) : oneE ERF ERG n (.ty "ValueError") = some true := by rw [ty_of hn]; decide +kernel
@[irreducible] def sp_law_is_based : DSp := fun ds M R _ => ∃ (i : Nat) (n : Str) (fs : List (Str × D)), ds = [.cel i] ∧ M[i]? = some (.ptp [.obj n fs]) ∧ n ∈ NS33 ∧ R (.bl true) M
theorem len_law_is_based : ∀ ds M R RX, sp_law_is_based ds M R RX → ds.length = p_law_is_based.length := by
  unfold sp_law_is_based; rintro ds M R RX ⟨_, _, _, rfl, _⟩; rfl
theorem use_law_is_based {i : Nat} {n : Str} {fs : List (Str × D)} {M : Mt} {R RX} (hm : M[i]? = some (.ptp [.obj n fs])) (hn : n ∈ NS33) (k : R (.bl true) M) : sp_law_is_based [.cel i] M R RX := by
  unfold sp_law_is_based; exact ⟨i, n, fs, rfl, hm, hn, k⟩
def w_law_is_based : WS :=
  (wSeq (wAsg (wCB (cIsET ERF ERG) (wCons (wVar 0) (wCons (wTup (wCons (wC (.ty "KeyError")) (wCons (wC (.ty "IndexError")) (wCons (wC (.ty "LookupError")) (wCons (wC (.ty "ArithmeticError")) (wCons (wC (.ty "OverflowError")) wNil)))))) wNil))) (gN 1))
    (wSeq (wAsg (wOrV (wVar 1) (wCB (cIsET ERF ERG) (wCons (wVar 0) (wCons (wTup (wCons (wC (.ty "TypeError")) (wCons (wC (.ty "RuntimeError")) wNil))) wNil)))) (gN 1))
    (wRet (wAndV (wCB (cIsE ERF ERG) (wCons (wVar 0) (wCons (wC (.cls "OrError")) wNil))) (wAndV (wCB (cIsE ERF ERG) (wCons (wVar 0) (wCons (wC (.ty "ValueError")) wNil))) (wNotV (wVar 1)))))))
local macro_rules | `(tactic| walk_at "call") => `(tactic| first
  | (refine isET_use false ‹_› (any5 ‹_›) ?_; walk_at "go")
  | (refine isET_use false ‹_› (any2 ‹_›) ?_; walk_at "go")
  | (refine isE_use true ‹_› (one_up ‹_›) ?_; walk_at "go")
  | (refine isE_use true ‹_› (one_ve ‹_›) ?_; walk_at "go"))
theorem wp_law_is_based : ∀ ds M R RX, sp_law_is_based ds M R RX → M.all (cellOk M.length) = true → noCels M.length ds = true → w_law_is_based (fnEnds M.length R) (startE 2 ds) M := by
  unfold sp_law_is_based; rintro ds M R RX ⟨i, n, fs, rfl, hm, hn, k⟩ _ _
  walk_at "go"
  exact .keep k
local macro_rules | `(tactic| walk_at "call") => `(tactic| fail)

/-! _law_values: 0 _law_left, 1 _law_found -/
abbrev p_law_values : List Str := ["_law_left"]
/-! ### entries: an error and its argument -/
def er (p : Str × Str) (d : D) : D := .ptp [.obj p.1 [(p.2, d)]]
def errs (d : D) : List (Str × Str) → List D
  | [] => []
  | p :: r => er p d :: er p d :: errs d r
def ents (d : D) : Nat → List (Str × Str) → List D
  | _, [] => []
  | m, _ :: r => .tup [.cel m, d] :: ents d (m + 2) r
theorem errs_snoc (d : D) (p : Str × Str) : ∀ l, errs d (l ++ [p]) = errs d l ++ [er p d, er p d]
  | [] => rfl
  | q :: r => by show er q d :: er q d :: errs d (r ++ [p]) = _; rw [errs_snoc d p r]; rfl
theorem ents_snoc (d : D) (p : Str × Str) : ∀ m l, ents d m (l ++ [p]) = ents d m l ++ [.tup [.cel (m + 2 * l.length), d]]
  | m, [] => rfl
  | m, q :: r => by
    show D.tup [.cel m, d] :: ents d (m + 2) (r ++ [p]) = _
    rw [ents_snoc d p (m + 2) r, List.length_cons, show m + 2 + 2 * r.length = m + 2 * (r.length + 1) by omega]; rfl
theorem errs_len (d : D) : ∀ l, (errs d l).length = 2 * l.length
  | [] => rfl
  | q :: r => by show (errs d r).length + 1 + 1 = _; rw [errs_len d r, List.length_cons]; omega
theorem ents_len (d : D) : ∀ m l, (ents d m l).length = l.length
  | _, [] => rfl
  | m, q :: r => by show (ents d (m + 2) r).length + 1 = _; rw [ents_len d (m + 2) r]; rfl
theorem ents_get (d : D) : ∀ (l : List (Str × Str)) (m t : Nat) (x : D), (ents d m l)[t]? = some x → x = .tup [.cel (m + 2 * t), d] ∧ ∃ p, l[t]? = some p ∧ (errs d l)[2 * t]? = some (er p d)
  | [], _, _, _, h => by cases h
  | q :: r, m, 0, x, h => ⟨(Option.some.inj h).symm, q, rfl, rfl⟩
  | q :: r, m, t + 1, x, h => by
    obtain ⟨h1, p, h2, h3⟩ := ents_get d r (m + 2) t x h
    refine ⟨by rw [h1, show m + 2 + 2 * t = m + 2 * (t + 1) by omega], p, h2, ?_⟩
    rw [show 2 * (t + 1) = 2 * t + 1 + 1 by omega]; exact h3
theorem mid_get {M0 E : Mt} {x : D} : (M0 ++ x :: E)[M0.length]? = some x := by simp
theorem mid_set {M0 E : Mt} {x y : D} : (M0 ++ x :: E).set M0.length y = M0 ++ y :: E := by simp
theorem mk_use {n : Str} {ns : List Str} {ds : List D} {env : Ev} {M : Mt} {R : D → Mt → Prop} {was : WA} (hw : ∀ Q : List D → Mt → Prop, Q ds M → was env M Q) (hl : ds.length = ns.length) (h : R (.cel M.length) (M ++ [.ptp [.obj n (ns.zip ds).reverse]])) : wMkE n ns was env M R := by
  unfold wMkE
  exact hw _ ⟨⟨hl⟩, h⟩
theorem xe_use {n f : Str} {ns ms : List Str} {ds : List D} {v : D} {env : Ev} {M : Mt} {R : D → Mt → Prop} {was : WA} (hw : ∀ Q : List D → Mt → Prop, Q ds M → was env M Q) (hl : ds.length = ns.length) (hn : n ∈ ms) (hf : (ns.zip ds).reverse.lookup f = some v) (h : R v (M ++ [.ptp [.obj n (ns.zip ds).reverse]])) :
    wXe ms f (wMkE n ns was) env M R := by
  unfold wXe
  refine mk_use hw hl ?_
  have e : (M ++ [D.ptp [.obj n (ns.zip ds).reverse]])[M.length]? = some (.ptp [.obj n (ns.zip ds).reverse]) := by simp
  simp only [e, hf]
  exact ⟨⟨hn⟩, h⟩
theorem cons_use {w : WE} {r : WA} {env : Ev} {M : Mt} {R : List D → Mt → Prop} (h : w env M fun d M1 => r env M1 fun ds M2 => R (d :: ds) M2) : wCons w r env M R := h
theorem tup_use {w : WA} {env : Ev} {M : Mt} {R : D → Mt → Prop} (h : w env M fun ds M1 => Need (ds.length ≤ sizeLine) ∧ R (.tup ds) M1) : wTup w env M R := h
abbrev eW (c f : Str) : WS := wExp (wBM "list" mAppend (wVar 1) (wCons (wTup (wCons (wMkE c [f] (wCons (wVar 0) wNil)) (wCons (wXe [c] f (wMkE c [f] (wCons (wVar 0) wNil))) wNil))) wNil))
theorem en_step {M0 : Mt} {c f : Str} {d : D} {l : List (Str × Str)} {rest : WS} {kk : DEnds} (hl : l.length ≤ 200)
    (h : rest kk [some d, some (.cel M0.length)] (M0 ++ .lst (ents d (M0.length + 1) (l ++ [(c, f)])) :: errs d (l ++ [(c, f)]))) :
    wSeq (eW c f) rest kk [some d, some (.cel M0.length)] (M0 ++ .lst (ents d (M0.length + 1) l) :: errs d l) := by
  have hw : ∀ (M : Mt) (Q : List D → Mt → Prop), Q [d] M → (wCons (wVar 0) wNil) [some d, some (.cel M0.length)] M Q := fun M Q q => q
  show wBM "list" mAppend (wVar 1) _ [some d, some (.cel M0.length)] _ (fun _ M1 => rest kk [some d, some (.cel M0.length)] M1)
  show Need _ ∧ _
  refine ⟨⟨?_⟩, ?_⟩
  · have : viewD (M0 ++ .lst (ents d (M0.length + 1) l) :: errs d l) (.cel M0.length) = .lst (ents d (M0.length + 1) l) := by
      simp only [viewD, mid_get]
    rw [this]; rfl
  refine cons_use (tup_use (cons_use (mk_use (hw _) rfl (cons_use ?_))))
  refine xe_use (hw _) rfl (List.mem_singleton.mpr rfl) (v := d) (by show (List.lookup f [(f, d)]) = _; rw [List.lookup_cons, beq_self_eq_true]) ?_
  refine ⟨⟨by rw [line16]; exact (show (2 : Nat) ≤ 16777216 by decide)⟩, ?_⟩
  refine app_use (l := ents d (M0.length + 1) l) (by rw [List.append_assoc, List.append_assoc, List.cons_append]; exact mid_get) (by rw [ents_len, line16]; omega) ?_
  rw [List.append_assoc, List.append_assoc, List.cons_append, mid_set]
  rw [errs_snoc, ents_snoc] at h
  have e : (M0 ++ .lst (ents d (M0.length + 1) l) :: errs d l).length = M0.length + 1 + 2 * l.length := by
    rw [List.length_append, List.length_cons, errs_len]; omega
  rw [e]
  exact h
abbrev LV : List (Str × Str) := [("InvalidName", "value"), ("InvalidNumber", "value"), ("InvalidRow", "value"), ("NoTarget", "value"), ("NoClass", "value"), ("NoLanding", "value"), ("InvalidRows", "part"), ("InvalidKind", "part"), ("InvalidFrame", "part"), ("InvalidWord", "part"), ("NotReady", "part"), ("TooMany", "part")]
abbrev LP : List (Str × Str) := [("InvalidAddress", "address"), ("Locked", "address"), ("Blank", "address"), ("StateClash", "name"), ("NoCondition", "name"), ("NoField", "name"), ("NoKind", "name"), ("NoState", "name"), ("Taken", "name"), ("NotPossible", "row"), ("NoCase", "case"), ("WrongCount", "wanted"), ("TooLarge", "limit")]
@[irreducible] def sp_law_values : DSp := fun ds M R _ => ∃ d, ds = [d] ∧ noCel M.length d = true ∧ R (.lst (ents d (M.length + 1) LV)) (M ++ .non :: errs d LV)
theorem len_law_values : ∀ ds M R RX, sp_law_values ds M R RX → ds.length = p_law_values.length := by
  unfold sp_law_values; rintro ds M R RX ⟨_, rfl, _⟩; rfl
theorem use_law_values {d : D} {M : Mt} {R RX} (hd : noCel M.length d = true) (k : R (.lst (ents d (M.length + 1) LV)) (M ++ .non :: errs d LV)) : sp_law_values [d] M R RX := by
  unfold sp_law_values; exact ⟨d, rfl, hd, k⟩
def w_law_values : WS :=
  (wSeq (wAsg (wLstM wNil) (gN 1))
    (wSeq (wExp (wBM "list" mAppend (wVar 1) (wCons (wTup (wCons (wMkE "InvalidName" ["value"] (wCons (wVar 0) wNil)) (wCons (wXe ["InvalidName"] "value" (wMkE "InvalidName" ["value"] (wCons (wVar 0) wNil))) wNil))) wNil)))
    (wSeq (wExp (wBM "list" mAppend (wVar 1) (wCons (wTup (wCons (wMkE "InvalidNumber" ["value"] (wCons (wVar 0) wNil)) (wCons (wXe ["InvalidNumber"] "value" (wMkE "InvalidNumber" ["value"] (wCons (wVar 0) wNil))) wNil))) wNil)))
    (wSeq (wExp (wBM "list" mAppend (wVar 1) (wCons (wTup (wCons (wMkE "InvalidRow" ["value"] (wCons (wVar 0) wNil)) (wCons (wXe ["InvalidRow"] "value" (wMkE "InvalidRow" ["value"] (wCons (wVar 0) wNil))) wNil))) wNil)))
    (wSeq (wExp (wBM "list" mAppend (wVar 1) (wCons (wTup (wCons (wMkE "NoTarget" ["value"] (wCons (wVar 0) wNil)) (wCons (wXe ["NoTarget"] "value" (wMkE "NoTarget" ["value"] (wCons (wVar 0) wNil))) wNil))) wNil)))
    (wSeq (wExp (wBM "list" mAppend (wVar 1) (wCons (wTup (wCons (wMkE "NoClass" ["value"] (wCons (wVar 0) wNil)) (wCons (wXe ["NoClass"] "value" (wMkE "NoClass" ["value"] (wCons (wVar 0) wNil))) wNil))) wNil)))
    (wSeq (wExp (wBM "list" mAppend (wVar 1) (wCons (wTup (wCons (wMkE "NoLanding" ["value"] (wCons (wVar 0) wNil)) (wCons (wXe ["NoLanding"] "value" (wMkE "NoLanding" ["value"] (wCons (wVar 0) wNil))) wNil))) wNil)))
    (wSeq (wExp (wBM "list" mAppend (wVar 1) (wCons (wTup (wCons (wMkE "InvalidRows" ["part"] (wCons (wVar 0) wNil)) (wCons (wXe ["InvalidRows"] "part" (wMkE "InvalidRows" ["part"] (wCons (wVar 0) wNil))) wNil))) wNil)))
    (wSeq (wExp (wBM "list" mAppend (wVar 1) (wCons (wTup (wCons (wMkE "InvalidKind" ["part"] (wCons (wVar 0) wNil)) (wCons (wXe ["InvalidKind"] "part" (wMkE "InvalidKind" ["part"] (wCons (wVar 0) wNil))) wNil))) wNil)))
    (wSeq (wExp (wBM "list" mAppend (wVar 1) (wCons (wTup (wCons (wMkE "InvalidFrame" ["part"] (wCons (wVar 0) wNil)) (wCons (wXe ["InvalidFrame"] "part" (wMkE "InvalidFrame" ["part"] (wCons (wVar 0) wNil))) wNil))) wNil)))
    (wSeq (wExp (wBM "list" mAppend (wVar 1) (wCons (wTup (wCons (wMkE "InvalidWord" ["part"] (wCons (wVar 0) wNil)) (wCons (wXe ["InvalidWord"] "part" (wMkE "InvalidWord" ["part"] (wCons (wVar 0) wNil))) wNil))) wNil)))
    (wSeq (wExp (wBM "list" mAppend (wVar 1) (wCons (wTup (wCons (wMkE "NotReady" ["part"] (wCons (wVar 0) wNil)) (wCons (wXe ["NotReady"] "part" (wMkE "NotReady" ["part"] (wCons (wVar 0) wNil))) wNil))) wNil)))
    (wSeq (wExp (wBM "list" mAppend (wVar 1) (wCons (wTup (wCons (wMkE "TooMany" ["part"] (wCons (wVar 0) wNil)) (wCons (wXe ["TooMany"] "part" (wMkE "TooMany" ["part"] (wCons (wVar 0) wNil))) wNil))) wNil)))
    (wRetF (wVar 1)))))))))))))))
theorem en_end {M0 : Mt} {d : D} {l : List (Str × Str)} {R : D → Mt → Prop} (hM : M0.all (cellOk M0.length) = true) (hd : noCel M0.length d = true) (h : R (.lst (ents d (M0.length + 1) l)) (M0 ++ .non :: errs d l)) :
    wRetF (wVar 1) (fnEnds M0.length R) [some d, some (.cel M0.length)] (M0 ++ .lst (ents d (M0.length + 1) l) :: errs d l) := by
  show frz (.cel M0.length) _ _
  unfold frz
  simp only [mid_get, mid_set]
  exact .keep h
theorem wp_law_values : ∀ ds M R RX, sp_law_values ds M R RX → M.all (cellOk M.length) = true → noCels M.length ds = true → w_law_values (fnEnds M.length R) (startE 2 ds) M := by
  unfold sp_law_values; rintro ds M R RX ⟨d, rfl, hd, k⟩ hM _
  show w_law_values (fnEnds M.length R) [some d, none] M
  unfold w_law_values
  show wSeq (wAsg (wLstM wNil) (gN 1)) _ (fnEnds M.length R) [some d, none] M
  refine ⟨⟨Nat.zero_le _⟩, ?_⟩
  refine en_step (l := []) (by decide) ?_
  iterate 11 refine en_step (by decide) ?_
  exact en_end hM hd k
/-! _law_places: 0 _law_left, 1 _law_found -/
abbrev p_law_places : List Str := ["_law_left"]
@[irreducible] def sp_law_places : DSp := fun ds M R _ => ∃ d, ds = [d] ∧ noCel M.length d = true ∧ R (.lst (ents d (M.length + 1) LP)) (M ++ .non :: errs d LP)
theorem len_law_places : ∀ ds M R RX, sp_law_places ds M R RX → ds.length = p_law_places.length := by
  unfold sp_law_places; rintro ds M R RX ⟨_, rfl, _⟩; rfl
theorem use_law_places {d : D} {M : Mt} {R RX} (hd : noCel M.length d = true) (k : R (.lst (ents d (M.length + 1) LP)) (M ++ .non :: errs d LP)) : sp_law_places [d] M R RX := by
  unfold sp_law_places; exact ⟨d, rfl, hd, k⟩
def w_law_places : WS :=
  (wSeq (wAsg (wLstM wNil) (gN 1))
    (wSeq (wExp (wBM "list" mAppend (wVar 1) (wCons (wTup (wCons (wMkE "InvalidAddress" ["address"] (wCons (wVar 0) wNil)) (wCons (wXe ["InvalidAddress"] "address" (wMkE "InvalidAddress" ["address"] (wCons (wVar 0) wNil))) wNil))) wNil)))
    (wSeq (wExp (wBM "list" mAppend (wVar 1) (wCons (wTup (wCons (wMkE "Locked" ["address"] (wCons (wVar 0) wNil)) (wCons (wXe ["Locked"] "address" (wMkE "Locked" ["address"] (wCons (wVar 0) wNil))) wNil))) wNil)))
    (wSeq (wExp (wBM "list" mAppend (wVar 1) (wCons (wTup (wCons (wMkE "Blank" ["address"] (wCons (wVar 0) wNil)) (wCons (wXe ["Blank"] "address" (wMkE "Blank" ["address"] (wCons (wVar 0) wNil))) wNil))) wNil)))
    (wSeq (wExp (wBM "list" mAppend (wVar 1) (wCons (wTup (wCons (wMkE "StateClash" ["name"] (wCons (wVar 0) wNil)) (wCons (wXe ["StateClash"] "name" (wMkE "StateClash" ["name"] (wCons (wVar 0) wNil))) wNil))) wNil)))
    (wSeq (wExp (wBM "list" mAppend (wVar 1) (wCons (wTup (wCons (wMkE "NoCondition" ["name"] (wCons (wVar 0) wNil)) (wCons (wXe ["NoCondition"] "name" (wMkE "NoCondition" ["name"] (wCons (wVar 0) wNil))) wNil))) wNil)))
    (wSeq (wExp (wBM "list" mAppend (wVar 1) (wCons (wTup (wCons (wMkE "NoField" ["name"] (wCons (wVar 0) wNil)) (wCons (wXe ["NoField"] "name" (wMkE "NoField" ["name"] (wCons (wVar 0) wNil))) wNil))) wNil)))
    (wSeq (wExp (wBM "list" mAppend (wVar 1) (wCons (wTup (wCons (wMkE "NoKind" ["name"] (wCons (wVar 0) wNil)) (wCons (wXe ["NoKind"] "name" (wMkE "NoKind" ["name"] (wCons (wVar 0) wNil))) wNil))) wNil)))
    (wSeq (wExp (wBM "list" mAppend (wVar 1) (wCons (wTup (wCons (wMkE "NoState" ["name"] (wCons (wVar 0) wNil)) (wCons (wXe ["NoState"] "name" (wMkE "NoState" ["name"] (wCons (wVar 0) wNil))) wNil))) wNil)))
    (wSeq (wExp (wBM "list" mAppend (wVar 1) (wCons (wTup (wCons (wMkE "Taken" ["name"] (wCons (wVar 0) wNil)) (wCons (wXe ["Taken"] "name" (wMkE "Taken" ["name"] (wCons (wVar 0) wNil))) wNil))) wNil)))
    (wSeq (wExp (wBM "list" mAppend (wVar 1) (wCons (wTup (wCons (wMkE "NotPossible" ["row"] (wCons (wVar 0) wNil)) (wCons (wXe ["NotPossible"] "row" (wMkE "NotPossible" ["row"] (wCons (wVar 0) wNil))) wNil))) wNil)))
    (wSeq (wExp (wBM "list" mAppend (wVar 1) (wCons (wTup (wCons (wMkE "NoCase" ["case"] (wCons (wVar 0) wNil)) (wCons (wXe ["NoCase"] "case" (wMkE "NoCase" ["case"] (wCons (wVar 0) wNil))) wNil))) wNil)))
    (wSeq (wExp (wBM "list" mAppend (wVar 1) (wCons (wTup (wCons (wMkE "WrongCount" ["wanted"] (wCons (wVar 0) wNil)) (wCons (wXe ["WrongCount"] "wanted" (wMkE "WrongCount" ["wanted"] (wCons (wVar 0) wNil))) wNil))) wNil)))
    (wSeq (wExp (wBM "list" mAppend (wVar 1) (wCons (wTup (wCons (wMkE "TooLarge" ["limit"] (wCons (wVar 0) wNil)) (wCons (wXe ["TooLarge"] "limit" (wMkE "TooLarge" ["limit"] (wCons (wVar 0) wNil))) wNil))) wNil)))
    (wRetF (wVar 1))))))))))))))))
theorem wp_law_places : ∀ ds M R RX, sp_law_places ds M R RX → M.all (cellOk M.length) = true → noCels M.length ds = true → w_law_places (fnEnds M.length R) (startE 2 ds) M := by
  unfold sp_law_places; rintro ds M R RX ⟨d, rfl, hd, k⟩ hM _
  show w_law_places (fnEnds M.length R) [some d, none] M
  unfold w_law_places
  show wSeq (wAsg (wLstM wNil) (gN 1)) _ (fnEnds M.length R) [some d, none] M
  refine ⟨⟨Nat.zero_le _⟩, ?_⟩
  refine en_step (l := []) (by decide) ?_
  iterate 12 refine en_step (by decide) ?_
  exact en_end hM hd k

/-! _law_several_right: 0 _law_left, 1 _law_middle, 2 _law_right, 3 _law_fields, 4 _law_found, 5 _law_errors, 6 _law_text, 7 _law_clash, 8 _law_error, 9 _law_at -/
abbrev p_law_several_right : List Str := ["_law_left", "_law_middle", "_law_right"]
/-! ### several arguments -/
def Up (M M1 : Mt) : Prop := ∃ E, M1 = M ++ E
theorem Up.refl {M : Mt} : Up M M := ⟨[], by simp⟩
theorem Up.trans {M M1 M2 : Mt} (a : Up M M1) (b : Up M1 M2) : Up M M2 := by
  obtain ⟨E, rfl⟩ := a; obtain ⟨F, rfl⟩ := b; exact ⟨E ++ F, by rw [List.append_assoc]⟩
theorem Up.get {M M1 : Mt} (u : Up M M1) {i : Nat} {x : D} (h : M[i]? = some x) : M1[i]? = some x := by
  obtain ⟨E, rfl⟩ := u
  rw [List.getElem?_append_left (List.getElem?_eq_some_iff.mp h).1]; exact h
theorem Up.take {M M1 : Mt} (u : Up M M1) : M1.take M.length = M := by
  obtain ⟨E, rfl⟩ := u; exact List.take_left' rfl
theorem mk_up {n : Str} {ns : List Str} {ds : List D} {env : Ev} {M : Mt} {R : D → Mt → Prop} {was : WA} (hw : ∀ Q : List D → Mt → Prop, Q ds M → was env M Q) (hl : ds.length = ns.length)
    (h : ∀ (M1 : Mt) (i : Nat), Up M M1 → M1[i]? = some (.ptp [.obj n (ns.zip ds).reverse]) → R (.cel i) M1) : wMkE n ns was env M R :=
  mk_use hw hl (h _ _ ⟨_, rfl⟩ (by simp))
theorem xe_var {v i : Nat} {n f : Str} {ms : List Str} {fs : List (Str × D)} {d : D} {env : Ev} {M : Mt} {R : D → Mt → Prop} (he : env[v]? = some (some (.cel i))) (hm : M[i]? = some (.ptp [.obj n fs])) (hn : n ∈ ms) (hf : fs.lookup f = some d) (h : R d M) : wXe ms f (wVar v) env M R := by
  unfold wXe wVar
  simp only [he, hm, hf]
  exact ⟨⟨hn⟩, h⟩
theorem s_par {w1 w2 : WE} {i j : Nat} {rest : WS} {kk : DEnds} {env : Ev} {M : Mt} (h : w1 env M fun d M1 => w2 env M1 fun e M2 => rest kk ((env.set i (some d)).set j (some e)) M2) : wSeq (wPar i j (wCons w1 (wCons w2 wNil))) rest kk env M := h
theorem s_asg {we : WE} {i : Nat} {rest : WS} {kk : DEnds} {env : Ev} {M : Mt} (h : we env M fun d M1 => rest kk (env.set i (some d)) M1) : wSeq (wAsg we (gN i)) rest kk env M := h
theorem lst_use {w : WA} {env : Ev} {M : Mt} {R : D → Mt → Prop} (h : w env M fun ds M1 => Need (ds.length ≤ sizeLine) ∧ R (.lst ds) M1) : wLst w env M R := h
theorem op_use {o : WO2} {wa wb : WE} {env : Ev} {M : Mt} {R : D → Mt → Prop} (h : wa env M fun a M1 => wb env M1 fun b M2 => o a b M2 R) : wOp o wa wb env M R := h
theorem var_use {v : Nat} {d : D} {env : Ev} {M : Mt} {R : D → Mt → Prop} (he : env[v]? = some (some d)) (h : R d M) : wVar v env M R := by
  unfold wVar
  simp only [he]
  exact h
theorem add_lst {l m : List D} {M : Mt} {R : D → Mt → Prop} (hl : l.length + m.length ≤ 1000) (h : R (.lst (l ++ m)) M) : oAdd (.lst l) (.lst m) M R := by
  walk_at "go"
  exact h
theorem th_all : ∀ ds : List D, (∀ d ∈ ds, Th d) → ∃ ps, (∀ M n, mapO (rpC M (n + 4)) ds = some ps) ∧ smallA ps = true ∧ PyData.depthAll ps ≤ 4 ∧ wtA ps ≤ 100 * ds.length
  | [], _ => ⟨[], fun _ _ => rfl, rfl, Nat.zero_le _, Nat.zero_le _⟩
  | d :: r, h => by
    obtain ⟨p, hp⟩ := h d List.mem_cons_self
    obtain ⟨ps, h1, h2, h3, h4⟩ := th_all r fun x hx => h x (List.mem_cons_of_mem _ hx)
    refine ⟨p :: ps, fun M n => ?_, ?_, ?_, ?_⟩
    · simp only [mapO, hp.rp M n, h1 M n]
    · show (smallP p && smallA ps) = true
      rw [hp.sm, h2]; rfl
    · have := hp.dp
      simp only [PyData.depthAll]; omega
    · have := hp.wt
      simp only [wtA, List.length_cons]; omega
theorem th_say {ds : List D} (h : ∀ d ∈ ds, Th d) (hl : ds.length ≤ 14) : ∃ p, (∀ M, rpC M 12 (.lst ds) = some p) ∧ RpOk p := by
  obtain ⟨ps, h1, h2, h3, h4⟩ := th_all ds h
  refine ⟨.list ps, fun M => ?_, rpOk_of h2 ?_ ?_⟩
  · show (mapO (rpC M 11) ds).map PyData.list = _
    rw [h1 M 7]; rfl
  · simp only [PyData.depth]; omega
  · simp only [wtP]; omega
theorem half1 {l m r : D} {e3 e4 e5 e6 e7 : Option D} {rest : WS} {kk : DEnds} {M : Mt} (hl : Th l) (hm : Th m) (hr : Th r)
    (h : ∀ (M3 : Mt) (i1 i2 i3 : Nat) (f1 f2 f3 : List (Str × D)) (x : D), Up M M3 → M3[i1]? = some (.ptp [.obj "InvalidText" f1]) → M3[i2]? = some (.ptp [.obj "Clash" f2]) → M3[i3]? = some (.ptp [.obj "FieldClash" f3]) → rest kk [some l, some m, some r, some (.cel i3), some x, e5, some (.cel i1), some (.cel i2), none, none] M3) :
    (wSeq (wPar 6 7 (wCons (wMkE "InvalidText" ["line", "word"] (wCons (wVar 0) (wCons (wVar 1) wNil))) (wCons (wMkE "Clash" ["lesser", "name"] (wCons (wVar 1) (wCons (wVar 2) wNil))) wNil)))
    (wSeq (wAsg (wMkE "FieldClash" ["field", "one", "other"] (wCons (wVar 2) (wCons (wVar 0) (wCons (wVar 1) wNil)))) (gN 3))
    (wSeq (wAsg (wLst (wCons (wXe ["InvalidText"] "line" (wVar 6)) (wCons (wXe ["InvalidText"] "word" (wVar 6)) (wCons (wXe ["Clash"] "lesser" (wVar 7)) (wCons (wXe ["Clash"] "name" (wVar 7)) wNil))))) (gN 4))
    (wSeq (wAsg (wOp oAdd (wVar 4) (wLst (wCons (wXe ["FieldClash"] "field" (wVar 3)) (wCons (wXe ["FieldClash"] "one" (wVar 3)) (wCons (wXe ["FieldClash"] "other" (wVar 3)) wNil))))) (gN 4))
    (wSeq (wIfS (wTest (wOp (oEqI fun b => !b) (wCB cReprC (wCons (wVar 4) wNil)) (wCB cReprC (wCons (wLst (wCons (wVar 0) (wCons (wVar 1) (wCons (wVar 1) (wCons (wVar 2) (wCons (wVar 2) (wCons (wVar 0) (wCons (wVar 1) wNil)))))))) wNil)))) (wRet (wC (.bl false))) wSkip)
    rest))))) kk [some l, some m, some r, e3, e4, e5, e6, e7, none, none] M := by
  obtain ⟨p, hp, ok⟩ := th_say (ds := [l, m, m, r, r, l, m]) (by simp only [List.mem_cons, List.not_mem_nil, or_false]; rintro d (rfl | rfl | rfl | rfl | rfl | rfl | rfl) <;> assumption) (by simp)
  refine s_par (mk_up (ds := [l, m]) (fun Q q => q) rfl fun M1 i1 u1 g1 => mk_up (ds := [m, r]) (fun Q q => q) rfl fun M2 i2 u2 g2 => ?_)
  refine s_asg (mk_up (ds := [r, l, m]) (fun Q q => q) rfl fun M3 i3 u3 g3 => ?_)
  have g1 := u3.get (u2.get g1)
  have g2 := u3.get g2
  refine s_asg (lst_use (cons_use (xe_var rfl g1 (List.mem_singleton.mpr rfl) rfl (cons_use (xe_var rfl g1 (List.mem_singleton.mpr rfl) rfl (cons_use (xe_var rfl g2 (List.mem_singleton.mpr rfl) rfl (cons_use (xe_var rfl g2 (List.mem_singleton.mpr rfl) rfl ?_)))))))))
  refine ⟨⟨by rw [line16]; exact (show (4 : Nat) ≤ 16777216 by decide)⟩, ?_⟩
  refine s_asg (op_use (var_use rfl (lst_use (cons_use (xe_var rfl g3 (List.mem_singleton.mpr rfl) rfl (cons_use (xe_var rfl g3 (List.mem_singleton.mpr rfl) rfl (cons_use (xe_var rfl g3 (List.mem_singleton.mpr rfl) rfl ?_)))))))))
  refine ⟨⟨by rw [line16]; exact (show (3 : Nat) ≤ 16777216 by decide)⟩, ?_⟩
  refine add_lst (by simp) ?_
  have key := fun x => h M3 i1 i2 i3 _ _ _ x (u1.trans (u2.trans u3)) g1 g2 g3
  clear h
  walk_at "go"
  refine reprC_use (hp M3) ok ?_
  walk_at "go"
  refine reprC_use (hp M3) ok ?_
  walk_at "go"
  all_goals first
    | exact key _
    | (rename_i z; exact absurd rfl z)
    | (exfalso; simp_all; done)
theorem half2 {l m r : D} {e3 e4 e5 e6 e7 : Option D} {rest : WS} {kk : DEnds} {M : Mt} (hl : Th l) (hm : Th m) (hr : Th r)
    (h : ∀ (M3 : Mt) (i1 i2 i3 : Nat) (f1 f2 f3 : List (Str × D)) (x : D), Up M M3 → M3[i1]? = some (.ptp [.obj "InvalidText" f1]) → M3[i2]? = some (.ptp [.obj "Clash" f2]) → M3[i3]? = some (.ptp [.obj "FieldClash" f3]) → rest kk [some l, some m, some r, some (.cel i3), some x, e5, some (.cel i1), some (.cel i2), none, none] M3) :
    (wSeq (wPar 6 7 (wCons (wMkE "InvalidText" ["line", "word"] (wCons (wVar 1) (wCons (wVar 0) wNil))) (wCons (wMkE "Clash" ["lesser", "name"] (wCons (wVar 2) (wCons (wVar 0) wNil))) wNil)))
    (wSeq (wAsg (wMkE "FieldClash" ["field", "one", "other"] (wCons (wVar 0) (wCons (wVar 1) (wCons (wVar 2) wNil)))) (gN 3))
    (wSeq (wAsg (wLst (wCons (wXe ["InvalidText"] "line" (wVar 6)) (wCons (wXe ["InvalidText"] "word" (wVar 6)) (wCons (wXe ["Clash"] "lesser" (wVar 7)) (wCons (wXe ["Clash"] "name" (wVar 7)) wNil))))) (gN 4))
    (wSeq (wAsg (wOp oAdd (wVar 4) (wLst (wCons (wXe ["FieldClash"] "field" (wVar 3)) (wCons (wXe ["FieldClash"] "one" (wVar 3)) (wCons (wXe ["FieldClash"] "other" (wVar 3)) wNil))))) (gN 4))
    (wSeq (wIfS (wTest (wOp (oEqI fun b => !b) (wCB cReprC (wCons (wVar 4) wNil)) (wCB cReprC (wCons (wLst (wCons (wVar 1) (wCons (wVar 0) (wCons (wVar 2) (wCons (wVar 0) (wCons (wVar 0) (wCons (wVar 1) (wCons (wVar 2) wNil)))))))) wNil)))) (wRet (wC (.bl false))) wSkip)
    rest))))) kk [some l, some m, some r, e3, e4, e5, e6, e7, none, none] M := by
  obtain ⟨p, hp, ok⟩ := th_say (ds := [m, l, r, l, l, m, r]) (by simp only [List.mem_cons, List.not_mem_nil, or_false]; rintro d (rfl | rfl | rfl | rfl | rfl | rfl | rfl) <;> assumption) (by simp)
  refine s_par (mk_up (ds := [m, l]) (fun Q q => q) rfl fun M1 i1 u1 g1 => mk_up (ds := [r, l]) (fun Q q => q) rfl fun M2 i2 u2 g2 => ?_)
  refine s_asg (mk_up (ds := [l, m, r]) (fun Q q => q) rfl fun M3 i3 u3 g3 => ?_)
  have g1 := u3.get (u2.get g1)
  have g2 := u3.get g2
  refine s_asg (lst_use (cons_use (xe_var rfl g1 (List.mem_singleton.mpr rfl) rfl (cons_use (xe_var rfl g1 (List.mem_singleton.mpr rfl) rfl (cons_use (xe_var rfl g2 (List.mem_singleton.mpr rfl) rfl (cons_use (xe_var rfl g2 (List.mem_singleton.mpr rfl) rfl ?_)))))))))
  refine ⟨⟨by rw [line16]; exact (show (4 : Nat) ≤ 16777216 by decide)⟩, ?_⟩
  refine s_asg (op_use (var_use rfl (lst_use (cons_use (xe_var rfl g3 (List.mem_singleton.mpr rfl) rfl (cons_use (xe_var rfl g3 (List.mem_singleton.mpr rfl) rfl (cons_use (xe_var rfl g3 (List.mem_singleton.mpr rfl) rfl ?_)))))))))
  refine ⟨⟨by rw [line16]; exact (show (3 : Nat) ≤ 16777216 by decide)⟩, ?_⟩
  refine add_lst (by simp) ?_
  have key := fun x => h M3 i1 i2 i3 _ _ _ x (u1.trans (u2.trans u3)) g1 g2 g3
  clear h
  walk_at "go"
  refine reprC_use (hp M3) ok ?_
  walk_at "go"
  refine reprC_use (hp M3) ok ?_
  walk_at "go"
  all_goals first
    | exact key _
    | (rename_i z; exact absurd rfl z)
    | (exfalso; simp_all; done)
theorem several_end {cs : List Nat} {a0 a1 a2 a3 a4 a6 a7 : D} {M M4 : Mt} {R : D → Mt → Prop} (hc : cs.length = 8) (H : ∀ t c : Nat, cs[t]? = some c → ∃ n fs, M4[c]? = some (.ptp [.obj n fs]) ∧ NS33[25 + t]? = some n)
    (hM : M.all (cellOk M.length) = true) (u : Up M M4) (k : R (.bl true) M) :
    (wSeq (wIfS (wTest (wOp (oEqI fun b => !b) (wLc (wIt (wVar 5)) [8] (wNotT (wTru (wCall sp_law_is_based [] RX0 (wCons (wVar 8) wNil)))) (wVar 8) [8]) (wLst wNil))) (wRet (wC (.bl false))) wSkip)
    (wRet (wOp (oEqI fun b => b) (wLc (wIt (wVar 5)) [8] wYes (wCall sp_law_kinds [] RX0 (wCons (wVar 8) wNil)) [8]) (wLc (wRng2 (wCons (wC (.int 25)) (wCons (wC (.int 33)) wNil))) [9] wYes (wLst (wCons (wVar 9) wNil)) [9])))) (fnEnds M.length R) [some a0, some a1, some a2, some a3, some a4, some (.lst (cs.map D.cel)), some a6, some a7, none, none] M4 := by
  have fin : retF M.length R (.bl true) M4 := .less rfl (by rw [u.take]; exact hM) (by rw [u.take]; exact k)
  walk_at "go"
  refine lcL_inv (fun i acc M' => M' = M4 ∧ acc = []) (by rw [List.length_map, hc, line16]; decide) ⟨rfl, rfl⟩ ?_ ?_
  · rintro t d acc M' A C hd ⟨rfl, rfl⟩ hA hC
    obtain ⟨c, hci, rfl⟩ := get_map hd
    obtain ⟨n, fs, h1, h2⟩ := H t c hci
    walk_at "go"
    refine use_law_is_based h1 (in_a h2) ?_
    walk_at "go"
    exact hC _ ⟨rfl, trivial⟩
  rintro acc M' hal ⟨rfl, rfl⟩
  walk_at "go"
  · exact ⟨plain_nil⟩
  refine lcL_inv (fun i acc M2 => M2 = M' ∧ acc = (List.range i).map fun t => D.lst [.int ((25 + t : Nat) : Int)]) (by rw [List.length_map, hc, line16]; decide) ⟨rfl, rfl⟩ ?_ ?_
  · rintro t d acc M2 A C hd ⟨rfl, rfl⟩ hA hC
    obtain ⟨c, hci, rfl⟩ := get_map hd
    obtain ⟨n, fs, h1, h2⟩ := H t c hci
    walk_at "go"
    refine use_law_kinds h1 h2 ?_
    walk_at "go"
    exact hA _ _ ⟨rfl, by rw [List.range_succ, List.map_append]; rfl⟩
  rintro acc M2 hal2 ⟨rfl, rfl⟩
  walk_at "go"
  refine lcL_map (fun d => .lst [d]) _ _ (by rw [range_len, line16]; decide) (fun d hd A hA => ?_) ?_
  · walk_at "go"
    exact hA
  have e1 : ((List.range (List.map D.cel cs).length).map fun t => D.lst [.int ((25 + t : Nat) : Int)]) = [.lst [.int 25], .lst [.int 26], .lst [.int 27], .lst [.int 28], .lst [.int 29], .lst [.int 30], .lst [.int 31], .lst [.int 32]] := by
    rw [List.length_map, hc]; rfl
  have e2 : (rangeD 25 (33 - 25 : Int).toNat).map (fun d => D.lst [d]) = [.lst [.int 25], .lst [.int 26], .lst [.int 27], .lst [.int 28], .lst [.int 29], .lst [.int 30], .lst [.int 31], .lst [.int 32]] := by
    rw [L3.range_map]; rfl
  rw [e1, e2]
  refine eqI_same (d := .lst [.lst [.int 25], .lst [.int 26], .lst [.int 27], .lst [.int 28], .lst [.int 29], .lst [.int 30], .lst [.int 31], .lst [.int 32]]) rfl rfl ⟨_, rfl, by decide +kernel⟩ ?_
  exact fin
@[irreducible] def sp_law_several_right : DSp := fun ds M R _ => ∃ l m r, ds = [l, m, r] ∧ Th l ∧ Th m ∧ Th r ∧ R (.bl true) M
theorem len_law_several_right : ∀ ds M R RX, sp_law_several_right ds M R RX → ds.length = p_law_several_right.length := by
  unfold sp_law_several_right; rintro ds M R RX ⟨_, _, _, rfl, _⟩; rfl
theorem use_law_several_right {l m r : D} {M : Mt} {R RX} (hl : Th l) (hm : Th m) (hr : Th r) (k : R (.bl true) M) : sp_law_several_right [l, m, r] M R RX := by
  unfold sp_law_several_right; exact ⟨l, m, r, rfl, hl, hm, hr, k⟩
def w_law_several_right (RX : RXe) : WS :=
  (wSeq (wPar 6 7 (wCons (wMkE "InvalidText" ["line", "word"] (wCons (wVar 0) (wCons (wVar 1) wNil))) (wCons (wMkE "Clash" ["lesser", "name"] (wCons (wVar 1) (wCons (wVar 2) wNil))) wNil)))
    (wSeq (wAsg (wMkE "FieldClash" ["field", "one", "other"] (wCons (wVar 2) (wCons (wVar 0) (wCons (wVar 1) wNil)))) (gN 3))
    (wSeq (wAsg (wLst (wCons (wXe ["InvalidText"] "line" (wVar 6)) (wCons (wXe ["InvalidText"] "word" (wVar 6)) (wCons (wXe ["Clash"] "lesser" (wVar 7)) (wCons (wXe ["Clash"] "name" (wVar 7)) wNil))))) (gN 4))
    (wSeq (wAsg (wOp oAdd (wVar 4) (wLst (wCons (wXe ["FieldClash"] "field" (wVar 3)) (wCons (wXe ["FieldClash"] "one" (wVar 3)) (wCons (wXe ["FieldClash"] "other" (wVar 3)) wNil))))) (gN 4))
    (wSeq (wIfS (wTest (wOp (oEqI fun b => !b) (wCB cReprC (wCons (wVar 4) wNil)) (wCB cReprC (wCons (wLst (wCons (wVar 0) (wCons (wVar 1) (wCons (wVar 1) (wCons (wVar 2) (wCons (wVar 2) (wCons (wVar 0) (wCons (wVar 1) wNil)))))))) wNil)))) (wRet (wC (.bl false))) wSkip)
    (wSeq (wPar 6 7 (wCons (wMkE "InvalidText" ["line", "word"] (wCons (wVar 1) (wCons (wVar 0) wNil))) (wCons (wMkE "Clash" ["lesser", "name"] (wCons (wVar 2) (wCons (wVar 0) wNil))) wNil)))
    (wSeq (wAsg (wMkE "FieldClash" ["field", "one", "other"] (wCons (wVar 0) (wCons (wVar 1) (wCons (wVar 2) wNil)))) (gN 3))
    (wSeq (wAsg (wLst (wCons (wXe ["InvalidText"] "line" (wVar 6)) (wCons (wXe ["InvalidText"] "word" (wVar 6)) (wCons (wXe ["Clash"] "lesser" (wVar 7)) (wCons (wXe ["Clash"] "name" (wVar 7)) wNil))))) (gN 4))
    (wSeq (wAsg (wOp oAdd (wVar 4) (wLst (wCons (wXe ["FieldClash"] "field" (wVar 3)) (wCons (wXe ["FieldClash"] "one" (wVar 3)) (wCons (wXe ["FieldClash"] "other" (wVar 3)) wNil))))) (gN 4))
    (wSeq (wIfS (wTest (wOp (oEqI fun b => !b) (wCB cReprC (wCons (wVar 4) wNil)) (wCB cReprC (wCons (wLst (wCons (wVar 1) (wCons (wVar 0) (wCons (wVar 2) (wCons (wVar 0) (wCons (wVar 0) (wCons (wVar 1) (wCons (wVar 2) wNil)))))))) wNil)))) (wRet (wC (.bl false))) wSkip)
    (wSeq (wAsg (wLst (wCons (wVar 6) (wCons (wVar 3) (wCons (wVar 7) (wCons (wMkE "NoStates" [] wNil) (wCons (wMkE "NoEntries" [] wNil) (wCons (wMkE "NotEnd" [] wNil) (wCons (wMkE "NotCarried" [] wNil) (wCons (wMkE "Unlike" [] wNil) wNil))))))))) (gN 5))
    (wSeq (wIfS (wTest (wOp (oEqI fun b => !b) (wLc (wIt (wVar 5)) [8] (wNotT (wTru (wCall sp_law_is_based [] RX0 (wCons (wVar 8) wNil)))) (wVar 8) [8]) (wLst wNil))) (wRet (wC (.bl false))) wSkip)
    (wRet (wOp (oEqI fun b => b) (wLc (wIt (wVar 5)) [8] wYes (wCall sp_law_kinds [] RX0 (wCons (wVar 8) wNil)) [8]) (wLc (wRng2 (wCons (wC (.int 25)) (wCons (wC (.int 33)) wNil))) [9] wYes (wLst (wCons (wVar 9) wNil)) [9])))))))))))))))
theorem wp_law_several_right : ∀ ds M R RX, sp_law_several_right ds M R RX → M.all (cellOk M.length) = true → noCels M.length ds = true → w_law_several_right (fun nm fs _ M' => rxF M.length RX nm fs M') (fnEnds M.length R) (startE 10 ds) M := by
  unfold sp_law_several_right; rintro ds M R RX ⟨l, m, r, rfl, hl, hm, hr, k⟩ hM _
  show w_law_several_right _ (fnEnds M.length R) [some l, some m, some r, none, none, none, none, none, none, none] M
  unfold w_law_several_right
  refine half1 hl hm hr fun M3 i1 i2 i3 f1 f2 f3 x u _ _ _ => ?_
  refine half2 hl hm hr fun M4 j1 j2 j3 q1 q2 q3 y u4 g1 g2 g3 => ?_
  refine s_asg (lst_use (cons_use (var_use rfl (cons_use (var_use rfl (cons_use (var_use rfl (cons_use (mk_up (ds := []) (fun Q q => q) rfl fun M5 k1 v1 h1 => cons_use (mk_up (ds := []) (fun Q q => q) rfl fun M6 k2 v2 h2 => cons_use (mk_up (ds := []) (fun Q q => q) rfl fun M7 k3 v3 h3 => cons_use (mk_up (ds := []) (fun Q q => q) rfl fun M8 k4 v4 h4 => cons_use (mk_up (ds := []) (fun Q q => q) rfl fun M9 k5 v5 h5 => ?_)))))))))))))
  refine ⟨⟨by rw [line16]; exact (show (8 : Nat) ≤ 16777216 by decide)⟩, ?_⟩
  have w8 := v5
  have w7 := v4.trans w8
  have w6 := v3.trans w7
  have w5 := v2.trans w6
  have w4 := v1.trans w5
  refine several_end (cs := [j1, j3, j2, k1, k2, k3, k4, k5]) rfl (fun t c hc => ?_) hM (u.trans (u4.trans w4)) k
  match t, hc with
  | 0, hc => cases hc; exact ⟨_, _, w4.get g1, rfl⟩
  | 1, hc => cases hc; exact ⟨_, _, w4.get g3, rfl⟩
  | 2, hc => cases hc; exact ⟨_, _, w4.get g2, rfl⟩
  | 3, hc => cases hc; exact ⟨_, _, w5.get h1, rfl⟩
  | 4, hc => cases hc; exact ⟨_, _, w6.get h2, rfl⟩
  | 5, hc => cases hc; exact ⟨_, _, w7.get h3, rfl⟩
  | 6, hc => cases hc; exact ⟨_, _, w8.get h4, rfl⟩
  | 7, hc => cases hc; exact ⟨_, _, h5, rfl⟩
  | _ + 8, hc => cases hc

/-! law: 0 _law_script, 1 _law_pen_here, 2 _law_turn, 3 _law_held, 4 _law_kept, 5 _law_right, 6 _law_found, 7 _law_left, 8 _law_middle, 9 _law_at, 10 _law_entry, 11 _law_pair, 12 _law_error -/
abbrev p_law : List Str := ["_law_script"]
/-! ### the law -/
abbrev er_ (n f : Str) (d : D) : D := .ptp [.obj n [(f, d)]]
theorem ns_split : NS33 = LV.map (·.1) ++ (LP.map (·.1) ++ NS33.drop 25) := by decide +kernel
theorem found_ok (d : D) (M : Mt) : (ents d (M.length + 1) LV ++ ents d ((M ++ .non :: errs d LV).length + 1) LP).length = 25 ∧ Up M ((M ++ .non :: errs d LV) ++ .non :: errs d LP) ∧
    ∀ (t : Nat) (x : D), (ents d (M.length + 1) LV ++ ents d ((M ++ .non :: errs d LV).length + 1) LP)[t]? = some x → ∃ (j : Nat) (n f : Str), x = D.tup [.cel j, d] ∧ ((M ++ .non :: errs d LV) ++ .non :: errs d LP)[j]? = some (er_ n f d) ∧ NS33[t]? = some n := by
  have l1 : ∀ m, (ents d m LV).length = 12 := fun m => ents_len d m LV
  have up1 : Up M (M ++ .non :: errs d LV) := ⟨_, rfl⟩
  have up2 : Up (M ++ .non :: errs d LV) ((M ++ .non :: errs d LV) ++ .non :: errs d LP) := ⟨_, rfl⟩
  have at_ : ∀ (M : Mt) (E : List D) (k : Nat) (x : D), E[k]? = some x → (M ++ D.non :: E)[M.length + 1 + k]? = some x := fun M E k x h => by
    rw [List.getElem?_append_right (by omega), show M.length + 1 + k - M.length = k + 1 by omega]; exact h
  refine ⟨by rw [List.length_append, l1, ents_len]; rfl, up1.trans up2, fun t x h => ?_⟩
  by_cases ht : t < 12
  · rw [List.getElem?_append_left (by rw [l1]; exact ht)] at h
    obtain ⟨e, p, h1, h2⟩ := ents_get d LV _ t x h
    refine ⟨_, p.1, p.2, e, up2.get (at_ M _ _ _ h2), ?_⟩
    rw [ns_split, List.getElem?_append_left (by rw [List.length_map]; exact (List.getElem?_eq_some_iff.mp h1).1), List.getElem?_map, h1]; rfl
  · rw [List.getElem?_append_right (by rw [l1]; omega), l1] at h
    obtain ⟨e, p, h1, h2⟩ := ents_get d LP _ (t - 12) x h
    refine ⟨_, p.1, p.2, e, at_ _ _ _ _ h2, ?_⟩
    have l2 : (LV.map (·.1)).length = 12 := rfl
    rw [ns_split, List.getElem?_append_right (by rw [l2]; omega), l2, List.getElem?_append_left (by rw [List.length_map]; exact (List.getElem?_eq_some_iff.mp h1).1), List.getElem?_map, h1]; rfl
theorem xe_up {n f : Str} {ns ms : List Str} {ds : List D} {v : D} {env : Ev} {M : Mt} {R : D → Mt → Prop} {was : WA} (hw : ∀ Q : List D → Mt → Prop, Q ds M → was env M Q) (hl : ds.length = ns.length) (hn : n ∈ ms) (hf : (ns.zip ds).reverse.lookup f = some v) (h : ∀ M1, Up M M1 → R v M1) :
    wXe ms f (wMkE n ns was) env M R := xe_use hw hl hn hf (h _ ⟨_, rfl⟩)
theorem th_rp {d : D} (h : Th d) : ∃ p, (∀ M, rpC M 12 d = some p) ∧ RpOk p := by
  obtain ⟨p, hp⟩ := h
  exact ⟨p, fun M => hp.rp M 8, rpOk_of hp.sm (Nat.le_trans hp.dp (by decide)) (Nat.le_trans hp.wt (by decide))⟩
theorem exp_use {we : WE} {rest : WS} {kk : DEnds} {env : Ev} {M : Mt} (h : we env M fun _ M1 => rest kk env M1) : wSeq (wExp we) rest kk env M := h
theorem bm_use {T : String} {m : WM} {wo : WE} {was : WA} {env : Ev} {M : Mt} {R : D → Mt → Prop} (h : wo env M fun x M1 => Need (tyM T (viewD M1 x)) ∧ was env M1 fun ds M2 => m x ds M2 R) : wBM T m wo was env M R := h
theorem s_app {v h : Nat} {l : List D} {x : D} {rest : WS} {kk : DEnds} {env : Ev} {M : Mt} (he : env[v]? = some (some (.cel h))) (hm : M[h]? = some (.lst l)) (hl : l.length < sizeLine) (k : rest kk env (M.set h (.lst (l ++ [x])))) : wSeq (wExp (wBM "list" mAppend (wVar v) (wCons (wC x) wNil))) rest kk env M := by
  refine exp_use (bm_use (var_use he ?_))
  exact ⟨⟨by simp only [viewD, hm]; rfl⟩, app_use hm hl k⟩
theorem s_frzS {v h : Nat} {l : List D} {w : WS} {kk : DEnds} {env : Ev} {M : Mt} (he : env[v]? = some (some (.cel h))) (hm : M[h]? = some (.lst l)) (k : w kk (env.map fun x => x.map (subC h (.lst l))) (M.set h .non)) : wFrzS v w kk env M := by
  unfold wFrzS
  simp only [he]
  unfold frz
  simp only [hm]
  exact k
theorem c_use {d : D} {env : Ev} {M : Mt} {R : D → Mt → Prop} (h : R d M) : wC d env M R := h
theorem cb_use {c : WCl} {was : WA} {env : Ev} {M : Mt} {R : D → Mt → Prop} (h : was env M fun ds M1 => c ds M1 R) : wCB c was env M R := h
theorem ret_use {we : WE} {kk : DEnds} {env : Ev} {M : Mt} (h : we env M kk.rt) : wRet we kk env M := h
theorem sub_rep (h n : Nat) (z : D) : subC h z (.lst (List.replicate n (.cel h))) = .lst (List.replicate n z) := by
  show D.lst (subCs h z _) = _
  have e : subC h z (.cel h) = z := by show (if h = h then z else _) = z; rw [if_pos rfl]
  rw [subCs_map, List.map_replicate, e]
theorem at_eq (t : Nat) : ShD (.lst [.int (t : Int)]) := ⟨_, rfl, rfl⟩
@[irreducible] def sp_law : DSp := fun ds M R _ => ∃ ns : List Int, ds = [.rol (ns.map D.int)] ∧ M = [] ∧ ∀ M, R (.bl true) M
theorem len_law : ∀ ds M R RX, sp_law ds M R RX → ds.length = p_law.length := by
  unfold sp_law; rintro ds M R RX ⟨_, rfl, _⟩; rfl
theorem law_start (ns : List Int) (hl : ns.length ≤ 63) (R : D → Mt → Prop) (RX : RXt) (h : ∀ M, R (.bl true) M) : sp_law [.rol (ns.map D.int)] [] R RX := by
  unfold sp_law; exact ⟨ns, rfl, rfl, h⟩
def w_law (RX : RXe) : WS :=
  (wSeq (wAsg (wCall sp_law_pen [] RX0 (wCons (wVar 0) wNil)) (gN 1))
    (wSeq (wFor (wRng1 (wCons (wC (.int 4)) wNil)) (gN 2) (wSeq (wPar 7 8 (wCons (wCall sp_law_thing [] RX0 (wCons (wVar 1) wNil)) (wCons (wCall sp_law_thing [] RX0 (wCons (wVar 1) wNil)) wNil)))
    (wSeq (wAsg (wCall sp_law_thing [] RX0 (wCons (wVar 1) wNil)) (gN 5))
    (wSeq (wAsg (wOp oAdd (wCall sp_law_values [] RX0 (wCons (wVar 7) wNil)) (wCall sp_law_places [] RX0 (wCons (wVar 7) wNil))) (gN 6))
    (wSeq (wFor (wEnumerate (wCons (wVar 6) wNil)) (gT 2 (gsCons (gN 9) (gsCons (gN 10) gsNil))) (wSeq (wAsg (wVar 10) (gT 2 (gsCons (gN 12) (gsCons (gN 4) gsNil))))
    (wSeq (wIfS (wOrT (wTest (wOp (oEqI fun b => !b) (wCall sp_law_kinds [] RX0 (wCons (wVar 12) wNil)) (wLst (wCons (wVar 9) wNil)))) (wNotT (wTru (wCall sp_law_is_based [] RX0 (wCons (wVar 12) wNil))))) (wRet (wC (.bl false))) wSkip)
    (wIfS (wTest (wOp (oEqI fun b => !b) (wCB cReprC (wCons (wVar 4) wNil)) (wCB cReprC (wCons (wVar 7) wNil)))) (wRet (wC (.bl false))) wSkip))))
    (wIfS (wNotT (wTru (wCallX sp_law_several_right [] RX (wCons (wVar 7) (wCons (wVar 8) (wCons (wVar 5) wNil)))))) (wRet (wC (.bl false))) wSkip))))))
    (wSeq (wAsg (wLstM (wCons (wC (.int 1)) wNil)) (gN 3))
    (wSeq (wSetLc 4 (wLc (wIt (wOp oAdd (wCall sp_law_values [] RX0 (wCons (wVar 3) wNil)) (wCall sp_law_places [] RX0 (wCons (wVar 3) wNil)))) [11] wYes (wOp oIx (wVar 11) (wC (.int 1))) [11]))
    (wSeq (wAsg (wOp oAdd (wVar 4) (wLst (wCons (wXe ["FieldClash"] "field" (wMkE "FieldClash" ["field", "one", "other"] (wCons (wVar 3) (wCons (wC (.int 1)) (wCons (wC (.int 2)) wNil))))) (wCons (wXe ["FieldClash"] "one" (wMkE "FieldClash" ["field", "one", "other"] (wCons (wC (.str "a")) (wCons (wVar 3) (wCons (wC (.int 2)) wNil))))) (wCons (wXe ["FieldClash"] "other" (wMkE "FieldClash" ["field", "one", "other"] (wCons (wC (.str "a")) (wCons (wC (.int 1)) (wCons (wVar 3) wNil))))) wNil))))) (gN 4))
    (wSeq (wAsg (wOp oAdd (wVar 4) (wLst (wCons (wXe ["InvalidText"] "line" (wMkE "InvalidText" ["line", "word"] (wCons (wVar 3) (wCons (wC (.int 0)) wNil)))) (wCons (wXe ["InvalidText"] "word" (wMkE "InvalidText" ["line", "word"] (wCons (wC (.int 0)) (wCons (wVar 3) wNil)))) wNil)))) (gN 4))
    (wSeq (wAsg (wOp oAdd (wVar 4) (wLst (wCons (wXe ["Clash"] "lesser" (wMkE "Clash" ["lesser", "name"] (wCons (wVar 3) (wCons (wC (.str "a")) wNil)))) (wCons (wXe ["Clash"] "name" (wMkE "Clash" ["lesser", "name"] (wCons (wC (.str "a")) (wCons (wVar 3) wNil)))) wNil)))) (gN 4))
    (wSeq (wExp (wBM "list" mAppend (wVar 3) (wCons (wC (.int 2)) wNil)))
    (wFrzS 3 (wRet (wOp (oEqI fun b => b) (wVar 4) (wOp oRepL (wLst (wCons (wLst (wCons (wC (.int 1)) (wCons (wC (.int 2)) wNil))) wNil)) (wCB cLen (wCons (wVar 4) wNil))))))))))))))
theorem wp_law : ∀ ds M R RX, sp_law ds M R RX → M.all (cellOk M.length) = true → noCels M.length ds = true → w_law (fun nm fs _ M' => rxF M.length RX nm fs M') (fnEnds M.length R) (startE 13 ds) M := by
  unfold sp_law; rintro ds M R RX ⟨ns, rfl, rfl, k⟩ _ _
  walk_at "go"
  refine use_law_pen fun b hb => ?_
  walk_at "go"
  refine forL_inv (fun i env M => ∃ (b : D) (G : Mt) (e2 e4 e5 e6 e7 e8 e9 e10 e12 : Option D), env = [some (.rol (ns.map D.int)), some (.cel 0), e2, none, e4, e5, e6, e7, e8, e9, e10, none, e12] ∧ M = b :: G ∧ PenOk (6 * i) b) ⟨b, [], _, _, _, _, _, _, _, _, _, rfl, rfl, by simpa using hb⟩ ?_ ?_
  · rintro i d env M hd ⟨b, G, e2, e4, e5, e6, e7, e8, e9, e10, e12, rfl, rfl, hb⟩
    have hi : i < 4 := by
      have := (List.getElem?_eq_some_iff.mp hd).1
      rw [range_len] at this; exact this
    walk_at "go"
    refine use_law_thing hb (by omega) fun l b hl hb => ?_
    walk_at "go"
    refine use_law_thing hb (by omega) fun m b hm hb => ?_
    walk_at "go"
    refine use_law_thing hb (by omega) fun r b hr hb => ?_
    walk_at "go"
    have nl : ∀ n, noCel n l = true := by obtain ⟨p, hp⟩ := hl; exact hp.nc
    refine use_law_values (nl _) (use_law_places (nl _) (add_lst (by rw [ents_len, ents_len]; decide) ?_))
    obtain ⟨hlen, u, hF⟩ := found_ok l (b :: G)
    generalize ents l ((b :: G).length + 1) LV ++ ents l (((b :: G) ++ .non :: errs l LV).length + 1) LP = found at hlen hF ⊢
    generalize ((b :: G) ++ .non :: errs l LV) ++ .non :: errs l LP = M2 at u hF ⊢
    obtain ⟨E, rfl⟩ := u
    obtain ⟨p, hp, ok⟩ := th_rp hl
    walk_at "go"
    refine forL_inv (fun t env M => ∃ e4 e9 e10 e12 : Option D, env = [some (.rol (ns.map D.int)), some (.cel 0), some d, none, e4, some r, some (.lst found), some l, some m, e9, e10, none, e12] ∧ M = (b :: G) ++ E) ⟨_, _, _, _, rfl, rfl⟩ ?_ ?_
    · rintro t x env M hx ⟨e4, e9, e10, e12, rfl, rfl⟩
      obtain ⟨y, hy, rfl⟩ := enumD_get _ _ _ _ hx
      obtain ⟨j, n, f, rfl, hj, hn⟩ := hF t y hy
      rw [Nat.zero_add]
      walk_at "go"
      refine use_law_kinds hj hn ?_
      walk_at "go"
      refine eqI_same (d := .lst [.int (t : Int)]) rfl rfl (at_eq t) ?_
      walk_at "go"
      refine use_law_is_based hj (in_a hn) ?_
      walk_at "go"
      refine reprC_use (hp _) ok ?_
      walk_at "go"
      refine reprC_use (hp _) ok ?_
      walk_at "go"
      all_goals first
        | exact ⟨_, _, _, _, rfl, rfl⟩
        | (rename_i z; exact absurd rfl z)
        | (exfalso; simp_all; done)
    · rintro env M ⟨e4, e9, e10, e12, rfl, rfl⟩
      walk_at "go"
      refine use_law_several_right hl hm hr ?_
      walk_at "go"
      refine ⟨b, G ++ E, _, _, _, _, _, _, _, _, _, rfl, rfl, ?_⟩
      have e : (6 * (i : Int) + 2 + 2 + 2) = 6 * ((i + 1 : Nat) : Int) := by omega
      rw [← e]; exact hb
  · rintro env M ⟨b, G, e2, e4, e5, e6, e7, e8, e9, e10, e12, rfl, rfl, hb⟩
    walk_at "go"
    have nc : ∀ E : Mt, noCel (((b :: G) ++ [D.lst [.int 1]]) ++ E).length (.cel (b :: G).length) = true := fun E => by
      show decide _ = true
      simp
    refine use_law_values (by have := nc []; rw [List.append_nil] at this; exact this) (use_law_places (nc _) (add_lst (by rw [ents_len, ents_len]; decide) ?_))
    obtain ⟨hlen, u, hF⟩ := found_ok (.cel (b :: G).length) ((b :: G) ++ [D.lst [.int 1]])
    generalize ents (.cel (b :: G).length) (((b :: G) ++ [D.lst [.int 1]]).length + 1) LV ++ ents (.cel (b :: G).length) ((((b :: G) ++ [D.lst [.int 1]]) ++ .non :: errs (.cel (b :: G).length) LV).length + 1) LP = found at hlen hF ⊢
    generalize (((b :: G) ++ [D.lst [.int 1]]) ++ .non :: errs (.cel (b :: G).length) LV) ++ .non :: errs (.cel (b :: G).length) LP = M2 at u hF ⊢
    have hm : ((b :: G) ++ [D.lst [.int 1]])[(b :: G).length]? = some (.lst [.int 1]) := by simp
    have hm := u.get hm
    generalize (b :: G).length = c at hm hF ⊢
    refine lcL_inv (fun i acc M' => M' = M2 ∧ acc = List.replicate i (.cel c)) (by rw [hlen, line16]; decide) ⟨rfl, rfl⟩ ?_ ?_
    · rintro t x acc M' A C hx ⟨rfl, rfl⟩ hA hC
      obtain ⟨j, n, f, rfl, hj, hn⟩ := hF t x hx
      walk_at "go"
      exact hA _ _ ⟨rfl, by rw [List.replicate_succ']⟩
    rintro acc M' hal ⟨rfl, rfl⟩
    rw [hlen]
    dsimp only
    refine s_asg ?_
    refine op_use ?_
    refine var_use rfl ?_
    refine lst_use ?_
    refine cons_use ?_
    refine xe_up (ds := [.cel c, .int 1, .int 2]) (fun Q q => q) (by rfl) (by exact List.mem_singleton.mpr rfl) (by rfl) fun M3 v1 => ?_
    refine cons_use (xe_up (ds := [.str "a", .cel c, .int 2]) (fun Q q => q) (by rfl) (by exact List.mem_singleton.mpr rfl) (by rfl) fun M4 v2 => ?_)
    refine cons_use (xe_up (ds := [.str "a", .int 1, .cel c]) (fun Q q => q) (by rfl) (by exact List.mem_singleton.mpr rfl) (by rfl) fun M5 v3 => ?_)
    refine ⟨⟨by rw [line16]; exact (show (3 : Nat) ≤ 16777216 by decide)⟩, add_lst (by simp) ?_⟩
    try dsimp only
    refine s_asg ?_
    refine op_use ?_
    refine var_use rfl ?_
    refine lst_use ?_
    refine cons_use ?_
    refine xe_up (ds := [.cel c, .int 0]) (fun Q q => q) (by rfl) (by exact List.mem_singleton.mpr rfl) (by rfl) fun M6 v4 => ?_
    refine cons_use (xe_up (ds := [.int 0, .cel c]) (fun Q q => q) (by rfl) (by exact List.mem_singleton.mpr rfl) (by rfl) fun M7 v5 => ?_)
    refine ⟨⟨by rw [line16]; exact (show (2 : Nat) ≤ 16777216 by decide)⟩, add_lst (by simp) ?_⟩
    try dsimp only
    refine s_asg ?_
    refine op_use ?_
    refine var_use rfl ?_
    refine lst_use ?_
    refine cons_use ?_
    refine xe_up (ds := [.cel c, .str "a"]) (fun Q q => q) (by rfl) (by exact List.mem_singleton.mpr rfl) (by rfl) fun M8 v6 => ?_
    refine cons_use (xe_up (ds := [.str "a", .cel c]) (fun Q q => q) (by rfl) (by exact List.mem_singleton.mpr rfl) (by rfl) fun M9 v7 => ?_)
    refine ⟨⟨by rw [line16]; exact (show (2 : Nat) ≤ 16777216 by decide)⟩, add_lst (by simp) ?_⟩
    have hm9 := v7.get (v6.get (v5.get (v4.get (v3.get (v2.get (v1.get hm))))))
    have hc : c < M9.length := (List.getElem?_eq_some_iff.mp hm9).1
    try dsimp only
    refine s_app rfl hm9 (by rw [line16]; decide) (s_frzS rfl (List.getElem?_set_self hc) ?_)
    have e32 : List.replicate 25 (D.cel c) ++ [.cel c, .cel c, .cel c] ++ [.cel c, .cel c] ++ [.cel c, .cel c] = List.replicate 32 (.cel c) := rfl
    have he := sub_rep c 32 (.lst [.int 1, .int 2])
    rw [e32]
    refine ret_use (op_use (var_use (congrArg (fun x => some (some x)) he) (op_use (lst_use (cons_use (lst_use (cons_use (c_use (cons_use (c_use ?_))))))))))
    refine ⟨⟨by rw [line16]; exact (show (2 : Nat) ≤ 16777216 by decide)⟩, ⟨by rw [line16]; exact (show (1 : Nat) ≤ 16777216 by decide)⟩, ?_⟩
    refine cb_use (cons_use (var_use (congrArg (fun x => some (some x)) he) (len_use rfl ?_)))
    refine repL_use rfl (by simp) ?_
    refine eqI_same (d := .lst (List.replicate 32 (.lst [.int 1, .int 2]))) rfl (by simp only [List.length_replicate]; rfl) ⟨_, rfl, by decide +kernel⟩ ?_
    exact .keep (k _)



def topS (i : Nat) : Stmt := PySem.Challenge.pw_orplaces_k01_errors_and_their_parts.main.body.getD i (.Pass ⟨0, 0, 0, 0⟩)
abbrev p_InvalidName_init__ : List Str := ["self", "value"]
abbrev s_InvalidName_init__ : Stmt := (inClass (topS 2) 0)
abbrev N_InvalidName_init__ : List Str := ["self", "value"]
theorem sc_InvalidName_init__ : FnScope N_InvalidName_init__ p_InvalidName_init__ (defScope s_InvalidName_init__) := ⟨rfl, rfl, rfl, by decide +kernel, rfl, by decide +kernel, by decide +kernel⟩
abbrev p_InvalidNumber_init__ : List Str := ["self", "value"]
abbrev s_InvalidNumber_init__ : Stmt := (inClass (topS 3) 0)
abbrev N_InvalidNumber_init__ : List Str := ["self", "value"]
theorem sc_InvalidNumber_init__ : FnScope N_InvalidNumber_init__ p_InvalidNumber_init__ (defScope s_InvalidNumber_init__) := ⟨rfl, rfl, rfl, by decide +kernel, rfl, by decide +kernel, by decide +kernel⟩
abbrev p_InvalidRows_init__ : List Str := ["self", "part"]
abbrev s_InvalidRows_init__ : Stmt := (inClass (topS 4) 0)
abbrev N_InvalidRows_init__ : List Str := ["self", "part"]
theorem sc_InvalidRows_init__ : FnScope N_InvalidRows_init__ p_InvalidRows_init__ (defScope s_InvalidRows_init__) := ⟨rfl, rfl, rfl, by decide +kernel, rfl, by decide +kernel, by decide +kernel⟩
abbrev p_InvalidRow_init__ : List Str := ["self", "value"]
abbrev s_InvalidRow_init__ : Stmt := (inClass (topS 5) 0)
abbrev N_InvalidRow_init__ : List Str := ["self", "value"]
theorem sc_InvalidRow_init__ : FnScope N_InvalidRow_init__ p_InvalidRow_init__ (defScope s_InvalidRow_init__) := ⟨rfl, rfl, rfl, by decide +kernel, rfl, by decide +kernel, by decide +kernel⟩
abbrev p_InvalidKind_init__ : List Str := ["self", "part"]
abbrev s_InvalidKind_init__ : Stmt := (inClass (topS 6) 0)
abbrev N_InvalidKind_init__ : List Str := ["self", "part"]
theorem sc_InvalidKind_init__ : FnScope N_InvalidKind_init__ p_InvalidKind_init__ (defScope s_InvalidKind_init__) := ⟨rfl, rfl, rfl, by decide +kernel, rfl, by decide +kernel, by decide +kernel⟩
abbrev p_InvalidFrame_init__ : List Str := ["self", "part"]
abbrev s_InvalidFrame_init__ : Stmt := (inClass (topS 7) 0)
abbrev N_InvalidFrame_init__ : List Str := ["self", "part"]
theorem sc_InvalidFrame_init__ : FnScope N_InvalidFrame_init__ p_InvalidFrame_init__ (defScope s_InvalidFrame_init__) := ⟨rfl, rfl, rfl, by decide +kernel, rfl, by decide +kernel, by decide +kernel⟩
abbrev p_InvalidWord_init__ : List Str := ["self", "part"]
abbrev s_InvalidWord_init__ : Stmt := (inClass (topS 8) 0)
abbrev N_InvalidWord_init__ : List Str := ["self", "part"]
theorem sc_InvalidWord_init__ : FnScope N_InvalidWord_init__ p_InvalidWord_init__ (defScope s_InvalidWord_init__) := ⟨rfl, rfl, rfl, by decide +kernel, rfl, by decide +kernel, by decide +kernel⟩
abbrev p_InvalidAddress_init__ : List Str := ["self", "address"]
abbrev s_InvalidAddress_init__ : Stmt := (inClass (topS 9) 0)
abbrev N_InvalidAddress_init__ : List Str := ["self", "address"]
theorem sc_InvalidAddress_init__ : FnScope N_InvalidAddress_init__ p_InvalidAddress_init__ (defScope s_InvalidAddress_init__) := ⟨rfl, rfl, rfl, by decide +kernel, rfl, by decide +kernel, by decide +kernel⟩
abbrev p_InvalidText_init__ : List Str := ["self", "line", "word"]
abbrev s_InvalidText_init__ : Stmt := (inClass (topS 10) 0)
abbrev N_InvalidText_init__ : List Str := ["self", "line", "word"]
theorem sc_InvalidText_init__ : FnScope N_InvalidText_init__ p_InvalidText_init__ (defScope s_InvalidText_init__) := ⟨rfl, rfl, rfl, by decide +kernel, rfl, by decide +kernel, by decide +kernel⟩
abbrev p_FieldClash_init__ : List Str := ["self", "field", "one", "other"]
abbrev s_FieldClash_init__ : Stmt := (inClass (topS 11) 0)
abbrev N_FieldClash_init__ : List Str := ["self", "field", "one", "other"]
theorem sc_FieldClash_init__ : FnScope N_FieldClash_init__ p_FieldClash_init__ (defScope s_FieldClash_init__) := ⟨rfl, rfl, rfl, by decide +kernel, rfl, by decide +kernel, by decide +kernel⟩
abbrev p_Clash_init__ : List Str := ["self", "lesser", "name"]
abbrev s_Clash_init__ : Stmt := (inClass (topS 12) 0)
abbrev N_Clash_init__ : List Str := ["self", "lesser", "name"]
theorem sc_Clash_init__ : FnScope N_Clash_init__ p_Clash_init__ (defScope s_Clash_init__) := ⟨rfl, rfl, rfl, by decide +kernel, rfl, by decide +kernel, by decide +kernel⟩
abbrev p_StateClash_init__ : List Str := ["self", "name"]
abbrev s_StateClash_init__ : Stmt := (inClass (topS 13) 0)
abbrev N_StateClash_init__ : List Str := ["self", "name"]
theorem sc_StateClash_init__ : FnScope N_StateClash_init__ p_StateClash_init__ (defScope s_StateClash_init__) := ⟨rfl, rfl, rfl, by decide +kernel, rfl, by decide +kernel, by decide +kernel⟩
abbrev p_Locked_init__ : List Str := ["self", "address"]
abbrev s_Locked_init__ : Stmt := (inClass (topS 14) 0)
abbrev N_Locked_init__ : List Str := ["self", "address"]
theorem sc_Locked_init__ : FnScope N_Locked_init__ p_Locked_init__ (defScope s_Locked_init__) := ⟨rfl, rfl, rfl, by decide +kernel, rfl, by decide +kernel, by decide +kernel⟩
abbrev p_Blank_init__ : List Str := ["self", "address"]
abbrev s_Blank_init__ : Stmt := (inClass (topS 15) 0)
abbrev N_Blank_init__ : List Str := ["self", "address"]
theorem sc_Blank_init__ : FnScope N_Blank_init__ p_Blank_init__ (defScope s_Blank_init__) := ⟨rfl, rfl, rfl, by decide +kernel, rfl, by decide +kernel, by decide +kernel⟩
abbrev p_NotPossible_init__ : List Str := ["self", "row"]
abbrev s_NotPossible_init__ : Stmt := (inClass (topS 16) 0)
abbrev N_NotPossible_init__ : List Str := ["self", "row"]
theorem sc_NotPossible_init__ : FnScope N_NotPossible_init__ p_NotPossible_init__ (defScope s_NotPossible_init__) := ⟨rfl, rfl, rfl, by decide +kernel, rfl, by decide +kernel, by decide +kernel⟩
abbrev p_NoCondition_init__ : List Str := ["self", "name"]
abbrev s_NoCondition_init__ : Stmt := (inClass (topS 17) 0)
abbrev N_NoCondition_init__ : List Str := ["self", "name"]
theorem sc_NoCondition_init__ : FnScope N_NoCondition_init__ p_NoCondition_init__ (defScope s_NoCondition_init__) := ⟨rfl, rfl, rfl, by decide +kernel, rfl, by decide +kernel, by decide +kernel⟩
abbrev p_NoField_init__ : List Str := ["self", "name"]
abbrev s_NoField_init__ : Stmt := (inClass (topS 18) 0)
abbrev N_NoField_init__ : List Str := ["self", "name"]
theorem sc_NoField_init__ : FnScope N_NoField_init__ p_NoField_init__ (defScope s_NoField_init__) := ⟨rfl, rfl, rfl, by decide +kernel, rfl, by decide +kernel, by decide +kernel⟩
abbrev p_NoKind_init__ : List Str := ["self", "name"]
abbrev s_NoKind_init__ : Stmt := (inClass (topS 19) 0)
abbrev N_NoKind_init__ : List Str := ["self", "name"]
theorem sc_NoKind_init__ : FnScope N_NoKind_init__ p_NoKind_init__ (defScope s_NoKind_init__) := ⟨rfl, rfl, rfl, by decide +kernel, rfl, by decide +kernel, by decide +kernel⟩
abbrev p_NoState_init__ : List Str := ["self", "name"]
abbrev s_NoState_init__ : Stmt := (inClass (topS 20) 0)
abbrev N_NoState_init__ : List Str := ["self", "name"]
theorem sc_NoState_init__ : FnScope N_NoState_init__ p_NoState_init__ (defScope s_NoState_init__) := ⟨rfl, rfl, rfl, by decide +kernel, rfl, by decide +kernel, by decide +kernel⟩
abbrev p_NoTarget_init__ : List Str := ["self", "value"]
abbrev s_NoTarget_init__ : Stmt := (inClass (topS 21) 0)
abbrev N_NoTarget_init__ : List Str := ["self", "value"]
theorem sc_NoTarget_init__ : FnScope N_NoTarget_init__ p_NoTarget_init__ (defScope s_NoTarget_init__) := ⟨rfl, rfl, rfl, by decide +kernel, rfl, by decide +kernel, by decide +kernel⟩
abbrev p_NoClass_init__ : List Str := ["self", "value"]
abbrev s_NoClass_init__ : Stmt := (inClass (topS 22) 0)
abbrev N_NoClass_init__ : List Str := ["self", "value"]
theorem sc_NoClass_init__ : FnScope N_NoClass_init__ p_NoClass_init__ (defScope s_NoClass_init__) := ⟨rfl, rfl, rfl, by decide +kernel, rfl, by decide +kernel, by decide +kernel⟩
abbrev p_NoLanding_init__ : List Str := ["self", "value"]
abbrev s_NoLanding_init__ : Stmt := (inClass (topS 23) 0)
abbrev N_NoLanding_init__ : List Str := ["self", "value"]
theorem sc_NoLanding_init__ : FnScope N_NoLanding_init__ p_NoLanding_init__ (defScope s_NoLanding_init__) := ⟨rfl, rfl, rfl, by decide +kernel, rfl, by decide +kernel, by decide +kernel⟩
abbrev p_NoCase_init__ : List Str := ["self", "case"]
abbrev s_NoCase_init__ : Stmt := (inClass (topS 24) 0)
abbrev N_NoCase_init__ : List Str := ["self", "case"]
theorem sc_NoCase_init__ : FnScope N_NoCase_init__ p_NoCase_init__ (defScope s_NoCase_init__) := ⟨rfl, rfl, rfl, by decide +kernel, rfl, by decide +kernel, by decide +kernel⟩
abbrev p_NotReady_init__ : List Str := ["self", "part"]
abbrev s_NotReady_init__ : Stmt := (inClass (topS 29) 0)
abbrev N_NotReady_init__ : List Str := ["self", "part"]
theorem sc_NotReady_init__ : FnScope N_NotReady_init__ p_NotReady_init__ (defScope s_NotReady_init__) := ⟨rfl, rfl, rfl, by decide +kernel, rfl, by decide +kernel, by decide +kernel⟩
abbrev p_Taken_init__ : List Str := ["self", "name"]
abbrev s_Taken_init__ : Stmt := (inClass (topS 31) 0)
abbrev N_Taken_init__ : List Str := ["self", "name"]
theorem sc_Taken_init__ : FnScope N_Taken_init__ p_Taken_init__ (defScope s_Taken_init__) := ⟨rfl, rfl, rfl, by decide +kernel, rfl, by decide +kernel, by decide +kernel⟩
abbrev p_WrongCount_init__ : List Str := ["self", "wanted"]
abbrev s_WrongCount_init__ : Stmt := (inClass (topS 32) 0)
abbrev N_WrongCount_init__ : List Str := ["self", "wanted"]
theorem sc_WrongCount_init__ : FnScope N_WrongCount_init__ p_WrongCount_init__ (defScope s_WrongCount_init__) := ⟨rfl, rfl, rfl, by decide +kernel, rfl, by decide +kernel, by decide +kernel⟩
abbrev p_TooMany_init__ : List Str := ["self", "part"]
abbrev s_TooMany_init__ : Stmt := (inClass (topS 33) 0)
abbrev N_TooMany_init__ : List Str := ["self", "part"]
theorem sc_TooMany_init__ : FnScope N_TooMany_init__ p_TooMany_init__ (defScope s_TooMany_init__) := ⟨rfl, rfl, rfl, by decide +kernel, rfl, by decide +kernel, by decide +kernel⟩
abbrev p_TooLarge_init__ : List Str := ["self", "limit"]
abbrev s_TooLarge_init__ : Stmt := (inClass (topS 34) 0)
abbrev N_TooLarge_init__ : List Str := ["self", "limit"]
theorem sc_TooLarge_init__ : FnScope N_TooLarge_init__ p_TooLarge_init__ (defScope s_TooLarge_init__) := ⟨rfl, rfl, rfl, by decide +kernel, rfl, by decide +kernel, by decide +kernel⟩
abbrev s_law_pen : Stmt := topS 36
abbrev N_law_pen : List Str := ["_law_script"]
theorem sc_law_pen : FnScope N_law_pen p_law_pen (defScope s_law_pen) := ⟨rfl, rfl, rfl, by decide +kernel, rfl, by decide +kernel, by decide +kernel⟩
abbrev s_law_draw : Stmt := topS 37
abbrev N_law_draw : List Str := ["_law_pen_here", "_law_many", "_law_at", "_law_cell", "_law_mixed", "_law_digit", "_law_great"]
theorem sc_law_draw : FnScope N_law_draw p_law_draw (defScope s_law_draw) := ⟨rfl, rfl, rfl, by decide +kernel, rfl, by decide +kernel, by decide +kernel⟩
abbrev s_law_pick : Stmt := topS 38
abbrev N_law_pick : List Str := ["_law_pen_here", "_law_some"]
theorem sc_law_pick : FnScope N_law_pick p_law_pick (defScope s_law_pick) := ⟨rfl, rfl, rfl, by decide +kernel, rfl, by decide +kernel, by decide +kernel⟩
abbrev s_law_thing : Stmt := topS 39
abbrev N_law_thing : List Str := ["_law_pen_here", "_law_number", "_law_menu"]
theorem sc_law_thing : FnScope N_law_thing p_law_thing (defScope s_law_thing) := ⟨rfl, rfl, rfl, by decide +kernel, rfl, by decide +kernel, by decide +kernel⟩
abbrev s_law_kinds : Stmt := topS 40
abbrev N_law_kinds : List Str := ["_law_error", "_law_found", "_law_at", "_law_is_one"]
theorem sc_law_kinds : FnScope N_law_kinds p_law_kinds (defScope s_law_kinds) := ⟨rfl, rfl, rfl, by decide +kernel, rfl, by decide +kernel, by decide +kernel⟩
abbrev s_law_is_based : Stmt := topS 41
abbrev N_law_is_based : List Str := ["_law_error", "_law_others"]
theorem sc_law_is_based : FnScope N_law_is_based p_law_is_based (defScope s_law_is_based) := ⟨rfl, rfl, rfl, by decide +kernel, rfl, by decide +kernel, by decide +kernel⟩
abbrev s_law_values : Stmt := topS 42
abbrev N_law_values : List Str := ["_law_left", "_law_found"]
theorem sc_law_values : FnScope N_law_values p_law_values (defScope s_law_values) := ⟨rfl, rfl, rfl, by decide +kernel, rfl, by decide +kernel, by decide +kernel⟩
abbrev s_law_places : Stmt := topS 43
abbrev N_law_places : List Str := ["_law_left", "_law_found"]
theorem sc_law_places : FnScope N_law_places p_law_places (defScope s_law_places) := ⟨rfl, rfl, rfl, by decide +kernel, rfl, by decide +kernel, by decide +kernel⟩
abbrev s_law_several_right : Stmt := topS 44
abbrev N_law_several_right : List Str := ["_law_left", "_law_middle", "_law_right", "_law_fields", "_law_found", "_law_errors", "_law_text", "_law_clash", "_law_error", "_law_at"]
theorem sc_law_several_right : FnScope N_law_several_right p_law_several_right (defScope s_law_several_right) := ⟨rfl, rfl, rfl, by decide +kernel, rfl, by decide +kernel, by decide +kernel⟩
abbrev s_law : Stmt := topS 45
abbrev N_law : List Str := ["_law_script", "_law_pen_here", "_law_turn", "_law_held", "_law_kept", "_law_right", "_law_found", "_law_left", "_law_middle", "_law_at", "_law_entry", "_law_pair", "_law_error"]
theorem sc_law : FnScope N_law p_law (defScope s_law) := ⟨rfl, rfl, rfl, by decide +kernel, rfl, by decide +kernel, by decide +kernel⟩
set_option genInjectivity false in
set_option genSizeOf false in
/-- what the top has written -/
structure Tx (K : PySem.W.Frag) (mg : Str → Option Value) where
  {C_Blank : Addr}
  m_Blank : mg "Blank" = some (.ref C_Blank)
  at_Blank : ClsAt K "Blank" C_Blank
  {C_Clash : Addr}
  m_Clash : mg "Clash" = some (.ref C_Clash)
  at_Clash : ClsAt K "Clash" C_Clash
  {C_FieldClash : Addr}
  m_FieldClash : mg "FieldClash" = some (.ref C_FieldClash)
  at_FieldClash : ClsAt K "FieldClash" C_FieldClash
  {C_InvalidAddress : Addr}
  m_InvalidAddress : mg "InvalidAddress" = some (.ref C_InvalidAddress)
  at_InvalidAddress : ClsAt K "InvalidAddress" C_InvalidAddress
  {C_InvalidFrame : Addr}
  m_InvalidFrame : mg "InvalidFrame" = some (.ref C_InvalidFrame)
  at_InvalidFrame : ClsAt K "InvalidFrame" C_InvalidFrame
  {C_InvalidKind : Addr}
  m_InvalidKind : mg "InvalidKind" = some (.ref C_InvalidKind)
  at_InvalidKind : ClsAt K "InvalidKind" C_InvalidKind
  {C_InvalidName : Addr}
  m_InvalidName : mg "InvalidName" = some (.ref C_InvalidName)
  at_InvalidName : ClsAt K "InvalidName" C_InvalidName
  {C_InvalidNumber : Addr}
  m_InvalidNumber : mg "InvalidNumber" = some (.ref C_InvalidNumber)
  at_InvalidNumber : ClsAt K "InvalidNumber" C_InvalidNumber
  {C_InvalidRow : Addr}
  m_InvalidRow : mg "InvalidRow" = some (.ref C_InvalidRow)
  at_InvalidRow : ClsAt K "InvalidRow" C_InvalidRow
  {C_InvalidRows : Addr}
  m_InvalidRows : mg "InvalidRows" = some (.ref C_InvalidRows)
  at_InvalidRows : ClsAt K "InvalidRows" C_InvalidRows
  {C_InvalidText : Addr}
  m_InvalidText : mg "InvalidText" = some (.ref C_InvalidText)
  at_InvalidText : ClsAt K "InvalidText" C_InvalidText
  {C_InvalidWord : Addr}
  m_InvalidWord : mg "InvalidWord" = some (.ref C_InvalidWord)
  at_InvalidWord : ClsAt K "InvalidWord" C_InvalidWord
  {C_Locked : Addr}
  m_Locked : mg "Locked" = some (.ref C_Locked)
  at_Locked : ClsAt K "Locked" C_Locked
  {C_NoCase : Addr}
  m_NoCase : mg "NoCase" = some (.ref C_NoCase)
  at_NoCase : ClsAt K "NoCase" C_NoCase
  {C_NoClass : Addr}
  m_NoClass : mg "NoClass" = some (.ref C_NoClass)
  at_NoClass : ClsAt K "NoClass" C_NoClass
  {C_NoCondition : Addr}
  m_NoCondition : mg "NoCondition" = some (.ref C_NoCondition)
  at_NoCondition : ClsAt K "NoCondition" C_NoCondition
  {C_NoEntries : Addr}
  m_NoEntries : mg "NoEntries" = some (.ref C_NoEntries)
  at_NoEntries : ClsAt K "NoEntries" C_NoEntries
  {C_NoField : Addr}
  m_NoField : mg "NoField" = some (.ref C_NoField)
  at_NoField : ClsAt K "NoField" C_NoField
  {C_NoKind : Addr}
  m_NoKind : mg "NoKind" = some (.ref C_NoKind)
  at_NoKind : ClsAt K "NoKind" C_NoKind
  {C_NoLanding : Addr}
  m_NoLanding : mg "NoLanding" = some (.ref C_NoLanding)
  at_NoLanding : ClsAt K "NoLanding" C_NoLanding
  {C_NoState : Addr}
  m_NoState : mg "NoState" = some (.ref C_NoState)
  at_NoState : ClsAt K "NoState" C_NoState
  {C_NoStates : Addr}
  m_NoStates : mg "NoStates" = some (.ref C_NoStates)
  at_NoStates : ClsAt K "NoStates" C_NoStates
  {C_NoTarget : Addr}
  m_NoTarget : mg "NoTarget" = some (.ref C_NoTarget)
  at_NoTarget : ClsAt K "NoTarget" C_NoTarget
  {C_NotCarried : Addr}
  m_NotCarried : mg "NotCarried" = some (.ref C_NotCarried)
  at_NotCarried : ClsAt K "NotCarried" C_NotCarried
  {C_NotEnd : Addr}
  m_NotEnd : mg "NotEnd" = some (.ref C_NotEnd)
  at_NotEnd : ClsAt K "NotEnd" C_NotEnd
  {C_NotPossible : Addr}
  m_NotPossible : mg "NotPossible" = some (.ref C_NotPossible)
  at_NotPossible : ClsAt K "NotPossible" C_NotPossible
  {C_NotReady : Addr}
  m_NotReady : mg "NotReady" = some (.ref C_NotReady)
  at_NotReady : ClsAt K "NotReady" C_NotReady
  {C_OrError : Addr}
  m_OrError : mg "OrError" = some (.ref C_OrError)
  at_OrError : ClsAt K "OrError" C_OrError
  {C_StateClash : Addr}
  m_StateClash : mg "StateClash" = some (.ref C_StateClash)
  at_StateClash : ClsAt K "StateClash" C_StateClash
  {C_Taken : Addr}
  m_Taken : mg "Taken" = some (.ref C_Taken)
  at_Taken : ClsAt K "Taken" C_Taken
  {C_TooLarge : Addr}
  m_TooLarge : mg "TooLarge" = some (.ref C_TooLarge)
  at_TooLarge : ClsAt K "TooLarge" C_TooLarge
  {C_TooMany : Addr}
  m_TooMany : mg "TooMany" = some (.ref C_TooMany)
  at_TooMany : ClsAt K "TooMany" C_TooMany
  {C_Unlike : Addr}
  m_Unlike : mg "Unlike" = some (.ref C_Unlike)
  at_Unlike : ClsAt K "Unlike" C_Unlike
  {C_WrongCount : Addr}
  m_WrongCount : mg "WrongCount" = some (.ref C_WrongCount)
  at_WrongCount : ClsAt K "WrongCount" C_WrongCount
  ke : L3.KitE K ERF ERG
  o0_NoEntries : Oex0 K C_NoEntries
  o0_NoStates : Oex0 K C_NoStates
  o0_NotCarried : Oex0 K C_NotCarried
  o0_NotEnd : Oex0 K C_NotEnd
  o0_Unlike : Oex0 K C_Unlike
  ox_Blank : OexC K C_Blank
  {f_Blank_init__ : Addr}
  ii_Blank : PySem.W.findIn K (.ref C_Blank) "__init__" = some (some (.ref f_Blank_init__))
  ti_Blank : PySem.W.typeIn K (.ref f_Blank_init__) = some (.type "function")
  xi_Blank_address : PySem.W.findIn K (.ref C_Blank) "address" = some none
  ox_Clash : OexC K C_Clash
  {f_Clash_init__ : Addr}
  ii_Clash : PySem.W.findIn K (.ref C_Clash) "__init__" = some (some (.ref f_Clash_init__))
  ti_Clash : PySem.W.typeIn K (.ref f_Clash_init__) = some (.type "function")
  xi_Clash_lesser : PySem.W.findIn K (.ref C_Clash) "lesser" = some none
  xi_Clash_name : PySem.W.findIn K (.ref C_Clash) "name" = some none
  ox_FieldClash : OexC K C_FieldClash
  {f_FieldClash_init__ : Addr}
  ii_FieldClash : PySem.W.findIn K (.ref C_FieldClash) "__init__" = some (some (.ref f_FieldClash_init__))
  ti_FieldClash : PySem.W.typeIn K (.ref f_FieldClash_init__) = some (.type "function")
  xi_FieldClash_field : PySem.W.findIn K (.ref C_FieldClash) "field" = some none
  xi_FieldClash_one : PySem.W.findIn K (.ref C_FieldClash) "one" = some none
  xi_FieldClash_other : PySem.W.findIn K (.ref C_FieldClash) "other" = some none
  ox_InvalidAddress : OexC K C_InvalidAddress
  {f_InvalidAddress_init__ : Addr}
  ii_InvalidAddress : PySem.W.findIn K (.ref C_InvalidAddress) "__init__" = some (some (.ref f_InvalidAddress_init__))
  ti_InvalidAddress : PySem.W.typeIn K (.ref f_InvalidAddress_init__) = some (.type "function")
  xi_InvalidAddress_address : PySem.W.findIn K (.ref C_InvalidAddress) "address" = some none
  ox_InvalidFrame : OexC K C_InvalidFrame
  {f_InvalidFrame_init__ : Addr}
  ii_InvalidFrame : PySem.W.findIn K (.ref C_InvalidFrame) "__init__" = some (some (.ref f_InvalidFrame_init__))
  ti_InvalidFrame : PySem.W.typeIn K (.ref f_InvalidFrame_init__) = some (.type "function")
  xi_InvalidFrame_part : PySem.W.findIn K (.ref C_InvalidFrame) "part" = some none
  ox_InvalidKind : OexC K C_InvalidKind
  {f_InvalidKind_init__ : Addr}
  ii_InvalidKind : PySem.W.findIn K (.ref C_InvalidKind) "__init__" = some (some (.ref f_InvalidKind_init__))
  ti_InvalidKind : PySem.W.typeIn K (.ref f_InvalidKind_init__) = some (.type "function")
  xi_InvalidKind_part : PySem.W.findIn K (.ref C_InvalidKind) "part" = some none
  ox_InvalidName : OexC K C_InvalidName
  {f_InvalidName_init__ : Addr}
  ii_InvalidName : PySem.W.findIn K (.ref C_InvalidName) "__init__" = some (some (.ref f_InvalidName_init__))
  ti_InvalidName : PySem.W.typeIn K (.ref f_InvalidName_init__) = some (.type "function")
  xi_InvalidName_value : PySem.W.findIn K (.ref C_InvalidName) "value" = some none
  ox_InvalidNumber : OexC K C_InvalidNumber
  {f_InvalidNumber_init__ : Addr}
  ii_InvalidNumber : PySem.W.findIn K (.ref C_InvalidNumber) "__init__" = some (some (.ref f_InvalidNumber_init__))
  ti_InvalidNumber : PySem.W.typeIn K (.ref f_InvalidNumber_init__) = some (.type "function")
  xi_InvalidNumber_value : PySem.W.findIn K (.ref C_InvalidNumber) "value" = some none
  ox_InvalidRow : OexC K C_InvalidRow
  {f_InvalidRow_init__ : Addr}
  ii_InvalidRow : PySem.W.findIn K (.ref C_InvalidRow) "__init__" = some (some (.ref f_InvalidRow_init__))
  ti_InvalidRow : PySem.W.typeIn K (.ref f_InvalidRow_init__) = some (.type "function")
  xi_InvalidRow_value : PySem.W.findIn K (.ref C_InvalidRow) "value" = some none
  ox_InvalidRows : OexC K C_InvalidRows
  {f_InvalidRows_init__ : Addr}
  ii_InvalidRows : PySem.W.findIn K (.ref C_InvalidRows) "__init__" = some (some (.ref f_InvalidRows_init__))
  ti_InvalidRows : PySem.W.typeIn K (.ref f_InvalidRows_init__) = some (.type "function")
  xi_InvalidRows_part : PySem.W.findIn K (.ref C_InvalidRows) "part" = some none
  ox_InvalidText : OexC K C_InvalidText
  {f_InvalidText_init__ : Addr}
  ii_InvalidText : PySem.W.findIn K (.ref C_InvalidText) "__init__" = some (some (.ref f_InvalidText_init__))
  ti_InvalidText : PySem.W.typeIn K (.ref f_InvalidText_init__) = some (.type "function")
  xi_InvalidText_line : PySem.W.findIn K (.ref C_InvalidText) "line" = some none
  xi_InvalidText_word : PySem.W.findIn K (.ref C_InvalidText) "word" = some none
  ox_InvalidWord : OexC K C_InvalidWord
  {f_InvalidWord_init__ : Addr}
  ii_InvalidWord : PySem.W.findIn K (.ref C_InvalidWord) "__init__" = some (some (.ref f_InvalidWord_init__))
  ti_InvalidWord : PySem.W.typeIn K (.ref f_InvalidWord_init__) = some (.type "function")
  xi_InvalidWord_part : PySem.W.findIn K (.ref C_InvalidWord) "part" = some none
  ox_Locked : OexC K C_Locked
  {f_Locked_init__ : Addr}
  ii_Locked : PySem.W.findIn K (.ref C_Locked) "__init__" = some (some (.ref f_Locked_init__))
  ti_Locked : PySem.W.typeIn K (.ref f_Locked_init__) = some (.type "function")
  xi_Locked_address : PySem.W.findIn K (.ref C_Locked) "address" = some none
  ox_NoCase : OexC K C_NoCase
  {f_NoCase_init__ : Addr}
  ii_NoCase : PySem.W.findIn K (.ref C_NoCase) "__init__" = some (some (.ref f_NoCase_init__))
  ti_NoCase : PySem.W.typeIn K (.ref f_NoCase_init__) = some (.type "function")
  xi_NoCase_case : PySem.W.findIn K (.ref C_NoCase) "case" = some none
  ox_NoClass : OexC K C_NoClass
  {f_NoClass_init__ : Addr}
  ii_NoClass : PySem.W.findIn K (.ref C_NoClass) "__init__" = some (some (.ref f_NoClass_init__))
  ti_NoClass : PySem.W.typeIn K (.ref f_NoClass_init__) = some (.type "function")
  xi_NoClass_value : PySem.W.findIn K (.ref C_NoClass) "value" = some none
  ox_NoCondition : OexC K C_NoCondition
  {f_NoCondition_init__ : Addr}
  ii_NoCondition : PySem.W.findIn K (.ref C_NoCondition) "__init__" = some (some (.ref f_NoCondition_init__))
  ti_NoCondition : PySem.W.typeIn K (.ref f_NoCondition_init__) = some (.type "function")
  xi_NoCondition_name : PySem.W.findIn K (.ref C_NoCondition) "name" = some none
  ox_NoField : OexC K C_NoField
  {f_NoField_init__ : Addr}
  ii_NoField : PySem.W.findIn K (.ref C_NoField) "__init__" = some (some (.ref f_NoField_init__))
  ti_NoField : PySem.W.typeIn K (.ref f_NoField_init__) = some (.type "function")
  xi_NoField_name : PySem.W.findIn K (.ref C_NoField) "name" = some none
  ox_NoKind : OexC K C_NoKind
  {f_NoKind_init__ : Addr}
  ii_NoKind : PySem.W.findIn K (.ref C_NoKind) "__init__" = some (some (.ref f_NoKind_init__))
  ti_NoKind : PySem.W.typeIn K (.ref f_NoKind_init__) = some (.type "function")
  xi_NoKind_name : PySem.W.findIn K (.ref C_NoKind) "name" = some none
  ox_NoLanding : OexC K C_NoLanding
  {f_NoLanding_init__ : Addr}
  ii_NoLanding : PySem.W.findIn K (.ref C_NoLanding) "__init__" = some (some (.ref f_NoLanding_init__))
  ti_NoLanding : PySem.W.typeIn K (.ref f_NoLanding_init__) = some (.type "function")
  xi_NoLanding_value : PySem.W.findIn K (.ref C_NoLanding) "value" = some none
  ox_NoState : OexC K C_NoState
  {f_NoState_init__ : Addr}
  ii_NoState : PySem.W.findIn K (.ref C_NoState) "__init__" = some (some (.ref f_NoState_init__))
  ti_NoState : PySem.W.typeIn K (.ref f_NoState_init__) = some (.type "function")
  xi_NoState_name : PySem.W.findIn K (.ref C_NoState) "name" = some none
  ox_NoTarget : OexC K C_NoTarget
  {f_NoTarget_init__ : Addr}
  ii_NoTarget : PySem.W.findIn K (.ref C_NoTarget) "__init__" = some (some (.ref f_NoTarget_init__))
  ti_NoTarget : PySem.W.typeIn K (.ref f_NoTarget_init__) = some (.type "function")
  xi_NoTarget_value : PySem.W.findIn K (.ref C_NoTarget) "value" = some none
  ox_NotPossible : OexC K C_NotPossible
  {f_NotPossible_init__ : Addr}
  ii_NotPossible : PySem.W.findIn K (.ref C_NotPossible) "__init__" = some (some (.ref f_NotPossible_init__))
  ti_NotPossible : PySem.W.typeIn K (.ref f_NotPossible_init__) = some (.type "function")
  xi_NotPossible_row : PySem.W.findIn K (.ref C_NotPossible) "row" = some none
  ox_NotReady : OexC K C_NotReady
  {f_NotReady_init__ : Addr}
  ii_NotReady : PySem.W.findIn K (.ref C_NotReady) "__init__" = some (some (.ref f_NotReady_init__))
  ti_NotReady : PySem.W.typeIn K (.ref f_NotReady_init__) = some (.type "function")
  xi_NotReady_part : PySem.W.findIn K (.ref C_NotReady) "part" = some none
  ox_StateClash : OexC K C_StateClash
  {f_StateClash_init__ : Addr}
  ii_StateClash : PySem.W.findIn K (.ref C_StateClash) "__init__" = some (some (.ref f_StateClash_init__))
  ti_StateClash : PySem.W.typeIn K (.ref f_StateClash_init__) = some (.type "function")
  xi_StateClash_name : PySem.W.findIn K (.ref C_StateClash) "name" = some none
  ox_Taken : OexC K C_Taken
  {f_Taken_init__ : Addr}
  ii_Taken : PySem.W.findIn K (.ref C_Taken) "__init__" = some (some (.ref f_Taken_init__))
  ti_Taken : PySem.W.typeIn K (.ref f_Taken_init__) = some (.type "function")
  xi_Taken_name : PySem.W.findIn K (.ref C_Taken) "name" = some none
  ox_TooLarge : OexC K C_TooLarge
  {f_TooLarge_init__ : Addr}
  ii_TooLarge : PySem.W.findIn K (.ref C_TooLarge) "__init__" = some (some (.ref f_TooLarge_init__))
  ti_TooLarge : PySem.W.typeIn K (.ref f_TooLarge_init__) = some (.type "function")
  xi_TooLarge_limit : PySem.W.findIn K (.ref C_TooLarge) "limit" = some none
  ox_TooMany : OexC K C_TooMany
  {f_TooMany_init__ : Addr}
  ii_TooMany : PySem.W.findIn K (.ref C_TooMany) "__init__" = some (some (.ref f_TooMany_init__))
  ti_TooMany : PySem.W.typeIn K (.ref f_TooMany_init__) = some (.type "function")
  xi_TooMany_part : PySem.W.findIn K (.ref C_TooMany) "part" = some none
  ox_WrongCount : OexC K C_WrongCount
  {f_WrongCount_init__ : Addr}
  ii_WrongCount : PySem.W.findIn K (.ref C_WrongCount) "__init__" = some (some (.ref f_WrongCount_init__))
  ti_WrongCount : PySem.W.typeIn K (.ref f_WrongCount_init__) = some (.type "function")
  xi_WrongCount_wanted : PySem.W.findIn K (.ref C_WrongCount) "wanted" = some none
  smK : SmK K
  xa_Blank_address : PySem.W.findIn K (.ref C_Blank) "address" = some none
  xa_Clash_lesser : PySem.W.findIn K (.ref C_Clash) "lesser" = some none
  xa_Clash_name : PySem.W.findIn K (.ref C_Clash) "name" = some none
  xa_FieldClash_field : PySem.W.findIn K (.ref C_FieldClash) "field" = some none
  xa_FieldClash_one : PySem.W.findIn K (.ref C_FieldClash) "one" = some none
  xa_FieldClash_other : PySem.W.findIn K (.ref C_FieldClash) "other" = some none
  xa_InvalidAddress_address : PySem.W.findIn K (.ref C_InvalidAddress) "address" = some none
  xa_InvalidFrame_part : PySem.W.findIn K (.ref C_InvalidFrame) "part" = some none
  xa_InvalidKind_part : PySem.W.findIn K (.ref C_InvalidKind) "part" = some none
  xa_InvalidName_value : PySem.W.findIn K (.ref C_InvalidName) "value" = some none
  xa_InvalidNumber_value : PySem.W.findIn K (.ref C_InvalidNumber) "value" = some none
  xa_InvalidRow_value : PySem.W.findIn K (.ref C_InvalidRow) "value" = some none
  xa_InvalidRows_part : PySem.W.findIn K (.ref C_InvalidRows) "part" = some none
  xa_InvalidText_line : PySem.W.findIn K (.ref C_InvalidText) "line" = some none
  xa_InvalidText_word : PySem.W.findIn K (.ref C_InvalidText) "word" = some none
  xa_InvalidWord_part : PySem.W.findIn K (.ref C_InvalidWord) "part" = some none
  xa_Locked_address : PySem.W.findIn K (.ref C_Locked) "address" = some none
  xa_NoCase_case : PySem.W.findIn K (.ref C_NoCase) "case" = some none
  xa_NoClass_value : PySem.W.findIn K (.ref C_NoClass) "value" = some none
  xa_NoCondition_name : PySem.W.findIn K (.ref C_NoCondition) "name" = some none
  xa_NoField_name : PySem.W.findIn K (.ref C_NoField) "name" = some none
  xa_NoKind_name : PySem.W.findIn K (.ref C_NoKind) "name" = some none
  xa_NoLanding_value : PySem.W.findIn K (.ref C_NoLanding) "value" = some none
  xa_NoState_name : PySem.W.findIn K (.ref C_NoState) "name" = some none
  xa_NoTarget_value : PySem.W.findIn K (.ref C_NoTarget) "value" = some none
  xa_NotPossible_row : PySem.W.findIn K (.ref C_NotPossible) "row" = some none
  xa_NotReady_part : PySem.W.findIn K (.ref C_NotReady) "part" = some none
  xa_StateClash_name : PySem.W.findIn K (.ref C_StateClash) "name" = some none
  xa_Taken_name : PySem.W.findIn K (.ref C_Taken) "name" = some none
  xa_TooLarge_limit : PySem.W.findIn K (.ref C_TooLarge) "limit" = some none
  xa_TooMany_part : PySem.W.findIn K (.ref C_TooMany) "part" = some none
  xa_WrongCount_wanted : PySem.W.findIn K (.ref C_WrongCount) "wanted" = some none
  xf_Blank : XfC K C_Blank
  xf_Clash : XfC K C_Clash
  xf_FieldClash : XfC K C_FieldClash
  xf_InvalidAddress : XfC K C_InvalidAddress
  xf_InvalidFrame : XfC K C_InvalidFrame
  xf_InvalidKind : XfC K C_InvalidKind
  xf_InvalidName : XfC K C_InvalidName
  xf_InvalidNumber : XfC K C_InvalidNumber
  xf_InvalidRow : XfC K C_InvalidRow
  xf_InvalidRows : XfC K C_InvalidRows
  xf_InvalidText : XfC K C_InvalidText
  xf_InvalidWord : XfC K C_InvalidWord
  xf_Locked : XfC K C_Locked
  xf_NoCase : XfC K C_NoCase
  xf_NoClass : XfC K C_NoClass
  xf_NoCondition : XfC K C_NoCondition
  xf_NoField : XfC K C_NoField
  xf_NoKind : XfC K C_NoKind
  xf_NoLanding : XfC K C_NoLanding
  xf_NoState : XfC K C_NoState
  xf_NoTarget : XfC K C_NoTarget
  xf_NotPossible : XfC K C_NotPossible
  xf_NotReady : XfC K C_NotReady
  xf_StateClash : XfC K C_StateClash
  xf_Taken : XfC K C_Taken
  xf_TooLarge : XfC K C_TooLarge
  xf_TooMany : XfC K C_TooMany
  xf_WrongCount : XfC K C_WrongCount
  {oc_InvalidName_init__ kV_InvalidName_init__ dc_InvalidName_init__ pm_InvalidName_init__ cd_InvalidName_init__ ct_InvalidName_init__ : Value}
  {od_InvalidName_init__ an_InvalidName_init__ : Option Addr}
  {sl_InvalidName_init__ : Array (Option Value)}
  l_InvalidName_init__ : K.lookup f_InvalidName_init__ = some ⟨oc_InvalidName_init__, od_InvalidName_init__, .func (PySem.W.fnOf "__init__" "InvalidName.__init__" (defArgs s_InvalidName_init__) (defBody s_InvalidName_init__) (defScope s_InvalidName_init__) .none kV_InvalidName_init__ dc_InvalidName_init__ pm_InvalidName_init__ an_InvalidName_init__ cd_InvalidName_init__ ct_InvalidName_init__), sl_InvalidName_init__⟩
  c_InvalidName_init__ : PySem.W.codeIn K cd_InvalidName_init__ "InvalidName.__init__" = true
  k_InvalidName_init__ : PySem.W.keepIn K (.ref f_InvalidName_init__) = true
  {oc_InvalidNumber_init__ kV_InvalidNumber_init__ dc_InvalidNumber_init__ pm_InvalidNumber_init__ cd_InvalidNumber_init__ ct_InvalidNumber_init__ : Value}
  {od_InvalidNumber_init__ an_InvalidNumber_init__ : Option Addr}
  {sl_InvalidNumber_init__ : Array (Option Value)}
  l_InvalidNumber_init__ : K.lookup f_InvalidNumber_init__ = some ⟨oc_InvalidNumber_init__, od_InvalidNumber_init__, .func (PySem.W.fnOf "__init__" "InvalidNumber.__init__" (defArgs s_InvalidNumber_init__) (defBody s_InvalidNumber_init__) (defScope s_InvalidNumber_init__) .none kV_InvalidNumber_init__ dc_InvalidNumber_init__ pm_InvalidNumber_init__ an_InvalidNumber_init__ cd_InvalidNumber_init__ ct_InvalidNumber_init__), sl_InvalidNumber_init__⟩
  c_InvalidNumber_init__ : PySem.W.codeIn K cd_InvalidNumber_init__ "InvalidNumber.__init__" = true
  k_InvalidNumber_init__ : PySem.W.keepIn K (.ref f_InvalidNumber_init__) = true
  {oc_InvalidRows_init__ kV_InvalidRows_init__ dc_InvalidRows_init__ pm_InvalidRows_init__ cd_InvalidRows_init__ ct_InvalidRows_init__ : Value}
  {od_InvalidRows_init__ an_InvalidRows_init__ : Option Addr}
  {sl_InvalidRows_init__ : Array (Option Value)}
  l_InvalidRows_init__ : K.lookup f_InvalidRows_init__ = some ⟨oc_InvalidRows_init__, od_InvalidRows_init__, .func (PySem.W.fnOf "__init__" "InvalidRows.__init__" (defArgs s_InvalidRows_init__) (defBody s_InvalidRows_init__) (defScope s_InvalidRows_init__) .none kV_InvalidRows_init__ dc_InvalidRows_init__ pm_InvalidRows_init__ an_InvalidRows_init__ cd_InvalidRows_init__ ct_InvalidRows_init__), sl_InvalidRows_init__⟩
  c_InvalidRows_init__ : PySem.W.codeIn K cd_InvalidRows_init__ "InvalidRows.__init__" = true
  k_InvalidRows_init__ : PySem.W.keepIn K (.ref f_InvalidRows_init__) = true
  {oc_InvalidRow_init__ kV_InvalidRow_init__ dc_InvalidRow_init__ pm_InvalidRow_init__ cd_InvalidRow_init__ ct_InvalidRow_init__ : Value}
  {od_InvalidRow_init__ an_InvalidRow_init__ : Option Addr}
  {sl_InvalidRow_init__ : Array (Option Value)}
  l_InvalidRow_init__ : K.lookup f_InvalidRow_init__ = some ⟨oc_InvalidRow_init__, od_InvalidRow_init__, .func (PySem.W.fnOf "__init__" "InvalidRow.__init__" (defArgs s_InvalidRow_init__) (defBody s_InvalidRow_init__) (defScope s_InvalidRow_init__) .none kV_InvalidRow_init__ dc_InvalidRow_init__ pm_InvalidRow_init__ an_InvalidRow_init__ cd_InvalidRow_init__ ct_InvalidRow_init__), sl_InvalidRow_init__⟩
  c_InvalidRow_init__ : PySem.W.codeIn K cd_InvalidRow_init__ "InvalidRow.__init__" = true
  k_InvalidRow_init__ : PySem.W.keepIn K (.ref f_InvalidRow_init__) = true
  {oc_InvalidKind_init__ kV_InvalidKind_init__ dc_InvalidKind_init__ pm_InvalidKind_init__ cd_InvalidKind_init__ ct_InvalidKind_init__ : Value}
  {od_InvalidKind_init__ an_InvalidKind_init__ : Option Addr}
  {sl_InvalidKind_init__ : Array (Option Value)}
  l_InvalidKind_init__ : K.lookup f_InvalidKind_init__ = some ⟨oc_InvalidKind_init__, od_InvalidKind_init__, .func (PySem.W.fnOf "__init__" "InvalidKind.__init__" (defArgs s_InvalidKind_init__) (defBody s_InvalidKind_init__) (defScope s_InvalidKind_init__) .none kV_InvalidKind_init__ dc_InvalidKind_init__ pm_InvalidKind_init__ an_InvalidKind_init__ cd_InvalidKind_init__ ct_InvalidKind_init__), sl_InvalidKind_init__⟩
  c_InvalidKind_init__ : PySem.W.codeIn K cd_InvalidKind_init__ "InvalidKind.__init__" = true
  k_InvalidKind_init__ : PySem.W.keepIn K (.ref f_InvalidKind_init__) = true
  {oc_InvalidFrame_init__ kV_InvalidFrame_init__ dc_InvalidFrame_init__ pm_InvalidFrame_init__ cd_InvalidFrame_init__ ct_InvalidFrame_init__ : Value}
  {od_InvalidFrame_init__ an_InvalidFrame_init__ : Option Addr}
  {sl_InvalidFrame_init__ : Array (Option Value)}
  l_InvalidFrame_init__ : K.lookup f_InvalidFrame_init__ = some ⟨oc_InvalidFrame_init__, od_InvalidFrame_init__, .func (PySem.W.fnOf "__init__" "InvalidFrame.__init__" (defArgs s_InvalidFrame_init__) (defBody s_InvalidFrame_init__) (defScope s_InvalidFrame_init__) .none kV_InvalidFrame_init__ dc_InvalidFrame_init__ pm_InvalidFrame_init__ an_InvalidFrame_init__ cd_InvalidFrame_init__ ct_InvalidFrame_init__), sl_InvalidFrame_init__⟩
  c_InvalidFrame_init__ : PySem.W.codeIn K cd_InvalidFrame_init__ "InvalidFrame.__init__" = true
  k_InvalidFrame_init__ : PySem.W.keepIn K (.ref f_InvalidFrame_init__) = true
  {oc_InvalidWord_init__ kV_InvalidWord_init__ dc_InvalidWord_init__ pm_InvalidWord_init__ cd_InvalidWord_init__ ct_InvalidWord_init__ : Value}
  {od_InvalidWord_init__ an_InvalidWord_init__ : Option Addr}
  {sl_InvalidWord_init__ : Array (Option Value)}
  l_InvalidWord_init__ : K.lookup f_InvalidWord_init__ = some ⟨oc_InvalidWord_init__, od_InvalidWord_init__, .func (PySem.W.fnOf "__init__" "InvalidWord.__init__" (defArgs s_InvalidWord_init__) (defBody s_InvalidWord_init__) (defScope s_InvalidWord_init__) .none kV_InvalidWord_init__ dc_InvalidWord_init__ pm_InvalidWord_init__ an_InvalidWord_init__ cd_InvalidWord_init__ ct_InvalidWord_init__), sl_InvalidWord_init__⟩
  c_InvalidWord_init__ : PySem.W.codeIn K cd_InvalidWord_init__ "InvalidWord.__init__" = true
  k_InvalidWord_init__ : PySem.W.keepIn K (.ref f_InvalidWord_init__) = true
  {oc_InvalidAddress_init__ kV_InvalidAddress_init__ dc_InvalidAddress_init__ pm_InvalidAddress_init__ cd_InvalidAddress_init__ ct_InvalidAddress_init__ : Value}
  {od_InvalidAddress_init__ an_InvalidAddress_init__ : Option Addr}
  {sl_InvalidAddress_init__ : Array (Option Value)}
  l_InvalidAddress_init__ : K.lookup f_InvalidAddress_init__ = some ⟨oc_InvalidAddress_init__, od_InvalidAddress_init__, .func (PySem.W.fnOf "__init__" "InvalidAddress.__init__" (defArgs s_InvalidAddress_init__) (defBody s_InvalidAddress_init__) (defScope s_InvalidAddress_init__) .none kV_InvalidAddress_init__ dc_InvalidAddress_init__ pm_InvalidAddress_init__ an_InvalidAddress_init__ cd_InvalidAddress_init__ ct_InvalidAddress_init__), sl_InvalidAddress_init__⟩
  c_InvalidAddress_init__ : PySem.W.codeIn K cd_InvalidAddress_init__ "InvalidAddress.__init__" = true
  k_InvalidAddress_init__ : PySem.W.keepIn K (.ref f_InvalidAddress_init__) = true
  {oc_InvalidText_init__ kV_InvalidText_init__ dc_InvalidText_init__ pm_InvalidText_init__ cd_InvalidText_init__ ct_InvalidText_init__ : Value}
  {od_InvalidText_init__ an_InvalidText_init__ : Option Addr}
  {sl_InvalidText_init__ : Array (Option Value)}
  l_InvalidText_init__ : K.lookup f_InvalidText_init__ = some ⟨oc_InvalidText_init__, od_InvalidText_init__, .func (PySem.W.fnOf "__init__" "InvalidText.__init__" (defArgs s_InvalidText_init__) (defBody s_InvalidText_init__) (defScope s_InvalidText_init__) .none kV_InvalidText_init__ dc_InvalidText_init__ pm_InvalidText_init__ an_InvalidText_init__ cd_InvalidText_init__ ct_InvalidText_init__), sl_InvalidText_init__⟩
  c_InvalidText_init__ : PySem.W.codeIn K cd_InvalidText_init__ "InvalidText.__init__" = true
  k_InvalidText_init__ : PySem.W.keepIn K (.ref f_InvalidText_init__) = true
  {oc_FieldClash_init__ kV_FieldClash_init__ dc_FieldClash_init__ pm_FieldClash_init__ cd_FieldClash_init__ ct_FieldClash_init__ : Value}
  {od_FieldClash_init__ an_FieldClash_init__ : Option Addr}
  {sl_FieldClash_init__ : Array (Option Value)}
  l_FieldClash_init__ : K.lookup f_FieldClash_init__ = some ⟨oc_FieldClash_init__, od_FieldClash_init__, .func (PySem.W.fnOf "__init__" "FieldClash.__init__" (defArgs s_FieldClash_init__) (defBody s_FieldClash_init__) (defScope s_FieldClash_init__) .none kV_FieldClash_init__ dc_FieldClash_init__ pm_FieldClash_init__ an_FieldClash_init__ cd_FieldClash_init__ ct_FieldClash_init__), sl_FieldClash_init__⟩
  c_FieldClash_init__ : PySem.W.codeIn K cd_FieldClash_init__ "FieldClash.__init__" = true
  k_FieldClash_init__ : PySem.W.keepIn K (.ref f_FieldClash_init__) = true
  {oc_Clash_init__ kV_Clash_init__ dc_Clash_init__ pm_Clash_init__ cd_Clash_init__ ct_Clash_init__ : Value}
  {od_Clash_init__ an_Clash_init__ : Option Addr}
  {sl_Clash_init__ : Array (Option Value)}
  l_Clash_init__ : K.lookup f_Clash_init__ = some ⟨oc_Clash_init__, od_Clash_init__, .func (PySem.W.fnOf "__init__" "Clash.__init__" (defArgs s_Clash_init__) (defBody s_Clash_init__) (defScope s_Clash_init__) .none kV_Clash_init__ dc_Clash_init__ pm_Clash_init__ an_Clash_init__ cd_Clash_init__ ct_Clash_init__), sl_Clash_init__⟩
  c_Clash_init__ : PySem.W.codeIn K cd_Clash_init__ "Clash.__init__" = true
  k_Clash_init__ : PySem.W.keepIn K (.ref f_Clash_init__) = true
  {oc_StateClash_init__ kV_StateClash_init__ dc_StateClash_init__ pm_StateClash_init__ cd_StateClash_init__ ct_StateClash_init__ : Value}
  {od_StateClash_init__ an_StateClash_init__ : Option Addr}
  {sl_StateClash_init__ : Array (Option Value)}
  l_StateClash_init__ : K.lookup f_StateClash_init__ = some ⟨oc_StateClash_init__, od_StateClash_init__, .func (PySem.W.fnOf "__init__" "StateClash.__init__" (defArgs s_StateClash_init__) (defBody s_StateClash_init__) (defScope s_StateClash_init__) .none kV_StateClash_init__ dc_StateClash_init__ pm_StateClash_init__ an_StateClash_init__ cd_StateClash_init__ ct_StateClash_init__), sl_StateClash_init__⟩
  c_StateClash_init__ : PySem.W.codeIn K cd_StateClash_init__ "StateClash.__init__" = true
  k_StateClash_init__ : PySem.W.keepIn K (.ref f_StateClash_init__) = true
  {oc_Locked_init__ kV_Locked_init__ dc_Locked_init__ pm_Locked_init__ cd_Locked_init__ ct_Locked_init__ : Value}
  {od_Locked_init__ an_Locked_init__ : Option Addr}
  {sl_Locked_init__ : Array (Option Value)}
  l_Locked_init__ : K.lookup f_Locked_init__ = some ⟨oc_Locked_init__, od_Locked_init__, .func (PySem.W.fnOf "__init__" "Locked.__init__" (defArgs s_Locked_init__) (defBody s_Locked_init__) (defScope s_Locked_init__) .none kV_Locked_init__ dc_Locked_init__ pm_Locked_init__ an_Locked_init__ cd_Locked_init__ ct_Locked_init__), sl_Locked_init__⟩
  c_Locked_init__ : PySem.W.codeIn K cd_Locked_init__ "Locked.__init__" = true
  k_Locked_init__ : PySem.W.keepIn K (.ref f_Locked_init__) = true
  {oc_Blank_init__ kV_Blank_init__ dc_Blank_init__ pm_Blank_init__ cd_Blank_init__ ct_Blank_init__ : Value}
  {od_Blank_init__ an_Blank_init__ : Option Addr}
  {sl_Blank_init__ : Array (Option Value)}
  l_Blank_init__ : K.lookup f_Blank_init__ = some ⟨oc_Blank_init__, od_Blank_init__, .func (PySem.W.fnOf "__init__" "Blank.__init__" (defArgs s_Blank_init__) (defBody s_Blank_init__) (defScope s_Blank_init__) .none kV_Blank_init__ dc_Blank_init__ pm_Blank_init__ an_Blank_init__ cd_Blank_init__ ct_Blank_init__), sl_Blank_init__⟩
  c_Blank_init__ : PySem.W.codeIn K cd_Blank_init__ "Blank.__init__" = true
  k_Blank_init__ : PySem.W.keepIn K (.ref f_Blank_init__) = true
  {oc_NotPossible_init__ kV_NotPossible_init__ dc_NotPossible_init__ pm_NotPossible_init__ cd_NotPossible_init__ ct_NotPossible_init__ : Value}
  {od_NotPossible_init__ an_NotPossible_init__ : Option Addr}
  {sl_NotPossible_init__ : Array (Option Value)}
  l_NotPossible_init__ : K.lookup f_NotPossible_init__ = some ⟨oc_NotPossible_init__, od_NotPossible_init__, .func (PySem.W.fnOf "__init__" "NotPossible.__init__" (defArgs s_NotPossible_init__) (defBody s_NotPossible_init__) (defScope s_NotPossible_init__) .none kV_NotPossible_init__ dc_NotPossible_init__ pm_NotPossible_init__ an_NotPossible_init__ cd_NotPossible_init__ ct_NotPossible_init__), sl_NotPossible_init__⟩
  c_NotPossible_init__ : PySem.W.codeIn K cd_NotPossible_init__ "NotPossible.__init__" = true
  k_NotPossible_init__ : PySem.W.keepIn K (.ref f_NotPossible_init__) = true
  {oc_NoCondition_init__ kV_NoCondition_init__ dc_NoCondition_init__ pm_NoCondition_init__ cd_NoCondition_init__ ct_NoCondition_init__ : Value}
  {od_NoCondition_init__ an_NoCondition_init__ : Option Addr}
  {sl_NoCondition_init__ : Array (Option Value)}
  l_NoCondition_init__ : K.lookup f_NoCondition_init__ = some ⟨oc_NoCondition_init__, od_NoCondition_init__, .func (PySem.W.fnOf "__init__" "NoCondition.__init__" (defArgs s_NoCondition_init__) (defBody s_NoCondition_init__) (defScope s_NoCondition_init__) .none kV_NoCondition_init__ dc_NoCondition_init__ pm_NoCondition_init__ an_NoCondition_init__ cd_NoCondition_init__ ct_NoCondition_init__), sl_NoCondition_init__⟩
  c_NoCondition_init__ : PySem.W.codeIn K cd_NoCondition_init__ "NoCondition.__init__" = true
  k_NoCondition_init__ : PySem.W.keepIn K (.ref f_NoCondition_init__) = true
  {oc_NoField_init__ kV_NoField_init__ dc_NoField_init__ pm_NoField_init__ cd_NoField_init__ ct_NoField_init__ : Value}
  {od_NoField_init__ an_NoField_init__ : Option Addr}
  {sl_NoField_init__ : Array (Option Value)}
  l_NoField_init__ : K.lookup f_NoField_init__ = some ⟨oc_NoField_init__, od_NoField_init__, .func (PySem.W.fnOf "__init__" "NoField.__init__" (defArgs s_NoField_init__) (defBody s_NoField_init__) (defScope s_NoField_init__) .none kV_NoField_init__ dc_NoField_init__ pm_NoField_init__ an_NoField_init__ cd_NoField_init__ ct_NoField_init__), sl_NoField_init__⟩
  c_NoField_init__ : PySem.W.codeIn K cd_NoField_init__ "NoField.__init__" = true
  k_NoField_init__ : PySem.W.keepIn K (.ref f_NoField_init__) = true
  {oc_NoKind_init__ kV_NoKind_init__ dc_NoKind_init__ pm_NoKind_init__ cd_NoKind_init__ ct_NoKind_init__ : Value}
  {od_NoKind_init__ an_NoKind_init__ : Option Addr}
  {sl_NoKind_init__ : Array (Option Value)}
  l_NoKind_init__ : K.lookup f_NoKind_init__ = some ⟨oc_NoKind_init__, od_NoKind_init__, .func (PySem.W.fnOf "__init__" "NoKind.__init__" (defArgs s_NoKind_init__) (defBody s_NoKind_init__) (defScope s_NoKind_init__) .none kV_NoKind_init__ dc_NoKind_init__ pm_NoKind_init__ an_NoKind_init__ cd_NoKind_init__ ct_NoKind_init__), sl_NoKind_init__⟩
  c_NoKind_init__ : PySem.W.codeIn K cd_NoKind_init__ "NoKind.__init__" = true
  k_NoKind_init__ : PySem.W.keepIn K (.ref f_NoKind_init__) = true
  {oc_NoState_init__ kV_NoState_init__ dc_NoState_init__ pm_NoState_init__ cd_NoState_init__ ct_NoState_init__ : Value}
  {od_NoState_init__ an_NoState_init__ : Option Addr}
  {sl_NoState_init__ : Array (Option Value)}
  l_NoState_init__ : K.lookup f_NoState_init__ = some ⟨oc_NoState_init__, od_NoState_init__, .func (PySem.W.fnOf "__init__" "NoState.__init__" (defArgs s_NoState_init__) (defBody s_NoState_init__) (defScope s_NoState_init__) .none kV_NoState_init__ dc_NoState_init__ pm_NoState_init__ an_NoState_init__ cd_NoState_init__ ct_NoState_init__), sl_NoState_init__⟩
  c_NoState_init__ : PySem.W.codeIn K cd_NoState_init__ "NoState.__init__" = true
  k_NoState_init__ : PySem.W.keepIn K (.ref f_NoState_init__) = true
  {oc_NoTarget_init__ kV_NoTarget_init__ dc_NoTarget_init__ pm_NoTarget_init__ cd_NoTarget_init__ ct_NoTarget_init__ : Value}
  {od_NoTarget_init__ an_NoTarget_init__ : Option Addr}
  {sl_NoTarget_init__ : Array (Option Value)}
  l_NoTarget_init__ : K.lookup f_NoTarget_init__ = some ⟨oc_NoTarget_init__, od_NoTarget_init__, .func (PySem.W.fnOf "__init__" "NoTarget.__init__" (defArgs s_NoTarget_init__) (defBody s_NoTarget_init__) (defScope s_NoTarget_init__) .none kV_NoTarget_init__ dc_NoTarget_init__ pm_NoTarget_init__ an_NoTarget_init__ cd_NoTarget_init__ ct_NoTarget_init__), sl_NoTarget_init__⟩
  c_NoTarget_init__ : PySem.W.codeIn K cd_NoTarget_init__ "NoTarget.__init__" = true
  k_NoTarget_init__ : PySem.W.keepIn K (.ref f_NoTarget_init__) = true
  {oc_NoClass_init__ kV_NoClass_init__ dc_NoClass_init__ pm_NoClass_init__ cd_NoClass_init__ ct_NoClass_init__ : Value}
  {od_NoClass_init__ an_NoClass_init__ : Option Addr}
  {sl_NoClass_init__ : Array (Option Value)}
  l_NoClass_init__ : K.lookup f_NoClass_init__ = some ⟨oc_NoClass_init__, od_NoClass_init__, .func (PySem.W.fnOf "__init__" "NoClass.__init__" (defArgs s_NoClass_init__) (defBody s_NoClass_init__) (defScope s_NoClass_init__) .none kV_NoClass_init__ dc_NoClass_init__ pm_NoClass_init__ an_NoClass_init__ cd_NoClass_init__ ct_NoClass_init__), sl_NoClass_init__⟩
  c_NoClass_init__ : PySem.W.codeIn K cd_NoClass_init__ "NoClass.__init__" = true
  k_NoClass_init__ : PySem.W.keepIn K (.ref f_NoClass_init__) = true
  {oc_NoLanding_init__ kV_NoLanding_init__ dc_NoLanding_init__ pm_NoLanding_init__ cd_NoLanding_init__ ct_NoLanding_init__ : Value}
  {od_NoLanding_init__ an_NoLanding_init__ : Option Addr}
  {sl_NoLanding_init__ : Array (Option Value)}
  l_NoLanding_init__ : K.lookup f_NoLanding_init__ = some ⟨oc_NoLanding_init__, od_NoLanding_init__, .func (PySem.W.fnOf "__init__" "NoLanding.__init__" (defArgs s_NoLanding_init__) (defBody s_NoLanding_init__) (defScope s_NoLanding_init__) .none kV_NoLanding_init__ dc_NoLanding_init__ pm_NoLanding_init__ an_NoLanding_init__ cd_NoLanding_init__ ct_NoLanding_init__), sl_NoLanding_init__⟩
  c_NoLanding_init__ : PySem.W.codeIn K cd_NoLanding_init__ "NoLanding.__init__" = true
  k_NoLanding_init__ : PySem.W.keepIn K (.ref f_NoLanding_init__) = true
  {oc_NoCase_init__ kV_NoCase_init__ dc_NoCase_init__ pm_NoCase_init__ cd_NoCase_init__ ct_NoCase_init__ : Value}
  {od_NoCase_init__ an_NoCase_init__ : Option Addr}
  {sl_NoCase_init__ : Array (Option Value)}
  l_NoCase_init__ : K.lookup f_NoCase_init__ = some ⟨oc_NoCase_init__, od_NoCase_init__, .func (PySem.W.fnOf "__init__" "NoCase.__init__" (defArgs s_NoCase_init__) (defBody s_NoCase_init__) (defScope s_NoCase_init__) .none kV_NoCase_init__ dc_NoCase_init__ pm_NoCase_init__ an_NoCase_init__ cd_NoCase_init__ ct_NoCase_init__), sl_NoCase_init__⟩
  c_NoCase_init__ : PySem.W.codeIn K cd_NoCase_init__ "NoCase.__init__" = true
  k_NoCase_init__ : PySem.W.keepIn K (.ref f_NoCase_init__) = true
  {oc_NotReady_init__ kV_NotReady_init__ dc_NotReady_init__ pm_NotReady_init__ cd_NotReady_init__ ct_NotReady_init__ : Value}
  {od_NotReady_init__ an_NotReady_init__ : Option Addr}
  {sl_NotReady_init__ : Array (Option Value)}
  l_NotReady_init__ : K.lookup f_NotReady_init__ = some ⟨oc_NotReady_init__, od_NotReady_init__, .func (PySem.W.fnOf "__init__" "NotReady.__init__" (defArgs s_NotReady_init__) (defBody s_NotReady_init__) (defScope s_NotReady_init__) .none kV_NotReady_init__ dc_NotReady_init__ pm_NotReady_init__ an_NotReady_init__ cd_NotReady_init__ ct_NotReady_init__), sl_NotReady_init__⟩
  c_NotReady_init__ : PySem.W.codeIn K cd_NotReady_init__ "NotReady.__init__" = true
  k_NotReady_init__ : PySem.W.keepIn K (.ref f_NotReady_init__) = true
  {oc_Taken_init__ kV_Taken_init__ dc_Taken_init__ pm_Taken_init__ cd_Taken_init__ ct_Taken_init__ : Value}
  {od_Taken_init__ an_Taken_init__ : Option Addr}
  {sl_Taken_init__ : Array (Option Value)}
  l_Taken_init__ : K.lookup f_Taken_init__ = some ⟨oc_Taken_init__, od_Taken_init__, .func (PySem.W.fnOf "__init__" "Taken.__init__" (defArgs s_Taken_init__) (defBody s_Taken_init__) (defScope s_Taken_init__) .none kV_Taken_init__ dc_Taken_init__ pm_Taken_init__ an_Taken_init__ cd_Taken_init__ ct_Taken_init__), sl_Taken_init__⟩
  c_Taken_init__ : PySem.W.codeIn K cd_Taken_init__ "Taken.__init__" = true
  k_Taken_init__ : PySem.W.keepIn K (.ref f_Taken_init__) = true
  {oc_WrongCount_init__ kV_WrongCount_init__ dc_WrongCount_init__ pm_WrongCount_init__ cd_WrongCount_init__ ct_WrongCount_init__ : Value}
  {od_WrongCount_init__ an_WrongCount_init__ : Option Addr}
  {sl_WrongCount_init__ : Array (Option Value)}
  l_WrongCount_init__ : K.lookup f_WrongCount_init__ = some ⟨oc_WrongCount_init__, od_WrongCount_init__, .func (PySem.W.fnOf "__init__" "WrongCount.__init__" (defArgs s_WrongCount_init__) (defBody s_WrongCount_init__) (defScope s_WrongCount_init__) .none kV_WrongCount_init__ dc_WrongCount_init__ pm_WrongCount_init__ an_WrongCount_init__ cd_WrongCount_init__ ct_WrongCount_init__), sl_WrongCount_init__⟩
  c_WrongCount_init__ : PySem.W.codeIn K cd_WrongCount_init__ "WrongCount.__init__" = true
  k_WrongCount_init__ : PySem.W.keepIn K (.ref f_WrongCount_init__) = true
  {oc_TooMany_init__ kV_TooMany_init__ dc_TooMany_init__ pm_TooMany_init__ cd_TooMany_init__ ct_TooMany_init__ : Value}
  {od_TooMany_init__ an_TooMany_init__ : Option Addr}
  {sl_TooMany_init__ : Array (Option Value)}
  l_TooMany_init__ : K.lookup f_TooMany_init__ = some ⟨oc_TooMany_init__, od_TooMany_init__, .func (PySem.W.fnOf "__init__" "TooMany.__init__" (defArgs s_TooMany_init__) (defBody s_TooMany_init__) (defScope s_TooMany_init__) .none kV_TooMany_init__ dc_TooMany_init__ pm_TooMany_init__ an_TooMany_init__ cd_TooMany_init__ ct_TooMany_init__), sl_TooMany_init__⟩
  c_TooMany_init__ : PySem.W.codeIn K cd_TooMany_init__ "TooMany.__init__" = true
  k_TooMany_init__ : PySem.W.keepIn K (.ref f_TooMany_init__) = true
  {oc_TooLarge_init__ kV_TooLarge_init__ dc_TooLarge_init__ pm_TooLarge_init__ cd_TooLarge_init__ ct_TooLarge_init__ : Value}
  {od_TooLarge_init__ an_TooLarge_init__ : Option Addr}
  {sl_TooLarge_init__ : Array (Option Value)}
  l_TooLarge_init__ : K.lookup f_TooLarge_init__ = some ⟨oc_TooLarge_init__, od_TooLarge_init__, .func (PySem.W.fnOf "__init__" "TooLarge.__init__" (defArgs s_TooLarge_init__) (defBody s_TooLarge_init__) (defScope s_TooLarge_init__) .none kV_TooLarge_init__ dc_TooLarge_init__ pm_TooLarge_init__ an_TooLarge_init__ cd_TooLarge_init__ ct_TooLarge_init__), sl_TooLarge_init__⟩
  c_TooLarge_init__ : PySem.W.codeIn K cd_TooLarge_init__ "TooLarge.__init__" = true
  k_TooLarge_init__ : PySem.W.keepIn K (.ref f_TooLarge_init__) = true
  {f_law_pen : Addr}
  g_law_pen : mg "_law_pen" = some (.ref f_law_pen)
  {oc_law_pen kV_law_pen dc_law_pen pm_law_pen cd_law_pen ct_law_pen : Value}
  {od_law_pen an_law_pen : Option Addr}
  {sl_law_pen : Array (Option Value)}
  l_law_pen : K.lookup f_law_pen = some ⟨oc_law_pen, od_law_pen, .func (PySem.W.fnOf "_law_pen" "_law_pen" (defArgs s_law_pen) (defBody s_law_pen) (defScope s_law_pen) .none kV_law_pen dc_law_pen pm_law_pen an_law_pen cd_law_pen ct_law_pen), sl_law_pen⟩
  c_law_pen : PySem.W.codeIn K cd_law_pen "_law_pen" = true
  k_law_pen : PySem.W.keepIn K (.ref f_law_pen) = true
  {f_law_draw : Addr}
  g_law_draw : mg "_law_draw" = some (.ref f_law_draw)
  {oc_law_draw kV_law_draw dc_law_draw pm_law_draw cd_law_draw ct_law_draw : Value}
  {od_law_draw an_law_draw : Option Addr}
  {sl_law_draw : Array (Option Value)}
  l_law_draw : K.lookup f_law_draw = some ⟨oc_law_draw, od_law_draw, .func (PySem.W.fnOf "_law_draw" "_law_draw" (defArgs s_law_draw) (defBody s_law_draw) (defScope s_law_draw) .none kV_law_draw dc_law_draw pm_law_draw an_law_draw cd_law_draw ct_law_draw), sl_law_draw⟩
  c_law_draw : PySem.W.codeIn K cd_law_draw "_law_draw" = true
  k_law_draw : PySem.W.keepIn K (.ref f_law_draw) = true
  {f_law_pick : Addr}
  g_law_pick : mg "_law_pick" = some (.ref f_law_pick)
  {oc_law_pick kV_law_pick dc_law_pick pm_law_pick cd_law_pick ct_law_pick : Value}
  {od_law_pick an_law_pick : Option Addr}
  {sl_law_pick : Array (Option Value)}
  l_law_pick : K.lookup f_law_pick = some ⟨oc_law_pick, od_law_pick, .func (PySem.W.fnOf "_law_pick" "_law_pick" (defArgs s_law_pick) (defBody s_law_pick) (defScope s_law_pick) .none kV_law_pick dc_law_pick pm_law_pick an_law_pick cd_law_pick ct_law_pick), sl_law_pick⟩
  c_law_pick : PySem.W.codeIn K cd_law_pick "_law_pick" = true
  k_law_pick : PySem.W.keepIn K (.ref f_law_pick) = true
  {f_law_thing : Addr}
  g_law_thing : mg "_law_thing" = some (.ref f_law_thing)
  {oc_law_thing kV_law_thing dc_law_thing pm_law_thing cd_law_thing ct_law_thing : Value}
  {od_law_thing an_law_thing : Option Addr}
  {sl_law_thing : Array (Option Value)}
  l_law_thing : K.lookup f_law_thing = some ⟨oc_law_thing, od_law_thing, .func (PySem.W.fnOf "_law_thing" "_law_thing" (defArgs s_law_thing) (defBody s_law_thing) (defScope s_law_thing) .none kV_law_thing dc_law_thing pm_law_thing an_law_thing cd_law_thing ct_law_thing), sl_law_thing⟩
  c_law_thing : PySem.W.codeIn K cd_law_thing "_law_thing" = true
  k_law_thing : PySem.W.keepIn K (.ref f_law_thing) = true
  {f_law_kinds : Addr}
  g_law_kinds : mg "_law_kinds" = some (.ref f_law_kinds)
  {oc_law_kinds kV_law_kinds dc_law_kinds pm_law_kinds cd_law_kinds ct_law_kinds : Value}
  {od_law_kinds an_law_kinds : Option Addr}
  {sl_law_kinds : Array (Option Value)}
  l_law_kinds : K.lookup f_law_kinds = some ⟨oc_law_kinds, od_law_kinds, .func (PySem.W.fnOf "_law_kinds" "_law_kinds" (defArgs s_law_kinds) (defBody s_law_kinds) (defScope s_law_kinds) .none kV_law_kinds dc_law_kinds pm_law_kinds an_law_kinds cd_law_kinds ct_law_kinds), sl_law_kinds⟩
  c_law_kinds : PySem.W.codeIn K cd_law_kinds "_law_kinds" = true
  k_law_kinds : PySem.W.keepIn K (.ref f_law_kinds) = true
  {f_law_is_based : Addr}
  g_law_is_based : mg "_law_is_based" = some (.ref f_law_is_based)
  {oc_law_is_based kV_law_is_based dc_law_is_based pm_law_is_based cd_law_is_based ct_law_is_based : Value}
  {od_law_is_based an_law_is_based : Option Addr}
  {sl_law_is_based : Array (Option Value)}
  l_law_is_based : K.lookup f_law_is_based = some ⟨oc_law_is_based, od_law_is_based, .func (PySem.W.fnOf "_law_is_based" "_law_is_based" (defArgs s_law_is_based) (defBody s_law_is_based) (defScope s_law_is_based) .none kV_law_is_based dc_law_is_based pm_law_is_based an_law_is_based cd_law_is_based ct_law_is_based), sl_law_is_based⟩
  c_law_is_based : PySem.W.codeIn K cd_law_is_based "_law_is_based" = true
  k_law_is_based : PySem.W.keepIn K (.ref f_law_is_based) = true
  {f_law_values : Addr}
  g_law_values : mg "_law_values" = some (.ref f_law_values)
  {oc_law_values kV_law_values dc_law_values pm_law_values cd_law_values ct_law_values : Value}
  {od_law_values an_law_values : Option Addr}
  {sl_law_values : Array (Option Value)}
  l_law_values : K.lookup f_law_values = some ⟨oc_law_values, od_law_values, .func (PySem.W.fnOf "_law_values" "_law_values" (defArgs s_law_values) (defBody s_law_values) (defScope s_law_values) .none kV_law_values dc_law_values pm_law_values an_law_values cd_law_values ct_law_values), sl_law_values⟩
  c_law_values : PySem.W.codeIn K cd_law_values "_law_values" = true
  k_law_values : PySem.W.keepIn K (.ref f_law_values) = true
  {f_law_places : Addr}
  g_law_places : mg "_law_places" = some (.ref f_law_places)
  {oc_law_places kV_law_places dc_law_places pm_law_places cd_law_places ct_law_places : Value}
  {od_law_places an_law_places : Option Addr}
  {sl_law_places : Array (Option Value)}
  l_law_places : K.lookup f_law_places = some ⟨oc_law_places, od_law_places, .func (PySem.W.fnOf "_law_places" "_law_places" (defArgs s_law_places) (defBody s_law_places) (defScope s_law_places) .none kV_law_places dc_law_places pm_law_places an_law_places cd_law_places ct_law_places), sl_law_places⟩
  c_law_places : PySem.W.codeIn K cd_law_places "_law_places" = true
  k_law_places : PySem.W.keepIn K (.ref f_law_places) = true
  {f_law_several_right : Addr}
  g_law_several_right : mg "_law_several_right" = some (.ref f_law_several_right)
  {oc_law_several_right kV_law_several_right dc_law_several_right pm_law_several_right cd_law_several_right ct_law_several_right : Value}
  {od_law_several_right an_law_several_right : Option Addr}
  {sl_law_several_right : Array (Option Value)}
  l_law_several_right : K.lookup f_law_several_right = some ⟨oc_law_several_right, od_law_several_right, .func (PySem.W.fnOf "_law_several_right" "_law_several_right" (defArgs s_law_several_right) (defBody s_law_several_right) (defScope s_law_several_right) .none kV_law_several_right dc_law_several_right pm_law_several_right an_law_several_right cd_law_several_right ct_law_several_right), sl_law_several_right⟩
  c_law_several_right : PySem.W.codeIn K cd_law_several_right "_law_several_right" = true
  k_law_several_right : PySem.W.keepIn K (.ref f_law_several_right) = true
  {f_law : Addr}
  g_law : mg "law" = some (.ref f_law)
  {oc_law kV_law dc_law pm_law cd_law ct_law : Value}
  {od_law an_law : Option Addr}
  {sl_law : Array (Option Value)}
  l_law : K.lookup f_law = some ⟨oc_law, od_law, .func (PySem.W.fnOf "law" "law" (defArgs s_law) (defBody s_law) (defScope s_law) .none kV_law dc_law pm_law an_law cd_law ct_law), sl_law⟩
  c_law : PySem.W.codeIn K cd_law "law" = true
  k_law : PySem.W.keepIn K (.ref f_law) = true
  z_ArithmeticError : mg "ArithmeticError" = none
  z_IndexError : mg "IndexError" = none
  z_KeyError : mg "KeyError" = none
  z_LookupError : mg "LookupError" = none
  z_OverflowError : mg "OverflowError" = none
  z_RuntimeError : mg "RuntimeError" = none
  z_TypeError : mg "TypeError" = none
  z_ValueError : mg "ValueError" = none
  z_abs : mg "abs" = none
  z_enumerate : mg "enumerate" = none
  z_int : mg "int" = none
  z_isinstance : mg "isinstance" = none
  z_len : mg "len" = none
  z_list : mg "list" = none
  z_range : mg "range" = none
  z_repr : mg "repr" = none
section
variable {P : Program} {w : World} {K : PySem.W.Frag} {mg : Str → Option Value} {base : Heap}
theorem Tx.F_InvalidName_init__ (T : Tx K mg) : Fun K "__init__" "InvalidName.__init__" s_InvalidName_init__ T.f_InvalidName_init__ (PySem.W.fnOf "__init__" "InvalidName.__init__" (defArgs s_InvalidName_init__) (defBody s_InvalidName_init__) (defScope s_InvalidName_init__) .none T.kV_InvalidName_init__ T.dc_InvalidName_init__ T.pm_InvalidName_init__ T.an_InvalidName_init__ T.cd_InvalidName_init__ T.ct_InvalidName_init__) := fun_mk T.l_InvalidName_init__ T.c_InvalidName_init__ T.k_InvalidName_init__
theorem Tx.b_InvalidName_init__ (T : Tx K mg) : Binds K (PySem.W.fnOf "__init__" "InvalidName.__init__" (defArgs s_InvalidName_init__) (defBody s_InvalidName_init__) (defScope s_InvalidName_init__) .none T.kV_InvalidName_init__ T.dc_InvalidName_init__ T.pm_InvalidName_init__ T.an_InvalidName_init__ T.cd_InvalidName_init__ T.ct_InvalidName_init__) p_InvalidName_init__ [] := T.F_InvalidName_init__.binds fun _ _ _ _ _ _ us hl => match us, hl with | [_, _], _ => rfl
theorem ok_InvalidName_init__ (T : Tx K mg) : FnOk P w K mg base CX0 1 T.f_InvalidName_init__ (PySem.W.fnOf "__init__" "InvalidName.__init__" (defArgs s_InvalidName_init__) (defBody s_InvalidName_init__) (defScope s_InvalidName_init__) .none T.kV_InvalidName_init__ T.dc_InvalidName_init__ T.pm_InvalidName_init__ T.an_InvalidName_init__ T.cd_InvalidName_init__ T.ct_InvalidName_init__) p_InvalidName_init__ (spI T.C_InvalidName ["value"]) :=
  init_1 T.F_InvalidName_init__ sc_InvalidName_init__ rfl T.ox_InvalidName T.xi_InvalidName_value rfl rfl
theorem Tx.F_InvalidNumber_init__ (T : Tx K mg) : Fun K "__init__" "InvalidNumber.__init__" s_InvalidNumber_init__ T.f_InvalidNumber_init__ (PySem.W.fnOf "__init__" "InvalidNumber.__init__" (defArgs s_InvalidNumber_init__) (defBody s_InvalidNumber_init__) (defScope s_InvalidNumber_init__) .none T.kV_InvalidNumber_init__ T.dc_InvalidNumber_init__ T.pm_InvalidNumber_init__ T.an_InvalidNumber_init__ T.cd_InvalidNumber_init__ T.ct_InvalidNumber_init__) := fun_mk T.l_InvalidNumber_init__ T.c_InvalidNumber_init__ T.k_InvalidNumber_init__
theorem Tx.b_InvalidNumber_init__ (T : Tx K mg) : Binds K (PySem.W.fnOf "__init__" "InvalidNumber.__init__" (defArgs s_InvalidNumber_init__) (defBody s_InvalidNumber_init__) (defScope s_InvalidNumber_init__) .none T.kV_InvalidNumber_init__ T.dc_InvalidNumber_init__ T.pm_InvalidNumber_init__ T.an_InvalidNumber_init__ T.cd_InvalidNumber_init__ T.ct_InvalidNumber_init__) p_InvalidNumber_init__ [] := T.F_InvalidNumber_init__.binds fun _ _ _ _ _ _ us hl => match us, hl with | [_, _], _ => rfl
theorem ok_InvalidNumber_init__ (T : Tx K mg) : FnOk P w K mg base CX0 1 T.f_InvalidNumber_init__ (PySem.W.fnOf "__init__" "InvalidNumber.__init__" (defArgs s_InvalidNumber_init__) (defBody s_InvalidNumber_init__) (defScope s_InvalidNumber_init__) .none T.kV_InvalidNumber_init__ T.dc_InvalidNumber_init__ T.pm_InvalidNumber_init__ T.an_InvalidNumber_init__ T.cd_InvalidNumber_init__ T.ct_InvalidNumber_init__) p_InvalidNumber_init__ (spI T.C_InvalidNumber ["value"]) :=
  init_1 T.F_InvalidNumber_init__ sc_InvalidNumber_init__ rfl T.ox_InvalidNumber T.xi_InvalidNumber_value rfl rfl
theorem Tx.F_InvalidRows_init__ (T : Tx K mg) : Fun K "__init__" "InvalidRows.__init__" s_InvalidRows_init__ T.f_InvalidRows_init__ (PySem.W.fnOf "__init__" "InvalidRows.__init__" (defArgs s_InvalidRows_init__) (defBody s_InvalidRows_init__) (defScope s_InvalidRows_init__) .none T.kV_InvalidRows_init__ T.dc_InvalidRows_init__ T.pm_InvalidRows_init__ T.an_InvalidRows_init__ T.cd_InvalidRows_init__ T.ct_InvalidRows_init__) := fun_mk T.l_InvalidRows_init__ T.c_InvalidRows_init__ T.k_InvalidRows_init__
theorem Tx.b_InvalidRows_init__ (T : Tx K mg) : Binds K (PySem.W.fnOf "__init__" "InvalidRows.__init__" (defArgs s_InvalidRows_init__) (defBody s_InvalidRows_init__) (defScope s_InvalidRows_init__) .none T.kV_InvalidRows_init__ T.dc_InvalidRows_init__ T.pm_InvalidRows_init__ T.an_InvalidRows_init__ T.cd_InvalidRows_init__ T.ct_InvalidRows_init__) p_InvalidRows_init__ [] := T.F_InvalidRows_init__.binds fun _ _ _ _ _ _ us hl => match us, hl with | [_, _], _ => rfl
theorem ok_InvalidRows_init__ (T : Tx K mg) : FnOk P w K mg base CX0 1 T.f_InvalidRows_init__ (PySem.W.fnOf "__init__" "InvalidRows.__init__" (defArgs s_InvalidRows_init__) (defBody s_InvalidRows_init__) (defScope s_InvalidRows_init__) .none T.kV_InvalidRows_init__ T.dc_InvalidRows_init__ T.pm_InvalidRows_init__ T.an_InvalidRows_init__ T.cd_InvalidRows_init__ T.ct_InvalidRows_init__) p_InvalidRows_init__ (spI T.C_InvalidRows ["part"]) :=
  init_1 T.F_InvalidRows_init__ sc_InvalidRows_init__ rfl T.ox_InvalidRows T.xi_InvalidRows_part rfl rfl
theorem Tx.F_InvalidRow_init__ (T : Tx K mg) : Fun K "__init__" "InvalidRow.__init__" s_InvalidRow_init__ T.f_InvalidRow_init__ (PySem.W.fnOf "__init__" "InvalidRow.__init__" (defArgs s_InvalidRow_init__) (defBody s_InvalidRow_init__) (defScope s_InvalidRow_init__) .none T.kV_InvalidRow_init__ T.dc_InvalidRow_init__ T.pm_InvalidRow_init__ T.an_InvalidRow_init__ T.cd_InvalidRow_init__ T.ct_InvalidRow_init__) := fun_mk T.l_InvalidRow_init__ T.c_InvalidRow_init__ T.k_InvalidRow_init__
theorem Tx.b_InvalidRow_init__ (T : Tx K mg) : Binds K (PySem.W.fnOf "__init__" "InvalidRow.__init__" (defArgs s_InvalidRow_init__) (defBody s_InvalidRow_init__) (defScope s_InvalidRow_init__) .none T.kV_InvalidRow_init__ T.dc_InvalidRow_init__ T.pm_InvalidRow_init__ T.an_InvalidRow_init__ T.cd_InvalidRow_init__ T.ct_InvalidRow_init__) p_InvalidRow_init__ [] := T.F_InvalidRow_init__.binds fun _ _ _ _ _ _ us hl => match us, hl with | [_, _], _ => rfl
theorem ok_InvalidRow_init__ (T : Tx K mg) : FnOk P w K mg base CX0 1 T.f_InvalidRow_init__ (PySem.W.fnOf "__init__" "InvalidRow.__init__" (defArgs s_InvalidRow_init__) (defBody s_InvalidRow_init__) (defScope s_InvalidRow_init__) .none T.kV_InvalidRow_init__ T.dc_InvalidRow_init__ T.pm_InvalidRow_init__ T.an_InvalidRow_init__ T.cd_InvalidRow_init__ T.ct_InvalidRow_init__) p_InvalidRow_init__ (spI T.C_InvalidRow ["value"]) :=
  init_1 T.F_InvalidRow_init__ sc_InvalidRow_init__ rfl T.ox_InvalidRow T.xi_InvalidRow_value rfl rfl
theorem Tx.F_InvalidKind_init__ (T : Tx K mg) : Fun K "__init__" "InvalidKind.__init__" s_InvalidKind_init__ T.f_InvalidKind_init__ (PySem.W.fnOf "__init__" "InvalidKind.__init__" (defArgs s_InvalidKind_init__) (defBody s_InvalidKind_init__) (defScope s_InvalidKind_init__) .none T.kV_InvalidKind_init__ T.dc_InvalidKind_init__ T.pm_InvalidKind_init__ T.an_InvalidKind_init__ T.cd_InvalidKind_init__ T.ct_InvalidKind_init__) := fun_mk T.l_InvalidKind_init__ T.c_InvalidKind_init__ T.k_InvalidKind_init__
theorem Tx.b_InvalidKind_init__ (T : Tx K mg) : Binds K (PySem.W.fnOf "__init__" "InvalidKind.__init__" (defArgs s_InvalidKind_init__) (defBody s_InvalidKind_init__) (defScope s_InvalidKind_init__) .none T.kV_InvalidKind_init__ T.dc_InvalidKind_init__ T.pm_InvalidKind_init__ T.an_InvalidKind_init__ T.cd_InvalidKind_init__ T.ct_InvalidKind_init__) p_InvalidKind_init__ [] := T.F_InvalidKind_init__.binds fun _ _ _ _ _ _ us hl => match us, hl with | [_, _], _ => rfl
theorem ok_InvalidKind_init__ (T : Tx K mg) : FnOk P w K mg base CX0 1 T.f_InvalidKind_init__ (PySem.W.fnOf "__init__" "InvalidKind.__init__" (defArgs s_InvalidKind_init__) (defBody s_InvalidKind_init__) (defScope s_InvalidKind_init__) .none T.kV_InvalidKind_init__ T.dc_InvalidKind_init__ T.pm_InvalidKind_init__ T.an_InvalidKind_init__ T.cd_InvalidKind_init__ T.ct_InvalidKind_init__) p_InvalidKind_init__ (spI T.C_InvalidKind ["part"]) :=
  init_1 T.F_InvalidKind_init__ sc_InvalidKind_init__ rfl T.ox_InvalidKind T.xi_InvalidKind_part rfl rfl
theorem Tx.F_InvalidFrame_init__ (T : Tx K mg) : Fun K "__init__" "InvalidFrame.__init__" s_InvalidFrame_init__ T.f_InvalidFrame_init__ (PySem.W.fnOf "__init__" "InvalidFrame.__init__" (defArgs s_InvalidFrame_init__) (defBody s_InvalidFrame_init__) (defScope s_InvalidFrame_init__) .none T.kV_InvalidFrame_init__ T.dc_InvalidFrame_init__ T.pm_InvalidFrame_init__ T.an_InvalidFrame_init__ T.cd_InvalidFrame_init__ T.ct_InvalidFrame_init__) := fun_mk T.l_InvalidFrame_init__ T.c_InvalidFrame_init__ T.k_InvalidFrame_init__
theorem Tx.b_InvalidFrame_init__ (T : Tx K mg) : Binds K (PySem.W.fnOf "__init__" "InvalidFrame.__init__" (defArgs s_InvalidFrame_init__) (defBody s_InvalidFrame_init__) (defScope s_InvalidFrame_init__) .none T.kV_InvalidFrame_init__ T.dc_InvalidFrame_init__ T.pm_InvalidFrame_init__ T.an_InvalidFrame_init__ T.cd_InvalidFrame_init__ T.ct_InvalidFrame_init__) p_InvalidFrame_init__ [] := T.F_InvalidFrame_init__.binds fun _ _ _ _ _ _ us hl => match us, hl with | [_, _], _ => rfl
theorem ok_InvalidFrame_init__ (T : Tx K mg) : FnOk P w K mg base CX0 1 T.f_InvalidFrame_init__ (PySem.W.fnOf "__init__" "InvalidFrame.__init__" (defArgs s_InvalidFrame_init__) (defBody s_InvalidFrame_init__) (defScope s_InvalidFrame_init__) .none T.kV_InvalidFrame_init__ T.dc_InvalidFrame_init__ T.pm_InvalidFrame_init__ T.an_InvalidFrame_init__ T.cd_InvalidFrame_init__ T.ct_InvalidFrame_init__) p_InvalidFrame_init__ (spI T.C_InvalidFrame ["part"]) :=
  init_1 T.F_InvalidFrame_init__ sc_InvalidFrame_init__ rfl T.ox_InvalidFrame T.xi_InvalidFrame_part rfl rfl
theorem Tx.F_InvalidWord_init__ (T : Tx K mg) : Fun K "__init__" "InvalidWord.__init__" s_InvalidWord_init__ T.f_InvalidWord_init__ (PySem.W.fnOf "__init__" "InvalidWord.__init__" (defArgs s_InvalidWord_init__) (defBody s_InvalidWord_init__) (defScope s_InvalidWord_init__) .none T.kV_InvalidWord_init__ T.dc_InvalidWord_init__ T.pm_InvalidWord_init__ T.an_InvalidWord_init__ T.cd_InvalidWord_init__ T.ct_InvalidWord_init__) := fun_mk T.l_InvalidWord_init__ T.c_InvalidWord_init__ T.k_InvalidWord_init__
theorem Tx.b_InvalidWord_init__ (T : Tx K mg) : Binds K (PySem.W.fnOf "__init__" "InvalidWord.__init__" (defArgs s_InvalidWord_init__) (defBody s_InvalidWord_init__) (defScope s_InvalidWord_init__) .none T.kV_InvalidWord_init__ T.dc_InvalidWord_init__ T.pm_InvalidWord_init__ T.an_InvalidWord_init__ T.cd_InvalidWord_init__ T.ct_InvalidWord_init__) p_InvalidWord_init__ [] := T.F_InvalidWord_init__.binds fun _ _ _ _ _ _ us hl => match us, hl with | [_, _], _ => rfl
theorem ok_InvalidWord_init__ (T : Tx K mg) : FnOk P w K mg base CX0 1 T.f_InvalidWord_init__ (PySem.W.fnOf "__init__" "InvalidWord.__init__" (defArgs s_InvalidWord_init__) (defBody s_InvalidWord_init__) (defScope s_InvalidWord_init__) .none T.kV_InvalidWord_init__ T.dc_InvalidWord_init__ T.pm_InvalidWord_init__ T.an_InvalidWord_init__ T.cd_InvalidWord_init__ T.ct_InvalidWord_init__) p_InvalidWord_init__ (spI T.C_InvalidWord ["part"]) :=
  init_1 T.F_InvalidWord_init__ sc_InvalidWord_init__ rfl T.ox_InvalidWord T.xi_InvalidWord_part rfl rfl
theorem Tx.F_InvalidAddress_init__ (T : Tx K mg) : Fun K "__init__" "InvalidAddress.__init__" s_InvalidAddress_init__ T.f_InvalidAddress_init__ (PySem.W.fnOf "__init__" "InvalidAddress.__init__" (defArgs s_InvalidAddress_init__) (defBody s_InvalidAddress_init__) (defScope s_InvalidAddress_init__) .none T.kV_InvalidAddress_init__ T.dc_InvalidAddress_init__ T.pm_InvalidAddress_init__ T.an_InvalidAddress_init__ T.cd_InvalidAddress_init__ T.ct_InvalidAddress_init__) := fun_mk T.l_InvalidAddress_init__ T.c_InvalidAddress_init__ T.k_InvalidAddress_init__
theorem Tx.b_InvalidAddress_init__ (T : Tx K mg) : Binds K (PySem.W.fnOf "__init__" "InvalidAddress.__init__" (defArgs s_InvalidAddress_init__) (defBody s_InvalidAddress_init__) (defScope s_InvalidAddress_init__) .none T.kV_InvalidAddress_init__ T.dc_InvalidAddress_init__ T.pm_InvalidAddress_init__ T.an_InvalidAddress_init__ T.cd_InvalidAddress_init__ T.ct_InvalidAddress_init__) p_InvalidAddress_init__ [] := T.F_InvalidAddress_init__.binds fun _ _ _ _ _ _ us hl => match us, hl with | [_, _], _ => rfl
theorem ok_InvalidAddress_init__ (T : Tx K mg) : FnOk P w K mg base CX0 1 T.f_InvalidAddress_init__ (PySem.W.fnOf "__init__" "InvalidAddress.__init__" (defArgs s_InvalidAddress_init__) (defBody s_InvalidAddress_init__) (defScope s_InvalidAddress_init__) .none T.kV_InvalidAddress_init__ T.dc_InvalidAddress_init__ T.pm_InvalidAddress_init__ T.an_InvalidAddress_init__ T.cd_InvalidAddress_init__ T.ct_InvalidAddress_init__) p_InvalidAddress_init__ (spI T.C_InvalidAddress ["address"]) :=
  init_1 T.F_InvalidAddress_init__ sc_InvalidAddress_init__ rfl T.ox_InvalidAddress T.xi_InvalidAddress_address rfl rfl
theorem Tx.F_InvalidText_init__ (T : Tx K mg) : Fun K "__init__" "InvalidText.__init__" s_InvalidText_init__ T.f_InvalidText_init__ (PySem.W.fnOf "__init__" "InvalidText.__init__" (defArgs s_InvalidText_init__) (defBody s_InvalidText_init__) (defScope s_InvalidText_init__) .none T.kV_InvalidText_init__ T.dc_InvalidText_init__ T.pm_InvalidText_init__ T.an_InvalidText_init__ T.cd_InvalidText_init__ T.ct_InvalidText_init__) := fun_mk T.l_InvalidText_init__ T.c_InvalidText_init__ T.k_InvalidText_init__
theorem Tx.b_InvalidText_init__ (T : Tx K mg) : Binds K (PySem.W.fnOf "__init__" "InvalidText.__init__" (defArgs s_InvalidText_init__) (defBody s_InvalidText_init__) (defScope s_InvalidText_init__) .none T.kV_InvalidText_init__ T.dc_InvalidText_init__ T.pm_InvalidText_init__ T.an_InvalidText_init__ T.cd_InvalidText_init__ T.ct_InvalidText_init__) p_InvalidText_init__ [] := T.F_InvalidText_init__.binds fun _ _ _ _ _ _ us hl => match us, hl with | [_, _, _], _ => rfl
theorem ok_InvalidText_init__ (T : Tx K mg) : FnOk P w K mg base CX0 1 T.f_InvalidText_init__ (PySem.W.fnOf "__init__" "InvalidText.__init__" (defArgs s_InvalidText_init__) (defBody s_InvalidText_init__) (defScope s_InvalidText_init__) .none T.kV_InvalidText_init__ T.dc_InvalidText_init__ T.pm_InvalidText_init__ T.an_InvalidText_init__ T.cd_InvalidText_init__ T.ct_InvalidText_init__) p_InvalidText_init__ (spI T.C_InvalidText ["line", "word"]) :=
  init_2 T.F_InvalidText_init__ sc_InvalidText_init__ rfl T.ox_InvalidText T.xi_InvalidText_line T.xi_InvalidText_word rfl rfl rfl
theorem Tx.F_FieldClash_init__ (T : Tx K mg) : Fun K "__init__" "FieldClash.__init__" s_FieldClash_init__ T.f_FieldClash_init__ (PySem.W.fnOf "__init__" "FieldClash.__init__" (defArgs s_FieldClash_init__) (defBody s_FieldClash_init__) (defScope s_FieldClash_init__) .none T.kV_FieldClash_init__ T.dc_FieldClash_init__ T.pm_FieldClash_init__ T.an_FieldClash_init__ T.cd_FieldClash_init__ T.ct_FieldClash_init__) := fun_mk T.l_FieldClash_init__ T.c_FieldClash_init__ T.k_FieldClash_init__
theorem Tx.b_FieldClash_init__ (T : Tx K mg) : Binds K (PySem.W.fnOf "__init__" "FieldClash.__init__" (defArgs s_FieldClash_init__) (defBody s_FieldClash_init__) (defScope s_FieldClash_init__) .none T.kV_FieldClash_init__ T.dc_FieldClash_init__ T.pm_FieldClash_init__ T.an_FieldClash_init__ T.cd_FieldClash_init__ T.ct_FieldClash_init__) p_FieldClash_init__ [] := T.F_FieldClash_init__.binds fun _ _ _ _ _ _ us hl => match us, hl with | [_, _, _, _], _ => rfl
theorem ok_FieldClash_init__ (T : Tx K mg) : FnOk P w K mg base CX0 1 T.f_FieldClash_init__ (PySem.W.fnOf "__init__" "FieldClash.__init__" (defArgs s_FieldClash_init__) (defBody s_FieldClash_init__) (defScope s_FieldClash_init__) .none T.kV_FieldClash_init__ T.dc_FieldClash_init__ T.pm_FieldClash_init__ T.an_FieldClash_init__ T.cd_FieldClash_init__ T.ct_FieldClash_init__) p_FieldClash_init__ (spI T.C_FieldClash ["field", "one", "other"]) :=
  init_3 T.F_FieldClash_init__ sc_FieldClash_init__ rfl T.ox_FieldClash T.xi_FieldClash_field T.xi_FieldClash_one T.xi_FieldClash_other rfl rfl rfl rfl
theorem Tx.F_Clash_init__ (T : Tx K mg) : Fun K "__init__" "Clash.__init__" s_Clash_init__ T.f_Clash_init__ (PySem.W.fnOf "__init__" "Clash.__init__" (defArgs s_Clash_init__) (defBody s_Clash_init__) (defScope s_Clash_init__) .none T.kV_Clash_init__ T.dc_Clash_init__ T.pm_Clash_init__ T.an_Clash_init__ T.cd_Clash_init__ T.ct_Clash_init__) := fun_mk T.l_Clash_init__ T.c_Clash_init__ T.k_Clash_init__
theorem Tx.b_Clash_init__ (T : Tx K mg) : Binds K (PySem.W.fnOf "__init__" "Clash.__init__" (defArgs s_Clash_init__) (defBody s_Clash_init__) (defScope s_Clash_init__) .none T.kV_Clash_init__ T.dc_Clash_init__ T.pm_Clash_init__ T.an_Clash_init__ T.cd_Clash_init__ T.ct_Clash_init__) p_Clash_init__ [] := T.F_Clash_init__.binds fun _ _ _ _ _ _ us hl => match us, hl with | [_, _, _], _ => rfl
theorem ok_Clash_init__ (T : Tx K mg) : FnOk P w K mg base CX0 1 T.f_Clash_init__ (PySem.W.fnOf "__init__" "Clash.__init__" (defArgs s_Clash_init__) (defBody s_Clash_init__) (defScope s_Clash_init__) .none T.kV_Clash_init__ T.dc_Clash_init__ T.pm_Clash_init__ T.an_Clash_init__ T.cd_Clash_init__ T.ct_Clash_init__) p_Clash_init__ (spI T.C_Clash ["lesser", "name"]) :=
  init_2 T.F_Clash_init__ sc_Clash_init__ rfl T.ox_Clash T.xi_Clash_lesser T.xi_Clash_name rfl rfl rfl
theorem Tx.F_StateClash_init__ (T : Tx K mg) : Fun K "__init__" "StateClash.__init__" s_StateClash_init__ T.f_StateClash_init__ (PySem.W.fnOf "__init__" "StateClash.__init__" (defArgs s_StateClash_init__) (defBody s_StateClash_init__) (defScope s_StateClash_init__) .none T.kV_StateClash_init__ T.dc_StateClash_init__ T.pm_StateClash_init__ T.an_StateClash_init__ T.cd_StateClash_init__ T.ct_StateClash_init__) := fun_mk T.l_StateClash_init__ T.c_StateClash_init__ T.k_StateClash_init__
theorem Tx.b_StateClash_init__ (T : Tx K mg) : Binds K (PySem.W.fnOf "__init__" "StateClash.__init__" (defArgs s_StateClash_init__) (defBody s_StateClash_init__) (defScope s_StateClash_init__) .none T.kV_StateClash_init__ T.dc_StateClash_init__ T.pm_StateClash_init__ T.an_StateClash_init__ T.cd_StateClash_init__ T.ct_StateClash_init__) p_StateClash_init__ [] := T.F_StateClash_init__.binds fun _ _ _ _ _ _ us hl => match us, hl with | [_, _], _ => rfl
theorem ok_StateClash_init__ (T : Tx K mg) : FnOk P w K mg base CX0 1 T.f_StateClash_init__ (PySem.W.fnOf "__init__" "StateClash.__init__" (defArgs s_StateClash_init__) (defBody s_StateClash_init__) (defScope s_StateClash_init__) .none T.kV_StateClash_init__ T.dc_StateClash_init__ T.pm_StateClash_init__ T.an_StateClash_init__ T.cd_StateClash_init__ T.ct_StateClash_init__) p_StateClash_init__ (spI T.C_StateClash ["name"]) :=
  init_1 T.F_StateClash_init__ sc_StateClash_init__ rfl T.ox_StateClash T.xi_StateClash_name rfl rfl
theorem Tx.F_Locked_init__ (T : Tx K mg) : Fun K "__init__" "Locked.__init__" s_Locked_init__ T.f_Locked_init__ (PySem.W.fnOf "__init__" "Locked.__init__" (defArgs s_Locked_init__) (defBody s_Locked_init__) (defScope s_Locked_init__) .none T.kV_Locked_init__ T.dc_Locked_init__ T.pm_Locked_init__ T.an_Locked_init__ T.cd_Locked_init__ T.ct_Locked_init__) := fun_mk T.l_Locked_init__ T.c_Locked_init__ T.k_Locked_init__
theorem Tx.b_Locked_init__ (T : Tx K mg) : Binds K (PySem.W.fnOf "__init__" "Locked.__init__" (defArgs s_Locked_init__) (defBody s_Locked_init__) (defScope s_Locked_init__) .none T.kV_Locked_init__ T.dc_Locked_init__ T.pm_Locked_init__ T.an_Locked_init__ T.cd_Locked_init__ T.ct_Locked_init__) p_Locked_init__ [] := T.F_Locked_init__.binds fun _ _ _ _ _ _ us hl => match us, hl with | [_, _], _ => rfl
theorem ok_Locked_init__ (T : Tx K mg) : FnOk P w K mg base CX0 1 T.f_Locked_init__ (PySem.W.fnOf "__init__" "Locked.__init__" (defArgs s_Locked_init__) (defBody s_Locked_init__) (defScope s_Locked_init__) .none T.kV_Locked_init__ T.dc_Locked_init__ T.pm_Locked_init__ T.an_Locked_init__ T.cd_Locked_init__ T.ct_Locked_init__) p_Locked_init__ (spI T.C_Locked ["address"]) :=
  init_1 T.F_Locked_init__ sc_Locked_init__ rfl T.ox_Locked T.xi_Locked_address rfl rfl
theorem Tx.F_Blank_init__ (T : Tx K mg) : Fun K "__init__" "Blank.__init__" s_Blank_init__ T.f_Blank_init__ (PySem.W.fnOf "__init__" "Blank.__init__" (defArgs s_Blank_init__) (defBody s_Blank_init__) (defScope s_Blank_init__) .none T.kV_Blank_init__ T.dc_Blank_init__ T.pm_Blank_init__ T.an_Blank_init__ T.cd_Blank_init__ T.ct_Blank_init__) := fun_mk T.l_Blank_init__ T.c_Blank_init__ T.k_Blank_init__
theorem Tx.b_Blank_init__ (T : Tx K mg) : Binds K (PySem.W.fnOf "__init__" "Blank.__init__" (defArgs s_Blank_init__) (defBody s_Blank_init__) (defScope s_Blank_init__) .none T.kV_Blank_init__ T.dc_Blank_init__ T.pm_Blank_init__ T.an_Blank_init__ T.cd_Blank_init__ T.ct_Blank_init__) p_Blank_init__ [] := T.F_Blank_init__.binds fun _ _ _ _ _ _ us hl => match us, hl with | [_, _], _ => rfl
theorem ok_Blank_init__ (T : Tx K mg) : FnOk P w K mg base CX0 1 T.f_Blank_init__ (PySem.W.fnOf "__init__" "Blank.__init__" (defArgs s_Blank_init__) (defBody s_Blank_init__) (defScope s_Blank_init__) .none T.kV_Blank_init__ T.dc_Blank_init__ T.pm_Blank_init__ T.an_Blank_init__ T.cd_Blank_init__ T.ct_Blank_init__) p_Blank_init__ (spI T.C_Blank ["address"]) :=
  init_1 T.F_Blank_init__ sc_Blank_init__ rfl T.ox_Blank T.xi_Blank_address rfl rfl
theorem Tx.F_NotPossible_init__ (T : Tx K mg) : Fun K "__init__" "NotPossible.__init__" s_NotPossible_init__ T.f_NotPossible_init__ (PySem.W.fnOf "__init__" "NotPossible.__init__" (defArgs s_NotPossible_init__) (defBody s_NotPossible_init__) (defScope s_NotPossible_init__) .none T.kV_NotPossible_init__ T.dc_NotPossible_init__ T.pm_NotPossible_init__ T.an_NotPossible_init__ T.cd_NotPossible_init__ T.ct_NotPossible_init__) := fun_mk T.l_NotPossible_init__ T.c_NotPossible_init__ T.k_NotPossible_init__
theorem Tx.b_NotPossible_init__ (T : Tx K mg) : Binds K (PySem.W.fnOf "__init__" "NotPossible.__init__" (defArgs s_NotPossible_init__) (defBody s_NotPossible_init__) (defScope s_NotPossible_init__) .none T.kV_NotPossible_init__ T.dc_NotPossible_init__ T.pm_NotPossible_init__ T.an_NotPossible_init__ T.cd_NotPossible_init__ T.ct_NotPossible_init__) p_NotPossible_init__ [] := T.F_NotPossible_init__.binds fun _ _ _ _ _ _ us hl => match us, hl with | [_, _], _ => rfl
theorem ok_NotPossible_init__ (T : Tx K mg) : FnOk P w K mg base CX0 1 T.f_NotPossible_init__ (PySem.W.fnOf "__init__" "NotPossible.__init__" (defArgs s_NotPossible_init__) (defBody s_NotPossible_init__) (defScope s_NotPossible_init__) .none T.kV_NotPossible_init__ T.dc_NotPossible_init__ T.pm_NotPossible_init__ T.an_NotPossible_init__ T.cd_NotPossible_init__ T.ct_NotPossible_init__) p_NotPossible_init__ (spI T.C_NotPossible ["row"]) :=
  init_1 T.F_NotPossible_init__ sc_NotPossible_init__ rfl T.ox_NotPossible T.xi_NotPossible_row rfl rfl
theorem Tx.F_NoCondition_init__ (T : Tx K mg) : Fun K "__init__" "NoCondition.__init__" s_NoCondition_init__ T.f_NoCondition_init__ (PySem.W.fnOf "__init__" "NoCondition.__init__" (defArgs s_NoCondition_init__) (defBody s_NoCondition_init__) (defScope s_NoCondition_init__) .none T.kV_NoCondition_init__ T.dc_NoCondition_init__ T.pm_NoCondition_init__ T.an_NoCondition_init__ T.cd_NoCondition_init__ T.ct_NoCondition_init__) := fun_mk T.l_NoCondition_init__ T.c_NoCondition_init__ T.k_NoCondition_init__
theorem Tx.b_NoCondition_init__ (T : Tx K mg) : Binds K (PySem.W.fnOf "__init__" "NoCondition.__init__" (defArgs s_NoCondition_init__) (defBody s_NoCondition_init__) (defScope s_NoCondition_init__) .none T.kV_NoCondition_init__ T.dc_NoCondition_init__ T.pm_NoCondition_init__ T.an_NoCondition_init__ T.cd_NoCondition_init__ T.ct_NoCondition_init__) p_NoCondition_init__ [] := T.F_NoCondition_init__.binds fun _ _ _ _ _ _ us hl => match us, hl with | [_, _], _ => rfl
theorem ok_NoCondition_init__ (T : Tx K mg) : FnOk P w K mg base CX0 1 T.f_NoCondition_init__ (PySem.W.fnOf "__init__" "NoCondition.__init__" (defArgs s_NoCondition_init__) (defBody s_NoCondition_init__) (defScope s_NoCondition_init__) .none T.kV_NoCondition_init__ T.dc_NoCondition_init__ T.pm_NoCondition_init__ T.an_NoCondition_init__ T.cd_NoCondition_init__ T.ct_NoCondition_init__) p_NoCondition_init__ (spI T.C_NoCondition ["name"]) :=
  init_1 T.F_NoCondition_init__ sc_NoCondition_init__ rfl T.ox_NoCondition T.xi_NoCondition_name rfl rfl
theorem Tx.F_NoField_init__ (T : Tx K mg) : Fun K "__init__" "NoField.__init__" s_NoField_init__ T.f_NoField_init__ (PySem.W.fnOf "__init__" "NoField.__init__" (defArgs s_NoField_init__) (defBody s_NoField_init__) (defScope s_NoField_init__) .none T.kV_NoField_init__ T.dc_NoField_init__ T.pm_NoField_init__ T.an_NoField_init__ T.cd_NoField_init__ T.ct_NoField_init__) := fun_mk T.l_NoField_init__ T.c_NoField_init__ T.k_NoField_init__
theorem Tx.b_NoField_init__ (T : Tx K mg) : Binds K (PySem.W.fnOf "__init__" "NoField.__init__" (defArgs s_NoField_init__) (defBody s_NoField_init__) (defScope s_NoField_init__) .none T.kV_NoField_init__ T.dc_NoField_init__ T.pm_NoField_init__ T.an_NoField_init__ T.cd_NoField_init__ T.ct_NoField_init__) p_NoField_init__ [] := T.F_NoField_init__.binds fun _ _ _ _ _ _ us hl => match us, hl with | [_, _], _ => rfl
theorem ok_NoField_init__ (T : Tx K mg) : FnOk P w K mg base CX0 1 T.f_NoField_init__ (PySem.W.fnOf "__init__" "NoField.__init__" (defArgs s_NoField_init__) (defBody s_NoField_init__) (defScope s_NoField_init__) .none T.kV_NoField_init__ T.dc_NoField_init__ T.pm_NoField_init__ T.an_NoField_init__ T.cd_NoField_init__ T.ct_NoField_init__) p_NoField_init__ (spI T.C_NoField ["name"]) :=
  init_1 T.F_NoField_init__ sc_NoField_init__ rfl T.ox_NoField T.xi_NoField_name rfl rfl
theorem Tx.F_NoKind_init__ (T : Tx K mg) : Fun K "__init__" "NoKind.__init__" s_NoKind_init__ T.f_NoKind_init__ (PySem.W.fnOf "__init__" "NoKind.__init__" (defArgs s_NoKind_init__) (defBody s_NoKind_init__) (defScope s_NoKind_init__) .none T.kV_NoKind_init__ T.dc_NoKind_init__ T.pm_NoKind_init__ T.an_NoKind_init__ T.cd_NoKind_init__ T.ct_NoKind_init__) := fun_mk T.l_NoKind_init__ T.c_NoKind_init__ T.k_NoKind_init__
theorem Tx.b_NoKind_init__ (T : Tx K mg) : Binds K (PySem.W.fnOf "__init__" "NoKind.__init__" (defArgs s_NoKind_init__) (defBody s_NoKind_init__) (defScope s_NoKind_init__) .none T.kV_NoKind_init__ T.dc_NoKind_init__ T.pm_NoKind_init__ T.an_NoKind_init__ T.cd_NoKind_init__ T.ct_NoKind_init__) p_NoKind_init__ [] := T.F_NoKind_init__.binds fun _ _ _ _ _ _ us hl => match us, hl with | [_, _], _ => rfl
theorem ok_NoKind_init__ (T : Tx K mg) : FnOk P w K mg base CX0 1 T.f_NoKind_init__ (PySem.W.fnOf "__init__" "NoKind.__init__" (defArgs s_NoKind_init__) (defBody s_NoKind_init__) (defScope s_NoKind_init__) .none T.kV_NoKind_init__ T.dc_NoKind_init__ T.pm_NoKind_init__ T.an_NoKind_init__ T.cd_NoKind_init__ T.ct_NoKind_init__) p_NoKind_init__ (spI T.C_NoKind ["name"]) :=
  init_1 T.F_NoKind_init__ sc_NoKind_init__ rfl T.ox_NoKind T.xi_NoKind_name rfl rfl
theorem Tx.F_NoState_init__ (T : Tx K mg) : Fun K "__init__" "NoState.__init__" s_NoState_init__ T.f_NoState_init__ (PySem.W.fnOf "__init__" "NoState.__init__" (defArgs s_NoState_init__) (defBody s_NoState_init__) (defScope s_NoState_init__) .none T.kV_NoState_init__ T.dc_NoState_init__ T.pm_NoState_init__ T.an_NoState_init__ T.cd_NoState_init__ T.ct_NoState_init__) := fun_mk T.l_NoState_init__ T.c_NoState_init__ T.k_NoState_init__
theorem Tx.b_NoState_init__ (T : Tx K mg) : Binds K (PySem.W.fnOf "__init__" "NoState.__init__" (defArgs s_NoState_init__) (defBody s_NoState_init__) (defScope s_NoState_init__) .none T.kV_NoState_init__ T.dc_NoState_init__ T.pm_NoState_init__ T.an_NoState_init__ T.cd_NoState_init__ T.ct_NoState_init__) p_NoState_init__ [] := T.F_NoState_init__.binds fun _ _ _ _ _ _ us hl => match us, hl with | [_, _], _ => rfl
theorem ok_NoState_init__ (T : Tx K mg) : FnOk P w K mg base CX0 1 T.f_NoState_init__ (PySem.W.fnOf "__init__" "NoState.__init__" (defArgs s_NoState_init__) (defBody s_NoState_init__) (defScope s_NoState_init__) .none T.kV_NoState_init__ T.dc_NoState_init__ T.pm_NoState_init__ T.an_NoState_init__ T.cd_NoState_init__ T.ct_NoState_init__) p_NoState_init__ (spI T.C_NoState ["name"]) :=
  init_1 T.F_NoState_init__ sc_NoState_init__ rfl T.ox_NoState T.xi_NoState_name rfl rfl
theorem Tx.F_NoTarget_init__ (T : Tx K mg) : Fun K "__init__" "NoTarget.__init__" s_NoTarget_init__ T.f_NoTarget_init__ (PySem.W.fnOf "__init__" "NoTarget.__init__" (defArgs s_NoTarget_init__) (defBody s_NoTarget_init__) (defScope s_NoTarget_init__) .none T.kV_NoTarget_init__ T.dc_NoTarget_init__ T.pm_NoTarget_init__ T.an_NoTarget_init__ T.cd_NoTarget_init__ T.ct_NoTarget_init__) := fun_mk T.l_NoTarget_init__ T.c_NoTarget_init__ T.k_NoTarget_init__
theorem Tx.b_NoTarget_init__ (T : Tx K mg) : Binds K (PySem.W.fnOf "__init__" "NoTarget.__init__" (defArgs s_NoTarget_init__) (defBody s_NoTarget_init__) (defScope s_NoTarget_init__) .none T.kV_NoTarget_init__ T.dc_NoTarget_init__ T.pm_NoTarget_init__ T.an_NoTarget_init__ T.cd_NoTarget_init__ T.ct_NoTarget_init__) p_NoTarget_init__ [] := T.F_NoTarget_init__.binds fun _ _ _ _ _ _ us hl => match us, hl with | [_, _], _ => rfl
theorem ok_NoTarget_init__ (T : Tx K mg) : FnOk P w K mg base CX0 1 T.f_NoTarget_init__ (PySem.W.fnOf "__init__" "NoTarget.__init__" (defArgs s_NoTarget_init__) (defBody s_NoTarget_init__) (defScope s_NoTarget_init__) .none T.kV_NoTarget_init__ T.dc_NoTarget_init__ T.pm_NoTarget_init__ T.an_NoTarget_init__ T.cd_NoTarget_init__ T.ct_NoTarget_init__) p_NoTarget_init__ (spI T.C_NoTarget ["value"]) :=
  init_1 T.F_NoTarget_init__ sc_NoTarget_init__ rfl T.ox_NoTarget T.xi_NoTarget_value rfl rfl
theorem Tx.F_NoClass_init__ (T : Tx K mg) : Fun K "__init__" "NoClass.__init__" s_NoClass_init__ T.f_NoClass_init__ (PySem.W.fnOf "__init__" "NoClass.__init__" (defArgs s_NoClass_init__) (defBody s_NoClass_init__) (defScope s_NoClass_init__) .none T.kV_NoClass_init__ T.dc_NoClass_init__ T.pm_NoClass_init__ T.an_NoClass_init__ T.cd_NoClass_init__ T.ct_NoClass_init__) := fun_mk T.l_NoClass_init__ T.c_NoClass_init__ T.k_NoClass_init__
theorem Tx.b_NoClass_init__ (T : Tx K mg) : Binds K (PySem.W.fnOf "__init__" "NoClass.__init__" (defArgs s_NoClass_init__) (defBody s_NoClass_init__) (defScope s_NoClass_init__) .none T.kV_NoClass_init__ T.dc_NoClass_init__ T.pm_NoClass_init__ T.an_NoClass_init__ T.cd_NoClass_init__ T.ct_NoClass_init__) p_NoClass_init__ [] := T.F_NoClass_init__.binds fun _ _ _ _ _ _ us hl => match us, hl with | [_, _], _ => rfl
theorem ok_NoClass_init__ (T : Tx K mg) : FnOk P w K mg base CX0 1 T.f_NoClass_init__ (PySem.W.fnOf "__init__" "NoClass.__init__" (defArgs s_NoClass_init__) (defBody s_NoClass_init__) (defScope s_NoClass_init__) .none T.kV_NoClass_init__ T.dc_NoClass_init__ T.pm_NoClass_init__ T.an_NoClass_init__ T.cd_NoClass_init__ T.ct_NoClass_init__) p_NoClass_init__ (spI T.C_NoClass ["value"]) :=
  init_1 T.F_NoClass_init__ sc_NoClass_init__ rfl T.ox_NoClass T.xi_NoClass_value rfl rfl
theorem Tx.F_NoLanding_init__ (T : Tx K mg) : Fun K "__init__" "NoLanding.__init__" s_NoLanding_init__ T.f_NoLanding_init__ (PySem.W.fnOf "__init__" "NoLanding.__init__" (defArgs s_NoLanding_init__) (defBody s_NoLanding_init__) (defScope s_NoLanding_init__) .none T.kV_NoLanding_init__ T.dc_NoLanding_init__ T.pm_NoLanding_init__ T.an_NoLanding_init__ T.cd_NoLanding_init__ T.ct_NoLanding_init__) := fun_mk T.l_NoLanding_init__ T.c_NoLanding_init__ T.k_NoLanding_init__
theorem Tx.b_NoLanding_init__ (T : Tx K mg) : Binds K (PySem.W.fnOf "__init__" "NoLanding.__init__" (defArgs s_NoLanding_init__) (defBody s_NoLanding_init__) (defScope s_NoLanding_init__) .none T.kV_NoLanding_init__ T.dc_NoLanding_init__ T.pm_NoLanding_init__ T.an_NoLanding_init__ T.cd_NoLanding_init__ T.ct_NoLanding_init__) p_NoLanding_init__ [] := T.F_NoLanding_init__.binds fun _ _ _ _ _ _ us hl => match us, hl with | [_, _], _ => rfl
theorem ok_NoLanding_init__ (T : Tx K mg) : FnOk P w K mg base CX0 1 T.f_NoLanding_init__ (PySem.W.fnOf "__init__" "NoLanding.__init__" (defArgs s_NoLanding_init__) (defBody s_NoLanding_init__) (defScope s_NoLanding_init__) .none T.kV_NoLanding_init__ T.dc_NoLanding_init__ T.pm_NoLanding_init__ T.an_NoLanding_init__ T.cd_NoLanding_init__ T.ct_NoLanding_init__) p_NoLanding_init__ (spI T.C_NoLanding ["value"]) :=
  init_1 T.F_NoLanding_init__ sc_NoLanding_init__ rfl T.ox_NoLanding T.xi_NoLanding_value rfl rfl
theorem Tx.F_NoCase_init__ (T : Tx K mg) : Fun K "__init__" "NoCase.__init__" s_NoCase_init__ T.f_NoCase_init__ (PySem.W.fnOf "__init__" "NoCase.__init__" (defArgs s_NoCase_init__) (defBody s_NoCase_init__) (defScope s_NoCase_init__) .none T.kV_NoCase_init__ T.dc_NoCase_init__ T.pm_NoCase_init__ T.an_NoCase_init__ T.cd_NoCase_init__ T.ct_NoCase_init__) := fun_mk T.l_NoCase_init__ T.c_NoCase_init__ T.k_NoCase_init__
theorem Tx.b_NoCase_init__ (T : Tx K mg) : Binds K (PySem.W.fnOf "__init__" "NoCase.__init__" (defArgs s_NoCase_init__) (defBody s_NoCase_init__) (defScope s_NoCase_init__) .none T.kV_NoCase_init__ T.dc_NoCase_init__ T.pm_NoCase_init__ T.an_NoCase_init__ T.cd_NoCase_init__ T.ct_NoCase_init__) p_NoCase_init__ [] := T.F_NoCase_init__.binds fun _ _ _ _ _ _ us hl => match us, hl with | [_, _], _ => rfl
theorem ok_NoCase_init__ (T : Tx K mg) : FnOk P w K mg base CX0 1 T.f_NoCase_init__ (PySem.W.fnOf "__init__" "NoCase.__init__" (defArgs s_NoCase_init__) (defBody s_NoCase_init__) (defScope s_NoCase_init__) .none T.kV_NoCase_init__ T.dc_NoCase_init__ T.pm_NoCase_init__ T.an_NoCase_init__ T.cd_NoCase_init__ T.ct_NoCase_init__) p_NoCase_init__ (spI T.C_NoCase ["case"]) :=
  init_1 T.F_NoCase_init__ sc_NoCase_init__ rfl T.ox_NoCase T.xi_NoCase_case rfl rfl
theorem Tx.F_NotReady_init__ (T : Tx K mg) : Fun K "__init__" "NotReady.__init__" s_NotReady_init__ T.f_NotReady_init__ (PySem.W.fnOf "__init__" "NotReady.__init__" (defArgs s_NotReady_init__) (defBody s_NotReady_init__) (defScope s_NotReady_init__) .none T.kV_NotReady_init__ T.dc_NotReady_init__ T.pm_NotReady_init__ T.an_NotReady_init__ T.cd_NotReady_init__ T.ct_NotReady_init__) := fun_mk T.l_NotReady_init__ T.c_NotReady_init__ T.k_NotReady_init__
theorem Tx.b_NotReady_init__ (T : Tx K mg) : Binds K (PySem.W.fnOf "__init__" "NotReady.__init__" (defArgs s_NotReady_init__) (defBody s_NotReady_init__) (defScope s_NotReady_init__) .none T.kV_NotReady_init__ T.dc_NotReady_init__ T.pm_NotReady_init__ T.an_NotReady_init__ T.cd_NotReady_init__ T.ct_NotReady_init__) p_NotReady_init__ [] := T.F_NotReady_init__.binds fun _ _ _ _ _ _ us hl => match us, hl with | [_, _], _ => rfl
theorem ok_NotReady_init__ (T : Tx K mg) : FnOk P w K mg base CX0 1 T.f_NotReady_init__ (PySem.W.fnOf "__init__" "NotReady.__init__" (defArgs s_NotReady_init__) (defBody s_NotReady_init__) (defScope s_NotReady_init__) .none T.kV_NotReady_init__ T.dc_NotReady_init__ T.pm_NotReady_init__ T.an_NotReady_init__ T.cd_NotReady_init__ T.ct_NotReady_init__) p_NotReady_init__ (spI T.C_NotReady ["part"]) :=
  init_1 T.F_NotReady_init__ sc_NotReady_init__ rfl T.ox_NotReady T.xi_NotReady_part rfl rfl
theorem Tx.F_Taken_init__ (T : Tx K mg) : Fun K "__init__" "Taken.__init__" s_Taken_init__ T.f_Taken_init__ (PySem.W.fnOf "__init__" "Taken.__init__" (defArgs s_Taken_init__) (defBody s_Taken_init__) (defScope s_Taken_init__) .none T.kV_Taken_init__ T.dc_Taken_init__ T.pm_Taken_init__ T.an_Taken_init__ T.cd_Taken_init__ T.ct_Taken_init__) := fun_mk T.l_Taken_init__ T.c_Taken_init__ T.k_Taken_init__
theorem Tx.b_Taken_init__ (T : Tx K mg) : Binds K (PySem.W.fnOf "__init__" "Taken.__init__" (defArgs s_Taken_init__) (defBody s_Taken_init__) (defScope s_Taken_init__) .none T.kV_Taken_init__ T.dc_Taken_init__ T.pm_Taken_init__ T.an_Taken_init__ T.cd_Taken_init__ T.ct_Taken_init__) p_Taken_init__ [] := T.F_Taken_init__.binds fun _ _ _ _ _ _ us hl => match us, hl with | [_, _], _ => rfl
theorem ok_Taken_init__ (T : Tx K mg) : FnOk P w K mg base CX0 1 T.f_Taken_init__ (PySem.W.fnOf "__init__" "Taken.__init__" (defArgs s_Taken_init__) (defBody s_Taken_init__) (defScope s_Taken_init__) .none T.kV_Taken_init__ T.dc_Taken_init__ T.pm_Taken_init__ T.an_Taken_init__ T.cd_Taken_init__ T.ct_Taken_init__) p_Taken_init__ (spI T.C_Taken ["name"]) :=
  init_1 T.F_Taken_init__ sc_Taken_init__ rfl T.ox_Taken T.xi_Taken_name rfl rfl
theorem Tx.F_WrongCount_init__ (T : Tx K mg) : Fun K "__init__" "WrongCount.__init__" s_WrongCount_init__ T.f_WrongCount_init__ (PySem.W.fnOf "__init__" "WrongCount.__init__" (defArgs s_WrongCount_init__) (defBody s_WrongCount_init__) (defScope s_WrongCount_init__) .none T.kV_WrongCount_init__ T.dc_WrongCount_init__ T.pm_WrongCount_init__ T.an_WrongCount_init__ T.cd_WrongCount_init__ T.ct_WrongCount_init__) := fun_mk T.l_WrongCount_init__ T.c_WrongCount_init__ T.k_WrongCount_init__
theorem Tx.b_WrongCount_init__ (T : Tx K mg) : Binds K (PySem.W.fnOf "__init__" "WrongCount.__init__" (defArgs s_WrongCount_init__) (defBody s_WrongCount_init__) (defScope s_WrongCount_init__) .none T.kV_WrongCount_init__ T.dc_WrongCount_init__ T.pm_WrongCount_init__ T.an_WrongCount_init__ T.cd_WrongCount_init__ T.ct_WrongCount_init__) p_WrongCount_init__ [] := T.F_WrongCount_init__.binds fun _ _ _ _ _ _ us hl => match us, hl with | [_, _], _ => rfl
theorem ok_WrongCount_init__ (T : Tx K mg) : FnOk P w K mg base CX0 1 T.f_WrongCount_init__ (PySem.W.fnOf "__init__" "WrongCount.__init__" (defArgs s_WrongCount_init__) (defBody s_WrongCount_init__) (defScope s_WrongCount_init__) .none T.kV_WrongCount_init__ T.dc_WrongCount_init__ T.pm_WrongCount_init__ T.an_WrongCount_init__ T.cd_WrongCount_init__ T.ct_WrongCount_init__) p_WrongCount_init__ (spI T.C_WrongCount ["wanted"]) :=
  init_1 T.F_WrongCount_init__ sc_WrongCount_init__ rfl T.ox_WrongCount T.xi_WrongCount_wanted rfl rfl
theorem Tx.F_TooMany_init__ (T : Tx K mg) : Fun K "__init__" "TooMany.__init__" s_TooMany_init__ T.f_TooMany_init__ (PySem.W.fnOf "__init__" "TooMany.__init__" (defArgs s_TooMany_init__) (defBody s_TooMany_init__) (defScope s_TooMany_init__) .none T.kV_TooMany_init__ T.dc_TooMany_init__ T.pm_TooMany_init__ T.an_TooMany_init__ T.cd_TooMany_init__ T.ct_TooMany_init__) := fun_mk T.l_TooMany_init__ T.c_TooMany_init__ T.k_TooMany_init__
theorem Tx.b_TooMany_init__ (T : Tx K mg) : Binds K (PySem.W.fnOf "__init__" "TooMany.__init__" (defArgs s_TooMany_init__) (defBody s_TooMany_init__) (defScope s_TooMany_init__) .none T.kV_TooMany_init__ T.dc_TooMany_init__ T.pm_TooMany_init__ T.an_TooMany_init__ T.cd_TooMany_init__ T.ct_TooMany_init__) p_TooMany_init__ [] := T.F_TooMany_init__.binds fun _ _ _ _ _ _ us hl => match us, hl with | [_, _], _ => rfl
theorem ok_TooMany_init__ (T : Tx K mg) : FnOk P w K mg base CX0 1 T.f_TooMany_init__ (PySem.W.fnOf "__init__" "TooMany.__init__" (defArgs s_TooMany_init__) (defBody s_TooMany_init__) (defScope s_TooMany_init__) .none T.kV_TooMany_init__ T.dc_TooMany_init__ T.pm_TooMany_init__ T.an_TooMany_init__ T.cd_TooMany_init__ T.ct_TooMany_init__) p_TooMany_init__ (spI T.C_TooMany ["part"]) :=
  init_1 T.F_TooMany_init__ sc_TooMany_init__ rfl T.ox_TooMany T.xi_TooMany_part rfl rfl
theorem Tx.F_TooLarge_init__ (T : Tx K mg) : Fun K "__init__" "TooLarge.__init__" s_TooLarge_init__ T.f_TooLarge_init__ (PySem.W.fnOf "__init__" "TooLarge.__init__" (defArgs s_TooLarge_init__) (defBody s_TooLarge_init__) (defScope s_TooLarge_init__) .none T.kV_TooLarge_init__ T.dc_TooLarge_init__ T.pm_TooLarge_init__ T.an_TooLarge_init__ T.cd_TooLarge_init__ T.ct_TooLarge_init__) := fun_mk T.l_TooLarge_init__ T.c_TooLarge_init__ T.k_TooLarge_init__
theorem Tx.b_TooLarge_init__ (T : Tx K mg) : Binds K (PySem.W.fnOf "__init__" "TooLarge.__init__" (defArgs s_TooLarge_init__) (defBody s_TooLarge_init__) (defScope s_TooLarge_init__) .none T.kV_TooLarge_init__ T.dc_TooLarge_init__ T.pm_TooLarge_init__ T.an_TooLarge_init__ T.cd_TooLarge_init__ T.ct_TooLarge_init__) p_TooLarge_init__ [] := T.F_TooLarge_init__.binds fun _ _ _ _ _ _ us hl => match us, hl with | [_, _], _ => rfl
theorem ok_TooLarge_init__ (T : Tx K mg) : FnOk P w K mg base CX0 1 T.f_TooLarge_init__ (PySem.W.fnOf "__init__" "TooLarge.__init__" (defArgs s_TooLarge_init__) (defBody s_TooLarge_init__) (defScope s_TooLarge_init__) .none T.kV_TooLarge_init__ T.dc_TooLarge_init__ T.pm_TooLarge_init__ T.an_TooLarge_init__ T.cd_TooLarge_init__ T.ct_TooLarge_init__) p_TooLarge_init__ (spI T.C_TooLarge ["limit"]) :=
  init_1 T.F_TooLarge_init__ sc_TooLarge_init__ rfl T.ox_TooLarge T.xi_TooLarge_limit rfl rfl
theorem Tx.F_law_pen (T : Tx K mg) : Fun K "_law_pen" "_law_pen" s_law_pen T.f_law_pen (PySem.W.fnOf "_law_pen" "_law_pen" (defArgs s_law_pen) (defBody s_law_pen) (defScope s_law_pen) .none T.kV_law_pen T.dc_law_pen T.pm_law_pen T.an_law_pen T.cd_law_pen T.ct_law_pen) := fun_mk T.l_law_pen T.c_law_pen T.k_law_pen
theorem Tx.b_law_pen (T : Tx K mg) : Binds K (PySem.W.fnOf "_law_pen" "_law_pen" (defArgs s_law_pen) (defBody s_law_pen) (defScope s_law_pen) .none T.kV_law_pen T.dc_law_pen T.pm_law_pen T.an_law_pen T.cd_law_pen T.ct_law_pen) p_law_pen [] := T.F_law_pen.binds fun _ _ _ _ _ _ us hl => match us, hl with | [_], _ => rfl
theorem ok_law_pen (T : Tx K mg) : FnOk P w K mg base CX0 2 T.f_law_pen (PySem.W.fnOf "_law_pen" "_law_pen" (defArgs s_law_pen) (defBody s_law_pen) (defScope s_law_pen) .none T.kV_law_pen T.dc_law_pen T.pm_law_pen T.an_law_pen T.cd_law_pen T.ct_law_pen) p_law_pen (toSp K sp_law_pen) :=
  dfn2 T.F_law_pen sc_law_pen len_law_pen fun B cdv A outer s H E hr => ⟨w_law_pen,
    (ds_one (d_ret (d_lstM (da_cons (d_callTy (callListA rfl) cListA_ok (by rfl) T.z_list (by decide +kernel) (da_cons (d_sl (d_var (i := 0)) do_none (do_some d_int)) da_nil)) (da_cons d_int (da_cons d_int da_nil)))))),
    wp_law_pen⟩
theorem Tx.F_law_draw (T : Tx K mg) : Fun K "_law_draw" "_law_draw" s_law_draw T.f_law_draw (PySem.W.fnOf "_law_draw" "_law_draw" (defArgs s_law_draw) (defBody s_law_draw) (defScope s_law_draw) .none T.kV_law_draw T.dc_law_draw T.pm_law_draw T.an_law_draw T.cd_law_draw T.ct_law_draw) := fun_mk T.l_law_draw T.c_law_draw T.k_law_draw
theorem Tx.b_law_draw (T : Tx K mg) : Binds K (PySem.W.fnOf "_law_draw" "_law_draw" (defArgs s_law_draw) (defBody s_law_draw) (defScope s_law_draw) .none T.kV_law_draw T.dc_law_draw T.pm_law_draw T.an_law_draw T.cd_law_draw T.ct_law_draw) p_law_draw [] := T.F_law_draw.binds fun _ _ _ _ _ _ us hl => match us, hl with | [_, _], _ => rfl
theorem ok_law_draw (T : Tx K mg) : FnOk P w K mg base CX0 2 T.f_law_draw (PySem.W.fnOf "_law_draw" "_law_draw" (defArgs s_law_draw) (defBody s_law_draw) (defScope s_law_draw) .none T.kV_law_draw T.dc_law_draw T.pm_law_draw T.an_law_draw T.cd_law_draw T.ct_law_draw) p_law_draw (toSp K sp_law_draw) :=
  dfn2 T.F_law_draw sc_law_draw len_law_draw fun B cdv A outer s H E hr => ⟨w_law_draw,
    (ds_cons (d_if (d_cmpT op_gt oGt_ok (d_ix (d_var (i := 0)) d_int) d_int (nomark _)) (ds_cons (d_set (i := 5) sc_law_draw.nd (d_op op_mod oMod_ok (d_callTy call_int1 cInt_ok (by rfl) T.z_int (by decide +kernel) (da_cons (d_ix (d_var (i := 0)) d_int) da_nil)) (d_var (i := 1))))
    (ds_cons (d_asg (d_op op_fdivW oFdiv_ok (d_ix (d_var (i := 0)) d_int) (d_var (i := 1))) (dg_ixL (d_var (i := 0)) d_int))
    (ds_one (d_ret (d_var (i := 5)))))) ds_nil)
    (ds_cons (d_set (i := 2) sc_law_draw.nd (d_ix (d_var (i := 0)) d_int))
    (ds_cons (d_asg (d_op opAdd oAdd_ok (d_var (i := 2)) d_int) (dg_ixL (d_var (i := 0)) d_int))
    (ds_cons (d_set (i := 3) sc_law_draw.nd (d_op opAdd oAdd_ok (d_op opMul oMul_ok d_int (d_var (i := 2))) d_int))
    (ds_cons (d_if (d_cmpT (opNe hr.units) oNeI_ok (d_ix (d_var (i := 0)) d_int) (d_lst da_nil) (nomark _)) (ds_one (d_set (i := 3) sc_law_draw.nd (d_ix (d_ix (d_var (i := 0)) d_int) (d_op op_mod oMod_ok (d_callTy call_int1 cInt_ok (by rfl) T.z_int (by decide +kernel) (da_cons (d_var (i := 2)) da_nil)) (d_callB callLen cLen_ok (by rfl) T.z_len (by decide +kernel) (da_cons (d_ix (d_var (i := 0)) d_int) da_nil)))))) ds_nil)
    (ds_cons (d_if (L2.PW.pt (d_and (d_cmpT op_lt oLt_ok (d_var (i := 2)) (d_callB callLen cLen_ok (by rfl) T.z_len (by decide +kernel) (da_cons (d_ix (d_var (i := 0)) d_int) da_nil)) (nomark _)) (d_and1 (d_cmpT op_ge oGe_ok (d_callB call_abs cAbs_ok (by rfl) T.z_abs (by decide +kernel) (da_cons (d_var (i := 3)) da_nil)) (d_op op_pow oPow_ok d_int d_int) (nomark _))))) (ds_cons (d_set (i := 6) sc_law_draw.nd (d_op opAdd oAdd_ok (d_op opMul oMul_ok d_int (d_op op_sub oSub_ok (d_callB call_abs cAbs_ok (by rfl) T.z_abs (by decide +kernel) (da_cons (d_var (i := 3)) da_nil)) (d_op op_pow oPow_ok d_int d_int))) (d_callTy call_int1 cInt_ok (by rfl) T.z_int (by decide +kernel) (da_cons (d_cmp op_lt oLt_ok (d_var (i := 3)) d_int (nomark _)) da_nil))))
    (ds_cons (d_asg (d_op op_fdivW oFdiv_ok (d_var (i := 6)) (d_var (i := 1))) (dg_ixL (d_var (i := 0)) d_int))
    (ds_one (d_ret (d_op op_mod oMod_ok (d_callTy call_int1 cInt_ok (by rfl) T.z_int (by decide +kernel) (da_cons (d_var (i := 6)) da_nil)) (d_var (i := 1))))))) ds_nil)
    (ds_cons (d_set (i := 4) sc_law_draw.nd (d_op op_mod oMod_ok (d_callTy call_int1 cInt_ok (by rfl) T.z_int (by decide +kernel) (da_cons (d_op op_pow oPow_ok (d_op opAdd oAdd_ok (d_op opAdd oAdd_ok (d_op op_mod oMod_ok (d_callTy call_int1 cInt_ok (by rfl) T.z_int (by decide +kernel) (da_cons (d_var (i := 3)) da_nil)) d_int) (d_op opMul oMul_ok d_int (d_var (i := 2)))) d_int) d_int) da_nil)) d_int))
    (ds_cons (d_set (i := 4) sc_law_draw.nd (d_op op_mod oMod_ok (d_callTy call_int1 cInt_ok (by rfl) T.z_int (by decide +kernel) (da_cons (d_op op_pow oPow_ok (d_op opAdd oAdd_ok (d_op opAdd oAdd_ok (d_op opMul oMul_ok (d_var (i := 4)) (d_op opAdd oAdd_ok (d_op opMul oMul_ok d_int (d_var (i := 2))) d_int)) (d_op opMul oMul_ok (d_op opMul oMul_ok d_int (d_var (i := 2))) (d_var (i := 2)))) d_int) d_int) da_nil)) d_int))
    (ds_one (d_ret (d_op op_mod oMod_ok (d_callTy call_int1 cInt_ok (by rfl) T.z_int (by decide +kernel) (da_cons (d_op op_fdivW oFdiv_ok (d_var (i := 4)) d_int) da_nil)) (d_var (i := 1))))))))))))),
    wp_law_draw⟩
theorem Tx.F_law_pick (T : Tx K mg) : Fun K "_law_pick" "_law_pick" s_law_pick T.f_law_pick (PySem.W.fnOf "_law_pick" "_law_pick" (defArgs s_law_pick) (defBody s_law_pick) (defScope s_law_pick) .none T.kV_law_pick T.dc_law_pick T.pm_law_pick T.an_law_pick T.cd_law_pick T.ct_law_pick) := fun_mk T.l_law_pick T.c_law_pick T.k_law_pick
theorem Tx.b_law_pick (T : Tx K mg) : Binds K (PySem.W.fnOf "_law_pick" "_law_pick" (defArgs s_law_pick) (defBody s_law_pick) (defScope s_law_pick) .none T.kV_law_pick T.dc_law_pick T.pm_law_pick T.an_law_pick T.cd_law_pick T.ct_law_pick) p_law_pick [] := T.F_law_pick.binds fun _ _ _ _ _ _ us hl => match us, hl with | [_, _], _ => rfl
theorem ok_law_pick (T : Tx K mg) : FnOk P w K mg base CX0 4 T.f_law_pick (PySem.W.fnOf "_law_pick" "_law_pick" (defArgs s_law_pick) (defBody s_law_pick) (defScope s_law_pick) .none T.kV_law_pick T.dc_law_pick T.pm_law_pick T.an_law_pick T.cd_law_pick T.ct_law_pick) p_law_pick (toSp K sp_law_pick) :=
  dfn2 T.F_law_pick sc_law_pick len_law_pick fun B cdv A outer s H E hr => ⟨w_law_pick,
    (ds_one (d_ret (d_ix (d_var (i := 1)) (d_call (ok_law_draw T) (hr.mono (by decide)) (by rfl) T.g_law_draw T.F_law_draw.kp T.b_law_draw .nil (fun _ _ => .nil) (da_cons (d_var (i := 0)) (da_cons (d_callB callLen cLen_ok (by rfl) T.z_len (by decide +kernel) (da_cons (d_var (i := 1)) da_nil)) da_nil)))))),
    wp_law_pick⟩
theorem Tx.F_law_thing (T : Tx K mg) : Fun K "_law_thing" "_law_thing" s_law_thing T.f_law_thing (PySem.W.fnOf "_law_thing" "_law_thing" (defArgs s_law_thing) (defBody s_law_thing) (defScope s_law_thing) .none T.kV_law_thing T.dc_law_thing T.pm_law_thing T.an_law_thing T.cd_law_thing T.ct_law_thing) := fun_mk T.l_law_thing T.c_law_thing T.k_law_thing
theorem Tx.b_law_thing (T : Tx K mg) : Binds K (PySem.W.fnOf "_law_thing" "_law_thing" (defArgs s_law_thing) (defBody s_law_thing) (defScope s_law_thing) .none T.kV_law_thing T.dc_law_thing T.pm_law_thing T.an_law_thing T.cd_law_thing T.ct_law_thing) p_law_thing [] := T.F_law_thing.binds fun _ _ _ _ _ _ us hl => match us, hl with | [_], _ => rfl
theorem ok_law_thing (T : Tx K mg) : FnOk P w K mg base CX0 6 T.f_law_thing (PySem.W.fnOf "_law_thing" "_law_thing" (defArgs s_law_thing) (defBody s_law_thing) (defScope s_law_thing) .none T.kV_law_thing T.dc_law_thing T.pm_law_thing T.an_law_thing T.cd_law_thing T.ct_law_thing) p_law_thing (toSp K sp_law_thing) :=
  dfn2 T.F_law_thing sc_law_thing len_law_thing fun B cdv A outer s H E hr => ⟨w_law_thing,
    (ds_cons (d_set (i := 1) sc_law_thing.nd (d_call (ok_law_draw T) (hr.mono (by decide)) (by rfl) T.g_law_draw T.F_law_draw.kp T.b_law_draw .nil (fun _ _ => .nil) (da_cons (d_var (i := 0)) (da_cons (d_op op_pow oPow_ok d_int d_int) da_nil))))
    (ds_cons (d_set (i := 2) sc_law_thing.nd (d_lst (da_cons (d_var (i := 1)) (da_cons (d_op op_sub oSub_ok d_int (d_var (i := 1))) (da_cons d_non (da_cons d_bl (da_cons d_bl (da_cons d_str (da_cons d_str (da_cons d_str (da_cons (d_tup da_nil) (da_cons (d_tup (da_cons (d_var (i := 1)) (da_cons d_str da_nil))) (da_cons (d_lst (da_cons (d_var (i := 1)) da_nil)) (da_cons (d_dict0 false) da_nil))))))))))))))
    (ds_one (d_ret (d_call (ok_law_pick T) (hr.mono (by decide)) (by rfl) T.g_law_pick T.F_law_pick.kp T.b_law_pick .nil (fun _ _ => .nil) (da_cons (d_var (i := 0)) (da_cons (d_op opAdd oAdd_ok (d_var (i := 2)) (d_lst (da_cons (d_disp (ws := [((wC (.str "a")), (wVar 1))]) (pps_cons d_str (d_var (i := 1)) pps_nil) rfl rfl (fun z => by cases z) (by decide)) (da_cons (d_lst (da_cons (d_lst (da_cons (d_var (i := 1)) da_nil)) (da_cons d_str da_nil))) (da_cons (d_tup (da_cons (d_tup da_nil) (da_cons (d_tup (da_cons d_str (da_cons d_str da_nil))) da_nil))) (da_cons (d_op op_pow oPow_ok d_int d_int) da_nil)))))) da_nil))))))),
    wp_law_thing⟩
theorem Tx.F_law_kinds (T : Tx K mg) : Fun K "_law_kinds" "_law_kinds" s_law_kinds T.f_law_kinds (PySem.W.fnOf "_law_kinds" "_law_kinds" (defArgs s_law_kinds) (defBody s_law_kinds) (defScope s_law_kinds) .none T.kV_law_kinds T.dc_law_kinds T.pm_law_kinds T.an_law_kinds T.cd_law_kinds T.ct_law_kinds) := fun_mk T.l_law_kinds T.c_law_kinds T.k_law_kinds
theorem Tx.b_law_kinds (T : Tx K mg) : Binds K (PySem.W.fnOf "_law_kinds" "_law_kinds" (defArgs s_law_kinds) (defBody s_law_kinds) (defScope s_law_kinds) .none T.kV_law_kinds T.dc_law_kinds T.pm_law_kinds T.an_law_kinds T.cd_law_kinds T.ct_law_kinds) p_law_kinds [] := T.F_law_kinds.binds fun _ _ _ _ _ _ us hl => match us, hl with | [_], _ => rfl
theorem ok_law_kinds (T : Tx K mg) : FnOk P w K mg base CX0 2 T.f_law_kinds (PySem.W.fnOf "_law_kinds" "_law_kinds" (defArgs s_law_kinds) (defBody s_law_kinds) (defScope s_law_kinds) .none T.kV_law_kinds T.dc_law_kinds T.pm_law_kinds T.an_law_kinds T.cd_law_kinds T.ct_law_kinds) p_law_kinds (toSp K sp_law_kinds) :=
  dfn2 T.F_law_kinds sc_law_kinds len_law_kinds fun B cdv A outer s H E hr => ⟨w_law_kinds,
    (ds_cons (d_set (i := 1) sc_law_kinds.nd (d_lst (da_cons (d_callB call_isK (cIsE_ok T.ke) (by rfl) T.z_isinstance (by decide +kernel) (da_cons (d_var (i := 0)) (da_cons (d_gcls (by rfl) T.m_InvalidName T.at_InvalidName) da_nil))) (da_cons (d_callB call_isK (cIsE_ok T.ke) (by rfl) T.z_isinstance (by decide +kernel) (da_cons (d_var (i := 0)) (da_cons (d_gcls (by rfl) T.m_InvalidNumber T.at_InvalidNumber) da_nil))) da_nil))))
    (ds_cons (d_set (i := 1) sc_law_kinds.nd (d_op opAdd oAdd_ok (d_var (i := 1)) (d_lst (da_cons (d_callB call_isK (cIsE_ok T.ke) (by rfl) T.z_isinstance (by decide +kernel) (da_cons (d_var (i := 0)) (da_cons (d_gcls (by rfl) T.m_InvalidRow T.at_InvalidRow) da_nil))) (da_cons (d_callB call_isK (cIsE_ok T.ke) (by rfl) T.z_isinstance (by decide +kernel) (da_cons (d_var (i := 0)) (da_cons (d_gcls (by rfl) T.m_NoTarget T.at_NoTarget) da_nil))) da_nil)))))
    (ds_cons (d_set (i := 1) sc_law_kinds.nd (d_op opAdd oAdd_ok (d_var (i := 1)) (d_lst (da_cons (d_callB call_isK (cIsE_ok T.ke) (by rfl) T.z_isinstance (by decide +kernel) (da_cons (d_var (i := 0)) (da_cons (d_gcls (by rfl) T.m_NoClass T.at_NoClass) da_nil))) (da_cons (d_callB call_isK (cIsE_ok T.ke) (by rfl) T.z_isinstance (by decide +kernel) (da_cons (d_var (i := 0)) (da_cons (d_gcls (by rfl) T.m_NoLanding T.at_NoLanding) da_nil))) da_nil)))))
    (ds_cons (d_set (i := 1) sc_law_kinds.nd (d_op opAdd oAdd_ok (d_var (i := 1)) (d_lst (da_cons (d_callB call_isK (cIsE_ok T.ke) (by rfl) T.z_isinstance (by decide +kernel) (da_cons (d_var (i := 0)) (da_cons (d_gcls (by rfl) T.m_InvalidRows T.at_InvalidRows) da_nil))) (da_cons (d_callB call_isK (cIsE_ok T.ke) (by rfl) T.z_isinstance (by decide +kernel) (da_cons (d_var (i := 0)) (da_cons (d_gcls (by rfl) T.m_InvalidKind T.at_InvalidKind) da_nil))) da_nil)))))
    (ds_cons (d_set (i := 1) sc_law_kinds.nd (d_op opAdd oAdd_ok (d_var (i := 1)) (d_lst (da_cons (d_callB call_isK (cIsE_ok T.ke) (by rfl) T.z_isinstance (by decide +kernel) (da_cons (d_var (i := 0)) (da_cons (d_gcls (by rfl) T.m_InvalidFrame T.at_InvalidFrame) da_nil))) (da_cons (d_callB call_isK (cIsE_ok T.ke) (by rfl) T.z_isinstance (by decide +kernel) (da_cons (d_var (i := 0)) (da_cons (d_gcls (by rfl) T.m_InvalidWord T.at_InvalidWord) da_nil))) da_nil)))))
    (ds_cons (d_set (i := 1) sc_law_kinds.nd (d_op opAdd oAdd_ok (d_var (i := 1)) (d_lst (da_cons (d_callB call_isK (cIsE_ok T.ke) (by rfl) T.z_isinstance (by decide +kernel) (da_cons (d_var (i := 0)) (da_cons (d_gcls (by rfl) T.m_NotReady T.at_NotReady) da_nil))) (da_cons (d_callB call_isK (cIsE_ok T.ke) (by rfl) T.z_isinstance (by decide +kernel) (da_cons (d_var (i := 0)) (da_cons (d_gcls (by rfl) T.m_TooMany T.at_TooMany) da_nil))) da_nil)))))
    (ds_cons (d_set (i := 1) sc_law_kinds.nd (d_op opAdd oAdd_ok (d_var (i := 1)) (d_lst (da_cons (d_callB call_isK (cIsE_ok T.ke) (by rfl) T.z_isinstance (by decide +kernel) (da_cons (d_var (i := 0)) (da_cons (d_gcls (by rfl) T.m_InvalidAddress T.at_InvalidAddress) da_nil))) (da_cons (d_callB call_isK (cIsE_ok T.ke) (by rfl) T.z_isinstance (by decide +kernel) (da_cons (d_var (i := 0)) (da_cons (d_gcls (by rfl) T.m_Locked T.at_Locked) da_nil))) da_nil)))))
    (ds_cons (d_set (i := 1) sc_law_kinds.nd (d_op opAdd oAdd_ok (d_var (i := 1)) (d_lst (da_cons (d_callB call_isK (cIsE_ok T.ke) (by rfl) T.z_isinstance (by decide +kernel) (da_cons (d_var (i := 0)) (da_cons (d_gcls (by rfl) T.m_Blank T.at_Blank) da_nil))) (da_cons (d_callB call_isK (cIsE_ok T.ke) (by rfl) T.z_isinstance (by decide +kernel) (da_cons (d_var (i := 0)) (da_cons (d_gcls (by rfl) T.m_StateClash T.at_StateClash) da_nil))) da_nil)))))
    (ds_cons (d_set (i := 1) sc_law_kinds.nd (d_op opAdd oAdd_ok (d_var (i := 1)) (d_lst (da_cons (d_callB call_isK (cIsE_ok T.ke) (by rfl) T.z_isinstance (by decide +kernel) (da_cons (d_var (i := 0)) (da_cons (d_gcls (by rfl) T.m_NoCondition T.at_NoCondition) da_nil))) (da_cons (d_callB call_isK (cIsE_ok T.ke) (by rfl) T.z_isinstance (by decide +kernel) (da_cons (d_var (i := 0)) (da_cons (d_gcls (by rfl) T.m_NoField T.at_NoField) da_nil))) da_nil)))))
    (ds_cons (d_set (i := 1) sc_law_kinds.nd (d_op opAdd oAdd_ok (d_var (i := 1)) (d_lst (da_cons (d_callB call_isK (cIsE_ok T.ke) (by rfl) T.z_isinstance (by decide +kernel) (da_cons (d_var (i := 0)) (da_cons (d_gcls (by rfl) T.m_NoKind T.at_NoKind) da_nil))) (da_cons (d_callB call_isK (cIsE_ok T.ke) (by rfl) T.z_isinstance (by decide +kernel) (da_cons (d_var (i := 0)) (da_cons (d_gcls (by rfl) T.m_NoState T.at_NoState) da_nil))) da_nil)))))
    (ds_cons (d_set (i := 1) sc_law_kinds.nd (d_op opAdd oAdd_ok (d_var (i := 1)) (d_lst (da_cons (d_callB call_isK (cIsE_ok T.ke) (by rfl) T.z_isinstance (by decide +kernel) (da_cons (d_var (i := 0)) (da_cons (d_gcls (by rfl) T.m_Taken T.at_Taken) da_nil))) (da_cons (d_callB call_isK (cIsE_ok T.ke) (by rfl) T.z_isinstance (by decide +kernel) (da_cons (d_var (i := 0)) (da_cons (d_gcls (by rfl) T.m_NotPossible T.at_NotPossible) da_nil))) da_nil)))))
    (ds_cons (d_set (i := 1) sc_law_kinds.nd (d_op opAdd oAdd_ok (d_var (i := 1)) (d_lst (da_cons (d_callB call_isK (cIsE_ok T.ke) (by rfl) T.z_isinstance (by decide +kernel) (da_cons (d_var (i := 0)) (da_cons (d_gcls (by rfl) T.m_NoCase T.at_NoCase) da_nil))) (da_cons (d_callB call_isK (cIsE_ok T.ke) (by rfl) T.z_isinstance (by decide +kernel) (da_cons (d_var (i := 0)) (da_cons (d_gcls (by rfl) T.m_WrongCount T.at_WrongCount) da_nil))) da_nil)))))
    (ds_cons (d_set (i := 1) sc_law_kinds.nd (d_op opAdd oAdd_ok (d_var (i := 1)) (d_lst (da_cons (d_callB call_isK (cIsE_ok T.ke) (by rfl) T.z_isinstance (by decide +kernel) (da_cons (d_var (i := 0)) (da_cons (d_gcls (by rfl) T.m_TooLarge T.at_TooLarge) da_nil))) (da_cons (d_callB call_isK (cIsE_ok T.ke) (by rfl) T.z_isinstance (by decide +kernel) (da_cons (d_var (i := 0)) (da_cons (d_gcls (by rfl) T.m_InvalidText T.at_InvalidText) da_nil))) da_nil)))))
    (ds_cons (d_set (i := 1) sc_law_kinds.nd (d_op opAdd oAdd_ok (d_var (i := 1)) (d_lst (da_cons (d_callB call_isK (cIsE_ok T.ke) (by rfl) T.z_isinstance (by decide +kernel) (da_cons (d_var (i := 0)) (da_cons (d_gcls (by rfl) T.m_FieldClash T.at_FieldClash) da_nil))) (da_cons (d_callB call_isK (cIsE_ok T.ke) (by rfl) T.z_isinstance (by decide +kernel) (da_cons (d_var (i := 0)) (da_cons (d_gcls (by rfl) T.m_Clash T.at_Clash) da_nil))) da_nil)))))
    (ds_cons (d_set (i := 1) sc_law_kinds.nd (d_op opAdd oAdd_ok (d_var (i := 1)) (d_lst (da_cons (d_callB call_isK (cIsE_ok T.ke) (by rfl) T.z_isinstance (by decide +kernel) (da_cons (d_var (i := 0)) (da_cons (d_gcls (by rfl) T.m_NoStates T.at_NoStates) da_nil))) (da_cons (d_callB call_isK (cIsE_ok T.ke) (by rfl) T.z_isinstance (by decide +kernel) (da_cons (d_var (i := 0)) (da_cons (d_gcls (by rfl) T.m_NoEntries T.at_NoEntries) da_nil))) da_nil)))))
    (ds_cons (d_set (i := 1) sc_law_kinds.nd (d_op opAdd oAdd_ok (d_var (i := 1)) (d_lst (da_cons (d_callB call_isK (cIsE_ok T.ke) (by rfl) T.z_isinstance (by decide +kernel) (da_cons (d_var (i := 0)) (da_cons (d_gcls (by rfl) T.m_NotEnd T.at_NotEnd) da_nil))) (da_cons (d_callB call_isK (cIsE_ok T.ke) (by rfl) T.z_isinstance (by decide +kernel) (da_cons (d_var (i := 0)) (da_cons (d_gcls (by rfl) T.m_NotCarried T.at_NotCarried) da_nil))) da_nil)))))
    (ds_cons (d_set (i := 1) sc_law_kinds.nd (d_op opAdd oAdd_ok (d_var (i := 1)) (d_lst (da_cons (d_callB call_isK (cIsE_ok T.ke) (by rfl) T.z_isinstance (by decide +kernel) (da_cons (d_var (i := 0)) (da_cons (d_gcls (by rfl) T.m_Unlike T.at_Unlike) da_nil))) da_nil))))
    (ds_one (d_ret (d_lc (own := [("_law_at", 2), ("_law_is_one", 3)]) rfl sc_law_kinds.nd (di_enumerate (by rfl) T.z_enumerate (da_cons (d_var (i := 1)) da_nil)) (blkOk_by (by show blkC N_law_kinds (defScope s_law_kinds) _ _ = true; decide +kernel)) (fun _ _ _ _ _ => pg_tup rfl (pgs_cons (pg_name (i := 2) sc_law_kinds.nd rfl (Or.inl rfl)) (pgs_cons (pg_name (i := 3) sc_law_kinds.nd rfl (Or.inl rfl)) pgs_nil))) (binds_two (by decide) (by decide)) (fun _ _ _ _ _ => (dts_one (d_truth (d_var (i := 3))))) (fun _ _ _ _ _ => (d_var (i := 2))))))))))))))))))))))),
    wp_law_kinds⟩
theorem Tx.F_law_is_based (T : Tx K mg) : Fun K "_law_is_based" "_law_is_based" s_law_is_based T.f_law_is_based (PySem.W.fnOf "_law_is_based" "_law_is_based" (defArgs s_law_is_based) (defBody s_law_is_based) (defScope s_law_is_based) .none T.kV_law_is_based T.dc_law_is_based T.pm_law_is_based T.an_law_is_based T.cd_law_is_based T.ct_law_is_based) := fun_mk T.l_law_is_based T.c_law_is_based T.k_law_is_based
theorem Tx.b_law_is_based (T : Tx K mg) : Binds K (PySem.W.fnOf "_law_is_based" "_law_is_based" (defArgs s_law_is_based) (defBody s_law_is_based) (defScope s_law_is_based) .none T.kV_law_is_based T.dc_law_is_based T.pm_law_is_based T.an_law_is_based T.cd_law_is_based T.ct_law_is_based) p_law_is_based [] := T.F_law_is_based.binds fun _ _ _ _ _ _ us hl => match us, hl with | [_], _ => rfl
theorem ok_law_is_based (T : Tx K mg) : FnOk P w K mg base CX0 2 T.f_law_is_based (PySem.W.fnOf "_law_is_based" "_law_is_based" (defArgs s_law_is_based) (defBody s_law_is_based) (defScope s_law_is_based) .none T.kV_law_is_based T.dc_law_is_based T.pm_law_is_based T.an_law_is_based T.cd_law_is_based T.ct_law_is_based) p_law_is_based (toSp K sp_law_is_based) :=
  dfn2 T.F_law_is_based sc_law_is_based len_law_is_based fun B cdv A outer s H E hr => ⟨w_law_is_based,
    (ds_cons (d_set (i := 1) sc_law_is_based.nd (d_callB call_isKT (cIsET_ok T.ke) (by rfl) T.z_isinstance (by decide +kernel) (da_cons (d_var (i := 0)) (da_cons (d_tup (da_cons (d_ty T.z_KeyError (by decide +kernel)) (da_cons (d_ty T.z_IndexError (by decide +kernel)) (da_cons (d_ty T.z_LookupError (by decide +kernel)) (da_cons (d_ty T.z_ArithmeticError (by decide +kernel)) (da_cons (d_ty T.z_OverflowError (by decide +kernel)) da_nil)))))) da_nil))))
    (ds_cons (d_set (i := 1) sc_law_is_based.nd (d_orV (d_var (i := 1)) (d_one (d_callB call_isKT (cIsET_ok T.ke) (by rfl) T.z_isinstance (by decide +kernel) (da_cons (d_var (i := 0)) (da_cons (d_tup (da_cons (d_ty T.z_TypeError (by decide +kernel)) (da_cons (d_ty T.z_RuntimeError (by decide +kernel)) da_nil))) da_nil))))))
    (ds_one (d_ret (d_andV (d_callB call_isK (cIsE_ok T.ke) (by rfl) T.z_isinstance (by decide +kernel) (da_cons (d_var (i := 0)) (da_cons (d_gcls (by rfl) T.m_OrError T.at_OrError) da_nil))) (d_andV (d_callB call_isK (cIsE_ok T.ke) (by rfl) T.z_isinstance (by decide +kernel) (da_cons (d_var (i := 0)) (da_cons (d_ty T.z_ValueError (by decide +kernel)) da_nil))) (d_one (d_notV (d_var (i := 1)))))))))),
    wp_law_is_based⟩
theorem Tx.F_law_values (T : Tx K mg) : Fun K "_law_values" "_law_values" s_law_values T.f_law_values (PySem.W.fnOf "_law_values" "_law_values" (defArgs s_law_values) (defBody s_law_values) (defScope s_law_values) .none T.kV_law_values T.dc_law_values T.pm_law_values T.an_law_values T.cd_law_values T.ct_law_values) := fun_mk T.l_law_values T.c_law_values T.k_law_values
theorem Tx.b_law_values (T : Tx K mg) : Binds K (PySem.W.fnOf "_law_values" "_law_values" (defArgs s_law_values) (defBody s_law_values) (defScope s_law_values) .none T.kV_law_values T.dc_law_values T.pm_law_values T.an_law_values T.cd_law_values T.ct_law_values) p_law_values [] := T.F_law_values.binds fun _ _ _ _ _ _ us hl => match us, hl with | [_], _ => rfl
theorem ok_law_values (T : Tx K mg) : FnOk P w K mg base CX0 3 T.f_law_values (PySem.W.fnOf "_law_values" "_law_values" (defArgs s_law_values) (defBody s_law_values) (defScope s_law_values) .none T.kV_law_values T.dc_law_values T.pm_law_values T.an_law_values T.cd_law_values T.ct_law_values) p_law_values (toSp K sp_law_values) :=
  dfn2 T.F_law_values sc_law_values len_law_values fun B cdv A outer s H E hr => ⟨w_law_values,
    (ds_cons (d_set (i := 1) sc_law_values.nd (d_lstM da_nil))
    (ds_cons (d_exp (d_bm PySem.F.plainAttrs_list PySem.F.slot_list_append PySem.F.type_list_append mt_append mAppend_ok (d_var (i := 1)) (da_cons (d_tup (da_cons (d_mkE T.at_InvalidName T.ox_InvalidName T.ii_InvalidName T.ti_InvalidName (ok_InvalidName_init__ T) (by decide) (hr.mono (by decide)) T.b_InvalidName_init__ (by rfl) T.m_InvalidName (da_cons (d_var (i := 0)) da_nil)) (da_cons (d_xe (XeTab.cons T.at_InvalidName T.xf_InvalidName T.xa_InvalidName_value XeTab.nil).look (d_mkE T.at_InvalidName T.ox_InvalidName T.ii_InvalidName T.ti_InvalidName (ok_InvalidName_init__ T) (by decide) (hr.mono (by decide)) T.b_InvalidName_init__ (by rfl) T.m_InvalidName (da_cons (d_var (i := 0)) da_nil))) da_nil))) da_nil)))
    (ds_cons (d_exp (d_bm PySem.F.plainAttrs_list PySem.F.slot_list_append PySem.F.type_list_append mt_append mAppend_ok (d_var (i := 1)) (da_cons (d_tup (da_cons (d_mkE T.at_InvalidNumber T.ox_InvalidNumber T.ii_InvalidNumber T.ti_InvalidNumber (ok_InvalidNumber_init__ T) (by decide) (hr.mono (by decide)) T.b_InvalidNumber_init__ (by rfl) T.m_InvalidNumber (da_cons (d_var (i := 0)) da_nil)) (da_cons (d_xe (XeTab.cons T.at_InvalidNumber T.xf_InvalidNumber T.xa_InvalidNumber_value XeTab.nil).look (d_mkE T.at_InvalidNumber T.ox_InvalidNumber T.ii_InvalidNumber T.ti_InvalidNumber (ok_InvalidNumber_init__ T) (by decide) (hr.mono (by decide)) T.b_InvalidNumber_init__ (by rfl) T.m_InvalidNumber (da_cons (d_var (i := 0)) da_nil))) da_nil))) da_nil)))
    (ds_cons (d_exp (d_bm PySem.F.plainAttrs_list PySem.F.slot_list_append PySem.F.type_list_append mt_append mAppend_ok (d_var (i := 1)) (da_cons (d_tup (da_cons (d_mkE T.at_InvalidRow T.ox_InvalidRow T.ii_InvalidRow T.ti_InvalidRow (ok_InvalidRow_init__ T) (by decide) (hr.mono (by decide)) T.b_InvalidRow_init__ (by rfl) T.m_InvalidRow (da_cons (d_var (i := 0)) da_nil)) (da_cons (d_xe (XeTab.cons T.at_InvalidRow T.xf_InvalidRow T.xa_InvalidRow_value XeTab.nil).look (d_mkE T.at_InvalidRow T.ox_InvalidRow T.ii_InvalidRow T.ti_InvalidRow (ok_InvalidRow_init__ T) (by decide) (hr.mono (by decide)) T.b_InvalidRow_init__ (by rfl) T.m_InvalidRow (da_cons (d_var (i := 0)) da_nil))) da_nil))) da_nil)))
    (ds_cons (d_exp (d_bm PySem.F.plainAttrs_list PySem.F.slot_list_append PySem.F.type_list_append mt_append mAppend_ok (d_var (i := 1)) (da_cons (d_tup (da_cons (d_mkE T.at_NoTarget T.ox_NoTarget T.ii_NoTarget T.ti_NoTarget (ok_NoTarget_init__ T) (by decide) (hr.mono (by decide)) T.b_NoTarget_init__ (by rfl) T.m_NoTarget (da_cons (d_var (i := 0)) da_nil)) (da_cons (d_xe (XeTab.cons T.at_NoTarget T.xf_NoTarget T.xa_NoTarget_value XeTab.nil).look (d_mkE T.at_NoTarget T.ox_NoTarget T.ii_NoTarget T.ti_NoTarget (ok_NoTarget_init__ T) (by decide) (hr.mono (by decide)) T.b_NoTarget_init__ (by rfl) T.m_NoTarget (da_cons (d_var (i := 0)) da_nil))) da_nil))) da_nil)))
    (ds_cons (d_exp (d_bm PySem.F.plainAttrs_list PySem.F.slot_list_append PySem.F.type_list_append mt_append mAppend_ok (d_var (i := 1)) (da_cons (d_tup (da_cons (d_mkE T.at_NoClass T.ox_NoClass T.ii_NoClass T.ti_NoClass (ok_NoClass_init__ T) (by decide) (hr.mono (by decide)) T.b_NoClass_init__ (by rfl) T.m_NoClass (da_cons (d_var (i := 0)) da_nil)) (da_cons (d_xe (XeTab.cons T.at_NoClass T.xf_NoClass T.xa_NoClass_value XeTab.nil).look (d_mkE T.at_NoClass T.ox_NoClass T.ii_NoClass T.ti_NoClass (ok_NoClass_init__ T) (by decide) (hr.mono (by decide)) T.b_NoClass_init__ (by rfl) T.m_NoClass (da_cons (d_var (i := 0)) da_nil))) da_nil))) da_nil)))
    (ds_cons (d_exp (d_bm PySem.F.plainAttrs_list PySem.F.slot_list_append PySem.F.type_list_append mt_append mAppend_ok (d_var (i := 1)) (da_cons (d_tup (da_cons (d_mkE T.at_NoLanding T.ox_NoLanding T.ii_NoLanding T.ti_NoLanding (ok_NoLanding_init__ T) (by decide) (hr.mono (by decide)) T.b_NoLanding_init__ (by rfl) T.m_NoLanding (da_cons (d_var (i := 0)) da_nil)) (da_cons (d_xe (XeTab.cons T.at_NoLanding T.xf_NoLanding T.xa_NoLanding_value XeTab.nil).look (d_mkE T.at_NoLanding T.ox_NoLanding T.ii_NoLanding T.ti_NoLanding (ok_NoLanding_init__ T) (by decide) (hr.mono (by decide)) T.b_NoLanding_init__ (by rfl) T.m_NoLanding (da_cons (d_var (i := 0)) da_nil))) da_nil))) da_nil)))
    (ds_cons (d_exp (d_bm PySem.F.plainAttrs_list PySem.F.slot_list_append PySem.F.type_list_append mt_append mAppend_ok (d_var (i := 1)) (da_cons (d_tup (da_cons (d_mkE T.at_InvalidRows T.ox_InvalidRows T.ii_InvalidRows T.ti_InvalidRows (ok_InvalidRows_init__ T) (by decide) (hr.mono (by decide)) T.b_InvalidRows_init__ (by rfl) T.m_InvalidRows (da_cons (d_var (i := 0)) da_nil)) (da_cons (d_xe (XeTab.cons T.at_InvalidRows T.xf_InvalidRows T.xa_InvalidRows_part XeTab.nil).look (d_mkE T.at_InvalidRows T.ox_InvalidRows T.ii_InvalidRows T.ti_InvalidRows (ok_InvalidRows_init__ T) (by decide) (hr.mono (by decide)) T.b_InvalidRows_init__ (by rfl) T.m_InvalidRows (da_cons (d_var (i := 0)) da_nil))) da_nil))) da_nil)))
    (ds_cons (d_exp (d_bm PySem.F.plainAttrs_list PySem.F.slot_list_append PySem.F.type_list_append mt_append mAppend_ok (d_var (i := 1)) (da_cons (d_tup (da_cons (d_mkE T.at_InvalidKind T.ox_InvalidKind T.ii_InvalidKind T.ti_InvalidKind (ok_InvalidKind_init__ T) (by decide) (hr.mono (by decide)) T.b_InvalidKind_init__ (by rfl) T.m_InvalidKind (da_cons (d_var (i := 0)) da_nil)) (da_cons (d_xe (XeTab.cons T.at_InvalidKind T.xf_InvalidKind T.xa_InvalidKind_part XeTab.nil).look (d_mkE T.at_InvalidKind T.ox_InvalidKind T.ii_InvalidKind T.ti_InvalidKind (ok_InvalidKind_init__ T) (by decide) (hr.mono (by decide)) T.b_InvalidKind_init__ (by rfl) T.m_InvalidKind (da_cons (d_var (i := 0)) da_nil))) da_nil))) da_nil)))
    (ds_cons (d_exp (d_bm PySem.F.plainAttrs_list PySem.F.slot_list_append PySem.F.type_list_append mt_append mAppend_ok (d_var (i := 1)) (da_cons (d_tup (da_cons (d_mkE T.at_InvalidFrame T.ox_InvalidFrame T.ii_InvalidFrame T.ti_InvalidFrame (ok_InvalidFrame_init__ T) (by decide) (hr.mono (by decide)) T.b_InvalidFrame_init__ (by rfl) T.m_InvalidFrame (da_cons (d_var (i := 0)) da_nil)) (da_cons (d_xe (XeTab.cons T.at_InvalidFrame T.xf_InvalidFrame T.xa_InvalidFrame_part XeTab.nil).look (d_mkE T.at_InvalidFrame T.ox_InvalidFrame T.ii_InvalidFrame T.ti_InvalidFrame (ok_InvalidFrame_init__ T) (by decide) (hr.mono (by decide)) T.b_InvalidFrame_init__ (by rfl) T.m_InvalidFrame (da_cons (d_var (i := 0)) da_nil))) da_nil))) da_nil)))
    (ds_cons (d_exp (d_bm PySem.F.plainAttrs_list PySem.F.slot_list_append PySem.F.type_list_append mt_append mAppend_ok (d_var (i := 1)) (da_cons (d_tup (da_cons (d_mkE T.at_InvalidWord T.ox_InvalidWord T.ii_InvalidWord T.ti_InvalidWord (ok_InvalidWord_init__ T) (by decide) (hr.mono (by decide)) T.b_InvalidWord_init__ (by rfl) T.m_InvalidWord (da_cons (d_var (i := 0)) da_nil)) (da_cons (d_xe (XeTab.cons T.at_InvalidWord T.xf_InvalidWord T.xa_InvalidWord_part XeTab.nil).look (d_mkE T.at_InvalidWord T.ox_InvalidWord T.ii_InvalidWord T.ti_InvalidWord (ok_InvalidWord_init__ T) (by decide) (hr.mono (by decide)) T.b_InvalidWord_init__ (by rfl) T.m_InvalidWord (da_cons (d_var (i := 0)) da_nil))) da_nil))) da_nil)))
    (ds_cons (d_exp (d_bm PySem.F.plainAttrs_list PySem.F.slot_list_append PySem.F.type_list_append mt_append mAppend_ok (d_var (i := 1)) (da_cons (d_tup (da_cons (d_mkE T.at_NotReady T.ox_NotReady T.ii_NotReady T.ti_NotReady (ok_NotReady_init__ T) (by decide) (hr.mono (by decide)) T.b_NotReady_init__ (by rfl) T.m_NotReady (da_cons (d_var (i := 0)) da_nil)) (da_cons (d_xe (XeTab.cons T.at_NotReady T.xf_NotReady T.xa_NotReady_part XeTab.nil).look (d_mkE T.at_NotReady T.ox_NotReady T.ii_NotReady T.ti_NotReady (ok_NotReady_init__ T) (by decide) (hr.mono (by decide)) T.b_NotReady_init__ (by rfl) T.m_NotReady (da_cons (d_var (i := 0)) da_nil))) da_nil))) da_nil)))
    (ds_cons (d_exp (d_bm PySem.F.plainAttrs_list PySem.F.slot_list_append PySem.F.type_list_append mt_append mAppend_ok (d_var (i := 1)) (da_cons (d_tup (da_cons (d_mkE T.at_TooMany T.ox_TooMany T.ii_TooMany T.ti_TooMany (ok_TooMany_init__ T) (by decide) (hr.mono (by decide)) T.b_TooMany_init__ (by rfl) T.m_TooMany (da_cons (d_var (i := 0)) da_nil)) (da_cons (d_xe (XeTab.cons T.at_TooMany T.xf_TooMany T.xa_TooMany_part XeTab.nil).look (d_mkE T.at_TooMany T.ox_TooMany T.ii_TooMany T.ti_TooMany (ok_TooMany_init__ T) (by decide) (hr.mono (by decide)) T.b_TooMany_init__ (by rfl) T.m_TooMany (da_cons (d_var (i := 0)) da_nil))) da_nil))) da_nil)))
    (ds_one (d_retF (d_var (i := 1))))))))))))))))),
    wp_law_values⟩
theorem Tx.F_law_places (T : Tx K mg) : Fun K "_law_places" "_law_places" s_law_places T.f_law_places (PySem.W.fnOf "_law_places" "_law_places" (defArgs s_law_places) (defBody s_law_places) (defScope s_law_places) .none T.kV_law_places T.dc_law_places T.pm_law_places T.an_law_places T.cd_law_places T.ct_law_places) := fun_mk T.l_law_places T.c_law_places T.k_law_places
theorem Tx.b_law_places (T : Tx K mg) : Binds K (PySem.W.fnOf "_law_places" "_law_places" (defArgs s_law_places) (defBody s_law_places) (defScope s_law_places) .none T.kV_law_places T.dc_law_places T.pm_law_places T.an_law_places T.cd_law_places T.ct_law_places) p_law_places [] := T.F_law_places.binds fun _ _ _ _ _ _ us hl => match us, hl with | [_], _ => rfl
theorem ok_law_places (T : Tx K mg) : FnOk P w K mg base CX0 3 T.f_law_places (PySem.W.fnOf "_law_places" "_law_places" (defArgs s_law_places) (defBody s_law_places) (defScope s_law_places) .none T.kV_law_places T.dc_law_places T.pm_law_places T.an_law_places T.cd_law_places T.ct_law_places) p_law_places (toSp K sp_law_places) :=
  dfn2 T.F_law_places sc_law_places len_law_places fun B cdv A outer s H E hr => ⟨w_law_places,
    (ds_cons (d_set (i := 1) sc_law_places.nd (d_lstM da_nil))
    (ds_cons (d_exp (d_bm PySem.F.plainAttrs_list PySem.F.slot_list_append PySem.F.type_list_append mt_append mAppend_ok (d_var (i := 1)) (da_cons (d_tup (da_cons (d_mkE T.at_InvalidAddress T.ox_InvalidAddress T.ii_InvalidAddress T.ti_InvalidAddress (ok_InvalidAddress_init__ T) (by decide) (hr.mono (by decide)) T.b_InvalidAddress_init__ (by rfl) T.m_InvalidAddress (da_cons (d_var (i := 0)) da_nil)) (da_cons (d_xe (XeTab.cons T.at_InvalidAddress T.xf_InvalidAddress T.xa_InvalidAddress_address XeTab.nil).look (d_mkE T.at_InvalidAddress T.ox_InvalidAddress T.ii_InvalidAddress T.ti_InvalidAddress (ok_InvalidAddress_init__ T) (by decide) (hr.mono (by decide)) T.b_InvalidAddress_init__ (by rfl) T.m_InvalidAddress (da_cons (d_var (i := 0)) da_nil))) da_nil))) da_nil)))
    (ds_cons (d_exp (d_bm PySem.F.plainAttrs_list PySem.F.slot_list_append PySem.F.type_list_append mt_append mAppend_ok (d_var (i := 1)) (da_cons (d_tup (da_cons (d_mkE T.at_Locked T.ox_Locked T.ii_Locked T.ti_Locked (ok_Locked_init__ T) (by decide) (hr.mono (by decide)) T.b_Locked_init__ (by rfl) T.m_Locked (da_cons (d_var (i := 0)) da_nil)) (da_cons (d_xe (XeTab.cons T.at_Locked T.xf_Locked T.xa_Locked_address XeTab.nil).look (d_mkE T.at_Locked T.ox_Locked T.ii_Locked T.ti_Locked (ok_Locked_init__ T) (by decide) (hr.mono (by decide)) T.b_Locked_init__ (by rfl) T.m_Locked (da_cons (d_var (i := 0)) da_nil))) da_nil))) da_nil)))
    (ds_cons (d_exp (d_bm PySem.F.plainAttrs_list PySem.F.slot_list_append PySem.F.type_list_append mt_append mAppend_ok (d_var (i := 1)) (da_cons (d_tup (da_cons (d_mkE T.at_Blank T.ox_Blank T.ii_Blank T.ti_Blank (ok_Blank_init__ T) (by decide) (hr.mono (by decide)) T.b_Blank_init__ (by rfl) T.m_Blank (da_cons (d_var (i := 0)) da_nil)) (da_cons (d_xe (XeTab.cons T.at_Blank T.xf_Blank T.xa_Blank_address XeTab.nil).look (d_mkE T.at_Blank T.ox_Blank T.ii_Blank T.ti_Blank (ok_Blank_init__ T) (by decide) (hr.mono (by decide)) T.b_Blank_init__ (by rfl) T.m_Blank (da_cons (d_var (i := 0)) da_nil))) da_nil))) da_nil)))
    (ds_cons (d_exp (d_bm PySem.F.plainAttrs_list PySem.F.slot_list_append PySem.F.type_list_append mt_append mAppend_ok (d_var (i := 1)) (da_cons (d_tup (da_cons (d_mkE T.at_StateClash T.ox_StateClash T.ii_StateClash T.ti_StateClash (ok_StateClash_init__ T) (by decide) (hr.mono (by decide)) T.b_StateClash_init__ (by rfl) T.m_StateClash (da_cons (d_var (i := 0)) da_nil)) (da_cons (d_xe (XeTab.cons T.at_StateClash T.xf_StateClash T.xa_StateClash_name XeTab.nil).look (d_mkE T.at_StateClash T.ox_StateClash T.ii_StateClash T.ti_StateClash (ok_StateClash_init__ T) (by decide) (hr.mono (by decide)) T.b_StateClash_init__ (by rfl) T.m_StateClash (da_cons (d_var (i := 0)) da_nil))) da_nil))) da_nil)))
    (ds_cons (d_exp (d_bm PySem.F.plainAttrs_list PySem.F.slot_list_append PySem.F.type_list_append mt_append mAppend_ok (d_var (i := 1)) (da_cons (d_tup (da_cons (d_mkE T.at_NoCondition T.ox_NoCondition T.ii_NoCondition T.ti_NoCondition (ok_NoCondition_init__ T) (by decide) (hr.mono (by decide)) T.b_NoCondition_init__ (by rfl) T.m_NoCondition (da_cons (d_var (i := 0)) da_nil)) (da_cons (d_xe (XeTab.cons T.at_NoCondition T.xf_NoCondition T.xa_NoCondition_name XeTab.nil).look (d_mkE T.at_NoCondition T.ox_NoCondition T.ii_NoCondition T.ti_NoCondition (ok_NoCondition_init__ T) (by decide) (hr.mono (by decide)) T.b_NoCondition_init__ (by rfl) T.m_NoCondition (da_cons (d_var (i := 0)) da_nil))) da_nil))) da_nil)))
    (ds_cons (d_exp (d_bm PySem.F.plainAttrs_list PySem.F.slot_list_append PySem.F.type_list_append mt_append mAppend_ok (d_var (i := 1)) (da_cons (d_tup (da_cons (d_mkE T.at_NoField T.ox_NoField T.ii_NoField T.ti_NoField (ok_NoField_init__ T) (by decide) (hr.mono (by decide)) T.b_NoField_init__ (by rfl) T.m_NoField (da_cons (d_var (i := 0)) da_nil)) (da_cons (d_xe (XeTab.cons T.at_NoField T.xf_NoField T.xa_NoField_name XeTab.nil).look (d_mkE T.at_NoField T.ox_NoField T.ii_NoField T.ti_NoField (ok_NoField_init__ T) (by decide) (hr.mono (by decide)) T.b_NoField_init__ (by rfl) T.m_NoField (da_cons (d_var (i := 0)) da_nil))) da_nil))) da_nil)))
    (ds_cons (d_exp (d_bm PySem.F.plainAttrs_list PySem.F.slot_list_append PySem.F.type_list_append mt_append mAppend_ok (d_var (i := 1)) (da_cons (d_tup (da_cons (d_mkE T.at_NoKind T.ox_NoKind T.ii_NoKind T.ti_NoKind (ok_NoKind_init__ T) (by decide) (hr.mono (by decide)) T.b_NoKind_init__ (by rfl) T.m_NoKind (da_cons (d_var (i := 0)) da_nil)) (da_cons (d_xe (XeTab.cons T.at_NoKind T.xf_NoKind T.xa_NoKind_name XeTab.nil).look (d_mkE T.at_NoKind T.ox_NoKind T.ii_NoKind T.ti_NoKind (ok_NoKind_init__ T) (by decide) (hr.mono (by decide)) T.b_NoKind_init__ (by rfl) T.m_NoKind (da_cons (d_var (i := 0)) da_nil))) da_nil))) da_nil)))
    (ds_cons (d_exp (d_bm PySem.F.plainAttrs_list PySem.F.slot_list_append PySem.F.type_list_append mt_append mAppend_ok (d_var (i := 1)) (da_cons (d_tup (da_cons (d_mkE T.at_NoState T.ox_NoState T.ii_NoState T.ti_NoState (ok_NoState_init__ T) (by decide) (hr.mono (by decide)) T.b_NoState_init__ (by rfl) T.m_NoState (da_cons (d_var (i := 0)) da_nil)) (da_cons (d_xe (XeTab.cons T.at_NoState T.xf_NoState T.xa_NoState_name XeTab.nil).look (d_mkE T.at_NoState T.ox_NoState T.ii_NoState T.ti_NoState (ok_NoState_init__ T) (by decide) (hr.mono (by decide)) T.b_NoState_init__ (by rfl) T.m_NoState (da_cons (d_var (i := 0)) da_nil))) da_nil))) da_nil)))
    (ds_cons (d_exp (d_bm PySem.F.plainAttrs_list PySem.F.slot_list_append PySem.F.type_list_append mt_append mAppend_ok (d_var (i := 1)) (da_cons (d_tup (da_cons (d_mkE T.at_Taken T.ox_Taken T.ii_Taken T.ti_Taken (ok_Taken_init__ T) (by decide) (hr.mono (by decide)) T.b_Taken_init__ (by rfl) T.m_Taken (da_cons (d_var (i := 0)) da_nil)) (da_cons (d_xe (XeTab.cons T.at_Taken T.xf_Taken T.xa_Taken_name XeTab.nil).look (d_mkE T.at_Taken T.ox_Taken T.ii_Taken T.ti_Taken (ok_Taken_init__ T) (by decide) (hr.mono (by decide)) T.b_Taken_init__ (by rfl) T.m_Taken (da_cons (d_var (i := 0)) da_nil))) da_nil))) da_nil)))
    (ds_cons (d_exp (d_bm PySem.F.plainAttrs_list PySem.F.slot_list_append PySem.F.type_list_append mt_append mAppend_ok (d_var (i := 1)) (da_cons (d_tup (da_cons (d_mkE T.at_NotPossible T.ox_NotPossible T.ii_NotPossible T.ti_NotPossible (ok_NotPossible_init__ T) (by decide) (hr.mono (by decide)) T.b_NotPossible_init__ (by rfl) T.m_NotPossible (da_cons (d_var (i := 0)) da_nil)) (da_cons (d_xe (XeTab.cons T.at_NotPossible T.xf_NotPossible T.xa_NotPossible_row XeTab.nil).look (d_mkE T.at_NotPossible T.ox_NotPossible T.ii_NotPossible T.ti_NotPossible (ok_NotPossible_init__ T) (by decide) (hr.mono (by decide)) T.b_NotPossible_init__ (by rfl) T.m_NotPossible (da_cons (d_var (i := 0)) da_nil))) da_nil))) da_nil)))
    (ds_cons (d_exp (d_bm PySem.F.plainAttrs_list PySem.F.slot_list_append PySem.F.type_list_append mt_append mAppend_ok (d_var (i := 1)) (da_cons (d_tup (da_cons (d_mkE T.at_NoCase T.ox_NoCase T.ii_NoCase T.ti_NoCase (ok_NoCase_init__ T) (by decide) (hr.mono (by decide)) T.b_NoCase_init__ (by rfl) T.m_NoCase (da_cons (d_var (i := 0)) da_nil)) (da_cons (d_xe (XeTab.cons T.at_NoCase T.xf_NoCase T.xa_NoCase_case XeTab.nil).look (d_mkE T.at_NoCase T.ox_NoCase T.ii_NoCase T.ti_NoCase (ok_NoCase_init__ T) (by decide) (hr.mono (by decide)) T.b_NoCase_init__ (by rfl) T.m_NoCase (da_cons (d_var (i := 0)) da_nil))) da_nil))) da_nil)))
    (ds_cons (d_exp (d_bm PySem.F.plainAttrs_list PySem.F.slot_list_append PySem.F.type_list_append mt_append mAppend_ok (d_var (i := 1)) (da_cons (d_tup (da_cons (d_mkE T.at_WrongCount T.ox_WrongCount T.ii_WrongCount T.ti_WrongCount (ok_WrongCount_init__ T) (by decide) (hr.mono (by decide)) T.b_WrongCount_init__ (by rfl) T.m_WrongCount (da_cons (d_var (i := 0)) da_nil)) (da_cons (d_xe (XeTab.cons T.at_WrongCount T.xf_WrongCount T.xa_WrongCount_wanted XeTab.nil).look (d_mkE T.at_WrongCount T.ox_WrongCount T.ii_WrongCount T.ti_WrongCount (ok_WrongCount_init__ T) (by decide) (hr.mono (by decide)) T.b_WrongCount_init__ (by rfl) T.m_WrongCount (da_cons (d_var (i := 0)) da_nil))) da_nil))) da_nil)))
    (ds_cons (d_exp (d_bm PySem.F.plainAttrs_list PySem.F.slot_list_append PySem.F.type_list_append mt_append mAppend_ok (d_var (i := 1)) (da_cons (d_tup (da_cons (d_mkE T.at_TooLarge T.ox_TooLarge T.ii_TooLarge T.ti_TooLarge (ok_TooLarge_init__ T) (by decide) (hr.mono (by decide)) T.b_TooLarge_init__ (by rfl) T.m_TooLarge (da_cons (d_var (i := 0)) da_nil)) (da_cons (d_xe (XeTab.cons T.at_TooLarge T.xf_TooLarge T.xa_TooLarge_limit XeTab.nil).look (d_mkE T.at_TooLarge T.ox_TooLarge T.ii_TooLarge T.ti_TooLarge (ok_TooLarge_init__ T) (by decide) (hr.mono (by decide)) T.b_TooLarge_init__ (by rfl) T.m_TooLarge (da_cons (d_var (i := 0)) da_nil))) da_nil))) da_nil)))
    (ds_one (d_retF (d_var (i := 1)))))))))))))))))),
    wp_law_places⟩
theorem Tx.F_law_several_right (T : Tx K mg) : Fun K "_law_several_right" "_law_several_right" s_law_several_right T.f_law_several_right (PySem.W.fnOf "_law_several_right" "_law_several_right" (defArgs s_law_several_right) (defBody s_law_several_right) (defScope s_law_several_right) .none T.kV_law_several_right T.dc_law_several_right T.pm_law_several_right T.an_law_several_right T.cd_law_several_right T.ct_law_several_right) := fun_mk T.l_law_several_right T.c_law_several_right T.k_law_several_right
theorem Tx.b_law_several_right (T : Tx K mg) : Binds K (PySem.W.fnOf "_law_several_right" "_law_several_right" (defArgs s_law_several_right) (defBody s_law_several_right) (defScope s_law_several_right) .none T.kV_law_several_right T.dc_law_several_right T.pm_law_several_right T.an_law_several_right T.cd_law_several_right T.ct_law_several_right) p_law_several_right [] := T.F_law_several_right.binds fun _ _ _ _ _ _ us hl => match us, hl with | [_, _, _], _ => rfl
theorem ok_law_several_right (T : Tx K mg) : FnG P w K mg base (L2.CX P w) 4 T.f_law_several_right (PySem.W.fnOf "_law_several_right" "_law_several_right" (defArgs s_law_several_right) (defBody s_law_several_right) (defScope s_law_several_right) .none T.kV_law_several_right T.dc_law_several_right T.pm_law_several_right T.an_law_several_right T.cd_law_several_right T.ct_law_several_right) p_law_several_right (toSp K sp_law_several_right) :=
  FnG.mono (j := 4) (dfnG T.F_law_several_right sc_law_several_right len_law_several_right fun B cdv A outer s H E quiet hr => ⟨w_law_several_right, fun RX tk =>
    (ds_cons (d_par (i := 6) (j := 7) rfl sc_law_several_right.nd rfl rfl (by decide) rfl rfl (da_cons (d_mkE T.at_InvalidText T.ox_InvalidText T.ii_InvalidText T.ti_InvalidText (ok_InvalidText_init__ T) (by decide) (hr.mono (by decide)) T.b_InvalidText_init__ (by rfl) T.m_InvalidText (da_cons (d_var (i := 0)) (da_cons (d_var (i := 1)) da_nil))) (da_cons (d_mkE T.at_Clash T.ox_Clash T.ii_Clash T.ti_Clash (ok_Clash_init__ T) (by decide) (hr.mono (by decide)) T.b_Clash_init__ (by rfl) T.m_Clash (da_cons (d_var (i := 1)) (da_cons (d_var (i := 2)) da_nil))) da_nil)) (by rfl))
    (ds_cons (d_set (i := 3) sc_law_several_right.nd (d_mkE T.at_FieldClash T.ox_FieldClash T.ii_FieldClash T.ti_FieldClash (ok_FieldClash_init__ T) (by decide) (hr.mono (by decide)) T.b_FieldClash_init__ (by rfl) T.m_FieldClash (da_cons (d_var (i := 2)) (da_cons (d_var (i := 0)) (da_cons (d_var (i := 1)) da_nil)))))
    (ds_cons (d_set (i := 4) sc_law_several_right.nd (d_lst (da_cons (d_xe (XeTab.cons T.at_InvalidText T.xf_InvalidText T.xa_InvalidText_line XeTab.nil).look (d_var (i := 6))) (da_cons (d_xe (XeTab.cons T.at_InvalidText T.xf_InvalidText T.xa_InvalidText_word XeTab.nil).look (d_var (i := 6))) (da_cons (d_xe (XeTab.cons T.at_Clash T.xf_Clash T.xa_Clash_lesser XeTab.nil).look (d_var (i := 7))) (da_cons (d_xe (XeTab.cons T.at_Clash T.xf_Clash T.xa_Clash_name XeTab.nil).look (d_var (i := 7))) da_nil))))))
    (ds_cons (d_set (i := 4) sc_law_several_right.nd (d_op opAdd oAdd_ok (d_var (i := 4)) (d_lst (da_cons (d_xe (XeTab.cons T.at_FieldClash T.xf_FieldClash T.xa_FieldClash_field XeTab.nil).look (d_var (i := 3))) (da_cons (d_xe (XeTab.cons T.at_FieldClash T.xf_FieldClash T.xa_FieldClash_one XeTab.nil).look (d_var (i := 3))) (da_cons (d_xe (XeTab.cons T.at_FieldClash T.xf_FieldClash T.xa_FieldClash_other XeTab.nil).look (d_var (i := 3))) da_nil))))))
    (ds_cons (d_if (d_cmpT (opNe hr.units) oNeI_ok (d_callB (repr_C T.smK (by exact quiet) (by exact hr.units)) cReprC_ok (by rfl) T.z_repr (by decide +kernel) (da_cons (d_var (i := 4)) da_nil)) (d_callB (repr_C T.smK (by exact quiet) (by exact hr.units)) cReprC_ok (by rfl) T.z_repr (by decide +kernel) (da_cons (d_lst (da_cons (d_var (i := 0)) (da_cons (d_var (i := 1)) (da_cons (d_var (i := 1)) (da_cons (d_var (i := 2)) (da_cons (d_var (i := 2)) (da_cons (d_var (i := 0)) (da_cons (d_var (i := 1)) da_nil)))))))) da_nil)) (nomark _)) (ds_one (d_ret d_bl)) ds_nil)
    (ds_cons (d_par (i := 6) (j := 7) rfl sc_law_several_right.nd rfl rfl (by decide) rfl rfl (da_cons (d_mkE T.at_InvalidText T.ox_InvalidText T.ii_InvalidText T.ti_InvalidText (ok_InvalidText_init__ T) (by decide) (hr.mono (by decide)) T.b_InvalidText_init__ (by rfl) T.m_InvalidText (da_cons (d_var (i := 1)) (da_cons (d_var (i := 0)) da_nil))) (da_cons (d_mkE T.at_Clash T.ox_Clash T.ii_Clash T.ti_Clash (ok_Clash_init__ T) (by decide) (hr.mono (by decide)) T.b_Clash_init__ (by rfl) T.m_Clash (da_cons (d_var (i := 2)) (da_cons (d_var (i := 0)) da_nil))) da_nil)) (by rfl))
    (ds_cons (d_set (i := 3) sc_law_several_right.nd (d_mkE T.at_FieldClash T.ox_FieldClash T.ii_FieldClash T.ti_FieldClash (ok_FieldClash_init__ T) (by decide) (hr.mono (by decide)) T.b_FieldClash_init__ (by rfl) T.m_FieldClash (da_cons (d_var (i := 0)) (da_cons (d_var (i := 1)) (da_cons (d_var (i := 2)) da_nil)))))
    (ds_cons (d_set (i := 4) sc_law_several_right.nd (d_lst (da_cons (d_xe (XeTab.cons T.at_InvalidText T.xf_InvalidText T.xa_InvalidText_line XeTab.nil).look (d_var (i := 6))) (da_cons (d_xe (XeTab.cons T.at_InvalidText T.xf_InvalidText T.xa_InvalidText_word XeTab.nil).look (d_var (i := 6))) (da_cons (d_xe (XeTab.cons T.at_Clash T.xf_Clash T.xa_Clash_lesser XeTab.nil).look (d_var (i := 7))) (da_cons (d_xe (XeTab.cons T.at_Clash T.xf_Clash T.xa_Clash_name XeTab.nil).look (d_var (i := 7))) da_nil))))))
    (ds_cons (d_set (i := 4) sc_law_several_right.nd (d_op opAdd oAdd_ok (d_var (i := 4)) (d_lst (da_cons (d_xe (XeTab.cons T.at_FieldClash T.xf_FieldClash T.xa_FieldClash_field XeTab.nil).look (d_var (i := 3))) (da_cons (d_xe (XeTab.cons T.at_FieldClash T.xf_FieldClash T.xa_FieldClash_one XeTab.nil).look (d_var (i := 3))) (da_cons (d_xe (XeTab.cons T.at_FieldClash T.xf_FieldClash T.xa_FieldClash_other XeTab.nil).look (d_var (i := 3))) da_nil))))))
    (ds_cons (d_if (d_cmpT (opNe hr.units) oNeI_ok (d_callB (repr_C T.smK (by exact quiet) (by exact hr.units)) cReprC_ok (by rfl) T.z_repr (by decide +kernel) (da_cons (d_var (i := 4)) da_nil)) (d_callB (repr_C T.smK (by exact quiet) (by exact hr.units)) cReprC_ok (by rfl) T.z_repr (by decide +kernel) (da_cons (d_lst (da_cons (d_var (i := 1)) (da_cons (d_var (i := 0)) (da_cons (d_var (i := 2)) (da_cons (d_var (i := 0)) (da_cons (d_var (i := 0)) (da_cons (d_var (i := 1)) (da_cons (d_var (i := 2)) da_nil)))))))) da_nil)) (nomark _)) (ds_one (d_ret d_bl)) ds_nil)
    (ds_cons (d_set (i := 5) sc_law_several_right.nd (d_lst (da_cons (d_var (i := 6)) (da_cons (d_var (i := 3)) (da_cons (d_var (i := 7)) (da_cons (d_mkE0 T.at_NoStates T.o0_NoStates (by rfl) T.m_NoStates) (da_cons (d_mkE0 T.at_NoEntries T.o0_NoEntries (by rfl) T.m_NoEntries) (da_cons (d_mkE0 T.at_NotEnd T.o0_NotEnd (by rfl) T.m_NotEnd) (da_cons (d_mkE0 T.at_NotCarried T.o0_NotCarried (by rfl) T.m_NotCarried) (da_cons (d_mkE0 T.at_Unlike T.o0_Unlike (by rfl) T.m_Unlike) da_nil))))))))))
    (ds_cons (d_if (d_cmpT (opNe hr.units) oNeI_ok (d_lc (own := [("_law_error", 8)]) rfl sc_law_several_right.nd (di_any (d_var (i := 5))) (blkOk_by (by show blkC N_law_several_right (defScope s_law_several_right) _ _ = true; decide +kernel)) (fun _ _ _ _ _ => pg_name (i := 8) sc_law_several_right.nd rfl (Or.inl rfl)) (binds_one (by decide)) (fun _ _ _ _ _ => (dts_one (d_not (d_truth (d_call (ok_law_is_based T) (hr.mono (by decide)) (by rfl) T.g_law_is_based T.F_law_is_based.kp T.b_law_is_based .nil (fun _ _ => .nil) (da_cons (d_var (i := 8)) da_nil)))))) (fun _ _ _ _ _ => (d_var (i := 8)))) (d_lst da_nil) (nomark _)) (ds_one (d_ret d_bl)) ds_nil)
    (ds_one (d_ret (d_cmp (opEq hr.units) oEqI_ok (d_lc (own := [("_law_error", 8)]) rfl sc_law_several_right.nd (di_any (d_var (i := 5))) (blkOk_by (by show blkC N_law_several_right (defScope s_law_several_right) _ _ = true; decide +kernel)) (fun _ _ _ _ _ => pg_name (i := 8) sc_law_several_right.nd rfl (Or.inl rfl)) (binds_one (by decide)) (fun _ _ _ _ _ => dts_nil) (fun _ _ _ _ _ => (d_call (ok_law_kinds T) (hr.mono (by decide)) (by rfl) T.g_law_kinds T.F_law_kinds.kp T.b_law_kinds .nil (fun _ _ => .nil) (da_cons (d_var (i := 8)) da_nil)))) (d_lc (own := [("_law_at", 9)]) rfl sc_law_several_right.nd (di_range2 (by rfl) T.z_range (da_cons d_int (da_cons d_int da_nil))) (blkOk_by (by show blkC N_law_several_right (defScope s_law_several_right) _ _ = true; decide +kernel)) (fun _ _ _ _ _ => pg_name (i := 9) sc_law_several_right.nd rfl (Or.inl rfl)) (binds_one (by decide)) (fun _ _ _ _ _ => dts_nil) (fun _ _ _ _ _ => (d_lst (da_cons (d_var (i := 9)) da_nil)))) (nomark _)))))))))))))))),
    wp_law_several_right⟩) (by decide)
theorem Tx.F_law (T : Tx K mg) : Fun K "law" "law" s_law T.f_law (PySem.W.fnOf "law" "law" (defArgs s_law) (defBody s_law) (defScope s_law) .none T.kV_law T.dc_law T.pm_law T.an_law T.cd_law T.ct_law) := fun_mk T.l_law T.c_law T.k_law
theorem ok_law (T : Tx K mg) : FnG P w K mg base (L2.CX P w) 8 T.f_law (PySem.W.fnOf "law" "law" (defArgs s_law) (defBody s_law) (defScope s_law) .none T.kV_law T.dc_law T.pm_law T.an_law T.cd_law T.ct_law) p_law (toSp K sp_law) :=
  FnG.mono (j := 8) (dfnG T.F_law sc_law len_law fun B cdv A outer s H E quiet hr => ⟨w_law, fun RX tk =>
    (ds_cons (d_set (i := 1) sc_law.nd (d_call (ok_law_pen T) (hr.mono (by decide)) (by rfl) T.g_law_pen T.F_law_pen.kp T.b_law_pen .nil (fun _ _ => .nil) (da_cons (d_var (i := 0)) da_nil)))
    (ds_cons (d_for (L2.passes_of rfl) rfl (di_range1 (by rfl) T.z_range (da_cons d_int da_nil)) (dg_name (i := 2) sc_law.nd) (ds_cons (d_par (i := 7) (j := 8) rfl sc_law.nd rfl rfl (by decide) rfl rfl (da_cons (d_call (ok_law_thing T) (hr.mono (by decide)) (by rfl) T.g_law_thing T.F_law_thing.kp T.b_law_thing .nil (fun _ _ => .nil) (da_cons (d_var (i := 1)) da_nil)) (da_cons (d_call (ok_law_thing T) (hr.mono (by decide)) (by rfl) T.g_law_thing T.F_law_thing.kp T.b_law_thing .nil (fun _ _ => .nil) (da_cons (d_var (i := 1)) da_nil)) da_nil)) (by rfl))
    (ds_cons (d_set (i := 5) sc_law.nd (d_call (ok_law_thing T) (hr.mono (by decide)) (by rfl) T.g_law_thing T.F_law_thing.kp T.b_law_thing .nil (fun _ _ => .nil) (da_cons (d_var (i := 1)) da_nil)))
    (ds_cons (d_set (i := 6) sc_law.nd (d_op opAdd oAdd_ok (d_call (ok_law_values T) (hr.mono (by decide)) (by rfl) T.g_law_values T.F_law_values.kp T.b_law_values .nil (fun _ _ => .nil) (da_cons (d_var (i := 7)) da_nil)) (d_call (ok_law_places T) (hr.mono (by decide)) (by rfl) T.g_law_places T.F_law_places.kp T.b_law_places .nil (fun _ _ => .nil) (da_cons (d_var (i := 7)) da_nil))))
    (ds_cons (d_for (L2.passes_of rfl) rfl (di_enumerate (by rfl) T.z_enumerate (da_cons (d_var (i := 6)) da_nil)) (dg_tup rfl (dgs_cons (dg_name (i := 9) sc_law.nd) (dgs_cons (dg_name (i := 10) sc_law.nd) dgs_nil))) (ds_cons (d_asg (d_var (i := 10)) (dg_tup rfl (dgs_cons (dg_name (i := 12) sc_law.nd) (dgs_cons (dg_name (i := 4) sc_law.nd) dgs_nil))))
    (ds_cons (d_if (L2.PW.pt (d_or (d_cmpT (opNe hr.units) oNeI_ok (d_call (ok_law_kinds T) (hr.mono (by decide)) (by rfl) T.g_law_kinds T.F_law_kinds.kp T.b_law_kinds .nil (fun _ _ => .nil) (da_cons (d_var (i := 12)) da_nil)) (d_lst (da_cons (d_var (i := 9)) da_nil)) (nomark _)) (d_or1 (d_not (d_truth (d_call (ok_law_is_based T) (hr.mono (by decide)) (by rfl) T.g_law_is_based T.F_law_is_based.kp T.b_law_is_based .nil (fun _ _ => .nil) (da_cons (d_var (i := 12)) da_nil))))))) (ds_one (d_ret d_bl)) ds_nil)
    (ds_one (d_if (d_cmpT (opNe hr.units) oNeI_ok (d_callB (repr_C T.smK (by exact quiet) (by exact hr.units)) cReprC_ok (by rfl) T.z_repr (by decide +kernel) (da_cons (d_var (i := 4)) da_nil)) (d_callB (repr_C T.smK (by exact quiet) (by exact hr.units)) cReprC_ok (by rfl) T.z_repr (by decide +kernel) (da_cons (d_var (i := 7)) da_nil)) (nomark _)) (ds_one (d_ret d_bl)) ds_nil)))))
    (ds_one (d_if (d_not (d_truth (d_callG (ok_law_several_right T) (by exact quiet) (hr.mono (by decide)) (rzX tk) (by rfl) T.g_law_several_right T.F_law_several_right.kp T.b_law_several_right (da_cons (d_var (i := 7)) (da_cons (d_var (i := 8)) (da_cons (d_var (i := 5)) da_nil)))))) (ds_one (d_ret d_bl)) ds_nil)))))))
    (ds_cons (d_set (i := 3) sc_law.nd (d_lstM (da_cons d_int da_nil)))
    (ds_cons (d_setLc (i := 4) (own := [("_law_pair", 11)]) rfl sc_law.nd rfl rfl (sw_true rfl rfl rfl (by decide +kernel)) (di_any (d_op opAdd oAdd_ok (d_call (ok_law_values T) (hr.mono (by decide)) (by rfl) T.g_law_values T.F_law_values.kp T.b_law_values .nil (fun _ _ => .nil) (da_cons (d_var (i := 3)) da_nil)) (d_call (ok_law_places T) (hr.mono (by decide)) (by rfl) T.g_law_places T.F_law_places.kp T.b_law_places .nil (fun _ _ => .nil) (da_cons (d_var (i := 3)) da_nil)))) (blkOk_by (by show blkC N_law (defScope s_law) _ _ = true; decide +kernel)) (fun _ _ _ _ _ => pg_name (i := 11) sc_law.nd rfl (Or.inl rfl)) (binds_one (by decide)) (fun _ _ _ _ _ => dts_nil) (fun _ _ _ _ _ => (d_ix (d_var (i := 11)) d_int)))
    (ds_cons (d_set (i := 4) sc_law.nd (d_op opAdd oAdd_ok (d_var (i := 4)) (d_lst (da_cons (d_xe (XeTab.cons T.at_FieldClash T.xf_FieldClash T.xa_FieldClash_field XeTab.nil).look (d_mkE T.at_FieldClash T.ox_FieldClash T.ii_FieldClash T.ti_FieldClash (ok_FieldClash_init__ T) (by decide) (hr.mono (by decide)) T.b_FieldClash_init__ (by rfl) T.m_FieldClash (da_cons (d_var (i := 3)) (da_cons d_int (da_cons d_int da_nil))))) (da_cons (d_xe (XeTab.cons T.at_FieldClash T.xf_FieldClash T.xa_FieldClash_one XeTab.nil).look (d_mkE T.at_FieldClash T.ox_FieldClash T.ii_FieldClash T.ti_FieldClash (ok_FieldClash_init__ T) (by decide) (hr.mono (by decide)) T.b_FieldClash_init__ (by rfl) T.m_FieldClash (da_cons d_str (da_cons (d_var (i := 3)) (da_cons d_int da_nil))))) (da_cons (d_xe (XeTab.cons T.at_FieldClash T.xf_FieldClash T.xa_FieldClash_other XeTab.nil).look (d_mkE T.at_FieldClash T.ox_FieldClash T.ii_FieldClash T.ti_FieldClash (ok_FieldClash_init__ T) (by decide) (hr.mono (by decide)) T.b_FieldClash_init__ (by rfl) T.m_FieldClash (da_cons d_str (da_cons d_int (da_cons (d_var (i := 3)) da_nil))))) da_nil))))))
    (ds_cons (d_set (i := 4) sc_law.nd (d_op opAdd oAdd_ok (d_var (i := 4)) (d_lst (da_cons (d_xe (XeTab.cons T.at_InvalidText T.xf_InvalidText T.xa_InvalidText_line XeTab.nil).look (d_mkE T.at_InvalidText T.ox_InvalidText T.ii_InvalidText T.ti_InvalidText (ok_InvalidText_init__ T) (by decide) (hr.mono (by decide)) T.b_InvalidText_init__ (by rfl) T.m_InvalidText (da_cons (d_var (i := 3)) (da_cons d_int da_nil)))) (da_cons (d_xe (XeTab.cons T.at_InvalidText T.xf_InvalidText T.xa_InvalidText_word XeTab.nil).look (d_mkE T.at_InvalidText T.ox_InvalidText T.ii_InvalidText T.ti_InvalidText (ok_InvalidText_init__ T) (by decide) (hr.mono (by decide)) T.b_InvalidText_init__ (by rfl) T.m_InvalidText (da_cons d_int (da_cons (d_var (i := 3)) da_nil)))) da_nil)))))
    (ds_cons (d_set (i := 4) sc_law.nd (d_op opAdd oAdd_ok (d_var (i := 4)) (d_lst (da_cons (d_xe (XeTab.cons T.at_Clash T.xf_Clash T.xa_Clash_lesser XeTab.nil).look (d_mkE T.at_Clash T.ox_Clash T.ii_Clash T.ti_Clash (ok_Clash_init__ T) (by decide) (hr.mono (by decide)) T.b_Clash_init__ (by rfl) T.m_Clash (da_cons (d_var (i := 3)) (da_cons d_str da_nil)))) (da_cons (d_xe (XeTab.cons T.at_Clash T.xf_Clash T.xa_Clash_name XeTab.nil).look (d_mkE T.at_Clash T.ox_Clash T.ii_Clash T.ti_Clash (ok_Clash_init__ T) (by decide) (hr.mono (by decide)) T.b_Clash_init__ (by rfl) T.m_Clash (da_cons d_str (da_cons (d_var (i := 3)) da_nil)))) da_nil)))))
    (ds_cons (d_exp (d_bm PySem.F.plainAttrs_list PySem.F.slot_list_append PySem.F.type_list_append mt_append mAppend_ok (d_var (i := 3)) (da_cons d_int da_nil)))
    (ds_one (d_frzS (i := 3) (d_ret (d_cmp (opEq hr.units) oEqI_ok (d_var (i := 4)) (d_op L2.op_rep oRepL_ok (d_lst (da_cons (d_lst (da_cons d_int (da_cons d_int da_nil))) da_nil)) (d_callB callLen cLen_ok (by rfl) T.z_len (by decide +kernel) (da_cons (d_var (i := 4)) da_nil))) (nomark _))))))))))))),
    wp_law⟩) (by decide)
end
theorem all_mk {l : PySem.W.OpenLaw} {w : World} {K : PySem.W.Frag} {h : Heap} {mg : Str → Option Value} {fa : Addr} (X : K.In h) (G : h.Ns mainGlobals mg) (hfa : mg "law" = some (.ref fa))
    {C_Blank : Addr}
    (q_Blank_at : PySem.W.nsIn K mainGlobals "Blank" = some (some (.ref C_Blank)))
    {C_Clash : Addr}
    (q_Clash_at : PySem.W.nsIn K mainGlobals "Clash" = some (some (.ref C_Clash)))
    {C_FieldClash : Addr}
    (q_FieldClash_at : PySem.W.nsIn K mainGlobals "FieldClash" = some (some (.ref C_FieldClash)))
    {C_InvalidAddress : Addr}
    (q_InvalidAddress_at : PySem.W.nsIn K mainGlobals "InvalidAddress" = some (some (.ref C_InvalidAddress)))
    {C_InvalidFrame : Addr}
    (q_InvalidFrame_at : PySem.W.nsIn K mainGlobals "InvalidFrame" = some (some (.ref C_InvalidFrame)))
    {C_InvalidKind : Addr}
    (q_InvalidKind_at : PySem.W.nsIn K mainGlobals "InvalidKind" = some (some (.ref C_InvalidKind)))
    {C_InvalidName : Addr}
    (q_InvalidName_at : PySem.W.nsIn K mainGlobals "InvalidName" = some (some (.ref C_InvalidName)))
    {C_InvalidNumber : Addr}
    (q_InvalidNumber_at : PySem.W.nsIn K mainGlobals "InvalidNumber" = some (some (.ref C_InvalidNumber)))
    {C_InvalidRow : Addr}
    (q_InvalidRow_at : PySem.W.nsIn K mainGlobals "InvalidRow" = some (some (.ref C_InvalidRow)))
    {C_InvalidRows : Addr}
    (q_InvalidRows_at : PySem.W.nsIn K mainGlobals "InvalidRows" = some (some (.ref C_InvalidRows)))
    {C_InvalidText : Addr}
    (q_InvalidText_at : PySem.W.nsIn K mainGlobals "InvalidText" = some (some (.ref C_InvalidText)))
    {C_InvalidWord : Addr}
    (q_InvalidWord_at : PySem.W.nsIn K mainGlobals "InvalidWord" = some (some (.ref C_InvalidWord)))
    {C_Locked : Addr}
    (q_Locked_at : PySem.W.nsIn K mainGlobals "Locked" = some (some (.ref C_Locked)))
    {C_NoCase : Addr}
    (q_NoCase_at : PySem.W.nsIn K mainGlobals "NoCase" = some (some (.ref C_NoCase)))
    {C_NoClass : Addr}
    (q_NoClass_at : PySem.W.nsIn K mainGlobals "NoClass" = some (some (.ref C_NoClass)))
    {C_NoCondition : Addr}
    (q_NoCondition_at : PySem.W.nsIn K mainGlobals "NoCondition" = some (some (.ref C_NoCondition)))
    {C_NoEntries : Addr}
    (q_NoEntries_at : PySem.W.nsIn K mainGlobals "NoEntries" = some (some (.ref C_NoEntries)))
    {C_NoField : Addr}
    (q_NoField_at : PySem.W.nsIn K mainGlobals "NoField" = some (some (.ref C_NoField)))
    {C_NoKind : Addr}
    (q_NoKind_at : PySem.W.nsIn K mainGlobals "NoKind" = some (some (.ref C_NoKind)))
    {C_NoLanding : Addr}
    (q_NoLanding_at : PySem.W.nsIn K mainGlobals "NoLanding" = some (some (.ref C_NoLanding)))
    {C_NoState : Addr}
    (q_NoState_at : PySem.W.nsIn K mainGlobals "NoState" = some (some (.ref C_NoState)))
    {C_NoStates : Addr}
    (q_NoStates_at : PySem.W.nsIn K mainGlobals "NoStates" = some (some (.ref C_NoStates)))
    {C_NoTarget : Addr}
    (q_NoTarget_at : PySem.W.nsIn K mainGlobals "NoTarget" = some (some (.ref C_NoTarget)))
    {C_NotCarried : Addr}
    (q_NotCarried_at : PySem.W.nsIn K mainGlobals "NotCarried" = some (some (.ref C_NotCarried)))
    {C_NotEnd : Addr}
    (q_NotEnd_at : PySem.W.nsIn K mainGlobals "NotEnd" = some (some (.ref C_NotEnd)))
    {C_NotPossible : Addr}
    (q_NotPossible_at : PySem.W.nsIn K mainGlobals "NotPossible" = some (some (.ref C_NotPossible)))
    {C_NotReady : Addr}
    (q_NotReady_at : PySem.W.nsIn K mainGlobals "NotReady" = some (some (.ref C_NotReady)))
    {C_OrError : Addr}
    (q_OrError_at : PySem.W.nsIn K mainGlobals "OrError" = some (some (.ref C_OrError)))
    {C_StateClash : Addr}
    (q_StateClash_at : PySem.W.nsIn K mainGlobals "StateClash" = some (some (.ref C_StateClash)))
    {C_Taken : Addr}
    (q_Taken_at : PySem.W.nsIn K mainGlobals "Taken" = some (some (.ref C_Taken)))
    {C_TooLarge : Addr}
    (q_TooLarge_at : PySem.W.nsIn K mainGlobals "TooLarge" = some (some (.ref C_TooLarge)))
    {C_TooMany : Addr}
    (q_TooMany_at : PySem.W.nsIn K mainGlobals "TooMany" = some (some (.ref C_TooMany)))
    {C_Unlike : Addr}
    (q_Unlike_at : PySem.W.nsIn K mainGlobals "Unlike" = some (some (.ref C_Unlike)))
    {C_WrongCount : Addr}
    (q_WrongCount_at : PySem.W.nsIn K mainGlobals "WrongCount" = some (some (.ref C_WrongCount)))
    (q_erall : L3.erAll K ((("InvalidName" : Str), C_InvalidName) :: (("InvalidNumber" : Str), C_InvalidNumber) :: (("InvalidRow" : Str), C_InvalidRow) :: (("NoTarget" : Str), C_NoTarget) :: (("NoClass" : Str), C_NoClass) :: (("NoLanding" : Str), C_NoLanding) :: (("InvalidRows" : Str), C_InvalidRows) :: (("InvalidKind" : Str), C_InvalidKind) :: (("InvalidFrame" : Str), C_InvalidFrame) :: (("InvalidWord" : Str), C_InvalidWord) :: (("NotReady" : Str), C_NotReady) :: (("TooMany" : Str), C_TooMany) :: (("InvalidAddress" : Str), C_InvalidAddress) :: (("Locked" : Str), C_Locked) :: (("Blank" : Str), C_Blank) :: (("StateClash" : Str), C_StateClash) :: (("NoCondition" : Str), C_NoCondition) :: (("NoField" : Str), C_NoField) :: (("NoKind" : Str), C_NoKind) :: (("NoState" : Str), C_NoState) :: (("Taken" : Str), C_Taken) :: (("NotPossible" : Str), C_NotPossible) :: (("NoCase" : Str), C_NoCase) :: (("WrongCount" : Str), C_WrongCount) :: (("TooLarge" : Str), C_TooLarge) :: (("InvalidText" : Str), C_InvalidText) :: (("FieldClash" : Str), C_FieldClash) :: (("Clash" : Str), C_Clash) :: (("NoStates" : Str), C_NoStates) :: (("NoEntries" : Str), C_NoEntries) :: (("NotEnd" : Str), C_NotEnd) :: (("NotCarried" : Str), C_NotCarried) :: (("Unlike" : Str), C_Unlike) :: []) [("OrError", C_OrError)] TY8 = true)
    (q_NoEntries_o0ex : PySem.W.excIn K C_NoEntries [.type "ValueError", .type "Exception", .type "BaseException", .type "object"] "ValueError.__new__" = true)
    (q_NoEntries_o0kp : PySem.W.keepIn K (.ref C_NoEntries) = true)
    (q_NoEntries_o0sb : PySem.W.subIn K (.ref C_NoEntries) (.type "BaseException") = some true)
    (q_NoEntries_o0ty : PySem.W.typeIn K (.ref C_NoEntries) = some (.type "type"))
    (q_NoStates_o0ex : PySem.W.excIn K C_NoStates [.type "ValueError", .type "Exception", .type "BaseException", .type "object"] "ValueError.__new__" = true)
    (q_NoStates_o0kp : PySem.W.keepIn K (.ref C_NoStates) = true)
    (q_NoStates_o0sb : PySem.W.subIn K (.ref C_NoStates) (.type "BaseException") = some true)
    (q_NoStates_o0ty : PySem.W.typeIn K (.ref C_NoStates) = some (.type "type"))
    (q_NotCarried_o0ex : PySem.W.excIn K C_NotCarried [.type "ValueError", .type "Exception", .type "BaseException", .type "object"] "ValueError.__new__" = true)
    (q_NotCarried_o0kp : PySem.W.keepIn K (.ref C_NotCarried) = true)
    (q_NotCarried_o0sb : PySem.W.subIn K (.ref C_NotCarried) (.type "BaseException") = some true)
    (q_NotCarried_o0ty : PySem.W.typeIn K (.ref C_NotCarried) = some (.type "type"))
    (q_NotEnd_o0ex : PySem.W.excIn K C_NotEnd [.type "ValueError", .type "Exception", .type "BaseException", .type "object"] "ValueError.__new__" = true)
    (q_NotEnd_o0kp : PySem.W.keepIn K (.ref C_NotEnd) = true)
    (q_NotEnd_o0sb : PySem.W.subIn K (.ref C_NotEnd) (.type "BaseException") = some true)
    (q_NotEnd_o0ty : PySem.W.typeIn K (.ref C_NotEnd) = some (.type "type"))
    (q_Unlike_o0ex : PySem.W.excIn K C_Unlike [.type "ValueError", .type "Exception", .type "BaseException", .type "object"] "ValueError.__new__" = true)
    (q_Unlike_o0kp : PySem.W.keepIn K (.ref C_Unlike) = true)
    (q_Unlike_o0sb : PySem.W.subIn K (.ref C_Unlike) (.type "BaseException") = some true)
    (q_Unlike_o0ty : PySem.W.typeIn K (.ref C_Unlike) = some (.type "type"))
    (q_Blank_ox : OexC K C_Blank)
    {f_Blank_init__ : Addr}
    (q_Blank_ii : PySem.W.findIn K (.ref C_Blank) "__init__" = some (some (.ref f_Blank_init__)))
    (q_Blank_ti : PySem.W.typeIn K (.ref f_Blank_init__) = some (.type "function"))
    (q_xi_Blank_address : PySem.W.findIn K (.ref C_Blank) "address" = some none)
    (q_Clash_ox : OexC K C_Clash)
    {f_Clash_init__ : Addr}
    (q_Clash_ii : PySem.W.findIn K (.ref C_Clash) "__init__" = some (some (.ref f_Clash_init__)))
    (q_Clash_ti : PySem.W.typeIn K (.ref f_Clash_init__) = some (.type "function"))
    (q_xi_Clash_lesser : PySem.W.findIn K (.ref C_Clash) "lesser" = some none)
    (q_xi_Clash_name : PySem.W.findIn K (.ref C_Clash) "name" = some none)
    (q_FieldClash_ox : OexC K C_FieldClash)
    {f_FieldClash_init__ : Addr}
    (q_FieldClash_ii : PySem.W.findIn K (.ref C_FieldClash) "__init__" = some (some (.ref f_FieldClash_init__)))
    (q_FieldClash_ti : PySem.W.typeIn K (.ref f_FieldClash_init__) = some (.type "function"))
    (q_xi_FieldClash_field : PySem.W.findIn K (.ref C_FieldClash) "field" = some none)
    (q_xi_FieldClash_one : PySem.W.findIn K (.ref C_FieldClash) "one" = some none)
    (q_xi_FieldClash_other : PySem.W.findIn K (.ref C_FieldClash) "other" = some none)
    (q_InvalidAddress_ox : OexC K C_InvalidAddress)
    {f_InvalidAddress_init__ : Addr}
    (q_InvalidAddress_ii : PySem.W.findIn K (.ref C_InvalidAddress) "__init__" = some (some (.ref f_InvalidAddress_init__)))
    (q_InvalidAddress_ti : PySem.W.typeIn K (.ref f_InvalidAddress_init__) = some (.type "function"))
    (q_xi_InvalidAddress_address : PySem.W.findIn K (.ref C_InvalidAddress) "address" = some none)
    (q_InvalidFrame_ox : OexC K C_InvalidFrame)
    {f_InvalidFrame_init__ : Addr}
    (q_InvalidFrame_ii : PySem.W.findIn K (.ref C_InvalidFrame) "__init__" = some (some (.ref f_InvalidFrame_init__)))
    (q_InvalidFrame_ti : PySem.W.typeIn K (.ref f_InvalidFrame_init__) = some (.type "function"))
    (q_xi_InvalidFrame_part : PySem.W.findIn K (.ref C_InvalidFrame) "part" = some none)
    (q_InvalidKind_ox : OexC K C_InvalidKind)
    {f_InvalidKind_init__ : Addr}
    (q_InvalidKind_ii : PySem.W.findIn K (.ref C_InvalidKind) "__init__" = some (some (.ref f_InvalidKind_init__)))
    (q_InvalidKind_ti : PySem.W.typeIn K (.ref f_InvalidKind_init__) = some (.type "function"))
    (q_xi_InvalidKind_part : PySem.W.findIn K (.ref C_InvalidKind) "part" = some none)
    (q_InvalidName_ox : OexC K C_InvalidName)
    {f_InvalidName_init__ : Addr}
    (q_InvalidName_ii : PySem.W.findIn K (.ref C_InvalidName) "__init__" = some (some (.ref f_InvalidName_init__)))
    (q_InvalidName_ti : PySem.W.typeIn K (.ref f_InvalidName_init__) = some (.type "function"))
    (q_xi_InvalidName_value : PySem.W.findIn K (.ref C_InvalidName) "value" = some none)
    (q_InvalidNumber_ox : OexC K C_InvalidNumber)
    {f_InvalidNumber_init__ : Addr}
    (q_InvalidNumber_ii : PySem.W.findIn K (.ref C_InvalidNumber) "__init__" = some (some (.ref f_InvalidNumber_init__)))
    (q_InvalidNumber_ti : PySem.W.typeIn K (.ref f_InvalidNumber_init__) = some (.type "function"))
    (q_xi_InvalidNumber_value : PySem.W.findIn K (.ref C_InvalidNumber) "value" = some none)
    (q_InvalidRow_ox : OexC K C_InvalidRow)
    {f_InvalidRow_init__ : Addr}
    (q_InvalidRow_ii : PySem.W.findIn K (.ref C_InvalidRow) "__init__" = some (some (.ref f_InvalidRow_init__)))
    (q_InvalidRow_ti : PySem.W.typeIn K (.ref f_InvalidRow_init__) = some (.type "function"))
    (q_xi_InvalidRow_value : PySem.W.findIn K (.ref C_InvalidRow) "value" = some none)
    (q_InvalidRows_ox : OexC K C_InvalidRows)
    {f_InvalidRows_init__ : Addr}
    (q_InvalidRows_ii : PySem.W.findIn K (.ref C_InvalidRows) "__init__" = some (some (.ref f_InvalidRows_init__)))
    (q_InvalidRows_ti : PySem.W.typeIn K (.ref f_InvalidRows_init__) = some (.type "function"))
    (q_xi_InvalidRows_part : PySem.W.findIn K (.ref C_InvalidRows) "part" = some none)
    (q_InvalidText_ox : OexC K C_InvalidText)
    {f_InvalidText_init__ : Addr}
    (q_InvalidText_ii : PySem.W.findIn K (.ref C_InvalidText) "__init__" = some (some (.ref f_InvalidText_init__)))
    (q_InvalidText_ti : PySem.W.typeIn K (.ref f_InvalidText_init__) = some (.type "function"))
    (q_xi_InvalidText_line : PySem.W.findIn K (.ref C_InvalidText) "line" = some none)
    (q_xi_InvalidText_word : PySem.W.findIn K (.ref C_InvalidText) "word" = some none)
    (q_InvalidWord_ox : OexC K C_InvalidWord)
    {f_InvalidWord_init__ : Addr}
    (q_InvalidWord_ii : PySem.W.findIn K (.ref C_InvalidWord) "__init__" = some (some (.ref f_InvalidWord_init__)))
    (q_InvalidWord_ti : PySem.W.typeIn K (.ref f_InvalidWord_init__) = some (.type "function"))
    (q_xi_InvalidWord_part : PySem.W.findIn K (.ref C_InvalidWord) "part" = some none)
    (q_Locked_ox : OexC K C_Locked)
    {f_Locked_init__ : Addr}
    (q_Locked_ii : PySem.W.findIn K (.ref C_Locked) "__init__" = some (some (.ref f_Locked_init__)))
    (q_Locked_ti : PySem.W.typeIn K (.ref f_Locked_init__) = some (.type "function"))
    (q_xi_Locked_address : PySem.W.findIn K (.ref C_Locked) "address" = some none)
    (q_NoCase_ox : OexC K C_NoCase)
    {f_NoCase_init__ : Addr}
    (q_NoCase_ii : PySem.W.findIn K (.ref C_NoCase) "__init__" = some (some (.ref f_NoCase_init__)))
    (q_NoCase_ti : PySem.W.typeIn K (.ref f_NoCase_init__) = some (.type "function"))
    (q_xi_NoCase_case : PySem.W.findIn K (.ref C_NoCase) "case" = some none)
    (q_NoClass_ox : OexC K C_NoClass)
    {f_NoClass_init__ : Addr}
    (q_NoClass_ii : PySem.W.findIn K (.ref C_NoClass) "__init__" = some (some (.ref f_NoClass_init__)))
    (q_NoClass_ti : PySem.W.typeIn K (.ref f_NoClass_init__) = some (.type "function"))
    (q_xi_NoClass_value : PySem.W.findIn K (.ref C_NoClass) "value" = some none)
    (q_NoCondition_ox : OexC K C_NoCondition)
    {f_NoCondition_init__ : Addr}
    (q_NoCondition_ii : PySem.W.findIn K (.ref C_NoCondition) "__init__" = some (some (.ref f_NoCondition_init__)))
    (q_NoCondition_ti : PySem.W.typeIn K (.ref f_NoCondition_init__) = some (.type "function"))
    (q_xi_NoCondition_name : PySem.W.findIn K (.ref C_NoCondition) "name" = some none)
    (q_NoField_ox : OexC K C_NoField)
    {f_NoField_init__ : Addr}
    (q_NoField_ii : PySem.W.findIn K (.ref C_NoField) "__init__" = some (some (.ref f_NoField_init__)))
    (q_NoField_ti : PySem.W.typeIn K (.ref f_NoField_init__) = some (.type "function"))
    (q_xi_NoField_name : PySem.W.findIn K (.ref C_NoField) "name" = some none)
    (q_NoKind_ox : OexC K C_NoKind)
    {f_NoKind_init__ : Addr}
    (q_NoKind_ii : PySem.W.findIn K (.ref C_NoKind) "__init__" = some (some (.ref f_NoKind_init__)))
    (q_NoKind_ti : PySem.W.typeIn K (.ref f_NoKind_init__) = some (.type "function"))
    (q_xi_NoKind_name : PySem.W.findIn K (.ref C_NoKind) "name" = some none)
    (q_NoLanding_ox : OexC K C_NoLanding)
    {f_NoLanding_init__ : Addr}
    (q_NoLanding_ii : PySem.W.findIn K (.ref C_NoLanding) "__init__" = some (some (.ref f_NoLanding_init__)))
    (q_NoLanding_ti : PySem.W.typeIn K (.ref f_NoLanding_init__) = some (.type "function"))
    (q_xi_NoLanding_value : PySem.W.findIn K (.ref C_NoLanding) "value" = some none)
    (q_NoState_ox : OexC K C_NoState)
    {f_NoState_init__ : Addr}
    (q_NoState_ii : PySem.W.findIn K (.ref C_NoState) "__init__" = some (some (.ref f_NoState_init__)))
    (q_NoState_ti : PySem.W.typeIn K (.ref f_NoState_init__) = some (.type "function"))
    (q_xi_NoState_name : PySem.W.findIn K (.ref C_NoState) "name" = some none)
    (q_NoTarget_ox : OexC K C_NoTarget)
    {f_NoTarget_init__ : Addr}
    (q_NoTarget_ii : PySem.W.findIn K (.ref C_NoTarget) "__init__" = some (some (.ref f_NoTarget_init__)))
    (q_NoTarget_ti : PySem.W.typeIn K (.ref f_NoTarget_init__) = some (.type "function"))
    (q_xi_NoTarget_value : PySem.W.findIn K (.ref C_NoTarget) "value" = some none)
    (q_NotPossible_ox : OexC K C_NotPossible)
    {f_NotPossible_init__ : Addr}
    (q_NotPossible_ii : PySem.W.findIn K (.ref C_NotPossible) "__init__" = some (some (.ref f_NotPossible_init__)))
    (q_NotPossible_ti : PySem.W.typeIn K (.ref f_NotPossible_init__) = some (.type "function"))
    (q_xi_NotPossible_row : PySem.W.findIn K (.ref C_NotPossible) "row" = some none)
    (q_NotReady_ox : OexC K C_NotReady)
    {f_NotReady_init__ : Addr}
    (q_NotReady_ii : PySem.W.findIn K (.ref C_NotReady) "__init__" = some (some (.ref f_NotReady_init__)))
    (q_NotReady_ti : PySem.W.typeIn K (.ref f_NotReady_init__) = some (.type "function"))
    (q_xi_NotReady_part : PySem.W.findIn K (.ref C_NotReady) "part" = some none)
    (q_StateClash_ox : OexC K C_StateClash)
    {f_StateClash_init__ : Addr}
    (q_StateClash_ii : PySem.W.findIn K (.ref C_StateClash) "__init__" = some (some (.ref f_StateClash_init__)))
    (q_StateClash_ti : PySem.W.typeIn K (.ref f_StateClash_init__) = some (.type "function"))
    (q_xi_StateClash_name : PySem.W.findIn K (.ref C_StateClash) "name" = some none)
    (q_Taken_ox : OexC K C_Taken)
    {f_Taken_init__ : Addr}
    (q_Taken_ii : PySem.W.findIn K (.ref C_Taken) "__init__" = some (some (.ref f_Taken_init__)))
    (q_Taken_ti : PySem.W.typeIn K (.ref f_Taken_init__) = some (.type "function"))
    (q_xi_Taken_name : PySem.W.findIn K (.ref C_Taken) "name" = some none)
    (q_TooLarge_ox : OexC K C_TooLarge)
    {f_TooLarge_init__ : Addr}
    (q_TooLarge_ii : PySem.W.findIn K (.ref C_TooLarge) "__init__" = some (some (.ref f_TooLarge_init__)))
    (q_TooLarge_ti : PySem.W.typeIn K (.ref f_TooLarge_init__) = some (.type "function"))
    (q_xi_TooLarge_limit : PySem.W.findIn K (.ref C_TooLarge) "limit" = some none)
    (q_TooMany_ox : OexC K C_TooMany)
    {f_TooMany_init__ : Addr}
    (q_TooMany_ii : PySem.W.findIn K (.ref C_TooMany) "__init__" = some (some (.ref f_TooMany_init__)))
    (q_TooMany_ti : PySem.W.typeIn K (.ref f_TooMany_init__) = some (.type "function"))
    (q_xi_TooMany_part : PySem.W.findIn K (.ref C_TooMany) "part" = some none)
    (q_WrongCount_ox : OexC K C_WrongCount)
    {f_WrongCount_init__ : Addr}
    (q_WrongCount_ii : PySem.W.findIn K (.ref C_WrongCount) "__init__" = some (some (.ref f_WrongCount_init__)))
    (q_WrongCount_ti : PySem.W.typeIn K (.ref f_WrongCount_init__) = some (.type "function"))
    (q_xi_WrongCount_wanted : PySem.W.findIn K (.ref C_WrongCount) "wanted" = some none)
    (q_smK : SmK K)
    {oc_InvalidName_init__ kV_InvalidName_init__ dc_InvalidName_init__ pm_InvalidName_init__ cd_InvalidName_init__ ct_InvalidName_init__ : Value}
    {od_InvalidName_init__ an_InvalidName_init__ : Option Addr}
    {sl_InvalidName_init__ : Array (Option Value)}
    (l_InvalidName_init__ : K.lookup f_InvalidName_init__ = some ⟨oc_InvalidName_init__, od_InvalidName_init__, .func (PySem.W.fnOf "__init__" "InvalidName.__init__" (defArgs s_InvalidName_init__) (defBody s_InvalidName_init__) (defScope s_InvalidName_init__) .none kV_InvalidName_init__ dc_InvalidName_init__ pm_InvalidName_init__ an_InvalidName_init__ cd_InvalidName_init__ ct_InvalidName_init__), sl_InvalidName_init__⟩)
    (c_InvalidName_init__ : PySem.W.codeIn K cd_InvalidName_init__ "InvalidName.__init__" = true)
    (k_InvalidName_init__ : PySem.W.keepIn K (.ref f_InvalidName_init__) = true)
    {oc_InvalidNumber_init__ kV_InvalidNumber_init__ dc_InvalidNumber_init__ pm_InvalidNumber_init__ cd_InvalidNumber_init__ ct_InvalidNumber_init__ : Value}
    {od_InvalidNumber_init__ an_InvalidNumber_init__ : Option Addr}
    {sl_InvalidNumber_init__ : Array (Option Value)}
    (l_InvalidNumber_init__ : K.lookup f_InvalidNumber_init__ = some ⟨oc_InvalidNumber_init__, od_InvalidNumber_init__, .func (PySem.W.fnOf "__init__" "InvalidNumber.__init__" (defArgs s_InvalidNumber_init__) (defBody s_InvalidNumber_init__) (defScope s_InvalidNumber_init__) .none kV_InvalidNumber_init__ dc_InvalidNumber_init__ pm_InvalidNumber_init__ an_InvalidNumber_init__ cd_InvalidNumber_init__ ct_InvalidNumber_init__), sl_InvalidNumber_init__⟩)
    (c_InvalidNumber_init__ : PySem.W.codeIn K cd_InvalidNumber_init__ "InvalidNumber.__init__" = true)
    (k_InvalidNumber_init__ : PySem.W.keepIn K (.ref f_InvalidNumber_init__) = true)
    {oc_InvalidRows_init__ kV_InvalidRows_init__ dc_InvalidRows_init__ pm_InvalidRows_init__ cd_InvalidRows_init__ ct_InvalidRows_init__ : Value}
    {od_InvalidRows_init__ an_InvalidRows_init__ : Option Addr}
    {sl_InvalidRows_init__ : Array (Option Value)}
    (l_InvalidRows_init__ : K.lookup f_InvalidRows_init__ = some ⟨oc_InvalidRows_init__, od_InvalidRows_init__, .func (PySem.W.fnOf "__init__" "InvalidRows.__init__" (defArgs s_InvalidRows_init__) (defBody s_InvalidRows_init__) (defScope s_InvalidRows_init__) .none kV_InvalidRows_init__ dc_InvalidRows_init__ pm_InvalidRows_init__ an_InvalidRows_init__ cd_InvalidRows_init__ ct_InvalidRows_init__), sl_InvalidRows_init__⟩)
    (c_InvalidRows_init__ : PySem.W.codeIn K cd_InvalidRows_init__ "InvalidRows.__init__" = true)
    (k_InvalidRows_init__ : PySem.W.keepIn K (.ref f_InvalidRows_init__) = true)
    {oc_InvalidRow_init__ kV_InvalidRow_init__ dc_InvalidRow_init__ pm_InvalidRow_init__ cd_InvalidRow_init__ ct_InvalidRow_init__ : Value}
    {od_InvalidRow_init__ an_InvalidRow_init__ : Option Addr}
    {sl_InvalidRow_init__ : Array (Option Value)}
    (l_InvalidRow_init__ : K.lookup f_InvalidRow_init__ = some ⟨oc_InvalidRow_init__, od_InvalidRow_init__, .func (PySem.W.fnOf "__init__" "InvalidRow.__init__" (defArgs s_InvalidRow_init__) (defBody s_InvalidRow_init__) (defScope s_InvalidRow_init__) .none kV_InvalidRow_init__ dc_InvalidRow_init__ pm_InvalidRow_init__ an_InvalidRow_init__ cd_InvalidRow_init__ ct_InvalidRow_init__), sl_InvalidRow_init__⟩)
    (c_InvalidRow_init__ : PySem.W.codeIn K cd_InvalidRow_init__ "InvalidRow.__init__" = true)
    (k_InvalidRow_init__ : PySem.W.keepIn K (.ref f_InvalidRow_init__) = true)
    {oc_InvalidKind_init__ kV_InvalidKind_init__ dc_InvalidKind_init__ pm_InvalidKind_init__ cd_InvalidKind_init__ ct_InvalidKind_init__ : Value}
    {od_InvalidKind_init__ an_InvalidKind_init__ : Option Addr}
    {sl_InvalidKind_init__ : Array (Option Value)}
    (l_InvalidKind_init__ : K.lookup f_InvalidKind_init__ = some ⟨oc_InvalidKind_init__, od_InvalidKind_init__, .func (PySem.W.fnOf "__init__" "InvalidKind.__init__" (defArgs s_InvalidKind_init__) (defBody s_InvalidKind_init__) (defScope s_InvalidKind_init__) .none kV_InvalidKind_init__ dc_InvalidKind_init__ pm_InvalidKind_init__ an_InvalidKind_init__ cd_InvalidKind_init__ ct_InvalidKind_init__), sl_InvalidKind_init__⟩)
    (c_InvalidKind_init__ : PySem.W.codeIn K cd_InvalidKind_init__ "InvalidKind.__init__" = true)
    (k_InvalidKind_init__ : PySem.W.keepIn K (.ref f_InvalidKind_init__) = true)
    {oc_InvalidFrame_init__ kV_InvalidFrame_init__ dc_InvalidFrame_init__ pm_InvalidFrame_init__ cd_InvalidFrame_init__ ct_InvalidFrame_init__ : Value}
    {od_InvalidFrame_init__ an_InvalidFrame_init__ : Option Addr}
    {sl_InvalidFrame_init__ : Array (Option Value)}
    (l_InvalidFrame_init__ : K.lookup f_InvalidFrame_init__ = some ⟨oc_InvalidFrame_init__, od_InvalidFrame_init__, .func (PySem.W.fnOf "__init__" "InvalidFrame.__init__" (defArgs s_InvalidFrame_init__) (defBody s_InvalidFrame_init__) (defScope s_InvalidFrame_init__) .none kV_InvalidFrame_init__ dc_InvalidFrame_init__ pm_InvalidFrame_init__ an_InvalidFrame_init__ cd_InvalidFrame_init__ ct_InvalidFrame_init__), sl_InvalidFrame_init__⟩)
    (c_InvalidFrame_init__ : PySem.W.codeIn K cd_InvalidFrame_init__ "InvalidFrame.__init__" = true)
    (k_InvalidFrame_init__ : PySem.W.keepIn K (.ref f_InvalidFrame_init__) = true)
    {oc_InvalidWord_init__ kV_InvalidWord_init__ dc_InvalidWord_init__ pm_InvalidWord_init__ cd_InvalidWord_init__ ct_InvalidWord_init__ : Value}
    {od_InvalidWord_init__ an_InvalidWord_init__ : Option Addr}
    {sl_InvalidWord_init__ : Array (Option Value)}
    (l_InvalidWord_init__ : K.lookup f_InvalidWord_init__ = some ⟨oc_InvalidWord_init__, od_InvalidWord_init__, .func (PySem.W.fnOf "__init__" "InvalidWord.__init__" (defArgs s_InvalidWord_init__) (defBody s_InvalidWord_init__) (defScope s_InvalidWord_init__) .none kV_InvalidWord_init__ dc_InvalidWord_init__ pm_InvalidWord_init__ an_InvalidWord_init__ cd_InvalidWord_init__ ct_InvalidWord_init__), sl_InvalidWord_init__⟩)
    (c_InvalidWord_init__ : PySem.W.codeIn K cd_InvalidWord_init__ "InvalidWord.__init__" = true)
    (k_InvalidWord_init__ : PySem.W.keepIn K (.ref f_InvalidWord_init__) = true)
    {oc_InvalidAddress_init__ kV_InvalidAddress_init__ dc_InvalidAddress_init__ pm_InvalidAddress_init__ cd_InvalidAddress_init__ ct_InvalidAddress_init__ : Value}
    {od_InvalidAddress_init__ an_InvalidAddress_init__ : Option Addr}
    {sl_InvalidAddress_init__ : Array (Option Value)}
    (l_InvalidAddress_init__ : K.lookup f_InvalidAddress_init__ = some ⟨oc_InvalidAddress_init__, od_InvalidAddress_init__, .func (PySem.W.fnOf "__init__" "InvalidAddress.__init__" (defArgs s_InvalidAddress_init__) (defBody s_InvalidAddress_init__) (defScope s_InvalidAddress_init__) .none kV_InvalidAddress_init__ dc_InvalidAddress_init__ pm_InvalidAddress_init__ an_InvalidAddress_init__ cd_InvalidAddress_init__ ct_InvalidAddress_init__), sl_InvalidAddress_init__⟩)
    (c_InvalidAddress_init__ : PySem.W.codeIn K cd_InvalidAddress_init__ "InvalidAddress.__init__" = true)
    (k_InvalidAddress_init__ : PySem.W.keepIn K (.ref f_InvalidAddress_init__) = true)
    {oc_InvalidText_init__ kV_InvalidText_init__ dc_InvalidText_init__ pm_InvalidText_init__ cd_InvalidText_init__ ct_InvalidText_init__ : Value}
    {od_InvalidText_init__ an_InvalidText_init__ : Option Addr}
    {sl_InvalidText_init__ : Array (Option Value)}
    (l_InvalidText_init__ : K.lookup f_InvalidText_init__ = some ⟨oc_InvalidText_init__, od_InvalidText_init__, .func (PySem.W.fnOf "__init__" "InvalidText.__init__" (defArgs s_InvalidText_init__) (defBody s_InvalidText_init__) (defScope s_InvalidText_init__) .none kV_InvalidText_init__ dc_InvalidText_init__ pm_InvalidText_init__ an_InvalidText_init__ cd_InvalidText_init__ ct_InvalidText_init__), sl_InvalidText_init__⟩)
    (c_InvalidText_init__ : PySem.W.codeIn K cd_InvalidText_init__ "InvalidText.__init__" = true)
    (k_InvalidText_init__ : PySem.W.keepIn K (.ref f_InvalidText_init__) = true)
    {oc_FieldClash_init__ kV_FieldClash_init__ dc_FieldClash_init__ pm_FieldClash_init__ cd_FieldClash_init__ ct_FieldClash_init__ : Value}
    {od_FieldClash_init__ an_FieldClash_init__ : Option Addr}
    {sl_FieldClash_init__ : Array (Option Value)}
    (l_FieldClash_init__ : K.lookup f_FieldClash_init__ = some ⟨oc_FieldClash_init__, od_FieldClash_init__, .func (PySem.W.fnOf "__init__" "FieldClash.__init__" (defArgs s_FieldClash_init__) (defBody s_FieldClash_init__) (defScope s_FieldClash_init__) .none kV_FieldClash_init__ dc_FieldClash_init__ pm_FieldClash_init__ an_FieldClash_init__ cd_FieldClash_init__ ct_FieldClash_init__), sl_FieldClash_init__⟩)
    (c_FieldClash_init__ : PySem.W.codeIn K cd_FieldClash_init__ "FieldClash.__init__" = true)
    (k_FieldClash_init__ : PySem.W.keepIn K (.ref f_FieldClash_init__) = true)
    {oc_Clash_init__ kV_Clash_init__ dc_Clash_init__ pm_Clash_init__ cd_Clash_init__ ct_Clash_init__ : Value}
    {od_Clash_init__ an_Clash_init__ : Option Addr}
    {sl_Clash_init__ : Array (Option Value)}
    (l_Clash_init__ : K.lookup f_Clash_init__ = some ⟨oc_Clash_init__, od_Clash_init__, .func (PySem.W.fnOf "__init__" "Clash.__init__" (defArgs s_Clash_init__) (defBody s_Clash_init__) (defScope s_Clash_init__) .none kV_Clash_init__ dc_Clash_init__ pm_Clash_init__ an_Clash_init__ cd_Clash_init__ ct_Clash_init__), sl_Clash_init__⟩)
    (c_Clash_init__ : PySem.W.codeIn K cd_Clash_init__ "Clash.__init__" = true)
    (k_Clash_init__ : PySem.W.keepIn K (.ref f_Clash_init__) = true)
    {oc_StateClash_init__ kV_StateClash_init__ dc_StateClash_init__ pm_StateClash_init__ cd_StateClash_init__ ct_StateClash_init__ : Value}
    {od_StateClash_init__ an_StateClash_init__ : Option Addr}
    {sl_StateClash_init__ : Array (Option Value)}
    (l_StateClash_init__ : K.lookup f_StateClash_init__ = some ⟨oc_StateClash_init__, od_StateClash_init__, .func (PySem.W.fnOf "__init__" "StateClash.__init__" (defArgs s_StateClash_init__) (defBody s_StateClash_init__) (defScope s_StateClash_init__) .none kV_StateClash_init__ dc_StateClash_init__ pm_StateClash_init__ an_StateClash_init__ cd_StateClash_init__ ct_StateClash_init__), sl_StateClash_init__⟩)
    (c_StateClash_init__ : PySem.W.codeIn K cd_StateClash_init__ "StateClash.__init__" = true)
    (k_StateClash_init__ : PySem.W.keepIn K (.ref f_StateClash_init__) = true)
    {oc_Locked_init__ kV_Locked_init__ dc_Locked_init__ pm_Locked_init__ cd_Locked_init__ ct_Locked_init__ : Value}
    {od_Locked_init__ an_Locked_init__ : Option Addr}
    {sl_Locked_init__ : Array (Option Value)}
    (l_Locked_init__ : K.lookup f_Locked_init__ = some ⟨oc_Locked_init__, od_Locked_init__, .func (PySem.W.fnOf "__init__" "Locked.__init__" (defArgs s_Locked_init__) (defBody s_Locked_init__) (defScope s_Locked_init__) .none kV_Locked_init__ dc_Locked_init__ pm_Locked_init__ an_Locked_init__ cd_Locked_init__ ct_Locked_init__), sl_Locked_init__⟩)
    (c_Locked_init__ : PySem.W.codeIn K cd_Locked_init__ "Locked.__init__" = true)
    (k_Locked_init__ : PySem.W.keepIn K (.ref f_Locked_init__) = true)
    {oc_Blank_init__ kV_Blank_init__ dc_Blank_init__ pm_Blank_init__ cd_Blank_init__ ct_Blank_init__ : Value}
    {od_Blank_init__ an_Blank_init__ : Option Addr}
    {sl_Blank_init__ : Array (Option Value)}
    (l_Blank_init__ : K.lookup f_Blank_init__ = some ⟨oc_Blank_init__, od_Blank_init__, .func (PySem.W.fnOf "__init__" "Blank.__init__" (defArgs s_Blank_init__) (defBody s_Blank_init__) (defScope s_Blank_init__) .none kV_Blank_init__ dc_Blank_init__ pm_Blank_init__ an_Blank_init__ cd_Blank_init__ ct_Blank_init__), sl_Blank_init__⟩)
    (c_Blank_init__ : PySem.W.codeIn K cd_Blank_init__ "Blank.__init__" = true)
    (k_Blank_init__ : PySem.W.keepIn K (.ref f_Blank_init__) = true)
    {oc_NotPossible_init__ kV_NotPossible_init__ dc_NotPossible_init__ pm_NotPossible_init__ cd_NotPossible_init__ ct_NotPossible_init__ : Value}
    {od_NotPossible_init__ an_NotPossible_init__ : Option Addr}
    {sl_NotPossible_init__ : Array (Option Value)}
    (l_NotPossible_init__ : K.lookup f_NotPossible_init__ = some ⟨oc_NotPossible_init__, od_NotPossible_init__, .func (PySem.W.fnOf "__init__" "NotPossible.__init__" (defArgs s_NotPossible_init__) (defBody s_NotPossible_init__) (defScope s_NotPossible_init__) .none kV_NotPossible_init__ dc_NotPossible_init__ pm_NotPossible_init__ an_NotPossible_init__ cd_NotPossible_init__ ct_NotPossible_init__), sl_NotPossible_init__⟩)
    (c_NotPossible_init__ : PySem.W.codeIn K cd_NotPossible_init__ "NotPossible.__init__" = true)
    (k_NotPossible_init__ : PySem.W.keepIn K (.ref f_NotPossible_init__) = true)
    {oc_NoCondition_init__ kV_NoCondition_init__ dc_NoCondition_init__ pm_NoCondition_init__ cd_NoCondition_init__ ct_NoCondition_init__ : Value}
    {od_NoCondition_init__ an_NoCondition_init__ : Option Addr}
    {sl_NoCondition_init__ : Array (Option Value)}
    (l_NoCondition_init__ : K.lookup f_NoCondition_init__ = some ⟨oc_NoCondition_init__, od_NoCondition_init__, .func (PySem.W.fnOf "__init__" "NoCondition.__init__" (defArgs s_NoCondition_init__) (defBody s_NoCondition_init__) (defScope s_NoCondition_init__) .none kV_NoCondition_init__ dc_NoCondition_init__ pm_NoCondition_init__ an_NoCondition_init__ cd_NoCondition_init__ ct_NoCondition_init__), sl_NoCondition_init__⟩)
    (c_NoCondition_init__ : PySem.W.codeIn K cd_NoCondition_init__ "NoCondition.__init__" = true)
    (k_NoCondition_init__ : PySem.W.keepIn K (.ref f_NoCondition_init__) = true)
    {oc_NoField_init__ kV_NoField_init__ dc_NoField_init__ pm_NoField_init__ cd_NoField_init__ ct_NoField_init__ : Value}
    {od_NoField_init__ an_NoField_init__ : Option Addr}
    {sl_NoField_init__ : Array (Option Value)}
    (l_NoField_init__ : K.lookup f_NoField_init__ = some ⟨oc_NoField_init__, od_NoField_init__, .func (PySem.W.fnOf "__init__" "NoField.__init__" (defArgs s_NoField_init__) (defBody s_NoField_init__) (defScope s_NoField_init__) .none kV_NoField_init__ dc_NoField_init__ pm_NoField_init__ an_NoField_init__ cd_NoField_init__ ct_NoField_init__), sl_NoField_init__⟩)
    (c_NoField_init__ : PySem.W.codeIn K cd_NoField_init__ "NoField.__init__" = true)
    (k_NoField_init__ : PySem.W.keepIn K (.ref f_NoField_init__) = true)
    {oc_NoKind_init__ kV_NoKind_init__ dc_NoKind_init__ pm_NoKind_init__ cd_NoKind_init__ ct_NoKind_init__ : Value}
    {od_NoKind_init__ an_NoKind_init__ : Option Addr}
    {sl_NoKind_init__ : Array (Option Value)}
    (l_NoKind_init__ : K.lookup f_NoKind_init__ = some ⟨oc_NoKind_init__, od_NoKind_init__, .func (PySem.W.fnOf "__init__" "NoKind.__init__" (defArgs s_NoKind_init__) (defBody s_NoKind_init__) (defScope s_NoKind_init__) .none kV_NoKind_init__ dc_NoKind_init__ pm_NoKind_init__ an_NoKind_init__ cd_NoKind_init__ ct_NoKind_init__), sl_NoKind_init__⟩)
    (c_NoKind_init__ : PySem.W.codeIn K cd_NoKind_init__ "NoKind.__init__" = true)
    (k_NoKind_init__ : PySem.W.keepIn K (.ref f_NoKind_init__) = true)
    {oc_NoState_init__ kV_NoState_init__ dc_NoState_init__ pm_NoState_init__ cd_NoState_init__ ct_NoState_init__ : Value}
    {od_NoState_init__ an_NoState_init__ : Option Addr}
    {sl_NoState_init__ : Array (Option Value)}
    (l_NoState_init__ : K.lookup f_NoState_init__ = some ⟨oc_NoState_init__, od_NoState_init__, .func (PySem.W.fnOf "__init__" "NoState.__init__" (defArgs s_NoState_init__) (defBody s_NoState_init__) (defScope s_NoState_init__) .none kV_NoState_init__ dc_NoState_init__ pm_NoState_init__ an_NoState_init__ cd_NoState_init__ ct_NoState_init__), sl_NoState_init__⟩)
    (c_NoState_init__ : PySem.W.codeIn K cd_NoState_init__ "NoState.__init__" = true)
    (k_NoState_init__ : PySem.W.keepIn K (.ref f_NoState_init__) = true)
    {oc_NoTarget_init__ kV_NoTarget_init__ dc_NoTarget_init__ pm_NoTarget_init__ cd_NoTarget_init__ ct_NoTarget_init__ : Value}
    {od_NoTarget_init__ an_NoTarget_init__ : Option Addr}
    {sl_NoTarget_init__ : Array (Option Value)}
    (l_NoTarget_init__ : K.lookup f_NoTarget_init__ = some ⟨oc_NoTarget_init__, od_NoTarget_init__, .func (PySem.W.fnOf "__init__" "NoTarget.__init__" (defArgs s_NoTarget_init__) (defBody s_NoTarget_init__) (defScope s_NoTarget_init__) .none kV_NoTarget_init__ dc_NoTarget_init__ pm_NoTarget_init__ an_NoTarget_init__ cd_NoTarget_init__ ct_NoTarget_init__), sl_NoTarget_init__⟩)
    (c_NoTarget_init__ : PySem.W.codeIn K cd_NoTarget_init__ "NoTarget.__init__" = true)
    (k_NoTarget_init__ : PySem.W.keepIn K (.ref f_NoTarget_init__) = true)
    {oc_NoClass_init__ kV_NoClass_init__ dc_NoClass_init__ pm_NoClass_init__ cd_NoClass_init__ ct_NoClass_init__ : Value}
    {od_NoClass_init__ an_NoClass_init__ : Option Addr}
    {sl_NoClass_init__ : Array (Option Value)}
    (l_NoClass_init__ : K.lookup f_NoClass_init__ = some ⟨oc_NoClass_init__, od_NoClass_init__, .func (PySem.W.fnOf "__init__" "NoClass.__init__" (defArgs s_NoClass_init__) (defBody s_NoClass_init__) (defScope s_NoClass_init__) .none kV_NoClass_init__ dc_NoClass_init__ pm_NoClass_init__ an_NoClass_init__ cd_NoClass_init__ ct_NoClass_init__), sl_NoClass_init__⟩)
    (c_NoClass_init__ : PySem.W.codeIn K cd_NoClass_init__ "NoClass.__init__" = true)
    (k_NoClass_init__ : PySem.W.keepIn K (.ref f_NoClass_init__) = true)
    {oc_NoLanding_init__ kV_NoLanding_init__ dc_NoLanding_init__ pm_NoLanding_init__ cd_NoLanding_init__ ct_NoLanding_init__ : Value}
    {od_NoLanding_init__ an_NoLanding_init__ : Option Addr}
    {sl_NoLanding_init__ : Array (Option Value)}
    (l_NoLanding_init__ : K.lookup f_NoLanding_init__ = some ⟨oc_NoLanding_init__, od_NoLanding_init__, .func (PySem.W.fnOf "__init__" "NoLanding.__init__" (defArgs s_NoLanding_init__) (defBody s_NoLanding_init__) (defScope s_NoLanding_init__) .none kV_NoLanding_init__ dc_NoLanding_init__ pm_NoLanding_init__ an_NoLanding_init__ cd_NoLanding_init__ ct_NoLanding_init__), sl_NoLanding_init__⟩)
    (c_NoLanding_init__ : PySem.W.codeIn K cd_NoLanding_init__ "NoLanding.__init__" = true)
    (k_NoLanding_init__ : PySem.W.keepIn K (.ref f_NoLanding_init__) = true)
    {oc_NoCase_init__ kV_NoCase_init__ dc_NoCase_init__ pm_NoCase_init__ cd_NoCase_init__ ct_NoCase_init__ : Value}
    {od_NoCase_init__ an_NoCase_init__ : Option Addr}
    {sl_NoCase_init__ : Array (Option Value)}
    (l_NoCase_init__ : K.lookup f_NoCase_init__ = some ⟨oc_NoCase_init__, od_NoCase_init__, .func (PySem.W.fnOf "__init__" "NoCase.__init__" (defArgs s_NoCase_init__) (defBody s_NoCase_init__) (defScope s_NoCase_init__) .none kV_NoCase_init__ dc_NoCase_init__ pm_NoCase_init__ an_NoCase_init__ cd_NoCase_init__ ct_NoCase_init__), sl_NoCase_init__⟩)
    (c_NoCase_init__ : PySem.W.codeIn K cd_NoCase_init__ "NoCase.__init__" = true)
    (k_NoCase_init__ : PySem.W.keepIn K (.ref f_NoCase_init__) = true)
    {oc_NotReady_init__ kV_NotReady_init__ dc_NotReady_init__ pm_NotReady_init__ cd_NotReady_init__ ct_NotReady_init__ : Value}
    {od_NotReady_init__ an_NotReady_init__ : Option Addr}
    {sl_NotReady_init__ : Array (Option Value)}
    (l_NotReady_init__ : K.lookup f_NotReady_init__ = some ⟨oc_NotReady_init__, od_NotReady_init__, .func (PySem.W.fnOf "__init__" "NotReady.__init__" (defArgs s_NotReady_init__) (defBody s_NotReady_init__) (defScope s_NotReady_init__) .none kV_NotReady_init__ dc_NotReady_init__ pm_NotReady_init__ an_NotReady_init__ cd_NotReady_init__ ct_NotReady_init__), sl_NotReady_init__⟩)
    (c_NotReady_init__ : PySem.W.codeIn K cd_NotReady_init__ "NotReady.__init__" = true)
    (k_NotReady_init__ : PySem.W.keepIn K (.ref f_NotReady_init__) = true)
    {oc_Taken_init__ kV_Taken_init__ dc_Taken_init__ pm_Taken_init__ cd_Taken_init__ ct_Taken_init__ : Value}
    {od_Taken_init__ an_Taken_init__ : Option Addr}
    {sl_Taken_init__ : Array (Option Value)}
    (l_Taken_init__ : K.lookup f_Taken_init__ = some ⟨oc_Taken_init__, od_Taken_init__, .func (PySem.W.fnOf "__init__" "Taken.__init__" (defArgs s_Taken_init__) (defBody s_Taken_init__) (defScope s_Taken_init__) .none kV_Taken_init__ dc_Taken_init__ pm_Taken_init__ an_Taken_init__ cd_Taken_init__ ct_Taken_init__), sl_Taken_init__⟩)
    (c_Taken_init__ : PySem.W.codeIn K cd_Taken_init__ "Taken.__init__" = true)
    (k_Taken_init__ : PySem.W.keepIn K (.ref f_Taken_init__) = true)
    {oc_WrongCount_init__ kV_WrongCount_init__ dc_WrongCount_init__ pm_WrongCount_init__ cd_WrongCount_init__ ct_WrongCount_init__ : Value}
    {od_WrongCount_init__ an_WrongCount_init__ : Option Addr}
    {sl_WrongCount_init__ : Array (Option Value)}
    (l_WrongCount_init__ : K.lookup f_WrongCount_init__ = some ⟨oc_WrongCount_init__, od_WrongCount_init__, .func (PySem.W.fnOf "__init__" "WrongCount.__init__" (defArgs s_WrongCount_init__) (defBody s_WrongCount_init__) (defScope s_WrongCount_init__) .none kV_WrongCount_init__ dc_WrongCount_init__ pm_WrongCount_init__ an_WrongCount_init__ cd_WrongCount_init__ ct_WrongCount_init__), sl_WrongCount_init__⟩)
    (c_WrongCount_init__ : PySem.W.codeIn K cd_WrongCount_init__ "WrongCount.__init__" = true)
    (k_WrongCount_init__ : PySem.W.keepIn K (.ref f_WrongCount_init__) = true)
    {oc_TooMany_init__ kV_TooMany_init__ dc_TooMany_init__ pm_TooMany_init__ cd_TooMany_init__ ct_TooMany_init__ : Value}
    {od_TooMany_init__ an_TooMany_init__ : Option Addr}
    {sl_TooMany_init__ : Array (Option Value)}
    (l_TooMany_init__ : K.lookup f_TooMany_init__ = some ⟨oc_TooMany_init__, od_TooMany_init__, .func (PySem.W.fnOf "__init__" "TooMany.__init__" (defArgs s_TooMany_init__) (defBody s_TooMany_init__) (defScope s_TooMany_init__) .none kV_TooMany_init__ dc_TooMany_init__ pm_TooMany_init__ an_TooMany_init__ cd_TooMany_init__ ct_TooMany_init__), sl_TooMany_init__⟩)
    (c_TooMany_init__ : PySem.W.codeIn K cd_TooMany_init__ "TooMany.__init__" = true)
    (k_TooMany_init__ : PySem.W.keepIn K (.ref f_TooMany_init__) = true)
    {oc_TooLarge_init__ kV_TooLarge_init__ dc_TooLarge_init__ pm_TooLarge_init__ cd_TooLarge_init__ ct_TooLarge_init__ : Value}
    {od_TooLarge_init__ an_TooLarge_init__ : Option Addr}
    {sl_TooLarge_init__ : Array (Option Value)}
    (l_TooLarge_init__ : K.lookup f_TooLarge_init__ = some ⟨oc_TooLarge_init__, od_TooLarge_init__, .func (PySem.W.fnOf "__init__" "TooLarge.__init__" (defArgs s_TooLarge_init__) (defBody s_TooLarge_init__) (defScope s_TooLarge_init__) .none kV_TooLarge_init__ dc_TooLarge_init__ pm_TooLarge_init__ an_TooLarge_init__ cd_TooLarge_init__ ct_TooLarge_init__), sl_TooLarge_init__⟩)
    (c_TooLarge_init__ : PySem.W.codeIn K cd_TooLarge_init__ "TooLarge.__init__" = true)
    (k_TooLarge_init__ : PySem.W.keepIn K (.ref f_TooLarge_init__) = true)
    {f_law_pen : Addr}
    (a_law_pen : PySem.W.nsIn K mainGlobals "_law_pen" = some (some (.ref f_law_pen)))
    {oc_law_pen kV_law_pen dc_law_pen pm_law_pen cd_law_pen ct_law_pen : Value}
    {od_law_pen an_law_pen : Option Addr}
    {sl_law_pen : Array (Option Value)}
    (l_law_pen : K.lookup f_law_pen = some ⟨oc_law_pen, od_law_pen, .func (PySem.W.fnOf "_law_pen" "_law_pen" (defArgs s_law_pen) (defBody s_law_pen) (defScope s_law_pen) .none kV_law_pen dc_law_pen pm_law_pen an_law_pen cd_law_pen ct_law_pen), sl_law_pen⟩)
    (c_law_pen : PySem.W.codeIn K cd_law_pen "_law_pen" = true)
    (k_law_pen : PySem.W.keepIn K (.ref f_law_pen) = true)
    {f_law_draw : Addr}
    (a_law_draw : PySem.W.nsIn K mainGlobals "_law_draw" = some (some (.ref f_law_draw)))
    {oc_law_draw kV_law_draw dc_law_draw pm_law_draw cd_law_draw ct_law_draw : Value}
    {od_law_draw an_law_draw : Option Addr}
    {sl_law_draw : Array (Option Value)}
    (l_law_draw : K.lookup f_law_draw = some ⟨oc_law_draw, od_law_draw, .func (PySem.W.fnOf "_law_draw" "_law_draw" (defArgs s_law_draw) (defBody s_law_draw) (defScope s_law_draw) .none kV_law_draw dc_law_draw pm_law_draw an_law_draw cd_law_draw ct_law_draw), sl_law_draw⟩)
    (c_law_draw : PySem.W.codeIn K cd_law_draw "_law_draw" = true)
    (k_law_draw : PySem.W.keepIn K (.ref f_law_draw) = true)
    {f_law_pick : Addr}
    (a_law_pick : PySem.W.nsIn K mainGlobals "_law_pick" = some (some (.ref f_law_pick)))
    {oc_law_pick kV_law_pick dc_law_pick pm_law_pick cd_law_pick ct_law_pick : Value}
    {od_law_pick an_law_pick : Option Addr}
    {sl_law_pick : Array (Option Value)}
    (l_law_pick : K.lookup f_law_pick = some ⟨oc_law_pick, od_law_pick, .func (PySem.W.fnOf "_law_pick" "_law_pick" (defArgs s_law_pick) (defBody s_law_pick) (defScope s_law_pick) .none kV_law_pick dc_law_pick pm_law_pick an_law_pick cd_law_pick ct_law_pick), sl_law_pick⟩)
    (c_law_pick : PySem.W.codeIn K cd_law_pick "_law_pick" = true)
    (k_law_pick : PySem.W.keepIn K (.ref f_law_pick) = true)
    {f_law_thing : Addr}
    (a_law_thing : PySem.W.nsIn K mainGlobals "_law_thing" = some (some (.ref f_law_thing)))
    {oc_law_thing kV_law_thing dc_law_thing pm_law_thing cd_law_thing ct_law_thing : Value}
    {od_law_thing an_law_thing : Option Addr}
    {sl_law_thing : Array (Option Value)}
    (l_law_thing : K.lookup f_law_thing = some ⟨oc_law_thing, od_law_thing, .func (PySem.W.fnOf "_law_thing" "_law_thing" (defArgs s_law_thing) (defBody s_law_thing) (defScope s_law_thing) .none kV_law_thing dc_law_thing pm_law_thing an_law_thing cd_law_thing ct_law_thing), sl_law_thing⟩)
    (c_law_thing : PySem.W.codeIn K cd_law_thing "_law_thing" = true)
    (k_law_thing : PySem.W.keepIn K (.ref f_law_thing) = true)
    {f_law_kinds : Addr}
    (a_law_kinds : PySem.W.nsIn K mainGlobals "_law_kinds" = some (some (.ref f_law_kinds)))
    {oc_law_kinds kV_law_kinds dc_law_kinds pm_law_kinds cd_law_kinds ct_law_kinds : Value}
    {od_law_kinds an_law_kinds : Option Addr}
    {sl_law_kinds : Array (Option Value)}
    (l_law_kinds : K.lookup f_law_kinds = some ⟨oc_law_kinds, od_law_kinds, .func (PySem.W.fnOf "_law_kinds" "_law_kinds" (defArgs s_law_kinds) (defBody s_law_kinds) (defScope s_law_kinds) .none kV_law_kinds dc_law_kinds pm_law_kinds an_law_kinds cd_law_kinds ct_law_kinds), sl_law_kinds⟩)
    (c_law_kinds : PySem.W.codeIn K cd_law_kinds "_law_kinds" = true)
    (k_law_kinds : PySem.W.keepIn K (.ref f_law_kinds) = true)
    {f_law_is_based : Addr}
    (a_law_is_based : PySem.W.nsIn K mainGlobals "_law_is_based" = some (some (.ref f_law_is_based)))
    {oc_law_is_based kV_law_is_based dc_law_is_based pm_law_is_based cd_law_is_based ct_law_is_based : Value}
    {od_law_is_based an_law_is_based : Option Addr}
    {sl_law_is_based : Array (Option Value)}
    (l_law_is_based : K.lookup f_law_is_based = some ⟨oc_law_is_based, od_law_is_based, .func (PySem.W.fnOf "_law_is_based" "_law_is_based" (defArgs s_law_is_based) (defBody s_law_is_based) (defScope s_law_is_based) .none kV_law_is_based dc_law_is_based pm_law_is_based an_law_is_based cd_law_is_based ct_law_is_based), sl_law_is_based⟩)
    (c_law_is_based : PySem.W.codeIn K cd_law_is_based "_law_is_based" = true)
    (k_law_is_based : PySem.W.keepIn K (.ref f_law_is_based) = true)
    {f_law_values : Addr}
    (a_law_values : PySem.W.nsIn K mainGlobals "_law_values" = some (some (.ref f_law_values)))
    {oc_law_values kV_law_values dc_law_values pm_law_values cd_law_values ct_law_values : Value}
    {od_law_values an_law_values : Option Addr}
    {sl_law_values : Array (Option Value)}
    (l_law_values : K.lookup f_law_values = some ⟨oc_law_values, od_law_values, .func (PySem.W.fnOf "_law_values" "_law_values" (defArgs s_law_values) (defBody s_law_values) (defScope s_law_values) .none kV_law_values dc_law_values pm_law_values an_law_values cd_law_values ct_law_values), sl_law_values⟩)
    (c_law_values : PySem.W.codeIn K cd_law_values "_law_values" = true)
    (k_law_values : PySem.W.keepIn K (.ref f_law_values) = true)
    {f_law_places : Addr}
    (a_law_places : PySem.W.nsIn K mainGlobals "_law_places" = some (some (.ref f_law_places)))
    {oc_law_places kV_law_places dc_law_places pm_law_places cd_law_places ct_law_places : Value}
    {od_law_places an_law_places : Option Addr}
    {sl_law_places : Array (Option Value)}
    (l_law_places : K.lookup f_law_places = some ⟨oc_law_places, od_law_places, .func (PySem.W.fnOf "_law_places" "_law_places" (defArgs s_law_places) (defBody s_law_places) (defScope s_law_places) .none kV_law_places dc_law_places pm_law_places an_law_places cd_law_places ct_law_places), sl_law_places⟩)
    (c_law_places : PySem.W.codeIn K cd_law_places "_law_places" = true)
    (k_law_places : PySem.W.keepIn K (.ref f_law_places) = true)
    {f_law_several_right : Addr}
    (a_law_several_right : PySem.W.nsIn K mainGlobals "_law_several_right" = some (some (.ref f_law_several_right)))
    {oc_law_several_right kV_law_several_right dc_law_several_right pm_law_several_right cd_law_several_right ct_law_several_right : Value}
    {od_law_several_right an_law_several_right : Option Addr}
    {sl_law_several_right : Array (Option Value)}
    (l_law_several_right : K.lookup f_law_several_right = some ⟨oc_law_several_right, od_law_several_right, .func (PySem.W.fnOf "_law_several_right" "_law_several_right" (defArgs s_law_several_right) (defBody s_law_several_right) (defScope s_law_several_right) .none kV_law_several_right dc_law_several_right pm_law_several_right an_law_several_right cd_law_several_right ct_law_several_right), sl_law_several_right⟩)
    (c_law_several_right : PySem.W.codeIn K cd_law_several_right "_law_several_right" = true)
    (k_law_several_right : PySem.W.keepIn K (.ref f_law_several_right) = true)
    {f_law : Addr}
    (a_law : PySem.W.nsIn K mainGlobals "law" = some (some (.ref f_law)))
    {oc_law kV_law dc_law pm_law cd_law ct_law : Value}
    {od_law an_law : Option Addr}
    {sl_law : Array (Option Value)}
    (l_law : K.lookup f_law = some ⟨oc_law, od_law, .func (PySem.W.fnOf "law" "law" (defArgs s_law) (defBody s_law) (defScope s_law) .none kV_law dc_law pm_law an_law cd_law ct_law), sl_law⟩)
    (c_law : PySem.W.codeIn K cd_law "law" = true)
    (k_law : PySem.W.keepIn K (.ref f_law) = true)
    (z_ArithmeticError : PySem.W.nsIn K mainGlobals "ArithmeticError" = some none)
    (z_IndexError : PySem.W.nsIn K mainGlobals "IndexError" = some none)
    (z_KeyError : PySem.W.nsIn K mainGlobals "KeyError" = some none)
    (z_LookupError : PySem.W.nsIn K mainGlobals "LookupError" = some none)
    (z_OverflowError : PySem.W.nsIn K mainGlobals "OverflowError" = some none)
    (z_RuntimeError : PySem.W.nsIn K mainGlobals "RuntimeError" = some none)
    (z_TypeError : PySem.W.nsIn K mainGlobals "TypeError" = some none)
    (z_ValueError : PySem.W.nsIn K mainGlobals "ValueError" = some none)
    (z_abs : PySem.W.nsIn K mainGlobals "abs" = some none)
    (z_enumerate : PySem.W.nsIn K mainGlobals "enumerate" = some none)
    (z_int : PySem.W.nsIn K mainGlobals "int" = some none)
    (z_isinstance : PySem.W.nsIn K mainGlobals "isinstance" = some none)
    (z_len : PySem.W.nsIn K mainGlobals "len" = some none)
    (z_list : PySem.W.nsIn K mainGlobals "list" = some none)
    (z_range : PySem.W.nsIn K mainGlobals "range" = some none)
    (z_repr : PySem.W.nsIn K mainGlobals "repr" = some none)
    : ∃ fd : FuncData, (∀ (s : Shared) (v : Value), BindsTo s fd ⟨[v], []⟩ [("_law_script", v)]) ∧ ∀ base : Heap, K.In base → base.Ns mainGlobals mg → FnG l.prog w K mg base (L2.CX l.prog w) 8 fa fd p_law (toSp K sp_law) := by
  have e := hfa.symm.trans (PySem.W.mg_of X G a_law)
  cases e
  exact ⟨_, fun s v => .of_eq rfl, fun base _ _ => ok_law { m_Blank := PySem.W.mg_of X G q_Blank_at, at_Blank := q_Blank_at, m_Clash := PySem.W.mg_of X G q_Clash_at, at_Clash := q_Clash_at, m_FieldClash := PySem.W.mg_of X G q_FieldClash_at, at_FieldClash := q_FieldClash_at, m_InvalidAddress := PySem.W.mg_of X G q_InvalidAddress_at, at_InvalidAddress := q_InvalidAddress_at, m_InvalidFrame := PySem.W.mg_of X G q_InvalidFrame_at, at_InvalidFrame := q_InvalidFrame_at, m_InvalidKind := PySem.W.mg_of X G q_InvalidKind_at, at_InvalidKind := q_InvalidKind_at, m_InvalidName := PySem.W.mg_of X G q_InvalidName_at, at_InvalidName := q_InvalidName_at, m_InvalidNumber := PySem.W.mg_of X G q_InvalidNumber_at, at_InvalidNumber := q_InvalidNumber_at, m_InvalidRow := PySem.W.mg_of X G q_InvalidRow_at, at_InvalidRow := q_InvalidRow_at, m_InvalidRows := PySem.W.mg_of X G q_InvalidRows_at, at_InvalidRows := q_InvalidRows_at, m_InvalidText := PySem.W.mg_of X G q_InvalidText_at, at_InvalidText := q_InvalidText_at, m_InvalidWord := PySem.W.mg_of X G q_InvalidWord_at, at_InvalidWord := q_InvalidWord_at, m_Locked := PySem.W.mg_of X G q_Locked_at, at_Locked := q_Locked_at, m_NoCase := PySem.W.mg_of X G q_NoCase_at, at_NoCase := q_NoCase_at, m_NoClass := PySem.W.mg_of X G q_NoClass_at, at_NoClass := q_NoClass_at, m_NoCondition := PySem.W.mg_of X G q_NoCondition_at, at_NoCondition := q_NoCondition_at, m_NoEntries := PySem.W.mg_of X G q_NoEntries_at, at_NoEntries := q_NoEntries_at, m_NoField := PySem.W.mg_of X G q_NoField_at, at_NoField := q_NoField_at, m_NoKind := PySem.W.mg_of X G q_NoKind_at, at_NoKind := q_NoKind_at, m_NoLanding := PySem.W.mg_of X G q_NoLanding_at, at_NoLanding := q_NoLanding_at, m_NoState := PySem.W.mg_of X G q_NoState_at, at_NoState := q_NoState_at, m_NoStates := PySem.W.mg_of X G q_NoStates_at, at_NoStates := q_NoStates_at, m_NoTarget := PySem.W.mg_of X G q_NoTarget_at, at_NoTarget := q_NoTarget_at, m_NotCarried := PySem.W.mg_of X G q_NotCarried_at, at_NotCarried := q_NotCarried_at, m_NotEnd := PySem.W.mg_of X G q_NotEnd_at, at_NotEnd := q_NotEnd_at, m_NotPossible := PySem.W.mg_of X G q_NotPossible_at, at_NotPossible := q_NotPossible_at, m_NotReady := PySem.W.mg_of X G q_NotReady_at, at_NotReady := q_NotReady_at, m_OrError := PySem.W.mg_of X G q_OrError_at, at_OrError := q_OrError_at, m_StateClash := PySem.W.mg_of X G q_StateClash_at, at_StateClash := q_StateClash_at, m_Taken := PySem.W.mg_of X G q_Taken_at, at_Taken := q_Taken_at, m_TooLarge := PySem.W.mg_of X G q_TooLarge_at, at_TooLarge := q_TooLarge_at, m_TooMany := PySem.W.mg_of X G q_TooMany_at, at_TooMany := q_TooMany_at, m_Unlike := PySem.W.mg_of X G q_Unlike_at, at_Unlike := q_Unlike_at, m_WrongCount := PySem.W.mg_of X G q_WrongCount_at, at_WrongCount := q_WrongCount_at, ke := L3.kitE_of q_erall, o0_NoEntries := ⟨q_NoEntries_o0ex, q_NoEntries_o0kp, q_NoEntries_o0sb, q_NoEntries_o0ty⟩, o0_NoStates := ⟨q_NoStates_o0ex, q_NoStates_o0kp, q_NoStates_o0sb, q_NoStates_o0ty⟩, o0_NotCarried := ⟨q_NotCarried_o0ex, q_NotCarried_o0kp, q_NotCarried_o0sb, q_NotCarried_o0ty⟩, o0_NotEnd := ⟨q_NotEnd_o0ex, q_NotEnd_o0kp, q_NotEnd_o0sb, q_NotEnd_o0ty⟩, o0_Unlike := ⟨q_Unlike_o0ex, q_Unlike_o0kp, q_Unlike_o0sb, q_Unlike_o0ty⟩, ox_Blank := q_Blank_ox, ii_Blank := q_Blank_ii, ti_Blank := q_Blank_ti, xi_Blank_address := q_xi_Blank_address, ox_Clash := q_Clash_ox, ii_Clash := q_Clash_ii, ti_Clash := q_Clash_ti, xi_Clash_lesser := q_xi_Clash_lesser, xi_Clash_name := q_xi_Clash_name, ox_FieldClash := q_FieldClash_ox, ii_FieldClash := q_FieldClash_ii, ti_FieldClash := q_FieldClash_ti, xi_FieldClash_field := q_xi_FieldClash_field, xi_FieldClash_one := q_xi_FieldClash_one, xi_FieldClash_other := q_xi_FieldClash_other, ox_InvalidAddress := q_InvalidAddress_ox, ii_InvalidAddress := q_InvalidAddress_ii, ti_InvalidAddress := q_InvalidAddress_ti, xi_InvalidAddress_address := q_xi_InvalidAddress_address, ox_InvalidFrame := q_InvalidFrame_ox, ii_InvalidFrame := q_InvalidFrame_ii, ti_InvalidFrame := q_InvalidFrame_ti, xi_InvalidFrame_part := q_xi_InvalidFrame_part, ox_InvalidKind := q_InvalidKind_ox, ii_InvalidKind := q_InvalidKind_ii, ti_InvalidKind := q_InvalidKind_ti, xi_InvalidKind_part := q_xi_InvalidKind_part, ox_InvalidName := q_InvalidName_ox, ii_InvalidName := q_InvalidName_ii, ti_InvalidName := q_InvalidName_ti, xi_InvalidName_value := q_xi_InvalidName_value, ox_InvalidNumber := q_InvalidNumber_ox, ii_InvalidNumber := q_InvalidNumber_ii, ti_InvalidNumber := q_InvalidNumber_ti, xi_InvalidNumber_value := q_xi_InvalidNumber_value, ox_InvalidRow := q_InvalidRow_ox, ii_InvalidRow := q_InvalidRow_ii, ti_InvalidRow := q_InvalidRow_ti, xi_InvalidRow_value := q_xi_InvalidRow_value, ox_InvalidRows := q_InvalidRows_ox, ii_InvalidRows := q_InvalidRows_ii, ti_InvalidRows := q_InvalidRows_ti, xi_InvalidRows_part := q_xi_InvalidRows_part, ox_InvalidText := q_InvalidText_ox, ii_InvalidText := q_InvalidText_ii, ti_InvalidText := q_InvalidText_ti, xi_InvalidText_line := q_xi_InvalidText_line, xi_InvalidText_word := q_xi_InvalidText_word, ox_InvalidWord := q_InvalidWord_ox, ii_InvalidWord := q_InvalidWord_ii, ti_InvalidWord := q_InvalidWord_ti, xi_InvalidWord_part := q_xi_InvalidWord_part, ox_Locked := q_Locked_ox, ii_Locked := q_Locked_ii, ti_Locked := q_Locked_ti, xi_Locked_address := q_xi_Locked_address, ox_NoCase := q_NoCase_ox, ii_NoCase := q_NoCase_ii, ti_NoCase := q_NoCase_ti, xi_NoCase_case := q_xi_NoCase_case, ox_NoClass := q_NoClass_ox, ii_NoClass := q_NoClass_ii, ti_NoClass := q_NoClass_ti, xi_NoClass_value := q_xi_NoClass_value, ox_NoCondition := q_NoCondition_ox, ii_NoCondition := q_NoCondition_ii, ti_NoCondition := q_NoCondition_ti, xi_NoCondition_name := q_xi_NoCondition_name, ox_NoField := q_NoField_ox, ii_NoField := q_NoField_ii, ti_NoField := q_NoField_ti, xi_NoField_name := q_xi_NoField_name, ox_NoKind := q_NoKind_ox, ii_NoKind := q_NoKind_ii, ti_NoKind := q_NoKind_ti, xi_NoKind_name := q_xi_NoKind_name, ox_NoLanding := q_NoLanding_ox, ii_NoLanding := q_NoLanding_ii, ti_NoLanding := q_NoLanding_ti, xi_NoLanding_value := q_xi_NoLanding_value, ox_NoState := q_NoState_ox, ii_NoState := q_NoState_ii, ti_NoState := q_NoState_ti, xi_NoState_name := q_xi_NoState_name, ox_NoTarget := q_NoTarget_ox, ii_NoTarget := q_NoTarget_ii, ti_NoTarget := q_NoTarget_ti, xi_NoTarget_value := q_xi_NoTarget_value, ox_NotPossible := q_NotPossible_ox, ii_NotPossible := q_NotPossible_ii, ti_NotPossible := q_NotPossible_ti, xi_NotPossible_row := q_xi_NotPossible_row, ox_NotReady := q_NotReady_ox, ii_NotReady := q_NotReady_ii, ti_NotReady := q_NotReady_ti, xi_NotReady_part := q_xi_NotReady_part, ox_StateClash := q_StateClash_ox, ii_StateClash := q_StateClash_ii, ti_StateClash := q_StateClash_ti, xi_StateClash_name := q_xi_StateClash_name, ox_Taken := q_Taken_ox, ii_Taken := q_Taken_ii, ti_Taken := q_Taken_ti, xi_Taken_name := q_xi_Taken_name, ox_TooLarge := q_TooLarge_ox, ii_TooLarge := q_TooLarge_ii, ti_TooLarge := q_TooLarge_ti, xi_TooLarge_limit := q_xi_TooLarge_limit, ox_TooMany := q_TooMany_ox, ii_TooMany := q_TooMany_ii, ti_TooMany := q_TooMany_ti, xi_TooMany_part := q_xi_TooMany_part, ox_WrongCount := q_WrongCount_ox, ii_WrongCount := q_WrongCount_ii, ti_WrongCount := q_WrongCount_ti, xi_WrongCount_wanted := q_xi_WrongCount_wanted, smK := q_smK, xa_Blank_address := q_xi_Blank_address, xa_Clash_lesser := q_xi_Clash_lesser, xa_Clash_name := q_xi_Clash_name, xa_FieldClash_field := q_xi_FieldClash_field, xa_FieldClash_one := q_xi_FieldClash_one, xa_FieldClash_other := q_xi_FieldClash_other, xa_InvalidAddress_address := q_xi_InvalidAddress_address, xa_InvalidFrame_part := q_xi_InvalidFrame_part, xa_InvalidKind_part := q_xi_InvalidKind_part, xa_InvalidName_value := q_xi_InvalidName_value, xa_InvalidNumber_value := q_xi_InvalidNumber_value, xa_InvalidRow_value := q_xi_InvalidRow_value, xa_InvalidRows_part := q_xi_InvalidRows_part, xa_InvalidText_line := q_xi_InvalidText_line, xa_InvalidText_word := q_xi_InvalidText_word, xa_InvalidWord_part := q_xi_InvalidWord_part, xa_Locked_address := q_xi_Locked_address, xa_NoCase_case := q_xi_NoCase_case, xa_NoClass_value := q_xi_NoClass_value, xa_NoCondition_name := q_xi_NoCondition_name, xa_NoField_name := q_xi_NoField_name, xa_NoKind_name := q_xi_NoKind_name, xa_NoLanding_value := q_xi_NoLanding_value, xa_NoState_name := q_xi_NoState_name, xa_NoTarget_value := q_xi_NoTarget_value, xa_NotPossible_row := q_xi_NotPossible_row, xa_NotReady_part := q_xi_NotReady_part, xa_StateClash_name := q_xi_StateClash_name, xa_Taken_name := q_xi_Taken_name, xa_TooLarge_limit := q_xi_TooLarge_limit, xa_TooMany_part := q_xi_TooMany_part, xa_WrongCount_wanted := q_xi_WrongCount_wanted, xf_Blank := (L3.erAll_one q_erall (p := ("Blank", C_Blank)) (.tail _ (.tail _ (.tail _ (.tail _ (.tail _ (.tail _ (.tail _ (.tail _ (.tail _ (.tail _ (.tail _ (.tail _ (.tail _ (.tail _ (.head _)))))))))))))))).2.2, xf_Clash := (L3.erAll_one q_erall (p := ("Clash", C_Clash)) (.tail _ (.tail _ (.tail _ (.tail _ (.tail _ (.tail _ (.tail _ (.tail _ (.tail _ (.tail _ (.tail _ (.tail _ (.tail _ (.tail _ (.tail _ (.tail _ (.tail _ (.tail _ (.tail _ (.tail _ (.tail _ (.tail _ (.tail _ (.tail _ (.tail _ (.tail _ (.tail _ (.head _))))))))))))))))))))))))))))).2.2, xf_FieldClash := (L3.erAll_one q_erall (p := ("FieldClash", C_FieldClash)) (.tail _ (.tail _ (.tail _ (.tail _ (.tail _ (.tail _ (.tail _ (.tail _ (.tail _ (.tail _ (.tail _ (.tail _ (.tail _ (.tail _ (.tail _ (.tail _ (.tail _ (.tail _ (.tail _ (.tail _ (.tail _ (.tail _ (.tail _ (.tail _ (.tail _ (.tail _ (.head _)))))))))))))))))))))))))))).2.2, xf_InvalidAddress := (L3.erAll_one q_erall (p := ("InvalidAddress", C_InvalidAddress)) (.tail _ (.tail _ (.tail _ (.tail _ (.tail _ (.tail _ (.tail _ (.tail _ (.tail _ (.tail _ (.tail _ (.tail _ (.head _)))))))))))))).2.2, xf_InvalidFrame := (L3.erAll_one q_erall (p := ("InvalidFrame", C_InvalidFrame)) (.tail _ (.tail _ (.tail _ (.tail _ (.tail _ (.tail _ (.tail _ (.tail _ (.head _)))))))))).2.2, xf_InvalidKind := (L3.erAll_one q_erall (p := ("InvalidKind", C_InvalidKind)) (.tail _ (.tail _ (.tail _ (.tail _ (.tail _ (.tail _ (.tail _ (.head _))))))))).2.2, xf_InvalidName := (L3.erAll_one q_erall (p := ("InvalidName", C_InvalidName)) (.head _)).2.2, xf_InvalidNumber := (L3.erAll_one q_erall (p := ("InvalidNumber", C_InvalidNumber)) (.tail _ (.head _))).2.2, xf_InvalidRow := (L3.erAll_one q_erall (p := ("InvalidRow", C_InvalidRow)) (.tail _ (.tail _ (.head _)))).2.2, xf_InvalidRows := (L3.erAll_one q_erall (p := ("InvalidRows", C_InvalidRows)) (.tail _ (.tail _ (.tail _ (.tail _ (.tail _ (.tail _ (.head _)))))))).2.2, xf_InvalidText := (L3.erAll_one q_erall (p := ("InvalidText", C_InvalidText)) (.tail _ (.tail _ (.tail _ (.tail _ (.tail _ (.tail _ (.tail _ (.tail _ (.tail _ (.tail _ (.tail _ (.tail _ (.tail _ (.tail _ (.tail _ (.tail _ (.tail _ (.tail _ (.tail _ (.tail _ (.tail _ (.tail _ (.tail _ (.tail _ (.tail _ (.head _))))))))))))))))))))))))))).2.2, xf_InvalidWord := (L3.erAll_one q_erall (p := ("InvalidWord", C_InvalidWord)) (.tail _ (.tail _ (.tail _ (.tail _ (.tail _ (.tail _ (.tail _ (.tail _ (.tail _ (.head _))))))))))).2.2, xf_Locked := (L3.erAll_one q_erall (p := ("Locked", C_Locked)) (.tail _ (.tail _ (.tail _ (.tail _ (.tail _ (.tail _ (.tail _ (.tail _ (.tail _ (.tail _ (.tail _ (.tail _ (.tail _ (.head _))))))))))))))).2.2, xf_NoCase := (L3.erAll_one q_erall (p := ("NoCase", C_NoCase)) (.tail _ (.tail _ (.tail _ (.tail _ (.tail _ (.tail _ (.tail _ (.tail _ (.tail _ (.tail _ (.tail _ (.tail _ (.tail _ (.tail _ (.tail _ (.tail _ (.tail _ (.tail _ (.tail _ (.tail _ (.tail _ (.tail _ (.head _)))))))))))))))))))))))).2.2, xf_NoClass := (L3.erAll_one q_erall (p := ("NoClass", C_NoClass)) (.tail _ (.tail _ (.tail _ (.tail _ (.head _)))))).2.2, xf_NoCondition := (L3.erAll_one q_erall (p := ("NoCondition", C_NoCondition)) (.tail _ (.tail _ (.tail _ (.tail _ (.tail _ (.tail _ (.tail _ (.tail _ (.tail _ (.tail _ (.tail _ (.tail _ (.tail _ (.tail _ (.tail _ (.tail _ (.head _)))))))))))))))))).2.2, xf_NoField := (L3.erAll_one q_erall (p := ("NoField", C_NoField)) (.tail _ (.tail _ (.tail _ (.tail _ (.tail _ (.tail _ (.tail _ (.tail _ (.tail _ (.tail _ (.tail _ (.tail _ (.tail _ (.tail _ (.tail _ (.tail _ (.tail _ (.head _))))))))))))))))))).2.2, xf_NoKind := (L3.erAll_one q_erall (p := ("NoKind", C_NoKind)) (.tail _ (.tail _ (.tail _ (.tail _ (.tail _ (.tail _ (.tail _ (.tail _ (.tail _ (.tail _ (.tail _ (.tail _ (.tail _ (.tail _ (.tail _ (.tail _ (.tail _ (.tail _ (.head _)))))))))))))))))))).2.2, xf_NoLanding := (L3.erAll_one q_erall (p := ("NoLanding", C_NoLanding)) (.tail _ (.tail _ (.tail _ (.tail _ (.tail _ (.head _))))))).2.2, xf_NoState := (L3.erAll_one q_erall (p := ("NoState", C_NoState)) (.tail _ (.tail _ (.tail _ (.tail _ (.tail _ (.tail _ (.tail _ (.tail _ (.tail _ (.tail _ (.tail _ (.tail _ (.tail _ (.tail _ (.tail _ (.tail _ (.tail _ (.tail _ (.tail _ (.head _))))))))))))))))))))).2.2, xf_NoTarget := (L3.erAll_one q_erall (p := ("NoTarget", C_NoTarget)) (.tail _ (.tail _ (.tail _ (.head _))))).2.2, xf_NotPossible := (L3.erAll_one q_erall (p := ("NotPossible", C_NotPossible)) (.tail _ (.tail _ (.tail _ (.tail _ (.tail _ (.tail _ (.tail _ (.tail _ (.tail _ (.tail _ (.tail _ (.tail _ (.tail _ (.tail _ (.tail _ (.tail _ (.tail _ (.tail _ (.tail _ (.tail _ (.tail _ (.head _))))))))))))))))))))))).2.2, xf_NotReady := (L3.erAll_one q_erall (p := ("NotReady", C_NotReady)) (.tail _ (.tail _ (.tail _ (.tail _ (.tail _ (.tail _ (.tail _ (.tail _ (.tail _ (.tail _ (.head _)))))))))))).2.2, xf_StateClash := (L3.erAll_one q_erall (p := ("StateClash", C_StateClash)) (.tail _ (.tail _ (.tail _ (.tail _ (.tail _ (.tail _ (.tail _ (.tail _ (.tail _ (.tail _ (.tail _ (.tail _ (.tail _ (.tail _ (.tail _ (.head _))))))))))))))))).2.2, xf_Taken := (L3.erAll_one q_erall (p := ("Taken", C_Taken)) (.tail _ (.tail _ (.tail _ (.tail _ (.tail _ (.tail _ (.tail _ (.tail _ (.tail _ (.tail _ (.tail _ (.tail _ (.tail _ (.tail _ (.tail _ (.tail _ (.tail _ (.tail _ (.tail _ (.tail _ (.head _)))))))))))))))))))))).2.2, xf_TooLarge := (L3.erAll_one q_erall (p := ("TooLarge", C_TooLarge)) (.tail _ (.tail _ (.tail _ (.tail _ (.tail _ (.tail _ (.tail _ (.tail _ (.tail _ (.tail _ (.tail _ (.tail _ (.tail _ (.tail _ (.tail _ (.tail _ (.tail _ (.tail _ (.tail _ (.tail _ (.tail _ (.tail _ (.tail _ (.tail _ (.head _)))))))))))))))))))))))))).2.2, xf_TooMany := (L3.erAll_one q_erall (p := ("TooMany", C_TooMany)) (.tail _ (.tail _ (.tail _ (.tail _ (.tail _ (.tail _ (.tail _ (.tail _ (.tail _ (.tail _ (.tail _ (.head _))))))))))))).2.2, xf_WrongCount := (L3.erAll_one q_erall (p := ("WrongCount", C_WrongCount)) (.tail _ (.tail _ (.tail _ (.tail _ (.tail _ (.tail _ (.tail _ (.tail _ (.tail _ (.tail _ (.tail _ (.tail _ (.tail _ (.tail _ (.tail _ (.tail _ (.tail _ (.tail _ (.tail _ (.tail _ (.tail _ (.tail _ (.tail _ (.head _))))))))))))))))))))))))).2.2, l_InvalidName_init__ := l_InvalidName_init__, c_InvalidName_init__ := c_InvalidName_init__, k_InvalidName_init__ := k_InvalidName_init__, l_InvalidNumber_init__ := l_InvalidNumber_init__, c_InvalidNumber_init__ := c_InvalidNumber_init__, k_InvalidNumber_init__ := k_InvalidNumber_init__, l_InvalidRows_init__ := l_InvalidRows_init__, c_InvalidRows_init__ := c_InvalidRows_init__, k_InvalidRows_init__ := k_InvalidRows_init__, l_InvalidRow_init__ := l_InvalidRow_init__, c_InvalidRow_init__ := c_InvalidRow_init__, k_InvalidRow_init__ := k_InvalidRow_init__, l_InvalidKind_init__ := l_InvalidKind_init__, c_InvalidKind_init__ := c_InvalidKind_init__, k_InvalidKind_init__ := k_InvalidKind_init__, l_InvalidFrame_init__ := l_InvalidFrame_init__, c_InvalidFrame_init__ := c_InvalidFrame_init__, k_InvalidFrame_init__ := k_InvalidFrame_init__, l_InvalidWord_init__ := l_InvalidWord_init__, c_InvalidWord_init__ := c_InvalidWord_init__, k_InvalidWord_init__ := k_InvalidWord_init__, l_InvalidAddress_init__ := l_InvalidAddress_init__, c_InvalidAddress_init__ := c_InvalidAddress_init__, k_InvalidAddress_init__ := k_InvalidAddress_init__, l_InvalidText_init__ := l_InvalidText_init__, c_InvalidText_init__ := c_InvalidText_init__, k_InvalidText_init__ := k_InvalidText_init__, l_FieldClash_init__ := l_FieldClash_init__, c_FieldClash_init__ := c_FieldClash_init__, k_FieldClash_init__ := k_FieldClash_init__, l_Clash_init__ := l_Clash_init__, c_Clash_init__ := c_Clash_init__, k_Clash_init__ := k_Clash_init__, l_StateClash_init__ := l_StateClash_init__, c_StateClash_init__ := c_StateClash_init__, k_StateClash_init__ := k_StateClash_init__, l_Locked_init__ := l_Locked_init__, c_Locked_init__ := c_Locked_init__, k_Locked_init__ := k_Locked_init__, l_Blank_init__ := l_Blank_init__, c_Blank_init__ := c_Blank_init__, k_Blank_init__ := k_Blank_init__, l_NotPossible_init__ := l_NotPossible_init__, c_NotPossible_init__ := c_NotPossible_init__, k_NotPossible_init__ := k_NotPossible_init__, l_NoCondition_init__ := l_NoCondition_init__, c_NoCondition_init__ := c_NoCondition_init__, k_NoCondition_init__ := k_NoCondition_init__, l_NoField_init__ := l_NoField_init__, c_NoField_init__ := c_NoField_init__, k_NoField_init__ := k_NoField_init__, l_NoKind_init__ := l_NoKind_init__, c_NoKind_init__ := c_NoKind_init__, k_NoKind_init__ := k_NoKind_init__, l_NoState_init__ := l_NoState_init__, c_NoState_init__ := c_NoState_init__, k_NoState_init__ := k_NoState_init__, l_NoTarget_init__ := l_NoTarget_init__, c_NoTarget_init__ := c_NoTarget_init__, k_NoTarget_init__ := k_NoTarget_init__, l_NoClass_init__ := l_NoClass_init__, c_NoClass_init__ := c_NoClass_init__, k_NoClass_init__ := k_NoClass_init__, l_NoLanding_init__ := l_NoLanding_init__, c_NoLanding_init__ := c_NoLanding_init__, k_NoLanding_init__ := k_NoLanding_init__, l_NoCase_init__ := l_NoCase_init__, c_NoCase_init__ := c_NoCase_init__, k_NoCase_init__ := k_NoCase_init__, l_NotReady_init__ := l_NotReady_init__, c_NotReady_init__ := c_NotReady_init__, k_NotReady_init__ := k_NotReady_init__, l_Taken_init__ := l_Taken_init__, c_Taken_init__ := c_Taken_init__, k_Taken_init__ := k_Taken_init__, l_WrongCount_init__ := l_WrongCount_init__, c_WrongCount_init__ := c_WrongCount_init__, k_WrongCount_init__ := k_WrongCount_init__, l_TooMany_init__ := l_TooMany_init__, c_TooMany_init__ := c_TooMany_init__, k_TooMany_init__ := k_TooMany_init__, l_TooLarge_init__ := l_TooLarge_init__, c_TooLarge_init__ := c_TooLarge_init__, k_TooLarge_init__ := k_TooLarge_init__, g_law_pen := PySem.W.mg_of X G a_law_pen, l_law_pen := l_law_pen, c_law_pen := c_law_pen, k_law_pen := k_law_pen, g_law_draw := PySem.W.mg_of X G a_law_draw, l_law_draw := l_law_draw, c_law_draw := c_law_draw, k_law_draw := k_law_draw, g_law_pick := PySem.W.mg_of X G a_law_pick, l_law_pick := l_law_pick, c_law_pick := c_law_pick, k_law_pick := k_law_pick, g_law_thing := PySem.W.mg_of X G a_law_thing, l_law_thing := l_law_thing, c_law_thing := c_law_thing, k_law_thing := k_law_thing, g_law_kinds := PySem.W.mg_of X G a_law_kinds, l_law_kinds := l_law_kinds, c_law_kinds := c_law_kinds, k_law_kinds := k_law_kinds, g_law_is_based := PySem.W.mg_of X G a_law_is_based, l_law_is_based := l_law_is_based, c_law_is_based := c_law_is_based, k_law_is_based := k_law_is_based, g_law_values := PySem.W.mg_of X G a_law_values, l_law_values := l_law_values, c_law_values := c_law_values, k_law_values := k_law_values, g_law_places := PySem.W.mg_of X G a_law_places, l_law_places := l_law_places, c_law_places := c_law_places, k_law_places := k_law_places, g_law_several_right := PySem.W.mg_of X G a_law_several_right, l_law_several_right := l_law_several_right, c_law_several_right := c_law_several_right, k_law_several_right := k_law_several_right, g_law := PySem.W.mg_of X G a_law, l_law := l_law, c_law := c_law, k_law := k_law, z_ArithmeticError := PySem.W.mg_none_of X G z_ArithmeticError, z_IndexError := PySem.W.mg_none_of X G z_IndexError, z_KeyError := PySem.W.mg_none_of X G z_KeyError, z_LookupError := PySem.W.mg_none_of X G z_LookupError, z_OverflowError := PySem.W.mg_none_of X G z_OverflowError, z_RuntimeError := PySem.W.mg_none_of X G z_RuntimeError, z_TypeError := PySem.W.mg_none_of X G z_TypeError, z_ValueError := PySem.W.mg_none_of X G z_ValueError, z_abs := PySem.W.mg_none_of X G z_abs, z_enumerate := PySem.W.mg_none_of X G z_enumerate, z_int := PySem.W.mg_none_of X G z_int, z_isinstance := PySem.W.mg_none_of X G z_isinstance, z_len := PySem.W.mg_none_of X G z_len, z_list := PySem.W.mg_none_of X G z_list, z_range := PySem.W.mg_none_of X G z_range, z_repr := PySem.W.mg_none_of X G z_repr }⟩
def v_C_Blank (K : PySem.W.Frag) : Addr := L3.xRef (PySem.W.nsIn K mainGlobals "Blank")
def v_C_Clash (K : PySem.W.Frag) : Addr := L3.xRef (PySem.W.nsIn K mainGlobals "Clash")
def v_C_FieldClash (K : PySem.W.Frag) : Addr := L3.xRef (PySem.W.nsIn K mainGlobals "FieldClash")
def v_C_InvalidAddress (K : PySem.W.Frag) : Addr := L3.xRef (PySem.W.nsIn K mainGlobals "InvalidAddress")
def v_C_InvalidFrame (K : PySem.W.Frag) : Addr := L3.xRef (PySem.W.nsIn K mainGlobals "InvalidFrame")
def v_C_InvalidKind (K : PySem.W.Frag) : Addr := L3.xRef (PySem.W.nsIn K mainGlobals "InvalidKind")
def v_C_InvalidName (K : PySem.W.Frag) : Addr := L3.xRef (PySem.W.nsIn K mainGlobals "InvalidName")
def v_C_InvalidNumber (K : PySem.W.Frag) : Addr := L3.xRef (PySem.W.nsIn K mainGlobals "InvalidNumber")
def v_C_InvalidRow (K : PySem.W.Frag) : Addr := L3.xRef (PySem.W.nsIn K mainGlobals "InvalidRow")
def v_C_InvalidRows (K : PySem.W.Frag) : Addr := L3.xRef (PySem.W.nsIn K mainGlobals "InvalidRows")
def v_C_InvalidText (K : PySem.W.Frag) : Addr := L3.xRef (PySem.W.nsIn K mainGlobals "InvalidText")
def v_C_InvalidWord (K : PySem.W.Frag) : Addr := L3.xRef (PySem.W.nsIn K mainGlobals "InvalidWord")
def v_C_Locked (K : PySem.W.Frag) : Addr := L3.xRef (PySem.W.nsIn K mainGlobals "Locked")
def v_C_NoCase (K : PySem.W.Frag) : Addr := L3.xRef (PySem.W.nsIn K mainGlobals "NoCase")
def v_C_NoClass (K : PySem.W.Frag) : Addr := L3.xRef (PySem.W.nsIn K mainGlobals "NoClass")
def v_C_NoCondition (K : PySem.W.Frag) : Addr := L3.xRef (PySem.W.nsIn K mainGlobals "NoCondition")
def v_C_NoEntries (K : PySem.W.Frag) : Addr := L3.xRef (PySem.W.nsIn K mainGlobals "NoEntries")
def v_C_NoField (K : PySem.W.Frag) : Addr := L3.xRef (PySem.W.nsIn K mainGlobals "NoField")
def v_C_NoKind (K : PySem.W.Frag) : Addr := L3.xRef (PySem.W.nsIn K mainGlobals "NoKind")
def v_C_NoLanding (K : PySem.W.Frag) : Addr := L3.xRef (PySem.W.nsIn K mainGlobals "NoLanding")
def v_C_NoState (K : PySem.W.Frag) : Addr := L3.xRef (PySem.W.nsIn K mainGlobals "NoState")
def v_C_NoStates (K : PySem.W.Frag) : Addr := L3.xRef (PySem.W.nsIn K mainGlobals "NoStates")
def v_C_NoTarget (K : PySem.W.Frag) : Addr := L3.xRef (PySem.W.nsIn K mainGlobals "NoTarget")
def v_C_NotCarried (K : PySem.W.Frag) : Addr := L3.xRef (PySem.W.nsIn K mainGlobals "NotCarried")
def v_C_NotEnd (K : PySem.W.Frag) : Addr := L3.xRef (PySem.W.nsIn K mainGlobals "NotEnd")
def v_C_NotPossible (K : PySem.W.Frag) : Addr := L3.xRef (PySem.W.nsIn K mainGlobals "NotPossible")
def v_C_NotReady (K : PySem.W.Frag) : Addr := L3.xRef (PySem.W.nsIn K mainGlobals "NotReady")
def v_C_OrError (K : PySem.W.Frag) : Addr := L3.xRef (PySem.W.nsIn K mainGlobals "OrError")
def v_C_StateClash (K : PySem.W.Frag) : Addr := L3.xRef (PySem.W.nsIn K mainGlobals "StateClash")
def v_C_Taken (K : PySem.W.Frag) : Addr := L3.xRef (PySem.W.nsIn K mainGlobals "Taken")
def v_C_TooLarge (K : PySem.W.Frag) : Addr := L3.xRef (PySem.W.nsIn K mainGlobals "TooLarge")
def v_C_TooMany (K : PySem.W.Frag) : Addr := L3.xRef (PySem.W.nsIn K mainGlobals "TooMany")
def v_C_Unlike (K : PySem.W.Frag) : Addr := L3.xRef (PySem.W.nsIn K mainGlobals "Unlike")
def v_C_WrongCount (K : PySem.W.Frag) : Addr := L3.xRef (PySem.W.nsIn K mainGlobals "WrongCount")
def v_f_Blank_init__ (K : PySem.W.Frag) : Addr := L3.xRef (PySem.W.findIn K (.ref (v_C_Blank K)) "__init__")
def v_f_Clash_init__ (K : PySem.W.Frag) : Addr := L3.xRef (PySem.W.findIn K (.ref (v_C_Clash K)) "__init__")
def v_f_FieldClash_init__ (K : PySem.W.Frag) : Addr := L3.xRef (PySem.W.findIn K (.ref (v_C_FieldClash K)) "__init__")
def v_f_InvalidAddress_init__ (K : PySem.W.Frag) : Addr := L3.xRef (PySem.W.findIn K (.ref (v_C_InvalidAddress K)) "__init__")
def v_f_InvalidFrame_init__ (K : PySem.W.Frag) : Addr := L3.xRef (PySem.W.findIn K (.ref (v_C_InvalidFrame K)) "__init__")
def v_f_InvalidKind_init__ (K : PySem.W.Frag) : Addr := L3.xRef (PySem.W.findIn K (.ref (v_C_InvalidKind K)) "__init__")
def v_f_InvalidName_init__ (K : PySem.W.Frag) : Addr := L3.xRef (PySem.W.findIn K (.ref (v_C_InvalidName K)) "__init__")
def v_f_InvalidNumber_init__ (K : PySem.W.Frag) : Addr := L3.xRef (PySem.W.findIn K (.ref (v_C_InvalidNumber K)) "__init__")
def v_f_InvalidRow_init__ (K : PySem.W.Frag) : Addr := L3.xRef (PySem.W.findIn K (.ref (v_C_InvalidRow K)) "__init__")
def v_f_InvalidRows_init__ (K : PySem.W.Frag) : Addr := L3.xRef (PySem.W.findIn K (.ref (v_C_InvalidRows K)) "__init__")
def v_f_InvalidText_init__ (K : PySem.W.Frag) : Addr := L3.xRef (PySem.W.findIn K (.ref (v_C_InvalidText K)) "__init__")
def v_f_InvalidWord_init__ (K : PySem.W.Frag) : Addr := L3.xRef (PySem.W.findIn K (.ref (v_C_InvalidWord K)) "__init__")
def v_f_Locked_init__ (K : PySem.W.Frag) : Addr := L3.xRef (PySem.W.findIn K (.ref (v_C_Locked K)) "__init__")
def v_f_NoCase_init__ (K : PySem.W.Frag) : Addr := L3.xRef (PySem.W.findIn K (.ref (v_C_NoCase K)) "__init__")
def v_f_NoClass_init__ (K : PySem.W.Frag) : Addr := L3.xRef (PySem.W.findIn K (.ref (v_C_NoClass K)) "__init__")
def v_f_NoCondition_init__ (K : PySem.W.Frag) : Addr := L3.xRef (PySem.W.findIn K (.ref (v_C_NoCondition K)) "__init__")
def v_f_NoField_init__ (K : PySem.W.Frag) : Addr := L3.xRef (PySem.W.findIn K (.ref (v_C_NoField K)) "__init__")
def v_f_NoKind_init__ (K : PySem.W.Frag) : Addr := L3.xRef (PySem.W.findIn K (.ref (v_C_NoKind K)) "__init__")
def v_f_NoLanding_init__ (K : PySem.W.Frag) : Addr := L3.xRef (PySem.W.findIn K (.ref (v_C_NoLanding K)) "__init__")
def v_f_NoState_init__ (K : PySem.W.Frag) : Addr := L3.xRef (PySem.W.findIn K (.ref (v_C_NoState K)) "__init__")
def v_f_NoTarget_init__ (K : PySem.W.Frag) : Addr := L3.xRef (PySem.W.findIn K (.ref (v_C_NoTarget K)) "__init__")
def v_f_NotPossible_init__ (K : PySem.W.Frag) : Addr := L3.xRef (PySem.W.findIn K (.ref (v_C_NotPossible K)) "__init__")
def v_f_NotReady_init__ (K : PySem.W.Frag) : Addr := L3.xRef (PySem.W.findIn K (.ref (v_C_NotReady K)) "__init__")
def v_f_StateClash_init__ (K : PySem.W.Frag) : Addr := L3.xRef (PySem.W.findIn K (.ref (v_C_StateClash K)) "__init__")
def v_f_Taken_init__ (K : PySem.W.Frag) : Addr := L3.xRef (PySem.W.findIn K (.ref (v_C_Taken K)) "__init__")
def v_f_TooLarge_init__ (K : PySem.W.Frag) : Addr := L3.xRef (PySem.W.findIn K (.ref (v_C_TooLarge K)) "__init__")
def v_f_TooMany_init__ (K : PySem.W.Frag) : Addr := L3.xRef (PySem.W.findIn K (.ref (v_C_TooMany K)) "__init__")
def v_f_WrongCount_init__ (K : PySem.W.Frag) : Addr := L3.xRef (PySem.W.findIn K (.ref (v_C_WrongCount K)) "__init__")
def v_f_law_pen (K : PySem.W.Frag) : Addr := L3.xRef (PySem.W.nsIn K mainGlobals "_law_pen")
def v_f_law_draw (K : PySem.W.Frag) : Addr := L3.xRef (PySem.W.nsIn K mainGlobals "_law_draw")
def v_f_law_pick (K : PySem.W.Frag) : Addr := L3.xRef (PySem.W.nsIn K mainGlobals "_law_pick")
def v_f_law_thing (K : PySem.W.Frag) : Addr := L3.xRef (PySem.W.nsIn K mainGlobals "_law_thing")
def v_f_law_kinds (K : PySem.W.Frag) : Addr := L3.xRef (PySem.W.nsIn K mainGlobals "_law_kinds")
def v_f_law_is_based (K : PySem.W.Frag) : Addr := L3.xRef (PySem.W.nsIn K mainGlobals "_law_is_based")
def v_f_law_values (K : PySem.W.Frag) : Addr := L3.xRef (PySem.W.nsIn K mainGlobals "_law_values")
def v_f_law_places (K : PySem.W.Frag) : Addr := L3.xRef (PySem.W.nsIn K mainGlobals "_law_places")
def v_f_law_several_right (K : PySem.W.Frag) : Addr := L3.xRef (PySem.W.nsIn K mainGlobals "_law_several_right")
def v_f_law (K : PySem.W.Frag) : Addr := L3.xRef (PySem.W.nsIn K mainGlobals "law")
def fl_0 : List L3.FrB := [
  fun K => decide (PySem.W.nsIn K mainGlobals "Blank" = some (some (.ref (v_C_Blank K)))),
  fun K => decide (PySem.W.nsIn K mainGlobals "Clash" = some (some (.ref (v_C_Clash K)))),
  fun K => decide (PySem.W.nsIn K mainGlobals "FieldClash" = some (some (.ref (v_C_FieldClash K)))),
  fun K => decide (PySem.W.nsIn K mainGlobals "InvalidAddress" = some (some (.ref (v_C_InvalidAddress K)))),
  fun K => decide (PySem.W.nsIn K mainGlobals "InvalidFrame" = some (some (.ref (v_C_InvalidFrame K)))),
  fun K => decide (PySem.W.nsIn K mainGlobals "InvalidKind" = some (some (.ref (v_C_InvalidKind K)))),
  fun K => decide (PySem.W.nsIn K mainGlobals "InvalidName" = some (some (.ref (v_C_InvalidName K)))),
  fun K => decide (PySem.W.nsIn K mainGlobals "InvalidNumber" = some (some (.ref (v_C_InvalidNumber K)))),
  fun K => decide (PySem.W.nsIn K mainGlobals "InvalidRow" = some (some (.ref (v_C_InvalidRow K)))),
  fun K => decide (PySem.W.nsIn K mainGlobals "InvalidRows" = some (some (.ref (v_C_InvalidRows K)))),
  fun K => decide (PySem.W.nsIn K mainGlobals "InvalidText" = some (some (.ref (v_C_InvalidText K)))),
  fun K => decide (PySem.W.nsIn K mainGlobals "InvalidWord" = some (some (.ref (v_C_InvalidWord K)))),
  fun K => decide (PySem.W.nsIn K mainGlobals "Locked" = some (some (.ref (v_C_Locked K)))),
  fun K => decide (PySem.W.nsIn K mainGlobals "NoCase" = some (some (.ref (v_C_NoCase K)))),
  fun K => decide (PySem.W.nsIn K mainGlobals "NoClass" = some (some (.ref (v_C_NoClass K)))),
  fun K => decide (PySem.W.nsIn K mainGlobals "NoCondition" = some (some (.ref (v_C_NoCondition K)))),
  fun K => decide (PySem.W.nsIn K mainGlobals "NoEntries" = some (some (.ref (v_C_NoEntries K)))),
  fun K => decide (PySem.W.nsIn K mainGlobals "NoField" = some (some (.ref (v_C_NoField K)))),
  fun K => decide (PySem.W.nsIn K mainGlobals "NoKind" = some (some (.ref (v_C_NoKind K)))),
  fun K => decide (PySem.W.nsIn K mainGlobals "NoLanding" = some (some (.ref (v_C_NoLanding K)))),
  fun K => decide (PySem.W.nsIn K mainGlobals "NoState" = some (some (.ref (v_C_NoState K)))),
  fun K => decide (PySem.W.nsIn K mainGlobals "NoStates" = some (some (.ref (v_C_NoStates K)))),
  fun K => decide (PySem.W.nsIn K mainGlobals "NoTarget" = some (some (.ref (v_C_NoTarget K)))),
  fun K => decide (PySem.W.nsIn K mainGlobals "NotCarried" = some (some (.ref (v_C_NotCarried K)))),
  fun K => decide (PySem.W.nsIn K mainGlobals "NotEnd" = some (some (.ref (v_C_NotEnd K)))),
  fun K => decide (PySem.W.nsIn K mainGlobals "NotPossible" = some (some (.ref (v_C_NotPossible K)))),
  fun K => decide (PySem.W.nsIn K mainGlobals "NotReady" = some (some (.ref (v_C_NotReady K)))),
  fun K => decide (PySem.W.nsIn K mainGlobals "OrError" = some (some (.ref (v_C_OrError K)))),
  fun K => decide (PySem.W.nsIn K mainGlobals "StateClash" = some (some (.ref (v_C_StateClash K)))),
  fun K => decide (PySem.W.nsIn K mainGlobals "Taken" = some (some (.ref (v_C_Taken K)))),
  fun K => decide (PySem.W.nsIn K mainGlobals "TooLarge" = some (some (.ref (v_C_TooLarge K)))),
  fun K => decide (PySem.W.nsIn K mainGlobals "TooMany" = some (some (.ref (v_C_TooMany K)))),
  fun K => decide (PySem.W.nsIn K mainGlobals "Unlike" = some (some (.ref (v_C_Unlike K)))),
  fun K => decide (PySem.W.nsIn K mainGlobals "WrongCount" = some (some (.ref (v_C_WrongCount K)))),
  fun K => L3.erAll K ((("InvalidName" : Str), (v_C_InvalidName K)) :: (("InvalidNumber" : Str), (v_C_InvalidNumber K)) :: (("InvalidRow" : Str), (v_C_InvalidRow K)) :: (("NoTarget" : Str), (v_C_NoTarget K)) :: (("NoClass" : Str), (v_C_NoClass K)) :: (("NoLanding" : Str), (v_C_NoLanding K)) :: (("InvalidRows" : Str), (v_C_InvalidRows K)) :: (("InvalidKind" : Str), (v_C_InvalidKind K)) :: (("InvalidFrame" : Str), (v_C_InvalidFrame K)) :: (("InvalidWord" : Str), (v_C_InvalidWord K)) :: (("NotReady" : Str), (v_C_NotReady K)) :: (("TooMany" : Str), (v_C_TooMany K)) :: (("InvalidAddress" : Str), (v_C_InvalidAddress K)) :: (("Locked" : Str), (v_C_Locked K)) :: (("Blank" : Str), (v_C_Blank K)) :: (("StateClash" : Str), (v_C_StateClash K)) :: (("NoCondition" : Str), (v_C_NoCondition K)) :: (("NoField" : Str), (v_C_NoField K)) :: (("NoKind" : Str), (v_C_NoKind K)) :: (("NoState" : Str), (v_C_NoState K)) :: (("Taken" : Str), (v_C_Taken K)) :: (("NotPossible" : Str), (v_C_NotPossible K)) :: (("NoCase" : Str), (v_C_NoCase K)) :: (("WrongCount" : Str), (v_C_WrongCount K)) :: (("TooLarge" : Str), (v_C_TooLarge K)) :: (("InvalidText" : Str), (v_C_InvalidText K)) :: (("FieldClash" : Str), (v_C_FieldClash K)) :: (("Clash" : Str), (v_C_Clash K)) :: (("NoStates" : Str), (v_C_NoStates K)) :: (("NoEntries" : Str), (v_C_NoEntries K)) :: (("NotEnd" : Str), (v_C_NotEnd K)) :: (("NotCarried" : Str), (v_C_NotCarried K)) :: (("Unlike" : Str), (v_C_Unlike K)) :: []) [("OrError", (v_C_OrError K))] TY8,
  fun K => PySem.W.excIn K (v_C_NoEntries K) [.type "ValueError", .type "Exception", .type "BaseException", .type "object"] "ValueError.__new__",
  fun K => PySem.W.keepIn K (.ref (v_C_NoEntries K)),
  fun K => decide (PySem.W.subIn K (.ref (v_C_NoEntries K)) (.type "BaseException") = some true),
  fun K => decide (PySem.W.typeIn K (.ref (v_C_NoEntries K)) = some (.type "type")),
  fun K => PySem.W.excIn K (v_C_NoStates K) [.type "ValueError", .type "Exception", .type "BaseException", .type "object"] "ValueError.__new__"]
def fl_1 : List L3.FrB := [
  fun K => PySem.W.keepIn K (.ref (v_C_NoStates K)),
  fun K => decide (PySem.W.subIn K (.ref (v_C_NoStates K)) (.type "BaseException") = some true),
  fun K => decide (PySem.W.typeIn K (.ref (v_C_NoStates K)) = some (.type "type")),
  fun K => PySem.W.excIn K (v_C_NotCarried K) [.type "ValueError", .type "Exception", .type "BaseException", .type "object"] "ValueError.__new__",
  fun K => PySem.W.keepIn K (.ref (v_C_NotCarried K)),
  fun K => decide (PySem.W.subIn K (.ref (v_C_NotCarried K)) (.type "BaseException") = some true),
  fun K => decide (PySem.W.typeIn K (.ref (v_C_NotCarried K)) = some (.type "type")),
  fun K => PySem.W.excIn K (v_C_NotEnd K) [.type "ValueError", .type "Exception", .type "BaseException", .type "object"] "ValueError.__new__",
  fun K => PySem.W.keepIn K (.ref (v_C_NotEnd K)),
  fun K => decide (PySem.W.subIn K (.ref (v_C_NotEnd K)) (.type "BaseException") = some true),
  fun K => decide (PySem.W.typeIn K (.ref (v_C_NotEnd K)) = some (.type "type")),
  fun K => PySem.W.excIn K (v_C_Unlike K) [.type "ValueError", .type "Exception", .type "BaseException", .type "object"] "ValueError.__new__",
  fun K => PySem.W.keepIn K (.ref (v_C_Unlike K)),
  fun K => decide (PySem.W.subIn K (.ref (v_C_Unlike K)) (.type "BaseException") = some true),
  fun K => decide (PySem.W.typeIn K (.ref (v_C_Unlike K)) = some (.type "type")),
  fun K => L3.oexB K (v_C_Blank K),
  fun K => decide (PySem.W.findIn K (.ref (v_C_Blank K)) "__init__" = some (some (.ref (v_f_Blank_init__ K)))),
  fun K => decide (PySem.W.typeIn K (.ref (v_f_Blank_init__ K)) = some (.type "function")),
  fun K => decide (PySem.W.findIn K (.ref (v_C_Blank K)) "address" = some none),
  fun K => L3.oexB K (v_C_Clash K),
  fun K => decide (PySem.W.findIn K (.ref (v_C_Clash K)) "__init__" = some (some (.ref (v_f_Clash_init__ K)))),
  fun K => decide (PySem.W.typeIn K (.ref (v_f_Clash_init__ K)) = some (.type "function")),
  fun K => decide (PySem.W.findIn K (.ref (v_C_Clash K)) "lesser" = some none),
  fun K => decide (PySem.W.findIn K (.ref (v_C_Clash K)) "name" = some none),
  fun K => L3.oexB K (v_C_FieldClash K),
  fun K => decide (PySem.W.findIn K (.ref (v_C_FieldClash K)) "__init__" = some (some (.ref (v_f_FieldClash_init__ K)))),
  fun K => decide (PySem.W.typeIn K (.ref (v_f_FieldClash_init__ K)) = some (.type "function")),
  fun K => decide (PySem.W.findIn K (.ref (v_C_FieldClash K)) "field" = some none),
  fun K => decide (PySem.W.findIn K (.ref (v_C_FieldClash K)) "one" = some none),
  fun K => decide (PySem.W.findIn K (.ref (v_C_FieldClash K)) "other" = some none),
  fun K => L3.oexB K (v_C_InvalidAddress K),
  fun K => decide (PySem.W.findIn K (.ref (v_C_InvalidAddress K)) "__init__" = some (some (.ref (v_f_InvalidAddress_init__ K)))),
  fun K => decide (PySem.W.typeIn K (.ref (v_f_InvalidAddress_init__ K)) = some (.type "function")),
  fun K => decide (PySem.W.findIn K (.ref (v_C_InvalidAddress K)) "address" = some none),
  fun K => L3.oexB K (v_C_InvalidFrame K),
  fun K => decide (PySem.W.findIn K (.ref (v_C_InvalidFrame K)) "__init__" = some (some (.ref (v_f_InvalidFrame_init__ K)))),
  fun K => decide (PySem.W.typeIn K (.ref (v_f_InvalidFrame_init__ K)) = some (.type "function")),
  fun K => decide (PySem.W.findIn K (.ref (v_C_InvalidFrame K)) "part" = some none),
  fun K => L3.oexB K (v_C_InvalidKind K),
  fun K => decide (PySem.W.findIn K (.ref (v_C_InvalidKind K)) "__init__" = some (some (.ref (v_f_InvalidKind_init__ K))))]
def fl_2 : List L3.FrB := [
  fun K => decide (PySem.W.typeIn K (.ref (v_f_InvalidKind_init__ K)) = some (.type "function")),
  fun K => decide (PySem.W.findIn K (.ref (v_C_InvalidKind K)) "part" = some none),
  fun K => L3.oexB K (v_C_InvalidName K),
  fun K => decide (PySem.W.findIn K (.ref (v_C_InvalidName K)) "__init__" = some (some (.ref (v_f_InvalidName_init__ K)))),
  fun K => decide (PySem.W.typeIn K (.ref (v_f_InvalidName_init__ K)) = some (.type "function")),
  fun K => decide (PySem.W.findIn K (.ref (v_C_InvalidName K)) "value" = some none),
  fun K => L3.oexB K (v_C_InvalidNumber K),
  fun K => decide (PySem.W.findIn K (.ref (v_C_InvalidNumber K)) "__init__" = some (some (.ref (v_f_InvalidNumber_init__ K)))),
  fun K => decide (PySem.W.typeIn K (.ref (v_f_InvalidNumber_init__ K)) = some (.type "function")),
  fun K => decide (PySem.W.findIn K (.ref (v_C_InvalidNumber K)) "value" = some none),
  fun K => L3.oexB K (v_C_InvalidRow K),
  fun K => decide (PySem.W.findIn K (.ref (v_C_InvalidRow K)) "__init__" = some (some (.ref (v_f_InvalidRow_init__ K)))),
  fun K => decide (PySem.W.typeIn K (.ref (v_f_InvalidRow_init__ K)) = some (.type "function")),
  fun K => decide (PySem.W.findIn K (.ref (v_C_InvalidRow K)) "value" = some none),
  fun K => L3.oexB K (v_C_InvalidRows K),
  fun K => decide (PySem.W.findIn K (.ref (v_C_InvalidRows K)) "__init__" = some (some (.ref (v_f_InvalidRows_init__ K)))),
  fun K => decide (PySem.W.typeIn K (.ref (v_f_InvalidRows_init__ K)) = some (.type "function")),
  fun K => decide (PySem.W.findIn K (.ref (v_C_InvalidRows K)) "part" = some none),
  fun K => L3.oexB K (v_C_InvalidText K),
  fun K => decide (PySem.W.findIn K (.ref (v_C_InvalidText K)) "__init__" = some (some (.ref (v_f_InvalidText_init__ K)))),
  fun K => decide (PySem.W.typeIn K (.ref (v_f_InvalidText_init__ K)) = some (.type "function")),
  fun K => decide (PySem.W.findIn K (.ref (v_C_InvalidText K)) "line" = some none),
  fun K => decide (PySem.W.findIn K (.ref (v_C_InvalidText K)) "word" = some none),
  fun K => L3.oexB K (v_C_InvalidWord K),
  fun K => decide (PySem.W.findIn K (.ref (v_C_InvalidWord K)) "__init__" = some (some (.ref (v_f_InvalidWord_init__ K)))),
  fun K => decide (PySem.W.typeIn K (.ref (v_f_InvalidWord_init__ K)) = some (.type "function")),
  fun K => decide (PySem.W.findIn K (.ref (v_C_InvalidWord K)) "part" = some none),
  fun K => L3.oexB K (v_C_Locked K),
  fun K => decide (PySem.W.findIn K (.ref (v_C_Locked K)) "__init__" = some (some (.ref (v_f_Locked_init__ K)))),
  fun K => decide (PySem.W.typeIn K (.ref (v_f_Locked_init__ K)) = some (.type "function")),
  fun K => decide (PySem.W.findIn K (.ref (v_C_Locked K)) "address" = some none),
  fun K => L3.oexB K (v_C_NoCase K),
  fun K => decide (PySem.W.findIn K (.ref (v_C_NoCase K)) "__init__" = some (some (.ref (v_f_NoCase_init__ K)))),
  fun K => decide (PySem.W.typeIn K (.ref (v_f_NoCase_init__ K)) = some (.type "function")),
  fun K => decide (PySem.W.findIn K (.ref (v_C_NoCase K)) "case" = some none),
  fun K => L3.oexB K (v_C_NoClass K),
  fun K => decide (PySem.W.findIn K (.ref (v_C_NoClass K)) "__init__" = some (some (.ref (v_f_NoClass_init__ K)))),
  fun K => decide (PySem.W.typeIn K (.ref (v_f_NoClass_init__ K)) = some (.type "function")),
  fun K => decide (PySem.W.findIn K (.ref (v_C_NoClass K)) "value" = some none),
  fun K => L3.oexB K (v_C_NoCondition K)]
def fl_3 : List L3.FrB := [
  fun K => decide (PySem.W.findIn K (.ref (v_C_NoCondition K)) "__init__" = some (some (.ref (v_f_NoCondition_init__ K)))),
  fun K => decide (PySem.W.typeIn K (.ref (v_f_NoCondition_init__ K)) = some (.type "function")),
  fun K => decide (PySem.W.findIn K (.ref (v_C_NoCondition K)) "name" = some none),
  fun K => L3.oexB K (v_C_NoField K),
  fun K => decide (PySem.W.findIn K (.ref (v_C_NoField K)) "__init__" = some (some (.ref (v_f_NoField_init__ K)))),
  fun K => decide (PySem.W.typeIn K (.ref (v_f_NoField_init__ K)) = some (.type "function")),
  fun K => decide (PySem.W.findIn K (.ref (v_C_NoField K)) "name" = some none),
  fun K => L3.oexB K (v_C_NoKind K),
  fun K => decide (PySem.W.findIn K (.ref (v_C_NoKind K)) "__init__" = some (some (.ref (v_f_NoKind_init__ K)))),
  fun K => decide (PySem.W.typeIn K (.ref (v_f_NoKind_init__ K)) = some (.type "function")),
  fun K => decide (PySem.W.findIn K (.ref (v_C_NoKind K)) "name" = some none),
  fun K => L3.oexB K (v_C_NoLanding K),
  fun K => decide (PySem.W.findIn K (.ref (v_C_NoLanding K)) "__init__" = some (some (.ref (v_f_NoLanding_init__ K)))),
  fun K => decide (PySem.W.typeIn K (.ref (v_f_NoLanding_init__ K)) = some (.type "function")),
  fun K => decide (PySem.W.findIn K (.ref (v_C_NoLanding K)) "value" = some none),
  fun K => L3.oexB K (v_C_NoState K),
  fun K => decide (PySem.W.findIn K (.ref (v_C_NoState K)) "__init__" = some (some (.ref (v_f_NoState_init__ K)))),
  fun K => decide (PySem.W.typeIn K (.ref (v_f_NoState_init__ K)) = some (.type "function")),
  fun K => decide (PySem.W.findIn K (.ref (v_C_NoState K)) "name" = some none),
  fun K => L3.oexB K (v_C_NoTarget K),
  fun K => decide (PySem.W.findIn K (.ref (v_C_NoTarget K)) "__init__" = some (some (.ref (v_f_NoTarget_init__ K)))),
  fun K => decide (PySem.W.typeIn K (.ref (v_f_NoTarget_init__ K)) = some (.type "function")),
  fun K => decide (PySem.W.findIn K (.ref (v_C_NoTarget K)) "value" = some none),
  fun K => L3.oexB K (v_C_NotPossible K),
  fun K => decide (PySem.W.findIn K (.ref (v_C_NotPossible K)) "__init__" = some (some (.ref (v_f_NotPossible_init__ K)))),
  fun K => decide (PySem.W.typeIn K (.ref (v_f_NotPossible_init__ K)) = some (.type "function")),
  fun K => decide (PySem.W.findIn K (.ref (v_C_NotPossible K)) "row" = some none),
  fun K => L3.oexB K (v_C_NotReady K),
  fun K => decide (PySem.W.findIn K (.ref (v_C_NotReady K)) "__init__" = some (some (.ref (v_f_NotReady_init__ K)))),
  fun K => decide (PySem.W.typeIn K (.ref (v_f_NotReady_init__ K)) = some (.type "function")),
  fun K => decide (PySem.W.findIn K (.ref (v_C_NotReady K)) "part" = some none),
  fun K => L3.oexB K (v_C_StateClash K),
  fun K => decide (PySem.W.findIn K (.ref (v_C_StateClash K)) "__init__" = some (some (.ref (v_f_StateClash_init__ K)))),
  fun K => decide (PySem.W.typeIn K (.ref (v_f_StateClash_init__ K)) = some (.type "function")),
  fun K => decide (PySem.W.findIn K (.ref (v_C_StateClash K)) "name" = some none),
  fun K => L3.oexB K (v_C_Taken K),
  fun K => decide (PySem.W.findIn K (.ref (v_C_Taken K)) "__init__" = some (some (.ref (v_f_Taken_init__ K)))),
  fun K => decide (PySem.W.typeIn K (.ref (v_f_Taken_init__ K)) = some (.type "function")),
  fun K => decide (PySem.W.findIn K (.ref (v_C_Taken K)) "name" = some none),
  fun K => L3.oexB K (v_C_TooLarge K)]
def fl_4 : List L3.FrB := [
  fun K => decide (PySem.W.findIn K (.ref (v_C_TooLarge K)) "__init__" = some (some (.ref (v_f_TooLarge_init__ K)))),
  fun K => decide (PySem.W.typeIn K (.ref (v_f_TooLarge_init__ K)) = some (.type "function")),
  fun K => decide (PySem.W.findIn K (.ref (v_C_TooLarge K)) "limit" = some none),
  fun K => L3.oexB K (v_C_TooMany K),
  fun K => decide (PySem.W.findIn K (.ref (v_C_TooMany K)) "__init__" = some (some (.ref (v_f_TooMany_init__ K)))),
  fun K => decide (PySem.W.typeIn K (.ref (v_f_TooMany_init__ K)) = some (.type "function")),
  fun K => decide (PySem.W.findIn K (.ref (v_C_TooMany K)) "part" = some none),
  fun K => L3.oexB K (v_C_WrongCount K),
  fun K => decide (PySem.W.findIn K (.ref (v_C_WrongCount K)) "__init__" = some (some (.ref (v_f_WrongCount_init__ K)))),
  fun K => decide (PySem.W.typeIn K (.ref (v_f_WrongCount_init__ K)) = some (.type "function")),
  fun K => decide (PySem.W.findIn K (.ref (v_C_WrongCount K)) "wanted" = some none),
  fun K => L3.smB K,
  fun K => decide (L3.dfV K (v_f_InvalidName_init__ K) = .none),
  fun K => PySem.W.codeIn K (L3.cdV K (v_f_InvalidName_init__ K)) "InvalidName.__init__",
  fun K => PySem.W.keepIn K (.ref (v_f_InvalidName_init__ K)),
  fun K => decide (L3.dfV K (v_f_InvalidNumber_init__ K) = .none),
  fun K => PySem.W.codeIn K (L3.cdV K (v_f_InvalidNumber_init__ K)) "InvalidNumber.__init__",
  fun K => PySem.W.keepIn K (.ref (v_f_InvalidNumber_init__ K)),
  fun K => decide (L3.dfV K (v_f_InvalidRows_init__ K) = .none),
  fun K => PySem.W.codeIn K (L3.cdV K (v_f_InvalidRows_init__ K)) "InvalidRows.__init__",
  fun K => PySem.W.keepIn K (.ref (v_f_InvalidRows_init__ K)),
  fun K => decide (L3.dfV K (v_f_InvalidRow_init__ K) = .none),
  fun K => PySem.W.codeIn K (L3.cdV K (v_f_InvalidRow_init__ K)) "InvalidRow.__init__",
  fun K => PySem.W.keepIn K (.ref (v_f_InvalidRow_init__ K)),
  fun K => decide (L3.dfV K (v_f_InvalidKind_init__ K) = .none),
  fun K => PySem.W.codeIn K (L3.cdV K (v_f_InvalidKind_init__ K)) "InvalidKind.__init__",
  fun K => PySem.W.keepIn K (.ref (v_f_InvalidKind_init__ K)),
  fun K => decide (L3.dfV K (v_f_InvalidFrame_init__ K) = .none),
  fun K => PySem.W.codeIn K (L3.cdV K (v_f_InvalidFrame_init__ K)) "InvalidFrame.__init__",
  fun K => PySem.W.keepIn K (.ref (v_f_InvalidFrame_init__ K)),
  fun K => decide (L3.dfV K (v_f_InvalidWord_init__ K) = .none),
  fun K => PySem.W.codeIn K (L3.cdV K (v_f_InvalidWord_init__ K)) "InvalidWord.__init__",
  fun K => PySem.W.keepIn K (.ref (v_f_InvalidWord_init__ K)),
  fun K => decide (L3.dfV K (v_f_InvalidAddress_init__ K) = .none),
  fun K => PySem.W.codeIn K (L3.cdV K (v_f_InvalidAddress_init__ K)) "InvalidAddress.__init__",
  fun K => PySem.W.keepIn K (.ref (v_f_InvalidAddress_init__ K)),
  fun K => decide (L3.dfV K (v_f_InvalidText_init__ K) = .none),
  fun K => PySem.W.codeIn K (L3.cdV K (v_f_InvalidText_init__ K)) "InvalidText.__init__",
  fun K => PySem.W.keepIn K (.ref (v_f_InvalidText_init__ K)),
  fun K => decide (L3.dfV K (v_f_FieldClash_init__ K) = .none)]
def fl_5 : List L3.FrB := [
  fun K => PySem.W.codeIn K (L3.cdV K (v_f_FieldClash_init__ K)) "FieldClash.__init__",
  fun K => PySem.W.keepIn K (.ref (v_f_FieldClash_init__ K)),
  fun K => decide (L3.dfV K (v_f_Clash_init__ K) = .none),
  fun K => PySem.W.codeIn K (L3.cdV K (v_f_Clash_init__ K)) "Clash.__init__",
  fun K => PySem.W.keepIn K (.ref (v_f_Clash_init__ K)),
  fun K => decide (L3.dfV K (v_f_StateClash_init__ K) = .none),
  fun K => PySem.W.codeIn K (L3.cdV K (v_f_StateClash_init__ K)) "StateClash.__init__",
  fun K => PySem.W.keepIn K (.ref (v_f_StateClash_init__ K)),
  fun K => decide (L3.dfV K (v_f_Locked_init__ K) = .none),
  fun K => PySem.W.codeIn K (L3.cdV K (v_f_Locked_init__ K)) "Locked.__init__",
  fun K => PySem.W.keepIn K (.ref (v_f_Locked_init__ K)),
  fun K => decide (L3.dfV K (v_f_Blank_init__ K) = .none),
  fun K => PySem.W.codeIn K (L3.cdV K (v_f_Blank_init__ K)) "Blank.__init__",
  fun K => PySem.W.keepIn K (.ref (v_f_Blank_init__ K)),
  fun K => decide (L3.dfV K (v_f_NotPossible_init__ K) = .none),
  fun K => PySem.W.codeIn K (L3.cdV K (v_f_NotPossible_init__ K)) "NotPossible.__init__",
  fun K => PySem.W.keepIn K (.ref (v_f_NotPossible_init__ K)),
  fun K => decide (L3.dfV K (v_f_NoCondition_init__ K) = .none),
  fun K => PySem.W.codeIn K (L3.cdV K (v_f_NoCondition_init__ K)) "NoCondition.__init__",
  fun K => PySem.W.keepIn K (.ref (v_f_NoCondition_init__ K)),
  fun K => decide (L3.dfV K (v_f_NoField_init__ K) = .none),
  fun K => PySem.W.codeIn K (L3.cdV K (v_f_NoField_init__ K)) "NoField.__init__",
  fun K => PySem.W.keepIn K (.ref (v_f_NoField_init__ K)),
  fun K => decide (L3.dfV K (v_f_NoKind_init__ K) = .none),
  fun K => PySem.W.codeIn K (L3.cdV K (v_f_NoKind_init__ K)) "NoKind.__init__",
  fun K => PySem.W.keepIn K (.ref (v_f_NoKind_init__ K)),
  fun K => decide (L3.dfV K (v_f_NoState_init__ K) = .none),
  fun K => PySem.W.codeIn K (L3.cdV K (v_f_NoState_init__ K)) "NoState.__init__",
  fun K => PySem.W.keepIn K (.ref (v_f_NoState_init__ K)),
  fun K => decide (L3.dfV K (v_f_NoTarget_init__ K) = .none),
  fun K => PySem.W.codeIn K (L3.cdV K (v_f_NoTarget_init__ K)) "NoTarget.__init__",
  fun K => PySem.W.keepIn K (.ref (v_f_NoTarget_init__ K)),
  fun K => decide (L3.dfV K (v_f_NoClass_init__ K) = .none),
  fun K => PySem.W.codeIn K (L3.cdV K (v_f_NoClass_init__ K)) "NoClass.__init__",
  fun K => PySem.W.keepIn K (.ref (v_f_NoClass_init__ K)),
  fun K => decide (L3.dfV K (v_f_NoLanding_init__ K) = .none),
  fun K => PySem.W.codeIn K (L3.cdV K (v_f_NoLanding_init__ K)) "NoLanding.__init__",
  fun K => PySem.W.keepIn K (.ref (v_f_NoLanding_init__ K)),
  fun K => decide (L3.dfV K (v_f_NoCase_init__ K) = .none),
  fun K => PySem.W.codeIn K (L3.cdV K (v_f_NoCase_init__ K)) "NoCase.__init__"]
def fl_6 : List L3.FrB := [
  fun K => PySem.W.keepIn K (.ref (v_f_NoCase_init__ K)),
  fun K => decide (L3.dfV K (v_f_NotReady_init__ K) = .none),
  fun K => PySem.W.codeIn K (L3.cdV K (v_f_NotReady_init__ K)) "NotReady.__init__",
  fun K => PySem.W.keepIn K (.ref (v_f_NotReady_init__ K)),
  fun K => decide (L3.dfV K (v_f_Taken_init__ K) = .none),
  fun K => PySem.W.codeIn K (L3.cdV K (v_f_Taken_init__ K)) "Taken.__init__",
  fun K => PySem.W.keepIn K (.ref (v_f_Taken_init__ K)),
  fun K => decide (L3.dfV K (v_f_WrongCount_init__ K) = .none),
  fun K => PySem.W.codeIn K (L3.cdV K (v_f_WrongCount_init__ K)) "WrongCount.__init__",
  fun K => PySem.W.keepIn K (.ref (v_f_WrongCount_init__ K)),
  fun K => decide (L3.dfV K (v_f_TooMany_init__ K) = .none),
  fun K => PySem.W.codeIn K (L3.cdV K (v_f_TooMany_init__ K)) "TooMany.__init__",
  fun K => PySem.W.keepIn K (.ref (v_f_TooMany_init__ K)),
  fun K => decide (L3.dfV K (v_f_TooLarge_init__ K) = .none),
  fun K => PySem.W.codeIn K (L3.cdV K (v_f_TooLarge_init__ K)) "TooLarge.__init__",
  fun K => PySem.W.keepIn K (.ref (v_f_TooLarge_init__ K)),
  fun K => decide (PySem.W.nsIn K mainGlobals "_law_pen" = some (some (.ref (v_f_law_pen K)))),
  fun K => decide (L3.dfV K (v_f_law_pen K) = .none),
  fun K => PySem.W.codeIn K (L3.cdV K (v_f_law_pen K)) "_law_pen",
  fun K => PySem.W.keepIn K (.ref (v_f_law_pen K)),
  fun K => decide (PySem.W.nsIn K mainGlobals "_law_draw" = some (some (.ref (v_f_law_draw K)))),
  fun K => decide (L3.dfV K (v_f_law_draw K) = .none),
  fun K => PySem.W.codeIn K (L3.cdV K (v_f_law_draw K)) "_law_draw",
  fun K => PySem.W.keepIn K (.ref (v_f_law_draw K)),
  fun K => decide (PySem.W.nsIn K mainGlobals "_law_pick" = some (some (.ref (v_f_law_pick K)))),
  fun K => decide (L3.dfV K (v_f_law_pick K) = .none),
  fun K => PySem.W.codeIn K (L3.cdV K (v_f_law_pick K)) "_law_pick",
  fun K => PySem.W.keepIn K (.ref (v_f_law_pick K)),
  fun K => decide (PySem.W.nsIn K mainGlobals "_law_thing" = some (some (.ref (v_f_law_thing K)))),
  fun K => decide (L3.dfV K (v_f_law_thing K) = .none),
  fun K => PySem.W.codeIn K (L3.cdV K (v_f_law_thing K)) "_law_thing",
  fun K => PySem.W.keepIn K (.ref (v_f_law_thing K)),
  fun K => decide (PySem.W.nsIn K mainGlobals "_law_kinds" = some (some (.ref (v_f_law_kinds K)))),
  fun K => decide (L3.dfV K (v_f_law_kinds K) = .none),
  fun K => PySem.W.codeIn K (L3.cdV K (v_f_law_kinds K)) "_law_kinds",
  fun K => PySem.W.keepIn K (.ref (v_f_law_kinds K)),
  fun K => decide (PySem.W.nsIn K mainGlobals "_law_is_based" = some (some (.ref (v_f_law_is_based K)))),
  fun K => decide (L3.dfV K (v_f_law_is_based K) = .none),
  fun K => PySem.W.codeIn K (L3.cdV K (v_f_law_is_based K)) "_law_is_based",
  fun K => PySem.W.keepIn K (.ref (v_f_law_is_based K))]
def fl_7 : List L3.FrB := [
  fun K => decide (PySem.W.nsIn K mainGlobals "_law_values" = some (some (.ref (v_f_law_values K)))),
  fun K => decide (L3.dfV K (v_f_law_values K) = .none),
  fun K => PySem.W.codeIn K (L3.cdV K (v_f_law_values K)) "_law_values",
  fun K => PySem.W.keepIn K (.ref (v_f_law_values K)),
  fun K => decide (PySem.W.nsIn K mainGlobals "_law_places" = some (some (.ref (v_f_law_places K)))),
  fun K => decide (L3.dfV K (v_f_law_places K) = .none),
  fun K => PySem.W.codeIn K (L3.cdV K (v_f_law_places K)) "_law_places",
  fun K => PySem.W.keepIn K (.ref (v_f_law_places K)),
  fun K => decide (PySem.W.nsIn K mainGlobals "_law_several_right" = some (some (.ref (v_f_law_several_right K)))),
  fun K => decide (L3.dfV K (v_f_law_several_right K) = .none),
  fun K => PySem.W.codeIn K (L3.cdV K (v_f_law_several_right K)) "_law_several_right",
  fun K => PySem.W.keepIn K (.ref (v_f_law_several_right K)),
  fun K => decide (PySem.W.nsIn K mainGlobals "law" = some (some (.ref (v_f_law K)))),
  fun K => decide (L3.dfV K (v_f_law K) = .none),
  fun K => PySem.W.codeIn K (L3.cdV K (v_f_law K)) "law",
  fun K => PySem.W.keepIn K (.ref (v_f_law K)),
  fun K => decide (PySem.W.nsIn K mainGlobals "ArithmeticError" = some none),
  fun K => decide (PySem.W.nsIn K mainGlobals "IndexError" = some none),
  fun K => decide (PySem.W.nsIn K mainGlobals "KeyError" = some none),
  fun K => decide (PySem.W.nsIn K mainGlobals "LookupError" = some none),
  fun K => decide (PySem.W.nsIn K mainGlobals "OverflowError" = some none),
  fun K => decide (PySem.W.nsIn K mainGlobals "RuntimeError" = some none),
  fun K => decide (PySem.W.nsIn K mainGlobals "TypeError" = some none),
  fun K => decide (PySem.W.nsIn K mainGlobals "ValueError" = some none),
  fun K => decide (PySem.W.nsIn K mainGlobals "abs" = some none),
  fun K => decide (PySem.W.nsIn K mainGlobals "enumerate" = some none),
  fun K => decide (PySem.W.nsIn K mainGlobals "int" = some none),
  fun K => decide (PySem.W.nsIn K mainGlobals "isinstance" = some none),
  fun K => decide (PySem.W.nsIn K mainGlobals "len" = some none),
  fun K => decide (PySem.W.nsIn K mainGlobals "list" = some none),
  fun K => decide (PySem.W.nsIn K mainGlobals "range" = some none),
  fun K => decide (PySem.W.nsIn K mainGlobals "repr" = some none)]
def fls : List (List L3.FrB) := [fl_0, fl_1, fl_2, fl_3, fl_4, fl_5, fl_6, fl_7]
def fns : List (PySem.W.Frag → Addr) := [v_f_InvalidName_init__, v_f_InvalidNumber_init__, v_f_InvalidRows_init__, v_f_InvalidRow_init__, v_f_InvalidKind_init__, v_f_InvalidFrame_init__, v_f_InvalidWord_init__, v_f_InvalidAddress_init__, v_f_InvalidText_init__, v_f_FieldClash_init__, v_f_Clash_init__, v_f_StateClash_init__, v_f_Locked_init__, v_f_Blank_init__, v_f_NotPossible_init__, v_f_NoCondition_init__, v_f_NoField_init__, v_f_NoKind_init__, v_f_NoState_init__, v_f_NoTarget_init__, v_f_NoClass_init__, v_f_NoLanding_init__, v_f_NoCase_init__, v_f_NotReady_init__, v_f_Taken_init__, v_f_WrongCount_init__, v_f_TooMany_init__, v_f_TooLarge_init__, v_f_law_pen, v_f_law_draw, v_f_law_pick, v_f_law_thing, v_f_law_kinds, v_f_law_is_based, v_f_law_values, v_f_law_places, v_f_law_several_right, v_f_law]
def fvs : List L3.FV := [
  L3.fnW "__init__" "InvalidName.__init__" (defArgs s_InvalidName_init__) (defBody s_InvalidName_init__) (defScope s_InvalidName_init__),
  L3.fnW "__init__" "InvalidNumber.__init__" (defArgs s_InvalidNumber_init__) (defBody s_InvalidNumber_init__) (defScope s_InvalidNumber_init__),
  L3.fnW "__init__" "InvalidRows.__init__" (defArgs s_InvalidRows_init__) (defBody s_InvalidRows_init__) (defScope s_InvalidRows_init__),
  L3.fnW "__init__" "InvalidRow.__init__" (defArgs s_InvalidRow_init__) (defBody s_InvalidRow_init__) (defScope s_InvalidRow_init__),
  L3.fnW "__init__" "InvalidKind.__init__" (defArgs s_InvalidKind_init__) (defBody s_InvalidKind_init__) (defScope s_InvalidKind_init__),
  L3.fnW "__init__" "InvalidFrame.__init__" (defArgs s_InvalidFrame_init__) (defBody s_InvalidFrame_init__) (defScope s_InvalidFrame_init__),
  L3.fnW "__init__" "InvalidWord.__init__" (defArgs s_InvalidWord_init__) (defBody s_InvalidWord_init__) (defScope s_InvalidWord_init__),
  L3.fnW "__init__" "InvalidAddress.__init__" (defArgs s_InvalidAddress_init__) (defBody s_InvalidAddress_init__) (defScope s_InvalidAddress_init__),
  L3.fnW "__init__" "InvalidText.__init__" (defArgs s_InvalidText_init__) (defBody s_InvalidText_init__) (defScope s_InvalidText_init__),
  L3.fnW "__init__" "FieldClash.__init__" (defArgs s_FieldClash_init__) (defBody s_FieldClash_init__) (defScope s_FieldClash_init__),
  L3.fnW "__init__" "Clash.__init__" (defArgs s_Clash_init__) (defBody s_Clash_init__) (defScope s_Clash_init__),
  L3.fnW "__init__" "StateClash.__init__" (defArgs s_StateClash_init__) (defBody s_StateClash_init__) (defScope s_StateClash_init__),
  L3.fnW "__init__" "Locked.__init__" (defArgs s_Locked_init__) (defBody s_Locked_init__) (defScope s_Locked_init__),
  L3.fnW "__init__" "Blank.__init__" (defArgs s_Blank_init__) (defBody s_Blank_init__) (defScope s_Blank_init__),
  L3.fnW "__init__" "NotPossible.__init__" (defArgs s_NotPossible_init__) (defBody s_NotPossible_init__) (defScope s_NotPossible_init__),
  L3.fnW "__init__" "NoCondition.__init__" (defArgs s_NoCondition_init__) (defBody s_NoCondition_init__) (defScope s_NoCondition_init__),
  L3.fnW "__init__" "NoField.__init__" (defArgs s_NoField_init__) (defBody s_NoField_init__) (defScope s_NoField_init__),
  L3.fnW "__init__" "NoKind.__init__" (defArgs s_NoKind_init__) (defBody s_NoKind_init__) (defScope s_NoKind_init__),
  L3.fnW "__init__" "NoState.__init__" (defArgs s_NoState_init__) (defBody s_NoState_init__) (defScope s_NoState_init__),
  L3.fnW "__init__" "NoTarget.__init__" (defArgs s_NoTarget_init__) (defBody s_NoTarget_init__) (defScope s_NoTarget_init__),
  L3.fnW "__init__" "NoClass.__init__" (defArgs s_NoClass_init__) (defBody s_NoClass_init__) (defScope s_NoClass_init__),
  L3.fnW "__init__" "NoLanding.__init__" (defArgs s_NoLanding_init__) (defBody s_NoLanding_init__) (defScope s_NoLanding_init__),
  L3.fnW "__init__" "NoCase.__init__" (defArgs s_NoCase_init__) (defBody s_NoCase_init__) (defScope s_NoCase_init__),
  L3.fnW "__init__" "NotReady.__init__" (defArgs s_NotReady_init__) (defBody s_NotReady_init__) (defScope s_NotReady_init__),
  L3.fnW "__init__" "Taken.__init__" (defArgs s_Taken_init__) (defBody s_Taken_init__) (defScope s_Taken_init__),
  L3.fnW "__init__" "WrongCount.__init__" (defArgs s_WrongCount_init__) (defBody s_WrongCount_init__) (defScope s_WrongCount_init__),
  L3.fnW "__init__" "TooMany.__init__" (defArgs s_TooMany_init__) (defBody s_TooMany_init__) (defScope s_TooMany_init__),
  L3.fnW "__init__" "TooLarge.__init__" (defArgs s_TooLarge_init__) (defBody s_TooLarge_init__) (defScope s_TooLarge_init__),
  L3.fnW "_law_pen" "_law_pen" (defArgs s_law_pen) (defBody s_law_pen) (defScope s_law_pen),
  L3.fnW "_law_draw" "_law_draw" (defArgs s_law_draw) (defBody s_law_draw) (defScope s_law_draw),
  L3.fnW "_law_pick" "_law_pick" (defArgs s_law_pick) (defBody s_law_pick) (defScope s_law_pick),
  L3.fnW "_law_thing" "_law_thing" (defArgs s_law_thing) (defBody s_law_thing) (defScope s_law_thing),
  L3.fnW "_law_kinds" "_law_kinds" (defArgs s_law_kinds) (defBody s_law_kinds) (defScope s_law_kinds),
  L3.fnW "_law_is_based" "_law_is_based" (defArgs s_law_is_based) (defBody s_law_is_based) (defScope s_law_is_based),
  L3.fnW "_law_values" "_law_values" (defArgs s_law_values) (defBody s_law_values) (defScope s_law_values),
  L3.fnW "_law_places" "_law_places" (defArgs s_law_places) (defBody s_law_places) (defScope s_law_places),
  L3.fnW "_law_several_right" "_law_several_right" (defArgs s_law_several_right) (defBody s_law_several_right) (defScope s_law_several_right),
  L3.fnW "law" "law" (defArgs s_law) (defBody s_law) (defScope s_law)]
def names : List PySem.Str := (["OrError", "InvalidName", "InvalidNumber", "InvalidRows", "InvalidRow", "InvalidKind", "InvalidFrame", "InvalidWord", "InvalidAddress", "InvalidText", "FieldClash", "Clash", "StateClash", "Locked", "Blank", "NotPossible", "NoCondition", "NoField", "NoKind", "NoState", "NoTarget", "NoClass", "NoLanding", "NoCase", "NoStates", "NoEntries", "NotEnd", "NotCarried", "NotReady", "Unlike"] : List PySem.Str) ++ (["Taken", "WrongCount", "TooMany", "TooLarge", "_law_pen", "_law_draw", "_law_pick", "_law_thing", "_law_kinds", "_law_is_based", "_law_values", "_law_places", "_law_several_right"] : List PySem.Str)
theorem facts {l : PySem.W.OpenLaw} {w : World} {K : PySem.W.Frag} {h : Heap} {mg : Str → Option Value} {fa : Addr} (X : K.In h) (G : h.Ns mainGlobals mg) (hfa : mg "law" = some (.ref fa)) (c : L3.lookB fls fns K = (true, fvs)) :
    ∃ fd : FuncData, (∀ (s : Shared) (v : Value), BindsTo s fd ⟨[v], []⟩ [("_law_script", v)]) ∧ ∀ base : Heap, K.In base → base.Ns mainGlobals mg → FnG l.prog w K mg base (L2.CX l.prog w) 8 fa fd p_law (toSp K sp_law) := by
  obtain ⟨oc_InvalidName_init__, od_InvalidName_init__, sl_InvalidName_init__, kV_InvalidName_init__, dc_InvalidName_init__, pm_InvalidName_init__, an_InvalidName_init__, ct_InvalidName_init__, p_l_InvalidName_init__⟩ := L3.fn_look (L3.look_v c 0 rfl rfl) (of_decide_eq_true (L3.look_f c 4 12 rfl rfl))
  obtain ⟨oc_InvalidNumber_init__, od_InvalidNumber_init__, sl_InvalidNumber_init__, kV_InvalidNumber_init__, dc_InvalidNumber_init__, pm_InvalidNumber_init__, an_InvalidNumber_init__, ct_InvalidNumber_init__, p_l_InvalidNumber_init__⟩ := L3.fn_look (L3.look_v c 1 rfl rfl) (of_decide_eq_true (L3.look_f c 4 15 rfl rfl))
  obtain ⟨oc_InvalidRows_init__, od_InvalidRows_init__, sl_InvalidRows_init__, kV_InvalidRows_init__, dc_InvalidRows_init__, pm_InvalidRows_init__, an_InvalidRows_init__, ct_InvalidRows_init__, p_l_InvalidRows_init__⟩ := L3.fn_look (L3.look_v c 2 rfl rfl) (of_decide_eq_true (L3.look_f c 4 18 rfl rfl))
  obtain ⟨oc_InvalidRow_init__, od_InvalidRow_init__, sl_InvalidRow_init__, kV_InvalidRow_init__, dc_InvalidRow_init__, pm_InvalidRow_init__, an_InvalidRow_init__, ct_InvalidRow_init__, p_l_InvalidRow_init__⟩ := L3.fn_look (L3.look_v c 3 rfl rfl) (of_decide_eq_true (L3.look_f c 4 21 rfl rfl))
  obtain ⟨oc_InvalidKind_init__, od_InvalidKind_init__, sl_InvalidKind_init__, kV_InvalidKind_init__, dc_InvalidKind_init__, pm_InvalidKind_init__, an_InvalidKind_init__, ct_InvalidKind_init__, p_l_InvalidKind_init__⟩ := L3.fn_look (L3.look_v c 4 rfl rfl) (of_decide_eq_true (L3.look_f c 4 24 rfl rfl))
  obtain ⟨oc_InvalidFrame_init__, od_InvalidFrame_init__, sl_InvalidFrame_init__, kV_InvalidFrame_init__, dc_InvalidFrame_init__, pm_InvalidFrame_init__, an_InvalidFrame_init__, ct_InvalidFrame_init__, p_l_InvalidFrame_init__⟩ := L3.fn_look (L3.look_v c 5 rfl rfl) (of_decide_eq_true (L3.look_f c 4 27 rfl rfl))
  obtain ⟨oc_InvalidWord_init__, od_InvalidWord_init__, sl_InvalidWord_init__, kV_InvalidWord_init__, dc_InvalidWord_init__, pm_InvalidWord_init__, an_InvalidWord_init__, ct_InvalidWord_init__, p_l_InvalidWord_init__⟩ := L3.fn_look (L3.look_v c 6 rfl rfl) (of_decide_eq_true (L3.look_f c 4 30 rfl rfl))
  obtain ⟨oc_InvalidAddress_init__, od_InvalidAddress_init__, sl_InvalidAddress_init__, kV_InvalidAddress_init__, dc_InvalidAddress_init__, pm_InvalidAddress_init__, an_InvalidAddress_init__, ct_InvalidAddress_init__, p_l_InvalidAddress_init__⟩ := L3.fn_look (L3.look_v c 7 rfl rfl) (of_decide_eq_true (L3.look_f c 4 33 rfl rfl))
  obtain ⟨oc_InvalidText_init__, od_InvalidText_init__, sl_InvalidText_init__, kV_InvalidText_init__, dc_InvalidText_init__, pm_InvalidText_init__, an_InvalidText_init__, ct_InvalidText_init__, p_l_InvalidText_init__⟩ := L3.fn_look (L3.look_v c 8 rfl rfl) (of_decide_eq_true (L3.look_f c 4 36 rfl rfl))
  obtain ⟨oc_FieldClash_init__, od_FieldClash_init__, sl_FieldClash_init__, kV_FieldClash_init__, dc_FieldClash_init__, pm_FieldClash_init__, an_FieldClash_init__, ct_FieldClash_init__, p_l_FieldClash_init__⟩ := L3.fn_look (L3.look_v c 9 rfl rfl) (of_decide_eq_true (L3.look_f c 4 39 rfl rfl))
  obtain ⟨oc_Clash_init__, od_Clash_init__, sl_Clash_init__, kV_Clash_init__, dc_Clash_init__, pm_Clash_init__, an_Clash_init__, ct_Clash_init__, p_l_Clash_init__⟩ := L3.fn_look (L3.look_v c 10 rfl rfl) (of_decide_eq_true (L3.look_f c 5 2 rfl rfl))
  obtain ⟨oc_StateClash_init__, od_StateClash_init__, sl_StateClash_init__, kV_StateClash_init__, dc_StateClash_init__, pm_StateClash_init__, an_StateClash_init__, ct_StateClash_init__, p_l_StateClash_init__⟩ := L3.fn_look (L3.look_v c 11 rfl rfl) (of_decide_eq_true (L3.look_f c 5 5 rfl rfl))
  obtain ⟨oc_Locked_init__, od_Locked_init__, sl_Locked_init__, kV_Locked_init__, dc_Locked_init__, pm_Locked_init__, an_Locked_init__, ct_Locked_init__, p_l_Locked_init__⟩ := L3.fn_look (L3.look_v c 12 rfl rfl) (of_decide_eq_true (L3.look_f c 5 8 rfl rfl))
  obtain ⟨oc_Blank_init__, od_Blank_init__, sl_Blank_init__, kV_Blank_init__, dc_Blank_init__, pm_Blank_init__, an_Blank_init__, ct_Blank_init__, p_l_Blank_init__⟩ := L3.fn_look (L3.look_v c 13 rfl rfl) (of_decide_eq_true (L3.look_f c 5 11 rfl rfl))
  obtain ⟨oc_NotPossible_init__, od_NotPossible_init__, sl_NotPossible_init__, kV_NotPossible_init__, dc_NotPossible_init__, pm_NotPossible_init__, an_NotPossible_init__, ct_NotPossible_init__, p_l_NotPossible_init__⟩ := L3.fn_look (L3.look_v c 14 rfl rfl) (of_decide_eq_true (L3.look_f c 5 14 rfl rfl))
  obtain ⟨oc_NoCondition_init__, od_NoCondition_init__, sl_NoCondition_init__, kV_NoCondition_init__, dc_NoCondition_init__, pm_NoCondition_init__, an_NoCondition_init__, ct_NoCondition_init__, p_l_NoCondition_init__⟩ := L3.fn_look (L3.look_v c 15 rfl rfl) (of_decide_eq_true (L3.look_f c 5 17 rfl rfl))
  obtain ⟨oc_NoField_init__, od_NoField_init__, sl_NoField_init__, kV_NoField_init__, dc_NoField_init__, pm_NoField_init__, an_NoField_init__, ct_NoField_init__, p_l_NoField_init__⟩ := L3.fn_look (L3.look_v c 16 rfl rfl) (of_decide_eq_true (L3.look_f c 5 20 rfl rfl))
  obtain ⟨oc_NoKind_init__, od_NoKind_init__, sl_NoKind_init__, kV_NoKind_init__, dc_NoKind_init__, pm_NoKind_init__, an_NoKind_init__, ct_NoKind_init__, p_l_NoKind_init__⟩ := L3.fn_look (L3.look_v c 17 rfl rfl) (of_decide_eq_true (L3.look_f c 5 23 rfl rfl))
  obtain ⟨oc_NoState_init__, od_NoState_init__, sl_NoState_init__, kV_NoState_init__, dc_NoState_init__, pm_NoState_init__, an_NoState_init__, ct_NoState_init__, p_l_NoState_init__⟩ := L3.fn_look (L3.look_v c 18 rfl rfl) (of_decide_eq_true (L3.look_f c 5 26 rfl rfl))
  obtain ⟨oc_NoTarget_init__, od_NoTarget_init__, sl_NoTarget_init__, kV_NoTarget_init__, dc_NoTarget_init__, pm_NoTarget_init__, an_NoTarget_init__, ct_NoTarget_init__, p_l_NoTarget_init__⟩ := L3.fn_look (L3.look_v c 19 rfl rfl) (of_decide_eq_true (L3.look_f c 5 29 rfl rfl))
  obtain ⟨oc_NoClass_init__, od_NoClass_init__, sl_NoClass_init__, kV_NoClass_init__, dc_NoClass_init__, pm_NoClass_init__, an_NoClass_init__, ct_NoClass_init__, p_l_NoClass_init__⟩ := L3.fn_look (L3.look_v c 20 rfl rfl) (of_decide_eq_true (L3.look_f c 5 32 rfl rfl))
  obtain ⟨oc_NoLanding_init__, od_NoLanding_init__, sl_NoLanding_init__, kV_NoLanding_init__, dc_NoLanding_init__, pm_NoLanding_init__, an_NoLanding_init__, ct_NoLanding_init__, p_l_NoLanding_init__⟩ := L3.fn_look (L3.look_v c 21 rfl rfl) (of_decide_eq_true (L3.look_f c 5 35 rfl rfl))
  obtain ⟨oc_NoCase_init__, od_NoCase_init__, sl_NoCase_init__, kV_NoCase_init__, dc_NoCase_init__, pm_NoCase_init__, an_NoCase_init__, ct_NoCase_init__, p_l_NoCase_init__⟩ := L3.fn_look (L3.look_v c 22 rfl rfl) (of_decide_eq_true (L3.look_f c 5 38 rfl rfl))
  obtain ⟨oc_NotReady_init__, od_NotReady_init__, sl_NotReady_init__, kV_NotReady_init__, dc_NotReady_init__, pm_NotReady_init__, an_NotReady_init__, ct_NotReady_init__, p_l_NotReady_init__⟩ := L3.fn_look (L3.look_v c 23 rfl rfl) (of_decide_eq_true (L3.look_f c 6 1 rfl rfl))
  obtain ⟨oc_Taken_init__, od_Taken_init__, sl_Taken_init__, kV_Taken_init__, dc_Taken_init__, pm_Taken_init__, an_Taken_init__, ct_Taken_init__, p_l_Taken_init__⟩ := L3.fn_look (L3.look_v c 24 rfl rfl) (of_decide_eq_true (L3.look_f c 6 4 rfl rfl))
  obtain ⟨oc_WrongCount_init__, od_WrongCount_init__, sl_WrongCount_init__, kV_WrongCount_init__, dc_WrongCount_init__, pm_WrongCount_init__, an_WrongCount_init__, ct_WrongCount_init__, p_l_WrongCount_init__⟩ := L3.fn_look (L3.look_v c 25 rfl rfl) (of_decide_eq_true (L3.look_f c 6 7 rfl rfl))
  obtain ⟨oc_TooMany_init__, od_TooMany_init__, sl_TooMany_init__, kV_TooMany_init__, dc_TooMany_init__, pm_TooMany_init__, an_TooMany_init__, ct_TooMany_init__, p_l_TooMany_init__⟩ := L3.fn_look (L3.look_v c 26 rfl rfl) (of_decide_eq_true (L3.look_f c 6 10 rfl rfl))
  obtain ⟨oc_TooLarge_init__, od_TooLarge_init__, sl_TooLarge_init__, kV_TooLarge_init__, dc_TooLarge_init__, pm_TooLarge_init__, an_TooLarge_init__, ct_TooLarge_init__, p_l_TooLarge_init__⟩ := L3.fn_look (L3.look_v c 27 rfl rfl) (of_decide_eq_true (L3.look_f c 6 13 rfl rfl))
  obtain ⟨oc_law_pen, od_law_pen, sl_law_pen, kV_law_pen, dc_law_pen, pm_law_pen, an_law_pen, ct_law_pen, p_l_law_pen⟩ := L3.fn_look (L3.look_v c 28 rfl rfl) (of_decide_eq_true (L3.look_f c 6 17 rfl rfl))
  obtain ⟨oc_law_draw, od_law_draw, sl_law_draw, kV_law_draw, dc_law_draw, pm_law_draw, an_law_draw, ct_law_draw, p_l_law_draw⟩ := L3.fn_look (L3.look_v c 29 rfl rfl) (of_decide_eq_true (L3.look_f c 6 21 rfl rfl))
  obtain ⟨oc_law_pick, od_law_pick, sl_law_pick, kV_law_pick, dc_law_pick, pm_law_pick, an_law_pick, ct_law_pick, p_l_law_pick⟩ := L3.fn_look (L3.look_v c 30 rfl rfl) (of_decide_eq_true (L3.look_f c 6 25 rfl rfl))
  obtain ⟨oc_law_thing, od_law_thing, sl_law_thing, kV_law_thing, dc_law_thing, pm_law_thing, an_law_thing, ct_law_thing, p_l_law_thing⟩ := L3.fn_look (L3.look_v c 31 rfl rfl) (of_decide_eq_true (L3.look_f c 6 29 rfl rfl))
  obtain ⟨oc_law_kinds, od_law_kinds, sl_law_kinds, kV_law_kinds, dc_law_kinds, pm_law_kinds, an_law_kinds, ct_law_kinds, p_l_law_kinds⟩ := L3.fn_look (L3.look_v c 32 rfl rfl) (of_decide_eq_true (L3.look_f c 6 33 rfl rfl))
  obtain ⟨oc_law_is_based, od_law_is_based, sl_law_is_based, kV_law_is_based, dc_law_is_based, pm_law_is_based, an_law_is_based, ct_law_is_based, p_l_law_is_based⟩ := L3.fn_look (L3.look_v c 33 rfl rfl) (of_decide_eq_true (L3.look_f c 6 37 rfl rfl))
  obtain ⟨oc_law_values, od_law_values, sl_law_values, kV_law_values, dc_law_values, pm_law_values, an_law_values, ct_law_values, p_l_law_values⟩ := L3.fn_look (L3.look_v c 34 rfl rfl) (of_decide_eq_true (L3.look_f c 7 1 rfl rfl))
  obtain ⟨oc_law_places, od_law_places, sl_law_places, kV_law_places, dc_law_places, pm_law_places, an_law_places, ct_law_places, p_l_law_places⟩ := L3.fn_look (L3.look_v c 35 rfl rfl) (of_decide_eq_true (L3.look_f c 7 5 rfl rfl))
  obtain ⟨oc_law_several_right, od_law_several_right, sl_law_several_right, kV_law_several_right, dc_law_several_right, pm_law_several_right, an_law_several_right, ct_law_several_right, p_l_law_several_right⟩ := L3.fn_look (L3.look_v c 36 rfl rfl) (of_decide_eq_true (L3.look_f c 7 9 rfl rfl))
  obtain ⟨oc_law, od_law, sl_law, kV_law, dc_law, pm_law, an_law, ct_law, p_l_law⟩ := L3.fn_look (L3.look_v c 37 rfl rfl) (of_decide_eq_true (L3.look_f c 7 13 rfl rfl))
  exact all_mk X G hfa (of_decide_eq_true (L3.look_f c 0 0 rfl rfl)) (of_decide_eq_true (L3.look_f c 0 1 rfl rfl)) (of_decide_eq_true (L3.look_f c 0 2 rfl rfl)) (of_decide_eq_true (L3.look_f c 0 3 rfl rfl)) (of_decide_eq_true (L3.look_f c 0 4 rfl rfl)) (of_decide_eq_true (L3.look_f c 0 5 rfl rfl)) (of_decide_eq_true (L3.look_f c 0 6 rfl rfl)) (of_decide_eq_true (L3.look_f c 0 7 rfl rfl)) (of_decide_eq_true (L3.look_f c 0 8 rfl rfl)) (of_decide_eq_true (L3.look_f c 0 9 rfl rfl)) (of_decide_eq_true (L3.look_f c 0 10 rfl rfl)) (of_decide_eq_true (L3.look_f c 0 11 rfl rfl)) (of_decide_eq_true (L3.look_f c 0 12 rfl rfl)) (of_decide_eq_true (L3.look_f c 0 13 rfl rfl)) (of_decide_eq_true (L3.look_f c 0 14 rfl rfl)) (of_decide_eq_true (L3.look_f c 0 15 rfl rfl)) (of_decide_eq_true (L3.look_f c 0 16 rfl rfl)) (of_decide_eq_true (L3.look_f c 0 17 rfl rfl)) (of_decide_eq_true (L3.look_f c 0 18 rfl rfl)) (of_decide_eq_true (L3.look_f c 0 19 rfl rfl)) (of_decide_eq_true (L3.look_f c 0 20 rfl rfl)) (of_decide_eq_true (L3.look_f c 0 21 rfl rfl)) (of_decide_eq_true (L3.look_f c 0 22 rfl rfl)) (of_decide_eq_true (L3.look_f c 0 23 rfl rfl)) (of_decide_eq_true (L3.look_f c 0 24 rfl rfl)) (of_decide_eq_true (L3.look_f c 0 25 rfl rfl)) (of_decide_eq_true (L3.look_f c 0 26 rfl rfl)) (of_decide_eq_true (L3.look_f c 0 27 rfl rfl)) (of_decide_eq_true (L3.look_f c 0 28 rfl rfl)) (of_decide_eq_true (L3.look_f c 0 29 rfl rfl)) (of_decide_eq_true (L3.look_f c 0 30 rfl rfl)) (of_decide_eq_true (L3.look_f c 0 31 rfl rfl)) (of_decide_eq_true (L3.look_f c 0 32 rfl rfl)) (of_decide_eq_true (L3.look_f c 0 33 rfl rfl)) (L3.look_f c 0 34 rfl rfl) (L3.look_f c 0 35 rfl rfl) (L3.look_f c 0 36 rfl rfl) (of_decide_eq_true (L3.look_f c 0 37 rfl rfl)) (of_decide_eq_true (L3.look_f c 0 38 rfl rfl)) (L3.look_f c 0 39 rfl rfl) (L3.look_f c 1 0 rfl rfl) (of_decide_eq_true (L3.look_f c 1 1 rfl rfl)) (of_decide_eq_true (L3.look_f c 1 2 rfl rfl)) (L3.look_f c 1 3 rfl rfl) (L3.look_f c 1 4 rfl rfl) (of_decide_eq_true (L3.look_f c 1 5 rfl rfl)) (of_decide_eq_true (L3.look_f c 1 6 rfl rfl)) (L3.look_f c 1 7 rfl rfl) (L3.look_f c 1 8 rfl rfl) (of_decide_eq_true (L3.look_f c 1 9 rfl rfl)) (of_decide_eq_true (L3.look_f c 1 10 rfl rfl)) (L3.look_f c 1 11 rfl rfl) (L3.look_f c 1 12 rfl rfl) (of_decide_eq_true (L3.look_f c 1 13 rfl rfl)) (of_decide_eq_true (L3.look_f c 1 14 rfl rfl)) (L3.oexB_ok (L3.look_f c 1 15 rfl rfl)) (of_decide_eq_true (L3.look_f c 1 16 rfl rfl)) (of_decide_eq_true (L3.look_f c 1 17 rfl rfl)) (of_decide_eq_true (L3.look_f c 1 18 rfl rfl)) (L3.oexB_ok (L3.look_f c 1 19 rfl rfl)) (of_decide_eq_true (L3.look_f c 1 20 rfl rfl)) (of_decide_eq_true (L3.look_f c 1 21 rfl rfl)) (of_decide_eq_true (L3.look_f c 1 22 rfl rfl)) (of_decide_eq_true (L3.look_f c 1 23 rfl rfl)) (L3.oexB_ok (L3.look_f c 1 24 rfl rfl)) (of_decide_eq_true (L3.look_f c 1 25 rfl rfl)) (of_decide_eq_true (L3.look_f c 1 26 rfl rfl)) (of_decide_eq_true (L3.look_f c 1 27 rfl rfl)) (of_decide_eq_true (L3.look_f c 1 28 rfl rfl)) (of_decide_eq_true (L3.look_f c 1 29 rfl rfl)) (L3.oexB_ok (L3.look_f c 1 30 rfl rfl)) (of_decide_eq_true (L3.look_f c 1 31 rfl rfl)) (of_decide_eq_true (L3.look_f c 1 32 rfl rfl)) (of_decide_eq_true (L3.look_f c 1 33 rfl rfl)) (L3.oexB_ok (L3.look_f c 1 34 rfl rfl)) (of_decide_eq_true (L3.look_f c 1 35 rfl rfl)) (of_decide_eq_true (L3.look_f c 1 36 rfl rfl)) (of_decide_eq_true (L3.look_f c 1 37 rfl rfl)) (L3.oexB_ok (L3.look_f c 1 38 rfl rfl)) (of_decide_eq_true (L3.look_f c 1 39 rfl rfl)) (of_decide_eq_true (L3.look_f c 2 0 rfl rfl)) (of_decide_eq_true (L3.look_f c 2 1 rfl rfl)) (L3.oexB_ok (L3.look_f c 2 2 rfl rfl)) (of_decide_eq_true (L3.look_f c 2 3 rfl rfl)) (of_decide_eq_true (L3.look_f c 2 4 rfl rfl)) (of_decide_eq_true (L3.look_f c 2 5 rfl rfl)) (L3.oexB_ok (L3.look_f c 2 6 rfl rfl)) (of_decide_eq_true (L3.look_f c 2 7 rfl rfl)) (of_decide_eq_true (L3.look_f c 2 8 rfl rfl)) (of_decide_eq_true (L3.look_f c 2 9 rfl rfl)) (L3.oexB_ok (L3.look_f c 2 10 rfl rfl)) (of_decide_eq_true (L3.look_f c 2 11 rfl rfl)) (of_decide_eq_true (L3.look_f c 2 12 rfl rfl)) (of_decide_eq_true (L3.look_f c 2 13 rfl rfl)) (L3.oexB_ok (L3.look_f c 2 14 rfl rfl)) (of_decide_eq_true (L3.look_f c 2 15 rfl rfl)) (of_decide_eq_true (L3.look_f c 2 16 rfl rfl)) (of_decide_eq_true (L3.look_f c 2 17 rfl rfl)) (L3.oexB_ok (L3.look_f c 2 18 rfl rfl)) (of_decide_eq_true (L3.look_f c 2 19 rfl rfl)) (of_decide_eq_true (L3.look_f c 2 20 rfl rfl)) (of_decide_eq_true (L3.look_f c 2 21 rfl rfl)) (of_decide_eq_true (L3.look_f c 2 22 rfl rfl)) (L3.oexB_ok (L3.look_f c 2 23 rfl rfl)) (of_decide_eq_true (L3.look_f c 2 24 rfl rfl)) (of_decide_eq_true (L3.look_f c 2 25 rfl rfl)) (of_decide_eq_true (L3.look_f c 2 26 rfl rfl)) (L3.oexB_ok (L3.look_f c 2 27 rfl rfl)) (of_decide_eq_true (L3.look_f c 2 28 rfl rfl)) (of_decide_eq_true (L3.look_f c 2 29 rfl rfl)) (of_decide_eq_true (L3.look_f c 2 30 rfl rfl)) (L3.oexB_ok (L3.look_f c 2 31 rfl rfl)) (of_decide_eq_true (L3.look_f c 2 32 rfl rfl)) (of_decide_eq_true (L3.look_f c 2 33 rfl rfl)) (of_decide_eq_true (L3.look_f c 2 34 rfl rfl)) (L3.oexB_ok (L3.look_f c 2 35 rfl rfl)) (of_decide_eq_true (L3.look_f c 2 36 rfl rfl)) (of_decide_eq_true (L3.look_f c 2 37 rfl rfl)) (of_decide_eq_true (L3.look_f c 2 38 rfl rfl)) (L3.oexB_ok (L3.look_f c 2 39 rfl rfl)) (of_decide_eq_true (L3.look_f c 3 0 rfl rfl)) (of_decide_eq_true (L3.look_f c 3 1 rfl rfl)) (of_decide_eq_true (L3.look_f c 3 2 rfl rfl)) (L3.oexB_ok (L3.look_f c 3 3 rfl rfl)) (of_decide_eq_true (L3.look_f c 3 4 rfl rfl)) (of_decide_eq_true (L3.look_f c 3 5 rfl rfl)) (of_decide_eq_true (L3.look_f c 3 6 rfl rfl)) (L3.oexB_ok (L3.look_f c 3 7 rfl rfl)) (of_decide_eq_true (L3.look_f c 3 8 rfl rfl)) (of_decide_eq_true (L3.look_f c 3 9 rfl rfl)) (of_decide_eq_true (L3.look_f c 3 10 rfl rfl)) (L3.oexB_ok (L3.look_f c 3 11 rfl rfl)) (of_decide_eq_true (L3.look_f c 3 12 rfl rfl)) (of_decide_eq_true (L3.look_f c 3 13 rfl rfl)) (of_decide_eq_true (L3.look_f c 3 14 rfl rfl)) (L3.oexB_ok (L3.look_f c 3 15 rfl rfl)) (of_decide_eq_true (L3.look_f c 3 16 rfl rfl)) (of_decide_eq_true (L3.look_f c 3 17 rfl rfl)) (of_decide_eq_true (L3.look_f c 3 18 rfl rfl)) (L3.oexB_ok (L3.look_f c 3 19 rfl rfl)) (of_decide_eq_true (L3.look_f c 3 20 rfl rfl)) (of_decide_eq_true (L3.look_f c 3 21 rfl rfl)) (of_decide_eq_true (L3.look_f c 3 22 rfl rfl)) (L3.oexB_ok (L3.look_f c 3 23 rfl rfl)) (of_decide_eq_true (L3.look_f c 3 24 rfl rfl)) (of_decide_eq_true (L3.look_f c 3 25 rfl rfl)) (of_decide_eq_true (L3.look_f c 3 26 rfl rfl)) (L3.oexB_ok (L3.look_f c 3 27 rfl rfl)) (of_decide_eq_true (L3.look_f c 3 28 rfl rfl)) (of_decide_eq_true (L3.look_f c 3 29 rfl rfl)) (of_decide_eq_true (L3.look_f c 3 30 rfl rfl)) (L3.oexB_ok (L3.look_f c 3 31 rfl rfl)) (of_decide_eq_true (L3.look_f c 3 32 rfl rfl)) (of_decide_eq_true (L3.look_f c 3 33 rfl rfl)) (of_decide_eq_true (L3.look_f c 3 34 rfl rfl)) (L3.oexB_ok (L3.look_f c 3 35 rfl rfl)) (of_decide_eq_true (L3.look_f c 3 36 rfl rfl)) (of_decide_eq_true (L3.look_f c 3 37 rfl rfl)) (of_decide_eq_true (L3.look_f c 3 38 rfl rfl)) (L3.oexB_ok (L3.look_f c 3 39 rfl rfl)) (of_decide_eq_true (L3.look_f c 4 0 rfl rfl)) (of_decide_eq_true (L3.look_f c 4 1 rfl rfl)) (of_decide_eq_true (L3.look_f c 4 2 rfl rfl)) (L3.oexB_ok (L3.look_f c 4 3 rfl rfl)) (of_decide_eq_true (L3.look_f c 4 4 rfl rfl)) (of_decide_eq_true (L3.look_f c 4 5 rfl rfl)) (of_decide_eq_true (L3.look_f c 4 6 rfl rfl)) (L3.oexB_ok (L3.look_f c 4 7 rfl rfl)) (of_decide_eq_true (L3.look_f c 4 8 rfl rfl)) (of_decide_eq_true (L3.look_f c 4 9 rfl rfl)) (of_decide_eq_true (L3.look_f c 4 10 rfl rfl)) (L3.smB_ok (L3.look_f c 4 11 rfl rfl)) p_l_InvalidName_init__ (L3.look_f c 4 13 rfl rfl) (L3.look_f c 4 14 rfl rfl) p_l_InvalidNumber_init__ (L3.look_f c 4 16 rfl rfl) (L3.look_f c 4 17 rfl rfl) p_l_InvalidRows_init__ (L3.look_f c 4 19 rfl rfl) (L3.look_f c 4 20 rfl rfl) p_l_InvalidRow_init__ (L3.look_f c 4 22 rfl rfl) (L3.look_f c 4 23 rfl rfl) p_l_InvalidKind_init__ (L3.look_f c 4 25 rfl rfl) (L3.look_f c 4 26 rfl rfl) p_l_InvalidFrame_init__ (L3.look_f c 4 28 rfl rfl) (L3.look_f c 4 29 rfl rfl) p_l_InvalidWord_init__ (L3.look_f c 4 31 rfl rfl) (L3.look_f c 4 32 rfl rfl) p_l_InvalidAddress_init__ (L3.look_f c 4 34 rfl rfl) (L3.look_f c 4 35 rfl rfl) p_l_InvalidText_init__ (L3.look_f c 4 37 rfl rfl) (L3.look_f c 4 38 rfl rfl) p_l_FieldClash_init__ (L3.look_f c 5 0 rfl rfl) (L3.look_f c 5 1 rfl rfl) p_l_Clash_init__ (L3.look_f c 5 3 rfl rfl) (L3.look_f c 5 4 rfl rfl) p_l_StateClash_init__ (L3.look_f c 5 6 rfl rfl) (L3.look_f c 5 7 rfl rfl) p_l_Locked_init__ (L3.look_f c 5 9 rfl rfl) (L3.look_f c 5 10 rfl rfl) p_l_Blank_init__ (L3.look_f c 5 12 rfl rfl) (L3.look_f c 5 13 rfl rfl) p_l_NotPossible_init__ (L3.look_f c 5 15 rfl rfl) (L3.look_f c 5 16 rfl rfl) p_l_NoCondition_init__ (L3.look_f c 5 18 rfl rfl) (L3.look_f c 5 19 rfl rfl) p_l_NoField_init__ (L3.look_f c 5 21 rfl rfl) (L3.look_f c 5 22 rfl rfl) p_l_NoKind_init__ (L3.look_f c 5 24 rfl rfl) (L3.look_f c 5 25 rfl rfl) p_l_NoState_init__ (L3.look_f c 5 27 rfl rfl) (L3.look_f c 5 28 rfl rfl) p_l_NoTarget_init__ (L3.look_f c 5 30 rfl rfl) (L3.look_f c 5 31 rfl rfl) p_l_NoClass_init__ (L3.look_f c 5 33 rfl rfl) (L3.look_f c 5 34 rfl rfl) p_l_NoLanding_init__ (L3.look_f c 5 36 rfl rfl) (L3.look_f c 5 37 rfl rfl) p_l_NoCase_init__ (L3.look_f c 5 39 rfl rfl) (L3.look_f c 6 0 rfl rfl) p_l_NotReady_init__ (L3.look_f c 6 2 rfl rfl) (L3.look_f c 6 3 rfl rfl) p_l_Taken_init__ (L3.look_f c 6 5 rfl rfl) (L3.look_f c 6 6 rfl rfl) p_l_WrongCount_init__ (L3.look_f c 6 8 rfl rfl) (L3.look_f c 6 9 rfl rfl) p_l_TooMany_init__ (L3.look_f c 6 11 rfl rfl) (L3.look_f c 6 12 rfl rfl) p_l_TooLarge_init__ (L3.look_f c 6 14 rfl rfl) (L3.look_f c 6 15 rfl rfl) (of_decide_eq_true (L3.look_f c 6 16 rfl rfl)) p_l_law_pen (L3.look_f c 6 18 rfl rfl) (L3.look_f c 6 19 rfl rfl) (of_decide_eq_true (L3.look_f c 6 20 rfl rfl)) p_l_law_draw (L3.look_f c 6 22 rfl rfl) (L3.look_f c 6 23 rfl rfl) (of_decide_eq_true (L3.look_f c 6 24 rfl rfl)) p_l_law_pick (L3.look_f c 6 26 rfl rfl) (L3.look_f c 6 27 rfl rfl) (of_decide_eq_true (L3.look_f c 6 28 rfl rfl)) p_l_law_thing (L3.look_f c 6 30 rfl rfl) (L3.look_f c 6 31 rfl rfl) (of_decide_eq_true (L3.look_f c 6 32 rfl rfl)) p_l_law_kinds (L3.look_f c 6 34 rfl rfl) (L3.look_f c 6 35 rfl rfl) (of_decide_eq_true (L3.look_f c 6 36 rfl rfl)) p_l_law_is_based (L3.look_f c 6 38 rfl rfl) (L3.look_f c 6 39 rfl rfl) (of_decide_eq_true (L3.look_f c 7 0 rfl rfl)) p_l_law_values (L3.look_f c 7 2 rfl rfl) (L3.look_f c 7 3 rfl rfl) (of_decide_eq_true (L3.look_f c 7 4 rfl rfl)) p_l_law_places (L3.look_f c 7 6 rfl rfl) (L3.look_f c 7 7 rfl rfl) (of_decide_eq_true (L3.look_f c 7 8 rfl rfl)) p_l_law_several_right (L3.look_f c 7 10 rfl rfl) (L3.look_f c 7 11 rfl rfl) (of_decide_eq_true (L3.look_f c 7 12 rfl rfl)) p_l_law (L3.look_f c 7 14 rfl rfl) (L3.look_f c 7 15 rfl rfl) (of_decide_eq_true (L3.look_f c 7 16 rfl rfl)) (of_decide_eq_true (L3.look_f c 7 17 rfl rfl)) (of_decide_eq_true (L3.look_f c 7 18 rfl rfl)) (of_decide_eq_true (L3.look_f c 7 19 rfl rfl)) (of_decide_eq_true (L3.look_f c 7 20 rfl rfl)) (of_decide_eq_true (L3.look_f c 7 21 rfl rfl)) (of_decide_eq_true (L3.look_f c 7 22 rfl rfl)) (of_decide_eq_true (L3.look_f c 7 23 rfl rfl)) (of_decide_eq_true (L3.look_f c 7 24 rfl rfl)) (of_decide_eq_true (L3.look_f c 7 25 rfl rfl)) (of_decide_eq_true (L3.look_f c 7 26 rfl rfl)) (of_decide_eq_true (L3.look_f c 7 27 rfl rfl)) (of_decide_eq_true (L3.look_f c 7 28 rfl rfl)) (of_decide_eq_true (L3.look_f c 7 29 rfl rfl)) (of_decide_eq_true (L3.look_f c 7 30 rfl rfl)) (of_decide_eq_true (L3.look_f c 7 31 rfl rfl))
abbrev R_ : PySem.W.OpenRow := PySem.W.OpenLaw.row PySem.Challenge.rw_orplaces_k01_errors_and_their_parts
set_option maxHeartbeats 0 in
theorem run (w : World) : HandSHeadRun.RunEq R_ (PySem.W.view R_.prog [45]) (L3.hookB 0 fls fns fvs) (L3.obT 0 fls fns) 60000 names w := by
  intro os
  kernel_rfl
end K01
open PySem PySem.W PyProof.Rows
set_option maxHeartbeats 0 in
theorem PySem.Challenge.cw_orplaces_k01_errors_and_their_parts_holds : PySem.Challenge.rw_orplaces_k01_errors_and_their_parts.Holds := by
  w_on; o_law
  refine HandSHeadRun.head_any (r := (PySem.W.OpenLaw.row PySem.Challenge.rw_orplaces_k01_errors_and_their_parts)) (q := PySem.W.view (PySem.W.OpenLaw.row PySem.Challenge.rw_orplaces_k01_errors_and_their_parts).prog [45]) (H := L3.hookB 0 K01.fls K01.fns K01.fvs) (ob := L3.obT 0 K01.fls K01.fns) (M := 60000) (loose := K01.names) (d := HandSHeadRun.topDef (PySem.W.OpenLaw.row PySem.Challenge.rw_orplaces_k01_errors_and_their_parts).prog 45) (kwd := []) (L3.obT_eq _ _ _ _)
    (by kernel_rfl) (fun s => by kernel_rfl) K01.run (by kernel_rfl) (by kernel_rfl) (by kernel_rfl) (by rfl) (by first | assumption | decide +kernel) (by decide +kernel) ⟨rfl, rfl, rfl, rfl, rfl, by decide +kernel⟩ ?hw ?hc
  case hw => w_witness2
  case hc =>
    refine L3.walk_ofH (l := PySem.Challenge.rw_orplaces_k01_errors_and_their_parts) (n := 63) (k := 8) (x := "_law_script") (CX := fun w => L2.CX (PySem.Challenge.rw_orplaces_k01_errors_and_their_parts).prog w) (sp := fun K => L3.toSp K K01.sp_law) rfl (by decide) (by kernel_rfl) ⟨rfl, by decide, by decide⟩ ?F (fun K H a ns hl ho hS => L3.law_sp (fun ns hl R RX h => K01.law_start ns hl R RX h) hl hS) (fun _ _ _ _ _ ⟨_, _, _, _, _, _, _, _, _, _, _, _, no⟩ => no)
    intro w mg fa h Y G hmg0
    obtain ⟨K, KX, c⟩ := Y
    have hmg : mg ("law" : PySem.Str) = some (.ref fa) := by
      have e : (HandSHeadRun.topDef (PySem.W.OpenLaw.row PySem.Challenge.rw_orplaces_k01_errors_and_their_parts).prog 45).name = ("law" : PySem.Str) := by kernel_rfl
      rw [← e]
      exact hmg0
    exact ⟨K, KX, K01.facts KX G hmg c⟩
