import PyProof.Rows.All
import Wide.All
import OpenK.AllK
import Wide.FinOn
import HandS.ForMost
import HandS.Walk
import HandS.Wide
import HandS.IsInst
import HandS.Exc
import HandS.ExcOwn
import HandS.ExcInit
import HandS.ExcSuper
import HandS.ExcField
import HandS.ExcIs
import HandS.TryOnly
import HandS.WordsExc
import HandS.Style
import HandS.StrMore
import HandS.TupAny
import HandS.TupLe
import HandS.Flow
import HandS.Iter
import KE.GoesEnumKw
import HandS.SortKw
import HandS.SetFor
import HandS.Strs
import HandS.SortInts
import PyProof.RulesMatch
import HandS.Dict
import HandS.More
import HandS.WordsDict
import HandS.Replace
import HandS.Text
import PyProof.RulesMatchSeq
import PyProof.Rows.MatchSeqLen
import KE.KUnpack
import HandS.Rev
import HandS.DictComp
import PyProof.StrLawsLast
import KE.KIntText
import PyProof.Rows.StrBin
import PySem.Challenge.RW_quotedback_k45_texts_say_paths
set_option Elab.async false
set_option linter.all false
set_option maxRecDepth 100000
set_option maxHeartbeats 4000000
/-! QbA: values as trees, boxes, own slots; what stands in the abstract heap for them. -/
namespace QB
open PySem L2

/-- a value: a tree (never changed any more), or a box (a shared thing that may change) -/
inductive U where
  | non | bl (b : Bool) | int (i : Int) | str (x : Str)
  | lst (xs : List U) | tup (xs : List U) | dct (ks : List Key) (vs : List U) | box (i : Nat)
  /-- the script itself: read, never written -/
  | scr (ns : List Int)
  deriving Inhabited
/-- what stands in a box, in a slot of one's own -/
inductive Cell where
  | dead | lst (xs : List U) | dct (ks : List Key) (vs : List U)
def Cell.live : Cell → Bool
  | .dead => false
  | _ => true
def Cell.toU : Cell → U
  | .dead => .non
  | .lst xs => .lst xs
  | .dct ks vs => .dct ks vs
inductive Sl where
  | un | val (u : U) | own (c : Cell)
/-- an expression's result: a value, the slot i, a new thing that nobody else holds -/
inductive R where
  | w (u : U) | s (i : Nat) | fr (c : Cell)
structure Exn where
  cls : Str
  val : U
abbrev En := List Sl
abbrev Bx := List Cell
inductive O (α : Type) where
  | ok (a : α) (E : En) (B : Bx) | ex (c : Exn) (E : En) (B : Bx) | bad
inductive Fo where
  | ok (u : U) (B : Bx) | ex (c : Exn) (B : Bx) | bad
abbrev Fn := List U → Bx → Fo

/-! ### what stands for a value -/
def KL (K : PySem.W.Frag) (a : Addr) (xs : List V) : Prop :=
  ∃ (o : Obj) (its : Array Value) (n : Nat), K.lookup a = some o ∧ o.cls = .type "list" ∧ o.dict = none ∧ o.data = .seq its n ∧ its.size ≤ sizeLine ∧ Vals xs its.toList
def KT (K : PySem.W.Frag) (a : Addr) (xs : List V) : Prop :=
  ∃ (o : Obj) (its : Array Value) (n : Nat), K.lookup a = some o ∧ o.cls = .type "tuple" ∧ o.data = .seq its n ∧ its.size ≤ sizeLine ∧ Vals xs its.toList
abbrev AS := Addr → Prop
mutual
def Rep (K : PySem.W.Frag) (H : Hp) (Lv : AS) (ρ : List Addr) : U → V → Prop
  | .non, v => v = .non
  | .bl b, v => v = .bl b
  | .int i, v => v = .int i
  | .str x, v => v = .str x
  | .lst us, v => ∃ p vs, v = .ref p ∧ (H p = some (.lst vs) ∧ ¬ Lv p) ∧ Reps K H Lv ρ us vs
  | .tup us, v => ∃ p vs, v = .ref p ∧ ((Rd H p (.tup vs) ∧ ¬ Lv p) ∨ KT K p vs) ∧ Reps K H Lv ρ us vs
  | .dct ks us, v => ∃ p kvs, v = .ref p ∧ Rd H p (.dK kvs) ∧ ¬ Lv p ∧ kvs.map (·.1) = ks ∧ Reps K H Lv ρ us (kvs.map (·.2))
  | .box i, v => ∃ p, ρ[i]? = some p ∧ v = .ref p
  | .scr ns, v => ∃ p, v = .ref p ∧ ((Rd H p (.lst (ns.map V.int)) ∧ ¬ Lv p) ∨ KL K p (ns.map V.int))
def Reps (K : PySem.W.Frag) (H : Hp) (Lv : AS) (ρ : List Addr) : List U → List V → Prop
  | [], vs => vs = []
  | u :: us, vs => ∃ v r, vs = v :: r ∧ Rep K H Lv ρ u v ∧ Reps K H Lv ρ us r
end
/-- what is not live stands, and is not live -/
def Hk (h : Option HO) (o : HO) : Prop := h = some o ∨ ∃ od kvs, o = .dK kvs ∧ h = some (.frz od o)
def Stp (H : Hp) (Lv : AS) (H' : Hp) (Lv' : AS) : Prop := ∀ q o, H q = some o → ¬ Lv q → Hk (H' q) o ∧ ¬ Lv' q
theorem Hk.at {h : Option HO} {o : HO} (k : Hk h o) (n : ∀ kvs, o ≠ .dK kvs) : h = some o := by
  rcases k with k | ⟨_, kvs, e, _⟩
  · exact k
  · exact absurd e (n kvs)
section
variable {K : PySem.W.Frag} {H H' H2 : Hp} {Lv Lv' Lv2 : AS} {ρ ρ' : List Addr}
theorem Stp.refl : Stp H Lv H Lv := fun _ _ h n => ⟨.inl h, n⟩
theorem Stp.trans (a : Stp H Lv H' Lv') (b : Stp H' Lv' H2 Lv2) : Stp H Lv H2 Lv2 := fun q o h n => by
  obtain ⟨h1, n1⟩ := a q o h n
  rcases h1 with h1 | ⟨od, kvs, e, h1⟩
  · exact b q o h1 n1
  · obtain ⟨h2, n2⟩ := b q _ h1 n1
    exact ⟨.inr ⟨od, kvs, e, h2.at fun _ z => by cases z⟩, n2⟩
theorem Stp.less (h : ∀ q, Lv' q → Lv q) : Stp H Lv H Lv' := fun q _ e n => ⟨.inl e, fun z => n (h q z)⟩
theorem Stp.rd (s : Stp H Lv H' Lv') {p : Addr} {u : HO} (r : Rd H p u) (n : ¬ Lv p) : Rd H' p u ∧ ¬ Lv' p := by
  rcases r with r | ⟨o, r⟩
  · obtain ⟨h1, n1⟩ := s p _ r n
    rcases h1 with h1 | ⟨od, kvs, e, h1⟩
    · exact ⟨.inl h1, n1⟩
    · exact ⟨.inr ⟨od, h1⟩, n1⟩
  · exact ⟨.inr ⟨o, (s p _ r n).1.at (fun _ z => by cases z)⟩, (s p _ r n).2⟩
theorem px_get {i : Nat} {p : Addr} (e : ρ <+: ρ') (h : ρ[i]? = some p) : ρ'[i]? = some p := by
  obtain ⟨t, rfl⟩ := e
  rw [List.getElem?_append_left (List.getElem?_eq_some_iff.mp h).1]
  exact h
mutual
theorem Rep.mono (s : Stp H Lv H' Lv') (e : ρ <+: ρ') : ∀ (u : U) (v : V), Rep K H Lv ρ u v → Rep K H' Lv' ρ' u v
  | .non, _, h => by simpa [Rep] using h
  | .bl _, _, h => by simpa [Rep] using h
  | .int _, _, h => by simpa [Rep] using h
  | .str _, _, h => by simpa [Rep] using h
  | .lst us, v, h => by
    simp only [Rep] at h ⊢
    obtain ⟨p, vs, rfl, h1, h2⟩ := h
    exact ⟨p, vs, rfl, ⟨(s p _ h1.1 h1.2).1.at (fun _ z => by cases z), (s p _ h1.1 h1.2).2⟩, Reps.mono s e us vs h2⟩
  | .tup us, v, h => by
    simp only [Rep] at h ⊢
    obtain ⟨p, vs, rfl, h1, h2⟩ := h
    refine ⟨p, vs, rfl, ?_, Reps.mono s e us vs h2⟩
    rcases h1 with h1 | h1
    · exact .inl (s.rd h1.1 h1.2)
    · exact .inr h1
  | .dct ks us, v, h => by
    simp only [Rep] at h ⊢
    obtain ⟨p, kvs, rfl, h1, h2, h3, h4⟩ := h
    exact ⟨p, kvs, rfl, (s.rd h1 h2).1, (s.rd h1 h2).2, h3, Reps.mono s e us _ h4⟩
  | .box i, v, h => by
    simp only [Rep] at h ⊢
    obtain ⟨p, h1, h2⟩ := h
    exact ⟨p, px_get e h1, h2⟩
  | .scr ns, v, h => by
    simp only [Rep] at h ⊢
    obtain ⟨p, h1, h2⟩ := h
    refine ⟨p, h1, ?_⟩
    rcases h2 with h2 | h2
    · exact .inl (s.rd h2.1 h2.2)
    · exact .inr h2
theorem Reps.mono (s : Stp H Lv H' Lv') (e : ρ <+: ρ') : ∀ (us : List U) (vs : List V), Reps K H Lv ρ us vs → Reps K H' Lv' ρ' us vs
  | [], _, h => by simpa [Reps] using h
  | u :: us, vs, h => by
    simp only [Reps] at h ⊢
    obtain ⟨v, r, rfl, h1, h2⟩ := h
    exact ⟨v, r, rfl, Rep.mono s e u v h1, Reps.mono s e us r h2⟩
end
theorem Reps.len : ∀ {us : List U} {vs : List V}, Reps K H Lv ρ us vs → us.length = vs.length
  | [], vs, h => by simp only [Reps] at h; subst h; rfl
  | u :: us, vs, h => by
    simp only [Reps] at h
    obtain ⟨v, r, rfl, _, h2⟩ := h
    simp [Reps.len h2]
theorem Reps.get : ∀ {us : List U} {vs : List V} {i : Nat} {u : U}, Reps K H Lv ρ us vs → us[i]? = some u → ∃ v, vs[i]? = some v ∧ Rep K H Lv ρ u v
  | [], vs, i, u, h, e => by simp at e
  | u' :: us, vs, i, u, h, e => by
    simp only [Reps] at h
    obtain ⟨v, r, rfl, h1, h2⟩ := h
    cases i with
    | zero => simp at e; subst e; exact ⟨v, by simp, h1⟩
    | succ i => simpa using Reps.get h2 (by simpa using e)
theorem Reps.getV : ∀ {us : List U} {vs : List V} {i : Nat} {v : V}, Reps K H Lv ρ us vs → vs[i]? = some v → ∃ u, us[i]? = some u ∧ Rep K H Lv ρ u v
  | [], vs, i, v, h, e => by simp only [Reps] at h; subst h; simp at e
  | u' :: us, vs, i, v, h, e => by
    simp only [Reps] at h
    obtain ⟨v', r, rfl, h1, h2⟩ := h
    cases i with
    | zero => simp at e; subst e; exact ⟨u', by simp, h1⟩
    | succ i => simpa using Reps.getV h2 (by simpa using e)
theorem Reps.set : ∀ {us : List U} {vs : List V} {u : U} {v : V} (i : Nat), Reps K H Lv ρ us vs → Rep K H Lv ρ u v → Reps K H Lv ρ (us.set i u) (vs.set i v)
  | [], vs, u, v, i, h, r => by simp only [Reps] at h; subst h; simp [Reps]
  | u' :: us, vs, u, v, i, h, r => by
    simp only [Reps] at h
    obtain ⟨v', t, rfl, h1, h2⟩ := h
    cases i with
    | zero => simp only [List.set_cons_zero, Reps]; exact ⟨v, t, rfl, r, h2⟩
    | succ i => simp only [List.set_cons_succ, Reps]; exact ⟨v', _, rfl, h1, Reps.set i h2 r⟩
theorem Reps.append : ∀ {us us' : List U} {vs vs' : List V}, Reps K H Lv ρ us vs → Reps K H Lv ρ us' vs' → Reps K H Lv ρ (us ++ us') (vs ++ vs')
  | [], _, vs, _, h, r => by simp only [Reps] at h; subst h; exact r
  | u' :: us, us', vs, vs', h, r => by
    simp only [Reps] at h
    obtain ⟨v', t, rfl, h1, h2⟩ := h
    simp only [List.cons_append, Reps]
    exact ⟨v', _, rfl, h1, Reps.append h2 r⟩
theorem Reps.take : ∀ {us : List U} {vs : List V} (n : Nat), Reps K H Lv ρ us vs → Reps K H Lv ρ (us.take n) (vs.take n)
  | [], vs, n, h => by simp only [Reps] at h; subst h; simp [Reps]
  | u' :: us, vs, n, h => by
    simp only [Reps] at h
    obtain ⟨v', t, rfl, h1, h2⟩ := h
    cases n with
    | zero => simp [Reps]
    | succ n => simp only [List.take_succ_cons, Reps]; exact ⟨v', _, rfl, h1, Reps.take n h2⟩
theorem Reps.drop : ∀ {us : List U} {vs : List V} (n : Nat), Reps K H Lv ρ us vs → Reps K H Lv ρ (us.drop n) (vs.drop n)
  | [], vs, n, h => by simp only [Reps] at h; subst h; simp [Reps]
  | u' :: us, vs, n, h => by
    cases n with
    | zero => simpa using h
    | succ n =>
      simp only [Reps] at h
      obtain ⟨v', t, rfl, h1, h2⟩ := h
      simpa using Reps.drop n h2
theorem Reps.one {u : U} {v : V} (h : Rep K H Lv ρ u v) : Reps K H Lv ρ [u] [v] := by simp only [Reps]; exact ⟨v, [], rfl, h, rfl⟩
theorem Reps.nil : Reps K H Lv ρ [] [] := by simp [Reps]
theorem Reps.cons {u : U} {v : V} {us : List U} {vs : List V} (h : Rep K H Lv ρ u v) (r : Reps K H Lv ρ us vs) : Reps K H Lv ρ (u :: us) (v :: vs) := by simp only [Reps]; exact ⟨v, vs, rfl, h, r⟩
theorem Reps.reverse : ∀ {us : List U} {vs : List V}, Reps K H Lv ρ us vs → Reps K H Lv ρ us.reverse vs.reverse
  | [], vs, h => by simp only [Reps] at h; subst h; simp [Reps]
  | u' :: us, vs, h => by
    simp only [Reps] at h
    obtain ⟨v', t, rfl, h1, h2⟩ := h
    simp only [List.reverse_cons]
    exact (Reps.reverse h2).append (Reps.one h1)

/-! ### cells -/
def CellOk (K : PySem.W.Frag) (H : Hp) (Lv : AS) (ρ : List Addr) : Cell → Addr → Prop
  | .dead, _ => True
  | .lst us, p => ∃ vs, H p = some (.lst vs) ∧ Reps K H Lv ρ us vs
  | .dct ks us, p => ∃ kvs, H p = some (.dK kvs) ∧ kvs.map (·.1) = ks ∧ Reps K H Lv ρ us (kvs.map (·.2))
theorem CellOk.mono {c : Cell} {p : Addr} (s : Stp H Lv H' Lv') (e : ρ <+: ρ') (same : H' p = H p) (h : CellOk K H Lv ρ c p) : CellOk K H' Lv' ρ' c p := by
  cases c with
  | dead => trivial
  | lst us => obtain ⟨vs, h1, h2⟩ := h; exact ⟨vs, by rw [same]; exact h1, h2.mono s e⟩
  | dct ks us => obtain ⟨kvs, h1, h2, h3⟩ := h; exact ⟨kvs, by rw [same]; exact h1, h2, h3.mono s e⟩
theorem CellOk.there {c : Cell} {p : Addr} (hl : c.live = true) (h : CellOk K H Lv ρ c p) : ∃ o, H p = some o := by
  cases c with
  | dead => cases hl
  | lst us => obtain ⟨vs, h1, _⟩ := h; exact ⟨_, h1⟩
  | dct ks us => obtain ⟨vs, h1, _⟩ := h; exact ⟨_, h1⟩
/-- a live thing comes to rest -/
theorem CellOk.rep {c : Cell} {p : Addr} (hl : c.live = true) (n : ¬ Lv p) (h : CellOk K H Lv ρ c p) : Rep K H Lv ρ c.toU (.ref p) := by
  cases c with
  | dead => cases hl
  | lst us => obtain ⟨vs, h1, h2⟩ := h; simp only [Cell.toU, Rep]; exact ⟨p, vs, rfl, ⟨h1, n⟩, h2⟩
  | dct ks us => obtain ⟨kvs, h1, h2, h3⟩ := h; simp only [Cell.toU, Rep]; exact ⟨p, kvs, rfl, .inl h1, n, h2, h3⟩
end

/-! ### the state -/
structure Fm where
  Out : AS
  H0 : Hp
  Lv0 : AS
def BLv (ρ : List Addr) (B : Bx) : AS := fun q => ∃ (i : Nat) (c : Cell), B[i]? = some c ∧ c.live = true ∧ ρ[i]? = some q
def SLv (E : En) (σ : L2.St) : AS := fun q => ∃ (i : Nat) (c : Cell), E[i]? = some (.own c) ∧ σ[i]? = some (some (.ref q))
def LvF (F : Fm) (ρ : List Addr) (E : En) (B : Bx) (σ : L2.St) : AS := fun q => F.Out q ∨ BLv ρ B q ∨ SLv E σ q
structure Rel (K : PySem.W.Frag) (F : Fm) (ρ : List Addr) (E : En) (B : Bx) (σ : L2.St) (H : Hp) : Prop where
  elen : E.length = σ.length
  blen : ρ.length = B.length
  val : ∀ (i : Nat) (u : U), E[i]? = some (.val u) → ∃ v, σ[i]? = some (some v) ∧ Rep K H (LvF F ρ E B σ) ρ u v
  own : ∀ (i : Nat) (c : Cell), E[i]? = some (.own c) → c.live = true ∧ ∃ p, σ[i]? = some (some (.ref p)) ∧ CellOk K H (LvF F ρ E B σ) ρ c p ∧ ¬ F.Out p ∧ ¬ BLv ρ B p
  oinj : ∀ (i j : Nat) (c d : Cell) (p : Addr), E[i]? = some (.own c) → E[j]? = some (.own d) → σ[i]? = some (some (.ref p)) → σ[j]? = some (some (.ref p)) → i = j
  box : ∀ (i : Nat) (c : Cell) (p : Addr), B[i]? = some c → c.live = true → ρ[i]? = some p → CellOk K H (LvF F ρ E B σ) ρ c p ∧ ¬ F.Out p
  binj : ∀ (i j : Nat) (c d : Cell) (p : Addr), B[i]? = some c → c.live = true → B[j]? = some d → d.live = true → ρ[i]? = some p → ρ[j]? = some p → i = j
  out : ∀ q, F.Out q → H q = F.H0 q ∧ ∃ o, F.H0 q = some o
  old : Stp F.H0 F.Lv0 H (LvF F ρ E B σ)
  grow : ∀ q o, F.H0 q = some o → ∃ o', H q = some o'
def Fm.add (F : Fm) (p : Addr) (o : Option HO) : Fm := ⟨fun q => F.Out q ∨ q = p, fun q => if q = p then o else F.H0 q, fun q => F.Lv0 q ∨ q = p⟩
/-- p is new to F -/
structure New (F : Fm) (p : Addr) : Prop where
  out : ¬ F.Out p
  h0 : F.H0 p = none
section
variable {K : PySem.W.Frag} {F : Fm} {ρ ρ' : List Addr} {E E' : En} {B B' : Bx} {σ : L2.St} {H H' : Hp} {p : Addr} {o : Option HO}
theorem Rel.lv_there (r : Rel K F ρ E B σ H) : ∀ q, LvF F ρ E B σ q → ∃ o, H q = some o := by
  intro q h
  rcases h with h | ⟨i, c, h1, h2, h3⟩ | ⟨i, c, h1, h2⟩
  · obtain ⟨e, o, ho⟩ := r.out q h
    exact ⟨o, by rw [e]; exact ho⟩
  · exact (r.box i c q h1 h2 h3).1.there h2
  · obtain ⟨hl, p, h3, h4, _⟩ := r.own i c h1
    rw [h3] at h2
    have e : p = q := by simpa using h2
    subst e
    exact h4.there hl
/-- the heap grew -/
theorem grow_stp (r : Rel K F ρ E B σ H) (g : ∀ q o, H q = some o → H' q = some o) : Stp H (LvF F ρ E B σ) H' (LvF F ρ E B σ) := fun q o h n => ⟨.inl (g q o h), n⟩
theorem Rel.growH (r : Rel K F ρ E B σ H) (g : ∀ q o, H q = some o → H' q = some o) : Rel K F ρ E B σ H' := by
  have s := grow_stp r g
  have px : ρ <+: ρ := List.prefix_refl _
  have eqv : ∀ q, LvF F ρ E B σ q → H' q = H q := fun q h => by
    obtain ⟨o, ho⟩ := r.lv_there q h
    rw [ho, g q o ho]
  refine ⟨r.elen, r.blen, fun i u h => ?_, fun i c h => ?_, r.oinj, fun i c q h1 h2 h3 => ?_, r.binj, fun q h => ?_, r.old.trans s, fun q o h => ?_⟩
  · obtain ⟨v, h1, h2⟩ := r.val i u h
    exact ⟨v, h1, h2.mono s px⟩
  · obtain ⟨h1, q, h2, h3, h4⟩ := r.own i c h
    exact ⟨h1, q, h2, h3.mono s px (eqv q (.inr (.inr ⟨i, c, h, h2⟩))), h4⟩
  · obtain ⟨h4, h5⟩ := r.box i c q h1 h2 h3
    exact ⟨h4.mono s px (eqv q (.inr (.inl ⟨i, c, h1, h2, h3⟩))), h5⟩
  · obtain ⟨h1, o, h2⟩ := r.out q h
    exact ⟨by rw [eqv q (.inl h)]; exact h1, o, h2⟩
  · obtain ⟨o', h1⟩ := r.grow q o h
    exact ⟨o', g q o' h1⟩
/-- the live set is changed, what is live stands as it is -/
theorem Rel.lv {F' : Fm} (r : Rel K F ρ E B σ H) (hl : ∀ q o, H q = some o → ¬ LvF F ρ E B σ q → ¬ LvF F' ρ E B σ q)
    (ho : ∀ q, F'.Out q → H q = F'.H0 q ∧ ∃ o, F'.H0 q = some o) (hb : ∀ q, BLv ρ B q → ¬ F'.Out q) (hs : ∀ q, SLv E σ q → ¬ F'.Out q) (old : Stp F'.H0 F'.Lv0 H (LvF F' ρ E B σ)) (grow : ∀ q o, F'.H0 q = some o → ∃ o', H q = some o') : Rel K F' ρ E B σ H := by
  have s : Stp H (LvF F ρ E B σ) H (LvF F' ρ E B σ) := fun q o h n => ⟨.inl h, hl q o h n⟩
  have px : ρ <+: ρ := List.prefix_refl _
  refine ⟨r.elen, r.blen, fun i u h => ?_, fun i c h => ?_, r.oinj, fun i c q h1 h2 h3 => ?_, r.binj, ho, old, grow⟩
  · obtain ⟨v, h1, h2⟩ := r.val i u h
    exact ⟨v, h1, h2.mono s px⟩
  · obtain ⟨h1, q, h2, h3, h4, h5⟩ := r.own i c h
    exact ⟨h1, q, h2, h3.mono s px rfl, hs q ⟨i, c, h, h2⟩, h5⟩
  · obtain ⟨h4, h5⟩ := r.box i c q h1 h2 h3
    exact ⟨h4.mono s px rfl, hb q ⟨i, c, h1, h2, h3⟩⟩
theorem LvF.add_iff {q : Addr} : LvF (F.add p o) ρ E B σ q ↔ LvF F ρ E B σ q ∨ q = p := by
  unfold LvF Fm.add
  constructor
  · rintro ((h | h) | h | h)
    · exact .inl (.inl h)
    · exact .inr h
    · exact .inl (.inr (.inl h))
    · exact .inl (.inr (.inr h))
  · rintro ((h | h | h) | h)
    · exact .inl (.inl h)
    · exact .inr (.inl h)
    · exact .inr (.inr h)
    · exact .inl (.inr h)
/-- the new thing at p is forgotten: it rests -/
theorem Rel.drop (r : Rel K (F.add p o) ρ E B σ H) (n : New F p) : Rel K F ρ E B σ H := by
  refine r.lv (fun q u h z y => z (LvF.add_iff.mpr (.inl y))) (fun q h => ?_) (fun q ⟨i, c, h1, h2, h3⟩ z => (r.box i c q h1 h2 h3).2 (.inl z)) (fun q ⟨i, c, h1, h2⟩ z => ?_) (fun q u h z => ?_) (fun q u h => ?_)
  · have e := r.out q (.inl h)
    have ne : q ≠ p := fun z => n.out (z ▸ h)
    simpa [Fm.add, ne] using e
  · obtain ⟨_, p', h3, _, h4, _⟩ := r.own i c h1
    rw [h3] at h2
    have e : p' = q := by simpa using h2
    subst e
    exact h4 (.inl z)
  · have ne : q ≠ p := fun y => by rw [y, n.h0] at h; cases h
    have := r.old q u (by simp [Fm.add, ne, h]) (fun y => y.elim z ne)
    exact ⟨this.1, fun y => this.2 (LvF.add_iff.mpr (.inl y))⟩
  · have ne : q ≠ p := fun y => by rw [y, n.h0] at h; cases h
    exact r.grow q u (by simp [Fm.add, ne, h])
theorem Rel.notLv (r : Rel K (F.add p o) ρ E B σ H) (n : New F p) : ¬ LvF F ρ E B σ p := by
  rintro (h | ⟨i, c, h1, h2, h3⟩ | ⟨i, c, h1, h2⟩)
  · exact n.out h
  · exact (r.box i c p h1 h2 h3).2 (.inr rfl)
  · obtain ⟨_, p', h3, _, h4, _⟩ := r.own i c h1
    rw [h3] at h2
    have e : p' = p := by simpa using h2
    subst e
    exact h4 (.inr rfl)
theorem Rel.new (r : Rel K F ρ E B σ H) (hp : H p = none) : New F p := by
  refine ⟨fun z => ?_, ?_⟩
  · obtain ⟨e, o, h⟩ := r.out p z
    rw [e, h] at hp; cases hp
  · cases h : F.H0 p with
    | none => rfl
    | some o =>
      obtain ⟨o', h'⟩ := r.grow p o h
      rw [h'] at hp; cases hp
/-- a new thing is laid at p -/
theorem Rel.alloc {ob : HO} (r : Rel K F ρ E B σ H) (hp : H p = none) : Rel K (F.add p (some ob)) ρ E B σ (upd H p ob) := by
  have g : ∀ q o, H q = some o → (upd H p ob) q = some o := fun q o h => by rw [upd_ne (ne_of_none h hp)]; exact h
  have r' := r.growH g
  have nl : ¬ LvF F ρ E B σ p := fun z => by obtain ⟨o, h⟩ := r.lv_there p z; rw [hp] at h; cases h
  have nw := r.new hp
  have key : ∀ q, LvF F ρ E B σ q → q ≠ p := fun q h e => nl (e ▸ h)
  have s : ∀ q o, H q = some o → ¬ LvF F ρ E B σ q → ¬ LvF (F.add p (some ob)) ρ E B σ q := fun q o h n z => by
    rcases LvF.add_iff.mp z with z | z
    · exact n z
    · subst z; rw [hp] at h; cases h
  have stp : Stp H (LvF F ρ E B σ) (upd H p ob) (LvF (F.add p (some ob)) ρ E B σ) := fun q o h n => ⟨.inl (g q o h), s q o h n⟩
  have px : ρ <+: ρ := List.prefix_refl _
  have same : ∀ q, LvF F ρ E B σ q → (upd H p ob) q = H q := fun q h => upd_ne (key q h)
  refine ⟨r.elen, r.blen, fun i u h => ?_, fun i c h => ?_, r.oinj, fun i c q h1 h2 h3 => ?_, r.binj, fun q h => ?_, fun q u h z => ?_, fun q u h => ?_⟩
  · obtain ⟨v, h1, h2⟩ := r.val i u h
    exact ⟨v, h1, h2.mono stp px⟩
  · obtain ⟨h1, q, h2, h3, h4, h5⟩ := r.own i c h
    have lq : LvF F ρ E B σ q := .inr (.inr ⟨i, c, h, h2⟩)
    exact ⟨h1, q, h2, h3.mono stp px (same q lq), fun z => z.elim h4 (key q lq), h5⟩
  · obtain ⟨h4, h5⟩ := r.box i c q h1 h2 h3
    have lq : LvF F ρ E B σ q := .inr (.inl ⟨i, c, h1, h2, h3⟩)
    exact ⟨h4.mono stp px (same q lq), fun z => z.elim h5 (key q lq)⟩
  · rcases h with h | h
    · have ne : q ≠ p := fun z => nw.out (z ▸ h)
      obtain ⟨e, o, ho⟩ := r.out q h
      refine ⟨?_, o, by simp [Fm.add, ne, ho]⟩
      rw [upd_ne ne, e]; simp [Fm.add, ne]
    · subst h
      exact ⟨by rw [upd_same]; simp [Fm.add], ob, by simp [Fm.add]⟩
  · have ne : q ≠ p := fun y => z (.inr y)
    have h' : F.H0 q = some u := by simpa [Fm.add, ne] using h
    exact r.old.trans stp q u h' (fun y => z (.inl y))
  · by_cases e : q = p
    · subst e; exact ⟨ob, upd_same⟩
    · have h' : F.H0 q = some u := by simpa [Fm.add, e] using h
      obtain ⟨o', h1⟩ := r.grow q u h'
      exact ⟨o', g q o' h1⟩
end
end QB
/-! QbB: the judgements, results that come to rest, views. -/
namespace QB
open PySem L2

def Fm.addR (F : Fm) (H : Hp) : R → V → Fm
  | .fr _, .ref p => F.add p (H p)
  | _, _ => F
def IsSet (E : En) (i : Nat) : Prop := (∃ u, E[i]? = some (Sl.val u)) ∨ ∃ c, E[i]? = some (Sl.own c)
def EnLe (E E' : En) : Prop := ∀ i, IsSet E i → IsSet E' i
theorem EnLe.refl {E : En} : EnLe E E := fun _ h => h
theorem EnLe.trans {E E' E2 : En} (a : EnLe E E') (b : EnLe E' E2) : EnLe E E2 := fun i h => b i (a i h)
def RepR (K : PySem.W.Frag) (F : Fm) (H : Hp) (Lv : AS) (ρ : List Addr) (E : En) (σ : L2.St) : R → V → Prop
  | .w u, v => Rep K H Lv ρ u v
  | .s i, v => σ[i]? = some (some v) ∧ IsSet E i
  | .fr c, v => ∃ p, v = .ref p ∧ c.live = true ∧ CellOk K H Lv ρ c p ∧ New F p
structure Aft (K : PySem.W.Frag) (F : Fm) (ρ : List Addr) (E : En) (B : Bx) (σ : L2.St) (H : Hp) (r : R) (ρ' : List Addr) (E' : En) (B' : Bx) (H' : Hp) (v : V) : Prop where
  px : ρ <+: ρ'
  rel : Rel K (F.addR H' r v) ρ' E' B' σ H'
  stp : Stp H (LvF F ρ E B σ) H' (LvF (F.addR H' r v) ρ' E' B' σ)
  le : EnLe E E'
  rep : RepR K F H' (LvF (F.addR H' r v) ρ' E' B' σ) ρ' E' σ r v
structure AftT (K : PySem.W.Frag) (F : Fm) (ρ : List Addr) (E : En) (B : Bx) (σ : L2.St) (H : Hp) (ρ' : List Addr) (E' : En) (B' : Bx) (H' : Hp) : Prop where
  px : ρ <+: ρ'
  rel : Rel K F ρ' E' B' σ H'
  stp : Stp H (LvF F ρ E B σ) H' (LvF F ρ' E' B' σ)
  le : EnLe E E'
/-- what is wished of exceptions; where classes stand -/
structure Xq where
  W : WX
  mg : Str → Option Value
structure Cy extends Cx where
  W : WX
  tk : Takes toCx W
  po : PassesOwn (model toCx.prog toCx.w) toCx.A toCx.env toCx.xe
instance : CoeOut Cy Cx := ⟨Cy.toCx⟩
def Cy.q (X : Cy) : Xq := ⟨X.W, X.mg⟩
/-- the exception c as it flies: its class, its dict of one field -/
def ExcR (K : PySem.W.Frag) (F : Fm) (ρ : List Addr) (E : En) (B : Bx) (σ : L2.St) (H : Hp) (mg : Str → Option Value) (c : Exn) (cls : Value) (d : Option Addr) : Prop :=
  ∃ dx v, mg c.cls = some cls ∧ d = some dx ∧ H dx = some (.xd [("value", v)]) ∧ ¬ LvF F ρ E B σ dx ∧ Rep K H (LvF F ρ E B σ) ρ c.val v
def ExQ (K : PySem.W.Frag) (Y : Xq) (F : Fm) (ρ : List Addr) (c : Exn) (E' : En) (B' : Bx) : Prop :=
  ∀ ρ' σ' H' cls d, ρ <+: ρ' → Rel K F ρ' E' B' σ' H' → ExcR K F ρ' E' B' σ' H' Y.mg c cls d → Y.W cls d σ' H'
def PostE (K : PySem.W.Frag) (Y : Xq) (F : Fm) (ρ : List Addr) (E : En) (B : Bx) (σ : L2.St) (H : Hp) : O R → VK → Prop
  | .ok r E' B', Q => ∀ ρ' H' v, Aft K F ρ E B σ H r ρ' E' B' H' v → Q v H'
  | .ex c E' B', _ => ExQ K Y F ρ c E' B'
  | _, _ => False
def PostT (K : PySem.W.Frag) (Y : Xq) (F : Fm) (ρ : List Addr) (E : En) (B : Bx) (σ : L2.St) (H : Hp) : O Bool → (Bool → Hp → Prop) → Prop
  | .ok b E' B', Q => ∀ ρ' H', AftT K F ρ E B σ H ρ' E' B' H' → Q b H'
  | .ex c E' B', _ => ExQ K Y F ρ c E' B'
  | _, _ => False
abbrev Ex := En → Bx → O R
abbrev Te := En → Bx → O Bool
def SndE (X : Cy) (e : Expr) (f : Ex) : Prop := ∃ t : TE, PE X e t ∧ ∀ F ρ E B σ H Q, Rel X.K F ρ E B σ H → PostE X.K X.q F ρ E B σ H (f E B) Q → t σ H Q
def SndT (X : Cy) (e : Expr) (f : Te) : Prop := ∃ t : TT, PT X e t ∧ ∀ F ρ E B σ H Q, Rel X.K F ρ E B σ H → PostT X.K X.q F ρ E B σ H (f E B) Q → t σ H Q
def SndW (X : Cy) (e : Expr) (f : Te) : Prop := ∃ t : TT, PW X e t ∧ ∀ F ρ E B σ H Q, Rel X.K F ρ E B σ H → PostT X.K X.q F ρ E B σ H (f E B) Q → t σ H Q

/-! ### coming to rest -/
def settle (r : R) (E : En) : Option (U × En) :=
  match r with
  | .w u => some (u, E)
  | .fr c => some (c.toU, E)
  | .s i => match E[i]? with
    | some (.own c) => some (c.toU, E.set i (.val c.toU))
    | some (.val u) => some (u, E)
    | _ => none
section
variable {K : PySem.W.Frag} {F : Fm} {ρ ρ' : List Addr} {E E' : En} {B B' : Bx} {σ : L2.St} {H H' : Hp} {p : Addr} {v : V} {u : U} {r : R}
/-- an own thing in slot i comes to rest -/
theorem Rel.freeze {i : Nat} {c : Cell} (r : Rel K F ρ E B σ H) (h : E[i]? = some (.own c)) :
    Rel K F ρ (E.set i (.val c.toU)) B σ H ∧ Stp H (LvF F ρ E B σ) H (LvF F ρ (E.set i (.val c.toU)) B σ) ∧ EnLe E (E.set i (.val c.toU)) ∧
      ∃ v, σ[i]? = some (some v) ∧ Rep K H (LvF F ρ (E.set i (.val c.toU)) B σ) ρ c.toU v := by
  obtain ⟨hl, p, hp, hc, ho, hb⟩ := r.own i c h
  have hi : i < E.length := (List.getElem?_eq_some_iff.mp h).1
  have px : ρ <+: ρ := List.prefix_refl _
  have ownSet : ∀ (j : Nat) (d : Cell), (E.set i (.val c.toU))[j]? = some (.own d) → E[j]? = some (.own d) ∧ j ≠ i := fun j d e => by
    by_cases hj : i = j
    · subst hj; rw [List.getElem?_set_self hi] at e; cases e
    · rw [List.getElem?_set_ne hj] at e; exact ⟨e, fun z => hj z.symm⟩
  have less : ∀ q, LvF F ρ (E.set i (.val c.toU)) B σ q → LvF F ρ E B σ q := fun q z => by
    rcases z with z | z | ⟨j, d, h1, h2⟩
    · exact .inl z
    · exact .inr (.inl z)
    · exact .inr (.inr ⟨j, d, (ownSet j d h1).1, h2⟩)
  have nl : ¬ LvF F ρ (E.set i (.val c.toU)) B σ p := by
    rintro (z | z | ⟨j, d, h1, h2⟩)
    · exact ho z
    · exact hb z
    · obtain ⟨h3, h4⟩ := ownSet j d h1
      exact h4 (r.oinj j i d c p h3 h h2 hp)
  have s : Stp H (LvF F ρ E B σ) H (LvF F ρ (E.set i (.val c.toU)) B σ) := Stp.less less
  have hrep : Rep K H (LvF F ρ (E.set i (.val c.toU)) B σ) ρ c.toU (.ref p) := (hc.mono s px rfl).rep hl nl
  refine ⟨⟨by rw [List.length_set]; exact r.elen, r.blen, fun j u e => ?_, fun j d e => ?_, fun j k d f q e1 e2 e3 e4 => ?_, fun j d q e1 e2 e3 => ?_, r.binj, r.out, r.old.trans s, r.grow⟩, s, fun j hj => ?_, .ref p, hp, hrep⟩
  · by_cases hj : i = j
    · subst hj; rw [List.getElem?_set_self hi] at e; cases e; exact ⟨_, hp, hrep⟩
    · rw [List.getElem?_set_ne hj] at e
      obtain ⟨w, h1, h2⟩ := r.val j u e
      exact ⟨w, h1, h2.mono s px⟩
  · obtain ⟨h1, h2, q, h3, h4, h5⟩ := And.intro (ownSet j d e) (r.own j d (ownSet j d e).1)
    exact ⟨h2, q, h3, h4.mono s px rfl, h5⟩
  · exact r.oinj j k d f q (ownSet j d e1).1 (ownSet k f e2).1 e3 e4
  · obtain ⟨h4, h5⟩ := r.box j d q e1 e2 e3
    exact ⟨h4.mono s px rfl, h5⟩
  · by_cases e : i = j
    · subst e; exact .inl ⟨_, List.getElem?_set_self hi⟩
    · unfold IsSet; rw [List.getElem?_set_ne e]; exact hj
theorem settle_ok {E' : En} (rl : Rel K (F.addR H r v) ρ E B σ H) (rr : RepR K F H (LvF (F.addR H r v) ρ E B σ) ρ E σ r v) (h : settle r E = some (u, E')) :
    Rel K F ρ E' B σ H ∧ Stp H (LvF (F.addR H r v) ρ E B σ) H (LvF F ρ E' B σ) ∧ EnLe E E' ∧ Rep K H (LvF F ρ E' B σ) ρ u v := by
  cases r with
  | w x =>
    simp only [settle, Option.some.injEq, Prod.mk.injEq] at h
    obtain ⟨rfl, rfl⟩ := h
    exact ⟨rl, Stp.refl, EnLe.refl, rr⟩
  | fr c =>
    simp only [settle, Option.some.injEq, Prod.mk.injEq] at h
    obtain ⟨rfl, rfl⟩ := h
    obtain ⟨p, rfl, hl, hc, hn⟩ := rr
    have r2 := Rel.drop rl hn
    have s : Stp H (LvF (F.addR H (.fr c) (.ref p)) ρ E B σ) H (LvF F ρ E B σ) := Stp.less fun q z => LvF.add_iff.mpr (.inl z)
    exact ⟨r2, s, EnLe.refl, (hc.mono s (List.prefix_refl _) rfl).rep hl (Rel.notLv rl hn)⟩
  | s i =>
    simp only [settle] at h
    split at h
    · next c hc =>
      cases h
      obtain ⟨h1, h2, h3, w, h4, h5⟩ := Rel.freeze (show Rel K F ρ E B σ H from rl) hc
      have e : w = v := by
        have := rr.1
        rw [h4] at this
        simpa using this
      subst e
      exact ⟨h1, h2, h3, h5⟩
    · next x hx =>
      cases h
      obtain ⟨w, h4, h5⟩ := (show Rel K F ρ E B σ H from rl).val i _ hx
      have e : w = v := by
        have := rr.1
        rw [h4] at this
        simpa using this
      subst e
      exact ⟨rl, Stp.refl, EnLe.refl, h5⟩
    · cases h

/-! ### views: what a value holds right now -/
def Cell.view : Cell → Option U
  | .dead => none
  | .lst xs => some (.lst xs)
  | .dct ks vs => some (.dct ks vs)
def viewU (u : U) (B : Bx) : Option U :=
  match u with
  | .box i => (B[i]?).bind Cell.view
  | u => some u
def view (r : R) (E : En) (B : Bx) : Option U :=
  match r with
  | .w u => viewU u B
  | .fr c => c.view
  | .s i => match E[i]? with
    | some (.own c) => c.view
    | some (.val u) => viewU u B
    | _ => none
/-- v holds u right now -/
def Top (K : PySem.W.Frag) (H : Hp) (Lv : AS) (ρ : List Addr) : U → V → Prop
  | .lst us, v => ∃ p vs, v = .ref p ∧ H p = some (.lst vs) ∧ Reps K H Lv ρ us vs
  | .tup us, v => ∃ p vs, v = .ref p ∧ ((Rd H p (.tup vs) ∧ ¬ Lv p) ∨ KT K p vs) ∧ Reps K H Lv ρ us vs
  | .dct ks us, v => ∃ p kvs, v = .ref p ∧ Rd H p (.dK kvs) ∧ kvs.map (·.1) = ks ∧ Reps K H Lv ρ us (kvs.map (·.2))
  | .box _, _ => False
  | u, v => Rep K H Lv ρ u v
theorem sqL_of {Lv : AS} {p : Addr} {vs : List V} (h : (Rd H p (.lst vs) ∧ ¬ Lv p) ∨ KL K p vs) : SqL K H p vs := by
  rcases h with h | h
  · exact .inl h.1
  · exact .inr h
theorem sqT_of {Lv : AS} {p : Addr} {vs : List V} (h : (Rd H p (.tup vs) ∧ ¬ Lv p) ∨ KT K p vs) : SqT K H p vs := by
  rcases h with h | h
  · exact .inl h.1
  · exact .inr h
theorem Rep.top {Lv : AS} (h : Rep K H Lv ρ u v) (hb : ∀ i, u ≠ .box i) : Top K H Lv ρ u v := by
  cases u with
  | lst us =>
    simp only [Rep] at h
    obtain ⟨p, vs, e, h1, h2⟩ := h
    exact ⟨p, vs, e, h1.1, h2⟩
  | tup us =>
    simp only [Rep] at h
    obtain ⟨p, vs, e, h1, h2⟩ := h
    exact ⟨p, vs, e, h1, h2⟩
  | dct ks us =>
    simp only [Rep] at h
    obtain ⟨p, kvs, e, h1, _, h2⟩ := h
    exact ⟨p, kvs, e, h1, h2⟩
  | box i => exact absurd rfl (hb i)
  | non => exact h
  | bl _ => exact h
  | int _ => exact h
  | str _ => exact h
  | scr _ => exact h
theorem CellOk.top {Lv : AS} {c : Cell} (hc : CellOk K H Lv ρ c p) (h : c.view = some u) : Top K H Lv ρ u (.ref p) := by
  cases c with
  | dead => cases h
  | lst us => cases h; obtain ⟨vs, h1, h2⟩ := hc; exact ⟨p, vs, rfl, h1, h2⟩
  | dct ks us => cases h; obtain ⟨kvs, h1, h2, h3⟩ := hc; exact ⟨p, kvs, rfl, .inl h1, h2, h3⟩
theorem viewU_top (rl : Rel K F ρ E B σ H) {Lv : AS} (hL : Lv = LvF F ρ E B σ) {w : U} (h : Rep K H Lv ρ w v) (e : viewU w B = some u) : Top K H Lv ρ u v := by
  subst hL
  by_cases hb : ∃ i, w = .box i
  · obtain ⟨i, rfl⟩ := hb
    simp only [viewU] at e
    simp only [Rep] at h
    obtain ⟨p, hp, rfl⟩ := h
    cases hB : B[i]? with
    | none => rw [hB] at e; cases e
    | some c =>
      rw [hB] at e
      have e' : c.view = some u := e
      have hl : c.live = true := by cases c <;> first | rfl | cases e'
      exact (rl.box i c p hB hl hp).1.top e'
  · have e' : w = u := by
      cases w <;> first | (exact absurd ⟨_, rfl⟩ hb) | (simp only [viewU, Option.some.injEq] at e; exact e)
    subst e'
    exact h.top fun i z => hb ⟨i, z⟩
theorem view_top (rl : Rel K (F.addR H r v) ρ E B σ H) (rr : RepR K F H (LvF (F.addR H r v) ρ E B σ) ρ E σ r v) (h : view r E B = some u) : Top K H (LvF (F.addR H r v) ρ E B σ) ρ u v := by
  cases r with
  | w x => exact viewU_top rl rfl rr h
  | fr c => obtain ⟨p, rfl, hl, hc, hn⟩ := rr; exact hc.top h
  | s i =>
    simp only [view] at h
    split at h
    · next c hc =>
      obtain ⟨hl, p, h1, h2, _⟩ := (show Rel K F ρ E B σ H from rl).own i c hc
      have e : v = .ref p := by
        have := rr.1
        rw [h1] at this
        simpa using this.symm
      subst e
      exact h2.top h
    · next x hx =>
      obtain ⟨w, h4, h5⟩ := (show Rel K F ρ E B σ H from rl).val i _ hx
      have e : w = v := by
        have := rr.1
        rw [h4] at this
        simpa using this
      subst e
      exact viewU_top (show Rel K F ρ E B σ H from rl) rfl h5 h
    · cases h
theorem Top.mono {Lv Lv' : AS} (s : Stp H Lv H Lv') (h : Top K H Lv ρ u v) : Top K H Lv' ρ u v := by
  have px : ρ <+: ρ := List.prefix_refl _
  cases u with
  | lst us => obtain ⟨p, vs, e, h1, h2⟩ := h; exact ⟨p, vs, e, h1, h2.mono s px⟩
  | tup us => exact (show Top K H Lv' ρ (.tup us) v by have := Rep.mono s px (.tup us) v (by simp only [Rep]; exact h); simp only [Rep] at this; exact this)
  | dct ks us => obtain ⟨p, kvs, e, h1, h2, h3⟩ := h; exact ⟨p, kvs, e, h1, h2, h3.mono s px⟩
  | box i => exact h.elim
  | non => exact h
  | bl _ => exact h
  | int _ => exact h
  | str _ => exact h
  | scr _ => exact Rep.mono s px _ _ h
/-! ### letting go of a result -/
theorem addR_lv {q : Addr} (h : LvF F ρ E B σ q) : LvF (F.addR H r v) ρ E B σ q := by
  cases r with
  | fr c =>
    cases v <;> first | exact h | exact LvF.add_iff.mpr (.inl h)
  | w _ => exact h
  | s _ => exact h
theorem Aft.letgo (a : Aft K F ρ E B σ H r ρ' E' B' H' v) : AftT K F ρ E B σ H ρ' E' B' H' := by
  have rl : Rel K F ρ' E' B' σ H' := by
    have r0 := a.rel
    cases r with
    | w _ => exact r0
    | s _ => exact r0
    | fr c =>
      have rr := a.rep
      obtain ⟨p, rfl, _, _, hn⟩ := rr
      exact Rel.drop r0 hn
  exact ⟨a.px, rl, a.stp.trans (Stp.less fun q z => addR_lv z), a.le⟩
theorem Aft.top (a : Aft K F ρ E B σ H r ρ' E' B' H' v) (h : view r E' B' = some u) : Top K H' (LvF F ρ' E' B' σ) ρ' u v :=
  (view_top a.rel a.rep h).mono (Stp.less fun q z => addR_lv z)
theorem ExQ.px {Y : Xq} {c : Exn} (h : ExQ K Y F ρ c E' B') (e : ρ <+: ρ') : ExQ K Y F ρ' c E' B' := fun ρ2 σ' H' cls d px rl x => h ρ2 σ' H' cls d (e.trans px) rl x
theorem ExQ.drop {Y : Xq} {c : Exn} {E2 : En} {B2 : Bx} {o : Option HO} (h : ExQ K Y F ρ c E2 B2) (n : New F p) : ExQ K Y (F.add p o) ρ c E2 B2 := fun ρ2 σ' H' cls d px rl x => by
  obtain ⟨dx, w, h1, h2, h3, h4, h5⟩ := x
  exact h ρ2 σ' H' cls d px (Rel.drop rl n) ⟨dx, w, h1, h2, h3, fun z => h4 (LvF.add_iff.mpr (.inl z)), Rep.mono (Stp.less fun q z => LvF.add_iff.mpr (.inl z)) (List.prefix_refl _) _ _ h5⟩
theorem Aft.exq {Y : Xq} {c : Exn} {E2 : En} {B2 : Bx} (a : Aft K F ρ E B σ H r ρ' E' B' H' v) (h : ExQ K Y F ρ c E2 B2) : ExQ K Y (F.addR H' r v) ρ' c E2 B2 := by
  have h1 := h.px a.px
  cases r with
  | w _ => exact h1
  | s _ => exact h1
  | fr _ =>
    obtain ⟨p, rfl, _, _, hn⟩ := a.rep
    exact h1.drop hn
theorem AftT.exq {Y : Xq} {c : Exn} {E2 : En} {B2 : Bx} (a : AftT K F ρ E B σ H ρ' E' B' H') (h : ExQ K Y F ρ c E2 B2) : ExQ K Y F ρ' c E2 B2 := h.px a.px
theorem AftT.refl (rl : Rel K F ρ E B σ H) : AftT K F ρ E B σ H ρ E B H := ⟨List.prefix_refl _, rl, Stp.refl, EnLe.refl⟩
theorem AftT.trans {ρ2 : List Addr} {E2 : En} {B2 : Bx} {H2 : Hp} (a : AftT K F ρ E B σ H ρ' E' B' H') (b : AftT K F ρ' E' B' σ H' ρ2 E2 B2 H2) : AftT K F ρ E B σ H ρ2 E2 B2 H2 :=
  ⟨a.px.trans b.px, b.rel, a.stp.trans b.stp, a.le.trans b.le⟩
theorem AftT.then {ρ2 : List Addr} {E2 : En} {B2 : Bx} {H2 : Hp} (a : AftT K F ρ E B σ H ρ' E' B' H') (b : Aft K F ρ' E' B' σ H' r ρ2 E2 B2 H2 v) : Aft K F ρ E B σ H r ρ2 E2 B2 H2 v :=
  ⟨a.px.trans b.px, b.rel, a.stp.trans b.stp, a.le.trans b.le, b.rep⟩
/-- a first result behind a second one -/
theorem Aft.carry {r1 : R} {v1 : V} {ρ1 ρ2 : List Addr} {E1 E2 : En} {B1 B2 : Bx} {H1 H2 : Hp} (a : Aft K F ρ E B σ H r1 ρ1 E1 B1 H1 v1) (b : AftT K (F.addR H1 r1 v1) ρ1 E1 B1 σ H1 ρ2 E2 B2 H2) :
    Aft K F ρ E B σ H r1 ρ2 E2 B2 H2 v1 := by
  have same : F.addR H2 r1 v1 = F.addR H1 r1 v1 := by
    cases r1 with
    | w _ => rfl
    | s _ => rfl
    | fr c =>
      obtain ⟨p, rfl, _, _, _⟩ := a.rep
      have := (b.rel.out p (.inr rfl)).1
      simp only [Fm.addR, Fm.add, if_pos] at this ⊢
      rw [this]
  refine ⟨a.px.trans b.px, by rw [same]; exact b.rel, by rw [same]; exact a.stp.trans b.stp, a.le.trans b.le, ?_⟩
  rw [same]
  have rr := a.rep
  cases r1 with
  | w x => exact Rep.mono b.stp b.px x v1 rr
  | s i => exact ⟨rr.1, b.le i rr.2⟩
  | fr c =>
    obtain ⟨p, rfl, hl, hc, hn⟩ := rr
    refine ⟨p, rfl, hl, hc.mono b.stp b.px ?_, hn⟩
    have := (b.rel.out p (.inr rfl)).1
    simpa [Fm.addR, Fm.add] using this
/-! ### results of plain operations -/
theorem Aft.val {x : U} (rl : Rel K F ρ E B σ H) (h : Rep K H (LvF F ρ E B σ) ρ x v) : Aft K F ρ E B σ H (.w x) ρ E B H v := ⟨List.prefix_refl _, rl, Stp.refl, EnLe.refl, h⟩
theorem Aft.fresh {us : List U} {vs : List V} (rl : Rel K F ρ E B σ H) (hp : H p = none) (h : Reps K H (LvF F ρ E B σ) ρ us vs) : Aft K F ρ E B σ H (.fr (.lst us)) ρ E B (upd H p (.lst vs)) (.ref p) := by
  have e : F.addR (upd H p (.lst vs)) (.fr (.lst us)) (.ref p) = F.add p (some (.lst vs)) := by simp only [Fm.addR, upd_same]
  have r2 := rl.alloc (ob := .lst vs) hp
  have nl : ∀ q o, H q = some o → ¬ LvF F ρ E B σ q → ¬ LvF (F.add p (some (.lst vs))) ρ E B σ q := fun q o h n z => by
    rcases LvF.add_iff.mp z with z | z
    · exact n z
    · subst z; rw [hp] at h; cases h
  have s : Stp H (LvF F ρ E B σ) (upd H p (.lst vs)) (LvF (F.add p (some (.lst vs))) ρ E B σ) := fun q o h n => ⟨.inl (by rw [upd_ne (ne_of_none h hp)]; exact h), nl q o h n⟩
  refine ⟨List.prefix_refl _, by rw [e]; exact r2, by rw [e]; exact s, EnLe.refl, ?_⟩
  rw [e]
  exact ⟨p, rfl, rfl, ⟨vs, upd_same, h.mono s (List.prefix_refl _)⟩, rl.new hp⟩
theorem Aft.freshD {ks : List Key} {us : List U} {kvs : List (Key × V)} (rl : Rel K F ρ E B σ H) (hp : H p = none) (hk : kvs.map (·.1) = ks) (h : Reps K H (LvF F ρ E B σ) ρ us (kvs.map (·.2))) : Aft K F ρ E B σ H (.fr (.dct ks us)) ρ E B (upd H p (.dK kvs)) (.ref p) := by
  have e : F.addR (upd H p (.dK kvs)) (.fr (.dct ks us)) (.ref p) = F.add p (some (.dK kvs)) := by simp only [Fm.addR, upd_same]
  have r2 := rl.alloc (ob := .dK kvs) hp
  have nl : ∀ q o, H q = some o → ¬ LvF F ρ E B σ q → ¬ LvF (F.add p (some (.dK kvs))) ρ E B σ q := fun q o h n z => by
    rcases LvF.add_iff.mp z with z | z
    · exact n z
    · subst z; rw [hp] at h; cases h
  have s : Stp H (LvF F ρ E B σ) (upd H p (.dK kvs)) (LvF (F.add p (some (.dK kvs))) ρ E B σ) := fun q o h n => ⟨.inl (by rw [upd_ne (ne_of_none h hp)]; exact h), nl q o h n⟩
  refine ⟨List.prefix_refl _, by rw [e]; exact r2, by rw [e]; exact s, EnLe.refl, ?_⟩
  rw [e]
  exact ⟨p, rfl, rfl, ⟨kvs, upd_same, hk, h.mono s (List.prefix_refl _)⟩, rl.new hp⟩
theorem Aft.tuple {us : List U} {vs : List V} (rl : Rel K F ρ E B σ H) (hp : H p = none) (h : Reps K H (LvF F ρ E B σ) ρ us vs) : Aft K F ρ E B σ H (.w (.tup us)) ρ E B (upd H p (.tup vs)) (.ref p) := by
  have g : ∀ q o, H q = some o → (upd H p (.tup vs)) q = some o := fun q o h => by rw [upd_ne (ne_of_none h hp)]; exact h
  have r2 := rl.growH g
  have s := grow_stp rl g
  refine ⟨List.prefix_refl _, r2, s, EnLe.refl, ?_⟩
  show Rep K _ _ _ (.tup us) _
  simp only [Rep]
  exact ⟨p, vs, rfl, .inl ⟨.inl upd_same, fun z => by obtain ⟨o, h⟩ := rl.lv_there p z; rw [hp] at h; cases h⟩, h.mono s (List.prefix_refl _)⟩
end
end QB
/-! QbC: expressions. -/
namespace QB
open PySem L2

def O.bind {α β : Type} (o : O α) (k : α → En → Bx → O β) : O β :=
  match o with
  | .ok a E B => k a E B
  | .ex c E B => .ex c E B
  | .bad => .bad
@[simp] theorem O.bind_ok {α β : Type} {a : α} {E : En} {B : Bx} {k : α → En → Bx → O β} : (O.ok a E B).bind k = k a E B := rfl
@[simp] theorem O.bind_bad {α β : Type} {k : α → En → Bx → O β} : (O.bad : O α).bind k = .bad := rfl
@[simp] theorem O.bind_ex {α β : Type} {c : Exn} {E : En} {B : Bx} {k : α → En → Bx → O β} : (O.ex c E B).bind k = .ex c E B := rfl

/-- .. where no exception may come (a comprehension's block) -/
def O.bindN {α β : Type} (o : O α) (k : α → En → Bx → O β) : O β :=
  match o with
  | .ok a E B => k a E B
  | _ => .bad
@[simp] theorem O.bindN_ok {α β : Type} {a : α} {E : En} {B : Bx} {k : α → En → Bx → O β} : (O.ok a E B).bindN k = k a E B := rfl
@[simp] theorem O.bindN_bad {α β : Type} {k : α → En → Bx → O β} : (O.bad : O α).bindN k = .bad := rfl
@[simp] theorem O.bindN_ex {α β : Type} {c : Exn} {E : En} {B : Bx} {k : α → En → Bx → O β} : (O.ex c E B : O α).bindN k = .bad := rfl

def mVar (i : Nat) : Ex := fun E B =>
  match E[i]? with
  | some (.val u) => .ok (.w u) E B
  | some (.own _) => .ok (.s i) E B
  | _ => .bad
def mC (u : U) : Ex := fun E B => .ok (.w u) E B
def m2 (g : U → U → Option R) (fa fb : Ex) : Ex := fun E B =>
  (fa E B).bind fun r1 E1 B1 => (fb E1 B1).bind fun r2 E2 B2 =>
    match view r1 E2 B2, view r2 E2 B2 with
    | some u1, some u2 => match g u1 u2 with
      | some r => .ok r E2 B2
      | none => .bad
    | _, _ => .bad
def m1 (g : U → Option R) (fa : Ex) : Ex := fun E B =>
  (fa E B).bind fun r1 E1 B1 =>
    match view r1 E1 B1 with
    | some u1 => match g u1 with
      | some r => .ok r E1 B1
      | none => .bad
    | none => .bad
/-- a result as a test -/
def toT (f : Ex) : Te := fun E B => (f E B).bind fun r E1 B1 =>
  match r with
  | .w (.bl b) => .ok b E1 B1
  | _ => .bad
def truU : U → Option Bool
  | .non => some false
  | .bl b => some b
  | .int i => some (i != 0)
  | .str y => if y.length ≤ 16777216 then some ((y.length : Int) != 0) else none
  | .lst us => some (!us.isEmpty)
  | .tup us => some (!us.isEmpty)
  | .dct _ _ => none
  | .box _ => none
  | .scr ns => some (!ns.isEmpty)
def mTru (f : Ex) : Te := fun E B => (f E B).bind fun r E1 B1 =>
  match view r E1 B1 with
  | some u => match truU u with
    | some b => .ok b E1 B1
    | none => .bad
  | none => .bad
def mAnd (f g : Te) : Te := fun E B => (f E B).bind fun b E1 B1 => if b = true then g E1 B1 else .ok false E1 B1
def mOr (f g : Te) : Te := fun E B => (f E B).bind fun b E1 B1 => if b = true then .ok true E1 B1 else g E1 B1
def mNot (f : Te) : Te := fun E B => (f E B).bind fun b E1 B1 => .ok (!b) E1 B1
def mAndV (f g : Ex) : Ex := fun E B => (toT f E B).bind fun b E1 B1 => if b = true then g E1 B1 else .ok (.w (.bl false)) E1 B1
def mOrV (f g : Ex) : Ex := fun E B => (toT f E B).bind fun b E1 B1 => if b = true then .ok (.w (.bl true)) E1 B1 else g E1 B1
def mNotV (f : Ex) : Ex := fun E B => (toT f E B).bind fun b E1 B1 => .ok (.w (.bl (!b))) E1 B1
def mIf (t : Te) (f g : Ex) : Ex := fun E B => (t E B).bind fun b E1 B1 => if b = true then f E1 B1 else g E1 B1
/-- a new thing becomes a box -/
def mBox (f : Ex) : Ex := fun E B => (f E B).bind fun r E1 B1 =>
  match r with
  | .fr c => .ok (.w (.box B1.length)) E1 (B1 ++ [c])
  | _ => .bad

section
variable {X : Cy} {a b c e : Expr} {es : List Expr} {fa fb : Ex} {ft fu : Te} {pos p : Pos} {x : Str}

theorem AftT.thenT {K : PySem.W.Frag} {F : Fm} {ρ ρ' ρ2 : List Addr} {E E' E2 : En} {B B' B2 : Bx} {σ : L2.St} {H H' H2 : Hp} (a : AftT K F ρ E B σ H ρ' E' B' H') (b : AftT K F ρ' E' B' σ H' ρ2 E2 B2 H2) : AftT K F ρ E B σ H ρ2 E2 B2 H2 := a.trans b

theorem sndE_var (i : Nat) (hN : X.N[i]? = some x := by rfl) (hv : Vis X.env.scope x := by first | exact Or.inl rfl | exact Or.inr (Or.inl rfl) | exact Or.inr (Or.inr rfl)) (hd : (x == ("__debug__" : Str)) = false := by decide)
    (hcd : (x == ("__classdict__" : Str)) = false := by decide) : SndE X (.Name x pos) (mVar i) := by
  refine ⟨_, pe_var hN hv hd hcd, fun F ρ E B σ H Q rl h => ?_⟩
  simp only [mVar] at h
  split at h
  · next u hu =>
    obtain ⟨v, h1, h2⟩ := rl.val i u hu
    exact ⟨v, h1, h ρ H v (Aft.val rl h2)⟩
  · next c hc =>
    obtain ⟨_, q, h1, _⟩ := rl.own i c hc
    exact ⟨_, h1, h ρ H _ ⟨List.prefix_refl _, rl, Stp.refl, EnLe.refl, h1, .inr ⟨c, hc⟩⟩⟩
  · exact h.elim
theorem sndE_int {i j} : SndE X (.Constant (.int i) j pos) (mC (.int i)) := ⟨_, pe_int, fun F ρ E B σ H Q rl h => h ρ H _ (Aft.val rl (by simp [Rep]))⟩
theorem sndE_bl {i j} : SndE X (.Constant (.bool i) j pos) (mC (.bl i)) := ⟨_, pe_bl, fun F ρ E B σ H Q rl h => h ρ H _ (Aft.val rl (by simp [Rep]))⟩
theorem sndE_str {i j} : SndE X (.Constant (.str i) j pos) (mC (.str i)) := ⟨_, pe_str, fun F ρ E B σ H Q rl h => h ρ H _ (Aft.val rl (by simp [Rep]))⟩
theorem sndE_non {j} : SndE X (.Constant .none j pos) (mC .non) := ⟨_, pe_non, fun F ρ E B σ H Q rl h => h ρ H _ (Aft.val rl (by simp [Rep]))⟩
/-- a text of the module's top -/
theorem sndE_gstr {u : Value} {z : Str} (hm : X.mg x = some u) (hu : ∃ t, u = Value.str z t) (hg : Gl X x := by rfl) (hd : (x == ("__debug__" : Str)) = false := by decide) : SndE X (.Name x pos) (mC (.str z)) :=
  ⟨_, pe_glob (v := .str z) hg hm hu hd, fun F ρ E B σ H Q rl h => h ρ H _ (Aft.val rl (by simp [Rep]))⟩
/-- a thing of the module's top that stands for a tree whatever the heap is -/
theorem sndE_gtree {p : Addr} {u : U} (hm : X.mg x = some (.ref p)) (hu : ∀ H Lv ρ, Rep X.K H Lv ρ u (.ref p)) (hg : Gl X x := by rfl) (hd : (x == ("__debug__" : Str)) = false := by decide) : SndE X (.Name x pos) (mC u) :=
  ⟨_, pe_glob (v := .ref p) hg hm rfl hd, fun F ρ E B σ H Q rl h => h ρ H _ (Aft.val rl (hu _ _ _))⟩

/-! ### operators -/
def Op2S (X : Cy) (op : Value → Value → Sem Value) (g : U → U → Option R) : Prop :=
  ∃ r : R2, OpR X op r ∧ ∀ F ρ E B σ H u1 u2 v1 v2 r3 Q, Rel X.K F ρ E B σ H → Top X.K H (LvF F ρ E B σ) ρ u1 v1 → Top X.K H (LvF F ρ E B σ) ρ u2 v2 → g u1 u2 = some r3 →
    (∀ H' v, Aft X.K F ρ E B σ H r3 ρ E B H' v → Q v H') → r v1 v2 H Q
theorem Op2S.or {op : Value → Value → Sem Value} {g g' : U → U → Option R} (h : Op2S X op g) (h' : Op2S X op g') : Op2S X op (fun a b => (g a b).or (g' a b)) := by
  obtain ⟨r, h1, h2⟩ := h
  obtain ⟨r', h1', h2'⟩ := h'
  refine ⟨_, h1.or h1', fun F ρ E B σ H u1 u2 v1 v2 r3 Q rl t1 t2 e q => ?_⟩
  cases hg : g u1 u2 with
  | some y =>
    simp only [hg, Option.some_or, Option.some.injEq] at e
    subst e
    exact .inl (h2 F ρ E B σ H u1 u2 v1 v2 _ Q rl t1 t2 hg q)
  | none =>
    simp only [hg, Option.none_or] at e
    exact .inr (h2' F ρ E B σ H u1 u2 v1 v2 _ Q rl t1 t2 e q)
theorem m2_ok {f : Value → Value → Sem Value} {g : U → U → Option R} {r : R2} {ta tb : TE}
    (ho : ∀ F ρ E B σ H u1 u2 v1 v2 r3 Q, Rel X.K F ρ E B σ H → Top X.K H (LvF F ρ E B σ) ρ u1 v1 → Top X.K H (LvF F ρ E B σ) ρ u2 v2 → g u1 u2 = some r3 → (∀ H' v, Aft X.K F ρ E B σ H r3 ρ E B H' v → Q v H') → r v1 v2 H Q)
    (ha : ∀ F ρ E B σ H Q, Rel X.K F ρ E B σ H → PostE X.K X.q F ρ E B σ H (fa E B) Q → ta σ H Q) (hb : ∀ F ρ E B σ H Q, Rel X.K F ρ E B σ H → PostE X.K X.q F ρ E B σ H (fb E B) Q → tb σ H Q) :
    ∀ F ρ E B σ H Q, Rel X.K F ρ E B σ H → PostE X.K X.q F ρ E B σ H (m2 g fa fb E B) Q → tOp r ta tb σ H Q := by
  intro F ρ E B σ H Q rl h
  refine ha F ρ E B σ H _ rl ?_
  simp only [m2] at h
  cases h1 : fa E B with
  | bad => rw [h1] at h; exact h
  | ex c E' B' => rw [h1] at h ; first | exact h | exact Aft.exq (by assumption) h | exact AftT.exq (by assumption) h | exact Aft.exq (by assumption) (Aft.exq (by assumption) h) | exact AftT.exq (by assumption) (Aft.exq (by assumption) h)
  | ok r1 E1 B1 =>
    rw [h1] at h
    intro ρ1 H1 v1 A1
    refine hb _ ρ1 E1 B1 σ H1 _ A1.rel ?_
    simp only [O.bind_ok] at h
    cases h2 : fb E1 B1 with
    | bad => rw [h2] at h; exact h
    | ex c E' B' => rw [h2] at h ; first | exact h | exact Aft.exq (by assumption) h | exact AftT.exq (by assumption) h | exact Aft.exq (by assumption) (Aft.exq (by assumption) h) | exact AftT.exq (by assumption) (Aft.exq (by assumption) h)
    | ok r2 E2 B2 =>
      rw [h2] at h
      simp only [O.bind_ok] at h
      intro ρ2 H2 v2 A2
      have A2' := A2.letgo
      have A1' := A1.carry A2'
      have T1 := A1'.letgo
      split at h
      · next u1 u2 e1 e2 =>
        split at h
        · next r3 eg =>
          have t1 := A1'.top e1
          have t2 : Top X.K H2 (LvF F ρ2 E2 B2 σ) ρ2 u2 v2 := (A2.top e2).mono (Stp.less fun q z => addR_lv z)
          exact ho F ρ2 E2 B2 σ H2 u1 u2 v1 v2 r3 Q T1.rel t1 t2 eg fun H' v A3 => h ρ2 H' v (T1.then A3)
        · exact h.elim
      · exact h.elim
theorem sndE_op {op : Operator} {g : U → U → Option R} (ho : Op2S X (binaryOp op) g) (ha : SndE X a fa) (hb : SndE X b fb) : SndE X (.BinOp a op b pos) (m2 g fa fb) := by
  obtain ⟨r, hr, ho⟩ := ho
  obtain ⟨ta, pa, ha⟩ := ha
  obtain ⟨tb, pb, hb⟩ := hb
  exact ⟨_, pe_op hr pa pb, m2_ok (f := binaryOp op) ho ha hb⟩
theorem sndE_cmp {op : CmpOp} {g : U → U → Option R} (ho : Op2S X (compareOp op) g) (ha : SndE X a fa) (hb : SndE X b fb) (hm : behindInMarks op b = false := by first | rfl | exact nomark _) : SndE X (.Compare a [op] [b] pos) (m2 g fa fb) := by
  obtain ⟨r, hr, ho⟩ := ho
  obtain ⟨ta, pa, ha⟩ := ha
  obtain ⟨tb, pb, hb⟩ := hb
  exact ⟨_, pe_cmpR hr pa pb hm, m2_ok (f := compareOp op) ho ha hb⟩
/-- a test by a value that is a truth -/
theorem toT_ok {t : TE} (h : ∀ F ρ E B σ H Q, Rel X.K F ρ E B σ H → PostE X.K X.q F ρ E B σ H (fa E B) Q → t σ H Q) :
    ∀ F ρ E B σ H Q, Rel X.K F ρ E B σ H → PostT X.K X.q F ρ E B σ H (toT fa E B) Q → tTest t σ H Q := by
  intro F ρ E B σ H Q rl q
  refine h F ρ E B σ H _ rl ?_
  simp only [toT] at q
  cases h1 : fa E B with
  | bad => rw [h1] at q; exact q
  | ex c E' B' => rw [h1] at q ; first | exact q | exact Aft.exq (by assumption) q | exact AftT.exq (by assumption) q | exact Aft.exq (by assumption) (Aft.exq (by assumption) q) | exact AftT.exq (by assumption) (Aft.exq (by assumption) q)
  | ok r1 E1 B1 =>
    rw [h1] at q
    intro ρ1 H1 v1 A1
    simp only [O.bind_ok] at q
    split at q
    · next r b =>
      have rr := A1.rep
      simp only [RepR, Rep] at rr
      exact ⟨b, rr, q ρ1 H1 A1.letgo⟩
    · exact q.elim
theorem sndT_cmp {op : CmpOp} {g : U → U → Option R} (ho : Op2S X (compareOp op) g) (ha : SndE X a fa) (hb : SndE X b fb) (hm : behindInMarks op b = false := by first | rfl | exact nomark _) : SndT X (.Compare a [op] [b] pos) (toT (m2 g fa fb)) := by
  obtain ⟨r, hr, ho⟩ := ho
  obtain ⟨ta, pa, ha⟩ := ha
  obtain ⟨tb, pb, hb⟩ := hb
  exact ⟨_, pt_cmpR hr pa pb hm, toT_ok (m2_ok (f := compareOp op) ho ha hb)⟩
/-- truth of a value -/
theorem tru_top {K : PySem.W.Frag} {H : Hp} {Lv : AS} {ρ : List Addr} {u : U} {v : V} {k : Bool} (t : Top K H Lv ρ u v) (h : truU u = some k) : TruV K v H k := by
  cases u with
  | non => simp only [Top, Rep] at t; subst t; simp only [truU, Option.some.injEq] at h; exact h.symm
  | bl b => simp only [Top, Rep] at t; subst t; simp only [truU, Option.some.injEq] at h; exact h.symm
  | int i => simp only [Top, Rep] at t; subst t; simp only [truU, Option.some.injEq] at h; exact h.symm
  | str y =>
    simp only [Top, Rep] at t; subst t; simp only [truU] at h
    split at h
    · next hl => cases h; exact ⟨by rw [sizeLine_eq]; exact hl, rfl⟩
    · cases h
  | lst us =>
    obtain ⟨p, vs, rfl, h1, h2⟩ := t
    simp only [truU, Option.some.injEq] at h
    refine .inl ⟨vs, .inl (.inl h1), ?_⟩
    rw [← h]
    have := h2.len
    cases us <;> cases vs <;> simp_all
  | tup us =>
    obtain ⟨p, vs, rfl, h1, h2⟩ := t
    simp only [truU, Option.some.injEq] at h
    refine .inr (.inl ⟨vs, sqT_of h1, ?_⟩)
    rw [← h]
    have := h2.len
    cases us <;> cases vs <;> simp_all
  | dct ks us => simp [truU] at h
  | box i => exact t.elim
  | scr ns =>
    simp only [Top, Rep] at t
    obtain ⟨p, rfl, h1⟩ := t
    simp only [truU, Option.some.injEq] at h
    refine .inl ⟨_, sqL_of h1, ?_⟩
    rw [← h]
    cases ns <;> simp
theorem sndT_tru (ha : SndE X a fa) (he : ∀ whole, isTrue a X.env whole = (do let v ← whole; standAt a.pos; holding [v] (truthy v)) := by intro _; rfl) : SndT X a (mTru fa) := by
  obtain ⟨ta, pa, ha⟩ := ha
  refine ⟨_, pt_truth pa he, fun F ρ E B σ H Q rl q => ?_⟩
  refine ha F ρ E B σ H _ rl ?_
  simp only [mTru] at q
  cases h1 : fa E B with
  | bad => rw [h1] at q; exact q
  | ex c E' B' => rw [h1] at q ; first | exact q | exact Aft.exq (by assumption) q | exact AftT.exq (by assumption) q | exact Aft.exq (by assumption) (Aft.exq (by assumption) q) | exact AftT.exq (by assumption) (Aft.exq (by assumption) q)
  | ok r1 E1 B1 =>
    rw [h1] at q
    intro ρ1 H1 v1 A1
    simp only [O.bind_ok] at q
    split at q
    · next u e =>
      split at q
      · next k ek => exact ⟨k, tru_top (A1.top e) ek, q ρ1 H1 A1.letgo⟩
      · exact q.elim
    · exact q.elim
/-! ### and, or, not -/
theorem sndT_of (h : SndW X e ft) : SndT X e ft := by
  obtain ⟨t, h1, h2⟩ := h
  exact ⟨t, h1.pt, h2⟩
theorem sndW_and1 (h : SndT X a ft) : SndW X (.BoolOp .And [a] pos) ft := by
  obtain ⟨t, h1, h2⟩ := h
  exact ⟨t, pw_and1 h1, h2⟩
theorem sndW_or1 (h : SndT X a ft) : SndW X (.BoolOp .Or [a] pos) ft := by
  obtain ⟨t, h1, h2⟩ := h
  exact ⟨t, pw_or1 h1, h2⟩
theorem sndW_and {rest : List Expr} (ha : SndT X a ft) (hb : SndW X (.BoolOp .And (b :: rest) pos) fu) : SndW X (.BoolOp .And (a :: b :: rest) pos) (mAnd ft fu) := by
  obtain ⟨t, p1, ha⟩ := ha
  obtain ⟨u, p2, hb⟩ := hb
  refine ⟨_, pw_and p1 p2, fun F ρ E B σ H Q rl q => ?_⟩
  refine ha F ρ E B σ H _ rl ?_
  simp only [mAnd] at q
  cases h1 : ft E B with
  | bad => rw [h1] at q; exact q
  | ex c E' B' => rw [h1] at q ; first | exact q | exact Aft.exq (by assumption) q | exact AftT.exq (by assumption) q | exact Aft.exq (by assumption) (Aft.exq (by assumption) q) | exact AftT.exq (by assumption) (Aft.exq (by assumption) q)
  | ok b1 E1 B1 =>
    rw [h1] at q
    intro ρ1 H1 A1
    cases b1 with
    | true =>
      simp only [O.bind_ok, if_true] at q ⊢
      refine hb F ρ1 E1 B1 σ H1 _ A1.rel ?_
      cases h2 : fu E1 B1 with
      | bad => rw [h2] at q; exact q
      | ex c E' B' => rw [h2] at q ; first | exact q | exact Aft.exq (by assumption) q | exact AftT.exq (by assumption) q | exact Aft.exq (by assumption) (Aft.exq (by assumption) q) | exact AftT.exq (by assumption) (Aft.exq (by assumption) q)
      | ok b2 E2 B2 => rw [h2] at q; exact fun ρ2 H2 A2 => q ρ2 H2 (A1.trans A2)
    | false =>
      simp only [O.bind_ok, Bool.false_eq_true, if_false] at q ⊢
      exact q ρ1 H1 A1
theorem sndW_or {rest : List Expr} (ha : SndT X a ft) (hb : SndW X (.BoolOp .Or (b :: rest) pos) fu) : SndW X (.BoolOp .Or (a :: b :: rest) pos) (mOr ft fu) := by
  obtain ⟨t, p1, ha⟩ := ha
  obtain ⟨u, p2, hb⟩ := hb
  refine ⟨_, pw_or p1 p2, fun F ρ E B σ H Q rl q => ?_⟩
  refine ha F ρ E B σ H _ rl ?_
  simp only [mOr] at q
  cases h1 : ft E B with
  | bad => rw [h1] at q; exact q
  | ex c E' B' => rw [h1] at q ; first | exact q | exact Aft.exq (by assumption) q | exact AftT.exq (by assumption) q | exact Aft.exq (by assumption) (Aft.exq (by assumption) q) | exact AftT.exq (by assumption) (Aft.exq (by assumption) q)
  | ok b1 E1 B1 =>
    rw [h1] at q
    intro ρ1 H1 A1
    cases b1 with
    | false =>
      simp only [O.bind_ok, Bool.false_eq_true, if_false] at q ⊢
      refine hb F ρ1 E1 B1 σ H1 _ A1.rel ?_
      cases h2 : fu E1 B1 with
      | bad => rw [h2] at q; exact q
      | ex c E' B' => rw [h2] at q ; first | exact q | exact Aft.exq (by assumption) q | exact AftT.exq (by assumption) q | exact Aft.exq (by assumption) (Aft.exq (by assumption) q) | exact AftT.exq (by assumption) (Aft.exq (by assumption) q)
      | ok b2 E2 B2 => rw [h2] at q; exact fun ρ2 H2 A2 => q ρ2 H2 (A1.trans A2)
    | true =>
      simp only [O.bind_ok, if_true] at q ⊢
      exact q ρ1 H1 A1
theorem sndT_not (ha : SndT X a ft) : SndT X (.UnaryOp .Not a pos) (mNot ft) := by
  obtain ⟨t, p1, ha⟩ := ha
  refine ⟨_, pt_not p1, fun F ρ E B σ H Q rl q => ?_⟩
  refine ha F ρ E B σ H _ rl ?_
  simp only [mNot] at q
  cases h1 : ft E B with
  | bad => rw [h1] at q; exact q
  | ex c E' B' => rw [h1] at q ; first | exact q | exact Aft.exq (by assumption) q | exact AftT.exq (by assumption) q | exact Aft.exq (by assumption) (Aft.exq (by assumption) q) | exact AftT.exq (by assumption) (Aft.exq (by assumption) q)
  | ok b1 E1 B1 => rw [h1] at q; exact fun ρ1 H1 A1 => q ρ1 H1 A1
/-- .. as values -/
theorem toB_ok {t : TE} (h : ∀ F ρ E B σ H Q, Rel X.K F ρ E B σ H → PostE X.K X.q F ρ E B σ H (fa E B) Q → t σ H Q) {F : Fm} {ρ : List Addr} {E : En} {B : Bx} {σ : L2.St} {H : Hp} (rl : Rel X.K F ρ E B σ H)
    {Q : VK} (q : match toT fa E B with | .ok b E1 B1 => ∀ ρ1 H1, AftT X.K F ρ E B σ H ρ1 E1 B1 H1 → Q (.bl b) H1 | .ex c E' B' => ExQ X.K X.q F ρ c E' B' | .bad => False) : t σ H Q := by
  refine h F ρ E B σ H _ rl ?_
  simp only [toT] at q
  cases h1 : fa E B with
  | bad => rw [h1] at q; exact q
  | ex c E' B' => rw [h1] at q ; first | exact q | exact Aft.exq (by assumption) q | exact AftT.exq (by assumption) q | exact Aft.exq (by assumption) (Aft.exq (by assumption) q) | exact AftT.exq (by assumption) (Aft.exq (by assumption) q)
  | ok r1 E1 B1 =>
    rw [h1] at q
    intro ρ1 H1 v1 A1
    simp only [O.bind_ok] at q
    cases r1 with
    | w u =>
      cases u with
      | bl b =>
        have rr := A1.rep
        simp only [RepR, Rep] at rr
        rw [rr]
        exact q ρ1 H1 A1.letgo
      | _ => exact q.elim
    | _ => exact q.elim
theorem sndE_one {op} (h : SndE X a fa) : SndE X (.BoolOp op [a] pos) fa := by
  obtain ⟨t, h1, h2⟩ := h
  exact ⟨t, pe_one h1, h2⟩
theorem postE_then {K : PySem.W.Frag} {F : Fm} {ρ ρ1 : List Addr} {E E1 : En} {B B1 : Bx} {σ : L2.St} {H H1 : Hp} {Q : VK} {o : O R} (A : AftT K F ρ E B σ H ρ1 E1 B1 H1) (q : PostE K Y F ρ E B σ H o Q) : PostE K Y F ρ1 E1 B1 σ H1 o Q := by
  cases o with
  | bad => exact q
  | ex _ _ _ => exact ExQ.px q A.px
  | ok r E2 B2 => exact fun ρ2 H2 v A2 => q ρ2 H2 v (A.then A2)
theorem sndE_and {rest : List Expr} (ha : SndE X a fa) (hb : SndE X (.BoolOp .And (b :: rest) pos) fb) : SndE X (.BoolOp .And (a :: b :: rest) pos) (mAndV fa fb) := by
  obtain ⟨t, p1, ha⟩ := ha
  obtain ⟨u, p2, hb⟩ := hb
  refine ⟨_, pe_and p1 p2, fun F ρ E B σ H Q rl q => ?_⟩
  refine toB_ok ha rl ?_
  simp only [mAndV] at q
  cases h1 : toT fa E B with
  | bad => rw [h1] at q; exact q
  | ex c E' B' => rw [h1] at q ; first | exact q | exact Aft.exq (by assumption) q | exact AftT.exq (by assumption) q | exact Aft.exq (by assumption) (Aft.exq (by assumption) q) | exact AftT.exq (by assumption) (Aft.exq (by assumption) q)
  | ok b1 E1 B1 =>
    rw [h1] at q
    intro ρ1 H1 A1
    refine ⟨b1, rfl, ?_⟩
    cases b1 with
    | true =>
      simp only [O.bind_ok, if_true] at q ⊢
      exact hb F ρ1 E1 B1 σ H1 Q A1.rel (postE_then A1 q)
    | false =>
      simp only [O.bind_ok, Bool.false_eq_true, if_false] at q ⊢
      exact q ρ1 H1 _ (A1.then (Aft.val A1.rel (by simp [Rep])))
theorem sndE_or {rest : List Expr} (ha : SndE X a fa) (hb : SndE X (.BoolOp .Or (b :: rest) pos) fb) : SndE X (.BoolOp .Or (a :: b :: rest) pos) (mOrV fa fb) := by
  obtain ⟨t, p1, ha⟩ := ha
  obtain ⟨u, p2, hb⟩ := hb
  refine ⟨_, pe_or p1 p2, fun F ρ E B σ H Q rl q => ?_⟩
  refine toB_ok ha rl ?_
  simp only [mOrV] at q
  cases h1 : toT fa E B with
  | bad => rw [h1] at q; exact q
  | ex c E' B' => rw [h1] at q ; first | exact q | exact Aft.exq (by assumption) q | exact AftT.exq (by assumption) q | exact Aft.exq (by assumption) (Aft.exq (by assumption) q) | exact AftT.exq (by assumption) (Aft.exq (by assumption) q)
  | ok b1 E1 B1 =>
    rw [h1] at q
    intro ρ1 H1 A1
    refine ⟨b1, rfl, ?_⟩
    cases b1 with
    | false =>
      simp only [O.bind_ok, Bool.false_eq_true, if_false] at q ⊢
      exact hb F ρ1 E1 B1 σ H1 Q A1.rel (postE_then A1 q)
    | true =>
      simp only [O.bind_ok, if_true] at q ⊢
      exact q ρ1 H1 _ (A1.then (Aft.val A1.rel (by simp [Rep])))
theorem sndE_not (ha : SndE X a fa) : SndE X (.UnaryOp .Not a pos) (mNotV fa) := by
  obtain ⟨t, p1, ha⟩ := ha
  refine ⟨_, pe_not p1, fun F ρ E B σ H Q rl q => ?_⟩
  refine toB_ok ha rl ?_
  simp only [mNotV] at q
  cases h1 : toT fa E B with
  | bad => rw [h1] at q; exact q
  | ex c E' B' => rw [h1] at q ; first | exact q | exact Aft.exq (by assumption) q | exact AftT.exq (by assumption) q | exact Aft.exq (by assumption) (Aft.exq (by assumption) q) | exact AftT.exq (by assumption) (Aft.exq (by assumption) q)
  | ok b1 E1 B1 =>
    rw [h1] at q
    intro ρ1 H1 A1
    exact ⟨b1, rfl, q ρ1 H1 _ (A1.then (Aft.val A1.rel (by simp [Rep])))⟩
theorem sndE_if (ht : SndT X c ft) (ha : SndE X a fa) (hb : SndE X b fb) : SndE X (.IfExp c a b pos) (mIf ft fa fb) := by
  obtain ⟨t, p1, ht⟩ := ht
  obtain ⟨u, p2, ha⟩ := ha
  obtain ⟨u', p3, hb⟩ := hb
  refine ⟨_, pe_ifExp p1 p2 p3, fun F ρ E B σ H Q rl q => ?_⟩
  refine ht F ρ E B σ H _ rl ?_
  simp only [mIf] at q
  cases h1 : ft E B with
  | bad => rw [h1] at q; exact q
  | ex c E' B' => rw [h1] at q ; first | exact q | exact Aft.exq (by assumption) q | exact AftT.exq (by assumption) q | exact Aft.exq (by assumption) (Aft.exq (by assumption) q) | exact AftT.exq (by assumption) (Aft.exq (by assumption) q)
  | ok b1 E1 B1 =>
    rw [h1] at q
    intro ρ1 H1 A1
    cases b1 with
    | true =>
      simp only [O.bind_ok, if_true] at q ⊢
      exact ha F ρ1 E1 B1 σ H1 Q A1.rel (postE_then A1 q)
    | false =>
      simp only [O.bind_ok, Bool.false_eq_true, if_false] at q ⊢
      exact hb F ρ1 E1 B1 σ H1 Q A1.rel (postE_then A1 q)
/-! ### boxes -/
theorem Rel.push {K : PySem.W.Frag} {F : Fm} {ρ : List Addr} {E : En} {B : Bx} {σ : L2.St} {H : Hp} {p : Addr} {o : Option HO} {c : Cell} (r : Rel K (F.add p o) ρ E B σ H) (n : New F p) (hl : c.live = true) (hc : CellOk K H (LvF (F.add p o) ρ E B σ) ρ c p) :
    Rel K F (ρ ++ [p]) E (B ++ [c]) σ H ∧ (∀ q, LvF F (ρ ++ [p]) E (B ++ [c]) σ q ↔ LvF (F.add p o) ρ E B σ q) := by
  have bl := r.blen
  have blv : ∀ q, BLv (ρ ++ [p]) (B ++ [c]) q ↔ BLv ρ B q ∨ q = p := fun q => by
    constructor
    · rintro ⟨i, d, h1, h2, h3⟩
      by_cases hi : i < B.length
      · rw [List.getElem?_append_left hi] at h1
        rw [List.getElem?_append_left (by omega)] at h3
        exact .inl ⟨i, d, h1, h2, h3⟩
      · have hi2 : i = B.length := by
          have := (List.getElem?_eq_some_iff.mp h1).1
          simp at this; omega
        subst hi2
        rw [List.getElem?_append_right (by omega)] at h3
        simp [bl] at h3
        exact .inr h3.symm
    · rintro (⟨i, d, h1, h2, h3⟩ | rfl)
      · exact ⟨i, d, by rw [List.getElem?_append_left (List.getElem?_eq_some_iff.mp h1).1]; exact h1, h2, by rw [List.getElem?_append_left (List.getElem?_eq_some_iff.mp h3).1]; exact h3⟩
      · exact ⟨B.length, c, by simp, hl, by rw [← bl]; simp⟩
  have lv : ∀ q, LvF F (ρ ++ [p]) E (B ++ [c]) σ q ↔ LvF (F.add p o) ρ E B σ q := fun q => by
    rw [LvF.add_iff]
    unfold LvF
    rw [blv]
    constructor
    · rintro (h | (h | h) | h)
      · exact .inl (.inl h)
      · exact .inl (.inr (.inl h))
      · exact .inr h
      · exact .inl (.inr (.inr h))
    · rintro ((h | h | h) | h)
      · exact .inl h
      · exact .inr (.inl (.inl h))
      · exact .inr (.inr h)
      · exact .inr (.inl (.inr h))
  have s : Stp H (LvF (F.add p o) ρ E B σ) H (LvF F (ρ ++ [p]) E (B ++ [c]) σ) := Stp.less fun q z => (lv q).mp z
  have px : ρ <+: ρ ++ [p] := List.prefix_append _ _
  have nbp := Rel.notLv r n
  refine ⟨⟨r.elen, by simp [bl], fun i u h => ?_, fun i d h => ?_, r.oinj, fun i d q h1 h2 h3 => ?_, fun i j d d' q h1 h2 h3 h4 h5 h6 => ?_, fun q h => ?_, fun q u h z => ?_, fun q u h => ?_⟩, lv⟩
  · obtain ⟨v, h1, h2⟩ := r.val i u h
    exact ⟨v, h1, h2.mono s px⟩
  · obtain ⟨h1, q, h2, h3, h4, h5⟩ := r.own i d h
    exact ⟨h1, q, h2, h3.mono s px rfl, fun z => h4 (.inl z), fun z => ((blv q).mp z).elim h5 fun e => h4 (.inr e)⟩
  · by_cases hi : i < B.length
    · rw [List.getElem?_append_left hi] at h1
      rw [List.getElem?_append_left (by omega)] at h3
      obtain ⟨h4, h5⟩ := r.box i d q h1 h2 h3
      exact ⟨h4.mono s px rfl, fun z => h5 (.inl z)⟩
    · have hi2 : i = B.length := by
        have := (List.getElem?_eq_some_iff.mp h1).1
        simp at this; omega
      subst hi2
      rw [List.getElem?_append_right (by omega)] at h3
      simp [bl] at h3
      rw [List.getElem?_append_right (by omega)] at h1
      simp at h1
      subst h3 h1
      exact ⟨hc.mono s px rfl, n.out⟩
  · have key : ∀ (i : Nat) (d : Cell), (B ++ [c])[i]? = some d → (ρ ++ [p])[i]? = some q → d.live = true → (i < B.length ∧ B[i]? = some d ∧ ρ[i]? = some q ∧ q ≠ p) ∨ (i = B.length ∧ q = p) := fun i d h1 h3 h2 => by
      by_cases hi : i < B.length
      · rw [List.getElem?_append_left hi] at h1
        rw [List.getElem?_append_left (by omega)] at h3
        exact .inl ⟨hi, h1, h3, fun e => (r.box i d q h1 h2 h3).2 (.inr e)⟩
      · have hi2 : i = B.length := by
          have := (List.getElem?_eq_some_iff.mp h1).1
          simp at this; omega
        subst hi2
        rw [List.getElem?_append_right (by omega)] at h3
        simp [bl] at h3
        exact .inr ⟨rfl, h3.symm⟩
    rcases key i d h1 h5 h2 with ⟨_, a1, a2, a3⟩ | ⟨a1, a2⟩ <;> rcases key j d' h3 h6 h4 with ⟨_, b1, b2, b3⟩ | ⟨b1, b2⟩
    · exact r.binj i j d d' q a1 h2 b1 h4 a2 b2
    · exact absurd b2 a3
    · exact absurd a2 b3
    · omega
  · have ne : q ≠ p := fun z => n.out (z ▸ h)
    have e := r.out q (.inl h)
    simpa [Fm.add, ne] using e
  · have ne : q ≠ p := fun y => by rw [y, n.h0] at h; cases h
    have := r.old q u (by simp [Fm.add, ne, h]) (fun y => y.elim z ne)
    exact ⟨this.1, fun y => this.2 ((lv q).mp y)⟩
  · have ne : q ≠ p := fun y => by rw [y, n.h0] at h; cases h
    exact r.grow q u (by simp [Fm.add, ne, h])
theorem sndE_box (ha : SndE X a fa) : SndE X a (mBox fa) := by
  obtain ⟨t, p1, ha⟩ := ha
  refine ⟨t, p1, fun F ρ E B σ H Q rl q => ?_⟩
  refine ha F ρ E B σ H _ rl ?_
  simp only [mBox] at q
  cases h1 : fa E B with
  | bad => rw [h1] at q; exact q
  | ex c E' B' => rw [h1] at q ; first | exact q | exact Aft.exq (by assumption) q | exact AftT.exq (by assumption) q | exact Aft.exq (by assumption) (Aft.exq (by assumption) q) | exact AftT.exq (by assumption) (Aft.exq (by assumption) q)
  | ok r1 E1 B1 =>
    rw [h1] at q
    intro ρ1 H1 v1 A1
    simp only [O.bind_ok] at q
    cases r1 with
    | w u => exact q.elim
    | s i => exact q.elim
    | fr c =>
      have rr := A1.rep
      obtain ⟨p, rfl, hl, hc, hn⟩ := rr
      have r0 := A1.rel
      obtain ⟨r2, lv⟩ := Rel.push (o := H1 p) r0 hn hl hc
      have bl := r0.blen
      refine q (ρ1 ++ [p]) H1 (.ref p) ⟨A1.px.trans (List.prefix_append _ _), r2, A1.stp.trans (Stp.less fun y z => (lv y).mp z), A1.le, ?_⟩
      simp only [RepR, Rep]
      exact ⟨p, by rw [← bl]; simp, rfl⟩
end
end QB
/-! QbD: the operators by values, == , in, is. -/
namespace QB
open PySem L2
section
variable {K : PySem.W.Frag} {H : Hp} {Lv : AS} {ρ : List Addr} {v : V}
theorem top_int {i : Int} (t : Top K H Lv ρ (.int i) v) : v = .int i := by simpa [Top, Rep] using t
theorem top_bl {i : Bool} (t : Top K H Lv ρ (.bl i) v) : v = .bl i := by simpa [Top, Rep] using t
theorem top_str {i : Str} (t : Top K H Lv ρ (.str i) v) : v = .str i := by simpa [Top, Rep] using t
theorem top_non (t : Top K H Lv ρ .non v) : v = .non := by simpa [Top, Rep] using t
end
section
variable {X : Cy}
def gII (C : Int → Int → Bool) (g : Int → Int → Int) : U → U → Option R
  | .int i, .int j => if C i j = true then some (.w (.int (g i j))) else none
  | _, _ => none
def gIB (g : Int → Int → Bool) : U → U → Option R
  | .int i, .int j => some (.w (.bl (g i j)))
  | _, _ => none
def gSB (g : Str → Str → Bool) : U → U → Option R
  | .str i, .str j => some (.w (.bl (g i j)))
  | _, _ => none
theorem op2_II {op : Value → Value → Sem Value} {P : Int → Int → Prop} {C : Int → Int → Bool} {g : Int → Int → Int} (h : OpR X op (rI P fun i j => .int (g i j))) (hc : ∀ i j, C i j = true → P i j) : Op2S X op (gII C g) := by
  refine ⟨_, h, fun F ρ E B σ H u1 u2 v1 v2 r3 Q rl t1 t2 e q => ?_⟩
  unfold gII at e
  split at e
  · next i j =>
    split at e
    · next c =>
      cases e
      exact ⟨i, j, top_int t1, top_int t2, hc i j c, q H _ (Aft.val rl (by simp [Rep]))⟩
    · cases e
  · cases e
theorem op2_II0 {op : Value → Value → Sem Value} {g : Int → Int → Int} (h : OpR X op (rI0 fun i j => .int (g i j))) : Op2S X op (gII (fun _ _ => true) g) := by
  refine ⟨_, h, fun F ρ E B σ H u1 u2 v1 v2 r3 Q rl t1 t2 e q => ?_⟩
  unfold gII at e
  split at e
  · next i j =>
    cases e
    exact ⟨i, j, top_int t1, top_int t2, q H _ (Aft.val rl (by simp [Rep]))⟩
  · cases e
theorem op2_IB {op : Value → Value → Sem Value} {g : Int → Int → Bool} (h : OpR X op (rI0 fun i j => .bl (g i j))) : Op2S X op (gIB g) := by
  refine ⟨_, h, fun F ρ E B σ H u1 u2 v1 v2 r3 Q rl t1 t2 e q => ?_⟩
  unfold gIB at e
  split at e
  · next i j =>
    cases e
    exact ⟨i, j, top_int t1, top_int t2, q H _ (Aft.val rl (by simp [Rep]))⟩
  · cases e
theorem op2_SB {op : Value → Value → Sem Value} {g : Str → Str → Bool} (h : OpR X op (fun x y H Q => ∃ i j, x = .str i ∧ y = .str j ∧ Q (.bl (g i j)) H)) : Op2S X op (gSB g) := by
  refine ⟨_, h, fun F ρ E B σ H u1 u2 v1 v2 r3 Q rl t1 t2 e q => ?_⟩
  unfold gSB at e
  split at e
  · next i j =>
    cases e
    exact ⟨i, j, top_str t1, top_str t2, q H _ (Aft.val rl (by simp [Rep]))⟩
  · cases e
def gCatS : U → U → Option R
  | .str i, .str j => if i.length + j.length ≤ 16777216 then some (.w (.str (i ++ j))) else none
  | _, _ => none
def gCatL : U → U → Option R
  | .lst i, .lst j => if i.length + j.length ≤ 16777216 then some (.fr (.lst (i ++ j))) else none
  | _, _ => none
def gCatT : U → U → Option R
  | .tup i, .tup j => if i.length + j.length ≤ 16777216 then some (.w (.tup (i ++ j))) else none
  | _, _ => none
/-- small enough: read off the number's own form, so that no check counts up to the bound -/
def within (n : Nat) : Int → Bool
  | .ofNat k => Nat.ble k n
  | .negSucc k => Nat.ble k n
theorem within_iff {n : Nat} {i : Int} : within n i = true ↔ -(n : Int) - 1 ≤ i ∧ i ≤ n := by
  cases i with
  | ofNat k =>
    show Nat.ble k n = true ↔ _
    rw [Nat.ble_eq]
    show k ≤ n ↔ -(n : Int) - 1 ≤ (k : Int) ∧ (k : Int) ≤ n
    omega
  | negSucc k =>
    show Nat.ble k n = true ↔ _
    rw [Nat.ble_eq]
    omega
def I62 : Int → Bool := within 4611686018427387903
theorem i62_iff {j : Int} : I62 j = true ↔ (-(2 ^ 62) ≤ j ∧ j < 2 ^ 62) := by
  unfold I62
  rw [within_iff]
  omega
theorem i62 {j : Int} (h : -1000000000 ≤ j) (h2 : j ≤ 1000000000) : I62 j = true := i62_iff.mpr (by omega)
def gRep : U → U → Option R
  | .lst i, .int k => if I62 k = true ∧ i.length * k.toNat ≤ 16777216 then some (.fr (.lst (List.replicate k.toNat i).flatten)) else none
  | _, _ => none
theorem op2_catS : Op2S X (binaryOp .Add) gCatS := by
  refine ⟨_, op_add_str, fun F ρ E B σ H u1 u2 v1 v2 r3 Q rl t1 t2 e q => ?_⟩
  unfold gCatS at e
  split at e
  · next i j =>
    split at e
    · next c =>
      cases e
      exact ⟨i, j, top_str t1, top_str t2, by rw [sizeLine_eq]; exact c, q H _ (Aft.val rl (by simp [Rep]))⟩
    · cases e
  · cases e
theorem op2_icatS : Op2S X (inplaceOp .Add) gCatS := by
  refine ⟨_, iop_add_str, fun F ρ E B σ H u1 u2 v1 v2 r3 Q rl t1 t2 e q => ?_⟩
  unfold gCatS at e
  split at e
  · next i j =>
    split at e
    · next c =>
      cases e
      exact ⟨i, j, top_str t1, top_str t2, by rw [sizeLine_eq]; exact c, q H _ (Aft.val rl (by simp [Rep]))⟩
    · cases e
  · cases e
theorem op2_catL : Op2S X (binaryOp .Add) gCatL := by
  refine ⟨_, op_cat, fun F ρ E B σ H u1 u2 v1 v2 r3 Q rl t1 t2 e q => ?_⟩
  unfold gCatL at e
  split at e
  · next i j =>
    split at e
    · next c =>
      cases e
      obtain ⟨p1, xs, rfl, h1, r1⟩ := t1
      obtain ⟨p2, ys, rfl, h2, r2⟩ := t2
      refine ⟨p1, p2, xs, ys, rfl, rfl, h1, h2, by rw [sizeLine_eq, ← r1.len, ← r2.len]; exact c, fun p hp => q _ _ (Aft.fresh rl hp (r1.append r2))⟩
    · cases e
  · cases e
theorem op2_catT : Op2S X (binaryOp .Add) gCatT := by
  refine ⟨_, op_catA, fun F ρ E B σ H u1 u2 v1 v2 r3 Q rl t1 t2 e q => ?_⟩
  unfold gCatT at e
  split at e
  · next i j =>
    split at e
    · next c =>
      cases e
      obtain ⟨p1, xs, rfl, h1, r1⟩ := t1
      obtain ⟨p2, ys, rfl, h2, r2⟩ := t2
      have s1 : SqT X.K H p1 xs := sqT_of h1
      have s2 : SqT X.K H p2 ys := sqT_of h2
      refine ⟨p1, p2, xs, ys, rfl, rfl, s1, s2, by rw [sizeLine_eq, ← r1.len, ← r2.len]; exact c, fun e => ?_, fun e1 e2 => ?_, fun e1 e2 p hp => q _ _ (Aft.tuple rl hp (r1.append r2))⟩
      · have : i = [] := by have := r1.len; rw [e] at this; simpa using this
        subst this
        exact q _ _ (Aft.val rl (by simp only [List.nil_append, Rep]; exact ⟨p2, ys, rfl, h2, r2⟩))
      · have : j = [] := by have := r2.len; rw [e2] at this; simpa using this
        subst this
        exact q _ _ (Aft.val rl (by simp only [List.append_nil, Rep]; exact ⟨p1, xs, rfl, h1, r1⟩))
    · cases e
  · cases e
theorem op2_rep : Op2S X (binaryOp .Mult) gRep := by
  refine ⟨_, op_rep, fun F ρ E B σ H u1 u2 v1 v2 r3 Q rl t1 t2 e q => ?_⟩
  unfold gRep at e
  split at e
  · next i k =>
    split at e
    · next c =>
      cases e
      obtain ⟨p1, xs, rfl, h1, r1⟩ := t1
      have hr : ∀ n : Nat, Reps X.K H (LvF F ρ E B σ) ρ (List.replicate n i).flatten (List.replicate n xs).flatten := by
        intro n
        induction n with
        | zero => simp [Reps]
        | succ n ih => rw [List.replicate_succ, List.replicate_succ, List.flatten_cons, List.flatten_cons]; exact r1.append ih
      have cc := i62_iff.mp c.1
      refine ⟨p1, k, xs, rfl, top_int t2, h1, by omega, by omega, by rw [sizeLine_eq, ← r1.len]; exact c.2, fun p hp => q _ _ (Aft.fresh rl hp (hr _))⟩
    · cases e
  · cases e
/-! ### ints -/
def cMul (i j : Int) : Bool := within 9223372036854775807 i || (within 9223372036854775807 j || decide (i.natAbs.log2 + j.natAbs.log2 < 1000000))
theorem cMul_iff {i j : Int} : cMul i j = true ↔ (-9223372036854775808 ≤ i ∧ i ≤ 9223372036854775807) ∨ (-9223372036854775808 ≤ j ∧ j ≤ 9223372036854775807) ∨ i.natAbs.log2 + j.natAbs.log2 < 1000000 := by
  unfold cMul
  rw [Bool.or_eq_true, Bool.or_eq_true, within_iff, within_iff, decide_eq_true_iff]
  exact Iff.rfl
def cDiv (_ j : Int) : Bool := within 1500000000000000000000000000000000000000000000000000000000000 j && decide (0 < j)
theorem cDiv_iff {i j : Int} : cDiv i j = true ↔ (-1500000000000000000000000000000000000000000000000000000000000 - 1 ≤ j ∧ j ≤ 1500000000000000000000000000000000000000000000000000000000000) ∧ 0 < j := by
  unfold cDiv
  rw [Bool.and_eq_true, within_iff, decide_eq_true_iff]
  exact Iff.rfl
def cMod (_ j : Int) : Bool := decide (0 < j)
def cPow (i j : Int) : Bool := within 1000000 j && (decide (0 ≤ j) && within 9223372036854775807 i)
theorem cPow_iff {i j : Int} : cPow i j = true ↔ (-1000001 ≤ j ∧ j ≤ 1000000) ∧ 0 ≤ j ∧ (-9223372036854775808 ≤ i ∧ i ≤ 9223372036854775807) := by
  unfold cPow
  rw [Bool.and_eq_true, Bool.and_eq_true, within_iff, decide_eq_true_iff, within_iff]
  exact Iff.rfl
theorem op_mulA : OpR X (binaryOp .Mult) (rI (fun i j => CMul i j ∨ CMulW i j) fun i j => .int (i * j)) := by
  intro pins s σ H x y v u Q I rx ry h
  obtain ⟨i, j, h1, h2, h3 | h3, q⟩ := h
  · exact op_mul pins s σ H x y v u Q I rx ry ⟨i, j, h1, h2, h3, q⟩
  · exact op_mulW pins s σ H x y v u Q I rx ry ⟨i, j, h1, h2, h3, q⟩
theorem op2_add : Op2S X (binaryOp .Add) (gII (fun _ _ => true) (· + ·)) := op2_II0 op_add
theorem op2_sub : Op2S X (binaryOp .Sub) (gII (fun _ _ => true) (· - ·)) := op2_II0 op_sub
theorem op2_iadd : Op2S X (inplaceOp .Add) (gII (fun _ _ => true) (· + ·)) := op2_II0 iop_add
theorem op2_isub : Op2S X (inplaceOp .Sub) (gII (fun _ _ => true) (· - ·)) := op2_II0 iop_sub
theorem op2_mul : Op2S X (binaryOp .Mult) (gII cMul (· * ·)) := op2_II op_mulA fun i j h => by
  rcases cMul_iff.mp h with h | h | h
  · exact .inl (.inl (by omega))
  · exact .inl (.inr (by omega))
  · exact .inr h
theorem op2_fdiv : Op2S X (binaryOp .FloorDiv) (gII cDiv (· / ·)) := op2_II op_fdivW fun i j h => by
  obtain ⟨⟨_, h2⟩, h1⟩ := cDiv_iff.mp h
  refine ⟨h1, ?_⟩
  have h3 : j.natAbs < 2 ^ 200 := by
    have h4 : (j.natAbs : Int) < 2 ^ 200 := by omega
    exact_mod_cast h4
  have h5 : j.natAbs.log2 < 200 := (Nat.log2_lt (by omega)).mpr h3
  omega
theorem op2_mod : Op2S X (binaryOp .Mod) (gII cMod (· % ·)) := op2_II op_mod fun i j h => of_decide_eq_true h
theorem op2_pow : Op2S X (binaryOp .Pow) (gII cPow fun i j => i ^ j.toNat) := op2_II op_pow fun i j h => (show 0 ≤ j ∧ j ≤ 1000000 ∧ i.natAbs < 2 ^ 64 from by have := cPow_iff.mp h; omega)
theorem op2_ltI : Op2S X (compareOp .Lt) (gIB fun i j => decide (i < j)) := op2_IB op_lt
theorem op2_leI : Op2S X (compareOp .LtE) (gIB fun i j => decide (i ≤ j)) := op2_IB op_le
theorem op2_gtI : Op2S X (compareOp .Gt) (gIB fun i j => decide (j < i)) := op2_IB op_gt
theorem op2_geI : Op2S X (compareOp .GtE) (gIB fun i j => decide (j ≤ i)) := op2_IB op_ge
theorem op2_ltS : Op2S X (compareOp .Lt) (gSB fun i j => decide (i.cps.toList < j.cps.toList)) := op2_SB op_lt_str
theorem op2_leS : Op2S X (compareOp .LtE) (gSB fun i j => !decide (j.cps.toList < i.cps.toList)) := op2_SB op_le_str
theorem op2_gtS : Op2S X (compareOp .Gt) (gSB fun i j => decide (j.cps.toList < i.cps.toList)) := op2_SB op_gt_str
theorem op2_geS : Op2S X (compareOp .GtE) (gSB fun i j => !decide (i.cps.toList < j.cps.toList)) := op2_SB op_ge_str
/-! ### == -/
mutual
def toD : U → Option PyData
  | .non => some .none
  | .bl b => some (.bool b)
  | .int i => some (.int i)
  | .str x => some (.str x)
  | .lst us => (toDs us).map .list
  | .tup us => (toDs us).map .tuple
  | .dct _ _ => none
  | .box _ => none
  | .scr ns => some (.list (ns.map .int))
def toDs : List U → Option (List PyData)
  | [] => some []
  | u :: us => match toD u, toDs us with
    | some d, some ds => some (d :: ds)
    | _, _ => none
end
section
variable {K : PySem.W.Frag} {H : Hp} {Lv : AS} {ρ : List Addr}
theorem dp_ints (ns : List Int) : DpAll K H (ns.map V.int) (ns.map .int) := by
  induction ns with
  | nil => exact .nil
  | cons n r ih => exact .cons (.int n) ih
mutual
theorem Rep.dp : ∀ (u : U) (v : V) (d : PyData), Rep K H Lv ρ u v → toD u = some d → Dp K H v d
  | .non, v, d, h, e => by simp only [Rep] at h; subst h; simp only [toD, Option.some.injEq] at e; subst e; exact .non
  | .bl b, v, d, h, e => by simp only [Rep] at h; subst h; simp only [toD, Option.some.injEq] at e; subst e; exact .bl b
  | .int i, v, d, h, e => by simp only [Rep] at h; subst h; simp only [toD, Option.some.injEq] at e; subst e; exact .int i
  | .str x, v, d, h, e => by simp only [Rep] at h; subst h; simp only [toD, Option.some.injEq] at e; subst e; exact .str x
  | .lst us, v, d, h, e => by
    simp only [Rep] at h
    obtain ⟨p, vs, rfl, ⟨h1, _⟩, h2⟩ := h
    simp only [toD, Option.map_eq_some_iff] at e
    obtain ⟨ds, e1, rfl⟩ := e
    exact .lst (.inl (.inl h1)) (Reps.dp us vs ds h2 e1)
  | .tup us, v, d, h, e => by
    simp only [Rep] at h
    obtain ⟨p, vs, rfl, h1, h2⟩ := h
    simp only [toD, Option.map_eq_some_iff] at e
    obtain ⟨ds, e1, rfl⟩ := e
    refine .tup ?_ (Reps.dp us vs ds h2 e1)
    rcases h1 with h1 | h1
    · exact .inl h1.1
    · exact .inr h1
  | .dct _ _, _, _, _, e => by simp [toD] at e
  | .box _, _, _, _, e => by simp [toD] at e
  | .scr ns, v, d, h, e => by
    simp only [Rep] at h
    obtain ⟨p, rfl, h1⟩ := h
    simp only [toD, Option.some.injEq] at e
    subst e
    exact .lst (sqL_of h1) (dp_ints ns)
theorem Reps.dp : ∀ (us : List U) (vs : List V) (ds : List PyData), Reps K H Lv ρ us vs → toDs us = some ds → DpAll K H vs ds
  | [], vs, ds, h, e => by simp only [Reps] at h; subst h; simp only [toDs, Option.some.injEq] at e; subst e; exact .nil
  | u :: us, vs, ds, h, e => by
    simp only [Reps] at h
    obtain ⟨v, r, rfl, h1, h2⟩ := h
    simp only [toDs] at e
    split at e
    · next d ds' e1 e2 => cases e; exact .cons (Rep.dp u v d h1 e1) (Reps.dp us r ds' h2 e2)
    · cases e
end
theorem Top.dp {u : U} {v : V} {d : PyData} (t : Top K H Lv ρ u v) (e : toD u = some d) : Dp K H v d := by
  cases u with
  | lst us =>
    obtain ⟨p, vs, rfl, h1, h2⟩ := t
    simp only [toD, Option.map_eq_some_iff] at e
    obtain ⟨ds, e1, rfl⟩ := e
    exact .lst (.inl (.inl h1)) (Reps.dp us vs ds h2 e1)
  | tup us =>
    obtain ⟨p, vs, rfl, h1, h2⟩ := t
    simp only [toD, Option.map_eq_some_iff] at e
    obtain ⟨ds, e1, rfl⟩ := e
    exact .tup (sqT_of h1) (Reps.dp us vs ds h2 e1)
  | dct _ _ => simp [toD] at e
  | box i => exact t.elim
  | non => exact Rep.dp _ _ _ t e
  | bl _ => exact Rep.dp _ _ _ t e
  | int _ => exact Rep.dp _ _ _ t e
  | str _ => exact Rep.dp _ _ _ t e
  | scr _ => exact Rep.dp _ _ _ t e
end
/-- texts alone need no look at their signs -/
def eqU (a b : U) : Option Bool :=
  match a, b with
  | .str x, .str y => some (x == y)
  | .int x, .int y => some (x == y)
  | .str _, .int _ => some false
  | .int _, .str _ => some false
  | .non, .str _ => some false
  | .str _, .non => some false
  | a, b => match toD a, toD b with
    | some d, some e => if (SeqAt.shaped d && SeqAt.shaped e) = true then some (PyData.eqv d e) else none
    | _, _ => none
def gEq (a b : U) : Option R := (eqU a b).map fun k => .w (.bl k)
def gNe (a b : U) : Option R := (eqU a b).map fun k => .w (.bl (!k))
theorem op2_eq (hu : X.A.units + 64 < cLine) : Op2S X (compareOp .Eq) gEq := by
  refine ⟨_, op_eq.or (op_eqD hu), fun F ρ E B σ H u1 u2 v1 v2 r3 Q rl t1 t2 e q => ?_⟩
  simp only [gEq, Option.map_eq_some_iff] at e
  obtain ⟨k, e, rfl⟩ := e
  have fin : Q (.bl k) H := q H _ (Aft.val rl (by simp [Rep]))
  unfold eqU at e
  split at e
  · next x y => cases e; rw [top_str t1, top_str t2]; exact .inl ⟨rfl, by rw [dec_str]; exact fin⟩
  · next x y => cases e; rw [top_int t1, top_int t2]; exact .inl ⟨rfl, by rw [dec_int]; exact fin⟩
  · next x y => cases e; rw [top_str t1, top_int t2]; exact .inl ⟨rfl, by simpa using fin⟩
  · next x y => cases e; rw [top_int t1, top_str t2]; exact .inl ⟨rfl, by simpa using fin⟩
  · next x => cases e; rw [top_non t1, top_str t2]; exact .inl ⟨rfl, by simpa using fin⟩
  · next x => cases e; rw [top_str t1, top_non t2]; exact .inl ⟨rfl, by simpa using fin⟩
  · split at e
    · next d d' e1 e2 =>
      split at e
      · next hs =>
        cases e
        simp only [Bool.and_eq_true] at hs
        exact .inr ⟨d, d', t1.dp e1, t2.dp e2, hs.1, hs.2, fin⟩
      · cases e
    · cases e
theorem op2_ne (hu : X.A.units + 64 < cLine) : Op2S X (compareOp .NotEq) gNe := by
  refine ⟨_, op_ne.or (op_neD hu), fun F ρ E B σ H u1 u2 v1 v2 r3 Q rl t1 t2 e q => ?_⟩
  simp only [gNe, Option.map_eq_some_iff] at e
  obtain ⟨k, e, rfl⟩ := e
  have fin : Q (.bl (!k)) H := q H _ (Aft.val rl (by simp [Rep]))
  unfold eqU at e
  split at e
  · next x y => cases e; rw [top_str t1, top_str t2]; exact .inl ⟨rfl, by rw [dec_str]; exact fin⟩
  · next x y => cases e; rw [top_int t1, top_int t2]; exact .inl ⟨rfl, by rw [dec_int]; exact fin⟩
  · next x y => cases e; rw [top_str t1, top_int t2]; exact .inl ⟨rfl, by simpa using fin⟩
  · next x y => cases e; rw [top_int t1, top_str t2]; exact .inl ⟨rfl, by simpa using fin⟩
  · next x => cases e; rw [top_non t1, top_str t2]; exact .inl ⟨rfl, by simpa using fin⟩
  · next x => cases e; rw [top_str t1, top_non t2]; exact .inl ⟨rfl, by simpa using fin⟩
  · split at e
    · next d d' e1 e2 =>
      split at e
      · next hs =>
        cases e
        simp only [Bool.and_eq_true] at hs
        exact .inr ⟨d, d', t1.dp e1, t2.dp e2, hs.1, hs.2, fin⟩
      · cases e
    · cases e
/-! ### is -/
def isNon : U → Bool
  | .non => true
  | _ => false
def gIs (neg : Bool) : U → U → Option R
  | a, .non => some (.w (.bl (if neg then !isNon a else isNon a)))
  | .bl a, .bl b => some (.w (.bl (if neg then !decide (a = b) else decide (a = b))))
  | _, _ => none
theorem isNon_top {K : PySem.W.Frag} {H : Hp} {Lv : AS} {ρ : List Addr} {u : U} {v : V} (t : Top K H Lv ρ u v) : decide (v = .non) = isNon u := by
  cases u with
  | non => rw [top_non t]; rfl
  | bl _ => rw [top_bl t]; rfl
  | int _ => rw [top_int t]; rfl
  | str _ => rw [top_str t]; rfl
  | lst _ => obtain ⟨p, vs, rfl, _⟩ := t; rfl
  | tup _ => obtain ⟨p, vs, rfl, _⟩ := t; rfl
  | dct _ _ => obtain ⟨p, vs, rfl, _⟩ := t; rfl
  | box _ => exact t.elim
  | scr _ => simp only [Top, Rep] at t; obtain ⟨p, rfl, _⟩ := t; rfl
theorem op2_is : Op2S X (compareOp .Is) (gIs false) := by
  refine ⟨_, op_isN.or op_is_bl, fun F ρ E B σ H u1 u2 v1 v2 r3 Q rl t1 t2 e q => ?_⟩
  unfold gIs at e
  split at e
  · cases e
    refine .inl ⟨top_non t2, ?_⟩
    rw [isNon_top t1]
    exact q H _ (Aft.val rl (by simp [Rep]))
  · next a b =>
    cases e
    exact .inr ⟨a, b, top_bl t1, top_bl t2, q H _ (Aft.val rl (by simp [Rep]))⟩
  · cases e
theorem op2_isnot : Op2S X (compareOp .IsNot) (gIs true) := by
  refine ⟨_, op_notN.or op_isnot_bl, fun F ρ E B σ H u1 u2 v1 v2 r3 Q rl t1 t2 e q => ?_⟩
  unfold gIs at e
  split at e
  · cases e
    refine .inl ⟨top_non t2, ?_⟩
    rw [isNon_top t1]
    exact q H _ (Aft.val rl (by simp [Rep]))
  · next a b =>
    cases e
    exact .inr ⟨a, b, top_bl t1, top_bl t2, q H _ (Aft.val rl (by simp [Rep]))⟩
  · cases e
/-! ### in -/
def flatU : U → Option V
  | .non => some .non
  | .bl b => some (.bl b)
  | .int i => some (.int i)
  | .str x => some (.str x)
  | _ => none
theorem flatU_top {K : PySem.W.Frag} {H : Hp} {Lv : AS} {ρ : List Addr} {u : U} {v x : V} (t : Top K H Lv ρ u v) (e : flatU u = some x) : v = x ∧ flatV v = true := by
  cases u <;> simp only [flatU, Option.some.injEq] at e <;> first | (cases e; done) | skip
  · rw [top_non t]; exact ⟨e, rfl⟩
  · rw [top_bl t]; exact ⟨e, rfl⟩
  · rw [top_int t]; exact ⟨e, rfl⟩
  · rw [top_str t]; exact ⟨e, rfl⟩
theorem flatU_rep {K : PySem.W.Frag} {H : Hp} {Lv : AS} {ρ : List Addr} {u : U} {v x : V} (t : Rep K H Lv ρ u v) (e : flatU u = some x) : v = x ∧ flatV v = true :=
  flatU_top (t.top fun i z => by subst z; cases e) e
def flatUs : List U → Option (List V)
  | [] => some []
  | u :: us => match flatU u, flatUs us with
    | some v, some vs => some (v :: vs)
    | _, _ => none
theorem flatUs_reps {K : PySem.W.Frag} {H : Hp} {Lv : AS} {ρ : List Addr} : ∀ {us : List U} {vs xs : List V}, Reps K H Lv ρ us vs → flatUs us = some xs → vs = xs ∧ vs.all flatV = true
  | [], vs, xs, h, e => by simp only [Reps] at h; subst h; simp only [flatUs, Option.some.injEq] at e; exact ⟨e, rfl⟩
  | u :: us, vs, xs, h, e => by
    simp only [Reps] at h
    obtain ⟨v, r, rfl, h1, h2⟩ := h
    simp only [flatUs] at e
    split at e
    · next a b e1 e2 =>
      cases e
      obtain ⟨h3, h4⟩ := flatU_rep h1 e1
      obtain ⟨h5, h6⟩ := flatUs_reps h2 e2
      exact ⟨by rw [h3, h5], by simp [h4, h6]⟩
    · cases e
def inStr (a z : Str) : Bool := if a.cps.size = 1 then decide (a.cps.getD 0 0 ∈ z.cps.toList) else !(Builtin.Str.occurrences z a 0 z.length 1).isEmpty
def seqOf : U → Option (List U)
  | .lst us => some us
  | .tup us => some us
  | _ => none
def inU (a b : U) : Option Bool :=
  match a, b with
  | .str x, .str z => some (inStr x z)
  | a, b => match flatU a, (seqOf b).bind flatUs with
    | some v, some vs => some (inV v vs)
    | _, _ => none
def gIn (neg : Bool) (a b : U) : Option R := (inU a b).map fun k => .w (.bl (if neg then !k else k))
theorem str_one {a : Str} (h : a.cps.size = 1) : a = ⟨#[a.cps.getD 0 0]⟩ := by
  obtain ⟨cs⟩ := a
  obtain ⟨l⟩ := cs
  match l, h with
  | [c], _ => rfl
theorem op2_in : Op2S X (compareOp .In) (gIn false) := by
  refine ⟨_, (op_in_sign.or op_in_str).or op_in_seq, fun F ρ E B σ H u1 u2 v1 v2 r3 Q rl t1 t2 e q => ?_⟩
  simp only [gIn, Option.map_eq_some_iff] at e
  obtain ⟨k, e, rfl⟩ := e
  have fin : Q (.bl k) H := q H _ (Aft.val rl (by simp [Rep]))
  unfold inU at e
  split at e
  · next x z =>
    cases e
    unfold inStr at fin
    split at fin
    · next h1 => exact .inl (.inl ⟨x.cps.getD 0 0, z, by rw [top_str t1, ← str_one h1], top_str t2, fin⟩)
    · exact .inl (.inr ⟨x, z, top_str t1, top_str t2, fin⟩)
  · split at e
    · next v vs e1 e2 =>
      cases e
      simp only [Option.bind_eq_some_iff] at e2
      obtain ⟨us, e2, e3⟩ := e2
      obtain ⟨h1, h2⟩ := flatU_top t1 e1
      subst h1
      cases u2 <;> simp only [seqOf, Option.some.injEq] at e2 <;> first | (cases e2; done) | skip
      · subst e2
        obtain ⟨p, ws, rfl, h3, h4⟩ := t2
        obtain ⟨h5, h6⟩ := flatUs_reps h4 e3
        subst h5
        exact .inr ⟨p, ws, rfl, .inl (.inl (.inl h3)), h2, h6, fin⟩
      · subst e2
        obtain ⟨p, ws, rfl, h3, h4⟩ := t2
        obtain ⟨h5, h6⟩ := flatUs_reps h4 e3
        subst h5
        exact .inr ⟨p, ws, rfl, .inr (sqT_of h3), h2, h6, fin⟩
    · cases e
theorem op2_notin : Op2S X (compareOp .NotIn) (gIn true) := by
  refine ⟨_, (op_notIn_sign.or op_notin_str).or op_notIn_seq, fun F ρ E B σ H u1 u2 v1 v2 r3 Q rl t1 t2 e q => ?_⟩
  simp only [gIn, Option.map_eq_some_iff] at e
  obtain ⟨k, e, rfl⟩ := e
  have fin : Q (.bl (!k)) H := q H _ (Aft.val rl (by simp [Rep]))
  unfold inU at e
  split at e
  · next x z =>
    cases e
    unfold inStr at fin
    split at fin
    · next h1 => exact .inl (.inl ⟨x.cps.getD 0 0, z, by rw [top_str t1, ← str_one h1], top_str t2, fin⟩)
    · exact .inl (.inr ⟨x, z, top_str t1, top_str t2, fin⟩)
  · split at e
    · next v vs e1 e2 =>
      cases e
      simp only [Option.bind_eq_some_iff] at e2
      obtain ⟨us, e2, e3⟩ := e2
      obtain ⟨h1, h2⟩ := flatU_top t1 e1
      subst h1
      cases u2 <;> simp only [seqOf, Option.some.injEq] at e2 <;> first | (cases e2; done) | skip
      · subst e2
        obtain ⟨p, ws, rfl, h3, h4⟩ := t2
        obtain ⟨h5, h6⟩ := flatUs_reps h4 e3
        subst h5
        exact .inr ⟨p, ws, rfl, .inl (.inl (.inl h3)), h2, h6, fin⟩
      · subst e2
        obtain ⟨p, ws, rfl, h3, h4⟩ := t2
        obtain ⟨h5, h6⟩ := flatUs_reps h4 e3
        subst h5
        exact .inr ⟨p, ws, rfl, .inr (sqT_of h3), h2, h6, fin⟩
    · cases e
end
end QB
/-! QbE: arguments, built-ins, displays, subscripts, calls. -/
namespace QB
open PySem L2
section
variable {X : Cy} {a b c e : Expr} {es : List Expr} {fa fb : Ex} {pos p p2 p3 cpos apos : Pos} {x : Str}

/-! ### a plain step on one value -/
theorem m1_ok {g : U → Option R} {r : V → Hp → VK → Prop} {ta : TE}
    (ho : ∀ F ρ E B σ H u1 v1 r3 Q, Rel X.K F ρ E B σ H → Top X.K H (LvF F ρ E B σ) ρ u1 v1 → g u1 = some r3 → (∀ H' v, Aft X.K F ρ E B σ H r3 ρ E B H' v → Q v H') → r v1 H Q)
    (ha : ∀ F ρ E B σ H Q, Rel X.K F ρ E B σ H → PostE X.K X.q F ρ E B σ H (fa E B) Q → ta σ H Q) :
    ∀ F ρ E B σ H Q, Rel X.K F ρ E B σ H → PostE X.K X.q F ρ E B σ H (m1 g fa E B) Q → ta σ H (fun v H1 => r v H1 Q) := by
  intro F ρ E B σ H Q rl h
  refine ha F ρ E B σ H _ rl ?_
  simp only [m1] at h
  cases h1 : fa E B with
  | bad => rw [h1] at h; exact h
  | ex c E' B' => rw [h1] at h ; first | exact h | exact Aft.exq (by assumption) h | exact AftT.exq (by assumption) h | exact Aft.exq (by assumption) (Aft.exq (by assumption) h) | exact AftT.exq (by assumption) (Aft.exq (by assumption) h) | exact AftT.exq (AftA.t (by assumption)) h | exact ExQ.px h (Aft.px (by assumption)) | exact ExQ.px h (List.IsPrefix.trans (AftT.px (by assumption)) (Aft.px (by assumption))) | exact Aft.exq (by assumption) (AftT.exq (by assumption) h) | exact Aft.exq (by assumption) (Aft.exq (by assumption) (AftT.exq (by assumption) h))
  | ok r1 E1 B1 =>
    rw [h1] at h
    intro ρ1 H1 v1 A1
    simp only [O.bind_ok] at h
    split at h
    · next u1 e1 =>
      split at h
      · next r3 eg =>
        have T1 := A1.letgo
        exact ho F ρ1 E1 B1 σ H1 u1 v1 r3 Q T1.rel (A1.top e1) eg fun H' v A3 => h ρ1 H' v (T1.then A3)
      · exact h.elim
    · exact h.elim
theorem sndE_un {op : UnaryOp} {r : V → Hp → VK → Prop} {g : U → Option R} (hr : UnR X (unaryOp op) r)
    (ho : ∀ F ρ E B σ H u1 v1 r3 Q, Rel X.K F ρ E B σ H → Top X.K H (LvF F ρ E B σ) ρ u1 v1 → g u1 = some r3 → (∀ H' v, Aft X.K F ρ E B σ H r3 ρ E B H' v → Q v H') → r v1 H Q)
    (ha : SndE X a fa) : SndE X (.UnaryOp op a pos) (m1 g fa) := by
  obtain ⟨ta, pa, ha⟩ := ha
  exact ⟨_, pe_un hr pa, m1_ok (r := r) ho ha⟩
def gNeg : U → Option R
  | .int i => some (.w (.int (-i)))
  | _ => none
theorem sndE_neg (ha : SndE X a fa) : SndE X (.UnaryOp .USub a pos) (m1 gNeg fa) := by
  refine sndE_un un_neg (fun F ρ E B σ H u1 v1 r3 Q rl t e q => ?_) ha
  unfold gNeg at e
  split at e
  · next i => cases e; exact ⟨i, top_int t, q H _ (Aft.val rl (by simp [Rep]))⟩
  · cases e

/-! ### built-ins of one argument -/
def Call1S (X : Cy) (f : Value) (g : U → Option R) : Prop :=
  ∃ r, CallR X f r ∧ ∀ F ρ E B σ H u1 v1 r3 Q, Rel X.K F ρ E B σ H → Top X.K H (LvF F ρ E B σ) ρ u1 v1 → g u1 = some r3 → (∀ H' v, Aft X.K F ρ E B σ H r3 ρ E B H' v → Q v H') → r [v1] H Q
theorem sndE_b1 {id : String} {g : U → Option R} (hc : Call1S X (.builtin id) g) (hm : X.mg x = none) (hv : bootBuiltins x = some (.builtin id)) (ha : SndE X a fa) (hg : Gl X x := by rfl) (hn : x ≠ "__name__" := by decide) (hdb : (x == ("__debug__" : Str)) = false := by decide) (hs : starEach [a] X.env = (false, eval a X.env) :: starEach [] X.env := by rfl) : SndE X (.Call (.Name x p) [a] [] pos) (m1 g fa) := by
  obtain ⟨r, hr, ho⟩ := hc
  obtain ⟨ta, pa, ha⟩ := ha
  exact ⟨_, pe_callB hr hg hm hv (pa_cons pa pa_nil hs) hn hdb hs, m1_ok (r := fun v H Q => r [v] H Q) ho ha⟩
theorem sndE_t1 {T : String} {g : U → Option R} (hc : Call1S X (.type T) g) (hm : X.mg x = none) (hv : bootBuiltins x = some (.type T)) (ha : SndE X a fa) (hg : Gl X x := by rfl) (hn : x ≠ "__name__" := by decide) (hdb : (x == ("__debug__" : Str)) = false := by decide) (hs : starEach [a] X.env = (false, eval a X.env) :: starEach [] X.env := by rfl) : SndE X (.Call (.Name x p) [a] [] pos) (m1 g fa) := by
  obtain ⟨r, hr, ho⟩ := hc
  obtain ⟨ta, pa, ha⟩ := ha
  exact ⟨_, pe_callTy hr hg hm hv (pa_cons pa pa_nil hs) hn hdb hs, m1_ok (r := fun v H Q => r [v] H Q) ho ha⟩
def gLen : U → Option R
  | .str y => if y.length ≤ 16777216 then some (.w (.int y.length)) else none
  | .lst us => some (.w (.int us.length))
  | .tup us => some (.w (.int us.length))
  | .scr ns => some (.w (.int ns.length))
  | _ => none
theorem call1_len : Call1S X (.builtin "len") gLen := by
  refine ⟨_, call_len, fun F ρ E B σ H u1 v1 r3 Q rl t e q => ?_⟩
  have fin : ∀ n : Nat, r3 = .w (.int n) → Q (.int n) H := fun n h => q H _ (by subst h; exact Aft.val rl (by simp [Rep]))
  unfold gLen at e
  split at e
  · next y =>
    split at e
    · next hl => cases e; exact ⟨_, y.length, rfl, by rw [top_str t]; exact ⟨by rw [sizeLine_eq]; exact hl, rfl⟩, fin _ rfl⟩
    · cases e
  · next us =>
    cases e
    obtain ⟨p, vs, rfl, h1, h2⟩ := t
    exact ⟨_, us.length, rfl, .inl ⟨vs, .inl (.inl h1), h2.len⟩, fin _ rfl⟩
  · next us =>
    cases e
    obtain ⟨p, vs, rfl, h1, h2⟩ := t
    exact ⟨_, us.length, rfl, .inr ⟨vs, sqT_of h1, h2.len⟩, fin _ rfl⟩
  · next ns =>
    cases e
    simp only [Top, Rep] at t
    obtain ⟨p, rfl, h1⟩ := t
    exact ⟨_, ns.length, rfl, .inl ⟨_, sqL_of h1, by simp⟩, fin _ rfl⟩
  · cases e
def gAbs : U → Option R
  | .int i => some (.w (.int (if i < 0 then -i else i)))
  | _ => none
theorem call1_abs : Call1S X (.builtin "abs") gAbs := by
  refine ⟨_, call_abs, fun F ρ E B σ H u1 v1 r3 Q rl t e q => ?_⟩
  unfold gAbs at e
  split at e
  · next i => cases e; exact ⟨i, by rw [top_int t], q H _ (Aft.val rl (by simp [Rep]))⟩
  · cases e
def gInt : U → Option R
  | .int i => some (.w (.int i))
  | .bl b => some (.w (.int (if b then 1 else 0)))
  | _ => none
theorem call1_int : Call1S X (.type "int") gInt := by
  refine ⟨_, call_int1, fun F ρ E B σ H u1 v1 r3 Q rl t e q => ?_⟩
  unfold gInt at e
  split at e
  · next i => cases e; exact .inl ⟨i, by rw [top_int t], q H _ (Aft.val rl (by simp [Rep]))⟩
  · next i => cases e; exact .inr ⟨i, by rw [top_bl t], q H _ (Aft.val rl (by simp [Rep]))⟩
  · cases e
def gStrI : U → Option R
  | .int i => if i.natAbs < 10 ^ 100 then some (.w (.str (toString i : String))) else none
  | _ => none
theorem call1_strI : Call1S X (.type "str") gStrI := by
  refine ⟨_, call_str_int, fun F ρ E B σ H u1 v1 r3 Q rl t e q => ?_⟩
  unfold gStrI at e
  split at e
  · next i =>
    split at e
    · next hl =>
      cases e
      have h3 : i.natAbs < 2 ^ 400 := Nat.lt_trans hl (by decide)
      have h5 : i.natAbs.log2 < 1920 := by
        by_cases z : i.natAbs = 0
        · rw [z]; decide
        · have := (Nat.log2_lt z).mpr h3; omega
      exact ⟨i, by rw [top_int t], h5, q H _ (Aft.val rl (by simp [Rep]))⟩
    · cases e
  · cases e
def gListOf : U → Option R
  | .lst us => some (.fr (.lst us))
  | .tup us => some (.fr (.lst us))
  | _ => none
theorem call1_list : Call1S X (.type "list") gListOf := by
  refine ⟨_, call_list_of, fun F ρ E B σ H u1 v1 r3 Q rl t e q => ?_⟩
  unfold gListOf at e
  split at e
  · next us =>
    cases e
    obtain ⟨p, vs, rfl, h1, h2⟩ := t
    exact ⟨p, vs, rfl, .inl (.inl (.inl h1)), fun l hl => q _ _ (Aft.fresh rl hl h2)⟩
  · next us =>
    cases e
    obtain ⟨p, vs, rfl, h1, h2⟩ := t
    exact ⟨p, vs, rfl, .inr (sqT_of h1), fun l hl => q _ _ (Aft.fresh rl hl h2)⟩
  · cases e
def gTupleOf : U → Option R
  | .lst us => some (.w (.tup us))
  | .tup us => some (.w (.tup us))
  | _ => none
theorem call1_tuple : Call1S X (.type "tuple") gTupleOf := by
  refine ⟨_, call_tuple_of, fun F ρ E B σ H u1 v1 r3 Q rl t e q => ?_⟩
  unfold gTupleOf at e
  split at e
  · next us =>
    cases e
    obtain ⟨p, vs, rfl, h1, h2⟩ := t
    exact ⟨p, vs, rfl, .inl ⟨.inl (.inl h1), fun l hl => q _ _ (Aft.tuple rl hl h2)⟩⟩
  · next us =>
    cases e
    have t' := t
    obtain ⟨p, vs, rfl, h1, h2⟩ := t
    exact ⟨p, vs, rfl, .inr ⟨sqT_of h1, q _ _ (Aft.val rl (by simp only [Rep]; exact t'))⟩⟩
  · cases e
def blsOf : List U → Option (List Bool)
  | [] => some []
  | .bl b :: us => (blsOf us).map (b :: ·)
  | _ => none
theorem blsOf_reps {K : PySem.W.Frag} {H : Hp} {Lv : AS} {ρ : List Addr} : ∀ {us : List U} {vs : List V} {bs : List Bool}, Reps K H Lv ρ us vs → blsOf us = some bs → vs = bs.map V.bl
  | [], vs, bs, h, e => by simp only [Reps] at h; subst h; simp only [blsOf, Option.some.injEq] at e; subst e; rfl
  | u :: us, vs, bs, h, e => by
    simp only [Reps] at h
    obtain ⟨v, r, rfl, h1, h2⟩ := h
    cases u <;> simp only [blsOf, Option.map_eq_some_iff] at e <;> first | (cases e; done) | skip
    obtain ⟨cs, e1, rfl⟩ := e
    simp only [Rep] at h1
    rw [h1, blsOf_reps h2 e1]; rfl
def gAny : U → Option R
  | .lst us => (blsOf us).map fun bs => .w (.bl (bs.any id))
  | _ => none
def gAll : U → Option R
  | .lst us => (blsOf us).map fun bs => .w (.bl (bs.all id))
  | _ => none
theorem call1_any (hc : X.calm = true) : Call1S X (.builtin "any") gAny := by
  refine ⟨_, cr_any hc, fun F ρ E B σ H u1 v1 r3 Q rl t e q => ?_⟩
  unfold gAny at e
  split at e
  · next us =>
    simp only [Option.map_eq_some_iff] at e
    obtain ⟨bs, e1, rfl⟩ := e
    obtain ⟨p, vs, rfl, h1, h2⟩ := t
    exact ⟨p, bs, rfl, .inl (.inl (by rw [h1, blsOf_reps h2 e1])), q H _ (Aft.val rl (by simp [Rep]))⟩
  · cases e
theorem call1_all (hc : X.calm = true) : Call1S X (.builtin "all") gAll := by
  refine ⟨_, cr_all hc, fun F ρ E B σ H u1 v1 r3 Q rl t e q => ?_⟩
  unfold gAll at e
  split at e
  · next us =>
    simp only [Option.map_eq_some_iff] at e
    obtain ⟨bs, e1, rfl⟩ := e
    obtain ⟨p, vs, rfl, h1, h2⟩ := t
    exact ⟨p, bs, rfl, .inl (.inl (by rw [h1, blsOf_reps h2 e1])), q H _ (Aft.val rl (by simp [Rep]))⟩
  · cases e

/-! ### isinstance -/
def kindS : U → Option String
  | .non => some "NoneType"
  | .bl _ => some "bool"
  | .int _ => some "int"
  | .str _ => some "str"
  | .lst _ => some "list"
  | .tup _ => some "tuple"
  | .dct _ _ => some "dict"
  | .scr _ => some "list"
  | .box _ => none
theorem kind_top {K : PySem.W.Frag} {H : Hp} {Lv : AS} {ρ : List Addr} {u : U} {v : V} {s : String} (t : Top K H Lv ρ u v) (e : kindS u = some s) : TyX K H v (.type s) := by
  cases u with
  | non => cases e; rw [top_non t]; exact .base .non
  | bl _ => cases e; rw [top_bl t]; exact .base (.bl _)
  | int _ => cases e; rw [top_int t]; exact .base (.int _)
  | str _ => cases e; rw [top_str t]; exact .base (.str _)
  | lst _ => cases e; obtain ⟨p, vs, rfl, h1, _⟩ := t; exact .base (.lst h1)
  | tup _ =>
    cases e
    obtain ⟨p, vs, rfl, h1, _⟩ := t
    rcases h1 with ⟨h1 | ⟨o, h1⟩, _⟩ | ⟨o, its, n, h1, h2, _⟩
    · exact .base (.tup h1)
    · exact .fTuple h1
    · exact .kTuple h1 h2
  | dct _ _ =>
    cases e
    obtain ⟨p, vs, rfl, h1 | ⟨o, h1⟩, _⟩ := t
    · exact .base (.dK h1)
    · exact .fDict h1
  | box _ => cases e
  | scr _ =>
    cases e
    simp only [Top, Rep] at t
    obtain ⟨p, rfl, ⟨h1 | ⟨o, h1⟩, _⟩ | ⟨o, its, n, h1, h2, _⟩⟩ := t
    · exact .base (.lst h1)
    · exact .base (.frz h1)
    · exact .kList h1 h2
def gIsi (T : String) (u : U) : Option R := (kindS u).bind fun s => (kitB s T).map fun k => .w (.bl k)
def isAny (s : String) (Ts : List String) : Option Bool :=
  match Ts with
  | [] => some false
  | T :: Ts => (kitB s T).bind fun k => (isAny s Ts).map fun k' => k || k'
def gIsiT (Ts : List String) (u : U) : Option R := (kindS u).bind fun s => (isAny s Ts).map fun k => .w (.bl k)
theorem sndE_isi {T : String} {tx : Str} (hm : X.mg "isinstance" = none) (hmT : X.mg tx = none) (hvT : bootBuiltins tx = some (.type T)) (ha : SndE X a fa) (hg : Gl X "isinstance" := by rfl) (hgT : Gl X tx := by rfl) (hn : tx ≠ "__name__" := by decide) (hdb : (tx == ("__debug__" : Str)) = false := by decide)
    (hvI : bootBuiltins "isinstance" = some (.builtin "isinstance") := by decide +kernel) (hs : starEach [a, .Name tx p2] X.env = (false, eval a X.env) :: starEach [.Name tx p2] X.env := by rfl) : SndE X (.Call (.Name "isinstance" p) [a, .Name tx p2] [] pos) (m1 (gIsi T) fa) := by
  obtain ⟨ta, pa, ha⟩ := ha
  refine ⟨_, pe_callB call_isi hg hm hvI (pa_cons pa (pa_cons (pe_bltn (v := .ty T) hgT hmT hvT rfl hn hdb) pa_nil) hs) (by decide) (by decide) hs, ?_⟩
  refine m1_ok (r := fun v H Q => rIsi X.K [v, .ty T] H Q) (fun F ρ E B σ H u1 v1 r3 Q rl t e q => ?_) ha
  simp only [gIsi, Option.bind_eq_some_iff, Option.map_eq_some_iff] at e
  obtain ⟨s, e1, k, e2, rfl⟩ := e
  exact ⟨v1, .ty T, .type s, .type T, k, rfl, .ty T, kind_top t e1, kit_ty e2, q H _ (Aft.val rl (by simp [Rep]))⟩

/-! ### subscripts -/
def gIx : U → U → Option R
  | .lst us, .int i => (atI us i).map .w
  | .tup us, .int i => (atI us i).map .w
  | .str z, .int i => if z.length ≤ 16777216 then (atI z.cps.toList i).map fun c => .w (.str ⟨#[c]⟩) else none
  | .scr ns, .int i => (atI ns i).map fun n => .w (.int n)
  | _, _ => none
theorem atI_reps {K : PySem.W.Frag} {H : Hp} {Lv : AS} {ρ : List Addr} {us : List U} {vs : List V} {i : Int} {u : U} (h : Reps K H Lv ρ us vs) (e : atI us i = some u) : ∃ v, atI vs i = some v ∧ Rep K H Lv ρ u v := by
  unfold atI at e ⊢
  simp only [Option.bind_eq_some_iff] at e ⊢
  obtain ⟨j, e1, e2⟩ := e
  obtain ⟨v, h1, h2⟩ := h.get e2
  exact ⟨v, ⟨j, by rw [← h.len]; exact e1, h1⟩, h2⟩
theorem sndE_ix (ha : SndE X a fa) (hb : SndE X b fb) (hs : PlainIx b := by intro _ _; rfl) : SndE X (.Subscript a b pos) (m2 gIx fa fb) := by
  obtain ⟨ta, pa, ha⟩ := ha
  obtain ⟨tb, pb, hb⟩ := hb
  refine ⟨_, pe_ix ix_seq pa pb hs, m2_ok (f := fun _ _ => pure Value.none) (fun F ρ E B σ H u1 u2 v1 v2 r3 Q rl t1 t2 e q => ?_) ha hb⟩
  unfold gIx at e
  split at e
  · next us i =>
    simp only [Option.map_eq_some_iff] at e
    obtain ⟨w, e1, rfl⟩ := e
    obtain ⟨p, vs, rfl, h1, h2⟩ := t1
    obtain ⟨v, h3, h4⟩ := atI_reps h2 e1
    exact .inl ⟨p, vs, i, v, rfl, top_int t2, .inl (.inl h1), h3, q H _ (Aft.val rl h4)⟩
  · next us i =>
    simp only [Option.map_eq_some_iff] at e
    obtain ⟨w, e1, rfl⟩ := e
    obtain ⟨p, vs, rfl, h1, h2⟩ := t1
    obtain ⟨v, h3, h4⟩ := atI_reps h2 e1
    exact .inr (.inl ⟨p, vs, i, v, rfl, top_int t2, sqT_of h1, h3, q H _ (Aft.val rl h4)⟩)
  · next z i =>
    split at e
    · next hl =>
      simp only [Option.map_eq_some_iff] at e
      obtain ⟨c, e1, rfl⟩ := e
      exact .inr (.inr ⟨z, i, c, top_str t1, top_int t2, by rw [sizeLine_eq]; exact hl, e1, q H _ (Aft.val rl (by simp [Rep]))⟩)
    · cases e
  · next ns i =>
    simp only [Option.map_eq_some_iff] at e
    obtain ⟨n, e1, rfl⟩ := e
    simp only [Top, Rep] at t1
    obtain ⟨p, rfl, h1⟩ := t1
    refine .inl ⟨p, _, i, .int n, rfl, top_int t2, sqL_of h1, ?_, q H _ (Aft.val rl (by simp [Rep]))⟩
    unfold atI at e1 ⊢
    simp only [Option.bind_eq_some_iff] at e1 ⊢
    obtain ⟨j, e2, e3⟩ := e1
    exact ⟨j, by simpa using e2, by simp [e3]⟩
  · cases e

/-! ### slices -/
/-- a part of a slice -/
def SndO (X : Cy) (o : Option Expr) (f : En → Bx → O (Option Int)) : Prop :=
  ∃ t : TO, PO X o t ∧ ∀ F ρ E B σ H (Q : Option Int → Hp → Prop), Rel X.K F ρ E B σ H → (match f E B with | .ok i E' B' => ∀ ρ' H', AftT X.K F ρ E B σ H ρ' E' B' H' → Q i H' | .ex c E' B' => ExQ X.K X.q F ρ c E' B' | .bad => False) → t σ H Q
def mNoPart : En → Bx → O (Option Int) := fun E B => .ok none E B
def mPart (f : Ex) : En → Bx → O (Option Int) := fun E B => (f E B).bind fun r E1 B1 =>
  match r with
  | .w (.int i) => .ok (some i) E1 B1
  | _ => .bad
theorem sndO_none : SndO X none mNoPart := ⟨_, po_none, fun F ρ E B σ H Q rl h => h ρ H (AftT.refl rl)⟩
theorem sndO_some (ha : SndE X a fa) : SndO X (some a) (mPart fa) := by
  obtain ⟨ta, pa, ha⟩ := ha
  refine ⟨_, po_some pa, fun F ρ E B σ H Q rl h => ?_⟩
  refine ha F ρ E B σ H _ rl ?_
  simp only [mPart] at h
  cases h1 : fa E B with
  | bad => rw [h1] at h; exact h
  | ex c E' B' => rw [h1] at h ; first | exact h | exact Aft.exq (by assumption) h | exact AftT.exq (by assumption) h | exact Aft.exq (by assumption) (Aft.exq (by assumption) h) | exact AftT.exq (by assumption) (Aft.exq (by assumption) h) | exact AftT.exq (AftA.t (by assumption)) h | exact ExQ.px h (Aft.px (by assumption)) | exact ExQ.px h (List.IsPrefix.trans (AftT.px (by assumption)) (Aft.px (by assumption))) | exact Aft.exq (by assumption) (AftT.exq (by assumption) h) | exact Aft.exq (by assumption) (Aft.exq (by assumption) (AftT.exq (by assumption) h))
  | ok r1 E1 B1 =>
    rw [h1] at h
    intro ρ1 H1 v1 A1
    simp only [O.bind_ok] at h
    cases r1 with
    | w u =>
      cases u with
      | int i =>
        have rr := A1.rep
        simp only [RepR, Rep] at rr
        exact ⟨i, rr, h ρ1 H1 A1.letgo⟩
      | _ => exact h.elim
    | _ => exact h.elim
def cutU (us : List U) (lo hi : Option Int) : List U := (us.drop (HT.sIx us.length 0 lo)).take (HT.sIx us.length us.length hi - HT.sIx us.length 0 lo)
def gSl (u : U) (lo hi : Option Int) : Option R :=
  match u with
  | .lst us => some (.fr (.lst (cutU us lo hi)))
  | .tup us => some (.w (.tup (cutU us lo hi)))
  | .str z => if z.length ≤ 16777216 then some (.w (.str (cutS z lo hi))) else none
  | _ => none
def mSl (fa : Ex) (fl fh : En → Bx → O (Option Int)) : Ex := fun E B =>
  (fa E B).bind fun r E1 B1 => (fl E1 B1).bind fun lo E2 B2 => (fh E2 B2).bind fun hi E3 B3 =>
    match view r E3 B3 with
    | some u => match gSl u lo hi with
      | some r => .ok r E3 B3
      | none => .bad
    | none => .bad
theorem cutU_reps {K : PySem.W.Frag} {H : Hp} {Lv : AS} {ρ : List Addr} {us : List U} {vs : List V} {lo hi : Option Int} (h : Reps K H Lv ρ us vs) : Reps K H Lv ρ (cutU us lo hi) (cutV vs lo hi) := by
  unfold cutU cutV
  rw [h.len]
  exact (h.drop _).take _
theorem cutV_all {us : List V} {lo hi : Option Int} (h : HT.sIx us.length 0 lo = 0 ∧ HT.sIx us.length us.length hi = us.length) : cutV us lo hi = us := by
  unfold cutV
  rw [h.1, h.2]
  simp
theorem sndE_sl {lo hi : Option Expr} {fl fh : En → Bx → O (Option Int)} (ha : SndE X a fa) (hl : SndO X lo fl) (hh : SndO X hi fh) : SndE X (.Subscript a (.Slice lo hi none p2) pos) (mSl fa fl fh) := by
  obtain ⟨ta, pa, ha⟩ := ha
  obtain ⟨tl, pl, hl⟩ := hl
  obtain ⟨th, ph, hh⟩ := hh
  refine ⟨_, pe_slice ((sl_list.or sl_tupA).or sl_str) pa pl ph, fun F ρ E B σ H Q rl h => ?_⟩
  refine ha F ρ E B σ H _ rl ?_
  simp only [mSl] at h
  cases h1 : fa E B with
  | bad => rw [h1] at h; exact h
  | ex c E' B' => rw [h1] at h ; first | exact h | exact Aft.exq (by assumption) h | exact AftT.exq (by assumption) h | exact Aft.exq (by assumption) (Aft.exq (by assumption) h) | exact AftT.exq (by assumption) (Aft.exq (by assumption) h) | exact AftT.exq (AftA.t (by assumption)) h | exact ExQ.px h (Aft.px (by assumption)) | exact ExQ.px h (List.IsPrefix.trans (AftT.px (by assumption)) (Aft.px (by assumption))) | exact Aft.exq (by assumption) (AftT.exq (by assumption) h) | exact Aft.exq (by assumption) (Aft.exq (by assumption) (AftT.exq (by assumption) h))
  | ok r1 E1 B1 =>
    rw [h1] at h
    intro ρ1 H1 v1 A1
    simp only [O.bind_ok] at h
    refine hl _ ρ1 E1 B1 σ H1 _ A1.rel ?_
    cases h2 : fl E1 B1 with
    | bad => rw [h2] at h; exact h
    | ex c E' B' => rw [h2] at h ; first | exact h | exact Aft.exq (by assumption) h | exact AftT.exq (by assumption) h | exact Aft.exq (by assumption) (Aft.exq (by assumption) h) | exact AftT.exq (by assumption) (Aft.exq (by assumption) h) | exact AftT.exq (AftA.t (by assumption)) h | exact ExQ.px h (Aft.px (by assumption)) | exact ExQ.px h (List.IsPrefix.trans (AftT.px (by assumption)) (Aft.px (by assumption))) | exact Aft.exq (by assumption) (AftT.exq (by assumption) h) | exact Aft.exq (by assumption) (Aft.exq (by assumption) (AftT.exq (by assumption) h))
    | ok lo E2 B2 =>
      rw [h2] at h
      simp only [O.bind_ok] at h
      intro ρ2 H2 A2
      have A12 := A1.carry A2
      refine hh _ ρ2 E2 B2 σ H2 _ A12.rel ?_
      cases h3 : fh E2 B2 with
      | bad => rw [h3] at h; exact h
      | ex c E' B' => rw [h3] at h ; first | exact h | exact Aft.exq (by assumption) h | exact AftT.exq (by assumption) h | exact Aft.exq (by assumption) (Aft.exq (by assumption) h) | exact AftT.exq (by assumption) (Aft.exq (by assumption) h) | exact AftT.exq (AftA.t (by assumption)) h | exact ExQ.px h (Aft.px (by assumption)) | exact ExQ.px h (List.IsPrefix.trans (AftT.px (by assumption)) (Aft.px (by assumption))) | exact Aft.exq (by assumption) (AftT.exq (by assumption) h) | exact Aft.exq (by assumption) (Aft.exq (by assumption) (AftT.exq (by assumption) h))
      | ok hi E3 B3 =>
        rw [h3] at h
        simp only [O.bind_ok] at h
        intro ρ3 H3 A3
        have A13 := A12.carry A3
        have T1 := A13.letgo
        split at h
        · next u1 e1 =>
          have t1 := A13.top e1
          split at h
          · next r3 eg =>
            have fin : ∀ H' v, Aft X.K F ρ3 E3 B3 σ H3 r3 ρ3 E3 B3 H' v → Q v H' := fun H' v A4 => h ρ3 H' v (T1.then A4)
            unfold gSl at eg
            split at eg
            · next us =>
              cases eg
              obtain ⟨p, vs, rfl, k1, k2⟩ := t1
              exact .inl (.inl ⟨p, vs, rfl, .inl (.inl k1), fun q hq => fin _ _ (Aft.fresh T1.rel hq (cutU_reps k2))⟩)
            · next us =>
              cases eg
              obtain ⟨p, vs, rfl, k1, k2⟩ := t1
              refine .inl (.inr ⟨p, vs, rfl, sqT_of k1, fun z => fin _ _ (Aft.val T1.rel ?_), fun z q hq => fin _ _ (Aft.tuple T1.rel hq (cutU_reps k2))⟩)
              simp only [Rep]
              refine ⟨p, vs, rfl, k1, ?_⟩
              have := cutU_reps (lo := lo) (hi := hi) k2
              rw [cutV_all z] at this
              exact this
            · next z =>
              split at eg
              · next hz =>
                cases eg
                exact .inr ⟨z, top_str t1, by rw [sizeLine_eq]; exact hz, fin _ _ (Aft.val T1.rel (by simp [Rep]))⟩
              · cases eg
            · cases eg
          · exact h.elim
        · exact h.elim

/-! ### arguments, each at rest -/
structure AftA (K : PySem.W.Frag) (F : Fm) (ρ : List Addr) (E : En) (B : Bx) (σ : L2.St) (H : Hp) (us : List U) (ρ' : List Addr) (E' : En) (B' : Bx) (H' : Hp) (vs : List V) : Prop where
  t : AftT K F ρ E B σ H ρ' E' B' H'
  reps : Reps K H' (LvF F ρ' E' B' σ) ρ' us vs
abbrev Ar := En → Bx → O (List U)
def PostA (K : PySem.W.Frag) (Y : Xq) (F : Fm) (ρ : List Addr) (E : En) (B : Bx) (σ : L2.St) (H : Hp) : O (List U) → (List V → Hp → Prop) → Prop
  | .ok us E' B', Q => ∀ ρ' H' vs, AftA K F ρ E B σ H us ρ' E' B' H' vs → Q vs H'
  | .ex c E' B', _ => ExQ K Y F ρ c E' B'
  | _, _ => False
def SndA (X : Cy) (es : List Expr) (f : Ar) : Prop := ∃ t : TA, PA X es t ∧ ∀ F ρ E B σ H Q, Rel X.K F ρ E B σ H → PostA X.K X.q F ρ E B σ H (f E B) Q → t σ H Q
def mNil : Ar := fun E B => .ok [] E B
def mCons (f : Ex) (fs : Ar) : Ar := fun E B => (f E B).bind fun r E1 B1 =>
  match settle r E1 with
  | some (u, E2) => (fs E2 B1).bind fun us E3 B3 => .ok (u :: us) E3 B3
  | none => .bad
theorem sndA_nil : SndA X [] mNil := ⟨_, pa_nil, fun F ρ E B σ H Q rl h => h ρ H [] ⟨AftT.refl rl, Reps.nil⟩⟩
/-- a result at rest -/
theorem Aft.settled {K : PySem.W.Frag} {F : Fm} {ρ ρ' : List Addr} {E E' E2 : En} {B B' : Bx} {σ : L2.St} {H H' : Hp} {r : R} {v : V} {u : U} (A : Aft K F ρ E B σ H r ρ' E' B' H' v) (h : settle r E' = some (u, E2)) :
    AftT K F ρ E B σ H ρ' E2 B' H' ∧ Rep K H' (LvF F ρ' E2 B' σ) ρ' u v := by
  obtain ⟨h1, h2, h3, h4⟩ := settle_ok A.rel A.rep h
  exact ⟨⟨A.px, h1, A.stp.trans h2, A.le.trans h3⟩, h4⟩
theorem sndA_cons {fs : Ar} (ha : SndE X e fa) (hr : SndA X es fs) (hs : starEach (e :: es) X.env = (false, eval e X.env) :: starEach es X.env := by rfl) : SndA X (e :: es) (mCons fa fs) := by
  obtain ⟨ta, pa, ha⟩ := ha
  obtain ⟨tr, pr, hr⟩ := hr
  refine ⟨_, pa_cons pa pr hs, fun F ρ E B σ H Q rl h => ?_⟩
  refine ha F ρ E B σ H _ rl ?_
  simp only [mCons] at h
  cases h1 : fa E B with
  | bad => rw [h1] at h; exact h
  | ex c E' B' => rw [h1] at h ; first | exact h | exact Aft.exq (by assumption) h | exact AftT.exq (by assumption) h | exact Aft.exq (by assumption) (Aft.exq (by assumption) h) | exact AftT.exq (by assumption) (Aft.exq (by assumption) h) | exact AftT.exq (AftA.t (by assumption)) h | exact ExQ.px h (Aft.px (by assumption)) | exact ExQ.px h (List.IsPrefix.trans (AftT.px (by assumption)) (Aft.px (by assumption))) | exact Aft.exq (by assumption) (AftT.exq (by assumption) h) | exact Aft.exq (by assumption) (Aft.exq (by assumption) (AftT.exq (by assumption) h))
  | ok r1 E1 B1 =>
    rw [h1] at h
    intro ρ1 H1 v1 A1
    simp only [O.bind_ok] at h
    split at h
    · next u E2 es =>
      obtain ⟨T1, R1⟩ := A1.settled es
      refine hr F ρ1 E2 B1 σ H1 _ T1.rel ?_
      cases h2 : fs E2 B1 with
      | bad => rw [h2] at h; exact h
      | ex c E' B' => rw [h2] at h ; first | exact h | exact Aft.exq (by assumption) h | exact AftT.exq (by assumption) h | exact Aft.exq (by assumption) (Aft.exq (by assumption) h) | exact AftT.exq (by assumption) (Aft.exq (by assumption) h) | exact AftT.exq (AftA.t (by assumption)) h | exact ExQ.px h (Aft.px (by assumption)) | exact ExQ.px h (List.IsPrefix.trans (AftT.px (by assumption)) (Aft.px (by assumption))) | exact Aft.exq (by assumption) (AftT.exq (by assumption) h) | exact Aft.exq (by assumption) (Aft.exq (by assumption) (AftT.exq (by assumption) h))
      | ok us E3 B3 =>
        rw [h2] at h
        simp only [O.bind_ok] at h
        intro ρ3 H3 vs A3
        exact h ρ3 H3 (v1 :: vs) ⟨T1.trans A3.t, Reps.cons (Rep.mono A3.t.stp A3.t.px _ _ R1) A3.reps⟩
    · exact h.elim
/-! ### displays -/
def mTup (fs : Ar) : Ex := fun E B => (fs E B).bind fun us E1 B1 => if us.length ≤ 16777216 then .ok (.w (.tup us)) E1 B1 else .bad
def mLst (fs : Ar) : Ex := fun E B => (fs E B).bind fun us E1 B1 => if us.length ≤ 16777216 then .ok (.fr (.lst us)) E1 B1 else .bad
theorem sndE_tup {fs : Ar} {k} (h : SndA X es fs) : SndE X (.Tuple es k pos) (mTup fs) := by
  obtain ⟨t, p1, h⟩ := h
  refine ⟨_, pe_tup p1, fun F ρ E B σ H Q rl q => ?_⟩
  refine h F ρ E B σ H _ rl ?_
  simp only [mTup] at q
  cases h1 : fs E B with
  | bad => rw [h1] at q; exact q
  | ex c E' B' => rw [h1] at q ; first | exact q | exact Aft.exq (by assumption) q | exact AftT.exq (by assumption) q | exact Aft.exq (by assumption) (Aft.exq (by assumption) q) | exact AftT.exq (by assumption) (Aft.exq (by assumption) q) | exact AftT.exq (AftA.t (by assumption)) q | exact ExQ.px q (Aft.px (by assumption)) | exact ExQ.px q (List.IsPrefix.trans (AftT.px (by assumption)) (Aft.px (by assumption))) | exact Aft.exq (by assumption) (AftT.exq (by assumption) q) | exact Aft.exq (by assumption) (Aft.exq (by assumption) (AftT.exq (by assumption) q))
  | ok us E1 B1 =>
    rw [h1] at q
    intro ρ1 H1 vs A1
    simp only [O.bind_ok] at q
    split at q
    · next hl => exact ⟨by rw [sizeLine_eq, ← A1.reps.len]; exact hl, fun p hp => q ρ1 _ _ (A1.t.then (Aft.tuple A1.t.rel hp A1.reps))⟩
    · exact q.elim
theorem sndE_lst {fs : Ar} (h : SndA X es fs) : SndE X (.List es pos) (mLst fs) := by
  obtain ⟨t, p1, h⟩ := h
  refine ⟨_, pe_lst p1, fun F ρ E B σ H Q rl q => ?_⟩
  refine h F ρ E B σ H _ rl ?_
  simp only [mLst] at q
  cases h1 : fs E B with
  | bad => rw [h1] at q; exact q
  | ex c E' B' => rw [h1] at q ; first | exact q | exact Aft.exq (by assumption) q | exact AftT.exq (by assumption) q | exact Aft.exq (by assumption) (Aft.exq (by assumption) q) | exact AftT.exq (by assumption) (Aft.exq (by assumption) q) | exact AftT.exq (AftA.t (by assumption)) q | exact ExQ.px q (Aft.px (by assumption)) | exact ExQ.px q (List.IsPrefix.trans (AftT.px (by assumption)) (Aft.px (by assumption))) | exact Aft.exq (by assumption) (AftT.exq (by assumption) q) | exact Aft.exq (by assumption) (Aft.exq (by assumption) (AftT.exq (by assumption) q))
  | ok us E1 B1 =>
    rw [h1] at q
    intro ρ1 H1 vs A1
    simp only [O.bind_ok] at q
    split at q
    · next hl => exact ⟨by rw [sizeLine_eq, ← A1.reps.len]; exact hl, fun p hp => q ρ1 _ _ (A1.t.then (Aft.fresh A1.t.rel hp A1.reps))⟩
    · exact q.elim
/-! ### built-ins of several arguments at rest -/
def mB (g : List U → Option R) (fs : Ar) : Ex := fun E B => (fs E B).bind fun us E1 B1 =>
  match g us with
  | some r => .ok r E1 B1
  | none => .bad
def CallNS (X : Cy) (f : Value) (g : List U → Option R) : Prop :=
  ∃ r, CallR X f r ∧ ∀ F ρ E B σ H us vs r3 Q, Rel X.K F ρ E B σ H → Reps X.K H (LvF F ρ E B σ) ρ us vs → g us = some r3 → (∀ H' v, Aft X.K F ρ E B σ H r3 ρ E B H' v → Q v H') → r vs H Q
theorem sndE_bn {id : String} {g : List U → Option R} {fs : Ar} (hc : CallNS X (.builtin id) g) (hm : X.mg x = none) (hv : bootBuiltins x = some (.builtin id)) (ha : SndA X (e :: es) fs) (hg : Gl X x := by rfl) (hn : x ≠ "__name__" := by decide) (hdb : (x == ("__debug__" : Str)) = false := by decide)
    (hs : starEach (e :: es) X.env = (false, eval e X.env) :: starEach es X.env := by rfl) (hpl : (backTo pos (starEach es X.env)).any (·.1) = false := by rfl) : SndE X (.Call (.Name x p) (e :: es) [] pos) (mB g fs) := by
  obtain ⟨r, hr, ho⟩ := hc
  obtain ⟨ta, pa, ha⟩ := ha
  refine ⟨_, pe_callB hr hg hm hv pa hn hdb hs hpl, fun F ρ E B σ H Q rl q => ?_⟩
  refine ha F ρ E B σ H _ rl ?_
  simp only [mB] at q
  cases h1 : fs E B with
  | bad => rw [h1] at q; exact q
  | ex c E' B' => rw [h1] at q ; first | exact q | exact Aft.exq (by assumption) q | exact AftT.exq (by assumption) q | exact Aft.exq (by assumption) (Aft.exq (by assumption) q) | exact AftT.exq (by assumption) (Aft.exq (by assumption) q) | exact AftT.exq (AftA.t (by assumption)) q | exact ExQ.px q (Aft.px (by assumption)) | exact ExQ.px q (List.IsPrefix.trans (AftT.px (by assumption)) (Aft.px (by assumption))) | exact Aft.exq (by assumption) (AftT.exq (by assumption) q) | exact Aft.exq (by assumption) (Aft.exq (by assumption) (AftT.exq (by assumption) q))
  | ok us E1 B1 =>
    rw [h1] at q
    intro ρ1 H1 vs A1
    simp only [O.bind_ok] at q
    split at q
    · next r3 eg => exact ho F ρ1 E1 B1 σ H1 us vs r3 Q A1.t.rel A1.reps eg fun H' v A3 => q ρ1 H' v (A1.t.then A3)
    · exact q.elim
def gMax2 : List U → Option R
  | [.int i, .int j] => some (.w (.int (if j > i then j else i)))
  | _ => none
def gMin2 : List U → Option R
  | [.int i, .int j] => some (.w (.int (if j < i then j else i)))
  | _ => none
theorem callN_max (hc : X.calm = true) : CallNS X (.builtin "max") gMax2 := by
  refine ⟨_, call_max2 hc, fun F ρ E B σ H us vs r3 Q rl t e q => ?_⟩
  unfold gMax2 at e
  split at e
  · next i j =>
    cases e
    simp only [Reps, Rep] at t
    obtain ⟨v, r, rfl, rfl, w, r2, rfl, rfl, rfl⟩ := t
    exact ⟨i, j, rfl, q H _ (Aft.val rl (by simp [Rep]))⟩
  · cases e
theorem callN_min (hc : X.calm = true) : CallNS X (.builtin "min") gMin2 := by
  refine ⟨_, call_min2 hc, fun F ρ E B σ H us vs r3 Q rl t e q => ?_⟩
  unfold gMin2 at e
  split at e
  · next i j =>
    cases e
    simp only [Reps, Rep] at t
    obtain ⟨v, r, rfl, rfl, w, r2, rfl, rfl, rfl⟩ := t
    exact ⟨i, j, rfl, q H _ (Aft.val rl (by simp [Rep]))⟩
  · cases e
/-! ### methods of texts -/
def mM (g : U → List U → Option R) (fo : Ex) (fs : Ar) : Ex := fun E B => (fo E B).bind fun r E1 B1 =>
  match r with
  | .w (.str z) => (fs E1 B1).bind fun us E2 B2 => match g (.str z) us with
    | some r => .ok r E2 B2
    | none => .bad
  | _ => .bad
def MethS (X : Cy) (id : String) (g : U → List U → Option R) : Prop :=
  ∃ r, MtR X id r ∧ ∀ F ρ E B σ H (z : Str) us vs r3 Q, Rel X.K F ρ E B σ H → Reps X.K H (LvF F ρ E B σ) ρ us vs → g (.str z) us = some r3 → (∀ H' v, Aft X.K F ρ E B σ H r3 ρ E B H' v → Q v H') → r (.str z) vs H Q
end
end QB
/-! QbF: writing, calls of defs, statements, defs. -/
namespace QB
open PySem L2
section
variable {K : PySem.W.Frag} {F : Fm} {ρ ρ' : List Addr} {E E' : En} {B B' : Bx} {σ : L2.St} {H H' : Hp} {p : Addr} {v : V} {u : U} {o : Option HO}
theorem Rel.setVal {i : Nat} (r : Rel K F ρ E B σ H) (hi : i < E.length) (h : Rep K H (LvF F ρ E B σ) ρ u v) : Rel K F ρ (E.set i (.val u)) B (σ.set i (some v)) H := by
  have px : ρ <+: ρ := List.prefix_refl _
  have hi2 : i < σ.length := by rw [← r.elen]; exact hi
  have ownSet : ∀ (j : Nat) (d : Cell), (E.set i (.val u))[j]? = some (.own d) → E[j]? = some (.own d) ∧ (σ.set i (some v))[j]? = σ[j]? := fun j d e => by
    by_cases hj : i = j
    · subst hj; rw [List.getElem?_set_self hi] at e; cases e
    · rw [List.getElem?_set_ne hj] at e; exact ⟨e, List.getElem?_set_ne hj⟩
  have less : ∀ q, LvF F ρ (E.set i (.val u)) B (σ.set i (some v)) q → LvF F ρ E B σ q := fun q z => by
    rcases z with z | z | ⟨j, d, h1, h2⟩
    · exact .inl z
    · exact .inr (.inl z)
    · obtain ⟨h3, h4⟩ := ownSet j d h1
      exact .inr (.inr ⟨j, d, h3, by rw [← h4]; exact h2⟩)
  have s : Stp H (LvF F ρ E B σ) H (LvF F ρ (E.set i (.val u)) B (σ.set i (some v))) := Stp.less less
  refine ⟨by rw [List.length_set, List.length_set]; exact r.elen, r.blen, fun j w e => ?_, fun j d e => ?_, fun j k d f q e1 e2 e3 e4 => ?_, fun j d q e1 e2 e3 => ?_, r.binj, r.out, r.old.trans s, r.grow⟩
  · by_cases hj : i = j
    · subst hj; rw [List.getElem?_set_self hi] at e; cases e; exact ⟨v, List.getElem?_set_self hi2, h.mono s px⟩
    · rw [List.getElem?_set_ne hj] at e
      obtain ⟨w', h1, h2⟩ := r.val j w e
      exact ⟨w', by rw [List.getElem?_set_ne hj]; exact h1, h2.mono s px⟩
  · obtain ⟨h1, h2⟩ := ownSet j d e
    obtain ⟨h3, q, h4, h5, h6⟩ := r.own j d h1
    exact ⟨h3, q, by rw [h2]; exact h4, h5.mono s px rfl, h6⟩
  · obtain ⟨a1, a2⟩ := ownSet j d e1
    obtain ⟨b1, b2⟩ := ownSet k f e2
    exact r.oinj j k d f q a1 b1 (by rw [← a2]; exact e3) (by rw [← b2]; exact e4)
  · obtain ⟨h4, h5⟩ := r.box j d q e1 e2 e3
    exact ⟨h4.mono s px rfl, h5⟩
theorem Rel.setOwn {i : Nat} {c : Cell} (r : Rel K (F.add p o) ρ E B σ H) (n : New F p) (hi : i < E.length) (hl : c.live = true) (h : CellOk K H (LvF (F.add p o) ρ E B σ) ρ c p) : Rel K F ρ (E.set i (.own c)) B (σ.set i (some (.ref p))) H := by
  have px : ρ <+: ρ := List.prefix_refl _
  have hi2 : i < σ.length := by rw [← r.elen]; exact hi
  have ownSet : ∀ (j : Nat) (d : Cell), i ≠ j → (E.set i (.own c))[j]? = some (.own d) → E[j]? = some (.own d) ∧ (σ.set i (some (.ref p)))[j]? = σ[j]? := fun j d hj e => by
    rw [List.getElem?_set_ne hj] at e; exact ⟨e, List.getElem?_set_ne hj⟩
  have less : ∀ q, LvF F ρ (E.set i (.own c)) B (σ.set i (some (.ref p))) q → LvF (F.add p o) ρ E B σ q := fun q z => by
    rw [LvF.add_iff]
    rcases z with z | z | ⟨j, d, h1, h2⟩
    · exact .inl (.inl z)
    · exact .inl (.inr (.inl z))
    · by_cases hj : i = j
      · subst hj
        rw [List.getElem?_set_self hi2] at h2
        exact .inr (by simpa using h2.symm)
      · obtain ⟨h3, h4⟩ := ownSet j d hj h1
        exact .inl (.inr (.inr ⟨j, d, h3, by rw [← h4]; exact h2⟩))
  have s : Stp H (LvF (F.add p o) ρ E B σ) H (LvF F ρ (E.set i (.own c)) B (σ.set i (some (.ref p)))) := Stp.less less
  have notB : ¬ BLv ρ B p := fun ⟨j, d, h1, h2, h3⟩ => (r.box j d p h1 h2 h3).2 (.inr rfl)
  have nes : ∀ (j : Nat) (d : Cell) (q : Addr), E[j]? = some (.own d) → σ[j]? = some (some (.ref q)) → q ≠ p := fun j d q e1 e2 e => by
    obtain ⟨_, p', h3, _, h4, _⟩ := r.own j d e1
    rw [h3] at e2
    have : p' = q := by simpa using e2
    subst this
    exact h4 (.inr e)
  refine ⟨by rw [List.length_set, List.length_set]; exact r.elen, r.blen, fun j w e => ?_, fun j d e => ?_, fun j k d f q e1 e2 e3 e4 => ?_, fun j d q e1 e2 e3 => ?_, r.binj, fun q h => ?_, fun q u h z => ?_, fun q u h => ?_⟩
  · by_cases hj : i = j
    · subst hj; rw [List.getElem?_set_self hi] at e; cases e
    · rw [List.getElem?_set_ne hj] at e
      obtain ⟨w', h1, h2⟩ := r.val j w e
      exact ⟨w', by rw [List.getElem?_set_ne hj]; exact h1, h2.mono s px⟩
  · by_cases hj : i = j
    · subst hj; rw [List.getElem?_set_self hi] at e; cases e
      exact ⟨hl, p, List.getElem?_set_self hi2, h.mono s px rfl, n.out, notB⟩
    · obtain ⟨h1, h2⟩ := ownSet j d hj e
      obtain ⟨h3, q, h4, h5, h6, h7⟩ := r.own j d h1
      exact ⟨h3, q, by rw [h2]; exact h4, h5.mono s px rfl, fun z => h6 (.inl z), h7⟩
  · by_cases hj : i = j <;> by_cases hk : i = k
    · omega
    · subst hj
      obtain ⟨b1, b2⟩ := ownSet k f hk e2
      rw [List.getElem?_set_self hi2] at e3
      have : p = q := by simpa using e3
      subst this
      exact absurd rfl (nes k f p b1 (by rw [← b2]; exact e4))
    · subst hk
      obtain ⟨b1, b2⟩ := ownSet j d hj e1
      rw [List.getElem?_set_self hi2] at e4
      have : p = q := by simpa using e4
      subst this
      exact absurd rfl (nes j d p b1 (by rw [← b2]; exact e3))
    · obtain ⟨a1, a2⟩ := ownSet j d hj e1
      obtain ⟨b1, b2⟩ := ownSet k f hk e2
      exact r.oinj j k d f q a1 b1 (by rw [← a2]; exact e3) (by rw [← b2]; exact e4)
  · obtain ⟨h4, h5⟩ := r.box j d q e1 e2 e3
    exact ⟨h4.mono s px rfl, fun z => h5 (.inl z)⟩
  · have ne : q ≠ p := fun z => n.out (z ▸ h)
    have e := r.out q (.inl h)
    simpa [Fm.add, ne] using e
  · have ne : q ≠ p := fun y => by rw [y, n.h0] at h; cases h
    have := r.old q u (by simp [Fm.add, ne, h]) (fun y => y.elim z ne)
    exact ⟨this.1, fun y => this.2 (less q y)⟩
  · have ne : q ≠ p := fun y => by rw [y, n.h0] at h; cases h
    exact r.grow q u (by simp [Fm.add, ne, h])
/-! ### writing -/
def cellOf (r : R) (E : En) (B : Bx) : Option Cell :=
  match r with
  | .s i => match E[i]? with
    | some (.own c) => some c
    | some (.val (.box j)) => B[j]?
    | _ => none
  | .w (.box j) => B[j]?
  | _ => none
def put (r : R) (E : En) (B : Bx) (c : Cell) : En × Bx :=
  match r with
  | .s i => match E[i]? with
    | some (.own _) => (E.set i (.own c), B)
    | some (.val (.box j)) => (E, B.set j c)
    | _ => (E, B)
  | .w (.box j) => (E, B.set j c)
  | _ => (E, B)
/-- the cell at p, live, gets another content -/
theorem Rel.wrS {i : Nat} {c c' : Cell} {ob : HO} (r : Rel K F ρ E B σ H) (he : E[i]? = some (.own c)) (hσ : σ[i]? = some (some (.ref p))) (hl' : c'.live = true)
    (hc : Stp H (LvF F ρ E B σ) (upd H p ob) (LvF F ρ (E.set i (.own c')) B σ) → CellOk K (upd H p ob) (LvF F ρ (E.set i (.own c')) B σ) ρ c' p) :
    Rel K F ρ (E.set i (.own c')) B σ (upd H p ob) ∧ Stp H (LvF F ρ E B σ) (upd H p ob) (LvF F ρ (E.set i (.own c')) B σ) ∧ EnLe E (E.set i (.own c')) := by
  have px : ρ <+: ρ := List.prefix_refl _
  have hi : i < E.length := (List.getElem?_eq_some_iff.mp he).1
  obtain ⟨_, p', hp', _, nO, nB⟩ := r.own i c he
  rw [hσ] at hp'
  have e : p' = p := by simpa using hp'.symm
  subst e
  have lv : ∀ q, LvF F ρ (E.set i (.own c')) B σ q → LvF F ρ E B σ q := fun q z => by
    rcases z with z | z | ⟨j, d, h1, h2⟩
    · exact .inl z
    · exact .inr (.inl z)
    · by_cases hj : i = j
      · subst hj; exact .inr (.inr ⟨i, c, he, h2⟩)
      · rw [List.getElem?_set_ne hj] at h1; exact .inr (.inr ⟨j, d, h1, h2⟩)
  have lp : LvF F ρ E B σ p' := .inr (.inr ⟨i, c, he, hσ⟩)
  have s : Stp H (LvF F ρ E B σ) (upd H p' ob) (LvF F ρ (E.set i (.own c')) B σ) := fun q x h n => ⟨.inl (by rw [upd_ne (by rintro rfl; exact n lp)]; exact h), fun z => n (lv q z)⟩
  refine ⟨⟨by rw [List.length_set]; exact r.elen, r.blen, fun j w e => ?_, fun j d e => ?_, fun j k d f q e1 e2 e3 e4 => ?_, fun j d q e1 e2 e3 => ?_, r.binj, fun q h => ?_, r.old.trans s, fun q x h => ?_⟩, s, fun j hj => ?_⟩
  · by_cases hj : i = j
    · subst hj; rw [List.getElem?_set_self hi] at e; cases e
    · rw [List.getElem?_set_ne hj] at e
      obtain ⟨w', h1, h2⟩ := r.val j w e
      exact ⟨w', h1, h2.mono s px⟩
  · by_cases hj : i = j
    · subst hj; rw [List.getElem?_set_self hi] at e; cases e
      exact ⟨hl', p', hσ, hc s, nO, nB⟩
    · rw [List.getElem?_set_ne hj] at e
      obtain ⟨h3, q, h4, h5, h6, h7⟩ := r.own j d e
      have ne : q ≠ p' := fun z => by subst z; exact hj (r.oinj i j c d q he e hσ h4)
      exact ⟨h3, q, h4, h5.mono s px (upd_ne ne), h6, h7⟩
  · have key : ∀ (j : Nat) (d : Cell), (E.set i (.own c'))[j]? = some (.own d) → ∃ d', E[j]? = some (.own d') := fun j d e => by
      by_cases hj : i = j
      · subst hj; exact ⟨c, he⟩
      · rw [List.getElem?_set_ne hj] at e; exact ⟨d, e⟩
    obtain ⟨d1, a1⟩ := key j d e1
    obtain ⟨d2, a2⟩ := key k f e2
    exact r.oinj j k d1 d2 q a1 a2 e3 e4
  · obtain ⟨h4, h5⟩ := r.box j d q e1 e2 e3
    have ne : q ≠ p' := fun z => nB (z ▸ ⟨j, d, e1, e2, e3⟩)
    exact ⟨h4.mono s px (upd_ne ne), h5⟩
  · have ne : q ≠ p' := fun z => nO (z ▸ h)
    rw [upd_ne ne]; exact r.out q h
  · obtain ⟨o', h1⟩ := r.grow q x h
    by_cases ne : q = p'
    · subst ne; exact ⟨ob, upd_same⟩
    · exact ⟨o', by rw [upd_ne ne]; exact h1⟩
  · by_cases hj' : i = j
    · subst hj'; exact .inr ⟨c', List.getElem?_set_self hi⟩
    · unfold IsSet; rw [List.getElem?_set_ne hj']; exact hj
theorem Rel.wrB {i : Nat} {c c' : Cell} {ob : HO} (r : Rel K F ρ E B σ H) (hb : B[i]? = some c) (hl : c.live = true) (hρ : ρ[i]? = some p) (hl' : c'.live = true)
    (hc : Stp H (LvF F ρ E B σ) (upd H p ob) (LvF F ρ E (B.set i c') σ) → CellOk K (upd H p ob) (LvF F ρ E (B.set i c') σ) ρ c' p) :
    Rel K F ρ E (B.set i c') σ (upd H p ob) ∧ Stp H (LvF F ρ E B σ) (upd H p ob) (LvF F ρ E (B.set i c') σ) := by
  have px : ρ <+: ρ := List.prefix_refl _
  have hi : i < B.length := (List.getElem?_eq_some_iff.mp hb).1
  obtain ⟨_, nO⟩ := r.box i c p hb hl hρ
  have key : ∀ (j : Nat) (d : Cell), (B.set i c')[j]? = some d → d.live = true → ∃ d', B[j]? = some d' ∧ d'.live = true := fun j d e hd => by
    by_cases hj : i = j
    · subst hj; exact ⟨c, hb, hl⟩
    · rw [List.getElem?_set_ne hj] at e; exact ⟨d, e, hd⟩
  have lv : ∀ q, LvF F ρ E (B.set i c') σ q → LvF F ρ E B σ q := fun q z => by
    rcases z with z | ⟨j, d, h1, h2, h3⟩ | z
    · exact .inl z
    · obtain ⟨d', h4, h5⟩ := key j d h1 h2
      exact .inr (.inl ⟨j, d', h4, h5, h3⟩)
    · exact .inr (.inr z)
  have blv : ∀ q, BLv ρ (B.set i c') q → BLv ρ B q := fun q ⟨j, d, h1, h2, h3⟩ => by
    obtain ⟨d', h4, h5⟩ := key j d h1 h2
    exact ⟨j, d', h4, h5, h3⟩
  have lb : BLv ρ B p := ⟨i, c, hb, hl, hρ⟩
  have lp : LvF F ρ E B σ p := .inr (.inl lb)
  have s : Stp H (LvF F ρ E B σ) (upd H p ob) (LvF F ρ E (B.set i c') σ) := fun q x h n => ⟨.inl (by rw [upd_ne (by rintro rfl; exact n lp)]; exact h), fun z => n (lv q z)⟩
  refine ⟨⟨r.elen, by rw [List.length_set]; exact r.blen, fun j w e => ?_, fun j d e => ?_, r.oinj, fun j d q e1 e2 e3 => ?_, fun j k d f q e1 e2 e3 e4 e5 e6 => ?_, fun q h => ?_, r.old.trans s, fun q x h => ?_⟩, s⟩
  · obtain ⟨w', h1, h2⟩ := r.val j w e
    exact ⟨w', h1, h2.mono s px⟩
  · obtain ⟨h3, q, h4, h5, h6, h7⟩ := r.own j d e
    have ne : q ≠ p := fun z => h7 (z ▸ lb)
    exact ⟨h3, q, h4, h5.mono s px (upd_ne ne), h6, fun z => h7 (blv q z)⟩
  · by_cases hj : i = j
    · subst hj
      rw [List.getElem?_set_self hi] at e1; cases e1
      rw [hρ] at e3; cases e3
      exact ⟨hc s, nO⟩
    · rw [List.getElem?_set_ne hj] at e1
      obtain ⟨h4, h5⟩ := r.box j d q e1 e2 e3
      have ne : q ≠ p := fun z => by subst z; exact hj (r.binj i j c d q hb hl e1 e2 hρ e3)
      exact ⟨h4.mono s px (upd_ne ne), h5⟩
  · obtain ⟨d1, a1, a2⟩ := key j d e1 e2
    obtain ⟨d2, a3, a4⟩ := key k f e3 e4
    exact r.binj j k d1 d2 q a1 a2 a3 a4 e5 e6
  · have ne : q ≠ p := fun z => nO (z ▸ h)
    rw [upd_ne ne]; exact r.out q h
  · obtain ⟨o', h1⟩ := r.grow q x h
    by_cases ne : q = p
    · subst ne; exact ⟨ob, upd_same⟩
    · exact ⟨o', by rw [upd_ne ne]; exact h1⟩
/-- what a changeable thing is, and how it is changed -/
theorem wr_ok {r : R} {c c' : Cell} {ob : HO} (rl : Rel K F ρ E B σ H) (hnf : ∀ d, r ≠ .fr d) (rr : RepR K F H (LvF F ρ E B σ) ρ E σ r v) (hc : cellOf r E B = some c) (hl : c.live = true) (hl' : c'.live = true) :
    ∃ p, v = .ref p ∧ CellOk K H (LvF F ρ E B σ) ρ c p ∧
      ∀ ob, (∀ Lv', Stp H (LvF F ρ E B σ) (upd H p ob) Lv' → CellOk K (upd H p ob) Lv' ρ c' p) → AftT K F ρ E B σ H ρ (put r E B c').1 (put r E B c').2 (upd H p ob) := by
  have px : ρ <+: ρ := List.prefix_refl _
  have boxed : ∀ j, B[j]? = some c → Rep K H (LvF F ρ E B σ) ρ (.box j) v → ∃ p, v = .ref p ∧ CellOk K H (LvF F ρ E B σ) ρ c p ∧
      ∀ ob, (∀ Lv', Stp H (LvF F ρ E B σ) (upd H p ob) Lv' → CellOk K (upd H p ob) Lv' ρ c' p) → AftT K F ρ E B σ H ρ E (B.set j c') (upd H p ob) := fun j hB hr => by
    simp only [Rep] at hr
    obtain ⟨p, hp, rfl⟩ := hr
    refine ⟨p, rfl, (rl.box j c p hB hl hp).1, fun ob h => ?_⟩
    obtain ⟨h1, h2⟩ := rl.wrB (ob := ob) hB hl hp hl' (h _)
    exact ⟨px, h1, h2, EnLe.refl⟩
  cases r with
  | fr d => exact absurd rfl (hnf d)
  | w x =>
    cases x with
    | box j => exact boxed j hc rr
    | _ => cases hc
  | s i =>
    simp only [cellOf] at hc
    simp only [put]
    split at hc
    · next d hd =>
      cases hc
      obtain ⟨_, p, h1, h2, _⟩ := rl.own i c hd
      have e : v = .ref p := by
        have := rr.1
        rw [h1] at this
        simpa using this.symm
      subst e
      refine ⟨p, rfl, h2, fun ob h => ?_⟩
      obtain ⟨h3, h4, h5⟩ := rl.wrS (ob := ob) hd h1 hl' (h _)
      exact ⟨px, h3, h4, h5⟩
    · next j hj =>
      obtain ⟨w, h4, h5⟩ := rl.val i _ hj
      have e : w = v := by
        have := rr.1
        rw [h4] at this
        simpa using this
      subst e
      exact boxed j hc h5
    · cases hc
end

/-! ### calls of defs -/
def OB (Out : AS) (ρ : List Addr) (B : Bx) : AS := fun q => Out q ∨ BLv ρ B q
structure BRel (K : PySem.W.Frag) (Out : AS) (ρ : List Addr) (B : Bx) (H : Hp) : Prop where
  blen : ρ.length = B.length
  box : ∀ (i : Nat) (c : Cell) (p : Addr), B[i]? = some c → c.live = true → ρ[i]? = some p → CellOk K H (OB Out ρ B) ρ c p ∧ ¬ Out p
  binj : ∀ (i j : Nat) (c d : Cell) (p : Addr), B[i]? = some c → c.live = true → B[j]? = some d → d.live = true → ρ[i]? = some p → ρ[j]? = some p → i = j
  out : ∀ q, Out q → ∃ o, H q = some o
structure BAft (K : PySem.W.Frag) (Out : AS) (ρ : List Addr) (B : Bx) (H : Hp) (u : U) (ρ' : List Addr) (B' : Bx) (H' : Hp) (v : V) : Prop where
  px : ρ <+: ρ'
  rel : BRel K Out ρ' B' H'
  same : ∀ q, Out q → H' q = H q
  stp : Stp H (OB Out ρ B) H' (OB Out ρ' B')
  grow : ∀ q o, H q = some o → ∃ o', H' q = some o'
  rep : Rep K H' (OB Out ρ' B') ρ' u v
/-- the promise: the def does what the function g says -/
def spF (K : PySem.W.Frag) (mg : Str → Option Value) (n : Nat) (g : Fn) : Sp := fun vs H Q Ek => ∃ Out ρ B us, us.length = n ∧ BRel K Out ρ B H ∧ Reps K H (OB Out ρ B) ρ us vs ∧
  match g us B with
  | .ok u B' => ∀ ρ' H' v, BAft K Out ρ B H u ρ' B' H' v → Q v H'
  | .ex c B' => ∀ ρ' H' cls dx v, BAft K Out ρ B H c.val ρ' B' H' v → mg c.cls = some cls → H' dx = some (.xd [("value", v)]) → ¬ OB Out ρ' B' dx → Ek cls (some dx) H'
  | .bad => False
theorem spF_len {K : PySem.W.Frag} {mg : Str → Option Value} {n : Nat} {g : Fn} : ∀ vs H Q E, spF K mg n g vs H Q E → vs.length = n := fun vs H Q E ⟨Out, ρ, B, us, h1, _, h3, _⟩ => by rw [← h3.len]; exact h1
/-- where g says more -/
def FLe (g g' : Fn) : Prop := ∀ us B, g' us B ≠ .bad → g us B = g' us B
theorem spF_imp {K : PySem.W.Frag} {mg : Str → Option Value} {n : Nat} {g g' : Fn} (h : ∀ us B, us.length = n → g' us B ≠ .bad → g us B = g' us B) : ∀ vs H Q E, spF K mg n g' vs H Q E → spF K mg n g vs H Q E := fun vs H Q E ⟨Out, ρ, B, us, h1, h2, h3, h4⟩ =>
  ⟨Out, ρ, B, us, h1, h2, h3, by
    cases e : g' us B with
    | bad => rw [e] at h4; exact h4.elim
    | ex c B' =>
      rw [h us B h1 (by rw [e]; intro z; cases z), e]
      rw [e] at h4
      exact h4
    | ok u B' =>
      rw [h us B h1 (by rw [e]; intro z; cases z), e]
      rw [e] at h4
      exact h4⟩
section
variable {K : PySem.W.Frag} {F : Fm} {ρ ρ' : List Addr} {E E' : En} {B B' : Bx} {σ : L2.St} {H H' : Hp} {p : Addr} {v : V} {u : U} {o : Option HO}
abbrev outOf (F : Fm) (E : En) (σ : L2.St) : AS := fun q => F.Out q ∨ SLv E σ q
theorem ob_iff {q : Addr} : OB (outOf F E σ) ρ B q ↔ LvF F ρ E B σ q := by
  unfold OB LvF outOf
  constructor
  · rintro ((h | h) | h)
    · exact .inl h
    · exact .inr (.inr h)
    · exact .inr (.inl h)
  · rintro (h | h | h)
    · exact .inl (.inl h)
    · exact .inr h
    · exact .inl (.inr h)
theorem ob_eq : OB (outOf F E σ) ρ B = LvF F ρ E B σ := funext fun _ => propext ob_iff
theorem Rel.brel (r : Rel K F ρ E B σ H) : BRel K (outOf F E σ) ρ B H := by
  refine ⟨r.blen, fun i c p h1 h2 h3 => ?_, r.binj, fun q h => r.lv_there q (ob_iff.mp (.inl h))⟩
  obtain ⟨h4, h5⟩ := r.box i c p h1 h2 h3
  rw [ob_eq]
  refine ⟨h4, fun z => z.elim h5 fun ⟨j, d, e1, e2⟩ => ?_⟩
  obtain ⟨_, p', e3, _, _, e4⟩ := r.own j d e1
  rw [e3] at e2
  have : p' = p := by simpa using e2
  subst this
  exact e4 ⟨i, c, h1, h2, h3⟩
theorem Rel.back {v : V} (r : Rel K F ρ E B σ H) (a : BAft K (outOf F E σ) ρ B H u ρ' B' H' v) : Aft K F ρ E B σ H (.w u) ρ' E B' H' v := by
  have s : Stp H (LvF F ρ E B σ) H' (LvF F ρ' E B' σ) := by have := a.stp; rw [ob_eq, ob_eq] at this; exact this
  have rp : Rep K H' (LvF F ρ' E B' σ) ρ' u v := by have := a.rep; rw [ob_eq] at this; exact this
  refine ⟨a.px, ⟨r.elen, a.rel.blen, fun i w h => ?_, fun i c h => ?_, r.oinj, fun i c q h1 h2 h3 => ?_, a.rel.binj, fun q h => ?_, r.old.trans s, fun q x h => ?_⟩, s, EnLe.refl, rp⟩
  · obtain ⟨w', h1, h2⟩ := r.val i w h
    exact ⟨w', h1, h2.mono s a.px⟩
  · obtain ⟨h1, q, h2, h3, h4, h5⟩ := r.own i c h
    have oq : outOf F E σ q := .inr ⟨i, c, h, h2⟩
    exact ⟨h1, q, h2, h3.mono s a.px (a.same q oq), h4, fun ⟨j, d, e1, e2, e3⟩ => (a.rel.box j d q e1 e2 e3).2 oq⟩
  · have := a.rel.box i c q h1 h2 h3
    rw [ob_eq] at this
    exact ⟨this.1, fun z => this.2 (.inl z)⟩
  · rw [a.same q (.inl h)]; exact r.out q h
  · obtain ⟨o', h1⟩ := r.grow q x h
    exact a.grow q o' h1
end
def mCall (g : Fn) (fs : Ar) : Ex := fun E B => (fs E B).bind fun us E1 B1 =>
  match g us B1 with
  | .ok u B2 => .ok (.w u) E1 B2
  | .ex c B2 => .ex c E1 B2
  | .bad => .bad
section
variable {X : Cy} {a b c e : Expr} {es : List Expr} {fa fb : Ex} {fs : Ar} {pos p p2 p3 cpos apos : Pos} {x : Str} {k : Nat} {f : Addr} {fd : FuncData} {ps : List Str} {g : Fn}
theorem ob_not {F : Fm} {ρ : List Addr} {E : En} {B : Bx} {σ : L2.St} {q : Addr} (h : ¬ OB (outOf F E σ) ρ B q) : ¬ LvF F ρ E B σ q := fun z => h (ob_iff.mpr z)
theorem call_reads {sp : Sp} {t : TA} (hsp : sp = spF X.K X.mg ps.length g) (ha : ∀ F ρ E B σ H Q, Rel X.K F ρ E B σ H → PostA X.K X.q F ρ E B σ H (fs E B) Q → t σ H Q) (hlen : ∀ us B, us.length ≠ ps.length → g us B = .bad) :
    ∀ F ρ E B σ H Q, Rel X.K F ρ E B σ H → PostE X.K X.q F ρ E B σ H (mCall g fs E B) Q → tCallS sp (WE X.W) t σ H Q := by
  subst hsp
  intro F ρ E B σ H Q rl q
  refine ha F ρ E B σ H _ rl ?_
  simp only [mCall] at q
  cases h1 : fs E B with
  | bad => rw [h1] at q; exact q
  | ex c E' B' => rw [h1] at q; exact q
  | ok us E1 B1 =>
    rw [h1] at q
    intro ρ1 H1 vs A1
    simp only [O.bind_ok] at q
    have hl : us.length = ps.length := by
      by_cases z : us.length = ps.length
      · exact z
      · rw [hlen us B1 z] at q; exact q.elim
    refine ⟨outOf F E1 σ, ρ1, B1, us, hl, A1.t.rel.brel, by rw [ob_eq]; exact A1.reps, ?_⟩
    cases h2 : g us B1 with
    | bad => rw [h2] at q; exact q.elim
    | ex c B2 =>
      rw [h2] at q
      intro ρ2 H2 cls dx v A2 e1 e2 e3
      have A3 := A1.t.rel.back A2
      exact q ρ2 σ H2 cls (some dx) (A1.t.px.trans A3.px) A3.rel ⟨dx, v, e1, rfl, e2, ob_not e3, A3.rep⟩
    | ok u B2 =>
      rw [h2] at q
      exact fun ρ2 H2 v A2 => q ρ2 H2 v (A1.t.then (A1.t.rel.back A2))
theorem sndE_call (Fk : FnOk X.prog X.w X.K X.mg X.base (L2.CX X.prog X.w) k f fd ps (spF X.K X.mg ps.length g)) (hr : Room k X.A) (hm : X.mg x = some (.ref f)) (hk : PySem.W.keepIn X.K (.ref f) = true) (hb : Binds X.K fd ps []) (hlen : ∀ us B, us.length ≠ ps.length → g us B = .bad) (ha : SndA X (e :: es) fs)
    (hg : Gl X x := by rfl) (hdb : (x == ("__debug__" : Str)) = false := by decide) (hs : starEach (e :: es) X.env = (false, eval e X.env) :: starEach es X.env := by rfl) (hpl : (backTo pos (starEach es X.env)).any (·.1) = false := by rfl) : SndE X (.Call (.Name x p) (e :: es) [] pos) (mCall g fs) := by
  obtain ⟨t, p1, ha⟩ := ha
  exact ⟨_, pe_callS Fk hr hg hm hk hb (fun σ => passAt X.tk σ) p1 hdb hs hpl, call_reads rfl ha hlen⟩
theorem sndE_call0 (Fk : FnOk X.prog X.w X.K X.mg X.base (L2.CX X.prog X.w) k f fd [] (spF X.K X.mg 0 g)) (hr : Room k X.A) (hm : X.mg x = some (.ref f)) (hk : PySem.W.keepIn X.K (.ref f) = true) (hb : Binds X.K fd [] []) (hlen : ∀ us B, us.length ≠ 0 → g us B = .bad)
    (hg : Gl X x := by rfl) (hdb : (x == ("__debug__" : Str)) = false := by decide) : SndE X (.Call (.Name x p) [] [] pos) (mCall g mNil) := by
  refine ⟨tCallS (spF X.K X.mg 0 g) (WE X.W) (fun σ H Q => Q [] H), ⟨fun pins s σ H Q I h => ?_⟩, call_reads (X := X) (ps := []) (fs := mNil) rfl (fun F ρ E B σ H Q rl h => h ρ H [] ⟨AftT.refl rl, Reps.nil⟩) hlen⟩
  refine wpAny_Call_Name_kw (ld_glob I hg hm ?_ hdb)
  exact PySem.W.callWith_K0 I.kIn hk (run_fnS (us := []) (E := WE X.W) Fk hr hb (passAt X.tk σ) I .nil h)
end

/-! ### statements -/
inductive Fl where
  | nx | rt (u : U) | bk | ct
abbrev Sm := En → Bx → O Fl
def PostS (K : PySem.W.Frag) (Y : Xq) (F : Fm) (ρ : List Addr) (o : O Fl) (D : Ends) : Prop :=
  match o with
  | .ok .nx E' B' => ∀ ρ' σ' H', ρ <+: ρ' → Rel K F ρ' E' B' σ' H' → D.nx σ' H'
  | .ok .bk E' B' => ∀ ρ' σ' H', ρ <+: ρ' → Rel K F ρ' E' B' σ' H' → D.bk σ' H'
  | .ok .ct E' B' => ∀ ρ' σ' H', ρ <+: ρ' → Rel K F ρ' E' B' σ' H' → D.ct σ' H'
  | .ok (.rt u) E' B' => ∀ ρ' σ' H' v, ρ <+: ρ' → Rel K F ρ' E' B' σ' H' → Rep K H' (LvF F ρ' E' B' σ') ρ' u v → D.rt v H'
  | .ex c E' B' => ExQ K Y F ρ c E' B'
  | .bad => False
def SndS (X : Cy) (st : Stmt) (f : Sm) : Prop := ∃ t : TS, PS X st t ∧ ∀ F ρ E B σ H D, Rel X.K F ρ E B σ H → PostS X.K X.q F ρ (f E B) D → t D σ H
def SndB (X : Cy) (sts : List Stmt) (f : Sm) : Prop := ∃ t : TS, PSs X sts t ∧ ∀ F ρ E B σ H D, Rel X.K F ρ E B σ H → PostS X.K X.q F ρ (f E B) D → t D σ H
def sNext : Sm := fun E B => .ok .nx E B
def sBreak : Sm := fun E B => .ok .bk E B
def sCont : Sm := fun E B => .ok .ct E B
def sBad : Sm := fun _ _ => .bad
def sSeq (f g : Sm) : Sm := fun E B => (f E B).bind fun fl E1 B1 =>
  match fl with
  | .nx => g E1 B1
  | fl => .ok fl E1 B1
def sSet (i : Nat) (f : Ex) : Sm := fun E B => (f E B).bind fun r E1 B1 =>
  match settle r E1 with
  | some (u, E2) => if i < E2.length then .ok .nx (E2.set i (.val u)) B1 else .bad
  | none => .bad
def sOwn (i : Nat) (f : Ex) : Sm := fun E B => (f E B).bind fun r E1 B1 =>
  match r with
  | .fr c => if i < E1.length then .ok .nx (E1.set i (.own c)) B1 else .bad
  | _ => .bad
def sExpr (f : Ex) : Sm := fun E B => (f E B).bind fun _ E1 B1 => .ok .nx E1 B1
def sRet (f : Ex) : Sm := fun E B => (f E B).bind fun r E1 B1 =>
  match settle r E1 with
  | some (u, E2) => .ok (.rt u) E2 B1
  | none => .bad
def sRetN : Sm := fun E B => .ok (.rt .non) E B
def sIf (c : Te) (f g : Sm) : Sm := fun E B => (c E B).bind fun b E1 B1 => if b = true then f E1 B1 else g E1 B1
theorem PostS.px {K : PySem.W.Frag} {F : Fm} {ρ ρ' : List Addr} {o : O Fl} {D : Ends} (h : PostS K Y F ρ o D) (e : ρ <+: ρ') : PostS K Y F ρ' o D := by
  cases o with
  | bad => exact h
  | ex _ _ _ => exact ExQ.px h e
  | ok fl E B =>
    cases fl with
    | nx => exact fun ρ2 σ H x => h ρ2 σ H (e.trans x)
    | bk => exact fun ρ2 σ H x => h ρ2 σ H (e.trans x)
    | ct => exact fun ρ2 σ H x => h ρ2 σ H (e.trans x)
    | rt u => exact fun ρ2 σ H v x => h ρ2 σ H v (e.trans x)
section
variable {X : Cy} {a b c e : Expr} {es : List Expr} {fa fb : Ex} {ft : Te} {f g : Sm} {pos p p2 p3 cpos apos : Pos} {x : Str} {st : Stmt} {rest sts : List Stmt}
theorem sndB_nil : SndB X [] sNext := ⟨_, pss_nil, fun F ρ E B σ H D rl h => h ρ σ H (List.prefix_refl _) rl⟩
theorem sndB_one (h : SndS X st f) : SndB X [st] f := by
  obtain ⟨t, p1, h⟩ := h
  exact ⟨t, pss_one p1, h⟩
theorem sndB_cons (h : SndS X st f) (hr : SndB X rest g) : SndB X (st :: rest) (sSeq f g) := by
  obtain ⟨t, p1, h⟩ := h
  obtain ⟨u, p2, hr⟩ := hr
  refine ⟨_, pss_cons p1 p2, fun F ρ E B σ H D rl q => ?_⟩
  refine h F ρ E B σ H _ rl ?_
  simp only [sSeq] at q
  cases h1 : f E B with
  | bad => rw [h1] at q; exact q
  | ex c E' B' => rw [h1] at q ; first | exact q | exact Aft.exq (by assumption) q | exact AftT.exq (by assumption) q | exact Aft.exq (by assumption) (Aft.exq (by assumption) q) | exact AftT.exq (by assumption) (Aft.exq (by assumption) q) | exact AftT.exq (AftA.t (by assumption)) q | exact ExQ.px q (Aft.px (by assumption)) | exact ExQ.px q (List.IsPrefix.trans (AftT.px (by assumption)) (Aft.px (by assumption))) | exact Aft.exq (by assumption) (AftT.exq (by assumption) q) | exact Aft.exq (by assumption) (Aft.exq (by assumption) (AftT.exq (by assumption) q))
  | ok fl E1 B1 =>
    rw [h1] at q
    simp only [O.bind_ok] at q
    cases fl with
    | nx => exact fun ρ1 σ1 H1 px r1 => hr F ρ1 E1 B1 σ1 H1 D r1 (q.px px)
    | bk => exact q
    | ct => exact q
    | rt u => exact q
theorem sndS_pass : SndS X (.Pass pos) sNext := ⟨_, ps_pass, fun F ρ E B σ H D rl h => h ρ σ H (List.prefix_refl _) rl⟩
theorem sndS_break : SndS X (.Break pos) sBreak := ⟨_, ps_break, fun F ρ E B σ H D rl h => h ρ σ H (List.prefix_refl _) rl⟩
theorem sndS_continue : SndS X (.Continue pos) sCont := ⟨_, ps_continue, fun F ρ E B σ H D rl h => h ρ σ H (List.prefix_refl _) rl⟩
theorem sndS_never : SndS X st sBad := ⟨_, ps_never, fun F ρ E B σ H D rl h => h.elim⟩
theorem sndB_never : SndB X sts sBad := ⟨_, pss_never, fun F ρ E B σ H D rl h => h.elim⟩
theorem sndS_if {bs cs : List Stmt} (ht : SndT X c ft) (hf : SndB X bs f) (hg : SndB X cs g) : SndS X (.If c bs cs pos) (sIf ft f g) := by
  obtain ⟨t, p1, ht⟩ := ht
  obtain ⟨u, p2, hf⟩ := hf
  obtain ⟨u', p3, hg⟩ := hg
  refine ⟨_, ps_if p1 p2 p3, fun F ρ E B σ H D rl q => ?_⟩
  refine ht F ρ E B σ H _ rl ?_
  simp only [sIf] at q
  cases h1 : ft E B with
  | bad => rw [h1] at q; exact q
  | ex c E' B' => rw [h1] at q ; first | exact q | exact Aft.exq (by assumption) q | exact AftT.exq (by assumption) q | exact Aft.exq (by assumption) (Aft.exq (by assumption) q) | exact AftT.exq (by assumption) (Aft.exq (by assumption) q) | exact AftT.exq (AftA.t (by assumption)) q | exact ExQ.px q (Aft.px (by assumption)) | exact ExQ.px q (List.IsPrefix.trans (AftT.px (by assumption)) (Aft.px (by assumption))) | exact Aft.exq (by assumption) (AftT.exq (by assumption) q) | exact Aft.exq (by assumption) (Aft.exq (by assumption) (AftT.exq (by assumption) q))
  | ok b1 E1 B1 =>
    rw [h1] at q
    intro ρ1 H1 A1
    cases b1 with
    | true =>
      simp only [O.bind_ok, if_true] at q ⊢
      exact hf F ρ1 E1 B1 σ H1 D A1.rel (q.px A1.px)
    | false =>
      simp only [O.bind_ok, Bool.false_eq_true, if_false] at q ⊢
      exact hg F ρ1 E1 B1 σ H1 D A1.rel (q.px A1.px)
theorem set_reads {i : Nat} {t : TE} (ha : ∀ F ρ E B σ H Q, Rel X.K F ρ E B σ H → PostE X.K X.q F ρ E B σ H (fa E B) Q → t σ H Q) : ∀ F ρ E B σ H D, Rel X.K F ρ E B σ H → PostS X.K X.q F ρ (sSet i fa E B) D → tAsg t (gName i) D σ H := by
  intro F ρ E B σ H D rl q
  refine ha F ρ E B σ H _ rl ?_
  simp only [sSet] at q
  cases h1 : fa E B with
  | bad => rw [h1] at q; exact q
  | ex c E' B' => rw [h1] at q ; first | exact q | exact Aft.exq (by assumption) q | exact AftT.exq (by assumption) q | exact Aft.exq (by assumption) (Aft.exq (by assumption) q) | exact AftT.exq (by assumption) (Aft.exq (by assumption) q) | exact AftT.exq (AftA.t (by assumption)) q | exact ExQ.px q (Aft.px (by assumption)) | exact ExQ.px q (List.IsPrefix.trans (AftT.px (by assumption)) (Aft.px (by assumption))) | exact Aft.exq (by assumption) (AftT.exq (by assumption) q) | exact Aft.exq (by assumption) (Aft.exq (by assumption) (AftT.exq (by assumption) q))
  | ok r1 E1 B1 =>
    rw [h1] at q
    intro ρ1 H1 v1 A1
    simp only [O.bind_ok] at q
    split at q
    · next u E2 es =>
      split at q
      · next hi =>
        obtain ⟨T1, R1⟩ := A1.settled es
        exact q ρ1 _ H1 T1.px (T1.rel.setVal hi R1)
      · exact q.elim
    · exact q.elim
theorem own_reads {i : Nat} {t : TE} (ha : ∀ F ρ E B σ H Q, Rel X.K F ρ E B σ H → PostE X.K X.q F ρ E B σ H (fa E B) Q → t σ H Q) : ∀ F ρ E B σ H D, Rel X.K F ρ E B σ H → PostS X.K X.q F ρ (sOwn i fa E B) D → tAsg t (gName i) D σ H := by
  intro F ρ E B σ H D rl q
  refine ha F ρ E B σ H _ rl ?_
  simp only [sOwn] at q
  cases h1 : fa E B with
  | bad => rw [h1] at q; exact q
  | ex c E' B' => rw [h1] at q ; first | exact q | exact Aft.exq (by assumption) q | exact AftT.exq (by assumption) q | exact Aft.exq (by assumption) (Aft.exq (by assumption) q) | exact AftT.exq (by assumption) (Aft.exq (by assumption) q) | exact AftT.exq (AftA.t (by assumption)) q | exact ExQ.px q (Aft.px (by assumption)) | exact ExQ.px q (List.IsPrefix.trans (AftT.px (by assumption)) (Aft.px (by assumption))) | exact Aft.exq (by assumption) (AftT.exq (by assumption) q) | exact Aft.exq (by assumption) (Aft.exq (by assumption) (AftT.exq (by assumption) q))
  | ok r1 E1 B1 =>
    rw [h1] at q
    intro ρ1 H1 v1 A1
    simp only [O.bind_ok] at q
    cases r1 with
    | w _ => exact q.elim
    | s _ => exact q.elim
    | fr c =>
      simp only at q
      split at q
      · next hi =>
        obtain ⟨p, rfl, hl, hc, hn⟩ := A1.rep
        exact q ρ1 _ H1 A1.px (Rel.setOwn (o := H1 p) A1.rel hn hi hl hc)
      · exact q.elim
theorem sndS_set {i : Nat} (ha : SndE X a fa) (hN : X.N.Nodup) (hi : X.N[i]? = some x := by rfl) (hx : Loc X.env.scope x := by first | exact Or.inl rfl | exact Or.inr rfl) (hs : swapsWith a (some (.Name x p)) pos.line X.env = pure false := by rfl)
    (hf : X.fn x = true ∨ X.env.scope.names.lookup x = some .local := by first | exact .inl rfl | exact .inr rfl | assumption) : SndS X (.Assign [.Name x p] a pos) (sSet i fa) := by
  obtain ⟨t, p1, ha⟩ := ha
  exact ⟨_, ps_set hN hi hx p1 hs hf, set_reads ha⟩
theorem sndS_own {i : Nat} (ha : SndE X a fa) (hN : X.N.Nodup) (hi : X.N[i]? = some x := by rfl) (hx : Loc X.env.scope x := by first | exact Or.inl rfl | exact Or.inr rfl) (hs : swapsWith a (some (.Name x p)) pos.line X.env = pure false := by rfl)
    (hf : X.fn x = true ∨ X.env.scope.names.lookup x = some .local := by first | exact .inl rfl | exact .inr rfl | assumption) : SndS X (.Assign [.Name x p] a pos) (sOwn i fa) := by
  obtain ⟨t, p1, ha⟩ := ha
  exact ⟨_, ps_set hN hi hx p1 hs hf, own_reads ha⟩
theorem sndS_expr (ha : SndE X a fa) (hs : swapsWith a none pos.line X.env = pure false := by rfl) : SndS X (.Expr a pos) (sExpr fa) := by
  obtain ⟨t, p1, ha⟩ := ha
  refine ⟨_, ps_expr p1 hs, fun F ρ E B σ H D rl q => ?_⟩
  refine ha F ρ E B σ H _ rl ?_
  simp only [sExpr] at q
  cases h1 : fa E B with
  | bad => rw [h1] at q; exact q
  | ex c E' B' => rw [h1] at q ; first | exact q | exact Aft.exq (by assumption) q | exact AftT.exq (by assumption) q | exact Aft.exq (by assumption) (Aft.exq (by assumption) q) | exact AftT.exq (by assumption) (Aft.exq (by assumption) q) | exact AftT.exq (AftA.t (by assumption)) q | exact ExQ.px q (Aft.px (by assumption)) | exact ExQ.px q (List.IsPrefix.trans (AftT.px (by assumption)) (Aft.px (by assumption))) | exact Aft.exq (by assumption) (AftT.exq (by assumption) q) | exact Aft.exq (by assumption) (Aft.exq (by assumption) (AftT.exq (by assumption) q))
  | ok r1 E1 B1 => rw [h1] at q; exact fun ρ1 H1 v1 A1 => q ρ1 σ H1 A1.px A1.letgo.rel
theorem sndS_ret (ha : SndE X a fa) : SndS X (.Return (some a) pos) (sRet fa) := by
  obtain ⟨t, p1, ha⟩ := ha
  refine ⟨_, ps_ret p1, fun F ρ E B σ H D rl q => ?_⟩
  refine ha F ρ E B σ H _ rl ?_
  simp only [sRet] at q
  cases h1 : fa E B with
  | bad => rw [h1] at q; exact q
  | ex c E' B' => rw [h1] at q ; first | exact q | exact Aft.exq (by assumption) q | exact AftT.exq (by assumption) q | exact Aft.exq (by assumption) (Aft.exq (by assumption) q) | exact AftT.exq (by assumption) (Aft.exq (by assumption) q) | exact AftT.exq (AftA.t (by assumption)) q | exact ExQ.px q (Aft.px (by assumption)) | exact ExQ.px q (List.IsPrefix.trans (AftT.px (by assumption)) (Aft.px (by assumption))) | exact Aft.exq (by assumption) (AftT.exq (by assumption) q) | exact Aft.exq (by assumption) (Aft.exq (by assumption) (AftT.exq (by assumption) q))
  | ok r1 E1 B1 =>
    rw [h1] at q
    intro ρ1 H1 v1 A1
    simp only [O.bind_ok] at q
    split at q
    · next u E2 es =>
      obtain ⟨T1, R1⟩ := A1.settled es
      exact q ρ1 σ H1 v1 T1.px T1.rel R1
    · exact q.elim
theorem sndS_retN : SndS X (.Return none pos) sRetN := ⟨_, ps_retN, fun F ρ E B σ H D rl h => h ρ σ H .non (List.prefix_refl _) rl (by simp [Rep])⟩
end

/-! ### a def by its body -/
def runBody (N n : Nat) (f : Sm) : Fn := fun us B =>
  if us.length = n then
    match f (us.map .val ++ List.replicate (N - us.length) .un) B with
    | .ok (.rt u) _ B' => .ok u B'
    | .ok .nx _ B' => .ok .non B'
    | .ex c _ B' => .ex c B'
    | _ => .bad
  else .bad
theorem runBody_len {N n : Nat} {f : Sm} : ∀ us B, us.length ≠ n → runBody N n f us B = .bad := fun us B h => by unfold runBody; rw [if_neg h]
section
variable {P : Program} {w : World} {K : PySem.W.Frag} {mg : Str → Option Value} {base : Heap}
theorem rel_start {Out : AS} {ρ : List Addr} {B : Bx} {H : Hp} {us : List U} {vs : List V} {N : List Str} (b : BRel K Out ρ B H) (h : Reps K H (OB Out ρ B) ρ us vs) :
    Rel K ⟨Out, H, OB Out ρ B⟩ ρ (us.map .val ++ List.replicate (N.length - us.length) .un) B (L2.start N vs) H := by
  have hl := h.len
  have ev : ∀ (i : Nat) (s : Sl), (us.map Sl.val ++ List.replicate (N.length - us.length) Sl.un)[i]? = some s → s = .un ∨ ∃ u, us[i]? = some u ∧ s = .val u := fun i s e => by
    by_cases hi : i < us.length
    · rw [List.getElem?_append_left (by simpa using hi), List.getElem?_map] at e
      cases q : us[i]? with
      | none => rw [q] at e; cases e
      | some u => rw [q] at e; cases e; exact .inr ⟨u, rfl, rfl⟩
    · rw [List.getElem?_append_right (by simpa using hi)] at e
      exact .inl (List.mem_replicate.mp (List.mem_of_getElem? e)).2
  have nos : ∀ q, ¬ SLv (us.map Sl.val ++ List.replicate (N.length - us.length) Sl.un) (L2.start N vs) q := fun q ⟨i, c, h1, _⟩ => by
    rcases ev i _ h1 with z | ⟨u, _, z⟩ <;> cases z
  have lv : LvF ⟨Out, H, OB Out ρ B⟩ ρ (us.map .val ++ List.replicate (N.length - us.length) .un) B (L2.start N vs) = OB Out ρ B := funext fun q => propext ⟨fun z => by
    rcases z with z | z | z
    · exact .inl z
    · exact .inr z
    · exact absurd z (nos q), fun z => by
    rcases z with z | z
    · exact .inl z
    · exact .inr (.inl z)⟩
  refine ⟨by simp [L2.start, hl], b.blen, fun i u e => ?_, fun i c e => ?_, fun i j c d q e1 e2 e3 e4 => ?_, fun i c q h1 h2 h3 => ?_, b.binj, fun q h => ⟨rfl, b.out q h⟩, by rw [lv]; exact Stp.refl, fun q o h => ⟨o, h⟩⟩
  · rw [lv]
    rcases ev i _ e with z | ⟨u', h1, z⟩
    · cases z
    · cases z
      obtain ⟨v, h2, h3⟩ := h.get h1
      have hi : i < vs.length := (List.getElem?_eq_some_iff.mp h2).1
      exact ⟨v, by unfold L2.start; rw [List.getElem?_append_left (by simpa using hi), List.getElem?_map, h2]; rfl, h3⟩
  · rcases ev i _ e with z | ⟨u, _, z⟩ <;> cases z
  · rcases ev i _ e1 with z | ⟨u, _, z⟩ <;> cases z
  · rw [lv]; exact b.box i c q h1 h2 h3
theorem rel_end {Out : AS} {ρ ρ' : List Addr} {B B' : Bx} {E' : En} {σ' : L2.St} {H H' : Hp} {u : U} {v : V} (px : ρ <+: ρ') (r : Rel K ⟨Out, H, OB Out ρ B⟩ ρ' E' B' σ' H') (h : Rep K H' (LvF ⟨Out, H, OB Out ρ B⟩ ρ' E' B' σ') ρ' u v) : BAft K Out ρ B H u ρ' B' H' v := by
  have less : ∀ q, OB Out ρ' B' q → LvF ⟨Out, H, OB Out ρ B⟩ ρ' E' B' σ' q := fun q z => by
    rcases z with z | z
    · exact .inl z
    · exact .inr (.inl z)
  have s : Stp H' (LvF ⟨Out, H, OB Out ρ B⟩ ρ' E' B' σ') H' (OB Out ρ' B') := Stp.less less
  have px' : ρ' <+: ρ' := List.prefix_refl _
  refine ⟨px, ⟨r.blen, fun i c p h1 h2 h3 => ?_, r.binj, fun q h => ?_⟩, fun q h => (r.out q h).1, r.old.trans s, r.grow, h.mono s px'⟩
  · obtain ⟨h4, h5⟩ := r.box i c p h1 h2 h3
    exact ⟨h4.mono s px' rfl, h5⟩
  · obtain ⟨h1, o, h2⟩ := r.out q h
    exact ⟨o, by rw [h1]; exact h2⟩
/-- a def's context: what leaves it is wished by its caller -/
abbrev defY (P : Program) (w : World) (K : PySem.W.Frag) (mg : Str → Option Value) (base : Heap) (N : List Str) (qual : Str) (scope : Scope) (f : Addr) (cd : Value) (A : Around) (outer : List Env) (s : Shared) (H : Hp) (E : XK) : Cy :=
  ⟨cxOf (L2.CX P w) P w K mg base N qual scope f cd A outer s H E, fun cls d _ H' => E cls d H', takes_of rfl rfl rfl rfl, passes_of rfl⟩
theorem fn_body {x qual : Str} {st : Stmt} {f : Addr} {fd : FuncData} {N ps : List Str} {k : Nat} {body : Sm} (Fu : Fun K x qual st f fd) (S : FnScope N ps (defScope st))
    (h : ∀ (cdv : Value) (A : Around) (outer : List Env) (s : Shared) (H : Hp) (E : XK), Room k (A.deeper (PyProof.Rows.envOfC qual (defScope st) s.heap.objs.size f cdv)) →
      SndB (defY P w K mg base N qual (defScope st) f cdv A outer s H E) (defBody st) body) : FnOk P w K mg base (L2.CX P w) (k + 1) f fd ps (spF K mg ps.length (runBody N.length ps.length body)) := by
  refine Fu.okX S spF_len fun cdv A outer s H vs Q E hr hsp => ?_
  obtain ⟨t, p1, ht⟩ := h cdv A outer s H E hr
  refine ⟨t, p1, ?_⟩
  obtain ⟨Out, ρ, B, us, hl, hb, hrs, q⟩ := hsp
  refine ht ⟨Out, H, OB Out ρ B⟩ ρ (us.map Sl.val ++ List.replicate (N.length - us.length) Sl.un) B (L2.start N vs) H _ (rel_start (N := N) hb hrs) ?_
  unfold runBody at q
  rw [if_pos hl] at q
  cases h1 : body (us.map .val ++ List.replicate (N.length - us.length) .un) B with
  | bad => rw [h1] at q; exact q.elim
  | ex c E' B' =>
    rw [h1] at q
    intro ρ' σ' H' cls d px r x
    obtain ⟨dx, v, e1, rfl, e2, e3, e4⟩ := x
    exact q ρ' H' cls dx v (rel_end px r e4) e1 e2 fun z => e3 (by rcases z with z | z; exact .inl z; exact .inr (.inl z))
  | ok fl E' B' =>
    rw [h1] at q
    cases fl with
    | nx => exact fun ρ' σ' H' px r => q ρ' H' .non (rel_end px r (by simp [Rep]))
    | rt u => exact fun ρ' σ' H' v px r hr => q ρ' H' v (rel_end px r hr)
    | bk => exact q.elim
    | ct => exact q.elim
end
end QB
/-! QbG: methods, stores, loops. -/
namespace QB
open PySem L2
section
variable {X : Cy} {a b c e o i : Expr} {es : List Expr} {fa fb fo fe fi : Ex} {fs : Ar} {pos p p2 p3 cpos apos pos' : Pos} {x name : Str}

/-! ### methods of texts -/
theorem mM_reads {id : String} {g : U → List U → Option R} {r : V → List V → Hp → VK → Prop} {to : TE} {t : TA}
    (hm : ∀ F ρ E B σ H (z : Str) us vs r3 Q, Rel X.K F ρ E B σ H → Reps X.K H (LvF F ρ E B σ) ρ us vs → g (.str z) us = some r3 → (∀ H' v, Aft X.K F ρ E B σ H r3 ρ E B H' v → Q v H') → r (.str z) vs H Q)
    (ho : ∀ F ρ E B σ H Q, Rel X.K F ρ E B σ H → PostE X.K X.q F ρ E B σ H (fo E B) Q → to σ H Q) (ha : ∀ F ρ E B σ H Q, Rel X.K F ρ E B σ H → PostA X.K X.q F ρ E B σ H (fs E B) Q → t σ H Q) :
    ∀ F ρ E B σ H Q, Rel X.K F ρ E B σ H → PostE X.K X.q F ρ E B σ H (mM g fo fs E B) Q → to σ H fun x H1 => (∃ z, x = .str z) ∧ t σ H1 fun xs H2 => r x xs H2 Q := by
  intro F ρ E B σ H Q rl q
  refine ho F ρ E B σ H _ rl ?_
  simp only [mM] at q
  cases h1 : fo E B with
  | bad => rw [h1] at q; exact q
  | ex c E' B' => rw [h1] at q ; first | exact q | exact Aft.exq (by assumption) q | exact AftT.exq (by assumption) q | exact Aft.exq (by assumption) (Aft.exq (by assumption) q) | exact AftT.exq (by assumption) (Aft.exq (by assumption) q) | exact AftT.exq (AftA.t (by assumption)) q | exact ExQ.px q (Aft.px (by assumption)) | exact ExQ.px q (List.IsPrefix.trans (AftT.px (by assumption)) (Aft.px (by assumption))) | exact Aft.exq (by assumption) (AftT.exq (by assumption) q) | exact Aft.exq (by assumption) (Aft.exq (by assumption) (AftT.exq (by assumption) q))
  | ok r1 E1 B1 =>
    rw [h1] at q
    intro ρ1 H1 v1 A1
    simp only [O.bind_ok] at q
    split at q
    · next r' z =>
      have rr := A1.rep
      simp only [RepR, Rep] at rr
      subst rr
      have T1 := A1.letgo
      refine ⟨⟨z, rfl⟩, ha F ρ1 E1 B1 σ H1 _ T1.rel ?_⟩
      cases h2 : fs E1 B1 with
      | bad => rw [h2] at q; exact q
      | ex c E' B' => rw [h2] at q ; first | exact q | exact Aft.exq (by assumption) q | exact AftT.exq (by assumption) q | exact Aft.exq (by assumption) (Aft.exq (by assumption) q) | exact AftT.exq (by assumption) (Aft.exq (by assumption) q) | exact AftT.exq (AftA.t (by assumption)) q | exact ExQ.px q (Aft.px (by assumption)) | exact ExQ.px q (List.IsPrefix.trans (AftT.px (by assumption)) (Aft.px (by assumption))) | exact Aft.exq (by assumption) (AftT.exq (by assumption) q) | exact Aft.exq (by assumption) (Aft.exq (by assumption) (AftT.exq (by assumption) q))
      | ok us E2 B2 =>
        rw [h2] at q
        intro ρ2 H2 vs A2
        simp only [O.bind_ok] at q
        split at q
        · next r3 eg => exact hm F ρ2 E2 B2 σ H2 z us vs r3 Q A2.t.rel A2.reps eg fun H' v A3 => q ρ2 H' v ((T1.trans A2.t).then A3)
        · exact q.elim
    · exact q.elim
theorem sndE_m1 {id : String} {g : U → List U → Option R} (slot : Slot "str" name id) (ty : typeOf (.builtin id) = pure (.type "method_descriptor")) (hm : MethS X id g) (ho : SndE X o fo) (ha : SndE X e fe)
    (hs : starEach [e] X.env = [(false, eval e X.env)] := by rfl) (hb : attributeBase o name X.env (eval o X.env) = eval o X.env := by rfl) (hl : (apos.endLine == pos.line) = true := by rfl) : SndE X (.Call (.Attribute o name apos) [e] [] pos) (mM g fo (mCons fe mNil)) := by
  obtain ⟨r, hr, hm⟩ := hm
  obtain ⟨to, po, ho⟩ := ho
  have ⟨te, pe, he⟩ := ha
  obtain ⟨t, pt, ht⟩ := sndA_cons ha sndA_nil hs
  refine ⟨_, pe_m1 slot ty hr po pe hs hb hl, fun F ρ E B σ H Q rl q => ?_⟩
  -- one argument: the list reading and the single one say the same
  have key : ∀ F ρ E B σ H Q, Rel X.K F ρ E B σ H → PostA X.K X.q F ρ E B σ H (mCons fe mNil E B) Q → (fun σ H Q => te σ H fun y H2 => Q [y] H2 : TA) σ H Q := by
    intro F ρ E B σ H Q rl q
    refine he F ρ E B σ H _ rl ?_
    simp only [mCons] at q
    cases h1 : fe E B with
    | bad => rw [h1] at q; exact q
    | ex c E' B' => rw [h1] at q ; first | exact q | exact Aft.exq (by assumption) q | exact AftT.exq (by assumption) q | exact Aft.exq (by assumption) (Aft.exq (by assumption) q) | exact AftT.exq (by assumption) (Aft.exq (by assumption) q) | exact AftT.exq (AftA.t (by assumption)) q | exact ExQ.px q (Aft.px (by assumption)) | exact ExQ.px q (List.IsPrefix.trans (AftT.px (by assumption)) (Aft.px (by assumption))) | exact Aft.exq (by assumption) (AftT.exq (by assumption) q) | exact Aft.exq (by assumption) (Aft.exq (by assumption) (AftT.exq (by assumption) q))
    | ok r1 E1 B1 =>
      rw [h1] at q
      intro ρ1 H1 v1 A1
      simp only [O.bind_ok] at q
      split at q
      · next u E2 es =>
        obtain ⟨T1, R1⟩ := A1.settled es
        exact q ρ1 H1 [v1] ⟨T1, Reps.one R1⟩
      · exact q.elim
  have := mM_reads (id := id) (r := r) (to := to) hm ho key F ρ E B σ H Q rl q
  exact this
theorem sndE_m0 {id : String} {g : U → List U → Option R} (slot : Slot "str" name id) (ty : typeOf (.builtin id) = pure (.type "method_descriptor")) (hm : MethS X id g) (ho : SndE X o fo)
    (hb : attributeBase o name X.env (eval o X.env) = eval o X.env := by rfl) (hl : (apos.endLine == pos.line) = true := by rfl) : SndE X (.Call (.Attribute o name apos) [] [] pos) (mM g fo mNil) := by
  obtain ⟨r, hr, hm⟩ := hm
  obtain ⟨to, po, ho⟩ := ho
  refine ⟨_, pe_m0 slot ty hr po hb hl, fun F ρ E B σ H Q rl q => ?_⟩
  exact mM_reads (id := id) (r := r) (to := to) (fs := mNil) (t := fun _ H Q => Q [] H) hm ho (fun F ρ E B σ H Q rl h => h ρ H [] ⟨AftT.refl rl, Reps.nil⟩) F ρ E B σ H Q rl q
theorem sndE_mn {id : String} {g : U → List U → Option R} (pa : PlainAttrs "str") (slot : Slot "str" name id) (ty : typeOf (.builtin id) = pure (.type "method_descriptor")) (hm : MethS X id g) (ho : SndE X o fo) (ha : SndA X (e :: es) fs)
    (hb : attributeBase o name X.env (eval o X.env) = eval o X.env := by rfl) (h3 : (((backTo cpos (starEach (e :: es) X.env)).all fun x => !x.1) && (backToKw cpos (keywordEach [] X.env)).all (·.1.isSome) && decide ((e :: es).length + ([] : List Keyword).length + (if ([] : List Keyword).isEmpty = true then 0 else 1) < 30)) = true := by rfl)
    (hl : (apos.endLine == cpos.line) = true := by rfl) (hs : starEach (e :: es) X.env = (false, eval e X.env) :: starEach es X.env := by rfl) (hpl : (backTo cpos (starEach es X.env)).any (·.1) = false := by rfl) : SndE X (.Call (.Attribute o name apos) (e :: es) [] cpos) (mM g fo fs) := by
  obtain ⟨r, hr, hm⟩ := hm
  obtain ⟨to, po, ho⟩ := ho
  obtain ⟨t, pt, ht⟩ := ha
  refine ⟨_, pe_bm pa slot ty hr po pt hb h3 hl hs hpl, fun F ρ E B σ H Q rl q => ?_⟩
  have := mM_reads (id := id) (r := r) (to := to) hm ho ht F ρ E B σ H (fun v H2 => Q v H2) rl q
  refine (?_ : to σ H fun x H1 => tyV X.K "str" x H1 ∧ t σ H1 fun xs H2 => r x xs H2 Q)
  refine ho F ρ E B σ H _ rl ?_
  simp only [mM] at q
  cases h1 : fo E B with
  | bad => rw [h1] at q; exact q
  | ex c E' B' => rw [h1] at q ; first | exact q | exact Aft.exq (by assumption) q | exact AftT.exq (by assumption) q | exact Aft.exq (by assumption) (Aft.exq (by assumption) q) | exact AftT.exq (by assumption) (Aft.exq (by assumption) q) | exact AftT.exq (AftA.t (by assumption)) q | exact ExQ.px q (Aft.px (by assumption)) | exact ExQ.px q (List.IsPrefix.trans (AftT.px (by assumption)) (Aft.px (by assumption))) | exact Aft.exq (by assumption) (AftT.exq (by assumption) q) | exact Aft.exq (by assumption) (Aft.exq (by assumption) (AftT.exq (by assumption) q))
  | ok r1 E1 B1 =>
    rw [h1] at q
    intro ρ1 H1 v1 A1
    simp only [O.bind_ok] at q
    split at q
    · next r' z =>
      have rr := A1.rep
      simp only [RepR, Rep] at rr
      subst rr
      have T1 := A1.letgo
      refine ⟨rfl, ht F ρ1 E1 B1 σ H1 _ T1.rel ?_⟩
      cases h2 : fs E1 B1 with
      | bad => rw [h2] at q; exact q
      | ex c E' B' => rw [h2] at q ; first | exact q | exact Aft.exq (by assumption) q | exact AftT.exq (by assumption) q | exact Aft.exq (by assumption) (Aft.exq (by assumption) q) | exact AftT.exq (by assumption) (Aft.exq (by assumption) q) | exact AftT.exq (AftA.t (by assumption)) q | exact ExQ.px q (Aft.px (by assumption)) | exact ExQ.px q (List.IsPrefix.trans (AftT.px (by assumption)) (Aft.px (by assumption))) | exact Aft.exq (by assumption) (AftT.exq (by assumption) q) | exact Aft.exq (by assumption) (Aft.exq (by assumption) (AftT.exq (by assumption) q))
      | ok us E2 B2 =>
        rw [h2] at q
        intro ρ2 H2 vs A2
        simp only [O.bind_ok] at q
        split at q
        · next r3 eg => exact hm F ρ2 E2 B2 σ H2 z us vs r3 Q A2.t.rel A2.reps eg fun H' v A3 => q ρ2 H' v ((T1.trans A2.t).then A3)
        · exact q.elim
    · exact q.elim
def strsOf : List U → Option (List Str)
  | [] => some []
  | .str b :: us => (strsOf us).map (b :: ·)
  | _ => none
theorem strsOf_reps {K : PySem.W.Frag} {H : Hp} {Lv : AS} {ρ : List Addr} : ∀ {us : List U} {vs : List V} {bs : List Str}, Reps K H Lv ρ us vs → strsOf us = some bs → vs = bs.map V.str
  | [], vs, bs, h, e => by simp only [Reps] at h; subst h; simp only [strsOf, Option.some.injEq] at e; subst e; rfl
  | u :: us, vs, bs, h, e => by
    simp only [Reps] at h
    obtain ⟨v, r, rfl, h1, h2⟩ := h
    cases u <;> simp only [strsOf, Option.map_eq_some_iff] at e <;> first | (cases e; done) | skip
    obtain ⟨cs, e1, rfl⟩ := e
    simp only [Rep] at h1
    rw [h1, strsOf_reps h2 e1]; rfl
def gJoin : U → List U → Option R
  | .str a, [.lst us] => match strsOf us with
    | some ys => if (ys.map (·.length)).sum + ys.length * a.length ≤ 16777216 then some (.w (.str (Txt.join a ys))) else none
    | none => none
  | _, _ => none
theorem meth_join : MethS X "str.join" gJoin := by
  refine ⟨_, mt_join, fun F ρ E B σ H z us vs r3 Q rl rs e q => ?_⟩
  unfold gJoin at e
  split at e
  · next a ws hz =>
    injection hz with hz
    subst hz
    split at e
    · next ys ey =>
      split at e
      · next hl =>
        cases e
        simp only [Reps, Rep] at rs
        obtain ⟨v, r, rfl, ⟨p, xs, rfl, ⟨h1, _⟩, h2⟩, rfl⟩ := rs
        exact ⟨_, p, ys, rfl, rfl, .inl (.inl (.inl (by rw [h1, strsOf_reps h2 ey]))), hl, q H _ (Aft.val rl (by simp [Rep]))⟩
      · cases e
    · cases e
  · cases e
def gFind3 : U → List U → Option R
  | .str a, [.str b, .int i] => some (.w (.int (Txt.find3 a b i)))
  | _, _ => none
theorem meth_find3 : MethS X "str.find" gFind3 := by
  refine ⟨_, mt_find3, fun F ρ E B σ H z us vs r3 Q rl rs e q => ?_⟩
  unfold gFind3 at e
  split at e
  · next a b i hz =>
    injection hz with hz
    subst hz
    cases e
    simp only [Reps, Rep] at rs
    obtain ⟨v, r, rfl, rfl, w, r2, rfl, rfl, rfl⟩ := rs
    exact ⟨_, b, i, rfl, rfl, q H _ (Aft.val rl (by simp [Rep]))⟩
  · cases e
def gPartition : U → List U → Option R
  | .str a, [.str b] => if (b.length == 0) = false ∧ a.length ≤ 16777216 then some (.w (.tup [.str (Txt.partition a b).1, .str (Txt.partition a b).2.1, .str (Txt.partition a b).2.2])) else none
  | _, _ => none
theorem meth_partition : MethS X "str.partition" gPartition := by
  refine ⟨_, mt_partition, fun F ρ E B σ H z us vs r3 Q rl rs e q => ?_⟩
  unfold gPartition at e
  split at e
  · next a b hz =>
    injection hz with hz
    subst hz
    split at e
    · next hc =>
      cases e
      simp only [Reps, Rep] at rs
      obtain ⟨v, r, rfl, rfl, rfl⟩ := rs
      exact ⟨_, b, rfl, rfl, hc.1, by rw [sizeLine_eq]; exact hc.2, fun p hp => q _ _ (Aft.tuple rl hp (by simp [Reps, Rep]))⟩
    · cases e
  · cases e

/-! ### lists that change -/
def mAppend (fo fe : Ex) : Ex := fun E B => (fo E B).bind fun r E1 B1 =>
  match cellOf r E1 B1 with
  | some (.lst _) => (mCons fe mNil E1 B1).bind fun us E2 B2 =>
    match us, cellOf r E2 B2 with
    | [u], some (.lst xs) => if xs.length < 16777216 then .ok (.w .non) (put r E2 B2 (.lst (xs ++ [u]))).1 (put r E2 B2 (.lst (xs ++ [u]))).2 else .bad
    | _, _ => .bad
  | _ => .bad
theorem cellOf_nfr {r : R} {E : En} {B : Bx} {c : Cell} (h : cellOf r E B = some c) : ∀ d, r ≠ .fr d := fun d z => by subst z; cases h
theorem addR_nfr {F : Fm} {H : Hp} {r : R} {v : V} (h : ∀ d, r ≠ .fr d) : F.addR H r v = F := by
  cases r with
  | fr d => exact absurd rfl (h d)
  | w _ => rfl
  | s _ => rfl
theorem sndE_append (ho : SndE X o fo) (ha : SndE X e fe) (hb : attributeBase o "append" X.env (eval o X.env) = eval o X.env := by rfl)
    (h3 : (((backTo cpos (starEach [e] X.env)).all fun x => !x.1) && (backToKw cpos (keywordEach [] X.env)).all (·.1.isSome) && decide ([e].length + ([] : List Keyword).length + (if ([] : List Keyword).isEmpty = true then 0 else 1) < 30)) = true := by rfl)
    (hl : (apos.endLine == cpos.line) = true := by rfl) (hs : starEach [e] X.env = (false, eval e X.env) :: starEach [] X.env := by rfl) : SndE X (.Call (.Attribute o "append" apos) [e] [] cpos) (mAppend fo fe) := by
  obtain ⟨to, po, ho⟩ := ho
  obtain ⟨t, pt, ht⟩ := sndA_cons ha sndA_nil hs
  refine ⟨_, pe_bm PySem.F.plainAttrs_list PySem.F.slot_list_append PySem.F.type_list_append mt_append po pt hb h3 hl hs, fun F ρ E B σ H Q rl q => ?_⟩
  refine ho F ρ E B σ H _ rl ?_
  simp only [mAppend] at q
  cases h1 : fo E B with
  | bad => rw [h1] at q; exact q
  | ex c E' B' => rw [h1] at q ; first | exact q | exact Aft.exq (by assumption) q | exact AftT.exq (by assumption) q | exact Aft.exq (by assumption) (Aft.exq (by assumption) q) | exact AftT.exq (by assumption) (Aft.exq (by assumption) q) | exact AftT.exq (AftA.t (by assumption)) q | exact ExQ.px q (Aft.px (by assumption)) | exact ExQ.px q (List.IsPrefix.trans (AftT.px (by assumption)) (Aft.px (by assumption))) | exact Aft.exq (by assumption) (AftT.exq (by assumption) q) | exact Aft.exq (by assumption) (Aft.exq (by assumption) (AftT.exq (by assumption) q))
  | ok r1 E1 B1 =>
    rw [h1] at q
    intro ρ1 H1 v1 A1
    simp only [O.bind_ok] at q
    split at q
    · next xs0 hc0 =>
      have nf := cellOf_nfr hc0
      have ae : F.addR H1 r1 v1 = F := addR_nfr nf
      have rel1 : Rel X.K F ρ1 E1 B1 σ H1 := by have := A1.rel; rw [ae] at this; exact this
      have rep1 : RepR X.K F H1 (LvF F ρ1 E1 B1 σ) ρ1 E1 σ r1 v1 := by have := A1.rep; rw [ae] at this; exact this
      obtain ⟨p0, e0, c0, _⟩ := wr_ok (c' := .lst xs0) (ob := .lst []) rel1 nf rep1 hc0 rfl rfl
      obtain ⟨vs0, hv0, _⟩ := c0
      subst e0
      refine ⟨.inl ⟨rfl, vs0, .inl (.inl hv0)⟩, ?_⟩
      refine ht F ρ1 E1 B1 σ H1 _ rel1 ?_
      cases h2 : mCons fe mNil E1 B1 with
      | bad => rw [h2] at q; exact q
      | ex c E' B' => rw [h2] at q ; first | exact q | exact Aft.exq (by assumption) q | exact AftT.exq (by assumption) q | exact Aft.exq (by assumption) (Aft.exq (by assumption) q) | exact AftT.exq (by assumption) (Aft.exq (by assumption) q) | exact AftT.exq (AftA.t (by assumption)) q | exact ExQ.px q (Aft.px (by assumption)) | exact ExQ.px q (List.IsPrefix.trans (AftT.px (by assumption)) (Aft.px (by assumption))) | exact Aft.exq (by assumption) (AftT.exq (by assumption) q) | exact Aft.exq (by assumption) (Aft.exq (by assumption) (AftT.exq (by assumption) q))
      | ok us E2 B2 =>
        rw [h2] at q
        intro ρ2 H2 vs A2
        simp only [O.bind_ok] at q
        split at q
        · next u xs hc =>
          split at q
          · next hlen =>
            have A12 : Aft X.K F ρ E B σ H r1 ρ2 E2 B2 H2 (.ref p0) := A1.carry (by rw [ae]; exact A2.t)
            have ae2 : F.addR H2 r1 (.ref p0) = F := addR_nfr nf
            have rel2 : Rel X.K F ρ2 E2 B2 σ H2 := by have := A12.rel; rw [ae2] at this; exact this
            have rep2 : RepR X.K F H2 (LvF F ρ2 E2 B2 σ) ρ2 E2 σ r1 (.ref p0) := by have := A12.rep; rw [ae2] at this; exact this
            have R2 := A2.reps
            simp only [Reps] at R2
            obtain ⟨v, rr, rfl, hru, rfl⟩ := R2
            obtain ⟨p, ep, cp, wr⟩ := wr_ok (c' := .lst (xs ++ [u])) (ob := .lst []) rel2 nf rep2 hc rfl rfl
            have e' : p0 = p := by injection ep
            subst e'
            obtain ⟨ws, hw, hr⟩ := cp
            have T := wr (.lst (ws ++ [v])) fun Lv' s => ⟨ws ++ [v], upd_same, (hr.mono s (List.prefix_refl _)).append (Reps.one (Rep.mono s (List.prefix_refl _) _ _ hru))⟩
            refine ⟨p0, ws, v, rfl, rfl, hw, by rw [sizeLine_eq, ← hr.len]; exact hlen, ?_⟩
            exact q ρ2 _ _ ((A12.letgo.trans T).then (Aft.val T.rel (by simp [Rep])))
          · exact q.elim
        · exact q.elim
    · exact q.elim
/-- o[i] = e, o a list -/
def sStore (fe fo fi : Ex) : Sm := fun E B => (fe E B).bind fun r0 E0 B0 =>
  match settle r0 E0 with
  | none => .bad
  | some (u, E0') => (fo E0' B0).bind fun r E1 B1 => (fi E1 B1).bind fun ri E2 B2 =>
    match ri, cellOf r E2 B2 with
    | .w (.int k), some (.lst xs) => match ixN xs.length k with
      | some j => .ok .nx (put r E2 B2 (.lst (xs.set j u))).1 (put r E2 B2 (.lst (xs.set j u))).2
      | none => .bad
    | _, _ => .bad
theorem sndS_store (he : SndE X e fe) (ho : SndE X o fo) (hi : SndE X i fi) (hs : swapsWithSole [.Subscript o i p] e pos.line X.env = pure false := by rfl) (hw : swappedStores [.Subscript o i p] e X.env = pure none := by rfl)
    (h1 : (assignEach [.Subscript o i p] X.env).map (·.2) = [assign (.Subscript o i p) X.env] := by rfl)
    (hA : ∀ v, assign (.Subscript o i p) X.env v = (do
      let ov ← holding [v] (eval o X.env)
      let iv ← holding [v, ov] (eval i X.env)
      standAt p
      holding [v, ov, iv] (setItem ov iv v)
      release [v, ov, iv] []) := by intro _; rfl) : SndS X (.Assign [.Subscript o i p] e pos) (sStore fe fo fi) := by
  obtain ⟨te, pe, he⟩ := he
  obtain ⟨to, po, ho⟩ := ho
  obtain ⟨ti, pi, hi⟩ := hi
  refine ⟨_, ps_asg pe (pg_sub po pi set_list hA) hs hw h1, fun F ρ E B σ H D rl q => ?_⟩
  refine he F ρ E B σ H _ rl ?_
  simp only [sStore] at q
  cases h1 : fe E B with
  | bad => rw [h1] at q; exact q
  | ex c E' B' => rw [h1] at q ; first | exact q | exact Aft.exq (by assumption) q | exact AftT.exq (by assumption) q | exact Aft.exq (by assumption) (Aft.exq (by assumption) q) | exact AftT.exq (by assumption) (Aft.exq (by assumption) q) | exact AftT.exq (AftA.t (by assumption)) q | exact ExQ.px q (Aft.px (by assumption)) | exact ExQ.px q (List.IsPrefix.trans (AftT.px (by assumption)) (Aft.px (by assumption))) | exact Aft.exq (by assumption) (AftT.exq (by assumption) q) | exact Aft.exq (by assumption) (Aft.exq (by assumption) (AftT.exq (by assumption) q))
  | ok r0 E0 B0 =>
    rw [h1] at q
    intro ρ0 H0 v0 A0
    simp only [O.bind_ok] at q
    split at q
    · exact q.elim
    · next u E0' es =>
      obtain ⟨T0, R0⟩ := A0.settled es
      refine ho F ρ0 E0' B0 σ H0 _ T0.rel ?_
      cases h2 : fo E0' B0 with
      | bad => rw [h2] at q; exact q
      | ex c E' B' => rw [h2] at q ; first | exact q | exact Aft.exq (by assumption) q | exact AftT.exq (by assumption) q | exact Aft.exq (by assumption) (Aft.exq (by assumption) q) | exact AftT.exq (by assumption) (Aft.exq (by assumption) q) | exact AftT.exq (AftA.t (by assumption)) q | exact ExQ.px q (Aft.px (by assumption)) | exact ExQ.px q (List.IsPrefix.trans (AftT.px (by assumption)) (Aft.px (by assumption))) | exact Aft.exq (by assumption) (AftT.exq (by assumption) q) | exact Aft.exq (by assumption) (Aft.exq (by assumption) (AftT.exq (by assumption) q))
      | ok r E1 B1 =>
        rw [h2] at q
        intro ρ1 H1 v1 A1
        simp only [O.bind_ok] at q
        refine hi _ ρ1 E1 B1 σ H1 _ A1.rel ?_
        cases h3 : fi E1 B1 with
        | bad => rw [h3] at q; exact q
        | ex c E' B' => rw [h3] at q ; first | exact q | exact Aft.exq (by assumption) q | exact AftT.exq (by assumption) q | exact Aft.exq (by assumption) (Aft.exq (by assumption) q) | exact AftT.exq (by assumption) (Aft.exq (by assumption) q) | exact AftT.exq (AftA.t (by assumption)) q | exact ExQ.px q (Aft.px (by assumption)) | exact ExQ.px q (List.IsPrefix.trans (AftT.px (by assumption)) (Aft.px (by assumption))) | exact Aft.exq (by assumption) (AftT.exq (by assumption) q) | exact Aft.exq (by assumption) (Aft.exq (by assumption) (AftT.exq (by assumption) q))
        | ok ri E2 B2 =>
          rw [h3] at q
          intro ρ2 H2 v2 A2
          simp only [O.bind_ok] at q
          split at q
          · next r' k xs hc =>
            split at q
            · next j hj =>
              have nf := cellOf_nfr hc
              have A2' := A2.letgo
              have A12 := A1.carry A2'
              have ae2 : F.addR H2 r v1 = F := addR_nfr nf
              have rel2 : Rel X.K F ρ2 E2 B2 σ H2 := by have := A12.rel; rw [ae2] at this; exact this
              have rep2 : RepR X.K F H2 (LvF F ρ2 E2 B2 σ) ρ2 E2 σ r v1 := by have := A12.rep; rw [ae2] at this; exact this
              have rr := A2.rep
              simp only [RepR, Rep] at rr
              subst rr
              have hru : Rep X.K H2 (LvF F ρ2 E2 B2 σ) ρ2 u v0 := Rep.mono A12.letgo.stp A12.px _ _ R0
              obtain ⟨pp, ep, cp, wr⟩ := wr_ok (c' := .lst (xs.set j u)) (ob := .lst []) rel2 nf rep2 hc rfl rfl
              obtain ⟨ws, hw, hr⟩ := cp
              have T := wr (.lst (ws.set j v0)) fun Lv' s => ⟨ws.set j v0, upd_same, Reps.set j (hr.mono s (List.prefix_refl _)) (Rep.mono s (List.prefix_refl _) _ _ hru)⟩
              refine ⟨pp, ws, k, j, ep, rfl, hw, by rw [← hr.len]; exact hj, ?_⟩
              exact q ρ2 σ _ ((T0.trans A12.letgo).px) T.rel
            · exact q.elim
          · exact q.elim
/-! ### name op= e -/
def sAug (k : Nat) (g : U → U → Option R) (fe : Ex) : Sm := fun E B =>
  match E[k]? with
  | some (.val u1) => match flatU u1 with
    | some _ => (fe E B).bind fun r E1 B1 => match view r E1 B1 with
      | some u2 => match g u1 u2 with
        | some (.w z) => if k < E1.length then .ok .nx (E1.set k (.val z)) B1 else .bad
        | _ => .bad
      | none => .bad
    | none => .bad
  | _ => .bad
theorem sndS_aug {k : Nat} {op : Operator} {g : U → U → Option R} (ho : Op2S X (inplaceOp op) g) (he : SndE X e fe) (hN : X.N.Nodup) (hi : X.N[k]? = some x := by rfl) (hx : Loc X.env.scope x := by first | exact Or.inl rfl | exact Or.inr rfl)
    (hf : X.fn x = true ∨ X.env.scope.names.lookup x = some .local := by first | exact .inl rfl | exact .inr rfl | assumption) : SndS X (.AugAssign (.Name x p) op e pos) (sAug k g fe) := by
  obtain ⟨r, hr, ho⟩ := ho
  obtain ⟨te, pe, he⟩ := he
  refine ⟨_, ps_aug hN hi hx pe (ti := r) (fun pins s σ H x y v u Q I r1 r2 h => hr pins s σ H x y v u Q I r1 r2 h) hf, fun F ρ E B σ H D rl q => ?_⟩
  simp only [sAug] at q
  split at q
  · next u1 hu =>
    split at q
    · next fv hfl =>
      obtain ⟨v1, h1, h2⟩ := rl.val k u1 hu
      refine ⟨v1, h1, he F ρ E B σ H _ rl ?_⟩
      cases h3 : fe E B with
      | bad => rw [h3] at q; exact q
      | ex c E' B' => rw [h3] at q ; first | exact q | exact Aft.exq (by assumption) q | exact AftT.exq (by assumption) q | exact Aft.exq (by assumption) (Aft.exq (by assumption) q) | exact AftT.exq (by assumption) (Aft.exq (by assumption) q) | exact AftT.exq (AftA.t (by assumption)) q | exact ExQ.px q (Aft.px (by assumption)) | exact ExQ.px q (List.IsPrefix.trans (AftT.px (by assumption)) (Aft.px (by assumption))) | exact Aft.exq (by assumption) (AftT.exq (by assumption) q) | exact Aft.exq (by assumption) (Aft.exq (by assumption) (AftT.exq (by assumption) q))
      | ok r1 E1 B1 =>
        rw [h3] at q
        intro ρ1 H1 v2 A1
        simp only [O.bind_ok] at q
        split at q
        · next u2 e2 =>
          split at q
          · next z eg =>
            split at q
            · next hk =>
              have T1 := A1.letgo
              have r1' : Rep X.K H1 (LvF F ρ1 E1 B1 σ) ρ1 u1 v1 := Rep.mono T1.stp T1.px _ _ h2
              refine ho F ρ1 E1 B1 σ H1 u1 u2 v1 v2 _ _ T1.rel (r1'.top fun i zz => by subst zz; cases hfl) (A1.top e2) eg fun H' v A3 => ?_
              have rep3 : Rep X.K H' (LvF F ρ1 E1 B1 σ) ρ1 z v := A3.rep
              exact q ρ1 _ H' (T1.px.trans A3.px) (Rel.setVal (show Rel X.K F ρ1 E1 B1 σ H' from A3.rel) hk rep3)
            · exact q.elim
          · exact q.elim
        · exact q.elim
    · exact q.elim
  · exact q.elim
/-! ### targets -/
def SameBut (ks : List Nat) (σ σ' : L2.St) : Prop := σ'.length = σ.length ∧ ∀ j, j ∉ ks → σ'[j]? = σ[j]?
abbrev Bd := U → En → Option En
def SndG (X : Cy) (tg : Expr) (ks : List Nat) (bd : Bd) : Prop := ∃ g : TG, PG X tg g ∧ ∀ F ρ E B σ H u v (Q : L2.St → Hp → Prop), Rel X.K F ρ E B σ H → Rep X.K H (LvF F ρ E B σ) ρ u v →
  (match bd u E with
    | some E' => ∀ σ', Rel X.K F ρ E' B σ' H → SameBut ks σ σ' → (∀ q, LvF F ρ E' B σ' q → LvF F ρ E B σ q) → EnLe E E' → Q σ' H
    | none => False) → g v σ H Q
def bdN (k : Nat) : Bd := fun u E => match E[k]? with
  | some (.own _) => none
  | some _ => some (E.set k (.val u))
  | none => none
theorem setVal_lv {K : PySem.W.Frag} {F : Fm} {ρ : List Addr} {E : En} {B : Bx} {σ : L2.St} {H : Hp} {k : Nat} {u : U} {v : V} (r : Rel K F ρ E B σ H) (hk : k < E.length) : ∀ q, LvF F ρ (E.set k (.val u)) B (σ.set k (some v)) q → LvF F ρ E B σ q := fun q z => by
  rcases z with z | z | ⟨j, d, h1, h2⟩
  · exact .inl z
  · exact .inr (.inl z)
  · by_cases hj : k = j
    · subst hj; rw [List.getElem?_set_self hk] at h1; cases h1
    · rw [List.getElem?_set_ne hj] at h1 h2; exact .inr (.inr ⟨j, d, h1, h2⟩)
theorem sndG_name {k : Nat} (hN : X.N.Nodup) (hi : X.N[k]? = some x := by rfl) (hx : Loc X.env.scope x := by first | exact Or.inl rfl | exact Or.inr rfl) (hf : X.fn x = true ∨ X.env.scope.names.lookup x = some .local := by first | exact .inl rfl | exact .inr rfl | assumption) : SndG X (.Name x p) [k] (bdN k) := by
  refine ⟨_, pg_name hN hi hx hf, fun F ρ E B σ H u v Q rl h q => ?_⟩
  simp only [bdN] at q
  have fin : ∀ E', E' = E.set k (Sl.val u) → k < E.length → (∀ σ', Rel X.K F ρ E' B σ' H → SameBut [k] σ σ' → (∀ q, LvF F ρ E' B σ' q → LvF F ρ E B σ q) → EnLe E E' → Q σ' H) → gName k v σ H Q := fun E' e hk q => by
    subst e
    exact q _ (rl.setVal hk h) ⟨List.length_set, fun j hj => List.getElem?_set_ne (by simpa [eq_comm] using hj)⟩ (setVal_lv rl hk) fun j hj => by
      by_cases e : k = j
      · subst e; exact .inl ⟨u, List.getElem?_set_self hk⟩
      · unfold IsSet; rw [List.getElem?_set_ne e]; exact hj
  cases hE : E[k]? with
  | none => rw [hE] at q; exact q.elim
  | some s =>
    have hk : k < E.length := (List.getElem?_eq_some_iff.mp hE).1
    rw [hE] at q
    cases s with
    | own c => exact q.elim
    | un => exact fin _ rfl hk q
    | val w => exact fin _ rfl hk q
abbrev Bds := List U → En → Option En
def SndGs (X : Cy) (tgs : List Expr) (ks : List Nat) (bd : Bds) : Prop := ∃ g : TGs, PGs X tgs g ∧ ∀ F ρ E B σ H us vs (Q : L2.St → Hp → Prop), Rel X.K F ρ E B σ H → Reps X.K H (LvF F ρ E B σ) ρ us vs →
  (match bd us E with
    | some E' => ∀ σ', Rel X.K F ρ E' B σ' H → SameBut ks σ σ' → (∀ q, LvF F ρ E' B σ' q → LvF F ρ E B σ q) → EnLe E E' → Q σ' H
    | none => False) → g vs σ H Q
def bdNil : Bds := fun us E => match us with
  | [] => some E
  | _ => none
def bdCons (b : Bd) (bs : Bds) : Bds := fun us E => match us with
  | u :: r => (b u E).bind fun E1 => bs r E1
  | [] => none
theorem sndGs_nil : SndGs X [] [] bdNil := by
  refine ⟨_, pgs_nil, fun F ρ E B σ H us vs Q rl h q => ?_⟩
  cases us with
  | nil => simp only [Reps] at h; subst h; exact ⟨rfl, q σ rl ⟨rfl, fun _ _ => rfl⟩ (fun _ z => z) EnLe.refl⟩
  | cons u us => exact q.elim
theorem sndGs_cons {tg : Expr} {tgs : List Expr} {ks ls : List Nat} {b1 : Bd} {bs : Bds} (h1 : SndG X tg ks b1) (h2 : SndGs X tgs ls bs) (hs : (assignEach (tg :: tgs) X.env).map (·.2) = assign tg X.env :: (assignEach tgs X.env).map (·.2) := by rfl) : SndGs X (tg :: tgs) (ks ++ ls) (bdCons b1 bs) := by
  obtain ⟨g, p1, h1⟩ := h1
  obtain ⟨g2, p2, h2⟩ := h2
  refine ⟨_, pgs_cons p1 p2 hs, fun F ρ E B σ H us vs Q rl h q => ?_⟩
  cases us with
  | nil => exact q.elim
  | cons u us =>
    simp only [Reps] at h
    obtain ⟨v, r, rfl, hv, hr⟩ := h
    refine ⟨v, r, rfl, h1 F ρ E B σ H u v _ rl hv ?_⟩
    simp only [bdCons] at q
    cases e1 : b1 u E with
    | none => rw [e1] at q; exact q.elim
    | some E1 =>
      rw [e1] at q
      intro σ1 rl1 sb1 lv1 le1
      refine h2 F ρ E1 B σ1 H us r _ rl1 (hr.mono (Stp.less lv1) (List.prefix_refl _)) ?_
      simp only [Option.bind_some] at q
      cases e2 : bs us E1 with
      | none => rw [e2] at q; exact q.elim
      | some E2 =>
        rw [e2] at q
        intro σ2 rl2 sb2 lv2 le2
        refine q σ2 rl2 ⟨sb2.1.trans sb1.1, fun j hj => ?_⟩ (fun z hz => lv1 z (lv2 z hz)) (le1.trans le2)
        rw [sb2.2 j (fun z => hj (List.mem_append_right _ z)), sb1.2 j (fun z => hj (List.mem_append_left _ z))]
def bdT (bs : Bds) : Bd := fun u E => match u with
  | .tup us => bs us E
  | _ => none
theorem sndG_tup {tgs : List Expr} {k n : Nat} {ks : List Nat} {bs : Bds} (hc : X.calm = true) (h : SndGs X tgs ks bs) (hbl : ∀ us E, us.length ≠ n → bs us E = none) (hn : (assignEach tgs X.env).length = n := by rfl) (hst : (assignEach tgs X.env).findIdx? (·.1) = none := by rfl) : SndG X (.Tuple tgs k pos) ks (bdT bs) := by
  obtain ⟨g, p1, h⟩ := h
  refine ⟨_, pg_tup hc p1 hn hst, fun F ρ E B σ H u v Q rl hr q => ?_⟩
  cases u with
  | tup us =>
    simp only [Rep] at hr
    obtain ⟨pp, vs, rfl, h1, h2⟩ := hr
    simp only [bdT] at q
    refine ⟨pp, vs, rfl, sqT_of h1, ?_, h F ρ E B σ H us vs Q rl h2 q⟩
    rw [← h2.len]
    by_cases z : us.length = n
    · exact z
    · rw [hbl us E z] at q; exact q.elim
  | _ => exact q.elim
theorem bdNil_len {us : List U} {E : En} (h : us.length ≠ 0) : bdNil us E = none := by cases us <;> simp_all [bdNil]
theorem bdCons_len {b1 : Bd} {bs : Bds} {n : Nat} (h : ∀ us E, us.length ≠ n → bs us E = none) : ∀ us E, us.length ≠ n + 1 → bdCons b1 bs us E = none := fun us E hl => by
  cases us with
  | nil => rfl
  | cons u us =>
    simp only [bdCons]
    cases b1 u E with
    | none => rfl
    | some E1 => exact h us E1 (fun z => hl (by simp [z]))
end
end QB
/-! QbH: while, for, comprehensions. -/
namespace QB
open PySem L2
open Classical in
/-- only where the walked thing is as it was -/
noncomputable def goOn (chk : Bx → Prop) (f : Sm) : Sm := fun E B => if chk B then f E B else .bad
theorem goOn_yes {chk : Bx → Prop} {f : Sm} {E : En} {B : Bx} (h : chk B) : goOn chk f E B = f E B := by unfold goOn; exact if_pos h
theorem goOn_post {K : PySem.W.Frag} {F : Fm} {ρ : List Addr} {chk : Bx → Prop} {f : Sm} {E : En} {B : Bx} {D : Ends} (h : PostS K Y F ρ (goOn chk f E B) D) : chk B ∧ PostS K Y F ρ (f E B) D := by
  unfold goOn at h
  split at h
  · next c => exact ⟨c, h⟩
  · exact h.elim
@[simp] theorem goOn_true {f : Sm} {E : En} {B : Bx} : goOn (fun _ => True) f E B = f E B := goOn_yes trivial
/-- one turn for each item -/
noncomputable def forGo (bd : Bd) (body : Sm) (chk : Bx → Prop) : List U → Sm
  | [] => fun E B => .ok .nx E B
  | u :: us => fun E B => match bd u E with
    | none => .bad
    | some E1 => (body E1 B).bind fun fl E2 B2 => match fl with
      | .bk => .ok .nx E2 B2
      | .rt v => .ok (.rt v) E2 B2
      | _ => goOn chk (forGo bd body chk us) E2 B2
abbrev Iv := En → Bx → O (List U × (Bx → Prop))
noncomputable def sFor (fi : Iv) (bd : Bd) (body : Sm) : Sm := fun E B => (fi E B).bind fun w E1 B1 => forGo bd body w.2 w.1 E1 B1
def whileN : Nat → Te → Sm → Sm
  | 0, _, _ => fun _ _ => .bad
  | n + 1, c, b => fun E B => (c E B).bind fun k E1 B1 => if k = true then (b E1 B1).bind fun fl E2 B2 => match fl with
      | .bk => .ok .nx E2 B2
      | .rt v => .ok (.rt v) E2 B2
      | _ => whileN n c b E2 B2
    else .ok .nx E1 B1
def whileFuel : Nat := 1000000000000
def sWhile (c : Te) (b : Sm) : Sm := whileN whileFuel c b
/-- what is walked: the items, as they come -/
structure WalkU (K : PySem.W.Frag) (J : It) (us : List U) (chk : Bx → Prop) (G : Hp → AS → List Addr → Prop) : Prop where
  keep : ∀ H Lv ρ H' Lv' ρ' (B' : Bx), G H Lv ρ → Stp H Lv H' Lv' → ρ <+: ρ' → (∀ (i : Nat) (c : Cell) (p : Addr), B'[i]? = some c → c.live = true → ρ'[i]? = some p → CellOk K H' Lv' ρ' c p) → chk B' → G H' Lv' ρ'
  go : ∀ H Lv ρ i, G H Lv ρ → i < us.length → J.go i H
  stop : ∀ H Lv ρ, G H Lv ρ → J.stop us.length H
  yld : ∀ H Lv ρ i u x H', G H Lv ρ → us[i]? = some u → J.yld i H x H' → (∀ q, Lv q → ∃ o, H q = some o) → (∀ q o, H q = some o → H' q = some o) ∧ Rep K H' Lv ρ u x
def SndI (X : Cy) (tg iter : Expr) (fi : Iv) : Prop := ∃ wi : TI, PI X tg iter wi ∧ ∀ F ρ E B σ H (Rk : It → Hp → Prop), Rel X.K F ρ E B σ H →
  (match fi E B with
    | .ok w E' B' => ∀ ρ' H' J G, AftT X.K F ρ E B σ H ρ' E' B' H' → WalkU X.K J w.1 w.2 G → G H' (LvF F ρ' E' B' σ) ρ' → w.2 B' → Rk J H'
    | .ex c E' B' => ExQ X.K X.q F ρ c E' B'
    | .bad => False) → wi σ H Rk
section
variable {X : Cy} {a b c e i tg iter elt : Expr} {es ifs : List Expr} {fa fb fe : Ex} {ft : Te} {f g body : Sm} {fi : Iv} {fs : Ar} {bd : Bd} {ks : List Nat} {pos p p2 p3 cpos apos pos' : Pos} {x name : Str} {sts : List Stmt}
theorem Rel.boxes {K : PySem.W.Frag} {F : Fm} {ρ : List Addr} {E : En} {B : Bx} {σ : L2.St} {H : Hp} (r : Rel K F ρ E B σ H) : ∀ (i : Nat) (c : Cell) (p : Addr), B[i]? = some c → c.live = true → ρ[i]? = some p → CellOk K H (LvF F ρ E B σ) ρ c p := fun i c p h1 h2 h3 => (r.box i c p h1 h2 h3).1
theorem Rel.rebase {K : PySem.W.Frag} {F : Fm} {ρ : List Addr} {E : En} {B : Bx} {σ : L2.St} {H : Hp} (r : Rel K F ρ E B σ H) : Rel K ⟨F.Out, H, LvF F ρ E B σ⟩ ρ E B σ H :=
  ⟨r.elen, r.blen, r.val, r.own, r.oinj, r.box, r.binj, fun q h => ⟨rfl, r.lv_there q (.inl h)⟩, Stp.refl, fun q o h => ⟨o, h⟩⟩
theorem Rel.unbase {K : PySem.W.Frag} {F : Fm} {ρ ρ' : List Addr} {E E' : En} {B B' : Bx} {σ σ' : L2.St} {H H' : Hp} (r : Rel K F ρ E B σ H) (r' : Rel K ⟨F.Out, H, LvF F ρ E B σ⟩ ρ' E' B' σ' H') :
    Rel K F ρ' E' B' σ' H' ∧ Stp H (LvF F ρ E B σ) H' (LvF F ρ' E' B' σ') := by
  have s : Stp H (LvF F ρ E B σ) H' (LvF F ρ' E' B' σ') := r'.old
  refine ⟨⟨r'.elen, r'.blen, r'.val, r'.own, r'.oinj, r'.box, r'.binj, fun q h => ?_, r.old.trans s, fun q o h => ?_⟩, s⟩
  · rw [(r'.out q h).1]; exact r.out q h
  · obtain ⟨o', h1⟩ := r.grow q o h
    exact r'.grow q o' h1
theorem sndS_while {c : Expr} (hc : SndT X c ft) (hb : SndB X sts body) : SndS X (.While c sts [] pos) (sWhile ft body) := by
  obtain ⟨tc, pc, hc⟩ := hc
  obtain ⟨tb, pb, hb⟩ := hb
  refine ⟨_, ps_while X.po pc pb, fun F ρ E B σ H D rl q => ?_⟩
  refine ⟨fun m σ' H' => ∃ ρ' E' B', ρ <+: ρ' ∧ Rel X.K F ρ' E' B' σ' H' ∧ PostS X.K X.q F ρ' (whileN m ft body E' B') D, ⟨whileFuel, ρ, E, B, List.prefix_refl _, rl, q⟩, ?_⟩
  rintro m σ1 H1 ⟨ρ1, E1, B1, px1, rl1, q1⟩
  cases m with
  | zero => exact q1.elim
  | succ m =>
    refine hc F ρ1 E1 B1 σ1 H1 _ rl1 ?_
    simp only [whileN] at q1
    cases h1 : ft E1 B1 with
    | bad => rw [h1] at q1; exact q1
    | ex c E' B' => rw [h1] at q1 ; first | exact q1 | exact Aft.exq (by assumption) q1 | exact AftT.exq (by assumption) q1 | exact Aft.exq (by assumption) (Aft.exq (by assumption) q1) | exact AftT.exq (by assumption) (Aft.exq (by assumption) q1) | exact AftT.exq (AftA.t (by assumption)) q1 | exact ExQ.px q1 (Aft.px (by assumption)) | exact ExQ.px q1 (List.IsPrefix.trans (AftT.px (by assumption)) (Aft.px (by assumption))) | exact Aft.exq (by assumption) (AftT.exq (by assumption) q1) | exact Aft.exq (by assumption) (Aft.exq (by assumption) (AftT.exq (by assumption) q1))
    | ok k E2 B2 =>
      rw [h1] at q1
      intro ρ2 H2 A2
      cases k with
      | false =>
        simp only [O.bind_ok, Bool.false_eq_true, if_false] at q1 ⊢
        exact q1 ρ2 σ1 H2 A2.px A2.rel
      | true =>
        simp only [O.bind_ok, if_true] at q1 ⊢
        refine ⟨fun σ' H' => ∃ ρ' E' B', ρ <+: ρ' ∧ Rel X.K F ρ' E' B' σ' H' ∧ PostS X.K X.q F ρ' (whileN m ft body E' B') D, fun σ' H' n => ⟨m, by omega, n⟩, ?_⟩
        refine hb F ρ2 E2 B2 σ1 H2 _ A2.rel ?_
        have q2 := PostS.px q1 A2.px
        cases h2 : body E2 B2 with
        | bad => rw [h2] at q2; exact q2
        | ex c E' B' => rw [h2] at q2 ; first | exact q2 | exact Aft.exq (by assumption) q2 | exact AftT.exq (by assumption) q2 | exact Aft.exq (by assumption) (Aft.exq (by assumption) q2) | exact AftT.exq (by assumption) (Aft.exq (by assumption) q2) | exact AftT.exq (AftA.t (by assumption)) q2 | exact ExQ.px q2 (Aft.px (by assumption)) | exact ExQ.px q2 (List.IsPrefix.trans (AftT.px (by assumption)) (Aft.px (by assumption))) | exact Aft.exq (by assumption) (AftT.exq (by assumption) q2) | exact Aft.exq (by assumption) (Aft.exq (by assumption) (AftT.exq (by assumption) q2))
        | ok fl E3 B3 =>
          rw [h2] at q2
          simp only [O.bind_ok] at q2
          cases fl with
          | nx => exact fun ρ3 σ3 H3 px3 rl3 => ⟨ρ3, E3, B3, (px1.trans A2.px).trans px3, rl3, q2.px px3⟩
          | ct => exact fun ρ3 σ3 H3 px3 rl3 => ⟨ρ3, E3, B3, (px1.trans A2.px).trans px3, rl3, q2.px px3⟩
          | bk => exact q2
          | rt u => exact q2
theorem sndS_for (hcalm : X.calm = true) (hi : SndI X tg iter fi) (hg : SndG X tg ks bd) (hb : SndB X sts body) (hs : ∀ x, foldedSetIterable iter X.env x = pure x := by intro _; rfl) : SndS X (.For tg iter sts [] pos) (sFor fi bd body) := by
  obtain ⟨wi, pi, hi⟩ := hi
  obtain ⟨g, pg, hg⟩ := hg
  obtain ⟨tb, pb, hb⟩ := hb
  refine ⟨_, ps_for X.po hcalm pi pg pb hs, fun F ρ E B σ H D rl q => ?_⟩
  refine hi F ρ E B σ H _ rl ?_
  simp only [sFor] at q
  cases h1 : fi E B with
  | bad => rw [h1] at q; exact q
  | ex c E' B' => rw [h1] at q ; first | exact q | exact Aft.exq (by assumption) q | exact AftT.exq (by assumption) q | exact Aft.exq (by assumption) (Aft.exq (by assumption) q) | exact AftT.exq (by assumption) (Aft.exq (by assumption) q) | exact AftT.exq (AftA.t (by assumption)) q | exact ExQ.px q (Aft.px (by assumption)) | exact ExQ.px q (List.IsPrefix.trans (AftT.px (by assumption)) (Aft.px (by assumption))) | exact Aft.exq (by assumption) (AftT.exq (by assumption) q) | exact Aft.exq (by assumption) (Aft.exq (by assumption) (AftT.exq (by assumption) q))
  | ok w E1 B1 =>
    rw [h1] at q
    obtain ⟨us, chk⟩ := w
    simp only [O.bind_ok] at q
    intro ρ1 H1 J G A1 W G1 C1
    refine ⟨fun i m σ' H' => m = us.length - i ∧ i ≤ us.length ∧ ∃ ρ' E' B', ρ <+: ρ' ∧ Rel X.K F ρ' E' B' σ' H' ∧ G H' (LvF F ρ' E' B' σ') ρ' ∧ PostS X.K X.q F ρ' (forGo bd body chk (us.drop i) E' B') D,
      ⟨us.length, by simp, Nat.zero_le _, ρ1, E1, B1, A1.px, A1.rel, G1, by simpa using q.px A1.px⟩, ?_⟩
    rintro i m σ2 H2 ⟨rfl, hil, ρ2, E2, B2, px2, rl2, G2, q2⟩
    by_cases hlt : i < us.length
    · refine .inr ⟨W.go _ _ _ _ G2 hlt, fun σ' H' => (us.length - (i + 1) = us.length - (i + 1) ∧ i + 1 ≤ us.length ∧ ∃ ρ' E' B', ρ <+: ρ' ∧ Rel X.K F ρ' E' B' σ' H' ∧ G H' (LvF F ρ' E' B' σ') ρ' ∧ PostS X.K X.q F ρ' (forGo bd body chk (us.drop (i + 1)) E' B') D),
        fun σ' H' n => ⟨us.length - (i + 1), by omega, n⟩, fun y H' hy => ?_⟩
      have hu : us[i]? = some us[i] := List.getElem?_eq_getElem hlt
      obtain ⟨gr, rp⟩ := W.yld _ _ _ i us[i] y H' G2 hu hy rl2.lv_there
      have rl3 := rl2.growH gr
      rw [List.drop_eq_getElem_cons hlt] at q2
      simp only [forGo] at q2
      refine hg F ρ2 E2 B2 σ2 H' us[i] y _ rl3 rp ?_
      cases h2 : bd us[i] E2 with
      | none => rw [h2] at q2; exact q2.elim
      | some E3 =>
        rw [h2] at q2
        intro σ3 rl4 sb lv3 _
        have s23 : Stp H2 (LvF F ρ2 E2 B2 σ2) H' (LvF F ρ2 E3 B2 σ3) := (grow_stp rl2 gr).trans (Stp.less lv3)
        refine hb _ ρ2 E3 B2 σ3 H' _ rl4.rebase ?_
        cases h3 : body E3 B2 with
        | bad => simp only [h3] at q2; exact q2
        | ex c E' B' =>
          simp only [h3] at q2
          exact fun ρ5 σ5 H5 cls d px5 rl5 x => q2 ρ5 σ5 H5 cls d px5 (rl4.unbase rl5).1 x
        | ok fl E4 B4 =>
          simp only [h3, O.bind_ok] at q2
          have next : PostS X.K X.q F ρ2 (goOn chk (forGo bd body chk (us.drop (i + 1))) E4 B4) D → ∀ ρ5 σ5 H5, ρ2 <+: ρ5 → Rel X.K ⟨F.Out, H', LvF F ρ2 E3 B2 σ3⟩ ρ5 E4 B4 σ5 H5 →
              us.length - (i + 1) = us.length - (i + 1) ∧ i + 1 ≤ us.length ∧ ∃ ρ' E' B', ρ <+: ρ' ∧ Rel X.K F ρ' E' B' σ5 H5 ∧ G H5 (LvF F ρ' E' B' σ5) ρ' ∧ PostS X.K X.q F ρ' (forGo bd body chk (us.drop (i + 1)) E' B') D := fun q5 ρ5 σ5 H5 px5 rl5 => by
            obtain ⟨hck, q6⟩ := goOn_post q5
            obtain ⟨rl6, s5⟩ := rl4.unbase rl5
            exact ⟨rfl, hlt, ρ5, E4, B4, px2.trans px5, rl6, W.keep _ _ _ _ _ _ B4 G2 (s23.trans s5) px5 rl6.boxes hck, q6.px px5⟩
          cases fl with
          | nx => exact next q2
          | ct => exact next q2
          | bk => exact fun ρ5 σ5 H5 px5 rl5 => q2 ρ5 σ5 H5 px5 (rl4.unbase rl5).1
          | rt u => exact fun ρ5 σ5 H5 v5 px5 rl5 rp5 => q2 ρ5 σ5 H5 v5 px5 (rl4.unbase rl5).1 rp5
    · have e : i = us.length := by omega
      subst e
      rw [List.drop_length] at q2
      exact .inl ⟨W.stop _ _ _ G2, q2 ρ2 σ2 H2 (List.prefix_refl _) rl2⟩
end
end QB
/-! QbI: what is walked; list comprehensions. -/
namespace QB
open PySem L2
/-! ### what is walked -/
def yes : Bx → Prop := fun _ => True
@[simp] theorem goOn_Yes {f : Sm} {E : En} {B : Bx} : goOn yes f E B = f E B := goOn_yes trivial
def itemsOf (u : U) (B : Bx) : Option (List U × (Bx → Prop)) :=
  match u with
  | .lst us => some (us, yes)
  | .tup us => some (us, yes)
  | .str z => some (z.cps.toList.map (fun c => .str ⟨#[c]⟩), yes)
  | .scr ns => some (ns.map .int, yes)
  | .box j => match B[j]? with
    | some (.lst us) => some (us, fun B' => B'[j]? = some (.lst us))
    | _ => none
  | _ => none
def mItV (f : Ex) : Iv := fun E B => (f E B).bind fun r E1 B1 =>
  match settle r E1 with
  | some (u, E2) => match itemsOf u B1 with
    | some w => .ok w E2 B1
    | none => .bad
  | none => .bad
def intsU (lo : Int) (n : Nat) : List U := (List.range n).map fun k => .int (lo + (k : Nat))
def mRange1 (fs : Ar) : Iv := fun E B => (fs E B).bind fun us E1 B1 =>
  match us with
  | [.int j] => if I62 j = true then .ok (intsU 0 j.toNat, yes) E1 B1 else .bad
  | _ => .bad
def mRange2 (fs : Ar) : Iv := fun E B => (fs E B).bind fun us E1 B1 =>
  match us with
  | [.int i, .int j] => if I62 i = true ∧ I62 j = true then .ok (intsU i (j - i).toNat, yes) E1 B1 else .bad
  | _ => .bad
def mEnum (fs : Ar) : Iv := fun E B => (fs E B).bind fun us E1 B1 =>
  match us with
  | [.lst ws] => .ok (ws.mapIdx fun k u => .tup [.int (k : Nat), u], yes) E1 B1
  | _ => .bad
section
variable {X : Cy} {a b c e i tg iter elt : Expr} {es ifs : List Expr} {fa fb fe : Ex} {ft : Te} {f g body : Sm} {fi : Iv} {fs : Ar} {bd : Bd} {ks : List Nat} {pos p p2 p3 cpos apos pos' tpos : Pos} {x name : Str} {sts : List Stmt}
section
variable {K : PySem.W.Frag}
theorem walkU_list {q : Addr} {us : List U} : WalkU K (Itl K q) us yes (fun H Lv ρ => Rep K H Lv ρ (.lst us) (.ref q)) := by
  have un : ∀ {H Lv ρ}, Rep K H Lv ρ (.lst us) (.ref q) → ∃ vs, SqL K H q vs ∧ Reps K H Lv ρ us vs := fun {H Lv ρ} h => by
    simp only [Rep] at h
    obtain ⟨p, vs, e, h1, h2⟩ := h
    cases e
    exact ⟨vs, .inl (.inl h1.1), h2⟩
  refine ⟨fun H Lv ρ H' Lv' ρ' B' g s px _ _ => Rep.mono s px _ _ g, fun H Lv ρ i g hi => ?_, fun H Lv ρ g => ?_, fun H Lv ρ i u x H' g hu hy _ => ?_⟩
  · obtain ⟨vs, h1, h2⟩ := un g
    obtain ⟨v, h3, _⟩ := h2.get (List.getElem?_eq_getElem hi)
    exact ⟨vs, v, h1, h3⟩
  · obtain ⟨vs, h1, h2⟩ := un g
    exact ⟨vs, h1, by rw [h2.len]; exact Nat.le_refl _⟩
  · obtain ⟨vs, h1, h2⟩ := un g
    obtain ⟨rfl, hy⟩ := hy
    obtain ⟨v, h3, h4⟩ := h2.get hu
    have := hy vs h1
    rw [h3] at this
    cases this
    exact ⟨fun _ _ z => z, h4⟩
theorem walkU_box {q : Addr} {us : List U} {j : Nat} : WalkU K (Itl K q) us (fun B' => B'[j]? = some (.lst us)) (fun H Lv ρ => ρ[j]? = some q ∧ ∃ vs, H q = some (.lst vs) ∧ Reps K H Lv ρ us vs) := by
  refine ⟨fun H Lv ρ H' Lv' ρ' B' g s px hb hc => ?_, fun H Lv ρ i g hi => ?_, fun H Lv ρ g => ?_, fun H Lv ρ i u x H' g hu hy _ => ?_⟩
  · have h := px_get px g.1
    exact ⟨h, hb j _ q hc rfl h⟩
  · obtain ⟨_, vs, h1, h2⟩ := g
    obtain ⟨v, h3, _⟩ := h2.get (List.getElem?_eq_getElem hi)
    exact ⟨vs, v, .inl (.inl h1), h3⟩
  · obtain ⟨_, vs, h1, h2⟩ := g
    exact ⟨vs, .inl (.inl h1), by rw [h2.len]; exact Nat.le_refl _⟩
  · obtain ⟨_, vs, h1, h2⟩ := g
    obtain ⟨rfl, hy⟩ := hy
    obtain ⟨v, h3, h4⟩ := h2.get hu
    have := hy vs (.inl (.inl h1))
    rw [h3] at this
    cases this
    exact ⟨fun _ _ z => z, h4⟩
theorem walkU_tup {q : Addr} {us : List U} : WalkU K (Itt K q) us yes (fun H Lv ρ => Rep K H Lv ρ (.tup us) (.ref q)) := by
  have un : ∀ {H Lv ρ}, Rep K H Lv ρ (.tup us) (.ref q) → ∃ vs, SqT K H q vs ∧ Reps K H Lv ρ us vs := fun {H Lv ρ} h => by
    simp only [Rep] at h
    obtain ⟨p, vs, e, h1, h2⟩ := h
    cases e
    exact ⟨vs, sqT_of h1, h2⟩
  refine ⟨fun H Lv ρ H' Lv' ρ' B' g s px _ _ => Rep.mono s px _ _ g, fun H Lv ρ i g hi => ?_, fun H Lv ρ g => ?_, fun H Lv ρ i u x H' g hu hy _ => ?_⟩
  · obtain ⟨vs, h1, h2⟩ := un g
    obtain ⟨v, h3, _⟩ := h2.get (List.getElem?_eq_getElem hi)
    exact ⟨vs, v, h1, h3⟩
  · obtain ⟨vs, h1, h2⟩ := un g
    exact ⟨vs, h1, by rw [h2.len]; exact Nat.le_refl _⟩
  · obtain ⟨vs, h1, h2⟩ := un g
    obtain ⟨rfl, hy⟩ := hy
    obtain ⟨v, h3, h4⟩ := h2.get hu
    have := hy vs h1
    rw [h3] at this
    cases this
    exact ⟨fun _ _ z => z, h4⟩
theorem walkU_scr {q : Addr} {ns : List Int} : WalkU K (Itl K q) (ns.map .int) yes (fun H Lv ρ => Rep K H Lv ρ (.scr ns) (.ref q)) := by
  have un : ∀ {H Lv ρ}, Rep K H Lv ρ (.scr ns) (.ref q) → SqL K H q (ns.map V.int) := fun {H Lv ρ} h => by
    simp only [Rep] at h
    obtain ⟨p, e, h1⟩ := h
    cases e
    exact sqL_of h1
  refine ⟨fun H Lv ρ H' Lv' ρ' B' g s px _ _ => Rep.mono s px _ _ g, fun H Lv ρ i g hi => ?_, fun H Lv ρ g => ?_, fun H Lv ρ i u x H' g hu hy _ => ?_⟩
  · have hi' : i < ns.length := by simpa using hi
    exact ⟨_, .int ns[i], un g, by simp [hi']⟩
  · exact ⟨_, un g, by simp⟩
  · obtain ⟨rfl, hy⟩ := hy
    have h1 := hy _ (un g)
    simp only [List.getElem?_map, Option.map_eq_some_iff] at hu h1
    obtain ⟨n, h2, rfl⟩ := hu
    obtain ⟨m, h3, rfl⟩ := h1
    rw [h2] at h3
    cases h3
    exact ⟨fun _ _ z => z, by simp [Rep]⟩
theorem walkU_str {z : Str} : WalkU K (Its z) (z.cps.toList.map (fun c => .str ⟨#[c]⟩)) yes (fun _ _ _ => True) := by
  refine ⟨fun _ _ _ _ _ _ _ _ _ _ _ _ => trivial, fun H Lv ρ i g hi => ?_, fun H Lv ρ g => ?_, fun H Lv ρ i u x H' g hu hy _ => ?_⟩
  · simpa [Its] using hi
  · simp [Its]
  · obtain ⟨rfl, c, h1, rfl⟩ := hy
    simp only [List.getElem?_map, Option.map_eq_some_iff] at hu
    obtain ⟨n, h2, rfl⟩ := hu
    have : n = c := by
      rw [Array.getElem?_toList] at h2
      rw [h1] at h2
      exact (Option.some.inj h2).symm
    subst this
    exact ⟨fun _ _ z => z, by simp [Rep]⟩
theorem walkU_range {lo : Int} {n : Nat} : WalkU K (Itr lo n) (intsU lo n) yes (fun _ _ _ => True) := by
  refine ⟨fun _ _ _ _ _ _ _ _ _ _ _ _ => trivial, fun H Lv ρ i g hi => ?_, fun H Lv ρ g => ?_, fun H Lv ρ i u x H' g hu hy _ => ?_⟩
  · simpa [Itr, intsU] using hi
  · simp [Itr, intsU]
  · obtain ⟨rfl, rfl⟩ := hy
    unfold intsU at hu
    simp only [List.getElem?_map, Option.map_eq_some_iff] at hu
    obtain ⟨k, h2, rfl⟩ := hu
    have : k = i := by
      have := (List.getElem?_eq_some_iff.mp h2).2
      simpa using this.symm
    subst this
    exact ⟨fun _ _ z => z, by simp [Rep]⟩
theorem walkU_enum {q : Addr} {us : List U} : WalkU K (Ite K q) (us.mapIdx fun k u => .tup [.int (k : Nat), u]) yes (fun H Lv ρ => Rep K H Lv ρ (.lst us) (.ref q)) := by
  have un : ∀ {H Lv ρ}, Rep K H Lv ρ (.lst us) (.ref q) → ∃ vs, SqL K H q vs ∧ Reps K H Lv ρ us vs := fun {H Lv ρ} h => by
    simp only [Rep] at h
    obtain ⟨p, vs, e, h1, h2⟩ := h
    cases e
    exact ⟨vs, .inl (.inl h1.1), h2⟩
  refine ⟨fun H Lv ρ H' Lv' ρ' B' g s px _ _ => Rep.mono s px _ _ g, fun H Lv ρ i g hi => ?_, fun H Lv ρ g => ?_, fun H Lv ρ i u x H' g hu hy hlv => ?_⟩
  · obtain ⟨vs, h1, h2⟩ := un g
    have hi' : i < us.length := by simpa using hi
    obtain ⟨v, h3, _⟩ := h2.get (List.getElem?_eq_getElem hi')
    exact ⟨vs, v, h1, h3⟩
  · obtain ⟨vs, h1, h2⟩ := un g
    exact ⟨vs, h1, by rw [← h2.len]; simp⟩
  · obtain ⟨vs, h1, h2⟩ := un g
    obtain ⟨T, y, rfl, hT, rfl, hy⟩ := hy
    simp only [List.getElem?_mapIdx, Option.map_eq_some_iff] at hu
    obtain ⟨w, h3, rfl⟩ := hu
    obtain ⟨v, h4, h5⟩ := h2.get h3
    have hvy := hy vs h1
    rw [h4] at hvy
    have hvy' : v = y := Option.some.inj hvy
    subst hvy'
    have gr : ∀ q o, H q = some o → (upd H T (.tup [.int (i : Nat), v])) q = some o := fun q o h => by rw [upd_ne (ne_of_none h hT)]; exact h
    refine ⟨gr, ?_⟩
    have s : Stp H Lv (upd H T (.tup [.int (i : Nat), v])) Lv := fun q o h n => ⟨.inl (gr q o h), n⟩
    have nl : ¬ Lv T := fun z => by obtain ⟨o, ho⟩ := hlv T z; rw [hT] at ho; cases ho
    simp only [Rep]
    refine ⟨T, _, rfl, .inl ⟨.inl upd_same, nl⟩, ?_⟩
    simp only [Reps]
    exact ⟨_, _, rfl, by simp [Rep], v, _, rfl, Rep.mono s (List.prefix_refl _) _ _ h5, rfl⟩
end
theorem PI.or {w1 w2 : TI} (h1 : PI X tg iter w1) (h2 : PI X tg iter w2) : PI X tg iter (fun σ H R => w1 σ H R ∨ w2 σ H R) :=
  ⟨fun pins s σ H R I h => by
    rcases h with h | h
    · exact h1.run pins s σ H R I h
    · exact h2.run pins s σ H R I h⟩
theorem sndI_val (ha : SndE X a fa) : SndI X tg a (mItV fa) := by
  obtain ⟨ta, pa, ha⟩ := ha
  refine ⟨_, PI.or (PI.or (pi_list pa) (pi_tup pa)) (pi_str pa), fun F ρ E B σ H Rk rl q => ?_⟩
  simp only [mItV] at q
  cases h1 : fa E B with
  | bad => rw [h1] at q; exact q.elim
  | ex c E' B' => rw [h1] at q; exact .inl (.inl (ha F ρ E B σ H _ rl (by rw [h1]; exact q)))
  | ok r1 E1 B1 =>
    rw [h1] at q
    simp only [O.bind_ok] at q
    cases hs : settle r1 E1 with
    | none => rw [hs] at q; exact q.elim
    | some y =>
      obtain ⟨u, E2⟩ := y
      rw [hs] at q
      simp only at q
      cases hi : itemsOf u B1 with
      | none => rw [hi] at q; exact q.elim
      | some w =>
        rw [hi] at q
        simp only at q
        have go : ∀ {Qv : VK}, (∀ ρ1 H1 v1, AftT X.K F ρ E B σ H ρ1 E2 B1 H1 → Rep X.K H1 (LvF F ρ1 E2 B1 σ) ρ1 u v1 → Qv v1 H1) → ta σ H Qv := fun {Qv} k => by
          refine ha F ρ E B σ H _ rl ?_
          rw [h1]
          intro ρ1 H1 v1 A1
          obtain ⟨T1, R1⟩ := A1.settled hs
          exact k ρ1 H1 v1 T1 R1
        cases u with
        | lst us =>
          cases hi
          refine .inl (.inl (go fun ρ1 H1 v1 T1 R1 => ?_))
          have R2 := R1
          simp only [Rep] at R2
          obtain ⟨pp, vs, rfl, k1, k2⟩ := R2
          exact ⟨pp, rfl, ⟨vs, .inl (.inl k1.1)⟩, q ρ1 H1 _ _ T1 walkU_list R1 trivial⟩
        | tup us =>
          cases hi
          refine .inl (.inr (go fun ρ1 H1 v1 T1 R1 => ?_))
          have R2 := R1
          simp only [Rep] at R2
          obtain ⟨pp, vs, rfl, k1, k2⟩ := R2
          exact ⟨pp, rfl, ⟨vs, sqT_of k1⟩, q ρ1 H1 _ _ T1 walkU_tup R1 trivial⟩
        | str z =>
          cases hi
          refine .inr (go fun ρ1 H1 v1 T1 R1 => ?_)
          simp only [Rep] at R1
          exact ⟨z, R1, q ρ1 H1 _ _ T1 walkU_str trivial trivial⟩
        | scr ns =>
          cases hi
          refine .inl (.inl (go fun ρ1 H1 v1 T1 R1 => ?_))
          have R2 := R1
          simp only [Rep] at R2
          obtain ⟨pp, rfl, k1⟩ := R2
          exact ⟨pp, rfl, ⟨_, sqL_of k1⟩, q ρ1 H1 _ _ T1 walkU_scr R1 trivial⟩
        | box j =>
          simp only [itemsOf] at hi
          split at hi
          · next us hB =>
            cases hi
            refine .inl (.inl (go fun ρ1 H1 v1 T1 R1 => ?_))
            simp only [Rep] at R1
            obtain ⟨pp, k1, rfl⟩ := R1
            have c1 := (T1.rel.box j _ pp hB rfl k1).1
            have c2 := c1
            obtain ⟨vs, k2, k3⟩ := c2
            exact ⟨pp, rfl, ⟨vs, .inl (.inl k2)⟩, q ρ1 H1 _ _ T1 walkU_box ⟨k1, c1⟩ hB⟩
          · cases hi
        | non => cases hi
        | bl _ => cases hi
        | int _ => cases hi
        | dct _ _ => cases hi
theorem sndI_range1 (hm : X.mg "range" = none) (ha : SndA X [a] fs) (hg : Gl X "range" := by rfl) (hs : starEach [a] X.env = [(false, eval a X.env)] := by rfl) : SndI X tg (.Call (.Name "range" p) [a] [] pos) (mRange1 fs) := by
  obtain ⟨ta, pa, ha⟩ := ha
  refine ⟨_, pi_range1 hg hm pa hs, fun F ρ E B σ H Rk rl q => ?_⟩
  simp only [mRange1] at q
  cases h1 : fs E B with
  | bad => rw [h1] at q; exact q.elim
  | ex c E' B' => rw [h1] at q; exact ha F ρ E B σ H _ rl (by rw [h1]; exact q)
  | ok us E1 B1 =>
    rw [h1] at q
    simp only [O.bind_ok] at q
    revert q
    generalize hw : (match us with | [.int j] => if I62 j = true then O.ok (intsU 0 j.toNat, yes) E1 B1 else .bad | _ => .bad) = oo
    intro q
    cases oo with
    | bad => exact q.elim
    | ex c E' B' => exact absurd hw (by (repeat' split) <;> (intro z; cases z))
    | ok w E' B' =>
      exact (by
        split at hw
        · next j =>
          split at hw
          · next hj =>
            cases hw
            refine ha F ρ E B σ H _ rl ?_
            rw [h1]
            intro ρ1 H1 vs A1
            have R := A1.reps
            simp only [Reps, Rep] at R
            obtain ⟨v, r, rfl, rfl, rfl⟩ := R
            exact ⟨j, rfl, (i62_iff.mp hj).1, (i62_iff.mp hj).2, q ρ1 H1 _ _ A1.t walkU_range trivial trivial⟩
          · cases hw
        · cases hw)
theorem sndI_range2 (hm : X.mg "range" = none) (ha : SndA X [a, b] fs) (hg : Gl X "range" := by rfl) (hs : starEach [a, b] X.env = [(false, eval a X.env), (false, eval b X.env)] := by rfl) (hs2 : starEach [b] X.env = [(false, eval b X.env)] := by rfl) : SndI X tg (.Call (.Name "range" p) [a, b] [] pos) (mRange2 fs) := by
  obtain ⟨ta, pa, ha⟩ := ha
  refine ⟨_, pi_range2 hg hm pa hs hs2, fun F ρ E B σ H Rk rl q => ?_⟩
  simp only [mRange2] at q
  cases h1 : fs E B with
  | bad => rw [h1] at q; exact q.elim
  | ex c E' B' => rw [h1] at q; exact ha F ρ E B σ H _ rl (by rw [h1]; exact q)
  | ok us E1 B1 =>
    rw [h1] at q
    simp only [O.bind_ok] at q
    revert q
    generalize hw : (match us with | [.int i, .int j] => if I62 i = true ∧ I62 j = true then O.ok (intsU i (j - i).toNat, yes) E1 B1 else .bad | _ => .bad) = oo
    intro q
    cases oo with
    | bad => exact q.elim
    | ex c E' B' => exact absurd hw (by (repeat' split) <;> (intro z; cases z))
    | ok w E' B' =>
      exact (by
        split at hw
        · next i j =>
          split at hw
          · next hj =>
            cases hw
            refine ha F ρ E B σ H _ rl ?_
            rw [h1]
            intro ρ1 H1 vs A1
            have R := A1.reps
            simp only [Reps, Rep] at R
            obtain ⟨v, r, rfl, rfl, v2, r2, rfl, rfl, rfl⟩ := R
            exact ⟨i, j, rfl, ⟨(i62_iff.mp hj.1).1, (i62_iff.mp hj.1).2, i62_iff.mp hj.2⟩, q ρ1 H1 _ _ A1.t walkU_range trivial trivial⟩
          · cases hw
        · cases hw)
theorem sndI_enum {elts : List Expr} {kk : Nat} (hm : X.mg "enumerate" = none) (ha : SndA X [a] fs) (hg : Gl X "enumerate" := by rfl) (hs : starEach [a] X.env = [(false, eval a X.env)] := by rfl) : SndI X (.Tuple elts kk tpos) (.Call (.Name "enumerate" p) [a] [] pos) (mEnum fs) := by
  obtain ⟨ta, pa, ha⟩ := ha
  refine ⟨_, pi_enum hg hm pa hs, fun F ρ E B σ H Rk rl q => ?_⟩
  simp only [mEnum] at q
  cases h1 : fs E B with
  | bad => rw [h1] at q; exact q.elim
  | ex c E' B' => rw [h1] at q; exact ha F ρ E B σ H _ rl (by rw [h1]; exact q)
  | ok us E1 B1 =>
    rw [h1] at q
    simp only [O.bind_ok] at q
    revert q
    generalize hw : (match us with | [.lst ws] => O.ok (ws.mapIdx fun k u => U.tup [U.int (k : Nat), u], yes) E1 B1 | _ => O.bad) = oo
    intro q
    cases oo with
    | bad => exact q.elim
    | ex c E' B' => exact absurd hw (by (repeat' split) <;> (intro z; cases z))
    | ok w E' B' =>
      exact (by
        split at hw
        · next ws =>
          cases hw
          refine ha F ρ E B σ H _ rl ?_
          rw [h1]
          intro ρ1 H1 vs A1
          have R := A1.reps
          simp only [Reps] at R
          obtain ⟨v, r, rfl, R1, rfl⟩ := R
          have R2 := R1
          simp only [Rep] at R2
          obtain ⟨pp, xs, rfl, k1, k2⟩ := R2
          exact ⟨pp, xs, rfl, .inl (.inl k1.1), q ρ1 H1 _ _ A1.t walkU_enum R1 trivial⟩
        · cases hw)
end
end QB
/-! QbJ: list comprehensions. -/
namespace QB
open PySem L2
def wipeE (E : En) : List Nat → En
  | [] => E
  | v :: vs => (wipeE E vs).set v .un
/-- the slots ks as they were in E1 -/
def keepE (E1 E : En) : List Nat → En
  | [] => E
  | v :: vs => match E1[v]? with
    | some s => (keepE E1 E vs).set v s
    | none => keepE E1 E vs
def noOwn (E1 : En) : List Nat → Bool
  | [] => true
  | v :: vs => match E1[v]? with
    | some (.own _) => false
    | none => false
    | _ => noOwn E1 vs
open Classical in
noncomputable def goOnL (chk : Bx → Prop) (f : Ar) : Ar := fun E B => if chk B then f E B else .bad
theorem goOnL_yes {chk : Bx → Prop} {f : Ar} {E : En} {B : Bx} (h : chk B) : goOnL chk f E B = f E B := by unfold goOnL; exact if_pos h
@[simp] theorem goOnL_Yes {f : Ar} {E : En} {B : Bx} : goOnL yes f E B = f E B := goOnL_yes trivial
noncomputable def lcGo (bd : Bd) (t : Te) (f : Ex) (chk : Bx → Prop) (ks : List Nat) : List U → List U → Ar
  | [], acc => fun E B => .ok acc E B
  | u :: us, acc => fun E B => match bd u E with
    | none => .bad
    | some E1 => (t E1 B).bindN fun b E2 B2 => if b = true then (f E2 B2).bindN fun r E3 B3 => match settle r E3 with
        | some (y, E4) => if acc.length < 16777216 then goOnL chk (lcGo bd t f chk ks us (acc ++ [y])) (wipeE E4 ks) B3 else .bad
        | none => .bad
      else goOnL chk (lcGo bd t f chk ks us acc) (wipeE E2 ks) B2
noncomputable def mLc (fi : Iv) (bd : Bd) (t : Te) (f : Ex) (ks : List Nat) : Ex := fun E B => (fi E B).bind fun w E1 B1 =>
  if noOwn E1 ks = true then (lcGo bd t f w.2 ks w.1 [] (wipeE E1 ks) B1).bind fun acc E2 B2 => .ok (.fr (.lst acc)) (keepE E1 E2 ks) B2 else .bad
def mYes : Te := fun E B => .ok true E B

section
variable {K : PySem.W.Frag} {F : Fm} {ρ ρ' : List Addr} {E E1 E' : En} {B B1 B' : Bx} {σ : L2.St} {H H' : Hp} {ks : List Nat}
theorem wipeE_len : ∀ ks : List Nat, (wipeE E ks).length = E.length
  | [] => rfl
  | v :: vs => by unfold wipeE; rw [List.length_set, wipeE_len vs]
theorem wipeE_get : ∀ {ks : List Nat} {j : Nat}, j ∉ ks → (wipeE E ks)[j]? = E[j]?
  | [], j, _ => rfl
  | v :: vs, j, h => by
    unfold wipeE
    rw [List.getElem?_set_ne (fun e => h (by simp [e]))]
    exact wipeE_get fun z => h (List.mem_cons_of_mem _ z)
theorem wipeE_in : ∀ {ks : List Nat} {j : Nat} {s : Sl}, j ∈ ks → (wipeE E ks)[j]? = some s → s = .un
  | v :: vs, j, s, h, e => by
    unfold wipeE at e
    by_cases hj : v = j
    · subst hj
      have hl : v < (wipeE E vs).length := by have := (List.getElem?_eq_some_iff.mp e).1; simpa using this
      rw [List.getElem?_set_self hl] at e
      exact (Option.some.inj e).symm
    · rw [List.getElem?_set_ne hj] at e
      rcases List.mem_cons.mp h with z | z
      · exact absurd z.symm hj
      · exact wipeE_in z e
theorem wipe_get : ∀ {ks : List Nat} {j : Nat}, j ∉ ks → (wipe σ ks)[j]? = σ[j]?
  | [], j, _ => rfl
  | v :: vs, j, h => by
    unfold wipe
    rw [List.getElem?_set_ne (fun e => h (by simp [e]))]
    exact wipe_get fun z => h (List.mem_cons_of_mem _ z)
theorem wipe_same {σ' : L2.St} (h : SameBut ks σ σ') (hk : ∀ k ∈ ks, k < σ.length) : wipe σ' ks = wipe (wipe σ ks) ks := by
  apply List.ext_getElem?
  intro j
  by_cases hj : j ∈ ks
  · have key : ∀ {τ : L2.St} {ls : List Nat}, j ∈ ls → j < τ.length → (wipe τ ls)[j]? = some none := by
      intro τ ls
      induction ls with
      | nil => intro h; cases h
      | cons v vs ih =>
        intro h hl
        unfold wipe
        by_cases hv : v = j
        · subst hv; exact List.getElem?_set_self (by rw [wipe_length]; exact hl)
        · rw [List.getElem?_set_ne hv]
          rcases List.mem_cons.mp h with z | z
          · exact absurd z.symm hv
          · exact ih z hl
    rw [key hj (by rw [h.1]; exact hk j hj), key hj (by rw [wipe_length]; exact hk j hj)]
  · rw [wipe_get hj, h.2 j hj, wipe_get hj, wipe_get hj]
theorem wipe_idem (hk : ∀ k ∈ ks, k < σ.length) : wipe (wipe σ ks) ks = wipe σ ks := (wipe_same (σ := σ) (σ' := σ) ⟨rfl, fun _ _ => rfl⟩ hk).symm
/-- the block's own names are forgotten -/
theorem Rel.wipes (r : Rel K F ρ E B σ H) : Rel K F ρ (wipeE E ks) B (wipe σ ks) H ∧ (∀ q, LvF F ρ (wipeE E ks) B (wipe σ ks) q → LvF F ρ E B σ q) := by
  have px : ρ <+: ρ := List.prefix_refl _
  have ownSet : ∀ (j : Nat) (d : Cell), (wipeE E ks)[j]? = some (.own d) → E[j]? = some (.own d) ∧ (wipe σ ks)[j]? = σ[j]? := fun j d e => by
    by_cases hj : j ∈ ks
    · cases wipeE_in hj e
    · rw [wipeE_get hj] at e; exact ⟨e, wipe_get hj⟩
  have less : ∀ q, LvF F ρ (wipeE E ks) B (wipe σ ks) q → LvF F ρ E B σ q := fun q z => by
    rcases z with z | z | ⟨j, d, h1, h2⟩
    · exact .inl z
    · exact .inr (.inl z)
    · obtain ⟨h3, h4⟩ := ownSet j d h1
      exact .inr (.inr ⟨j, d, h3, by rw [← h4]; exact h2⟩)
  have s := Stp.less (H := H) less
  refine ⟨⟨by rw [wipeE_len, wipe_length]; exact r.elen, r.blen, fun j w e => ?_, fun j d e => ?_, fun j k d f q e1 e2 e3 e4 => ?_, fun j d q e1 e2 e3 => ?_, r.binj, r.out, r.old.trans s, r.grow⟩, less⟩
  · by_cases hj : j ∈ ks
    · cases wipeE_in hj e
    · rw [wipeE_get hj] at e
      obtain ⟨w', h1, h2⟩ := r.val j w e
      exact ⟨w', by rw [wipe_get hj]; exact h1, h2.mono s px⟩
  · obtain ⟨h1, h2⟩ := ownSet j d e
    obtain ⟨h3, q, h4, h5, h6⟩ := r.own j d h1
    exact ⟨h3, q, by rw [h2]; exact h4, h5.mono s px rfl, h6⟩
  · obtain ⟨a1, a2⟩ := ownSet j d e1
    obtain ⟨b1, b2⟩ := ownSet k f e2
    exact r.oinj j k d f q a1 b1 (by rw [← a2]; exact e3) (by rw [← b2]; exact e4)
  · obtain ⟨h4, h5⟩ := r.box j d q e1 e2 e3
    exact ⟨h4.mono s px rfl, h5⟩
theorem EnLe.wipe (h : EnLe E E') : EnLe (wipeE E ks) (wipeE E' ks) := fun i hi => by
  by_cases hj : i ∈ ks
  · rcases hi with ⟨u, e⟩ | ⟨c, e⟩ <;> cases wipeE_in hj e
  · unfold IsSet at hi ⊢
    rw [wipeE_get hj] at hi ⊢
    exact h i hi
theorem wipeE_idem : wipeE (wipeE E ks) ks = wipeE E ks := by
  apply List.ext_getElem?
  intro j
  by_cases hj : j ∈ ks
  · by_cases hl : j < E.length
    · have h1 : ∃ s, (wipeE (wipeE E ks) ks)[j]? = some s := ⟨_, List.getElem?_eq_getElem (by rw [wipeE_len, wipeE_len]; exact hl)⟩
      have h2 : ∃ s, (wipeE E ks)[j]? = some s := ⟨_, List.getElem?_eq_getElem (by rw [wipeE_len]; exact hl)⟩
      obtain ⟨s1, h1⟩ := h1
      obtain ⟨s2, h2⟩ := h2
      rw [h1, h2, wipeE_in hj h1, wipeE_in hj h2]
    · rw [List.getElem?_eq_none (by rw [wipeE_len, wipeE_len]; omega), List.getElem?_eq_none (by rw [wipeE_len]; omega)]
  · rw [wipeE_get hj]
theorem keepE_len : ∀ ks : List Nat, (keepE E1 E ks).length = E.length
  | [] => rfl
  | v :: vs => by
    unfold keepE
    split
    · rw [List.length_set, keepE_len vs]
    · exact keepE_len vs
theorem keepE_get : ∀ {ks : List Nat} {j : Nat}, j ∉ ks → (keepE E1 E ks)[j]? = E[j]?
  | [], j, _ => rfl
  | v :: vs, j, h => by
    unfold keepE
    split
    · rw [List.getElem?_set_ne (fun e => h (by simp [e]))]
      exact keepE_get fun z => h (List.mem_cons_of_mem _ z)
    · exact keepE_get fun z => h (List.mem_cons_of_mem _ z)
theorem keepE_in : ∀ {ks : List Nat} {j : Nat} {s : Sl}, j ∈ ks → noOwn E1 ks = true → (keepE E1 E ks)[j]? = some s → E1[j]? = some s ∧ ∀ c, s ≠ .own c
  | v :: vs, j, s, h, hn, e => by
    unfold keepE at e
    unfold noOwn at hn
    cases hv : E1[v]? with
    | none => rw [hv] at hn; cases hn
    | some sv =>
      rw [hv] at e hn
      have hn' : noOwn E1 vs = true ∧ ∀ c, sv ≠ .own c := by
        cases sv with
        | own c => cases hn
        | un => exact ⟨hn, fun c z => by cases z⟩
        | val u => exact ⟨hn, fun c z => by cases z⟩
      by_cases hj : v = j
      · subst hj
        have hl : v < (keepE E1 E vs).length := by have := (List.getElem?_eq_some_iff.mp e).1; simpa using this
        simp only at e
        rw [List.getElem?_set_self hl] at e
        cases e
        exact ⟨hv, hn'.2⟩
      · simp only at e
        rw [List.getElem?_set_ne hj] at e
        rcases List.mem_cons.mp h with z | z
        · exact absurd z.symm hj
        · exact keepE_in z hn'.1 e
/-- behind the block the slots are as they were -/
theorem Rel.restore {ρ1 : List Addr} {H1 : Hp} {F1 : Fm} (r1 : Rel K F1 ρ1 E1 B1 σ H1) (r : Rel K F ρ E B (wipe σ ks) H) (s1 : Stp H1 (LvF F1 ρ1 E1 B1 σ) H (LvF F ρ E B (wipe σ ks))) (px1 : ρ1 <+: ρ) (hn : noOwn E1 ks = true) :
    Rel K F ρ (keepE E1 E ks) B σ H ∧ (∀ q, LvF F ρ (keepE E1 E ks) B σ q → LvF F ρ E B (wipe σ ks) q) := by
  have px : ρ <+: ρ := List.prefix_refl _
  have ownSet : ∀ (j : Nat) (d : Cell), (keepE E1 E ks)[j]? = some (.own d) → E[j]? = some (.own d) ∧ σ[j]? = (wipe σ ks)[j]? := fun j d e => by
    by_cases hj : j ∈ ks
    · exact absurd rfl ((keepE_in hj hn e).2 d)
    · rw [keepE_get hj] at e; exact ⟨e, (wipe_get hj).symm⟩
  have less : ∀ q, LvF F ρ (keepE E1 E ks) B σ q → LvF F ρ E B (wipe σ ks) q := fun q z => by
    rcases z with z | z | ⟨j, d, h1, h2⟩
    · exact .inl z
    · exact .inr (.inl z)
    · obtain ⟨h3, h4⟩ := ownSet j d h1
      exact .inr (.inr ⟨j, d, h3, by rw [← h4]; exact h2⟩)
  have s := Stp.less (H := H) less
  refine ⟨⟨by rw [keepE_len, r.elen, wipe_length], r.blen, fun j w e => ?_, fun j d e => ?_, fun j k d f q e1 e2 e3 e4 => ?_, fun j d q e1 e2 e3 => ?_, r.binj, r.out, r.old.trans s, r.grow⟩, less⟩
  · by_cases hj : j ∈ ks
    · obtain ⟨w', h1, h2⟩ := r1.val j w (keepE_in hj hn e).1
      exact ⟨w', h1, h2.mono (s1.trans s) px1⟩
    · rw [keepE_get hj] at e
      obtain ⟨w', h1, h2⟩ := r.val j w e
      exact ⟨w', by rw [← h1, wipe_get hj], h2.mono s px⟩
  · obtain ⟨h1, h2⟩ := ownSet j d e
    obtain ⟨h3, q, h4, h5, h6⟩ := r.own j d h1
    exact ⟨h3, q, by rw [h2]; exact h4, h5.mono s px rfl, h6⟩
  · obtain ⟨a1, a2⟩ := ownSet j d e1
    obtain ⟨b1, b2⟩ := ownSet k f e2
    exact r.oinj j k d f q a1 b1 (by rw [← a2]; exact e3) (by rw [← b2]; exact e4)
  · obtain ⟨h4, h5⟩ := r.box j d q e1 e2 e3
    exact ⟨h4.mono s px rfl, h5⟩
/-- a new thing gets another content -/
theorem Rel.reown {D : Addr} {o : Option HO} {ob : HO} (r : Rel K (F.add D o) ρ E B σ H) (n : New F D) :
    Rel K (F.add D (some ob)) ρ E B σ (upd H D ob) ∧ Stp H (LvF (F.add D o) ρ E B σ) (upd H D ob) (LvF (F.add D (some ob)) ρ E B σ) := by
  have px : ρ <+: ρ := List.prefix_refl _
  have nl := Rel.notLv r n
  have s : Stp H (LvF (F.add D o) ρ E B σ) (upd H D ob) (LvF (F.add D (some ob)) ρ E B σ) := fun q x h z => by
    have ne : q ≠ D := fun y => z (LvF.add_iff.mpr (.inr y))
    exact ⟨.inl (by rw [upd_ne ne]; exact h), z⟩
  have neB : ∀ (i : Nat) (c : Cell) (q : Addr), B[i]? = some c → c.live = true → ρ[i]? = some q → q ≠ D := fun i c q h1 h2 h3 e => (r.box i c q h1 h2 h3).2 (.inr e)
  refine ⟨⟨r.elen, r.blen, fun j w e => ?_, fun j d e => ?_, r.oinj, fun j d q e1 e2 e3 => ?_, r.binj, fun q h => ?_, fun q x h z => ?_, fun q x h => ?_⟩, s⟩
  · obtain ⟨w', h1, h2⟩ := r.val j w e
    exact ⟨w', h1, h2.mono s px⟩
  · obtain ⟨h3, q, h4, h5, h6, h7⟩ := r.own j d e
    have ne : q ≠ D := fun y => h6 (.inr y)
    exact ⟨h3, q, h4, h5.mono s px (upd_ne ne), h6, h7⟩
  · obtain ⟨h4, h5⟩ := r.box j d q e1 e2 e3
    exact ⟨h4.mono s px (upd_ne (neB j d q e1 e2 e3)), h5⟩
  · by_cases ne : q = D
    · subst ne; exact ⟨by rw [upd_same]; simp [Fm.add], ob, by simp [Fm.add]⟩
    · have := r.out q h
      rw [upd_ne ne]
      simpa [Fm.add, ne] using this
  · have ne : q ≠ D := fun y => z (.inr y)
    exact r.old.trans s q x (by simpa [Fm.add, ne] using h) z
  · by_cases ne : q = D
    · subst ne; exact ⟨ob, upd_same⟩
    · obtain ⟨o', h1⟩ := r.grow q x (by simpa [Fm.add, ne] using h)
      exact ⟨o', by rw [upd_ne ne]; exact h1⟩
end
/-! ### uniform readings -/
def uE (K : PySem.W.Frag) (Y : Xq) (f : Ex) : TE := fun σ H Q => ∃ F ρ E B, Rel K F ρ E B σ H ∧ PostE K Y F ρ E B σ H (f E B) Q
def uT (K : PySem.W.Frag) (Y : Xq) (f : Te) : TT := fun σ H Q => ∃ F ρ E B, Rel K F ρ E B σ H ∧ PostT K Y F ρ E B σ H (f E B) Q
def uG (K : PySem.W.Frag) (ks : List Nat) (bd : Bd) : TG := fun v σ H Q => ∃ F ρ E B u, Rel K F ρ E B σ H ∧ Rep K H (LvF F ρ E B σ) ρ u v ∧
  (match bd u E with
    | some E' => ∀ σ', Rel K F ρ E' B σ' H → SameBut ks σ σ' → (∀ q, LvF F ρ E' B σ' q → LvF F ρ E B σ q) → EnLe E E' → Q σ' H
    | none => False)
section
variable {X : Cy} {a b c e i tg iter elt : Expr} {es ifs : List Expr} {fa fb fe : Ex} {ft : Te} {fi : Iv} {bd : Bd} {ks : List Nat} {pos spos py : Pos} {y : Str} {scope : Scope} {own : List (Str × Nat)}
theorem SndE.u (h : SndE X e fa) : PE X e (uE X.K X.q fa) := by
  obtain ⟨t, p, h⟩ := h
  exact ⟨fun pins s σ H Q I ⟨F, ρ, E, B, rl, q⟩ => p.run pins s σ H Q I (h F ρ E B σ H Q rl q)⟩
theorem SndT.u (h : SndT X e ft) : PT X e (uT X.K X.q ft) := by
  obtain ⟨t, p, h⟩ := h
  exact ⟨fun pins s σ H Q I ⟨F, ρ, E, B, rl, q⟩ => p.run pins s σ H Q I (h F ρ E B σ H Q rl q)⟩
theorem SndG.u (h : SndG X tg ks bd) : PG X tg (uG X.K ks bd) := by
  obtain ⟨t, p, h⟩ := h
  exact ⟨fun pins s σ H v u Q I r ⟨F, ρ, E, B, w, rl, rr, q⟩ => p.run pins s σ H v u Q I r (h F ρ E B σ H w v Q rl rr q)⟩
/-- the tests of a comprehension -/
def SndTs (X : Cy) (ifs : List Expr) (f : Te) : Prop := PTs X ifs (uT X.K X.q f)
theorem sndTs_nil : SndTs X [] mYes := ⟨fun pins s σ H Q I ⟨F, ρ, E, B, rl, q⟩ => pts_nil.run pins s σ H Q I (q ρ H (AftT.refl rl))⟩
theorem sndTs_one (h : SndT X c ft) : SndTs X [c] ft := pts_one h.u
/-- within a comprehension's block nothing is wished of exceptions -/
def bq (X : Cy) : Xq := ⟨fun _ _ _ _ => False, X.mg⟩
theorem lcGo_nex {bd : Bd} {t : Te} {f : Ex} {chk : Bx → Prop} {ks : List Nat} {c : Exn} {E' : En} {B' : Bx} : ∀ us acc E B, lcGo bd t f chk ks us acc E B ≠ .ex c E' B'
  | [], acc, E, B => by intro z; simp [lcGo] at z
  | u :: us, acc, E, B => by
    have gn : ∀ (acc : List U) (E : En) (B : Bx), goOnL chk (lcGo bd t f chk ks us acc) E B ≠ .ex c E' B' := fun acc E B => by
      unfold goOnL
      split
      · exact lcGo_nex us acc E B
      · intro z; cases z
    intro z
    unfold lcGo at z
    cases h1 : bd u E with
    | none => simp only [h1] at z; cases z
    | some E1 =>
      simp only [h1] at z
      cases h2 : t E1 B with
      | bad => simp only [h2, O.bindN_bad] at z; cases z
      | ex _ _ _ => simp only [h2, O.bindN_ex] at z; cases z
      | ok b E2 B2 =>
        simp only [h2, O.bindN_ok] at z
        by_cases hb : b = true
        · rw [if_pos hb] at z
          cases h3 : f E2 B2 with
          | bad => simp only [h3, O.bindN_bad] at z; cases z
          | ex _ _ _ => simp only [h3, O.bindN_ex] at z; cases z
          | ok r E3 B3 =>
            simp only [h3, O.bindN_ok] at z
            cases h4 : settle r E3 with
            | none => simp only [h4] at z; cases z
            | some w =>
              simp only [h4] at z
              split at z
              · exact gn _ _ _ z
              · cases z
        · rw [if_neg hb] at z; exact gn _ _ _ z
def PostL (o : O (List U)) (k : List U → En → Bx → Prop) : Prop :=
  match o with
  | .ok a E B => k a E B
  | _ => False
structure Fin (K : PySem.W.Frag) (F : Fm) (ρ1 : List Addr) (E1 : En) (B1 : Bx) (σ : L2.St) (H1 : Hp) (D : Addr) (ks : List Nat) (acc : List U) (E : En) (B : Bx) (ρ : List Addr) (H : Hp) (vacc : List V) : Prop where
  px : ρ1 <+: ρ
  rel : Rel K (F.add D (some (.lst vacc))) ρ E B (wipe σ ks) H
  stp : Stp H1 (LvF F ρ1 E1 B1 σ) H (LvF (F.add D (some (.lst vacc))) ρ E B (wipe σ ks))
  le : EnLe (wipeE E1 ks) E
  at_ : H D = some (.lst vacc)
  reps : Reps K H (LvF (F.add D (some (.lst vacc))) ρ E B (wipe σ ks)) ρ acc vacc
theorem lc_reads {ta : TI} (hi : ∀ F ρ E B σ H (Rk : It → Hp → Prop), Rel X.K F ρ E B σ H → (match fi E B with
      | .ok w E' B' => ∀ ρ' H' J G, AftT X.K F ρ E B σ H ρ' E' B' H' → WalkU X.K J w.1 w.2 G → G H' (LvF F ρ' E' B' σ) ρ' → w.2 B' → Rk J H'
      | .ex c E' B' => ExQ X.K X.q F ρ c E' B'
      | .bad => False) → ta σ H Rk) :
    ∀ F ρ E B σ H Q, Rel X.K F ρ E B σ H → PostE X.K X.q F ρ E B σ H (mLc fi bd ft fe ks E B) Q → tLc ta (uG X.K ks bd) (uT X.K (bq X) ft) (uE X.K (bq X) fe) ks σ H Q := by
  intro F ρ E B σ H Q rl q
  refine hi F ρ E B σ H _ rl ?_
  simp only [mLc] at q
  cases h1 : fi E B with
  | bad => rw [h1] at q; exact q
  | ex c E' B' => rw [h1] at q ; first | exact q | exact Aft.exq (by assumption) q | exact AftT.exq (by assumption) q | exact Aft.exq (by assumption) (Aft.exq (by assumption) q) | exact AftT.exq (by assumption) (Aft.exq (by assumption) q) | exact AftT.exq (AftA.t (by assumption)) q | exact ExQ.px q (Aft.px (by assumption)) | exact ExQ.px q (List.IsPrefix.trans (AftT.px (by assumption)) (Aft.px (by assumption))) | exact Aft.exq (by assumption) (AftT.exq (by assumption) q) | exact Aft.exq (by assumption) (Aft.exq (by assumption) (AftT.exq (by assumption) q))
  | ok w E1 B1 =>
    rw [h1] at q
    obtain ⟨us, chk⟩ := w
    simp only [O.bind_ok] at q
    intro ρ1 H1 J G A1 W G1 C1 D hD
    have hn : noOwn E1 ks = true := by
      by_cases z : noOwn E1 ks = true
      · exact z
      · rw [if_neg z] at q; exact q.elim
    rw [if_pos hn] at q
    have nw : New F D := A1.rel.new hD
    -- the slots lie within the frame
    have hks : ∀ k ∈ ks, k < σ.length := fun k hkm => by
      have hE : ∀ (ls : List Nat), noOwn E1 ls = true → ∀ k ∈ ls, k < E1.length := by
        intro ls
        induction ls with
        | nil => intro _ k z; cases z
        | cons v vs ih =>
          intro hn k hk
          unfold noOwn at hn
          cases hv : E1[v]? with
          | none => rw [hv] at hn; cases hn
          | some sv =>
            rw [hv] at hn
            have hn' : noOwn E1 vs = true := by cases sv <;> first | exact hn | cases hn
            rcases List.mem_cons.mp hk with z | z
            · subst z; exact (List.getElem?_eq_some_iff.mp hv).1
            · exact ih hn' k z
      have := hE ks hn k hkm
      rw [A1.rel.elen] at this
      exact this
    have qpost : PostL (lcGo bd ft fe chk ks us [] (wipeE E1 ks) B1) (fun accf Ef Bf => ∀ ρf Hf vf, Fin X.K F ρ1 E1 B1 σ H1 D ks accf Ef Bf ρf Hf vf → Q (.ref D) Hf) := by
      cases h2 : lcGo bd ft fe chk ks us [] (wipeE E1 ks) B1 with
      | bad => rw [h2] at q; exact q
      | ex c E' B' => exact absurd h2 (lcGo_nex _ _ _ _)
      | ok accf Ef Bf =>
        rw [h2] at q
        simp only [O.bind_ok] at q
        intro ρf Hf vf fin
        obtain ⟨r2, lv2⟩ := Rel.restore A1.rel fin.rel fin.stp fin.px hn
        have ea : F.addR Hf (.fr (.lst accf)) (.ref D) = F.add D (some (.lst vf)) := by simp only [Fm.addR, fin.at_]
        have s2 := Stp.less (H := Hf) lv2
        refine q ρf Hf (.ref D) ⟨A1.px.trans fin.px, by rw [ea]; exact r2, by rw [ea]; exact A1.stp.trans (fin.stp.trans s2), A1.le.trans fun j hj => ?_, ?_⟩
        · by_cases hjk : j ∈ ks
          · have hjl : j < E1.length := by rcases hj with ⟨u, e⟩ | ⟨c, e⟩ <;> exact (List.getElem?_eq_some_iff.mp e).1
            have hfl : j < (keepE E1 Ef ks).length := by
              rw [keepE_len, fin.rel.elen, wipe_length, ← A1.rel.elen]; exact hjl
            have hs := keepE_in hjk hn (List.getElem?_eq_getElem hfl)
            unfold IsSet at hj ⊢
            rw [List.getElem?_eq_getElem hfl, ← hs.1]
            exact hj
          · have h3 : IsSet (wipeE E1 ks) j := by unfold IsSet at hj ⊢; rw [wipeE_get hjk]; exact hj
            have h4 := fin.le j h3
            unfold IsSet at h4 ⊢
            rw [keepE_get hjk]
            exact h4
        · rw [ea]
          exact ⟨D, rfl, rfl, ⟨vf, fin.at_, fin.reps.mono s2 (List.prefix_refl _)⟩, nw⟩
    -- the loop
    refine ⟨fun i m Hc => m = us.length - i ∧ i ≤ us.length ∧ ∃ ρc Ec Bc acc vacc, Fin X.K F ρ1 E1 B1 σ H1 D ks acc Ec Bc ρc Hc vacc ∧ G Hc (LvF (F.add D (some (.lst vacc))) ρc Ec Bc (wipe σ ks)) ρc ∧ wipeE Ec ks = Ec ∧
      PostL (lcGo bd ft fe chk ks (us.drop i) acc Ec Bc) (fun accf Ef Bf => ∀ ρf Hf vf, Fin X.K F ρ1 E1 B1 σ H1 D ks accf Ef Bf ρf Hf vf → Q (.ref D) Hf), ⟨us.length, by simp, Nat.zero_le _, ρ1, wipeE E1 ks, B1, [], [], ?_, ?_, wipeE_idem, by simpa using qpost⟩, ?_⟩
    · obtain ⟨r2, lv2⟩ := (A1.rel.alloc (ob := .lst []) hD).wipes (ks := ks)
      have sa : Stp H1 (LvF F ρ1 E1 B1 σ) (upd H1 D (.lst [])) (LvF (F.add D (some (.lst []))) ρ1 E1 B1 σ) := fun q o h n => ⟨.inl (by rw [upd_ne (ne_of_none h hD)]; exact h), fun z => by
        rcases LvF.add_iff.mp z with z | z
        · exact n z
        · subst z; rw [hD] at h; cases h⟩
      exact ⟨List.prefix_refl _, r2, sa.trans (Stp.less lv2), EnLe.refl, upd_same, Reps.nil⟩
    · obtain ⟨r2, lv2⟩ := (A1.rel.alloc (ob := .lst []) hD).wipes (ks := ks)
      have sa : Stp H1 (LvF F ρ1 E1 B1 σ) (upd H1 D (.lst [])) (LvF (F.add D (some (.lst []))) ρ1 E1 B1 σ) := fun q o h n => ⟨.inl (by rw [upd_ne (ne_of_none h hD)]; exact h), fun z => by
        rcases LvF.add_iff.mp z with z | z
        · exact n z
        · subst z; rw [hD] at h; cases h⟩
      exact W.keep _ _ _ _ _ _ B1 G1 (sa.trans (Stp.less lv2)) (List.prefix_refl _) r2.boxes C1
    · rintro i m Hc ⟨rfl, hil, ρc, Ec, Bc, acc, vacc, fin, Gc, hwe, qc⟩
      by_cases hlt : i < us.length
      · refine .inr ⟨W.go _ _ _ _ Gc hlt, fun H' => (i + 1 ≤ us.length ∧ ∃ ρc Ec Bc acc vacc, Fin X.K F ρ1 E1 B1 σ H1 D ks acc Ec Bc ρc H' vacc ∧ G H' (LvF (F.add D (some (.lst vacc))) ρc Ec Bc (wipe σ ks)) ρc ∧ wipeE Ec ks = Ec ∧
          PostL (lcGo bd ft fe chk ks (us.drop (i + 1)) acc Ec Bc) (fun accf Ef Bf => ∀ ρf Hf vf, Fin X.K F ρ1 E1 B1 σ H1 D ks accf Ef Bf ρf Hf vf → Q (.ref D) Hf)), fun H' n => ⟨us.length - (i + 1), by omega, rfl, n⟩, fun x H' hy => ?_⟩
        have hu : us[i]? = some us[i] := List.getElem?_eq_getElem hlt
        obtain ⟨gr, rp⟩ := W.yld _ _ _ i us[i] x H' Gc hu hy fin.rel.lv_there
        have rl3 := fin.rel.growH gr
        have sg := grow_stp fin.rel gr
        rw [List.drop_eq_getElem_cons hlt] at qc
        simp only [lcGo] at qc
        refine ⟨F.add D (some (.lst vacc)), ρc, Ec, Bc, us[i], rl3, rp, ?_⟩
        cases h3 : bd us[i] Ec with
        | none => simp only [h3] at qc; exact (qc : False).elim
        | some E2 =>
          simp only [h3] at qc
          intro σ2 rl4 sb lv4 le4
          have hw2 : wipe σ2 ks = wipe σ ks := by
            have := wipe_same sb (fun k hkm => by rw [wipe_length]; exact hks k hkm)
            rw [this, wipe_idem (by intro k hkm; rw [wipe_length]; exact hks k hkm), wipe_idem hks]
          have s0 : Stp Hc (LvF (F.add D (some (.lst vacc))) ρc Ec Bc (wipe σ ks)) H' (LvF (F.add D (some (.lst vacc))) ρc E2 Bc σ2) := sg.trans (Stp.less lv4)
          have done : ∀ (ρn : List Addr) (En : En) (Bn : Bx) (Hn : Hp) (vn : List V) (accn : List U), ρc <+: ρn → Rel X.K (F.add D (some (.lst vn))) ρn En Bn σ2 Hn → Stp H' (LvF (F.add D (some (.lst vacc))) ρc E2 Bc σ2) Hn (LvF (F.add D (some (.lst vn))) ρn En Bn σ2) → EnLe E2 En → Hn D = some (.lst vn) →
              Reps X.K Hn (LvF (F.add D (some (.lst vn))) ρn En Bn σ2) ρn accn vn → PostL (goOnL chk (lcGo bd ft fe chk ks (us.drop (i + 1)) accn) (wipeE En ks) Bn) (fun accf Ef Bf => ∀ ρf Hf vf, Fin X.K F ρ1 E1 B1 σ H1 D ks accf Ef Bf ρf Hf vf → Q (.ref D) Hf) →
              (i + 1 ≤ us.length ∧ ∃ ρc Ec Bc acc vacc, Fin X.K F ρ1 E1 B1 σ H1 D ks acc Ec Bc ρc Hn vacc ∧ G Hn (LvF (F.add D (some (.lst vacc))) ρc Ec Bc (wipe σ ks)) ρc ∧ wipeE Ec ks = Ec ∧
                PostL (lcGo bd ft fe chk ks (us.drop (i + 1)) acc Ec Bc) (fun accf Ef Bf => ∀ ρf Hf vf, Fin X.K F ρ1 E1 B1 σ H1 D ks accf Ef Bf ρf Hf vf → Q (.ref D) Hf)) := fun ρn En Bn Hn vn accn pxn rln sn len atn repn qn => by
            obtain ⟨rw', lvw⟩ := rln.wipes (ks := ks)
            rw [hw2] at rw' lvw
            have sw := Stp.less (H := Hn) lvw
            have hck : chk Bn := by
              by_cases z : chk Bn
              · exact z
              · unfold goOnL at qn; rw [if_neg z] at qn; exact qn.elim
            rw [goOnL_yes hck] at qn
            have stot := (s0.trans sn).trans sw
            have le5 : EnLe (wipeE E1 ks) (wipeE En ks) := by
              have h0 := fin.le.trans (le4.trans len)
              have h1 := h0.wipe (ks := ks)
              rw [wipeE_idem] at h1
              exact h1
            exact ⟨hlt, ρn, wipeE En ks, Bn, accn, vn, ⟨fin.px.trans pxn, rw', fin.stp.trans stot, le5, atn, repn.mono sw (List.prefix_refl _)⟩, W.keep _ _ _ _ _ _ Bn Gc stot pxn rw'.boxes hck, wipeE_idem, qn⟩
          refine ⟨hw2, F.add D (some (.lst vacc)), ρc, E2, Bc, rl4, ?_⟩
          cases h4 : ft E2 Bc with
          | bad => simp only [h4] at qc; exact qc
          | ex c E' B' => simp only [h4, O.bindN_ex] at qc; exact (qc : False).elim
          | ok b E3 B3 =>
            simp only [h4, O.bindN_ok] at qc
            intro ρ3 H3 A3
            have at3 : H3 D = some (.lst vacc) := by have := (A3.rel.out D (.inr rfl)).1; simpa [Fm.add] using this
            cases b with
            | false =>
              simp only [Bool.false_eq_true, if_false] at qc ⊢
              exact done ρ3 E3 B3 H3 vacc acc A3.px A3.rel A3.stp A3.le at3 (fin.reps.mono (s0.trans A3.stp) A3.px) qc
            | true =>
              simp only [if_true] at qc ⊢
              refine ⟨F.add D (some (.lst vacc)), ρ3, E3, B3, A3.rel, ?_⟩
              cases h5 : fe E3 B3 with
              | bad => rw [h5] at qc; exact qc
              | ex c E' B' => rw [h5] at qc; exact (qc : False).elim
              | ok r E4 B4 =>
                rw [h5] at qc
                simp only [O.bindN_ok] at qc
                intro ρ4 H4 v4 A4
                cases h6 : settle r E4 with
                | none => rw [h6] at qc; exact qc.elim
                | some yE =>
                  obtain ⟨y, E5⟩ := yE
                  rw [h6] at qc
                  simp only at qc
                  by_cases hl : acc.length < 16777216
                  · rw [if_pos hl] at qc
                    obtain ⟨T4, R4⟩ := A4.settled h6
                    have at4 : H4 D = some (.lst vacc) := by have := (T4.rel.out D (.inr rfl)).1; simpa [Fm.add] using this
                    obtain ⟨r5, s5⟩ := T4.rel.reown (ob := .lst (vacc ++ [v4])) nw
                    refine ⟨vacc, at4, by rw [sizeLine_eq, ← fin.reps.len]; exact hl, ?_⟩
                    exact done ρ4 E5 B4 _ (vacc ++ [v4]) (acc ++ [y]) (A3.px.trans T4.px) r5 ((A3.stp.trans T4.stp).trans s5) (A3.le.trans T4.le) upd_same
                      ((fin.reps.mono (((s0.trans A3.stp).trans T4.stp).trans s5) (A3.px.trans T4.px)).append (Reps.one (Rep.mono s5 (List.prefix_refl _) _ _ R4))) qc
                  · rw [if_neg hl] at qc; exact qc.elim
      · have e : i = us.length := by omega
        subst e
        rw [List.drop_length] at qc
        exact .inl ⟨W.stop _ _ _ Gc, qc ρc Hc vacc fin⟩
end
end QB
/-! QbK: comprehensions as expressions and statements; more operations; the law's end. -/
namespace QB
open PySem L2
/-- a comprehension's block -/
abbrev Cy.blk (X : Cy) (s : Shared) (H : Hp) (scope : Scope) (cenv : Env) (fp : List Addr) : Cy := ⟨X.toCx.blk s H scope cenv fp, fun _ _ _ _ => False, takes0, PassesOwn.never⟩
section
variable {X : Cy} {a b c e i o tg iter elt : Expr} {es ifs : List Expr} {fa fb fe fo : Ex} {ft : Te} {fi : Iv} {fs : Ar} {bd : Bd} {ks : List Nat} {pos spos py p p1 p2 p3 cpos apos : Pos} {x y name : Str} {scope : Scope} {own : List (Str × Nat)}
theorem sndE_lc (hc : X.calm = true) (hN : X.N.Nodup) (ok : BlkOk X.N X.env.scope scope own) (hi : SndI X tg iter fi)
    (hg : ∀ (s : Shared) (H : Hp) (C : Addr) (cl : List (Str × Addr)) (fp : List Addr), SndG (X.blk s H scope (compEnvC scope cl C X.env) fp) tg (own.map (·.2)) bd)
    (ht : ∀ (s : Shared) (H : Hp) (C : Addr) (cl : List (Str × Addr)) (fp : List Addr), SndTs (X.blk s H scope (compEnvC scope cl C X.env) fp) ifs ft)
    (he : ∀ (s : Shared) (H : Hp) (C : Addr) (cl : List (Str × Addr)) (fp : List Addr), SndE (X.blk s H scope (compEnvC scope cl C X.env) fp) elt fe)
    (hs : ∀ x, foldedSetIterable iter X.env x = pure x := by intro _; rfl) : SndE X (.ListComp elt [⟨tg, iter, ifs, 0⟩] scope pos) (mLc fi bd ft fe (own.map (·.2))) := by
  obtain ⟨wi, pi, hi⟩ := hi
  exact ⟨_, pe_lc (g := uG X.K (own.map (·.2)) bd) (tt := uT X.K (bq X) ft) (te := uE X.K (bq X) fe) hc hN pi ok (fun s H C cl fp => (hg s H C cl fp).u) (fun s H C cl fp => ht s H C cl fp) (fun s H C cl fp => (he s H C cl fp).u) hs, lc_reads hi⟩
theorem sndS_setLc {k : Nat} (hc : X.calm = true) (hN : X.N.Nodup) (ok : BlkOk X.N X.env.scope scope own) (hi : SndI X tg iter fi)
    (hg : ∀ (s : Shared) (H : Hp) (C : Addr) (cl : List (Str × Addr)) (fp : List Addr), SndG (X.blk s H scope (compEnvC scope cl C X.env) fp) tg (own.map (·.2)) bd)
    (ht : ∀ (s : Shared) (H : Hp) (C : Addr) (cl : List (Str × Addr)) (fp : List Addr), SndTs (X.blk s H scope (compEnvC scope cl C X.env) fp) ifs ft)
    (he : ∀ (s : Shared) (H : Hp) (C : Addr) (cl : List (Str × Addr)) (fp : List Addr), SndE (X.blk s H scope (compEnvC scope cl C X.env) fp) elt fe)
    (hy : X.N[k]? = some y := by rfl) (hyl : X.env.scope.names.lookup y = some .local := by rfl) (hsw : swapsWith (.ListComp elt [⟨tg, iter, ifs, 0⟩] scope pos) (some (.Name y py)) spos.line X.env = pure true := by exact sw_true rfl rfl rfl (by decide +kernel))
    (hs : ∀ x, foldedSetIterable iter X.env x = pure x := by intro _; rfl) : SndS X (.Assign [.Name y py] (.ListComp elt [⟨tg, iter, ifs, 0⟩] scope pos) spos) (sSet k (mLc fi bd ft fe (own.map (·.2)))) := by
  obtain ⟨wi, pi, hi⟩ := hi
  exact ⟨_, ps_setLc (g := uG X.K (own.map (·.2)) bd) (tt := uT X.K (bq X) ft) (te := uE X.K (bq X) fe) hc hN hy hyl hsw pi ok (fun s H C cl fp => (hg s H C cl fp).u) (fun s H C cl fp => ht s H C cl fp) (fun s H C cl fp => (he s H C cl fp).u) hs, set_reads (lc_reads hi)⟩
theorem sndS_ownLc {k : Nat} (hc : X.calm = true) (hN : X.N.Nodup) (ok : BlkOk X.N X.env.scope scope own) (hi : SndI X tg iter fi)
    (hg : ∀ (s : Shared) (H : Hp) (C : Addr) (cl : List (Str × Addr)) (fp : List Addr), SndG (X.blk s H scope (compEnvC scope cl C X.env) fp) tg (own.map (·.2)) bd)
    (ht : ∀ (s : Shared) (H : Hp) (C : Addr) (cl : List (Str × Addr)) (fp : List Addr), SndTs (X.blk s H scope (compEnvC scope cl C X.env) fp) ifs ft)
    (he : ∀ (s : Shared) (H : Hp) (C : Addr) (cl : List (Str × Addr)) (fp : List Addr), SndE (X.blk s H scope (compEnvC scope cl C X.env) fp) elt fe)
    (hy : X.N[k]? = some y := by rfl) (hyl : X.env.scope.names.lookup y = some .local := by rfl) (hsw : swapsWith (.ListComp elt [⟨tg, iter, ifs, 0⟩] scope pos) (some (.Name y py)) spos.line X.env = pure true := by exact sw_true rfl rfl rfl (by decide +kernel))
    (hs : ∀ x, foldedSetIterable iter X.env x = pure x := by intro _; rfl) : SndS X (.Assign [.Name y py] (.ListComp elt [⟨tg, iter, ifs, 0⟩] scope pos) spos) (sOwn k (mLc fi bd ft fe (own.map (·.2)))) := by
  obtain ⟨wi, pi, hi⟩ := hi
  exact ⟨_, ps_setLc (g := uG X.K (own.map (·.2)) bd) (tt := uT X.K (bq X) ft) (te := uE X.K (bq X) fe) hc hN hy hyl hsw pi ok (fun s H C cl fp => (hg s H C cl fp).u) (fun s H C cl fp => ht s H C cl fp) (fun s H C cl fp => (he s H C cl fp).u) hs, own_reads (lc_reads hi)⟩
/-! ### isinstance against a tuple of types -/
theorem kitAny_of {K : PySem.W.Frag} {s : String} : ∀ {Ts : List String} {k : Bool}, isAny s Ts = some k → PySem.W.kitAny K (.type s) (Ts.map Value.type) = some k := by
  intro Ts
  induction Ts with
  | nil => intro k h; simp only [isAny, Option.some.injEq] at h; subst h; rfl
  | cons T Ts ih =>
    intro k h
    simp only [isAny, Option.bind_eq_some_iff, Option.map_eq_some_iff] at h
    obtain ⟨k1, h1, k2, h2, rfl⟩ := h
    have e1 : PySem.W.kitOne K (.type s) (.type T) = some k1 := kit_ty h1
    have e2 := ih h2
    simp only [List.map_cons, PySem.W.kitAny, e1, e2]
    cases k1 <;> rfl
/-! ### [::-1] of lists -/
def mRevL (fa : Ex) : Ex := m1 (fun u => match u with | .lst us => some (.fr (.lst us.reverse)) | _ => none) fa
theorem sndE_revL {k : Nat} (ha : SndE X a fa) : SndE X (.Subscript a (.Slice none none (some (.UnaryOp .USub (.Constant (.int 1) k p1) p2)) p3) pos) (mRevL fa) := by
  obtain ⟨ta, pa, ha⟩ := ha
  refine ⟨_, pe_revL pa, m1_ok (r := fun v H Q => ∃ a xs, v = .ref a ∧ SqL X.K H a xs ∧ ∀ p, H p = none → Q (.ref p) (upd H p (.lst xs.reverse))) (fun F ρ E B σ H u1 v1 r3 Q rl t e q => ?_) ha⟩
  split at e
  · next us =>
    cases e
    obtain ⟨p, vs, rfl, h1, h2⟩ := t
    exact ⟨p, vs, rfl, .inl (.inl h1), fun p hp => q _ _ (Aft.fresh rl hp h2.reverse)⟩
  · cases e
end
/-! ### the law's end -/
/-- the law's own promise: nothing is raised -/
def spL (K : PySem.W.Frag) (n : Nat) (g : Fn) : Sp := fun vs H Q _ => ∃ Out ρ B us, us.length = n ∧ BRel K Out ρ B H ∧ Reps K H (OB Out ρ B) ρ us vs ∧
  match g us B with
  | .ok u B' => ∀ ρ' H' v, BAft K Out ρ B H u ρ' B' H' v → Q v H'
  | _ => False
theorem spL_spF {K : PySem.W.Frag} {mg : Str → Option Value} {n : Nat} {g : Fn} : ∀ vs H Q E, spL K n g vs H Q E → spF K mg n g vs H Q E := fun vs H Q E ⟨Out, ρ, B, us, h1, h2, h3, h4⟩ =>
  ⟨Out, ρ, B, us, h1, h2, h3, by
    cases e : g us B with
    | bad => rw [e] at h4; exact h4.elim
    | ex c B' => rw [e] at h4; exact h4.elim
    | ok u B' => rw [e] at h4; exact h4⟩
theorem spF_law {K : PySem.W.Frag} {g : Fn} (h : ∀ ns : List Int, ns.length ≤ 63 → ∃ B', g [.scr ns] [] = .ok (.bl true) B') :
    ∀ (H : Hp) (a : Addr) (ns : List Int), ns.length ≤ 63 → SqL K H a (ns.map V.int) → spL K 1 g [.ref a] H (fun v _ => v = .bl true) fun _ _ _ => False := by
  intro H a ns hl hS
  obtain ⟨B', e⟩ := h ns hl
  refine ⟨fun _ => False, [], [], [.scr ns], rfl, ⟨rfl, fun i c p h => by simp at h, fun i j c d p h => by simp at h, fun q z => z.elim⟩, Reps.one ?_, ?_⟩
  · simp only [Rep]
    refine ⟨a, rfl, ?_⟩
    rcases hS with hS | hS
    · exact .inl ⟨hS, fun z => by rcases z with z | ⟨i, c, z, _⟩; exact z; simp at z⟩
    · exact .inr hS
  · rw [e]
    intro ρ' H' v A
    have := A.rep
    simpa [Rep] using this
end QB
/-! QbL: defs as the generator calls them; joined operators; chains; keywords. -/
namespace QB
open PySem L2 PyProof.Rows
/-- a def of the text that keeps its promise -/
structure CalF (P : Program) (w : World) (K : PySem.W.Frag) (mg : Str → Option Value) (base : Heap) (k : Nat) (x : Str) (st : Stmt) (ps : List Str) (g : Fn) : Prop where
  ex : ∃ f fd, FnOk P w K mg base (L2.CX P w) k f fd ps (spF K mg ps.length g) ∧ mg x = some (.ref f) ∧ Fun K x x st f fd ∧ Binds K fd ps []
  len : ∀ us B, us.length ≠ ps.length → g us B = .bad
/-- where the def stands -/
structure DefAt (K : PySem.W.Frag) (mg : Str → Option Value) (x : Str) (st : Stmt) : Prop where
  ex : ∃ f fd, Fun K x x st f fd ∧ mg x = some (.ref f)
section
variable {P : Program} {w : World} {K : PySem.W.Frag} {mg : Str → Option Value} {base : Heap} {k j : Nat} {x : Str} {st : Stmt} {ps : List Str} {g g' : Fn}
theorem CalF.mono (C : CalF P w K mg base j x st ps g) (h : j ≤ k) : CalF P w K mg base k x st ps g := by
  obtain ⟨⟨f, fd, h1, h2⟩, h3⟩ := C
  exact ⟨⟨f, fd, h1.mono h, h2⟩, h3⟩
theorem CalF.to (C : CalF P w K mg base k x st ps g) (h : ∀ us B, us.length = ps.length → g' us B ≠ .bad → g us B = g' us B) (hl : ∀ us B, us.length ≠ ps.length → g' us B = .bad) : CalF P w K mg base k x st ps g' := by
  obtain ⟨⟨f, fd, h1, h2⟩, h3⟩ := C
  exact ⟨⟨f, fd, h1.imp (spF_imp h), h2⟩, hl⟩
theorem calF_of {N : List Str} {body : Sm} (D : DefAt K mg x st) (S : FnScope N ps (defScope st))
    (hb : ∀ (kV doc pm : Value) (an : Option Addr) (cdv ct : Value) (us : List Value), us.length = ps.length → bindArgs (PySem.W.fnOf x x (defArgs st) (defBody st) (defScope st) .none kV doc pm an cdv ct) ⟨us, []⟩ = pure (ps.zip us))
    (h : ∀ (f : Addr) (cdv : Value) (A : Around) (outer : List Env) (s : Shared) (H : Hp) (E : XK), Room k (A.deeper (PyProof.Rows.envOfC x (defScope st) s.heap.objs.size f cdv)) →
      SndB (defY P w K mg base N x (defScope st) f cdv A outer s H E) (defBody st) body) : CalF P w K mg base (k + 1) x st ps (runBody N.length ps.length body) := by
  obtain ⟨f, fd, hF, hm⟩ := D.ex
  exact ⟨⟨f, fd, fn_body hF S (fun cdv A outer s H E hr => h f cdv A outer s H E hr), hm, hF, hF.binds hb⟩, runBody_len⟩
theorem calF_zero : CalF P w K mg base 0 x st ps (fun _ _ => .bad) → True := fun _ => trivial
/-- nothing is promised at level 0 -/
theorem calF_none (D : DefAt K mg x st) (hb : ∀ (kV doc pm : Value) (an : Option Addr) (cdv ct : Value) (us : List Value), us.length = ps.length → bindArgs (PySem.W.fnOf x x (defArgs st) (defBody st) (defScope st) .none kV doc pm an cdv ct) ⟨us, []⟩ = pure (ps.zip us)) :
    CalF P w K mg base k x st ps (fun _ _ => .bad) := by
  obtain ⟨f, fd, hF, hm⟩ := D.ex
  have no : ∀ vs H Q E, ¬ spF K mg ps.length (fun _ _ => Fo.bad) vs H Q E := fun vs H Q E ⟨_, _, _, _, _, _, _, z⟩ => z
  exact ⟨⟨f, fd, ⟨fun vs H Q E h => absurd h (no vs H Q E), fun A outer s H args us vs Q E _ _ _ _ h => absurd h (no vs H Q E)⟩, hm, hF, hF.binds hb⟩, fun _ _ _ => rfl⟩
end
section
variable {X : Cy} {a b c e : Expr} {es : List Expr} {fa fb fc : Ex} {fs : Ar} {pos p p2 p3 : Pos} {x : Str} {k j : Nat} {st : Stmt} {ps : List Str} {g : Fn}
theorem sndE_callF (C : CalF X.prog X.w X.K X.mg X.base k x st ps g) (hr : Room j X.A) (hk : k ≤ j) (ha : SndA X (e :: es) fs) (hg : Gl X x := by rfl) (hdb : (x == ("__debug__" : Str)) = false := by decide)
    (hs : starEach (e :: es) X.env = (false, eval e X.env) :: starEach es X.env := by rfl) (hpl : (backTo pos (starEach es X.env)).any (·.1) = false := by rfl) : SndE X (.Call (.Name x p) (e :: es) [] pos) (mCall g fs) := by
  obtain ⟨⟨f, fd, h1, h2, h3, h4⟩, hl⟩ := C
  exact sndE_call h1 (hr.mono hk) h2 h3.kp h4 hl ha hg hdb hs hpl
theorem sndE_callF0 (C : CalF X.prog X.w X.K X.mg X.base k x st [] g) (hr : Room j X.A) (hk : k ≤ j) (hg : Gl X x := by rfl) (hdb : (x == ("__debug__" : Str)) = false := by decide) : SndE X (.Call (.Name x p) [] [] pos) (mCall g mNil) := by
  obtain ⟨⟨f, fd, h1, h2, h3, h4⟩, hl⟩ := C
  exact sndE_call0 h1 (hr.mono hk) h2 h3.kp h4 hl hg hdb
/-! ### keywords alone -/
abbrev Perm2 := List Nat
/-- the values of the keywords, put in the parameters' order -/
def pick {α : Type} (ix : List Nat) (ws : List α) : List α := ix.filterMap fun i => ws[i]?
structure KwOk (K : PySem.W.Frag) (st : Stmt) (x : Str) (ps ks : List Str) (ix : List Nat) : Prop where
  b : ∀ (kV doc pm : Value) (an : Option Addr) (cdv ct : Value) (ws : List Value), (pick ix ws).length = ps.length → bindArgs (PySem.W.fnOf x x (defArgs st) (defBody st) (defScope st) .none kV doc pm an cdv ct) ⟨[], ks.zip ws⟩ = pure (ps.zip (pick ix ws))
theorem pick_vals {ix : List Nat} {zs : List V} {ws : List Value} (h : Vals zs ws) : Vals (pick ix zs) (pick ix ws) := by
  induction ix with
  | nil => exact .nil
  | cons i ix ih =>
    unfold pick at ih ⊢
    rw [List.filterMap_cons, List.filterMap_cons]
    cases e : zs[i]? with
    | none => rw [h.none_of e]; exact ih
    | some v =>
      obtain ⟨u, h1, h2⟩ := h.get e
      rw [h1]
      exact .cons h2 ih
theorem pick_reps {K : PySem.W.Frag} {H : Hp} {Lv : AS} {ρ : List Addr} {ix : List Nat} {us : List U} {vs : List V} (h : Reps K H Lv ρ us vs) : Reps K H Lv ρ (pick ix us) (pick ix vs) := by
  induction ix with
  | nil => exact Reps.nil
  | cons i ix ih =>
    unfold pick at ih ⊢
    rw [List.filterMap_cons, List.filterMap_cons]
    cases e : us[i]? with
    | none =>
      have : vs[i]? = none := by
        rw [List.getElem?_eq_none_iff] at e ⊢
        rw [← h.len]; exact e
      rw [this]; exact ih
    | some u =>
      obtain ⟨v, h1, h2⟩ := h.get e
      rw [h1]
      exact Reps.cons h2 ih
def SndK (X : Cy) (kws : List Keyword) (f : Ar) : Prop := ∃ t : TA, PK X kws t ∧ ∀ F ρ E B σ H Q, Rel X.K F ρ E B σ H → PostA X.K X.q F ρ E B σ H (f E B) Q → t σ H Q
theorem sndK_nil : SndK X [] mNil := ⟨_, pk_nil, fun F ρ E B σ H Q rl h => h ρ H [] ⟨AftT.refl rl, Reps.nil⟩⟩
theorem sndK_cons {kws : List Keyword} {nm : Option Str} (ha : SndE X e fa) (hr : SndK X kws fs) : SndK X (⟨nm, e, p⟩ :: kws) (mCons fa fs) := by
  obtain ⟨ta, pa, ha⟩ := ha
  obtain ⟨tr, pr, hr⟩ := hr
  refine ⟨_, pk_cons pa pr, fun F ρ E B σ H Q rl h => ?_⟩
  refine ha F ρ E B σ H _ rl ?_
  simp only [mCons] at h
  cases h1 : fa E B with
  | bad => rw [h1] at h; exact h
  | ex c E' B' => rw [h1] at h ; first | exact h | exact Aft.exq (by assumption) h | exact AftT.exq (by assumption) h | exact Aft.exq (by assumption) (Aft.exq (by assumption) h) | exact AftT.exq (by assumption) (Aft.exq (by assumption) h) | exact AftT.exq (AftA.t (by assumption)) h | exact ExQ.px h (Aft.px (by assumption)) | exact ExQ.px h (List.IsPrefix.trans (AftT.px (by assumption)) (Aft.px (by assumption))) | exact Aft.exq (by assumption) (AftT.exq (by assumption) h) | exact Aft.exq (by assumption) (Aft.exq (by assumption) (AftT.exq (by assumption) h))
  | ok r1 E1 B1 =>
    rw [h1] at h
    intro ρ1 H1 v1 A1
    simp only [O.bind_ok] at h
    split at h
    · next u E2 es =>
      obtain ⟨T1, R1⟩ := A1.settled es
      refine hr F ρ1 E2 B1 σ H1 _ T1.rel ?_
      cases h2 : fs E2 B1 with
      | bad => rw [h2] at h; exact h
      | ex c E' B' => rw [h2] at h ; first | exact h | exact Aft.exq (by assumption) h | exact AftT.exq (by assumption) h | exact Aft.exq (by assumption) (Aft.exq (by assumption) h) | exact AftT.exq (by assumption) (Aft.exq (by assumption) h) | exact AftT.exq (AftA.t (by assumption)) h | exact ExQ.px h (Aft.px (by assumption)) | exact ExQ.px h (List.IsPrefix.trans (AftT.px (by assumption)) (Aft.px (by assumption))) | exact Aft.exq (by assumption) (AftT.exq (by assumption) h) | exact Aft.exq (by assumption) (Aft.exq (by assumption) (AftT.exq (by assumption) h))
      | ok us E3 B3 =>
        rw [h2] at h
        simp only [O.bind_ok] at h
        intro ρ3 H3 vs A3
        exact h ρ3 H3 (v1 :: vs) ⟨T1.trans A3.t, Reps.cons (Rep.mono A3.t.stp A3.t.px _ _ R1) A3.reps⟩
    · exact h.elim
theorem run_fnkS {X : Cx} {cx : CXT} {n : Nat} {fa : Addr} {dat : FuncData} {qs ks : List Str} {wish : Sp} {Ek : XK} {ga : List Value → List Value → List Value} {gv : List V → List V → List V} {pins : List (Addr × Obj)} {σ : L2.St} {H : Hp} {s : Shared} {Q : VK} {us ws : List Value} {vs zs : List V}
    (ok : FnOk X.prog X.w X.K X.mg X.base cx n fa dat qs wish) (room : Room n X.A) (kb : KBinds X.K dat qs ks ga gv) (out : PassesAt cx X σ Ek) (I : Inv X pins σ H s) (r1 : Vals vs us) (r2 : Vals zs ws) (h : wish (gv vs zs) H Q Ek) :
    wpAny (model X.prog X.w) X.A (call (.ref fa) us (ks.zip ws)) (EP X pins σ Q) X.xe s := by
  have rel := kb.rel r1 r2
  have len : (ga us ws).length = qs.length := rel.length.symm.trans (ok.len _ _ _ _ h)
  have go := ok.run X.A X.stack s H ⟨us, ks.zip ws⟩ (ga us ws) (gv vs zs) Q Ek room I.env0 (kb.to s us ws I.kIn len) rel h
  refine wpAny_call (codeAny_mono go fun res s' hres => ?_)
  rcases res with e | fl
  · exact out pins H s e s' I hres
  · cases fl <;> first | exact I.after hres | exact (hres : False).elim
def mCallK (g : Fn) (ix : List Nat) (fs : Ar) : Ex := mCall (fun us B => g (pick ix us) B) fs
theorem sndE_callK {kws : List Keyword} {ks : List Str} {ix : List Nat} (C : CalF X.prog X.w X.K X.mg X.base k x st ps g) (hr : Room j X.A) (hk : k ≤ j) (kw : KwOk X.K st x ps ks ix) (hps : ps ≠ []) (ha : SndK X kws fs) (hg : Gl X x := by rfl)
    (hall : (backToKw pos (keywordEach kws X.env)).all (·.1.isSome) = true := by rfl) (hks : (backToKw pos (keywordEach kws X.env)).filterMap (·.1) = ks := by rfl)
    (hdb : (x == ("__debug__" : Str)) = false := by decide) (hpl : ((backTo pos (starEach [] X.env)).any (·.1) || (backToKw pos (keywordEach kws X.env)).any (·.1.isNone)) = false := by rfl) : SndE X (.Call (.Name x p) [] kws pos) (mCallK g ix fs) := by
  obtain ⟨⟨f, fd, h1, h2, h3, h4⟩, hl⟩ := C
  obtain ⟨tk, pk, hk2⟩ := ha
  have kb : KBinds X.K fd ps ks (fun us ws => match us with | [] => pick ix ws | _ => []) (fun us zs => match us with | [] => pick ix zs | _ => []) := by
    obtain ⟨oc, od, kV, doc, pm, an, cdv, ct, osl, rfl, lk, hcd⟩ := h3.ex
    refine ⟨fun s us ws _ hlen => ?_, fun {vs us zs ws} r1 r2 => ?_⟩
    · cases us with
      | nil => exact .of_eq (kw.b kV doc pm an cdv ct ws hlen)
      | cons u us =>
        exact absurd (by cases ps <;> simp_all) hps
    · cases r1 with
      | nil => exact pick_vals r2
      | cons _ _ => exact .nil
  refine ⟨fun σ H Q => tk σ H fun zs H2 => spF X.K X.mg ps.length g (pick ix zs) H2 Q (WE X.W σ), ⟨fun pins s σ H Q I h => ?_⟩, fun F ρ E B σ H Q rl q => ?_⟩
  · refine wpAny_Call_Name_kw (ld_glob I hg h2 ?_ hdb)
    refine PySem.W.callWith_KW0 (h₀ := X.base) I.ok.mod.kin h3.kp hall (thn (pk.run pos pins s σ H _ I h) fun ws s2 ⟨zs, H2, I2, rz, q2⟩ => ⟨I2.kIn, ?_⟩) hpl
    rw [hks]
    exact run_fnkS (vs := []) (us := []) h1 (hr.mono hk) kb (passAt X.tk σ) I2 .nil rz q2
  · refine hk2 F ρ E B σ H _ rl ?_
    simp only [mCallK, mCall] at q
    cases e1 : fs E B with
    | bad => rw [e1] at q; exact q
    | ex c E' B' => rw [e1] at q ; first | exact q | exact Aft.exq (by assumption) q | exact AftT.exq (by assumption) q | exact Aft.exq (by assumption) (Aft.exq (by assumption) q) | exact AftT.exq (by assumption) (Aft.exq (by assumption) q) | exact AftT.exq (AftA.t (by assumption)) q | exact ExQ.px q (Aft.px (by assumption)) | exact ExQ.px q (List.IsPrefix.trans (AftT.px (by assumption)) (Aft.px (by assumption))) | exact Aft.exq (by assumption) (AftT.exq (by assumption) q) | exact Aft.exq (by assumption) (Aft.exq (by assumption) (AftT.exq (by assumption) q))
    | ok us E1 B1 =>
      rw [e1] at q
      intro ρ1 H1 vs A1
      simp only [O.bind_ok] at q
      have hlen : (pick ix us).length = ps.length := by
        by_cases z : (pick ix us).length = ps.length
        · exact z
        · rw [hl _ B1 z] at q; exact q.elim
      refine ⟨outOf F E1 σ, ρ1, B1, pick ix us, hlen, A1.t.rel.brel, by rw [ob_eq]; exact pick_reps A1.reps, ?_⟩
      cases e2 : g (pick ix us) B1 with
      | bad => rw [e2] at q; exact q.elim
      | ex c B2 =>
        rw [e2] at q
        intro ρ2 H2 cls dx v A2 f1 f2 f3
        have A3 := A1.t.rel.back A2
        exact q ρ2 σ H2 cls (some dx) (A1.t.px.trans A3.px) A3.rel ⟨dx, v, f1, rfl, f2, ob_not f3, A3.rep⟩
      | ok u B2 =>
        rw [e2] at q
        exact fun ρ2 H2 v A2 => q ρ2 H2 v (A1.t.then (A1.t.rel.back A2))
/-! ### joined operators -/
def gAdd (a b : U) : Option R := (gII (fun _ _ => true) (· + ·) a b).or ((gCatS a b).or ((gCatL a b).or (gCatT a b)))
def gSub : U → U → Option R := gII (fun _ _ => true) (· - ·)
def gMul (a b : U) : Option R := (gII cMul (· * ·) a b).or (gRep a b)
def gLt (a b : U) : Option R := (gIB (fun i j => decide (i < j)) a b).or (gSB (fun i j => decide (i.cps.toList < j.cps.toList)) a b)
def gLe (a b : U) : Option R := (gIB (fun i j => decide (i ≤ j)) a b).or (gSB (fun i j => !decide (j.cps.toList < i.cps.toList)) a b)
def gGt (a b : U) : Option R := (gIB (fun i j => decide (j < i)) a b).or (gSB (fun i j => decide (j.cps.toList < i.cps.toList)) a b)
def gGe (a b : U) : Option R := (gIB (fun i j => decide (j ≤ i)) a b).or (gSB (fun i j => !decide (i.cps.toList < j.cps.toList)) a b)
theorem op2_Add : Op2S X (binaryOp .Add) gAdd := op2_add.or (op2_catS.or (op2_catL.or op2_catT))
theorem op2_Sub : Op2S X (binaryOp .Sub) gSub := op2_sub
theorem op2_Mul : Op2S X (binaryOp .Mult) gMul := op2_mul.or op2_rep
theorem op2_Lt : Op2S X (compareOp .Lt) gLt := op2_ltI.or op2_ltS
theorem op2_Le : Op2S X (compareOp .LtE) gLe := op2_leI.or op2_leS
theorem op2_Gt : Op2S X (compareOp .Gt) gGt := op2_gtI.or op2_gtS
theorem op2_Ge : Op2S X (compareOp .GtE) gGe := op2_geI.or op2_geS
def gIAdd (a b : U) : Option R := (gII (fun _ _ => true) (· + ·) a b).or (gCatS a b)
theorem op2_IAdd : Op2S X (inplaceOp .Add) gIAdd := op2_iadd.or op2_icatS
theorem op2_ISub : Op2S X (inplaceOp .Sub) gSub := op2_isub
/-! ### a < b < c -/
def mChain (g1 g2 : U → U → Option R) (fa fb fc : Ex) : Ex := fun E B =>
  (fa E B).bind fun r1 E1 B1 => (fb E1 B1).bind fun r2 E2 B2 =>
    match view r1 E2 B2, view r2 E2 B2 with
    | some u1, some u2 => match flatU u2, g1 u1 u2 with
      | some _, some (.w (.bl true)) => (fc E2 B2).bind fun r3 E3 B3 => match view r3 E3 B3 with
        | some u3 => match g2 u2 u3 with
          | some r => .ok r E3 B3
          | none => .bad
        | none => .bad
      | some _, some (.w (.bl false)) => .ok (.w (.bl false)) E2 B2
      | _, _ => .bad
    | _, _ => .bad
theorem flat_keep {K : PySem.W.Frag} {H H' : Hp} {Lv Lv' : AS} {ρ ρ' : List Addr} {u : U} {v w : V} (t : Top K H Lv ρ u v) (e : flatU u = some w) : Top K H' Lv' ρ' u v := by
  cases u <;> simp only [flatU, Option.some.injEq] at e <;> first | (cases e; done) | skip
  · rw [top_non t]; simp [Top, Rep]
  · rw [top_bl t]; simp [Top, Rep]
  · rw [top_int t]; simp [Top, Rep]
  · rw [top_str t]; simp [Top, Rep]
theorem chain_reads {r r' : R2} {g1 g2 : U → U → Option R} {ta tb tc : TE}
    (ho : ∀ F ρ E B σ H u1 u2 v1 v2 r3 Q, Rel X.K F ρ E B σ H → Top X.K H (LvF F ρ E B σ) ρ u1 v1 → Top X.K H (LvF F ρ E B σ) ρ u2 v2 → g1 u1 u2 = some r3 → (∀ H' v, Aft X.K F ρ E B σ H r3 ρ E B H' v → Q v H') → r v1 v2 H Q)
    (ho' : ∀ F ρ E B σ H u1 u2 v1 v2 r3 Q, Rel X.K F ρ E B σ H → Top X.K H (LvF F ρ E B σ) ρ u1 v1 → Top X.K H (LvF F ρ E B σ) ρ u2 v2 → g2 u1 u2 = some r3 → (∀ H' v, Aft X.K F ρ E B σ H r3 ρ E B H' v → Q v H') → r' v1 v2 H Q)
    (ha : ∀ F ρ E B σ H Q, Rel X.K F ρ E B σ H → PostE X.K X.q F ρ E B σ H (fa E B) Q → ta σ H Q) (hb : ∀ F ρ E B σ H Q, Rel X.K F ρ E B σ H → PostE X.K X.q F ρ E B σ H (fb E B) Q → tb σ H Q) (hc : ∀ F ρ E B σ H Q, Rel X.K F ρ E B σ H → PostE X.K X.q F ρ E B σ H (fc E B) Q → tc σ H Q) :
    ∀ F ρ E B σ H Q, Rel X.K F ρ E B σ H → PostE X.K X.q F ρ E B σ H (mChain g1 g2 fa fb fc E B) Q → tChain r r' ta tb tc σ H Q := by
  intro F ρ E B σ H Q rl h
  refine ha F ρ E B σ H _ rl ?_
  simp only [mChain] at h
  cases e1 : fa E B with
  | bad => rw [e1] at h; exact h
  | ex c E' B' => rw [e1] at h ; first | exact h | exact Aft.exq (by assumption) h | exact AftT.exq (by assumption) h | exact Aft.exq (by assumption) (Aft.exq (by assumption) h) | exact AftT.exq (by assumption) (Aft.exq (by assumption) h) | exact AftT.exq (AftA.t (by assumption)) h | exact ExQ.px h (Aft.px (by assumption)) | exact ExQ.px h (List.IsPrefix.trans (AftT.px (by assumption)) (Aft.px (by assumption))) | exact Aft.exq (by assumption) (AftT.exq (by assumption) h) | exact Aft.exq (by assumption) (Aft.exq (by assumption) (AftT.exq (by assumption) h))
  | ok r1 E1 B1 =>
    rw [e1] at h
    intro ρ1 H1 v1 A1
    refine hb _ ρ1 E1 B1 σ H1 _ A1.rel ?_
    simp only [O.bind_ok] at h
    cases e2 : fb E1 B1 with
    | bad => rw [e2] at h; exact h
    | ex c E' B' => rw [e2] at h ; first | exact h | exact Aft.exq (by assumption) h | exact AftT.exq (by assumption) h | exact Aft.exq (by assumption) (Aft.exq (by assumption) h) | exact AftT.exq (by assumption) (Aft.exq (by assumption) h) | exact AftT.exq (AftA.t (by assumption)) h | exact ExQ.px h (Aft.px (by assumption)) | exact ExQ.px h (List.IsPrefix.trans (AftT.px (by assumption)) (Aft.px (by assumption))) | exact Aft.exq (by assumption) (AftT.exq (by assumption) h) | exact Aft.exq (by assumption) (Aft.exq (by assumption) (AftT.exq (by assumption) h))
    | ok r2 E2 B2 =>
      rw [e2] at h
      simp only [O.bind_ok] at h
      intro ρ2 H2 v2 A2
      have A1' := A1.carry A2.letgo
      have T1 := A1'.letgo
      split at h
      · next u1 u2 f1 f2 =>
        have t1 := A1'.top f1
        have t2 : Top X.K H2 (LvF F ρ2 E2 B2 σ) ρ2 u2 v2 := (A2.top f2).mono (Stp.less fun q z => addR_lv z)
        split at h
        · next w hfl eg =>
          refine ho F ρ2 E2 B2 σ H2 u1 u2 v1 v2 _ _ T1.rel t1 t2 eg fun H' v A3 => ?_
          have rr := A3.rep
          simp only [RepR, Rep] at rr
          subst rr
          have T3 := T1.trans A3.letgo
          refine ⟨true, rfl, ?_⟩
          rw [if_pos rfl]
          refine hc F ρ2 E2 B2 σ H' _ T3.rel ?_
          cases e3 : fc E2 B2 with
          | bad => rw [e3] at h; exact h
          | ex c E' B' => rw [e3] at h ; first | exact h | exact Aft.exq (by assumption) h | exact AftT.exq (by assumption) h | exact Aft.exq (by assumption) (Aft.exq (by assumption) h) | exact AftT.exq (by assumption) (Aft.exq (by assumption) h) | exact AftT.exq (AftA.t (by assumption)) h | exact ExQ.px h (Aft.px (by assumption)) | exact ExQ.px h (List.IsPrefix.trans (AftT.px (by assumption)) (Aft.px (by assumption))) | exact Aft.exq (by assumption) (AftT.exq (by assumption) h) | exact Aft.exq (by assumption) (Aft.exq (by assumption) (AftT.exq (by assumption) h))
          | ok r3 E3 B3 =>
            rw [e3] at h
            simp only [O.bind_ok] at h
            intro ρ3 H3 v3 A4
            split at h
            · next u3 f3 =>
              split at h
              · next r5 eg2 =>
                have T4 := A4.letgo
                exact ho' F ρ3 E3 B3 σ H3 u2 u3 v2 v3 r5 Q T4.rel (flat_keep t2 hfl) (A4.top f3) eg2 fun H5 v5 A5 => h ρ3 H5 v5 ((T3.trans T4).then A5)
              · exact h.elim
            · exact h.elim
        · next w hfl eg =>
          refine ho F ρ2 E2 B2 σ H2 u1 u2 v1 v2 _ _ T1.rel t1 t2 eg fun H' v A3 => ?_
          have rr := A3.rep
          simp only [RepR, Rep] at rr
          subst rr
          have T3 := T1.trans A3.letgo
          refine ⟨false, rfl, ?_⟩
          rw [if_neg Bool.false_ne_true]
          exact h ρ2 H' _ (T3.then (Aft.val T3.rel (by simp [Rep])))
        · exact h.elim
      · exact h.elim
theorem sndE_chain {op op' : CmpOp} {g1 g2 : U → U → Option R} (ho : Op2S X (compareOp op) g1) (ho' : Op2S X (compareOp op') g2) (ha : SndE X a fa) (hb : SndE X b fb) (hc : SndE X c fc)
    (hm : lastMarks [op, op'] [b, c] = false := by rfl) : SndE X (.Compare a [op, op'] [b, c] pos) (mChain g1 g2 fa fb fc) := by
  obtain ⟨r, hr, ho⟩ := ho
  obtain ⟨r', hr', ho'⟩ := ho'
  obtain ⟨ta, pa, ha⟩ := ha
  obtain ⟨tb, pb, hb⟩ := hb
  obtain ⟨tc, pc, hc⟩ := hc
  exact ⟨_, pe_chain hr hr' pa pb pc hm, chain_reads ho ho' ha hb hc⟩
theorem sndT_chain {op op' : CmpOp} {g1 g2 : U → U → Option R} (ho : Op2S X (compareOp op) g1) (ho' : Op2S X (compareOp op') g2) (ha : SndE X a fa) (hb : SndE X b fb) (hc : SndE X c fc)
    (hm : lastMarks [op, op'] [b, c] = false := by rfl) : SndT X (.Compare a [op, op'] [b, c] pos) (toT (mChain g1 g2 fa fb fc)) := by
  obtain ⟨r, hr, ho⟩ := ho
  obtain ⟨r', hr', ho'⟩ := ho'
  obtain ⟨ta, pa, ha⟩ := ha
  obtain ⟨tb, pb, hb⟩ := hb
  obtain ⟨tc, pc, hc⟩ := hc
  exact ⟨_, pt_chain hr hr' pa pb pc hm, toT_ok (chain_reads ho ho' ha hb hc)⟩
end
end QB
/-! QbM: constants of the top, isinstance of several, dicts of texts, targets, the walrus. -/
namespace QB
open PySem L2
section
variable {X : Cy} {a b c e i o : Expr} {es : List Expr} {fa fb fc : Ex} {ft : Te} {f g : Sm} {fs : Ar} {bd : Bd} {ks : List Nat} {pos p p2 p3 tpos : Pos} {x : Str} {sts sts' : List Stmt}
theorem sndE_gstrE {z : Str} (h : ∃ u, X.mg x = some u ∧ ∃ t, u = Value.str z t) (hg : Gl X x := by rfl) (hd : (x == ("__debug__" : Str)) = false := by decide) : SndE X (.Name x pos) (mC (.str z)) := by
  obtain ⟨u, h1, h2⟩ := h
  exact sndE_gstr h1 h2 hg hd
/-! ### isinstance against a written tuple -/
structure TyA (X : Cy) (es : List Expr) (Ts : List String) : Prop where
  pa : PA X es (fun σ H Q => Q (Ts.map V.ty) H)
theorem tyA_nil : TyA X [] [] := ⟨⟨fun pos pins s σ H Q I h => pa_nil.run pos pins s σ H Q I h⟩⟩
theorem tyA_cons {T : String} {Ts : List String} (hm : X.mg x = none) (hv : bootBuiltins x = some (.type T)) (hr : TyA X es Ts) (hg : Gl X x := by rfl) (hn : x ≠ "__name__" := by decide) (hdb : (x == ("__debug__" : Str)) = false := by decide)
    (hs : starEach (.Name x p :: es) X.env = (false, eval (.Name x p) X.env) :: starEach es X.env := by rfl) : TyA X (.Name x p :: es) (T :: Ts) :=
  ⟨⟨fun pos pins s σ H Q I h => (pa_cons (pe_bltn (v := .ty T) hg hm hv rfl hn hdb) hr.pa hs).run pos pins s σ H Q I h⟩⟩
theorem tyVals : ∀ Ts : List String, Paired ClsV (Ts.map V.ty) (Ts.map Value.type)
  | [] => .nil
  | T :: Ts => .cons (.ty T) (tyVals Ts)
theorem sndE_isiT {Ts : List String} {k} (hm : X.mg "isinstance" = none) (ha : SndE X a fa) (ht : TyA X es Ts) (hg : Gl X "isinstance" := by rfl) (hlen : Ts.length ≤ 1000 := by decide)
    (hs : starEach [a, .Tuple es k p2] X.env = (false, eval a X.env) :: starEach [.Tuple es k p2] X.env := by rfl) (hvI : bootBuiltins "isinstance" = some (.builtin "isinstance") := by decide +kernel) :
    SndE X (.Call (.Name "isinstance" p) [a, .Tuple es k p2] [] pos) (m1 (gIsiT Ts) fa) := by
  obtain ⟨ta, pa, ha⟩ := ha
  refine ⟨_, pe_callB call_isiT hg hm hvI (pa_cons pa (pa_cons (pe_tup ht.pa) pa_nil) hs) (by decide) (by decide) hs, ?_⟩
  refine m1_ok (r := fun v H Q => (Ts.map V.ty).length ≤ sizeLine ∧ ∀ q, H q = none → rIsiT X.K [v, .ref q] (upd H q (.tup (Ts.map V.ty))) Q) (fun F ρ E B σ H u1 v1 r3 Q rl t e q => ?_) ha
  refine ⟨by rw [List.length_map, sizeLine_eq]; omega, fun q' hq => ?_⟩
  simp only [gIsiT, Option.bind_eq_some_iff, Option.map_eq_some_iff] at e
  obtain ⟨s, e1, k', e2, rfl⟩ := e
  have gr : ∀ z o, H z = some o → (upd H q' (.tup (Ts.map V.ty))) z = some o := fun z o h => by rw [upd_ne (ne_of_none h hq)]; exact h
  have rl2 := rl.growH gr
  have st := grow_stp rl gr
  have ty : TyX X.K (upd H q' (.tup (Ts.map V.ty))) v1 (.type s) := by
    have t2 : Top X.K (upd H q' (.tup (Ts.map V.ty))) (LvF F ρ E B σ) ρ u1 v1 := by
      cases u1 with
      | lst us => obtain ⟨pp, vs, e0, h1, h2⟩ := t; exact ⟨pp, vs, e0, gr _ _ h1, h2.mono st (List.prefix_refl _)⟩
      | tup us => exact (show Top _ _ _ _ (.tup us) _ by have := Rep.mono st (List.prefix_refl _) (.tup us) v1 (by simp only [Rep]; exact t); simp only [Rep] at this; exact this)
      | dct ks us => obtain ⟨pp, kvs, e0, h1, h2, h3⟩ := t; exact ⟨pp, kvs, e0, h1.imp (gr _ _) fun ⟨o, z⟩ => ⟨o, gr _ _ z⟩, h2, h3.mono st (List.prefix_refl _)⟩
      | box _ => exact t.elim
      | non => exact t
      | bl _ => exact t
      | int _ => exact t
      | str _ => exact t
      | scr _ => exact Rep.mono st (List.prefix_refl _) _ _ t
    exact kind_top t2 e1
  exact ⟨v1, q', Ts.map V.ty, .type s, Ts.map Value.type, k', rfl, upd_same, tyVals Ts, ty, kitAny_of e2, q _ _ ⟨List.prefix_refl _, rl2, st, EnLe.refl, by simp [RepR, Rep]⟩⟩
/-! ### several targets at once -/
def sAsg (fe : Ex) (bd : Bd) : Sm := fun E B => (fe E B).bind fun r E1 B1 =>
  match settle r E1 with
  | some (u, E2) => match bd u E2 with
    | some E3 => .ok .nx E3 B1
    | none => .bad
  | none => .bad
theorem sndS_asg {tg : Expr} (he : SndE X e fa) (hg : SndG X tg ks bd) (hs : swapsWithSole [tg] e pos.line X.env = pure false := by rfl) (hw : swappedStores [tg] e X.env = pure none := by rfl) (h1 : (assignEach [tg] X.env).map (·.2) = [assign tg X.env] := by rfl) : SndS X (.Assign [tg] e pos) (sAsg fa bd) := by
  obtain ⟨te, pe, he⟩ := he
  obtain ⟨g, pg, hg⟩ := hg
  refine ⟨_, ps_asg pe pg hs hw h1, fun F ρ E B σ H D rl q => ?_⟩
  refine he F ρ E B σ H _ rl ?_
  simp only [sAsg] at q
  cases h1 : fa E B with
  | bad => rw [h1] at q; exact q
  | ex c E' B' => rw [h1] at q ; first | exact q | exact Aft.exq (by assumption) q | exact AftT.exq (by assumption) q | exact Aft.exq (by assumption) (Aft.exq (by assumption) q) | exact AftT.exq (by assumption) (Aft.exq (by assumption) q) | exact AftT.exq (AftA.t (by assumption)) q | exact ExQ.px q (Aft.px (by assumption)) | exact ExQ.px q (List.IsPrefix.trans (AftT.px (by assumption)) (Aft.px (by assumption))) | exact Aft.exq (by assumption) (AftT.exq (by assumption) q) | exact Aft.exq (by assumption) (Aft.exq (by assumption) (AftT.exq (by assumption) q))
  | ok r E1 B1 =>
    rw [h1] at q
    intro ρ1 H1 v1 A1
    simp only [O.bind_ok] at q
    split at q
    · next u E2 es =>
      obtain ⟨T1, R1⟩ := A1.settled es
      refine hg F ρ1 E2 B1 σ H1 u v1 _ T1.rel R1 ?_
      cases h2 : bd u E2 with
      | none => rw [h2] at q; exact q.elim
      | some E3 =>
        rw [h2] at q
        exact fun σ' rl' _ _ _ => q ρ1 σ' H1 T1.px rl'
    · exact q.elim
/-! ### dicts of written texts -/
structure DPs (X : Cy) (keys : List (Option Expr)) (values : List Expr) (ps : List (Str × Str)) : Prop where
  ex : ∃ trs, (∀ pos, PPs X pos keys values trs) ∧ ∀ σ H (Q : List (V × V) → Hp → Prop), Q (ps.map fun q => (V.str q.1, V.str q.2)) H → tPairs trs σ H Q
theorem dps_nil : DPs X [] [] [] := ⟨[], fun _ => pps_nil, fun _ _ _ q => q⟩
theorem dps_cons {k v : Str} {i j : Nat} {p1 p2 : Pos} {keys : List (Option Expr)} {values : List Expr} {ps : List (Str × Str)} (h : DPs X keys values ps) : DPs X (some (.Constant (.str k) i p1) :: keys) (.Constant (.str v) j p2 :: values) ((k, v) :: ps) := by
  obtain ⟨trs, h1, h2⟩ := h
  exact ⟨_, fun pos => pps_cons pe_str pe_str (h1 pos), fun σ H Q q => h2 σ H _ q⟩
def dK (ps : List (Str × Str)) : List (Key × V) := ps.map fun q => (Sum.inr q.1, V.str q.2)
def mDctS (ps : List (Str × Str)) : Ex := fun E B => .ok (.fr (.dct (ps.map fun q => Sum.inr q.1) (ps.map fun q => .str q.2))) E B
theorem sndE_dctS {keys : List (Option Expr)} {values : List Expr} {ps : List (Str × Str)} (h : DPs X keys values ps) (hall : keys.all (·.isSome) = true := by rfl) (hl : keys.length = values.length := by rfl) (h0 : keys ≠ [] := by intro z; cases z) (h15 : keys.length ≤ 15 := by decide)
    (hp : ps.length ≤ 15 := by decide) (hm : mergeK [] (dK ps) = dK ps := by decide +kernel) : SndE X (.Dict keys values pos) (mDctS ps) := by
  obtain ⟨trs, h1, h2⟩ := h.ex
  refine ⟨_, pe_disp (h1 pos) hall hl h0 h15, fun F ρ E B σ H Q rl q => fun pp hpp => ?_⟩
  refine h2 σ _ _ ⟨upd_same, dK ps, by simp [dK, kV, Function.comp_def], by simpa [dK] using hp, ?_⟩
  rw [upd_upd, hm]
  refine q ρ _ _ (Aft.freshD rl hpp (by simp [dK, Function.comp_def]) ?_)
  have hr : ∀ (qs : List (Str × Str)), Reps X.K H (LvF F ρ E B σ) ρ (qs.map fun q => .str q.2) ((dK qs).map (·.2)) := by
    intro qs
    induction qs with
    | nil => simp [dK, Reps]
    | cons q qs ih => exact Reps.cons (by simp [Rep]) ih
  exact hr ps
def lookU (ks : List Key) (us : List U) (k : Key) : Option U := match ks, us with
  | k' :: ks, u :: us => if k' = k then some u else lookU ks us k
  | _, _ => none
theorem lookU_ok {K : PySem.W.Frag} {H : Hp} {Lv : AS} {ρ : List Addr} {k : Key} {u : U} : ∀ {us : List U} {kvs : List (Key × V)}, Reps K H Lv ρ us (kvs.map (·.2)) → lookU (kvs.map (·.1)) us k = some u → ∃ v, valV kvs k = some v ∧ Rep K H Lv ρ u v
  | us, [], h, e => by cases us <;> simp [lookU] at e
  | [], kv :: kvs, h, e => by simp [lookU] at e
  | w :: us, kv :: kvs, h, e => by
    simp only [List.map_cons, Reps] at h
    obtain ⟨v, r, hv, h1, h2⟩ := h
    cases hv
    simp only [List.map_cons, lookU] at e
    by_cases hk : kv.1 = k
    · rw [if_pos hk] at e
      cases e
      exact ⟨kv.2, by simp [valV, List.find?, hk], h1⟩
    · rw [if_neg hk] at e
      obtain ⟨v, h3, h4⟩ := lookU_ok h2 e
      refine ⟨v, ?_, h4⟩
      unfold valV at h3 ⊢
      rw [List.find?_cons_of_neg (by simpa using hk)]
      exact h3
theorem DGet_kR {H : Hp} {a : Addr} {kvs : List (Key × V)} {k : Key} (e : Rd H a (.dK kvs)) : DGet H a (kV k) (valV kvs k) := .inl ⟨kvs, k, e, rfl, rfl⟩
def gDIx : U → U → Option R
  | .dct ks us, .str z => (lookU ks us (.inr z)).map .w
  | .dct ks us, .int z => (lookU ks us (.inl z)).map .w
  | _, _ => none
theorem sndE_dix (hu : X.A.units + 1 < cLine) (ha : SndE X a fa) (hb : SndE X b fb) (hs : NoSl b := by intro _ _; rfl) : SndE X (.Subscript a b pos) (m2 gDIx fa fb) := by
  obtain ⟨ta, pa, ha⟩ := ha
  obtain ⟨tb, pb, hb⟩ := hb
  refine ⟨_, pe_dget hu pa pb hs, m2_ok (f := fun _ _ => pure Value.none) (r := fun x y H Q => ∃ a v, x = .ref a ∧ DGet H a y (some v) ∧ Q v H) (fun F ρ E B σ H u1 u2 v1 v2 r3 Q rl t1 t2 e q => ?_) ha hb⟩
  unfold gDIx at e
  split at e
  · next ks us z =>
    simp only [Option.map_eq_some_iff] at e
    obtain ⟨u, e1, rfl⟩ := e
    obtain ⟨pp, kvs, rfl, h1, rfl, h2⟩ := t1
    obtain ⟨v, h3, h4⟩ := lookU_ok h2 e1
    have := DGet_kR (k := Sum.inr z) h1
    rw [h3] at this
    exact ⟨pp, v, rfl, by rw [top_str t2]; exact this, q H _ (Aft.val rl h4)⟩
  · next ks us z =>
    simp only [Option.map_eq_some_iff] at e
    obtain ⟨u, e1, rfl⟩ := e
    obtain ⟨pp, kvs, rfl, h1, rfl, h2⟩ := t1
    obtain ⟨v, h3, h4⟩ := lookU_ok h2 e1
    have := DGet_kR (k := Sum.inl z) h1
    rw [h3] at this
    exact ⟨pp, v, rfl, by rw [top_int t2]; exact this, q H _ (Aft.val rl h4)⟩
  · cases e
/-! ### if a and (x := e) op b -/
abbrev Tw := En → Bx → O Bool
def SndTw (X : Cy) (e : Expr) (f : Tw) : Prop := ∃ t : TTw, PTw X e t ∧ ∀ F ρ E B σ H (Q : Bool → L2.St → Hp → Prop), Rel X.K F ρ E B σ H →
  (match f E B with
    | .ok b E' B' => ∀ ρ' σ' H', ρ <+: ρ' → Rel X.K F ρ' E' B' σ' H' → Q b σ' H'
    | .ex c E' B' => ExQ X.K X.q F ρ c E' B'
    | .bad => False) → t σ H Q
def wCmpN (i : Nat) (g : U → U → Option R) (fa fb : Ex) : Tw := fun E B => (fa E B).bind fun r E1 B1 =>
  match settle r E1 with
  | some (u, E2) => if i < E2.length then (fb (E2.set i (.val u)) B1).bind fun r2 E3 B3 => match viewU u B3, view r2 E3 B3 with
      | some u1, some u2 => match g u1 u2 with
        | some (.w (.bl b)) => .ok b E3 B3
        | _ => .bad
      | _, _ => .bad
    else .bad
  | none => .bad
theorem sndTw_cmpN {i : Nat} {op : CmpOp} {g : U → U → Option R} (ho : Op2S X (compareOp op) g) (ha : SndE X a fa) (hb : SndE X b fb) (hN : X.N.Nodup) (hi : X.N[i]? = some x := by rfl) (hx : Loc X.env.scope x := by first | exact Or.inl rfl | exact Or.inr rfl)
    (hf : X.fn x = true ∨ X.env.scope.names.lookup x = some .local := by first | exact .inl rfl | exact .inr rfl | assumption) (hm : behindInMarks op b = false := by first | rfl | exact nomark _) : SndTw X (.Compare (.NamedExpr (.Name x p) a p2) [op] [b] pos) (wCmpN i g fa fb) := by
  obtain ⟨r, hr, ho⟩ := ho
  obtain ⟨ta, pa, ha⟩ := ha
  obtain ⟨tb, pb, hb⟩ := hb
  refine ⟨_, ptw_cmp hr (pew_named hN hi hx (pew_of pa) hf) pb hm, fun F ρ E B σ H Q rl q => ?_⟩
  refine ha F ρ E B σ H _ rl ?_
  simp only [wCmpN] at q
  cases h1 : fa E B with
  | bad => rw [h1] at q; exact q
  | ex c E' B' => rw [h1] at q ; first | exact q | exact Aft.exq (by assumption) q | exact AftT.exq (by assumption) q | exact Aft.exq (by assumption) (Aft.exq (by assumption) q) | exact AftT.exq (by assumption) (Aft.exq (by assumption) q) | exact AftT.exq (AftA.t (by assumption)) q | exact ExQ.px q (Aft.px (by assumption)) | exact ExQ.px q (List.IsPrefix.trans (AftT.px (by assumption)) (Aft.px (by assumption))) | exact Aft.exq (by assumption) (AftT.exq (by assumption) q) | exact Aft.exq (by assumption) (Aft.exq (by assumption) (AftT.exq (by assumption) q))
  | ok r1 E1 B1 =>
    rw [h1] at q
    intro ρ1 H1 v1 A1
    simp only [O.bind_ok] at q
    cases h2 : settle r1 E1 with
    | none => rw [h2] at q; exact q.elim
    | some w =>
      obtain ⟨u, E2⟩ := w
      rw [h2] at q
      simp only at q
      by_cases hl : i < E2.length
      · rw [if_pos hl] at q
        obtain ⟨T1, R1⟩ := A1.settled h2
        have rl2 := T1.rel.setVal hl R1
        refine hb F ρ1 _ B1 _ H1 _ rl2 ?_
        cases h3 : fb (E2.set i (.val u)) B1 with
        | bad => rw [h3] at q; exact q
        | ex c E' B' => rw [h3] at q ; first | exact q | exact Aft.exq (by assumption) q | exact AftT.exq (by assumption) q | exact Aft.exq (by assumption) (Aft.exq (by assumption) q) | exact AftT.exq (by assumption) (Aft.exq (by assumption) q) | exact AftT.exq (AftA.t (by assumption)) q | exact ExQ.px q (Aft.px (by assumption)) | exact ExQ.px q (List.IsPrefix.trans (AftT.px (by assumption)) (Aft.px (by assumption))) | exact Aft.exq (by assumption) (AftT.exq (by assumption) q) | exact Aft.exq (by assumption) (Aft.exq (by assumption) (AftT.exq (by assumption) q))
        | ok r2 E3 B3 =>
          rw [h3] at q
          simp only [O.bind_ok] at q
          intro ρ3 H3 v3 A3
          have T3 := A3.letgo
          have R3 : Rep X.K H3 (LvF F ρ3 E3 B3 (σ.set i (some v1))) ρ3 u v1 := Rep.mono T3.stp T3.px _ _ (Rep.mono (Stp.less (setVal_lv T1.rel hl)) (List.prefix_refl _) _ _ R1)
          cases f1 : viewU u B3 with
          | none => rw [f1] at q; exact q.elim
          | some u1 =>
            cases f2 : view r2 E3 B3 with
            | none => rw [f1, f2] at q; exact q.elim
            | some u2 =>
              rw [f1, f2] at q
              simp only at q
              have t1 := viewU_top T3.rel rfl R3 f1
              have t2 := A3.top f2
              cases eg : g u1 u2 with
              | none => rw [eg] at q; exact q.elim
              | some r3 =>
                rw [eg] at q
                cases r3 with
                | s _ => exact q.elim
                | fr _ => exact q.elim
                | w u3 =>
                  cases u3 with
                  | bl b =>
                    simp only at q
                    refine ho F ρ3 E3 B3 _ H3 u1 u2 v1 v3 _ _ T3.rel t1 t2 eg fun H' v A4 => ?_
                    have rr := A4.rep
                    simp only [RepR, Rep] at rr
                    subst rr
                    exact ⟨b, rfl, q ρ3 _ H' (T1.px.trans T3.px) A4.letgo.rel⟩
                  | _ => exact q.elim
      · rw [if_neg hl] at q; exact q.elim
def wAnd (f : Te) (g : Tw) : Tw := fun E B => (f E B).bind fun b E1 B1 => if b = true then g E1 B1 else .ok false E1 B1
def wAndT (c : TT) (t : TTw) : TTw := fun σ H Q => c σ H fun b H1 => if b = true then t σ H1 Q else Q false σ H1
open PyProof.Rows in
theorem ptw_and {tc : TT} {t : TTw} (ha : PT X a tc) (hb : PTw X b t) : PTw X (.BoolOp .And [a, b] pos) (wAndT tc t) := by
  refine ⟨fun pins s σ H Q I h => ?_⟩
  refine isTrue_and (thn (ha.run pins s σ H _ I h) fun k s1 ⟨H1, I1, q1⟩ => ?_)
  cases k with
  | true => exact isTrue_and (thn (hb.run pins s1 σ H1 Q I1 q1) fun k2 s2 e2 => by
      cases k2 with
      | true => exact isTrue_and_nil e2
      | false => exact e2)
  | false => exact ⟨σ, H1, I1, q1⟩
theorem sndTw_and {fw : Tw} (ha : SndT X a ft) (hb : SndTw X b fw) : SndTw X (.BoolOp .And [a, b] pos) (wAnd ft fw) := by
  obtain ⟨tc, pc, ha⟩ := ha
  obtain ⟨t, pb, hb⟩ := hb
  refine ⟨_, ptw_and pc pb, fun F ρ E B σ H Q rl q => ?_⟩
  refine ha F ρ E B σ H _ rl ?_
  simp only [wAnd] at q
  cases h1 : ft E B with
  | bad => rw [h1] at q; exact q
  | ex c E' B' => rw [h1] at q ; first | exact q | exact Aft.exq (by assumption) q | exact AftT.exq (by assumption) q | exact Aft.exq (by assumption) (Aft.exq (by assumption) q) | exact AftT.exq (by assumption) (Aft.exq (by assumption) q) | exact AftT.exq (AftA.t (by assumption)) q | exact ExQ.px q (Aft.px (by assumption)) | exact ExQ.px q (List.IsPrefix.trans (AftT.px (by assumption)) (Aft.px (by assumption))) | exact Aft.exq (by assumption) (AftT.exq (by assumption) q) | exact Aft.exq (by assumption) (Aft.exq (by assumption) (AftT.exq (by assumption) q))
  | ok k E1 B1 =>
    rw [h1] at q
    intro ρ1 H1 A1
    cases k with
    | true =>
      simp only [O.bind_ok, if_true] at q ⊢
      refine hb F ρ1 E1 B1 σ H1 Q A1.rel ?_
      cases h2 : fw E1 B1 with
      | bad => rw [h2] at q; exact q
      | ex c E' B' => rw [h2] at q ; first | exact q | exact Aft.exq (by assumption) q | exact AftT.exq (by assumption) q | exact Aft.exq (by assumption) (Aft.exq (by assumption) q) | exact AftT.exq (by assumption) (Aft.exq (by assumption) q) | exact AftT.exq (AftA.t (by assumption)) q | exact ExQ.px q (Aft.px (by assumption)) | exact ExQ.px q (List.IsPrefix.trans (AftT.px (by assumption)) (Aft.px (by assumption))) | exact Aft.exq (by assumption) (AftT.exq (by assumption) q) | exact Aft.exq (by assumption) (Aft.exq (by assumption) (AftT.exq (by assumption) q))
      | ok k2 E2 B2 => rw [h2] at q; exact fun ρ2 σ2 H2 px r2 => q ρ2 σ2 H2 (A1.px.trans px) r2
    | false =>
      simp only [O.bind_ok, Bool.false_eq_true, if_false] at q ⊢
      exact q ρ1 σ H1 A1.px A1.rel
def sIfW (c : Tw) (f g : Sm) : Sm := fun E B => (c E B).bind fun b E1 B1 => if b = true then f E1 B1 else g E1 B1
theorem sndS_ifW {fw : Tw} (hc : SndTw X c fw) (hf : SndB X sts f) (hg : SndB X sts' g) : SndS X (.If c sts sts' pos) (sIfW fw f g) := by
  obtain ⟨t, p1, hc⟩ := hc
  obtain ⟨u, p2, hf⟩ := hf
  obtain ⟨u', p3, hg⟩ := hg
  refine ⟨_, ps_ifW p1 p2 p3, fun F ρ E B σ H D rl q => ?_⟩
  refine hc F ρ E B σ H _ rl ?_
  simp only [sIfW] at q
  cases h1 : fw E B with
  | bad => rw [h1] at q; exact q
  | ex c E' B' => rw [h1] at q ; first | exact q | exact Aft.exq (by assumption) q | exact AftT.exq (by assumption) q | exact Aft.exq (by assumption) (Aft.exq (by assumption) q) | exact AftT.exq (by assumption) (Aft.exq (by assumption) q) | exact AftT.exq (AftA.t (by assumption)) q | exact ExQ.px q (Aft.px (by assumption)) | exact ExQ.px q (List.IsPrefix.trans (AftT.px (by assumption)) (Aft.px (by assumption))) | exact Aft.exq (by assumption) (AftT.exq (by assumption) q) | exact Aft.exq (by assumption) (Aft.exq (by assumption) (AftT.exq (by assumption) q))
  | ok b1 E1 B1 =>
    rw [h1] at q
    intro ρ1 σ1 H1 px r1
    cases b1 with
    | true =>
      simp only [O.bind_ok, if_true] at q ⊢
      exact hf F ρ1 E1 B1 σ1 H1 D r1 (q.px px)
    | false =>
      simp only [O.bind_ok, Bool.false_eq_true, if_false] at q ⊢
      exact hg F ρ1 E1 B1 σ1 H1 D r1 (q.px px)
end
end QB
/-! QbN: reading the derived functions: equations for simp, loops by an invariant, texts as codes. -/
namespace QB
open PySem L2
theorem calF_end {P : Program} {w : World} {K : PySem.W.Frag} {mg : Str → Option Value} {base : Heap} {k : Nat} {x : Str} {st : Stmt} {ps : List Str} {g : Fn} {fa f : Addr} {fd : FuncData}
    (C : CalF P w K mg base k x st ps g) (hfa : mg x = some (.ref fa)) (F : Fun K x x st f fd) (hm : mg x = some (.ref f)) : FnOk P w K mg base (L2.CX P w) k fa fd ps (spF K mg ps.length g) := by
  obtain ⟨⟨f', fd', h1, h2, h3, h4⟩, hl⟩ := C
  have e1 := hm.symm.trans h2
  have e2 := hfa.symm.trans h2
  cases e1
  cases e2
  obtain ⟨_, _, _, _, _, _, _, _, _, _, l1, _⟩ := h3.ex
  obtain ⟨_, _, _, _, _, _, _, _, _, _, l2, _⟩ := F.ex
  have e3 := l1.symm.trans l2
  cases e3
  exact h1
/-! ### texts -/
theorem lit_beq (a b : String) : (Str.ofString a == Str.ofString b) = (a == b) := by
  rw [Str.ofString_eq_toList, Str.ofString_eq_toList]
  have inj : ∀ {l m : List Char}, l.map Char.toNat = m.map Char.toNat → l = m := by
    intro l
    induction l with
    | nil => intro m h; cases m with
      | nil => rfl
      | cons _ _ => cases h
    | cons c l ih => intro m h; cases m with
      | nil => cases h
      | cons d m =>
        simp only [List.map_cons, List.cons.injEq] at h
        rw [ih h.2, Char.toNat_inj.mp h.1]
  by_cases h : a = b
  · subst h; simp
  · have : ¬ (Str.mk (a.toList.map Char.toNat).toArray = Str.mk (b.toList.map Char.toNat).toArray) := by
      intro z
      simp only [Str.mk.injEq, Array.mk.injEq] at z
      exact h (String.ext (inj z))
    rw [beq_eq_false_iff_ne.mpr this, beq_eq_false_iff_ne.mpr h]
def codes (x : Str) : List Nat := x.cps.toList
def ofC (l : List Nat) : Str := ⟨l.toArray⟩
@[simp] theorem codes_ofC (l : List Nat) : codes (ofC l) = l := rfl
@[simp] theorem ofC_codes (x : Str) : ofC (codes x) = x := rfl
theorem str_ext {x y : Str} (h : codes x = codes y) : x = y := by rw [← ofC_codes x, ← ofC_codes y, h]
@[simp] theorem ofC_inj {l m : List Nat} : ofC l = ofC m ↔ l = m := ⟨fun h => by have := congrArg codes h; simpa using this, fun h => by rw [h]⟩
@[simp] theorem ofC_len (l : List Nat) : (ofC l).length = l.length := by simp [ofC, Str.length]
@[simp] theorem ofC_beq (l m : List Nat) : (ofC l == ofC m) = (l == m) := by
  by_cases h : l = m
  · subst h; simp
  · rw [beq_eq_false_iff_ne.mpr h, beq_eq_false_iff_ne.mpr (by simpa using h)]
@[simp] theorem ofC_app (l m : List Nat) : ofC l ++ ofC m = ofC (l ++ m) := by
  show Str.append _ _ = _
  simp [Str.append, ofC]
theorem ofS (s : String) : Str.ofString s = ofC (s.toList.map Char.toNat) := Str.ofString_eq_toList s
theorem mk_ofC (l : List Nat) : (⟨l.toArray⟩ : Str) = ofC l := rfl
@[simp] theorem mk1_ofC (c : Nat) : (⟨#[c]⟩ : Str) = ofC [c] := rfl
@[simp] theorem ofC_cps (l : List Nat) : (ofC l).cps.toList = l := rfl
/-! ### places -/
theorem atI_nat' {α : Type} (us : List α) (k : Nat) : atI us (k : Int) = us[k]? := by
  unfold atI ixN
  rw [if_pos (by omega)]
  by_cases h : k < us.length
  · rw [if_pos (by omega)]; simp
  · rw [if_neg (by omega), Option.bind_none, List.getElem?_eq_none (by omega)]
theorem atI_of {α : Type} {us : List α} {i : Int} {k : Nat} (h : i = (k : Int)) : atI us i = us[k]? := by rw [h, atI_nat']
@[simp] theorem atI_0 {α : Type} (us : List α) : atI us 0 = us[0]? := atI_of (k := 0) rfl
@[simp] theorem atI_1 {α : Type} (us : List α) : atI us 1 = us[1]? := atI_of (k := 1) rfl
@[simp] theorem atI_2 {α : Type} (us : List α) : atI us 2 = us[2]? := atI_of (k := 2) rfl
@[simp] theorem atI_3 {α : Type} (us : List α) : atI us 3 = us[3]? := atI_of (k := 3) rfl
@[simp] theorem atI_k {α : Type} (us : List α) (k : Nat) : atI us (k : Int) = us[k]? := atI_nat' us k
@[simp] theorem atI_k1 {α : Type} (us : List α) (k : Nat) : atI us ((k : Int) + 1) = us[k + 1]? := atI_of (by omega)
@[simp] theorem atI_k2 {α : Type} (us : List α) (k : Nat) : atI us ((k : Int) + 2) = us[k + 2]? := atI_of (by omega)
theorem ixN_of {n : Nat} {i : Int} {k : Nat} (h : i = (k : Int)) (hk : k < n) : ixN n i = some k := by
  unfold ixN
  rw [if_pos (by omega), if_pos (by omega), h, Int.toNat_natCast]
theorem cutU_nat {us : List U} {i j : Int} {a b : Nat} (h1 : i = (a : Int)) (h2 : j = (b : Int)) (hb : b ≤ us.length) (hab : a ≤ b) : cutU us (some i) (some j) = (us.drop a).take (b - a) := by
  unfold cutU
  rw [h1, h2, HT.sIx_nat, HT.sIx_nat, Nat.min_eq_left hb, Nat.min_eq_left (Nat.le_trans hab hb)]
theorem drop_min {α : Type} (us : List α) (a : Nat) : us.drop (min a us.length) = us.drop a := by
  by_cases h : a ≤ us.length
  · rw [Nat.min_eq_left h]
  · rw [Nat.min_eq_right (by omega), List.drop_eq_nil_of_le (Nat.le_refl _), List.drop_eq_nil_of_le (by omega)]
theorem take_min2 {α : Type} (us : List α) (a b : Nat) : (us.drop a).take (min b us.length - min a us.length) = (us.drop a).take (b - a) := by
  by_cases h : a ≤ us.length
  · rw [Nat.min_eq_left h]
    by_cases h2 : b ≤ us.length
    · rw [Nat.min_eq_left h2]
    · rw [Nat.min_eq_right (by omega), List.take_of_length_le (by rw [List.length_drop]; omega), List.take_of_length_le (by rw [List.length_drop]; omega)]
  · rw [List.drop_eq_nil_of_le (by omega)]; simp
theorem cutU_ij {us : List U} {i j : Int} {a b : Nat} (h1 : i = (a : Int)) (h2 : j = (b : Int)) : cutU us (some i) (some j) = (us.drop a).take (b - a) := by
  unfold cutU
  rw [h1, h2, HT.sIx_nat, HT.sIx_nat, drop_min, take_min2]
theorem cutU_i {us : List U} {i : Int} {a : Nat} (h1 : i = (a : Int)) : cutU us (some i) none = us.drop a := by
  unfold cutU
  rw [h1, HT.sIx_nat, HT.sIx_none, drop_min]
  have := take_min2 us a us.length
  rw [Nat.min_self] at this
  rw [this, List.take_of_length_le (by rw [List.length_drop]; omega)]
theorem cutU_j {us : List U} {j : Int} {b : Nat} (h2 : j = (b : Int)) : cutU us none (some j) = us.take b := by
  unfold cutU
  rw [h2, HT.sIx_nat, HT.sIx_none, List.drop_zero, Nat.sub_zero]
  by_cases h : b ≤ us.length
  · rw [Nat.min_eq_left h]
  · rw [Nat.min_eq_right (by omega), List.take_of_length_le (Nat.le_refl _), List.take_of_length_le (by omega)]
/-! ### outcomes -/
def OkP {α : Type} (o : O α) (Q : α → En → Bx → Prop) : Prop := match o with
  | .ok a E B => Q a E B
  | _ => False
@[simp] theorem OkP_ok {α : Type} {a : α} {E : En} {B : Bx} {Q : α → En → Bx → Prop} : OkP (.ok a E B) Q ↔ Q a E B := Iff.rfl
theorem OkP.bind {α β : Type} {o : O α} {k : α → En → Bx → O β} {Q : β → En → Bx → Prop} (h : OkP o fun a E B => OkP (k a E B) Q) : OkP (o.bind k) Q := by
  cases o with
  | ok a E B => exact h
  | ex c E B => exact h.elim
  | bad => exact h.elim
theorem OkP.bindN {α β : Type} {o : O α} {k : α → En → Bx → O β} {Q : β → En → Bx → Prop} (h : OkP o fun a E B => OkP (k a E B) Q) : OkP (o.bindN k) Q := by
  cases o with
  | ok a E B => exact h
  | ex c E B => exact h.elim
  | bad => exact h.elim
theorem OkP.ofBind {α β : Type} {o : O α} {k : α → En → Bx → O β} {Q : β → En → Bx → Prop} (h : OkP (o.bind k) Q) : OkP o fun a E B => OkP (k a E B) Q := by
  cases o with
  | ok a E B => exact h
  | ex c E B => exact h.elim
  | bad => exact h.elim
theorem OkP.mono {α : Type} {o : O α} {Q Q' : α → En → Bx → Prop} (h : OkP o Q) (i : ∀ a E B, Q a E B → Q' a E B) : OkP o Q' := by
  cases o with
  | ok a E B => exact i _ _ _ h
  | ex c E B => exact h.elim
  | bad => exact h.elim
theorem OkP.get {α : Type} {o : O α} {Q : α → En → Bx → Prop} (h : OkP o Q) : ∃ a E B, o = .ok a E B ∧ Q a E B := by
  cases o with
  | ok a E B => exact ⟨a, E, B, rfl, h⟩
  | ex c E B => exact h.elim
  | bad => exact h.elim
theorem okP_seq {f g : Sm} {E : En} {B : Bx} {Q : Fl → En → Bx → Prop} (h : OkP (f E B) fun fl E1 B1 => match fl with | .nx => OkP (g E1 B1) Q | fl => Q fl E1 B1) : OkP (sSeq f g E B) Q := by
  unfold sSeq
  refine OkP.bind (h.mono fun fl E1 B1 q => ?_)
  cases fl <;> exact q
/-- what a body answers, as a def's outcome -/
theorem run_ok {N n : Nat} {f : Sm} {us : List U} {B : Bx} {Q : U → Bx → Prop} (hl : us.length = n) (h : OkP (f (us.map .val ++ List.replicate (N - us.length) .un) B) fun fl _ B' => match fl with | .rt u => Q u B' | .nx => Q .non B' | _ => False) : ∃ u B', runBody N n f us B = .ok u B' ∧ Q u B' := by
  unfold runBody
  rw [if_pos hl]
  obtain ⟨fl, E', B', e, q⟩ := h.get
  rw [e]
  cases fl with
  | rt u => exact ⟨u, B', rfl, q⟩
  | nx => exact ⟨.non, B', rfl, q⟩
  | bk => exact q.elim
  | ct => exact q.elim
/-- a while by an invariant and a number that falls -/
theorem okP_while {c : Te} {b : Sm} {Q : Fl → En → Bx → Prop} (I : Nat → En → Bx → Prop)
    (step : ∀ n E B, I n E B → OkP (c E B) fun k E1 B1 => if k = true then OkP (b E1 B1) fun fl E2 B2 => match fl with
      | .bk => Q .nx E2 B2
      | .rt v => Q (.rt v) E2 B2
      | _ => ∃ m, m < n ∧ I m E2 B2
      else Q .nx E1 B1) {E : En} {B : Bx} {n : Nat} (h : I n E B) (hn : n < whileFuel) : OkP (sWhile c b E B) Q := by
  have go : ∀ N n E B, n < N → I n E B → OkP (whileN N c b E B) Q := by
    intro N
    induction N with
    | zero => intro n E B h; omega
    | succ N ih =>
      intro n E B hN hI
      unfold whileN
      refine OkP.bind ((step n E B hI).mono fun k E1 B1 q => ?_)
      by_cases hk : k = true
      · rw [if_pos hk] at q ⊢
        refine OkP.bind (q.mono fun fl E2 B2 q2 => ?_)
        cases fl with
        | bk => exact q2
        | rt v => exact q2
        | nx => obtain ⟨m, hm, h2⟩ := q2; exact ih m E2 B2 (by omega) h2
        | ct => obtain ⟨m, hm, h2⟩ := q2; exact ih m E2 B2 (by omega) h2
      · rw [if_neg hk] at q ⊢
        exact q
  exact go whileFuel n E B hn h
/-- a for over things that cannot change under it -/
theorem okP_forGo {bd : Bd} {b : Sm} {Q : Fl → En → Bx → Prop} (I : List U → En → Bx → Prop) (step : ∀ u us E B, I (u :: us) E B → ∃ E1, bd u E = some E1 ∧ OkP (b E1 B) fun fl E2 B2 => match fl with
      | .bk => Q .nx E2 B2
      | .rt v => Q (.rt v) E2 B2
      | _ => I us E2 B2) (last : ∀ E B, I [] E B → Q .nx E B) : ∀ us E B, I us E B → OkP (forGo bd b yes us E B) Q
  | [], E, B, h => last E B h
  | u :: us, E, B, h => by
    obtain ⟨E1, e, q⟩ := step u us E B h
    unfold forGo
    rw [e]
    refine OkP.bind (q.mono fun fl E2 B2 q2 => ?_)
    cases fl with
    | bk => exact q2
    | rt v => exact q2
    | nx => simp only [goOn_Yes]; exact okP_forGo I step last us E2 B2 q2
    | ct => simp only [goOn_Yes]; exact okP_forGo I step last us E2 B2 q2
theorem okP_for {fi : Iv} {bd : Bd} {b : Sm} {us : List U} {E E1 : En} {B B1 : Bx} {Q : Fl → En → Bx → Prop} (hi : fi E B = .ok (us, yes) E1 B1) (I : List U → En → Bx → Prop) (h : I us E1 B1) (step : ∀ u us E B, I (u :: us) E B → ∃ E1, bd u E = some E1 ∧ OkP (b E1 B) fun fl E2 B2 => match fl with
      | .bk => Q .nx E2 B2
      | .rt v => Q (.rt v) E2 B2
      | _ => I us E2 B2) (last : ∀ E B, I [] E B → Q .nx E B) : OkP (sFor fi bd b E B) Q := by
  unfold sFor
  rw [hi]
  exact okP_forGo I step last us E1 B1 h
/-- a for over a shared list that its body leaves alone -/
theorem okP_forB {fi : Iv} {bd : Bd} {b : Sm} {us : List U} {j : Nat} {E E1 : En} {B B1 : Bx} {Q : Fl → En → Bx → Prop} (hi : fi E B = .ok (us, fun B' => B'[j]? = some (.lst ws)) E1 B1) (I : List U → En → Bx → Prop) (h : I us E1 B1) (step : ∀ u us E B, I (u :: us) E B → ∃ E1, bd u E = some E1 ∧ OkP (b E1 B) fun fl E2 B2 => match fl with
      | .bk => Q .nx E2 B2
      | .rt v => Q (.rt v) E2 B2
      | _ => B2[j]? = some (.lst ws) ∧ I us E2 B2) (last : ∀ E B, I [] E B → Q .nx E B) : OkP (sFor fi bd b E B) Q := by
  have go : ∀ us E B, I us E B → OkP (forGo bd b (fun B' => B'[j]? = some (.lst ws)) us E B) Q := by
    intro us
    induction us with
    | nil => intro E B h; exact last E B h
    | cons u us ih =>
      intro E B h
      obtain ⟨E1, e, q⟩ := step u us E B h
      unfold forGo
      rw [e]
      refine OkP.bind (q.mono fun fl E2 B2 q2 => ?_)
      cases fl with
      | bk => exact q2
      | rt v => exact q2
      | nx => simp only [goOn, if_pos q2.1]; exact ih E2 B2 q2.2
      | ct => simp only [goOn, if_pos q2.1]; exact ih E2 B2 q2.2
  unfold sFor
  rw [hi]
  exact go us E1 B1 h
/-- a list comprehension whose parts change nothing -/
theorem lc_pure {bd : Bd} {t : Te} {f : Ex} {ks : List Nat} {chk : Bx → Prop} {E : En} {B : Bx} {p : U → Bool} {y : U → U} (hc : chk B) : ∀ (us acc : List U), (∀ u ∈ us, ∃ E1, bd u E = some E1 ∧ wipeE E1 ks = E ∧ t E1 B = .ok (p u) E1 B ∧ (p u = true → ∃ r, f E1 B = .ok r E1 B ∧ settle r E1 = some (y u, E1))) → acc.length + us.length ≤ 16777216 → lcGo bd t f chk ks us acc E B = .ok (acc ++ (us.filter p).map y) E B
  | [], acc, _, _ => by simp [lcGo]
  | u :: us, acc, h, hl => by
    obtain ⟨E1, e1, e2, e3, e4⟩ := h u (List.mem_cons_self ..)
    have hl' : acc.length + (us.length + 1) ≤ 16777216 := hl
    unfold lcGo
    rw [e1]
    simp only [e3, O.bindN_ok]
    by_cases hp : p u = true
    · obtain ⟨r, e5, e6⟩ := e4 hp
      rw [if_pos hp, e5]
      simp only [O.bindN_ok, e6]
      rw [if_pos (by omega), e2]
      unfold goOnL
      rw [if_pos hc, lc_pure hc us (acc ++ [y u]) (fun v hv => h v (List.mem_cons_of_mem _ hv)) (by simp; omega)]
      simp [hp]
    · rw [if_neg hp, e2]
      unfold goOnL
      rw [if_pos hc, lc_pure hc us acc (fun v hv => h v (List.mem_cons_of_mem _ hv)) (by omega)]
      simp [hp]
theorem mLc_pure {fi : Iv} {bd : Bd} {t : Te} {f : Ex} {ks : List Nat} {chk : Bx → Prop} {E E1 : En} {B B1 : Bx} {us : List U} (p : U → Bool) (y : U → U) (hi : fi E B = .ok (us, chk) E1 B1) (hn : noOwn E1 ks = true) (hc : chk B1) (hl : us.length ≤ 16777216)
    (h : ∀ u ∈ us, ∃ E2, bd u (wipeE E1 ks) = some E2 ∧ wipeE E2 ks = wipeE E1 ks ∧ t E2 B1 = .ok (p u) E2 B1 ∧ (p u = true → ∃ r, f E2 B1 = .ok r E2 B1 ∧ settle r E2 = some (y u, E2))) :
    mLc fi bd t f ks E B = .ok (.fr (.lst ((us.filter p).map y))) (keepE E1 (wipeE E1 ks) ks) B1 := by
  unfold mLc
  rw [hi]
  simp only [O.bind_ok]
  rw [if_pos hn, lc_pure hc us [] h (by simpa using hl)]
  simp
end QB
/-! QbO: the layer's words as equations for simp. -/
namespace QB
open PySem L2
section
variable {E : En} {B : Bx} {f g : Ex} {s t : Sm} {c d : Te} {fs : Ar} {u : U} {i j : Nat}
@[simp] theorem e_mVar : mVar i E B = match E[i]? with
  | some (.val u) => .ok (.w u) E B
  | some (.own _) => .ok (.s i) E B
  | _ => .bad := (rfl)
@[simp] theorem e_mC : mC u E B = .ok (.w u) E B := (rfl)
@[simp] theorem e_m2 {h : U → U → Option R} : m2 h f g E B = (f E B).bind fun r1 E1 B1 => (g E1 B1).bind fun r2 E2 B2 =>
    match view r1 E2 B2, view r2 E2 B2 with
    | some u1, some u2 => match h u1 u2 with
      | some r => .ok r E2 B2
      | none => .bad
    | _, _ => .bad := (rfl)
@[simp] theorem e_m1 {h : U → Option R} : m1 h f E B = (f E B).bind fun r1 E1 B1 =>
    match view r1 E1 B1 with
    | some u1 => match h u1 with
      | some r => .ok r E1 B1
      | none => .bad
    | none => .bad := (rfl)
@[simp] theorem e_toT : toT f E B = (f E B).bind fun r E1 B1 =>
  match r with
  | .w (.bl b) => .ok b E1 B1
  | _ => .bad := (rfl)
@[simp] theorem e_mTru : mTru f E B = (f E B).bind fun r E1 B1 =>
  match view r E1 B1 with
  | some u => match truU u with
    | some b => .ok b E1 B1
    | none => .bad
  | none => .bad := (rfl)
@[simp] theorem e_mAnd : mAnd c d E B = (c E B).bind fun b E1 B1 => if b = true then d E1 B1 else .ok false E1 B1 := (rfl)
@[simp] theorem e_mOr : mOr c d E B = (c E B).bind fun b E1 B1 => if b = true then .ok true E1 B1 else d E1 B1 := (rfl)
@[simp] theorem e_mNot : mNot c E B = (c E B).bind fun b E1 B1 => .ok (!b) E1 B1 := (rfl)
@[simp] theorem e_mAndV : mAndV f g E B = (toT f E B).bind fun b E1 B1 => if b = true then g E1 B1 else .ok (.w (.bl false)) E1 B1 := (rfl)
@[simp] theorem e_mOrV : mOrV f g E B = (toT f E B).bind fun b E1 B1 => if b = true then .ok (.w (.bl true)) E1 B1 else g E1 B1 := (rfl)
@[simp] theorem e_mNotV : mNotV f E B = (toT f E B).bind fun b E1 B1 => .ok (.w (.bl (!b))) E1 B1 := (rfl)
@[simp] theorem e_mIf : mIf c f g E B = (c E B).bind fun b E1 B1 => if b = true then f E1 B1 else g E1 B1 := (rfl)
@[simp] theorem e_mBox : mBox f E B = (f E B).bind fun r E1 B1 =>
  match r with
  | .fr c => .ok (.w (.box B1.length)) E1 (B1 ++ [c])
  | _ => .bad := (rfl)
@[simp] theorem e_mNoPart : mNoPart E B = .ok none E B := (rfl)
@[simp] theorem e_mPart : mPart f E B = (f E B).bind fun r E1 B1 =>
  match r with
  | .w (.int i) => .ok (some i) E1 B1
  | _ => .bad := (rfl)
@[simp] theorem e_mSl {fl fh : En → Bx → O (Option Int)} : mSl f fl fh E B =
  (f E B).bind fun r E1 B1 => (fl E1 B1).bind fun lo E2 B2 => (fh E2 B2).bind fun hi E3 B3 =>
    match view r E3 B3 with
    | some u => match gSl u lo hi with
      | some r => .ok r E3 B3
      | none => .bad
    | none => .bad := (rfl)
@[simp] theorem e_mNil : mNil E B = .ok [] E B := (rfl)
@[simp] theorem e_mCons : mCons f fs E B = (f E B).bind fun r E1 B1 =>
  match settle r E1 with
  | some (u, E2) => (fs E2 B1).bind fun us E3 B3 => .ok (u :: us) E3 B3
  | none => .bad := (rfl)
@[simp] theorem e_mTup : mTup fs E B = (fs E B).bind fun us E1 B1 => if us.length ≤ 16777216 then .ok (.w (.tup us)) E1 B1 else .bad := (rfl)
@[simp] theorem e_mLst : mLst fs E B = (fs E B).bind fun us E1 B1 => if us.length ≤ 16777216 then .ok (.fr (.lst us)) E1 B1 else .bad := (rfl)
@[simp] theorem e_mB {h : List U → Option R} : mB h fs E B = (fs E B).bind fun us E1 B1 =>
  match h us with
  | some r => .ok r E1 B1
  | none => .bad := (rfl)
@[simp] theorem e_mM {h : U → List U → Option R} : mM h f fs E B = (f E B).bind fun r E1 B1 =>
  match r with
  | .w (.str z) => (fs E1 B1).bind fun us E2 B2 => match h (.str z) us with
    | some r => .ok r E2 B2
    | none => .bad
  | _ => .bad := (rfl)
@[simp] theorem e_mCall {h : Fn} : mCall h fs E B = (fs E B).bind fun us E1 B1 =>
  match h us B1 with
  | .ok u B2 => .ok (.w u) E1 B2
  | .ex c B2 => .ex c E1 B2
  | .bad => .bad := (rfl)
@[simp] theorem e_mCallK {h : Fn} {ix : List Nat} : mCallK h ix fs E B = (fs E B).bind fun us E1 B1 =>
  match h (pick ix us) B1 with
  | .ok u B2 => .ok (.w u) E1 B2
  | .ex c B2 => .ex c E1 B2
  | .bad => .bad := (rfl)
@[simp] theorem e_pick1 {a : U} : pick [0] [a] = [a] := (rfl)
@[simp] theorem e_mAppend : mAppend f g E B = (f E B).bind fun r E1 B1 =>
  match cellOf r E1 B1 with
  | some (.lst _) => (mCons g mNil E1 B1).bind fun us E2 B2 =>
    match us, cellOf r E2 B2 with
    | [u], some (.lst xs) => if xs.length < 16777216 then .ok (.w .non) (put r E2 B2 (.lst (xs ++ [u]))).1 (put r E2 B2 (.lst (xs ++ [u]))).2 else .bad
    | _, _ => .bad
  | _ => .bad := (rfl)
@[simp] theorem e_sStore {h : Ex} : sStore f g h E B = (f E B).bind fun r0 E0 B0 =>
  match settle r0 E0 with
  | none => .bad
  | some (u, E0') => (g E0' B0).bind fun r E1 B1 => (h E1 B1).bind fun ri E2 B2 =>
    match ri, cellOf r E2 B2 with
    | .w (.int k), some (.lst xs) => match ixN xs.length k with
      | some j => .ok .nx (put r E2 B2 (.lst (xs.set j u))).1 (put r E2 B2 (.lst (xs.set j u))).2
      | none => .bad
    | _, _ => .bad := (rfl)
@[simp] theorem e_sNext : sNext E B = .ok .nx E B := (rfl)
@[simp] theorem e_sBreak : sBreak E B = .ok .bk E B := (rfl)
@[simp] theorem e_sCont : sCont E B = .ok .ct E B := (rfl)
@[simp] theorem e_sBad : sBad E B = .bad := (rfl)
@[simp] theorem e_sSeq : sSeq s t E B = (s E B).bind fun fl E1 B1 =>
  match fl with
  | .nx => t E1 B1
  | fl => .ok fl E1 B1 := (rfl)
@[simp] theorem e_sSet : sSet i f E B = (f E B).bind fun r E1 B1 =>
  match settle r E1 with
  | some (u, E2) => if i < E2.length then .ok .nx (E2.set i (.val u)) B1 else .bad
  | none => .bad := (rfl)
@[simp] theorem e_sOwn : sOwn i f E B = (f E B).bind fun r E1 B1 =>
  match r with
  | .fr c => if i < E1.length then .ok .nx (E1.set i (.own c)) B1 else .bad
  | _ => .bad := (rfl)
@[simp] theorem e_sExpr : sExpr f E B = (f E B).bind fun _ E1 B1 => .ok .nx E1 B1 := (rfl)
@[simp] theorem e_sRet : sRet f E B = (f E B).bind fun r E1 B1 =>
  match settle r E1 with
  | some (u, E2) => .ok (.rt u) E2 B1
  | none => .bad := (rfl)
@[simp] theorem e_sRetN : sRetN E B = .ok (.rt .non) E B := (rfl)
@[simp] theorem e_sIf : sIf c s t E B = (c E B).bind fun b E1 B1 => if b = true then s E1 B1 else t E1 B1 := (rfl)
@[simp] theorem e_sAug {h : U → U → Option R} : sAug i h f E B =
  match E[i]? with
  | some (.val u1) => match flatU u1 with
    | some _ => (f E B).bind fun r E1 B1 => match view r E1 B1 with
      | some u2 => match h u1 u2 with
        | some (.w z) => if i < E1.length then .ok .nx (E1.set i (.val z)) B1 else .bad
        | _ => .bad
      | none => .bad
    | none => .bad
  | _ => .bad := (rfl)
@[simp] theorem e_mChain {h k : U → U → Option R} {l : Ex} : mChain h k f g l E B =
  (f E B).bind fun r1 E1 B1 => (g E1 B1).bind fun r2 E2 B2 =>
    match view r1 E2 B2, view r2 E2 B2 with
    | some u1, some u2 => match flatU u2, h u1 u2 with
      | some _, some (.w (.bl true)) => (l E2 B2).bind fun r3 E3 B3 => match view r3 E3 B3 with
        | some u3 => match k u2 u3 with
          | some r => .ok r E3 B3
          | none => .bad
        | none => .bad
      | some _, some (.w (.bl false)) => .ok (.w (.bl false)) E2 B2
      | _, _ => .bad
    | _, _ => .bad := (rfl)
@[simp] theorem e_wCmpN {h : U → U → Option R} : wCmpN i h f g E B = (f E B).bind fun r E1 B1 =>
  match settle r E1 with
  | some (u, E2) => if i < E2.length then (g (E2.set i (.val u)) B1).bind fun r2 E3 B3 => match viewU u B3, view r2 E3 B3 with
      | some u1, some u2 => match h u1 u2 with
        | some (.w (.bl b)) => .ok b E3 B3
        | _ => .bad
      | _, _ => .bad
    else .bad
  | none => .bad := (rfl)
@[simp] theorem e_wAnd {h : Tw} : wAnd c h E B = (c E B).bind fun b E1 B1 => if b = true then h E1 B1 else .ok false E1 B1 := (rfl)
@[simp] theorem e_sIfW {h : Tw} : sIfW h s t E B = (h E B).bind fun b E1 B1 => if b = true then s E1 B1 else t E1 B1 := (rfl)
@[simp] theorem e_mYes : mYes E B = .ok true E B := (rfl)
@[simp] theorem e_mItV : mItV f E B = (f E B).bind fun r E1 B1 =>
  match settle r E1 with
  | some (u, E2) => match itemsOf u B1 with
    | some w => .ok w E2 B1
    | none => .bad
  | none => .bad := (rfl)
@[simp] theorem e_mRange1 : mRange1 fs E B = (fs E B).bind fun us E1 B1 =>
  match us with
  | [.int j] => if I62 j = true then .ok (intsU 0 j.toNat, yes) E1 B1 else .bad
  | _ => .bad := (rfl)
@[simp] theorem e_mRange2 : mRange2 fs E B = (fs E B).bind fun us E1 B1 =>
  match us with
  | [.int i, .int j] => if I62 i = true ∧ I62 j = true then .ok (intsU i (j - i).toNat, yes) E1 B1 else .bad
  | _ => .bad := (rfl)
@[simp] theorem e_mEnum : mEnum fs E B = (fs E B).bind fun us E1 B1 =>
  match us with
  | [.lst ws] => .ok (ws.mapIdx fun k u => .tup [.int (k : Nat), u], yes) E1 B1
  | _ => .bad := (rfl)
@[simp] theorem e_items_lst {us : List U} : itemsOf (.lst us) B = some (us, yes) := (rfl)
@[simp] theorem e_items_tup {us : List U} : itemsOf (.tup us) B = some (us, yes) := (rfl)
@[simp] theorem e_items_str {l : List Nat} : itemsOf (.str (ofC l)) B = some (l.map (fun c => .str (ofC [c])), yes) := (rfl)
@[simp] theorem e_items_scr {ns : List Int} : itemsOf (.scr ns) B = some (ns.map .int, yes) := (rfl)
theorem e_items_box {us : List U} (h : B[j]? = some (.lst us)) : itemsOf (.box j) B = some (us, fun B' => B'[j]? = some (.lst us)) := by
  simp only [itemsOf, h]
/-! ### views -/
@[simp] theorem e_view_w : view (.w u) E B = viewU u B := (rfl)
@[simp] theorem e_view_fr {k : Cell} : view (.fr k) E B = k.view := (rfl)
@[simp] theorem e_view_s : view (.s i) E B = match E[i]? with
    | some (.own c) => c.view
    | some (.val u) => viewU u B
    | _ => none := (rfl)
@[simp] theorem e_cv_lst {us : List U} : Cell.view (.lst us) = some (.lst us) := (rfl)
@[simp] theorem e_cv_dct {ks : List Key} {us : List U} : Cell.view (.dct ks us) = some (.dct ks us) := (rfl)
@[simp] theorem e_vu_non : viewU .non B = some .non := (rfl)
@[simp] theorem e_vu_bl {b : Bool} : viewU (.bl b) B = some (.bl b) := (rfl)
@[simp] theorem e_vu_int {k : Int} : viewU (.int k) B = some (.int k) := (rfl)
@[simp] theorem e_vu_str {x : Str} : viewU (.str x) B = some (.str x) := (rfl)
@[simp] theorem e_vu_lst {us : List U} : viewU (.lst us) B = some (.lst us) := (rfl)
@[simp] theorem e_vu_tup {us : List U} : viewU (.tup us) B = some (.tup us) := (rfl)
@[simp] theorem e_vu_dct {ks : List Key} {us : List U} : viewU (.dct ks us) B = some (.dct ks us) := (rfl)
@[simp] theorem e_vu_scr {ns : List Int} : viewU (.scr ns) B = some (.scr ns) := (rfl)
@[simp] theorem e_vu_box : viewU (.box j) B = (B[j]?).bind Cell.view := (rfl)
@[simp] theorem e_settle_w : settle (.w u) E = some (u, E) := (rfl)
@[simp] theorem e_settle_fr {k : Cell} : settle (.fr k) E = some (k.toU, E) := (rfl)
@[simp] theorem e_settle_s : settle (.s i) E = match E[i]? with
    | some (.own c) => some (c.toU, E.set i (.val c.toU))
    | some (.val u) => some (u, E)
    | _ => none := (rfl)
@[simp] theorem e_toU_lst {us : List U} : Cell.toU (.lst us) = .lst us := (rfl)
@[simp] theorem e_toU_dct {ks : List Key} {us : List U} : Cell.toU (.dct ks us) = .dct ks us := (rfl)
@[simp] theorem e_cellOf_box : cellOf (.w (.box j)) E B = B[j]? := (rfl)
@[simp] theorem e_cellOf_s : cellOf (.s i) E B = match E[i]? with
    | some (.own c) => some c
    | some (.val (.box j)) => B[j]?
    | _ => none := (rfl)
@[simp] theorem e_put_box {k : Cell} : put (.w (.box j)) E B k = (E, B.set j k) := (rfl)
@[simp] theorem e_put_s {k : Cell} : put (.s i) E B k = match E[i]? with
    | some (.own _) => (E.set i (.own k), B)
    | some (.val (.box j)) => (E, B.set j k)
    | _ => (E, B) := (rfl)
@[simp] theorem e_bdN {k : Nat} : bdN k u E = match E[k]? with
  | some (.own _) => none
  | some _ => some (E.set k (.val u))
  | none => none := (rfl)
@[simp] theorem e_bdT {bs : Bds} {us : List U} : bdT bs (.tup us) E = bs us E := (rfl)
@[simp] theorem e_bdCons {b : Bd} {bs : Bds} {us : List U} : bdCons b bs (u :: us) E = (b u E).bind fun E1 => bs us E1 := (rfl)
@[simp] theorem e_bdNil : bdNil [] E = some E := (rfl)
@[simp] theorem e_wipe0 : wipeE E [] = E := (rfl)
@[simp] theorem e_wipe1 {v : Nat} {vs : List Nat} : wipeE E (v :: vs) = (wipeE E vs).set v .un := (rfl)
@[simp] theorem e_keep0 {E1 : En} : keepE E1 E [] = E := (rfl)
@[simp] theorem e_keep1 {E1 : En} {v : Nat} {vs : List Nat} : keepE E1 E (v :: vs) = match E1[v]? with
    | some s => (keepE E1 E vs).set v s
    | none => keepE E1 E vs := (rfl)
@[simp] theorem e_noOwn0 : noOwn E [] = true := (rfl)
@[simp] theorem e_noOwn1 {v : Nat} {vs : List Nat} : noOwn E (v :: vs) = match E[v]? with
    | some (.own _) => false
    | none => false
    | _ => noOwn E vs := (rfl)
/-! ### what is said of values -/
@[simp] theorem e_tru_bl {b : Bool} : truU (.bl b) = some b := (rfl)
@[simp] theorem e_tru_non : truU .non = some false := (rfl)
@[simp] theorem e_tru_int {k : Int} : truU (.int k) = some (k != 0) := (rfl)
@[simp] theorem e_tru_lst {us : List U} : truU (.lst us) = some (!us.isEmpty) := (rfl)
@[simp] theorem e_tru_tup {us : List U} : truU (.tup us) = some (!us.isEmpty) := (rfl)
@[simp] theorem e_tru_scr {ns : List Int} : truU (.scr ns) = some (!ns.isEmpty) := (rfl)
@[simp] theorem e_tru_str {l : List Nat} : truU (.str (ofC l)) = if l.length ≤ 16777216 then some ((l.length : Int) != 0) else none := (rfl)
@[simp] theorem e_gII {C : Int → Int → Bool} {h : Int → Int → Int} {a b : Int} : gII C h (.int a) (.int b) = if C a b = true then some (.w (.int (h a b))) else none := (rfl)
@[simp] theorem e_add_ii {a b : Int} : gAdd (.int a) (.int b) = some (.w (.int (a + b))) := (rfl)
@[simp] theorem e_add_ss {a b : Str} : gAdd (.str a) (.str b) = if a.length + b.length ≤ 16777216 then some (.w (.str (a ++ b))) else none := by
  simp [gAdd, gII, gCatS, gCatL, gCatT]
@[simp] theorem e_add_ll {a b : List U} : gAdd (.lst a) (.lst b) = if a.length + b.length ≤ 16777216 then some (.fr (.lst (a ++ b))) else none := by
  simp [gAdd, gII, gCatS, gCatL, gCatT]
@[simp] theorem e_add_tt {a b : List U} : gAdd (.tup a) (.tup b) = if a.length + b.length ≤ 16777216 then some (.w (.tup (a ++ b))) else none := by
  simp [gAdd, gII, gCatS, gCatL, gCatT]
@[simp] theorem e_iadd_ii {a b : Int} : gIAdd (.int a) (.int b) = some (.w (.int (a + b))) := (rfl)
@[simp] theorem e_iadd_ss {a b : Str} : gIAdd (.str a) (.str b) = if a.length + b.length ≤ 16777216 then some (.w (.str (a ++ b))) else none := by
  simp [gIAdd, gII, gCatS]
@[simp] theorem e_sub {a b : Int} : gSub (.int a) (.int b) = some (.w (.int (a - b))) := (rfl)
@[simp] theorem e_mul {a b : Int} : gMul (.int a) (.int b) = if cMul a b = true then some (.w (.int (a * b))) else none := by
  simp [gMul, gII, gRep]
@[simp] theorem e_mulL {a : List U} {b : Int} : gMul (.lst a) (.int b) = gRep (.lst a) (.int b) := (rfl)
@[simp] theorem e_lt_ii {a b : Int} : gLt (.int a) (.int b) = some (.w (.bl (decide (a < b)))) := (rfl)
@[simp] theorem e_le_ii {a b : Int} : gLe (.int a) (.int b) = some (.w (.bl (decide (a ≤ b)))) := (rfl)
@[simp] theorem e_gt_ii {a b : Int} : gGt (.int a) (.int b) = some (.w (.bl (decide (b < a)))) := (rfl)
@[simp] theorem e_ge_ii {a b : Int} : gGe (.int a) (.int b) = some (.w (.bl (decide (b ≤ a)))) := (rfl)
@[simp] theorem e_lt_ss {a b : List Nat} : gLt (.str (ofC a)) (.str (ofC b)) = some (.w (.bl (decide (a < b)))) := (rfl)
@[simp] theorem e_le_ss {a b : List Nat} : gLe (.str (ofC a)) (.str (ofC b)) = some (.w (.bl (!decide (b < a)))) := (rfl)
@[simp] theorem e_gt_ss {a b : List Nat} : gGt (.str (ofC a)) (.str (ofC b)) = some (.w (.bl (decide (b < a)))) := (rfl)
@[simp] theorem e_ge_ss {a b : List Nat} : gGe (.str (ofC a)) (.str (ofC b)) = some (.w (.bl (!decide (a < b)))) := (rfl)
@[simp] theorem e_len_lst {us : List U} : gLen (.lst us) = some (.w (.int us.length)) := (rfl)
@[simp] theorem e_len_tup {us : List U} : gLen (.tup us) = some (.w (.int us.length)) := (rfl)
@[simp] theorem e_len_scr {ns : List Int} : gLen (.scr ns) = some (.w (.int ns.length)) := (rfl)
@[simp] theorem e_len_str {l : List Nat} : gLen (.str (ofC l)) = if l.length ≤ 16777216 then some (.w (.int l.length)) else none := (rfl)
@[simp] theorem e_abs {a : Int} : gAbs (.int a) = some (.w (.int (if a < 0 then -a else a))) := (rfl)
@[simp] theorem e_neg {a : Int} : gNeg (.int a) = some (.w (.int (-a))) := (rfl)
@[simp] theorem e_int_i {a : Int} : gInt (.int a) = some (.w (.int a)) := (rfl)
@[simp] theorem e_int_b {b : Bool} : gInt (.bl b) = some (.w (.int (if b then 1 else 0))) := (rfl)
@[simp] theorem e_lo_l {us : List U} : gListOf (.lst us) = some (.fr (.lst us)) := (rfl)
@[simp] theorem e_lo_t {us : List U} : gListOf (.tup us) = some (.fr (.lst us)) := (rfl)
@[simp] theorem e_to_l {us : List U} : gTupleOf (.lst us) = some (.w (.tup us)) := (rfl)
@[simp] theorem e_to_t {us : List U} : gTupleOf (.tup us) = some (.w (.tup us)) := (rfl)
theorem blsOf_map : ∀ bs : List Bool, blsOf (bs.map .bl) = some bs
  | [] => rfl
  | b :: bs => by simp [blsOf, blsOf_map bs]
@[simp] theorem e_any {bs : List Bool} : gAny (.lst (bs.map .bl)) = some (.w (.bl (bs.any id))) := by simp [gAny, blsOf_map]
@[simp] theorem e_all {bs : List Bool} : gAll (.lst (bs.map .bl)) = some (.w (.bl (bs.all id))) := by simp [gAll, blsOf_map]
theorem e_any' {α : Type} {l : List α} {p : α → Bool} : gAny (.lst (l.map fun x => .bl (p x))) = some (.w (.bl (l.any p))) := by
  have h : (l.map fun x => U.bl (p x)) = (l.map p).map .bl := by simp [Function.comp_def]
  rw [h, e_any]; simp [List.any_map]
theorem e_all' {α : Type} {l : List α} {p : α → Bool} : gAll (.lst (l.map fun x => .bl (p x))) = some (.w (.bl (l.all p))) := by
  have h : (l.map fun x => U.bl (p x)) = (l.map p).map .bl := by simp [Function.comp_def]
  rw [h, e_all]; simp [List.all_map]
@[simp] theorem e_max2 {a b : Int} : gMax2 [.int a, .int b] = some (.w (.int (if b > a then b else a))) := (rfl)
@[simp] theorem e_min2 {a b : Int} : gMin2 [.int a, .int b] = some (.w (.int (if b < a then b else a))) := (rfl)
@[simp] theorem e_ix_l {us : List U} {k : Int} : gIx (.lst us) (.int k) = (atI us k).map .w := (rfl)
@[simp] theorem e_ix_t {us : List U} {k : Int} : gIx (.tup us) (.int k) = (atI us k).map .w := (rfl)
@[simp] theorem e_ix_s {l : List Nat} {k : Int} : gIx (.str (ofC l)) (.int k) = if l.length ≤ 16777216 then (atI l k).map fun c => .w (.str (ofC [c])) else none := (rfl)
@[simp] theorem e_ix_scr {ns : List Int} {k : Int} : gIx (.scr ns) (.int k) = (atI ns k).map fun n => .w (.int n) := (rfl)
@[simp] theorem e_sl_l {us : List U} {lo hi : Option Int} : gSl (.lst us) lo hi = some (.fr (.lst (cutU us lo hi))) := (rfl)
@[simp] theorem e_sl_t {us : List U} {lo hi : Option Int} : gSl (.tup us) lo hi = some (.w (.tup (cutU us lo hi))) := (rfl)
@[simp] theorem e_eq {a b : U} : gEq a b = (eqU a b).map fun k => .w (.bl k) := (rfl)
@[simp] theorem e_ne {a b : U} : gNe a b = (eqU a b).map fun k => .w (.bl (!k)) := (rfl)
@[simp] theorem e_eq_ss {x y : Str} : eqU (.str x) (.str y) = some (x == y) := (rfl)
@[simp] theorem e_eq_ii {x y : Int} : eqU (.int x) (.int y) = some (x == y) := (rfl)
@[simp] theorem e_eq_ns {y : Str} : eqU .non (.str y) = some false := (rfl)
@[simp] theorem e_eq_sn {y : Str} : eqU (.str y) .non = some false := (rfl)
@[simp] theorem e_eq_si {x : Str} {y : Int} : eqU (.str x) (.int y) = some false := (rfl)
@[simp] theorem e_eq_is {x : Str} {y : Int} : eqU (.int y) (.str x) = some false := (rfl)
@[simp] theorem e_eq_bb {x y : Bool} : eqU (.bl x) (.bl y) = some (x == y) := by cases x <;> cases y <;> decide +kernel
theorem eqU_self {u : U} {d : PyData} (h : toD u = some d) (hs : SeqAt.shaped d = true) (hu : ∀ x, u ≠ .str x) : eqU u u = some true := by
  have e : (match toD u, toD u with
    | some d, some e => if (SeqAt.shaped d && SeqAt.shaped e) = true then some (PyData.eqv d e) else none
    | _, _ => none) = some true := by
    rw [h]
    simp only [hs, Bool.and_self, if_true]
    rw [SeqAt.eqv_refl d (SeqAt.canLay_of_shaped hs)]
  cases u with
  | str x => exact absurd rfl (hu x)
  | int x => simp
  | _ => exact e
@[simp] theorem e_is_non {b : Bool} {a : U} : gIs b a .non = some (.w (.bl (if b then !isNon a else isNon a))) := by cases a <;> rfl
@[simp] theorem e_is_bb {n : Bool} {a b : Bool} : gIs n (.bl a) (.bl b) = some (.w (.bl (if n then !decide (a = b) else decide (a = b)))) := (rfl)
@[simp] theorem e_isNon_non : isNon .non = true := (rfl)
@[simp] theorem e_isNon_int {k : Int} : isNon (.int k) = false := (rfl)
@[simp] theorem e_isNon_str {x : Str} : isNon (.str x) = false := (rfl)
@[simp] theorem e_isNon_bl {b : Bool} : isNon (.bl b) = false := (rfl)
@[simp] theorem e_isNon_lst {us : List U} : isNon (.lst us) = false := (rfl)
@[simp] theorem e_isNon_tup {us : List U} : isNon (.tup us) = false := (rfl)
@[simp] theorem e_isNon_box : isNon (.box j) = false := (rfl)
@[simp] theorem e_gIn {n : Bool} {a b : U} : gIn n a b = (inU a b).map fun k => .w (.bl (if n then !k else k)) := (rfl)
@[simp] theorem e_in_1 {k : Nat} {l : List Nat} : inU (.str (ofC [k])) (.str (ofC l)) = some (decide (k ∈ l)) := by
  show some (inStr _ _) = _
  unfold inStr
  rw [if_pos (by rfl)]
  rfl
@[simp] theorem e_flat_str {x : Str} : flatU (.str x) = some (.str x) := (rfl)
@[simp] theorem e_flat_int {k : Int} : flatU (.int k) = some (.int k) := (rfl)
@[simp] theorem e_flat_bl {b : Bool} : flatU (.bl b) = some (.bl b) := (rfl)
@[simp] theorem e_flat_non : flatU .non = some .non := (rfl)
/-! ### kinds -/
@[simp] theorem e_isi {T : String} : gIsi T u = (kindS u).bind fun s => (kitB s T).map fun k => .w (.bl k) := (rfl)
@[simp] theorem e_isiT {Ts : List String} : gIsiT Ts u = (kindS u).bind fun s => (isAny s Ts).map fun k => .w (.bl k) := (rfl)
@[simp] theorem e_isAny0 {s : String} : isAny s [] = some false := (rfl)
@[simp] theorem e_isAny1 {s T : String} {Ts : List String} : isAny s (T :: Ts) = (kitB s T).bind fun k => (isAny s Ts).map fun k' => k || k' := (rfl)
@[simp] theorem e_kind_non : kindS .non = some "NoneType" := (rfl)
@[simp] theorem e_kind_bl {b : Bool} : kindS (.bl b) = some "bool" := (rfl)
@[simp] theorem e_kind_int {k : Int} : kindS (.int k) = some "int" := (rfl)
@[simp] theorem e_kind_str {x : Str} : kindS (.str x) = some "str" := (rfl)
@[simp] theorem e_kind_lst {us : List U} : kindS (.lst us) = some "list" := (rfl)
@[simp] theorem e_kind_tup {us : List U} : kindS (.tup us) = some "tuple" := (rfl)
@[simp] theorem e_kind_dct {ks : List Key} {us : List U} : kindS (.dct ks us) = some "dict" := (rfl)
@[simp] theorem e_kind_scr {ns : List Int} : kindS (.scr ns) = some "list" := (rfl)
@[simp] theorem e_cMod {a b : Int} : cMod a b = decide (0 < b) := (rfl)
theorem cMul_l {a b : Int} (h : -9223372036854775808 ≤ a) (h2 : a ≤ 9223372036854775807) : cMul a b = true := cMul_iff.mpr (.inl ⟨h, h2⟩)
theorem cMul_r {a b : Int} (h : -9223372036854775808 ≤ b) (h2 : b ≤ 9223372036854775807) : cMul a b = true := cMul_iff.mpr (.inr (.inl ⟨h, h2⟩))
theorem cMul_b {a b : Int} (h : a.natAbs.log2 + b.natAbs.log2 < 1000000) : cMul a b = true := cMul_iff.mpr (.inr (.inr h))
theorem cDiv_p {a b : Int} (h : 0 < b) (h2 : b ≤ 1500000000000000000000000000000000000000000000000000000000000) : cDiv a b = true := cDiv_iff.mpr ⟨by omega, h⟩
theorem cPow_p {a b : Int} (h : 0 ≤ b) (h2 : b ≤ 1000000) (h3 : -9223372036854775808 ≤ a) (h4 : a ≤ 9223372036854775807) : cPow a b = true := cPow_iff.mpr ⟨by omega, h, h3, h4⟩
/-- written numbers -/
@[simp] theorem cMul_lit {a : Int} {k : Nat} (h : Nat.ble k 9223372036854775807 = true := by rfl) : cMul a (no_index (OfNat.ofNat k)) = true := by
  refine cMul_r (by have : (OfNat.ofNat k : Int) = (k : Int) := rfl; omega) (by
    have e : (OfNat.ofNat k : Int) = (k : Int) := rfl
    have := Nat.le_of_ble_eq_true h
    omega)
end
@[simp] theorem kit_NoneType_bool : kitB "NoneType" "bool" = some false := by decide +kernel
@[simp] theorem kit_NoneType_int : kitB "NoneType" "int" = some false := by decide +kernel
@[simp] theorem kit_NoneType_str : kitB "NoneType" "str" = some false := by decide +kernel
@[simp] theorem kit_NoneType_list : kitB "NoneType" "list" = some false := by decide +kernel
@[simp] theorem kit_NoneType_tuple : kitB "NoneType" "tuple" = some false := by decide +kernel
@[simp] theorem kit_NoneType_dict : kitB "NoneType" "dict" = some false := by decide +kernel
@[simp] theorem kit_bool_bool : kitB "bool" "bool" = some true := by decide +kernel
@[simp] theorem kit_bool_int : kitB "bool" "int" = some true := by decide +kernel
@[simp] theorem kit_bool_str : kitB "bool" "str" = some false := by decide +kernel
@[simp] theorem kit_bool_list : kitB "bool" "list" = some false := by decide +kernel
@[simp] theorem kit_bool_tuple : kitB "bool" "tuple" = some false := by decide +kernel
@[simp] theorem kit_bool_dict : kitB "bool" "dict" = some false := by decide +kernel
@[simp] theorem kit_int_bool : kitB "int" "bool" = some false := by decide +kernel
@[simp] theorem kit_int_int : kitB "int" "int" = some true := by decide +kernel
@[simp] theorem kit_int_str : kitB "int" "str" = some false := by decide +kernel
@[simp] theorem kit_int_list : kitB "int" "list" = some false := by decide +kernel
@[simp] theorem kit_int_tuple : kitB "int" "tuple" = some false := by decide +kernel
@[simp] theorem kit_int_dict : kitB "int" "dict" = some false := by decide +kernel
@[simp] theorem kit_str_bool : kitB "str" "bool" = some false := by decide +kernel
@[simp] theorem kit_str_int : kitB "str" "int" = some false := by decide +kernel
@[simp] theorem kit_str_str : kitB "str" "str" = some true := by decide +kernel
@[simp] theorem kit_str_list : kitB "str" "list" = some false := by decide +kernel
@[simp] theorem kit_str_tuple : kitB "str" "tuple" = some false := by decide +kernel
@[simp] theorem kit_str_dict : kitB "str" "dict" = some false := by decide +kernel
@[simp] theorem kit_list_bool : kitB "list" "bool" = some false := by decide +kernel
@[simp] theorem kit_list_int : kitB "list" "int" = some false := by decide +kernel
@[simp] theorem kit_list_str : kitB "list" "str" = some false := by decide +kernel
@[simp] theorem kit_list_list : kitB "list" "list" = some true := by decide +kernel
@[simp] theorem kit_list_tuple : kitB "list" "tuple" = some false := by decide +kernel
@[simp] theorem kit_list_dict : kitB "list" "dict" = some false := by decide +kernel
@[simp] theorem kit_tuple_bool : kitB "tuple" "bool" = some false := by decide +kernel
@[simp] theorem kit_tuple_int : kitB "tuple" "int" = some false := by decide +kernel
@[simp] theorem kit_tuple_str : kitB "tuple" "str" = some false := by decide +kernel
@[simp] theorem kit_tuple_list : kitB "tuple" "list" = some false := by decide +kernel
@[simp] theorem kit_tuple_tuple : kitB "tuple" "tuple" = some true := by decide +kernel
@[simp] theorem kit_tuple_dict : kitB "tuple" "dict" = some false := by decide +kernel
@[simp] theorem kit_dict_bool : kitB "dict" "bool" = some false := by decide +kernel
@[simp] theorem kit_dict_int : kitB "dict" "int" = some false := by decide +kernel
@[simp] theorem kit_dict_str : kitB "dict" "str" = some false := by decide +kernel
@[simp] theorem kit_dict_list : kitB "dict" "list" = some false := by decide +kernel
@[simp] theorem kit_dict_tuple : kitB "dict" "tuple" = some false := by decide +kernel
@[simp] theorem kit_dict_dict : kitB "dict" "dict" = some true := by decide +kernel
end QB
/-! QbP: the purse and its coins, alike in every law. -/
namespace QB
open PySem L2
def purseB : Sm := sSeq (sSet 2 (mIf (toT (m2 gLt (mVar 1) (m1 gLen (mVar 0)))) (m2 gIx (mVar 0) (mVar 1)) (mC (.int 0)))) (sRet (mBox (mLst (mCons (mB gMax2 (mCons (mC (.int 0)) (mCons (m2 gSub (m1 gAbs (mVar 2)) (m2 (gII cPow fun i j => i ^ j.toNat) (mC (.int 10)) (mC (.int 18)))) (mNil)))) (mCons (m2 (gII cMod (· % ·)) (m1 gInt (m2 gAdd (m2 gAdd (m2 gMul (mVar 2) (mC (.int 2654435761))) (m2 gMul (mVar 1) (mC (.int 40503)))) (mC (.int 977)))) (m2 gAdd (m2 (gII cPow fun i j => i ^ j.toNat) (mC (.int 10)) (mC (.int 24))) (mC (.int 7)))) (mCons (mC (.int 0)) (mNil)))))))
def coinB : Sm := sSeq (sIf (toT (m2 gGt (m2 gIx (mVar 0) (mC (.int 0))) (mC (.int 0)))) (sSeq (sSet 2 (m2 (gII cMod (· % ·)) (m1 gInt (m2 gIx (mVar 0) (mC (.int 0)))) (mVar 1))) (sSeq (sStore (m2 (gII cDiv (· / ·)) (m2 gIx (mVar 0) (mC (.int 0))) (mVar 1)) (mVar 0) (mC (.int 0))) (sRet (mVar 2)))) (sNext)) (sSeq (sStore (m2 gAdd (m2 gIx (mVar 0) (mC (.int 2))) (mC (.int 1))) (mVar 0) (mC (.int 2))) (sSeq (sSet 3 (m2 gAdd (m2 gIx (mVar 0) (mC (.int 1))) (m2 gMul (mC (.int 362437)) (m2 gIx (mVar 0) (mC (.int 2)))))) (sSeq (sSet 3 (m2 (gII cMod (· % ·)) (m1 gInt (m2 gAdd (m2 gMul (mVar 3) (mVar 3)) (m2 gIx (mVar 0) (mC (.int 2))))) (m2 gAdd (m2 (gII cPow fun i j => i ^ j.toNat) (mC (.int 10)) (mC (.int 25))) (mC (.int 13))))) (sSeq (sSet 3 (m2 (gII cMod (· % ·)) (m1 gInt (m2 gAdd (m2 gMul (m2 gMul (mVar 3) (mVar 3)) (mC (.int 5))) (mVar 3))) (m2 gAdd (m2 (gII cPow fun i j => i ^ j.toNat) (mC (.int 10)) (mC (.int 23))) (mC (.int 117))))) (sRet (m2 (gII cMod (· % ·)) (m1 gInt (m2 (gII cDiv (· / ·)) (mVar 3) (mC (.int 1000)))) (mVar 1)))))))
theorem run_rt {N n : Nat} {f : Sm} {us : List U} {u : U} {B B' : Bx} {E' : En} (hl : us.length = n) (h : f (us.map .val ++ List.replicate (N - us.length) .un) B = .ok (.rt u) E' B') : runBody N n f us B = .ok u B' := by
  unfold runBody
  rw [if_pos hl, h]
theorem run_nx {N n : Nat} {f : Sm} {us : List U} {B B' : Bx} {E' : En} (hl : us.length = n) (h : f (us.map .val ++ List.replicate (N - us.length) .un) B = .ok .nx E' B') : runBody N n f us B = .ok .non B' := by
  unfold runBody
  rw [if_pos hl, h]
theorem seq_nx {s t : Sm} {E E1 : En} {B B1 : Bx} (h : s E B = .ok .nx E1 B1) : sSeq s t E B = t E1 B1 := by
  unfold sSeq
  rw [h, O.bind_ok]
theorem seq_rt {s t : Sm} {E E1 : En} {B B1 : Bx} {u : U} (h : s E B = .ok (.rt u) E1 B1) : sSeq s t E B = .ok (.rt u) E1 B1 := by
  unfold sSeq
  rw [h, O.bind_ok]
/-- the i-th shared cell is a purse from which n coins can still be taken -/
def Purse (B : Bx) (i n : Nat) : Prop := ∃ a b t : Int, B[i]? = some (.lst [.int a, .int b, .int t]) ∧ 0 ≤ b ∧ b < 10 ^ 25 ∧ 0 ≤ t ∧ t + n ≤ 2 ^ 40
theorem Purse.lt {B : Bx} {i n : Nat} (h : Purse B i n) : i < B.length := by
  obtain ⟨a, b, t, h, _⟩ := h
  exact (List.getElem?_eq_some_iff.mp h).1
theorem Purse.le {B : Bx} {i n m : Nat} (h : Purse B i n) (hm : m ≤ n) : Purse B i m := by
  obtain ⟨a, b, t, h, h1, h2, h3, h4⟩ := h
  exact ⟨a, b, t, h, h1, h2, h3, by omega⟩
theorem Purse.set {B : Bx} {i j n : Nat} {c : Cell} (h : Purse B i n) (hj : j ≠ i) : Purse (B.set j c) i n := by
  obtain ⟨a, b, t, h, h1⟩ := h
  exact ⟨a, b, t, by rw [List.getElem?_set_ne hj]; exact h, h1⟩
theorem Purse.app {B C : Bx} {i n : Nat} (h : Purse B i n) : Purse (B ++ C) i n := by
  have := h.lt
  obtain ⟨a, b, t, h, h1⟩ := h
  exact ⟨a, b, t, by rw [List.getElem?_append_left this]; exact h, h1⟩
def coinF : Fn := runBody 4 2 coinB
def purseF : Fn := runBody 3 2 purseB
theorem ix3_0 : ixN 3 0 = some 0 := rfl
theorem ix3_2 : ixN 3 2 = some 2 := rfl
theorem coin_ok {B : Bx} {i n : Nat} {many : Int} (h : Purse B i (n + 1)) (h0 : 0 < many := by decide) (hm : many ≤ 1000000000 := by decide) :
    ∃ (v : Int) (c : Cell), 0 ≤ v ∧ v < many ∧ coinF [.box i, .int many] B = .ok (.int v) (B.set i c) ∧ Purse (B.set i c) i n := by
  have hi := h.lt
  obtain ⟨a, b, t, h, h1, h2, h3, h4⟩ := h
  by_cases ha : 0 < a
  · refine ⟨a % many, .lst [.int (a / many), .int b, .int t], Int.emod_nonneg _ (by omega), Int.emod_lt_of_pos _ h0, ?_, _, _, _, List.getElem?_set_self hi, h1, h2, h3, by omega⟩
    have d0 : cDiv a many = true := cDiv_p h0 (by omega)
    simp [coinF, runBody, coinB, h, ha, h0, d0, ix3_0]
  · have m1 : -(2 ^ 64) < t + 1 ∧ t + 1 < 2 ^ 64 := by omega
    have q0 : ∀ x y : Int, 0 < y → 0 ≤ x % y ∧ x % y < y := fun x y hy => ⟨Int.emod_nonneg _ (by omega), Int.emod_lt_of_pos _ hy⟩
    have l0 : ∀ x y : Int, 0 ≤ x → x < 10 ^ 40 → 0 ≤ y → y < 10 ^ 40 → x.natAbs.log2 + y.natAbs.log2 < 1000000 := by
      intro x y a1 a2 a3 a4
      have u1 : x.natAbs.log2 < 200 := by
        rcases Nat.eq_zero_or_pos x.natAbs with z | z
        · rw [z]; decide
        · rw [Nat.log2_lt (by omega)]
          have : x.natAbs < 10 ^ 40 := by omega
          exact Nat.lt_trans this (by decide)
      have u2 : y.natAbs.log2 < 200 := by
        rcases Nat.eq_zero_or_pos y.natAbs with z | z
        · rw [z]; decide
        · rw [Nat.log2_lt (by omega)]
          have : y.natAbs < 10 ^ 40 := by omega
          exact Nat.lt_trans this (by decide)
      omega
    have s0 : 0 ≤ b + 362437 * (t + 1) ∧ b + 362437 * (t + 1) < 10 ^ 40 := by omega
    generalize e0 : b + 362437 * (t + 1) = x0 at s0
    have c0 := l0 x0 x0 s0.1 s0.2 s0.1 s0.2
    have s1 := q0 (x0 * x0 + (t + 1)) (10 ^ 25 + 13) (by decide)
    generalize e1 : (x0 * x0 + (t + 1)) % (10 ^ 25 + 13) = x1 at s1
    have c1 := l0 x1 x1 s1.1 (by omega) s1.1 (by omega)
    have s2 := q0 (x1 * x1 * 5 + x1) (10 ^ 23 + 117) (by decide)
    generalize e2 : (x1 * x1 * 5 + x1) % (10 ^ 23 + 117) = x2 at s2
    refine ⟨x2 / 1000 % many, .lst [.int a, .int b, .int (t + 1)], Int.emod_nonneg _ (by omega), Int.emod_lt_of_pos _ h0, ?_, _, _, _, List.getElem?_set_self hi, h1, h2, by omega, by omega⟩
    have e1' : (x0 * x0 + (t + 1)) % 10000000000000000000000013 = x1 := e1
    have e2' : (x1 * x1 * 5 + x1) % 100000000000000000000117 = x2 := e2
    have gs : ∀ c : Cell, (B.set i c)[i]? = some c := fun c => List.getElem?_set_self hi
    have k1 : cMul 362437 (t + 1) = true := cMul_l (by decide) (by decide)
    have k2 : cMul x0 x0 = true := cMul_b c0
    have k3 : cMul x1 x1 = true := cMul_b c1
    have k4 : cMul (x1 * x1) 5 = true := cMul_r (by decide) (by decide)
    have k5 : cPow 10 25 = true := by decide
    have k6 : cPow 10 23 = true := by decide
    have k7 : cDiv x2 1000 = true := cDiv_p (by decide) (by decide)
    simp [coinF, runBody, coinB, h, ha, h0, ix3_2, gs, e0, e1', e2', k1, k2, k3, k4, k5, k6, k7]
def px (z : Int) : Int := if 0 < (if z < 0 then -z else z) - 1000000000000000000 then (if z < 0 then -z else z) - 1000000000000000000 else 0
theorem purse_1 (z : Int) {E : En} {B : Bx} (h : E[2]? = some (.val (.int z))) : (mB gMax2 (mCons (mC (.int 0)) (mCons (m2 gSub (m1 gAbs (mVar 2)) (m2 (gII cPow fun i j => i ^ j.toNat) (mC (.int 10)) (mC (.int 18)))) (mNil)))) E B = .ok (.w (.int (px z))) E B := by
  have k5 : cPow 10 18 = true := by decide
  simp [px, h, k5]
theorem purse_2 (z : Int) (k : Int) {E : En} {B : Bx} (h : E[2]? = some (.val (.int z))) (h1 : E[1]? = some (.val (.int k))) : (m2 (gII cMod (· % ·)) (m1 gInt (m2 gAdd (m2 gAdd (m2 gMul (mVar 2) (mC (.int 2654435761))) (m2 gMul (mVar 1) (mC (.int 40503)))) (mC (.int 977)))) (m2 gAdd (m2 (gII cPow fun i j => i ^ j.toNat) (mC (.int 10)) (mC (.int 24))) (mC (.int 7)))) E B = .ok (.w (.int ((z * 2654435761 + k * 40503 + 977) % 1000000000000000000000007))) E B := by
  have k1 : cMul z 2654435761 = true := cMul_r (by decide) (by decide)
  have k2 : cMul k 40503 = true := cMul_r (by decide) (by decide)
  have k5 : cPow 10 24 = true := by decide
  simp [h, h1, k1, k2, k5]
theorem mB_eq {g : List U → Option R} {fs : Ar} {E : En} {B : Bx} : mB g fs E B = (fs E B).bind fun us E1 B1 =>
  match g us with
  | some r => .ok r E1 B1
  | none => .bad := rfl
theorem purse_3 (z k : Int) {u : U} {B : Bx} : ∃ a b : Int, 0 ≤ b ∧ b < 10 ^ 25 ∧ (sRet (mBox (mLst (mCons (mB gMax2 (mCons (mC (.int 0)) (mCons (m2 gSub (m1 gAbs (mVar 2)) (m2 (gII cPow fun i j => i ^ j.toNat) (mC (.int 10)) (mC (.int 18)))) (mNil)))) (mCons (m2 (gII cMod (· % ·)) (m1 gInt (m2 gAdd (m2 gAdd (m2 gMul (mVar 2) (mC (.int 2654435761))) (m2 gMul (mVar 1) (mC (.int 40503)))) (mC (.int 977)))) (m2 gAdd (m2 (gII cPow fun i j => i ^ j.toNat) (mC (.int 10)) (mC (.int 24))) (mC (.int 7)))) (mCons (mC (.int 0)) (mNil)))))))
    [.val u, .val (.int k), .val (.int z)] B = .ok (.rt (.box B.length)) [.val u, .val (.int k), .val (.int z)] (B ++ [.lst [.int a, .int b, .int 0]]) := by
  have q := Int.emod_nonneg (z * 2654435761 + k * 40503 + 977) (show (1000000000000000000000007 : Int) ≠ 0 by decide)
  have q2 := Int.emod_lt_of_pos (z * 2654435761 + k * 40503 + 977) (show (0 : Int) < 1000000000000000000000007 by decide)
  refine ⟨px z, (z * 2654435761 + k * 40503 + 977) % 1000000000000000000000007, q, by omega, ?_⟩
  have h1 := purse_1 z (E := [.val u, .val (.int k), .val (.int z)]) (B := B) rfl
  have h2 := purse_2 z k (E := [.val u, .val (.int k), .val (.int z)]) (B := B) rfl rfl
  simp only [e_sRet, e_mBox, e_mLst, e_mCons (f := mB _ _), h1, O.bind_ok, e_settle_w]
  rw [e_mCons, h2]
  simp
theorem purse_ok {B : Bx} {ns : List Int} {k : Nat} : ∃ c : Cell, purseF [.scr ns, .int k] B = .ok (.box B.length) (B ++ [c]) ∧ Purse (B ++ [c]) B.length (2 ^ 39) := by
  have s1 : ∃ z : Int, (sSet 2 (mIf (toT (m2 gLt (mVar 1) (m1 gLen (mVar 0)))) (m2 gIx (mVar 0) (mVar 1)) (mC (.int 0)))) [.val (.scr ns), .val (.int k), .un] B = .ok .nx [.val (.scr ns), .val (.int k), .val (.int z)] B := by
    by_cases hk : k < ns.length
    · refine ⟨ns[k], ?_⟩
      have hk' : (k : Int) < ns.length := by omega
      simp [hk, hk']
    · refine ⟨0, ?_⟩
      have hk' : ¬ (k : Int) < ns.length := by omega
      simp [hk, hk']
  obtain ⟨z, s1⟩ := s1
  obtain ⟨a, b, h1, h2, s2⟩ := purse_3 z k (u := .scr ns) (B := B)
  refine ⟨.lst [.int a, .int b, .int 0], ?_, a, b, 0, by simp, h1, h2, by omega, by omega⟩
  refine run_rt rfl (E' := [.val (.scr ns), .val (.int k), .val (.int z)]) ?_
  exact (seq_nx s1).trans s2
end QB
/-! QbQ: texts: joined, cut, sought in. -/
namespace QB
open PySem L2
open PySem.StrLaws (occBody occ_eq subAt_one)
theorem sjoin0 : ∀ ls : List (List Nat), Str.join (ofC []) (ls.map ofC) = ofC ls.flatten
  | [] => rfl
  | [l] => by simp [Str.join]
  | l :: m :: r => by
    have ih := sjoin0 (m :: r)
    simp only [List.map_cons, Str.join] at ih ⊢
    rw [ih]
    simp
theorem join0 (ls : List (List Nat)) : Txt.join (ofC []) (ls.map ofC) = ofC ls.flatten := by
  show Builtin.Str.glued _ _ = _
  rw [StrLaws.glued_eq_join, sjoin0]
theorem strsOf_map : ∀ ls : List (List Nat), strsOf (ls.map fun l => .str (ofC l)) = some (ls.map ofC)
  | [] => rfl
  | l :: ls => by simp [strsOf, strsOf_map ls]
theorem e_join {ls : List (List Nat)} : gJoin (.str (ofC [])) [.lst (ls.map fun l => .str (ofC l))] = if ls.flatten.length ≤ 16777216 then some (.w (.str (ofC ls.flatten))) else none := by
  have e : (List.map (fun x => x.length) (ls.map ofC)).sum = ls.flatten.length := by
    simp [List.length_flatten, Function.comp_def]
  simp only [gJoin, strsOf_map, join0, ofC_len, List.length_nil, Nat.mul_zero, Nat.add_zero, e]
theorem cutS_ij {l : List Nat} {i j : Int} {a b : Nat} (h1 : i = (a : Int)) (h2 : j = (b : Int)) : cutS (ofC l) (some i) (some j) = ofC ((l.drop a).take (b - a)) := by
  unfold cutS
  rw [h1, h2, ofC_len, ofC_cps, HT.sIx_nat, HT.sIx_nat, drop_min, take_min2]
  rfl
theorem e_sl_s {l : List Nat} {lo hi : Option Int} (h : l.length ≤ 16777216) : gSl (.str (ofC l)) lo hi = some (.w (.str (cutS (ofC l) lo hi))) := by
  show (if (ofC l).length ≤ 16777216 then _ else _) = _
  rw [ofC_len, if_pos h]
/-- the first place of a sign, counted on from i -/
def idx (c : Nat) : List Nat → Nat → Option Nat
  | [], _ => none
  | a :: r, i => if a = c then some i else idx c r (i + 1)
theorem occ_stays (s sub : Str) (hi : Nat) : ∀ (l : List Nat) (st : Array Nat × Nat), st.fst.size = 1 → (forIn l st (occBody s sub hi 1)).run.fst = st.fst
  | [], st, h => rfl
  | a :: l, st, h => by
    rw [List.forIn_cons]
    unfold occBody
    rw [if_neg (fun z => by have := z.1.1.1; omega)]
    exact occ_stays s sub hi l _ h
theorem occ_go (l : List Nat) (c : Nat) : ∀ (n i free : Nat), i + n = l.length + 1 → free ≤ i →
    (forIn (List.range' i n) ((#[] : Array Nat), free) (occBody (ofC l) ⟨#[c]⟩ l.length 1)).run.fst.toList = (idx c (l.drop i) i).toList
  | 0, i, free, h, hf => by
    rw [List.drop_eq_nil_of_le (by omega)]
    rfl
  | n + 1, i, free, h, hf => by
    rw [List.range'_succ, List.forIn_cons]
    have key := subAt_one (ofC l) c i
    rw [ofC_len, ofC_cps] at key
    by_cases hc : l[i]? = some c
    · have k2 := key.mpr hc
      have hlt : i < l.length := (List.getElem?_eq_some_iff.mp hc).1
      have e : (occBody (ofC l) ⟨#[c]⟩ l.length 1 i ((#[] : Array Nat), free)) = pure (ForInStep.yield ((#[] : Array Nat).push i, i + (⟨#[c]⟩ : Str).length)) := by
        unfold occBody
        rw [if_pos ⟨⟨⟨by simp, hf⟩, k2.1⟩, k2.2⟩]
      rw [e]
      show (forIn (List.range' (i + 1) n) ((#[] : Array Nat).push i, i + (⟨#[c]⟩ : Str).length) (occBody (ofC l) ⟨#[c]⟩ l.length 1)).run.fst.toList = _
      rw [occ_stays _ _ _ _ _ (by simp), List.drop_eq_getElem_cons hlt, idx, if_pos ((List.getElem?_eq_some_iff.mp hc).2)]
      simp
    · have e : (occBody (ofC l) ⟨#[c]⟩ l.length 1 i ((#[] : Array Nat), free)) = pure (ForInStep.yield ((#[] : Array Nat), free)) := by
        unfold occBody
        rw [if_neg (fun z => hc (key.mp ⟨z.1.2, z.2⟩))]
      rw [e]
      show (forIn (List.range' (i + 1) n) ((#[] : Array Nat), free) (occBody (ofC l) ⟨#[c]⟩ l.length 1)).run.fst.toList = _
      rw [occ_go l c n (i + 1) free (by omega) (by omega)]
      by_cases hlt : i < l.length
      · rw [List.drop_eq_getElem_cons hlt, idx, if_neg (fun z => hc (by rw [List.getElem?_eq_getElem hlt, z]))]
      · rw [List.drop_eq_nil_of_le (by omega : l.length ≤ i), List.drop_eq_nil_of_le (by omega)]; rfl
theorem occ_one (l : List Nat) (c k : Nat) : Builtin.Str.occurrences (ofC l) (ofC [c]) k l.length 1 = (idx c (l.drop k) k).toList := by
  rw [occ_eq]
  by_cases h : k ≤ l.length
  · exact occ_go l c (l.length + 1 - k) k k (by omega) (Nat.le_refl _)
  · rw [show l.length + 1 - k = 0 from by omega, List.drop_eq_nil_of_le (by omega)]
    rfl
def optI : Option Nat → Int
  | some k => k
  | none => -1
theorem find3_one (l : List Nat) (c : Nat) {i : Int} {k : Nat} (h : i = (k : Int)) : Txt.find3 (ofC l) (ofC [c]) i = optI (idx c (l.drop k) k) := by
  unfold Txt.find3
  have e : PySem.fromIndex (ofC l).length i = k := by
    unfold PySem.fromIndex
    rw [h, if_neg (by omega)]
    omega
  rw [e, ofC_len, occ_one]
  cases idx c (l.drop k) k <;> rfl
end QB
/-! QbR: == and != of trees that hold shared lists. -/
namespace QB
open PySem L2
def mapO (f : U → Option PyData) : List U → Option (List PyData)
  | [] => some []
  | u :: us => match f u, mapO f us with
    | some d, some ds => some (d :: ds)
    | _, _ => none
def toDB (B : Bx) : Nat → U → Option PyData
  | 0 => fun _ => none
  | n + 1 => fun u => match u with
    | .non => some .none
    | .bl b => some (.bool b)
    | .int i => some (.int i)
    | .str x => some (.str x)
    | .lst us => (mapO (toDB B n) us).map .list
    | .tup us => (mapO (toDB B n) us).map .tuple
    | .box i => match B[i]? with
      | some (.lst us) => (mapO (toDB B n) us).map .list
      | _ => none
    | _ => none
theorem mapO_dp {K : PySem.W.Frag} {H : Hp} {Lv : AS} {ρ : List Addr} {f : U → Option PyData} (hf : ∀ u v d, Rep K H Lv ρ u v → f u = some d → Dp K H v d) : ∀ (us : List U) (vs : List V) (ds : List PyData), Reps K H Lv ρ us vs → mapO f us = some ds → DpAll K H vs ds
  | [], vs, ds, h, e => by
    simp only [Reps] at h
    subst h
    simp only [mapO, Option.some.injEq] at e
    subst e
    exact .nil
  | u :: us, vs, ds, h, e => by
    simp only [Reps] at h
    obtain ⟨v, r, rfl, h1, h2⟩ := h
    simp only [mapO] at e
    split at e
    · next d ds' e1 e2 =>
      cases e
      exact .cons (hf u v d h1 e1) (mapO_dp hf us r ds' h2 e2)
    · cases e
theorem toDB_dp {K : PySem.W.Frag} {F : Fm} {ρ : List Addr} {E : En} {B : Bx} {σ : L2.St} {H : Hp} (rl : Rel K F ρ E B σ H) : ∀ (n : Nat) (u : U) (v : V) (d : PyData), Rep K H (LvF F ρ E B σ) ρ u v → toDB B n u = some d → Dp K H v d
  | 0, u, v, d, h, e => by simp [toDB] at e
  | n + 1, u, v, d, h, e => by
    have ih := mapO_dp (toDB_dp rl n)
    cases u with
    | non => exact Rep.dp _ _ _ h (by simpa [toDB, toD] using e)
    | bl b => exact Rep.dp _ _ _ h (by simpa [toDB, toD] using e)
    | int i => exact Rep.dp _ _ _ h (by simpa [toDB, toD] using e)
    | str x => exact Rep.dp _ _ _ h (by simpa [toDB, toD] using e)
    | lst us =>
      simp only [Rep] at h
      obtain ⟨p, vs, rfl, ⟨h1, _⟩, h2⟩ := h
      simp only [toDB, Option.map_eq_some_iff] at e
      obtain ⟨ds, e1, rfl⟩ := e
      exact .lst (.inl (.inl h1)) (ih us vs ds h2 e1)
    | tup us =>
      simp only [Rep] at h
      obtain ⟨p, vs, rfl, h1, h2⟩ := h
      simp only [toDB, Option.map_eq_some_iff] at e
      obtain ⟨ds, e1, rfl⟩ := e
      exact .tup (sqT_of h1) (ih us vs ds h2 e1)
    | box i =>
      simp only [Rep] at h
      obtain ⟨p, hp, rfl⟩ := h
      simp only [toDB] at e
      split at e
      · next us hb =>
        simp only [Option.map_eq_some_iff] at e
        obtain ⟨ds, e1, rfl⟩ := e
        obtain ⟨⟨vs, h1, h2⟩, _⟩ := rl.box i _ p hb rfl hp
        exact .lst (.inl (.inl h1)) (ih us vs ds h2 e1)
      · cases e
    | dct _ _ => simp [toDB] at e
    | scr _ => simp [toDB] at e
theorem toDB_top {K : PySem.W.Frag} {F : Fm} {ρ : List Addr} {E : En} {B : Bx} {σ : L2.St} {H : Hp} (rl : Rel K F ρ E B σ H) {n : Nat} {u : U} {v : V} {d : PyData} (t : Top K H (LvF F ρ E B σ) ρ u v) (e : toDB B n u = some d) : Dp K H v d := by
  cases n with
  | zero => simp [toDB] at e
  | succ n =>
    have ih := mapO_dp (toDB_dp rl n)
    cases u with
    | lst us =>
      obtain ⟨p, vs, rfl, h1, h2⟩ := t
      simp only [toDB, Option.map_eq_some_iff] at e
      obtain ⟨ds, e1, rfl⟩ := e
      exact .lst (.inl (.inl h1)) (ih us vs ds h2 e1)
    | tup us =>
      obtain ⟨p, vs, rfl, h1, h2⟩ := t
      simp only [toDB, Option.map_eq_some_iff] at e
      obtain ⟨ds, e1, rfl⟩ := e
      exact .tup (sqT_of h1) (ih us vs ds h2 e1)
    | box i => exact t.elim
    | non => exact toDB_dp rl (n + 1) _ _ _ t e
    | bl _ => exact toDB_dp rl (n + 1) _ _ _ t e
    | int _ => exact toDB_dp rl (n + 1) _ _ _ t e
    | str _ => exact toDB_dp rl (n + 1) _ _ _ t e
    | dct _ _ => simp [toDB] at e
    | scr _ => simp [toDB] at e
def eqB (B : Bx) (a b : U) : Option Bool := match toDB B 8 a, toDB B 8 b with
  | some d, some e => if (SeqAt.shaped d && SeqAt.shaped e) = true then some (PyData.eqv d e) else none
  | _, _ => none
def gEqB (B : Bx) (a b : U) : Option R := (eqB B a b).map fun k => .w (.bl k)
def gNeB (B : Bx) (a b : U) : Option R := (eqB B a b).map fun k => .w (.bl (!k))
def Op2SB (X : Cy) (op : Value → Value → Sem Value) (g : Bx → U → U → Option R) : Prop :=
  ∃ r : R2, OpR X op r ∧ ∀ F ρ E B σ H u1 u2 v1 v2 r3 Q, Rel X.K F ρ E B σ H → Top X.K H (LvF F ρ E B σ) ρ u1 v1 → Top X.K H (LvF F ρ E B σ) ρ u2 v2 → g B u1 u2 = some r3 →
    (∀ H' v, Aft X.K F ρ E B σ H r3 ρ E B H' v → Q v H') → r v1 v2 H Q
def m2B (g : Bx → U → U → Option R) (fa fb : Ex) : Ex := fun E B =>
  (fa E B).bind fun r1 E1 B1 => (fb E1 B1).bind fun r2 E2 B2 =>
    match view r1 E2 B2, view r2 E2 B2 with
    | some u1, some u2 => match g B2 u1 u2 with
      | some r => .ok r E2 B2
      | none => .bad
    | _, _ => .bad
section
variable {X : Cy} {a b : Expr} {fa fb : Ex} {pos : Pos}
theorem op2B_eq (hu : X.A.units + 64 < cLine) : Op2SB X (compareOp .Eq) gEqB := by
  refine ⟨_, op_eqD hu, fun F ρ E B σ H u1 u2 v1 v2 r3 Q rl t1 t2 e q => ?_⟩
  simp only [gEqB, Option.map_eq_some_iff] at e
  obtain ⟨k, e, rfl⟩ := e
  have fin : Q (.bl k) H := q H _ (Aft.val rl (by simp [Rep]))
  unfold eqB at e
  split at e
  · next d d' e1 e2 =>
    split at e
    · next hs =>
      cases e
      simp only [Bool.and_eq_true] at hs
      exact ⟨d, d', toDB_top rl t1 e1, toDB_top rl t2 e2, hs.1, hs.2, fin⟩
    · cases e
  · cases e
theorem op2B_ne (hu : X.A.units + 64 < cLine) : Op2SB X (compareOp .NotEq) gNeB := by
  refine ⟨_, op_neD hu, fun F ρ E B σ H u1 u2 v1 v2 r3 Q rl t1 t2 e q => ?_⟩
  simp only [gNeB, Option.map_eq_some_iff] at e
  obtain ⟨k, e, rfl⟩ := e
  have fin : Q (.bl (!k)) H := q H _ (Aft.val rl (by simp [Rep]))
  unfold eqB at e
  split at e
  · next d d' e1 e2 =>
    split at e
    · next hs =>
      cases e
      simp only [Bool.and_eq_true] at hs
      exact ⟨d, d', toDB_top rl t1 e1, toDB_top rl t2 e2, hs.1, hs.2, fin⟩
    · cases e
  · cases e
theorem m2B_ok {g : Bx → U → U → Option R} {r : R2} {ta tb : TE}
    (ho : ∀ F ρ E B σ H u1 u2 v1 v2 r3 Q, Rel X.K F ρ E B σ H → Top X.K H (LvF F ρ E B σ) ρ u1 v1 → Top X.K H (LvF F ρ E B σ) ρ u2 v2 → g B u1 u2 = some r3 → (∀ H' v, Aft X.K F ρ E B σ H r3 ρ E B H' v → Q v H') → r v1 v2 H Q)
    (ha : ∀ F ρ E B σ H Q, Rel X.K F ρ E B σ H → PostE X.K X.q F ρ E B σ H (fa E B) Q → ta σ H Q) (hb : ∀ F ρ E B σ H Q, Rel X.K F ρ E B σ H → PostE X.K X.q F ρ E B σ H (fb E B) Q → tb σ H Q) :
    ∀ F ρ E B σ H Q, Rel X.K F ρ E B σ H → PostE X.K X.q F ρ E B σ H (m2B g fa fb E B) Q → tOp r ta tb σ H Q := by
  intro F ρ E B σ H Q rl h
  refine ha F ρ E B σ H _ rl ?_
  simp only [m2B] at h
  cases h1 : fa E B with
  | bad => rw [h1] at h; exact h
  | ex c E' B' => rw [h1] at h ; first | exact h | exact Aft.exq (by assumption) h | exact AftT.exq (by assumption) h | exact Aft.exq (by assumption) (Aft.exq (by assumption) h) | exact AftT.exq (by assumption) (Aft.exq (by assumption) h) | exact AftT.exq (AftA.t (by assumption)) h | exact ExQ.px h (Aft.px (by assumption)) | exact ExQ.px h (List.IsPrefix.trans (AftT.px (by assumption)) (Aft.px (by assumption))) | exact Aft.exq (by assumption) (AftT.exq (by assumption) h) | exact Aft.exq (by assumption) (Aft.exq (by assumption) (AftT.exq (by assumption) h))
  | ok r1 E1 B1 =>
    rw [h1] at h
    intro ρ1 H1 v1 A1
    refine hb _ ρ1 E1 B1 σ H1 _ A1.rel ?_
    simp only [O.bind_ok] at h
    cases h2 : fb E1 B1 with
    | bad => rw [h2] at h; exact h
    | ex c E' B' => rw [h2] at h ; first | exact h | exact Aft.exq (by assumption) h | exact AftT.exq (by assumption) h | exact Aft.exq (by assumption) (Aft.exq (by assumption) h) | exact AftT.exq (by assumption) (Aft.exq (by assumption) h) | exact AftT.exq (AftA.t (by assumption)) h | exact ExQ.px h (Aft.px (by assumption)) | exact ExQ.px h (List.IsPrefix.trans (AftT.px (by assumption)) (Aft.px (by assumption))) | exact Aft.exq (by assumption) (AftT.exq (by assumption) h) | exact Aft.exq (by assumption) (Aft.exq (by assumption) (AftT.exq (by assumption) h))
    | ok r2 E2 B2 =>
      rw [h2] at h
      simp only [O.bind_ok] at h
      intro ρ2 H2 v2 A2
      have A2' := A2.letgo
      have A1' := A1.carry A2'
      have T1 := A1'.letgo
      split at h
      · next u1 u2 e1 e2 =>
        split at h
        · next r3 eg =>
          have t1 := A1'.top e1
          have t2 : Top X.K H2 (LvF F ρ2 E2 B2 σ) ρ2 u2 v2 := (A2.top e2).mono (Stp.less fun q z => addR_lv z)
          exact ho F ρ2 E2 B2 σ H2 u1 u2 v1 v2 r3 Q T1.rel t1 t2 eg fun H' v A3 => h ρ2 H' v (T1.then A3)
        · exact h.elim
      · exact h.elim
theorem sndE_cmpB {op : CmpOp} {g : Bx → U → U → Option R} (ho : Op2SB X (compareOp op) g) (ha : SndE X a fa) (hb : SndE X b fb) (hm : behindInMarks op b = false := by first | rfl | exact nomark _) : SndE X (.Compare a [op] [b] pos) (m2B g fa fb) := by
  obtain ⟨r, hr, ho⟩ := ho
  obtain ⟨ta, pa, ha⟩ := ha
  obtain ⟨tb, pb, hb⟩ := hb
  exact ⟨_, pe_cmpR hr pa pb hm, m2B_ok ho ha hb⟩
theorem sndT_cmpB {op : CmpOp} {g : Bx → U → U → Option R} (ho : Op2SB X (compareOp op) g) (ha : SndE X a fa) (hb : SndE X b fb) (hm : behindInMarks op b = false := by first | rfl | exact nomark _) : SndT X (.Compare a [op] [b] pos) (toT (m2B g fa fb)) := by
  obtain ⟨r, hr, ho⟩ := ho
  obtain ⟨ta, pa, ha⟩ := ha
  obtain ⟨tb, pb, hb⟩ := hb
  exact ⟨_, pt_cmpR hr pa pb hm, toT_ok (m2B_ok ho ha hb)⟩
end
section
variable {E : En} {B : Bx} {f g : Ex}
@[simp] theorem e_m2B {h : Bx → U → U → Option R} : m2B h f g E B = (f E B).bind fun r1 E1 B1 => (g E1 B1).bind fun r2 E2 B2 =>
    match view r1 E2 B2, view r2 E2 B2 with
    | some u1, some u2 => match h B2 u1 u2 with
      | some r => .ok r E2 B2
      | none => .bad
    | _, _ => .bad := (rfl)
end
end QB
/-! QbS: enumerate(text, start=j); turned lists and texts; comprehensions with a deed in them. -/
namespace QB
open PySem L2 PyProof.Rows
theorem callTy_kw {M : Model} {A : Around} {E : Value → Shared → Prop} {s : Shared} {pos : Pos} {T : String} {ar : List (Bool × Sem Value)} {kw : List (Option Str × Sem Value)} {Q : Value → Shared → Prop}
    (h1 : ar.any (·.1) = false) (h2 : kw.any (·.1.isNone) = false) (h : wpAny M A (evalArgs (.type T) true ar kw) (fun z s1 => wpAny M A (call (.type T) z.pos z.kw) Q E s1) E s) : wpAny M A (callWith pos (.type T) [] ar kw) Q E s := by
  unfold callWith
  refine wpAny_bind (wpAny_holding (wpAny_mono h (fun z s1 q => wpAny_bind (wpAny_standAt ?_)) fun _ _ q => q))
  simp only [h1, h2, Bool.or_false]
  refine wpAny_bind (wpAny_pure (wpAny_bind (wpAny_mono q (fun r s2 q2 => ?_) fun _ _ q => q)))
  exact wpAny_bind (wpAny_holding (wpAny_point (wpAny_pure q2)))
/-- the signs of a text with their numbers, from j on, each in a new pair -/
def Itt (z : Str) (j : Int) : It :=
  ⟨fun i _ => i < z.cps.size, fun i H v H' => ∃ T c, v = .ref T ∧ H T = none ∧ z.cps[i]? = some c ∧ H' = upd H T (.tup [.int (j + (i : Nat)), .str ⟨#[c]⟩]), fun i _ => i = z.cps.size⟩
theorem turn_text {P : Program} {w : World} {K : PySem.W.Frag} {elts : List Expr} {kk : Nat} {tpos : Pos} (z : Str) (tok : Tok) (j : Int) (e it : Addr) :
    Turn P w K (.Tuple elts kk tpos) (Itt z j) [e, it] e (fun i h => (∃ old, IsEnum h e it (j + (i : Nat)) old) ∧ h.IsStrIter it (strIterType z) z tok i ∧ e ≠ it) where
  mem := List.mem_cons_self ..
  obj := fun i h ⟨⟨old, he⟩, ⟨o, ho, hc, hd⟩, _⟩ b hb => by
    rcases List.mem_cons.mp hb with y | y
    · subst y; exact ⟨_, he, fun v q => nomatch q⟩
    · rw [List.mem_singleton] at y; subst y; exact ⟨o, ho, fun v q => by rw [hd] at q; cases q⟩
  keep := fun i h h' ⟨⟨old, he⟩, ⟨o, ho, r⟩, hne⟩ k => ⟨⟨old, k e (List.mem_cons_self ..) _ he⟩, ⟨o, k it (by simp) o ho, r⟩, hne⟩
  item := by
    intro X hP hw hK hc i pins s σ H E I hf ⟨⟨old, he⟩, hit, hne⟩ hg
    subst hP hw hK
    have ea := Heap.lt_size he
    have ia : it < s.heap.objs.size := by obtain ⟨_, q, _⟩ := hit; exact Heap.lt_size q
    have D := Draws.text (prog := X.prog) (w := X.w) (A := X.A.in1) (I.ok.hd hc) it z tok
    refine wpAny_pyNext_enum_itemC D he hit hg hne (by simpa using hne) fun x h1 tk ⟨c, u, ec, ex⟩ ho hit1 hT hsz hk => ?_
    subst ex
    refine ⟨_, rfl, wpAny_letOwnedTupleGo_enum (s := { s with heap := h1, toks := tk + 1 }) ho fun h2 he2 sb => ?_⟩
    have T2 : h2.get? s.heap.objs.size = some { cls := .type "tuple", data := .seq #[.int (j + (i : Nat)) tk, .str ⟨#[c]⟩ u] } := (sb.2 _ (Nat.ne_of_gt ea)).trans hT
    have ob : ObjOk X.prog X.w (upd H s.heap.objs.size (.tup [.int (j + (i : Nat)), .str ⟨#[c]⟩])) h2 s.heap.objs.size (.tup [.int (j + (i : Nat)), .str ⟨#[c]⟩]) :=
      ⟨by show 2 ≤ sizeLine; decide, [.int (j + (i : Nat)) tk, .str ⟨#[c]⟩ u], .cons ⟨_, rfl⟩ (.cons ⟨_, rfl⟩ .nil), ⟨_, T2, rfl, _, rfl⟩⟩
    have I2 : Inv X pins σ (upd H s.heap.objs.size (.tup [.int (j + (i : Nat)), .str ⟨#[c]⟩])) { s with heap := h2, toks := tk + 1 } :=
      I.turnedNew (ch := [e, it]) (fun b o hb q => (sb.2 b (fun y => hb (by simp [y]))).trans (hk b o (fun y => hb (by simp [y])) (fun y => hb (by simp [y])) q)) hf (Nat.le_refl _) ob
    refine ⟨.ref s.heap.objs.size, _, I2, rfl, ⟨_, c, rfl, I.hok.fresh (Nat.le_refl _), ec, rfl⟩, ⟨⟨.str ⟨#[c]⟩ u, ?_⟩, ?_, hne⟩, fun b hb => ?_⟩
    · have e1 : j + ((i + 1 : Nat) : Int) = j + (i : Int) + 1 := by omega
      rw [e1]; exact he2
    · obtain ⟨o, q, r⟩ := hit1
      exact ⟨o, (sb.2 it (Ne.symm hne)).trans q, r⟩
    · have lt : b < s.heap.objs.size := by
        rcases List.mem_cons.mp hb with y | y
        · subst y; exact ea
        · rw [List.mem_singleton] at y; subst y; exact ia
      rw [upd_ne (Nat.ne_of_lt lt)]
      exact (hf b hb).1
  done := by
    intro X hP hw hK hc i pins s σ H E I hf ⟨⟨old, he⟩, hit, hne⟩ hg
    subst hP hw hK
    have D := Draws.text (prog := X.prog) (w := X.w) (A := X.A.in1) (I.ok.hd hc) it z tok
    obtain ⟨f0, f1, f2, f3, f4, f5⟩ := hf it (by simp)
    have hi : i = z.cps.size := hg
    subst hi
    exact wpAny_pyNext_enum_endD D he hit fun h1 eb => ⟨rfl, I.turned (t' := s.toks) (fun b o hb q => eb b o hb q) f0 f1 f3 f4 f5⟩
  self := fun A i s Q E ⟨⟨_, he⟩, _⟩ h => wpAny_pyIter_enum he h
def iText (ta tk : TA) (Bd : Str → Int → Prop) : TI := fun σ H R => ta σ H fun vs H1 => tk σ H1 fun zs H2 => ∃ z j, vs = [.str z] ∧ zs = [.int j] ∧ -(2 ^ 62) ≤ j ∧ j < 2 ^ 62 ∧ R (Itt z j) H2
section
variable {X : Cy} {a b : Expr} {fs gs : Ar} {pos p p2 tpos : Pos}
theorem pi_textFrom {ta tk : TA} {elts : List Expr} {kk : Nat} {kws : List Keyword} (hg : Gl X "enumerate") (hm : X.mg "enumerate" = none) (ha : PA X [a] ta) (hk : PK X kws tk) (hs : starEach [a] X.env = [(false, eval a X.env)] := by rfl)
    (hs2 : backTo pos (starEach [a] X.env) = (false, eval a X.env) :: backTo pos (starEach [] X.env) := by rfl) (h1 : (backTo pos (starEach [a] X.env)).any (·.1) = false := by rfl)
    (hall : (backToKw pos (keywordEach kws X.env)).all (·.1.isSome) = true := by rfl) (h2 : (backToKw pos (keywordEach kws X.env)).any (·.1.isNone) = false := by rfl) (hks : (backToKw pos (keywordEach kws X.env)).filterMap (·.1) = [Str.ofString "start"] := by rfl) :
    PI X (.Tuple elts kk tpos) (.Call (.Name "enumerate" p) [a] kws pos) (iText ta tk fun _ _ => True) := by
  refine ⟨fun pins s σ H R I h => ?_⟩
  refine wpAny_Call_Name_kw (ld_blt I hg hm boot_enumerate ?_)
  refine callTy_kw h1 h2 (evalArgs_kw2 hall (thn (ha.run pos pins s σ H _ I h) fun us s1 ⟨vs, H1, I1, r1, q1⟩ => thn (hk.run pos pins s1 σ H1 _ I1 q1) fun ws s2 ⟨zs, H2, I2, r2, q2⟩ => ?_) hs)
  rw [hks]
  obtain ⟨z, j, rfl, rfl, b1, b2, q⟩ := q2
  cases r1 with
  | cons r rr =>
    cases rr
    obtain ⟨t, rfl⟩ := r
    cases r2 with
    | cons r' rr' =>
      cases rr'
      obtain ⟨t', rfl⟩ := r'
      refine enum_begins_start (begins_text z t) trivial (by omega) (by omega) fun h' he hit hsz hkp => wpAny_pyIter_enum he ?_
      have I3 : Inv X pins σ H2 { s2 with heap := h' } := I2.kept (t' := s2.toks) hkp
      refine ⟨s2.heap.objs.size + 1, [s2.heap.objs.size + 1, s2.heap.objs.size], _, Itt z j, H2, rfl, I3, turn_text z t j (s2.heap.objs.size + 1) s2.heap.objs.size, ⟨⟨.none, ?_⟩, ⟨_, hit, rfl, rfl⟩, Nat.succ_ne_self _⟩, fun b hb => ?_, q⟩
      · have e0 : j + ((0 : Nat) : Int) = j := by omega
        rw [e0]; exact he
      · have lb : s2.heap.objs.size ≤ b := by
          rcases List.mem_cons.mp hb with y | y
          · subst y; exact Nat.le_succ _
          · rw [List.mem_singleton] at y; subst y; exact Nat.le_refl _
        exact I2.fpOk lb (I2.hok.fresh lb)
def textU (z : Str) (j : Int) : List U := z.cps.toList.mapIdx fun k c => .tup [.int (j + (k : Nat)), .str ⟨#[c]⟩]
theorem walkU_text {K : PySem.W.Frag} {z : Str} {j : Int} : WalkU K (Itt z j) (textU z j) yes (fun _ _ _ => True) := by
  have len : (textU z j).length = z.cps.size := by simp [textU]
  refine ⟨fun _ _ _ _ _ _ _ _ _ _ _ _ => trivial, fun H Lv ρ i _ hi => by rw [len] at hi; exact hi, fun H Lv ρ _ => len, fun H Lv ρ i u x H' _ hu hy hlv => ?_⟩
  obtain ⟨T, c, rfl, hT, hc, rfl⟩ := hy
  have gr : ∀ q o, H q = some o → (upd H T (.tup [.int (j + (i : Nat)), .str ⟨#[c]⟩])) q = some o := fun q o h => by rw [upd_ne (ne_of_none h hT)]; exact h
  refine ⟨gr, ?_⟩
  have e : u = .tup [.int (j + (i : Nat)), .str ⟨#[c]⟩] := by
    simp only [textU, List.getElem?_mapIdx, Option.map_eq_some_iff] at hu
    obtain ⟨d, h1, rfl⟩ := hu
    rw [Array.getElem?_toList, hc] at h1
    cases h1
    rfl
  subst e
  simp only [Rep]
  refine ⟨T, _, rfl, .inl ⟨.inl upd_same, fun z => ?_⟩, Reps.cons (by simp [Rep]) (Reps.one (by simp [Rep]))⟩
  obtain ⟨o, ho⟩ := hlv T z
  rw [hT] at ho
  cases ho
def mEnumT (fs gs : Ar) : Iv := fun E B => (fs E B).bind fun us E1 B1 => (gs E1 B1).bind fun ws E2 B2 =>
  match us, ws with
  | [.str z], [.int j] => if I62 j = true then .ok (textU z j, yes) E2 B2 else .bad
  | _, _ => .bad
theorem sndI_enumT {elts : List Expr} {kk : Nat} {kws : List Keyword} (hm : X.mg "enumerate" = none) (ha : SndA X [a] fs) (hk : SndK X kws gs) (hg : Gl X "enumerate" := by rfl) (hs : starEach [a] X.env = [(false, eval a X.env)] := by rfl)
    (hs2 : backTo pos (starEach [a] X.env) = (false, eval a X.env) :: backTo pos (starEach [] X.env) := by rfl) (h1 : (backTo pos (starEach [a] X.env)).any (·.1) = false := by rfl)
    (hall : (backToKw pos (keywordEach kws X.env)).all (·.1.isSome) = true := by rfl) (h2 : (backToKw pos (keywordEach kws X.env)).any (·.1.isNone) = false := by rfl) (hks : (backToKw pos (keywordEach kws X.env)).filterMap (·.1) = [Str.ofString "start"] := by rfl) :
    SndI X (.Tuple elts kk tpos) (.Call (.Name "enumerate" p) [a] kws pos) (mEnumT fs gs) := by
  obtain ⟨ta, pa, ha⟩ := ha
  obtain ⟨tk, pk, hk⟩ := hk
  refine ⟨_, pi_textFrom hg hm pa pk hs hs2 h1 hall h2 hks, fun F ρ E B σ H Rk rl q => ?_⟩
  refine ha F ρ E B σ H _ rl ?_
  simp only [mEnumT] at q
  cases h1 : fs E B with
  | bad => rw [h1] at q; exact q.elim
  | ex c E' B' => rw [h1] at q; exact q
  | ok us E1 B1 =>
    rw [h1] at q
    simp only [O.bind_ok] at q
    intro ρ1 H1 vs A1
    refine hk F ρ1 E1 B1 σ H1 _ A1.t.rel ?_
    cases h2 : gs E1 B1 with
    | bad => rw [h2] at q; exact q.elim
    | ex c E' B' => rw [h2] at q ; first | exact q | exact Aft.exq (by assumption) q | exact AftT.exq (by assumption) q | exact Aft.exq (by assumption) (Aft.exq (by assumption) q) | exact AftT.exq (by assumption) (Aft.exq (by assumption) q) | exact AftT.exq (AftA.t (by assumption)) q | exact ExQ.px q (Aft.px (by assumption)) | exact ExQ.px q (List.IsPrefix.trans (AftT.px (by assumption)) (Aft.px (by assumption))) | exact Aft.exq (by assumption) (AftT.exq (by assumption) q) | exact Aft.exq (by assumption) (Aft.exq (by assumption) (AftT.exq (by assumption) q))
    | ok ws E2 B2 =>
      rw [h2] at q
      simp only [O.bind_ok] at q
      intro ρ2 H2 zs A2
      have R1 := A1.reps
      have R2 := A2.reps
      revert q
      generalize hw : (match us, ws with | [.str z], [.int j] => if I62 j = true then O.ok (textU z j, yes) E2 B2 else .bad | _, _ => .bad) = oo
      intro q
      cases oo with
      | bad => exact q.elim
      | ex c E' B' => exact absurd hw (by (repeat' split) <;> (intro z; cases z))
      | ok w E' B' =>
        exact (by
          split at hw
          · next z j =>
            split at hw
            · next hj =>
              cases hw
              simp only [Reps, Rep] at R1 R2
              obtain ⟨v, r, rfl, rfl, rfl⟩ := R1
              obtain ⟨v2, r2, rfl, rfl, rfl⟩ := R2
              have b := i62_iff.mp hj
              exact ⟨z, j, rfl, rfl, b.1, b.2, q ρ2 H2 _ _ (A1.t.trans A2.t) walkU_text trivial trivial⟩
            · cases hw
          · cases hw)
end
/-- a list comprehension with a deed in it, by an invariant over what is left and what is gathered -/
theorem okP_lcGo {bd : Bd} {t : Te} {f : Ex} {ks : List Nat} (I : List U → List U → En → Bx → Prop) (step : ∀ u us acc E B, I (u :: us) acc E B → ∃ E1, bd u E = some E1 ∧ OkP (t E1 B) fun b E2 B2 =>
      if b = true then OkP (f E2 B2) fun r E3 B3 => ∃ y E4, settle r E3 = some (y, E4) ∧ acc.length < 16777216 ∧ I us (acc ++ [y]) (wipeE E4 ks) B3 else I us acc (wipeE E2 ks) B2) :
    ∀ us acc E B, I us acc E B → OkP (lcGo bd t f yes ks us acc E B) fun acc' E' B' => I [] acc' E' B'
  | [], acc, E, B, h => h
  | u :: us, acc, E, B, h => by
    obtain ⟨E1, e, q⟩ := step u us acc E B h
    unfold lcGo
    rw [e]
    refine OkP.bindN (q.mono fun b E2 B2 q2 => ?_)
    by_cases hb : b = true
    · rw [if_pos hb] at q2 ⊢
      refine OkP.bindN (q2.mono fun r E3 B3 ⟨y, E4, e4, hl, q3⟩ => ?_)
      rw [e4]
      simp only
      rw [if_pos hl]
      unfold goOnL
      rw [if_pos (show yes _ from trivial)]
      exact okP_lcGo I step us _ _ _ q3
    · rw [if_neg hb] at q2 ⊢
      unfold goOnL
      rw [if_pos (show yes _ from trivial)]
      exact okP_lcGo I step us _ _ _ q2
theorem okP_lc {fi : Iv} {bd : Bd} {t : Te} {f : Ex} {ks : List Nat} {us : List U} {E E1 : En} {B B1 : Bx} {Q : R → En → Bx → Prop} (hi : fi E B = .ok (us, yes) E1 B1) (hn : noOwn E1 ks = true) (I : List U → List U → En → Bx → Prop) (h : I us [] (wipeE E1 ks) B1)
    (step : ∀ u us acc E B, I (u :: us) acc E B → ∃ E1, bd u E = some E1 ∧ OkP (t E1 B) fun b E2 B2 =>
      if b = true then OkP (f E2 B2) fun r E3 B3 => ∃ y E4, settle r E3 = some (y, E4) ∧ acc.length < 16777216 ∧ I us (acc ++ [y]) (wipeE E4 ks) B3 else I us acc (wipeE E2 ks) B2)
    (last : ∀ acc E B, I [] acc E B → Q (.fr (.lst acc)) (keepE E1 E ks) B) : OkP (mLc fi bd t f ks E B) Q := by
  unfold mLc
  rw [hi]
  simp only [O.bind_ok]
  rw [if_pos hn]
  exact OkP.bind ((okP_lcGo I step us [] _ _ h).mono fun acc E2 B2 q => last acc E2 B2 q)
end QB
/-! QbT: texts and lists turned about. -/
namespace QB
open PySem L2 PyProof.Rows
def revS (z : Str) : Str := ⟨z.cps.toList.reverse.toArray⟩
theorem picked_back (z : Str) : (Builtin.Str.strSliceIndices none none (-1) z.length).filterMap (z.cps[·]?) = z.cps.toList.reverse := by
  rw [picked_rev, filterMap_get, List.map_map]
  · apply List.ext_getElem?
    intro i
    by_cases h : i < z.length
    · have h2 : i < z.cps.toList.length := by rw [Array.length_toList]; exact h
      rw [List.getElem?_map, List.getElem?_range h, List.getElem?_reverse h2]
      have h3 : z.length - 1 - i < z.cps.size := by show z.cps.size - 1 - i < z.cps.size; have : i < z.cps.size := h; omega
      simp only [Option.map_some, Function.comp, Array.length_toList]
      rw [Array.getD_eq_getD_getElem?, Array.getElem?_toList]
      show some ((z.cps[z.cps.size - 1 - i]?).getD 0) = z.cps[z.cps.size - 1 - i]?
      have h4 : z.cps.size - 1 - i < z.cps.size := h3
      rw [Array.getElem?_eq_getElem h4]; rfl
    · have h2 : ¬ i < z.cps.toList.length := by rw [Array.length_toList]; exact h
      rw [List.getElem?_eq_none (by simp; omega), List.getElem?_eq_none (by rw [List.length_reverse]; exact Nat.le_of_not_lt h2)]
  · intro i hi
    obtain ⟨k, hk, rfl⟩ := List.mem_map.mp hi
    have hk' : k < z.length := List.mem_range.mp hk
    show z.length - 1 - k < z.length
    omega
section
variable {X : Cy} {e : Expr} {te : TE} {k : Nat} {p1 p2 p3 pos : Pos}
def tRevS (te : TE) : TE := fun σ H Q => te σ H fun x H1 => ∃ z, x = .str z ∧ z.length ≤ sizeLine ∧ Q (.str (revS z)) H1
theorem pe_revS (he : PE X e te) : PE X (.Subscript e (.Slice none none (some (.UnaryOp .USub (.Constant (.int 1) k p1) p2)) p3) pos) (tRevS te) := by
  refine ⟨fun pins s σ H Q I h => Subscript_ (thn (he.run pins s σ H _ I h) fun v s1 ⟨x, H1, I1, r1, z, ex, hz, q⟩ => ?_)⟩
  subst ex
  obtain ⟨t, rfl⟩ := r1
  have st : PO X (some (.UnaryOp .USub (.Constant (.int 1) k p1) p2)) (tPart (tUn (rU fun i => .int (-i)) (tC (.int 1)))) := po_some (pe_un un_neg pe_int)
  refine wpAny_Slice (thn (po_none.run pins s1 σ H1 (fun o K2 => o = none ∧ K2 = H1) I1 ⟨rfl, rfl⟩) fun vl s2 ⟨l, H2, I2, pl, el, e2⟩ => thn (po_none.run pins s2 σ H2 (fun o K3 => o = none ∧ K3 = H2) I2 ⟨rfl, rfl⟩) fun vu s3 ⟨u, H3, I3, pu, eu, e3⟩ =>
    thn (st.run pins s3 σ H3 (fun o K4 => o = some (-1) ∧ K4 = H3) I3 ⟨1, rfl, -1, rfl, rfl, rfl⟩) fun vs s4 ⟨o, H4, I4, ps, eo, e4⟩ => ?_)
  subst el e2 eu e3 eo e4
  have I5 : Inv X pins σ H4 { s4 with heap := s4.heap.push { cls := .type "slice", data := .fields #[vl, vu, vs] } } := I4.kept (t' := s4.toks) fun b ob y => Heap.get?_push_of_some _ y
  obtain ⟨l', rfl, el⟩ := IsPart.raw pl
  obtain ⟨u', rfl, eu⟩ := IsPart.raw pu
  obtain ⟨w', rfl, ew⟩ := IsPart.raw ps
  show wpAny (model X.prog X.w) X.A (subscriptTail e (.Slice none none (some (.UnaryOp .USub (.Constant (.int 1) k p1) p2)) p3) (.str z t) (.ref s4.heap.objs.size)) (EP X pins σ Q) X.xe { s4 with heap := s4.heap.push { cls := .type "slice", data := .fields #[partValue l', partValue u', partValue w'] } }
  refine tail_any (ops := [.str z t, .ref s4.heap.objs.size]) (typeIs_str _ _ _) (PySem.F.slot_str_getitem.lookup) ?_ (by with_unfolding_all rfl)
  refine wpAny_getItem_str_slice (l := l') (u := u') (st := w') ⟨_, Heap.get?_push_size _ rfl, rfl, rfl⟩ (by rw [ew]; rfl) ?_
  show Made.post (if ((w'.map (·.1)).getD 1 == 1 && (Builtin.Str.strSliceIndices (l'.map (·.1)) (u'.map (·.1)) ((w'.map (·.1)).getD 1) z.length).length == z.length) = true then Made.val (.str z t)
    else Made.str ⟨((Builtin.Str.strSliceIndices (l'.map (·.1)) (u'.map (·.1)) ((w'.map (·.1)).getD 1) z.length).filterMap (z.cps[·]?)).toArray⟩) (EP X pins σ Q) _
  rw [el, eu, ew]
  have c : ¬ (((some (-1 : Int)).getD 1 == 1 && (Builtin.Str.strSliceIndices none none ((some (-1 : Int)).getD 1) z.length).length == z.length) = true) := by
    have : ((some (-1 : Int)).getD 1 == 1) = false := rfl
    rw [this]; simp
  rw [if_neg c]
  show Made.post (Made.str ⟨((Builtin.Str.strSliceIndices none none (-1) z.length).filterMap (z.cps[·]?)).toArray⟩) (EP X pins σ Q) _
  rw [picked_back]
  refine ⟨?_, .str _, _, I5.tok _, ⟨_, rfl⟩, q⟩
  show (revS z).length ≤ sizeLine
  have : (revS z).length = z.length := by simp [revS, Str.length]
  rw [this]; exact hz
def gRevA : U → Option R
  | .lst us => some (.fr (.lst us.reverse))
  | .str z => if z.length ≤ 16777216 then some (.w (.str (revS z))) else none
  | _ => none
def mRevA (fa : Ex) : Ex := m1 gRevA fa
theorem peOr {a : Expr} {t1 t2 : TE} (h1 : PE X a t1) (h2 : PE X a t2) : PE X a (fun σ H Q => t1 σ H Q ∨ t2 σ H Q) :=
  ⟨fun pins s σ H Q I h => h.elim (h1.run pins s σ H Q I) (h2.run pins s σ H Q I)⟩
def gRevL1 : U → Option R
  | .lst us => some (.fr (.lst us.reverse))
  | _ => none
def gRevS1 : U → Option R
  | .str z => if z.length ≤ 16777216 then some (.w (.str (revS z))) else none
  | _ => none
theorem sndE_revA {a : Expr} {fa : Ex} (ha : SndE X a fa) : SndE X (.Subscript a (.Slice none none (some (.UnaryOp .USub (.Constant (.int 1) k p1) p2)) p3) pos) (mRevA fa) := by
  obtain ⟨ta, pa, ha⟩ := ha
  refine ⟨_, peOr (pe_revL pa) (pe_revS pa), fun F ρ E B σ H Q rl q => ?_⟩
  have hL := m1_ok (g := gRevL1) (r := fun v H Q => ∃ a xs, v = .ref a ∧ SqL X.K H a xs ∧ ∀ p, H p = none → Q (.ref p) (upd H p (.lst xs.reverse))) (fun F ρ E B σ H u1 v1 r3 Q rl t e q => by
    cases u1 <;> simp only [gRevL1, reduceCtorEq, Option.some.injEq] at e
    next us =>
      subst e
      obtain ⟨p, vs, rfl, h1, h2⟩ := t
      exact ⟨p, vs, rfl, .inl (.inl h1), fun p' hp => q _ _ (Aft.fresh rl hp h2.reverse)⟩) ha F ρ E B σ H Q rl
  have hS := m1_ok (g := gRevS1) (r := fun v H Q => ∃ z, v = .str z ∧ z.length ≤ sizeLine ∧ Q (.str (revS z)) H) (fun F ρ E B σ H u1 v1 r3 Q rl t e q => by
    cases u1 <;> simp only [gRevS1, reduceCtorEq] at e
    next z =>
      split at e
      · next hz =>
        cases e
        exact ⟨z, top_str t, by rw [sizeLine_eq]; exact hz, q H _ (Aft.val rl (by simp [Rep]))⟩
      · cases e) ha F ρ E B σ H Q rl
  simp only [mRevA, m1] at q
  simp only [m1] at hL hS
  cases h1 : fa E B with
  | bad => rw [h1] at q; exact q.elim
  | ex c E' B' => rw [h1] at q hL; exact .inl (hL q)
  | ok r E1 B1 =>
    rw [h1] at q hL hS
    simp only [O.bind_ok] at q hL hS
    cases h2 : view r E1 B1 with
    | none => rw [h2] at q; exact q.elim
    | some u =>
      rw [h2] at q hL hS
      cases u with
      | lst us => exact .inl (hL q)
      | str z => exact .inr (hS q)
      | _ => exact q.elim
end
end QB
/-! QbU: stepping through bodies: locked continuations, loops and comprehensions over encoded lists, == by trees. -/
namespace QB
open PySem L2
/-- what follows, not to be looked into -/
def Then (g : Sm) (Q : Fl → En → Bx → Prop) : Fl → En → Bx → Prop := fun fl E B => match fl with | .nx => OkP (g E B) Q | fl => Q fl E B
theorem then_nx {g : Sm} {Q : Fl → En → Bx → Prop} {E : En} {B : Bx} (h : OkP (g E B) Q) : Then g Q .nx E B := h
theorem then_rt {g : Sm} {Q : Fl → En → Bx → Prop} {E : En} {B : Bx} {u : U} (h : Q (.rt u) E B) : Then g Q (.rt u) E B := h
theorem then_bk {g : Sm} {Q : Fl → En → Bx → Prop} {E : En} {B : Bx} (h : Q .bk E B) : Then g Q .bk E B := h
theorem then_ct {g : Sm} {Q : Fl → En → Bx → Prop} {E : En} {B : Bx} (h : Q .ct E B) : Then g Q .ct E B := h
theorem okP_seqT {f g : Sm} {E : En} {B : Bx} {Q : Fl → En → Bx → Prop} (h : OkP (f E B) (Then g Q)) : OkP (sSeq f g E B) Q :=
  okP_seq (h.mono fun fl E1 B1 q => by cases fl <;> exact q)
theorem okP_lock {α : Type} {o : O α} {Q : α → En → Bx → Prop} (h : ∀ LQ : α → En → Bx → Prop, (∀ a E B, Q a E B → LQ a E B) → OkP o LQ) : OkP o Q := h Q fun _ _ _ q => q
theorem okP_seqL {f g : Sm} {E : En} {B : Bx} {Q : Fl → En → Bx → Prop} (h : ∀ LQ : Fl → En → Bx → Prop, (∀ a E B, Then g Q a E B → LQ a E B) → OkP (f E B) LQ) : OkP (sSeq f g E B) Q := okP_seqT (okP_lock h)
theorem okP_ift {c : Te} {f g : Sm} {E E1 : En} {B B1 : Bx} {Q : Fl → En → Bx → Prop} (hc : c E B = .ok true E1 B1) (h : OkP (f E1 B1) Q) : OkP (sIf c f g E B) Q := by
  unfold sIf; rw [hc]; exact h
theorem okP_iff {c : Te} {f g : Sm} {E E1 : En} {B B1 : Bx} {Q : Fl → En → Bx → Prop} (hc : c E B = .ok false E1 B1) (h : OkP (g E1 B1) Q) : OkP (sIf c f g E B) Q := by
  unfold sIf; rw [hc]; exact h
theorem okP_ift0 {c : Te} {f g : Sm} {E : En} {B : Bx} {Q : Fl → En → Bx → Prop} (hc : c E B = .ok true E B) (h : OkP (f E B) Q) : OkP (sIf c f g E B) Q := okP_ift hc h
theorem okP_iff0 {c : Te} {f g : Sm} {E : En} {B : Bx} {Q : Fl → En → Bx → Prop} (hc : c E B = .ok false E B) (h : OkP (g E B) Q) : OkP (sIf c f g E B) Q := okP_iff hc h
/-- a test whose outcome is open -/
theorem okP_ifb {c : Te} {f g : Sm} {E E1 : En} {B B1 : Bx} {Q : Fl → En → Bx → Prop} {b : Bool} (hc : c E B = .ok b E1 B1) (h : b = true → OkP (f E1 B1) Q) (h2 : b = false → OkP (g E1 B1) Q) : OkP (sIf c f g E B) Q := by
  cases b
  · exact okP_iff hc (h2 rfl)
  · exact okP_ift hc (h rfl)
/-! ### what a def answers -/
def RetIs (u : U) (B1 : Bx) : Fl → En → Bx → Prop := fun fl _ B' => match fl with | .rt v => v = u ∧ B' = B1 | .nx => U.non = u ∧ B' = B1 | _ => False
theorem ret_is {u : U} {B : Bx} {E : En} : RetIs u B (.rt u) E B := ⟨rfl, rfl⟩
theorem ret_is' {u v : U} {B B' : Bx} {E : En} (h : v = u) (h2 : B' = B) : RetIs u B (.rt v) E B' := ⟨h, h2⟩
theorem ret_nx {B : Bx} {E : En} : RetIs .non B .nx E B := ⟨rfl, rfl⟩
theorem ret_nx' {B B' : Bx} {E : En} (h : B' = B) : RetIs .non B .nx E B' := ⟨rfl, h⟩
theorem run_is {N n : Nat} {f : Sm} {us : List U} {B B1 : Bx} {u : U} (hl : us.length = n) (h : OkP (f (us.map .val ++ List.replicate (N - us.length) .un) B) (RetIs u B1)) : runBody N n f us B = .ok u B1 := by
  obtain ⟨v, B', e, rfl, rfl⟩ := run_ok (N := N) (n := n) (f := f) (us := us) (B := B) (Q := fun v B' => v = u ∧ B' = B1) hl (h.mono fun fl E B' q => by cases fl <;> exact q)
  exact e
def RetP (Q : U → Bx → Prop) : Fl → En → Bx → Prop := fun fl _ B' => match fl with | .rt v => Q v B' | .nx => Q .non B' | _ => False
theorem ret_p {Q : U → Bx → Prop} {u : U} {B : Bx} {E : En} (h : Q u B) : RetP Q (.rt u) E B := h
theorem ret_pn {Q : U → Bx → Prop} {B : Bx} {E : En} (h : Q .non B) : RetP Q .nx E B := h
theorem run_p {N n : Nat} {f : Sm} {us : List U} {B : Bx} {Q : U → Bx → Prop} (hl : us.length = n) (h : OkP (f (us.map .val ++ List.replicate (N - us.length) .un) B) (RetP Q)) : ∃ u B1, runBody N n f us B = .ok u B1 ∧ Q u B1 :=
  run_ok hl (h.mono fun fl E B' q => by cases fl <;> exact q)
/-! ### loops over encoded lists -/
def LoopP (Q : Fl → En → Bx → Prop) (J : En → Bx → Prop) : Fl → En → Bx → Prop := fun fl E B => match fl with | .bk => Q .nx E B | .rt v => Q (.rt v) E B | _ => J E B
theorem loop_nx {Q : Fl → En → Bx → Prop} {J : En → Bx → Prop} {E : En} {B : Bx} (h : J E B) : LoopP Q J .nx E B := h
theorem loop_ct {Q : Fl → En → Bx → Prop} {J : En → Bx → Prop} {E : En} {B : Bx} (h : J E B) : LoopP Q J .ct E B := h
theorem loop_bk {Q : Fl → En → Bx → Prop} {J : En → Bx → Prop} {E : En} {B : Bx} (h : Q .nx E B) : LoopP Q J .bk E B := h
theorem loop_rt {Q : Fl → En → Bx → Prop} {J : En → Bx → Prop} {E : En} {B : Bx} {u : U} (h : Q (.rt u) E B) : LoopP Q J (.rt u) E B := h
def BdIs (o : Option En) (P : En → Prop) : Prop := match o with | some E => P E | none => False
@[simp] theorem bdIs_some {E : En} {P : En → Prop} : BdIs (some E) P = P E := rfl
theorem BdIs.get {o : Option En} {P : En → Prop} (h : BdIs o P) : ∃ E, o = some E ∧ P E := by
  cases o with
  | none => exact h.elim
  | some E => exact ⟨E, rfl, h⟩
theorem BdIs_of {o : Option En} {E : En} {P : En → Prop} (h : o = some E) (p : P E) : BdIs o P := by rw [h]; exact p
/-- a slot that holds nothing of its own -/
def Free (s : Sl) : Prop := s = .un ∨ ∃ u, s = .val u
theorem free_un : Free .un := .inl rfl
theorem free_val {u : U} : Free (.val u) := .inr ⟨u, rfl⟩
theorem bdN_free {k : Nat} {u : U} {E : En} {s : Sl} (h : E[k]? = some s) (f : Free s) : bdN k u E = some (E.set k (.val u)) := by
  rcases f with rfl | ⟨_, rfl⟩ <;> simp [h]
theorem atI_lastQ {α : Type} (l : List α) (a : α) : atI (l ++ [a]) (-1) = some a := by
  unfold atI ixN
  have e : (l ++ [a]).length = l.length + 1 := by simp
  rw [if_neg (by omega), e, if_pos (by omega), show ((-1 + ((l.length + 1 : Nat) : Int))).toNat = l.length from by omega]
  simp
@[simp] theorem lt_1 {a b : Nat} : ([a] < [b]) ↔ a < b := by
  rw [List.cons_lt_cons_iff]
  constructor
  · rintro (h | ⟨_, h⟩)
    · exact h
    · exact absurd h (List.lt_irrefl _)
  · exact .inl
theorem fil_true {α : Type} (l : List α) : l.filter (fun _ => true) = l := List.filter_eq_self.mpr (fun _ _ => rfl)
theorem intsU_cons {lo : Int} {n : Nat} : intsU lo (n + 1) = .int lo :: intsU (lo + 1) n := by
  unfold intsU
  rw [List.range_succ_eq_map]
  simp only [List.map_cons, List.map_map, List.cons.injEq]
  refine ⟨by simp, ?_⟩
  apply List.map_congr_left
  intro a _
  simp [Function.comp]
  omega
/-- the places of a range as an encoded list -/
theorem intsU_map (n : Nat) : intsU 0 n = (List.range n).map fun (k : Nat) => U.int (k : Int) := by
  unfold intsU
  apply List.map_congr_left
  intro a _
  simp
theorem intsU_map' (lo n : Nat) : intsU (lo : Int) n = (List.range' lo n).map fun (k : Nat) => U.int (k : Int) := by
  unfold intsU
  rw [List.range'_eq_map_range, List.map_map]
  apply List.map_congr_left
  intro a _
  simp
def Body (b : Sm) (B : Bx) (Q : Fl → En → Bx → Prop) (E : En) : Prop := OkP (b E B) Q
theorem body_go {b : Sm} {B : Bx} {Q : Fl → En → Bx → Prop} {E : En} (h : OkP (b E B) Q) : Body b B Q E := h
theorem okP_forM {α : Type} (enc : α → U) {fi : Iv} {bd : Bd} {b : Sm} {xs : List α} {E E1 : En} {B B1 : Bx} {Q : Fl → En → Bx → Prop} (hi : fi E B = .ok (xs.map enc, yes) E1 B1) (I : List α → En → Bx → Prop) (h : I xs E1 B1)
    (step : ∀ x r E B, I (x :: r) E B → BdIs (bd (enc x) E) (Body b B (LoopP Q (I r)))) (last : ∀ E B, I [] E B → Q .nx E B) : OkP (sFor fi bd b E B) Q := by
  refine okP_for hi (fun us E B => ∃ r, us = r.map enc ∧ I r E B) ⟨xs, rfl, h⟩ ?_ ?_
  · rintro u us E B ⟨r, e, hI⟩
    cases r with
    | nil => cases e
    | cons x r =>
      rw [List.map_cons, List.cons.injEq] at e
      obtain ⟨rfl, rfl⟩ := e
      obtain ⟨E2, e2, q⟩ := (step x r E B hI).get
      refine ⟨E2, e2, OkP.mono q fun fl E3 B3 q3 => ?_⟩
      cases fl with
      | nx => exact ⟨r, rfl, q3⟩
      | ct => exact ⟨r, rfl, q3⟩
      | bk => exact q3
      | rt v => exact q3
  · rintro E B ⟨r, e, hI⟩
    cases r with
    | nil => exact last E B hI
    | cons x r => cases e
def WhileP (Q : Fl → En → Bx → Prop) (I : Nat → En → Bx → Prop) (n : Nat) : Fl → En → Bx → Prop := fun fl E B => match fl with | .bk => Q .nx E B | .rt v => Q (.rt v) E B | _ => ∃ m, m < n ∧ I m E B
theorem while_nx {Q : Fl → En → Bx → Prop} {I : Nat → En → Bx → Prop} {n : Nat} {E : En} {B : Bx} (m : Nat) (hm : m < n) (h : I m E B) : WhileP Q I n .nx E B := ⟨m, hm, h⟩
theorem while_ct {Q : Fl → En → Bx → Prop} {I : Nat → En → Bx → Prop} {n : Nat} {E : En} {B : Bx} (m : Nat) (hm : m < n) (h : I m E B) : WhileP Q I n .ct E B := ⟨m, hm, h⟩
theorem while_bk {Q : Fl → En → Bx → Prop} {I : Nat → En → Bx → Prop} {n : Nat} {E : En} {B : Bx} (h : Q .nx E B) : WhileP Q I n .bk E B := h
theorem while_rt {Q : Fl → En → Bx → Prop} {I : Nat → En → Bx → Prop} {n : Nat} {E : En} {B : Bx} {u : U} (h : Q (.rt u) E B) : WhileP Q I n (.rt u) E B := h
theorem okP_whileM {c : Te} {b : Sm} {Q : Fl → En → Bx → Prop} (I : Nat → En → Bx → Prop)
    (step : ∀ n E B, I n E B → ∃ k E1 B1, c E B = .ok k E1 B1 ∧ (k = true → OkP (b E1 B1) (WhileP Q I n)) ∧ (k = false → Q .nx E1 B1)) {E : En} {B : Bx} {n : Nat} (h : I n E B) (hn : n < whileFuel) : OkP (sWhile c b E B) Q := by
  refine okP_while I (fun n E B hI => ?_) h hn
  obtain ⟨k, E1, B1, e, h1, h2⟩ := step n E B hI
  rw [e, OkP_ok]
  cases k with
  | false => rw [if_neg (by decide)]; exact h2 rfl
  | true =>
    rw [if_pos rfl]
    refine (h1 rfl).mono fun fl E2 B2 q => ?_
    cases fl <;> exact q
/-! ### comprehensions over encoded lists -/
def Elt (f : Ex) (B : Bx) (u : U) (E : En) : Prop := match f E B with
  | .ok r E1 B1 => settle r E1 = some (u, E) ∧ B1 = B
  | _ => False
def Tst (t : Te) (B : Bx) (b : Bool) (E : En) : Prop := t E B = .ok b E B
theorem keepE_self : ∀ (ks : List Nat) (E : En), keepE E E ks = E
  | [], E => rfl
  | k :: ks, E => by
    rw [e_keep1, keepE_self ks E]
    cases h : E[k]? with
    | none => rfl
    | some s =>
      obtain ⟨hl, e⟩ := List.getElem?_eq_some_iff.mp h
      simp only
      rw [← e, List.set_getElem_self]
theorem mLc_map {α : Type} (enc : α → U) (p : α → Bool) (y : α → U) {fi : Iv} {bd : Bd} {t : Te} {f : Ex} {ks : List Nat} {chk : Bx → Prop} {xs : List α} {E E1 : En} {B B1 : Bx} (hi : fi E B = .ok (xs.map enc, chk) E1 B1) (hc : chk B1) (hn : noOwn E1 ks = true) (hw : wipeE E1 ks = E1) (hl : xs.length ≤ 16777216)
    (h : ∀ x ∈ xs, BdIs (bd (enc x) E1) fun E2 => wipeE E2 ks = E1 ∧ Tst t B1 (p x) E2 ∧ (p x = true → Elt f B1 (y x) E2)) :
    mLc fi bd t f ks E B = .ok (.fr (.lst ((xs.filter p).map y))) E1 B1 := by
  have key : ∀ (xs : List α) (acc : List U), acc.length + xs.length ≤ 16777216 → (∀ x ∈ xs, BdIs (bd (enc x) E1) fun E2 => wipeE E2 ks = E1 ∧ Tst t B1 (p x) E2 ∧ (p x = true → Elt f B1 (y x) E2)) →
      lcGo bd t f chk ks (xs.map enc) acc E1 B1 = .ok (acc ++ (xs.filter p).map y) E1 B1 := by
    intro xs
    induction xs with
    | nil => intro acc _ _; simp [lcGo]
    | cons x xs ih =>
      intro acc hl h
      obtain ⟨E2, e1, e2, e3, e4⟩ := (h x (List.mem_cons_self ..)).get
      have hl' : acc.length + (xs.length + 1) ≤ 16777216 := hl
      rw [List.map_cons]
      unfold lcGo
      rw [e1]
      unfold Tst at e3
      simp only [e3, O.bindN_ok]
      by_cases hp : p x = true
      · have e5 := e4 hp
        unfold Elt at e5
        rw [if_pos hp]
        cases h1 : f E2 B1 with
        | bad => rw [h1] at e5; exact e5.elim
        | ex _ _ _ => rw [h1] at e5; exact e5.elim
        | ok r E3 B3 =>
          rw [h1] at e5
          obtain ⟨e6, rfl⟩ := e5
          simp only [O.bindN_ok, e6]
          rw [if_pos (by omega), e2]
          unfold goOnL
          rw [if_pos hc, ih (acc ++ [y x]) (by simp; omega) (fun v hv => h v (List.mem_cons_of_mem _ hv))]
          simp [hp]
      · rw [if_neg hp, e2]
        unfold goOnL
        rw [if_pos hc, ih acc (by omega) (fun v hv => h v (List.mem_cons_of_mem _ hv))]
        simp [hp]
  unfold mLc
  rw [hi]
  simp only [O.bind_ok]
  rw [if_pos hn, hw, key xs [] (by simpa using hl) h, O.bind_ok, keepE_self]
  simp
def LcP (Q : R → En → Bx → Prop) : R → En → Bx → Prop := Q
/-- a comprehension whose elements are drawn: an invariant of what is gathered -/
theorem okP_lcM {α : Type} (enc : α → U) {fi : Iv} {bd : Bd} {f : Ex} {ks : List Nat} {xs : List α} {E E1 : En} {B B1 : Bx} {Q : R → En → Bx → Prop} (hi : fi E B = .ok (xs.map enc, yes) E1 B1) (hn : noOwn E1 ks = true) (hw : wipeE E1 ks = E1) (hl : xs.length ≤ 16777216) (I : List α → List U → Bx → Prop) (h : I xs [] B1)
    (step : ∀ x r acc B, I (x :: r) acc B → BdIs (bd (enc x) E1) fun E2 => wipeE E2 ks = E1 ∧ ∃ w u B3, f E2 B = .ok w E2 B3 ∧ settle w E2 = some (u, E2) ∧ I r (acc ++ [u]) B3)
    (last : ∀ acc B, I [] acc B → Q (.fr (.lst acc)) E1 B) : OkP (mLc fi bd mYes f ks E B) Q := by
  refine okP_lc hi hn (fun us acc E B => ∃ r, us = r.map enc ∧ acc.length + r.length ≤ 16777216 ∧ E = E1 ∧ I r acc B) ⟨xs, rfl, by simpa using hl, hw, h⟩ ?_ ?_
  · rintro u us acc E B ⟨r, e, hl, rfl, hI⟩
    cases r with
    | nil => cases e
    | cons x r =>
      rw [List.map_cons, List.cons.injEq] at e
      obtain ⟨rfl, rfl⟩ := e
      rw [List.length_cons] at hl
      obtain ⟨E2, e2, q1, w, u, B3, q2, q3, q4⟩ := (step x r acc B hI).get
      refine ⟨E2, e2, ?_⟩
      rw [e_mYes, OkP_ok, if_pos rfl, q2, OkP_ok]
      exact ⟨u, E2, q3, by omega, r, rfl, by simp; omega, q1, q4⟩
  · rintro acc E B ⟨r, e, hl, rfl, hI⟩
    cases r with
    | nil => rw [keepE_self]; exact last acc B hI
    | cons x r => cases e
/-! ### == by trees -/
mutual
def eqT : U → U → Bool
  | .non, .non => true
  | .bl a, .bl b => a == b
  | .bl a, .int j => (if a then 1 else 0) == j
  | .int i, .bl b => i == (if b then 1 else 0)
  | .int i, .int j => i == j
  | .str x, .str y => x == y
  | .lst xs, .lst ys => eqTs xs ys
  | .tup xs, .tup ys => eqTs xs ys
  | _, _ => false
def eqTs : List U → List U → Bool
  | [], [] => true
  | x :: xs, y :: ys => eqT x y && eqTs xs ys
  | _, _ => false
end
def okS (x : Str) : Bool := PyData.canLay0 (.str x)
/-- a tree without dicts and boxes at most n deep -/
def Flt : Nat → U → Prop
  | 0, _ => False
  | n + 1, u => match u with
    | .non | .bl _ | .int _ => True
    | .str x => okS x = true
    | .lst us => ∀ v ∈ us, Flt n v
    | .tup us => ∀ v ∈ us, Flt n v
    | _ => False
theorem flt_toD : ∀ (n : Nat) (u : U), Flt n u → ∃ d, toD u = some d ∧ d.canLay0 = true ∧ d.depth ≤ n
  | 0, _, h => h.elim
  | n + 1, u, h => by
    have many : ∀ us : List U, (∀ v ∈ us, Flt n v) → ∃ ds, toDs us = some ds ∧ PyData.canLayAll0 ds = true ∧ PyData.depthAll ds ≤ n := by
      intro us
      induction us with
      | nil => intro _; exact ⟨[], rfl, rfl, by simp [PyData.depthAll]⟩
      | cons v us ih =>
        intro h
        obtain ⟨ds, e1, e2, e3⟩ := ih fun w hw => h w (List.mem_cons_of_mem _ hw)
        obtain ⟨d, f1, f2, f3⟩ := flt_toD n v (h v (List.mem_cons_self ..))
        refine ⟨d :: ds, by simp [toDs, f1, e1], by simp [PyData.canLayAll0, f2, e2], by simp only [PyData.depthAll]; omega⟩
    cases u with
    | non => exact ⟨_, rfl, rfl, by simp [PyData.depth]⟩
    | bl b => exact ⟨_, rfl, rfl, by simp [PyData.depth]⟩
    | int i => exact ⟨_, rfl, rfl, by simp [PyData.depth]⟩
    | str x => exact ⟨_, rfl, h, by simp [PyData.depth]⟩
    | lst us => obtain ⟨ds, e1, e2, e3⟩ := many us h; exact ⟨.list ds, by simp [toD, e1], by simpa [PyData.canLay0] using e2, by simp only [PyData.depth]; omega⟩
    | tup us => obtain ⟨ds, e1, e2, e3⟩ := many us h; exact ⟨.tuple ds, by simp [toD, e1], by simpa [PyData.canLay0] using e2, by simp only [PyData.depth]; omega⟩
    | dct _ _ => exact h.elim
    | box _ => exact h.elim
    | scr _ => exact h.elim
theorem eqv_eqT : ∀ (n : Nat) (u v : U) (d e : PyData), Flt n u → toD u = some d → toD v = some e → (∀ ns, v ≠ .scr ns) → Flt n v → PyData.eqv d e = eqT u v
  | 0, _, _, _, _, h, _, _, _, _ => h.elim
  | n + 1, u, v, d, e, hu, hd, he, hs, hv => by
    have many : ∀ (us vs : List U) (ds es : List PyData), (∀ w ∈ us, Flt n w) → (∀ w ∈ vs, Flt n w) → toDs us = some ds → toDs vs = some es → PyData.eqvAll ds es = eqTs us vs := by
      intro us
      induction us with
      | nil =>
        intro vs ds es _ _ h1 h2
        cases h1
        cases vs with
        | nil => cases h2; rfl
        | cons v vs =>
          simp only [toDs] at h2
          split at h2
          · cases h2; rfl
          · cases h2
      | cons u us ih =>
        intro vs ds es hu hv h1 h2
        simp only [toDs] at h1
        split at h1
        · next d ds' a1 a2 =>
          cases h1
          cases vs with
          | nil => cases h2; rfl
          | cons v vs =>
            simp only [toDs] at h2
            split at h2
            · next e es' b1 b2 =>
              cases h2
              rw [PyData.eqvAll, eqTs, ih vs ds' es' (fun w hw => hu w (List.mem_cons_of_mem _ hw)) (fun w hw => hv w (List.mem_cons_of_mem _ hw)) a2 b2,
                eqv_eqT n u v d e (hu u (List.mem_cons_self ..)) a1 b1 (fun ns z => by
                  have := hv v (List.mem_cons_self ..)
                  rw [z] at this
                  cases n <;> exact this) (hv v (List.mem_cons_self ..))]
            · cases h2
        · cases h1
    cases u with
    | dct _ _ => exact hu.elim
    | box _ => exact hu.elim
    | scr _ => exact hu.elim
    | lst us =>
      simp only [toD, Option.map_eq_some_iff] at hd
      obtain ⟨ds, a1, rfl⟩ := hd
      cases v with
      | lst vs =>
        simp only [toD, Option.map_eq_some_iff] at he
        obtain ⟨es, b1, rfl⟩ := he
        rw [PyData.eqv, eqT]
        exact many us vs ds es hu hv a1 b1
      | tup vs => simp only [toD, Option.map_eq_some_iff] at he; obtain ⟨es, b1, rfl⟩ := he; rfl
      | non => cases he; rfl
      | bl _ => cases he; rfl
      | int _ => cases he; rfl
      | str _ => cases he; rfl
      | dct _ _ => exact hv.elim
      | box _ => exact hv.elim
      | scr ns => exact absurd rfl (hs ns)
    | tup us =>
      simp only [toD, Option.map_eq_some_iff] at hd
      obtain ⟨ds, a1, rfl⟩ := hd
      cases v with
      | tup vs =>
        simp only [toD, Option.map_eq_some_iff] at he
        obtain ⟨es, b1, rfl⟩ := he
        rw [PyData.eqv, eqT]
        exact many us vs ds es hu hv a1 b1
      | lst vs => simp only [toD, Option.map_eq_some_iff] at he; obtain ⟨es, b1, rfl⟩ := he; rfl
      | non => cases he; rfl
      | bl _ => cases he; rfl
      | int _ => cases he; rfl
      | str _ => cases he; rfl
      | dct _ _ => exact hv.elim
      | box _ => exact hv.elim
      | scr ns => exact absurd rfl (hs ns)
    | non => cases hd; cases v <;> first | (exact absurd rfl (hs _)) | exact hv.elim | (cases he; rfl) | (simp only [toD, Option.map_eq_some_iff] at he; obtain ⟨es, b1, rfl⟩ := he; rfl)
    | bl _ => cases hd; cases v <;> first | (exact absurd rfl (hs _)) | exact hv.elim | (cases he; rfl) | (simp only [toD, Option.map_eq_some_iff] at he; obtain ⟨es, b1, rfl⟩ := he; rfl)
    | int _ => cases hd; cases v <;> first | (exact absurd rfl (hs _)) | exact hv.elim | (cases he; rfl) | (simp only [toD, Option.map_eq_some_iff] at he; obtain ⟨es, b1, rfl⟩ := he; rfl)
    | str _ => cases hd; cases v <;> first | (exact absurd rfl (hs _)) | exact hv.elim | (cases he; rfl) | (simp only [toD, Option.map_eq_some_iff] at he; obtain ⟨es, b1, rfl⟩ := he; rfl)
theorem flt_scr {n : Nat} {v : U} (h : Flt n v) : ∀ ns, v ≠ .scr ns := fun ns z => by subst z; cases n <;> exact h
theorem eqU_flt {n : Nat} {u v : U} (hn : n ≤ 64) (hu : Flt n u) (hv : Flt n v) : eqU u v = some (eqT u v) := by
  obtain ⟨d, a1, a2, a3⟩ := flt_toD n u hu
  obtain ⟨e, b1, b2, b3⟩ := flt_toD n v hv
  have k := eqv_eqT n u v d e hu a1 b1 (flt_scr hv) hv
  have main : (match toD u, toD v with
    | some d, some e => if (SeqAt.shaped d && SeqAt.shaped e) = true then some (PyData.eqv d e) else none
    | _, _ => none) = some (eqT u v) := by
    rw [a1, b1]
    have s1 : SeqAt.shaped d = true := by unfold SeqAt.shaped; rw [a2, decide_eq_true (show d.depth ≤ 64 by omega)]; rfl
    have s2 : SeqAt.shaped e = true := by unfold SeqAt.shaped; rw [b2, decide_eq_true (show e.depth ≤ 64 by omega)]; rfl
    simp only [s1, s2, Bool.and_self, if_true, k]
  cases u <;> cases v <;> first | exact main | (simp [eqT, eqU])
end QB
/-! QbV: small facts: cells at the end of the row, last places, texts and lists as encoded lists. -/
namespace QB
open PySem L2
@[simp] theorem app_getQ {B0 : Bx} {c : Cell} {r : Bx} : (B0 ++ c :: r)[B0.length]? = some c := by simp
@[simp] theorem app_setQ {B0 : Bx} {c d : Cell} {r : Bx} : (B0 ++ c :: r).set B0.length d = B0 ++ d :: r := by simp [List.set_append]
theorem atI_neg1 {α : Type} (l : List α) : atI l (-1) = l.getLast? := by
  rcases List.eq_nil_or_concat l with rfl | ⟨m, a, rfl⟩
  · rfl
  · rw [List.concat_eq_append, atI_lastQ]; simp
def chr (c : Nat) : U := .str (ofC [c])
def nat (k : Nat) : U := .int (k : Int)
theorem nat_eq (k : Nat) : nat k = .int (k : Int) := rfl
theorem chr_eq (c : Nat) : chr c = .str (ofC [c]) := rfl
@[simp] theorem vu_chr {c : Nat} {B : Bx} : viewU (chr c) B = some (chr c) := rfl
@[simp] theorem vu_nat {c : Nat} {B : Bx} : viewU (nat c) B = some (nat c) := rfl
theorem enumQ {α : Type} (enc : α → U) (es : List α) (i : Nat) : ((es.map enc).mapIdx fun k u => U.tup [.int ((k + i : Nat) : Int), u]) = (es.zipIdx i).map fun p => U.tup [.int (p.2 : Int), enc p.1] := by
  induction es generalizing i with
  | nil => rfl
  | cons e es ih =>
    rw [List.map_cons, List.mapIdx_cons, List.zipIdx_cons, List.map_cons, ← ih (i + 1)]
    simp [Function.comp_def, Nat.add_assoc, Nat.add_comm 1 i]
theorem enumQ0 {α : Type} (enc : α → U) (es : List α) : ((es.map enc).mapIdx fun k u => U.tup [.int ((k : Nat) : Int), u]) = (es.zipIdx 0).map fun p => U.tup [.int (p.2 : Int), enc p.1] := enumQ enc es 0
theorem textU_map (l : List Nat) (j : Nat) : textU (ofC l) (j : Int) = (l.zipIdx j).map fun p => U.tup [.int (p.2 : Int), chr p.1] := by
  rw [← enumQ chr l j]
  unfold textU
  simp only [ofC_cps, mk1_ofC]
  apply List.ext_getElem?
  intro i
  simp only [List.getElem?_mapIdx, List.getElem?_map]
  cases l[i]? with
  | none => rfl
  | some c => simp [chr]; omega
@[simp] theorem e_mEnumT {fs gs : Ar} {E : En} {B : Bx} : mEnumT fs gs E B = (fs E B).bind fun us E1 B1 => (gs E1 B1).bind fun ws E2 B2 =>
  match us, ws with
  | [.str z], [.int j] => if I62 j = true then .ok (textU z j, yes) E2 B2 else .bad
  | _, _ => .bad := (rfl)
end QB
/-! QbW: the same of two trees, and a tree of one's own, as many laws write them. -/
namespace QB
open PySem L2
noncomputable def sameB (g : Fn) : Sm := sSeq (sIf (mTru (m1 (gIsiT ["list", "tuple"]) (mVar 1))) (sSeq (sIf (mOr (toT (m2 gNe (m1 (gIsi "list") (mVar 1)) (m1 (gIsi "list") (mVar 0)))) (toT (m2 gNe (m1 (gIsi "tuple") (mVar 1)) (m1 (gIsi "tuple") (mVar 0))))) (sRet (mC (.bl false))) (sNext)) (sRet (mAndV (m2 gEq (m1 gLen (mVar 0)) (m1 gLen (mVar 1))) (m1 gAll (mLc (mRange1 (mCons (m1 gLen (mVar 1)) (mNil))) (bdN 2) (mYes) (mCall g (mCons (m2 gIx (mVar 0) (mVar 2)) (mCons (m2 gIx (mVar 1) (mVar 2)) (mNil)))) [2]))))) (sNext)) (sSeq (sIf (toT (m2 (gIs false) (mVar 1) (mC .non))) (sRet (m2 (gIs false) (mVar 0) (mC .non))) (sNext)) (sSeq (sIf (mTru (m1 (gIsi "int") (mVar 1))) (sRet (mAndV (m1 (gIsi "int") (mVar 0)) (mAndV (m2 gEq (m1 (gIsi "bool") (mVar 0)) (m1 (gIsi "bool") (mVar 1))) (m2 gEq (mVar 0) (mVar 1))))) (sNext)) (sRet (mAndV (m1 (gIsi "str") (mVar 0)) (m2 gEq (mVar 0) (mVar 1))))))
noncomputable def sameF : Nat → Fn
  | 0 => fun _ _ => .bad
  | n + 1 => runBody 3 2 (sameB (sameF n))
noncomputable def ownB (g : Fn) : Sm := sSeq (sIf (mTru (m1 (gIsi "list") (mVar 0))) (sRet (mLc (mItV (mVar 0)) (bdN 1) (mYes) (mCall g (mCons (mVar 1) (mNil))) [1])) (sNext)) (sSeq (sIf (mTru (m1 (gIsi "tuple") (mVar 0))) (sRet (m1 gTupleOf (mLc (mItV (mVar 0)) (bdN 1) (mYes) (mCall g (mCons (mVar 1) (mNil))) [1]))) (sNext)) (sRet (mVar 0)))
noncomputable def ownF : Nat → Fn
  | 0 => fun _ _ => .bad
  | n + 1 => runBody 2 1 (ownB (ownF n))
/-- a tree at most n deep, without dicts and shared cells, of texts that may be laid -/
def Wf : Nat → U → Prop
  | 0, _ => False
  | n + 1, u => match u with
    | .non | .bl _ | .int _ => True
    | .str x => okS x = true
    | .lst us => us.length ≤ 20000 ∧ ∀ v ∈ us, Wf n v
    | .tup us => us.length ≤ 20000 ∧ ∀ v ∈ us, Wf n v
    | _ => False
theorem Wf.flt : ∀ {n : Nat} {u : U}, Wf n u → Flt n u
  | 0, _, h => h.elim
  | n + 1, u, h => by
    cases u with
    | non => trivial
    | bl _ => trivial
    | int _ => trivial
    | str _ => exact h
    | lst us => exact fun v hv => (h.2 v hv).flt
    | tup us => exact fun v hv => (h.2 v hv).flt
    | dct _ _ => exact h.elim
    | box _ => exact h.elim
    | scr _ => exact h.elim
theorem Wf.mono : ∀ {n m : Nat} {u : U}, Wf n u → n ≤ m → Wf m u
  | 0, _, _, h, _ => h.elim
  | n + 1, 0, _, _, hm => by omega
  | n + 1, m + 1, u, h, hm => by
    cases u with
    | non => trivial
    | bl _ => trivial
    | int _ => trivial
    | str _ => exact h
    | lst us => exact ⟨h.1, fun v hv => (h.2 v hv).mono (by omega)⟩
    | tup us => exact ⟨h.1, fun v hv => (h.2 v hv).mono (by omega)⟩
    | dct _ _ => exact h.elim
    | box _ => exact h.elim
    | scr _ => exact h.elim
def SmT (B : Bx) : Nat → U → U → Prop
  | 0, _, _ => False
  | n + 1, u, d => (∃ x, u = .str x ∧ d = .str x) ∨ (∃ b, u = .bl b ∧ d = .bl b) ∨ (∃ i, u = .int i ∧ d = .int i) ∨ (u = .non ∧ d = .non) ∨
    (∃ us ds, viewU u B = some (.lst us) ∧ d = .lst ds ∧ us.length = ds.length ∧ us.length ≤ 20000 ∧ ∀ (i : Nat) (a b : U), us[i]? = some a → ds[i]? = some b → SmT B n a b) ∨
    (∃ us ds, u = .tup us ∧ d = .tup ds ∧ us.length = ds.length ∧ us.length ≤ 20000 ∧ ∀ (i : Nat) (a b : U), us[i]? = some a → ds[i]? = some b → SmT B n a b)
theorem Wf.sm {B : Bx} : ∀ {n : Nat} {u : U}, Wf n u → SmT B n u u
  | 0, _, h => h.elim
  | n + 1, u, h => by
    cases u with
    | non => exact .inr (.inr (.inr (.inl ⟨rfl, rfl⟩)))
    | bl b => exact .inr (.inl ⟨b, rfl, rfl⟩)
    | int i => exact .inr (.inr (.inl ⟨i, rfl, rfl⟩))
    | str x => exact .inl ⟨x, rfl, rfl⟩
    | lst us => exact .inr (.inr (.inr (.inr (.inl ⟨us, us, rfl, rfl, rfl, h.1, fun i a b ha hb => by
        rw [ha] at hb; cases hb; exact (h.2 a (List.mem_of_getElem? ha)).sm⟩))))
    | tup us => exact .inr (.inr (.inr (.inr (.inr ⟨us, us, rfl, rfl, rfl, h.1, fun i a b ha hb => by
        rw [ha] at hb; cases hb; exact (h.2 a (List.mem_of_getElem? ha)).sm⟩))))
    | dct _ _ => exact h.elim
    | box _ => exact h.elim
    | scr _ => exact h.elim
theorem Wf.smB {B : Bx} {n j : Nat} {us : List U} (h : Wf n (.lst us)) (hj : B[j]? = some (.lst us)) : SmT B n (.box j) (.lst us) := by
  cases n with
  | zero => exact h.elim
  | succ n =>
    exact .inr (.inr (.inr (.inr (.inl ⟨us, us, by simp [hj], rfl, rfl, h.1, fun i a b ha hb => by
        rw [ha] at hb; cases hb; exact (h.2 a (List.mem_of_getElem? ha)).sm⟩))))
theorem same_lc {g : Fn} {B : Bx} {u d : U} {us ds : List U} (hu : viewU u B = some (.lst us) ∨ u = .tup us) (hd : d = .lst ds ∨ d = .tup ds) (hl : us.length = ds.length) (hl2 : us.length ≤ 20000)
    (h : ∀ (i : Nat) (a b : U), us[i]? = some a → ds[i]? = some b → g [a, b] B = .ok (.bl true) B) :
    (mLc (mRange1 (mCons (m1 gLen (mVar 1)) (mNil))) (bdN 2) (mYes) (mCall g (mCons (m2 gIx (mVar 0) (mVar 2)) (mCons (m2 gIx (mVar 1) (mVar 2)) (mNil)))) [2]) [.val u, .val d, .un] B = .ok (.fr (.lst ((List.range ds.length).map fun _ => .bl true))) [.val u, .val d, .un] B := by
  have i1 : I62 (ds.length : Int) = true := i62 (by omega) (by omega)
  have lc := mLc_map nat (fun _ => true) (fun _ => .bl true) (fi := mRange1 (mCons (m1 gLen (mVar 1)) (mNil))) (bd := bdN 2) (t := mYes) (f := mCall g (mCons (m2 gIx (mVar 0) (mVar 2)) (mCons (m2 gIx (mVar 1) (mVar 2)) (mNil)))) (ks := [2]) (xs := List.range ds.length) (E := [.val u, .val d, .un]) (B := B) (E1 := [.val u, .val d, .un]) (B1 := B) (chk := yes)
    (by rcases hd with rfl | rfl <;> simp [i1, intsU_map, nat]) trivial (by simp) (by simp) (by simp; omega) (fun k hk => by
      have hk := List.mem_range.mp hk
      have hk' : k < us.length := by omega
      have g1 := h k us[k] ds[k] (List.getElem?_eq_getElem _) (List.getElem?_eq_getElem _)
      rcases hu with hu | rfl <;> rcases hd with rfl | rfl <;> simp [Tst, Elt, nat, *])
  rw [fil_true] at lc
  exact lc
theorem same_an (n : Nat) : gAll (.lst ((List.range n).map fun _ => .bl true)) = some (.w (.bl true)) := by
  have an := e_all' (l := List.range n) (p := fun _ => true)
  rw [an]; simp
theorem same_ok {B : Bx} : ∀ (n : Nat) (u d : U), SmT B n u d → sameF n [u, d] B = .ok (.bl true) B
  | 0, _, _, h => h.elim
  | n + 1, u, d, h => by
    rcases h with ⟨x, rfl, rfl⟩ | ⟨b, rfl, rfl⟩ | ⟨i, rfl, rfl⟩ | ⟨rfl, rfl⟩ | ⟨us, ds, h1, rfl, h3, h4, h5⟩ | ⟨us, ds, rfl, rfl, h3, h4, h5⟩
    · simp [sameF, runBody, sameB]
    · simp [sameF, runBody, sameB]
    · simp [sameF, runBody, sameB]
    · simp [sameF, runBody, sameB]
    · have lc := same_lc (g := sameF n) (.inl h1) (.inl rfl) h3 h4 fun i a b ha hb => same_ok n a b (h5 i a b ha hb)
      have e3 : ((us.length : Int) == (ds.length : Int)) = true := by rw [beq_iff_eq]; omega
      simp only [sameF]
      refine run_is rfl ?_
      simp only [sameB, List.map_cons, List.map_nil, List.length_cons, List.length_nil, Nat.reduceAdd, Nat.reduceSub, List.replicate_succ, List.replicate_zero, List.cons_append, List.nil_append, Nat.zero_add, Nat.sub_self, List.append_nil]
      refine okP_seqT ?_
      refine okP_ift0 (by simp; done) ?_
      refine okP_seqT ?_
      refine okP_lock fun LQ hLQ => ?_
      simp [h1]
      refine hLQ _ _ _ (then_nx ?_)
      refine okP_lock fun LQ hLQ => ?_
      simp [h1, e3, lc, same_an]
      first | exact hLQ _ _ _ (then_rt ret_is) | exact hLQ _ _ _ (then_rt (ret_is' (by simp [h1, e3, lc, same_an]) rfl))
    · have lc := same_lc (g := sameF n) (B := B) (.inr rfl) (.inr rfl) h3 h4 fun i a b ha hb => same_ok n a b (h5 i a b ha hb)
      have e3 : ((us.length : Int) == (ds.length : Int)) = true := by rw [beq_iff_eq]; omega
      simp only [sameF]
      refine run_is rfl ?_
      simp only [sameB, List.map_cons, List.map_nil, List.length_cons, List.length_nil, Nat.reduceAdd, Nat.reduceSub, List.replicate_succ, List.replicate_zero, List.cons_append, List.nil_append, Nat.zero_add, Nat.sub_self, List.append_nil]
      refine okP_seqT ?_
      refine okP_ift0 (by simp; done) ?_
      refine okP_seqT ?_
      refine okP_lock fun LQ hLQ => ?_
      simp
      refine hLQ _ _ _ (then_nx ?_)
      refine okP_lock fun LQ hLQ => ?_
      simp [e3, lc, same_an]
      first | exact hLQ _ _ _ (then_rt ret_is) | exact hLQ _ _ _ (then_rt (ret_is' (by simp [e3, lc, same_an]) rfl))
theorem own_ok {B : Bx} : ∀ (n : Nat) (u : U), Wf n u → ownF n [u] B = .ok u B
  | 0, _, h => h.elim
  | n + 1, u, h => by
    have lc : ∀ (u : U) (us : List U), us.length ≤ 20000 → (∀ v ∈ us, Wf n v) → itemsOf u B = some (us, yes) → (mLc (mItV (mVar 0)) (bdN 1) (mYes) (mCall (ownF n) (mCons (mVar 1) (mNil))) [1]) [.val u, .un] B = .ok (.fr (.lst us)) [.val u, .un] B := by
      intro u us hl hw hi
      have lc := mLc_map id (fun _ => true) id (fi := mItV (mVar 0)) (bd := bdN 1) (t := mYes) (f := mCall (ownF n) (mCons (mVar 1) (mNil))) (ks := [1]) (xs := us) (E := [.val u, .un]) (B := B) (E1 := [.val u, .un]) (B1 := B) (chk := yes)
        (by simp [hi]) trivial (by simp) (by simp) (by omega) (fun v hv => by simp [Tst, Elt, own_ok n v (hw v hv)])
      rw [fil_true, List.map_id] at lc
      exact lc
    cases u with
    | non => simp [ownF, runBody, ownB]
    | bl b => simp [ownF, runBody, ownB]
    | int i => simp [ownF, runBody, ownB]
    | str x => simp [ownF, runBody, ownB]
    | lst us =>
      have lc := lc (.lst us) us h.1 h.2 rfl
      simp only [ownF]
      refine run_is rfl ?_
      simp only [ownB, List.map_cons, List.map_nil, List.length_cons, List.length_nil, Nat.reduceAdd, Nat.reduceSub, List.replicate_succ, List.replicate_zero, List.cons_append, List.nil_append, Nat.zero_add, Nat.sub_self, List.append_nil]
      refine okP_seqT ?_
      refine okP_ift0 (by simp; done) ?_
      refine okP_lock fun LQ hLQ => ?_
      simp [lc]
      first | exact hLQ _ _ _ (then_rt ret_is) | exact hLQ _ _ _ (then_rt (ret_is' (by simp [lc]) rfl))
    | tup us =>
      have lc := lc (.tup us) us h.1 h.2 rfl
      simp only [ownF]
      refine run_is rfl ?_
      simp only [ownB, List.map_cons, List.map_nil, List.length_cons, List.length_nil, Nat.reduceAdd, Nat.reduceSub, List.replicate_succ, List.replicate_zero, List.cons_append, List.nil_append, Nat.zero_add, Nat.sub_self, List.append_nil]
      refine okP_seqL fun LQ hLQ => ?_
      simp
      refine hLQ _ _ _ (then_nx ?_)
      clear hLQ LQ
      refine okP_seqT ?_
      refine okP_ift0 (by simp; done) ?_
      refine okP_lock fun LQ hLQ => ?_
      rw [e_sRet, e_m1, lc]
      simp
      exact hLQ _ _ _ (then_rt ret_is)
    | dct _ _ => exact h.elim
    | box _ => exact h.elim
    | scr _ => exact h.elim
theorem eqU_nil {n : Nat} {us : List U} (hn : n + 1 ≤ 64) (h : Flt (n + 1) (.lst us)) : eqU (.lst us) (.lst []) = some us.isEmpty := by
  have f0 : Flt (n + 1) (.lst []) := fun v hv => by cases hv
  rw [eqU_flt hn h f0]
  cases us <;> rfl
theorem flt_nats {n : Nat} {ks : List Nat} : Flt (n + 2) (.lst (ks.map nat)) := by
  intro v hv
  obtain ⟨_, _, rfl⟩ := List.mem_map.mp hv
  trivial
theorem wf_nats {n : Nat} {ks : List Nat} (h : ks.length ≤ 20000) : Wf (n + 2) (.lst (ks.map nat)) := by
  refine ⟨by simpa using h, fun v hv => ?_⟩
  obtain ⟨_, _, rfl⟩ := List.mem_map.mp hv
  trivial
end QB
/-! QbX: sorted of lists, of a list's set. -/
namespace QB
open PySem L2 PyProof.Rows
section
variable {P : Program} {w : World} {A : Around} {E : Value → Shared → Prop} {s : Shared}
/-- an empty set as the class makes it -/
abbrev eSet (w : World) : Obj := { cls := .type "set", dict := none, data := .set #[] 0 (.fresh 0 0 (!w.params.followText "set-order")) }
abbrev inits (w : World) (s : Shared) (ns : List Int) : Value → Shared → Prop := fun r z => r = .none ∧ ∃ g tk c, z = { s with heap := g, toks := tk } ∧ SetR w g s.heap.objs.size (fun j => decide (j ∈ ns)) c ∧ c ≤ ns.length ∧ ∀ b o, s.heap.get? b = some o → g.get? b = some o
set_option maxHeartbeats 3200000 in
theorem setOfList {l : Addr} {its : Array Value} (ns : List Int) {Q : Value → Shared → Prop} (hh : A.handled = none) (hl : s.heap.IsList l its) (hit : IntsAre its.toList ns) (hb : ns.length + 1 < scanBound)
    (q : ∀ (g : Heap) (tk c : Nat), SetR w g s.heap.objs.size (fun j => decide (j ∈ ns)) c → c ≤ ns.length → (∀ b o, s.heap.get? b = some o → g.get? b = some o) → Q (.ref s.heap.objs.size) { s with heap := g, toks := tk }) :
    wpAny (model P w) A (call (.type "set") [.ref l]) Q E s := by
  have len : its.size = ns.length := by have z := IntsAre.length hit; rwa [Array.length_toList] at z
  obtain ⟨c, tl, o1⟩ := F.called_set.mro
  have o2 := F.called_set.made
  have o3 := F.called_set.sub
  refine wpAny_call (codeAny_of_tree (show wpAny _ _ (callAny (.type "set") _) _ _ _ from ?_))
  refine wpAny_pure ⟨Code.quiet_builtin _ (by decide +kernel), codeAny_builtin F.entry_type_call ?_⟩
  rw [Around.under_plain (weight_type_call_type "set" [.ref l] []) rfl]
  have o4 := F.called_set.notType
  have o5 := F.called_set.canCreate
  have o6 := F.typeCall_set_1 (.ref l)
  repeat (any_goals (first | assumption | wp_step))
  refine codeAny_mono (code_set_led1 (.ref l) (E := E) (Q₁ := fun v z => v = .ref s.heap.objs.size ∧ z = { s with heap := s.heap.push (eSet w) }) ⟨rfl, rfl⟩) fun r z hr => ?_
  cases r with
  | error e => exact hr
  | ok fl =>
    cases fl with
    | ret v =>
      obtain ⟨rfl, rfl⟩ := hr
      have at0 : (s.heap.push (eSet w)).get? s.heap.objs.size = some (eSet w) := Heap.get?_push_size _ rfl
      have ty : Shared.TypeIs { s with heap := s.heap.push (eSet w) } (.ref s.heap.objs.size) "set" := ⟨_, at0, rfl⟩
      have o7 := F.called_set.init.lookup
      have o8 := F.called_set.init.bind (.ref s.heap.objs.size)
      repeat (any_goals (first | assumption | wp_step))
      refine codeAny_mono (codeAny_call_builtin (R := wants (inits w s ns) E) F.called_set.init.plain F.entry_set_init (check_set_init_1 ty ?_)) fun r2 z2 hr2 => ?_
      · obtain ⟨⟨oc, od, ot, os⟩, hol, hcl, nl, hdl⟩ := hl
        simp only at hcl hdl
        subst hcl; subst hdl
        have hol2 : (s.heap.push (eSet w)).get? l = some { cls := .type "list", dict := od, data := .seq its nl, slots := os } := Heap.get?_push_of_some _ hol
        have p1 := F.sub_list_set
        have p2 := F.sub_list_frozenset
        have p3 : (Value.type "list" == Value.type "dict") = false := by decide
        have isl : (s.heap.push (eSet w)).IsList l its := ⟨_, hol2, rfl, nl, rfl⟩
        unfold Builtin.«set.__init__» noKeywords Builtin.Frozenset.updateFrom
        generalize hPI : pyIter = PI
        wp_walk
        subst hPI
        refine wpAny_pyIter_list isl (wpAny_bind (wpAny_runValue ?_))
        have lS : l < s.heap.objs.size := Heap.lt_size hol
        have hd3 : A.in1.in1.in1.handled = none := by simp [hh]
        have ne1 : l ≠ (s.heap.push (eSet w)).objs.size := by rw [Heap.size_push]; exact Nat.ne_of_lt (Nat.lt_succ_of_lt lS)
        have ne2 : s.heap.objs.size ∉ [(s.heap.push (eSet w)).objs.size, l] := by
          rw [Heap.size_push]
          intro z
          rcases List.mem_cons.mp z with z | z
          · exact Nat.ne_of_lt (Nat.lt_succ_self _) z
          · exact Nat.ne_of_gt lS (List.mem_singleton.mp z)
        have vals : ∀ (i : Nat) (v : Value), its[i]? = some v → ∃ k t, ns[i]? = some k ∧ v = .int k t := fun i v hv => by
          have hi : i < ns.length := by rw [← len]; exact (Array.getElem?_eq_some_iff.mp hv).1
          obtain ⟨t, e⟩ := IntsAre.int_at hit i v (by rwa [Array.getElem?_toList])
          exact ⟨ns[i], t, List.getElem?_eq_getElem hi, by rw [e, List.getD_eq_getElem?_getD, List.getElem?_eq_getElem hi]; rfl⟩
        refine set_update_ints ((Walks.list hd3 _ l ne1 its).toS) s.heap.objs.size ne2 ns len hb vals (its.size - 0) 0 _ (by omega) (Nat.zero_le _) ⟨⟨_, Heap.get?_push_size _ rfl, rfl, rfl⟩, isl.push _⟩ ?a0 ?a1
        case a0 => exact ⟨0, Nat.le_refl 0, setR_new_at (Heap.get?_push_of_some _ at0)⟩
        case a1 =>
          rintro ⟨g, g2, d2, tk, os2⟩ c2 mv le R
          have e1 : g2 = s.gens := mv.gens
          have e2 : d2 = s.drawn := mv.drawn
          have e3 : os2 = s.os := mv.os
          subst e1; subst e2; subst e3
          show wpAny _ _ _ _ _ _
          refine wpAny_pure (show wpAny _ _ (ret Value.none) _ _ _ from ?_)
          rw [len] at le
          refine wpAny_pure ⟨rfl, g, tk, c2, rfl, R, le, fun b o e => mv.heap b o ?_ (Heap.get?_push_of_some _ (Heap.get?_push_of_some _ e))⟩
          have b0 : b < s.heap.objs.size := Heap.lt_size e
          intro z
          rcases List.mem_cons.mp z with z | z
          · exact Nat.ne_of_lt b0 z
          · have y := List.mem_singleton.mp z
            rw [Heap.size_push] at y
            exact Nat.ne_of_lt (Nat.lt_succ_of_lt b0) y
      · cases r2 with
        | error e => exact hr2
        | ok fl2 =>
          cases fl2 with
          | ret r =>
            obtain ⟨rfl, g, tk, c2, rfl, R, le, kp⟩ := hr2
            repeat (any_goals (first | assumption | wp_step))
            exact q _ _ _ R le kp
          | _ => exact hr2.elim
    | _ => exact hr.elim
end
theorem nodup_le {α : Type} [DecidableEq α] : ∀ {l r : List α}, l.Nodup → (∀ x ∈ l, x ∈ r) → l.length ≤ r.length
  | [], r, _, _ => by simp
  | a :: l, r, hn, h => by
    obtain ⟨h1, h2⟩ := List.nodup_cons.mp hn
    have ha := h a (List.mem_cons_self ..)
    have := nodup_le (l := l) (r := r.erase a) h2 fun x hx => by
      have : x ≠ a := fun z => h1 (z ▸ hx)
      exact (List.mem_erase_of_ne this).mpr (h x (List.mem_cons_of_mem _ hx))
    have e := List.length_erase_of_mem ha
    have hp : 0 < r.length := List.length_pos_of_mem ha
    rw [List.length_cons]
    omega
section
variable {X : Cy}
def rSetOfL (K : PySem.W.Frag) (w : World) : List V → Hp → VK → Prop := fun vs H Q => ∃ (l : Addr) (ns r : List Int), vs = [.ref l] ∧ SqL K H l (ns.map V.int) ∧ ns.length ≤ 4000 ∧ (∀ k ∈ ns, k ∈ r) ∧ ∀ p c, H p = none → c ≤ r.length → Q (.ref p) (upd H p (SetO w p (fun j => decide (j ∈ ns)) c))
theorem cr_setOfL (hc : X.calm = true) : CallR X (.type "set") (rSetOfL X.K X.w) := by
  intro pins s σ H vs us Q I r h
  obtain ⟨l, ns, rr, rfl, hs, hl, hsub, q⟩ := h
  obtain ⟨its, rv, hlist, _⟩ := I.list hs
  rw [Vals.ref1 r]
  have hi := rv.ints
  refine setOfList ns (I.ok.hd hc) hlist.isList hi (by unfold scanBound; omega) fun g tk c R hcl kp => ?_
  have hn : H s.heap.objs.size = none := I.hok.fresh (Nat.le_refl _)
  have le : c ≤ rr.length := by
    obtain ⟨o, es, ep, t, h1, h2, h3, h4, h5, h6, h7, h8, h9, h10⟩ := R
    have : (es.toList.map keyOf).length ≤ rr.length := nodup_le h5 fun x hx => hsub x (by simpa using (h6 x).mpr hx)
    rw [List.length_map, Array.length_toList, h9] at this
    exact this
  have J := I.laid (t' := tk) (fun b o e => kp b o e) (Nat.le_refl _) (setO_new R)
  exact ⟨.ref s.heap.objs.size, _, J, rfl, q _ c hn le⟩
end
end QB
/-! QbY: sorted(..) of ints, sorted(set(..)) of ints. -/
namespace QB
open PySem L2 PyProof.Rows
def sortI (ns : List Int) : List Int := ns.mergeSort fun a b => decide (a ≤ b)
theorem perm_sorted_eq : ∀ {l r : List Int}, l.Perm r → l.Pairwise (· ≤ ·) → r.Pairwise (· ≤ ·) → l = r
  | [], r, p, _, _ => by rw [List.nil_perm.mp p]
  | a :: l, [], p, _, _ => by have := p.length_eq; simp at this
  | a :: l, b :: r, p, h1, h2 => by
    have a1 : b ≤ a := by
      rcases List.mem_cons.mp (p.mem_iff.mp (List.mem_cons_self ..)) with h | h
      · omega
      · exact (List.pairwise_cons.mp h2).1 a h
    have a2 : a ≤ b := by
      rcases List.mem_cons.mp (p.mem_iff.mpr (List.mem_cons_self ..)) with h | h
      · omega
      · exact (List.pairwise_cons.mp h1).1 b h
    have e : a = b := by omega
    subst e
    rw [perm_sorted_eq ((List.perm_cons a).mp p) (List.pairwise_cons.mp h1).2 (List.pairwise_cons.mp h2).2]
theorem sortI_perm (ns : List Int) : (sortI ns).Perm ns := List.mergeSort_perm ..
theorem sortI_sorted (ns : List Int) : (sortI ns).Pairwise (· ≤ ·) := by
  have := List.pairwise_mergeSort (le := fun a b : Int => decide (a ≤ b)) (fun a b c h1 h2 => by simp at *; omega) (fun a b => by simp; omega) ns
  exact this.imp fun h => by simpa using h
theorem sortI_eq {ns r : List Int} (p : r.Perm ns) (h : r.Pairwise (· ≤ ·)) : sortI ns = r := perm_sorted_eq ((sortI_perm ns).trans p.symm) (sortI_sorted ns) h
/-- the members, each once, ascending -/
def sortSI (ns : List Int) : List Int := sortI ns.eraseDups
theorem mem_sortSI {ns : List Int} {k : Int} : k ∈ sortSI ns ↔ k ∈ ns := by
  rw [sortSI, (sortI_perm _).mem_iff, List.mem_eraseDups]
theorem lt_nodup {l : List Int} (h : l.Pairwise (· < ·)) : l.Nodup := h.imp fun h => by omega
theorem nodup_dups : ∀ (n : Nat) (l : List Int), l.length ≤ n → l.eraseDups.Nodup
  | 0, l, h => by
    have : l = [] := List.eq_nil_of_length_eq_zero (by omega)
    subst this; simp
  | n + 1, [], _ => by simp
  | n + 1, a :: l, h => by
    rw [List.eraseDups_cons, List.nodup_cons]
    refine ⟨fun z => ?_, nodup_dups n _ ?_⟩
    · rw [List.mem_eraseDups, List.mem_filter] at z
      simp at z
    · have := List.length_filter_le (fun b => !b == a) l
      rw [List.length_cons] at h
      omega
theorem sortSI_eq {ns r : List Int} (h : r.Pairwise (· < ·)) (m : ∀ k, k ∈ r ↔ k ∈ ns) : sortSI ns = r := by
  refine sortI_eq ?_ (h.imp fun h => by omega)
  refine (List.perm_ext_iff_of_nodup (lt_nodup h) (nodup_dups _ _ (Nat.le_refl _))).mpr fun k => ?_
  rw [m, List.mem_eraseDups]
def intsOf : List U → Option (List Int)
  | [] => some []
  | .int i :: us => (intsOf us).map (i :: ·)
  | _ => none
theorem intsOf_reps {K : PySem.W.Frag} {H : Hp} {Lv : AS} {ρ : List Addr} : ∀ {us : List U} {vs : List V} {ns : List Int}, Reps K H Lv ρ us vs → intsOf us = some ns → vs = ns.map V.int
  | [], vs, ns, h, e => by simp only [Reps] at h; subst h; simp only [intsOf, Option.some.injEq] at e; subst e; rfl
  | u :: us, vs, ns, h, e => by
    simp only [Reps] at h
    obtain ⟨v, r, rfl, h1, h2⟩ := h
    cases u <;> simp only [intsOf] at e <;> try (cases e; done)
    next i =>
      obtain ⟨ms, e1, rfl⟩ := Option.map_eq_some_iff.mp e
      simp only [Rep] at h1
      subst h1
      rw [intsOf_reps h2 e1]
      rfl
theorem intsOf_map : ∀ ns : List Int, intsOf (ns.map .int) = some ns
  | [] => rfl
  | n :: ns => by rw [List.map_cons, intsOf, intsOf_map ns]; rfl
theorem reps_ints {K : PySem.W.Frag} {H : Hp} {Lv : AS} {ρ : List Addr} : ∀ ns : List Int, Reps K H Lv ρ (ns.map .int) (ns.map V.int)
  | [] => Reps.nil
  | n :: ns => Reps.cons (by simp [Rep]) (reps_ints ns)
def gSortedI : U → Option R
  | .lst us => (intsOf us).map fun ns => .fr (.lst ((sortI ns).map .int))
  | .scr ns => some (.fr (.lst ((sortI ns).map .int)))
  | _ => none
def gSortSet : U → Option R
  | .lst us => (intsOf us).bind fun ns => if ns.length ≤ 4000 ∧ (sortSI ns).length < 64 then some (.fr (.lst ((sortSI ns).map .int))) else none
  | _ => none
section
variable {X : Cy} {a : Expr} {fa : Ex} {p p2 q pos : Pos}
theorem call1_sortedI : Call1S X (.builtin "sorted") gSortedI := by
  refine ⟨_, cr_sortedI, fun F ρ E B σ H u1 v1 r3 Q rl t e q => ?_⟩
  have fin : ∀ (ns ns' : List Int) (p : Addr), ns'.Perm ns → ns'.Pairwise (· ≤ ·) → H p = none → r3 = .fr (.lst ((sortI ns).map .int)) → Q (.ref p) (upd H p (.lst (ns'.map V.int))) := by
    intro ns ns' p h1 h2 h3 e3
    rw [← sortI_eq h1 h2]
    subst e3
    exact q _ _ (Aft.fresh rl h3 (reps_ints _))
  unfold gSortedI at e
  split at e
  · next us =>
    obtain ⟨ns, e1, rfl⟩ := Option.map_eq_some_iff.mp e
    obtain ⟨p, vs, rfl, h1, h2⟩ := t
    have := intsOf_reps h2 e1
    subst this
    exact ⟨p, ns, rfl, .inl (.inl h1), fun ns' p' h3 h4 h5 => fin ns ns' p' h3 h4 h5 rfl⟩
  · next ns =>
    cases e
    simp only [Top, Rep] at t
    obtain ⟨p, rfl, h1⟩ := t
    exact ⟨p, ns, rfl, sqL_of h1, fun ns' p' h3 h4 h5 => fin ns ns' p' h3 h4 h5 rfl⟩
  · cases e
theorem sndE_sortSet (hc : X.calm = true) (hm : X.mg "sorted" = none) (hm2 : X.mg "set" = none) (ha : SndE X a fa) (hg : Gl X "sorted" := by rfl) (hg2 : Gl X "set" := by rfl)
    (hs : starEach [a] X.env = (false, eval a X.env) :: starEach [] X.env := by rfl) (hs2 : starEach [.Call (.Name "set" p2) [a] [] q] X.env = (false, eval (.Call (.Name "set" p2) [a] [] q) X.env) :: starEach [] X.env := by rfl) :
    SndE X (.Call (.Name "sorted" p) [.Call (.Name "set" p2) [a] [] q] [] pos) (m1 gSortSet fa) := by
  obtain ⟨ta, pa, ha⟩ := ha
  have p1 := pe_callTy (pos := q) (p := p2) (cr_setOfL hc) hg2 hm2 (by decide +kernel) (pa_cons pa pa_nil hs) (by decide) (by decide) hs
  refine ⟨_, pe_callB (cr_sortedSet hc) hg hm (by decide +kernel) (pa_cons p1 pa_nil hs2) (by decide) (by decide) hs2, m1_ok (r := fun v H Q => rSetOfL X.K X.w [v] H fun u H1 => rSortedSet X.w [u] H1 Q) (fun F ρ E B σ H u1 v1 r3 Q rl t e q => ?_) ha⟩
  unfold gSortSet at e
  split at e
  · next us =>
    obtain ⟨ns, e1, e2⟩ := Option.bind_eq_some_iff.mp e
    split at e2
    · next hl =>
      cases e2
      obtain ⟨p, vs, rfl, h1, h2⟩ := t
      have := intsOf_reps h2 e1
      subst this
      refine ⟨p, ns, sortSI ns, rfl, .inl (.inl h1), hl.1, fun k hk => mem_sortSI.mpr hk, fun p' c hp hcl => ?_⟩
      refine ⟨p', _, c, rfl, upd_same, by omega, fun ns' p2 h3 h4 h5 h6 => ?_⟩
      have e : sortSI ns = ns' := sortSI_eq h3 fun k => by rw [h4]; simp
      rw [← e]
      have g : ∀ q o, H q = some o → (upd H p' (SetO X.w p' (fun j => decide (j ∈ ns)) c)) q = some o := fun q o h => by rw [upd_ne (ne_of_none h hp)]; exact h
      have rl2 := rl.growH g
      have A := Aft.fresh rl2 h6 (reps_ints (sortSI ns))
      refine q _ _ ⟨A.px, A.rel, (grow_stp rl g).trans A.stp, A.le, A.rep⟩
    · cases e2
  · cases e
end
end QB
/-! QbZ: comprehensions without a test; small words. -/
namespace QB
open PySem L2
theorem mLc_all {α : Type} (enc : α → U) (y : α → U) {fi : Iv} {bd : Bd} {f : Ex} {ks : List Nat} {xs : List α} {E : En} {B : Bx} (hi : fi E B = .ok (xs.map enc, yes) E B) (hn : noOwn E ks = true) (hw : wipeE E ks = E) (hl : xs.length ≤ 16777216)
    (h : ∀ x ∈ xs, BdIs (bd (enc x) E) fun E2 => wipeE E2 ks = E ∧ Elt f B (y x) E2) :
    mLc fi bd mYes f ks E B = .ok (.fr (.lst (xs.map y))) E B := by
  have e := mLc_map (t := mYes) enc (fun _ => true) y hi (chk := yes) trivial hn hw hl fun x hx => by
    obtain ⟨E2, e1, e2, e3⟩ := (h x hx).get
    exact BdIs_of e1 ⟨e2, by simp [Tst], fun _ => e3⟩
  rwa [fil_true] at e
theorem mLc_if {α : Type} (enc : α → U) (p : α → Bool) (y : α → U) {fi : Iv} {bd : Bd} {t : Te} {f : Ex} {ks : List Nat} {xs : List α} {E : En} {B : Bx} (hi : fi E B = .ok (xs.map enc, yes) E B) (hn : noOwn E ks = true) (hw : wipeE E ks = E) (hl : xs.length ≤ 16777216)
    (h : ∀ x ∈ xs, BdIs (bd (enc x) E) fun E2 => wipeE E2 ks = E ∧ Tst t B (p x) E2 ∧ (p x = true → Elt f B (y x) E2)) :
    mLc fi bd t f ks E B = .ok (.fr (.lst ((xs.filter p).map y))) E B := mLc_map enc p y hi (chk := yes) trivial hn hw hl h
/-- .. that walks a shared list -/
theorem mLc_ifB {α : Type} (enc : α → U) (p : α → Bool) (y : α → U) {chk : Bx → Prop} {fi : Iv} {bd : Bd} {t : Te} {f : Ex} {ks : List Nat} {xs : List α} {E : En} {B : Bx} (hi : fi E B = .ok (xs.map enc, chk) E B) (hc : chk B) (hn : noOwn E ks = true) (hw : wipeE E ks = E) (hl : xs.length ≤ 16777216)
    (h : ∀ x ∈ xs, BdIs (bd (enc x) E) fun E2 => wipeE E2 ks = E ∧ Tst t B (p x) E2 ∧ (p x = true → Elt f B (y x) E2)) :
    mLc fi bd t f ks E B = .ok (.fr (.lst ((xs.filter p).map y))) E B := mLc_map enc p y hi hc hn hw hl h
/-- a comprehension whose elements are drawn, as an answer -/
theorem lcDraw {α β : Type} (enc : α → U) (out : β → U) {fi : Iv} {bd : Bd} {f : Ex} {ks : List Nat} {xs : List α} {E : En} {B B1 : Bx} (hi : fi E B1 = .ok (xs.map enc, yes) E B) (hn : noOwn E ks = true) (hw : wipeE E ks = E) (hl : xs.length ≤ 16777216) (I : Nat → List β → Bx → Prop) (h : I xs.length [] B)
    (step : ∀ x (n : Nat) (acc : List β) (B : Bx), x ∈ xs → acc.length + (n + 1) = xs.length → I (n + 1) acc B → BdIs (bd (enc x) E) fun E2 => wipeE E2 ks = E ∧ ∃ (w : R) (v : β) (B3 : Bx), f E2 B = .ok w E2 B3 ∧ settle w E2 = some (out v, E2) ∧ I n (acc ++ [v]) B3) :
    ∃ (vs : List β) (B' : Bx), mLc fi bd mYes f ks E B1 = .ok (.fr (.lst (vs.map out))) E B' ∧ vs.length = xs.length ∧ I 0 vs B' := by
  have k := okP_lcM enc (bd := bd) (f := f) (ks := ks) (Q := fun r E' B' => ∃ vs : List β, r = .fr (.lst (vs.map out)) ∧ E' = E ∧ vs.length = xs.length ∧ I 0 vs B') hi hn hw hl
    (fun q acc B' => ∃ vs : List β, acc = vs.map out ∧ vs.length + q.length = xs.length ∧ (∀ x ∈ q, x ∈ xs) ∧ I q.length vs B') ⟨[], rfl, by simp, fun _ h => h, h⟩
    (by
      rintro x q acc B' ⟨vs, rfl, hl, hm, hI⟩
      rw [List.length_cons] at hl hI
      obtain ⟨E2, e1, e2, w, v, B3, e3, e4, e5⟩ := (step x q.length vs B' (hm x (List.mem_cons_self ..)) hl hI).get
      exact BdIs_of e1 ⟨e2, w, out v, B3, e3, e4, vs ++ [v], by simp, by simp; omega, fun y hy => hm y (List.mem_cons_of_mem _ hy), e5⟩)
    (by rintro acc B' ⟨vs, rfl, hl, hm, hI⟩; exact ⟨vs, rfl, rfl, by simpa using hl, hI⟩)
  obtain ⟨r, E', B', e, vs, rfl, rfl, h1, h2⟩ := k.get
  exact ⟨vs, B', e, h1, h2⟩
@[simp] theorem pick10 {a b : U} : pick [1, 0] [a, b] = [b, a] := rfl
@[simp] theorem revS_ofC (l : List Nat) : revS (ofC l) = ofC l.reverse := rfl
theorem G_any {α : Type} {l : List α} {p : α → Bool} : gAny (.lst (l.map fun x => .bl (p x))) = some (.w (.bl (l.any p))) := e_any'
theorem in_nats {n : Nat} {ks : List Nat} : inU (.int (n : Int)) (.lst (ks.map nat)) = some (decide (n ∈ ks)) := by
  have e : ∀ ks : List Nat, flatUs (ks.map nat) = some (ks.map fun (k : Nat) => V.int (k : Int)) := by
    intro ks
    induction ks with
    | nil => rfl
    | cons k ks ih => rw [List.map_cons, flatUs, ih]; rfl
  have e2 : inU (.int (n : Int)) (.lst (ks.map nat)) = (match flatU (.int (n : Int)), (seqOf (.lst (ks.map nat))).bind flatUs with
    | some v, some vs => some (inV v vs)
    | _, _ => none) := rfl
  rw [e2]
  simp only [seqOf, Option.bind_some, e, flatU]
  congr 1
  rw [inV, List.any_map, Bool.eq_iff_iff, List.any_eq_true, decide_eq_true_iff]
  constructor
  · rintro ⟨k, hk, h⟩
    have : (k : Int) = (n : Int) := by simpa [eqV, Function.comp] using h
    have : k = n := by omega
    subst this; exact hk
  · intro h
    exact ⟨n, h, by simp [eqV, Function.comp]⟩
theorem atI_mem {α : Type} {l : List α} {v : Int} (h0 : 0 ≤ v) (h1 : v < l.length) : ∃ c ∈ l, atI l v = some c := by
  have hk : v.toNat < l.length := by omega
  refine ⟨l[v.toNat], List.getElem_mem hk, ?_⟩
  rw [atI_of (k := v.toNat) (by omega), List.getElem?_eq_getElem hk]
theorem join_chr {ls : List Nat} (h : ls.length ≤ 16777216) : gJoin (.str (ofC [])) [.lst (ls.map chr)] = some (.w (.str (ofC ls))) := by
  have e := e_join (ls := ls.map fun c => [c])
  have e2 : ∀ ls : List Nat, (ls.map fun c => [c]).flatten = ls := by
    intro ls
    induction ls with
    | nil => rfl
    | cons c ls ih => rw [List.map_cons, List.flatten_cons, ih]; rfl
  rw [e2, if_pos h] at e
  rw [← e, List.map_map]
  rfl
theorem cutS_len (l : List Nat) (lo hi : Option Int) : ∃ l', cutS (ofC l) lo hi = ofC l' ∧ l'.length ≤ l.length := by
  refine ⟨codes (cutS (ofC l) lo hi), by simp, ?_⟩
  simp [codes, cutS]
  omega
@[simp] theorem app_get1 {B0 : Bx} {c d : Cell} {r : Bx} : (B0 ++ c :: d :: r)[B0.length + 1]? = some d := by
  rw [List.getElem?_append_right (by omega), show B0.length + 1 - B0.length = 1 from by omega]; rfl
@[simp] theorem app_set1 {B0 : Bx} {c d x : Cell} {r : Bx} : (B0 ++ c :: d :: r).set (B0.length + 1) x = B0 ++ c :: x :: r := by simp [List.set_append]
theorem app_get2 {B0 : Bx} {c d x : Cell} {r : Bx} : (B0 ++ c :: d :: x :: r)[B0.length + 2]? = some x := by
  rw [List.getElem?_append_right (by omega), show B0.length + 2 - B0.length = 2 from by omega]; rfl
theorem app_get3 {B0 : Bx} {c d x y : Cell} {r : Bx} : (B0 ++ c :: d :: x :: y :: r)[B0.length + 3]? = some y := by
  rw [List.getElem?_append_right (by omega), show B0.length + 3 - B0.length = 3 from by omega]; rfl
theorem coinQ {B : Bx} {i n : Nat} (many : Int) (h : Purse B i (n + 1)) (h0 : 0 < many := by decide) (hm : many ≤ 1000000000 := by decide) :
    ∃ (v : Int) (B1 : Bx), 0 ≤ v ∧ v < many ∧ coinF [.box i, .int many] B = .ok (.int v) B1 ∧ Purse B1 i n := by
  obtain ⟨v, c, h1, h2, h3, h4⟩ := coin_ok h h0 hm
  exact ⟨v, _, h1, h2, h3, h4⟩
end QB
/-! QbZb: comprehensions whose names stand in use outside. -/
namespace QB
open PySem L2
theorem mLc_gen {α : Type} (enc : α → U) (p : α → Bool) (y : α → U) {fi : Iv} {bd : Bd} {t : Te} {f : Ex} {ks : List Nat} {chk : Bx → Prop} {xs : List α} {E E1 : En} {B B1 : Bx} (hi : fi E B = .ok (xs.map enc, chk) E1 B1) (hc : chk B1) (hn : noOwn E1 ks = true) (hl : xs.length ≤ 16777216)
    (h : ∀ x ∈ xs, BdIs (bd (enc x) (wipeE E1 ks)) fun E2 => wipeE E2 ks = wipeE E1 ks ∧ Tst t B1 (p x) E2 ∧ (p x = true → Elt f B1 (y x) E2)) :
    mLc fi bd t f ks E B = .ok (.fr (.lst ((xs.filter p).map y))) (keepE E1 (wipeE E1 ks) ks) B1 := by
  have key : ∀ (xs : List α) (acc : List U), acc.length + xs.length ≤ 16777216 → (∀ x ∈ xs, BdIs (bd (enc x) (wipeE E1 ks)) fun E2 => wipeE E2 ks = wipeE E1 ks ∧ Tst t B1 (p x) E2 ∧ (p x = true → Elt f B1 (y x) E2)) →
      lcGo bd t f chk ks (xs.map enc) acc (wipeE E1 ks) B1 = .ok (acc ++ (xs.filter p).map y) (wipeE E1 ks) B1 := by
    intro xs
    induction xs with
    | nil => intro acc _ _; simp [lcGo]
    | cons x xs ih =>
      intro acc hl h
      obtain ⟨E2, e1, e2, e3, e4⟩ := (h x (List.mem_cons_self ..)).get
      have hl' : acc.length + (xs.length + 1) ≤ 16777216 := hl
      rw [List.map_cons]
      unfold lcGo
      rw [e1]
      unfold Tst at e3
      simp only [e3, O.bindN_ok]
      by_cases hp : p x = true
      · have e5 := e4 hp
        unfold Elt at e5
        rw [if_pos hp]
        cases h1 : f E2 B1 with
        | bad => rw [h1] at e5; exact e5.elim
        | ex _ _ _ => rw [h1] at e5; exact e5.elim
        | ok r E3 B3 =>
          rw [h1] at e5
          obtain ⟨e6, rfl⟩ := e5
          simp only [O.bindN_ok, e6]
          rw [if_pos (by omega), e2]
          unfold goOnL
          rw [if_pos hc, ih (acc ++ [y x]) (by simp; omega) (fun v hv => h v (List.mem_cons_of_mem _ hv))]
          simp [hp]
      · rw [if_neg hp, e2]
        unfold goOnL
        rw [if_pos hc, ih acc (by omega) (fun v hv => h v (List.mem_cons_of_mem _ hv))]
        simp [hp]
  unfold mLc
  rw [hi]
  simp only [O.bind_ok]
  rw [if_pos hn, key xs [] (by simpa using hl) h, O.bind_ok]
  simp
theorem mLc_ifW {α : Type} (enc : α → U) (p : α → Bool) (y : α → U) {fi : Iv} {bd : Bd} {t : Te} {f : Ex} {ks : List Nat} {xs : List α} {E : En} {B : Bx} (hi : fi E B = .ok (xs.map enc, yes) E B) (hn : noOwn E ks = true) (hk : keepE E (wipeE E ks) ks = E) (hl : xs.length ≤ 16777216)
    (h : ∀ x ∈ xs, BdIs (bd (enc x) (wipeE E ks)) fun E2 => wipeE E2 ks = wipeE E ks ∧ Tst t B (p x) E2 ∧ (p x = true → Elt f B (y x) E2)) :
    mLc fi bd t f ks E B = .ok (.fr (.lst ((xs.filter p).map y))) E B := by
  have e := mLc_gen enc p y (chk := yes) hi trivial hn hl h
  rw [hk] at e
  exact e
theorem mLc_allW {α : Type} (enc : α → U) (y : α → U) {fi : Iv} {bd : Bd} {f : Ex} {ks : List Nat} {xs : List α} {E : En} {B : Bx} (hi : fi E B = .ok (xs.map enc, yes) E B) (hn : noOwn E ks = true) (hk : keepE E (wipeE E ks) ks = E) (hl : xs.length ≤ 16777216)
    (h : ∀ x ∈ xs, BdIs (bd (enc x) (wipeE E ks)) fun E2 => wipeE E2 ks = wipeE E ks ∧ Elt f B (y x) E2) :
    mLc fi bd mYes f ks E B = .ok (.fr (.lst (xs.map y))) E B := by
  have e := mLc_ifW (t := mYes) enc (fun _ => true) y hi hn hk hl fun x hx => by
    obtain ⟨E2, e1, e2, e3⟩ := (h x hx).get
    exact BdIs_of e1 ⟨e2, by simp [Tst], fun _ => e3⟩
  rwa [fil_true] at e
end QB
/-! QcA: match statements over texts. -/
namespace QB
open PySem L2
/-- the texts of a case: none is the last resort -/
abbrev Kc := Option (List Str)
def ValsIs : List Pattern → List Str → Prop
  | [], [] => True
  | p :: ps, k :: ks => (∃ j q pos, p = Pattern.MatchValue (.Constant (.str k) j q) pos) ∧ ValsIs ps ks
  | _, _ => False
def PatIs (p : Pattern) : Kc → Prop
  | none => ∃ pos, p = .MatchAs none none pos
  | some ks => (∃ k j q pos, p = .MatchValue (.Constant (.str k) j q) pos ∧ ks = [k]) ∨
      (∃ ps pos, p = .MatchOr ps pos ∧ ValsIs ps ks)
section
variable {X : Cy} {pins : List (Addr × Obj)} {σ : L2.St} {H : Hp} {s : Shared}
theorem matchVal {k z : Str} {j : Nat} {q pos : Pos} {u : Value} {Q : Option (List (Str × Value)) → Shared → Prop} (I : L2.Inv X pins σ H s) (r : RelV (.str z) u) (h : ∀ s', L2.Inv X pins σ H s' → Q (if z == k then some [] else none) s') :
    wpAny (model X.prog X.w) X.A (matchPattern (.MatchValue (.Constant (.str k) j q) pos) X.env u) Q X.xe s := by
  refine wpAny_matchPattern_Value ((pe_str (X := X)).run pins s σ H (fun v H1 => v = .str k ∧ H1 = H) I ⟨rfl, rfl⟩ |> fun w => thn w fun a s1 ⟨v, H1, I1, r1, e1, e2⟩ => ?_)
  subst e1 e2
  refine thn (op_eq (X := X) pins s1 σ H1 (.str z) (.str k) u a (fun v H2 => v = .bl (z == k) ∧ H2 = H1) I1 r r1 ⟨rfl, ?_, rfl⟩) fun c s2 ⟨v, H2, I2, r2, e3, e4⟩ => ?_
  · rw [dec_str]
  · subst e3 e4
    cases r2
    refine wpAny_truthy_bool ?_
    have := h _ I2
    cases hb : (z == k) <;> simp only [hb] at this ⊢ <;> exact this
theorem matchOrs {z : Str} {u : Value} (r : RelV (.str z) u) : ∀ (ps : List Pattern) (ks : List Str), ValsIs ps ks → ∀ {Q : Option (List (Str × Value)) → Shared → Prop} {s : Shared}, L2.Inv X pins σ H s →
    (∀ s', L2.Inv X pins σ H s' → Q (if ks.any (fun k => z == k) then some [] else none) s') → wpAny (model X.prog X.w) X.A (matchFirst ps X.env u) Q X.xe s
  | [], [], _, Q, s, I, h => wpAny_matchFirst_nil (h s I)
  | p :: ps, k :: ks, h2, Q, s, I, h => by
    obtain ⟨⟨j, q, pos, rfl⟩, hr⟩ := h2
    refine wpAny_matchFirst_cons (matchVal (Q := fun r s1 => match r with
          | some bs => Q (some bs) s1
          | none => wpAny (model X.prog X.w) X.A (matchFirst ps X.env u) Q X.xe s1) I r fun s1 I1 => ?_)
    cases hb : (z == k) with
    | true =>
      have := h s1 I1
      rw [List.any_cons, hb] at this
      exact this
    | false =>
      refine matchOrs r ps ks hr I1 fun s2 I2 => ?_
      have := h s2 I2
      rw [List.any_cons, hb, Bool.false_or] at this
      exact this
  | [], _ :: _, h2, Q, s, I, h => h2.elim
  | _ :: _, [], h2, Q, s, I, h => h2.elim
theorem names_vals : ∀ (ps : List Pattern) (ks : List Str), ValsIs ps ks → namesOfAll (ps.take 1) = []
  | [], _, _ => rfl
  | p :: ps, [], h => h.elim
  | p :: ps, k :: ks, h => by
    obtain ⟨⟨j, q, pos, rfl⟩, _⟩ := h
    rfl
def hitK (z : Str) : Kc → Bool
  | none => true
  | some ks => ks.any fun k => z == k
theorem matchPat {p : Pattern} {kc : Kc} (hp : PatIs p kc) {z : Str} {u : Value} {Q : Option (List (Str × Value)) → Shared → Prop} (I : L2.Inv X pins σ H s) (r : RelV (.str z) u) (h : ∀ s', L2.Inv X pins σ H s' → Q (if hitK z kc then some [] else none) s') :
    wpAny (model X.prog X.w) X.A (matchPattern p X.env u) Q X.xe s := by
  cases kc with
  | none =>
    obtain ⟨pos, rfl⟩ := hp
    exact wpAny_matchPattern_Capture (h s I)
  | some ks =>
    rcases hp with ⟨k, j, q, pos, rfl, rfl⟩ | ⟨ps, pos, rfl, h2⟩
    · refine matchVal I r fun s1 I1 => ?_
      have := h s1 I1
      simp only [hitK, List.any_cons, List.any_nil, Bool.or_false] at this
      exact this
    · refine wpAny_matchPattern_Or (matchOrs r ps ks h2 I fun s1 I1 => ?_)
      have := h s1 I1
      simp only [hitK] at this
      rw [names_vals ps ks h2]
      cases hb : ks.any (fun k => z == k) <;> simp only [hb] at this ⊢ <;> exact this
end
inductive PCs (X : Cy) : List MatchCase → List (Kc × TS) → Prop where
  | nil : PCs X [] []
  | cons {p : Pattern} {kc : Kc} {body : List Stmt} {t : TS} {r : List MatchCase} {l : List (Kc × TS)} : PatIs p kc → PSs X body t → PCs X r l → PCs X (⟨p, none, body⟩ :: r) ((kc, t) :: l)
def goK : List (Kc × TS) → Str → TS
  | [], _ => fun D σ H => D.nx σ H
  | (kc, t) :: l, z => fun D σ H => if hitK z kc = true then t D σ H else goK l z D σ H
section
variable {X : Cy} {pins : List (Addr × Obj)} {σ : L2.St} {H : Hp} {s : Shared} {pos : Pos}
theorem cases_run {z : Str} {u : Value} (r : RelV (.str z) u) : ∀ {cs : List MatchCase} {l : List (Kc × TS)}, PCs X cs l → ∀ (first : Bool) (D : Ends) {s : Shared}, L2.Inv X pins σ H s → goK l z D σ H → wpAny (model X.prog X.w) X.A (matchCases cs X.env u first) (SP X pins D) X.xe s
  | [], _, h, first, D, s, I, q => by
    cases h
    exact wpAny_matchCases_nil ⟨σ, H, I, q⟩
  | _ :: _, _, h, first, D, s, I, q => by
    cases h with
    | cons hp hb hr =>
      refine wpAny_matchCases_cons (matchPat hp I r fun s1 I1 => ?_)
      unfold goK at q
      split at q
      · next hk =>
        simp only [hk, if_true]
        exact wpAny_assignInOrder_none (hb.run pins s1 σ H D I1 q)
      · next hk =>
        simp only [hk, if_false]
        exact cases_run r hr false D I1 q
def tMatch (t : TE) (l : List (Kc × TS)) : TS := fun D σ H => t σ H fun v H1 => ∃ z, v = .str z ∧ goK l z D σ H1
theorem ps_match {e : Expr} {cs : List MatchCase} {t : TE} {l : List (Kc × TS)} (he : PE X e t) (hc : PCs X cs l) : PS X (.Match e cs pos) (tMatch t l) := by
  refine ⟨fun pins s σ H D I h => ?_⟩
  refine wpAny_Match (thn (he.run pins s σ H _ I h) fun u s1 ⟨v, H1, I1, r, z, e1, q⟩ => ?_)
  subst e1
  exact cases_run r hc true D I1 q
end
/-! ### as a judgement -/
def goM : List (Kc × Sm) → Str → Sm
  | [], _ => fun E B => .ok .nx E B
  | (kc, f) :: l, z => fun E B => if hitK z kc = true then f E B else goM l z E B
def sMatch (fe : Ex) (l : List (Kc × Sm)) : Sm := fun E B => (fe E B).bind fun r E1 B1 =>
  match view r E1 B1 with
  | some (.str z) => goM l z E1 B1
  | _ => .bad
inductive SndCs (X : Cy) : List MatchCase → List (Kc × Sm) → Prop where
  | nil : SndCs X [] []
  | cons {p : Pattern} {kc : Kc} {body : List Stmt} {f : Sm} {r : List MatchCase} {l : List (Kc × Sm)} : PatIs p kc → SndB X body f → SndCs X r l → SndCs X (⟨p, none, body⟩ :: r) ((kc, f) :: l)
theorem sndCs_t {X : Cy} : ∀ {cs : List MatchCase} {l : List (Kc × Sm)}, SndCs X cs l → ∃ l', PCs X cs l' ∧ ∀ z F ρ E B σ H D, Rel X.K F ρ E B σ H → PostS X.K X.q F ρ (goM l z E B) D → goK l' z D σ H
  | [], _, h => by
    cases h
    exact ⟨[], .nil, fun z F ρ E B σ H D rl q => q ρ σ H (List.prefix_refl _) rl⟩
  | _ :: _, _, h => by
    cases h with
    | cons hp hb hr =>
      obtain ⟨l', h1, h2⟩ := sndCs_t hr
      obtain ⟨t, p1, hb⟩ := hb
      refine ⟨_, .cons hp p1 h1, fun z F ρ E B σ H D rl q => ?_⟩
      unfold goM at q
      unfold goK
      split
      · next hk => rw [if_pos hk] at q; exact hb F ρ E B σ H D rl q
      · next hk => rw [if_neg hk] at q; exact h2 z F ρ E B σ H D rl q
theorem sndS_match {X : Cy} {e : Expr} {fe : Ex} {cs : List MatchCase} {l : List (Kc × Sm)} {pos : Pos} (he : SndE X e fe) (hc : SndCs X cs l) : SndS X (.Match e cs pos) (sMatch fe l) := by
  obtain ⟨t, p1, he⟩ := he
  obtain ⟨l', h1, h2⟩ := sndCs_t hc
  refine ⟨_, ps_match p1 h1, fun F ρ E B σ H D rl q => ?_⟩
  refine he F ρ E B σ H _ rl ?_
  simp only [sMatch] at q
  cases h3 : fe E B with
  | bad => rw [h3] at q; exact q
  | ex c E' B' => rw [h3] at q ; first | exact q | exact Aft.exq (by assumption) q | exact AftT.exq (by assumption) q | exact Aft.exq (by assumption) (Aft.exq (by assumption) q) | exact AftT.exq (by assumption) (Aft.exq (by assumption) q) | exact AftT.exq (AftA.t (by assumption)) q | exact ExQ.px q (Aft.px (by assumption)) | exact ExQ.px q (List.IsPrefix.trans (AftT.px (by assumption)) (Aft.px (by assumption))) | exact Aft.exq (by assumption) (AftT.exq (by assumption) q) | exact Aft.exq (by assumption) (Aft.exq (by assumption) (AftT.exq (by assumption) q))
  | ok r1 E1 B1 =>
    rw [h3] at q
    intro ρ1 H1 v1 A1
    simp only [O.bind_ok] at q
    split at q
    · next z e1 =>
      have t1 := A1.top e1
      exact ⟨z, top_str t1, h2 z F ρ1 E1 B1 σ H1 D A1.letgo.rel (q.px A1.px)⟩
    · exact q.elim
@[simp] theorem e_sMatch {fe : Ex} {l : List (Kc × Sm)} {E : En} {B : Bx} : sMatch fe l E B = (fe E B).bind fun r E1 B1 =>
  match view r E1 B1 with
  | some (.str z) => goM l z E1 B1
  | _ => .bad := (rfl)
@[simp] theorem e_goM0 {z : Str} {E : En} {B : Bx} : goM [] z E B = .ok .nx E B := (rfl)
@[simp] theorem e_goM1 {kc : Kc} {f : Sm} {l : List (Kc × Sm)} {z : Str} {E : En} {B : Bx} : goM ((kc, f) :: l) z E B = if hitK z kc = true then f E B else goM l z E B := (rfl)
@[simp] theorem e_hit0 {z : Str} : hitK z none = true := (rfl)
@[simp] theorem e_hit1 {z : Str} {ks : List Str} : hitK z (some ks) = ks.any fun k => z == k := (rfl)
end QB
/-! QcB: tuples of the module's top. -/
namespace QB
open PySem L2
mutual
inductive KU (K : PySem.W.Frag) : U → Value → Prop where
  | non : KU K .non .none
  | bl (b : Bool) : KU K (.bl b) (.bool b)
  | int (i : Int) (t : Tok) : KU K (.int i) (.int i t)
  | str (x : Str) (t : Tok) : KU K (.str x) (.str x t)
  | tup {us : List U} {vs : List Value} {p : Addr} {d : Option Addr} {n : Nat} {sl : Array (Option Value)} : K.lookup p = some ⟨.type "tuple", d, .seq vs.toArray n, sl⟩ → KUs K us vs → (h : Nat.ble vs.length 1000 = true := by rfl) → KU K (.tup us) (.ref p)
inductive KUs (K : PySem.W.Frag) : List U → List Value → Prop where
  | nil : KUs K [] []
  | cons {u : U} {v : Value} {us : List U} {vs : List Value} : KU K u v → KUs K us vs → KUs K (u :: us) (v :: vs)
end
section
variable {K : PySem.W.Frag}
mutual
theorem KU.val : ∀ {u : U} {v : Value}, KU K u v → ∃ x : V, RelV x v ∧ ∀ H Lv ρ, Rep K H Lv ρ u x
  | _, _, .non => ⟨.non, rfl, fun _ _ _ => by simp [Rep]⟩
  | _, _, .bl b => ⟨.bl b, rfl, fun _ _ _ => by simp [Rep]⟩
  | _, _, .int i t => ⟨.int i, ⟨t, rfl⟩, fun _ _ _ => by simp [Rep]⟩
  | _, _, .str x t => ⟨.str x, ⟨t, rfl⟩, fun _ _ _ => by simp [Rep]⟩
  | _, _, .tup (vs := vs) (p := p) h hs hb => by
    obtain ⟨xs, h1, h2⟩ := hs.vals
    refine ⟨.ref p, rfl, fun H Lv ρ => ?_⟩
    simp only [Rep]
    refine ⟨p, xs, rfl, .inr ⟨_, vs.toArray, _, h, rfl, rfl, ?_, by simpa using h1⟩, h2 H Lv ρ⟩
    have := Nat.le_of_ble_eq_true hb
    rw [List.size_toArray, sizeLine_eq]; omega
theorem KUs.vals : ∀ {us : List U} {vs : List Value}, KUs K us vs → ∃ xs : List V, Vals xs vs ∧ ∀ H Lv ρ, Reps K H Lv ρ us xs
  | _, _, .nil => ⟨[], .nil, fun _ _ _ => Reps.nil⟩
  | _, _, .cons h hs => by
    obtain ⟨x, h1, h2⟩ := h.val
    obtain ⟨xs, h3, h4⟩ := hs.vals
    exact ⟨x :: xs, .cons h1 h3, fun H Lv ρ => Reps.cons (h2 H Lv ρ) (h4 H Lv ρ)⟩
end
end
theorem KU.ref {K : PySem.W.Frag} {u : U} {p : Addr} (h : KU K u (.ref p)) : ∀ H Lv ρ, Rep K H Lv ρ u (.ref p) := by
  obtain ⟨x, h1, h2⟩ := h.val
  have : x = .ref p := by
    cases x with
    | ref q => exact congrArg V.ref (by have e : Value.ref q = Value.ref p := h1.symm; cases e; rfl)
    | non => cases h1
    | bl _ => cases h1
    | int _ => obtain ⟨t, z⟩ := h1; cases z
    | str _ => obtain ⟨t, z⟩ := h1; cases z
    | _ => first | (cases h1; done) | (obtain ⟨t, z⟩ := h1; cases z)
  subst this
  exact h2
theorem sndE_gtreeE {X : Cy} {x : Str} {u : U} {pos : Pos} (h : ∃ p, X.mg x = some (.ref p) ∧ KU X.K u (.ref p)) (hg : Gl X x := by rfl) (hd : (x == ("__debug__" : Str)) = false := by decide) : SndE X (.Name x pos) (mC u) := by
  obtain ⟨p, h1, h2⟩ := h
  exact sndE_gtree h1 h2.ref hg hd
end QB
/-! QcC: a comprehension's list as a shared thing. -/
namespace QB
open PySem L2
section
variable {X : Cy} {a b c e i o tg iter elt : Expr} {es ifs : List Expr} {fa fb fe fo : Ex} {ft : Te} {fi : Iv} {fs : Ar} {bd : Bd} {ks : List Nat} {pos spos py p p1 p2 p3 cpos apos : Pos} {x y name : Str} {scope : Scope} {own : List (Str × Nat)}
theorem box_reads {t : TE} (ha : ∀ F ρ E B σ H Q, Rel X.K F ρ E B σ H → PostE X.K X.q F ρ E B σ H (fa E B) Q → t σ H Q) : ∀ F ρ E B σ H Q, Rel X.K F ρ E B σ H → PostE X.K X.q F ρ E B σ H (mBox fa E B) Q → t σ H Q := by
  intro F ρ E B σ H Q rl q
  refine ha F ρ E B σ H _ rl ?_
  simp only [mBox] at q
  cases h1 : fa E B with
  | bad => rw [h1] at q; exact q
  | ex c E' B' => rw [h1] at q ; first | exact q | exact Aft.exq (by assumption) q | exact AftT.exq (by assumption) q | exact Aft.exq (by assumption) (Aft.exq (by assumption) q) | exact AftT.exq (by assumption) (Aft.exq (by assumption) q) | exact AftT.exq (AftA.t (by assumption)) q | exact ExQ.px q (Aft.px (by assumption)) | exact ExQ.px q (List.IsPrefix.trans (AftT.px (by assumption)) (Aft.px (by assumption))) | exact Aft.exq (by assumption) (AftT.exq (by assumption) q) | exact Aft.exq (by assumption) (Aft.exq (by assumption) (AftT.exq (by assumption) q))
  | ok r1 E1 B1 =>
    rw [h1] at q
    intro ρ1 H1 v1 A1
    simp only [O.bind_ok] at q
    cases r1 with
    | w u => exact q.elim
    | s i => exact q.elim
    | fr c =>
      have rr := A1.rep
      obtain ⟨p, rfl, hl, hc, hn⟩ := rr
      have r0 := A1.rel
      obtain ⟨r2, lv⟩ := Rel.push (o := H1 p) r0 hn hl hc
      have bl := r0.blen
      refine q (ρ1 ++ [p]) H1 (.ref p) ⟨A1.px.trans (List.prefix_append _ _), r2, A1.stp.trans (Stp.less fun y z => (lv y).mp z), A1.le, ?_⟩
      simp only [RepR, Rep]
      exact ⟨p, by rw [← bl]; simp, rfl⟩
theorem sndS_boxLc {k : Nat} (hc : X.calm = true) (hN : X.N.Nodup) (ok : BlkOk X.N X.env.scope scope own) (hi : SndI X tg iter fi)
    (hg : ∀ (s : Shared) (H : Hp) (C : Addr) (cl : List (Str × Addr)) (fp : List Addr), SndG (X.blk s H scope (compEnvC scope cl C X.env) fp) tg (own.map (·.2)) bd)
    (ht : ∀ (s : Shared) (H : Hp) (C : Addr) (cl : List (Str × Addr)) (fp : List Addr), SndTs (X.blk s H scope (compEnvC scope cl C X.env) fp) ifs ft)
    (he : ∀ (s : Shared) (H : Hp) (C : Addr) (cl : List (Str × Addr)) (fp : List Addr), SndE (X.blk s H scope (compEnvC scope cl C X.env) fp) elt fe)
    (hy : X.N[k]? = some y := by rfl) (hyl : X.env.scope.names.lookup y = some .local := by rfl) (hsw : swapsWith (.ListComp elt [⟨tg, iter, ifs, 0⟩] scope pos) (some (.Name y py)) spos.line X.env = pure true := by exact sw_true rfl rfl rfl (by decide +kernel))
    (hs : ∀ x, foldedSetIterable iter X.env x = pure x := by intro _; rfl) : SndS X (.Assign [.Name y py] (.ListComp elt [⟨tg, iter, ifs, 0⟩] scope pos) spos) (sSet k (mBox (mLc fi bd ft fe (own.map (·.2))))) := by
  obtain ⟨wi, pi, hi⟩ := hi
  exact ⟨_, ps_setLc (g := uG X.K (own.map (·.2)) bd) (tt := uT X.K (bq X) ft) (te := uE X.K (bq X) fe) hc hN hy hyl hsw pi ok (fun s H C cl fp => (hg s H C cl fp).u) (fun s H C cl fp => ht s H C cl fp) (fun s H C cl fp => (he s H C cl fp).u) hs, set_reads (box_reads (lc_reads hi))⟩
end
end QB
/-! QcD: the state and its draws, alike in many laws. -/
namespace QB
open PySem L2
noncomputable def drawB : Sm := sSeq (sSet 2 (m2 (gII cMod (· % ·)) (m1 gInt (m2 gIx (mVar 0) (mC (.int 1)))) (m1 gLen (m2 gIx (mVar 0) (mC (.int 0)))))) (sSeq (sStore (m2 gAdd (m2 gIx (mVar 0) (mC (.int 1))) (mC (.int 1))) (mVar 0) (mC (.int 1))) (sSeq (sSet 3 (m2 gIx (m2 gIx (mVar 0) (mC (.int 0))) (mVar 2))) (sSeq (sIf (toT (m2 gGe (mVar 3) (m2 (gII cPow fun i j => i ^ j.toNat) (mC (.int 10)) (mC (.int 18))))) (sSeq (sSet 4 (m2 gIx (mVar 0) (mC (.int 0)))) (sSeq (sStore (m2 (gII cDiv (· / ·)) (mVar 3) (mVar 1)) (mVar 4) (mVar 2)) (sRet (m2 (gII cMod (· % ·)) (m1 gInt (mVar 3)) (mVar 1))))) (sNext)) (sSeq (sSet 5 (m2 (gII cMod (· % ·)) (m1 gInt (m2 gAdd (m2 gAdd (m2 gMul (mVar 3) (mC (.int 48271))) (m2 gMul (m2 gIx (mVar 0) (mC (.int 1))) (mC (.int 69621)))) (mC (.int 17)))) (mC (.int 2147483647)))) (sSeq (sSet 6 (m2 (gII cMod (· % ·)) (m1 gInt (m2 gAdd (m2 gMul (mVar 5) (mVar 5)) (m2 gMul (m2 gIx (mVar 0) (mC (.int 1))) (mC (.int 40692))))) (mC (.int 2147483629)))) (sSeq (sSet 7 (m2 (gII cMod (· % ·)) (m1 gInt (m2 gAdd (m2 gMul (mVar 6) (mC (.int 48611))) (mVar 5))) (mC (.int 2147483587)))) (sRet (m2 (gII cMod (· % ·)) (m1 gInt (m2 (gII cDiv (· / ·)) (mVar 7) (mC (.int 16)))) (mVar 1)))))))))
noncomputable def drawF : Fn := runBody 8 2 drawB
noncomputable def stateLc : Ex := mLc (mItV (mVar 0)) (bdN 2) (mYes) (m2 gAdd (m2 gMul (mC (.int 2)) (m1 gAbs (mVar 2))) (m1 gInt (m2 gLt (mVar 2) (mC (.int 0))))) [2]
noncomputable def stateB : Sm := sSeq (sSet 1 (mBox (stateLc))) (sSeq (sIf (toT (m2 gEq (mVar 1) (mLst (mNil)))) (sSet 1 (mBox (mLst (mCons (mC (.int 0)) (mNil))))) (sNext)) (sRet (mBox (mLst (mCons (mVar 1) (mCons (mC (.int 0)) (mCons (mC (.int 14)) (mCons (mC (.int 34)) (mNil)))))))))
noncomputable def stateF : Fn := runBody 3 1 stateB
/-- the state i with its rests j, two numbers of its own, and n draws that may still come -/
structure Draw (B : Bx) (i j : Nat) (p q : Int) (n : Nat) : Prop where
  ex : ∃ (ws : List Int) (c : Int), B[i]? = some (.lst [.box j, .int c, .int p, .int q]) ∧ B[j]? = some (.lst (ws.map .int)) ∧ ws ≠ [] ∧ ws.length ≤ 1000 ∧ (∀ w ∈ ws, 0 ≤ w) ∧ 0 ≤ c ∧ c + n ≤ 2 ^ 40
  ne : j ≠ i
theorem Draw.le {B : Bx} {i j : Nat} {p q : Int} {n m : Nat} (h : Draw B i j p q n) (hm : m ≤ n) : Draw B i j p q m := by
  obtain ⟨⟨ws, c, h1, h2, h3, h4, h5, h6, h7⟩, ne⟩ := h
  exact ⟨⟨ws, c, h1, h2, h3, h4, h5, h6, by omega⟩, ne⟩
theorem Draw.app {B C : Bx} {i j : Nat} {p q : Int} {n : Nat} (h : Draw B i j p q n) : Draw (B ++ C) i j p q n := by
  obtain ⟨⟨ws, c, h1, h2, h3⟩, ne⟩ := h
  exact ⟨⟨ws, c, by rw [List.getElem?_append_left (List.getElem?_eq_some_iff.mp h1).1]; exact h1, by rw [List.getElem?_append_left (List.getElem?_eq_some_iff.mp h2).1]; exact h2, h3⟩, ne⟩
theorem ix4_1 : ixN 4 1 = some 1 := rfl
/-- what stands elsewhere stands -/
def Else (B B' : Bx) (i j : Nat) : Prop := B'.length = B.length ∧ ∀ k, k ≠ i → k ≠ j → B'[k]? = B[k]?
theorem Else.refl {B : Bx} {i j : Nat} : Else B B i j := ⟨rfl, fun _ _ _ => rfl⟩
theorem Else.trans {B B' B2 : Bx} {i j : Nat} (a : Else B B' i j) (b : Else B' B2 i j) : Else B B2 i j := ⟨b.1.trans a.1, fun k h1 h2 => (b.2 k h1 h2).trans (a.2 k h1 h2)⟩
theorem modI {a b : Int} (h : 0 < b) : 0 ≤ a % b ∧ a % b < b := ⟨Int.emod_nonneg _ (by omega), Int.emod_lt_of_pos _ h⟩
theorem draw_ok {B : Bx} {i j : Nat} {p q : Int} {n : Nat} {many : Int} (h : Draw B i j p q (n + 1)) (h0 : 0 < many := by decide) (hm : many ≤ 10 ^ 40 := by decide) :
    ∃ (v : Int) (B' : Bx), 0 ≤ v ∧ v < many ∧ drawF [.box i, .int many] B = .ok (.int v) B' ∧ Draw B' i j p q n ∧ Else B B' i j := by
  obtain ⟨⟨ws, c, h1, h2, h3, h4, h5, h6, h7⟩, ne⟩ := h
  have hi : i < B.length := (List.getElem?_eq_some_iff.mp h1).1
  have hj : j < B.length := (List.getElem?_eq_some_iff.mp h2).1
  have hl : 0 < ws.length := List.length_pos_iff.mpr h3
  have a0 := modI (a := c) (b := (ws.length : Int)) (by omega)
  generalize ha : c % (ws.length : Int) = a at a0
  have hat : a.toNat < ws.length := by omega
  have ea : a = ((a.toNat : Nat) : Int) := by omega
  have hw : ws[a.toNat]? = some ws[a.toNat] := List.getElem?_eq_getElem hat
  have hw0 := h5 ws[a.toNat] (List.getElem_mem hat)
  generalize ws[a.toNat] = w at hw hw0
  have ax : atI (ws.map U.int) a = some (.int w) := by rw [ea, atI_k, List.getElem?_map, hw]; rfl
  have gj : (B.set i (.lst [.box j, .int (c + 1), .int p, .int q]))[j]? = some (.lst (ws.map .int)) := by rw [List.getElem?_set_ne (Ne.symm ne)]; exact h2
  have gi : (B.set i (.lst [.box j, .int (c + 1), .int p, .int q]))[i]? = some (.lst [.box j, .int (c + 1), .int p, .int q]) := List.getElem?_set_self hi
  have lnz : decide (0 < (ws.length : Int)) = true := by simpa using hl
  have e18 : cPow 10 18 = true := by decide
  have start : ∀ {Q : Fl → En → Bx → Prop}, OkP ((sSeq (sIf (toT (m2 gGe (mVar 3) (m2 (gII cPow fun i j => i ^ j.toNat) (mC (.int 10)) (mC (.int 18))))) (sSeq (sSet 4 (m2 gIx (mVar 0) (mC (.int 0)))) (sSeq (sStore (m2 (gII cDiv (· / ·)) (mVar 3) (mVar 1)) (mVar 4) (mVar 2)) (sRet (m2 (gII cMod (· % ·)) (m1 gInt (mVar 3)) (mVar 1))))) (sNext)) (sSeq (sSet 5 (m2 (gII cMod (· % ·)) (m1 gInt (m2 gAdd (m2 gAdd (m2 gMul (mVar 3) (mC (.int 48271))) (m2 gMul (m2 gIx (mVar 0) (mC (.int 1))) (mC (.int 69621)))) (mC (.int 17)))) (mC (.int 2147483647)))) (sSeq (sSet 6 (m2 (gII cMod (· % ·)) (m1 gInt (m2 gAdd (m2 gMul (mVar 5) (mVar 5)) (m2 gMul (m2 gIx (mVar 0) (mC (.int 1))) (mC (.int 40692))))) (mC (.int 2147483629)))) (sSeq (sSet 7 (m2 (gII cMod (· % ·)) (m1 gInt (m2 gAdd (m2 gMul (mVar 6) (mC (.int 48611))) (mVar 5))) (mC (.int 2147483587)))) (sRet (m2 (gII cMod (· % ·)) (m1 gInt (m2 (gII cDiv (· / ·)) (mVar 7) (mC (.int 16)))) (mVar 1)))))))
      [.val (.box i), .val (.int many), .val (.int a), .val (.int w), .un, .un, .un, .un] (B.set i (.lst [.box j, .int (c + 1), .int p, .int q]))) Q →
      OkP (drawB [.val (.box i), .val (.int many), .un, .un, .un, .un, .un, .un] B) Q := by
    intro Q h
    unfold drawB
    refine okP_seqL fun LQ hLQ => ?_
    simp [h1, h2, ha, hl]
    refine hLQ _ _ _ (then_nx ?_)
    clear hLQ LQ
    refine okP_seqL fun LQ hLQ => ?_
    simp [h1, ix4_1]
    refine hLQ _ _ _ (then_nx ?_)
    clear hLQ LQ
    refine okP_seqL fun LQ hLQ => ?_
    simp [gi, gj, ax]
    refine hLQ _ _ _ (then_nx ?_)
    clear hLQ LQ
    exact h
  by_cases hb : 10 ^ 18 ≤ w
  · have d0 : cDiv w many = true := cDiv_p h0 (by omega)
    have iw : ixN ws.length a = some a.toNat := ixN_of ea hat
    have hb' : decide ((1000000000000000000 : Int) ≤ w) = true := decide_eq_true hb
    have d1 : cMod w many = true := decide_eq_true h0
    have r := modI (a := w) h0
    refine ⟨w % many, (B.set i (.lst [.box j, .int (c + 1), .int p, .int q])).set j (.lst ((ws.set a.toNat (w / many)).map .int)), r.1, r.2, ?_, ⟨⟨ws.set a.toNat (w / many), c + 1, ?_, ?_, ?_, by simpa using h4, ?_, by omega, by omega⟩, ne⟩, by simp, fun k k1 k2 => ?_⟩
    · simp only [drawF]
      refine run_is rfl (start ?_)
      refine okP_seqT ?_
      refine okP_ift0 (by simp [e18, hb']) ?_
      refine okP_lock fun LQ hLQ => ?_
      simp [gi, gj, d0, iw, h0]
      exact hLQ _ _ _ (then_rt (ret_is' rfl (by rw [List.map_set])))
    · rw [List.getElem?_set_ne ne]; exact gi
    · exact List.getElem?_set_self (by simpa using hj)
    · intro z; apply h3; exact List.eq_nil_of_length_eq_zero (by have := congrArg List.length z; simpa using this)
    · intro x hx
      rcases List.mem_or_eq_of_mem_set hx with hx | rfl
      · exact h5 x hx
      · exact Int.ediv_nonneg hw0 (by omega)
    · rw [List.getElem?_set_ne (Ne.symm k2), List.getElem?_set_ne (Ne.symm k1)]
  · have hb' : decide ((1000000000000000000 : Int) ≤ w) = false := decide_eq_false hb
    have c1 : cMul (c + 1) 69621 = true := cMul_r (by decide) (by decide)
    have c2 : cMul (c + 1) 40692 = true := cMul_r (by decide) (by decide)
    have c3 : cMul w 48271 = true := cMul_r (by decide) (by decide)
    have b1 := modI (a := w * 48271 + (c + 1) * 69621 + 17) (b := 2147483647) (by decide)
    generalize e1 : (w * 48271 + (c + 1) * 69621 + 17) % 2147483647 = x1 at b1
    have c4 : cMul x1 x1 = true := cMul_l (by omega) (by omega)
    have b2 := modI (a := x1 * x1 + (c + 1) * 40692) (b := 2147483629) (by decide)
    generalize e2 : (x1 * x1 + (c + 1) * 40692) % 2147483629 = x2 at b2
    have c5 : cMul x2 48611 = true := cMul_r (by decide) (by decide)
    generalize e3 : (x2 * 48611 + x1) % 2147483587 = x3
    have d0 : cDiv x3 16 = true := cDiv_p (by decide) (by decide)
    have r := modI (a := x3 / 16) h0
    refine ⟨x3 / 16 % many, B.set i (.lst [.box j, .int (c + 1), .int p, .int q]), r.1, r.2, ?_, ⟨⟨ws, c + 1, gi, gj, h3, h4, h5, by omega, by omega⟩, ne⟩, by simp, fun k k1 k2 => ?_⟩
    · simp only [drawF]
      refine run_is rfl (start ?_)
      refine okP_seqT ?_
      refine okP_iff0 (by simp [e18, hb']) ?_
      refine okP_lock fun LQ hLQ => ?_
      simp only [e_sNext, OkP_ok]
      refine hLQ _ _ _ (then_nx ?_)
      refine okP_seqL fun LQ hLQ => ?_
      simp [gi, c1, c3, e1]
      refine hLQ _ _ _ (then_nx ?_)
      clear hLQ LQ
      refine okP_seqL fun LQ hLQ => ?_
      simp [gi, c2, c4, e2]
      refine hLQ _ _ _ (then_nx ?_)
      clear hLQ LQ
      refine okP_seqL fun LQ hLQ => ?_
      simp [c5, e3]
      refine hLQ _ _ _ (then_nx ?_)
      clear hLQ LQ
      refine okP_lock fun LQ hLQ => ?_
      simp [d0, h0]
      exact hLQ _ _ _ ret_is
    · rw [List.getElem?_set_ne (Ne.symm k1)]
theorem state_ok {B : Bx} {ns : List Int} (hn : ns.length ≤ 63) : ∃ (C : Bx) (i j : Nat), stateF [.scr ns] B = .ok (.box i) (B ++ C) ∧ Draw (B ++ C) i j 14 34 (2 ^ 39) ∧ B.length ≤ i ∧ B.length ≤ j := by
  let f : Int → Int := fun n => 2 * (if n < 0 then -n else n) + (if n < 0 then 1 else 0)
  have hf : ∀ n, 0 ≤ f n := by intro n; simp only [f]; split <;> omega
  have lc : stateLc [.val (.scr ns), .un, .un] B = .ok (.fr (.lst (ns.map fun n => .int (f n)))) [.val (.scr ns), .un, .un] B := by
    refine mLc_all U.int (fun n => .int (f n)) (by simp) (by simp) (by simp) (by omega) (fun n _ => ?_)
    have c1 : ∀ z : Int, cMul 2 z = true := fun z => cMul_l (by decide) (by decide)
    by_cases h : n < 0 <;> simp [Elt, f, h, c1]
  have e1 : (ns.map fun n => U.int (f n)) = (ns.map f).map .int := by rw [List.map_map]; rfl
  rw [e1] at lc
  have fl : Flt 2 (.lst ((ns.map f).map .int)) := by
    intro v hv
    obtain ⟨_, _, rfl⟩ := List.mem_map.mp hv
    trivial
  have q0 := eqU_nil (n := 1) (by decide) fl
  have hws : ∀ w ∈ ns.map f, 0 ≤ w := by intro w hw; obtain ⟨n, _, rfl⟩ := List.mem_map.mp hw; exact hf n
  have hwl : (ns.map f).length ≤ 63 := by simpa using hn
  generalize ns.map f = ws at lc q0 hws hwl
  cases ws with
  | nil =>
    refine ⟨[.lst [], .lst [.int 0], .lst [.box (B.length + 1), .int 0, .int 14, .int 34]], B.length + 2, B.length + 1, ?_, ⟨⟨[0], 0, app_get2, app_get1, by simp, by simp, by simp, by omega, by omega⟩, by omega⟩, by omega, by omega⟩
    simp only [stateF]
    refine run_is rfl ?_
    simp only [stateB, List.map_cons, List.map_nil, List.length_cons, List.length_nil, Nat.reduceAdd, Nat.reduceSub, List.replicate_succ, List.replicate_zero, List.cons_append, List.nil_append, Nat.zero_add, Nat.sub_self, List.append_nil]
    simp at q0 lc
    refine okP_seqL fun LQ hLQ => ?_
    simp [lc]
    refine hLQ _ _ _ (then_nx ?_)
    clear hLQ LQ
    refine okP_seqL fun LQ hLQ => ?_
    simp [q0]
    refine hLQ _ _ _ (then_nx ?_)
    clear hLQ LQ
    refine okP_lock fun LQ hLQ => ?_
    simp
    refine hLQ _ _ _ ?_
    clear hLQ LQ
    exact ret_is
  | cons w ws =>
    refine ⟨[.lst ((w :: ws).map .int), .lst [.box B.length, .int 0, .int 14, .int 34]], B.length + 1, B.length, ?_, ⟨⟨w :: ws, 0, app_get1, app_getQ, by simp, by omega, hws, by omega, by omega⟩, by omega⟩, by omega, by omega⟩
    simp only [stateF]
    refine run_is rfl ?_
    simp only [stateB, List.map_cons, List.map_nil, List.length_cons, List.length_nil, Nat.reduceAdd, Nat.reduceSub, List.replicate_succ, List.replicate_zero, List.cons_append, List.nil_append, Nat.zero_add, Nat.sub_self, List.append_nil]
    simp at q0 lc
    refine okP_seqL fun LQ hLQ => ?_
    simp [lc]
    refine hLQ _ _ _ (then_nx ?_)
    clear hLQ LQ
    refine okP_seqL fun LQ hLQ => ?_
    simp [q0]
    refine hLQ _ _ _ (then_nx ?_)
    clear hLQ LQ
    refine okP_lock fun LQ hLQ => ?_
    simp
    refine hLQ _ _ _ ?_
    clear hLQ LQ
    exact ret_is
end QB
/-! QcE: texts cut at a sign, texts of given signs. -/
namespace QB
open PySem L2
theorem span_ne {c : Nat} : ∀ l : List Nat, c ∈ l → ∃ post, l = l.takeWhile (· != c) ++ c :: post ∧ c ∉ l.takeWhile (· != c) ∧ (l.dropWhile (· != c)).drop 1 = post
  | [], h => by cases h
  | a :: l, h => by
    by_cases e : a = c
    · subst e
      refine ⟨l, ?_, ?_, ?_⟩ <;> simp
    · rcases List.mem_cons.mp h with h | h
      · exact absurd h.symm e
      · obtain ⟨post, h1, h2, h3⟩ := span_ne l h
        have e' : (a != c) = true := by simpa using e
        refine ⟨post, ?_, ?_, ?_⟩
        · rw [List.takeWhile_cons, e', if_pos rfl, List.cons_append, ← h1]
        · rw [List.takeWhile_cons, e', if_pos rfl, List.mem_cons]
          rintro (z | z)
          · exact e z.symm
          · exact h2 z
        · rw [List.dropWhile_cons, e', if_pos rfl]; exact h3
theorem tw_all {c : Nat} : ∀ l : List Nat, c ∉ l → l.takeWhile (· != c) = l
  | [], _ => rfl
  | a :: l, h => by
    rw [List.mem_cons] at h
    have e' : (a != c) = true := by simp; exact fun z => h (.inl z.symm)
    rw [List.takeWhile_cons, e', if_pos rfl, tw_all l fun z => h (.inr z)]
theorem dw_all {c : Nat} : ∀ l : List Nat, c ∉ l → l.dropWhile (· != c) = []
  | [], _ => rfl
  | a :: l, h => by
    rw [List.mem_cons] at h
    have e' : (a != c) = true := by simp; exact fun z => h (.inl z.symm)
    rw [List.dropWhile_cons, e', if_pos rfl, dw_all l fun z => h (.inr z)]
def sepOf (c : Nat) (l : List Nat) : List Nat := if c ∈ l then [c] else []
theorem part_eq {l : List Nat} {c : Nat} (h : l.length ≤ 16777216) : gPartition (.str (ofC l)) [.str (ofC [c])] = some (.w (.tup [.str (ofC (l.takeWhile (· != c))), .str (ofC (sepOf c l)), .str (ofC ((l.dropWhile (· != c)).drop 1))])) := by
  have e : Txt.partition (ofC l) (ofC [c]) = (ofC (l.takeWhile (· != c)), ofC (sepOf c l), ofC ((l.dropWhile (· != c)).drop 1)) := by
    by_cases hm : c ∈ l
    · obtain ⟨post, h1, h2, h3⟩ := span_ne l hm
      have k := TL.partition_app (y := ofC [c]) (s := c) (S := []) rfl (a := ofC (l.takeWhile (· != c))) (b := ofC post) h2
      rw [ofC_app, ofC_app, List.append_assoc, List.singleton_append, ← h1] at k
      rw [k, h3, sepOf, if_pos hm]
    · have k := TL.partition_none (y := ofC [c]) (s := c) (S := []) rfl (a := ofC l) hm
      rw [k, tw_all l hm, dw_all l hm, sepOf, if_neg hm]
      rfl
  show (if _ then _ else _) = _
  rw [e]
  simp [h]
theorem tw_len (p : Nat → Bool) (l : List Nat) : (l.takeWhile p).length ≤ l.length := by
  have := (List.takeWhile_sublist p (l := l)).length_le
  exact this
end QB
/-! QcF: in over rows of texts, == against the empty, texts made of given signs. -/
namespace QB
open PySem L2
theorem inT_eq (a : Str) (us : List U) : inU (.str a) (.tup us) = (flatUs us).map (inV (.str a)) := by
  show (match flatU (.str a), (seqOf (.tup us)).bind flatUs with | some v, some vs => some (inV v vs) | _, _ => none) = _
  simp only [seqOf, Option.bind_some, flatU]
  cases flatUs us <;> rfl
theorem inL_eq (a : Str) (us : List U) : inU (.str a) (.lst us) = (flatUs us).map (inV (.str a)) := by
  show (match flatU (.str a), (seqOf (.lst us)).bind flatUs with | some v, some vs => some (inV v vs) | _, _ => none) = _
  simp only [seqOf, Option.bind_some, flatU]
  cases flatUs us <;> rfl
theorem inF_cons (a b : Str) (us : List U) : (flatUs (.str b :: us)).map (inV (.str a)) = ((flatUs us).map (inV (.str a))).map fun r => (b == a) || r := by
  rw [flatUs]
  cases flatUs us <;> simp [flatU, inV, eqV]
@[simp] theorem inT_nil {a : Str} : inU (.str a) (.tup []) = some false := rfl
@[simp] theorem inL_nil {a : Str} : inU (.str a) (.lst []) = some false := rfl
@[simp] theorem inT_cons {a b : Str} {us : List U} : inU (.str a) (.tup (.str b :: us)) = (inU (.str a) (.tup us)).map fun r => (b == a) || r := by
  rw [inT_eq, inT_eq, inF_cons]
@[simp] theorem inL_cons {a b : Str} {us : List U} : inU (.str a) (.lst (.str b :: us)) = (inU (.str a) (.lst us)).map fun r => (b == a) || r := by
  rw [inL_eq, inL_eq, inF_cons]
theorem eqU_tnil {n : Nat} {us : List U} (hn : n + 1 ≤ 64) (h : Flt (n + 1) (.tup us)) : eqU (.tup us) (.tup []) = some us.isEmpty := by
  have f0 : Flt (n + 1) (.tup []) := fun v hv => by cases hv
  rw [eqU_flt hn h f0]
  cases us <;> rfl
theorem okS_of {l : List Nat} (h : ∀ c ∈ l, c < 1114112) : okS (ofC l) = true := by
  show (ofC l).cps.all (fun c => decide (c < 1114112)) = true
  rw [Array.all_eq_true_iff_forall_mem]
  intro x hx
  have hx' : x ∈ l := by simpa [ofC] using hx
  exact decide_eq_true (h x hx')
theorem all_contains {l s : List Nat} : (l.all fun c => decide (c ∈ s)) = true ↔ ∀ c ∈ l, c ∈ s := by simp
end QB
/-! QdA: dicts by texts and numbers: new, membership, store, get, len, list, sorted, from pairs. -/
namespace QB
open PySem L2
def keyU : U → Option Key
  | .str z => some (.inr z)
  | .int i => some (.inl i)
  | _ => none
def uKey : Key → U
  | .inr z => .str z
  | .inl i => .int i
theorem keyU_top {K : PySem.W.Frag} {H : Hp} {Lv : AS} {ρ : List Addr} {u : U} {v : V} {k : Key} (t : Top K H Lv ρ u v) (h : keyU u = some k) : v = kV k := by
  cases u <;> simp only [keyU, Option.some.injEq] at h <;> first | (cases h; done) | skip
  · subst h; exact top_int t
  · subst h; exact top_str t
theorem keyU_rep {K : PySem.W.Frag} {H : Hp} {Lv : AS} {ρ : List Addr} {u : U} {v : V} {k : Key} (t : Rep K H Lv ρ u v) (h : keyU u = some k) : v = kV k := by
  cases u <;> simp only [keyU, Option.some.injEq] at h <;> first | (cases h; done) | skip
  · subst h; simpa [Rep, kV] using t
  · subst h; simpa [Rep, kV] using t
theorem uKey_rep {K : PySem.W.Frag} {H : Hp} {Lv : AS} {ρ : List Addr} : ∀ k : Key, Rep K H Lv ρ (uKey k) (kV k)
  | .inl i => by simp [uKey, Rep, kV]
  | .inr z => by simp [uKey, Rep, kV]
theorem uKeys_reps {K : PySem.W.Frag} {H : Hp} {Lv : AS} {ρ : List Addr} : ∀ ks : List Key, Reps K H Lv ρ (ks.map uKey) (ks.map kV)
  | [] => Reps.nil
  | k :: ks => Reps.cons (uKey_rep k) (uKeys_reps ks)
@[simp] theorem keyU_uKey (k : Key) : keyU (uKey k) = some k := by cases k <;> rfl
def hasK (ks : List Key) (k : Key) : Bool := ks.any fun k' => decide (k' = k)
theorem hasK_iff {ks : List Key} {k : Key} : hasK ks k = true ↔ k ∈ ks := by
  unfold hasK
  rw [List.any_eq_true]
  constructor
  · rintro ⟨p, hp, e⟩; rw [← of_decide_eq_true e]; exact hp
  · intro hp; exact ⟨k, hp, decide_eq_true rfl⟩
theorem valV_mem {kvs : List (Key × V)} {k : Key} : (valV kvs k).isSome = hasK (kvs.map (·.1)) k := by
  rw [← valV_any, hasK, List.any_map]; rfl
section
variable {X : Cy} {a b c e o i f : Expr} {es : List Expr} {fa fb fo fe fi ff : Ex} {fs : Ar} {pos p p2 p3 cpos apos pos' : Pos} {x name : Str}
def mDct0 : Ex := fun E B => .ok (.fr (.dct [] [])) E B
theorem sndE_dct0 : SndE X (.Dict [] [] pos) mDct0 :=
  ⟨_, pe_dnewK, fun F ρ E B σ H Q rl h p hp => h ρ _ _ (Aft.freshD (kvs := []) rl hp rfl Reps.nil)⟩
/-! ### k in d -/
def gDIn (neg : Bool) (a b : U) : Option R :=
  match b with
  | .dct ks _ => (keyU a).map fun k => .w (.bl (if neg then !hasK ks k else hasK ks k))
  | _ => none
theorem op2_din (hu : X.A.units + 1 < cLine) : Op2S X (compareOp .In) (gDIn false) := by
  refine ⟨fun y x H Q => ∃ a o, x = .ref a ∧ DGet H a y o ∧ Q (.bl o.isSome) H, fun pins s σ H x y v u Q I r1 r2 h => ?_, fun F ρ E B σ H u1 u2 v1 v2 r3 Q rl t1 t2 e q => ?_⟩
  · obtain ⟨a, o, rfl, g, q⟩ := h
    obtain rfl : u = Value.ref a := r2
    exact d_in hu I g r1 fun s3 I3 => ⟨.bl o.isSome, H, I3, rfl, q⟩
  · cases u2 <;> first | (cases e; done) | skip
    simp only [gDIn, Option.map_eq_some_iff] at e
    obtain ⟨k, e1, rfl⟩ := e
    obtain ⟨pp, kvs, rfl, h1, rfl, h2⟩ := t2
    have hk := keyU_top t1 e1
    subst hk
    exact ⟨pp, _, rfl, DGet_kR h1, q H _ (by rw [valV_mem]; exact Aft.val rl (by simp [Rep]))⟩
theorem op2_dnotin (hu : X.A.units + 1 < cLine) : Op2S X (compareOp .NotIn) (gDIn true) := by
  refine ⟨fun y x H Q => ∃ a o, x = .ref a ∧ DGet H a y o ∧ Q (.bl (!o.isSome)) H, fun pins s σ H x y v u Q I r1 r2 h => ?_, fun F ρ E B σ H u1 u2 v1 v2 r3 Q rl t1 t2 e q => ?_⟩
  · obtain ⟨a, o, rfl, g, q⟩ := h
    obtain rfl : u = Value.ref a := r2
    exact d_notIn hu I g r1 fun s3 I3 => ⟨.bl (!o.isSome), H, I3, rfl, q⟩
  · cases u2 <;> first | (cases e; done) | skip
    simp only [gDIn, Option.map_eq_some_iff] at e
    obtain ⟨k, e1, rfl⟩ := e
    obtain ⟨pp, kvs, rfl, h1, rfl, h2⟩ := t2
    have hk := keyU_top t1 e1
    subst hk
    exact ⟨pp, _, rfl, DGet_kR h1, q H _ (by rw [valV_mem]; exact Aft.val rl (by simp [Rep]))⟩
/-! ### built-ins -/
def gLenD : U → Option R
  | .dct ks _ => some (.w (.int ks.length))
  | _ => none
theorem call1_lenD : Call1S X (.builtin "len") gLenD := by
  refine ⟨fun xs H Q => ∃ a kvs, xs = [V.ref a] ∧ Rd H a (.dK kvs) ∧ Q (.int kvs.length) H, fun pins s σ H xs us Q I r h => ?_, fun F ρ E B σ H u1 v1 r3 Q rl t e q => ?_⟩
  · obtain ⟨a, kvs, rfl, ha, q⟩ := h
    obtain ⟨u, rfl, ru⟩ := vals1 r
    cases ru
    exact d_len I ha fun t s' I' => ⟨.int kvs.length, H, I', ⟨t, rfl⟩, q⟩
  cases u1 <;> first | (cases e; done) | skip
  cases e
  obtain ⟨pp, kvs, rfl, h1, rfl, h2⟩ := t
  exact ⟨pp, kvs, rfl, h1, q H _ (Aft.val rl (by simp [Rep]))⟩
def gListD : U → Option R
  | .dct ks _ => some (.fr (.lst (ks.map uKey)))
  | _ => none
theorem call1_listD (hc : X.calm = true) : Call1S X (.type "list") gListD := by
  refine ⟨_, call_listD hc, fun F ρ E B σ H u1 v1 r3 Q rl t e q => ?_⟩
  cases u1 <;> first | (cases e; done) | skip
  cases e
  obtain ⟨pp, kvs, rfl, h1, rfl, h2⟩ := t
  refine ⟨pp, kvs, rfl, h1, fun l hl => q _ _ (Aft.fresh rl hl ?_)⟩
  have := uKeys_reps (K := X.K) (H := H) (Lv := LvF F ρ E B σ) (ρ := ρ) (kvs.map (·.1))
  simpa [List.map_map, Function.comp_def] using this
def gDictD : U → Option R
  | .dct ks us => some (.fr (.dct ks us))
  | _ => none
theorem call1_dictD : Call1S X (.type "dict") gDictD := by
  refine ⟨_, call_dictD, fun F ρ E B σ H u1 v1 r3 Q rl t e q => ?_⟩
  cases u1 <;> first | (cases e; done) | skip
  cases e
  obtain ⟨pp, kvs, rfl, h1, rfl, h2⟩ := t
  exact ⟨pp, kvs, rfl, h1, fun l hl => q _ _ (Aft.freshD rl hl rfl h2)⟩
/-- pairs of keys and values -/
def pairsU : List U → Option (List (Key × U))
  | [] => some []
  | .tup [ku, u] :: r => match keyU ku, pairsU r with
    | some k, some ps => some ((k, u) :: ps)
    | _, _ => none
  | _ => none
def gDictP : U → Option R
  | .lst us => match pairsU us with
    | some ps => if (ps.map (·.1)).Nodup ∧ ps.length ≤ 16777216 then some (.fr (.dct (ps.map (·.1)) (ps.map (·.2)))) else none
    | none => none
  | _ => none
theorem merge_nodup : ∀ (kvs acc : List (Key × V)), ((acc ++ kvs).map (·.1)).Nodup → mergeK acc kvs = acc ++ kvs
  | [], acc, h => by simp [mergeK]
  | kv :: kvs, acc, h => by
    have hn : valV acc kv.1 = none := by
      cases z : valV acc kv.1 with
      | none => rfl
      | some v =>
        have m := valV_in z
        rw [List.map_append, List.nodup_append] at h
        exact absurd rfl (h.2.2 kv.1 m kv.1 (by simp))
    show mergeK (putK acc kv.1 kv.2) kvs = _
    rw [putK_new kv.2 hn, merge_nodup kvs (acc ++ [(kv.1, kv.2)]) (by simpa using h)]
    simp
theorem pairs_reps {K : PySem.W.Frag} {H : Hp} {Lv : AS} {ρ : List Addr} : ∀ {us : List U} {vs : List V} {ps : List (Key × U)}, Reps K H Lv ρ us vs → pairsU us = some ps →
    ∃ (as : List Addr) (kvs : List (Key × V)), vs = as.map V.ref ∧ Paired (fun p kv => SqT K H p [kV kv.1, kv.2]) as kvs ∧ kvs.map (·.1) = ps.map (·.1) ∧ Reps K H Lv ρ (ps.map (·.2)) (kvs.map (·.2)) ∧ kvs.length = ps.length
  | [], vs, ps, h, e => by
    simp only [Reps] at h; subst h
    simp only [pairsU, Option.some.injEq] at e; subst e
    exact ⟨[], [], rfl, .nil, rfl, Reps.nil, rfl⟩
  | u :: us, vs, ps, h, e => by
    simp only [Reps] at h
    obtain ⟨v, r, rfl, h1, h2⟩ := h
    unfold pairsU at e
    split at e
    · next hh => cases hh
    · next ku w r' hh =>
      injection hh with hh1 hh2
      subst hh1 hh2
      split at e
      · next k ps' ek eps =>
        cases e
        obtain ⟨as, kvs, rfl, q1, q2, q3, q4⟩ := pairs_reps h2 eps
        simp only [Rep] at h1
        obtain ⟨p, ws, rfl, hp, hr⟩ := h1
        simp only [Reps] at hr
        obtain ⟨kv, r2, rfl, hk, v2, r3, rfl, hv, rfl⟩ := hr
        have := keyU_rep hk ek
        subst this
        exact ⟨p :: as, (k, v2) :: kvs, rfl, .cons (sqT_of hp) q1, by simp [q2], by simpa using Reps.cons hv q3, by simp [q4]⟩
      · cases e
    · cases e
theorem call1_dictP (hc : X.calm = true) : Call1S X (.type "dict") gDictP := by
  refine ⟨_, call_dictP hc, fun F ρ E B σ H u1 v1 r3 Q rl t e q => ?_⟩
  cases u1 <;> first | (cases e; done) | skip
  next us =>
  simp only [gDictP] at e
  split at e
  · next ps eps =>
    split at e
    · next hn =>
      cases e
      obtain ⟨pp, vs, rfl, h1, h2⟩ := t
      obtain ⟨as, kvs, rfl, q1, q2, q3, q4⟩ := pairs_reps h2 eps
      refine ⟨pp, as, kvs, rfl, .inl (.inl h1), q1, fun l hl => ?_⟩
      rw [merge_nodup kvs [] (by simpa [q2] using hn.1), List.nil_append]
      exact q _ _ (Aft.freshD rl hl q2 q3)
    · cases e
  · cases e
end
end QB
/-! QdB: d[k] = v, d.get, sorted(d), displays. -/
namespace QB
open PySem L2
def putKs (ks : List Key) (k : Key) : List Key := if hasK ks k = true then ks else ks ++ [k]
def putVs (ks : List Key) (us : List U) (k : Key) (u : U) : List U := if hasK ks k = true then List.zipWith (fun k' u' => if k' = k then u else u') ks us else us ++ [u]
theorem put_keys {kvs : List (Key × V)} {k : Key} {v : V} : (putK kvs k v).map (·.1) = putKs (kvs.map (·.1)) k := by
  unfold putK putKs
  rw [valV_any, valV_mem]
  split
  · rw [List.map_map]
    refine List.map_congr_left fun kv _ => ?_
    simp only [Function.comp]
    split <;> rfl
  · simp
theorem put_vals {K : PySem.W.Frag} {H : Hp} {Lv : AS} {ρ : List Addr} {k : Key} {u : U} {v : V} (hv : Rep K H Lv ρ u v) {us : List U} {kvs : List (Key × V)} (h : Reps K H Lv ρ us (kvs.map (·.2))) :
    Reps K H Lv ρ (putVs (kvs.map (·.1)) us k u) ((putK kvs k v).map (·.2)) := by
  unfold putK putVs
  rw [valV_any, valV_mem]
  split
  · next hx =>
    clear hx
    induction kvs generalizing us with
    | nil => cases us with
      | nil => exact Reps.nil
      | cons a b => simp [Reps] at h
    | cons kv kvs ih =>
      cases us with
      | nil => simp [Reps] at h
      | cons w us =>
        simp only [List.map_cons, Reps] at h
        obtain ⟨x, r, hx, h1, h2⟩ := h
        cases hx
        simp only [List.map_cons, List.zipWith_cons_cons, Reps]
        refine ⟨_, _, rfl, ?_, ih h2⟩
        split
        · exact hv
        · exact h1
  · rw [List.map_append]
    exact h.append (Reps.one (v := v) hv)
section
variable {X : Cy} {a b c e o i f : Expr} {es : List Expr} {fa fb fo fe fi ff : Ex} {fs : Ar} {pos p p2 p3 cpos apos pos' : Pos} {x name : Str}
/-- o[i] = e, o a dict -/
def sDSt (fe fo fi : Ex) : Sm := fun E B => (fe E B).bind fun r0 E0 B0 =>
  match settle r0 E0 with
  | none => .bad
  | some (u, E0') => (fo E0' B0).bind fun r E1 B1 => (fi E1 B1).bind fun ri E2 B2 =>
    match ri, cellOf r E2 B2 with
    | .w ku, some (.dct ks us) => match keyU ku with
      | some k => if ks.length < 16777216 then .ok .nx (put r E2 B2 (.dct (putKs ks k) (putVs ks us k u))).1 (put r E2 B2 (.dct (putKs ks k) (putVs ks us k u))).2 else .bad
      | none => .bad
    | _, _ => .bad
theorem sndS_dst (hu : X.A.units + 1 < cLine) (he : SndE X e fe) (ho : SndE X o fo) (hi : SndE X i fi) (hs : swapsWith e (some (.Subscript o i pos')) pos.line X.env = pure false := by rfl) :
    SndS X (.Assign [.Subscript o i pos'] e pos) (sDSt fe fo fi) := by
  obtain ⟨te, pe, he⟩ := he
  obtain ⟨to, po, ho⟩ := ho
  obtain ⟨ti, pi, hi⟩ := hi
  refine ⟨_, ps_dput hu po pi pe hs, fun F ρ E B σ H D rl q => ?_⟩
  refine he F ρ E B σ H _ rl ?_
  simp only [sDSt] at q
  cases h1 : fe E B with
  | bad => rw [h1] at q; exact q
  | ex c E' B' => rw [h1] at q ; first | exact q | exact Aft.exq (by assumption) q | exact AftT.exq (by assumption) q | exact Aft.exq (by assumption) (Aft.exq (by assumption) q) | exact AftT.exq (by assumption) (Aft.exq (by assumption) q) | exact AftT.exq (AftA.t (by assumption)) q | exact ExQ.px q (Aft.px (by assumption)) | exact ExQ.px q (List.IsPrefix.trans (AftT.px (by assumption)) (Aft.px (by assumption))) | exact Aft.exq (by assumption) (AftT.exq (by assumption) q) | exact Aft.exq (by assumption) (Aft.exq (by assumption) (AftT.exq (by assumption) q))
  | ok r0 E0 B0 =>
    rw [h1] at q
    intro ρ0 H0 v0 A0
    simp only [O.bind_ok] at q
    split at q
    · exact q.elim
    · next u E0' es =>
      obtain ⟨T0, R0⟩ := A0.settled es
      refine ho F ρ0 E0' B0 σ H0 _ T0.rel ?_
      cases h2 : fo E0' B0 with
      | bad => rw [h2] at q; exact q
      | ex c E' B' => rw [h2] at q ; first | exact q | exact Aft.exq (by assumption) q | exact AftT.exq (by assumption) q | exact Aft.exq (by assumption) (Aft.exq (by assumption) q) | exact AftT.exq (by assumption) (Aft.exq (by assumption) q) | exact AftT.exq (AftA.t (by assumption)) q | exact ExQ.px q (Aft.px (by assumption)) | exact ExQ.px q (List.IsPrefix.trans (AftT.px (by assumption)) (Aft.px (by assumption))) | exact Aft.exq (by assumption) (AftT.exq (by assumption) q) | exact Aft.exq (by assumption) (Aft.exq (by assumption) (AftT.exq (by assumption) q))
      | ok r E1 B1 =>
        rw [h2] at q
        intro ρ1 H1 v1 A1
        simp only [O.bind_ok] at q
        refine hi _ ρ1 E1 B1 σ H1 _ A1.rel ?_
        cases h3 : fi E1 B1 with
        | bad => rw [h3] at q; exact q
        | ex c E' B' => rw [h3] at q ; first | exact q | exact Aft.exq (by assumption) q | exact AftT.exq (by assumption) q | exact Aft.exq (by assumption) (Aft.exq (by assumption) q) | exact AftT.exq (by assumption) (Aft.exq (by assumption) q) | exact AftT.exq (AftA.t (by assumption)) q | exact ExQ.px q (Aft.px (by assumption)) | exact ExQ.px q (List.IsPrefix.trans (AftT.px (by assumption)) (Aft.px (by assumption))) | exact Aft.exq (by assumption) (AftT.exq (by assumption) q) | exact Aft.exq (by assumption) (Aft.exq (by assumption) (AftT.exq (by assumption) q))
        | ok ri E2 B2 =>
          rw [h3] at q
          intro ρ2 H2 v2 A2
          simp only [O.bind_ok] at q
          split at q
          · next r' ku ks us hc =>
            split at q
            · next k hk =>
              split at q
              · next hl =>
                have nf := cellOf_nfr hc
                have A2' := A2.letgo
                have A12 := A1.carry A2'
                have ae2 : F.addR H2 r v1 = F := addR_nfr nf
                have rel2 : Rel X.K F ρ2 E2 B2 σ H2 := by have := A12.rel; rw [ae2] at this; exact this
                have rep2 : RepR X.K F H2 (LvF F ρ2 E2 B2 σ) ρ2 E2 σ r v1 := by have := A12.rep; rw [ae2] at this; exact this
                have rr := A2.rep
                simp only [RepR] at rr
                have ek := keyU_rep rr hk
                subst ek
                have hru : Rep X.K H2 (LvF F ρ2 E2 B2 σ) ρ2 u v0 := Rep.mono A12.letgo.stp A12.px _ _ R0
                obtain ⟨pp, ep, cp, wr⟩ := wr_ok (c' := .dct (putKs ks k) (putVs ks us k u)) (ob := .lst []) rel2 nf rep2 hc rfl rfl
                obtain ⟨kvs, hw, rfl, hr⟩ := cp
                have T := wr (.dK (putK kvs k v0)) fun Lv' s => ⟨putK kvs k v0, upd_same, put_keys, put_vals (Rep.mono s (List.prefix_refl _) _ _ hru) (hr.mono s (List.prefix_refl _))⟩
                refine ⟨pp, _, ep, DPut.k hw (by rw [sizeLine_eq]; simpa using hl), ?_⟩
                exact q ρ2 σ _ ((T0.trans A12.letgo).px) T.rel
              · exact q.elim
            · exact q.elim
          · exact q.elim
end
end QB
/-! QdC: sorted(..) of texts, sorted(d). -/
namespace QB
open PySem L2 PyProof.Rows PySem.Spec
abbrev leS (a b : Str) : Prop := a.cps.toList ≤ b.cps.toList
theorem leS_trans {a b c : Str} (h : leS a b) (g : leS b c) : leS a c := List.le_trans h g
theorem leS_total (a b : Str) : leS a b ∨ leS b a := List.le_total _ _
theorem leS_anti {a b : Str} (h : leS a b) (g : leS b a) : a = b := by
  have : a.cps.toList = b.cps.toList := List.le_antisymm h g
  cases a; cases b
  simp only [Str.mk.injEq]
  exact Array.toList_inj.mp this
theorem leS_refl (a : Str) : leS a a := List.le_refl _
theorem rising_le {p x : Str} (h : (!Spec.ltCps x.cps.toList p.cps.toList) = true) : leS p x := by
  rw [ltCps_eq] at h
  simpa using h
theorem pw_rising : ∀ {p : Str} {l : List Str}, risingS p l = true → (p :: l).Pairwise leS
  | p, [], _ => by simp
  | p, x :: r, h => by
    simp only [risingS, Bool.and_eq_true] at h
    have h1 := rising_le h.1
    have h2 := pw_rising h.2
    refine List.pairwise_cons.mpr ⟨fun y hy => ?_, h2⟩
    rcases List.mem_cons.mp hy with rfl | hy
    · exact h1
    · exact leS_trans h1 ((List.pairwise_cons.mp h2).1 y hy)
theorem pw_sorted : ∀ {l : List Str}, sortedS l = true → l.Pairwise leS
  | [], _ => .nil
  | x :: r, h => pw_rising h
theorem permS_eq : ∀ {l r : List Str}, l.Perm r → l.Pairwise leS → r.Pairwise leS → l = r
  | [], r, p, _, _ => by rw [List.nil_perm.mp p]
  | a :: l, [], p, _, _ => by have := p.length_eq; simp at this
  | a :: l, b :: r, p, h1, h2 => by
    have a1 : leS b a := by
      rcases List.mem_cons.mp (p.mem_iff.mp (List.mem_cons_self ..)) with h | h
      · rw [h]; exact leS_refl _
      · exact (List.pairwise_cons.mp h2).1 a h
    have a2 : leS a b := by
      rcases List.mem_cons.mp (p.mem_iff.mpr (List.mem_cons_self ..)) with h | h
      · rw [h]; exact leS_refl _
      · exact (List.pairwise_cons.mp h1).1 b h
    have e : a = b := leS_anti a2 a1
    subst e
    rw [permS_eq ((List.perm_cons a).mp p) (List.pairwise_cons.mp h1).2 (List.pairwise_cons.mp h2).2]
def sortS (l : List Str) : List Str := l.mergeSort fun a b => decide (leS a b)
theorem sortS_perm (l : List Str) : (sortS l).Perm l := List.mergeSort_perm ..
theorem sortS_pw (l : List Str) : (sortS l).Pairwise leS := by
  have := List.pairwise_mergeSort (le := fun a b : Str => decide (leS a b)) (fun a b c h1 h2 => by simp only [decide_eq_true_eq] at *; exact leS_trans h1 h2) (fun a b => by
    rcases leS_total a b with h | h <;> simp [h]) l
  exact this.imp fun h => by simpa using h
theorem sortS_eq {l r : List Str} (p : r.Perm l) (h : r.Pairwise leS) : sortS l = r := permS_eq ((sortS_perm l).trans p.symm) (sortS_pw l) h
theorem mem_sortS {l : List Str} {a : Str} : a ∈ sortS l ↔ a ∈ l := (sortS_perm l).mem_iff
theorem len_sortS {l : List Str} : (sortS l).length = l.length := (sortS_perm l).length_eq
theorem sortS_sorted {l ys : List Str} (p : ys.Perm l) (h : sortedS ys = true) : ys = sortS l := (sortS_eq p (pw_sorted h)).symm
def txtKs : List Key → Option (List Str)
  | [] => some []
  | .inr z :: r => (txtKs r).map (z :: ·)
  | .inl _ :: _ => none
theorem txtKs_eq : ∀ {ks : List Key} {zs : List Str}, txtKs ks = some zs → ks = zs.map Sum.inr
  | [], zs, h => by simp only [txtKs, Option.some.injEq] at h; subst h; rfl
  | .inr z :: r, zs, h => by
    simp only [txtKs, Option.map_eq_some_iff] at h
    obtain ⟨w, h1, rfl⟩ := h
    rw [txtKs_eq h1]; rfl
  | .inl _ :: _, zs, h => by simp [txtKs] at h
@[simp] theorem txtKs_map : ∀ zs : List Str, txtKs (zs.map Sum.inr) = some zs
  | [] => rfl
  | z :: r => by simp [txtKs, txtKs_map r]
theorem strs_reps {K : PySem.W.Frag} {H : Hp} {Lv : AS} {ρ : List Addr} : ∀ zs : List Str, Reps K H Lv ρ (zs.map U.str) (zs.map V.str)
  | [] => Reps.nil
  | z :: zs => Reps.cons (by simp [Rep]) (strs_reps zs)
def gSortD : U → Option R
  | .dct ks _ => match txtKs ks with
    | some zs => if zs.length < 64 then some (.fr (.lst ((sortS zs).map .str))) else none
    | none => none
  | _ => none
section
variable {X : Cy}
theorem call1_sortD (hc : X.calm = true) : Call1S X (.builtin "sorted") gSortD := by
  refine ⟨_, call_sortedD hc, fun F ρ E B σ H u1 v1 r3 Q rl t e q => ?_⟩
  cases u1 <;> first | (cases e; done) | skip
  simp only [gSortD] at e
  split at e
  · next zs ez =>
    split at e
    · next hl =>
      cases e
      obtain ⟨pp, kvs, rfl, h1, h2, h3⟩ := t
      refine ⟨pp, kvs, zs, rfl, h1, by rw [h2]; exact txtKs_eq ez, hl, fun ys p hp hs hn => ?_⟩
      rw [sortS_sorted hp hs]
      exact q _ _ (Aft.fresh rl hn (strs_reps _))
    · cases e
  · cases e
end
end QB
/-! QdD: walks over a resting dict: it is locked on the way and stays so. -/
namespace QB
open PySem L2
/-- a dict that an expression gives is locked -/
def tLkD (td : TE) : TE := fun σ H Q => td σ H fun x H1 => ∃ d kvs, x = .ref d ∧ ((H1 d = some (.dK kvs) ∧ ∀ o, Q x (upd H1 d (.frz o (.dK kvs)))) ∨ ∃ o, H1 d = some (.frz o (.dK kvs)) ∧ Q x H1)
theorem pe_lkD {X : Cy} {e : Expr} {td : TE} (he : PE X e td) : PE X e (tLkD td) := by
  refine ⟨fun pins s σ H Q I h => thn (he.run pins s σ H _ I h) fun u s1 ⟨x, H1, I1, rx, d, kvs, ex, q⟩ => ?_⟩
  rcases q with ⟨hd, q⟩ | ⟨o, hd, q⟩
  · obtain ⟨od, I2⟩ := I1.lock hd trivial
    exact ⟨x, _, I2, rx, q od⟩
  · exact ⟨x, H1, I1, rx, q⟩
section
variable {K : PySem.W.Frag} {F : Fm} {ρ : List Addr} {E : En} {B : Bx} {σ : L2.St} {H : Hp} {d : Addr} {kvs : List (Key × V)} {o : Obj}
theorem lk_stp {Lv : AS} (hd : H d = some (.dK kvs)) : Stp H Lv (upd H d (.frz o (.dK kvs))) Lv := fun q x h n => by
  by_cases e : q = d
  · subst e
    rw [hd] at h
    cases h
    exact ⟨.inr ⟨o, kvs, rfl, upd_same⟩, n⟩
  · exact ⟨.inl (by rw [upd_ne e]; exact h), n⟩
theorem Rel.lkD (r : Rel K F ρ E B σ H) (hd : H d = some (.dK kvs)) (nl : ¬ LvF F ρ E B σ d) : Rel K F ρ E B σ (upd H d (.frz o (.dK kvs))) := by
  have s : Stp H (LvF F ρ E B σ) (upd H d (.frz o (.dK kvs))) (LvF F ρ E B σ) := lk_stp hd
  have px : ρ <+: ρ := List.prefix_refl _
  have eqv : ∀ q, LvF F ρ E B σ q → (upd H d (.frz o (.dK kvs))) q = H q := fun q h => upd_ne (fun e => nl (e ▸ h))
  refine ⟨r.elen, r.blen, fun i u h => ?_, fun i c h => ?_, r.oinj, fun i c q h1 h2 h3 => ?_, r.binj, fun q h => ?_, r.old.trans s, fun q x h => ?_⟩
  · obtain ⟨v, h1, h2⟩ := r.val i u h
    exact ⟨v, h1, h2.mono s px⟩
  · obtain ⟨h1, q, h2, h3, h4⟩ := r.own i c h
    exact ⟨h1, q, h2, h3.mono s px (eqv q (.inr (.inr ⟨i, c, h, h2⟩))), h4⟩
  · obtain ⟨h4, h5⟩ := r.box i c q h1 h2 h3
    exact ⟨h4.mono s px (eqv q (.inr (.inl ⟨i, c, h1, h2, h3⟩))), h5⟩
  · obtain ⟨h1, x, h2⟩ := r.out q h
    exact ⟨by rw [eqv q (.inl h)]; exact h1, x, h2⟩
  · obtain ⟨x', h1⟩ := r.grow q x h
    by_cases e : q = d
    · subst e; exact ⟨_, upd_same⟩
    · exact ⟨x', by rw [upd_ne e]; exact h1⟩
def itemsD (ks : List Key) (us : List U) : List U := List.zipWith (fun k u => .tup [uKey k, u]) ks us
abbrev GD (K : PySem.W.Frag) (d : Addr) (o : Obj) (kvs : List (Key × V)) (us : List U) : Hp → AS → List Addr → Prop := fun H Lv ρ => H d = some (.frz o (.dK kvs)) ∧ ¬ Lv d ∧ Reps K H Lv ρ us (kvs.map (·.2))
theorem gd_keep {us : List U} {H H' : Hp} {Lv Lv' : AS} {ρ ρ' : List Addr} (g : GD K d o kvs us H Lv ρ) (s : Stp H Lv H' Lv') (px : ρ <+: ρ') : GD K d o kvs us H' Lv' ρ' :=
  ⟨(s d _ g.1 g.2.1).1.at (fun _ z => by cases z), (s d _ g.1 g.2.1).2, g.2.2.mono s px⟩
theorem walkU_keys {us : List U} : WalkU K (Itk d o kvs) ((kvs.map (·.1)).map uKey) yes (GD K d o kvs us) := by
  refine ⟨fun H Lv ρ H' Lv' ρ' B' g s px _ _ => gd_keep g s px, fun H Lv ρ i g hi => ⟨g.1, by simpa using hi⟩, fun H Lv ρ g => ⟨g.1, by simp⟩, fun H Lv ρ i u x H' g hu hy _ => ?_⟩
  obtain ⟨rfl, k, v, hk, rfl⟩ := hy
  refine ⟨fun _ _ z => z, ?_⟩
  simp only [List.getElem?_map, hk, Option.map_some, Option.some.injEq] at hu
  subst hu
  exact uKey_rep k
theorem walkU_vals {us : List U} : WalkU K (Itd d o kvs) us yes (GD K d o kvs us) := by
  refine ⟨fun H Lv ρ H' Lv' ρ' B' g s px _ _ => gd_keep g s px, fun H Lv ρ i g hi => ⟨g.1, by have := g.2.2.len; simp at this; omega⟩, fun H Lv ρ g => ⟨g.1, by have := g.2.2.len; simp at this; omega⟩, fun H Lv ρ i u x H' g hu hy _ => ?_⟩
  obtain ⟨rfl, k, hk⟩ := hy
  refine ⟨fun _ _ z => z, ?_⟩
  obtain ⟨v, h1, h2⟩ := g.2.2.get hu
  simp only [List.getElem?_map, hk, Option.map_some, Option.some.injEq] at h1
  subst h1
  exact h2
theorem walkU_items {us : List U} (hl : us.length = kvs.length) : WalkU K (Iti d o kvs) (itemsD (kvs.map (·.1)) us) yes (GD K d o kvs us) := by
  refine ⟨fun H Lv ρ H' Lv' ρ' B' g s px _ _ => gd_keep g s px, fun H Lv ρ i g hi => ⟨g.1, by simp [itemsD] at hi; omega⟩, fun H Lv ρ g => ⟨g.1, by simp [itemsD]; omega⟩, fun H Lv ρ i u x H' g hu hy lv => ?_⟩
  obtain ⟨T, k, v, hk, rfl, hT, rfl⟩ := hy
  have gr : ∀ q o, H q = some o → (upd H T (.tup [kV k, v])) q = some o := fun q o h => by rw [upd_ne (ne_of_none h hT)]; exact h
  have nT : ¬ Lv T := fun z => by obtain ⟨o, h⟩ := lv T z; rw [hT] at h; cases h
  have s : Stp H Lv (upd H T (.tup [kV k, v])) Lv := fun q o h n => ⟨.inl (gr q o h), n⟩
  refine ⟨gr, ?_⟩
  unfold itemsD at hu
  rw [List.getElem?_zipWith] at hu
  cases hu2 : us[i]? with
  | none => rw [hu2] at hu; simp [hk] at hu
  | some w =>
    rw [hu2, List.getElem?_map, hk] at hu
    simp only [Option.map_some, Option.some.injEq] at hu
    subst hu
    obtain ⟨v', h1, h2⟩ := g.2.2.get hu2
    simp only [List.getElem?_map, hk, Option.map_some, Option.some.injEq] at h1
    subst h1
    simp only [Rep]
    exact ⟨T, _, rfl, .inl ⟨.inl upd_same, nT⟩, Reps.cons (uKey_rep k) (Reps.one (h2.mono s (List.prefix_refl _)))⟩
end
def mItD (g : List Key → List U → List U) (f : Ex) : Iv := fun E B => (f E B).bind fun r E1 B1 =>
  match settle r E1 with
  | some (.dct ks us, E2) => .ok (g ks us, yes) E2 B1
  | _ => .bad
def keysD (ks : List Key) (_ : List U) : List U := ks.map uKey
def valsD (_ : List Key) (us : List U) : List U := us
section
variable {X : Cy} {a b c e i tg iter elt : Expr} {fa fb fe : Ex} {pos p p2 p3 cpos apos pos' tpos : Pos}
/-- the common part: what is locked is walked -/
theorem itD_reads {g : List Key → List U → List U} {J : Addr → Obj → List (Key × V) → It} (hJ : ∀ {K : PySem.W.Frag} {d : Addr} {o : Obj} {kvs : List (Key × V)} {us : List U}, us.length = kvs.length → WalkU K (J d o kvs) (g (kvs.map (·.1)) us) yes (GD K d o kvs us))
    {ta : TE} (ha : ∀ F ρ E B σ H Q, Rel X.K F ρ E B σ H → PostE X.K X.q F ρ E B σ H (fa E B) Q → ta σ H Q) :
    ∀ F ρ E B σ H (Rk : It → Hp → Prop), Rel X.K F ρ E B σ H →
    (match mItD g fa E B with
      | .ok w E' B' => ∀ ρ' H' J G, AftT X.K F ρ E B σ H ρ' E' B' H' → WalkU X.K J w.1 w.2 G → G H' (LvF F ρ' E' B' σ) ρ' → w.2 B' → Rk J H'
      | .ex c E' B' => ExQ X.K X.q F ρ c E' B'
      | .bad => False) → ∀ Q' : VK, (∀ d o kvs H1, H1 d = some (.frz o (.dK kvs)) → Rk (J d o kvs) H1 → Q' (.ref d) H1) → tLkD ta σ H Q' := by
  intro F ρ E B σ H Rk rl q Q' hQ
  refine ha F ρ E B σ H _ rl ?_
  simp only [mItD] at q
  cases h1 : fa E B with
  | bad => rw [h1] at q; exact q
  | ex c E' B' => rw [h1] at q ; first | exact q | exact Aft.exq (by assumption) q | exact AftT.exq (by assumption) q | exact Aft.exq (by assumption) (Aft.exq (by assumption) q) | exact AftT.exq (by assumption) (Aft.exq (by assumption) q) | exact AftT.exq (AftA.t (by assumption)) q | exact ExQ.px q (Aft.px (by assumption)) | exact ExQ.px q (List.IsPrefix.trans (AftT.px (by assumption)) (Aft.px (by assumption))) | exact Aft.exq (by assumption) (AftT.exq (by assumption) q) | exact Aft.exq (by assumption) (Aft.exq (by assumption) (AftT.exq (by assumption) q))
  | ok r1 E1 B1 =>
    rw [h1] at q
    intro ρ1 H1 v1 A1
    simp only [O.bind_ok] at q
    split at q
    · next w E' B' hw =>
      split at hw
      · next ks us E2 es =>
        cases hw
        obtain ⟨T1, R1⟩ := A1.settled es
        have R1' := R1
        simp only [Rep] at R1'
        obtain ⟨d, kvs, rfl, hd, nl, rfl, hr⟩ := R1'
        have hl : us.length = kvs.length := by have := hr.len; simpa using this
        refine ⟨d, kvs, rfl, ?_⟩
        rcases hd with hd | ⟨o, hd⟩
        · refine .inl ⟨hd, fun o => hQ d o kvs _ upd_same ?_⟩
          exact q ρ1 _ _ _ ⟨T1.px, T1.rel.lkD hd nl, T1.stp.trans (lk_stp hd), T1.le⟩ (hJ hl) ⟨upd_same, nl, hr.mono (lk_stp hd) (List.prefix_refl _)⟩ trivial
        · exact .inr ⟨o, hd, hQ d o kvs _ hd (q ρ1 _ _ _ T1 (hJ hl) ⟨hd, nl, hr⟩ trivial)⟩
      · cases hw
    · next hw => split at hw <;> cases hw
    · exact q.elim
theorem sndI_keys (ha : SndE X a fa) : SndI X tg a (mItD keysD fa) := by
  obtain ⟨ta, pa, ha⟩ := ha
  refine ⟨_, pi_keys (pe_lkD pa), fun F ρ E B σ H Rk rl q => ?_⟩
  exact itD_reads (g := keysD) (J := fun d o kvs => Itk d o kvs) (fun hl => walkU_keys) ha F ρ E B σ H Rk rl q _ fun d o kvs H1 h1 h2 => ⟨d, o, rfl, .inl ⟨kvs, h1, h2⟩⟩
theorem sndI_vals (ha : SndE X a fa) (hb : attributeBase a "values" X.env (eval a X.env) = eval a X.env := by rfl) (hl : (apos.endLine == cpos.line) = true := by rfl) : SndI X tg (.Call (.Attribute a "values" apos) [] [] cpos) (mItD valsD fa) := by
  obtain ⟨ta, pa, ha⟩ := ha
  refine ⟨_, pi_values (pe_lkD pa) hb hl, fun F ρ E B σ H Rk rl q => ?_⟩
  exact itD_reads (g := valsD) (J := fun d o kvs => Itd d o kvs) (fun hl => walkU_vals) ha F ρ E B σ H Rk rl q _ fun d o kvs H1 h1 h2 => ⟨d, o, kvs, rfl, h1, h2⟩
theorem sndI_items {elts : List Expr} {kk : Nat} (ha : SndE X a fa) (hb : attributeBase a "items" X.env (eval a X.env) = eval a X.env := by rfl) (hl : (apos.endLine == cpos.line) = true := by rfl) : SndI X (.Tuple elts kk tpos) (.Call (.Attribute a "items" apos) [] [] cpos) (mItD itemsD fa) := by
  obtain ⟨ta, pa, ha⟩ := ha
  refine ⟨_, pi_items (pe_lkD pa) hb hl, fun F ρ E B σ H Rk rl q => ?_⟩
  exact itD_reads (g := itemsD) (J := fun d o kvs => Iti d o kvs) (fun hl => walkU_items hl) ha F ρ E B σ H Rk rl q _ fun d o kvs H1 h1 h2 => ⟨d, o, kvs, rfl, h1, h2⟩
end
end QB
/-! QdE: split, startswith, index of texts; int(text). -/
namespace QB
open PySem L2
section
variable {X : Cy} {a b c e o : Expr} {es : List Expr} {fa fb fo fe : Ex} {pos p apos cpos : Pos}
def gSplit : U → List U → Option R
  | .str a, [.str b] => if (b.length == 0) = false ∧ a.length + 2 ≤ 16777216 then some (.fr (.lst ((Txt.split a b).map .str))) else none
  | _, _ => none
theorem meth_split : MethS X "str.split" gSplit := by
  refine ⟨_, mt_split, fun F ρ E B σ H z us vs r3 Q rl rs e q => ?_⟩
  unfold gSplit at e
  split at e
  · next a b hz =>
    injection hz with hz
    subst hz
    split at e
    · next hc =>
      cases e
      simp only [Reps, Rep] at rs
      obtain ⟨v, r, rfl, rfl, rfl⟩ := rs
      exact ⟨_, b, rfl, rfl, hc.1, by rw [sizeLine_eq]; exact hc.2, fun p hp => q _ _ (Aft.fresh rl hp (strs_reps _))⟩
    · cases e
  · cases e
def gStarts : U → List U → Option R
  | .str a, [.str b] => some (.w (.bl (Txt.startswith a b)))
  | _, _ => none
theorem meth_startswith : MethS X "str.startswith" gStarts := by
  refine ⟨_, mt_startswith, fun F ρ E B σ H z us vs r3 Q rl rs e q => ?_⟩
  unfold gStarts at e
  split at e
  · next a b hz =>
    injection hz with hz
    subst hz
    cases e
    simp only [Reps, Rep] at rs
    obtain ⟨v, r, rfl, rfl, rfl⟩ := rs
    exact ⟨_, b, rfl, rfl, q H _ (Aft.val rl (by simp [Rep]))⟩
  · cases e
def gEnds : U → List U → Option R
  | .str a, [.str b] => some (.w (.bl (Txt.endswith a b)))
  | _, _ => none
theorem meth_endswith : MethS X "str.endswith" gEnds := by
  refine ⟨_, mt_endswith, fun F ρ E B σ H z us vs r3 Q rl rs e q => ?_⟩
  unfold gEnds at e
  split at e
  · next a b hz =>
    injection hz with hz
    subst hz
    cases e
    simp only [Reps, Rep] at rs
    obtain ⟨v, r, rfl, rfl, rfl⟩ := rs
    exact ⟨_, b, rfl, rfl, q H _ (Aft.val rl (by simp [Rep]))⟩
  · cases e
/-- text.index(text) where it is found -/
def gSIndex : U → List U → Option R
  | .str a, [.str b] => match Builtin.Str.occurrences a b 0 a.length 1 with
    | i :: _ => some (.w (.int (i : Nat)))
    | [] => none
  | _, _ => none
theorem meth_sindex : MethS X "str.index" gSIndex := by
  refine ⟨_, mt_sindex, fun F ρ E B σ H z us vs r3 Q rl rs e q => ?_⟩
  unfold gSIndex at e
  split at e
  · next a b hz =>
    injection hz with hz
    subst hz
    split at e
    · next i rest hi =>
      cases e
      simp only [Reps, Rep] at rs
      obtain ⟨v, r, rfl, rfl, rfl⟩ := rs
      exact ⟨_, b, i, rest, rfl, rfl, hi, q H _ (Aft.val rl (by simp [Rep]))⟩
    · cases e
  · cases e
def gIntS : U → Option R
  | .str a => match PySem.intText? a with
    | some n => if a.length ≤ 640 then some (.w (.int n)) else none
    | none => none
  | _ => none
theorem call1_intS : Call1S X (.type "int") gIntS := by
  refine ⟨_, call_int_str, fun F ρ E B σ H u1 v1 r3 Q rl t e q => ?_⟩
  unfold gIntS at e
  split at e
  · next a =>
    split at e
    · next n hn =>
      split at e
      · next hl => cases e; exact ⟨a, n, by rw [top_str t], hn, hl, q H _ (Aft.val rl (by simp [Rep]))⟩
      · cases e
    · cases e
  · cases e
end
end QB
/-! QdF: match over a list by its length: case [a, b]: .. -/
namespace QB
open PySem L2 PyProof.Rows
def CapsIs : List Pattern → List Str → Prop
  | [], [] => True
  | p :: ps, n :: ns => (∃ pos, p = Pattern.MatchAs none (some n) pos) ∧ CapsIs ps ns
  | _, _ => False
theorem caps_len : ∀ {ps : List Pattern} {ns : List Str}, CapsIs ps ns → ps.length = ns.length
  | [], [], _ => rfl
  | _ :: _, _ :: _, h => by simp [caps_len h.2]
  | [], _ :: _, h => h.elim
  | _ :: _, [], h => h.elim
theorem caps_star : ∀ {ps : List Pattern} {ns : List Str}, CapsIs ps ns → ps.findIdx? (·.isStar) = none
  | [], [], _ => rfl
  | _ :: _, _ :: _, h => by
    obtain ⟨⟨pos, rfl⟩, h2⟩ := h
    rw [List.findIdx?_cons, caps_star h2]; rfl
  | [], _ :: _, h => h.elim
  | _ :: _, [], h => h.elim
theorem caps_wild {ps : List Pattern} {n : Str} {ns : List Str} (h : CapsIs ps (n :: ns)) : (ps.all fun p => p.isWildcard || (p.isStar && p.names.isEmpty)) = false := by
  cases ps with
  | nil => exact h.elim
  | cons p ps =>
    obtain ⟨⟨pos, rfl⟩, h2⟩ := h
    simp [Pattern.isWildcard, Pattern.isStar]
def setAll : List Nat → List V → L2.St → L2.St
  | i :: is, v :: vs, σ => setAll is vs (σ.set i (some v))
  | _, _, σ => σ
def bdAll : List Nat → List U → En → Option En
  | [], [], E => some E
  | i :: is, u :: us, E => (bdN i u E).bind (bdAll is us)
  | _, _, _ => none
inductive CapsOk (X : Cx) : List Str → List Nat → Prop where
  | nil : CapsOk X [] []
  | cons {n : Str} {i : Nat} {ns : List Str} {is : List Nat} (hi : X.N[i]? = some n) (hx : Loc X.env.scope n) (hf : X.fn n = true ∨ X.env.scope.names.lookup n = some .local) : CapsOk X ns is → CapsOk X (n :: ns) (i :: is)
section
variable {X : Cx} {pins : List (Addr × Obj)} {σ : L2.St} {H : Hp} {s : Shared} {E : Value → Shared → Prop}
theorem each_run : ∀ {ps : List Pattern} {ns : List Str} {us : List Value} {Q : Option (List (Str × Value)) → Shared → Prop} {s : Shared}, CapsIs ps ns → us.length = ns.length → Q (some (ns.zip us)) s → wpAny (model X.prog X.w) X.A (matchEach ps X.env us) Q E s
  | [], [], us, Q, s, _, hl, h => by
    cases us with
    | nil => exact wpAny_matchEach_nil h
    | cons _ _ => simp at hl
  | p :: ps, n :: ns, us, Q, s, hc, hl, h => by
    cases us with
    | nil => simp at hl
    | cons u us =>
      obtain ⟨⟨pos, rfl⟩, h2⟩ := hc
      refine wpAny_matchEach_cons (wpAny_matchPattern_Capture ?_)
      exact each_run h2 (by simpa using hl) (by simpa using h)
  | [], _ :: _, _, _, _, hc, _, _ => hc.elim
  | _ :: _, [], _, _, _, hc, _, _ => hc.elim
theorem binds_run (hN : X.N.Nodup) : ∀ {ns : List Str} {is : List Nat} {us : List Value} {vs : List V} {σ : L2.St} {s : Shared} {Q : Unit → Shared → Prop}, CapsOk X ns is → Vals vs us → L2.Inv X pins σ H s → us.length = ns.length → (∀ s', L2.Inv X pins (setAll is vs σ) H s' → Q () s') →
    wpAny (model X.prog X.w) X.A (assignInOrder ((ns.zip us).map fun (n, _) => bindName X.env n) ((ns.zip us).map (·.2))) Q E s
  | [], _, us, vs, σ, s, Q, hc, r, I, hl, h => by
    cases hc
    cases us with
    | nil => cases r; exact wpAny_assignInOrder_none (h s I)
    | cons _ _ => simp at hl
  | n :: ns, _, us, vs, σ, s, Q, hc, r, I, hl, h => by
    cases hc with
    | cons hi hx hf hr =>
      cases us with
      | nil => simp at hl
      | cons u us =>
        cases r with
        | cons r1 r2 =>
          refine wpAny_assignInOrder_more (wpAny_bindName (store_ok I hN hi hx r1 (fun s' I' => ?_) hf))
          exact binds_run hN hr r2 I' (by simpa using hl) h
inductive PLs (X : Cx) : List MatchCase → List (List Nat × TS) → Prop where
  | nil : PLs X [] []
  | cons {ps : List Pattern} {n : Str} {ns : List Str} {is : List Nat} {ppos : Pos} {body : List Stmt} {t : TS} {r : List MatchCase} {l : List (List Nat × TS)} : CapsIs ps (n :: ns) → CapsOk X (n :: ns) is → PSs X body t → PLs X r l → PLs X (⟨.MatchSequence ps ppos, none, body⟩ :: r) ((is, t) :: l)
theorem capsOk_len : ∀ {ns : List Str} {is : List Nat}, CapsOk X ns is → ns.length = is.length
  | _, _, .nil => rfl
  | _, _, .cons _ _ _ h => by simp [capsOk_len h]
def goL : List (List Nat × TS) → List V → TS
  | [], _ => fun D σ H => D.nx σ H
  | (is, t) :: l, xs => fun D σ H => if xs.length = is.length then t D (setAll is xs σ) H else goL l xs D σ H
theorem listcases_run (hcalm : X.calm = true) (hN : X.N.Nodup) {a : Addr} {xs : List V} (hq : SqL X.K H a xs) : ∀ {cs : List MatchCase} {l : List (List Nat × TS)}, PLs X cs l → ∀ (first : Bool) (D : Ends) {s : Shared}, L2.Inv X pins σ H s → goL l xs D σ H → wpAny (model X.prog X.w) X.A (matchCases cs X.env (.ref a) first) (SP X pins D) X.xe s
  | [], _, h, first, D, s, I, q => by
    cases h
    exact wpAny_matchCases_nil ⟨σ, H, I, q⟩
  | _ :: _, _, h, first, D, s, I, q => by
    cases h with
    | @cons ps n ns is ppos body t r l hp hc hb hr =>
      obtain ⟨its, rv, pl, hz⟩ := I.list hq
      have hsz : its.toArray.size = xs.length := by rw [List.size_toArray]; exact rv.length.symm
      have hfit : (its.toArray.size : Int) < 2 ^ 63 := by
        have : its.toArray.size ≤ 16777216 := by rw [hsz]; first | exact hz | (rw [← sizeLine_eq]; exact hz) | (have := rv.length; simp only [sizeLine_eq] at hz; omega)
        omega
      unfold goL at q
      by_cases hlen : xs.length = is.length
      · rw [if_pos hlen] at q
        have hpl : its.toArray.size = ps.length := by rw [hsz, hlen, caps_len hp, capsOk_len hc]
        refine wpAny_matchCases_cons (matchSeq_list_hit pl.isList hfit hpl ?_ (caps_star hp) (caps_wild hp))
        rw [← hpl]
        refine PySem.W.kun_itemsOf (I.ok.hd hcalm) pl.isList fun h' hx => ?_
        have I1 : L2.Inv X pins σ H { s with toks := s.toks + 1 + 1, heap := h' } := (I.tok _).kept (t' := s.toks + 1 + 1) fun b o e => hx b o (Nat.ne_of_lt (Heap.lt_size e)) e
        refine each_run hp (by rw [List.toList_toArray, ← caps_len hp, ← hpl, List.size_toArray]) ?_
        refine binds_run hN hc (by simpa using rv) I1 (by rw [List.toList_toArray, ← caps_len hp, ← hpl, List.size_toArray]) fun s' I2 => ?_
        exact hb.run pins s' _ H D I2 q
      · rw [if_neg hlen] at q
        refine wpAny_matchCases_cons (matchSeq_list_miss pl.isList hfit (by rw [hsz, caps_len hp, capsOk_len hc]; exact hlen) ?_ (caps_star hp) (caps_wild hp))
        exact listcases_run hcalm hN hq hr false D (I.tok _) q
def tMatchL (K : PySem.W.Frag) (t : TE) (l : List (List Nat × TS)) : TS := fun D σ H => t σ H fun v H1 => ∃ a xs, v = .ref a ∧ SqL K H1 a xs ∧ goL l xs D σ H1
theorem ps_matchL {e : Expr} {cs : List MatchCase} {t : TE} {l : List (List Nat × TS)} {pos : Pos} (hcalm : X.calm = true) (hN : X.N.Nodup) (he : PE X e t) (hc : PLs X cs l) : PS X (.Match e cs pos) (tMatchL X.K t l) := by
  refine ⟨fun pins s σ H D I h => ?_⟩
  refine wpAny_Match (thn (he.run pins s σ H _ I h) fun u s1 ⟨v, H1, I1, r, a, xs, e1, e2, q⟩ => ?_)
  subst e1
  obtain rfl : u = Value.ref a := r
  exact listcases_run hcalm hN e2 hc true D I1 q
end
/-! ### as a judgement -/
theorem bdN_ok {K : PySem.W.Frag} {F : Fm} {ρ : List Addr} {E E' : En} {B : Bx} {σ : L2.St} {H : Hp} {k : Nat} {u : U} {v : V} (rl : Rel K F ρ E B σ H) (hr : Rep K H (LvF F ρ E B σ) ρ u v) (h : bdN k u E = some E') :
    Rel K F ρ E' B (σ.set k (some v)) H ∧ ∀ q, LvF F ρ E' B (σ.set k (some v)) q → LvF F ρ E B σ q := by
  unfold bdN at h
  cases hE : E[k]? with
  | none => rw [hE] at h; cases h
  | some s =>
    have hk : k < E.length := (List.getElem?_eq_some_iff.mp hE).1
    rw [hE] at h
    cases s with
    | own c => cases h
    | un => cases h; exact ⟨rl.setVal hk hr, setVal_lv rl hk⟩
    | val w => cases h; exact ⟨rl.setVal hk hr, setVal_lv rl hk⟩
theorem bdAll_ok {K : PySem.W.Frag} {F : Fm} {ρ : List Addr} {B : Bx} {H : Hp} : ∀ {is : List Nat} {us : List U} {vs : List V} {E E' : En} {σ : L2.St}, Rel K F ρ E B σ H → Reps K H (LvF F ρ E B σ) ρ us vs → bdAll is us E = some E' → Rel K F ρ E' B (setAll is vs σ) H ∧ vs.length = is.length
  | [], [], vs, E, E', σ, rl, rs, h => by
    simp only [Reps] at rs
    subst rs
    simp only [bdAll, Option.some.injEq] at h
    subst h
    exact ⟨rl, rfl⟩
  | i :: is, u :: us, vs, E, E', σ, rl, rs, h => by
    simp only [Reps] at rs
    obtain ⟨v, r, rfl, h1, h2⟩ := rs
    simp only [bdAll, Option.bind_eq_some_iff] at h
    obtain ⟨E1, e1, e2⟩ := h
    obtain ⟨rl1, lv⟩ := bdN_ok rl h1 e1
    obtain ⟨rl2, hl⟩ := bdAll_ok rl1 (h2.mono (Stp.less lv) (List.prefix_refl _)) e2
    exact ⟨rl2, by simp [hl]⟩
  | [], _ :: _, _, _, _, _, _, _, h => by simp [bdAll] at h
  | _ :: _, [], _, _, _, _, _, _, h => by simp [bdAll] at h
def goLs : List (List Nat × Sm) → List U → Sm
  | [], _ => fun E B => .ok .nx E B
  | (is, f) :: l, us => fun E B => if us.length = is.length then (match bdAll is us E with
      | some E' => f E' B
      | none => .bad) else goLs l us E B
/-- match fe: case [..]: f .. -/
def sMatchL (fe : Ex) (l : List (List Nat × Sm)) : Sm := fun E B => (fe E B).bind fun r E1 B1 =>
  match settle r E1 with
  | some (.lst us, E2) => goLs l us E2 B1
  | _ => .bad
inductive SndLs (X : Cy) : List MatchCase → List (List Nat × Sm) → Prop where
  | nil : SndLs X [] []
  | cons {ps : List Pattern} {n : Str} {ns : List Str} {is : List Nat} {ppos : Pos} {body : List Stmt} {f : Sm} {r : List MatchCase} {l : List (List Nat × Sm)} : CapsIs ps (n :: ns) → CapsOk X (n :: ns) is → SndB X body f → SndLs X r l → SndLs X (⟨.MatchSequence ps ppos, none, body⟩ :: r) ((is, f) :: l)
theorem sndLs_t {X : Cy} : ∀ {cs : List MatchCase} {l : List (List Nat × Sm)}, SndLs X cs l → ∃ l', PLs X cs l' ∧ ∀ us vs F ρ E B σ H D, Rel X.K F ρ E B σ H → Reps X.K H (LvF F ρ E B σ) ρ us vs → PostS X.K X.q F ρ (goLs l us E B) D → goL l' vs D σ H
  | [], _, h => by
    cases h
    exact ⟨[], .nil, fun us vs F ρ E B σ H D rl rs q => q ρ σ H (List.prefix_refl _) rl⟩
  | _ :: _, _, h => by
    cases h with
    | cons hp hc hb hr =>
      obtain ⟨l', h1, h2⟩ := sndLs_t hr
      obtain ⟨t, p1, hb⟩ := hb
      refine ⟨_, .cons hp hc p1 h1, fun us vs F ρ E B σ H D rl rs q => ?_⟩
      unfold goLs at q
      unfold goL
      rw [← rs.len]
      split
      · next hk =>
        rw [if_pos hk] at q
        split at q
        · next E' hE => exact hb F ρ E' B _ H D (bdAll_ok rl rs hE).1 q
        · exact q.elim
      · next hk => rw [if_neg hk] at q; exact h2 us vs F ρ E B σ H D rl rs q
theorem sndS_matchL {X : Cy} {e : Expr} {fe : Ex} {cs : List MatchCase} {l : List (List Nat × Sm)} {pos : Pos} (hcalm : X.calm = true) (hN : X.N.Nodup) (he : SndE X e fe) (hc : SndLs X cs l) : SndS X (.Match e cs pos) (sMatchL fe l) := by
  obtain ⟨t, p1, he⟩ := he
  obtain ⟨l', h1, h2⟩ := sndLs_t hc
  refine ⟨_, ps_matchL hcalm hN p1 h1, fun F ρ E B σ H D rl q => ?_⟩
  refine he F ρ E B σ H _ rl ?_
  simp only [sMatchL] at q
  cases h3 : fe E B with
  | bad => rw [h3] at q; exact q
  | ex c E' B' => rw [h3] at q; exact q
  | ok r1 E1 B1 =>
    rw [h3] at q
    intro ρ1 H1 v1 A1
    simp only [O.bind_ok] at q
    split at q
    · next us E2 es =>
      obtain ⟨T1, R1⟩ := A1.settled es
      have R1' := R1
      simp only [Rep] at R1'
      obtain ⟨pp, vs, rfl, hq, hr⟩ := R1'
      exact ⟨pp, vs, rfl, .inl (.inl hq.1), h2 us vs F ρ1 E2 B1 σ H1 D T1.rel hr (q.px T1.px)⟩
    · exact q.elim
@[simp] theorem e_sMatchL {fe : Ex} {l : List (List Nat × Sm)} {E : En} {B : Bx} : sMatchL fe l E B = (fe E B).bind fun r E1 B1 =>
  match settle r E1 with
  | some (.lst us, E2) => goLs l us E2 B1
  | _ => .bad := (rfl)
@[simp] theorem e_goLs0 {us : List U} {E : En} {B : Bx} : goLs [] us E B = .ok .nx E B := (rfl)
@[simp] theorem e_goLs1 {is : List Nat} {f : Sm} {l : List (List Nat × Sm)} {us : List U} {E : En} {B : Bx} : goLs ((is, f) :: l) us E B = if us.length = is.length then (match bdAll is us E with
      | some E' => f E' B
      | none => .bad) else goLs l us E B := (rfl)
@[simp] theorem e_bdAll0 {E : En} : bdAll [] [] E = some E := (rfl)
@[simp] theorem e_bdAll1 {i : Nat} {is : List Nat} {u : U} {us : List U} {E : En} : bdAll (i :: is) (u :: us) E = (bdN i u E).bind (bdAll is us) := (rfl)
end QB
/-! QdG: for x in reversed(..); tuples of numbers and texts in order. -/
namespace QB
open PySem L2 RT
def mRevI (f : Ex) : Iv := fun E B => (f E B).bind fun r E1 B1 =>
  match settle r E1 with
  | some (.lst us, E2) => .ok (us.reverse, yes) E2 B1
  | _ => .bad
section
variable {X : Cy} {a b c e i tg iter elt : Expr} {fa fb fe : Ex} {pos p p2 p3 cpos apos pos' tpos : Pos}
theorem rev_at {α : Type} {l : List α} {i : Nat} {x : α} (h : l.reverse[i]? = some x) : i < l.length ∧ l[l.length - 1 - i]? = some x := by
  have hi : i < l.length := by
    have := (List.getElem?_eq_some_iff.mp h).1
    simpa using this
  rw [List.getElem?_reverse hi] at h
  exact ⟨hi, h⟩
theorem walkU_rev {K : PySem.W.Frag} {q : Addr} {us : List U} : WalkU K (Itv K q us.length) us.reverse yes (fun H Lv ρ => Rep K H Lv ρ (.lst us) (.ref q)) := by
  have un : ∀ {H Lv ρ}, Rep K H Lv ρ (.lst us) (.ref q) → ∃ vs, SqL K H q vs ∧ Reps K H Lv ρ us vs := fun {H Lv ρ} h => by
    simp only [Rep] at h
    obtain ⟨p, vs, e, h1, h2⟩ := h
    cases e
    exact ⟨vs, .inl (.inl h1.1), h2⟩
  refine ⟨fun H Lv ρ H' Lv' ρ' B' g s px _ _ => Rep.mono s px _ _ g, fun H Lv ρ i g hi => ?_, fun H Lv ρ g => ?_, fun H Lv ρ i u x H' g hu hy _ => ?_⟩
  · obtain ⟨vs, h1, h2⟩ := un g
    have hi' : i < us.length := by simpa using hi
    obtain ⟨v, h3, _⟩ := h2.get (List.getElem?_eq_getElem (show us.length - 1 - i < us.length by omega))
    exact ⟨hi', vs, v, h1, h3⟩
  · exact (by simp : us.length ≤ us.reverse.length)
  · obtain ⟨vs, h1, h2⟩ := un g
    obtain ⟨rfl, hy⟩ := hy
    obtain ⟨_, hu2⟩ := rev_at hu
    obtain ⟨v, h3, h4⟩ := h2.get hu2
    have := hy vs h1
    rw [h3] at this
    cases this
    exact ⟨fun _ _ z => z, h4⟩
theorem sndI_rev (hm : X.mg "reversed" = none) (ha : SndE X a fa) (hg : Gl X "reversed" := by rfl) (hs : starEach [a] X.env = (false, eval a X.env) :: starEach [] X.env := by rfl) : SndI X tg (.Call (.Name "reversed" p) [a] [] pos) (mRevI fa) := by
  obtain ⟨ta, pa, ha⟩ := ha
  refine ⟨_, pi_revA hg hm pa hs, fun F ρ E B σ H Rk rl q => ?_⟩
  refine ha F ρ E B σ H _ rl ?_
  simp only [mRevI] at q
  cases h1 : fa E B with
  | bad => rw [h1] at q; exact q
  | ex c E' B' => rw [h1] at q; exact q
  | ok r1 E1 B1 =>
    rw [h1] at q
    intro ρ1 H1 v1 A1
    simp only [O.bind_ok] at q
    cases hs2 : settle r1 E1 with
    | none => rw [hs2] at q; exact q.elim
    | some uE =>
      obtain ⟨u, E2⟩ := uE
      rw [hs2] at q
      cases u with
      | lst us =>
        obtain ⟨T1, R1⟩ := A1.settled hs2
        have R1' := R1
        simp only [Rep] at R1'
        obtain ⟨pp, vs, rfl, hq, hr⟩ := R1'
        refine ⟨pp, vs, rfl, .inl ⟨.inl (.inl hq.1), ?_⟩⟩
        rw [← hr.len]
        exact q ρ1 H1 _ _ T1 walkU_rev R1 trivial
      | _ => exact q.elim
@[simp] theorem e_mRevI {E : En} {B : Bx} : mRevI fa E B = (fa E B).bind fun r E1 B1 =>
  match settle r E1 with
  | some (.lst us, E2) => .ok (us.reverse, yes) E2 B1
  | _ => .bad := (rfl)
/-! ### tuples of numbers and texts -/
/-- the order's signs -/
inductive Ord where
  | lt | le | gt | ge
def Ord.op : Ord → CmpOp
  | .lt => .Lt
  | .le => .LtE
  | .gt => .Gt
  | .ge => .GtE
def Ord.onI : Ord → Int → Int → Bool
  | .lt, i, j => decide (i < j)
  | .le, i, j => decide (i ≤ j)
  | .gt, i, j => decide (j < i)
  | .ge, i, j => decide (j ≤ i)
def Ord.onS : Ord → Str → Str → Bool
  | .lt, x, y => decide (x.cps.toList < y.cps.toList)
  | .le, x, y => !decide (y.cps.toList < x.cps.toList)
  | .gt, x, y => decide (y.cps.toList < x.cps.toList)
  | .ge, x, y => !decide (x.cps.toList < y.cps.toList)
/-- alike, and in order, of two parts of one kind -/
def pairO (o : Ord) : U → U → Option (Bool × Bool)
  | .int i, .int j => some (i == j, o.onI i j)
  | .str x, .str y => some (x == y, o.onS x y)
  | _, _ => none
def lexO (o : Ord) (z : Bool) : List U → List U → Option Bool
  | a :: as, b :: bs => match pairO o a b, lexO o z as bs with
    | some (e, r), some k => some (if e = true then k else r)
    | _, _ => none
  | _, _ => some z
def Ord.onN : Ord → Nat → Nat → Bool
  | .lt, i, j => decide (i < j)
  | .le, i, j => decide (i ≤ j)
  | .gt, i, j => decide (i > j)
  | .ge, i, j => decide (i ≥ j)
def gTupO (o : Ord) (a b : U) : Option R :=
  match a, b with
  | .tup us, .tup ws => (lexO o (o.onN us.length ws.length) us ws).map fun k => .w (.bl k)
  | _, _ => none
end
def pairV (o : Ord) : V → V → Option (Bool × Bool)
  | .int i, .int j => some (i == j, o.onI i j)
  | .str x, .str y => some (x == y, o.onS x y)
  | _, _ => none
def lexV (o : Ord) (z : Bool) : List V → List V → Option Bool
  | a :: as, b :: bs => match pairV o a b, lexV o z as bs with
    | some (e, r), some k => some (if e = true then k else r)
    | _, _ => none
  | _, _ => some z
def atP (o : Ord) (xs ys : List V) (j : Nat) : Bool × Bool := match xs[j]?, ys[j]? with
  | some x, some y => (pairV o x y).getD (false, false)
  | _, _ => (false, false)
theorem lexV_at (o : Ord) (z : Bool) (xs ys : List V) : ∀ (m i : Nat) (k : Bool), min xs.length ys.length - i = m → lexV o z (xs.drop i) (ys.drop i) = some k → Ob.lexAt (fun j => (atP o xs ys j).1) (fun j => (atP o xs ys j).2) z i m = k
  | 0, i, k, hm, h => by
    rw [Ob.lexAt_zero]
    have : xs.drop i = [] ∨ ys.drop i = [] := by
      rcases Nat.le_total xs.length ys.length with h1 | h1
      · left; exact List.drop_eq_nil_of_le (by omega)
      · right; exact List.drop_eq_nil_of_le (by omega)
    rcases this with e | e
    · rw [e] at h; simpa [lexV] using h
    · rw [e] at h
      cases hx : xs.drop i <;> rw [hx] at h <;> simpa [lexV] using h
  | m + 1, i, k, hm, h => by
    have hx : i < xs.length := by omega
    have hy : i < ys.length := by omega
    rw [List.drop_eq_getElem_cons hx, List.drop_eq_getElem_cons hy] at h
    rw [Ob.lexAt_succ]
    unfold lexV at h
    cases hp : pairV o xs[i] ys[i] with
    | none => simp [hp] at h
    | some p =>
      obtain ⟨e, r⟩ := p
      cases hl : lexV o z (xs.drop (i + 1)) (ys.drop (i + 1)) with
      | none => simp [hp, hl] at h
      | some k' =>
        simp only [hp, hl, Option.some.injEq] at h
        have hat : atP o xs ys i = (e, r) := by
          unfold atP
          rw [List.getElem?_eq_getElem hx, List.getElem?_eq_getElem hy]
          simp [hp]
        simp only [hat]
        rw [lexV_at o z xs ys m (i + 1) k' (by omega) hl]
        exact h
theorem lexV_pair {o : Ord} {z : Bool} : ∀ {xs ys : List V} {k : Bool} {j : Nat} {x y : V}, lexV o z xs ys = some k → xs[j]? = some x → ys[j]? = some y → ∃ p, pairV o x y = some p
  | [], ys, k, j, x, y, h, h1, h2 => by simp at h1
  | _ :: _, [], k, j, x, y, h, h1, h2 => by simp at h2
  | a :: as, b :: bs, k, j, x, y, h, h1, h2 => by
    unfold lexV at h
    cases hp : pairV o a b with
    | none => simp [hp] at h
    | some p =>
      cases hl : lexV o z as bs with
      | none => simp [hp, hl] at h
      | some k' =>
        cases j with
        | zero => simp at h1 h2; subst h1 h2; exact ⟨p, hp⟩
        | succ j => exact lexV_pair hl (by simpa using h1) (by simpa using h2)
theorem rc_int (o : Ord) {A : Around} {s : Shared} (a b : Int) (t u : Tok) : Ob.RcOp o.op A s (.int a t) (.int b u) (o.onI a b) := by
  cases o
  · exact Ob.RcOp.lt_int a b t u
  · exact Ob.RcOp.le_int a b t u
  · exact Ob.RcOp.gt_int a b t u
  · exact Ob.RcOp.ge_int a b t u
theorem rc_str (o : Ord) {A : Around} {s : Shared} (a b : Str) (t u : Tok) : Ob.RcOp o.op A s (.str a t) (.str b u) (o.onS a b) := by
  cases o
  · exact fun _ _ _ _ h => PyProof.Rows.lt_str h
  · exact fun _ _ _ _ h => PySem.P.le_str h
  · exact fun _ _ _ _ h => PySem.P.gt_str h
  · exact fun _ _ _ _ h => PySem.P.ge_str h
theorem tup_run (o : Ord) {A : Around} {s : Shared} {l b : Addr} {items items2 : Array Value} {e r : Nat → Bool} (hl : s.heap.IsTuple l items) (hb : s.heap.IsTuple b items2) (hu : A.units < cLine)
    (he : ∀ j (h1 : j < items.size) (h2 : j < items2.size), SeqAt.EqAt A.in1 s items[j] items2[j] (e j))
    (hr : ∀ j (h1 : j < items.size) (h2 : j < items2.size), e j = false → Ob.RcOp o.op A.in1 s items[j] items2[j] (r j)) :
    Ob.RcOp o.op A s (.ref l) (.ref b) (Ob.lexAt e r (o.onN items.size items2.size) 0 (min items.size items2.size)) := by
  cases o
  · exact Ob.RcOp.tuples_lt hl hb hu he hr
  · exact Ob.RcOp.tuples_le hl hb hu he hr
  · exact Ob.RcOp.tuples_gt hl hb hu he hr
  · exact Ob.RcOp.tuples_ge hl hb hu he hr
def rTupO (K : PySem.W.Frag) (o : Ord) : R2 := fun x y H Q => ∃ a b xs ys k, x = .ref a ∧ y = .ref b ∧ SqT K H a xs ∧ SqT K H b ys ∧ lexV o (o.onN xs.length ys.length) xs ys = some k ∧ Q (.bl k) H
theorem op_tupO {X : Cx} (o : Ord) (hu : X.A.units < cLine) : OpR X (compareOp o.op) (rTupO X.K o) := by
  intro pins s σ H x y v u Q I rx ry h
  obtain ⟨a, b, xs, ys, k, rfl, rfl, ha, hb, hk, q⟩ := h
  cases rx
  cases ry
  obtain ⟨its, r1, p1, _⟩ := I.tuple ha
  obtain ⟨its2, r2, p2, _⟩ := I.tuple hb
  have e1 : its.toArray.size = xs.length := by rw [List.size_toArray]; exact r1.length.symm
  have e2 : its2.toArray.size = ys.length := by rw [List.size_toArray]; exact r2.length.symm
  have parts : ∀ j (h1 : j < its.toArray.size) (h2 : j < its2.toArray.size), ∃ p, atP o xs ys j = p ∧ SeqAt.EqAt X.A.in1 s its.toArray[j] its2.toArray[j] p.1 ∧ Ob.RcOp o.op X.A.in1 s its.toArray[j] its2.toArray[j] p.2 := fun j h1 h2 => by
    have hx : j < xs.length := by omega
    have hy : j < ys.length := by omega
    obtain ⟨p, hp⟩ := lexV_pair hk (List.getElem?_eq_getElem hx) (List.getElem?_eq_getElem hy)
    have hat : atP o xs ys j = p := by
      unfold atP
      rw [List.getElem?_eq_getElem hx, List.getElem?_eq_getElem hy]
      simp [hp]
    obtain ⟨w1, g1, q1⟩ := r1.get (List.getElem?_eq_getElem hx)
    obtain ⟨w2, g2, q2⟩ := r2.get (List.getElem?_eq_getElem hy)
    have f1 : its.toArray[j] = w1 := by
      have := (List.getElem?_eq_some_iff.mp g1).2
      simpa using this
    have f2 : its2.toArray[j] = w2 := by
      have := (List.getElem?_eq_some_iff.mp g2).2
      simpa using this
    rw [f1, f2]
    refine ⟨p, hat, ?_⟩
    revert hp q1 q2
    generalize xs[j] = x
    generalize ys[j] = y
    intro hp q1 q2
    cases x <;> cases y <;> simp only [pairV, Option.some.injEq] at hp <;> first | (cases hp; done) | skip
    · subst hp
      obtain ⟨t, rfl⟩ := q1
      obtain ⟨t', rfl⟩ := q2
      exact ⟨SeqAt.EqAt.int_int _ _ _ _, rc_int o _ _ _ _⟩
    · subst hp
      obtain ⟨t, rfl⟩ := q1
      obtain ⟨t', rfl⟩ := q2
      exact ⟨SeqAt.EqAt.str_str _ _ _ _, rc_str o _ _ _ _⟩
  have R := tup_run o (A := X.A) (s := s) (e := fun j => (atP o xs ys j).1) (r := fun j => (atP o xs ys j).2) p1 p2 hu (fun j h1 h2 => by obtain ⟨p, g1, g2, g3⟩ := parts j h1 h2; simp only [g1]; exact g2)
    (fun j h1 h2 _ => by obtain ⟨p, g1, g2, g3⟩ := parts j h1 h2; simp only [g1]; exact g3)
  rw [e1, e2, lexV_at o _ xs ys _ 0 k (by omega) (by simpa using hk)] at R
  have z : wpAny (model X.prog X.w) X.A (compareOp o.op (.ref a) (.ref b)) (EP X pins σ Q) X.xe s := by
    have := R X.prog X.w X.xe (EP X pins σ Q) ⟨.bl _, H, I, rfl, q⟩
    cases o <;> exact this
  exact z
theorem pairO_V {K : PySem.W.Frag} {H : Hp} {Lv : AS} {ρ : List Addr} {o : Ord} {u w : U} {x y : V} {p : Bool × Bool} (h1 : Rep K H Lv ρ u x) (h2 : Rep K H Lv ρ w y) (h : pairO o u w = some p) : pairV o x y = some p := by
  cases u <;> cases w <;> simp only [pairO, Option.some.injEq] at h <;> first | (cases h; done) | skip
  · simp only [Rep] at h1 h2; subst h1 h2 h; rfl
  · simp only [Rep] at h1 h2; subst h1 h2 h; rfl
theorem lexO_V {K : PySem.W.Frag} {H : Hp} {Lv : AS} {ρ : List Addr} {o : Ord} {z : Bool} : ∀ {us ws : List U} {xs ys : List V} {k : Bool}, Reps K H Lv ρ us xs → Reps K H Lv ρ ws ys → lexO o z us ws = some k → lexV o z xs ys = some k
  | [], ws, xs, ys, k, h1, h2, h => by simp only [Reps] at h1; subst h1; simpa [lexO, lexV] using h
  | u :: us, [], xs, ys, k, h1, h2, h => by
    simp only [Reps] at h1 h2
    obtain ⟨x, r, rfl, _⟩ := h1
    subst h2
    simpa [lexO, lexV] using h
  | u :: us, w :: ws, xs, ys, k, h1, h2, h => by
    simp only [Reps] at h1 h2
    obtain ⟨x, r, rfl, a1, a2⟩ := h1
    obtain ⟨y, r2, rfl, b1, b2⟩ := h2
    unfold lexO at h
    cases hp : pairO o u w with
    | none => simp [hp] at h
    | some p =>
      cases hl : lexO o z us ws with
      | none => simp [hp, hl] at h
      | some k' =>
        obtain ⟨e, rr⟩ := p
        simp only [hp, hl, Option.some.injEq] at h
        unfold lexV
        rw [pairO_V a1 b1 hp, lexO_V a2 b2 hl]
        simp [h]
theorem op2_tupO {X : Cy} (o : Ord) (hu : X.A.units < cLine) : Op2S X (compareOp o.op) (gTupO o) := by
  refine ⟨_, op_tupO o hu, fun F ρ E B σ H u1 u2 v1 v2 r3 Q rl t1 t2 e q => ?_⟩
  cases u1 <;> first | (cases e; done) | skip
  cases u2 <;> first | (cases e; done) | skip
  simp only [gTupO, Option.map_eq_some_iff] at e
  obtain ⟨k, e1, rfl⟩ := e
  obtain ⟨p1, xs, rfl, h1, h2⟩ := t1
  obtain ⟨p2, ys, rfl, h3, h4⟩ := t2
  exact ⟨p1, p2, xs, ys, k, rfl, rfl, sqT_of h1, sqT_of h3, by rw [← h2.len, ← h4.len]; exact lexO_V h2 h4 e1, q H _ (Aft.val rl (by simp [Rep]))⟩
end QB
/-! QdH: list.index; the new words as equations. -/
namespace QB
open PySem L2
def gLIdx (a y : U) : Option R :=
  match a with
  | .lst us => match flatU y, flatUs us with
    | some v, some vs => (vs.findIdx? fun z => eqV z v).map fun j => .w (.int (j : Nat))
    | _, _ => none
  | _ => none
def mLIdx (fo fe : Ex) : Ex := fun E B => (fo E B).bind fun r E1 B1 =>
  match view r E1 B1 with
  | some (.lst _) => (mCons fe mNil E1 B1).bind fun us E2 B2 =>
    match us, view r E2 B2 with
    | [u], some a => match gLIdx a u with
      | some r3 => .ok r3 E2 B2
      | none => .bad
    | _, _ => .bad
  | _ => .bad
section
variable {X : Cy} {a b c e o i : Expr} {fa fb fo fe : Ex} {pos p apos cpos : Pos}
theorem sndE_lindex (ho : SndE X o fo) (ha : SndE X e fe) (hb : attributeBase o "index" X.env (eval o X.env) = eval o X.env := by rfl)
    (h3 : (((backTo cpos (starEach [e] X.env)).all fun x => !x.1) && (backToKw cpos (keywordEach [] X.env)).all (·.1.isSome) && decide ([e].length + ([] : List Keyword).length + (if ([] : List Keyword).isEmpty = true then 0 else 1) < 30)) = true := by rfl)
    (hl : (apos.endLine == cpos.line) = true := by rfl) (hs : starEach [e] X.env = (false, eval e X.env) :: starEach [] X.env := by rfl) : SndE X (.Call (.Attribute o "index" apos) [e] [] cpos) (mLIdx fo fe) := by
  obtain ⟨to, po, ho⟩ := ho
  obtain ⟨t, pt, ht⟩ := sndA_cons ha sndA_nil hs
  refine ⟨_, pe_bm PySem.F.plainAttrs_list PySem.F.slot_list_index PySem.F.type_list_index mt_index po pt hb h3 hl hs, fun F ρ E B σ H Q rl q => ?_⟩
  refine ho F ρ E B σ H _ rl ?_
  simp only [mLIdx] at q
  cases h1 : fo E B with
  | bad => rw [h1] at q; exact q
  | ex c E' B' => rw [h1] at q; exact q
  | ok r1 E1 B1 =>
    rw [h1] at q
    intro ρ1 H1 v1 A1
    simp only [O.bind_ok] at q
    split at q
    · next xs0 hv0 =>
      obtain ⟨p0, vs0, rfl, hp0, _⟩ := A1.top hv0
      refine ⟨.inl ⟨rfl, vs0, .inl (.inl hp0)⟩, ?_⟩
      refine ht _ ρ1 E1 B1 σ H1 _ A1.rel ?_
      cases h2 : mCons fe mNil E1 B1 with
      | bad => rw [h2] at q; exact q
      | ex c E' B' => rw [h2] at q; exact Aft.exq A1 q
      | ok us E2 B2 =>
        rw [h2] at q
        intro ρ2 H2 vs A2
        simp only [O.bind_ok] at q
        have A12 := A1.carry A2.t
        have T := A12.letgo
        split at q
        · next u a hv =>
          split at q
          · next r3 hg =>
            have R2 := A2.reps
            simp only [Reps] at R2
            obtain ⟨v, rr, rfl, hru, rfl⟩ := R2
            have t0 := A12.top hv
            cases a <;> first | (cases hg; done) | skip
            next ws =>
            obtain ⟨pp, xs, ep, hxs, hrs⟩ := t0
            simp only [gLIdx] at hg
            split at hg
            · next fv fvs e1 e2 =>
              simp only [Option.map_eq_some_iff] at hg
              obtain ⟨j, hj, rfl⟩ := hg
              have hru' : Top X.K H2 (LvF (F.addR H1 r1 (.ref p0)) ρ2 E2 B2 σ) ρ2 u v := hru.top fun i z => by subst z; cases e1
              obtain ⟨g1, g2⟩ := flatU_top hru' e1
              obtain ⟨g3, g4⟩ := flatUs_reps hrs e2
              subst g1 g3
              obtain ⟨hlt, hz, hno⟩ := List.findIdx?_eq_some_iff_getElem.mp hj
              refine ⟨pp, xs, v, j, xs[j], ep, rfl, .inl (.inl hxs), g2, g4, List.getElem?_eq_getElem hlt, hz, fun m z' hm hz' => ?_, ?_⟩
              · have hml : m < xs.length := by omega
                rw [List.getElem?_eq_getElem hml] at hz'
                cases hz'
                have := hno m hm
                simpa using this
              · exact q ρ2 _ _ (T.then (Aft.val T.rel (by simp [Rep])))
            · cases hg
          · exact q.elim
        · exact q.elim
    · exact q.elim
end
end QB
/-! QdI: a box that comes to rest. -/
namespace QB
open PySem L2
section
variable {K : PySem.W.Frag} {F : Fm} {ρ : List Addr} {E : En} {B : Bx} {σ : L2.St} {H : Hp} {p : Addr} {j : Nat} {c : Cell}
theorem Rel.melt (r : Rel K F ρ E B σ H) (h : B[j]? = some c) (hl : c.live = true) (hp : ρ[j]? = some p) :
    Rel K F ρ E (B.set j .dead) σ H ∧ (∀ q, LvF F ρ E (B.set j .dead) σ q → LvF F ρ E B σ q) ∧ Rep K H (LvF F ρ E (B.set j .dead) σ) ρ c.toU (.ref p) := by
  obtain ⟨hc, ho⟩ := r.box j c p h hl hp
  have hj : j < B.length := (List.getElem?_eq_some_iff.mp h).1
  have px : ρ <+: ρ := List.prefix_refl _
  have stay : ∀ (i : Nat) (d : Cell), (B.set j .dead)[i]? = some d → d.live = true → B[i]? = some d ∧ i ≠ j := fun i d e hd => by
    by_cases hi : j = i
    · subst hi; rw [List.getElem?_set_self hj] at e; cases e; cases hd
    · rw [List.getElem?_set_ne hi] at e; exact ⟨e, fun z => hi z.symm⟩
  have lessB : ∀ q, BLv ρ (B.set j .dead) q → BLv ρ B q := fun q ⟨i, d, h1, h2, h3⟩ => ⟨i, d, (stay i d h1 h2).1, h2, h3⟩
  have less : ∀ q, LvF F ρ E (B.set j .dead) σ q → LvF F ρ E B σ q := fun q z => by
    rcases z with z | z | z
    · exact .inl z
    · exact .inr (.inl (lessB q z))
    · exact .inr (.inr z)
  have nl : ¬ LvF F ρ E (B.set j .dead) σ p := by
    rintro (z | ⟨i, d, h1, h2, h3⟩ | ⟨i, d, h1, h2⟩)
    · exact ho z
    · obtain ⟨h4, h5⟩ := stay i d h1 h2
      exact h5 (r.binj i j d c p h4 h2 h hl h3 hp)
    · obtain ⟨_, q, h3, _, _, h5⟩ := r.own i d h1
      rw [h3] at h2
      have e : q = p := by simpa using h2
      subst e
      exact h5 ⟨j, c, h, hl, hp⟩
  have s : Stp H (LvF F ρ E B σ) H (LvF F ρ E (B.set j .dead) σ) := Stp.less less
  refine ⟨⟨r.elen, by rw [List.length_set]; exact r.blen, fun i u e => ?_, fun i d e => ?_, r.oinj, fun i d q e1 e2 e3 => ?_, fun i k d f q e1 e2 e3 e4 e5 e6 => ?_, r.out, r.old.trans s, r.grow⟩, less, (hc.mono s px rfl).rep hl nl⟩
  · obtain ⟨v, h1, h2⟩ := r.val i u e
    exact ⟨v, h1, h2.mono s px⟩
  · obtain ⟨h1, q, h2, h3, h4, h5⟩ := r.own i d e
    exact ⟨h1, q, h2, h3.mono s px rfl, h4, fun z => h5 (lessB q z)⟩
  · obtain ⟨h4, h5⟩ := r.box i d q (stay i d e1 e2).1 e2 e3
    exact ⟨h4.mono s px rfl, h5⟩
  · exact r.binj i k d f q (stay i d e1 e2).1 e2 (stay k f e3 e4).1 e4 e5 e6
end
/-- a box that nobody changes any more becomes a tree -/
def mMelt (f : Ex) : Ex := fun E B => (f E B).bind fun r E1 B1 =>
  match r with
  | .w (.box j) => match B1[j]? with
    | some c => if c.live = true then .ok (.w c.toU) E1 (B1.set j .dead) else .bad
    | none => .bad
  | _ => .bad
section
variable {X : Cy} {a : Expr} {fa : Ex}
theorem sndE_melt (ha : SndE X a fa) : SndE X a (mMelt fa) := by
  obtain ⟨t, p1, ha⟩ := ha
  refine ⟨t, p1, fun F ρ E B σ H Q rl q => ?_⟩
  refine ha F ρ E B σ H _ rl ?_
  simp only [mMelt] at q
  cases h1 : fa E B with
  | bad => rw [h1] at q; exact q
  | ex c E' B' => rw [h1] at q; exact q
  | ok r1 E1 B1 =>
    rw [h1] at q
    intro ρ1 H1 v1 A1
    simp only [O.bind_ok] at q
    split at q
    · next r' j =>
      split at q
      · next c hc =>
        split at q
        · next hl =>
          have rr := A1.rep
          simp only [RepR, Rep] at rr
          obtain ⟨pp, hp, rfl⟩ := rr
          have r0 : Rel X.K F ρ1 E1 B1 σ H1 := A1.rel
          obtain ⟨r2, less, rp⟩ := Rel.melt r0 hc hl hp
          exact q ρ1 H1 _ ⟨A1.px, r2, A1.stp.trans (Stp.less less), A1.le, rp⟩
        · exact q.elim
      · exact q.elim
    · exact q.elim
end
theorem hu0_of {k : Nat} {A : Around} (hr : Room k A) : A.units < cLine := by have := hr.units; omega
/-! ### the new words as equations -/
section
variable {E : En} {B : Bx} {fa fb fo fe fi : Ex}
@[simp] theorem e_mMelt : mMelt fa E B = (fa E B).bind fun r E1 B1 =>
  match r with
  | .w (.box j) => match B1[j]? with
    | some c => if c.live = true then .ok (.w c.toU) E1 (B1.set j .dead) else .bad
    | none => .bad
  | _ => .bad := (rfl)
@[simp] theorem e_mDct0 : mDct0 E B = .ok (.fr (.dct [] [])) E B := (rfl)
@[simp] theorem e_sDSt : sDSt fe fo fi E B = (fe E B).bind fun r0 E0 B0 =>
  match settle r0 E0 with
  | none => .bad
  | some (u, E0') => (fo E0' B0).bind fun r E1 B1 => (fi E1 B1).bind fun ri E2 B2 =>
    match ri, cellOf r E2 B2 with
    | .w ku, some (.dct ks us) => match keyU ku with
      | some k => if ks.length < 16777216 then .ok .nx (put r E2 B2 (.dct (putKs ks k) (putVs ks us k u))).1 (put r E2 B2 (.dct (putKs ks k) (putVs ks us k u))).2 else .bad
      | none => .bad
    | _, _ => .bad := (rfl)
@[simp] theorem e_mItD {g : List Key → List U → List U} : mItD g fa E B = (fa E B).bind fun r E1 B1 =>
  match settle r E1 with
  | some (.dct ks us, E2) => .ok (g ks us, yes) E2 B1
  | _ => .bad := (rfl)
@[simp] theorem e_mLIdx : mLIdx fo fe E B = (fo E B).bind fun r E1 B1 =>
  match view r E1 B1 with
  | some (.lst _) => (mCons fe mNil E1 B1).bind fun us E2 B2 =>
    match us, view r E2 B2 with
    | [u], some a => match gLIdx a u with
      | some r3 => .ok r3 E2 B2
      | none => .bad
    | _, _ => .bad
  | _ => .bad := (rfl)
end
end QB
/-! QdJ: texts split and joined at one sign. -/
namespace QB
open PySem L2 PySem.StrLaws PySem.Builtin.Str
def consH (p : List Nat) : List (List Nat) → List (List Nat)
  | q :: r => (p ++ q) :: r
  | [] => [p]
def splitC (c : Nat) : List Nat → List (List Nat)
  | [] => [[]]
  | x :: r => if x = c then [] :: splitC c r else consH [x] (splitC c r)
def posC (c : Nat) : List Nat → Nat → List Nat
  | [], _ => []
  | x :: r, k => if x = c then k :: posC c r (k + 1) else posC c r (k + 1)
theorem consH_app (p q : List Nat) (s : List (List Nat)) : consH p (consH q s) = consH (p ++ q) s := by
  cases s <;> simp [consH]
theorem consH_nil (s : List (List Nat)) (h : s ≠ []) : consH [] s = s := by
  cases s with
  | nil => exact absurd rfl h
  | cons _ _ => rfl
theorem consH_ne (p : List Nat) (s : List (List Nat)) : consH p s ≠ [] := by cases s <;> simp [consH]
theorem splitC_ne (c : Nat) : ∀ l, splitC c l ≠ []
  | [] => by simp [splitC]
  | x :: r => by
    unfold splitC
    split
    · simp
    · exact consH_ne _ _
theorem occ_all (l : List Nat) (c : Nat) : ∀ (n i free : Nat) (acc : Array Nat), i + n = l.length + 1 → free ≤ i → acc.size ≤ i →
    (forIn (List.range' i n) (acc, free) (occBody (ofC l) ⟨#[c]⟩ l.length (l.length + 1))).run.fst.toList = acc.toList ++ posC c (l.drop i) i
  | 0, i, free, acc, h, hf, ha => by
    rw [List.drop_eq_nil_of_le (by omega)]
    simp [posC]
  | n + 1, i, free, acc, h, hf, ha => by
    rw [List.range'_succ, List.forIn_cons]
    have key := subAt_one (ofC l) c i
    rw [ofC_len, ofC_cps] at key
    by_cases hc : l[i]? = some c
    · have k2 := key.mpr hc
      have hlt : i < l.length := (List.getElem?_eq_some_iff.mp hc).1
      have e : (occBody (ofC l) ⟨#[c]⟩ l.length (l.length + 1) i (acc, free)) = pure (ForInStep.yield (acc.push i, i + (⟨#[c]⟩ : Str).length)) := by
        unfold occBody
        rw [if_pos ⟨⟨⟨by simp; omega, hf⟩, k2.1⟩, k2.2⟩]
      rw [e]
      show (forIn (List.range' (i + 1) n) (acc.push i, i + (⟨#[c]⟩ : Str).length) (occBody (ofC l) ⟨#[c]⟩ l.length (l.length + 1))).run.fst.toList = _
      rw [occ_all l c n (i + 1) _ _ (by omega) (by simp [Str.length]) (by simp; omega), List.drop_eq_getElem_cons hlt, posC, if_pos ((List.getElem?_eq_some_iff.mp hc).2)]
      simp
    · have e : (occBody (ofC l) ⟨#[c]⟩ l.length (l.length + 1) i (acc, free)) = pure (ForInStep.yield (acc, free)) := by
        unfold occBody
        rw [if_neg (fun z => hc (key.mp ⟨z.1.2, z.2⟩))]
      rw [e]
      show (forIn (List.range' (i + 1) n) (acc, free) (occBody (ofC l) ⟨#[c]⟩ l.length (l.length + 1))).run.fst.toList = _
      rw [occ_all l c n (i + 1) free acc (by omega) (by omega) (by omega)]
      by_cases hlt : i < l.length
      · rw [List.drop_eq_getElem_cons hlt, posC, if_neg (fun z => hc (by rw [List.getElem?_eq_getElem hlt, z]))]
      · rw [List.drop_eq_nil_of_le (by omega : l.length ≤ i), List.drop_eq_nil_of_le (by omega)]; rfl
theorem occ_pos (l : List Nat) (c : Nat) : Builtin.Str.occurrences (ofC l) (ofC [c]) 0 l.length (l.length + 1) = posC c l 0 := by
  rw [occ_eq]
  have := occ_all l c (l.length + 1) 0 0 #[] (by omega) (Nat.le_refl _) (by simp)
  simpa using this
theorem sub_ofC (l : List Nat) (i j : Nat) : strSub (ofC l) i j = ofC ((l.drop i).take (j - i)) := by
  apply str_ext
  show (strSub (ofC l) i j).cps.toList = _
  rw [strSub_toList]; rfl
theorem parts_eq (l : List Nat) (c : Nat) : ∀ (n k a : Nat), k + n = l.length → a ≤ k →
    partsFrom (ofC l) 1 a (posC c (l.drop k) k) = (consH ((l.drop a).take (k - a)) (splitC c (l.drop k))).map ofC
  | 0, k, a, h, ha => by
    rw [List.drop_eq_nil_of_le (by omega)]
    simp only [posC, partsFrom, splitC, consH, List.map_cons, List.map_nil, List.append_nil]
    rw [sub_ofC, ofC_len, show l.length = k by omega]
  | n + 1, k, a, h, ha => by
    have hlt : k < l.length := by omega
    rw [List.drop_eq_getElem_cons hlt, posC, splitC]
    have step : (l.drop a).take (k + 1 - a) = (l.drop a).take (k - a) ++ [l[k]] := by
      rw [show k + 1 - a = (k - a) + 1 by omega, List.take_succ]
      congr 1
      rw [List.getElem?_drop, show a + (k - a) = k by omega, List.getElem?_eq_getElem hlt]
      rfl
    by_cases hc : l[k] = c
    · rw [if_pos hc, if_pos hc, partsFrom, parts_eq l c n (k + 1) (k + 1) (by omega) (Nat.le_refl _), sub_ofC]
      rw [Nat.sub_self, List.take_zero, consH_nil _ (splitC_ne _ _)]
      simp [consH]
    · rw [if_neg hc, if_neg hc, parts_eq l c n (k + 1) a (by omega) (by omega), step, consH_app]
theorem kind_ge (x : Str) : 1 ≤ Builtin.Str.strKind x := by unfold Builtin.Str.strKind; split <;> (try split) <;> omega
theorem split_one (l : List Nat) (c : Nat) (hc : c < 256) : Txt.split (ofC l) (ofC [c]) = (splitC c l).map ofC := by
  have p := parts_eq l c l.length 0 0 (by omega) (Nat.le_refl _)
  simp only [List.drop_zero, Nat.sub_self, List.take_zero] at p
  rw [consH_nil _ (splitC_ne _ _)] at p
  have k1 : Builtin.Str.strKind (ofC [c]) = 1 := by
    have : (ofC [c]).cps.all (· < 256) = true := by
      rw [← Array.all_toList]
      show ([c].all fun x => decide (x < 256)) = true
      simpa using hc
    unfold Builtin.Str.strKind
    rw [if_pos this]
  unfold Txt.split
  by_cases h0 : l = []
  · subst h0
    rw [if_pos (by simp)]
    rfl
  · have h1 : 1 ≤ l.length := by cases l with
      | nil => exact absurd rfl h0
      | cons _ _ => simp
    have := kind_ge (ofC l)
    have hk : ¬ (decide ((ofC l).length < (ofC [c]).length) || decide (Builtin.Str.strKind (ofC l) < Builtin.Str.strKind (ofC [c]))) = true := by
      rw [k1, ofC_len, ofC_len, Bool.or_eq_true, decide_eq_true_eq, decide_eq_true_eq]
      simp only [List.length_cons, List.length_nil]
      omega
    rw [if_neg hk, ofC_len, occ_pos]
    by_cases h2 : (posC c l 0).isEmpty = true
    · rw [if_pos h2, ← p, List.isEmpty_iff.mp h2, partsFrom, sub_ofC]
      simp
    · rw [if_neg h2, partsBetween_eq, ofC_len]
      exact p
/-! ### laws of splitC -/
theorem splitC_app (c : Nat) : ∀ a b : List Nat, splitC c (a ++ c :: b) = splitC c a ++ splitC c b
  | [], b => by simp [splitC]
  | x :: a, b => by
    rw [List.cons_append, splitC, splitC, splitC_app c a b]
    by_cases h : x = c
    · rw [if_pos h, if_pos h]; rfl
    · rw [if_neg h, if_neg h]
      cases hs : splitC c a with
      | nil => exact absurd hs (splitC_ne _ _)
      | cons p q => rfl
theorem splitC_no (c : Nat) : ∀ l : List Nat, c ∉ l → splitC c l = [l]
  | [], _ => rfl
  | x :: l, h => by
    rw [splitC, if_neg (fun e => h (by rw [e]; exact List.mem_cons_self ..)), splitC_no c l (fun z => h (List.mem_cons_of_mem _ z))]
    rfl
def weigh (ls : List (List Nat)) : Nat := (ls.map List.length).sum + ls.length
theorem weigh_consH (p : List Nat) (s : List (List Nat)) (h : s ≠ []) : weigh (consH p s) = p.length + weigh s := by
  cases s with
  | nil => exact absurd rfl h
  | cons q r => simp [weigh, consH]; omega
theorem splitC_weigh (c : Nat) : ∀ l : List Nat, weigh (splitC c l) = l.length + 1
  | [] => rfl
  | x :: l => by
    rw [splitC]
    split
    · have := splitC_weigh c l
      simp only [weigh, List.map_cons, List.sum_cons, List.length_cons, List.length_nil] at this ⊢
      omega
    · rw [weigh_consH _ _ (splitC_ne _ _), splitC_weigh c l]; simp; omega
theorem splitC_len (c : Nat) (l : List Nat) : (splitC c l).length ≤ l.length + 1 := by
  have := splitC_weigh c l
  unfold weigh at this
  omega
def joinC (sep : List Nat) : List (List Nat) → List Nat
  | [] => []
  | [l] => l
  | l :: m :: r => l ++ sep ++ joinC sep (m :: r)
theorem sjoinC (sep : List Nat) : ∀ ls : List (List Nat), Str.join (ofC sep) (ls.map ofC) = ofC (joinC sep ls)
  | [] => rfl
  | [l] => by simp [Str.join, joinC]
  | l :: m :: r => by
    have ih := sjoinC sep (m :: r)
    simp only [List.map_cons, Str.join, joinC] at ih ⊢
    rw [ih]
    simp
theorem e_joinC {sep : List Nat} {ls : List (List Nat)} (h : (ls.map List.length).sum + ls.length * sep.length ≤ 16777216) : gJoin (.str (ofC sep)) [.lst (ls.map fun l => .str (ofC l))] = some (.w (.str (ofC (joinC sep ls)))) := by
  have e : (List.map (fun x => x.length) (ls.map ofC)).sum = (ls.map List.length).sum := by
    simp [Function.comp_def]
  have e2 : Txt.join (ofC sep) (ls.map ofC) = ofC (joinC sep ls) := by
    show Builtin.Str.glued _ _ = _
    rw [StrLaws.glued_eq_join, sjoinC]
  simp only [gJoin, strsOf_map, e2, e, List.length_map, ofC_len]
  rw [if_pos h]
theorem joinC_len (sep : List Nat) : ∀ ls : List (List Nat), (joinC sep ls).length ≤ (ls.map List.length).sum + ls.length * sep.length
  | [] => by simp [joinC]
  | [l] => by simp [joinC]
  | l :: m :: r => by
    have ih := joinC_len sep (m :: r)
    simp only [joinC, List.map_cons, List.sum_cons, List.length_cons, List.length_append, Nat.add_mul, Nat.one_mul] at ih ⊢
    omega
theorem e_splitC {l : List Nat} {c : Nat} (hc : c < 256) (h : l.length + 2 ≤ 16777216) : gSplit (.str (ofC l)) [.str (ofC [c])] = some (.fr (.lst ((splitC c l).map fun p => .str (ofC p)))) := by
  unfold gSplit
  simp only
  rw [if_pos ⟨by simp, by simpa using h⟩, split_one l c hc]
  simp [Function.comp_def]
/-! ### a slice of the script -/
section
variable {X : Cy} {a : Expr} {fa : Ex} {pos p2 : Pos}
def gSlS (u : U) (lo hi : Option Int) : Option R :=
  match u with
  | .scr ns => some (.fr (.lst (cutU (ns.map U.int) lo hi)))
  | _ => none
def mSlS (fa : Ex) (fl fh : En → Bx → O (Option Int)) : Ex := fun E B =>
  (fa E B).bind fun r E1 B1 => (fl E1 B1).bind fun lo E2 B2 => (fh E2 B2).bind fun hi E3 B3 =>
    match view r E3 B3 with
    | some u => match gSlS u lo hi with
      | some r => .ok r E3 B3
      | none => .bad
    | none => .bad
theorem ints_reps {K : PySem.W.Frag} {H : Hp} {Lv : AS} {ρ : List Addr} : ∀ ns : List Int, Reps K H Lv ρ (ns.map U.int) (ns.map V.int)
  | [] => Reps.nil
  | n :: ns => Reps.cons (by simp [Rep]) (ints_reps ns)
theorem sndE_slS {lo hi : Option Expr} {fl fh : En → Bx → O (Option Int)} (ha : SndE X a fa) (hl : SndO X lo fl) (hh : SndO X hi fh) : SndE X (.Subscript a (.Slice lo hi none p2) pos) (mSlS fa fl fh) := by
  obtain ⟨ta, pa, ha⟩ := ha
  obtain ⟨tl, pl, hl⟩ := hl
  obtain ⟨th, ph, hh⟩ := hh
  refine ⟨_, pe_slice ((sl_list.or sl_tupA).or sl_str) pa pl ph, fun F ρ E B σ H Q rl h => ?_⟩
  refine ha F ρ E B σ H _ rl ?_
  simp only [mSlS] at h
  cases h1 : fa E B with
  | bad => rw [h1] at h; exact h
  | ex c E' B' => rw [h1] at h ; first | exact h | exact Aft.exq (by assumption) h | exact AftT.exq (by assumption) h | exact Aft.exq (by assumption) (Aft.exq (by assumption) h) | exact AftT.exq (by assumption) (Aft.exq (by assumption) h) | exact AftT.exq (AftA.t (by assumption)) h | exact ExQ.px h (Aft.px (by assumption)) | exact ExQ.px h (List.IsPrefix.trans (AftT.px (by assumption)) (Aft.px (by assumption))) | exact Aft.exq (by assumption) (AftT.exq (by assumption) h) | exact Aft.exq (by assumption) (Aft.exq (by assumption) (AftT.exq (by assumption) h))
  | ok r1 E1 B1 =>
    rw [h1] at h
    intro ρ1 H1 v1 A1
    simp only [O.bind_ok] at h
    refine hl _ ρ1 E1 B1 σ H1 _ A1.rel ?_
    cases h2 : fl E1 B1 with
    | bad => rw [h2] at h; exact h
    | ex c E' B' => rw [h2] at h ; first | exact h | exact Aft.exq (by assumption) h | exact AftT.exq (by assumption) h | exact Aft.exq (by assumption) (Aft.exq (by assumption) h) | exact AftT.exq (by assumption) (Aft.exq (by assumption) h) | exact AftT.exq (AftA.t (by assumption)) h | exact ExQ.px h (Aft.px (by assumption)) | exact ExQ.px h (List.IsPrefix.trans (AftT.px (by assumption)) (Aft.px (by assumption))) | exact Aft.exq (by assumption) (AftT.exq (by assumption) h) | exact Aft.exq (by assumption) (Aft.exq (by assumption) (AftT.exq (by assumption) h))
    | ok lo E2 B2 =>
      rw [h2] at h
      simp only [O.bind_ok] at h
      intro ρ2 H2 A2
      have A12 := A1.carry A2
      refine hh _ ρ2 E2 B2 σ H2 _ A12.rel ?_
      cases h3 : fh E2 B2 with
      | bad => rw [h3] at h; exact h
      | ex c E' B' => rw [h3] at h ; first | exact h | exact Aft.exq (by assumption) h | exact AftT.exq (by assumption) h | exact Aft.exq (by assumption) (Aft.exq (by assumption) h) | exact AftT.exq (by assumption) (Aft.exq (by assumption) h) | exact AftT.exq (AftA.t (by assumption)) h | exact ExQ.px h (Aft.px (by assumption)) | exact ExQ.px h (List.IsPrefix.trans (AftT.px (by assumption)) (Aft.px (by assumption))) | exact Aft.exq (by assumption) (AftT.exq (by assumption) h) | exact Aft.exq (by assumption) (Aft.exq (by assumption) (AftT.exq (by assumption) h))
      | ok hi E3 B3 =>
        rw [h3] at h
        simp only [O.bind_ok] at h
        intro ρ3 H3 A3
        have A13 := A12.carry A3
        have T1 := A13.letgo
        split at h
        · next u1 e1 =>
          have t1 := A13.top e1
          split at h
          · next r3 eg =>
            have fin : ∀ H' v, Aft X.K F ρ3 E3 B3 σ H3 r3 ρ3 E3 B3 H' v → Q v H' := fun H' v A4 => h ρ3 H' v (T1.then A4)
            unfold gSlS at eg
            split at eg
            · next ns =>
              cases eg
              simp only [Top, Rep] at t1
              obtain ⟨p, rfl, k1⟩ := t1
              exact .inl (.inl ⟨p, _, rfl, sqL_of k1, fun q hq => fin _ _ (Aft.fresh T1.rel hq (cutU_reps (ints_reps ns)))⟩)
            · cases eg
          · exact h.elim
        · exact h.elim

theorem gSlS_to {ns : List Int} {j : Int} {b : Nat} (h : j = (b : Int)) : gSlS (.scr ns) none (some j) = some (.fr (.lst ((ns.take b).map U.int))) := by
  unfold gSlS
  simp only
  rw [cutU_j h, List.map_take]
theorem gSlS_from {ns : List Int} {j : Int} {b : Nat} (h : j = (b : Int)) : gSlS (.scr ns) (some j) none = some (.fr (.lst ((ns.drop b).map U.int))) := by
  unfold gSlS
  simp only
  rw [cutU_i h, List.map_drop]
@[simp] theorem e_mSlS {fl fh : En → Bx → O (Option Int)} {E : En} {B : Bx} : mSlS fa fl fh E B = (fa E B).bind fun r E1 B1 => (fl E1 B1).bind fun lo E2 B2 => (fh E2 B2).bind fun hi E3 B3 =>
    match view r E3 B3 with
    | some u => match gSlS u lo hi with
      | some r => .ok r E3 B3
      | none => .bad
    | none => .bad := (rfl)
end
end QB
/-! QdK: d != {}; rpartition; calls with values and keywords. -/
namespace L2
open PySem PySem.Builtin.Str
section
variable {X : Cx}
def rNeD0 : R2 := fun x y H Q => ∃ a b ks, x = .ref a ∧ y = .ref b ∧ Rd H a (.dK ks) ∧ Rd H b (.dK []) ∧ Q (.bl (!ks.isEmpty)) H
theorem op_neD0 (hu : X.A.units < cLine) : OpR X (compareOp .NotEq) rNeD0 := by
  intro pins s σ H x y v u Q I rx ry h
  obtain ⟨a, b, ks, rfl, rfl, ea, eb, q⟩ := h
  obtain rfl : v = Value.ref a := rx
  obtain rfl : u = Value.ref b := ry
  obtain ⟨_, ya, va, ra, da⟩ := dk_rd I.hok ea
  obtain ⟨_, yb, vb, rb, db⟩ := dk_rd I.hok eb
  cases rb
  have hva : va.length = ks.length := ra.length.symm
  refine PySem.W.keq_ne (knd := mixKind X.prog X.w) (r := true) ya yb da db hu (fun hl => ?_) (fin_bl I q ?_)
  · have hl : va.length = 0 := hl
    have : va = [] := List.eq_nil_of_length_eq_zero hl
    subst this
    exact .nil
  · cases ks with
    | nil => rw [List.length_eq_zero_iff.mp hva]; rfl
    | cons k ks =>
      cases va with
      | nil => cases hva
      | cons _ _ => simp
/-- x.rpartition(sep) -/
theorem mt_rpartition : MtR X "str.rpartition" (fun x xs H Q => ∃ a b, x = .str a ∧ xs = [.str b] ∧ (b.length == 0) = false ∧ a.length ≤ sizeLine ∧
    ∀ p, H p = none → Q (.ref p) (upd H p (.tup [.str (Txt.rpartition a b).1, .str (Txt.rpartition a b).2.1, .str (Txt.rpartition a b).2.2]))) := by
  intro pins s σ H x xs v us Q I rx rs h
  obtain ⟨a, b, rfl, rfl, hb, hz, h⟩ := h
  obtain ⟨t, rfl⟩ := rx
  cases rs with
  | cons r1 rs =>
    cases rs
    obtain ⟨u, rfl⟩ := r1
    refine call_meets F.slot_str_rpartition (typeIs_str _ _ _) F.entry_str_rpartition (F.args_str_rpartition_2 _ _) (meets_str_rpartition a b t u hb hz) ?_
    unfold Txt.rpartition at h
    revert h
    cases Builtin.Str.lastOccurrence a b 0 a.length with
    | none => intro h; exact laid_parts I h
    | some i => intro h; exact laid_parts I h
end
end L2
namespace QB
open PySem L2 PySem.StrLaws PySem.Builtin.Str
section
variable {X : Cy} {e : Expr} {es : List Expr} {fs fk : Ar} {pos p : Pos} {x : Str} {k j : Nat} {st : Stmt} {ps : List Str} {g : Fn}
def gDNe0 (a b : U) : Option R :=
  match a, b with
  | .dct ks _, .dct [] _ => some (.w (.bl (!ks.isEmpty)))
  | _, _ => none
theorem op2_dne0 (hu : X.A.units < cLine) : Op2S X (compareOp .NotEq) gDNe0 := by
  refine ⟨_, op_neD0 hu, fun F ρ E B σ H u1 u2 v1 v2 r3 Q rl t1 t2 e q => ?_⟩
  unfold gDNe0 at e
  split at e
  · next ks us us2 =>
    cases e
    obtain ⟨p1, kvs, rfl, h1, h2, h3⟩ := t1
    obtain ⟨p2, kvs2, rfl, h4, h5, h6⟩ := t2
    have : kvs2 = [] := by cases kvs2 <;> simp at h5 ⊢
    subst this
    refine ⟨p1, p2, kvs, rfl, rfl, h1, h4, ?_⟩
    have e2 : ks.isEmpty = kvs.isEmpty := by rw [← h2]; cases kvs <;> rfl
    rw [← e2]
    exact q H _ (Aft.val rl (by simp [Rep]))
  · cases e
def gRPart : U → List U → Option R
  | .str a, [.str b] => if (b.length == 0) = false ∧ a.length ≤ 16777216 then some (.w (.tup [.str (Txt.rpartition a b).1, .str (Txt.rpartition a b).2.1, .str (Txt.rpartition a b).2.2])) else none
  | _, _ => none
theorem meth_rpartition : MethS X "str.rpartition" gRPart := by
  refine ⟨_, mt_rpartition, fun F ρ E B σ H z us vs r3 Q rl rs e q => ?_⟩
  unfold gRPart at e
  split at e
  · next a b hz =>
    injection hz with hz
    subst hz
    split at e
    · next hc =>
      cases e
      simp only [Reps, Rep] at rs
      obtain ⟨v, r, rfl, rfl, rfl⟩ := rs
      exact ⟨_, b, rfl, rfl, hc.1, by rw [sizeLine_eq]; exact hc.2, fun p hp => q _ _ (Aft.tuple rl hp (by simp [Reps, Rep]))⟩
    · cases e
  · cases e
/-! ### calls with values and keywords -/
structure KwOkP (K : PySem.W.Frag) (st : Stmt) (x : Str) (ps ks : List Str) (n : Nat) (ix : List Nat) : Prop where
  b : ∀ (kV doc pm : Value) (an : Option Addr) (cdv ct : Value) (us ws : List Value), us.length = n → (pick ix (us ++ ws)).length = ps.length → bindArgs (PySem.W.fnOf x x (defArgs st) (defBody st) (defScope st) .none kV doc pm an cdv ct) ⟨us, ks.zip ws⟩ = pure (ps.zip (pick ix (us ++ ws)))
def mCallPK (g : Fn) (n : Nat) (ix : List Nat) (fs fk : Ar) : Ex := fun E B => (fs E B).bind fun us E1 B1 => (fk E1 B1).bind fun ws E2 B2 =>
  if us.length = n then
    match g (pick ix (us ++ ws)) B2 with
    | .ok u B3 => .ok (.w u) E2 B3
    | .ex c B3 => .ex c E2 B3
    | .bad => .bad
  else .bad
theorem valsApp {us us' : List V} {vs vs' : List Value} (h : Vals us vs) (h2 : Vals us' vs') : Vals (us ++ us') (vs ++ vs') := by
  induction h with
  | nil => exact h2
  | cons a _ ih => exact .cons a ih
theorem sndE_callPK {kws : List Keyword} {ks : List Str} {n : Nat} {ix : List Nat} (C : CalF X.prog X.w X.K X.mg X.base k x st ps g) (hr : Room j X.A) (hk : k ≤ j) (kw : KwOkP X.K st x ps ks n ix) (hps : ps ≠ []) (hp : SndA X (e :: es) fs) (ha : SndK X kws fk) (hg : Gl X x := by rfl)
    (hall : (backToKw pos (keywordEach kws X.env)).all (·.1.isSome) = true := by rfl) (hks : (backToKw pos (keywordEach kws X.env)).filterMap (·.1) = ks := by rfl)
    (hdb : (x == ("__debug__" : Str)) = false := by decide) (hpl : ((backTo pos (starEach (e :: es) X.env)).any (·.1) || (backToKw pos (keywordEach kws X.env)).any (·.1.isNone)) = false := by rfl)
    (he : starEach (e :: es) X.env = (false, eval e X.env) :: starEach es X.env := by rfl) : SndE X (.Call (.Name x p) (e :: es) kws pos) (mCallPK g n ix fs fk) := by
  obtain ⟨⟨f, fd, h1, h2, h3, h4⟩, hl⟩ := C
  obtain ⟨tp, pp, hp2⟩ := hp
  obtain ⟨tk, pk, hk2⟩ := ha
  have kb : KBinds X.K fd ps ks (fun us ws => if us.length = n then pick ix (us ++ ws) else []) (fun us zs => if us.length = n then pick ix (us ++ zs) else []) := by
    obtain ⟨oc, od, kV, doc, pm, an, cdv, ct, osl, rfl, lk, hcd⟩ := h3.ex
    refine ⟨fun s us ws _ hlen => ?_, fun {vs us zs ws} r1 r2 => ?_⟩
    · by_cases hn : us.length = n
      · simp only [if_pos hn] at hlen ⊢
        exact .of_eq (kw.b kV doc pm an cdv ct us ws hn hlen)
      · simp only [if_neg hn] at hlen
        exact absurd (by cases ps <;> simp_all) hps
    · have hl2 : vs.length = us.length := r1.length
      by_cases hn : us.length = n
      · have hn2 : vs.length = n := by rw [hl2]; exact hn
        simp only [if_pos hn, if_pos hn2]
        exact pick_vals (valsApp r1 r2)
      · have hn2 : ¬ vs.length = n := by rw [hl2]; exact hn
        simp only [if_neg hn, if_neg hn2]
        exact .nil
  refine ⟨fun σ H Q => tp σ H fun xs H1 => tk σ H1 fun zs H2 => spF X.K X.mg ps.length g (if xs.length = n then pick ix (xs ++ zs) else []) H2 Q (WE X.W σ), ⟨fun pins s σ H Q I h => ?_⟩, fun F ρ E B σ H Q rl q => ?_⟩
  · refine wpAny_Call_Name_kw (ld_glob I hg h2 ?_ hdb)
    refine PySem.W.callWith_KW (h₀ := X.base) I.ok.mod.kin h3.kp hall (thn (pp.run pos pins s σ H _ I h) fun us s1 ⟨xs, H1, I1, r1, q1⟩ => thn (pk.run pos pins s1 σ H1 _ I1 q1) fun ws s2 ⟨zs, H2, I2, rz, q2⟩ => ⟨I2.kIn, ?_⟩) hpl he
    rw [hks, List.nil_append]
    exact run_fnkS h1 (hr.mono hk) kb (passAt X.tk σ) I2 r1 rz q2
  · refine hp2 F ρ E B σ H _ rl ?_
    simp only [mCallPK] at q
    cases e1 : fs E B with
    | bad => rw [e1] at q; exact q
    | ex c E' B' => rw [e1] at q; exact q
    | ok us E1 B1 =>
      rw [e1] at q
      intro ρ1 H1 vs A1
      simp only [O.bind_ok] at q
      refine hk2 F ρ1 E1 B1 σ H1 _ A1.t.rel ?_
      cases e3 : fk E1 B1 with
      | bad => rw [e3] at q; exact q
      | ex c E' B' => rw [e3] at q ; first | exact q | exact Aft.exq (by assumption) q | exact AftT.exq (by assumption) q | exact Aft.exq (by assumption) (Aft.exq (by assumption) q) | exact AftT.exq (by assumption) (Aft.exq (by assumption) q) | exact AftT.exq (AftA.t (by assumption)) q | exact ExQ.px q (Aft.px (by assumption)) | exact ExQ.px q (List.IsPrefix.trans (AftT.px (by assumption)) (Aft.px (by assumption))) | exact Aft.exq (by assumption) (AftT.exq (by assumption) q) | exact Aft.exq (by assumption) (Aft.exq (by assumption) (AftT.exq (by assumption) q))
      | ok ws E2 B2 =>
        rw [e3] at q
        intro ρ2 H2 zs A2
        simp only [O.bind_ok] at q
        have reps : Reps X.K H2 (LvF F ρ2 E2 B2 σ) ρ2 (us ++ ws) (vs ++ zs) := Reps.append (Reps.mono A2.t.stp A2.t.px _ _ A1.reps) A2.reps
        have tt := A1.t.trans A2.t
        by_cases hn : us.length = n
        · rw [if_pos hn] at q
          have hn2 : vs.length = n := by rw [← A1.reps.len]; exact hn
          rw [if_pos hn2]
          have hlen : (pick ix (us ++ ws)).length = ps.length := by
            by_cases z : (pick ix (us ++ ws)).length = ps.length
            · exact z
            · rw [hl _ B2 z] at q; exact q.elim
          refine ⟨outOf F E2 σ, ρ2, B2, pick ix (us ++ ws), hlen, tt.rel.brel, by rw [ob_eq]; exact pick_reps reps, ?_⟩
          cases e2 : g (pick ix (us ++ ws)) B2 with
          | bad => rw [e2] at q; exact q.elim
          | ex c B3 =>
            rw [e2] at q
            intro ρ3 H3 cls dx v A3 f1 f2 f3
            have A4 := tt.rel.back A3
            exact q ρ3 σ H3 cls (some dx) (tt.px.trans A4.px) A4.rel ⟨dx, v, f1, rfl, f2, ob_not f3, A4.rep⟩
          | ok u B3 =>
            rw [e2] at q
            exact fun ρ3 H3 v A3 => q ρ3 H3 v (tt.then (tt.rel.back A3))
        · rw [if_neg hn] at q
          exact q.elim
@[simp] theorem e_mCallPK {n : Nat} {ix : List Nat} {E : En} {B : Bx} : mCallPK g n ix fs fk E B = (fs E B).bind fun us E1 B1 => (fk E1 B1).bind fun ws E2 B2 =>
  if us.length = n then
    match g (pick ix (us ++ ws)) B2 with
    | .ok u B3 => .ok (.w u) E2 B3
    | .ex c B3 => .ex c E2 B3
    | .bad => .bad
  else .bad := (rfl)
@[simp] theorem pick01 {a b : U} : pick [0, 1] [a, b] = [a, b] := rfl
@[simp] theorem pick012 {a b c : U} : pick [0, 1, 2] [a, b, c] = [a, b, c] := rfl
end
end QB
/-! printed by gen.py -/
namespace LawW
open PySem L2 QB PyProof.Rows
def topS (i : Nat) : Stmt := PySem.Challenge.pw_quotedback_k45_texts_say_paths.main.body.getD i (.Pass ⟨0, 0, 0, 0⟩)
abbrev s_is_integer : Stmt := topS 14
abbrev s_has_signs : Stmt := topS 15
abbrev s_is_text : Stmt := topS 16
abbrev s_is_name : Stmt := topS 17
abbrev s_is_place : Stmt := topS 18
abbrev s_is_name_or_place : Stmt := topS 19
abbrev s_may_name_function : Stmt := topS 20
abbrev s_begins_set : Stmt := topS 21
abbrev s_is_path : Stmt := topS 24
abbrev s_folder_of : Stmt := topS 25
abbrev s_said_path : Stmt := topS 26
abbrev s_is_folder : Stmt := topS 27
abbrev s_stands : Stmt := topS 28
abbrev s_is_sum : Stmt := topS 33
abbrev s_is_tagged : Stmt := topS 36
abbrev s_is_word : Stmt := topS 37
abbrev s_are_words : Stmt := topS 38
abbrev s_are_pieces : Stmt := topS 39
abbrev s_is_piece : Stmt := topS 40
abbrev s_may_be_done : Stmt := topS 41
abbrev s_is_script : Stmt := topS 42
abbrev s_is_body : Stmt := topS 43
abbrev s_is_command : Stmt := topS 44
abbrev s_is_do : Stmt := topS 45
abbrev s_is_joint : Stmt := topS 46
abbrev s_is_compound : Stmt := topS 47
abbrev s_are_arms : Stmt := topS 48
abbrev s_are_cases : Stmt := topS 49
abbrev s_are_turns : Stmt := topS 50
abbrev s_is_turn : Stmt := topS 51
abbrev s_is_here_text : Stmt := topS 52
abbrev s_texts_alone : Stmt := topS 54
abbrev s_names_stand : Stmt := topS 55
abbrev s_functions_stand : Stmt := topS 56
abbrev s_is_world : Stmt := topS 57
abbrev s_asked : Stmt := topS 58
abbrev s_path_of : Stmt := topS 59
abbrev s__law_deck : Stmt := topS 62
abbrev s__law_draw : Stmt := topS 63
abbrev s__law_signs : Stmt := topS 64
abbrev s__law_text : Stmt := topS 65
abbrev s__law_part : Stmt := topS 66
abbrev s__law_joined : Stmt := topS 67
abbrev s__law_folders : Stmt := topS 68
abbrev s__law_files : Stmt := topS 69
abbrev s__law_name : Stmt := topS 70
abbrev s__law_function : Stmt := topS 71
abbrev s__law_world : Stmt := topS 72
abbrev s__law_same : Stmt := topS 73
abbrev s__law_pieces : Stmt := topS 74
abbrev s__law_said : Stmt := topS 75
abbrev s__law_right : Stmt := topS 76
abbrev s_law : Stmt := topS 77
abbrev c_DIGITS : Str := "0123456789"
abbrev c_LETTERS : Str := "abcdefghijklmnopqrstuvwxyzABCDEFGHIJKLMNOPQRSTUVWXYZ_"
abbrev c_NAME_SIGNS : Str := "abcdefghijklmnopqrstuvwxyzABCDEFGHIJKLMNOPQRSTUVWXYZ_0123456789"
abbrev c_BARE : Str := "abcdefghijklmnopqrstuvwxyzABCDEFGHIJKLMNOPQRSTUVWXYZ0123456789./_-,:+@=*?[]!~"
abbrev c_SIGNS : Str := "\x0a !\"#$&'()*+,-./0123456789:;<=>?@ABCDEFGHIJKLMNOPQRSTUVWXYZ[\\]^_`abcdefghijklmnopqrstuvwxyz{|}~"
abbrev c_TOP : Str := "/"
abbrev c_KEY_WORDS : U := .tup [.str "if", .str "then", .str "elif", .str "else", .str "fi", .str "while", .str "until", .str "do", .str "done", .str "for", .str "in", .str "case", .str "esac", .str "{", .str "}", .str "!"]
abbrev c_DEED_NAMES : U := .tup [.str ":", .str "true", .str "false", .str "echo", .str "read", .str "set", .str "shift", .str "unset", .str "cd", .str "pwd", .str "test", .str "break", .str "continue", .str "return", .str "exit"]
abbrev c_TOOL_NAMES : U := .tup [.str "cat", .str "keep", .str "drop", .str "first", .str "last", .str "order", .str "once", .str "count", .str "number", .str "swap", .str "part", .str "tee", .str "make", .str "remove", .str "move", .str "copy", .str "list"]
abbrev c_DESCRIPTORS : U := .tup [(.tup [.str "bare", .str "0"]), (.tup [.str "bare", .str "1"]), (.tup [.str "bare", .str "2"]), (.tup [.str "bare", .str "-"])]
structure BlT (mg : Str → Option Value) : Prop where
  all_ : mg "all" = none
  bool_ : mg "bool" = none
  dict_ : mg "dict" = none
  enumerate_ : mg "enumerate" = none
  int_ : mg "int" = none
  isinstance : mg "isinstance" = none
  len_ : mg "len" = none
  list_ : mg "list" = none
  range_ : mg "range" = none
  reversed_ : mg "reversed" = none
  sorted_ : mg "sorted" = none
  str_ : mg "str" = none
  tuple_ : mg "tuple" = none
structure GsT (K : PySem.W.Frag) (mg : Str → Option Value) : Prop where
  DIGITS : ∃ u, mg "DIGITS" = some u ∧ ∃ t, u = Value.str c_DIGITS t
  LETTERS : ∃ u, mg "LETTERS" = some u ∧ ∃ t, u = Value.str c_LETTERS t
  NAME_SIGNS : ∃ u, mg "NAME_SIGNS" = some u ∧ ∃ t, u = Value.str c_NAME_SIGNS t
  BARE : ∃ u, mg "BARE" = some u ∧ ∃ t, u = Value.str c_BARE t
  SIGNS : ∃ u, mg "SIGNS" = some u ∧ ∃ t, u = Value.str c_SIGNS t
  TOP : ∃ u, mg "TOP" = some u ∧ ∃ t, u = Value.str c_TOP t
  KEY_WORDS : ∃ p, mg "KEY_WORDS" = some (.ref p) ∧ KU K c_KEY_WORDS (.ref p)
  DEED_NAMES : ∃ p, mg "DEED_NAMES" = some (.ref p) ∧ KU K c_DEED_NAMES (.ref p)
  TOOL_NAMES : ∃ p, mg "TOOL_NAMES" = some (.ref p) ∧ KU K c_TOOL_NAMES (.ref p)
  DESCRIPTORS : ∃ p, mg "DESCRIPTORS" = some (.ref p) ∧ KU K c_DESCRIPTORS (.ref p)
section
variable {P : Program} {w : World} {K : PySem.W.Frag} {mg : Str → Option Value} {base : Heap} {k : Nat}
theorem kwp_path_of_1_text : KwOkP K s_path_of "path_of" ["world", "text"] ["text"] 1 [0, 1] := ⟨fun _ _ _ _ _ _ us ws hn hl => match us, ws, hn, hl with | [_], _ :: _, _, _ => rfl | [_], [], _, h => by simp [pick] at h⟩
/-! ### _law_same -/
abbrev N__law_same : List Str := ["_law_found", "_law_due", "_law_k", "_law_key"]
theorem sc__law_same : FnScope ["_law_found", "_law_due", "_law_k", "_law_key"] ["_law_found", "_law_due"] (defScope s__law_same) := ⟨rfl, rfl, rfl, by decide +kernel, rfl, by decide +kernel, by decide +kernel⟩
noncomputable def lc__law_same_0 (g__law_same : Fn) : Ex := mLc (mItD keysD (mVar 1)) (bdN 3) (mYes) (mAndV (m2 (gDIn false) (mVar 3) (mVar 0)) (mCall g__law_same (mCons (m2 gDIx (mVar 0) (mVar 3)) (mCons (m2 gDIx (mVar 1) (mVar 3)) (mNil))))) [3]
noncomputable def lc__law_same_1 (g__law_same : Fn) : Ex := mLc (mRange1 (mCons (m1 gLen (mVar 1)) (mNil))) (bdN 2) (mYes) (mCall g__law_same (mCons (m2 gIx (mVar 0) (mVar 2)) (mCons (m2 gIx (mVar 1) (mVar 2)) (mNil)))) [2]
noncomputable def b__law_same (g__law_same : Fn) : Sm := sSeq (sIf (mOr (mTru (m1 (gIsi "list") (mVar 1))) (mTru (m1 (gIsi "tuple") (mVar 1)))) (sSeq (sIf (mOr (toT (m2 gNe (m1 (gIsi "list") (mVar 1)) (m1 (gIsi "list") (mVar 0)))) (toT (m2 gNe (m1 (gIsi "tuple") (mVar 1)) (m1 (gIsi "tuple") (mVar 0))))) (sRet (mC (.bl false))) (sNext)) (sRet (mAndV (m2 gEq (m1 gLen (mVar 0)) (m1 gLen (mVar 1))) (m1 gAll (lc__law_same_1 g__law_same))))) (sNext)) (sSeq (sIf (mTru (m1 (gIsi "dict") (mVar 1))) (sSeq (sIf (mOr (mNot (mTru (m1 (gIsi "dict") (mVar 0)))) (toT (m2 gNe (m1 gLenD (mVar 0)) (m1 gLenD (mVar 1))))) (sRet (mC (.bl false))) (sNext)) (sRet (m1 gAll (lc__law_same_0 g__law_same)))) (sNext)) (sSeq (sIf (toT (m2 (gIs false) (mVar 1) (mC .non))) (sRet (m2 (gIs false) (mVar 0) (mC .non))) (sNext)) (sSeq (sIf (mOr (mTru (m1 (gIsi "bool") (mVar 1))) (mTru (m1 (gIsi "int") (mVar 1)))) (sRet (mAndV (m1 (gIsi "int") (mVar 0)) (mAndV (m2 gEq (m1 (gIsi "bool") (mVar 0)) (m1 (gIsi "bool") (mVar 1))) (m2 gEq (mVar 0) (mVar 1))))) (sNext)) (sRet (mAndV (m1 (gIsi "str") (mVar 0)) (m2 gEq (mVar 0) (mVar 1)))))))
theorem ok__law_same (Bl : BlT mg) (Gs : GsT K mg) (D : DefAt K mg "_law_same" s__law_same) {g__law_same : Fn} (C__law_same : CalF P w K mg base k "_law_same" s__law_same ["_law_found", "_law_due"] g__law_same) : CalF P w K mg base (k + 1) "_law_same" s__law_same ["_law_found", "_law_due"] (runBody 4 2 (b__law_same g__law_same)) :=
  calF_of D sc__law_same (fun _ _ _ _ _ _ us hl => match us, hl with | [_, _], _ => rfl) fun f cdv A outer s H E hr =>
  sndB_cons (sndS_if (sndT_of (sndW_or (sndT_tru (sndE_isi Bl.isinstance Bl.list_ (by decide +kernel) (sndE_var 1))) (sndW_or1 (sndT_tru (sndE_isi Bl.isinstance Bl.tuple_ (by decide +kernel) (sndE_var 1)))))) (sndB_cons (sndS_if (sndT_of (sndW_or (sndT_cmp (op2_ne hr.units) (sndE_isi Bl.isinstance Bl.list_ (by decide +kernel) (sndE_var 1)) (sndE_isi Bl.isinstance Bl.list_ (by decide +kernel) (sndE_var 0))) (sndW_or1 (sndT_cmp (op2_ne hr.units) (sndE_isi Bl.isinstance Bl.tuple_ (by decide +kernel) (sndE_var 1)) (sndE_isi Bl.isinstance Bl.tuple_ (by decide +kernel) (sndE_var 0)))))) (sndB_one (sndS_ret (sndE_bl))) (sndB_nil)) (sndB_one (sndS_ret (sndE_and (sndE_cmp (op2_eq hr.units) (sndE_b1 call1_len Bl.len_ PySem.boot_len (sndE_var 0)) (sndE_b1 call1_len Bl.len_ PySem.boot_len (sndE_var 1))) (sndE_one (sndE_b1 (call1_all rfl) Bl.all_ (by decide +kernel) (sndE_lc (own := [("_law_k", 2)]) rfl sc__law_same.nd (blkOk_by (by change blkC N__law_same (defScope s__law_same) _ [("_law_k", 2)] = true; decide +kernel)) (sndI_range1 Bl.range_ (sndA_cons (sndE_b1 call1_len Bl.len_ PySem.boot_len (sndE_var 1)) (sndA_nil))) (fun _ _ _ _ _ => sndG_name (k := 2) sc__law_same.nd) (fun _ _ _ _ _ => sndTs_nil) (fun _ _ _ _ _ => sndE_callF C__law_same hr (Nat.le_refl _) (sndA_cons (sndE_ix (sndE_var 0) (sndE_var 2)) (sndA_cons (sndE_ix (sndE_var 1) (sndE_var 2)) (sndA_nil))))))))))) (sndB_nil)) (sndB_cons (sndS_if (sndT_tru (sndE_isi Bl.isinstance Bl.dict_ (by decide +kernel) (sndE_var 1))) (sndB_cons (sndS_if (sndT_of (sndW_or (sndT_not (sndT_tru (sndE_isi Bl.isinstance Bl.dict_ (by decide +kernel) (sndE_var 0)))) (sndW_or1 (sndT_cmp (op2_ne hr.units) (sndE_b1 call1_lenD Bl.len_ PySem.boot_len (sndE_var 0)) (sndE_b1 call1_lenD Bl.len_ PySem.boot_len (sndE_var 1)))))) (sndB_one (sndS_ret (sndE_bl))) (sndB_nil)) (sndB_one (sndS_ret (sndE_b1 (call1_all rfl) Bl.all_ (by decide +kernel) (sndE_lc (own := [("_law_key", 3)]) rfl sc__law_same.nd (blkOk_by (by change blkC N__law_same (defScope s__law_same) _ [("_law_key", 3)] = true; decide +kernel)) (sndI_keys (sndE_var 1)) (fun _ _ _ _ _ => sndG_name (k := 3) sc__law_same.nd) (fun _ _ _ _ _ => sndTs_nil) (fun _ _ _ _ _ => sndE_and (sndE_cmp (op2_din (hu_of hr)) (sndE_var 3) (sndE_var 0)) (sndE_one (sndE_callF C__law_same hr (Nat.le_refl _) (sndA_cons (sndE_dix (hu_of hr) (sndE_var 0) (sndE_var 3)) (sndA_cons (sndE_dix (hu_of hr) (sndE_var 1) (sndE_var 3)) (sndA_nil))))))))))) (sndB_nil)) (sndB_cons (sndS_if (sndT_cmp op2_is (sndE_var 1) (sndE_non)) (sndB_one (sndS_ret (sndE_cmp op2_is (sndE_var 0) (sndE_non)))) (sndB_nil)) (sndB_cons (sndS_if (sndT_of (sndW_or (sndT_tru (sndE_isi Bl.isinstance Bl.bool_ (by decide +kernel) (sndE_var 1))) (sndW_or1 (sndT_tru (sndE_isi Bl.isinstance Bl.int_ (by decide +kernel) (sndE_var 1)))))) (sndB_one (sndS_ret (sndE_and (sndE_isi Bl.isinstance Bl.int_ (by decide +kernel) (sndE_var 0)) (sndE_and (sndE_cmp (op2_eq hr.units) (sndE_isi Bl.isinstance Bl.bool_ (by decide +kernel) (sndE_var 0)) (sndE_isi Bl.isinstance Bl.bool_ (by decide +kernel) (sndE_var 1))) (sndE_one (sndE_cmp (op2_eq hr.units) (sndE_var 0) (sndE_var 1))))))) (sndB_nil)) (sndB_one (sndS_ret (sndE_and (sndE_isi Bl.isinstance Bl.str_ (by decide +kernel) (sndE_var 0)) (sndE_one (sndE_cmp (op2_eq hr.units) (sndE_var 0) (sndE_var 1)))))))))
/-! ### _law_draw -/
abbrev N__law_draw : List Str := ["_law_deck_here", "_law_many", "_law_taken"]
theorem sc__law_draw : FnScope ["_law_deck_here", "_law_many", "_law_taken"] ["_law_deck_here", "_law_many"] (defScope s__law_draw) := ⟨rfl, rfl, rfl, by decide +kernel, rfl, by decide +kernel, by decide +kernel⟩
noncomputable def b__law_draw : Sm := sSeq (sIf (toT (m2 gEq (m2 gIx (mVar 0) (mC (.int 0))) (mC (.int 0)))) (sSeq (sStore (m2 gIx (mVar 0) (mC (.int 1))) (mVar 0) (mC (.int 0))) (sStore (mC (.int 0)) (mVar 0) (mC (.int 1)))) (sNext)) (sSeq (sSet 2 (m2 (gII cMod (· % ·)) (m1 gInt (m2 gIx (mVar 0) (mC (.int 0)))) (mVar 1))) (sSeq (sStore (m2 (gII cDiv (· / ·)) (m2 gIx (mVar 0) (mC (.int 0))) (mVar 1)) (mVar 0) (mC (.int 0))) (sRet (mVar 2))))
theorem ok__law_draw (Bl : BlT mg) (Gs : GsT K mg) (D : DefAt K mg "_law_draw" s__law_draw) : CalF P w K mg base (k + 1) "_law_draw" s__law_draw ["_law_deck_here", "_law_many"] (runBody 3 2 (b__law_draw)) :=
  calF_of D sc__law_draw (fun _ _ _ _ _ _ us hl => match us, hl with | [_, _], _ => rfl) fun f cdv A outer s H E hr =>
  sndB_cons (sndS_if (sndT_cmp (op2_eq hr.units) (sndE_ix (sndE_var 0) (sndE_int)) (sndE_int)) (sndB_cons (sndS_store (sndE_ix (sndE_var 0) (sndE_int)) (sndE_var 0) (sndE_int)) (sndB_one (sndS_store (sndE_int) (sndE_var 0) (sndE_int)))) (sndB_nil)) (sndB_cons (sndS_set (i := 2) (sndE_op op2_mod (sndE_t1 call1_int Bl.int_ (by decide +kernel) (sndE_ix (sndE_var 0) (sndE_int))) (sndE_var 1)) sc__law_draw.nd) (sndB_cons (sndS_store (sndE_op op2_fdiv (sndE_ix (sndE_var 0) (sndE_int)) (sndE_var 1)) (sndE_var 0) (sndE_int)) (sndB_one (sndS_ret (sndE_var 2)))))
/-! ### _law_signs -/
abbrev N__law_signs : List Str := ["_law_signs_here"]
theorem sc__law_signs : FnScope ["_law_signs_here"] [] (defScope s__law_signs) := ⟨rfl, rfl, rfl, by decide +kernel, rfl, by decide +kernel, by decide +kernel⟩
noncomputable def b__law_signs : Sm := sSeq (sSet 0 (mC (.str "\x0a !\"#$&'()*+,-.0123456789:;<=>?@ABCDEFGHIJKLMNOPQRSTUVWXYZ[\\]^_"))) (sRet (m2 gAdd (mVar 0) (mC (.str "`abcdefghijklmnopqrstuvwxyz{|}~/"))))
theorem ok__law_signs (Bl : BlT mg) (Gs : GsT K mg) (D : DefAt K mg "_law_signs" s__law_signs) : CalF P w K mg base (k + 1) "_law_signs" s__law_signs [] (runBody 1 0 (b__law_signs)) :=
  calF_of D sc__law_signs (fun _ _ _ _ _ _ us hl => match us, hl with | [], _ => rfl) fun f cdv A outer s H E hr =>
  sndB_cons (sndS_set (i := 0) (sndE_str) sc__law_signs.nd) (sndB_one (sndS_ret (sndE_op op2_Add (sndE_var 0) (sndE_str))))
/-! ### _law_text -/
abbrev N__law_text : List Str := ["_law_deck_here", "_law_most", "_law_k"]
theorem sc__law_text : FnScope ["_law_deck_here", "_law_most", "_law_k"] ["_law_deck_here", "_law_most"] (defScope s__law_text) := ⟨rfl, rfl, rfl, by decide +kernel, rfl, by decide +kernel, by decide +kernel⟩
noncomputable def lc__law_text_0 (g__law_draw : Fn) (g__law_signs : Fn) : Ex := mLc (mRange1 (mCons (mCall g__law_draw (mCons (mVar 0) (mCons (m2 gAdd (mVar 1) (mC (.int 1))) (mNil)))) (mNil))) (bdN 2) (mYes) (m2 gIx (mCall g__law_signs mNil) (mCall g__law_draw (mCons (mVar 0) (mCons (mC (.int 95)) (mNil))))) [2]
noncomputable def b__law_text (g__law_draw : Fn) (g__law_signs : Fn) : Sm := sRet (mM gJoin (mC (.str "")) (mCons (lc__law_text_0 g__law_draw g__law_signs) mNil))
theorem ok__law_text (Bl : BlT mg) (Gs : GsT K mg) (D : DefAt K mg "_law_text" s__law_text) {g__law_draw : Fn} (C__law_draw : CalF P w K mg base k "_law_draw" s__law_draw ["_law_deck_here", "_law_many"] g__law_draw) {g__law_signs : Fn} (C__law_signs : CalF P w K mg base k "_law_signs" s__law_signs [] g__law_signs) : CalF P w K mg base (k + 1) "_law_text" s__law_text ["_law_deck_here", "_law_most"] (runBody 3 2 (b__law_text g__law_draw g__law_signs)) :=
  calF_of D sc__law_text (fun _ _ _ _ _ _ us hl => match us, hl with | [_, _], _ => rfl) fun f cdv A outer s H E hr =>
  sndB_one (sndS_ret (sndE_m1 PySem.F.slot_str_join PySem.F.type_str_join meth_join (sndE_str) (sndE_lc (own := [("_law_k", 2)]) rfl sc__law_text.nd (blkOk_by (by change blkC N__law_text (defScope s__law_text) _ [("_law_k", 2)] = true; decide +kernel)) (sndI_range1 Bl.range_ (sndA_cons (sndE_callF C__law_draw hr (Nat.le_refl _) (sndA_cons (sndE_var 0) (sndA_cons (sndE_op op2_Add (sndE_var 1) (sndE_int)) (sndA_nil)))) (sndA_nil))) (fun _ _ _ _ _ => sndG_name (k := 2) sc__law_text.nd) (fun _ _ _ _ _ => sndTs_nil) (fun _ _ _ _ _ => sndE_ix (sndE_callF0 C__law_signs hr (Nat.le_refl _)) (sndE_callF C__law_draw hr (Nat.le_refl _) (sndA_cons (sndE_var 0) (sndA_cons (sndE_int) (sndA_nil))))))))
/-! ### _law_function -/
abbrev N__law_function : List Str := ["_law_deck_here", "_law_call", "_law_turns", "_law_other", "_law_words", "_law_made"]
theorem sc__law_function : FnScope ["_law_deck_here", "_law_call", "_law_turns", "_law_other", "_law_words", "_law_made"] ["_law_deck_here"] (defScope s__law_function) := ⟨rfl, rfl, rfl, by decide +kernel, rfl, by decide +kernel, by decide +kernel⟩
noncomputable def b__law_function (g__law_draw : Fn) : Sm := sSeq (sSet 1 (mTup (mCons (mC (.str "do")) (mCons (mLst (mNil)) (mCons (mLst (mCons (mLst (mCons (mTup (mCons (mC (.str "bare")) (mCons (mC (.str "a")) (mNil)))) (mNil))) (mNil))) (mCons (mLst (mNil)) (mNil))))))) (sSeq (sSet 2 (m2 gIx (mLst (mCons (mLst (mNil)) (mCons (mLst (mCons (mTup (mCons (mC (.int 1)) (mCons (mC (.str ">")) (mCons (mLst (mCons (mTup (mCons (mC (.str "bare")) (mCons (mC (.str "g")) (mNil)))) (mNil))) (mNil))))) (mNil))) (mNil)))) (mCall g__law_draw (mCons (mVar 0) (mCons (mC (.int 2)) (mNil)))))) (sSeq (sSet 3 (m2 gIx (mLst (mCons (mC .non) (mCons (mLst (mCons (mVar 1) (mNil))) (mNil)))) (mCall g__law_draw (mCons (mVar 0) (mCons (mC (.int 2)) (mNil)))))) (sSeq (sSet 4 (m2 gIx (mLst (mCons (mC .non) (mCons (mLst (mCons (mLst (mCons (mTup (mCons (mC (.str "bare")) (mCons (mC (.str "b")) (mNil)))) (mNil))) (mNil))) (mNil)))) (mCall g__law_draw (mCons (mVar 0) (mCons (mC (.int 2)) (mNil)))))) (sSeq (sSet 5 (mLst (mCons (mTup (mCons (mC (.str "group")) (mCons (mLst (mCons (mVar 1) (mNil))) (mCons (mVar 2) (mNil))))) (mCons (mTup (mCons (mC (.str "apart")) (mCons (mLst (mCons (mVar 1) (mNil))) (mCons (mVar 2) (mNil))))) (mCons (mTup (mCons (mC (.str "while")) (mCons (mLst (mCons (mVar 1) (mNil))) (mCons (mLst (mCons (mVar 1) (mNil))) (mCons (mVar 2) (mNil)))))) (mNil)))))) (sSeq (sSet 5 (m2 gAdd (mVar 5) (mLst (mCons (mTup (mCons (mC (.str "until")) (mCons (mLst (mCons (mVar 1) (mNil))) (mCons (mLst (mCons (mVar 1) (mNil))) (mCons (mVar 2) (mNil)))))) (mCons (mTup (mCons (mC (.str "if")) (mCons (mLst (mCons (mTup (mCons (mLst (mCons (mVar 1) (mNil))) (mCons (mLst (mCons (mVar 1) (mNil))) (mNil)))) (mNil))) (mCons (mVar 3) (mCons (mVar 2) (mNil)))))) (mNil)))))) (sSeq (sSet 5 (m2 gAdd (mVar 5) (mLst (mCons (mTup (mCons (mC (.str "each")) (mCons (mC (.str "x")) (mCons (mVar 4) (mCons (mLst (mCons (mVar 1) (mNil))) (mCons (mVar 2) (mNil))))))) (mCons (mTup (mCons (mC (.str "case")) (mCons (mLst (mCons (mTup (mCons (mC (.str "bare")) (mCons (mC (.str "a")) (mNil)))) (mNil))) (mCons (mLst (mCons (mTup (mCons (mLst (mCons (mLst (mCons (mTup (mCons (mC (.str "bare")) (mCons (mC (.str "b")) (mNil)))) (mNil))) (mNil))) (mCons (mLst (mNil)) (mNil)))) (mNil))) (mCons (mVar 2) (mNil)))))) (mNil)))))) (sRet (m2 gIx (mVar 5) (mCall g__law_draw (mCons (mVar 0) (mCons (mC (.int 7)) (mNil))))))))))))
theorem ok__law_function (Bl : BlT mg) (Gs : GsT K mg) (D : DefAt K mg "_law_function" s__law_function) {g__law_draw : Fn} (C__law_draw : CalF P w K mg base k "_law_draw" s__law_draw ["_law_deck_here", "_law_many"] g__law_draw) : CalF P w K mg base (k + 1) "_law_function" s__law_function ["_law_deck_here"] (runBody 6 1 (b__law_function g__law_draw)) :=
  calF_of D sc__law_function (fun _ _ _ _ _ _ us hl => match us, hl with | [_], _ => rfl) fun f cdv A outer s H E hr =>
  sndB_cons (sndS_set (i := 1) (sndE_tup (sndA_cons (sndE_str) (sndA_cons (sndE_lst (sndA_nil)) (sndA_cons (sndE_lst (sndA_cons (sndE_lst (sndA_cons (sndE_tup (sndA_cons (sndE_str) (sndA_cons (sndE_str) (sndA_nil)))) (sndA_nil))) (sndA_nil))) (sndA_cons (sndE_lst (sndA_nil)) (sndA_nil)))))) sc__law_function.nd) (sndB_cons (sndS_set (i := 2) (sndE_ix (sndE_lst (sndA_cons (sndE_lst (sndA_nil)) (sndA_cons (sndE_lst (sndA_cons (sndE_tup (sndA_cons (sndE_int) (sndA_cons (sndE_str) (sndA_cons (sndE_lst (sndA_cons (sndE_tup (sndA_cons (sndE_str) (sndA_cons (sndE_str) (sndA_nil)))) (sndA_nil))) (sndA_nil))))) (sndA_nil))) (sndA_nil)))) (sndE_callF C__law_draw hr (Nat.le_refl _) (sndA_cons (sndE_var 0) (sndA_cons (sndE_int) (sndA_nil))))) sc__law_function.nd) (sndB_cons (sndS_set (i := 3) (sndE_ix (sndE_lst (sndA_cons (sndE_non) (sndA_cons (sndE_lst (sndA_cons (sndE_var 1) (sndA_nil))) (sndA_nil)))) (sndE_callF C__law_draw hr (Nat.le_refl _) (sndA_cons (sndE_var 0) (sndA_cons (sndE_int) (sndA_nil))))) sc__law_function.nd) (sndB_cons (sndS_set (i := 4) (sndE_ix (sndE_lst (sndA_cons (sndE_non) (sndA_cons (sndE_lst (sndA_cons (sndE_lst (sndA_cons (sndE_tup (sndA_cons (sndE_str) (sndA_cons (sndE_str) (sndA_nil)))) (sndA_nil))) (sndA_nil))) (sndA_nil)))) (sndE_callF C__law_draw hr (Nat.le_refl _) (sndA_cons (sndE_var 0) (sndA_cons (sndE_int) (sndA_nil))))) sc__law_function.nd) (sndB_cons (sndS_set (i := 5) (sndE_lst (sndA_cons (sndE_tup (sndA_cons (sndE_str) (sndA_cons (sndE_lst (sndA_cons (sndE_var 1) (sndA_nil))) (sndA_cons (sndE_var 2) (sndA_nil))))) (sndA_cons (sndE_tup (sndA_cons (sndE_str) (sndA_cons (sndE_lst (sndA_cons (sndE_var 1) (sndA_nil))) (sndA_cons (sndE_var 2) (sndA_nil))))) (sndA_cons (sndE_tup (sndA_cons (sndE_str) (sndA_cons (sndE_lst (sndA_cons (sndE_var 1) (sndA_nil))) (sndA_cons (sndE_lst (sndA_cons (sndE_var 1) (sndA_nil))) (sndA_cons (sndE_var 2) (sndA_nil)))))) (sndA_nil))))) sc__law_function.nd) (sndB_cons (sndS_set (i := 5) (sndE_op op2_Add (sndE_var 5) (sndE_lst (sndA_cons (sndE_tup (sndA_cons (sndE_str) (sndA_cons (sndE_lst (sndA_cons (sndE_var 1) (sndA_nil))) (sndA_cons (sndE_lst (sndA_cons (sndE_var 1) (sndA_nil))) (sndA_cons (sndE_var 2) (sndA_nil)))))) (sndA_cons (sndE_tup (sndA_cons (sndE_str) (sndA_cons (sndE_lst (sndA_cons (sndE_tup (sndA_cons (sndE_lst (sndA_cons (sndE_var 1) (sndA_nil))) (sndA_cons (sndE_lst (sndA_cons (sndE_var 1) (sndA_nil))) (sndA_nil)))) (sndA_nil))) (sndA_cons (sndE_var 3) (sndA_cons (sndE_var 2) (sndA_nil)))))) (sndA_nil))))) sc__law_function.nd) (sndB_cons (sndS_set (i := 5) (sndE_op op2_Add (sndE_var 5) (sndE_lst (sndA_cons (sndE_tup (sndA_cons (sndE_str) (sndA_cons (sndE_str) (sndA_cons (sndE_var 4) (sndA_cons (sndE_lst (sndA_cons (sndE_var 1) (sndA_nil))) (sndA_cons (sndE_var 2) (sndA_nil))))))) (sndA_cons (sndE_tup (sndA_cons (sndE_str) (sndA_cons (sndE_lst (sndA_cons (sndE_tup (sndA_cons (sndE_str) (sndA_cons (sndE_str) (sndA_nil)))) (sndA_nil))) (sndA_cons (sndE_lst (sndA_cons (sndE_tup (sndA_cons (sndE_lst (sndA_cons (sndE_lst (sndA_cons (sndE_tup (sndA_cons (sndE_str) (sndA_cons (sndE_str) (sndA_nil)))) (sndA_nil))) (sndA_nil))) (sndA_cons (sndE_lst (sndA_nil)) (sndA_nil)))) (sndA_nil))) (sndA_cons (sndE_var 2) (sndA_nil)))))) (sndA_nil))))) sc__law_function.nd) (sndB_one (sndS_ret (sndE_ix (sndE_var 5) (sndE_callF C__law_draw hr (Nat.le_refl _) (sndA_cons (sndE_var 0) (sndA_cons (sndE_int) (sndA_nil)))))))))))))
/-! ### _law_name -/
abbrev N__law_name : List Str := ["_law_deck_here", "_law_letters", "_law_name_here", "_law_k"]
theorem sc__law_name : FnScope ["_law_deck_here", "_law_letters", "_law_name_here", "_law_k"] ["_law_deck_here"] (defScope s__law_name) := ⟨rfl, rfl, rfl, by decide +kernel, rfl, by decide +kernel, by decide +kernel⟩
noncomputable def lp__law_name_0 (g__law_draw : Fn) : Sm := sSet 2 (m2 gAdd (mVar 2) (m2 gIx (m2 gAdd (mVar 1) (mC (.str "0123456789"))) (mCall g__law_draw (mCons (mVar 0) (mCons (mC (.int 63)) (mNil))))))
noncomputable def b__law_name (g__law_draw : Fn) : Sm := sSeq (sSet 1 (mC (.str "ABCDEFGHIJKLMNOPQRSTUVWXYZ_abcdefghijklmnopqrstuvwxyz"))) (sSeq (sSet 2 (m2 gIx (mVar 1) (mCall g__law_draw (mCons (mVar 0) (mCons (mC (.int 53)) (mNil)))))) (sSeq (sFor (mRange1 (mCons (mCall g__law_draw (mCons (mVar 0) (mCons (mC (.int 3)) (mNil)))) (mNil))) (bdN 3) (lp__law_name_0 g__law_draw)) (sRet (mVar 2))))
theorem ok__law_name (Bl : BlT mg) (Gs : GsT K mg) (D : DefAt K mg "_law_name" s__law_name) {g__law_draw : Fn} (C__law_draw : CalF P w K mg base k "_law_draw" s__law_draw ["_law_deck_here", "_law_many"] g__law_draw) : CalF P w K mg base (k + 1) "_law_name" s__law_name ["_law_deck_here"] (runBody 4 1 (b__law_name g__law_draw)) :=
  calF_of D sc__law_name (fun _ _ _ _ _ _ us hl => match us, hl with | [_], _ => rfl) fun f cdv A outer s H E hr =>
  sndB_cons (sndS_set (i := 1) (sndE_str) sc__law_name.nd) (sndB_cons (sndS_set (i := 2) (sndE_ix (sndE_var 1) (sndE_callF C__law_draw hr (Nat.le_refl _) (sndA_cons (sndE_var 0) (sndA_cons (sndE_int) (sndA_nil))))) sc__law_name.nd) (sndB_cons (sndS_for rfl (sndI_range1 Bl.range_ (sndA_cons (sndE_callF C__law_draw hr (Nat.le_refl _) (sndA_cons (sndE_var 0) (sndA_cons (sndE_int) (sndA_nil)))) (sndA_nil))) (sndG_name (k := 3) sc__law_name.nd) (sndB_one (sndS_set (i := 2) (sndE_op op2_Add (sndE_var 2) (sndE_ix (sndE_op op2_Add (sndE_var 1) (sndE_str)) (sndE_callF C__law_draw hr (Nat.le_refl _) (sndA_cons (sndE_var 0) (sndA_cons (sndE_int) (sndA_nil)))))) sc__law_name.nd))) (sndB_one (sndS_ret (sndE_var 2)))))
/-! ### _law_folders -/
abbrev N__law_folders : List Str := ["_law_files_here", "_law_path"]
theorem sc__law_folders : FnScope ["_law_files_here", "_law_path"] ["_law_files_here"] (defScope s__law_folders) := ⟨rfl, rfl, rfl, by decide +kernel, rfl, by decide +kernel, by decide +kernel⟩
noncomputable def lc__law_folders_0 : Ex := mLc (mItV (m1 gSortD (mVar 0))) (bdN 1) (toT (m2 (gIs false) (m2 gDIx (mVar 0) (mVar 1)) (mC .non))) (mVar 1) [1]
noncomputable def b__law_folders : Sm := sRet (m2 gAdd (mLst (mCons (mC (.str "/")) (mNil))) (lc__law_folders_0))
theorem ok__law_folders (Bl : BlT mg) (Gs : GsT K mg) (D : DefAt K mg "_law_folders" s__law_folders) : CalF P w K mg base (k + 1) "_law_folders" s__law_folders ["_law_files_here"] (runBody 2 1 (b__law_folders)) :=
  calF_of D sc__law_folders (fun _ _ _ _ _ _ us hl => match us, hl with | [_], _ => rfl) fun f cdv A outer s H E hr =>
  sndB_one (sndS_ret (sndE_op op2_Add (sndE_lst (sndA_cons (sndE_str) (sndA_nil))) (sndE_lc (own := [("_law_path", 1)]) rfl sc__law_folders.nd (blkOk_by (by change blkC N__law_folders (defScope s__law_folders) _ [("_law_path", 1)] = true; decide +kernel)) (sndI_val (sndE_b1 (call1_sortD rfl) Bl.sorted_ (by decide +kernel) (sndE_var 0))) (fun _ _ _ _ _ => sndG_name (k := 1) sc__law_folders.nd) (fun _ _ _ _ _ => sndTs_one (sndT_cmp op2_is (sndE_dix (hu_of hr) (sndE_var 0) (sndE_var 1)) (sndE_non))) (fun _ _ _ _ _ => sndE_var 1))))
/-! ### _law_joined -/
abbrev N__law_joined : List Str := ["_law_folder", "_law_part_here"]
theorem sc__law_joined : FnScope ["_law_folder", "_law_part_here"] ["_law_folder", "_law_part_here"] (defScope s__law_joined) := ⟨rfl, rfl, rfl, by decide +kernel, rfl, by decide +kernel, by decide +kernel⟩
noncomputable def b__law_joined : Sm := sSeq (sIf (toT (m2 gEq (mVar 0) (mC (.str "/")))) (sRet (m2 gAdd (mC (.str "/")) (mVar 1))) (sNext)) (sRet (m2 gAdd (m2 gAdd (mVar 0) (mC (.str "/"))) (mVar 1)))
theorem ok__law_joined (Bl : BlT mg) (Gs : GsT K mg) (D : DefAt K mg "_law_joined" s__law_joined) : CalF P w K mg base (k + 1) "_law_joined" s__law_joined ["_law_folder", "_law_part_here"] (runBody 2 2 (b__law_joined)) :=
  calF_of D sc__law_joined (fun _ _ _ _ _ _ us hl => match us, hl with | [_, _], _ => rfl) fun f cdv A outer s H E hr =>
  sndB_cons (sndS_if (sndT_cmp (op2_eq hr.units) (sndE_var 0) (sndE_str)) (sndB_one (sndS_ret (sndE_op op2_Add (sndE_str) (sndE_var 1)))) (sndB_nil)) (sndB_one (sndS_ret (sndE_op op2_Add (sndE_op op2_Add (sndE_var 0) (sndE_str)) (sndE_var 1))))
/-! ### _law_part -/
abbrev N__law_part : List Str := ["_law_deck_here", "_law_part_here", "_law_k"]
theorem sc__law_part : FnScope ["_law_deck_here", "_law_part_here", "_law_k"] ["_law_deck_here"] (defScope s__law_part) := ⟨rfl, rfl, rfl, by decide +kernel, rfl, by decide +kernel, by decide +kernel⟩
noncomputable def lc__law_part_0 (g__law_draw : Fn) (g__law_signs : Fn) : Ex := mLc (mRange1 (mCons (m2 gAdd (mC (.int 1)) (mCall g__law_draw (mCons (mVar 0) (mCons (mC (.int 3)) (mNil))))) (mNil))) (bdN 2) (mYes) (m2 gIx (mCall g__law_signs mNil) (mCall g__law_draw (mCons (mVar 0) (mCons (mC (.int 94)) (mNil))))) [2]
noncomputable def b__law_part (g__law_draw : Fn) (g__law_signs : Fn) : Sm := sSeq (sIf (toT (m2 gEq (mCall g__law_draw (mCons (mVar 0) (mCons (mC (.int 2)) (mNil)))) (mC (.int 0)))) (sRet (m2 gIx (mLst (mCons (mC (.str "a")) (mCons (mC (.str "b")) (mCons (mC (.str "ab")) (mCons (mC (.str "a!")) (mNil)))))) (mCall g__law_draw (mCons (mVar 0) (mCons (mC (.int 4)) (mNil)))))) (sNext)) (sSeq (sSet 1 (mM gJoin (mC (.str "")) (mCons (lc__law_part_0 g__law_draw g__law_signs) mNil))) (sSeq (sIf (toT (m2 (gIn false) (mVar 1) (mTup (mCons (mC (.str ".")) (mCons (mC (.str "..")) (mNil)))))) (sRet (m2 gAdd (mVar 1) (mC (.str "a")))) (sNext)) (sRet (mVar 1))))
theorem ok__law_part (Bl : BlT mg) (Gs : GsT K mg) (D : DefAt K mg "_law_part" s__law_part) {g__law_draw : Fn} (C__law_draw : CalF P w K mg base k "_law_draw" s__law_draw ["_law_deck_here", "_law_many"] g__law_draw) {g__law_signs : Fn} (C__law_signs : CalF P w K mg base k "_law_signs" s__law_signs [] g__law_signs) : CalF P w K mg base (k + 1) "_law_part" s__law_part ["_law_deck_here"] (runBody 3 1 (b__law_part g__law_draw g__law_signs)) :=
  calF_of D sc__law_part (fun _ _ _ _ _ _ us hl => match us, hl with | [_], _ => rfl) fun f cdv A outer s H E hr =>
  sndB_cons (sndS_if (sndT_cmp (op2_eq hr.units) (sndE_callF C__law_draw hr (Nat.le_refl _) (sndA_cons (sndE_var 0) (sndA_cons (sndE_int) (sndA_nil)))) (sndE_int)) (sndB_one (sndS_ret (sndE_ix (sndE_lst (sndA_cons (sndE_str) (sndA_cons (sndE_str) (sndA_cons (sndE_str) (sndA_cons (sndE_str) (sndA_nil)))))) (sndE_callF C__law_draw hr (Nat.le_refl _) (sndA_cons (sndE_var 0) (sndA_cons (sndE_int) (sndA_nil))))))) (sndB_nil)) (sndB_cons (sndS_set (i := 1) (sndE_m1 PySem.F.slot_str_join PySem.F.type_str_join meth_join (sndE_str) (sndE_lc (own := [("_law_k", 2)]) rfl sc__law_part.nd (blkOk_by (by change blkC N__law_part (defScope s__law_part) _ [("_law_k", 2)] = true; decide +kernel)) (sndI_range1 Bl.range_ (sndA_cons (sndE_op op2_Add (sndE_int) (sndE_callF C__law_draw hr (Nat.le_refl _) (sndA_cons (sndE_var 0) (sndA_cons (sndE_int) (sndA_nil))))) (sndA_nil))) (fun _ _ _ _ _ => sndG_name (k := 2) sc__law_part.nd) (fun _ _ _ _ _ => sndTs_nil) (fun _ _ _ _ _ => sndE_ix (sndE_callF0 C__law_signs hr (Nat.le_refl _)) (sndE_callF C__law_draw hr (Nat.le_refl _) (sndA_cons (sndE_var 0) (sndA_cons (sndE_int) (sndA_nil))))))) sc__law_part.nd) (sndB_cons (sndS_if (sndT_cmp op2_in (sndE_var 1) (sndE_tup (sndA_cons (sndE_str) (sndA_cons (sndE_str) (sndA_nil))))) (sndB_one (sndS_ret (sndE_op op2_Add (sndE_var 1) (sndE_str)))) (sndB_nil)) (sndB_one (sndS_ret (sndE_var 1)))))
/-! ### _law_files -/
abbrev N__law_files : List Str := ["_law_deck_here", "_law_most", "_law_files_here", "_law_k", "_law_folders_here", "_law_path"]
theorem sc__law_files : FnScope ["_law_deck_here", "_law_most", "_law_files_here", "_law_k", "_law_folders_here", "_law_path"] ["_law_deck_here", "_law_most"] (defScope s__law_files) := ⟨rfl, rfl, rfl, by decide +kernel, rfl, by decide +kernel, by decide +kernel⟩
noncomputable def lc__law_files_0 : Ex := mLc (mRevI (m1 gListD (mVar 2))) (bdN 5) (mYes) (mTup (mCons (mVar 5) (mCons (m2 gDIx (mVar 2) (mVar 5)) (mNil)))) [5]
noncomputable def lp__law_files_0 (g__law_folders : Fn) (g__law_joined : Fn) (g__law_draw : Fn) (g__law_part : Fn) (g__law_text : Fn) : Sm := sSeq (sSet 4 (mCall g__law_folders (mCons (mVar 2) (mNil)))) (sSeq (sSet 5 (mCall g__law_joined (mCons (m2 gIx (mVar 4) (mCall g__law_draw (mCons (mVar 0) (mCons (m1 gLen (mVar 4)) (mNil))))) (mCons (mCall g__law_part (mCons (mVar 0) (mNil))) (mNil))))) (sIf (toT (m2 (gDIn true) (mVar 5) (mVar 2))) (sSeq (sDSt (mC .non) (mVar 2) (mVar 5)) (sIf (toT (m2 gEq (mCall g__law_draw (mCons (mVar 0) (mCons (mC (.int 2)) (mNil)))) (mC (.int 0)))) (sDSt (mCall g__law_text (mCons (mVar 0) (mCons (mC (.int 4)) (mNil)))) (mVar 2) (mVar 5)) (sNext))) (sNext)))
noncomputable def b__law_files (g__law_draw : Fn) (g__law_text : Fn) (g__law_joined : Fn) (g__law_part : Fn) (g__law_folders : Fn) : Sm := sSeq (sSet 2 (mBox (mDct0))) (sSeq (sFor (mRange1 (mCons (mCall g__law_draw (mCons (mVar 0) (mCons (m2 gAdd (mVar 1) (mC (.int 1))) (mNil)))) (mNil))) (bdN 3) (lp__law_files_0 g__law_folders g__law_joined g__law_draw g__law_part g__law_text)) (sSeq (sIf (toT (m2 gEq (mCall g__law_draw (mCons (mVar 0) (mCons (mC (.int 3)) (mNil)))) (mC (.int 0)))) (sSet 2 (mBox (m1 gDictP (lc__law_files_0)))) (sNext)) (sRet (mMelt (mVar 2)))))
theorem ok__law_files (Bl : BlT mg) (Gs : GsT K mg) (D : DefAt K mg "_law_files" s__law_files) {g__law_draw : Fn} (C__law_draw : CalF P w K mg base k "_law_draw" s__law_draw ["_law_deck_here", "_law_many"] g__law_draw) {g__law_text : Fn} (C__law_text : CalF P w K mg base k "_law_text" s__law_text ["_law_deck_here", "_law_most"] g__law_text) {g__law_joined : Fn} (C__law_joined : CalF P w K mg base k "_law_joined" s__law_joined ["_law_folder", "_law_part_here"] g__law_joined) {g__law_part : Fn} (C__law_part : CalF P w K mg base k "_law_part" s__law_part ["_law_deck_here"] g__law_part) {g__law_folders : Fn} (C__law_folders : CalF P w K mg base k "_law_folders" s__law_folders ["_law_files_here"] g__law_folders) : CalF P w K mg base (k + 1) "_law_files" s__law_files ["_law_deck_here", "_law_most"] (runBody 6 2 (b__law_files g__law_draw g__law_text g__law_joined g__law_part g__law_folders)) :=
  calF_of D sc__law_files (fun _ _ _ _ _ _ us hl => match us, hl with | [_, _], _ => rfl) fun f cdv A outer s H E hr =>
  sndB_cons (sndS_set (i := 2) (sndE_box (sndE_dct0)) sc__law_files.nd) (sndB_cons (sndS_for rfl (sndI_range1 Bl.range_ (sndA_cons (sndE_callF C__law_draw hr (Nat.le_refl _) (sndA_cons (sndE_var 0) (sndA_cons (sndE_op op2_Add (sndE_var 1) (sndE_int)) (sndA_nil)))) (sndA_nil))) (sndG_name (k := 3) sc__law_files.nd) (sndB_cons (sndS_set (i := 4) (sndE_callF C__law_folders hr (Nat.le_refl _) (sndA_cons (sndE_var 2) (sndA_nil))) sc__law_files.nd) (sndB_cons (sndS_set (i := 5) (sndE_callF C__law_joined hr (Nat.le_refl _) (sndA_cons (sndE_ix (sndE_var 4) (sndE_callF C__law_draw hr (Nat.le_refl _) (sndA_cons (sndE_var 0) (sndA_cons (sndE_b1 call1_len Bl.len_ PySem.boot_len (sndE_var 4)) (sndA_nil))))) (sndA_cons (sndE_callF C__law_part hr (Nat.le_refl _) (sndA_cons (sndE_var 0) (sndA_nil))) (sndA_nil)))) sc__law_files.nd) (sndB_one (sndS_if (sndT_cmp (op2_dnotin (hu_of hr)) (sndE_var 5) (sndE_var 2)) (sndB_cons (sndS_dst (hu_of hr) (sndE_non) (sndE_var 2) (sndE_var 5)) (sndB_one (sndS_if (sndT_cmp (op2_eq hr.units) (sndE_callF C__law_draw hr (Nat.le_refl _) (sndA_cons (sndE_var 0) (sndA_cons (sndE_int) (sndA_nil)))) (sndE_int)) (sndB_one (sndS_dst (hu_of hr) (sndE_callF C__law_text hr (Nat.le_refl _) (sndA_cons (sndE_var 0) (sndA_cons (sndE_int) (sndA_nil)))) (sndE_var 2) (sndE_var 5))) (sndB_nil)))) (sndB_nil)))))) (sndB_cons (sndS_if (sndT_cmp (op2_eq hr.units) (sndE_callF C__law_draw hr (Nat.le_refl _) (sndA_cons (sndE_var 0) (sndA_cons (sndE_int) (sndA_nil)))) (sndE_int)) (sndB_one (sndS_set (i := 2) (sndE_box (sndE_t1 (call1_dictP rfl) Bl.dict_ (by decide +kernel) (sndE_lc (own := [("_law_path", 5)]) rfl sc__law_files.nd (blkOk_by (by change blkC N__law_files (defScope s__law_files) _ [("_law_path", 5)] = true; decide +kernel)) (sndI_rev Bl.reversed_ (sndE_t1 (call1_listD rfl) Bl.list_ (by decide +kernel) (sndE_var 2))) (fun _ _ _ _ _ => sndG_name (k := 5) sc__law_files.nd) (fun _ _ _ _ _ => sndTs_nil) (fun _ _ _ _ _ => sndE_tup (sndA_cons (sndE_var 5) (sndA_cons (sndE_dix (hu_of hr) (sndE_var 2) (sndE_var 5)) (sndA_nil))))))) sc__law_files.nd)) (sndB_nil)) (sndB_one (sndS_ret (sndE_melt (sndE_var 2))))))
/-! ### _law_world -/
abbrev N__law_world : List Str := ["_law_deck_here", "_law_most", "_law_files_here", "_law_folders_here", "_law_folder", "_law_names", "_law_k", "_law_name_here", "_law_arguments", "_law_functions"]
theorem sc__law_world : FnScope ["_law_deck_here", "_law_most", "_law_files_here", "_law_folders_here", "_law_folder", "_law_names", "_law_k", "_law_name_here", "_law_arguments", "_law_functions"] ["_law_deck_here", "_law_most"] (defScope s__law_world) := ⟨rfl, rfl, rfl, by decide +kernel, rfl, by decide +kernel, by decide +kernel⟩
noncomputable def lc__law_world_0 (g__law_draw : Fn) (g__law_text : Fn) : Ex := mLc (mRange1 (mCons (mCall g__law_draw (mCons (mVar 0) (mCons (mC (.int 3)) (mNil)))) (mNil))) (bdN 6) (mYes) (mCall g__law_text (mCons (mVar 0) (mCons (mC (.int 2)) (mNil)))) [6]
noncomputable def lp__law_world_0 (g__law_name : Fn) (g__law_text : Fn) : Sm := sSeq (sSet 7 (mCall g__law_name (mCons (mVar 0) (mNil)))) (sDSt (mCall g__law_text (mCons (mVar 0) (mCons (mC (.int 3)) (mNil)))) (mVar 5) (mVar 7))
noncomputable def b__law_world (g__law_draw : Fn) (g__law_text : Fn) (g__law_function : Fn) (g__law_name : Fn) (g__law_folders : Fn) (g__law_files : Fn) : Sm := sSeq (sSet 2 (mCall g__law_files (mCons (mVar 0) (mCons (mVar 1) (mNil))))) (sSeq (sSet 3 (mCall g__law_folders (mCons (mVar 2) (mNil)))) (sSeq (sSet 4 (m2 gIx (mVar 3) (mCall g__law_draw (mCons (mVar 0) (mCons (m1 gLen (mVar 3)) (mNil)))))) (sSeq (sOwn 5 (mDct0)) (sSeq (sFor (mRange1 (mCons (mCall g__law_draw (mCons (mVar 0) (mCons (mC (.int 3)) (mNil)))) (mNil))) (bdN 6) (lp__law_world_0 g__law_name g__law_text)) (sSeq (sSet 8 (lc__law_world_0 g__law_draw g__law_text)) (sSeq (sOwn 9 (mDct0)) (sSeq (sIf (toT (m2 gEq (mCall g__law_draw (mCons (mVar 0) (mCons (mC (.int 3)) (mNil)))) (mC (.int 0)))) (sDSt (mCall g__law_function (mCons (mVar 0) (mNil))) (mVar 9) (m2 gAdd (mC (.str "f")) (m1 gStrI (mCall g__law_draw (mCons (mVar 0) (mCons (mC (.int 10)) (mNil))))))) (sNext)) (sRet (mTup (mCons (mVar 2) (mCons (mVar 4) (mCons (mVar 5) (mCons (mVar 8) (mCons (mCall g__law_text (mCons (mVar 0) (mCons (mC (.int 2)) (mNil)))) (mCons (mCall g__law_draw (mCons (mVar 0) (mCons (mC (.int 256)) (mNil)))) (mCons (mVar 9) (mNil)))))))))))))))))
theorem ok__law_world (Bl : BlT mg) (Gs : GsT K mg) (D : DefAt K mg "_law_world" s__law_world) {g__law_draw : Fn} (C__law_draw : CalF P w K mg base k "_law_draw" s__law_draw ["_law_deck_here", "_law_many"] g__law_draw) {g__law_text : Fn} (C__law_text : CalF P w K mg base k "_law_text" s__law_text ["_law_deck_here", "_law_most"] g__law_text) {g__law_function : Fn} (C__law_function : CalF P w K mg base k "_law_function" s__law_function ["_law_deck_here"] g__law_function) {g__law_name : Fn} (C__law_name : CalF P w K mg base k "_law_name" s__law_name ["_law_deck_here"] g__law_name) {g__law_folders : Fn} (C__law_folders : CalF P w K mg base k "_law_folders" s__law_folders ["_law_files_here"] g__law_folders) {g__law_files : Fn} (C__law_files : CalF P w K mg base k "_law_files" s__law_files ["_law_deck_here", "_law_most"] g__law_files) : CalF P w K mg base (k + 1) "_law_world" s__law_world ["_law_deck_here", "_law_most"] (runBody 10 2 (b__law_world g__law_draw g__law_text g__law_function g__law_name g__law_folders g__law_files)) :=
  calF_of D sc__law_world (fun _ _ _ _ _ _ us hl => match us, hl with | [_, _], _ => rfl) fun f cdv A outer s H E hr =>
  sndB_cons (sndS_set (i := 2) (sndE_callF C__law_files hr (Nat.le_refl _) (sndA_cons (sndE_var 0) (sndA_cons (sndE_var 1) (sndA_nil)))) sc__law_world.nd) (sndB_cons (sndS_set (i := 3) (sndE_callF C__law_folders hr (Nat.le_refl _) (sndA_cons (sndE_var 2) (sndA_nil))) sc__law_world.nd) (sndB_cons (sndS_set (i := 4) (sndE_ix (sndE_var 3) (sndE_callF C__law_draw hr (Nat.le_refl _) (sndA_cons (sndE_var 0) (sndA_cons (sndE_b1 call1_len Bl.len_ PySem.boot_len (sndE_var 3)) (sndA_nil))))) sc__law_world.nd) (sndB_cons (sndS_own (i := 5) (sndE_dct0) sc__law_world.nd) (sndB_cons (sndS_for rfl (sndI_range1 Bl.range_ (sndA_cons (sndE_callF C__law_draw hr (Nat.le_refl _) (sndA_cons (sndE_var 0) (sndA_cons (sndE_int) (sndA_nil)))) (sndA_nil))) (sndG_name (k := 6) sc__law_world.nd) (sndB_cons (sndS_set (i := 7) (sndE_callF C__law_name hr (Nat.le_refl _) (sndA_cons (sndE_var 0) (sndA_nil))) sc__law_world.nd) (sndB_one (sndS_dst (hu_of hr) (sndE_callF C__law_text hr (Nat.le_refl _) (sndA_cons (sndE_var 0) (sndA_cons (sndE_int) (sndA_nil)))) (sndE_var 5) (sndE_var 7))))) (sndB_cons (sndS_setLc (k := 8) (own := [("_law_k", 6)]) rfl sc__law_world.nd (blkOk_by (by change blkC N__law_world (defScope s__law_world) _ [("_law_k", 6)] = true; decide +kernel)) (sndI_range1 Bl.range_ (sndA_cons (sndE_callF C__law_draw hr (Nat.le_refl _) (sndA_cons (sndE_var 0) (sndA_cons (sndE_int) (sndA_nil)))) (sndA_nil))) (fun _ _ _ _ _ => sndG_name (k := 6) sc__law_world.nd) (fun _ _ _ _ _ => sndTs_nil) (fun _ _ _ _ _ => sndE_callF C__law_text hr (Nat.le_refl _) (sndA_cons (sndE_var 0) (sndA_cons (sndE_int) (sndA_nil))))) (sndB_cons (sndS_own (i := 9) (sndE_dct0) sc__law_world.nd) (sndB_cons (sndS_if (sndT_cmp (op2_eq hr.units) (sndE_callF C__law_draw hr (Nat.le_refl _) (sndA_cons (sndE_var 0) (sndA_cons (sndE_int) (sndA_nil)))) (sndE_int)) (sndB_one (sndS_dst (hu_of hr) (sndE_callF C__law_function hr (Nat.le_refl _) (sndA_cons (sndE_var 0) (sndA_nil))) (sndE_var 9) (sndE_op op2_Add (sndE_str) (sndE_t1 call1_strI Bl.str_ (by decide +kernel) (sndE_callF C__law_draw hr (Nat.le_refl _) (sndA_cons (sndE_var 0) (sndA_cons (sndE_int) (sndA_nil)))))))) (sndB_nil)) (sndB_one (sndS_ret (sndE_tup (sndA_cons (sndE_var 2) (sndA_cons (sndE_var 4) (sndA_cons (sndE_var 5) (sndA_cons (sndE_var 8) (sndA_cons (sndE_callF C__law_text hr (Nat.le_refl _) (sndA_cons (sndE_var 0) (sndA_cons (sndE_int) (sndA_nil)))) (sndA_cons (sndE_callF C__law_draw hr (Nat.le_refl _) (sndA_cons (sndE_var 0) (sndA_cons (sndE_int) (sndA_nil)))) (sndA_cons (sndE_var 9) (sndA_nil))))))))))))))))))
/-! ### _law_deck -/
abbrev N__law_deck : List Str := ["_law_cell_here", "_law_number", "_law_total", "_law_k"]
theorem sc__law_deck : FnScope ["_law_cell_here", "_law_number", "_law_total", "_law_k"] ["_law_cell_here"] (defScope s__law_deck) := ⟨rfl, rfl, rfl, by decide +kernel, rfl, by decide +kernel, by decide +kernel⟩
noncomputable def lp__law_deck_0 : Sm := sSeq (sSet 1 (m2 (gII cMod (· % ·)) (m1 gInt (m2 gAdd (m2 gAdd (m2 gMul (mVar 1) (mVar 1)) (m2 gMul (mC (.int 48271)) (mVar 1))) (m2 gMul (mC (.int 6364136223846793)) (m2 gAdd (mVar 3) (mC (.int 1)))))) (mC (.int 2305843009213693951)))) (sSet 2 (m2 gAdd (m2 gMul (mVar 2) (mC (.int 2305843009213693951))) (mVar 1)))
noncomputable def b__law_deck : Sm := sSeq (sSet 1 (m2 (gII cMod (· % ·)) (m1 gInt (mVar 0)) (mC (.int 2305843009213693951)))) (sSeq (sSet 2 (mC (.int 0))) (sSeq (sFor (mRange1 (mCons (mC (.int 16)) (mNil))) (bdN 3) (lp__law_deck_0)) (sSeq (sIf (toT (m2 gGe (mVar 0) (m2 (gII cPow fun i j => i ^ j.toNat) (mC (.int 10)) (mC (.int 18))))) (sRet (mBox (mLst (mCons (m2 gSub (mVar 0) (m2 (gII cPow fun i j => i ^ j.toNat) (mC (.int 10)) (mC (.int 18)))) (mCons (mVar 2) (mNil)))))) (sNext)) (sRet (mBox (mLst (mCons (mVar 2) (mCons (mC (.int 0)) (mNil)))))))))
theorem ok__law_deck (Bl : BlT mg) (Gs : GsT K mg) (D : DefAt K mg "_law_deck" s__law_deck) : CalF P w K mg base (k + 1) "_law_deck" s__law_deck ["_law_cell_here"] (runBody 4 1 (b__law_deck)) :=
  calF_of D sc__law_deck (fun _ _ _ _ _ _ us hl => match us, hl with | [_], _ => rfl) fun f cdv A outer s H E hr =>
  sndB_cons (sndS_set (i := 1) (sndE_op op2_mod (sndE_t1 call1_int Bl.int_ (by decide +kernel) (sndE_var 0)) (sndE_int)) sc__law_deck.nd) (sndB_cons (sndS_set (i := 2) (sndE_int) sc__law_deck.nd) (sndB_cons (sndS_for rfl (sndI_range1 Bl.range_ (sndA_cons (sndE_int) (sndA_nil))) (sndG_name (k := 3) sc__law_deck.nd) (sndB_cons (sndS_set (i := 1) (sndE_op op2_mod (sndE_t1 call1_int Bl.int_ (by decide +kernel) (sndE_op op2_Add (sndE_op op2_Add (sndE_op op2_Mul (sndE_var 1) (sndE_var 1)) (sndE_op op2_Mul (sndE_int) (sndE_var 1))) (sndE_op op2_Mul (sndE_int) (sndE_op op2_Add (sndE_var 3) (sndE_int))))) (sndE_int)) sc__law_deck.nd) (sndB_one (sndS_set (i := 2) (sndE_op op2_Add (sndE_op op2_Mul (sndE_var 2) (sndE_int)) (sndE_var 1)) sc__law_deck.nd)))) (sndB_cons (sndS_if (sndT_cmp op2_Ge (sndE_var 0) (sndE_op op2_pow (sndE_int) (sndE_int))) (sndB_one (sndS_ret (sndE_box (sndE_lst (sndA_cons (sndE_op op2_Sub (sndE_var 0) (sndE_op op2_pow (sndE_int) (sndE_int))) (sndA_cons (sndE_var 2) (sndA_nil))))))) (sndB_nil)) (sndB_one (sndS_ret (sndE_box (sndE_lst (sndA_cons (sndE_var 2) (sndA_cons (sndE_int) (sndA_nil))))))))))
/-! ### said_path -/
abbrev N_said_path : List Str := ["folder", "text", "parts", "part"]
theorem sc_said_path : FnScope ["folder", "text", "parts", "part"] ["folder", "text"] (defScope s_said_path) := ⟨rfl, rfl, rfl, by decide +kernel, rfl, by decide +kernel, by decide +kernel⟩
noncomputable def lp_said_path_0 : Sm := sIf (toT (m2 gEq (mVar 3) (mC (.str "..")))) (sOwn 2 (mSl (mVar 2) mNoPart (mPart (m1 gNeg (mC (.int 1)))))) (sIf (toT (m2 (gIn true) (mVar 3) (mTup (mCons (mC (.str "")) (mCons (mC (.str ".")) (mNil)))))) (sExpr (mAppend (mVar 2) (mVar 3))) (sNext))
noncomputable def lc_said_path_0 : Ex := mLc (mItV (mM gSplit (mVar 0) (mCons (mC (.str c_TOP)) mNil))) (bdN 3) (toT (m2 gNe (mVar 3) (mC (.str "")))) (mVar 3) [3]
noncomputable def b_said_path : Sm := sSeq (sOwn 2 (mIf (mTru (mM gStarts (mVar 1) (mCons (mC (.str c_TOP)) mNil))) (mLst (mNil)) (lc_said_path_0))) (sSeq (sFor (mItV (mM gSplit (mVar 1) (mCons (mC (.str c_TOP)) mNil))) (bdN 3) (lp_said_path_0)) (sRet (m2 gAdd (mC (.str c_TOP)) (mM gJoin (mC (.str c_TOP)) (mCons (mVar 2) mNil)))))
theorem ok_said_path (Bl : BlT mg) (Gs : GsT K mg) (D : DefAt K mg "said_path" s_said_path) : CalF P w K mg base (k + 1) "said_path" s_said_path ["folder", "text"] (runBody 4 2 (b_said_path)) :=
  calF_of D sc_said_path (fun _ _ _ _ _ _ us hl => match us, hl with | [_, _], _ => rfl) fun f cdv A outer s H E hr =>
  sndB_cons (sndS_own (i := 2) (sndE_if (sndT_tru (sndE_m1 PySem.F.slot_str_startswith PySem.F.type_str_startswith meth_startswith (sndE_var 1) (sndE_gstrE Gs.TOP))) (sndE_lst (sndA_nil)) (sndE_lc (own := [("part", 3)]) rfl sc_said_path.nd (blkOk_by (by change blkC N_said_path (defScope s_said_path) _ [("part", 3)] = true; decide +kernel)) (sndI_val (sndE_m1 PySem.F.slot_str_split PySem.F.type_str_split meth_split (sndE_var 0) (sndE_gstrE Gs.TOP))) (fun _ _ _ _ _ => sndG_name (k := 3) sc_said_path.nd) (fun _ _ _ _ _ => sndTs_one (sndT_cmp (op2_ne hr.units) (sndE_var 3) (sndE_str))) (fun _ _ _ _ _ => sndE_var 3))) sc_said_path.nd) (sndB_cons (sndS_for rfl (sndI_val (sndE_m1 PySem.F.slot_str_split PySem.F.type_str_split meth_split (sndE_var 1) (sndE_gstrE Gs.TOP))) (sndG_name (k := 3) sc_said_path.nd) (sndB_one (sndS_if (sndT_cmp (op2_eq hr.units) (sndE_var 3) (sndE_str)) (sndB_one (sndS_own (i := 2) (sndE_sl (sndE_var 2) sndO_none (sndO_some (sndE_neg (sndE_int)))) sc_said_path.nd)) (sndB_one (sndS_if (sndT_cmp op2_notin (sndE_var 3) (sndE_tup (sndA_cons (sndE_str) (sndA_cons (sndE_str) (sndA_nil))))) (sndB_one (sndS_expr (sndE_append (sndE_var 2) (sndE_var 3)))) (sndB_nil)))))) (sndB_one (sndS_ret (sndE_op op2_Add (sndE_gstrE Gs.TOP) (sndE_m1 PySem.F.slot_str_join PySem.F.type_str_join meth_join (sndE_gstrE Gs.TOP) (sndE_var 2))))))
/-! ### has_signs -/
abbrev N_has_signs : List Str := ["text", "signs", "sign"]
theorem sc_has_signs : FnScope ["text", "signs", "sign"] ["text", "signs"] (defScope s_has_signs) := ⟨rfl, rfl, rfl, by decide +kernel, rfl, by decide +kernel, by decide +kernel⟩
noncomputable def lc_has_signs_0 : Ex := mLc (mItV (mVar 0)) (bdN 2) (mYes) (m2 (gIn false) (mVar 2) (mVar 1)) [2]
noncomputable def b_has_signs : Sm := sRet (mAndV (m1 (gIsi "str") (mVar 0)) (m1 gAll (lc_has_signs_0)))
theorem ok_has_signs (Bl : BlT mg) (Gs : GsT K mg) (D : DefAt K mg "has_signs" s_has_signs) : CalF P w K mg base (k + 1) "has_signs" s_has_signs ["text", "signs"] (runBody 3 2 (b_has_signs)) :=
  calF_of D sc_has_signs (fun _ _ _ _ _ _ us hl => match us, hl with | [_, _], _ => rfl) fun f cdv A outer s H E hr =>
  sndB_one (sndS_ret (sndE_and (sndE_isi Bl.isinstance Bl.str_ (by decide +kernel) (sndE_var 0)) (sndE_one (sndE_b1 (call1_all rfl) Bl.all_ (by decide +kernel) (sndE_lc (own := [("sign", 2)]) rfl sc_has_signs.nd (blkOk_by (by change blkC N_has_signs (defScope s_has_signs) _ [("sign", 2)] = true; decide +kernel)) (sndI_val (sndE_var 0)) (fun _ _ _ _ _ => sndG_name (k := 2) sc_has_signs.nd) (fun _ _ _ _ _ => sndTs_nil) (fun _ _ _ _ _ => sndE_cmp op2_in (sndE_var 2) (sndE_var 1)))))))
/-! ### is_name -/
abbrev N_is_name : List Str := ["thing"]
theorem sc_is_name : FnScope ["thing"] ["thing"] (defScope s_is_name) := ⟨rfl, rfl, rfl, by decide +kernel, rfl, by decide +kernel, by decide +kernel⟩
noncomputable def b_is_name (g_has_signs : Fn) : Sm := sRet (mAndV (mCall g_has_signs (mCons (mVar 0) (mCons (mC (.str c_NAME_SIGNS)) (mNil)))) (mAndV (m2 gNe (mVar 0) (mC (.str ""))) (m2 (gIn false) (m2 gIx (mVar 0) (mC (.int 0))) (mC (.str c_LETTERS)))))
theorem ok_is_name (Bl : BlT mg) (Gs : GsT K mg) (D : DefAt K mg "is_name" s_is_name) {g_has_signs : Fn} (C_has_signs : CalF P w K mg base k "has_signs" s_has_signs ["text", "signs"] g_has_signs) : CalF P w K mg base (k + 1) "is_name" s_is_name ["thing"] (runBody 1 1 (b_is_name g_has_signs)) :=
  calF_of D sc_is_name (fun _ _ _ _ _ _ us hl => match us, hl with | [_], _ => rfl) fun f cdv A outer s H E hr =>
  sndB_one (sndS_ret (sndE_and (sndE_callF C_has_signs hr (Nat.le_refl _) (sndA_cons (sndE_var 0) (sndA_cons (sndE_gstrE Gs.NAME_SIGNS) (sndA_nil)))) (sndE_and (sndE_cmp (op2_ne hr.units) (sndE_var 0) (sndE_str)) (sndE_one (sndE_cmp op2_in (sndE_ix (sndE_var 0) (sndE_int)) (sndE_gstrE Gs.LETTERS))))))
/-! ### is_text -/
abbrev N_is_text : List Str := ["thing"]
theorem sc_is_text : FnScope ["thing"] ["thing"] (defScope s_is_text) := ⟨rfl, rfl, rfl, by decide +kernel, rfl, by decide +kernel, by decide +kernel⟩
noncomputable def b_is_text (g_has_signs : Fn) : Sm := sRet (mCall g_has_signs (mCons (mVar 0) (mCons (mC (.str c_SIGNS)) (mNil))))
theorem ok_is_text (Bl : BlT mg) (Gs : GsT K mg) (D : DefAt K mg "is_text" s_is_text) {g_has_signs : Fn} (C_has_signs : CalF P w K mg base k "has_signs" s_has_signs ["text", "signs"] g_has_signs) : CalF P w K mg base (k + 1) "is_text" s_is_text ["thing"] (runBody 1 1 (b_is_text g_has_signs)) :=
  calF_of D sc_is_text (fun _ _ _ _ _ _ us hl => match us, hl with | [_], _ => rfl) fun f cdv A outer s H E hr =>
  sndB_one (sndS_ret (sndE_callF C_has_signs hr (Nat.le_refl _) (sndA_cons (sndE_var 0) (sndA_cons (sndE_gstrE Gs.SIGNS) (sndA_nil)))))
/-! ### is_sum -/
abbrev N_is_sum : List Str := ["tree", "kind", "part"]
theorem sc_is_sum : FnScope ["tree", "kind", "part"] ["tree"] (defScope s_is_sum) := ⟨rfl, rfl, rfl, by decide +kernel, rfl, by decide +kernel, by decide +kernel⟩
noncomputable def b_is_sum : Sm := sBad
theorem ok_is_sum (Bl : BlT mg) (Gs : GsT K mg) (D : DefAt K mg "is_sum" s_is_sum) : CalF P w K mg base (k + 1) "is_sum" s_is_sum ["tree"] (runBody 3 1 (b_is_sum)) :=
  calF_of D sc_is_sum (fun _ _ _ _ _ _ us hl => match us, hl with | [_], _ => rfl) fun f cdv A outer s H E hr =>
  sndB_never
/-! ### is_place -/
abbrev N_is_place : List Str := ["thing"]
theorem sc_is_place : FnScope ["thing"] ["thing"] (defScope s_is_place) := ⟨rfl, rfl, rfl, by decide +kernel, rfl, by decide +kernel, by decide +kernel⟩
noncomputable def b_is_place (g_has_signs : Fn) : Sm := sSeq (sIf (toT (m2 (gIn false) (mVar 0) (mTup (mCons (mC (.str "0")) (mCons (mC (.str "#")) (mCons (mC (.str "?")) (mCons (mC (.str "@")) (mCons (mC (.str "*")) (mNil))))))))) (sRet (mC (.bl true))) (sNext)) (sRet (mAndV (mCall g_has_signs (mCons (mVar 0) (mCons (mC (.str c_DIGITS)) (mNil)))) (mAndV (m2 gNe (mVar 0) (mC (.str ""))) (m2 gNe (m2 gIx (mVar 0) (mC (.int 0))) (mC (.str "0"))))))
theorem ok_is_place (Bl : BlT mg) (Gs : GsT K mg) (D : DefAt K mg "is_place" s_is_place) {g_has_signs : Fn} (C_has_signs : CalF P w K mg base k "has_signs" s_has_signs ["text", "signs"] g_has_signs) : CalF P w K mg base (k + 1) "is_place" s_is_place ["thing"] (runBody 1 1 (b_is_place g_has_signs)) :=
  calF_of D sc_is_place (fun _ _ _ _ _ _ us hl => match us, hl with | [_], _ => rfl) fun f cdv A outer s H E hr =>
  sndB_cons (sndS_if (sndT_cmp op2_in (sndE_var 0) (sndE_tup (sndA_cons (sndE_str) (sndA_cons (sndE_str) (sndA_cons (sndE_str) (sndA_cons (sndE_str) (sndA_cons (sndE_str) (sndA_nil)))))))) (sndB_one (sndS_ret (sndE_bl))) (sndB_nil)) (sndB_one (sndS_ret (sndE_and (sndE_callF C_has_signs hr (Nat.le_refl _) (sndA_cons (sndE_var 0) (sndA_cons (sndE_gstrE Gs.DIGITS) (sndA_nil)))) (sndE_and (sndE_cmp (op2_ne hr.units) (sndE_var 0) (sndE_str)) (sndE_one (sndE_cmp (op2_ne hr.units) (sndE_ix (sndE_var 0) (sndE_int)) (sndE_str)))))))
/-! ### is_name_or_place -/
abbrev N_is_name_or_place : List Str := ["thing"]
theorem sc_is_name_or_place : FnScope ["thing"] ["thing"] (defScope s_is_name_or_place) := ⟨rfl, rfl, rfl, by decide +kernel, rfl, by decide +kernel, by decide +kernel⟩
noncomputable def b_is_name_or_place (g_is_name : Fn) (g_is_place : Fn) : Sm := sRet (mOrV (mCall g_is_name (mCons (mVar 0) (mNil))) (mCall g_is_place (mCons (mVar 0) (mNil))))
theorem ok_is_name_or_place (Bl : BlT mg) (Gs : GsT K mg) (D : DefAt K mg "is_name_or_place" s_is_name_or_place) {g_is_name : Fn} (C_is_name : CalF P w K mg base k "is_name" s_is_name ["thing"] g_is_name) {g_is_place : Fn} (C_is_place : CalF P w K mg base k "is_place" s_is_place ["thing"] g_is_place) : CalF P w K mg base (k + 1) "is_name_or_place" s_is_name_or_place ["thing"] (runBody 1 1 (b_is_name_or_place g_is_name g_is_place)) :=
  calF_of D sc_is_name_or_place (fun _ _ _ _ _ _ us hl => match us, hl with | [_], _ => rfl) fun f cdv A outer s H E hr =>
  sndB_one (sndS_ret (sndE_or (sndE_callF C_is_name hr (Nat.le_refl _) (sndA_cons (sndE_var 0) (sndA_nil))) (sndE_one (sndE_callF C_is_place hr (Nat.le_refl _) (sndA_cons (sndE_var 0) (sndA_nil))))))
/-! ### may_be_done -/
abbrev N_may_be_done : List Str := ["name", "deed", "read_as_size"]
theorem sc_may_be_done : FnScope ["name", "deed", "read_as_size"] ["name", "deed"] (defScope s_may_be_done) := ⟨rfl, rfl, rfl, by decide +kernel, rfl, by decide +kernel, by decide +kernel⟩
noncomputable def b_may_be_done : Sm := sBad
theorem ok_may_be_done (Bl : BlT mg) (Gs : GsT K mg) (D : DefAt K mg "may_be_done" s_may_be_done) : CalF P w K mg base (k + 1) "may_be_done" s_may_be_done ["name", "deed"] (runBody 3 2 (b_may_be_done)) :=
  calF_of D sc_may_be_done (fun _ _ _ _ _ _ us hl => match us, hl with | [_, _], _ => rfl) fun f cdv A outer s H E hr =>
  sndB_never
/-! ### is_tagged -/
abbrev N_is_tagged : List Str := ["tree"]
theorem sc_is_tagged : FnScope ["tree"] ["tree"] (defScope s_is_tagged) := ⟨rfl, rfl, rfl, by decide +kernel, rfl, by decide +kernel, by decide +kernel⟩
noncomputable def b_is_tagged : Sm := sRet (mAndV (m1 (gIsi "tuple") (mVar 0)) (mAndV (m2 gNe (mVar 0) (mTup (mNil))) (m1 (gIsi "str") (m2 gIx (mVar 0) (mC (.int 0))))))
theorem ok_is_tagged (Bl : BlT mg) (Gs : GsT K mg) (D : DefAt K mg "is_tagged" s_is_tagged) : CalF P w K mg base (k + 1) "is_tagged" s_is_tagged ["tree"] (runBody 1 1 (b_is_tagged)) :=
  calF_of D sc_is_tagged (fun _ _ _ _ _ _ us hl => match us, hl with | [_], _ => rfl) fun f cdv A outer s H E hr =>
  sndB_one (sndS_ret (sndE_and (sndE_isi Bl.isinstance Bl.tuple_ (by decide +kernel) (sndE_var 0)) (sndE_and (sndE_cmp (op2_ne hr.units) (sndE_var 0) (sndE_tup (sndA_nil))) (sndE_one (sndE_isi Bl.isinstance Bl.str_ (by decide +kernel) (sndE_ix (sndE_var 0) (sndE_int)))))))
/-! ### is_integer -/
abbrev N_is_integer : List Str := ["thing"]
theorem sc_is_integer : FnScope ["thing"] ["thing"] (defScope s_is_integer) := ⟨rfl, rfl, rfl, by decide +kernel, rfl, by decide +kernel, by decide +kernel⟩
noncomputable def b_is_integer : Sm := sRet (mAndV (m1 (gIsi "int") (mVar 0)) (mNotV (m1 (gIsi "bool") (mVar 0))))
theorem ok_is_integer (Bl : BlT mg) (Gs : GsT K mg) (D : DefAt K mg "is_integer" s_is_integer) : CalF P w K mg base (k + 1) "is_integer" s_is_integer ["thing"] (runBody 1 1 (b_is_integer)) :=
  calF_of D sc_is_integer (fun _ _ _ _ _ _ us hl => match us, hl with | [_], _ => rfl) fun f cdv A outer s H E hr =>
  sndB_one (sndS_ret (sndE_and (sndE_isi Bl.isinstance Bl.int_ (by decide +kernel) (sndE_var 0)) (sndE_one (sndE_not (sndE_isi Bl.isinstance Bl.bool_ (by decide +kernel) (sndE_var 0))))))
/-! ### may_name_function -/
abbrev N_may_name_function : List Str := ["thing"]
theorem sc_may_name_function : FnScope ["thing"] ["thing"] (defScope s_may_name_function) := ⟨rfl, rfl, rfl, by decide +kernel, rfl, by decide +kernel, by decide +kernel⟩
noncomputable def b_may_name_function (g_is_name : Fn) : Sm := sRet (mAndV (mCall g_is_name (mCons (mVar 0) (mNil))) (mAndV (m2 (gIn true) (mVar 0) (mC c_DEED_NAMES)) (mAndV (m2 (gIn true) (mVar 0) (mC c_TOOL_NAMES)) (m2 (gIn true) (mVar 0) (mC c_KEY_WORDS)))))
theorem ok_may_name_function (Bl : BlT mg) (Gs : GsT K mg) (D : DefAt K mg "may_name_function" s_may_name_function) {g_is_name : Fn} (C_is_name : CalF P w K mg base k "is_name" s_is_name ["thing"] g_is_name) : CalF P w K mg base (k + 1) "may_name_function" s_may_name_function ["thing"] (runBody 1 1 (b_may_name_function g_is_name)) :=
  calF_of D sc_may_name_function (fun _ _ _ _ _ _ us hl => match us, hl with | [_], _ => rfl) fun f cdv A outer s H E hr =>
  sndB_one (sndS_ret (sndE_and (sndE_callF C_is_name hr (Nat.le_refl _) (sndA_cons (sndE_var 0) (sndA_nil))) (sndE_and (sndE_cmp op2_notin (sndE_var 0) (sndE_gtreeE Gs.DEED_NAMES)) (sndE_and (sndE_cmp op2_notin (sndE_var 0) (sndE_gtreeE Gs.TOOL_NAMES)) (sndE_one (sndE_cmp op2_notin (sndE_var 0) (sndE_gtreeE Gs.KEY_WORDS)))))))
/-! ### begins_set -/
abbrev N_begins_set : List Str := ["text", "name", "sign", "_"]
theorem sc_begins_set : FnScope ["text", "name", "sign", "_"] ["text"] (defScope s_begins_set) := ⟨rfl, rfl, rfl, by decide +kernel, rfl, by decide +kernel, by decide +kernel⟩
noncomputable def b_begins_set (g_is_name : Fn) : Sm := sSeq (sAsg (mM gPartition (mVar 0) (mCons (mC (.str "=")) mNil)) (bdT (bdCons (bdN 1) (bdCons (bdN 2) (bdCons (bdN 3) (bdNil)))))) (sRet (mAndV (m2 gNe (mVar 2) (mC (.str ""))) (mCall g_is_name (mCons (mVar 1) (mNil)))))
theorem ok_begins_set (Bl : BlT mg) (Gs : GsT K mg) (D : DefAt K mg "begins_set" s_begins_set) {g_is_name : Fn} (C_is_name : CalF P w K mg base k "is_name" s_is_name ["thing"] g_is_name) : CalF P w K mg base (k + 1) "begins_set" s_begins_set ["text"] (runBody 4 1 (b_begins_set g_is_name)) :=
  calF_of D sc_begins_set (fun _ _ _ _ _ _ us hl => match us, hl with | [_], _ => rfl) fun f cdv A outer s H E hr =>
  sndB_cons (sndS_asg (sndE_m1 PySem.F.slot_str_partition PySem.F.type_str_partition meth_partition (sndE_var 0) (sndE_str)) (sndG_tup rfl (sndGs_cons (sndG_name (k := 1) sc_begins_set.nd) (sndGs_cons (sndG_name (k := 2) sc_begins_set.nd) (sndGs_cons (sndG_name (k := 3) sc_begins_set.nd) (sndGs_nil)))) (n := 3) (bdCons_len (bdCons_len (bdCons_len (fun _ _ h => bdNil_len h)))))) (sndB_one (sndS_ret (sndE_and (sndE_cmp (op2_ne hr.units) (sndE_var 2) (sndE_str)) (sndE_one (sndE_callF C_is_name hr (Nat.le_refl _) (sndA_cons (sndE_var 1) (sndA_nil)))))))
/-! ### is_script -/
abbrev N_is_script : List Str := ["tree", "command"]
theorem sc_is_script : FnScope ["tree", "command"] ["tree"] (defScope s_is_script) := ⟨rfl, rfl, rfl, by decide +kernel, rfl, by decide +kernel, by decide +kernel⟩
noncomputable def lc_is_script_0 (g_is_command : Fn) : Ex := mLc (mItV (mVar 0)) (bdN 1) (mYes) (mCall g_is_command (mCons (mVar 1) (mNil))) [1]
noncomputable def b_is_script (g_is_command : Fn) : Sm := sRet (mAndV (m1 (gIsi "list") (mVar 0)) (m1 gAll (lc_is_script_0 g_is_command)))
theorem ok_is_script (Bl : BlT mg) (Gs : GsT K mg) (D : DefAt K mg "is_script" s_is_script) {g_is_command : Fn} (C_is_command : CalF P w K mg base k "is_command" s_is_command ["tree"] g_is_command) : CalF P w K mg base (k + 1) "is_script" s_is_script ["tree"] (runBody 2 1 (b_is_script g_is_command)) :=
  calF_of D sc_is_script (fun _ _ _ _ _ _ us hl => match us, hl with | [_], _ => rfl) fun f cdv A outer s H E hr =>
  sndB_one (sndS_ret (sndE_and (sndE_isi Bl.isinstance Bl.list_ (by decide +kernel) (sndE_var 0)) (sndE_one (sndE_b1 (call1_all rfl) Bl.all_ (by decide +kernel) (sndE_lc (own := [("command", 1)]) rfl sc_is_script.nd (blkOk_by (by change blkC N_is_script (defScope s_is_script) _ [("command", 1)] = true; decide +kernel)) (sndI_val (sndE_var 0)) (fun _ _ _ _ _ => sndG_name (k := 1) sc_is_script.nd) (fun _ _ _ _ _ => sndTs_nil) (fun _ _ _ _ _ => sndE_callF C_is_command hr (Nat.le_refl _) (sndA_cons (sndE_var 1) (sndA_nil))))))))
/-! ### is_command -/
abbrev N_is_command : List Str := ["tree"]
theorem sc_is_command : FnScope ["tree"] ["tree"] (defScope s_is_command) := ⟨rfl, rfl, rfl, by decide +kernel, rfl, by decide +kernel, by decide +kernel⟩
noncomputable def b_is_command (g_is_compound : Fn) (g_is_joint : Fn) (g_is_do : Fn) (g_is_tagged : Fn) : Sm := sSeq (sIf (mNot (mTru (mCall g_is_tagged (mCons (mVar 0) (mNil))))) (sRet (mC (.bl false))) (sNext)) (sSeq (sIf (toT (m2 gEq (m2 gIx (mVar 0) (mC (.int 0))) (mC (.str "do")))) (sRet (mAndV (m2 gEq (m1 gLen (mVar 0)) (mC (.int 4))) (mCall g_is_do (mCons (m2 gIx (mVar 0) (mC (.int 1))) (mCons (m2 gIx (mVar 0) (mC (.int 2))) (mCons (m2 gIx (mVar 0) (mC (.int 3))) (mNil))))))) (sNext)) (sSeq (sIf (toT (m2 (gIn false) (m2 gIx (mVar 0) (mC (.int 0))) (mTup (mCons (mC (.str "make")) (mCons (mC (.str "pipe")) (mCons (mC (.str "not")) (mCons (mC (.str "and")) (mCons (mC (.str "or")) (mNil))))))))) (sRet (mCall g_is_joint (mCons (mVar 0) (mNil)))) (sNext)) (sRet (mCall g_is_compound (mCons (mVar 0) (mNil))))))
theorem ok_is_command (Bl : BlT mg) (Gs : GsT K mg) (D : DefAt K mg "is_command" s_is_command) {g_is_compound : Fn} (C_is_compound : CalF P w K mg base k "is_compound" s_is_compound ["tree"] g_is_compound) {g_is_joint : Fn} (C_is_joint : CalF P w K mg base k "is_joint" s_is_joint ["tree"] g_is_joint) {g_is_do : Fn} (C_is_do : CalF P w K mg base k "is_do" s_is_do ["sets", "words", "turns"] g_is_do) {g_is_tagged : Fn} (C_is_tagged : CalF P w K mg base k "is_tagged" s_is_tagged ["tree"] g_is_tagged) : CalF P w K mg base (k + 1) "is_command" s_is_command ["tree"] (runBody 1 1 (b_is_command g_is_compound g_is_joint g_is_do g_is_tagged)) :=
  calF_of D sc_is_command (fun _ _ _ _ _ _ us hl => match us, hl with | [_], _ => rfl) fun f cdv A outer s H E hr =>
  sndB_cons (sndS_if (sndT_not (sndT_tru (sndE_callF C_is_tagged hr (Nat.le_refl _) (sndA_cons (sndE_var 0) (sndA_nil))))) (sndB_one (sndS_ret (sndE_bl))) (sndB_nil)) (sndB_cons (sndS_if (sndT_cmp (op2_eq hr.units) (sndE_ix (sndE_var 0) (sndE_int)) (sndE_str)) (sndB_one (sndS_ret (sndE_and (sndE_cmp (op2_eq hr.units) (sndE_b1 call1_len Bl.len_ PySem.boot_len (sndE_var 0)) (sndE_int)) (sndE_one (sndE_callF C_is_do hr (Nat.le_refl _) (sndA_cons (sndE_ix (sndE_var 0) (sndE_int)) (sndA_cons (sndE_ix (sndE_var 0) (sndE_int)) (sndA_cons (sndE_ix (sndE_var 0) (sndE_int)) (sndA_nil))))))))) (sndB_nil)) (sndB_cons (sndS_if (sndT_cmp op2_in (sndE_ix (sndE_var 0) (sndE_int)) (sndE_tup (sndA_cons (sndE_str) (sndA_cons (sndE_str) (sndA_cons (sndE_str) (sndA_cons (sndE_str) (sndA_cons (sndE_str) (sndA_nil)))))))) (sndB_one (sndS_ret (sndE_callF C_is_joint hr (Nat.le_refl _) (sndA_cons (sndE_var 0) (sndA_nil))))) (sndB_nil)) (sndB_one (sndS_ret (sndE_callF C_is_compound hr (Nat.le_refl _) (sndA_cons (sndE_var 0) (sndA_nil)))))))
/-! ### is_compound -/
abbrev N_is_compound : List Str := ["tree"]
theorem sc_is_compound : FnScope ["tree"] ["tree"] (defScope s_is_compound) := ⟨rfl, rfl, rfl, by decide +kernel, rfl, by decide +kernel, by decide +kernel⟩
noncomputable def b_is_compound (g_is_word : Fn) (g_are_cases : Fn) (g_is_name : Fn) (g_are_words : Fn) (g_is_body : Fn) (g_are_arms : Fn) (g_are_turns : Fn) : Sm := sSeq (sIf (mNot (mTru (mCall g_are_turns (mCons (m2 gIx (mVar 0) (m1 gNeg (mC (.int 1)))) (mNil))))) (sRet (mC (.bl false))) (sNext)) (sSeq (sMatch (m2 gIx (mVar 0) (mC (.int 0))) ((some ["group", "apart"], sRet (mAndV (m2 gEq (m1 gLen (mVar 0)) (mC (.int 3))) (mCall g_is_body (mCons (m2 gIx (mVar 0) (mC (.int 1))) (mNil))))) :: (some ["while", "until"], sRet (mAndV (m2 gEq (m1 gLen (mVar 0)) (mC (.int 4))) (mAndV (mCall g_is_body (mCons (m2 gIx (mVar 0) (mC (.int 1))) (mNil))) (mCall g_is_body (mCons (m2 gIx (mVar 0) (mC (.int 2))) (mNil)))))) :: (some ["if"], sRet (mAndV (m2 gEq (m1 gLen (mVar 0)) (mC (.int 4))) (mAndV (mCall g_are_arms (mCons (m2 gIx (mVar 0) (mC (.int 1))) (mNil))) (mOrV (m2 (gIs false) (m2 gIx (mVar 0) (mC (.int 2))) (mC .non)) (mCall g_is_body (mCons (m2 gIx (mVar 0) (mC (.int 2))) (mNil))))))) :: (some ["each"], sRet (mAndV (m2 gEq (m1 gLen (mVar 0)) (mC (.int 5))) (mAndV (mCall g_is_name (mCons (m2 gIx (mVar 0) (mC (.int 1))) (mNil))) (mAndV (mOrV (m2 (gIs false) (m2 gIx (mVar 0) (mC (.int 2))) (mC .non)) (mCall g_are_words (mCons (m2 gIx (mVar 0) (mC (.int 2))) (mNil)))) (mCall g_is_body (mCons (m2 gIx (mVar 0) (mC (.int 3))) (mNil))))))) :: (some ["case"], sRet (mAndV (m2 gEq (m1 gLen (mVar 0)) (mC (.int 4))) (mAndV (mCall g_is_word (mCons (m2 gIx (mVar 0) (mC (.int 1))) (mNil))) (mCall g_are_cases (mCons (m2 gIx (mVar 0) (mC (.int 2))) (mNil)))))) :: [])) (sRet (mC (.bl false))))
theorem ok_is_compound (Bl : BlT mg) (Gs : GsT K mg) (D : DefAt K mg "is_compound" s_is_compound) {g_is_word : Fn} (C_is_word : CalF P w K mg base k "is_word" s_is_word ["tree"] g_is_word) {g_are_cases : Fn} (C_are_cases : CalF P w K mg base k "are_cases" s_are_cases ["tree"] g_are_cases) {g_is_name : Fn} (C_is_name : CalF P w K mg base k "is_name" s_is_name ["thing"] g_is_name) {g_are_words : Fn} (C_are_words : CalF P w K mg base k "are_words" s_are_words ["trees"] g_are_words) {g_is_body : Fn} (C_is_body : CalF P w K mg base k "is_body" s_is_body ["tree"] g_is_body) {g_are_arms : Fn} (C_are_arms : CalF P w K mg base k "are_arms" s_are_arms ["tree"] g_are_arms) {g_are_turns : Fn} (C_are_turns : CalF P w K mg base k "are_turns" s_are_turns ["tree"] g_are_turns) : CalF P w K mg base (k + 1) "is_compound" s_is_compound ["tree"] (runBody 1 1 (b_is_compound g_is_word g_are_cases g_is_name g_are_words g_is_body g_are_arms g_are_turns)) :=
  calF_of D sc_is_compound (fun _ _ _ _ _ _ us hl => match us, hl with | [_], _ => rfl) fun f cdv A outer s H E hr =>
  sndB_cons (sndS_if (sndT_not (sndT_tru (sndE_callF C_are_turns hr (Nat.le_refl _) (sndA_cons (sndE_ix (sndE_var 0) (sndE_neg (sndE_int))) (sndA_nil))))) (sndB_one (sndS_ret (sndE_bl))) (sndB_nil)) (sndB_cons (sndS_match (sndE_ix (sndE_var 0) (sndE_int)) (.cons (.inr ⟨_, _, rfl, ⟨⟨_, _, _, rfl⟩, ⟨⟨_, _, _, rfl⟩, trivial⟩⟩⟩) (sndB_one (sndS_ret (sndE_and (sndE_cmp (op2_eq hr.units) (sndE_b1 call1_len Bl.len_ PySem.boot_len (sndE_var 0)) (sndE_int)) (sndE_one (sndE_callF C_is_body hr (Nat.le_refl _) (sndA_cons (sndE_ix (sndE_var 0) (sndE_int)) (sndA_nil))))))) (.cons (.inr ⟨_, _, rfl, ⟨⟨_, _, _, rfl⟩, ⟨⟨_, _, _, rfl⟩, trivial⟩⟩⟩) (sndB_one (sndS_ret (sndE_and (sndE_cmp (op2_eq hr.units) (sndE_b1 call1_len Bl.len_ PySem.boot_len (sndE_var 0)) (sndE_int)) (sndE_and (sndE_callF C_is_body hr (Nat.le_refl _) (sndA_cons (sndE_ix (sndE_var 0) (sndE_int)) (sndA_nil))) (sndE_one (sndE_callF C_is_body hr (Nat.le_refl _) (sndA_cons (sndE_ix (sndE_var 0) (sndE_int)) (sndA_nil)))))))) (.cons (.inl ⟨_, _, _, _, rfl, rfl⟩) (sndB_one (sndS_ret (sndE_and (sndE_cmp (op2_eq hr.units) (sndE_b1 call1_len Bl.len_ PySem.boot_len (sndE_var 0)) (sndE_int)) (sndE_and (sndE_callF C_are_arms hr (Nat.le_refl _) (sndA_cons (sndE_ix (sndE_var 0) (sndE_int)) (sndA_nil))) (sndE_one (sndE_or (sndE_cmp op2_is (sndE_ix (sndE_var 0) (sndE_int)) (sndE_non)) (sndE_one (sndE_callF C_is_body hr (Nat.le_refl _) (sndA_cons (sndE_ix (sndE_var 0) (sndE_int)) (sndA_nil)))))))))) (.cons (.inl ⟨_, _, _, _, rfl, rfl⟩) (sndB_one (sndS_ret (sndE_and (sndE_cmp (op2_eq hr.units) (sndE_b1 call1_len Bl.len_ PySem.boot_len (sndE_var 0)) (sndE_int)) (sndE_and (sndE_callF C_is_name hr (Nat.le_refl _) (sndA_cons (sndE_ix (sndE_var 0) (sndE_int)) (sndA_nil))) (sndE_and (sndE_or (sndE_cmp op2_is (sndE_ix (sndE_var 0) (sndE_int)) (sndE_non)) (sndE_one (sndE_callF C_are_words hr (Nat.le_refl _) (sndA_cons (sndE_ix (sndE_var 0) (sndE_int)) (sndA_nil))))) (sndE_one (sndE_callF C_is_body hr (Nat.le_refl _) (sndA_cons (sndE_ix (sndE_var 0) (sndE_int)) (sndA_nil))))))))) (.cons (.inl ⟨_, _, _, _, rfl, rfl⟩) (sndB_one (sndS_ret (sndE_and (sndE_cmp (op2_eq hr.units) (sndE_b1 call1_len Bl.len_ PySem.boot_len (sndE_var 0)) (sndE_int)) (sndE_and (sndE_callF C_is_word hr (Nat.le_refl _) (sndA_cons (sndE_ix (sndE_var 0) (sndE_int)) (sndA_nil))) (sndE_one (sndE_callF C_are_cases hr (Nat.le_refl _) (sndA_cons (sndE_ix (sndE_var 0) (sndE_int)) (sndA_nil)))))))) (.nil))))))) (sndB_one (sndS_ret (sndE_bl))))
/-! ### is_word -/
abbrev N_is_word : List Str := ["tree"]
theorem sc_is_word : FnScope ["tree"] ["tree"] (defScope s_is_word) := ⟨rfl, rfl, rfl, by decide +kernel, rfl, by decide +kernel, by decide +kernel⟩
noncomputable def b_is_word (g_are_pieces : Fn) : Sm := sRet (mAndV (mCall g_are_pieces (mCons (mVar 0) (mCons (mC (.bl false)) (mNil)))) (m2 gNe (mVar 0) (mLst (mNil))))
theorem ok_is_word (Bl : BlT mg) (Gs : GsT K mg) (D : DefAt K mg "is_word" s_is_word) {g_are_pieces : Fn} (C_are_pieces : CalF P w K mg base k "are_pieces" s_are_pieces ["tree", "inside"] g_are_pieces) : CalF P w K mg base (k + 1) "is_word" s_is_word ["tree"] (runBody 1 1 (b_is_word g_are_pieces)) :=
  calF_of D sc_is_word (fun _ _ _ _ _ _ us hl => match us, hl with | [_], _ => rfl) fun f cdv A outer s H E hr =>
  sndB_one (sndS_ret (sndE_and (sndE_callF C_are_pieces hr (Nat.le_refl _) (sndA_cons (sndE_var 0) (sndA_cons (sndE_bl) (sndA_nil)))) (sndE_one (sndE_cmp (op2_ne hr.units) (sndE_var 0) (sndE_lst (sndA_nil))))))
/-! ### are_pieces -/
abbrev N_are_pieces : List Str := ["tree", "inside", "parted", "behind", "piece"]
theorem sc_are_pieces : FnScope ["tree", "inside", "parted", "behind", "piece"] ["tree", "inside"] (defScope s_are_pieces) := ⟨rfl, rfl, rfl, by decide +kernel, rfl, by decide +kernel, by decide +kernel⟩
noncomputable def lp_are_pieces_0 (g_is_piece : Fn) : Sm := sSeq (sIf (mOr (mNot (mTru (mCall g_is_piece (mCons (mVar 4) (mCons (mVar 1) (mNil)))))) (toT (mChain gEq gEq (m2 gIx (mVar 4) (mC (.int 0))) (mVar 3) (mVar 2)))) (sRet (mC (.bl false))) (sNext)) (sSet 3 (m2 gIx (mVar 4) (mC (.int 0))))
noncomputable def b_are_pieces (g_is_piece : Fn) : Sm := sSeq (sIf (mNot (mTru (m1 (gIsi "list") (mVar 0)))) (sRet (mC (.bl false))) (sNext)) (sSeq (sSet 2 (mIf (mTru (mVar 1)) (mC (.str "plain")) (mC (.str "bare")))) (sSeq (sSet 3 (mC (.str ""))) (sSeq (sFor (mItV (mVar 0)) (bdN 4) (lp_are_pieces_0 g_is_piece)) (sRet (mC (.bl true))))))
theorem ok_are_pieces (Bl : BlT mg) (Gs : GsT K mg) (D : DefAt K mg "are_pieces" s_are_pieces) {g_is_piece : Fn} (C_is_piece : CalF P w K mg base k "is_piece" s_is_piece ["piece", "inside"] g_is_piece) : CalF P w K mg base (k + 1) "are_pieces" s_are_pieces ["tree", "inside"] (runBody 5 2 (b_are_pieces g_is_piece)) :=
  calF_of D sc_are_pieces (fun _ _ _ _ _ _ us hl => match us, hl with | [_, _], _ => rfl) fun f cdv A outer s H E hr =>
  sndB_cons (sndS_if (sndT_not (sndT_tru (sndE_isi Bl.isinstance Bl.list_ (by decide +kernel) (sndE_var 0)))) (sndB_one (sndS_ret (sndE_bl))) (sndB_nil)) (sndB_cons (sndS_set (i := 2) (sndE_if (sndT_tru (sndE_var 1)) (sndE_str) (sndE_str)) sc_are_pieces.nd) (sndB_cons (sndS_set (i := 3) (sndE_str) sc_are_pieces.nd) (sndB_cons (sndS_for rfl (sndI_val (sndE_var 0)) (sndG_name (k := 4) sc_are_pieces.nd) (sndB_cons (sndS_if (sndT_of (sndW_or (sndT_not (sndT_tru (sndE_callF C_is_piece hr (Nat.le_refl _) (sndA_cons (sndE_var 4) (sndA_cons (sndE_var 1) (sndA_nil)))))) (sndW_or1 (sndT_chain (op2_eq hr.units) (op2_eq hr.units) (sndE_ix (sndE_var 4) (sndE_int)) (sndE_var 3) (sndE_var 2))))) (sndB_one (sndS_ret (sndE_bl))) (sndB_nil)) (sndB_one (sndS_set (i := 3) (sndE_ix (sndE_var 4) (sndE_int)) sc_are_pieces.nd)))) (sndB_one (sndS_ret (sndE_bl))))))
/-! ### is_piece -/
abbrev N_is_piece : List Str := ["piece", "inside"]
theorem sc_is_piece : FnScope ["piece", "inside"] ["piece", "inside"] (defScope s_is_piece) := ⟨rfl, rfl, rfl, by decide +kernel, rfl, by decide +kernel, by decide +kernel⟩
noncomputable def b_is_piece (g_has_signs : Fn) (g_is_text : Fn) (g_are_pieces : Fn) (g_is_script : Fn) (g_is_sum : Fn) (g_is_name_or_place : Fn) (g_may_be_done : Fn) (g_is_tagged : Fn) : Sm := sSeq (sIf (mNot (mTru (mCall g_is_tagged (mCons (mVar 0) (mNil))))) (sRet (mC (.bl false))) (sNext)) (sSeq (sIf (toT (m2 gEq (m2 gIx (mVar 0) (mC (.int 0))) (mC (.str "name")))) (sRet (mAndV (m2 gEq (m1 gLen (mVar 0)) (mC (.int 3))) (mAndV (mCall g_is_name_or_place (mCons (m2 gIx (mVar 0) (mC (.int 1))) (mNil))) (mCall g_may_be_done (mCons (m2 gIx (mVar 0) (mC (.int 1))) (mCons (m2 gIx (mVar 0) (mC (.int 2))) (mNil))))))) (sNext)) (sSeq (sIf (toT (m2 gNe (m1 gLen (mVar 0)) (mC (.int 2)))) (sRet (mC (.bl false))) (sNext)) (sSeq (sIf (toT (m2 gEq (m2 gIx (mVar 0) (mC (.int 0))) (mC (.str "sum")))) (sRet (mCall g_is_sum (mCons (m2 gIx (mVar 0) (mC (.int 1))) (mNil)))) (sNext)) (sSeq (sIf (toT (m2 gEq (m2 gIx (mVar 0) (mC (.int 0))) (mC (.str "run")))) (sRet (mCall g_is_script (mCons (m2 gIx (mVar 0) (mC (.int 1))) (mNil)))) (sNext)) (sSeq (sIf (mTru (mVar 1)) (sRet (mAndV (m2 gEq (m2 gIx (mVar 0) (mC (.int 0))) (mC (.str "plain"))) (mAndV (mCall g_is_text (mCons (m2 gIx (mVar 0) (mC (.int 1))) (mNil))) (m2 gNe (m2 gIx (mVar 0) (mC (.int 1))) (mC (.str "")))))) (sNext)) (sSeq (sIf (toT (m2 gEq (m2 gIx (mVar 0) (mC (.int 0))) (mC (.str "wide")))) (sRet (mCall g_are_pieces (mCons (m2 gIx (mVar 0) (mC (.int 1))) (mCons (mC (.bl true)) (mNil))))) (sNext)) (sSeq (sIf (toT (m2 gEq (m2 gIx (mVar 0) (mC (.int 0))) (mC (.str "mark")))) (sRet (mAndV (mCall g_is_text (mCons (m2 gIx (mVar 0) (mC (.int 1))) (mNil))) (mAndV (m2 gEq (m1 gLen (m2 gIx (mVar 0) (mC (.int 1)))) (mC (.int 1))) (m2 gNe (m2 gIx (mVar 0) (mC (.int 1))) (mC (.str "\x0a")))))) (sNext)) (sSeq (sIf (toT (m2 gEq (m2 gIx (mVar 0) (mC (.int 0))) (mC (.str "held")))) (sRet (mAndV (mCall g_is_text (mCons (m2 gIx (mVar 0) (mC (.int 1))) (mNil))) (m2 (gIn true) (mC (.str "'")) (m2 gIx (mVar 0) (mC (.int 1)))))) (sNext)) (sRet (mAndV (m2 gEq (m2 gIx (mVar 0) (mC (.int 0))) (mC (.str "bare"))) (mAndV (mCall g_has_signs (mCons (m2 gIx (mVar 0) (mC (.int 1))) (mCons (mC (.str c_BARE)) (mNil)))) (m2 gNe (m2 gIx (mVar 0) (mC (.int 1))) (mC (.str ""))))))))))))))
theorem ok_is_piece (Bl : BlT mg) (Gs : GsT K mg) (D : DefAt K mg "is_piece" s_is_piece) {g_has_signs : Fn} (C_has_signs : CalF P w K mg base k "has_signs" s_has_signs ["text", "signs"] g_has_signs) {g_is_text : Fn} (C_is_text : CalF P w K mg base k "is_text" s_is_text ["thing"] g_is_text) {g_are_pieces : Fn} (C_are_pieces : CalF P w K mg base k "are_pieces" s_are_pieces ["tree", "inside"] g_are_pieces) {g_is_script : Fn} (C_is_script : CalF P w K mg base k "is_script" s_is_script ["tree"] g_is_script) {g_is_sum : Fn} (C_is_sum : CalF P w K mg base k "is_sum" s_is_sum ["tree"] g_is_sum) {g_is_name_or_place : Fn} (C_is_name_or_place : CalF P w K mg base k "is_name_or_place" s_is_name_or_place ["thing"] g_is_name_or_place) {g_may_be_done : Fn} (C_may_be_done : CalF P w K mg base k "may_be_done" s_may_be_done ["name", "deed"] g_may_be_done) {g_is_tagged : Fn} (C_is_tagged : CalF P w K mg base k "is_tagged" s_is_tagged ["tree"] g_is_tagged) : CalF P w K mg base (k + 1) "is_piece" s_is_piece ["piece", "inside"] (runBody 2 2 (b_is_piece g_has_signs g_is_text g_are_pieces g_is_script g_is_sum g_is_name_or_place g_may_be_done g_is_tagged)) :=
  calF_of D sc_is_piece (fun _ _ _ _ _ _ us hl => match us, hl with | [_, _], _ => rfl) fun f cdv A outer s H E hr =>
  sndB_cons (sndS_if (sndT_not (sndT_tru (sndE_callF C_is_tagged hr (Nat.le_refl _) (sndA_cons (sndE_var 0) (sndA_nil))))) (sndB_one (sndS_ret (sndE_bl))) (sndB_nil)) (sndB_cons (sndS_if (sndT_cmp (op2_eq hr.units) (sndE_ix (sndE_var 0) (sndE_int)) (sndE_str)) (sndB_one (sndS_ret (sndE_and (sndE_cmp (op2_eq hr.units) (sndE_b1 call1_len Bl.len_ PySem.boot_len (sndE_var 0)) (sndE_int)) (sndE_and (sndE_callF C_is_name_or_place hr (Nat.le_refl _) (sndA_cons (sndE_ix (sndE_var 0) (sndE_int)) (sndA_nil))) (sndE_one (sndE_callF C_may_be_done hr (Nat.le_refl _) (sndA_cons (sndE_ix (sndE_var 0) (sndE_int)) (sndA_cons (sndE_ix (sndE_var 0) (sndE_int)) (sndA_nil))))))))) (sndB_nil)) (sndB_cons (sndS_if (sndT_cmp (op2_ne hr.units) (sndE_b1 call1_len Bl.len_ PySem.boot_len (sndE_var 0)) (sndE_int)) (sndB_one (sndS_ret (sndE_bl))) (sndB_nil)) (sndB_cons (sndS_if (sndT_cmp (op2_eq hr.units) (sndE_ix (sndE_var 0) (sndE_int)) (sndE_str)) (sndB_one (sndS_ret (sndE_callF C_is_sum hr (Nat.le_refl _) (sndA_cons (sndE_ix (sndE_var 0) (sndE_int)) (sndA_nil))))) (sndB_nil)) (sndB_cons (sndS_if (sndT_cmp (op2_eq hr.units) (sndE_ix (sndE_var 0) (sndE_int)) (sndE_str)) (sndB_one (sndS_ret (sndE_callF C_is_script hr (Nat.le_refl _) (sndA_cons (sndE_ix (sndE_var 0) (sndE_int)) (sndA_nil))))) (sndB_nil)) (sndB_cons (sndS_if (sndT_tru (sndE_var 1)) (sndB_one (sndS_ret (sndE_and (sndE_cmp (op2_eq hr.units) (sndE_ix (sndE_var 0) (sndE_int)) (sndE_str)) (sndE_and (sndE_callF C_is_text hr (Nat.le_refl _) (sndA_cons (sndE_ix (sndE_var 0) (sndE_int)) (sndA_nil))) (sndE_one (sndE_cmp (op2_ne hr.units) (sndE_ix (sndE_var 0) (sndE_int)) (sndE_str))))))) (sndB_nil)) (sndB_cons (sndS_if (sndT_cmp (op2_eq hr.units) (sndE_ix (sndE_var 0) (sndE_int)) (sndE_str)) (sndB_one (sndS_ret (sndE_callF C_are_pieces hr (Nat.le_refl _) (sndA_cons (sndE_ix (sndE_var 0) (sndE_int)) (sndA_cons (sndE_bl) (sndA_nil)))))) (sndB_nil)) (sndB_cons (sndS_if (sndT_cmp (op2_eq hr.units) (sndE_ix (sndE_var 0) (sndE_int)) (sndE_str)) (sndB_one (sndS_ret (sndE_and (sndE_callF C_is_text hr (Nat.le_refl _) (sndA_cons (sndE_ix (sndE_var 0) (sndE_int)) (sndA_nil))) (sndE_and (sndE_cmp (op2_eq hr.units) (sndE_b1 call1_len Bl.len_ PySem.boot_len (sndE_ix (sndE_var 0) (sndE_int))) (sndE_int)) (sndE_one (sndE_cmp (op2_ne hr.units) (sndE_ix (sndE_var 0) (sndE_int)) (sndE_str))))))) (sndB_nil)) (sndB_cons (sndS_if (sndT_cmp (op2_eq hr.units) (sndE_ix (sndE_var 0) (sndE_int)) (sndE_str)) (sndB_one (sndS_ret (sndE_and (sndE_callF C_is_text hr (Nat.le_refl _) (sndA_cons (sndE_ix (sndE_var 0) (sndE_int)) (sndA_nil))) (sndE_one (sndE_cmp op2_notin (sndE_str) (sndE_ix (sndE_var 0) (sndE_int))))))) (sndB_nil)) (sndB_one (sndS_ret (sndE_and (sndE_cmp (op2_eq hr.units) (sndE_ix (sndE_var 0) (sndE_int)) (sndE_str)) (sndE_and (sndE_callF C_has_signs hr (Nat.le_refl _) (sndA_cons (sndE_ix (sndE_var 0) (sndE_int)) (sndA_cons (sndE_gstrE Gs.BARE) (sndA_nil)))) (sndE_one (sndE_cmp (op2_ne hr.units) (sndE_ix (sndE_var 0) (sndE_int)) (sndE_str)))))))))))))))
/-! ### are_cases -/
abbrev N_are_cases : List Str := ["tree", "arm"]
theorem sc_are_cases : FnScope ["tree", "arm"] ["tree"] (defScope s_are_cases) := ⟨rfl, rfl, rfl, by decide +kernel, rfl, by decide +kernel, by decide +kernel⟩
noncomputable def lp_are_cases_0 (g_are_words : Fn) (g_is_script : Fn) : Sm := sSeq (sIf (mOr (mNot (mTru (m1 (gIsi "tuple") (mVar 1)))) (mOr (toT (m2 gNe (m1 gLen (mVar 1)) (mC (.int 2)))) (mOr (mNot (mTru (mCall g_are_words (mCons (m2 gIx (mVar 1) (mC (.int 0))) (mNil))))) (mNot (mTru (mCall g_is_script (mCons (m2 gIx (mVar 1) (mC (.int 1))) (mNil)))))))) (sRet (mC (.bl false))) (sNext)) (sIf (mOr (toT (m2 gEq (m2 gIx (mVar 1) (mC (.int 0))) (mLst (mNil)))) (toT (m2 gEq (m2 gIx (m2 gIx (mVar 1) (mC (.int 0))) (mC (.int 0))) (mLst (mCons (mTup (mCons (mC (.str "bare")) (mCons (mC (.str "esac")) (mNil)))) (mNil)))))) (sRet (mC (.bl false))) (sNext))
noncomputable def b_are_cases (g_are_words : Fn) (g_is_script : Fn) : Sm := sSeq (sIf (mNot (mTru (m1 (gIsi "list") (mVar 0)))) (sRet (mC (.bl false))) (sNext)) (sSeq (sFor (mItV (mVar 0)) (bdN 1) (lp_are_cases_0 g_are_words g_is_script)) (sRet (mC (.bl true))))
theorem ok_are_cases (Bl : BlT mg) (Gs : GsT K mg) (D : DefAt K mg "are_cases" s_are_cases) {g_are_words : Fn} (C_are_words : CalF P w K mg base k "are_words" s_are_words ["trees"] g_are_words) {g_is_script : Fn} (C_is_script : CalF P w K mg base k "is_script" s_is_script ["tree"] g_is_script) : CalF P w K mg base (k + 1) "are_cases" s_are_cases ["tree"] (runBody 2 1 (b_are_cases g_are_words g_is_script)) :=
  calF_of D sc_are_cases (fun _ _ _ _ _ _ us hl => match us, hl with | [_], _ => rfl) fun f cdv A outer s H E hr =>
  sndB_cons (sndS_if (sndT_not (sndT_tru (sndE_isi Bl.isinstance Bl.list_ (by decide +kernel) (sndE_var 0)))) (sndB_one (sndS_ret (sndE_bl))) (sndB_nil)) (sndB_cons (sndS_for rfl (sndI_val (sndE_var 0)) (sndG_name (k := 1) sc_are_cases.nd) (sndB_cons (sndS_if (sndT_of (sndW_or (sndT_not (sndT_tru (sndE_isi Bl.isinstance Bl.tuple_ (by decide +kernel) (sndE_var 1)))) (sndW_or (sndT_cmp (op2_ne hr.units) (sndE_b1 call1_len Bl.len_ PySem.boot_len (sndE_var 1)) (sndE_int)) (sndW_or (sndT_not (sndT_tru (sndE_callF C_are_words hr (Nat.le_refl _) (sndA_cons (sndE_ix (sndE_var 1) (sndE_int)) (sndA_nil))))) (sndW_or1 (sndT_not (sndT_tru (sndE_callF C_is_script hr (Nat.le_refl _) (sndA_cons (sndE_ix (sndE_var 1) (sndE_int)) (sndA_nil)))))))))) (sndB_one (sndS_ret (sndE_bl))) (sndB_nil)) (sndB_one (sndS_if (sndT_of (sndW_or (sndT_cmp (op2_eq hr.units) (sndE_ix (sndE_var 1) (sndE_int)) (sndE_lst (sndA_nil))) (sndW_or1 (sndT_cmp (op2_eq hr.units) (sndE_ix (sndE_ix (sndE_var 1) (sndE_int)) (sndE_int)) (sndE_lst (sndA_cons (sndE_tup (sndA_cons (sndE_str) (sndA_cons (sndE_str) (sndA_nil)))) (sndA_nil))))))) (sndB_one (sndS_ret (sndE_bl))) (sndB_nil))))) (sndB_one (sndS_ret (sndE_bl))))
/-! ### are_words -/
abbrev N_are_words : List Str := ["trees", "tree"]
theorem sc_are_words : FnScope ["trees", "tree"] ["trees"] (defScope s_are_words) := ⟨rfl, rfl, rfl, by decide +kernel, rfl, by decide +kernel, by decide +kernel⟩
noncomputable def lc_are_words_0 (g_is_word : Fn) : Ex := mLc (mItV (mVar 0)) (bdN 1) (mYes) (mCall g_is_word (mCons (mVar 1) (mNil))) [1]
noncomputable def b_are_words (g_is_word : Fn) : Sm := sRet (mAndV (m1 (gIsi "list") (mVar 0)) (m1 gAll (lc_are_words_0 g_is_word)))
theorem ok_are_words (Bl : BlT mg) (Gs : GsT K mg) (D : DefAt K mg "are_words" s_are_words) {g_is_word : Fn} (C_is_word : CalF P w K mg base k "is_word" s_is_word ["tree"] g_is_word) : CalF P w K mg base (k + 1) "are_words" s_are_words ["trees"] (runBody 2 1 (b_are_words g_is_word)) :=
  calF_of D sc_are_words (fun _ _ _ _ _ _ us hl => match us, hl with | [_], _ => rfl) fun f cdv A outer s H E hr =>
  sndB_one (sndS_ret (sndE_and (sndE_isi Bl.isinstance Bl.list_ (by decide +kernel) (sndE_var 0)) (sndE_one (sndE_b1 (call1_all rfl) Bl.all_ (by decide +kernel) (sndE_lc (own := [("tree", 1)]) rfl sc_are_words.nd (blkOk_by (by change blkC N_are_words (defScope s_are_words) _ [("tree", 1)] = true; decide +kernel)) (sndI_val (sndE_var 0)) (fun _ _ _ _ _ => sndG_name (k := 1) sc_are_words.nd) (fun _ _ _ _ _ => sndTs_nil) (fun _ _ _ _ _ => sndE_callF C_is_word hr (Nat.le_refl _) (sndA_cons (sndE_var 1) (sndA_nil))))))))
/-! ### is_body -/
abbrev N_is_body : List Str := ["tree"]
theorem sc_is_body : FnScope ["tree"] ["tree"] (defScope s_is_body) := ⟨rfl, rfl, rfl, by decide +kernel, rfl, by decide +kernel, by decide +kernel⟩
noncomputable def b_is_body (g_is_script : Fn) : Sm := sRet (mAndV (mCall g_is_script (mCons (mVar 0) (mNil))) (m2 gNe (mVar 0) (mLst (mNil))))
theorem ok_is_body (Bl : BlT mg) (Gs : GsT K mg) (D : DefAt K mg "is_body" s_is_body) {g_is_script : Fn} (C_is_script : CalF P w K mg base k "is_script" s_is_script ["tree"] g_is_script) : CalF P w K mg base (k + 1) "is_body" s_is_body ["tree"] (runBody 1 1 (b_is_body g_is_script)) :=
  calF_of D sc_is_body (fun _ _ _ _ _ _ us hl => match us, hl with | [_], _ => rfl) fun f cdv A outer s H E hr =>
  sndB_one (sndS_ret (sndE_and (sndE_callF C_is_script hr (Nat.le_refl _) (sndA_cons (sndE_var 0) (sndA_nil))) (sndE_one (sndE_cmp (op2_ne hr.units) (sndE_var 0) (sndE_lst (sndA_nil))))))
/-! ### are_arms -/
abbrev N_are_arms : List Str := ["tree", "arm"]
theorem sc_are_arms : FnScope ["tree", "arm"] ["tree"] (defScope s_are_arms) := ⟨rfl, rfl, rfl, by decide +kernel, rfl, by decide +kernel, by decide +kernel⟩
noncomputable def lp_are_arms_0 (g_is_body : Fn) : Sm := sIf (mOr (mNot (mTru (m1 (gIsi "tuple") (mVar 1)))) (mOr (toT (m2 gNe (m1 gLen (mVar 1)) (mC (.int 2)))) (mOr (mNot (mTru (mCall g_is_body (mCons (m2 gIx (mVar 1) (mC (.int 0))) (mNil))))) (mNot (mTru (mCall g_is_body (mCons (m2 gIx (mVar 1) (mC (.int 1))) (mNil)))))))) (sRet (mC (.bl false))) (sNext)
noncomputable def b_are_arms (g_is_body : Fn) : Sm := sSeq (sIf (mOr (mNot (mTru (m1 (gIsi "list") (mVar 0)))) (toT (m2 gEq (mVar 0) (mLst (mNil))))) (sRet (mC (.bl false))) (sNext)) (sSeq (sFor (mItV (mVar 0)) (bdN 1) (lp_are_arms_0 g_is_body)) (sRet (mC (.bl true))))
theorem ok_are_arms (Bl : BlT mg) (Gs : GsT K mg) (D : DefAt K mg "are_arms" s_are_arms) {g_is_body : Fn} (C_is_body : CalF P w K mg base k "is_body" s_is_body ["tree"] g_is_body) : CalF P w K mg base (k + 1) "are_arms" s_are_arms ["tree"] (runBody 2 1 (b_are_arms g_is_body)) :=
  calF_of D sc_are_arms (fun _ _ _ _ _ _ us hl => match us, hl with | [_], _ => rfl) fun f cdv A outer s H E hr =>
  sndB_cons (sndS_if (sndT_of (sndW_or (sndT_not (sndT_tru (sndE_isi Bl.isinstance Bl.list_ (by decide +kernel) (sndE_var 0)))) (sndW_or1 (sndT_cmp (op2_eq hr.units) (sndE_var 0) (sndE_lst (sndA_nil)))))) (sndB_one (sndS_ret (sndE_bl))) (sndB_nil)) (sndB_cons (sndS_for rfl (sndI_val (sndE_var 0)) (sndG_name (k := 1) sc_are_arms.nd) (sndB_one (sndS_if (sndT_of (sndW_or (sndT_not (sndT_tru (sndE_isi Bl.isinstance Bl.tuple_ (by decide +kernel) (sndE_var 1)))) (sndW_or (sndT_cmp (op2_ne hr.units) (sndE_b1 call1_len Bl.len_ PySem.boot_len (sndE_var 1)) (sndE_int)) (sndW_or (sndT_not (sndT_tru (sndE_callF C_is_body hr (Nat.le_refl _) (sndA_cons (sndE_ix (sndE_var 1) (sndE_int)) (sndA_nil))))) (sndW_or1 (sndT_not (sndT_tru (sndE_callF C_is_body hr (Nat.le_refl _) (sndA_cons (sndE_ix (sndE_var 1) (sndE_int)) (sndA_nil)))))))))) (sndB_one (sndS_ret (sndE_bl))) (sndB_nil)))) (sndB_one (sndS_ret (sndE_bl))))
/-! ### are_turns -/
abbrev N_are_turns : List Str := ["tree", "turn"]
theorem sc_are_turns : FnScope ["tree", "turn"] ["tree"] (defScope s_are_turns) := ⟨rfl, rfl, rfl, by decide +kernel, rfl, by decide +kernel, by decide +kernel⟩
noncomputable def lc_are_turns_0 (g_is_turn : Fn) : Ex := mLc (mItV (mVar 0)) (bdN 1) (mYes) (mCall g_is_turn (mCons (mVar 1) (mNil))) [1]
noncomputable def b_are_turns (g_is_turn : Fn) : Sm := sRet (mAndV (m1 (gIsi "list") (mVar 0)) (m1 gAll (lc_are_turns_0 g_is_turn)))
theorem ok_are_turns (Bl : BlT mg) (Gs : GsT K mg) (D : DefAt K mg "are_turns" s_are_turns) {g_is_turn : Fn} (C_is_turn : CalF P w K mg base k "is_turn" s_is_turn ["turn"] g_is_turn) : CalF P w K mg base (k + 1) "are_turns" s_are_turns ["tree"] (runBody 2 1 (b_are_turns g_is_turn)) :=
  calF_of D sc_are_turns (fun _ _ _ _ _ _ us hl => match us, hl with | [_], _ => rfl) fun f cdv A outer s H E hr =>
  sndB_one (sndS_ret (sndE_and (sndE_isi Bl.isinstance Bl.list_ (by decide +kernel) (sndE_var 0)) (sndE_one (sndE_b1 (call1_all rfl) Bl.all_ (by decide +kernel) (sndE_lc (own := [("turn", 1)]) rfl sc_are_turns.nd (blkOk_by (by change blkC N_are_turns (defScope s_are_turns) _ [("turn", 1)] = true; decide +kernel)) (sndI_val (sndE_var 0)) (fun _ _ _ _ _ => sndG_name (k := 1) sc_are_turns.nd) (fun _ _ _ _ _ => sndTs_nil) (fun _ _ _ _ _ => sndE_callF C_is_turn hr (Nat.le_refl _) (sndA_cons (sndE_var 1) (sndA_nil))))))))
/-! ### is_turn -/
abbrev N_is_turn : List Str := ["turn"]
theorem sc_is_turn : FnScope ["turn"] ["turn"] (defScope s_is_turn) := ⟨rfl, rfl, rfl, by decide +kernel, rfl, by decide +kernel, by decide +kernel⟩
noncomputable def b_is_turn (g_is_word : Fn) (g_is_here_text : Fn) (g_is_integer : Fn) : Sm := sSeq (sIf (mOr (mNot (mTru (m1 (gIsi "tuple") (mVar 0)))) (mOr (toT (m2 gNe (m1 gLen (mVar 0)) (mC (.int 3)))) (mOr (mNot (mTru (mCall g_is_integer (mCons (m2 gIx (mVar 0) (mC (.int 0))) (mNil))))) (mNot (toT (mChain gLe gLe (mC (.int 0)) (m2 gIx (mVar 0) (mC (.int 0))) (mC (.int 2)))))))) (sRet (mC (.bl false))) (sNext)) (sSeq (sIf (toT (m2 gEq (m2 gIx (mVar 0) (mC (.int 1))) (mC (.str "<<")))) (sRet (mCall g_is_here_text (mCons (m2 gIx (mVar 0) (mC (.int 2))) (mNil)))) (sNext)) (sSeq (sIf (toT (m2 gEq (m2 gIx (mVar 0) (mC (.int 1))) (mC (.str ">&")))) (sRet (mAndV (m1 (gIsi "list") (m2 gIx (mVar 0) (mC (.int 2)))) (mAndV (m2 gEq (m1 gLen (m2 gIx (mVar 0) (mC (.int 2)))) (mC (.int 1))) (m2 (gIn false) (m2 gIx (m2 gIx (mVar 0) (mC (.int 2))) (mC (.int 0))) (mC c_DESCRIPTORS))))) (sNext)) (sRet (mAndV (m2 (gIn false) (m2 gIx (mVar 0) (mC (.int 1))) (mTup (mCons (mC (.str "<")) (mCons (mC (.str ">")) (mCons (mC (.str ">>")) (mNil)))))) (mCall g_is_word (mCons (m2 gIx (mVar 0) (mC (.int 2))) (mNil)))))))
theorem ok_is_turn (Bl : BlT mg) (Gs : GsT K mg) (D : DefAt K mg "is_turn" s_is_turn) {g_is_word : Fn} (C_is_word : CalF P w K mg base k "is_word" s_is_word ["tree"] g_is_word) {g_is_here_text : Fn} (C_is_here_text : CalF P w K mg base k "is_here_text" s_is_here_text ["tree"] g_is_here_text) {g_is_integer : Fn} (C_is_integer : CalF P w K mg base k "is_integer" s_is_integer ["thing"] g_is_integer) : CalF P w K mg base (k + 1) "is_turn" s_is_turn ["turn"] (runBody 1 1 (b_is_turn g_is_word g_is_here_text g_is_integer)) :=
  calF_of D sc_is_turn (fun _ _ _ _ _ _ us hl => match us, hl with | [_], _ => rfl) fun f cdv A outer s H E hr =>
  sndB_cons (sndS_if (sndT_of (sndW_or (sndT_not (sndT_tru (sndE_isi Bl.isinstance Bl.tuple_ (by decide +kernel) (sndE_var 0)))) (sndW_or (sndT_cmp (op2_ne hr.units) (sndE_b1 call1_len Bl.len_ PySem.boot_len (sndE_var 0)) (sndE_int)) (sndW_or (sndT_not (sndT_tru (sndE_callF C_is_integer hr (Nat.le_refl _) (sndA_cons (sndE_ix (sndE_var 0) (sndE_int)) (sndA_nil))))) (sndW_or1 (sndT_not (sndT_chain op2_Le op2_Le (sndE_int) (sndE_ix (sndE_var 0) (sndE_int)) (sndE_int)))))))) (sndB_one (sndS_ret (sndE_bl))) (sndB_nil)) (sndB_cons (sndS_if (sndT_cmp (op2_eq hr.units) (sndE_ix (sndE_var 0) (sndE_int)) (sndE_str)) (sndB_one (sndS_ret (sndE_callF C_is_here_text hr (Nat.le_refl _) (sndA_cons (sndE_ix (sndE_var 0) (sndE_int)) (sndA_nil))))) (sndB_nil)) (sndB_cons (sndS_if (sndT_cmp (op2_eq hr.units) (sndE_ix (sndE_var 0) (sndE_int)) (sndE_str)) (sndB_one (sndS_ret (sndE_and (sndE_isi Bl.isinstance Bl.list_ (by decide +kernel) (sndE_ix (sndE_var 0) (sndE_int))) (sndE_and (sndE_cmp (op2_eq hr.units) (sndE_b1 call1_len Bl.len_ PySem.boot_len (sndE_ix (sndE_var 0) (sndE_int))) (sndE_int)) (sndE_one (sndE_cmp op2_in (sndE_ix (sndE_ix (sndE_var 0) (sndE_int)) (sndE_int)) (sndE_gtreeE Gs.DESCRIPTORS))))))) (sndB_nil)) (sndB_one (sndS_ret (sndE_and (sndE_cmp op2_in (sndE_ix (sndE_var 0) (sndE_int)) (sndE_tup (sndA_cons (sndE_str) (sndA_cons (sndE_str) (sndA_cons (sndE_str) (sndA_nil)))))) (sndE_one (sndE_callF C_is_word hr (Nat.le_refl _) (sndA_cons (sndE_ix (sndE_var 0) (sndE_int)) (sndA_nil)))))))))
/-! ### is_here_text -/
abbrev N_is_here_text : List Str := ["tree", "kind", "held"]
theorem sc_is_here_text : FnScope ["tree", "kind", "held"] ["tree"] (defScope s_is_here_text) := ⟨rfl, rfl, rfl, by decide +kernel, rfl, by decide +kernel, by decide +kernel⟩
noncomputable def b_is_here_text (g_are_pieces : Fn) (g_is_text : Fn) (g_is_tagged : Fn) : Sm := sSeq (sIf (mOr (mNot (mTru (m1 (gIsi "list") (mVar 0)))) (mOr (toT (m2 gNe (m1 gLen (mVar 0)) (mC (.int 1)))) (mOr (mNot (mTru (mCall g_is_tagged (mCons (m2 gIx (mVar 0) (mC (.int 0))) (mNil))))) (toT (m2 gNe (m1 gLen (m2 gIx (mVar 0) (mC (.int 0)))) (mC (.int 2))))))) (sRet (mC (.bl false))) (sNext)) (sSeq (sAsg (m2 gIx (mVar 0) (mC (.int 0))) (bdT (bdCons (bdN 1) (bdCons (bdN 2) (bdNil))))) (sSeq (sIf (toT (m2 gEq (mVar 1) (mC (.str "held")))) (sRet (mAndV (mCall g_is_text (mCons (mVar 2) (mNil))) (mOrV (m2 gEq (mVar 2) (mC (.str ""))) (m2 gEq (m2 gIx (mVar 2) (m1 gNeg (mC (.int 1)))) (mC (.str "\x0a")))))) (sNext)) (sSeq (sIf (mOr (toT (m2 gNe (mVar 1) (mC (.str "wide")))) (mNot (mTru (mCall g_are_pieces (mCons (mVar 2) (mCons (mC (.bl true)) (mNil))))))) (sRet (mC (.bl false))) (sNext)) (sRet (mOrV (m2 gEq (mVar 2) (mLst (mNil))) (mAndV (m2 gEq (m2 gIx (m2 gIx (mVar 2) (m1 gNeg (mC (.int 1)))) (mC (.int 0))) (mC (.str "plain"))) (m2 gEq (m2 gIx (m2 gIx (m2 gIx (mVar 2) (m1 gNeg (mC (.int 1)))) (mC (.int 1))) (m1 gNeg (mC (.int 1)))) (mC (.str "\x0a")))))))))
theorem ok_is_here_text (Bl : BlT mg) (Gs : GsT K mg) (D : DefAt K mg "is_here_text" s_is_here_text) {g_are_pieces : Fn} (C_are_pieces : CalF P w K mg base k "are_pieces" s_are_pieces ["tree", "inside"] g_are_pieces) {g_is_text : Fn} (C_is_text : CalF P w K mg base k "is_text" s_is_text ["thing"] g_is_text) {g_is_tagged : Fn} (C_is_tagged : CalF P w K mg base k "is_tagged" s_is_tagged ["tree"] g_is_tagged) : CalF P w K mg base (k + 1) "is_here_text" s_is_here_text ["tree"] (runBody 3 1 (b_is_here_text g_are_pieces g_is_text g_is_tagged)) :=
  calF_of D sc_is_here_text (fun _ _ _ _ _ _ us hl => match us, hl with | [_], _ => rfl) fun f cdv A outer s H E hr =>
  sndB_cons (sndS_if (sndT_of (sndW_or (sndT_not (sndT_tru (sndE_isi Bl.isinstance Bl.list_ (by decide +kernel) (sndE_var 0)))) (sndW_or (sndT_cmp (op2_ne hr.units) (sndE_b1 call1_len Bl.len_ PySem.boot_len (sndE_var 0)) (sndE_int)) (sndW_or (sndT_not (sndT_tru (sndE_callF C_is_tagged hr (Nat.le_refl _) (sndA_cons (sndE_ix (sndE_var 0) (sndE_int)) (sndA_nil))))) (sndW_or1 (sndT_cmp (op2_ne hr.units) (sndE_b1 call1_len Bl.len_ PySem.boot_len (sndE_ix (sndE_var 0) (sndE_int))) (sndE_int))))))) (sndB_one (sndS_ret (sndE_bl))) (sndB_nil)) (sndB_cons (sndS_asg (sndE_ix (sndE_var 0) (sndE_int)) (sndG_tup rfl (sndGs_cons (sndG_name (k := 1) sc_is_here_text.nd) (sndGs_cons (sndG_name (k := 2) sc_is_here_text.nd) (sndGs_nil))) (n := 2) (bdCons_len (bdCons_len (fun _ _ h => bdNil_len h))))) (sndB_cons (sndS_if (sndT_cmp (op2_eq hr.units) (sndE_var 1) (sndE_str)) (sndB_one (sndS_ret (sndE_and (sndE_callF C_is_text hr (Nat.le_refl _) (sndA_cons (sndE_var 2) (sndA_nil))) (sndE_one (sndE_or (sndE_cmp (op2_eq hr.units) (sndE_var 2) (sndE_str)) (sndE_one (sndE_cmp (op2_eq hr.units) (sndE_ix (sndE_var 2) (sndE_neg (sndE_int))) (sndE_str)))))))) (sndB_nil)) (sndB_cons (sndS_if (sndT_of (sndW_or (sndT_cmp (op2_ne hr.units) (sndE_var 1) (sndE_str)) (sndW_or1 (sndT_not (sndT_tru (sndE_callF C_are_pieces hr (Nat.le_refl _) (sndA_cons (sndE_var 2) (sndA_cons (sndE_bl) (sndA_nil))))))))) (sndB_one (sndS_ret (sndE_bl))) (sndB_nil)) (sndB_one (sndS_ret (sndE_or (sndE_cmp (op2_eq hr.units) (sndE_var 2) (sndE_lst (sndA_nil))) (sndE_one (sndE_and (sndE_cmp (op2_eq hr.units) (sndE_ix (sndE_ix (sndE_var 2) (sndE_neg (sndE_int))) (sndE_int)) (sndE_str)) (sndE_one (sndE_cmp (op2_eq hr.units) (sndE_ix (sndE_ix (sndE_ix (sndE_var 2) (sndE_neg (sndE_int))) (sndE_int)) (sndE_neg (sndE_int))) (sndE_str)))))))))))
/-! ### is_joint -/
abbrev N_is_joint : List Str := ["tree", "part"]
theorem sc_is_joint : FnScope ["tree", "part"] ["tree"] (defScope s_is_joint) := ⟨rfl, rfl, rfl, by decide +kernel, rfl, by decide +kernel, by decide +kernel⟩
noncomputable def lc_is_joint_0 : Ex := mLc (mItV (m2 gIx (mVar 0) (mC (.int 1)))) (bdN 1) (mYes) (m2 (gIn true) (m2 gIx (mVar 1) (mC (.int 0))) (mTup (mCons (mC (.str "pipe")) (mCons (mC (.str "not")) (mCons (mC (.str "and")) (mCons (mC (.str "or")) (mNil))))))) [1]
noncomputable def b_is_joint (g_is_command : Fn) (g_is_script : Fn) (g_may_name_function : Fn) (g_is_tagged : Fn) (g_is_compound : Fn) : Sm := sSeq (sIf (toT (m2 gEq (m2 gIx (mVar 0) (mC (.int 0))) (mC (.str "make")))) (sRet (mAndV (m2 gEq (m1 gLen (mVar 0)) (mC (.int 3))) (mAndV (mCall g_may_name_function (mCons (m2 gIx (mVar 0) (mC (.int 1))) (mNil))) (mAndV (mCall g_is_tagged (mCons (m2 gIx (mVar 0) (mC (.int 2))) (mNil))) (mCall g_is_compound (mCons (m2 gIx (mVar 0) (mC (.int 2))) (mNil))))))) (sNext)) (sSeq (sIf (toT (m2 gEq (m2 gIx (mVar 0) (mC (.int 0))) (mC (.str "pipe")))) (sRet (mAndV (m2 gEq (m1 gLen (mVar 0)) (mC (.int 2))) (mAndV (mCall g_is_script (mCons (m2 gIx (mVar 0) (mC (.int 1))) (mNil))) (mAndV (m2 gGt (m1 gLen (m2 gIx (mVar 0) (mC (.int 1)))) (mC (.int 1))) (m1 gAll (lc_is_joint_0)))))) (sNext)) (sSeq (sIf (toT (m2 gEq (m2 gIx (mVar 0) (mC (.int 0))) (mC (.str "not")))) (sRet (mAndV (m2 gEq (m1 gLen (mVar 0)) (mC (.int 2))) (mAndV (mCall g_is_command (mCons (m2 gIx (mVar 0) (mC (.int 1))) (mNil))) (m2 (gIn true) (m2 gIx (m2 gIx (mVar 0) (mC (.int 1))) (mC (.int 0))) (mTup (mCons (mC (.str "not")) (mCons (mC (.str "and")) (mCons (mC (.str "or")) (mNil))))))))) (sNext)) (sRet (mAndV (m2 gEq (m1 gLen (mVar 0)) (mC (.int 3))) (mAndV (mCall g_is_command (mCons (m2 gIx (mVar 0) (mC (.int 1))) (mNil))) (mAndV (mCall g_is_command (mCons (m2 gIx (mVar 0) (mC (.int 2))) (mNil))) (m2 (gIn true) (m2 gIx (m2 gIx (mVar 0) (mC (.int 2))) (mC (.int 0))) (mTup (mCons (mC (.str "and")) (mCons (mC (.str "or")) (mNil)))))))))))
theorem ok_is_joint (Bl : BlT mg) (Gs : GsT K mg) (D : DefAt K mg "is_joint" s_is_joint) {g_is_command : Fn} (C_is_command : CalF P w K mg base k "is_command" s_is_command ["tree"] g_is_command) {g_is_script : Fn} (C_is_script : CalF P w K mg base k "is_script" s_is_script ["tree"] g_is_script) {g_may_name_function : Fn} (C_may_name_function : CalF P w K mg base k "may_name_function" s_may_name_function ["thing"] g_may_name_function) {g_is_tagged : Fn} (C_is_tagged : CalF P w K mg base k "is_tagged" s_is_tagged ["tree"] g_is_tagged) {g_is_compound : Fn} (C_is_compound : CalF P w K mg base k "is_compound" s_is_compound ["tree"] g_is_compound) : CalF P w K mg base (k + 1) "is_joint" s_is_joint ["tree"] (runBody 2 1 (b_is_joint g_is_command g_is_script g_may_name_function g_is_tagged g_is_compound)) :=
  calF_of D sc_is_joint (fun _ _ _ _ _ _ us hl => match us, hl with | [_], _ => rfl) fun f cdv A outer s H E hr =>
  sndB_cons (sndS_if (sndT_cmp (op2_eq hr.units) (sndE_ix (sndE_var 0) (sndE_int)) (sndE_str)) (sndB_one (sndS_ret (sndE_and (sndE_cmp (op2_eq hr.units) (sndE_b1 call1_len Bl.len_ PySem.boot_len (sndE_var 0)) (sndE_int)) (sndE_and (sndE_callF C_may_name_function hr (Nat.le_refl _) (sndA_cons (sndE_ix (sndE_var 0) (sndE_int)) (sndA_nil))) (sndE_and (sndE_callF C_is_tagged hr (Nat.le_refl _) (sndA_cons (sndE_ix (sndE_var 0) (sndE_int)) (sndA_nil))) (sndE_one (sndE_callF C_is_compound hr (Nat.le_refl _) (sndA_cons (sndE_ix (sndE_var 0) (sndE_int)) (sndA_nil))))))))) (sndB_nil)) (sndB_cons (sndS_if (sndT_cmp (op2_eq hr.units) (sndE_ix (sndE_var 0) (sndE_int)) (sndE_str)) (sndB_one (sndS_ret (sndE_and (sndE_cmp (op2_eq hr.units) (sndE_b1 call1_len Bl.len_ PySem.boot_len (sndE_var 0)) (sndE_int)) (sndE_and (sndE_callF C_is_script hr (Nat.le_refl _) (sndA_cons (sndE_ix (sndE_var 0) (sndE_int)) (sndA_nil))) (sndE_and (sndE_cmp op2_Gt (sndE_b1 call1_len Bl.len_ PySem.boot_len (sndE_ix (sndE_var 0) (sndE_int))) (sndE_int)) (sndE_one (sndE_b1 (call1_all rfl) Bl.all_ (by decide +kernel) (sndE_lc (own := [("part", 1)]) rfl sc_is_joint.nd (blkOk_by (by change blkC N_is_joint (defScope s_is_joint) _ [("part", 1)] = true; decide +kernel)) (sndI_val (sndE_ix (sndE_var 0) (sndE_int))) (fun _ _ _ _ _ => sndG_name (k := 1) sc_is_joint.nd) (fun _ _ _ _ _ => sndTs_nil) (fun _ _ _ _ _ => sndE_cmp op2_notin (sndE_ix (sndE_var 1) (sndE_int)) (sndE_tup (sndA_cons (sndE_str) (sndA_cons (sndE_str) (sndA_cons (sndE_str) (sndA_cons (sndE_str) (sndA_nil))))))))))))))) (sndB_nil)) (sndB_cons (sndS_if (sndT_cmp (op2_eq hr.units) (sndE_ix (sndE_var 0) (sndE_int)) (sndE_str)) (sndB_one (sndS_ret (sndE_and (sndE_cmp (op2_eq hr.units) (sndE_b1 call1_len Bl.len_ PySem.boot_len (sndE_var 0)) (sndE_int)) (sndE_and (sndE_callF C_is_command hr (Nat.le_refl _) (sndA_cons (sndE_ix (sndE_var 0) (sndE_int)) (sndA_nil))) (sndE_one (sndE_cmp op2_notin (sndE_ix (sndE_ix (sndE_var 0) (sndE_int)) (sndE_int)) (sndE_tup (sndA_cons (sndE_str) (sndA_cons (sndE_str) (sndA_cons (sndE_str) (sndA_nil))))))))))) (sndB_nil)) (sndB_one (sndS_ret (sndE_and (sndE_cmp (op2_eq hr.units) (sndE_b1 call1_len Bl.len_ PySem.boot_len (sndE_var 0)) (sndE_int)) (sndE_and (sndE_callF C_is_command hr (Nat.le_refl _) (sndA_cons (sndE_ix (sndE_var 0) (sndE_int)) (sndA_nil))) (sndE_and (sndE_callF C_is_command hr (Nat.le_refl _) (sndA_cons (sndE_ix (sndE_var 0) (sndE_int)) (sndA_nil))) (sndE_one (sndE_cmp op2_notin (sndE_ix (sndE_ix (sndE_var 0) (sndE_int)) (sndE_int)) (sndE_tup (sndA_cons (sndE_str) (sndA_cons (sndE_str) (sndA_nil)))))))))))))
/-! ### is_do -/
abbrev N_is_do : List Str := ["sets", "words", "turns", "one", "first"]
theorem sc_is_do : FnScope ["sets", "words", "turns", "one", "first"] ["sets", "words", "turns"] (defScope s_is_do) := ⟨rfl, rfl, rfl, by decide +kernel, rfl, by decide +kernel, by decide +kernel⟩
noncomputable def lp_is_do_0 (g_is_name : Fn) (g_are_pieces : Fn) : Sm := sIf (mOr (mNot (mTru (m1 (gIsi "tuple") (mVar 3)))) (mOr (toT (m2 gNe (m1 gLen (mVar 3)) (mC (.int 2)))) (mOr (mNot (mTru (mCall g_is_name (mCons (m2 gIx (mVar 3) (mC (.int 0))) (mNil))))) (mNot (mTru (mCall g_are_pieces (mCons (m2 gIx (mVar 3) (mC (.int 1))) (mCons (mC (.bl false)) (mNil))))))))) (sRet (mC (.bl false))) (sNext)
noncomputable def b_is_do (g_begins_set : Fn) (g_is_name : Fn) (g_are_pieces : Fn) (g_are_words : Fn) (g_are_turns : Fn) : Sm := sSeq (sIf (mOr (mNot (mTru (m1 (gIsi "list") (mVar 0)))) (mOr (mNot (mTru (mCall g_are_words (mCons (mVar 1) (mNil))))) (mNot (mTru (mCall g_are_turns (mCons (mVar 2) (mNil))))))) (sRet (mC (.bl false))) (sNext)) (sSeq (sFor (mItV (mVar 0)) (bdN 3) (lp_is_do_0 g_is_name g_are_pieces)) (sSeq (sIf (toT (m2 gEq (mVar 1) (mLst (mNil)))) (sRet (mOrV (m2 gNe (mVar 0) (mLst (mNil))) (m2 gNe (mVar 2) (mLst (mNil))))) (sNext)) (sSeq (sSet 4 (m2 gIx (mVar 1) (mC (.int 0)))) (sSeq (sIf (toT (m2 gNe (m2 gIx (m2 gIx (mVar 4) (mC (.int 0))) (mC (.int 0))) (mC (.str "bare")))) (sRet (mC (.bl true))) (sNext)) (sSeq (sIf (mAnd (toT (m2 gEq (mVar 0) (mLst (mNil)))) (mAnd (toT (m2 gEq (m1 gLen (mVar 4)) (mC (.int 1)))) (toT (m2 (gIn false) (m2 gIx (m2 gIx (mVar 4) (mC (.int 0))) (mC (.int 1))) (mC c_KEY_WORDS))))) (sRet (mC (.bl false))) (sNext)) (sRet (mNotV (mCall g_begins_set (mCons (m2 gIx (m2 gIx (mVar 4) (mC (.int 0))) (mC (.int 1))) (mNil))))))))))
theorem ok_is_do (Bl : BlT mg) (Gs : GsT K mg) (D : DefAt K mg "is_do" s_is_do) {g_begins_set : Fn} (C_begins_set : CalF P w K mg base k "begins_set" s_begins_set ["text"] g_begins_set) {g_is_name : Fn} (C_is_name : CalF P w K mg base k "is_name" s_is_name ["thing"] g_is_name) {g_are_pieces : Fn} (C_are_pieces : CalF P w K mg base k "are_pieces" s_are_pieces ["tree", "inside"] g_are_pieces) {g_are_words : Fn} (C_are_words : CalF P w K mg base k "are_words" s_are_words ["trees"] g_are_words) {g_are_turns : Fn} (C_are_turns : CalF P w K mg base k "are_turns" s_are_turns ["tree"] g_are_turns) : CalF P w K mg base (k + 1) "is_do" s_is_do ["sets", "words", "turns"] (runBody 5 3 (b_is_do g_begins_set g_is_name g_are_pieces g_are_words g_are_turns)) :=
  calF_of D sc_is_do (fun _ _ _ _ _ _ us hl => match us, hl with | [_, _, _], _ => rfl) fun f cdv A outer s H E hr =>
  sndB_cons (sndS_if (sndT_of (sndW_or (sndT_not (sndT_tru (sndE_isi Bl.isinstance Bl.list_ (by decide +kernel) (sndE_var 0)))) (sndW_or (sndT_not (sndT_tru (sndE_callF C_are_words hr (Nat.le_refl _) (sndA_cons (sndE_var 1) (sndA_nil))))) (sndW_or1 (sndT_not (sndT_tru (sndE_callF C_are_turns hr (Nat.le_refl _) (sndA_cons (sndE_var 2) (sndA_nil))))))))) (sndB_one (sndS_ret (sndE_bl))) (sndB_nil)) (sndB_cons (sndS_for rfl (sndI_val (sndE_var 0)) (sndG_name (k := 3) sc_is_do.nd) (sndB_one (sndS_if (sndT_of (sndW_or (sndT_not (sndT_tru (sndE_isi Bl.isinstance Bl.tuple_ (by decide +kernel) (sndE_var 3)))) (sndW_or (sndT_cmp (op2_ne hr.units) (sndE_b1 call1_len Bl.len_ PySem.boot_len (sndE_var 3)) (sndE_int)) (sndW_or (sndT_not (sndT_tru (sndE_callF C_is_name hr (Nat.le_refl _) (sndA_cons (sndE_ix (sndE_var 3) (sndE_int)) (sndA_nil))))) (sndW_or1 (sndT_not (sndT_tru (sndE_callF C_are_pieces hr (Nat.le_refl _) (sndA_cons (sndE_ix (sndE_var 3) (sndE_int)) (sndA_cons (sndE_bl) (sndA_nil))))))))))) (sndB_one (sndS_ret (sndE_bl))) (sndB_nil)))) (sndB_cons (sndS_if (sndT_cmp (op2_eq hr.units) (sndE_var 1) (sndE_lst (sndA_nil))) (sndB_one (sndS_ret (sndE_or (sndE_cmp (op2_ne hr.units) (sndE_var 0) (sndE_lst (sndA_nil))) (sndE_one (sndE_cmp (op2_ne hr.units) (sndE_var 2) (sndE_lst (sndA_nil))))))) (sndB_nil)) (sndB_cons (sndS_set (i := 4) (sndE_ix (sndE_var 1) (sndE_int)) sc_is_do.nd) (sndB_cons (sndS_if (sndT_cmp (op2_ne hr.units) (sndE_ix (sndE_ix (sndE_var 4) (sndE_int)) (sndE_int)) (sndE_str)) (sndB_one (sndS_ret (sndE_bl))) (sndB_nil)) (sndB_cons (sndS_if (sndT_of (sndW_and (sndT_cmp (op2_eq hr.units) (sndE_var 0) (sndE_lst (sndA_nil))) (sndW_and (sndT_cmp (op2_eq hr.units) (sndE_b1 call1_len Bl.len_ PySem.boot_len (sndE_var 4)) (sndE_int)) (sndW_and1 (sndT_cmp op2_in (sndE_ix (sndE_ix (sndE_var 4) (sndE_int)) (sndE_int)) (sndE_gtreeE Gs.KEY_WORDS)))))) (sndB_one (sndS_ret (sndE_bl))) (sndB_nil)) (sndB_one (sndS_ret (sndE_not (sndE_callF C_begins_set hr (Nat.le_refl _) (sndA_cons (sndE_ix (sndE_ix (sndE_var 4) (sndE_int)) (sndE_int)) (sndA_nil)))))))))))
/-! ### functions_stand -/
abbrev N_functions_stand : List Str := ["functions", "name"]
theorem sc_functions_stand : FnScope ["functions", "name"] ["functions"] (defScope s_functions_stand) := ⟨rfl, rfl, rfl, by decide +kernel, rfl, by decide +kernel, by decide +kernel⟩
noncomputable def lc_functions_stand_0 (g_is_name : Fn) (g_is_script : Fn) : Ex := mLc (mItD keysD (mVar 0)) (bdN 1) (mYes) (mAndV (mCall g_is_name (mCons (mVar 1) (mNil))) (mCall g_is_script (mCons (mLst (mCons (mTup (mCons (mC (.str "make")) (mCons (mVar 1) (mCons (m2 gDIx (mVar 0) (mVar 1)) (mNil))))) (mNil))) (mNil)))) [1]
noncomputable def b_functions_stand (g_is_name : Fn) (g_is_script : Fn) : Sm := sSeq (sIf (mNot (mTru (m1 (gIsi "dict") (mVar 0)))) (sRet (mC (.bl false))) (sNext)) (sRet (m1 gAll (lc_functions_stand_0 g_is_name g_is_script)))
theorem ok_functions_stand (Bl : BlT mg) (Gs : GsT K mg) (D : DefAt K mg "functions_stand" s_functions_stand) {g_is_name : Fn} (C_is_name : CalF P w K mg base k "is_name" s_is_name ["thing"] g_is_name) {g_is_script : Fn} (C_is_script : CalF P w K mg base k "is_script" s_is_script ["tree"] g_is_script) : CalF P w K mg base (k + 1) "functions_stand" s_functions_stand ["functions"] (runBody 2 1 (b_functions_stand g_is_name g_is_script)) :=
  calF_of D sc_functions_stand (fun _ _ _ _ _ _ us hl => match us, hl with | [_], _ => rfl) fun f cdv A outer s H E hr =>
  sndB_cons (sndS_if (sndT_not (sndT_tru (sndE_isi Bl.isinstance Bl.dict_ (by decide +kernel) (sndE_var 0)))) (sndB_one (sndS_ret (sndE_bl))) (sndB_nil)) (sndB_one (sndS_ret (sndE_b1 (call1_all rfl) Bl.all_ (by decide +kernel) (sndE_lc (own := [("name", 1)]) rfl sc_functions_stand.nd (blkOk_by (by change blkC N_functions_stand (defScope s_functions_stand) _ [("name", 1)] = true; decide +kernel)) (sndI_keys (sndE_var 0)) (fun _ _ _ _ _ => sndG_name (k := 1) sc_functions_stand.nd) (fun _ _ _ _ _ => sndTs_nil) (fun _ _ _ _ _ => sndE_and (sndE_callF C_is_name hr (Nat.le_refl _) (sndA_cons (sndE_var 1) (sndA_nil))) (sndE_one (sndE_callF C_is_script hr (Nat.le_refl _) (sndA_cons (sndE_lst (sndA_cons (sndE_tup (sndA_cons (sndE_str) (sndA_cons (sndE_var 1) (sndA_cons (sndE_dix (hu_of hr) (sndE_var 0) (sndE_var 1)) (sndA_nil))))) (sndA_nil))) (sndA_nil)))))))))
/-! ### names_stand -/
abbrev N_names_stand : List Str := ["names", "name"]
theorem sc_names_stand : FnScope ["names", "name"] ["names"] (defScope s_names_stand) := ⟨rfl, rfl, rfl, by decide +kernel, rfl, by decide +kernel, by decide +kernel⟩
noncomputable def lc_names_stand_0 (g_is_name : Fn) : Ex := mLc (mItD keysD (mVar 0)) (bdN 1) (mYes) (mAndV (mCall g_is_name (mCons (mVar 1) (mNil))) (m1 (gIsi "str") (m2 gDIx (mVar 0) (mVar 1)))) [1]
noncomputable def b_names_stand (g_is_name : Fn) : Sm := sRet (mAndV (m1 (gIsi "dict") (mVar 0)) (m1 gAll (lc_names_stand_0 g_is_name)))
theorem ok_names_stand (Bl : BlT mg) (Gs : GsT K mg) (D : DefAt K mg "names_stand" s_names_stand) {g_is_name : Fn} (C_is_name : CalF P w K mg base k "is_name" s_is_name ["thing"] g_is_name) : CalF P w K mg base (k + 1) "names_stand" s_names_stand ["names"] (runBody 2 1 (b_names_stand g_is_name)) :=
  calF_of D sc_names_stand (fun _ _ _ _ _ _ us hl => match us, hl with | [_], _ => rfl) fun f cdv A outer s H E hr =>
  sndB_one (sndS_ret (sndE_and (sndE_isi Bl.isinstance Bl.dict_ (by decide +kernel) (sndE_var 0)) (sndE_one (sndE_b1 (call1_all rfl) Bl.all_ (by decide +kernel) (sndE_lc (own := [("name", 1)]) rfl sc_names_stand.nd (blkOk_by (by change blkC N_names_stand (defScope s_names_stand) _ [("name", 1)] = true; decide +kernel)) (sndI_keys (sndE_var 0)) (fun _ _ _ _ _ => sndG_name (k := 1) sc_names_stand.nd) (fun _ _ _ _ _ => sndTs_nil) (fun _ _ _ _ _ => sndE_and (sndE_callF C_is_name hr (Nat.le_refl _) (sndA_cons (sndE_var 1) (sndA_nil))) (sndE_one (sndE_isi Bl.isinstance Bl.str_ (by decide +kernel) (sndE_dix (hu_of hr) (sndE_var 0) (sndE_var 1))))))))))
/-! ### texts_alone -/
abbrev N_texts_alone : List Str := ["things", "text"]
theorem sc_texts_alone : FnScope ["things", "text"] ["things"] (defScope s_texts_alone) := ⟨rfl, rfl, rfl, by decide +kernel, rfl, by decide +kernel, by decide +kernel⟩
noncomputable def lc_texts_alone_0 : Ex := mLc (mItV (mVar 0)) (bdN 1) (mYes) (m1 (gIsi "str") (mVar 1)) [1]
noncomputable def b_texts_alone : Sm := sRet (mAndV (m1 (gIsi "list") (mVar 0)) (m1 gAll (lc_texts_alone_0)))
theorem ok_texts_alone (Bl : BlT mg) (Gs : GsT K mg) (D : DefAt K mg "texts_alone" s_texts_alone) : CalF P w K mg base (k + 1) "texts_alone" s_texts_alone ["things"] (runBody 2 1 (b_texts_alone)) :=
  calF_of D sc_texts_alone (fun _ _ _ _ _ _ us hl => match us, hl with | [_], _ => rfl) fun f cdv A outer s H E hr =>
  sndB_one (sndS_ret (sndE_and (sndE_isi Bl.isinstance Bl.list_ (by decide +kernel) (sndE_var 0)) (sndE_one (sndE_b1 (call1_all rfl) Bl.all_ (by decide +kernel) (sndE_lc (own := [("text", 1)]) rfl sc_texts_alone.nd (blkOk_by (by change blkC N_texts_alone (defScope s_texts_alone) _ [("text", 1)] = true; decide +kernel)) (sndI_val (sndE_var 0)) (fun _ _ _ _ _ => sndG_name (k := 1) sc_texts_alone.nd) (fun _ _ _ _ _ => sndTs_nil) (fun _ _ _ _ _ => sndE_isi Bl.isinstance Bl.str_ (by decide +kernel) (sndE_var 1)))))))
/-! ### is_folder -/
abbrev N_is_folder : List Str := ["files", "path"]
theorem sc_is_folder : FnScope ["files", "path"] ["files", "path"] (defScope s_is_folder) := ⟨rfl, rfl, rfl, by decide +kernel, rfl, by decide +kernel, by decide +kernel⟩
noncomputable def b_is_folder : Sm := sRet (mOrV (m2 gEq (mVar 1) (mC (.str c_TOP))) (mAndV (m2 (gDIn false) (mVar 1) (mVar 0)) (m2 (gIs false) (m2 gDIx (mVar 0) (mVar 1)) (mC .non))))
theorem ok_is_folder (Bl : BlT mg) (Gs : GsT K mg) (D : DefAt K mg "is_folder" s_is_folder) : CalF P w K mg base (k + 1) "is_folder" s_is_folder ["files", "path"] (runBody 2 2 (b_is_folder)) :=
  calF_of D sc_is_folder (fun _ _ _ _ _ _ us hl => match us, hl with | [_, _], _ => rfl) fun f cdv A outer s H E hr =>
  sndB_one (sndS_ret (sndE_or (sndE_cmp (op2_eq hr.units) (sndE_var 1) (sndE_gstrE Gs.TOP)) (sndE_one (sndE_and (sndE_cmp (op2_din (hu_of hr)) (sndE_var 1) (sndE_var 0)) (sndE_one (sndE_cmp op2_is (sndE_dix (hu_of hr) (sndE_var 0) (sndE_var 1)) (sndE_non)))))))
/-! ### folder_of -/
abbrev N_folder_of : List Str := ["path", "head"]
theorem sc_folder_of : FnScope ["path", "head"] ["path"] (defScope s_folder_of) := ⟨rfl, rfl, rfl, by decide +kernel, rfl, by decide +kernel, by decide +kernel⟩
noncomputable def b_folder_of : Sm := sSeq (sSet 1 (m2 gIx (mM gRPart (mVar 0) (mCons (mC (.str c_TOP)) mNil)) (mC (.int 0)))) (sRet (mIf (toT (m2 gNe (mVar 1) (mC (.str "")))) (mVar 1) (mC (.str c_TOP))))
theorem ok_folder_of (Bl : BlT mg) (Gs : GsT K mg) (D : DefAt K mg "folder_of" s_folder_of) : CalF P w K mg base (k + 1) "folder_of" s_folder_of ["path"] (runBody 2 1 (b_folder_of)) :=
  calF_of D sc_folder_of (fun _ _ _ _ _ _ us hl => match us, hl with | [_], _ => rfl) fun f cdv A outer s H E hr =>
  sndB_cons (sndS_set (i := 1) (sndE_ix (sndE_m1 PySem.F.slot_str_rpartition PySem.F.type_str_rpartition meth_rpartition (sndE_var 0) (sndE_gstrE Gs.TOP)) (sndE_int)) sc_folder_of.nd) (sndB_one (sndS_ret (sndE_if (sndT_cmp (op2_ne hr.units) (sndE_var 1) (sndE_str)) (sndE_var 1) (sndE_gstrE Gs.TOP))))
/-! ### is_path -/
abbrev N_is_path : List Str := ["text", "part"]
theorem sc_is_path : FnScope ["text", "part"] ["text"] (defScope s_is_path) := ⟨rfl, rfl, rfl, by decide +kernel, rfl, by decide +kernel, by decide +kernel⟩
noncomputable def lc_is_path_0 : Ex := mLc (mItV (mM gSplit (mSl (mVar 0) (mPart (mC (.int 1))) mNoPart) (mCons (mC (.str c_TOP)) mNil))) (bdN 1) (mYes) (m2 (gIn true) (mVar 1) (mTup (mCons (mC (.str "")) (mCons (mC (.str ".")) (mCons (mC (.str "..")) (mNil)))))) [1]
noncomputable def b_is_path : Sm := sSeq (sIf (mOr (mNot (mTru (m1 (gIsi "str") (mVar 0)))) (mNot (mTru (mM gStarts (mVar 0) (mCons (mC (.str c_TOP)) mNil))))) (sRet (mC (.bl false))) (sNext)) (sRet (m1 gAll (lc_is_path_0)))
theorem ok_is_path (Bl : BlT mg) (Gs : GsT K mg) (D : DefAt K mg "is_path" s_is_path) : CalF P w K mg base (k + 1) "is_path" s_is_path ["text"] (runBody 2 1 (b_is_path)) :=
  calF_of D sc_is_path (fun _ _ _ _ _ _ us hl => match us, hl with | [_], _ => rfl) fun f cdv A outer s H E hr =>
  sndB_cons (sndS_if (sndT_of (sndW_or (sndT_not (sndT_tru (sndE_isi Bl.isinstance Bl.str_ (by decide +kernel) (sndE_var 0)))) (sndW_or1 (sndT_not (sndT_tru (sndE_m1 PySem.F.slot_str_startswith PySem.F.type_str_startswith meth_startswith (sndE_var 0) (sndE_gstrE Gs.TOP))))))) (sndB_one (sndS_ret (sndE_bl))) (sndB_nil)) (sndB_one (sndS_ret (sndE_b1 (call1_all rfl) Bl.all_ (by decide +kernel) (sndE_lc (own := [("part", 1)]) rfl sc_is_path.nd (blkOk_by (by change blkC N_is_path (defScope s_is_path) _ [("part", 1)] = true; decide +kernel)) (sndI_val (sndE_m1 PySem.F.slot_str_split PySem.F.type_str_split meth_split (sndE_sl (sndE_var 0) (sndO_some (sndE_int)) sndO_none) (sndE_gstrE Gs.TOP))) (fun _ _ _ _ _ => sndG_name (k := 1) sc_is_path.nd) (fun _ _ _ _ _ => sndTs_nil) (fun _ _ _ _ _ => sndE_cmp op2_notin (sndE_var 1) (sndE_tup (sndA_cons (sndE_str) (sndA_cons (sndE_str) (sndA_cons (sndE_str) (sndA_nil))))))))))
/-! ### stands -/
abbrev N_stands : List Str := ["files", "path", "text"]
theorem sc_stands : FnScope ["files", "path", "text"] ["files"] (defScope s_stands) := ⟨rfl, rfl, rfl, by decide +kernel, rfl, by decide +kernel, by decide +kernel⟩
noncomputable def lp_stands_0 (g_is_path : Fn) (g_is_folder : Fn) (g_folder_of : Fn) : Sm := sSeq (sIf (mOr (mNot (mTru (mCall g_is_path (mCons (mVar 1) (mNil))))) (mNot (mOr (toT (m2 (gIs false) (mVar 2) (mC .non))) (mTru (m1 (gIsi "str") (mVar 2)))))) (sRet (mC (.bl false))) (sNext)) (sIf (mNot (mTru (mCall g_is_folder (mCons (mVar 0) (mCons (mCall g_folder_of (mCons (mVar 1) (mNil))) (mNil)))))) (sRet (mC (.bl false))) (sNext))
noncomputable def b_stands (g_is_folder : Fn) (g_folder_of : Fn) (g_is_path : Fn) : Sm := sSeq (sFor (mItD itemsD (mVar 0)) (bdT (bdCons (bdN 1) (bdCons (bdN 2) (bdNil)))) (lp_stands_0 g_is_path g_is_folder g_folder_of)) (sRet (mC (.bl true)))
theorem ok_stands (Bl : BlT mg) (Gs : GsT K mg) (D : DefAt K mg "stands" s_stands) {g_is_folder : Fn} (C_is_folder : CalF P w K mg base k "is_folder" s_is_folder ["files", "path"] g_is_folder) {g_folder_of : Fn} (C_folder_of : CalF P w K mg base k "folder_of" s_folder_of ["path"] g_folder_of) {g_is_path : Fn} (C_is_path : CalF P w K mg base k "is_path" s_is_path ["text"] g_is_path) : CalF P w K mg base (k + 1) "stands" s_stands ["files"] (runBody 3 1 (b_stands g_is_folder g_folder_of g_is_path)) :=
  calF_of D sc_stands (fun _ _ _ _ _ _ us hl => match us, hl with | [_], _ => rfl) fun f cdv A outer s H E hr =>
  sndB_cons (sndS_for rfl (sndI_items (sndE_var 0)) (sndG_tup rfl (sndGs_cons (sndG_name (k := 1) sc_stands.nd) (sndGs_cons (sndG_name (k := 2) sc_stands.nd) (sndGs_nil))) (n := 2) (bdCons_len (bdCons_len (fun _ _ h => bdNil_len h)))) (sndB_cons (sndS_if (sndT_of (sndW_or (sndT_not (sndT_tru (sndE_callF C_is_path hr (Nat.le_refl _) (sndA_cons (sndE_var 1) (sndA_nil))))) (sndW_or1 (sndT_not (sndT_of (sndW_or (sndT_cmp op2_is (sndE_var 2) (sndE_non)) (sndW_or1 (sndT_tru (sndE_isi Bl.isinstance Bl.str_ (by decide +kernel) (sndE_var 2)))))))))) (sndB_one (sndS_ret (sndE_bl))) (sndB_nil)) (sndB_one (sndS_if (sndT_not (sndT_tru (sndE_callF C_is_folder hr (Nat.le_refl _) (sndA_cons (sndE_var 0) (sndA_cons (sndE_callF C_folder_of hr (Nat.le_refl _) (sndA_cons (sndE_var 1) (sndA_nil))) (sndA_nil)))))) (sndB_one (sndS_ret (sndE_bl))) (sndB_nil))))) (sndB_one (sndS_ret (sndE_bl)))
/-! ### is_world -/
abbrev N_is_world : List Str := ["world", "files", "folder", "names", "arguments", "title", "status", "functions"]
theorem sc_is_world : FnScope ["world", "files", "folder", "names", "arguments", "title", "status", "functions"] ["world"] (defScope s_is_world) := ⟨rfl, rfl, rfl, by decide +kernel, rfl, by decide +kernel, by decide +kernel⟩
noncomputable def b_is_world (g_functions_stand : Fn) (g_names_stand : Fn) (g_texts_alone : Fn) (g_stands : Fn) (g_is_folder : Fn) : Sm := sSeq (sIf (mOr (mNot (mTru (m1 (gIsi "tuple") (mVar 0)))) (toT (m2 gNe (m1 gLen (mVar 0)) (mC (.int 7))))) (sRet (mC (.bl false))) (sNext)) (sSeq (sAsg (mVar 0) (bdT (bdCons (bdN 1) (bdCons (bdN 2) (bdCons (bdN 3) (bdCons (bdN 4) (bdCons (bdN 5) (bdCons (bdN 6) (bdCons (bdN 7) (bdNil)))))))))) (sSeq (sIf (mOr (mNot (mTru (m1 (gIsi "dict") (mVar 1)))) (mOr (mNot (mTru (m1 (gIsi "str") (mVar 2)))) (mNot (mTru (m1 (gIsi "str") (mVar 5)))))) (sRet (mC (.bl false))) (sNext)) (sSeq (sIf (mOr (mNot (mTru (mCall g_stands (mCons (mVar 1) (mNil))))) (mNot (mTru (mCall g_is_folder (mCons (mVar 1) (mCons (mVar 2) (mNil))))))) (sRet (mC (.bl false))) (sNext)) (sSeq (sIf (mOr (mNot (mTru (mCall g_names_stand (mCons (mVar 3) (mNil))))) (mNot (mTru (mCall g_texts_alone (mCons (mVar 4) (mNil)))))) (sRet (mC (.bl false))) (sNext)) (sSeq (sIf (mOr (mNot (mTru (m1 (gIsi "int") (mVar 6)))) (mOr (mTru (m1 (gIsi "bool") (mVar 6))) (mNot (toT (mChain gLe gLe (mC (.int 0)) (mVar 6) (mC (.int 255))))))) (sRet (mC (.bl false))) (sNext)) (sRet (mCall g_functions_stand (mCons (mVar 7) (mNil)))))))))
theorem ok_is_world (Bl : BlT mg) (Gs : GsT K mg) (D : DefAt K mg "is_world" s_is_world) {g_functions_stand : Fn} (C_functions_stand : CalF P w K mg base k "functions_stand" s_functions_stand ["functions"] g_functions_stand) {g_names_stand : Fn} (C_names_stand : CalF P w K mg base k "names_stand" s_names_stand ["names"] g_names_stand) {g_texts_alone : Fn} (C_texts_alone : CalF P w K mg base k "texts_alone" s_texts_alone ["things"] g_texts_alone) {g_stands : Fn} (C_stands : CalF P w K mg base k "stands" s_stands ["files"] g_stands) {g_is_folder : Fn} (C_is_folder : CalF P w K mg base k "is_folder" s_is_folder ["files", "path"] g_is_folder) : CalF P w K mg base (k + 1) "is_world" s_is_world ["world"] (runBody 8 1 (b_is_world g_functions_stand g_names_stand g_texts_alone g_stands g_is_folder)) :=
  calF_of D sc_is_world (fun _ _ _ _ _ _ us hl => match us, hl with | [_], _ => rfl) fun f cdv A outer s H E hr =>
  sndB_cons (sndS_if (sndT_of (sndW_or (sndT_not (sndT_tru (sndE_isi Bl.isinstance Bl.tuple_ (by decide +kernel) (sndE_var 0)))) (sndW_or1 (sndT_cmp (op2_ne hr.units) (sndE_b1 call1_len Bl.len_ PySem.boot_len (sndE_var 0)) (sndE_int))))) (sndB_one (sndS_ret (sndE_bl))) (sndB_nil)) (sndB_cons (sndS_asg (sndE_var 0) (sndG_tup rfl (sndGs_cons (sndG_name (k := 1) sc_is_world.nd) (sndGs_cons (sndG_name (k := 2) sc_is_world.nd) (sndGs_cons (sndG_name (k := 3) sc_is_world.nd) (sndGs_cons (sndG_name (k := 4) sc_is_world.nd) (sndGs_cons (sndG_name (k := 5) sc_is_world.nd) (sndGs_cons (sndG_name (k := 6) sc_is_world.nd) (sndGs_cons (sndG_name (k := 7) sc_is_world.nd) (sndGs_nil)))))))) (n := 7) (bdCons_len (bdCons_len (bdCons_len (bdCons_len (bdCons_len (bdCons_len (bdCons_len (fun _ _ h => bdNil_len h)))))))))) (sndB_cons (sndS_if (sndT_of (sndW_or (sndT_not (sndT_tru (sndE_isi Bl.isinstance Bl.dict_ (by decide +kernel) (sndE_var 1)))) (sndW_or (sndT_not (sndT_tru (sndE_isi Bl.isinstance Bl.str_ (by decide +kernel) (sndE_var 2)))) (sndW_or1 (sndT_not (sndT_tru (sndE_isi Bl.isinstance Bl.str_ (by decide +kernel) (sndE_var 5)))))))) (sndB_one (sndS_ret (sndE_bl))) (sndB_nil)) (sndB_cons (sndS_if (sndT_of (sndW_or (sndT_not (sndT_tru (sndE_callF C_stands hr (Nat.le_refl _) (sndA_cons (sndE_var 1) (sndA_nil))))) (sndW_or1 (sndT_not (sndT_tru (sndE_callF C_is_folder hr (Nat.le_refl _) (sndA_cons (sndE_var 1) (sndA_cons (sndE_var 2) (sndA_nil))))))))) (sndB_one (sndS_ret (sndE_bl))) (sndB_nil)) (sndB_cons (sndS_if (sndT_of (sndW_or (sndT_not (sndT_tru (sndE_callF C_names_stand hr (Nat.le_refl _) (sndA_cons (sndE_var 3) (sndA_nil))))) (sndW_or1 (sndT_not (sndT_tru (sndE_callF C_texts_alone hr (Nat.le_refl _) (sndA_cons (sndE_var 4) (sndA_nil)))))))) (sndB_one (sndS_ret (sndE_bl))) (sndB_nil)) (sndB_cons (sndS_if (sndT_of (sndW_or (sndT_not (sndT_tru (sndE_isi Bl.isinstance Bl.int_ (by decide +kernel) (sndE_var 6)))) (sndW_or (sndT_tru (sndE_isi Bl.isinstance Bl.bool_ (by decide +kernel) (sndE_var 6))) (sndW_or1 (sndT_not (sndT_chain op2_Le op2_Le (sndE_int) (sndE_var 6) (sndE_int))))))) (sndB_one (sndS_ret (sndE_bl))) (sndB_nil)) (sndB_one (sndS_ret (sndE_callF C_functions_stand hr (Nat.le_refl _) (sndA_cons (sndE_var 7) (sndA_nil))))))))))
/-! ### asked -/
abbrev N_asked : List Str := ["world"]
theorem sc_asked : FnScope ["world"] ["world"] (defScope s_asked) := ⟨rfl, rfl, rfl, by decide +kernel, rfl, by decide +kernel, by decide +kernel⟩
noncomputable def b_asked (g_is_world : Fn) : Sm := sIf (mNot (mTru (mCall g_is_world (mCons (mVar 0) (mNil))))) (sBad) (sNext)
theorem ok_asked (Bl : BlT mg) (Gs : GsT K mg) (D : DefAt K mg "asked" s_asked) {g_is_world : Fn} (C_is_world : CalF P w K mg base k "is_world" s_is_world ["world"] g_is_world) : CalF P w K mg base (k + 1) "asked" s_asked ["world"] (runBody 1 1 (b_asked g_is_world)) :=
  calF_of D sc_asked (fun _ _ _ _ _ _ us hl => match us, hl with | [_], _ => rfl) fun f cdv A outer s H E hr =>
  sndB_one (sndS_if (sndT_not (sndT_tru (sndE_callF C_is_world hr (Nat.le_refl _) (sndA_cons (sndE_var 0) (sndA_nil))))) (sndB_one (sndS_never)) (sndB_nil))
/-! ### path_of -/
abbrev N_path_of : List Str := ["world", "text"]
theorem sc_path_of : FnScope ["world", "text"] ["world", "text"] (defScope s_path_of) := ⟨rfl, rfl, rfl, by decide +kernel, rfl, by decide +kernel, by decide +kernel⟩
noncomputable def b_path_of (g_said_path : Fn) (g_asked : Fn) : Sm := sSeq (sExpr (mCall g_asked (mCons (mVar 0) (mNil)))) (sRet (mCall g_said_path (mCons (m2 gIx (mVar 0) (mC (.int 1))) (mCons (mVar 1) (mNil)))))
theorem ok_path_of (Bl : BlT mg) (Gs : GsT K mg) (D : DefAt K mg "path_of" s_path_of) {g_said_path : Fn} (C_said_path : CalF P w K mg base k "said_path" s_said_path ["folder", "text"] g_said_path) {g_asked : Fn} (C_asked : CalF P w K mg base k "asked" s_asked ["world"] g_asked) : CalF P w K mg base (k + 1) "path_of" s_path_of ["world", "text"] (runBody 2 2 (b_path_of g_said_path g_asked)) :=
  calF_of D sc_path_of (fun _ _ _ _ _ _ us hl => match us, hl with | [_, _], _ => rfl) fun f cdv A outer s H E hr =>
  sndB_cons (sndS_expr (sndE_callF C_asked hr (Nat.le_refl _) (sndA_cons (sndE_var 0) (sndA_nil)))) (sndB_one (sndS_ret (sndE_callF C_said_path hr (Nat.le_refl _) (sndA_cons (sndE_ix (sndE_var 0) (sndE_int)) (sndA_cons (sndE_var 1) (sndA_nil))))))
/-! ### _law_said -/
abbrev N__law_said : List Str := ["_law_folder", "_law_line", "_law_parts", "_law_kept", "_law_spare", "_law_part_here"]
theorem sc__law_said : FnScope ["_law_folder", "_law_line", "_law_parts", "_law_kept", "_law_spare", "_law_part_here"] ["_law_folder", "_law_line"] (defScope s__law_said) := ⟨rfl, rfl, rfl, by decide +kernel, rfl, by decide +kernel, by decide +kernel⟩
noncomputable def lp__law_said_0 : Sm := sIf (toT (m2 gEq (mVar 5) (mC (.str "..")))) (sSet 4 (m2 gAdd (mVar 4) (mC (.int 1)))) (sIf (toT (m2 (gIn true) (mVar 5) (mTup (mCons (mC (.str "")) (mCons (mC (.str ".")) (mNil)))))) (sIf (toT (m2 gEq (mVar 4) (mC (.int 0)))) (sSet 3 (m2 gAdd (mLst (mCons (mVar 5) (mNil))) (mVar 3))) (sSet 4 (m2 gSub (mVar 4) (mC (.int 1))))) (sNext))
noncomputable def b__law_said : Sm := sSeq (sSet 2 (mM gSplit (mVar 1) (mCons (mC (.str "/")) mNil))) (sSeq (sIf (mNot (mTru (mM gStarts (mVar 1) (mCons (mC (.str "/")) mNil)))) (sSet 2 (m2 gAdd (mM gSplit (mVar 0) (mCons (mC (.str "/")) mNil)) (mVar 2))) (sNext)) (sSeq (sSet 3 (mLst (mNil))) (sSeq (sSet 4 (mC (.int 0))) (sSeq (sFor (mRevI (mVar 2)) (bdN 5) (lp__law_said_0)) (sRet (m2 gAdd (mC (.str "/")) (mM gJoin (mC (.str "/")) (mCons (mVar 3) mNil))))))))
theorem ok__law_said (Bl : BlT mg) (Gs : GsT K mg) (D : DefAt K mg "_law_said" s__law_said) : CalF P w K mg base (k + 1) "_law_said" s__law_said ["_law_folder", "_law_line"] (runBody 6 2 (b__law_said)) :=
  calF_of D sc__law_said (fun _ _ _ _ _ _ us hl => match us, hl with | [_, _], _ => rfl) fun f cdv A outer s H E hr =>
  sndB_cons (sndS_set (i := 2) (sndE_m1 PySem.F.slot_str_split PySem.F.type_str_split meth_split (sndE_var 1) (sndE_str)) sc__law_said.nd) (sndB_cons (sndS_if (sndT_not (sndT_tru (sndE_m1 PySem.F.slot_str_startswith PySem.F.type_str_startswith meth_startswith (sndE_var 1) (sndE_str)))) (sndB_one (sndS_set (i := 2) (sndE_op op2_Add (sndE_m1 PySem.F.slot_str_split PySem.F.type_str_split meth_split (sndE_var 0) (sndE_str)) (sndE_var 2)) sc__law_said.nd)) (sndB_nil)) (sndB_cons (sndS_set (i := 3) (sndE_lst (sndA_nil)) sc__law_said.nd) (sndB_cons (sndS_set (i := 4) (sndE_int) sc__law_said.nd) (sndB_cons (sndS_for rfl (sndI_rev Bl.reversed_ (sndE_var 2)) (sndG_name (k := 5) sc__law_said.nd) (sndB_one (sndS_if (sndT_cmp (op2_eq hr.units) (sndE_var 5) (sndE_str)) (sndB_one (sndS_set (i := 4) (sndE_op op2_Add (sndE_var 4) (sndE_int)) sc__law_said.nd)) (sndB_one (sndS_if (sndT_cmp op2_notin (sndE_var 5) (sndE_tup (sndA_cons (sndE_str) (sndA_cons (sndE_str) (sndA_nil))))) (sndB_one (sndS_if (sndT_cmp (op2_eq hr.units) (sndE_var 4) (sndE_int)) (sndB_one (sndS_set (i := 3) (sndE_op op2_Add (sndE_lst (sndA_cons (sndE_var 5) (sndA_nil))) (sndE_var 3)) sc__law_said.nd)) (sndB_one (sndS_set (i := 4) (sndE_op op2_Sub (sndE_var 4) (sndE_int)) sc__law_said.nd)))) (sndB_nil)))))) (sndB_one (sndS_ret (sndE_op op2_Add (sndE_str) (sndE_m1 PySem.F.slot_str_join PySem.F.type_str_join meth_join (sndE_str) (sndE_var 3)))))))))
/-! ### _law_pieces -/
abbrev N__law_pieces : List Str := ["_law_deck_here", "_law_files_here", "_law_pieces_here", "_law_k", "_law_kind", "_law_paths"]
theorem sc__law_pieces : FnScope ["_law_deck_here", "_law_files_here", "_law_pieces_here", "_law_k", "_law_kind", "_law_paths"] ["_law_deck_here", "_law_files_here"] (defScope s__law_pieces) := ⟨rfl, rfl, rfl, by decide +kernel, rfl, by decide +kernel, by decide +kernel⟩
noncomputable def lp__law_pieces_0 (g__law_draw : Fn) (g__law_part : Fn) : Sm := sSeq (sSet 4 (mCall g__law_draw (mCons (mVar 0) (mCons (mC (.int 6)) (mNil))))) (sIf (toT (m2 gLt (mVar 4) (mC (.int 4)))) (sExpr (mAppend (mVar 2) (m2 gIx (mLst (mCons (mC (.str "")) (mCons (mC (.str ".")) (mCons (mC (.str "..")) (mCons (mC (.str "..")) (mNil)))))) (mVar 4)))) (sIf (mAnd (toT (m2 gEq (mVar 4) (mC (.int 4)))) (toT (m2 gDNe0 (mVar 1) (mDct0)))) (sSeq (sSet 5 (m1 gSortD (mVar 1))) (sExpr (mAppend (mVar 2) (m2 gIx (mM gSplit (m2 gIx (mVar 5) (mCall g__law_draw (mCons (mVar 0) (mCons (m1 gLen (mVar 5)) (mNil))))) (mCons (mC (.str "/")) mNil)) (m1 gNeg (mC (.int 1))))))) (sExpr (mAppend (mVar 2) (mCall g__law_part (mCons (mVar 0) (mNil)))))))
noncomputable def b__law_pieces (g__law_draw : Fn) (g__law_part : Fn) : Sm := sSeq (sOwn 2 (mLst (mNil))) (sSeq (sFor (mRange1 (mCons (mCall g__law_draw (mCons (mVar 0) (mCons (mC (.int 8)) (mNil)))) (mNil))) (bdN 3) (lp__law_pieces_0 g__law_draw g__law_part)) (sRet (mVar 2)))
theorem ok__law_pieces (Bl : BlT mg) (Gs : GsT K mg) (D : DefAt K mg "_law_pieces" s__law_pieces) {g__law_draw : Fn} (C__law_draw : CalF P w K mg base k "_law_draw" s__law_draw ["_law_deck_here", "_law_many"] g__law_draw) {g__law_part : Fn} (C__law_part : CalF P w K mg base k "_law_part" s__law_part ["_law_deck_here"] g__law_part) : CalF P w K mg base (k + 1) "_law_pieces" s__law_pieces ["_law_deck_here", "_law_files_here"] (runBody 6 2 (b__law_pieces g__law_draw g__law_part)) :=
  calF_of D sc__law_pieces (fun _ _ _ _ _ _ us hl => match us, hl with | [_, _], _ => rfl) fun f cdv A outer s H E hr =>
  sndB_cons (sndS_own (i := 2) (sndE_lst (sndA_nil)) sc__law_pieces.nd) (sndB_cons (sndS_for rfl (sndI_range1 Bl.range_ (sndA_cons (sndE_callF C__law_draw hr (Nat.le_refl _) (sndA_cons (sndE_var 0) (sndA_cons (sndE_int) (sndA_nil)))) (sndA_nil))) (sndG_name (k := 3) sc__law_pieces.nd) (sndB_cons (sndS_set (i := 4) (sndE_callF C__law_draw hr (Nat.le_refl _) (sndA_cons (sndE_var 0) (sndA_cons (sndE_int) (sndA_nil)))) sc__law_pieces.nd) (sndB_one (sndS_if (sndT_cmp op2_Lt (sndE_var 4) (sndE_int)) (sndB_one (sndS_expr (sndE_append (sndE_var 2) (sndE_ix (sndE_lst (sndA_cons (sndE_str) (sndA_cons (sndE_str) (sndA_cons (sndE_str) (sndA_cons (sndE_str) (sndA_nil)))))) (sndE_var 4))))) (sndB_one (sndS_if (sndT_of (sndW_and (sndT_cmp (op2_eq hr.units) (sndE_var 4) (sndE_int)) (sndW_and1 (sndT_cmp (op2_dne0 (hu0_of hr)) (sndE_var 1) (sndE_dct0))))) (sndB_cons (sndS_set (i := 5) (sndE_b1 (call1_sortD rfl) Bl.sorted_ (by decide +kernel) (sndE_var 1)) sc__law_pieces.nd) (sndB_one (sndS_expr (sndE_append (sndE_var 2) (sndE_ix (sndE_m1 PySem.F.slot_str_split PySem.F.type_str_split meth_split (sndE_ix (sndE_var 5) (sndE_callF C__law_draw hr (Nat.le_refl _) (sndA_cons (sndE_var 0) (sndA_cons (sndE_b1 call1_len Bl.len_ PySem.boot_len (sndE_var 5)) (sndA_nil))))) (sndE_str)) (sndE_neg (sndE_int))))))) (sndB_one (sndS_expr (sndE_append (sndE_var 2) (sndE_callF C__law_part hr (Nat.le_refl _) (sndA_cons (sndE_var 0) (sndA_nil)))))))))))) (sndB_one (sndS_ret (sndE_var 2))))
/-! ### _law_right -/
abbrev N__law_right : List Str := ["_law_cell_here", "_law_deck_here", "_law_line", "_law_world_here", "_law_folders_here", "_law_other", "_law_one", "_law_found", "_law_due", "_law_path", "_law_again"]
theorem sc__law_right : FnScope ["_law_cell_here", "_law_deck_here", "_law_line", "_law_world_here", "_law_folders_here", "_law_other", "_law_one", "_law_found", "_law_due", "_law_path", "_law_again"] ["_law_cell_here"] (defScope s__law_right) := ⟨rfl, rfl, rfl, by decide +kernel, rfl, by decide +kernel, by decide +kernel⟩
noncomputable def lp__law_right_0 (g_path_of : Fn) : Sm := sIf (toT (m2 gNe (mCall g_path_of (mCons (mVar 5) (mCons (mVar 9) (mNil)))) (mVar 9))) (sRet (mC (.bl false))) (sNext)
noncomputable def lp__law_right_1 (g_path_of : Fn) (g__law_said : Fn) (g__law_same : Fn) : Sm := sSeq (sSet 7 (mCall g_path_of (mCons (mVar 6) (mCons (mVar 2) (mNil))))) (sSeq (sSet 8 (mCall g__law_said (mCons (m2 gIx (mVar 6) (mC (.int 1))) (mCons (mVar 2) (mNil))))) (sSeq (sIf (mOr (mNot (mTru (mCall g__law_same (mCons (mVar 7) (mCons (mVar 8) (mNil)))))) (mOr (toT (m2 gNe (mCall g_path_of (mCons (mVar 6) (mCons (mVar 7) (mNil)))) (mVar 8))) (toT (m2 gNe (mCallPK g_path_of 1 [0, 1] (mCons (mVar 3) (mNil)) (mCons (m2 gAdd (mVar 8) (mC (.str "/"))) (mNil))) (mVar 8))))) (sRet (mC (.bl false))) (sNext)) (sIf (mAnd (mNot (mTru (mM gStarts (mVar 2) (mCons (mC (.str "/")) mNil)))) (toT (m2 gNe (mCall g_path_of (mCons (mVar 3) (mCons (m2 gAdd (m2 gAdd (m2 gIx (mVar 6) (mC (.int 1))) (mC (.str "/"))) (mVar 2)) (mNil)))) (mVar 8)))) (sRet (mC (.bl false))) (sNext))))
noncomputable def b__law_right (g__law_same : Fn) (g__law_world : Fn) (g__law_draw : Fn) (g__law_deck : Fn) (g_path_of : Fn) (g__law_said : Fn) (g__law_folders : Fn) (g__law_pieces : Fn) : Sm := sSeq (sSet 1 (mCall g__law_deck (mCons (mVar 0) (mNil)))) (sSeq (sSet 2 (m2 gIx (mLst (mCons (mC (.str "")) (mCons (mC (.str "/")) (mNil)))) (mCall g__law_draw (mCons (mVar 1) (mCons (mC (.int 2)) (mNil)))))) (sSeq (sSet 3 (mCall g__law_world (mCons (mVar 1) (mCons (mC (.int 5)) (mNil))))) (sSeq (sSet 2 (m2 gAdd (mVar 2) (mM gJoin (mC (.str "/")) (mCons (mCall g__law_pieces (mCons (mVar 1) (mCons (m2 gIx (mVar 3) (mC (.int 0))) (mNil)))) mNil)))) (sSeq (sSet 4 (mCall g__law_folders (mCons (m2 gIx (mVar 3) (mC (.int 0))) (mNil)))) (sSeq (sSet 5 (m2 gAdd (mTup (mCons (m2 gIx (mVar 3) (mC (.int 0))) (mCons (m2 gIx (mVar 4) (mCall g__law_draw (mCons (mVar 1) (mCons (m1 gLen (mVar 4)) (mNil))))) (mNil)))) (mSl (mVar 3) (mPart (mC (.int 2))) mNoPart))) (sSeq (sFor (mItV (mLst (mCons (mVar 3) (mCons (mVar 5) (mCons (mVar 3) (mNil)))))) (bdN 6) (lp__law_right_1 g_path_of g__law_said g__law_same)) (sSeq (sFor (mItD keysD (m2 gIx (mVar 3) (mC (.int 0)))) (bdN 9) (lp__law_right_0 g_path_of)) (sSeq (sSet 10 (mCall g__law_deck (mCons (mVar 0) (mNil)))) (sSeq (sExpr (mCall g__law_draw (mCons (mVar 10) (mCons (mC (.int 2)) (mNil))))) (sRet (mCall g__law_same (mCons (mVar 3) (mCons (mCall g__law_world (mCons (mVar 10) (mCons (mC (.int 5)) (mNil)))) (mNil))))))))))))))
theorem ok__law_right (Bl : BlT mg) (Gs : GsT K mg) (D : DefAt K mg "_law_right" s__law_right) {g__law_same : Fn} (C__law_same : CalF P w K mg base k "_law_same" s__law_same ["_law_found", "_law_due"] g__law_same) {g__law_world : Fn} (C__law_world : CalF P w K mg base k "_law_world" s__law_world ["_law_deck_here", "_law_most"] g__law_world) {g__law_draw : Fn} (C__law_draw : CalF P w K mg base k "_law_draw" s__law_draw ["_law_deck_here", "_law_many"] g__law_draw) {g__law_deck : Fn} (C__law_deck : CalF P w K mg base k "_law_deck" s__law_deck ["_law_cell_here"] g__law_deck) {g_path_of : Fn} (C_path_of : CalF P w K mg base k "path_of" s_path_of ["world", "text"] g_path_of) {g__law_said : Fn} (C__law_said : CalF P w K mg base k "_law_said" s__law_said ["_law_folder", "_law_line"] g__law_said) {g__law_folders : Fn} (C__law_folders : CalF P w K mg base k "_law_folders" s__law_folders ["_law_files_here"] g__law_folders) {g__law_pieces : Fn} (C__law_pieces : CalF P w K mg base k "_law_pieces" s__law_pieces ["_law_deck_here", "_law_files_here"] g__law_pieces) : CalF P w K mg base (k + 1) "_law_right" s__law_right ["_law_cell_here"] (runBody 11 1 (b__law_right g__law_same g__law_world g__law_draw g__law_deck g_path_of g__law_said g__law_folders g__law_pieces)) :=
  calF_of D sc__law_right (fun _ _ _ _ _ _ us hl => match us, hl with | [_], _ => rfl) fun f cdv A outer s H E hr =>
  sndB_cons (sndS_set (i := 1) (sndE_callF C__law_deck hr (Nat.le_refl _) (sndA_cons (sndE_var 0) (sndA_nil))) sc__law_right.nd) (sndB_cons (sndS_set (i := 2) (sndE_ix (sndE_lst (sndA_cons (sndE_str) (sndA_cons (sndE_str) (sndA_nil)))) (sndE_callF C__law_draw hr (Nat.le_refl _) (sndA_cons (sndE_var 1) (sndA_cons (sndE_int) (sndA_nil))))) sc__law_right.nd) (sndB_cons (sndS_set (i := 3) (sndE_callF C__law_world hr (Nat.le_refl _) (sndA_cons (sndE_var 1) (sndA_cons (sndE_int) (sndA_nil)))) sc__law_right.nd) (sndB_cons (sndS_set (i := 2) (sndE_op op2_Add (sndE_var 2) (sndE_m1 PySem.F.slot_str_join PySem.F.type_str_join meth_join (sndE_str) (sndE_callF C__law_pieces hr (Nat.le_refl _) (sndA_cons (sndE_var 1) (sndA_cons (sndE_ix (sndE_var 3) (sndE_int)) (sndA_nil)))))) sc__law_right.nd) (sndB_cons (sndS_set (i := 4) (sndE_callF C__law_folders hr (Nat.le_refl _) (sndA_cons (sndE_ix (sndE_var 3) (sndE_int)) (sndA_nil))) sc__law_right.nd) (sndB_cons (sndS_set (i := 5) (sndE_op op2_Add (sndE_tup (sndA_cons (sndE_ix (sndE_var 3) (sndE_int)) (sndA_cons (sndE_ix (sndE_var 4) (sndE_callF C__law_draw hr (Nat.le_refl _) (sndA_cons (sndE_var 1) (sndA_cons (sndE_b1 call1_len Bl.len_ PySem.boot_len (sndE_var 4)) (sndA_nil))))) (sndA_nil)))) (sndE_sl (sndE_var 3) (sndO_some (sndE_int)) sndO_none)) sc__law_right.nd) (sndB_cons (sndS_for rfl (sndI_val (sndE_lst (sndA_cons (sndE_var 3) (sndA_cons (sndE_var 5) (sndA_cons (sndE_var 3) (sndA_nil)))))) (sndG_name (k := 6) sc__law_right.nd) (sndB_cons (sndS_set (i := 7) (sndE_callF C_path_of hr (Nat.le_refl _) (sndA_cons (sndE_var 6) (sndA_cons (sndE_var 2) (sndA_nil)))) sc__law_right.nd) (sndB_cons (sndS_set (i := 8) (sndE_callF C__law_said hr (Nat.le_refl _) (sndA_cons (sndE_ix (sndE_var 6) (sndE_int)) (sndA_cons (sndE_var 2) (sndA_nil)))) sc__law_right.nd) (sndB_cons (sndS_if (sndT_of (sndW_or (sndT_not (sndT_tru (sndE_callF C__law_same hr (Nat.le_refl _) (sndA_cons (sndE_var 7) (sndA_cons (sndE_var 8) (sndA_nil)))))) (sndW_or (sndT_cmp (op2_ne hr.units) (sndE_callF C_path_of hr (Nat.le_refl _) (sndA_cons (sndE_var 6) (sndA_cons (sndE_var 7) (sndA_nil)))) (sndE_var 8)) (sndW_or1 (sndT_cmp (op2_ne hr.units) (sndE_callPK C_path_of hr (Nat.le_refl _) kwp_path_of_1_text (by decide) (sndA_cons (sndE_var 3) (sndA_nil)) (sndK_cons (sndE_op op2_Add (sndE_var 8) (sndE_str)) (sndK_nil))) (sndE_var 8)))))) (sndB_one (sndS_ret (sndE_bl))) (sndB_nil)) (sndB_one (sndS_if (sndT_of (sndW_and (sndT_not (sndT_tru (sndE_m1 PySem.F.slot_str_startswith PySem.F.type_str_startswith meth_startswith (sndE_var 2) (sndE_str)))) (sndW_and1 (sndT_cmp (op2_ne hr.units) (sndE_callF C_path_of hr (Nat.le_refl _) (sndA_cons (sndE_var 3) (sndA_cons (sndE_op op2_Add (sndE_op op2_Add (sndE_ix (sndE_var 6) (sndE_int)) (sndE_str)) (sndE_var 2)) (sndA_nil)))) (sndE_var 8))))) (sndB_one (sndS_ret (sndE_bl))) (sndB_nil))))))) (sndB_cons (sndS_for rfl (sndI_keys (sndE_ix (sndE_var 3) (sndE_int))) (sndG_name (k := 9) sc__law_right.nd) (sndB_one (sndS_if (sndT_cmp (op2_ne hr.units) (sndE_callF C_path_of hr (Nat.le_refl _) (sndA_cons (sndE_var 5) (sndA_cons (sndE_var 9) (sndA_nil)))) (sndE_var 9)) (sndB_one (sndS_ret (sndE_bl))) (sndB_nil)))) (sndB_cons (sndS_set (i := 10) (sndE_callF C__law_deck hr (Nat.le_refl _) (sndA_cons (sndE_var 0) (sndA_nil))) sc__law_right.nd) (sndB_cons (sndS_expr (sndE_callF C__law_draw hr (Nat.le_refl _) (sndA_cons (sndE_var 10) (sndA_cons (sndE_int) (sndA_nil))))) (sndB_one (sndS_ret (sndE_callF C__law_same hr (Nat.le_refl _) (sndA_cons (sndE_var 3) (sndA_cons (sndE_callF C__law_world hr (Nat.le_refl _) (sndA_cons (sndE_var 10) (sndA_cons (sndE_int) (sndA_nil)))) (sndA_nil)))))))))))))))
/-! ### law -/
abbrev N_law : List Str := ["_law_script", "_law_cell_here"]
theorem sc_law : FnScope ["_law_script", "_law_cell_here"] ["_law_script"] (defScope s_law) := ⟨rfl, rfl, rfl, by decide +kernel, rfl, by decide +kernel, by decide +kernel⟩
noncomputable def lp_law_0 (g__law_right : Fn) : Sm := sIf (mNot (mTru (mCall g__law_right (mCons (mVar 1) (mNil))))) (sRet (mC (.bl false))) (sNext)
noncomputable def b_law (g__law_right : Fn) : Sm := sSeq (sFor (mItV (m2 gAdd (mLst (mCons (mC (.int 0)) (mNil))) (mSlS (mVar 0) mNoPart (mPart (mC (.int 20)))))) (bdN 1) (lp_law_0 g__law_right)) (sRet (mC (.bl true)))
theorem ok_law (Bl : BlT mg) (Gs : GsT K mg) (D : DefAt K mg "law" s_law) {g__law_right : Fn} (C__law_right : CalF P w K mg base k "_law_right" s__law_right ["_law_cell_here"] g__law_right) : CalF P w K mg base (k + 1) "law" s_law ["_law_script"] (runBody 2 1 (b_law g__law_right)) :=
  calF_of D sc_law (fun _ _ _ _ _ _ us hl => match us, hl with | [_], _ => rfl) fun f cdv A outer s H E hr =>
  sndB_cons (sndS_for rfl (sndI_val (sndE_op op2_Add (sndE_lst (sndA_cons (sndE_int) (sndA_nil))) (sndE_slS (sndE_var 0) sndO_none (sndO_some (sndE_int))))) (sndG_name (k := 1) sc_law.nd) (sndB_one (sndS_if (sndT_not (sndT_tru (sndE_callF C__law_right hr (Nat.le_refl _) (sndA_cons (sndE_var 1) (sndA_nil))))) (sndB_one (sndS_ret (sndE_bl))) (sndB_nil)))) (sndB_one (sndS_ret (sndE_bl)))
end
/-! ### the texts as codes -/
@[simp] theorem lit_0 : Str.ofString "if" = ofC [105, 102] := by decide +kernel
@[simp] theorem lit_1 : Str.ofString "then" = ofC [116, 104, 101, 110] := by decide +kernel
@[simp] theorem lit_2 : Str.ofString "elif" = ofC [101, 108, 105, 102] := by decide +kernel
@[simp] theorem lit_3 : Str.ofString "else" = ofC [101, 108, 115, 101] := by decide +kernel
@[simp] theorem lit_4 : Str.ofString "fi" = ofC [102, 105] := by decide +kernel
@[simp] theorem lit_5 : Str.ofString "while" = ofC [119, 104, 105, 108, 101] := by decide +kernel
@[simp] theorem lit_6 : Str.ofString "until" = ofC [117, 110, 116, 105, 108] := by decide +kernel
@[simp] theorem lit_7 : Str.ofString "do" = ofC [100, 111] := by decide +kernel
@[simp] theorem lit_8 : Str.ofString "done" = ofC [100, 111, 110, 101] := by decide +kernel
@[simp] theorem lit_9 : Str.ofString "for" = ofC [102, 111, 114] := by decide +kernel
@[simp] theorem lit_10 : Str.ofString "in" = ofC [105, 110] := by decide +kernel
@[simp] theorem lit_11 : Str.ofString "case" = ofC [99, 97, 115, 101] := by decide +kernel
@[simp] theorem lit_12 : Str.ofString "esac" = ofC [101, 115, 97, 99] := by decide +kernel
@[simp] theorem lit_13 : Str.ofString "{" = ofC [123] := by decide +kernel
@[simp] theorem lit_14 : Str.ofString "}" = ofC [125] := by decide +kernel
@[simp] theorem lit_15 : Str.ofString "!" = ofC [33] := by decide +kernel
@[simp] theorem lit_16 : Str.ofString ":" = ofC [58] := by decide +kernel
@[simp] theorem lit_17 : Str.ofString "true" = ofC [116, 114, 117, 101] := by decide +kernel
@[simp] theorem lit_18 : Str.ofString "false" = ofC [102, 97, 108, 115, 101] := by decide +kernel
@[simp] theorem lit_19 : Str.ofString "echo" = ofC [101, 99, 104, 111] := by decide +kernel
@[simp] theorem lit_20 : Str.ofString "read" = ofC [114, 101, 97, 100] := by decide +kernel
@[simp] theorem lit_21 : Str.ofString "set" = ofC [115, 101, 116] := by decide +kernel
@[simp] theorem lit_22 : Str.ofString "shift" = ofC [115, 104, 105, 102, 116] := by decide +kernel
@[simp] theorem lit_23 : Str.ofString "unset" = ofC [117, 110, 115, 101, 116] := by decide +kernel
@[simp] theorem lit_24 : Str.ofString "cd" = ofC [99, 100] := by decide +kernel
@[simp] theorem lit_25 : Str.ofString "pwd" = ofC [112, 119, 100] := by decide +kernel
@[simp] theorem lit_26 : Str.ofString "test" = ofC [116, 101, 115, 116] := by decide +kernel
@[simp] theorem lit_27 : Str.ofString "break" = ofC [98, 114, 101, 97, 107] := by decide +kernel
@[simp] theorem lit_28 : Str.ofString "continue" = ofC [99, 111, 110, 116, 105, 110, 117, 101] := by decide +kernel
@[simp] theorem lit_29 : Str.ofString "return" = ofC [114, 101, 116, 117, 114, 110] := by decide +kernel
@[simp] theorem lit_30 : Str.ofString "exit" = ofC [101, 120, 105, 116] := by decide +kernel
@[simp] theorem lit_31 : Str.ofString "cat" = ofC [99, 97, 116] := by decide +kernel
@[simp] theorem lit_32 : Str.ofString "keep" = ofC [107, 101, 101, 112] := by decide +kernel
@[simp] theorem lit_33 : Str.ofString "drop" = ofC [100, 114, 111, 112] := by decide +kernel
@[simp] theorem lit_34 : Str.ofString "first" = ofC [102, 105, 114, 115, 116] := by decide +kernel
@[simp] theorem lit_35 : Str.ofString "last" = ofC [108, 97, 115, 116] := by decide +kernel
@[simp] theorem lit_36 : Str.ofString "order" = ofC [111, 114, 100, 101, 114] := by decide +kernel
@[simp] theorem lit_37 : Str.ofString "once" = ofC [111, 110, 99, 101] := by decide +kernel
@[simp] theorem lit_38 : Str.ofString "count" = ofC [99, 111, 117, 110, 116] := by decide +kernel
@[simp] theorem lit_39 : Str.ofString "number" = ofC [110, 117, 109, 98, 101, 114] := by decide +kernel
@[simp] theorem lit_40 : Str.ofString "swap" = ofC [115, 119, 97, 112] := by decide +kernel
@[simp] theorem lit_41 : Str.ofString "part" = ofC [112, 97, 114, 116] := by decide +kernel
@[simp] theorem lit_42 : Str.ofString "tee" = ofC [116, 101, 101] := by decide +kernel
@[simp] theorem lit_43 : Str.ofString "make" = ofC [109, 97, 107, 101] := by decide +kernel
@[simp] theorem lit_44 : Str.ofString "remove" = ofC [114, 101, 109, 111, 118, 101] := by decide +kernel
@[simp] theorem lit_45 : Str.ofString "move" = ofC [109, 111, 118, 101] := by decide +kernel
@[simp] theorem lit_46 : Str.ofString "copy" = ofC [99, 111, 112, 121] := by decide +kernel
@[simp] theorem lit_47 : Str.ofString "list" = ofC [108, 105, 115, 116] := by decide +kernel
@[simp] theorem lit_48 : Str.ofString "" = ofC [] := by decide +kernel
@[simp] theorem lit_49 : Str.ofString "\x0a !\"#$&'()*+,-.0123456789:;<=>?@ABCDEFGHIJKLMNOPQRSTUVWXYZ[\\]^_" = ofC [10, 32, 33, 34, 35, 36, 38, 39, 40, 41, 42, 43, 44, 45, 46, 48, 49, 50, 51, 52, 53, 54, 55, 56, 57, 58, 59, 60, 61, 62, 63, 64, 65, 66, 67, 68, 69, 70, 71, 72, 73, 74, 75, 76, 77, 78, 79, 80, 81, 82, 83, 84, 85, 86, 87, 88, 89, 90, 91, 92, 93, 94, 95] := by decide +kernel
@[simp] theorem lit_50 : Str.ofString "ABCDEFGHIJKLMNOPQRSTUVWXYZ_abcdefghijklmnopqrstuvwxyz" = ofC [65, 66, 67, 68, 69, 70, 71, 72, 73, 74, 75, 76, 77, 78, 79, 80, 81, 82, 83, 84, 85, 86, 87, 88, 89, 90, 95, 97, 98, 99, 100, 101, 102, 103, 104, 105, 106, 107, 108, 109, 110, 111, 112, 113, 114, 115, 116, 117, 118, 119, 120, 121, 122] := by decide +kernel
@[simp] theorem lit_51 : Str.ofString "=" = ofC [61] := by decide +kernel
@[simp] theorem lit_52 : Str.ofString "<" = ofC [60] := by decide +kernel
@[simp] theorem lit_53 : Str.ofString ">" = ofC [62] := by decide +kernel
@[simp] theorem lit_54 : Str.ofString "-" = ofC [45] := by decide +kernel
@[simp] theorem lit_55 : Str.ofString "*" = ofC [42] := by decide +kernel
@[simp] theorem lit_56 : Str.ofString "bare" = ofC [98, 97, 114, 101] := by decide +kernel
@[simp] theorem lit_57 : Str.ofString "0" = ofC [48] := by decide +kernel
@[simp] theorem lit_58 : Str.ofString "1" = ofC [49] := by decide +kernel
@[simp] theorem lit_59 : Str.ofString "2" = ofC [50] := by decide +kernel
@[simp] theorem lit_60 : Str.ofString "plain" = ofC [112, 108, 97, 105, 110] := by decide +kernel
@[simp] theorem lit_61 : Str.ofString "name" = ofC [110, 97, 109, 101] := by decide +kernel
@[simp] theorem lit_62 : Str.ofString "sum" = ofC [115, 117, 109] := by decide +kernel
@[simp] theorem lit_63 : Str.ofString "run" = ofC [114, 117, 110] := by decide +kernel
@[simp] theorem lit_64 : Str.ofString "wide" = ofC [119, 105, 100, 101] := by decide +kernel
@[simp] theorem lit_65 : Str.ofString "mark" = ofC [109, 97, 114, 107] := by decide +kernel
@[simp] theorem lit_66 : Str.ofString "held" = ofC [104, 101, 108, 100] := by decide +kernel
@[simp] theorem lit_67 : Str.ofString "pipe" = ofC [112, 105, 112, 101] := by decide +kernel
@[simp] theorem lit_68 : Str.ofString "not" = ofC [110, 111, 116] := by decide +kernel
@[simp] theorem lit_69 : Str.ofString "<<" = ofC [60, 60] := by decide +kernel
@[simp] theorem lit_70 : Str.ofString ">&" = ofC [62, 38] := by decide +kernel
@[simp] theorem lit_71 : Str.ofString "`abcdefghijklmnopqrstuvwxyz{|}~/" = ofC [96, 97, 98, 99, 100, 101, 102, 103, 104, 105, 106, 107, 108, 109, 110, 111, 112, 113, 114, 115, 116, 117, 118, 119, 120, 121, 122, 123, 124, 125, 126, 47] := by decide +kernel
@[simp] theorem lit_72 : Str.ofString "#" = ofC [35] := by decide +kernel
@[simp] theorem lit_73 : Str.ofString "?" = ofC [63] := by decide +kernel
@[simp] theorem lit_74 : Str.ofString "@" = ofC [64] := by decide +kernel
@[simp] theorem lit_75 : Str.ofString ".." = ofC [46, 46] := by decide +kernel
@[simp] theorem lit_76 : Str.ofString "and" = ofC [97, 110, 100] := by decide +kernel
@[simp] theorem lit_77 : Str.ofString "or" = ofC [111, 114] := by decide +kernel
@[simp] theorem lit_78 : Str.ofString "each" = ofC [101, 97, 99, 104] := by decide +kernel
@[simp] theorem lit_79 : Str.ofString "." = ofC [46] := by decide +kernel
@[simp] theorem lit_80 : Str.ofString "a" = ofC [97] := by decide +kernel
@[simp] theorem lit_81 : Str.ofString "group" = ofC [103, 114, 111, 117, 112] := by decide +kernel
@[simp] theorem lit_82 : Str.ofString "apart" = ofC [97, 112, 97, 114, 116] := by decide +kernel
@[simp] theorem lit_83 : Str.ofString "\x0a" = ofC [10] := by decide +kernel
@[simp] theorem lit_84 : Str.ofString "'" = ofC [39] := by decide +kernel
@[simp] theorem lit_85 : Str.ofString ">>" = ofC [62, 62] := by decide +kernel
@[simp] theorem lit_86 : Str.ofString "b" = ofC [98] := by decide +kernel
@[simp] theorem lit_87 : Str.ofString "ab" = ofC [97, 98] := by decide +kernel
@[simp] theorem lit_88 : Str.ofString "a!" = ofC [97, 33] := by decide +kernel
@[simp] theorem lit_89 : Str.ofString "x" = ofC [120] := by decide +kernel
@[simp] theorem lit_90 : Str.ofString "f" = ofC [102] := by decide +kernel
@[simp] theorem lit_91 : Str.ofString "g" = ofC [103] := by decide +kernel
theorem lit_DIGITS : c_DIGITS = ofC [48, 49, 50, 51, 52, 53, 54, 55, 56, 57] := by decide +kernel
theorem lit_LETTERS : c_LETTERS = ofC [97, 98, 99, 100, 101, 102, 103, 104, 105, 106, 107, 108, 109, 110, 111, 112, 113, 114, 115, 116, 117, 118, 119, 120, 121, 122, 65, 66, 67, 68, 69, 70, 71, 72, 73, 74, 75, 76, 77, 78, 79, 80, 81, 82, 83, 84, 85, 86, 87, 88, 89, 90, 95] := by decide +kernel
theorem lit_NAME_SIGNS : c_NAME_SIGNS = ofC [97, 98, 99, 100, 101, 102, 103, 104, 105, 106, 107, 108, 109, 110, 111, 112, 113, 114, 115, 116, 117, 118, 119, 120, 121, 122, 65, 66, 67, 68, 69, 70, 71, 72, 73, 74, 75, 76, 77, 78, 79, 80, 81, 82, 83, 84, 85, 86, 87, 88, 89, 90, 95, 48, 49, 50, 51, 52, 53, 54, 55, 56, 57] := by decide +kernel
theorem lit_BARE : c_BARE = ofC [97, 98, 99, 100, 101, 102, 103, 104, 105, 106, 107, 108, 109, 110, 111, 112, 113, 114, 115, 116, 117, 118, 119, 120, 121, 122, 65, 66, 67, 68, 69, 70, 71, 72, 73, 74, 75, 76, 77, 78, 79, 80, 81, 82, 83, 84, 85, 86, 87, 88, 89, 90, 48, 49, 50, 51, 52, 53, 54, 55, 56, 57, 46, 47, 95, 45, 44, 58, 43, 64, 61, 42, 63, 91, 93, 33, 126] := by decide +kernel
theorem lit_SIGNS : c_SIGNS = ofC [10, 32, 33, 34, 35, 36, 38, 39, 40, 41, 42, 43, 44, 45, 46, 47, 48, 49, 50, 51, 52, 53, 54, 55, 56, 57, 58, 59, 60, 61, 62, 63, 64, 65, 66, 67, 68, 69, 70, 71, 72, 73, 74, 75, 76, 77, 78, 79, 80, 81, 82, 83, 84, 85, 86, 87, 88, 89, 90, 91, 92, 93, 94, 95, 96, 97, 98, 99, 100, 101, 102, 103, 104, 105, 106, 107, 108, 109, 110, 111, 112, 113, 114, 115, 116, 117, 118, 119, 120, 121, 122, 123, 124, 125, 126] := by decide +kernel
theorem lit_TOP : c_TOP = ofC [47] := by decide +kernel
/-! ### the chain -/
structure DfT (K : PySem.W.Frag) (mg : Str → Option Value) : Prop where
  d__law_same : DefAt K mg "_law_same" s__law_same
  d__law_draw : DefAt K mg "_law_draw" s__law_draw
  d__law_signs : DefAt K mg "_law_signs" s__law_signs
  d__law_text : DefAt K mg "_law_text" s__law_text
  d__law_function : DefAt K mg "_law_function" s__law_function
  d__law_name : DefAt K mg "_law_name" s__law_name
  d__law_folders : DefAt K mg "_law_folders" s__law_folders
  d__law_joined : DefAt K mg "_law_joined" s__law_joined
  d__law_part : DefAt K mg "_law_part" s__law_part
  d__law_files : DefAt K mg "_law_files" s__law_files
  d__law_world : DefAt K mg "_law_world" s__law_world
  d__law_deck : DefAt K mg "_law_deck" s__law_deck
  d_said_path : DefAt K mg "said_path" s_said_path
  d_has_signs : DefAt K mg "has_signs" s_has_signs
  d_is_name : DefAt K mg "is_name" s_is_name
  d_is_text : DefAt K mg "is_text" s_is_text
  d_is_sum : DefAt K mg "is_sum" s_is_sum
  d_is_place : DefAt K mg "is_place" s_is_place
  d_is_name_or_place : DefAt K mg "is_name_or_place" s_is_name_or_place
  d_may_be_done : DefAt K mg "may_be_done" s_may_be_done
  d_is_tagged : DefAt K mg "is_tagged" s_is_tagged
  d_is_integer : DefAt K mg "is_integer" s_is_integer
  d_may_name_function : DefAt K mg "may_name_function" s_may_name_function
  d_begins_set : DefAt K mg "begins_set" s_begins_set
  d_is_script : DefAt K mg "is_script" s_is_script
  d_is_command : DefAt K mg "is_command" s_is_command
  d_is_compound : DefAt K mg "is_compound" s_is_compound
  d_is_word : DefAt K mg "is_word" s_is_word
  d_are_pieces : DefAt K mg "are_pieces" s_are_pieces
  d_is_piece : DefAt K mg "is_piece" s_is_piece
  d_are_cases : DefAt K mg "are_cases" s_are_cases
  d_are_words : DefAt K mg "are_words" s_are_words
  d_is_body : DefAt K mg "is_body" s_is_body
  d_are_arms : DefAt K mg "are_arms" s_are_arms
  d_are_turns : DefAt K mg "are_turns" s_are_turns
  d_is_turn : DefAt K mg "is_turn" s_is_turn
  d_is_here_text : DefAt K mg "is_here_text" s_is_here_text
  d_is_joint : DefAt K mg "is_joint" s_is_joint
  d_is_do : DefAt K mg "is_do" s_is_do
  d_functions_stand : DefAt K mg "functions_stand" s_functions_stand
  d_names_stand : DefAt K mg "names_stand" s_names_stand
  d_texts_alone : DefAt K mg "texts_alone" s_texts_alone
  d_is_folder : DefAt K mg "is_folder" s_is_folder
  d_folder_of : DefAt K mg "folder_of" s_folder_of
  d_is_path : DefAt K mg "is_path" s_is_path
  d_stands : DefAt K mg "stands" s_stands
  d_is_world : DefAt K mg "is_world" s_is_world
  d_asked : DefAt K mg "asked" s_asked
  d_path_of : DefAt K mg "path_of" s_path_of
  d__law_said : DefAt K mg "_law_said" s__law_said
  d__law_pieces : DefAt K mg "_law_pieces" s__law_pieces
  d__law_right : DefAt K mg "_law_right" s__law_right
  d_law : DefAt K mg "law" s_law
section
variable {P : Program} {w : World} {K : PySem.W.Frag} {mg : Str → Option Value} {base : Heap}
noncomputable def G__law_same : Nat → Fn
  | 0 => fun _ _ => .bad
  | n + 1 => runBody 4 2 (b__law_same (G__law_same n))
theorem cals__law_same (Bl : BlT mg) (Gs : GsT K mg) (D : DfT K mg) : ∀ n, CalF P w K mg base (0 + n) "_law_same" s__law_same ["_law_found", "_law_due"] (G__law_same n)
  | 0 => (calF_none D.d__law_same (fun _ _ _ _ _ _ us hl => match us, hl with | [_, _], _ => rfl))
  | n + 1 => by
    obtain c__law_same := cals__law_same Bl Gs D n
    exact (ok__law_same Bl Gs D.d__law_same c__law_same)
theorem cal__law_same (Bl : BlT mg) (Gs : GsT K mg) (D : DfT K mg) (n : Nat) : CalF P w K mg base (0 + n) "_law_same" s__law_same ["_law_found", "_law_due"] (G__law_same n) := cals__law_same Bl Gs D n
noncomputable def G__law_draw : Fn := runBody 3 2 (b__law_draw)
theorem cal__law_draw (Bl : BlT mg) (Gs : GsT K mg) (D : DfT K mg) : CalF P w K mg base 1 "_law_draw" s__law_draw ["_law_deck_here", "_law_many"] G__law_draw := ok__law_draw Bl Gs D.d__law_draw (k := 0)
noncomputable def G__law_signs : Fn := runBody 1 0 (b__law_signs)
theorem cal__law_signs (Bl : BlT mg) (Gs : GsT K mg) (D : DfT K mg) : CalF P w K mg base 1 "_law_signs" s__law_signs [] G__law_signs := ok__law_signs Bl Gs D.d__law_signs (k := 0)
noncomputable def G__law_text : Fn := runBody 3 2 (b__law_text G__law_draw G__law_signs)
theorem cal__law_text (Bl : BlT mg) (Gs : GsT K mg) (D : DfT K mg) : CalF P w K mg base 2 "_law_text" s__law_text ["_law_deck_here", "_law_most"] G__law_text := ok__law_text Bl Gs D.d__law_text ((cal__law_draw Bl Gs D).mono (by decide)) ((cal__law_signs Bl Gs D).mono (by decide))
noncomputable def G__law_function : Fn := runBody 6 1 (b__law_function G__law_draw)
theorem cal__law_function (Bl : BlT mg) (Gs : GsT K mg) (D : DfT K mg) : CalF P w K mg base 2 "_law_function" s__law_function ["_law_deck_here"] G__law_function := ok__law_function Bl Gs D.d__law_function ((cal__law_draw Bl Gs D).mono (by decide))
noncomputable def G__law_name : Fn := runBody 4 1 (b__law_name G__law_draw)
theorem cal__law_name (Bl : BlT mg) (Gs : GsT K mg) (D : DfT K mg) : CalF P w K mg base 2 "_law_name" s__law_name ["_law_deck_here"] G__law_name := ok__law_name Bl Gs D.d__law_name ((cal__law_draw Bl Gs D).mono (by decide))
noncomputable def G__law_folders : Fn := runBody 2 1 (b__law_folders)
theorem cal__law_folders (Bl : BlT mg) (Gs : GsT K mg) (D : DfT K mg) : CalF P w K mg base 1 "_law_folders" s__law_folders ["_law_files_here"] G__law_folders := ok__law_folders Bl Gs D.d__law_folders (k := 0)
noncomputable def G__law_joined : Fn := runBody 2 2 (b__law_joined)
theorem cal__law_joined (Bl : BlT mg) (Gs : GsT K mg) (D : DfT K mg) : CalF P w K mg base 1 "_law_joined" s__law_joined ["_law_folder", "_law_part_here"] G__law_joined := ok__law_joined Bl Gs D.d__law_joined (k := 0)
noncomputable def G__law_part : Fn := runBody 3 1 (b__law_part G__law_draw G__law_signs)
theorem cal__law_part (Bl : BlT mg) (Gs : GsT K mg) (D : DfT K mg) : CalF P w K mg base 2 "_law_part" s__law_part ["_law_deck_here"] G__law_part := ok__law_part Bl Gs D.d__law_part ((cal__law_draw Bl Gs D).mono (by decide)) ((cal__law_signs Bl Gs D).mono (by decide))
noncomputable def G__law_files : Fn := runBody 6 2 (b__law_files G__law_draw G__law_text G__law_joined G__law_part G__law_folders)
theorem cal__law_files (Bl : BlT mg) (Gs : GsT K mg) (D : DfT K mg) : CalF P w K mg base 3 "_law_files" s__law_files ["_law_deck_here", "_law_most"] G__law_files := ok__law_files Bl Gs D.d__law_files ((cal__law_draw Bl Gs D).mono (by decide)) ((cal__law_text Bl Gs D).mono (by decide)) ((cal__law_joined Bl Gs D).mono (by decide)) ((cal__law_part Bl Gs D).mono (by decide)) ((cal__law_folders Bl Gs D).mono (by decide))
noncomputable def G__law_world : Fn := runBody 10 2 (b__law_world G__law_draw G__law_text G__law_function G__law_name G__law_folders G__law_files)
theorem cal__law_world (Bl : BlT mg) (Gs : GsT K mg) (D : DfT K mg) : CalF P w K mg base 4 "_law_world" s__law_world ["_law_deck_here", "_law_most"] G__law_world := ok__law_world Bl Gs D.d__law_world ((cal__law_draw Bl Gs D).mono (by decide)) ((cal__law_text Bl Gs D).mono (by decide)) ((cal__law_function Bl Gs D).mono (by decide)) ((cal__law_name Bl Gs D).mono (by decide)) ((cal__law_folders Bl Gs D).mono (by decide)) ((cal__law_files Bl Gs D).mono (by decide))
noncomputable def G__law_deck : Fn := runBody 4 1 (b__law_deck)
theorem cal__law_deck (Bl : BlT mg) (Gs : GsT K mg) (D : DfT K mg) : CalF P w K mg base 1 "_law_deck" s__law_deck ["_law_cell_here"] G__law_deck := ok__law_deck Bl Gs D.d__law_deck (k := 0)
noncomputable def G_said_path : Fn := runBody 4 2 (b_said_path)
theorem cal_said_path (Bl : BlT mg) (Gs : GsT K mg) (D : DfT K mg) : CalF P w K mg base 1 "said_path" s_said_path ["folder", "text"] G_said_path := ok_said_path Bl Gs D.d_said_path (k := 0)
noncomputable def G_has_signs : Fn := runBody 3 2 (b_has_signs)
theorem cal_has_signs (Bl : BlT mg) (Gs : GsT K mg) (D : DfT K mg) : CalF P w K mg base 1 "has_signs" s_has_signs ["text", "signs"] G_has_signs := ok_has_signs Bl Gs D.d_has_signs (k := 0)
noncomputable def G_is_name : Fn := runBody 1 1 (b_is_name G_has_signs)
theorem cal_is_name (Bl : BlT mg) (Gs : GsT K mg) (D : DfT K mg) : CalF P w K mg base 2 "is_name" s_is_name ["thing"] G_is_name := ok_is_name Bl Gs D.d_is_name ((cal_has_signs Bl Gs D).mono (by decide))
noncomputable def G_is_text : Fn := runBody 1 1 (b_is_text G_has_signs)
theorem cal_is_text (Bl : BlT mg) (Gs : GsT K mg) (D : DfT K mg) : CalF P w K mg base 2 "is_text" s_is_text ["thing"] G_is_text := ok_is_text Bl Gs D.d_is_text ((cal_has_signs Bl Gs D).mono (by decide))
noncomputable def G_is_sum : Fn := runBody 3 1 (b_is_sum)
theorem cal_is_sum (Bl : BlT mg) (Gs : GsT K mg) (D : DfT K mg) : CalF P w K mg base 1 "is_sum" s_is_sum ["tree"] G_is_sum := ok_is_sum Bl Gs D.d_is_sum (k := 0)
noncomputable def G_is_place : Fn := runBody 1 1 (b_is_place G_has_signs)
theorem cal_is_place (Bl : BlT mg) (Gs : GsT K mg) (D : DfT K mg) : CalF P w K mg base 2 "is_place" s_is_place ["thing"] G_is_place := ok_is_place Bl Gs D.d_is_place ((cal_has_signs Bl Gs D).mono (by decide))
noncomputable def G_is_name_or_place : Fn := runBody 1 1 (b_is_name_or_place G_is_name G_is_place)
theorem cal_is_name_or_place (Bl : BlT mg) (Gs : GsT K mg) (D : DfT K mg) : CalF P w K mg base 3 "is_name_or_place" s_is_name_or_place ["thing"] G_is_name_or_place := ok_is_name_or_place Bl Gs D.d_is_name_or_place ((cal_is_name Bl Gs D).mono (by decide)) ((cal_is_place Bl Gs D).mono (by decide))
noncomputable def G_may_be_done : Fn := runBody 3 2 (b_may_be_done)
theorem cal_may_be_done (Bl : BlT mg) (Gs : GsT K mg) (D : DfT K mg) : CalF P w K mg base 1 "may_be_done" s_may_be_done ["name", "deed"] G_may_be_done := ok_may_be_done Bl Gs D.d_may_be_done (k := 0)
noncomputable def G_is_tagged : Fn := runBody 1 1 (b_is_tagged)
theorem cal_is_tagged (Bl : BlT mg) (Gs : GsT K mg) (D : DfT K mg) : CalF P w K mg base 1 "is_tagged" s_is_tagged ["tree"] G_is_tagged := ok_is_tagged Bl Gs D.d_is_tagged (k := 0)
noncomputable def G_is_integer : Fn := runBody 1 1 (b_is_integer)
theorem cal_is_integer (Bl : BlT mg) (Gs : GsT K mg) (D : DfT K mg) : CalF P w K mg base 1 "is_integer" s_is_integer ["thing"] G_is_integer := ok_is_integer Bl Gs D.d_is_integer (k := 0)
noncomputable def G_may_name_function : Fn := runBody 1 1 (b_may_name_function G_is_name)
theorem cal_may_name_function (Bl : BlT mg) (Gs : GsT K mg) (D : DfT K mg) : CalF P w K mg base 3 "may_name_function" s_may_name_function ["thing"] G_may_name_function := ok_may_name_function Bl Gs D.d_may_name_function ((cal_is_name Bl Gs D).mono (by decide))
noncomputable def G_begins_set : Fn := runBody 4 1 (b_begins_set G_is_name)
theorem cal_begins_set (Bl : BlT mg) (Gs : GsT K mg) (D : DfT K mg) : CalF P w K mg base 3 "begins_set" s_begins_set ["text"] G_begins_set := ok_begins_set Bl Gs D.d_begins_set ((cal_is_name Bl Gs D).mono (by decide))
mutual
noncomputable def G_is_script : Nat → Fn
  | 0 => fun _ _ => .bad
  | n + 1 => runBody 2 1 (b_is_script (G_is_command n))
noncomputable def G_is_command : Nat → Fn
  | 0 => fun _ _ => .bad
  | n + 1 => runBody 1 1 (b_is_command (G_is_compound n) (G_is_joint n) (G_is_do n) G_is_tagged)
noncomputable def G_is_compound : Nat → Fn
  | 0 => fun _ _ => .bad
  | n + 1 => runBody 1 1 (b_is_compound (G_is_word n) (G_are_cases n) G_is_name (G_are_words n) (G_is_body n) (G_are_arms n) (G_are_turns n))
noncomputable def G_is_word : Nat → Fn
  | 0 => fun _ _ => .bad
  | n + 1 => runBody 1 1 (b_is_word (G_are_pieces n))
noncomputable def G_are_pieces : Nat → Fn
  | 0 => fun _ _ => .bad
  | n + 1 => runBody 5 2 (b_are_pieces (G_is_piece n))
noncomputable def G_is_piece : Nat → Fn
  | 0 => fun _ _ => .bad
  | n + 1 => runBody 2 2 (b_is_piece G_has_signs G_is_text (G_are_pieces n) (G_is_script n) G_is_sum G_is_name_or_place G_may_be_done G_is_tagged)
noncomputable def G_are_cases : Nat → Fn
  | 0 => fun _ _ => .bad
  | n + 1 => runBody 2 1 (b_are_cases (G_are_words n) (G_is_script n))
noncomputable def G_are_words : Nat → Fn
  | 0 => fun _ _ => .bad
  | n + 1 => runBody 2 1 (b_are_words (G_is_word n))
noncomputable def G_is_body : Nat → Fn
  | 0 => fun _ _ => .bad
  | n + 1 => runBody 1 1 (b_is_body (G_is_script n))
noncomputable def G_are_arms : Nat → Fn
  | 0 => fun _ _ => .bad
  | n + 1 => runBody 2 1 (b_are_arms (G_is_body n))
noncomputable def G_are_turns : Nat → Fn
  | 0 => fun _ _ => .bad
  | n + 1 => runBody 2 1 (b_are_turns (G_is_turn n))
noncomputable def G_is_turn : Nat → Fn
  | 0 => fun _ _ => .bad
  | n + 1 => runBody 1 1 (b_is_turn (G_is_word n) (G_is_here_text n) G_is_integer)
noncomputable def G_is_here_text : Nat → Fn
  | 0 => fun _ _ => .bad
  | n + 1 => runBody 3 1 (b_is_here_text (G_are_pieces n) G_is_text G_is_tagged)
noncomputable def G_is_joint : Nat → Fn
  | 0 => fun _ _ => .bad
  | n + 1 => runBody 2 1 (b_is_joint (G_is_command n) (G_is_script n) G_may_name_function G_is_tagged (G_is_compound n))
noncomputable def G_is_do : Nat → Fn
  | 0 => fun _ _ => .bad
  | n + 1 => runBody 5 3 (b_is_do G_begins_set G_is_name (G_are_pieces n) (G_are_words n) (G_are_turns n))
end
theorem cals_is_script (Bl : BlT mg) (Gs : GsT K mg) (D : DfT K mg) : ∀ n, CalF P w K mg base (3 + n) "is_script" s_is_script ["tree"] (G_is_script n) ∧ CalF P w K mg base (3 + n) "is_command" s_is_command ["tree"] (G_is_command n) ∧ CalF P w K mg base (3 + n) "is_compound" s_is_compound ["tree"] (G_is_compound n) ∧ CalF P w K mg base (3 + n) "is_word" s_is_word ["tree"] (G_is_word n) ∧ CalF P w K mg base (3 + n) "are_pieces" s_are_pieces ["tree", "inside"] (G_are_pieces n) ∧ CalF P w K mg base (3 + n) "is_piece" s_is_piece ["piece", "inside"] (G_is_piece n) ∧ CalF P w K mg base (3 + n) "are_cases" s_are_cases ["tree"] (G_are_cases n) ∧ CalF P w K mg base (3 + n) "are_words" s_are_words ["trees"] (G_are_words n) ∧ CalF P w K mg base (3 + n) "is_body" s_is_body ["tree"] (G_is_body n) ∧ CalF P w K mg base (3 + n) "are_arms" s_are_arms ["tree"] (G_are_arms n) ∧ CalF P w K mg base (3 + n) "are_turns" s_are_turns ["tree"] (G_are_turns n) ∧ CalF P w K mg base (3 + n) "is_turn" s_is_turn ["turn"] (G_is_turn n) ∧ CalF P w K mg base (3 + n) "is_here_text" s_is_here_text ["tree"] (G_is_here_text n) ∧ CalF P w K mg base (3 + n) "is_joint" s_is_joint ["tree"] (G_is_joint n) ∧ CalF P w K mg base (3 + n) "is_do" s_is_do ["sets", "words", "turns"] (G_is_do n)
  | 0 => ⟨(calF_none D.d_is_script (fun _ _ _ _ _ _ us hl => match us, hl with | [_], _ => rfl)), (calF_none D.d_is_command (fun _ _ _ _ _ _ us hl => match us, hl with | [_], _ => rfl)), (calF_none D.d_is_compound (fun _ _ _ _ _ _ us hl => match us, hl with | [_], _ => rfl)), (calF_none D.d_is_word (fun _ _ _ _ _ _ us hl => match us, hl with | [_], _ => rfl)), (calF_none D.d_are_pieces (fun _ _ _ _ _ _ us hl => match us, hl with | [_, _], _ => rfl)), (calF_none D.d_is_piece (fun _ _ _ _ _ _ us hl => match us, hl with | [_, _], _ => rfl)), (calF_none D.d_are_cases (fun _ _ _ _ _ _ us hl => match us, hl with | [_], _ => rfl)), (calF_none D.d_are_words (fun _ _ _ _ _ _ us hl => match us, hl with | [_], _ => rfl)), (calF_none D.d_is_body (fun _ _ _ _ _ _ us hl => match us, hl with | [_], _ => rfl)), (calF_none D.d_are_arms (fun _ _ _ _ _ _ us hl => match us, hl with | [_], _ => rfl)), (calF_none D.d_are_turns (fun _ _ _ _ _ _ us hl => match us, hl with | [_], _ => rfl)), (calF_none D.d_is_turn (fun _ _ _ _ _ _ us hl => match us, hl with | [_], _ => rfl)), (calF_none D.d_is_here_text (fun _ _ _ _ _ _ us hl => match us, hl with | [_], _ => rfl)), (calF_none D.d_is_joint (fun _ _ _ _ _ _ us hl => match us, hl with | [_], _ => rfl)), (calF_none D.d_is_do (fun _ _ _ _ _ _ us hl => match us, hl with | [_, _, _], _ => rfl))⟩
  | n + 1 => by
    obtain ⟨c_is_script, c_is_command, c_is_compound, c_is_word, c_are_pieces, c_is_piece, c_are_cases, c_are_words, c_is_body, c_are_arms, c_are_turns, c_is_turn, c_is_here_text, c_is_joint, c_is_do⟩ := cals_is_script Bl Gs D n
    exact ⟨(ok_is_script Bl Gs D.d_is_script c_is_command), (ok_is_command Bl Gs D.d_is_command c_is_compound c_is_joint c_is_do ((cal_is_tagged Bl Gs D).mono (Nat.le_trans (by decide : 1 ≤ 3) (Nat.le_add_right _ _)))), (ok_is_compound Bl Gs D.d_is_compound c_is_word c_are_cases ((cal_is_name Bl Gs D).mono (Nat.le_trans (by decide : 2 ≤ 3) (Nat.le_add_right _ _))) c_are_words c_is_body c_are_arms c_are_turns), (ok_is_word Bl Gs D.d_is_word c_are_pieces), (ok_are_pieces Bl Gs D.d_are_pieces c_is_piece), (ok_is_piece Bl Gs D.d_is_piece ((cal_has_signs Bl Gs D).mono (Nat.le_trans (by decide : 1 ≤ 3) (Nat.le_add_right _ _))) ((cal_is_text Bl Gs D).mono (Nat.le_trans (by decide : 2 ≤ 3) (Nat.le_add_right _ _))) c_are_pieces c_is_script ((cal_is_sum Bl Gs D).mono (Nat.le_trans (by decide : 1 ≤ 3) (Nat.le_add_right _ _))) ((cal_is_name_or_place Bl Gs D).mono (Nat.le_trans (by decide : 3 ≤ 3) (Nat.le_add_right _ _))) ((cal_may_be_done Bl Gs D).mono (Nat.le_trans (by decide : 1 ≤ 3) (Nat.le_add_right _ _))) ((cal_is_tagged Bl Gs D).mono (Nat.le_trans (by decide : 1 ≤ 3) (Nat.le_add_right _ _)))), (ok_are_cases Bl Gs D.d_are_cases c_are_words c_is_script), (ok_are_words Bl Gs D.d_are_words c_is_word), (ok_is_body Bl Gs D.d_is_body c_is_script), (ok_are_arms Bl Gs D.d_are_arms c_is_body), (ok_are_turns Bl Gs D.d_are_turns c_is_turn), (ok_is_turn Bl Gs D.d_is_turn c_is_word c_is_here_text ((cal_is_integer Bl Gs D).mono (Nat.le_trans (by decide : 1 ≤ 3) (Nat.le_add_right _ _)))), (ok_is_here_text Bl Gs D.d_is_here_text c_are_pieces ((cal_is_text Bl Gs D).mono (Nat.le_trans (by decide : 2 ≤ 3) (Nat.le_add_right _ _))) ((cal_is_tagged Bl Gs D).mono (Nat.le_trans (by decide : 1 ≤ 3) (Nat.le_add_right _ _)))), (ok_is_joint Bl Gs D.d_is_joint c_is_command c_is_script ((cal_may_name_function Bl Gs D).mono (Nat.le_trans (by decide : 3 ≤ 3) (Nat.le_add_right _ _))) ((cal_is_tagged Bl Gs D).mono (Nat.le_trans (by decide : 1 ≤ 3) (Nat.le_add_right _ _))) c_is_compound), (ok_is_do Bl Gs D.d_is_do ((cal_begins_set Bl Gs D).mono (Nat.le_trans (by decide : 3 ≤ 3) (Nat.le_add_right _ _))) ((cal_is_name Bl Gs D).mono (Nat.le_trans (by decide : 2 ≤ 3) (Nat.le_add_right _ _))) c_are_pieces c_are_words c_are_turns)⟩
theorem cal_is_script (Bl : BlT mg) (Gs : GsT K mg) (D : DfT K mg) (n : Nat) : CalF P w K mg base (3 + n) "is_script" s_is_script ["tree"] (G_is_script n) := (cals_is_script Bl Gs D n).1
theorem cal_is_command (Bl : BlT mg) (Gs : GsT K mg) (D : DfT K mg) (n : Nat) : CalF P w K mg base (3 + n) "is_command" s_is_command ["tree"] (G_is_command n) := (cals_is_script Bl Gs D n).2.1
theorem cal_is_compound (Bl : BlT mg) (Gs : GsT K mg) (D : DfT K mg) (n : Nat) : CalF P w K mg base (3 + n) "is_compound" s_is_compound ["tree"] (G_is_compound n) := (cals_is_script Bl Gs D n).2.2.1
theorem cal_is_word (Bl : BlT mg) (Gs : GsT K mg) (D : DfT K mg) (n : Nat) : CalF P w K mg base (3 + n) "is_word" s_is_word ["tree"] (G_is_word n) := (cals_is_script Bl Gs D n).2.2.2.1
theorem cal_are_pieces (Bl : BlT mg) (Gs : GsT K mg) (D : DfT K mg) (n : Nat) : CalF P w K mg base (3 + n) "are_pieces" s_are_pieces ["tree", "inside"] (G_are_pieces n) := (cals_is_script Bl Gs D n).2.2.2.2.1
theorem cal_is_piece (Bl : BlT mg) (Gs : GsT K mg) (D : DfT K mg) (n : Nat) : CalF P w K mg base (3 + n) "is_piece" s_is_piece ["piece", "inside"] (G_is_piece n) := (cals_is_script Bl Gs D n).2.2.2.2.2.1
theorem cal_are_cases (Bl : BlT mg) (Gs : GsT K mg) (D : DfT K mg) (n : Nat) : CalF P w K mg base (3 + n) "are_cases" s_are_cases ["tree"] (G_are_cases n) := (cals_is_script Bl Gs D n).2.2.2.2.2.2.1
theorem cal_are_words (Bl : BlT mg) (Gs : GsT K mg) (D : DfT K mg) (n : Nat) : CalF P w K mg base (3 + n) "are_words" s_are_words ["trees"] (G_are_words n) := (cals_is_script Bl Gs D n).2.2.2.2.2.2.2.1
theorem cal_is_body (Bl : BlT mg) (Gs : GsT K mg) (D : DfT K mg) (n : Nat) : CalF P w K mg base (3 + n) "is_body" s_is_body ["tree"] (G_is_body n) := (cals_is_script Bl Gs D n).2.2.2.2.2.2.2.2.1
theorem cal_are_arms (Bl : BlT mg) (Gs : GsT K mg) (D : DfT K mg) (n : Nat) : CalF P w K mg base (3 + n) "are_arms" s_are_arms ["tree"] (G_are_arms n) := (cals_is_script Bl Gs D n).2.2.2.2.2.2.2.2.2.1
theorem cal_are_turns (Bl : BlT mg) (Gs : GsT K mg) (D : DfT K mg) (n : Nat) : CalF P w K mg base (3 + n) "are_turns" s_are_turns ["tree"] (G_are_turns n) := (cals_is_script Bl Gs D n).2.2.2.2.2.2.2.2.2.2.1
theorem cal_is_turn (Bl : BlT mg) (Gs : GsT K mg) (D : DfT K mg) (n : Nat) : CalF P w K mg base (3 + n) "is_turn" s_is_turn ["turn"] (G_is_turn n) := (cals_is_script Bl Gs D n).2.2.2.2.2.2.2.2.2.2.2.1
theorem cal_is_here_text (Bl : BlT mg) (Gs : GsT K mg) (D : DfT K mg) (n : Nat) : CalF P w K mg base (3 + n) "is_here_text" s_is_here_text ["tree"] (G_is_here_text n) := (cals_is_script Bl Gs D n).2.2.2.2.2.2.2.2.2.2.2.2.1
theorem cal_is_joint (Bl : BlT mg) (Gs : GsT K mg) (D : DfT K mg) (n : Nat) : CalF P w K mg base (3 + n) "is_joint" s_is_joint ["tree"] (G_is_joint n) := (cals_is_script Bl Gs D n).2.2.2.2.2.2.2.2.2.2.2.2.2.1
theorem cal_is_do (Bl : BlT mg) (Gs : GsT K mg) (D : DfT K mg) (n : Nat) : CalF P w K mg base (3 + n) "is_do" s_is_do ["sets", "words", "turns"] (G_is_do n) := (cals_is_script Bl Gs D n).2.2.2.2.2.2.2.2.2.2.2.2.2.2
noncomputable def G_functions_stand : Fn := runBody 2 1 (b_functions_stand G_is_name (G_is_script 24))
theorem cal_functions_stand (Bl : BlT mg) (Gs : GsT K mg) (D : DfT K mg) : CalF P w K mg base 28 "functions_stand" s_functions_stand ["functions"] G_functions_stand := ok_functions_stand Bl Gs D.d_functions_stand ((cal_is_name Bl Gs D).mono (by decide)) ((cal_is_script Bl Gs D 24).mono (by decide))
noncomputable def G_names_stand : Fn := runBody 2 1 (b_names_stand G_is_name)
theorem cal_names_stand (Bl : BlT mg) (Gs : GsT K mg) (D : DfT K mg) : CalF P w K mg base 3 "names_stand" s_names_stand ["names"] G_names_stand := ok_names_stand Bl Gs D.d_names_stand ((cal_is_name Bl Gs D).mono (by decide))
noncomputable def G_texts_alone : Fn := runBody 2 1 (b_texts_alone)
theorem cal_texts_alone (Bl : BlT mg) (Gs : GsT K mg) (D : DfT K mg) : CalF P w K mg base 1 "texts_alone" s_texts_alone ["things"] G_texts_alone := ok_texts_alone Bl Gs D.d_texts_alone (k := 0)
noncomputable def G_is_folder : Fn := runBody 2 2 (b_is_folder)
theorem cal_is_folder (Bl : BlT mg) (Gs : GsT K mg) (D : DfT K mg) : CalF P w K mg base 1 "is_folder" s_is_folder ["files", "path"] G_is_folder := ok_is_folder Bl Gs D.d_is_folder (k := 0)
noncomputable def G_folder_of : Fn := runBody 2 1 (b_folder_of)
theorem cal_folder_of (Bl : BlT mg) (Gs : GsT K mg) (D : DfT K mg) : CalF P w K mg base 1 "folder_of" s_folder_of ["path"] G_folder_of := ok_folder_of Bl Gs D.d_folder_of (k := 0)
noncomputable def G_is_path : Fn := runBody 2 1 (b_is_path)
theorem cal_is_path (Bl : BlT mg) (Gs : GsT K mg) (D : DfT K mg) : CalF P w K mg base 1 "is_path" s_is_path ["text"] G_is_path := ok_is_path Bl Gs D.d_is_path (k := 0)
noncomputable def G_stands : Fn := runBody 3 1 (b_stands G_is_folder G_folder_of G_is_path)
theorem cal_stands (Bl : BlT mg) (Gs : GsT K mg) (D : DfT K mg) : CalF P w K mg base 2 "stands" s_stands ["files"] G_stands := ok_stands Bl Gs D.d_stands ((cal_is_folder Bl Gs D).mono (by decide)) ((cal_folder_of Bl Gs D).mono (by decide)) ((cal_is_path Bl Gs D).mono (by decide))
noncomputable def G_is_world : Fn := runBody 8 1 (b_is_world G_functions_stand G_names_stand G_texts_alone G_stands G_is_folder)
theorem cal_is_world (Bl : BlT mg) (Gs : GsT K mg) (D : DfT K mg) : CalF P w K mg base 29 "is_world" s_is_world ["world"] G_is_world := ok_is_world Bl Gs D.d_is_world ((cal_functions_stand Bl Gs D).mono (by decide)) ((cal_names_stand Bl Gs D).mono (by decide)) ((cal_texts_alone Bl Gs D).mono (by decide)) ((cal_stands Bl Gs D).mono (by decide)) ((cal_is_folder Bl Gs D).mono (by decide))
noncomputable def G_asked : Fn := runBody 1 1 (b_asked G_is_world)
theorem cal_asked (Bl : BlT mg) (Gs : GsT K mg) (D : DfT K mg) : CalF P w K mg base 30 "asked" s_asked ["world"] G_asked := ok_asked Bl Gs D.d_asked ((cal_is_world Bl Gs D).mono (by decide))
noncomputable def G_path_of : Fn := runBody 2 2 (b_path_of G_said_path G_asked)
theorem cal_path_of (Bl : BlT mg) (Gs : GsT K mg) (D : DfT K mg) : CalF P w K mg base 31 "path_of" s_path_of ["world", "text"] G_path_of := ok_path_of Bl Gs D.d_path_of ((cal_said_path Bl Gs D).mono (by decide)) ((cal_asked Bl Gs D).mono (by decide))
noncomputable def G__law_said : Fn := runBody 6 2 (b__law_said)
theorem cal__law_said (Bl : BlT mg) (Gs : GsT K mg) (D : DfT K mg) : CalF P w K mg base 1 "_law_said" s__law_said ["_law_folder", "_law_line"] G__law_said := ok__law_said Bl Gs D.d__law_said (k := 0)
noncomputable def G__law_pieces : Fn := runBody 6 2 (b__law_pieces G__law_draw G__law_part)
theorem cal__law_pieces (Bl : BlT mg) (Gs : GsT K mg) (D : DfT K mg) : CalF P w K mg base 3 "_law_pieces" s__law_pieces ["_law_deck_here", "_law_files_here"] G__law_pieces := ok__law_pieces Bl Gs D.d__law_pieces ((cal__law_draw Bl Gs D).mono (by decide)) ((cal__law_part Bl Gs D).mono (by decide))
noncomputable def G__law_right : Fn := runBody 11 1 (b__law_right (G__law_same 12) G__law_world G__law_draw G__law_deck G_path_of G__law_said G__law_folders G__law_pieces)
theorem cal__law_right (Bl : BlT mg) (Gs : GsT K mg) (D : DfT K mg) : CalF P w K mg base 32 "_law_right" s__law_right ["_law_cell_here"] G__law_right := ok__law_right Bl Gs D.d__law_right ((cal__law_same Bl Gs D 12).mono (by decide)) ((cal__law_world Bl Gs D).mono (by decide)) ((cal__law_draw Bl Gs D).mono (by decide)) ((cal__law_deck Bl Gs D).mono (by decide)) ((cal_path_of Bl Gs D).mono (by decide)) ((cal__law_said Bl Gs D).mono (by decide)) ((cal__law_folders Bl Gs D).mono (by decide)) ((cal__law_pieces Bl Gs D).mono (by decide))
noncomputable def G_law : Fn := runBody 2 1 (b_law G__law_right)
theorem cal_law (Bl : BlT mg) (Gs : GsT K mg) (D : DfT K mg) : CalF P w K mg base 33 "law" s_law ["_law_script"] G_law := ok_law Bl Gs D.d_law ((cal__law_right Bl Gs D).mono (by decide))
/-! ### the end -/
theorem all_mk {l : PySem.W.OpenLaw} {w : World} {K : PySem.W.Frag} {h : Heap} {mg : Str → Option Value} {fa f0 f1 f2 f3 f4 f5 f6 f7 f8 f9 f10 f11 f12 f13 f14 f15 f16 f17 f18 f19 f20 f21 f22 f23 f24 f25 f26 f27 f28 f29 f30 f31 f32 f33 f34 f35 f36 f37 f38 f39 f40 f41 f42 f43 f44 f45 f46 f47 f48 f49 f50 f51 f52 : Addr} (X : K.In h) (G : h.Ns mainGlobals mg) (hfa : mg "law" = some (.ref fa)) {od0 an0 od1 an1 od2 an2 od3 an3 od4 an4 od5 an5 od6 an6 od7 an7 od8 an8 od9 an9 od10 an10 od11 an11 od12 an12 od13 an13 od14 an14 od15 an15 od16 an16 od17 an17 od18 an18 od19 an19 od20 an20 od21 an21 od22 an22 od23 an23 od24 an24 od25 an25 od26 an26 od27 an27 od28 an28 od29 an29 od30 an30 od31 an31 od32 an32 od33 an33 od34 an34 od35 an35 od36 an36 od37 an37 od38 an38 od39 an39 od40 an40 od41 an41 od42 an42 od43 an43 od44 an44 od45 an45 od46 an46 od47 an47 od48 an48 od49 an49 od50 an50 od51 an51 od52 an52 : Option Addr} {sl0 sl1 sl2 sl3 sl4 sl5 sl6 sl7 sl8 sl9 sl10 sl11 sl12 sl13 sl14 sl15 sl16 sl17 sl18 sl19 sl20 sl21 sl22 sl23 sl24 sl25 sl26 sl27 sl28 sl29 sl30 sl31 sl32 sl33 sl34 sl35 sl36 sl37 sl38 sl39 sl40 sl41 sl42 sl43 sl44 sl45 sl46 sl47 sl48 sl49 sl50 sl51 sl52 : Array (Option Value)} {oc0 kV0 dc0 pm0 cd0 ct0 oc1 kV1 dc1 pm1 cd1 ct1 oc2 kV2 dc2 pm2 cd2 ct2 oc3 kV3 dc3 pm3 cd3 ct3 oc4 kV4 dc4 pm4 cd4 ct4 oc5 kV5 dc5 pm5 cd5 ct5 oc6 kV6 dc6 pm6 cd6 ct6 oc7 kV7 dc7 pm7 cd7 ct7 oc8 kV8 dc8 pm8 cd8 ct8 oc9 kV9 dc9 pm9 cd9 ct9 oc10 kV10 dc10 pm10 cd10 ct10 oc11 kV11 dc11 pm11 cd11 ct11 oc12 kV12 dc12 pm12 cd12 ct12 oc13 kV13 dc13 pm13 cd13 ct13 oc14 kV14 dc14 pm14 cd14 ct14 oc15 kV15 dc15 pm15 cd15 ct15 oc16 kV16 dc16 pm16 cd16 ct16 oc17 kV17 dc17 pm17 cd17 ct17 oc18 kV18 dc18 pm18 cd18 ct18 oc19 kV19 dc19 pm19 cd19 ct19 oc20 kV20 dc20 pm20 cd20 ct20 oc21 kV21 dc21 pm21 cd21 ct21 oc22 kV22 dc22 pm22 cd22 ct22 oc23 kV23 dc23 pm23 cd23 ct23 oc24 kV24 dc24 pm24 cd24 ct24 oc25 kV25 dc25 pm25 cd25 ct25 oc26 kV26 dc26 pm26 cd26 ct26 oc27 kV27 dc27 pm27 cd27 ct27 oc28 kV28 dc28 pm28 cd28 ct28 oc29 kV29 dc29 pm29 cd29 ct29 oc30 kV30 dc30 pm30 cd30 ct30 oc31 kV31 dc31 pm31 cd31 ct31 oc32 kV32 dc32 pm32 cd32 ct32 oc33 kV33 dc33 pm33 cd33 ct33 oc34 kV34 dc34 pm34 cd34 ct34 oc35 kV35 dc35 pm35 cd35 ct35 oc36 kV36 dc36 pm36 cd36 ct36 oc37 kV37 dc37 pm37 cd37 ct37 oc38 kV38 dc38 pm38 cd38 ct38 oc39 kV39 dc39 pm39 cd39 ct39 oc40 kV40 dc40 pm40 cd40 ct40 oc41 kV41 dc41 pm41 cd41 ct41 oc42 kV42 dc42 pm42 cd42 ct42 oc43 kV43 dc43 pm43 cd43 ct43 oc44 kV44 dc44 pm44 cd44 ct44 oc45 kV45 dc45 pm45 cd45 ct45 oc46 kV46 dc46 pm46 cd46 ct46 oc47 kV47 dc47 pm47 cd47 ct47 oc48 kV48 dc48 pm48 cd48 ct48 oc49 kV49 dc49 pm49 cd49 ct49 oc50 kV50 dc50 pm50 cd50 ct50 oc51 kV51 dc51 pm51 cd51 ct51 oc52 kV52 dc52 pm52 cd52 ct52 : Value} {t_DIGITS : Tok} {t_LETTERS : Tok} {t_NAME_SIGNS : Tok} {t_BARE : Tok} {t_SIGNS : Tok} {t_TOP : Tok} {u16 u32 u50 u53 u56 u59 u62 u63 : Addr} {ud16 ud32 ud50 ud53 ud56 ud59 ud62 ud63 : Option Addr} {un16 un32 un50 un53 un56 un59 un62 un63 : Nat} {us16 us32 us50 us53 us56 us59 us62 us63 : Array (Option Value)} {k0t k10t k11t k12t k13t k14t k15t k17t k18t k19t k1t k20t k21t k22t k23t k24t k25t k26t k27t k28t k29t k2t k30t k31t k33t k34t k35t k36t k37t k38t k39t k3t k40t k41t k42t k43t k44t k45t k46t k47t k48t k49t k4t k51t k52t k54t k55t k57t k58t k5t k60t k61t k6t k7t k8t k9t : Tok}
    (a0 : PySem.W.nsIn K mainGlobals "_law_same" = some (some (.ref f0))) (l0 : K.lookup f0 = some ⟨oc0, od0, .func (PySem.W.fnOf "_law_same" "_law_same" (defArgs s__law_same) (defBody s__law_same) (defScope s__law_same) .none kV0 dc0 pm0 an0 cd0 ct0), sl0⟩) (c0 : PySem.W.codeIn K cd0 "_law_same" = true) (k0 : PySem.W.keepIn K (.ref f0) = true)
    (a1 : PySem.W.nsIn K mainGlobals "_law_draw" = some (some (.ref f1))) (l1 : K.lookup f1 = some ⟨oc1, od1, .func (PySem.W.fnOf "_law_draw" "_law_draw" (defArgs s__law_draw) (defBody s__law_draw) (defScope s__law_draw) .none kV1 dc1 pm1 an1 cd1 ct1), sl1⟩) (c1 : PySem.W.codeIn K cd1 "_law_draw" = true) (k1 : PySem.W.keepIn K (.ref f1) = true)
    (a2 : PySem.W.nsIn K mainGlobals "_law_signs" = some (some (.ref f2))) (l2 : K.lookup f2 = some ⟨oc2, od2, .func (PySem.W.fnOf "_law_signs" "_law_signs" (defArgs s__law_signs) (defBody s__law_signs) (defScope s__law_signs) .none kV2 dc2 pm2 an2 cd2 ct2), sl2⟩) (c2 : PySem.W.codeIn K cd2 "_law_signs" = true) (k2 : PySem.W.keepIn K (.ref f2) = true)
    (a3 : PySem.W.nsIn K mainGlobals "_law_text" = some (some (.ref f3))) (l3 : K.lookup f3 = some ⟨oc3, od3, .func (PySem.W.fnOf "_law_text" "_law_text" (defArgs s__law_text) (defBody s__law_text) (defScope s__law_text) .none kV3 dc3 pm3 an3 cd3 ct3), sl3⟩) (c3 : PySem.W.codeIn K cd3 "_law_text" = true) (k3 : PySem.W.keepIn K (.ref f3) = true)
    (a4 : PySem.W.nsIn K mainGlobals "_law_function" = some (some (.ref f4))) (l4 : K.lookup f4 = some ⟨oc4, od4, .func (PySem.W.fnOf "_law_function" "_law_function" (defArgs s__law_function) (defBody s__law_function) (defScope s__law_function) .none kV4 dc4 pm4 an4 cd4 ct4), sl4⟩) (c4 : PySem.W.codeIn K cd4 "_law_function" = true) (k4 : PySem.W.keepIn K (.ref f4) = true)
    (a5 : PySem.W.nsIn K mainGlobals "_law_name" = some (some (.ref f5))) (l5 : K.lookup f5 = some ⟨oc5, od5, .func (PySem.W.fnOf "_law_name" "_law_name" (defArgs s__law_name) (defBody s__law_name) (defScope s__law_name) .none kV5 dc5 pm5 an5 cd5 ct5), sl5⟩) (c5 : PySem.W.codeIn K cd5 "_law_name" = true) (k5 : PySem.W.keepIn K (.ref f5) = true)
    (a6 : PySem.W.nsIn K mainGlobals "_law_folders" = some (some (.ref f6))) (l6 : K.lookup f6 = some ⟨oc6, od6, .func (PySem.W.fnOf "_law_folders" "_law_folders" (defArgs s__law_folders) (defBody s__law_folders) (defScope s__law_folders) .none kV6 dc6 pm6 an6 cd6 ct6), sl6⟩) (c6 : PySem.W.codeIn K cd6 "_law_folders" = true) (k6 : PySem.W.keepIn K (.ref f6) = true)
    (a7 : PySem.W.nsIn K mainGlobals "_law_joined" = some (some (.ref f7))) (l7 : K.lookup f7 = some ⟨oc7, od7, .func (PySem.W.fnOf "_law_joined" "_law_joined" (defArgs s__law_joined) (defBody s__law_joined) (defScope s__law_joined) .none kV7 dc7 pm7 an7 cd7 ct7), sl7⟩) (c7 : PySem.W.codeIn K cd7 "_law_joined" = true) (k7 : PySem.W.keepIn K (.ref f7) = true)
    (a8 : PySem.W.nsIn K mainGlobals "_law_part" = some (some (.ref f8))) (l8 : K.lookup f8 = some ⟨oc8, od8, .func (PySem.W.fnOf "_law_part" "_law_part" (defArgs s__law_part) (defBody s__law_part) (defScope s__law_part) .none kV8 dc8 pm8 an8 cd8 ct8), sl8⟩) (c8 : PySem.W.codeIn K cd8 "_law_part" = true) (k8 : PySem.W.keepIn K (.ref f8) = true)
    (a9 : PySem.W.nsIn K mainGlobals "_law_files" = some (some (.ref f9))) (l9 : K.lookup f9 = some ⟨oc9, od9, .func (PySem.W.fnOf "_law_files" "_law_files" (defArgs s__law_files) (defBody s__law_files) (defScope s__law_files) .none kV9 dc9 pm9 an9 cd9 ct9), sl9⟩) (c9 : PySem.W.codeIn K cd9 "_law_files" = true) (k9 : PySem.W.keepIn K (.ref f9) = true)
    (a10 : PySem.W.nsIn K mainGlobals "_law_world" = some (some (.ref f10))) (l10 : K.lookup f10 = some ⟨oc10, od10, .func (PySem.W.fnOf "_law_world" "_law_world" (defArgs s__law_world) (defBody s__law_world) (defScope s__law_world) .none kV10 dc10 pm10 an10 cd10 ct10), sl10⟩) (c10 : PySem.W.codeIn K cd10 "_law_world" = true) (k10 : PySem.W.keepIn K (.ref f10) = true)
    (a11 : PySem.W.nsIn K mainGlobals "_law_deck" = some (some (.ref f11))) (l11 : K.lookup f11 = some ⟨oc11, od11, .func (PySem.W.fnOf "_law_deck" "_law_deck" (defArgs s__law_deck) (defBody s__law_deck) (defScope s__law_deck) .none kV11 dc11 pm11 an11 cd11 ct11), sl11⟩) (c11 : PySem.W.codeIn K cd11 "_law_deck" = true) (k11 : PySem.W.keepIn K (.ref f11) = true)
    (a12 : PySem.W.nsIn K mainGlobals "said_path" = some (some (.ref f12))) (l12 : K.lookup f12 = some ⟨oc12, od12, .func (PySem.W.fnOf "said_path" "said_path" (defArgs s_said_path) (defBody s_said_path) (defScope s_said_path) .none kV12 dc12 pm12 an12 cd12 ct12), sl12⟩) (c12 : PySem.W.codeIn K cd12 "said_path" = true) (k12 : PySem.W.keepIn K (.ref f12) = true)
    (a13 : PySem.W.nsIn K mainGlobals "has_signs" = some (some (.ref f13))) (l13 : K.lookup f13 = some ⟨oc13, od13, .func (PySem.W.fnOf "has_signs" "has_signs" (defArgs s_has_signs) (defBody s_has_signs) (defScope s_has_signs) .none kV13 dc13 pm13 an13 cd13 ct13), sl13⟩) (c13 : PySem.W.codeIn K cd13 "has_signs" = true) (k13 : PySem.W.keepIn K (.ref f13) = true)
    (a14 : PySem.W.nsIn K mainGlobals "is_name" = some (some (.ref f14))) (l14 : K.lookup f14 = some ⟨oc14, od14, .func (PySem.W.fnOf "is_name" "is_name" (defArgs s_is_name) (defBody s_is_name) (defScope s_is_name) .none kV14 dc14 pm14 an14 cd14 ct14), sl14⟩) (c14 : PySem.W.codeIn K cd14 "is_name" = true) (k14 : PySem.W.keepIn K (.ref f14) = true)
    (a15 : PySem.W.nsIn K mainGlobals "is_text" = some (some (.ref f15))) (l15 : K.lookup f15 = some ⟨oc15, od15, .func (PySem.W.fnOf "is_text" "is_text" (defArgs s_is_text) (defBody s_is_text) (defScope s_is_text) .none kV15 dc15 pm15 an15 cd15 ct15), sl15⟩) (c15 : PySem.W.codeIn K cd15 "is_text" = true) (k15 : PySem.W.keepIn K (.ref f15) = true)
    (a16 : PySem.W.nsIn K mainGlobals "is_sum" = some (some (.ref f16))) (l16 : K.lookup f16 = some ⟨oc16, od16, .func (PySem.W.fnOf "is_sum" "is_sum" (defArgs s_is_sum) (defBody s_is_sum) (defScope s_is_sum) .none kV16 dc16 pm16 an16 cd16 ct16), sl16⟩) (c16 : PySem.W.codeIn K cd16 "is_sum" = true) (k16 : PySem.W.keepIn K (.ref f16) = true)
    (a17 : PySem.W.nsIn K mainGlobals "is_place" = some (some (.ref f17))) (l17 : K.lookup f17 = some ⟨oc17, od17, .func (PySem.W.fnOf "is_place" "is_place" (defArgs s_is_place) (defBody s_is_place) (defScope s_is_place) .none kV17 dc17 pm17 an17 cd17 ct17), sl17⟩) (c17 : PySem.W.codeIn K cd17 "is_place" = true) (k17 : PySem.W.keepIn K (.ref f17) = true)
    (a18 : PySem.W.nsIn K mainGlobals "is_name_or_place" = some (some (.ref f18))) (l18 : K.lookup f18 = some ⟨oc18, od18, .func (PySem.W.fnOf "is_name_or_place" "is_name_or_place" (defArgs s_is_name_or_place) (defBody s_is_name_or_place) (defScope s_is_name_or_place) .none kV18 dc18 pm18 an18 cd18 ct18), sl18⟩) (c18 : PySem.W.codeIn K cd18 "is_name_or_place" = true) (k18 : PySem.W.keepIn K (.ref f18) = true)
    (a19 : PySem.W.nsIn K mainGlobals "may_be_done" = some (some (.ref f19))) (l19 : K.lookup f19 = some ⟨oc19, od19, .func (PySem.W.fnOf "may_be_done" "may_be_done" (defArgs s_may_be_done) (defBody s_may_be_done) (defScope s_may_be_done) .none kV19 dc19 pm19 an19 cd19 ct19), sl19⟩) (c19 : PySem.W.codeIn K cd19 "may_be_done" = true) (k19 : PySem.W.keepIn K (.ref f19) = true)
    (a20 : PySem.W.nsIn K mainGlobals "is_tagged" = some (some (.ref f20))) (l20 : K.lookup f20 = some ⟨oc20, od20, .func (PySem.W.fnOf "is_tagged" "is_tagged" (defArgs s_is_tagged) (defBody s_is_tagged) (defScope s_is_tagged) .none kV20 dc20 pm20 an20 cd20 ct20), sl20⟩) (c20 : PySem.W.codeIn K cd20 "is_tagged" = true) (k20 : PySem.W.keepIn K (.ref f20) = true)
    (a21 : PySem.W.nsIn K mainGlobals "is_integer" = some (some (.ref f21))) (l21 : K.lookup f21 = some ⟨oc21, od21, .func (PySem.W.fnOf "is_integer" "is_integer" (defArgs s_is_integer) (defBody s_is_integer) (defScope s_is_integer) .none kV21 dc21 pm21 an21 cd21 ct21), sl21⟩) (c21 : PySem.W.codeIn K cd21 "is_integer" = true) (k21 : PySem.W.keepIn K (.ref f21) = true)
    (a22 : PySem.W.nsIn K mainGlobals "may_name_function" = some (some (.ref f22))) (l22 : K.lookup f22 = some ⟨oc22, od22, .func (PySem.W.fnOf "may_name_function" "may_name_function" (defArgs s_may_name_function) (defBody s_may_name_function) (defScope s_may_name_function) .none kV22 dc22 pm22 an22 cd22 ct22), sl22⟩) (c22 : PySem.W.codeIn K cd22 "may_name_function" = true) (k22 : PySem.W.keepIn K (.ref f22) = true)
    (a23 : PySem.W.nsIn K mainGlobals "begins_set" = some (some (.ref f23))) (l23 : K.lookup f23 = some ⟨oc23, od23, .func (PySem.W.fnOf "begins_set" "begins_set" (defArgs s_begins_set) (defBody s_begins_set) (defScope s_begins_set) .none kV23 dc23 pm23 an23 cd23 ct23), sl23⟩) (c23 : PySem.W.codeIn K cd23 "begins_set" = true) (k23 : PySem.W.keepIn K (.ref f23) = true)
    (a24 : PySem.W.nsIn K mainGlobals "is_script" = some (some (.ref f24))) (l24 : K.lookup f24 = some ⟨oc24, od24, .func (PySem.W.fnOf "is_script" "is_script" (defArgs s_is_script) (defBody s_is_script) (defScope s_is_script) .none kV24 dc24 pm24 an24 cd24 ct24), sl24⟩) (c24 : PySem.W.codeIn K cd24 "is_script" = true) (k24 : PySem.W.keepIn K (.ref f24) = true)
    (a25 : PySem.W.nsIn K mainGlobals "is_command" = some (some (.ref f25))) (l25 : K.lookup f25 = some ⟨oc25, od25, .func (PySem.W.fnOf "is_command" "is_command" (defArgs s_is_command) (defBody s_is_command) (defScope s_is_command) .none kV25 dc25 pm25 an25 cd25 ct25), sl25⟩) (c25 : PySem.W.codeIn K cd25 "is_command" = true) (k25 : PySem.W.keepIn K (.ref f25) = true)
    (a26 : PySem.W.nsIn K mainGlobals "is_compound" = some (some (.ref f26))) (l26 : K.lookup f26 = some ⟨oc26, od26, .func (PySem.W.fnOf "is_compound" "is_compound" (defArgs s_is_compound) (defBody s_is_compound) (defScope s_is_compound) .none kV26 dc26 pm26 an26 cd26 ct26), sl26⟩) (c26 : PySem.W.codeIn K cd26 "is_compound" = true) (k26 : PySem.W.keepIn K (.ref f26) = true)
    (a27 : PySem.W.nsIn K mainGlobals "is_word" = some (some (.ref f27))) (l27 : K.lookup f27 = some ⟨oc27, od27, .func (PySem.W.fnOf "is_word" "is_word" (defArgs s_is_word) (defBody s_is_word) (defScope s_is_word) .none kV27 dc27 pm27 an27 cd27 ct27), sl27⟩) (c27 : PySem.W.codeIn K cd27 "is_word" = true) (k27 : PySem.W.keepIn K (.ref f27) = true)
    (a28 : PySem.W.nsIn K mainGlobals "are_pieces" = some (some (.ref f28))) (l28 : K.lookup f28 = some ⟨oc28, od28, .func (PySem.W.fnOf "are_pieces" "are_pieces" (defArgs s_are_pieces) (defBody s_are_pieces) (defScope s_are_pieces) .none kV28 dc28 pm28 an28 cd28 ct28), sl28⟩) (c28 : PySem.W.codeIn K cd28 "are_pieces" = true) (k28 : PySem.W.keepIn K (.ref f28) = true)
    (a29 : PySem.W.nsIn K mainGlobals "is_piece" = some (some (.ref f29))) (l29 : K.lookup f29 = some ⟨oc29, od29, .func (PySem.W.fnOf "is_piece" "is_piece" (defArgs s_is_piece) (defBody s_is_piece) (defScope s_is_piece) .none kV29 dc29 pm29 an29 cd29 ct29), sl29⟩) (c29 : PySem.W.codeIn K cd29 "is_piece" = true) (k29 : PySem.W.keepIn K (.ref f29) = true)
    (a30 : PySem.W.nsIn K mainGlobals "are_cases" = some (some (.ref f30))) (l30 : K.lookup f30 = some ⟨oc30, od30, .func (PySem.W.fnOf "are_cases" "are_cases" (defArgs s_are_cases) (defBody s_are_cases) (defScope s_are_cases) .none kV30 dc30 pm30 an30 cd30 ct30), sl30⟩) (c30 : PySem.W.codeIn K cd30 "are_cases" = true) (k30 : PySem.W.keepIn K (.ref f30) = true)
    (a31 : PySem.W.nsIn K mainGlobals "are_words" = some (some (.ref f31))) (l31 : K.lookup f31 = some ⟨oc31, od31, .func (PySem.W.fnOf "are_words" "are_words" (defArgs s_are_words) (defBody s_are_words) (defScope s_are_words) .none kV31 dc31 pm31 an31 cd31 ct31), sl31⟩) (c31 : PySem.W.codeIn K cd31 "are_words" = true) (k31 : PySem.W.keepIn K (.ref f31) = true)
    (a32 : PySem.W.nsIn K mainGlobals "is_body" = some (some (.ref f32))) (l32 : K.lookup f32 = some ⟨oc32, od32, .func (PySem.W.fnOf "is_body" "is_body" (defArgs s_is_body) (defBody s_is_body) (defScope s_is_body) .none kV32 dc32 pm32 an32 cd32 ct32), sl32⟩) (c32 : PySem.W.codeIn K cd32 "is_body" = true) (k32 : PySem.W.keepIn K (.ref f32) = true)
    (a33 : PySem.W.nsIn K mainGlobals "are_arms" = some (some (.ref f33))) (l33 : K.lookup f33 = some ⟨oc33, od33, .func (PySem.W.fnOf "are_arms" "are_arms" (defArgs s_are_arms) (defBody s_are_arms) (defScope s_are_arms) .none kV33 dc33 pm33 an33 cd33 ct33), sl33⟩) (c33 : PySem.W.codeIn K cd33 "are_arms" = true) (k33 : PySem.W.keepIn K (.ref f33) = true)
    (a34 : PySem.W.nsIn K mainGlobals "are_turns" = some (some (.ref f34))) (l34 : K.lookup f34 = some ⟨oc34, od34, .func (PySem.W.fnOf "are_turns" "are_turns" (defArgs s_are_turns) (defBody s_are_turns) (defScope s_are_turns) .none kV34 dc34 pm34 an34 cd34 ct34), sl34⟩) (c34 : PySem.W.codeIn K cd34 "are_turns" = true) (k34 : PySem.W.keepIn K (.ref f34) = true)
    (a35 : PySem.W.nsIn K mainGlobals "is_turn" = some (some (.ref f35))) (l35 : K.lookup f35 = some ⟨oc35, od35, .func (PySem.W.fnOf "is_turn" "is_turn" (defArgs s_is_turn) (defBody s_is_turn) (defScope s_is_turn) .none kV35 dc35 pm35 an35 cd35 ct35), sl35⟩) (c35 : PySem.W.codeIn K cd35 "is_turn" = true) (k35 : PySem.W.keepIn K (.ref f35) = true)
    (a36 : PySem.W.nsIn K mainGlobals "is_here_text" = some (some (.ref f36))) (l36 : K.lookup f36 = some ⟨oc36, od36, .func (PySem.W.fnOf "is_here_text" "is_here_text" (defArgs s_is_here_text) (defBody s_is_here_text) (defScope s_is_here_text) .none kV36 dc36 pm36 an36 cd36 ct36), sl36⟩) (c36 : PySem.W.codeIn K cd36 "is_here_text" = true) (k36 : PySem.W.keepIn K (.ref f36) = true)
    (a37 : PySem.W.nsIn K mainGlobals "is_joint" = some (some (.ref f37))) (l37 : K.lookup f37 = some ⟨oc37, od37, .func (PySem.W.fnOf "is_joint" "is_joint" (defArgs s_is_joint) (defBody s_is_joint) (defScope s_is_joint) .none kV37 dc37 pm37 an37 cd37 ct37), sl37⟩) (c37 : PySem.W.codeIn K cd37 "is_joint" = true) (k37 : PySem.W.keepIn K (.ref f37) = true)
    (a38 : PySem.W.nsIn K mainGlobals "is_do" = some (some (.ref f38))) (l38 : K.lookup f38 = some ⟨oc38, od38, .func (PySem.W.fnOf "is_do" "is_do" (defArgs s_is_do) (defBody s_is_do) (defScope s_is_do) .none kV38 dc38 pm38 an38 cd38 ct38), sl38⟩) (c38 : PySem.W.codeIn K cd38 "is_do" = true) (k38 : PySem.W.keepIn K (.ref f38) = true)
    (a39 : PySem.W.nsIn K mainGlobals "functions_stand" = some (some (.ref f39))) (l39 : K.lookup f39 = some ⟨oc39, od39, .func (PySem.W.fnOf "functions_stand" "functions_stand" (defArgs s_functions_stand) (defBody s_functions_stand) (defScope s_functions_stand) .none kV39 dc39 pm39 an39 cd39 ct39), sl39⟩) (c39 : PySem.W.codeIn K cd39 "functions_stand" = true) (k39 : PySem.W.keepIn K (.ref f39) = true)
    (a40 : PySem.W.nsIn K mainGlobals "names_stand" = some (some (.ref f40))) (l40 : K.lookup f40 = some ⟨oc40, od40, .func (PySem.W.fnOf "names_stand" "names_stand" (defArgs s_names_stand) (defBody s_names_stand) (defScope s_names_stand) .none kV40 dc40 pm40 an40 cd40 ct40), sl40⟩) (c40 : PySem.W.codeIn K cd40 "names_stand" = true) (k40 : PySem.W.keepIn K (.ref f40) = true)
    (a41 : PySem.W.nsIn K mainGlobals "texts_alone" = some (some (.ref f41))) (l41 : K.lookup f41 = some ⟨oc41, od41, .func (PySem.W.fnOf "texts_alone" "texts_alone" (defArgs s_texts_alone) (defBody s_texts_alone) (defScope s_texts_alone) .none kV41 dc41 pm41 an41 cd41 ct41), sl41⟩) (c41 : PySem.W.codeIn K cd41 "texts_alone" = true) (k41 : PySem.W.keepIn K (.ref f41) = true)
    (a42 : PySem.W.nsIn K mainGlobals "is_folder" = some (some (.ref f42))) (l42 : K.lookup f42 = some ⟨oc42, od42, .func (PySem.W.fnOf "is_folder" "is_folder" (defArgs s_is_folder) (defBody s_is_folder) (defScope s_is_folder) .none kV42 dc42 pm42 an42 cd42 ct42), sl42⟩) (c42 : PySem.W.codeIn K cd42 "is_folder" = true) (k42 : PySem.W.keepIn K (.ref f42) = true)
    (a43 : PySem.W.nsIn K mainGlobals "folder_of" = some (some (.ref f43))) (l43 : K.lookup f43 = some ⟨oc43, od43, .func (PySem.W.fnOf "folder_of" "folder_of" (defArgs s_folder_of) (defBody s_folder_of) (defScope s_folder_of) .none kV43 dc43 pm43 an43 cd43 ct43), sl43⟩) (c43 : PySem.W.codeIn K cd43 "folder_of" = true) (k43 : PySem.W.keepIn K (.ref f43) = true)
    (a44 : PySem.W.nsIn K mainGlobals "is_path" = some (some (.ref f44))) (l44 : K.lookup f44 = some ⟨oc44, od44, .func (PySem.W.fnOf "is_path" "is_path" (defArgs s_is_path) (defBody s_is_path) (defScope s_is_path) .none kV44 dc44 pm44 an44 cd44 ct44), sl44⟩) (c44 : PySem.W.codeIn K cd44 "is_path" = true) (k44 : PySem.W.keepIn K (.ref f44) = true)
    (a45 : PySem.W.nsIn K mainGlobals "stands" = some (some (.ref f45))) (l45 : K.lookup f45 = some ⟨oc45, od45, .func (PySem.W.fnOf "stands" "stands" (defArgs s_stands) (defBody s_stands) (defScope s_stands) .none kV45 dc45 pm45 an45 cd45 ct45), sl45⟩) (c45 : PySem.W.codeIn K cd45 "stands" = true) (k45 : PySem.W.keepIn K (.ref f45) = true)
    (a46 : PySem.W.nsIn K mainGlobals "is_world" = some (some (.ref f46))) (l46 : K.lookup f46 = some ⟨oc46, od46, .func (PySem.W.fnOf "is_world" "is_world" (defArgs s_is_world) (defBody s_is_world) (defScope s_is_world) .none kV46 dc46 pm46 an46 cd46 ct46), sl46⟩) (c46 : PySem.W.codeIn K cd46 "is_world" = true) (k46 : PySem.W.keepIn K (.ref f46) = true)
    (a47 : PySem.W.nsIn K mainGlobals "asked" = some (some (.ref f47))) (l47 : K.lookup f47 = some ⟨oc47, od47, .func (PySem.W.fnOf "asked" "asked" (defArgs s_asked) (defBody s_asked) (defScope s_asked) .none kV47 dc47 pm47 an47 cd47 ct47), sl47⟩) (c47 : PySem.W.codeIn K cd47 "asked" = true) (k47 : PySem.W.keepIn K (.ref f47) = true)
    (a48 : PySem.W.nsIn K mainGlobals "path_of" = some (some (.ref f48))) (l48 : K.lookup f48 = some ⟨oc48, od48, .func (PySem.W.fnOf "path_of" "path_of" (defArgs s_path_of) (defBody s_path_of) (defScope s_path_of) .none kV48 dc48 pm48 an48 cd48 ct48), sl48⟩) (c48 : PySem.W.codeIn K cd48 "path_of" = true) (k48 : PySem.W.keepIn K (.ref f48) = true)
    (a49 : PySem.W.nsIn K mainGlobals "_law_said" = some (some (.ref f49))) (l49 : K.lookup f49 = some ⟨oc49, od49, .func (PySem.W.fnOf "_law_said" "_law_said" (defArgs s__law_said) (defBody s__law_said) (defScope s__law_said) .none kV49 dc49 pm49 an49 cd49 ct49), sl49⟩) (c49 : PySem.W.codeIn K cd49 "_law_said" = true) (k49 : PySem.W.keepIn K (.ref f49) = true)
    (a50 : PySem.W.nsIn K mainGlobals "_law_pieces" = some (some (.ref f50))) (l50 : K.lookup f50 = some ⟨oc50, od50, .func (PySem.W.fnOf "_law_pieces" "_law_pieces" (defArgs s__law_pieces) (defBody s__law_pieces) (defScope s__law_pieces) .none kV50 dc50 pm50 an50 cd50 ct50), sl50⟩) (c50 : PySem.W.codeIn K cd50 "_law_pieces" = true) (k50 : PySem.W.keepIn K (.ref f50) = true)
    (a51 : PySem.W.nsIn K mainGlobals "_law_right" = some (some (.ref f51))) (l51 : K.lookup f51 = some ⟨oc51, od51, .func (PySem.W.fnOf "_law_right" "_law_right" (defArgs s__law_right) (defBody s__law_right) (defScope s__law_right) .none kV51 dc51 pm51 an51 cd51 ct51), sl51⟩) (c51 : PySem.W.codeIn K cd51 "_law_right" = true) (k51 : PySem.W.keepIn K (.ref f51) = true)
    (a52 : PySem.W.nsIn K mainGlobals "law" = some (some (.ref f52))) (l52 : K.lookup f52 = some ⟨oc52, od52, .func (PySem.W.fnOf "law" "law" (defArgs s_law) (defBody s_law) (defScope s_law) .none kV52 dc52 pm52 an52 cd52 ct52), sl52⟩) (c52 : PySem.W.codeIn K cd52 "law" = true) (k52 : PySem.W.keepIn K (.ref f52) = true)
    (q_KEY_WORDS : PySem.W.nsIn K mainGlobals "KEY_WORDS" = some (some (.ref u16)))
    (q_DEED_NAMES : PySem.W.nsIn K mainGlobals "DEED_NAMES" = some (some (.ref u32)))
    (q_TOOL_NAMES : PySem.W.nsIn K mainGlobals "TOOL_NAMES" = some (some (.ref u50)))
    (q_DESCRIPTORS : PySem.W.nsIn K mainGlobals "DESCRIPTORS" = some (some (.ref u63)))
    (v63 : K.lookup u63 = some ⟨.type "tuple", ud63, .seq #[.ref u53, .ref u56, .ref u59, .ref u62] un63, us63⟩)
    (v62 : K.lookup u62 = some ⟨.type "tuple", ud62, .seq #[.str "bare" k60t, .str "-" k61t] un62, us62⟩)
    (v59 : K.lookup u59 = some ⟨.type "tuple", ud59, .seq #[.str "bare" k57t, .str "2" k58t] un59, us59⟩)
    (v56 : K.lookup u56 = some ⟨.type "tuple", ud56, .seq #[.str "bare" k54t, .str "1" k55t] un56, us56⟩)
    (v53 : K.lookup u53 = some ⟨.type "tuple", ud53, .seq #[.str "bare" k51t, .str "0" k52t] un53, us53⟩)
    (v50 : K.lookup u50 = some ⟨.type "tuple", ud50, .seq #[.str "cat" k33t, .str "keep" k34t, .str "drop" k35t, .str "first" k36t, .str "last" k37t, .str "order" k38t, .str "once" k39t, .str "count" k40t, .str "number" k41t, .str "swap" k42t, .str "part" k43t, .str "tee" k44t, .str "make" k45t, .str "remove" k46t, .str "move" k47t, .str "copy" k48t, .str "list" k49t] un50, us50⟩)
    (v32 : K.lookup u32 = some ⟨.type "tuple", ud32, .seq #[.str ":" k17t, .str "true" k18t, .str "false" k19t, .str "echo" k20t, .str "read" k21t, .str "set" k22t, .str "shift" k23t, .str "unset" k24t, .str "cd" k25t, .str "pwd" k26t, .str "test" k27t, .str "break" k28t, .str "continue" k29t, .str "return" k30t, .str "exit" k31t] un32, us32⟩)
    (v16 : K.lookup u16 = some ⟨.type "tuple", ud16, .seq #[.str "if" k0t, .str "then" k1t, .str "elif" k2t, .str "else" k3t, .str "fi" k4t, .str "while" k5t, .str "until" k6t, .str "do" k7t, .str "done" k8t, .str "for" k9t, .str "in" k10t, .str "case" k11t, .str "esac" k12t, .str "{" k13t, .str "}" k14t, .str "!" k15t] un16, us16⟩)
    (z_all : PySem.W.nsIn K mainGlobals "all" = some none)
    (z_bool : PySem.W.nsIn K mainGlobals "bool" = some none)
    (z_dict : PySem.W.nsIn K mainGlobals "dict" = some none)
    (z_enumerate : PySem.W.nsIn K mainGlobals "enumerate" = some none)
    (z_int : PySem.W.nsIn K mainGlobals "int" = some none)
    (z_isinstance : PySem.W.nsIn K mainGlobals "isinstance" = some none)
    (z_len : PySem.W.nsIn K mainGlobals "len" = some none)
    (z_list : PySem.W.nsIn K mainGlobals "list" = some none)
    (z_range : PySem.W.nsIn K mainGlobals "range" = some none)
    (z_reversed : PySem.W.nsIn K mainGlobals "reversed" = some none)
    (z_sorted : PySem.W.nsIn K mainGlobals "sorted" = some none)
    (z_str : PySem.W.nsIn K mainGlobals "str" = some none)
    (z_tuple : PySem.W.nsIn K mainGlobals "tuple" = some none)
    (q_DIGITS : PySem.W.nsIn K mainGlobals "DIGITS" = some (some (Value.str c_DIGITS t_DIGITS)))
    (q_LETTERS : PySem.W.nsIn K mainGlobals "LETTERS" = some (some (Value.str c_LETTERS t_LETTERS)))
    (q_NAME_SIGNS : PySem.W.nsIn K mainGlobals "NAME_SIGNS" = some (some (Value.str c_NAME_SIGNS t_NAME_SIGNS)))
    (q_BARE : PySem.W.nsIn K mainGlobals "BARE" = some (some (Value.str c_BARE t_BARE)))
    (q_SIGNS : PySem.W.nsIn K mainGlobals "SIGNS" = some (some (Value.str c_SIGNS t_SIGNS)))
    (q_TOP : PySem.W.nsIn K mainGlobals "TOP" = some (some (Value.str c_TOP t_TOP))) :
    ∃ fd : FuncData, (∀ (s : Shared) (v : Value), BindsTo s fd ⟨[v], []⟩ [("_law_script", v)]) ∧ ∀ base : Heap, K.In base → base.Ns mainGlobals mg → FnOk l.prog w K mg base (L2.CX l.prog w) 33 fa fd ["_law_script"] (spL K 1 G_law) := by
  have Bl : BlT mg := ⟨PySem.W.mg_none_of X G z_all, PySem.W.mg_none_of X G z_bool, PySem.W.mg_none_of X G z_dict, PySem.W.mg_none_of X G z_enumerate, PySem.W.mg_none_of X G z_int, PySem.W.mg_none_of X G z_isinstance, PySem.W.mg_none_of X G z_len, PySem.W.mg_none_of X G z_list, PySem.W.mg_none_of X G z_range, PySem.W.mg_none_of X G z_reversed, PySem.W.mg_none_of X G z_sorted, PySem.W.mg_none_of X G z_str, PySem.W.mg_none_of X G z_tuple⟩
  have Gs : GsT K mg := ⟨⟨_, PySem.W.mg_of X G q_DIGITS, _, rfl⟩, ⟨_, PySem.W.mg_of X G q_LETTERS, _, rfl⟩, ⟨_, PySem.W.mg_of X G q_NAME_SIGNS, _, rfl⟩, ⟨_, PySem.W.mg_of X G q_BARE, _, rfl⟩, ⟨_, PySem.W.mg_of X G q_SIGNS, _, rfl⟩, ⟨_, PySem.W.mg_of X G q_TOP, _, rfl⟩, ⟨_, PySem.W.mg_of X G q_KEY_WORDS, (KU.tup v16 (.cons (KU.str _ _) (.cons (KU.str _ _) (.cons (KU.str _ _) (.cons (KU.str _ _) (.cons (KU.str _ _) (.cons (KU.str _ _) (.cons (KU.str _ _) (.cons (KU.str _ _) (.cons (KU.str _ _) (.cons (KU.str _ _) (.cons (KU.str _ _) (.cons (KU.str _ _) (.cons (KU.str _ _) (.cons (KU.str _ _) (.cons (KU.str _ _) (.cons (KU.str _ _) (.nil))))))))))))))))))⟩, ⟨_, PySem.W.mg_of X G q_DEED_NAMES, (KU.tup v32 (.cons (KU.str _ _) (.cons (KU.str _ _) (.cons (KU.str _ _) (.cons (KU.str _ _) (.cons (KU.str _ _) (.cons (KU.str _ _) (.cons (KU.str _ _) (.cons (KU.str _ _) (.cons (KU.str _ _) (.cons (KU.str _ _) (.cons (KU.str _ _) (.cons (KU.str _ _) (.cons (KU.str _ _) (.cons (KU.str _ _) (.cons (KU.str _ _) (.nil)))))))))))))))))⟩, ⟨_, PySem.W.mg_of X G q_TOOL_NAMES, (KU.tup v50 (.cons (KU.str _ _) (.cons (KU.str _ _) (.cons (KU.str _ _) (.cons (KU.str _ _) (.cons (KU.str _ _) (.cons (KU.str _ _) (.cons (KU.str _ _) (.cons (KU.str _ _) (.cons (KU.str _ _) (.cons (KU.str _ _) (.cons (KU.str _ _) (.cons (KU.str _ _) (.cons (KU.str _ _) (.cons (KU.str _ _) (.cons (KU.str _ _) (.cons (KU.str _ _) (.cons (KU.str _ _) (.nil)))))))))))))))))))⟩, ⟨_, PySem.W.mg_of X G q_DESCRIPTORS, (KU.tup v63 (.cons (KU.tup v53 (.cons (KU.str _ _) (.cons (KU.str _ _) (.nil)))) (.cons (KU.tup v56 (.cons (KU.str _ _) (.cons (KU.str _ _) (.nil)))) (.cons (KU.tup v59 (.cons (KU.str _ _) (.cons (KU.str _ _) (.nil)))) (.cons (KU.tup v62 (.cons (KU.str _ _) (.cons (KU.str _ _) (.nil)))) (.nil))))))⟩⟩
  have D : DfT K mg := ⟨⟨_, _, fun_mk (st := s__law_same) l0 c0 k0, PySem.W.mg_of X G a0⟩, ⟨_, _, fun_mk (st := s__law_draw) l1 c1 k1, PySem.W.mg_of X G a1⟩, ⟨_, _, fun_mk (st := s__law_signs) l2 c2 k2, PySem.W.mg_of X G a2⟩, ⟨_, _, fun_mk (st := s__law_text) l3 c3 k3, PySem.W.mg_of X G a3⟩, ⟨_, _, fun_mk (st := s__law_function) l4 c4 k4, PySem.W.mg_of X G a4⟩, ⟨_, _, fun_mk (st := s__law_name) l5 c5 k5, PySem.W.mg_of X G a5⟩, ⟨_, _, fun_mk (st := s__law_folders) l6 c6 k6, PySem.W.mg_of X G a6⟩, ⟨_, _, fun_mk (st := s__law_joined) l7 c7 k7, PySem.W.mg_of X G a7⟩, ⟨_, _, fun_mk (st := s__law_part) l8 c8 k8, PySem.W.mg_of X G a8⟩, ⟨_, _, fun_mk (st := s__law_files) l9 c9 k9, PySem.W.mg_of X G a9⟩, ⟨_, _, fun_mk (st := s__law_world) l10 c10 k10, PySem.W.mg_of X G a10⟩, ⟨_, _, fun_mk (st := s__law_deck) l11 c11 k11, PySem.W.mg_of X G a11⟩, ⟨_, _, fun_mk (st := s_said_path) l12 c12 k12, PySem.W.mg_of X G a12⟩, ⟨_, _, fun_mk (st := s_has_signs) l13 c13 k13, PySem.W.mg_of X G a13⟩, ⟨_, _, fun_mk (st := s_is_name) l14 c14 k14, PySem.W.mg_of X G a14⟩, ⟨_, _, fun_mk (st := s_is_text) l15 c15 k15, PySem.W.mg_of X G a15⟩, ⟨_, _, fun_mk (st := s_is_sum) l16 c16 k16, PySem.W.mg_of X G a16⟩, ⟨_, _, fun_mk (st := s_is_place) l17 c17 k17, PySem.W.mg_of X G a17⟩, ⟨_, _, fun_mk (st := s_is_name_or_place) l18 c18 k18, PySem.W.mg_of X G a18⟩, ⟨_, _, fun_mk (st := s_may_be_done) l19 c19 k19, PySem.W.mg_of X G a19⟩, ⟨_, _, fun_mk (st := s_is_tagged) l20 c20 k20, PySem.W.mg_of X G a20⟩, ⟨_, _, fun_mk (st := s_is_integer) l21 c21 k21, PySem.W.mg_of X G a21⟩, ⟨_, _, fun_mk (st := s_may_name_function) l22 c22 k22, PySem.W.mg_of X G a22⟩, ⟨_, _, fun_mk (st := s_begins_set) l23 c23 k23, PySem.W.mg_of X G a23⟩, ⟨_, _, fun_mk (st := s_is_script) l24 c24 k24, PySem.W.mg_of X G a24⟩, ⟨_, _, fun_mk (st := s_is_command) l25 c25 k25, PySem.W.mg_of X G a25⟩, ⟨_, _, fun_mk (st := s_is_compound) l26 c26 k26, PySem.W.mg_of X G a26⟩, ⟨_, _, fun_mk (st := s_is_word) l27 c27 k27, PySem.W.mg_of X G a27⟩, ⟨_, _, fun_mk (st := s_are_pieces) l28 c28 k28, PySem.W.mg_of X G a28⟩, ⟨_, _, fun_mk (st := s_is_piece) l29 c29 k29, PySem.W.mg_of X G a29⟩, ⟨_, _, fun_mk (st := s_are_cases) l30 c30 k30, PySem.W.mg_of X G a30⟩, ⟨_, _, fun_mk (st := s_are_words) l31 c31 k31, PySem.W.mg_of X G a31⟩, ⟨_, _, fun_mk (st := s_is_body) l32 c32 k32, PySem.W.mg_of X G a32⟩, ⟨_, _, fun_mk (st := s_are_arms) l33 c33 k33, PySem.W.mg_of X G a33⟩, ⟨_, _, fun_mk (st := s_are_turns) l34 c34 k34, PySem.W.mg_of X G a34⟩, ⟨_, _, fun_mk (st := s_is_turn) l35 c35 k35, PySem.W.mg_of X G a35⟩, ⟨_, _, fun_mk (st := s_is_here_text) l36 c36 k36, PySem.W.mg_of X G a36⟩, ⟨_, _, fun_mk (st := s_is_joint) l37 c37 k37, PySem.W.mg_of X G a37⟩, ⟨_, _, fun_mk (st := s_is_do) l38 c38 k38, PySem.W.mg_of X G a38⟩, ⟨_, _, fun_mk (st := s_functions_stand) l39 c39 k39, PySem.W.mg_of X G a39⟩, ⟨_, _, fun_mk (st := s_names_stand) l40 c40 k40, PySem.W.mg_of X G a40⟩, ⟨_, _, fun_mk (st := s_texts_alone) l41 c41 k41, PySem.W.mg_of X G a41⟩, ⟨_, _, fun_mk (st := s_is_folder) l42 c42 k42, PySem.W.mg_of X G a42⟩, ⟨_, _, fun_mk (st := s_folder_of) l43 c43 k43, PySem.W.mg_of X G a43⟩, ⟨_, _, fun_mk (st := s_is_path) l44 c44 k44, PySem.W.mg_of X G a44⟩, ⟨_, _, fun_mk (st := s_stands) l45 c45 k45, PySem.W.mg_of X G a45⟩, ⟨_, _, fun_mk (st := s_is_world) l46 c46 k46, PySem.W.mg_of X G a46⟩, ⟨_, _, fun_mk (st := s_asked) l47 c47 k47, PySem.W.mg_of X G a47⟩, ⟨_, _, fun_mk (st := s_path_of) l48 c48 k48, PySem.W.mg_of X G a48⟩, ⟨_, _, fun_mk (st := s__law_said) l49 c49 k49, PySem.W.mg_of X G a49⟩, ⟨_, _, fun_mk (st := s__law_pieces) l50 c50 k50, PySem.W.mg_of X G a50⟩, ⟨_, _, fun_mk (st := s__law_right) l51 c51 k51, PySem.W.mg_of X G a51⟩, ⟨_, _, fun_mk (st := s_law) l52 c52 k52, PySem.W.mg_of X G a52⟩⟩
  refine ⟨PySem.W.fnOf "law" "law" (defArgs s_law) (defBody s_law) (defScope s_law) .none kV52 dc52 pm52 an52 cd52 ct52, fun s v => .of_eq rfl, fun base _ _ => ?_⟩
  refine FnOk.imp ?_ (spL_spF (mg := mg))
  exact calF_end (cal_law (P := l.prog) (w := w) (base := base) Bl Gs D) hfa (fun_mk (st := s_law) l52 c52 k52) (PySem.W.mg_of X G a52)
end
theorem walk (plain : ∀ ns : List Int, ns.length ≤ 63 → ∃ B', G_law [.scr ns] [] = .ok (.bl true) B') {l : PySem.W.OpenLaw} {q : Program} {loose : List Str} {XP : (Str → Option Value) → Heap → Prop} {YP : World → Heap → Prop} {d : DefRec} {K : Params → PySem.W.Frag} (hn : l.most = some 63) (hdf : d.params.defaults = [])
    (hY : ∀ (w : World) (h : Heap), YP w h → (K w.params).In h)
    (F : ∀ (w : World) (mg : Str → Option Value) (fa : Addr) (h : Heap), (K w.params).In h → h.Ns mainGlobals mg → mg d.name = some (.ref fa) →
      ∃ fd : FuncData, (∀ (s : Shared) (u : Value), BindsTo s fd ⟨[u], []⟩ [("_law_script", u)]) ∧ ∀ base : Heap, (K w.params).In base → base.Ns mainGlobals mg → FnOk l.prog w (K w.params) mg base (L2.CX l.prog w) 33 fa fd ["_law_script"] (spL (K w.params) 1 G_law)) :
    PySem.W.WalkO q loose XP YP l.row.toRowW d [] (fun f vs => PySem.call f vs) :=
  L2.walk_of (n := 63) (k := 33) (x := "_law_script") (CX := fun w => L2.CX l.prog w) (sp := fun w => spL (K w.params) 1 G_law) hn (by decide) hdf ⟨rfl, by decide, by decide⟩ hY F (fun _ H a ns hl _ hS => spF_law plain H a ns hl hS) fun _ _ _ _ _ z => by obtain ⟨_, _, _, _, _, _, _, _, _, _, _, _, y⟩ := z; exact y
end LawW
/-! S45a: small things. -/
namespace LawW
open PySem L2 QB PySem.StrLaws PySem.Builtin.Str
theorem ix2_0 : ixN 2 0 = some 0 := rfl
theorem ix2_1 : ixN 2 1 = some 1 := rfl
def txt (l : List Nat) : U := .str (ofC l)
theorem starts_one (l : List Nat) (c : Nat) : Txt.startswith (ofC l) (ofC [c]) = (l.head? == some c) := by
  unfold Txt.startswith
  have key := subAt_one (ofC l) c 0
  have e : (⟨#[c]⟩ : Str) = ofC [c] := rfl
  rw [e] at key
  have e2 : (ofC l).cps.toList[0]? = l.head? := by rw [ofC_cps]; cases l <;> rfl
  rw [e2] at key
  rw [Bool.eq_iff_iff, Bool.and_eq_true, decide_eq_true_iff, beq_iff_eq]
  exact key
theorem e_starts (l : List Nat) (c : Nat) : gStarts (.str (ofC l)) [.str (ofC [c])] = some (.w (.bl (l.head? == some c))) := by
  show some (R.w (U.bl (Txt.startswith (ofC l) (ofC [c])))) = _
  rw [starts_one]
theorem cut_tail (l : List Nat) : cutS (ofC l) (some 1) none = ofC l.tail := by
  have e : (1 : Int) = ((1 : Nat) : Int) := rfl
  unfold cutS
  rw [e, ofC_len, ofC_cps, HT.sIx_nat, HT.sIx_none, drop_min]
  cases l with
  | nil => rfl
  | cons x xs =>
    have e2 : min 1 (x :: xs).length = 1 := by simp
    rw [e2]
    show ofC _ = _
    simp
theorem e_tail {l : List Nat} (h : l.length ≤ 16777216) : gSl (.str (ofC l)) (some 1) none = some (.w (.str (ofC l.tail))) := by
  rw [e_sl_s h, cut_tail]
end LawW
/-! S51o: what is drawn is told by the deck alone. -/
namespace LawW
open PySem L2 QB PySem.NumText
abbrev Dk := Int × Int
def Cl (d : Dk) : Cell := .lst [.int d.1, .int d.2]
def At (B : Bx) (i : Nat) (d : Dk) : Prop := B[i]? = some (Cl d)
theorem At.lt {B : Bx} {i : Nat} {d : Dk} (h : At B i d) : i < B.length := (List.getElem?_eq_some_iff.mp h).1
theorem At.set {B : Bx} {i : Nat} {d : Dk} (h : At B i d) (d' : Dk) : At (B.set i (Cl d')) i d' := List.getElem?_set_self h.lt
theorem At.same {B : Bx} {i : Nat} {d : Dk} (h : At B i d) : B.set i (Cl d) = B := by
  apply List.ext_getElem?
  intro j
  by_cases hj : i = j
  · subst hj; rw [List.getElem?_set_self h.lt]; exact h.symm
  · rw [List.getElem?_set_ne hj]
def drawN (m : Int) (d : Dk) : Int := (if d.1 = 0 then d.2 else d.1) % m
def drawD (m : Int) (d : Dk) : Dk := if d.1 = 0 then (d.2 / m, 0) else (d.1 / m, d.2)
theorem drawN_ge (m : Int) (d : Dk) (h : 0 < m := by decide) : 0 ≤ drawN m d := Int.emod_nonneg _ (by omega)
theorem drawN_lt (m : Int) (d : Dk) (h : 0 < m := by decide) : drawN m d < m := Int.emod_lt_of_pos _ h
theorem draw_at {B : Bx} {i : Nat} {d : Dk} (many : Int) (h : At B i d) (h0 : 0 < many := by decide) (hm : many ≤ 1500000000000000000000000000000000000000000000000000000000000 := by decide) :
    G__law_draw [.box i, .int many] B = .ok (.int (drawN many d)) (B.set i (Cl (drawD many d))) := by
  have hi := h.lt
  obtain ⟨a, b⟩ := d
  have h : B[i]? = some (.lst [.int a, .int b]) := h
  have gs : ∀ c : Cell, (B.set i c)[i]? = some c := fun c => List.getElem?_set_self hi
  have d0 : ∀ x, cDiv x many = true := fun x => cDiv_p h0 hm
  have d1 : ∀ x, cMod x many = true := fun x => decide_eq_true h0
  by_cases ha : a = 0
  · subst ha
    simp only [G__law_draw]
    simp [runBody, b__law_draw, h, gs, d0, d1, h0, ix2_0, ix2_1, drawN, drawD, Cl]
  · simp only [G__law_draw]
    simp [runBody, b__law_draw, h, gs, d0, d1, h0, ix2_0, ix2_1, ha, drawN, drawD, Cl]
def gen {β : Type} (f : Dk → β × Dk) : Nat → Dk → List β × Dk
  | 0, d => ([], d)
  | n + 1, d => ((f d).1 :: (gen f n (f d).2).1, (gen f n (f d).2).2)
theorem gen_len {β : Type} (f : Dk → β × Dk) : ∀ (n : Nat) (d : Dk), (gen f n d).1.length = n
  | 0, d => rfl
  | n + 1, d => by simp [gen, gen_len f n]
theorem gen_all {β : Type} {f : Dk → β × Dk} {P : β → Prop} (h : ∀ d, P (f d).1) : ∀ (n : Nat) (d : Dk), ∀ x ∈ (gen f n d).1, P x
  | 0, d, x, hx => by cases hx
  | n + 1, d, x, hx => by
    rcases List.mem_cons.mp hx with rfl | hx
    · exact h d
    · exact gen_all h n _ x hx
theorem lcGen {α β : Type} (enc : α → U) (out : β → U) {fi : Iv} {bd : Bd} {f : Ex} {ks : List Nat} {xs : List α} {E : En} {B B1 : Bx} {i : Nat} (g : Dk → β × Dk) {d : Dk} (hd : At B i d) (hi : fi E B1 = .ok (xs.map enc, yes) E B) (hn : noOwn E ks = true) (hw : wipeE E ks = E) (hl : xs.length ≤ 16777216)
    (step : ∀ x (B : Bx) (d : Dk), x ∈ xs → At B i d → BdIs (bd (enc x) E) fun E2 => wipeE E2 ks = E ∧ ∃ w : R, f E2 B = .ok w E2 (B.set i (Cl (g d).2)) ∧ settle w E2 = some (out (g d).1, E2)) :
    mLc fi bd mYes f ks E B1 = .ok (.fr (.lst ((gen g xs.length d).1.map out))) E (B.set i (Cl (gen g xs.length d).2)) := by
  obtain ⟨vs, B', e, h1, d', h2, h3⟩ := lcDraw enc out (bd := bd) (f := f) (ks := ks) hi hn hw hl (fun n acc B' => ∃ d', B' = B.set i (Cl d') ∧ gen g xs.length d = (acc ++ (gen g n d').1, (gen g n d').2)) ⟨d, hd.same.symm, by simp⟩
    (fun x n acc B' hx _ hI => by
      obtain ⟨d', rfl, hg⟩ := hI
      obtain ⟨E2, e1, e2, w, e3, e4⟩ := (step x _ d' hx (hd.set d')).get
      refine BdIs_of e1 ⟨e2, w, _, _, e3, e4, (g d').2, by rw [List.set_set], ?_⟩
      rw [hg]
      simp [gen])
  rw [e, h2, h3]
  simp [gen]
def sgs : List Nat := 10 :: (((List.range 95).map (· + 32)).filter (fun c => c != 47 && c != 37) ++ [47])
theorem sgs_len : sgs.length = 95 := by decide +kernel
theorem signs_at (B : Bx) : G__law_signs [] B = .ok (.str (ofC sgs)) B := by
  simp [G__law_signs, runBody, b__law_signs]
  rfl
def signG (m : Int) (d : Dk) : Nat × Dk := (sgs.getD (drawN m d).toNat 0, drawD m d)
theorem atI_getD {l : List Nat} {v : Int} (h0 : 0 ≤ v) (h1 : v < l.length) : atI l v = some (l.getD v.toNat 0) := by
  have hk : v.toNat < l.length := by omega
  rw [atI_of (k := v.toNat) (by omega), List.getD_eq_getElem?_getD, List.getElem?_eq_getElem hk]
  rfl
theorem sign_at {B : Bx} {i : Nat} {d : Dk} (m : Int) (h : At B i d) (h0 : 0 < m := by decide) (h1 : m ≤ 95 := by decide) (E : En) (he : E[0]? = some (.val (.box i))) :
    (m2 gIx (mCall G__law_signs mNil) (mCall G__law_draw (mCons (mVar 0) (mCons (mC (.int m)) mNil)))) E B = .ok (.w (chr (signG m d).1)) E (B.set i (Cl (signG m d).2)) := by
  have e := draw_at m h h0 (by omega)
  have hx := atI_getD (l := sgs) (drawN_ge m d h0) (by have := drawN_lt m d h0; rw [sgs_len]; omega)
  simp [signs_at, e, hx, chr, signG, he, sgs_len]
def textG (most : Int) (d : Dk) : List Nat × Dk := gen (signG 95) (drawN (most + 1) d).toNat (drawD (most + 1) d)
theorem textG_len (most : Int) (d : Dk) (h : 0 ≤ most) : (textG most d).1.length ≤ most.toNat := by
  unfold textG
  rw [gen_len]
  have := drawN_lt (most + 1) d (by omega)
  omega
theorem text_at {B : Bx} {i : Nat} {d : Dk} (most : Int) (h : At B i d) (h0 : 0 ≤ most := by decide) (h1 : most ≤ 1000 := by decide) :
    G__law_text [.box i, .int most] B = .ok (txt (textG most d).1) (B.set i (Cl (textG most d).2)) := by
  have e1 := draw_at (most + 1) h (by omega) (by omega)
  have i1 : I62 (most + 1) = true := i62 (by omega) (by omega)
  have v0 := drawN_ge (most + 1) d (by omega)
  have v1 := drawN_lt (most + 1) d (by omega)
  have i2 : I62 (drawN (most + 1) d) = true := i62 (by omega) (by omega)
  simp only [G__law_text]
  refine run_is rfl ?_
  simp only [b__law_text, List.map_cons, List.map_nil, List.length_cons, List.length_nil, Nat.reduceAdd, Nat.reduceSub, List.replicate_succ, List.replicate_zero, List.cons_append, List.nil_append, Nat.zero_add, Nat.sub_self, List.append_nil]
  have lc := lcGen nat chr (bd := bdN 2) (f := m2 gIx (mCall G__law_signs mNil) (mCall G__law_draw (mCons (mVar 0) (mCons (mC (.int 95)) mNil)))) (ks := [2]) (xs := List.range (drawN (most + 1) d).toNat) (E := [.val (.box i), .val (.int most), .un]) (B := B.set i (Cl (drawD (most + 1) d))) (B1 := B)
    (fi := mRange1 (mCons (mCall G__law_draw (mCons (mVar 0) (mCons (m2 gAdd (mVar 1) (mC (.int 1))) mNil))) mNil)) (signG 95) (h.set _) (by simp [i1, i2, e1, intsU_map, nat]) (by simp) (by simp) (by simp; omega)
    (fun x B d _ hd => BdIs_of (E := [.val (.box i), .val (.int most), .val (nat x)]) (by simp) ⟨by simp, _, sign_at 95 hd (E := [.val (.box i), .val (.int most), .val (nat x)]) (he := rfl), rfl⟩)
  simp only [List.length_range, List.set_set] at lc
  have lce : lc__law_text_0 G__law_draw G__law_signs [.val (.box i), .val (.int most), .un] B = _ := lc
  have hj := join_chr (ls := (gen (signG 95) (drawN (most + 1) d).toNat (drawD (most + 1) d)).1) (by rw [gen_len]; omega)
  refine okP_lock fun LQ hLQ => ?_
  simp [lce, hj]
  refine hLQ _ _ _ ?_
  clear hLQ LQ
  exact ret_is' rfl rfl
end LawW
/-! S51p: a tree is the same as itself. -/
namespace LawW
open PySem L2 QB PySem.NumText
def PlU : Nat → U → Prop
  | _, .non => True
  | _, .bl _ => True
  | _, .int _ => True
  | _, .str _ => True
  | n + 1, .lst xs => xs.length ≤ 16777216 ∧ ∀ x ∈ xs, PlU n x
  | n + 1, .tup xs => xs.length ≤ 16777216 ∧ ∀ x ∈ xs, PlU n x
  | n + 1, .dct ks vs => ks.length = vs.length ∧ (∀ k ∈ ks, ∃ z, k = .inr (ofC z)) ∧ ks.length ≤ 16777216 ∧ ∀ v ∈ vs, PlU n v
  | _, _ => False
theorem lookU_mem {k : Key} : ∀ {ks : List Key} {us : List U}, ks.length = us.length → k ∈ ks → ∃ u ∈ us, lookU ks us k = some u
  | [], us, _, h => by cases h
  | k' :: ks, [], h, _ => by cases h
  | k' :: ks, u :: us, h, hk => by
    unfold lookU
    by_cases e : k' = k
    · exact ⟨u, List.mem_cons_self .., by rw [if_pos e]⟩
    · rw [if_neg e]
      rcases List.mem_cons.mp hk with rfl | hk
      · exact absurd rfl e
      · obtain ⟨v, h1, h2⟩ := lookU_mem (by simpa using h) hk
        exact ⟨v, List.mem_cons_of_mem _ h1, h2⟩
theorem same_non (n : Nat) (B : Bx) : G__law_same (n + 1) [.non, .non] B = .ok (.bl true) B := by
  simp only [G__law_same]
  simp [runBody, b__law_same]
theorem same_bl (n : Nat) (b : Bool) (B : Bx) : G__law_same (n + 1) [.bl b, .bl b] B = .ok (.bl true) B := by
  simp only [G__law_same]
  simp [runBody, b__law_same]
theorem same_int (n : Nat) (a b : Int) (B : Bx) : G__law_same (n + 1) [.int a, .int b] B = .ok (.bl (a == b)) B := by
  simp only [G__law_same]
  simp [runBody, b__law_same]
theorem same_str (n : Nat) (a b : List Nat) (B : Bx) : G__law_same (n + 1) [.str (ofC a), .str (ofC b)] B = .ok (.bl (a == b)) B := by
  simp only [G__law_same]
  simp [runBody, b__law_same]
theorem same_lst (n : Nat) (xs : List U) (hl : xs.length ≤ 16777216) (B : Bx) (ih : ∀ x ∈ xs, G__law_same n [x, x] B = .ok (.bl true) B) :
    G__law_same (n + 1) [.lst xs, .lst xs] B = .ok (.bl true) B := by
  simp only [G__law_same]
  refine run_is rfl ?_
  simp only [b__law_same, List.map_cons, List.map_nil, List.length_cons, List.length_nil, Nat.reduceAdd, Nat.reduceSub, List.replicate_succ, List.replicate_zero, List.cons_append, List.nil_append, Nat.zero_add, Nat.sub_self, List.append_nil]
  have i1 : I62 (xs.length : Int) = true := i62 (by omega) (by omega)
  have lc := mLc_all nat (fun _ => .bl true) (bd := bdN 2) (f := mCall (G__law_same n) (mCons (m2 gIx (mVar 0) (mVar 2)) (mCons (m2 gIx (mVar 1) (mVar 2)) mNil))) (ks := [2]) (xs := List.range xs.length) (E := [.val (.lst xs), .val (.lst xs), .un, .un]) (B := B)
    (fi := mRange1 (mCons (m1 gLen (mVar 1)) mNil)) (by simp [i1, hl, intsU_map, nat]) (by simp) (by simp) (by simp; omega)
    (fun k hk => BdIs_of (E := [.val (.lst xs), .val (.lst xs), .val (nat k), .un]) (by simp) ⟨by simp, by
      have hk : k < xs.length := List.mem_range.mp hk
      have e := ih xs[k] (List.getElem_mem hk)
      have a : atI xs (k : Int) = some xs[k] := by rw [atI_of (k := k) rfl, List.getElem?_eq_getElem hk]
      unfold Elt
      simp [nat, a, e]⟩)
  have lce : lc__law_same_1 (G__law_same n) [.val (.lst xs), .val (.lst xs), .un, .un] B = _ := lc
  have ea := e_all' (l := List.range xs.length) (p := fun _ => true)
  refine okP_seqT ?_
  refine okP_ift0 (by simp; done) ?_
  refine okP_seqT ?_
  refine okP_iff0 (by simp; done) ?_
  refine okP_lock fun LQ hLQ => ?_
  simp only [e_sNext, OkP_ok]
  refine hLQ _ _ _ (then_nx ?_)
  refine okP_lock fun LQ hLQ => ?_
  simp [lce, hl, ea]
  refine hLQ _ _ _ ?_
  clear hLQ LQ
  exact then_rt (ret_is' (by simp) rfl)
theorem same_tup (n : Nat) (xs : List U) (hl : xs.length ≤ 16777216) (B : Bx) (ih : ∀ x ∈ xs, G__law_same n [x, x] B = .ok (.bl true) B) :
    G__law_same (n + 1) [.tup xs, .tup xs] B = .ok (.bl true) B := by
  simp only [G__law_same]
  refine run_is rfl ?_
  simp only [b__law_same, List.map_cons, List.map_nil, List.length_cons, List.length_nil, Nat.reduceAdd, Nat.reduceSub, List.replicate_succ, List.replicate_zero, List.cons_append, List.nil_append, Nat.zero_add, Nat.sub_self, List.append_nil]
  have i1 : I62 (xs.length : Int) = true := i62 (by omega) (by omega)
  have lc := mLc_all nat (fun _ => .bl true) (bd := bdN 2) (f := mCall (G__law_same n) (mCons (m2 gIx (mVar 0) (mVar 2)) (mCons (m2 gIx (mVar 1) (mVar 2)) mNil))) (ks := [2]) (xs := List.range xs.length) (E := [.val (.tup xs), .val (.tup xs), .un, .un]) (B := B)
    (fi := mRange1 (mCons (m1 gLen (mVar 1)) mNil)) (by simp [i1, hl, intsU_map, nat]) (by simp) (by simp) (by simp; omega)
    (fun k hk => BdIs_of (E := [.val (.tup xs), .val (.tup xs), .val (nat k), .un]) (by simp) ⟨by simp, by
      have hk : k < xs.length := List.mem_range.mp hk
      have e := ih xs[k] (List.getElem_mem hk)
      have a : atI xs (k : Int) = some xs[k] := by rw [atI_of (k := k) rfl, List.getElem?_eq_getElem hk]
      unfold Elt
      simp [nat, a, e]⟩)
  have lce : lc__law_same_1 (G__law_same n) [.val (.tup xs), .val (.tup xs), .un, .un] B = _ := lc
  have ea := e_all' (l := List.range xs.length) (p := fun _ => true)
  refine okP_seqT ?_
  refine okP_ift0 (by simp; done) ?_
  refine okP_seqT ?_
  refine okP_iff0 (by simp; done) ?_
  refine okP_lock fun LQ hLQ => ?_
  simp only [e_sNext, OkP_ok]
  refine hLQ _ _ _ (then_nx ?_)
  refine okP_lock fun LQ hLQ => ?_
  simp [lce, hl, ea]
  refine hLQ _ _ _ ?_
  clear hLQ LQ
  exact then_rt (ret_is' (by simp) rfl)
theorem same_dct (n : Nat) (ks : List Key) (vs : List U) (h1 : ks.length = vs.length) (h2 : ∀ k ∈ ks, ∃ z, k = .inr (ofC z)) (hl : ks.length ≤ 16777216) (B : Bx) (ih : ∀ x ∈ vs, G__law_same n [x, x] B = .ok (.bl true) B) :
    G__law_same (n + 1) [.dct ks vs, .dct ks vs] B = .ok (.bl true) B := by
  simp only [G__law_same]
  refine run_is rfl ?_
  simp only [b__law_same, List.map_cons, List.map_nil, List.length_cons, List.length_nil, Nat.reduceAdd, Nat.reduceSub, List.replicate_succ, List.replicate_zero, List.cons_append, List.nil_append, Nat.zero_add, Nat.sub_self, List.append_nil]
  have lc := mLc_all uKey (fun _ => .bl true) (bd := bdN 3) (f := mAndV (m2 (gDIn false) (mVar 3) (mVar 0)) (mCall (G__law_same n) (mCons (m2 gDIx (mVar 0) (mVar 3)) (mCons (m2 gDIx (mVar 1) (mVar 3)) mNil)))) (ks := [3]) (xs := ks) (E := [.val (.dct ks vs), .val (.dct ks vs), .un, .un]) (B := B)
    (fi := mItD keysD (mVar 1)) (by simp [keysD]) (by simp) (by simp) (by omega)
    (fun k hk => BdIs_of (E := [.val (.dct ks vs), .val (.dct ks vs), .un, .val (uKey k)]) (by simp) ⟨by simp, by
      have hh : hasK ks k = true := hasK_iff.mpr hk
      obtain ⟨v, hv, e1⟩ := lookU_mem h1 hk
      obtain ⟨z, rfl⟩ := h2 k hk
      have e := ih v hv
      unfold Elt
      simp [uKey, gDIn, gDIx, keyU, hh, e1, e]⟩)
  have lce : lc__law_same_0 (G__law_same n) [.val (.dct ks vs), .val (.dct ks vs), .un, .un] B = _ := lc
  have ea := e_all' (l := ks) (p := fun _ => true)
  refine okP_seqT ?_
  refine okP_iff0 (by simp; done) ?_
  refine okP_lock fun LQ hLQ => ?_
  simp only [e_sNext, OkP_ok]
  refine hLQ _ _ _ (then_nx ?_)
  refine okP_seqT ?_
  refine okP_ift0 (by simp; done) ?_
  refine okP_seqT ?_
  refine okP_iff0 (by simp [gLenD]; done) ?_
  refine okP_lock fun LQ hLQ => ?_
  simp only [e_sNext, OkP_ok]
  refine hLQ _ _ _ (then_nx ?_)
  refine okP_lock fun LQ hLQ => ?_
  simp [lce, hl, ea]
  refine hLQ _ _ _ ?_
  clear hLQ LQ
  exact then_rt (ret_is' (by simp) rfl)
theorem same_ok : ∀ (n : Nat) (u : U) (B : Bx), PlU n u → G__law_same (n + 1) [u, u] B = .ok (.bl true) B
  | n, .non, B, _ => same_non n B
  | n, .bl b, B, _ => same_bl n b B
  | n, .int i, B, _ => by rw [same_int]; simp
  | n, .str z, B, _ => by rw [← ofC_codes z, same_str]; simp
  | n + 1, .lst xs, B, h => same_lst (n + 1) xs h.1 B fun x hx => same_ok n x B (h.2 x hx)
  | n + 1, .tup xs, B, h => same_tup (n + 1) xs h.1 B fun x hx => same_ok n x B (h.2 x hx)
  | n + 1, .dct ks vs, B, h => same_dct (n + 1) ks vs h.1 h.2.1 h.2.2.1 B fun x hx => same_ok n x B (h.2.2.2 x hx)
  | 0, .lst _, _, h => h.elim
  | 0, .tup _, _, h => h.elim
  | 0, .dct _ _, _, h => h.elim
  | 0, .box _, _, h => h.elim
  | n + 1, .box _, _, h => h.elim
  | 0, .scr _, _, h => h.elim
  | n + 1, .scr _, _, h => h.elim
end LawW
/-! S51q: parts of paths, folders. -/
namespace LawW
open PySem L2 QB PySem.NumText
def partS : List (List Nat) := [[97], [98], [97, 98], [97, 33]]
def partG (d : Dk) : List Nat × Dk :=
  if drawN 2 d = 0 then (partS.getD (drawN 4 (drawD 2 d)).toNat [], drawD 4 (drawD 2 d))
  else
    (if (gen (signG 94) (1 + drawN 3 (drawD 2 d)).toNat (drawD 3 (drawD 2 d))).1 = [46] ∨ (gen (signG 94) (1 + drawN 3 (drawD 2 d)).toNat (drawD 3 (drawD 2 d))).1 = [46, 46] then
      (gen (signG 94) (1 + drawN 3 (drawD 2 d)).toNat (drawD 3 (drawD 2 d))).1 ++ [97] else (gen (signG 94) (1 + drawN 3 (drawD 2 d)).toNat (drawD 3 (drawD 2 d))).1,
     (gen (signG 94) (1 + drawN 3 (drawD 2 d)).toNat (drawD 3 (drawD 2 d))).2)
theorem part_at {B : Bx} {i : Nat} {d : Dk} (h : At B i d) : G__law_part [.box i] B = .ok (txt (partG d).1) (B.set i (Cl (partG d).2)) := by
  have e1 := draw_at 2 h
  simp only [G__law_part]
  refine run_is rfl ?_
  simp only [b__law_part, List.map_cons, List.map_nil, List.length_cons, List.length_nil, Nat.reduceAdd, Nat.reduceSub, List.replicate_succ, List.replicate_zero, List.cons_append, List.nil_append, Nat.zero_add, Nat.sub_self, List.append_nil]
  by_cases h0 : drawN 2 d = 0
  · have e2 := draw_at 4 (h.set (drawD 2 d))
    have v0 := drawN_ge 4 (drawD 2 d)
    have v1 := drawN_lt 4 (drawD 2 d)
    have hG : partG d = (partS.getD (drawN 4 (drawD 2 d)).toNat [], drawD 4 (drawD 2 d)) := by rw [partG, if_pos h0]
    rw [hG]
    generalize drawN 4 (drawD 2 d) = v at *
    have hv : v = 0 ∨ v = 1 ∨ v = 2 ∨ v = 3 := by omega
    refine okP_seqT ?_
    refine okP_ift (by simp [e1, h0] <;> first | exact ⟨rfl, rfl⟩ | rfl) ?_
    refine okP_lock fun LQ hLQ => ?_
    rcases hv with rfl | rfl | rfl | rfl <;> simp [e2] <;> exact hLQ _ _ _ (then_rt (ret_is' rfl rfl))
  · have e2 := draw_at 3 (h.set (drawD 2 d))
    have v0 := drawN_ge 3 (drawD 2 d)
    have v1 := drawN_lt 3 (drawD 2 d)
    rw [partG, if_neg h0]
    generalize hd2 : drawD 3 (drawD 2 d) = d2 at *
    generalize drawN 3 (drawD 2 d) = v at *
    have i1 : I62 (1 + v) = true := i62 (by omega) (by omega)
    refine okP_seqT ?_
    refine okP_iff (by simp [e1, h0] <;> first | exact ⟨rfl, rfl⟩ | rfl) ?_
    refine okP_lock fun LQ hLQ => ?_
    simp only [e_sNext, OkP_ok]
    refine hLQ _ _ _ (then_nx ?_)
    clear hLQ LQ
    have lc := lcGen nat chr (bd := bdN 2) (f := m2 gIx (mCall G__law_signs mNil) (mCall G__law_draw (mCons (mVar 0) (mCons (mC (.int 94)) mNil)))) (ks := [2]) (xs := List.range (1 + v).toNat) (E := [.val (.box i), .un, .un]) (B := B.set i (Cl d2)) (B1 := B.set i (Cl (drawD 2 d)))
      (fi := mRange1 (mCons (m2 gAdd (mC (.int 1)) (mCall G__law_draw (mCons (mVar 0) (mCons (mC (.int 3)) mNil)))) mNil)) (signG 94) (h.set _) (by simp [i1, e2, intsU_map, nat]) (by simp) (by simp) (by simp; omega)
      (fun x B d _ hd => BdIs_of (E := [.val (.box i), .un, .val (nat x)]) (by simp) ⟨by simp, _, sign_at 94 hd (E := [.val (.box i), .un, .val (nat x)]) (he := rfl), rfl⟩)
    simp only [List.length_range, List.set_set] at lc
    have lce : lc__law_part_0 G__law_draw G__law_signs [.val (.box i), .un, .un] (B.set i (Cl (drawD 2 d))) = _ := lc
    have hj := join_chr (ls := (gen (signG 94) (1 + v).toNat d2).1) (by rw [gen_len]; omega)
    have ql := gen_len (signG 94) (1 + v).toNat d2
    generalize gen (signG 94) (1 + v).toNat d2 = q at *
    have ql2 : q.1.length ≤ 16777215 := by omega
    refine okP_seqL fun LQ hLQ => ?_
    simp [lce, hj]
    refine hLQ _ _ _ (then_nx ?_)
    clear hLQ LQ
    refine okP_seqT ?_
    by_cases hp : q.1 = [46] ∨ q.1 = [46, 46]
    · rw [if_pos hp]
      refine okP_ift0 (by rcases hp with hp | hp <;> simp [hp]; done) ?_
      refine okP_lock fun LQ hLQ => ?_
      simp [ql2]
      refine hLQ _ _ _ ?_
      clear hLQ LQ
      exact then_rt (ret_is' rfl rfl)
    · rw [if_neg hp]
      rw [not_or] at hp
      refine okP_iff0 (by simp [Ne.symm hp.1, Ne.symm hp.2]; done) ?_
      refine okP_lock fun LQ hLQ => ?_
      simp only [e_sNext, OkP_ok]
      refine hLQ _ _ _ (then_nx ?_)
      clear hLQ LQ
      refine okP_lock fun LQ hLQ => ?_
      simp
      refine hLQ _ _ _ ?_
      clear hLQ LQ
      exact ret_is' rfl rfl
def PartOk (p : List Nat) : Prop := p ≠ [] ∧ p.length ≤ 4 ∧ 47 ∉ p ∧ p ≠ [46] ∧ p ≠ [46, 46]
theorem sg94 : ∀ k : Fin 94, sgs.getD k.val 0 ≠ 47 := by decide +kernel
theorem sign_no (d : Dk) : (signG 94 d).1 ≠ 47 := by
  have h0 := drawN_ge 94 d
  have h1 := drawN_lt 94 d
  exact sg94 ⟨(drawN 94 d).toNat, by omega⟩
theorem part_good (d : Dk) : PartOk (partG d).1 := by
  by_cases h0 : drawN 2 d = 0
  · rw [partG, if_pos h0]
    have v0 := drawN_ge 4 (drawD 2 d)
    have v1 := drawN_lt 4 (drawD 2 d)
    generalize drawN 4 (drawD 2 d) = v at *
    have hv : v = 0 ∨ v = 1 ∨ v = 2 ∨ v = 3 := by omega
    rcases hv with rfl | rfl | rfl | rfl <;> simp [PartOk, partS]
  · rw [partG, if_neg h0]
    have v0 := drawN_ge 3 (drawD 2 d)
    have v1 := drawN_lt 3 (drawD 2 d)
    have hl := gen_len (signG 94) (1 + drawN 3 (drawD 2 d)).toNat (drawD 3 (drawD 2 d))
    have hn := gen_all (P := fun c => c ≠ 47) sign_no (1 + drawN 3 (drawD 2 d)).toNat (drawD 3 (drawD 2 d))
    generalize gen (signG 94) (1 + drawN 3 (drawD 2 d)).toNat (drawD 3 (drawD 2 d)) = q at *
    have hm : 47 ∉ q.1 := fun z => hn 47 z rfl
    have hne : q.1 ≠ [] := by intro z; rw [z] at hl; simp at hl; omega
    by_cases hp : q.1 = [46] ∨ q.1 = [46, 46]
    · simp only [if_pos hp]
      rcases hp with hp | hp <;> rw [hp] <;> simp [PartOk]
    · simp only [if_neg hp]
      rw [not_or] at hp
      exact ⟨hne, by omega, hm, hp.1, hp.2⟩
end LawW
/-! S51r: folders of files. -/
namespace LawW
open PySem L2 QB PySem.NumText
@[simp] theorem lit_sl : Str.ofString "/" = ofC [47] := by decide +kernel
def keyC (l : List Nat) : Key := .inr (ofC l)
def optT : Option (List Nat) → U
  | none => .non
  | some t => txt t
abbrev Ks := List (List Nat)
abbrev Vs := List (Option (List Nat))
def dctU (ks : Ks) (vs : Vs) : U := .dct (ks.map keyC) (vs.map optT)
def valC : Ks → Vs → List Nat → Option (List Nat)
  | k' :: ks, v :: vs, k => if k' = k then v else valC ks vs k
  | _, _, _ => none
@[simp] theorem keyC_inj {a b : List Nat} : keyC a = keyC b ↔ a = b := by simp [keyC]
theorem look_ok : ∀ {ks : Ks} {vs : Vs} {k : List Nat}, ks.length = vs.length → k ∈ ks → lookU (ks.map keyC) (vs.map optT) (keyC k) = some (optT (valC ks vs k))
  | [], vs, k, _, h => by cases h
  | k' :: ks, [], k, h, _ => by cases h
  | k' :: ks, v :: vs, k, h, hk => by
    simp only [List.map_cons, lookU, valC, keyC_inj]
    by_cases e : k' = k
    · rw [if_pos e, if_pos e]
    · rw [if_neg e, if_neg e]
      rcases List.mem_cons.mp hk with rfl | hk
      · exact absurd rfl e
      · exact look_ok (by simpa using h) hk
theorem has_ok (ks : Ks) (k : List Nat) : hasK (ks.map keyC) (keyC k) = decide (k ∈ ks) := by
  rw [Bool.eq_iff_iff, hasK_iff, decide_eq_true_iff, List.mem_map]
  constructor
  · rintro ⟨q, h, e⟩
    rw [← keyC_inj.mp e]; exact h
  · exact fun h => ⟨k, h, rfl⟩
def sortC (ks : Ks) : Ks := (sortS (ks.map ofC)).map codes
theorem sortC_of (ks : Ks) : (sortC ks).map ofC = sortS (ks.map ofC) := by
  unfold sortC
  rw [List.map_map]
  conv => rhs; rw [← List.map_id (sortS (ks.map ofC))]
  apply List.map_congr_left
  intro a _
  simp
theorem sortC_mem (ks : Ks) (k : List Nat) : k ∈ sortC ks ↔ k ∈ ks := by
  unfold sortC
  rw [List.mem_map]
  constructor
  · rintro ⟨a, h, rfl⟩
    rw [mem_sortS, List.mem_map] at h
    obtain ⟨b, hb, rfl⟩ := h
    simpa using hb
  · intro h
    exact ⟨ofC k, mem_sortS.mpr (List.mem_map.mpr ⟨k, h, rfl⟩), by simp⟩
theorem sortC_len (ks : Ks) : (sortC ks).length = ks.length := by unfold sortC; rw [List.length_map, len_sortS, List.length_map]
theorem txt_maps (ks : Ks) : ks.map txt = (ks.map ofC).map U.str := by rw [List.map_map]; rfl
theorem e_sortD {ks : Ks} {vs : Vs} (h : ks.length < 64) : gSortD (dctU ks vs) = some (.fr (.lst ((sortC ks).map txt))) := by
  have e : ks.map keyC = (ks.map ofC).map Sum.inr := by rw [List.map_map]; rfl
  unfold gSortD dctU
  simp only [e, txtKs_map]
  rw [if_pos (by simpa using h), txt_maps, sortC_of]
def foldersC (ks : Ks) (vs : Vs) : Ks := [47] :: (sortC ks).filter fun k => decide (valC ks vs k = none)
theorem isNon_optT (o : Option (List Nat)) : QB.isNon (optT o) = decide (o = none) := by cases o <;> simp [optT, QB.isNon, txt]
theorem view_optT (o : Option (List Nat)) (B : Bx) : viewU (optT o) B = some (optT o) := by cases o <;> rfl
theorem folders_at {ks : Ks} {vs : Vs} {u : U} {B : Bx} (hv : viewU u B = some (dctU ks vs)) (hl : ks.length = vs.length) (h64 : ks.length < 64) : G__law_folders [u] B = .ok (.lst ((foldersC ks vs).map txt)) B := by
  simp only [G__law_folders]
  refine run_is rfl ?_
  simp only [b__law_folders, List.map_cons, List.map_nil, List.length_cons, List.length_nil, Nat.reduceAdd, Nat.reduceSub, List.replicate_succ, List.replicate_zero, List.cons_append, List.nil_append, Nat.zero_add, Nat.sub_self, List.append_nil]
  have es := e_sortD (vs := vs) h64
  have lc := mLc_if txt (fun k => decide (valC ks vs k = none)) txt (bd := bdN 1) (t := toT (m2 (gIs false) (m2 gDIx (mVar 0) (mVar 1)) (mC .non))) (f := mVar 1) (ks := [1]) (xs := sortC ks) (E := [.val u, .un]) (B := B)
    (fi := mItV (m1 gSortD (mVar 0))) (by simp [hv, es]) (by simp) (by simp) (by rw [sortC_len]; omega)
    (fun k hk => BdIs_of (E := [.val u, .val (txt k)]) (by simp) ⟨by simp, by
      have hk : k ∈ ks := (sortC_mem ks k).mp hk
      have e1 := look_ok hl hk
      have e2 : lookU (ks.map keyC) (vs.map optT) (Sum.inr (ofC k)) = some (optT (valC ks vs k)) := e1
      have en := isNon_optT (valC ks vs k)
      unfold Tst
      simp [hv, dctU, gDIx, txt, e2, en, view_optT], fun _ => by unfold Elt; simp⟩)
  have lce : lc__law_folders_0 [.val u, .un] B = _ := lc
  have fl : 1 + ((sortC ks).filter fun k => decide (valC ks vs k = none)).length ≤ 16777216 := by
    have := List.length_filter_le (fun k => decide (valC ks vs k = none)) (sortC ks)
    rw [sortC_len] at this
    omega
  refine okP_lock fun LQ hLQ => ?_
  simp [lce, fl]
  refine hLQ _ _ _ ?_
  clear hLQ LQ
  exact ret_is' (by simp [foldersC, txt]) rfl
def joinP (f p : List Nat) : List Nat := if f = [47] then 47 :: p else f ++ 47 :: p
theorem joined_at {f p : List Nat} (hf : f.length ≤ 10000) (hp : p.length ≤ 10000) (B : Bx) : G__law_joined [txt f, txt p] B = .ok (txt (joinP f p)) B := by
  have l1 : 1 + p.length ≤ 16777216 := by omega
  have l2 : f.length ≤ 16777215 := by omega
  have l4 : f.length + (1 + p.length) ≤ 16777216 := by omega
  have l5 : p.length ≤ 16777215 := by omega
  have l3 : f.length + 1 + p.length ≤ 16777216 := by omega
  simp only [G__law_joined]
  refine run_is rfl ?_
  simp only [b__law_joined, List.map_cons, List.map_nil, List.length_cons, List.length_nil, Nat.reduceAdd, Nat.reduceSub, List.replicate_succ, List.replicate_zero, List.cons_append, List.nil_append, Nat.zero_add, Nat.sub_self, List.append_nil]
  by_cases h : f = [47]
  · subst h
    refine okP_seqT ?_
    refine okP_ift0 (by simp [txt]; done) ?_
    refine okP_lock fun LQ hLQ => ?_
    simp [txt, l1]
    refine hLQ _ _ _ ?_
    clear hLQ LQ
    exact then_rt (ret_is' (by simp [joinP, txt]) rfl)
  · refine okP_seqT ?_
    refine okP_iff0 (by simp [txt, h]; done) ?_
    refine okP_lock fun LQ hLQ => ?_
    simp only [e_sNext, OkP_ok]
    refine hLQ _ _ _ (then_nx ?_)
    clear hLQ LQ
    refine okP_lock fun LQ hLQ => ?_
    simp [txt, l1, l2, l3, l4, l5]
    refine hLQ _ _ _ ?_
    clear hLQ LQ
    exact ret_is' (by simp [joinP, h, txt]) rfl
end LawW
/-! S51s: files. -/
namespace LawW
open PySem L2 QB PySem.NumText
/-- a box behind the others, the deck at i -/
def Bf (B : Bx) (i : Nat) (d : Dk) (ts : List Cell) : Bx := B.set i (Cl d) ++ ts
theorem Bf_at {B : Bx} {i : Nat} (h : i < B.length) (d : Dk) (ts : List Cell) : At (Bf B i d ts) i d := by
  unfold At Bf
  rw [List.getElem?_append_left (by simpa using h), List.getElem?_set_self h]
theorem Bf_j (B : Bx) (i : Nat) (d : Dk) (c : Cell) (ts : List Cell) : (Bf B i d (c :: ts))[B.length]? = some c := by
  unfold Bf
  rw [List.getElem?_append_right (by simp)]
  simp
theorem Bf_j2 (B : Bx) (i : Nat) (d : Dk) (c c2 : Cell) (ts : List Cell) : (Bf B i d (c :: c2 :: ts))[B.length + 1]? = some c2 := by
  unfold Bf
  rw [List.getElem?_append_right (by simp)]
  simp
theorem Bf_set {B : Bx} {i : Nat} (h : i < B.length) (d d' : Dk) (ts : List Cell) : (Bf B i d ts).set i (Cl d') = Bf B i d' ts := by
  unfold Bf
  rw [List.set_append_left _ _ (by simpa using h), List.set_set]
theorem Bf_setj (B : Bx) (i : Nat) (d : Dk) (c c' : Cell) (ts : List Cell) : (Bf B i d (c :: ts)).set B.length c' = Bf B i d (c' :: ts) := by
  unfold Bf
  rw [List.set_append_right _ _ (by simp)]
  simp
theorem Bf_setj2 (B : Bx) (i : Nat) (d : Dk) (c c2 c' : Cell) (ts : List Cell) : (Bf B i d (c :: c2 :: ts)).set (B.length + 1) c' = Bf B i d (c :: c' :: ts) := by
  unfold Bf
  rw [List.set_append_right _ _ (by simp)]
  simp
theorem Bf_app (B : Bx) (i : Nat) (d : Dk) (ts us : List Cell) : Bf B i d ts ++ us = Bf B i d (ts ++ us) := by unfold Bf; rw [List.append_assoc]
theorem Bf_len (B : Bx) (i : Nat) (d : Dk) (ts : List Cell) : (Bf B i d ts).length = B.length + ts.length := by unfold Bf; simp
theorem Bf_0 {B : Bx} {i : Nat} {d : Dk} (h : At B i d) (ts : List Cell) : B ++ ts = Bf B i d ts := by unfold Bf; rw [h.same]
abbrev Fs := Ks × Vs × Dk
def fileStep (s : Fs) : Fs :=
  if joinP ((foldersC s.1 s.2.1).getD (drawN (foldersC s.1 s.2.1).length s.2.2).toNat []) (partG (drawD (foldersC s.1 s.2.1).length s.2.2)).1 ∈ s.1 then (s.1, s.2.1, (partG (drawD (foldersC s.1 s.2.1).length s.2.2)).2)
  else if drawN 2 (partG (drawD (foldersC s.1 s.2.1).length s.2.2)).2 = 0 then
    (s.1 ++ [joinP ((foldersC s.1 s.2.1).getD (drawN (foldersC s.1 s.2.1).length s.2.2).toNat []) (partG (drawD (foldersC s.1 s.2.1).length s.2.2)).1],
     s.2.1 ++ [some (textG 4 (drawD 2 (partG (drawD (foldersC s.1 s.2.1).length s.2.2)).2)).1],
     (textG 4 (drawD 2 (partG (drawD (foldersC s.1 s.2.1).length s.2.2)).2)).2)
  else
    (s.1 ++ [joinP ((foldersC s.1 s.2.1).getD (drawN (foldersC s.1 s.2.1).length s.2.2).toNat []) (partG (drawD (foldersC s.1 s.2.1).length s.2.2)).1],
     s.2.1 ++ [none], drawD 2 (partG (drawD (foldersC s.1 s.2.1).length s.2.2)).2)
def filesN : Nat → Fs → Fs
  | 0, s => s
  | n + 1, s => filesN n (fileStep s)
def GoodP (p : List Nat) : Prop := ∀ q ∈ splitC 47 p, q ≠ [46] ∧ q ≠ [46, 46]
def StOk (n : Nat) (s : Fs) : Prop := s.1.length = s.2.1.length ∧ s.1.length ≤ n ∧ ∀ k ∈ s.1, GoodP k ∧ k.length ≤ 5 * n
theorem good_top : GoodP [47] := by
  intro q hq
  have e : splitC 47 [47] = [[], []] := rfl
  rw [e] at hq
  simp at hq
  subst hq
  simp
theorem good_join {f p : List Nat} (hf : GoodP f) (hp : PartOk p) : GoodP (joinP f p) := by
  obtain ⟨_, _, p3, p4, p5⟩ := hp
  have hs := splitC_no 47 p p3
  unfold joinP
  split
  · intro q hq
    have e : splitC 47 (47 :: p) = [] :: splitC 47 p := by rw [splitC, if_pos rfl]
    rw [e, hs] at hq
    simp at hq
    rcases hq with rfl | rfl
    · simp
    · exact ⟨p4, p5⟩
  · intro q hq
    rw [splitC_app, hs, List.mem_append] at hq
    rcases hq with h | h
    · exact hf q h
    · rw [List.mem_singleton] at h; subst h; exact ⟨p4, p5⟩
theorem folders_mem {ks : Ks} {vs : Vs} {f : List Nat} (h : f ∈ foldersC ks vs) : f = [47] ∨ f ∈ ks := by
  unfold foldersC at h
  rcases List.mem_cons.mp h with h | h
  · exact .inl h
  · exact .inr ((sortC_mem _ _).mp (List.mem_filter.mp h).1)
theorem folders_ne (ks : Ks) (vs : Vs) : 0 < (foldersC ks vs).length := by simp [foldersC]
theorem folders_le (ks : Ks) (vs : Vs) : (foldersC ks vs).length ≤ ks.length + 1 := by
  have := List.length_filter_le (fun k => decide (valC ks vs k = none)) (sortC ks)
  rw [sortC_len] at this
  simp only [foldersC, List.length_cons]
  omega
theorem getD_mem {l : List (List Nat)} {k : Nat} (h : k < l.length) : l.getD k [] ∈ l := by
  rw [List.getD_eq_getElem?_getD, List.getElem?_eq_getElem h]
  exact List.getElem_mem h
theorem draw_in {l : List (List Nat)} (h : 0 < l.length) (d : Dk) : (drawN l.length d).toNat < l.length := by
  have h0 := drawN_ge l.length d (by omega)
  have h1 := drawN_lt l.length d (by omega)
  omega
theorem joinP_len {f p : List Nat} {n : Nat} (hf : f = [47] ∨ f.length ≤ 5 * n) (hp : p.length ≤ 4) : (joinP f p).length ≤ 5 * (n + 1) := by
  unfold joinP
  split
  · simp; omega
  · next h =>
    rcases hf with h2 | h2
    · exact absurd h2 h
    · simp; omega
theorem step_ok {n : Nat} {s : Fs} (h : StOk n s) : StOk (n + 1) (fileStep s) := by
  obtain ⟨h1, h2, h3⟩ := h
  obtain ⟨ks, vs, d⟩ := s
  simp only at h1 h2 h3
  unfold fileStep
  simp only
  have hm := getD_mem (draw_in (folders_ne ks vs) d)
  generalize (foldersC ks vs).getD (drawN (foldersC ks vs).length d).toNat [] = f at *
  have hp := part_good (drawD (foldersC ks vs).length d)
  generalize partG (drawD (foldersC ks vs).length d) = q at *
  have hf : GoodP f ∧ (f = [47] ∨ f.length ≤ 5 * n) := by
    rcases folders_mem hm with rfl | h
    · exact ⟨good_top, .inl rfl⟩
    · exact ⟨(h3 f h).1, .inr (h3 f h).2⟩
  have g := good_join hf.1 hp
  have gl := joinP_len hf.2 hp.2.1
  have new : ∀ k ∈ ks ++ [joinP f q.1], GoodP k ∧ k.length ≤ 5 * (n + 1) := by
    intro k hk
    rcases List.mem_append.mp hk with hk | hk
    · exact ⟨(h3 k hk).1, by have := (h3 k hk).2; omega⟩
    · rw [List.mem_singleton] at hk; subst hk; exact ⟨g, gl⟩
  split
  · exact ⟨h1, by simp only; omega, fun k hk => ⟨(h3 k hk).1, by have := (h3 k hk).2; omega⟩⟩
  · split
    · exact ⟨by simp [h1], by simp; omega, new⟩
    · exact ⟨by simp [h1], by simp; omega, new⟩
theorem putKs_new {ks : Ks} {p : List Nat} (h : p ∉ ks) : putKs (ks.map keyC) (keyC p) = (ks ++ [p]).map keyC := by
  unfold putKs
  rw [has_ok, if_neg (by simpa using h)]
  simp
theorem putVs_new {ks : Ks} {vs : List U} {p : List Nat} {u : U} (h : p ∉ ks) : putVs (ks.map keyC) vs (keyC p) u = vs ++ [u] := by
  unfold putVs
  rw [has_ok, if_neg (by simpa using h)]
theorem putKs_old {ks : Ks} {p : List Nat} : putKs ((ks ++ [p]).map keyC) (keyC p) = (ks ++ [p]).map keyC := by
  unfold putKs
  rw [has_ok, if_pos (by simp)]
theorem zip_keep {p : List Nat} {u : U} : ∀ {ks : Ks} {vs : List U}, ks.length = vs.length → p ∉ ks → List.zipWith (fun k' u' => if k' = keyC p then u else u') ((ks ++ [p]).map keyC) (vs ++ [.non]) = vs ++ [u]
  | [], [], _, _ => by simp
  | k :: ks, v :: vs, h, hn => by
    have h1 : ¬ k = p := fun e => hn (by rw [e]; exact List.mem_cons_self ..)
    have ih := zip_keep (u := u) (ks := ks) (vs := vs) (by simpa using h) (fun z => hn (List.mem_cons_of_mem _ z))
    simp only [List.cons_append, List.map_cons, List.zipWith_cons_cons, ih, keyC_inj, if_neg h1]
  | [], v :: vs, h, _ => by simp at h
  | k :: ks, [], h, _ => by simp at h
theorem putVs_old {ks : Ks} {vs : List U} {p : List Nat} {u : U} (hl : ks.length = vs.length) (h : p ∉ ks) : putVs ((ks ++ [p]).map keyC) (vs ++ [.non]) (keyC p) u = vs ++ [u] := by
  unfold putVs
  rw [has_ok, if_pos (by simp), zip_keep hl h]
end LawW
/-! S51t: the files are drawn. -/
namespace LawW
open PySem L2 QB PySem.NumText
@[simp] theorem view_txt (p : List Nat) (B : Bx) : viewU (txt p) B = some (txt p) := rfl
@[simp] theorem ku_txt (p : List Nat) : keyU (txt p) = some (keyC p) := rfl
def fcell (ks : Ks) (vs : Vs) : Cell := .dct (ks.map keyC) (vs.map optT)
theorem drawBf {B : Bx} {i : Nat} (h : i < B.length) (d : Dk) (ts : List Cell) (many : Int) (h0 : 0 < many := by decide) (hm : many ≤ 1500000000000000000000000000000000000000000000000000000000000 := by decide) :
    G__law_draw [.box i, .int many] (Bf B i d ts) = .ok (.int (drawN many d)) (Bf B i (drawD many d) ts) := by
  have e := draw_at many (Bf_at h d ts) h0 hm
  rwa [Bf_set h] at e
theorem partBf {B : Bx} {i : Nat} (h : i < B.length) (d : Dk) (ts : List Cell) : G__law_part [.box i] (Bf B i d ts) = .ok (txt (partG d).1) (Bf B i (partG d).2 ts) := by
  have e := part_at (Bf_at h d ts)
  rwa [Bf_set h] at e
theorem textBf {B : Bx} {i : Nat} (h : i < B.length) (d : Dk) (ts : List Cell) (most : Int) (h0 : 0 ≤ most := by decide) (h1 : most ≤ 1000 := by decide) :
    G__law_text [.box i, .int most] (Bf B i d ts) = .ok (txt (textG most d).1) (Bf B i (textG most d).2 ts) := by
  have e := text_at most (Bf_at h d ts) h0 h1
  rwa [Bf_set h] at e
theorem atI_txt {l : List (List Nat)} {v : Int} (h0 : 0 ≤ v) (h1 : v < l.length) : atI (l.map txt) v = some (txt (l.getD v.toNat [])) := by
  have hk : v.toNat < l.length := by omega
  rw [atI_of (k := v.toNat) (by omega), List.getElem?_map, List.getD_eq_getElem?_getD, List.getElem?_eq_getElem hk]
  rfl
theorem fbody_ok {B : Bx} {i n : Nat} (hi : i < B.length) {ks : Ks} {vs : Vs} {d : Dk} (hs : StOk n (ks, vs, d)) (hn : n < 60) (s3 s4 s5 : Sl) {Q : Fl → En → Bx → Prop}
    (hQ : ∀ s4 s5, Free s4 → Free s5 → Q .nx [.val (.box i), .val (.int 5), .val (.box B.length), s3, s4, s5] (Bf B i (fileStep (ks, vs, d)).2.2 [fcell (fileStep (ks, vs, d)).1 (fileStep (ks, vs, d)).2.1])) :
    OkP (lp__law_files_0 G__law_folders G__law_joined G__law_draw G__law_part G__law_text [.val (.box i), .val (.int 5), .val (.box B.length), s3, s4, s5] (Bf B i d [fcell ks vs])) Q := by
  obtain ⟨h1, h2, h3⟩ := hs
  simp only at h1 h2 h3
  have hv : viewU (.box B.length) (Bf B i d [fcell ks vs]) = some (dctU ks vs) := by
    have := Bf_j B i d (.dct (ks.map keyC) (vs.map optT)) []
    simp [this, fcell, dctU, Cell.view]
  have e1 := folders_at hv h1 (by omega)
  have fl := folders_le ks vs
  have fn := folders_ne ks vs
  have e2 := drawBf hi d [fcell ks vs] ((foldersC ks vs).length : Int) (by omega) (by omega)
  have v0 := drawN_ge ((foldersC ks vs).length : Int) d (by omega)
  have v1 := drawN_lt ((foldersC ks vs).length : Int) d (by omega)
  have e3 := atI_txt (l := foldersC ks vs) v0 v1
  have hm := getD_mem (draw_in fn d)
  have e4 := partBf hi (drawD (foldersC ks vs).length d) [fcell ks vs]
  have hp := part_good (drawD (foldersC ks vs).length d)
  unfold fileStep at hQ
  simp only at hQ
  generalize drawN (foldersC ks vs).length d = v at *
  generalize drawD (foldersC ks vs).length d = d1 at *
  generalize hf : (foldersC ks vs).getD v.toNat [] = f at *
  generalize partG d1 = q at *
  have fll : f.length ≤ 10000 := by
    rcases folders_mem hm with rfl | h
    · simp
    · have := (h3 f h).2; omega
  have e5 := fun B => joined_at (f := f) (p := q.1) fll (by have := hp.2.1; omega) B
  have e6 := has_ok ks (joinP f q.1)
  have fl2 : (foldersC ks vs).length ≤ 16777216 := by omega
  have ku : keyU (txt (joinP f q.1)) = some (keyC (joinP f q.1)) := rfl
  have bj := fun d c => Bf_j B i d c []
  generalize joinP f q.1 = p at *
  simp only [lp__law_files_0]
  refine okP_seqL fun LQ hLQ => ?_
  simp [e1]
  refine hLQ _ _ _ (then_nx ?_)
  clear hLQ LQ
  refine okP_seqL fun LQ hLQ => ?_
  simp [e2, e3, e4, e5, fl2]
  refine hLQ _ _ _ (then_nx ?_)
  clear hLQ LQ
  by_cases hin : p ∈ ks
  · rw [if_pos hin] at hQ
    have e7 : gDIn true (txt p) (.dct (ks.map keyC) (vs.map optT)) = some (.w (.bl false)) := by simp [gDIn, ku, e6, hin]
    refine okP_iff (by simp [bj, fcell, e7] <;> first | exact ⟨rfl, rfl⟩ | rfl) ?_
    refine okP_lock fun LQ hLQ => ?_
    simp only [e_sNext, OkP_ok]
    refine hLQ _ _ _ ?_
    clear hLQ LQ
    exact hQ _ _ free_val free_val
  · rw [if_neg hin] at hQ
    have e7 : gDIn true (txt p) (.dct (ks.map keyC) (vs.map optT)) = some (.w (.bl true)) := by simp [gDIn, ku, e6, hin]
    have e8 := drawBf hi q.2 [fcell (ks ++ [p]) (vs ++ [none])] 2
    have e9 := textBf hi (drawD 2 q.2) [fcell (ks ++ [p]) (vs ++ [none])] 4
    have k1 := putKs_new hin
    have k2 : putVs (ks.map keyC) (vs.map optT) (keyC p) .non = (vs ++ [none]).map optT := by rw [putVs_new hin]; simp [optT]
    have sj := fun d c c' => Bf_setj B i d c c' []
    have kl : ks.length < 16777216 := by omega
    have k3 := putKs_old (ks := ks) (p := p)
    have k4 : putVs ((ks ++ [p]).map keyC) ((vs ++ [none]).map optT) (keyC p) (txt (textG 4 (drawD 2 q.2)).1) = (vs ++ [some (textG 4 (drawD 2 q.2)).1]).map optT := by
      have := putVs_old (ks := ks) (vs := vs.map optT) (p := p) (u := txt (textG 4 (drawD 2 q.2)).1) (by simp [h1]) hin
      simpa [optT] using this
    have kl2 : (ks ++ [p]).length < 16777216 := by simp; omega
    generalize ks ++ [p] = ks2 at *
    generalize vs ++ [none] = vs2 at *
    generalize vs ++ [some (textG 4 (drawD 2 q.2)).1] = vs3 at *
    simp only [fcell] at e8 e9 hQ
    refine okP_ift (by simp [bj, fcell, e7] <;> first | exact ⟨rfl, rfl⟩ | rfl) ?_
    refine okP_seqL fun LQ hLQ => ?_
    simp [bj, fcell, k1, k2, kl, sj]
    refine hLQ _ _ _ (then_nx ?_)
    clear hLQ LQ
    by_cases hd : drawN 2 q.2 = 0
    · rw [if_pos hd] at hQ
      refine okP_ift (by simp [e8, hd] <;> first | exact ⟨rfl, rfl⟩ | rfl) ?_
      refine okP_lock fun LQ hLQ => ?_
      simp [bj, k3, k4, kl2, sj, e9]
      refine hLQ _ _ _ ?_
      clear hLQ LQ
      exact hQ _ _ free_val free_val
    · rw [if_neg hd] at hQ
      refine okP_iff (by simp [e8, hd] <;> first | exact ⟨rfl, rfl⟩ | rfl) ?_
      refine okP_lock fun LQ hLQ => ?_
      simp only [e_sNext, OkP_ok]
      refine hLQ _ _ _ ?_
      clear hLQ LQ
      exact hQ _ _ free_val free_val
end LawW
/-! S51u: the files as one. -/
namespace LawW
open PySem L2 QB PySem.NumText
def filesG (d : Dk) : Fs :=
  if drawN 3 (filesN (drawN 6 d).toNat ([], [], drawD 6 d)).2.2 = 0 then
    ((filesN (drawN 6 d).toNat ([], [], drawD 6 d)).1.reverse, (filesN (drawN 6 d).toNat ([], [], drawD 6 d)).2.1.reverse, drawD 3 (filesN (drawN 6 d).toNat ([], [], drawD 6 d)).2.2)
  else ((filesN (drawN 6 d).toNat ([], [], drawD 6 d)).1, (filesN (drawN 6 d).toNat ([], [], drawD 6 d)).2.1, drawD 3 (filesN (drawN 6 d).toNat ([], [], drawD 6 d)).2.2)
theorem filesN_ok : ∀ (n m : Nat) (s : Fs), StOk m s → StOk (m + n) (filesN n s)
  | 0, m, s, h => h
  | n + 1, m, s, h => by
    have := filesN_ok n (m + 1) (fileStep s) (step_ok h)
    rwa [show m + 1 + n = m + (n + 1) by omega] at this
def noDup (ks : Ks) : Prop := ks.Nodup
theorem step_nodup {s : Fs} (h : s.1.Nodup) : (fileStep s).1.Nodup := by
  unfold fileStep
  split
  · exact h
  · next hn =>
    split
    · exact List.nodup_append.mpr ⟨h, by simp, fun a ha b hb => by rw [List.mem_singleton] at hb; subst hb; intro e; subst e; exact hn ha⟩
    · exact List.nodup_append.mpr ⟨h, by simp, fun a ha b hb => by rw [List.mem_singleton] at hb; subst hb; intro e; subst e; exact hn ha⟩
theorem filesN_nodup : ∀ (n : Nat) (s : Fs), s.1.Nodup → (filesN n s).1.Nodup
  | 0, s, h => h
  | n + 1, s, h => filesN_nodup n _ (step_nodup h)
def FilesOk (s : Fs) : Prop := s.1.length = s.2.1.length ∧ s.1.length ≤ 5 ∧ s.1.Nodup ∧ ∀ k ∈ s.1, GoodP k ∧ k.length ≤ 25
theorem filesG_ok (d : Dk) : FilesOk (filesG d) := by
  have h0 := drawN_ge 6 d
  have h1 := drawN_lt 6 d
  have h := filesN_ok (drawN 6 d).toNat 0 ([], [], drawD 6 d) ⟨rfl, by simp, by simp⟩
  have hn := filesN_nodup (drawN 6 d).toNat ([], [], drawD 6 d) (by simp)
  unfold filesG
  generalize filesN (drawN 6 d).toNat ([], [], drawD 6 d) = s at *
  obtain ⟨a, b, c⟩ := h
  split
  · refine ⟨by simpa using a, by simp; omega, (List.reverse_perm s.1).nodup_iff.mpr hn, fun k hk => ?_⟩
    have := c k (by simpa using hk)
    exact ⟨this.1, by omega⟩
  · exact ⟨a, by simp only; omega, hn, fun k hk => ⟨(c k hk).1, by have := (c k hk).2; omega⟩⟩
theorem pairs_ok (f : List Nat → Option (List Nat)) : ∀ l : Ks, pairsU (l.map fun k => U.tup [txt k, optT (f k)]) = some (l.map fun k => (keyC k, optT (f k)))
  | [] => rfl
  | k :: l => by
    have ih := pairs_ok f l
    simp only [List.map_cons, pairsU, ih, ku_txt]
theorem valC_map : ∀ {ks : Ks} {vs : Vs}, ks.Nodup → ks.length = vs.length → ks.map (valC ks vs) = vs
  | [], [], _, _ => rfl
  | [], v :: vs, _, h => by simp at h
  | k :: ks, [], _, h => by simp at h
  | k :: ks, v :: vs, hn, h => by
    rw [List.nodup_cons] at hn
    have ih := valC_map hn.2 (by simpa using h)
    rw [List.map_cons, valC, if_pos rfl]
    congr 1
    rw [← ih]
    apply List.map_congr_left
    intro a ha
    rw [valC, if_neg (fun e => hn.1 (by rw [e]; exact ha)), ih]
theorem dictP_ok {ks : Ks} {vs : Vs} (hn : ks.Nodup) (hl : ks.length = vs.length) (h5 : ks.length ≤ 1000) :
    gDictP (.lst (ks.reverse.map fun k => U.tup [txt k, optT (valC ks vs k)])) = some (.fr (fcell ks.reverse vs.reverse)) := by
  have hk : ((ks.reverse.map fun k => (keyC k, optT (valC ks vs k))).map (·.1)) = ks.reverse.map keyC := by rw [List.map_map]; rfl
  have hv : ((ks.reverse.map fun k => (keyC k, optT (valC ks vs k))).map (·.2)) = vs.reverse.map optT := by
    rw [List.map_map]
    have e : (Prod.snd ∘ fun k => (keyC k, optT (valC ks vs k))) = optT ∘ valC ks vs := rfl
    rw [e, ← List.map_map, List.map_reverse, valC_map hn hl]
  have hd : (ks.reverse.map keyC).Nodup := by
    have h1 : ks.reverse.Nodup := (List.reverse_perm ks).nodup_iff.mpr hn
    exact List.Pairwise.map keyC (fun a b h e => h (keyC_inj.mp e)) h1
  unfold gDictP
  simp only [pairs_ok, hk, hv]
  rw [if_pos ⟨hd, by simp; omega⟩]
  rfl
theorem fcell_live (ks : Ks) (vs : Vs) : (fcell ks vs).live = true := rfl
theorem fcell_toU (ks : Ks) (vs : Vs) : (fcell ks vs).toU = dctU ks vs := rfl
theorem files_at {B : Bx} {i : Nat} {d : Dk} (hi : i < B.length) (hB : At B i d) : ∃ ts : List Cell, G__law_files [.box i, .int 5] B = .ok (dctU (filesG d).1 (filesG d).2.1) (Bf B i (filesG d).2.2 ts) := by
  suffices h : ∃ u B', G__law_files [.box i, .int 5] B = .ok u B' ∧ ∃ ts : List Cell, u = dctU (filesG d).1 (filesG d).2.1 ∧ B' = Bf B i (filesG d).2.2 ts by
    obtain ⟨u, B', e, ts, rfl, rfl⟩ := h
    exact ⟨ts, e⟩
  have h0 := drawN_ge 6 d
  have h1 := drawN_lt 6 d
  have e1 := drawBf hi d [.dct [] []] 6
  have eB : B ++ [.dct [] []] = Bf B i d [.dct [] []] := Bf_0 hB _
  have fok := filesN_ok (drawN 6 d).toNat 0 ([], [], drawD 6 d) ⟨rfl, by simp, by simp⟩
  have fnd := filesN_nodup (drawN 6 d).toNat ([], [], drawD 6 d) (by simp)
  unfold filesG
  simp only [G__law_files]
  refine run_p rfl ?_
  simp only [b__law_files, List.map_cons, List.map_nil, List.length_cons, List.length_nil, Nat.reduceAdd, Nat.reduceSub, List.replicate_succ, List.replicate_zero, List.cons_append, List.nil_append, Nat.zero_add, Nat.sub_self, List.append_nil]
  refine okP_seqL fun LQ hLQ => ?_
  simp [eB]
  refine hLQ _ _ _ (then_nx ?_)
  clear hLQ LQ
  refine okP_seqT ?_
  have i6 : I62 (drawN 6 d) = true := i62 (by omega) (by omega)
  generalize drawN 6 d = v at *
  generalize drawD 6 d = d1 at *
  generalize hres : filesN v.toNat ([], [], d1) = res at *
  refine okP_forM nat (xs := List.range v.toNat) (E1 := [.val (.box i), .val (.int 5), .val (.box B.length), .un, .un, .un]) (B1 := Bf B i d1 [.dct [] []]) (by simp [e1, i6, intsU_map, nat])
    (fun r E B' => ∃ ks vs d' s3 s4 s5, filesN r.length (ks, vs, d') = res ∧ (∃ m, m + r.length = v.toNat ∧ StOk m (ks, vs, d')) ∧ E = [.val (.box i), .val (.int 5), .val (.box B.length), s3, s4, s5] ∧ Free s3 ∧ Free s4 ∧ Free s5 ∧ B' = Bf B i d' [fcell ks vs])
    ⟨[], [], d1, .un, .un, .un, by simpa using hres, ⟨0, by simp, ⟨rfl, by simp, by simp⟩⟩, rfl, free_un, free_un, free_un, rfl⟩ ?_ ?_
  · rintro k r E B' ⟨ks, vs, d', s3, s4, s5, hr, ⟨m, hm, hs⟩, rfl, f3, f4, f5, rfl⟩
    refine BdIs_of (E := [.val (.box i), .val (.int 5), .val (.box B.length), .val (nat k), s4, s5]) (by rcases f3 with rfl | ⟨_, rfl⟩ <;> simp [nat]) (body_go ?_)
    simp only [List.length_cons] at hm hr
    refine fbody_ok hi hs (by omega) _ _ _ fun s4 s5 g4 g5 => loop_nx ⟨_, _, _, _, s4, s5, ?_, ⟨m + 1, by omega, step_ok hs⟩, rfl, free_val, g4, g5, rfl⟩
    exact hr
  · rintro E B' ⟨ks, vs, d', s3, s4, s5, hr, ⟨m, hm, hs⟩, rfl, f3, f4, f5, rfl⟩
    refine then_nx ?_
    have hr : (ks, vs, d') = res := hr
    subst hr
    simp only at fnd
    have e2 := drawBf hi d' [fcell ks vs] 3
    have bj := fun d c => Bf_j B i d c []
    have sj := fun d c c' => Bf_setj B i d c c' []
    obtain ⟨g1, g2, g3⟩ := hs
    simp only at g1 g2 g3
    by_cases hd : drawN 3 d' = 0
    · simp only [if_pos hd]
      have dp := dictP_ok fnd g1 (by omega)
      have ap := fun c => Bf_app B i (drawD 3 d') [fcell ks vs] [c]
      simp only [List.cons_append, List.nil_append] at ap
      have bl : (Bf B i (drawD 3 d') [fcell ks vs]).length = B.length + 1 := Bf_len B i _ _
      have bj2 := fun c => Bf_j2 B i (drawD 3 d') (fcell ks vs) c []
      have sj2 := fun c c' => Bf_setj2 B i (drawD 3 d') (fcell ks vs) c c' []
      have bj1 := Bf_j B i (drawD 3 d') (.dct (ks.map keyC) (vs.map optT)) []
      have lc : ∀ s3 s4, Free s3 → Free s4 → Free s5 → mLc (mRevI (m1 gListD (mVar 2))) (bdN 5) mYes (mTup (mCons (mVar 5) (mCons (m2 gDIx (mVar 2) (mVar 5)) mNil))) [5] [.val (.box i), .val (.int 5), .val (.box B.length), s3, s4, s5] (Bf B i (drawD 3 d') [fcell ks vs]) =
          .ok (.fr (.lst (ks.reverse.map fun k => U.tup [txt k, optT (valC ks vs k)]))) [.val (.box i), .val (.int 5), .val (.box B.length), s3, s4, s5] (Bf B i (drawD 3 d') [fcell ks vs]) := by
        intro s3 s4 f3 f4 f5
        refine mLc_allW txt (fun k => U.tup [txt k, optT (valC ks vs k)]) (xs := ks.reverse) ?_ (by rcases f5 with rfl | ⟨_, rfl⟩ <;> simp) (by rcases f5 with rfl | ⟨_, rfl⟩ <;> simp) (by simp; omega) ?_
        · have e : ks.map (uKey ∘ keyC) = ks.map txt := List.map_congr_left fun a _ => rfl
          simp [fcell, bj1, gListD, e]
        · intro k hk
          have hk : k ∈ ks := by simpa using hk
          have e1 := look_ok g1 hk
          refine BdIs_of (E := [.val (.box i), .val (.int 5), .val (.box B.length), s3, s4, .val (txt k)]) (by rcases f5 with rfl | ⟨_, rfl⟩ <;> simp) ⟨by rcases f5 with rfl | ⟨_, rfl⟩ <;> simp, ?_⟩
          have e2 : gDIx (.dct (ks.map keyC) (vs.map optT)) (txt k) = some (.w (optT (valC ks vs k))) := by simp [gDIx, txt, show Sum.inr (ofC k) = keyC k from rfl, e1]
          unfold Elt
          simp [fcell, bj1, e2]
      have lce : lc__law_files_0 [.val (.box i), .val (.int 5), .val (.box B.length), s3, s4, s5] (Bf B i (drawD 3 d') [fcell ks vs]) = _ := lc s3 s4 f3 f4 f5
      generalize ks.reverse = rk at *
      generalize vs.reverse = rv at *
      refine okP_seqT ?_
      refine okP_ift (by simp [e2, hd] <;> first | exact ⟨rfl, rfl⟩ | rfl) ?_
      refine okP_lock fun LQ hLQ => ?_
      simp [lce, dp, bl, ap]
      refine hLQ _ _ _ ?_
      clear hLQ LQ
      refine then_nx ?_
      refine okP_lock fun LQ hLQ => ?_
      simp [bj2, sj2, fcell_live, fcell_toU]
      refine hLQ _ _ _ ?_
      clear hLQ LQ
      exact ret_p ⟨_, rfl, rfl⟩
    · simp only [if_neg hd]
      refine okP_seqT ?_
      refine okP_iff (by simp [e2, hd] <;> first | exact ⟨rfl, rfl⟩ | rfl) ?_
      refine okP_lock fun LQ hLQ => ?_
      simp only [e_sNext, OkP_ok]
      refine hLQ _ _ _ (then_nx ?_)
      clear hLQ LQ
      refine okP_lock fun LQ hLQ => ?_
      simp [bj, fcell, sj]
      refine hLQ _ _ _ ?_
      clear hLQ LQ
      exact ret_p ⟨_, rfl, rfl⟩
end LawW
/-! S51v: names, functions. -/
namespace LawW
open PySem L2 QB PySem.NumText
theorem okP_lcMW {α : Type} (enc : α → U) {fi : Iv} {bd : Bd} {f : Ex} {ks : List Nat} {xs : List α} {E E1 : En} {B B1 : Bx} {Q : R → En → Bx → Prop} (hi : fi E B = .ok (xs.map enc, yes) E1 B1) (hn : noOwn E1 ks = true) (hk : keepE E1 (wipeE E1 ks) ks = E1) (hl : xs.length ≤ 16777216) (I : List α → List U → Bx → Prop) (h : I xs [] B1)
    (step : ∀ x r acc B, I (x :: r) acc B → BdIs (bd (enc x) (wipeE E1 ks)) fun E2 => wipeE E2 ks = wipeE E1 ks ∧ ∃ w u B3, f E2 B = .ok w E2 B3 ∧ settle w E2 = some (u, E2) ∧ I r (acc ++ [u]) B3)
    (last : ∀ acc B, I [] acc B → Q (.fr (.lst acc)) E1 B) : OkP (mLc fi bd mYes f ks E B) Q := by
  refine okP_lc hi hn (fun us acc E B => ∃ r, us = r.map enc ∧ acc.length + r.length ≤ 16777216 ∧ E = wipeE E1 ks ∧ I r acc B) ⟨xs, rfl, by simpa using hl, rfl, h⟩ ?_ ?_
  · rintro u us acc E B ⟨r, e, hl, rfl, hI⟩
    cases r with
    | nil => cases e
    | cons x r =>
      rw [List.map_cons, List.cons.injEq] at e
      obtain ⟨rfl, rfl⟩ := e
      rw [List.length_cons] at hl
      obtain ⟨E2, e2, q1, w, u, B3, q2, q3, q4⟩ := (step x r acc B hI).get
      refine ⟨E2, e2, ?_⟩
      rw [e_mYes, OkP_ok, if_pos rfl, q2, OkP_ok]
      exact ⟨u, E2, q3, by omega, r, rfl, by simp; omega, q1, q4⟩
  · rintro acc E B ⟨r, e, hl, rfl, hI⟩
    cases r with
    | nil => rw [hk]; exact last acc B hI
    | cons x r => cases e
theorem lcGenW {α β : Type} (enc : α → U) (out : β → U) {fi : Iv} {bd : Bd} {f : Ex} {ks : List Nat} {xs : List α} {E : En} {B B1 : Bx} {i : Nat} (g : Dk → β × Dk) {d : Dk} (hd : At B i d) (hi : fi E B1 = .ok (xs.map enc, yes) E B) (hn : noOwn E ks = true) (hk : keepE E (wipeE E ks) ks = E) (hl : xs.length ≤ 16777216)
    (step : ∀ x (B : Bx) (d : Dk), x ∈ xs → At B i d → BdIs (bd (enc x) (wipeE E ks)) fun E2 => wipeE E2 ks = wipeE E ks ∧ ∃ w : R, f E2 B = .ok w E2 (B.set i (Cl (g d).2)) ∧ settle w E2 = some (out (g d).1, E2)) :
    mLc fi bd mYes f ks E B1 = .ok (.fr (.lst ((gen g xs.length d).1.map out))) E (B.set i (Cl (gen g xs.length d).2)) := by
  have k := okP_lcMW enc (bd := bd) (f := f) (ks := ks) (Q := fun r E' B' => r = .fr (.lst ((gen g xs.length d).1.map out)) ∧ E' = E ∧ B' = B.set i (Cl (gen g xs.length d).2)) hi hn hk hl
    (fun q acc B' => (∀ x ∈ q, x ∈ xs) ∧ ∃ vs d', acc = vs.map out ∧ B' = B.set i (Cl d') ∧ gen g xs.length d = (vs ++ (gen g q.length d').1, (gen g q.length d').2)) ⟨fun _ h => h, [], d, rfl, hd.same.symm, by simp⟩
    (by
      rintro x q acc B' ⟨hm, vs, d', rfl, rfl, hg⟩
      obtain ⟨E2, e1, e2, w, e3, e4⟩ := (step x _ d' (hm x (List.mem_cons_self ..)) (hd.set d')).get
      refine BdIs_of e1 ⟨e2, w, _, _, e3, e4, fun y hy => hm y (List.mem_cons_of_mem _ hy), vs ++ [(g d').1], (g d').2, by simp, by rw [List.set_set], ?_⟩
      rw [hg]
      simp [gen])
    (by
      rintro acc B' ⟨_, vs, d', rfl, rfl, hg⟩
      rw [hg]
      simp [gen])
  obtain ⟨r, E', B', e, rfl, rfl, rfl⟩ := k.get
  exact e
/-! ### names -/
def letS : List Nat := (List.range 26).map (· + 65) ++ [95] ++ (List.range 26).map (· + 97)
def digS : List Nat := (List.range 10).map (· + 48)
theorem let_len : letS.length = 53 := by decide +kernel
theorem dig_len : digS.length = 10 := by decide +kernel
def nameC (d : Dk) : Nat × Dk := ((letS ++ digS).getD (drawN 63 d).toNat 0, drawD 63 d)
def nameG (d : Dk) : List Nat × Dk :=
  (letS.getD (drawN 53 d).toNat 0 :: (gen nameC (drawN 3 (drawD 53 d)).toNat (drawD 3 (drawD 53 d))).1, (gen nameC (drawN 3 (drawD 53 d)).toNat (drawD 3 (drawD 53 d))).2)
theorem nameBf {B : Bx} {i : Nat} (hi : i < B.length) (d : Dk) (ts : List Cell) : G__law_name [.box i] (Bf B i d ts) = .ok (txt (nameG d).1) (Bf B i (nameG d).2 ts) := by
  have e1 := drawBf hi d ts 53
  have e2 := drawBf hi (drawD 53 d) ts 3
  have a0 := drawN_ge 53 d
  have a1 := drawN_lt 53 d
  have b0 := drawN_ge 3 (drawD 53 d)
  have b1 := drawN_lt 3 (drawD 53 d)
  have hx := atI_getD (l := letS) a0 (by rw [let_len]; exact a1)
  have hL : Str.ofString "ABCDEFGHIJKLMNOPQRSTUVWXYZ_abcdefghijklmnopqrstuvwxyz" = ofC letS := by decide +kernel
  have hD : Str.ofString "0123456789" = ofC digS := by decide +kernel
  have ll := let_len
  have ld := dig_len
  simp only [G__law_name]
  unfold nameG
  refine run_is rfl ?_
  simp only [b__law_name, List.map_cons, List.map_nil, List.length_cons, List.length_nil, Nat.reduceAdd, Nat.reduceSub, List.replicate_succ, List.replicate_zero, List.cons_append, List.nil_append, Nat.zero_add, Nat.sub_self, List.append_nil]
  rw [hL]
  simp only [lp__law_name_0]
  rw [hD]
  have hc : ∀ d, nameC d = ((letS ++ digS).getD (drawN 63 d).toNat 0, drawD 63 d) := fun _ => rfl
  have hxx : ∀ d, atI (letS ++ digS) (drawN 63 d) = some (nameC d).1 := fun d => atI_getD (drawN_ge 63 d) (by have := drawN_lt 63 d; rw [List.length_append, ll, ld]; exact this)
  have la : letS.length + digS.length ≤ 16777216 := by rw [ll, ld]; omega
  have lb : letS.length ≤ 16777216 := by rw [ll]; omega
  generalize letS.getD (drawN 53 d).toNat 0 = c at *
  generalize drawN 53 d = v at *
  generalize drawD 53 d = d1 at *
  have i3 : I62 (drawN 3 d1) = true := i62 (by omega) (by omega)
  generalize drawN 3 d1 = n at *
  generalize drawD 3 d1 = d2 at *
  refine okP_seqL fun LQ hLQ => ?_
  simp
  refine hLQ _ _ _ (then_nx ?_)
  clear hLQ LQ
  refine okP_seqL fun LQ hLQ => ?_
  simp [e1, hx, lb]
  refine hLQ _ _ _ (then_nx ?_)
  clear hLQ LQ
  refine okP_seqT ?_
  generalize hres : gen nameC n.toNat d2 = res at *
  refine okP_forM nat (xs := List.range n.toNat) (E1 := [.val (.box i), .val (.str (ofC letS)), .val (.str (ofC [c])), .un]) (B1 := Bf B i d2 ts) (by simp [e2, i3, intsU_map, nat])
    (fun r E B' => ∃ acc d' s3, r.length ≤ 3 ∧ acc.length + r.length ≤ 3 ∧ (acc ++ (gen nameC r.length d').1, (gen nameC r.length d').2) = res ∧ E = [.val (.box i), .val (.str (ofC letS)), .val (.str (ofC (c :: acc))), s3] ∧ Free s3 ∧ B' = Bf B i d' ts)
    ⟨[], d2, .un, by simp; omega, by simp; omega, by simpa using hres, rfl, free_un, rfl⟩ ?_ ?_
  · rintro k r E B' ⟨acc, d', s3, hr, ha, hg, rfl, f3, rfl⟩
    refine BdIs_of (E := [.val (.box i), .val (.str (ofC letS)), .val (.str (ofC (c :: acc))), .val (nat k)]) (by rcases f3 with rfl | ⟨_, rfl⟩ <;> simp [nat]) (body_go ?_)
    have e3 := drawBf hi d' ts 63
    have hx2 := hxx d'
    rw [List.length_cons] at hr ha hg
    have al : acc.length + 1 + 1 ≤ 16777216 := by omega
    have al2 : acc.length + 1 ≤ 16777215 := by omega
    refine okP_lock fun LQ hLQ => ?_
    simp [e3, hx2, la, lb, al, al2]
    refine hLQ _ _ _ ?_
    clear hLQ LQ
    exact loop_nx ⟨acc ++ [(nameC d').1], (nameC d').2, _, by omega, by simp; omega, by rw [← hg]; simp [gen], rfl, free_val, rfl⟩
  · rintro E B' ⟨acc, d', s3, hr, ha, hg, rfl, f3, rfl⟩
    refine then_nx ?_
    have hg : (acc, d') = res := by simpa [gen] using hg
    subst hg
    refine okP_lock fun LQ hLQ => ?_
    simp
    refine hLQ _ _ _ ?_
    clear hLQ LQ
    exact ret_is' rfl rfl
end LawW
/-! S51w: functions. -/
namespace LawW
open PySem L2 QB PySem.NumText
def callU : U := .tup [txt [100, 111], .lst [], .lst [.lst [.tup [txt [98, 97, 114, 101], txt [97]]]], .lst []]
def turnsS : List U := [.lst [], .lst [.tup [.int 1, txt [62], .lst [.tup [txt [98, 97, 114, 101], txt [103]]]]]]
def otherS : List U := [.non, .lst [callU]]
def wordsS : List U := [.non, .lst [.lst [.tup [txt [98, 97, 114, 101], txt [98]]]]]
def madeS (t o w : U) : List U :=
  [.tup [txt [103, 114, 111, 117, 112], .lst [callU], t], .tup [txt [97, 112, 97, 114, 116], .lst [callU], t], .tup [txt [119, 104, 105, 108, 101], .lst [callU], .lst [callU], t],
   .tup [txt [117, 110, 116, 105, 108], .lst [callU], .lst [callU], t], .tup [txt [105, 102], .lst [.tup [.lst [callU], .lst [callU]]], o, t],
   .tup [txt [101, 97, 99, 104], txt [120], w, .lst [callU], t], .tup [txt [99, 97, 115, 101], .lst [.tup [txt [98, 97, 114, 101], txt [97]]], .lst [.tup [.lst [.lst [.tup [txt [98, 97, 114, 101], txt [98]]]], .lst []]], t]]
def funG (d : Dk) : U × Dk :=
  ((madeS (turnsS.getD (drawN 2 d).toNat .non) (otherS.getD (drawN 2 (drawD 2 d)).toNat .non) (wordsS.getD (drawN 2 (drawD 2 (drawD 2 d))).toNat .non)).getD (drawN 7 (drawD 2 (drawD 2 (drawD 2 d)))).toNat .non,
   drawD 7 (drawD 2 (drawD 2 (drawD 2 d))))
theorem atI_getU {l : List U} {v : Int} (h0 : 0 ≤ v) (h1 : v < l.length) : atI l v = some (l.getD v.toNat .non) := by
  have hk : v.toNat < l.length := by omega
  rw [atI_of (k := v.toNat) (by omega), List.getD_eq_getElem?_getD, List.getElem?_eq_getElem hk]
  rfl
theorem funBf {B : Bx} {i : Nat} (hi : i < B.length) (d : Dk) (ts : List Cell) : G__law_function [.box i] (Bf B i d ts) = .ok (funG d).1 (Bf B i (funG d).2 ts) := by
  have e1 := drawBf hi d ts 2
  have e2 := drawBf hi (drawD 2 d) ts 2
  have e3 := drawBf hi (drawD 2 (drawD 2 d)) ts 2
  have e4 := drawBf hi (drawD 2 (drawD 2 (drawD 2 d))) ts 7
  have a0 := drawN_ge 2 d
  have a1 := drawN_lt 2 d
  have b0 := drawN_ge 2 (drawD 2 d)
  have b1 := drawN_lt 2 (drawD 2 d)
  have c0 := drawN_ge 2 (drawD 2 (drawD 2 d))
  have c1 := drawN_lt 2 (drawD 2 (drawD 2 d))
  have d0 := drawN_ge 7 (drawD 2 (drawD 2 (drawD 2 d)))
  have d1 := drawN_lt 7 (drawD 2 (drawD 2 (drawD 2 d)))
  simp only [G__law_function, funG]
  refine run_is rfl ?_
  simp only [b__law_function, List.map_cons, List.map_nil, List.length_cons, List.length_nil, Nat.reduceAdd, Nat.reduceSub, List.replicate_succ, List.replicate_zero, List.cons_append, List.nil_append, Nat.zero_add, Nat.sub_self, List.append_nil]
  generalize drawN 7 (drawD 2 (drawD 2 (drawD 2 d))) = z at *
  generalize drawD 7 (drawD 2 (drawD 2 (drawD 2 d))) = d4 at *
  generalize drawN 2 (drawD 2 (drawD 2 d)) = y at *
  generalize drawD 2 (drawD 2 (drawD 2 d)) = d3 at *
  generalize drawN 2 (drawD 2 d) = x at *
  generalize drawD 2 (drawD 2 d) = d2 at *
  generalize drawN 2 d = w at *
  have hw : atI turnsS w = some (turnsS.getD w.toNat .non) := atI_getU a0 a1
  have hx : atI otherS x = some (otherS.getD x.toNat .non) := atI_getU b0 b1
  have hy : atI wordsS y = some (wordsS.getD y.toNat .non) := atI_getU c0 c1
  have hz := fun t o v => atI_getU (l := madeS t o v) d0 d1
  generalize turnsS.getD w.toNat .non = t at *
  generalize otherS.getD x.toNat .non = o at *
  generalize wordsS.getD y.toNat .non = v at *
  simp only [turnsS, otherS, wordsS, madeS, callU, txt] at hw hx hy hz
  refine okP_seqL fun LQ hLQ => ?_
  simp
  refine hLQ _ _ _ (then_nx ?_)
  clear hLQ LQ
  refine okP_seqL fun LQ hLQ => ?_
  simp [e1, hw]
  refine hLQ _ _ _ (then_nx ?_)
  clear hLQ LQ
  refine okP_seqL fun LQ hLQ => ?_
  simp [e2, hx]
  refine hLQ _ _ _ (then_nx ?_)
  clear hLQ LQ
  refine okP_seqL fun LQ hLQ => ?_
  simp [e3, hy]
  refine hLQ _ _ _ (then_nx ?_)
  clear hLQ LQ
  refine okP_seqL fun LQ hLQ => ?_
  simp
  refine hLQ _ _ _ (then_nx ?_)
  clear hLQ LQ
  refine okP_seqL fun LQ hLQ => ?_
  simp
  refine hLQ _ _ _ (then_nx ?_)
  clear hLQ LQ
  refine okP_lock fun LQ hLQ => ?_
  simp [e4, hz]
  refine hLQ _ _ _ ?_
  clear hLQ LQ
  exact ret_is' rfl rfl
theorem fun_pl (d : Dk) : PlU 9 (funG d).1 := by
  have a0 := drawN_ge 2 d
  have a1 := drawN_lt 2 d
  have b0 := drawN_ge 2 (drawD 2 d)
  have b1 := drawN_lt 2 (drawD 2 d)
  have c0 := drawN_ge 2 (drawD 2 (drawD 2 d))
  have c1 := drawN_lt 2 (drawD 2 (drawD 2 d))
  have d0 := drawN_ge 7 (drawD 2 (drawD 2 (drawD 2 d)))
  have d1 := drawN_lt 7 (drawD 2 (drawD 2 (drawD 2 d)))
  simp only [funG]
  generalize drawN 7 (drawD 2 (drawD 2 (drawD 2 d))) = z at *
  generalize drawN 2 (drawD 2 (drawD 2 d)) = y at *
  generalize drawN 2 (drawD 2 d) = x at *
  generalize drawN 2 d = w at *
  have pt : PlU 8 (turnsS.getD w.toNat .non) := by
    have : w = 0 ∨ w = 1 := by omega
    rcases this with rfl | rfl <;> simp [turnsS, PlU, txt]
  have po : PlU 8 (otherS.getD x.toNat .non) := by
    have : x = 0 ∨ x = 1 := by omega
    rcases this with rfl | rfl <;> simp [otherS, callU, PlU, txt]
  have pw : PlU 8 (wordsS.getD y.toNat .non) := by
    have : y = 0 ∨ y = 1 := by omega
    rcases this with rfl | rfl <;> simp [wordsS, PlU, txt]
  generalize turnsS.getD w.toNat .non = t at *
  generalize otherS.getD x.toNat .non = o at *
  generalize wordsS.getD y.toNat .non = v at *
  have hz : z = 0 ∨ z = 1 ∨ z = 2 ∨ z = 3 ∨ z = 4 ∨ z = 5 ∨ z = 6 := by omega
  rcases hz with rfl | rfl | rfl | rfl | rfl | rfl | rfl <;> simp [madeS, callU, PlU, txt, pt, po, pw]
end LawW
/-! S51x: the world is drawn. -/
namespace LawW
open PySem L2 QB PySem.NumText
def strI (i : Int) : List Nat := codes (Str.ofString (toString i))
theorem e_strI {i : Int} (h0 : 0 ≤ i) (h1 : i < 10 ^ 70) : gStrI (.int i) = some (.w (txt (strI i))) := by
  have e : i.natAbs < 10 ^ 100 := by
    have : (10 : Int) ^ 70 ≤ 10 ^ 100 := by decide
    omega
  unfold gStrI
  simp only
  rw [if_pos e, txt, strI, ofC_codes]
theorem strI_len {i : Int} {k : Nat} (hk : 1 ≤ k) (h0 : 0 ≤ i) (h1 : i < 10 ^ k) : (strI i).length ≤ k := by
  obtain ⟨m, rfl⟩ := Int.eq_ofNat_of_zero_le h0
  have hm : m < 10 ^ k := by exact_mod_cast h1
  have e : strI (m : Int) = (Nat.toDigits 10 m).map Char.toNat := PySem.W.KIN.signs_num m
  rw [e, List.length_map]
  exact toDigits_len_pow (by omega) hk hm
end LawW
/-! S51y: the world is drawn. -/
namespace LawW
open PySem L2 QB PySem.NumText
abbrev Ns := List Key × List U × Dk
def nameStep (s : Ns) : Ns := (putKs s.1 (keyC (nameG s.2.2).1), putVs s.1 s.2.1 (keyC (nameG s.2.2).1) (txt (textG 3 (nameG s.2.2).2).1), (textG 3 (nameG s.2.2).2).2)
def namesN : Nat → Ns → Ns
  | 0, s => s
  | n + 1, s => namesN n (nameStep s)
def NsOk (n : Nat) (s : Ns) : Prop := s.1.length = s.2.1.length ∧ s.1.length ≤ n ∧ (∀ k ∈ s.1, ∃ z, k = .inr (ofC z)) ∧ ∀ v ∈ s.2.1, ∃ z, v = txt z
theorem putKs_len (ks : List Key) (k : Key) : (putKs ks k).length ≤ ks.length + 1 := by
  unfold putKs
  split <;> simp
theorem put_lens {ks : List Key} {vs : List U} (h : ks.length = vs.length) (k : Key) (u : U) : (putKs ks k).length = (putVs ks vs k u).length := by
  unfold putKs putVs
  split
  · simp [h]
  · simp [h]
theorem nstep_ok {n : Nat} {s : Ns} (h : NsOk n s) : NsOk (n + 1) (nameStep s) := by
  obtain ⟨h1, h2, h3, h4⟩ := h
  unfold nameStep
  generalize (nameG s.2.2).1 = p
  generalize (textG 3 (nameG s.2.2).2).1 = q
  refine ⟨put_lens h1 _ _, by have := putKs_len s.1 (keyC p); simp only; omega, ?_, ?_⟩
  · intro k hk
    simp only [putKs] at hk
    split at hk
    · exact h3 k hk
    · rcases List.mem_append.mp hk with hk | hk
      · exact h3 k hk
      · rw [List.mem_singleton] at hk; subst hk; exact ⟨p, rfl⟩
  · intro v hv
    simp only [putVs] at hv
    split at hv
    · rw [List.mem_iff_getElem?] at hv
      obtain ⟨j, hj⟩ := hv
      rw [List.getElem?_zipWith] at hj
      cases h5 : s.1[j]? with
      | none => rw [h5] at hj; simp at hj
      | some k' =>
        cases h6 : s.2.1[j]? with
        | none => rw [h5, h6] at hj; simp at hj
        | some v' =>
          rw [h5, h6] at hj
          simp at hj
          split at hj
          · exact ⟨q, hj.symm⟩
          · subst hj; exact h4 _ (List.mem_iff_getElem?.mpr ⟨j, h6⟩)
    · rcases List.mem_append.mp hv with hv | hv
      · exact h4 v hv
      · rw [List.mem_singleton] at hv; subst hv; exact ⟨q, rfl⟩
theorem namesN_ok : ∀ (n m : Nat) (s : Ns), NsOk m s → NsOk (m + n) (namesN n s)
  | 0, m, s, h => h
  | n + 1, m, s, h => by
    have := namesN_ok n (m + 1) (nameStep s) (nstep_ok h)
    rwa [show m + 1 + n = m + (n + 1) by omega] at this
def wFo (d : Dk) : Ks := foldersC (filesG d).1 (filesG d).2.1
def w1 (d : Dk) : Dk := drawD (wFo d).length (filesG d).2.2
def wFolder (d : Dk) : List Nat := (wFo d).getD (drawN (wFo d).length (filesG d).2.2).toNat []
def wN (d : Dk) : Ns := namesN (drawN 3 d).toNat ([], [], drawD 3 d)
def wA (d : Dk) : List (List Nat) × Dk := gen (textG 2) (drawN 3 d).toNat (drawD 3 d)
def wF (d : Dk) : Ns :=
  if drawN 3 d = 0 then ([keyC (102 :: strI (drawN 10 (funG (drawD 3 d)).2))], [(funG (drawD 3 d)).1], drawD 10 (funG (drawD 3 d)).2) else ([], [], drawD 3 d)
def worldG (d : Dk) : U × Dk :=
  (.tup [dctU (filesG d).1 (filesG d).2.1, txt (wFolder d), .dct (wN (w1 d)).1 (wN (w1 d)).2.1, .lst ((wA (wN (w1 d)).2.2).1.map txt),
    txt (textG 2 (wF (wA (wN (w1 d)).2.2).2).2.2).1, .int (drawN 256 (textG 2 (wF (wA (wN (w1 d)).2.2).2).2.2).2), .dct (wF (wA (wN (w1 d)).2.2).2).1 (wF (wA (wN (w1 d)).2.2).2).2.1],
   drawD 256 (textG 2 (wF (wA (wN (w1 d)).2.2).2).2.2).2)
theorem keepS {E : En} {k : Nat} {s : Sl} (h : E[k]? = some s) : keepE E (wipeE E [k]) [k] = E := by
  obtain ⟨hl, e⟩ := List.getElem?_eq_some_iff.mp h
  simp only [keepE, wipeE, h]
  rw [List.set_set, ← e, List.set_getElem_self]
theorem world_at {B : Bx} {i : Nat} {d : Dk} (hi : i < B.length) (hB : At B i d) : ∃ ts : List Cell, G__law_world [.box i, .int 5] B = .ok (worldG d).1 (Bf B i (worldG d).2 ts) := by
  obtain ⟨ts, e1⟩ := files_at hi hB
  refine ⟨ts, ?_⟩
  have fok := filesG_ok d
  have hw1 : w1 d = _ := rfl
  have hwf : wFolder d = _ := rfl
  have hwo : wFo d = _ := rfl
  unfold worldG
  have e2 := folders_at (u := dctU (filesG d).1 (filesG d).2.1) (B := Bf B i (filesG d).2.2 ts) rfl fok.1 (by have := fok.2.1; omega)
  have fl := folders_le (filesG d).1 (filesG d).2.1
  have fn := folders_ne (filesG d).1 (filesG d).2.1
  have fl5 := fok.2.1
  rw [← show wFo d = foldersC (filesG d).1 (filesG d).2.1 from rfl] at e2 fl fn
  have e3 := drawBf hi (filesG d).2.2 ts ((wFo d).length : Int) (by omega) (by omega)
  have e4 := atI_txt (l := wFo d) (drawN_ge ((wFo d).length : Int) (filesG d).2.2 (by omega)) (drawN_lt ((wFo d).length : Int) (filesG d).2.2 (by omega))
  rw [← show wFolder d = (wFo d).getD (drawN (wFo d).length (filesG d).2.2).toNat [] from rfl] at e4
  rw [← show w1 d = drawD (wFo d).length (filesG d).2.2 from rfl] at e3
  have fl2 : (wFo d).length ≤ 16777216 := by omega
  simp only [G__law_world]
  refine run_is rfl ?_
  simp only [b__law_world, List.map_cons, List.map_nil, List.length_cons, List.length_nil, Nat.reduceAdd, Nat.reduceSub, List.replicate_succ, List.replicate_zero, List.cons_append, List.nil_append, Nat.zero_add, Nat.sub_self, List.append_nil]
  generalize wFo d = fo at *
  generalize wFolder d = fd at *
  generalize w1 d = d1 at *
  generalize dctU (filesG d).1 (filesG d).2.1 = fu at *
  generalize (filesG d).2.2 = d0 at *
  refine okP_seqL fun LQ hLQ => ?_
  simp [e1]
  refine hLQ _ _ _ (then_nx ?_)
  clear hLQ LQ
  refine okP_seqL fun LQ hLQ => ?_
  simp [e2]
  refine hLQ _ _ _ (then_nx ?_)
  clear hLQ LQ
  refine okP_seqL fun LQ hLQ => ?_
  simp [e3, e4, fl2]
  refine hLQ _ _ _ (then_nx ?_)
  clear hLQ LQ
  refine okP_seqL fun LQ hLQ => ?_
  simp
  refine hLQ _ _ _ (then_nx ?_)
  clear hLQ LQ
  refine okP_seqT ?_
  have n0 := drawN_ge 3 d1
  have n1 := drawN_lt 3 d1
  have e5 := drawBf hi d1 ts 3
  have i5 : I62 (drawN 3 d1) = true := i62 (by omega) (by omega)
  have nok := namesN_ok (drawN 3 d1).toNat 0 ([], [], drawD 3 d1) ⟨rfl, by simp, by simp, by simp⟩
  rw [show namesN (drawN 3 d1).toNat ([], [], drawD 3 d1) = wN d1 from rfl] at nok
  have hres : namesN (drawN 3 d1).toNat ([], [], drawD 3 d1) = wN d1 := rfl
  generalize wN d1 = res at *
  generalize drawN 3 d1 = n at *
  generalize drawD 3 d1 = d2 at *
  refine okP_forM nat (xs := List.range n.toNat) (E1 := [.val (.box i), .val (.int 5), .val fu, .val (.lst (fo.map txt)), .val (txt fd), .own (.dct [] []), .un, .un, .un, .un]) (B1 := Bf B i d2 ts) (by simp [e5, i5, intsU_map, nat])
    (fun r E B' => ∃ ks vs d' s6 s7, namesN r.length (ks, vs, d') = res ∧ (∃ m, m + r.length = n.toNat ∧ NsOk m (ks, vs, d')) ∧ E = [.val (.box i), .val (.int 5), .val fu, .val (.lst (fo.map txt)), .val (txt fd), .own (.dct ks vs), s6, s7, .un, .un] ∧ Free s6 ∧ B' = Bf B i d' ts)
    ⟨[], [], d2, .un, .un, by simpa using hres, ⟨0, by simp, ⟨rfl, by simp, by simp, by simp⟩⟩, rfl, free_un, rfl⟩ ?_ ?_
  · rintro k r E B' ⟨ks, vs, d', s6, s7, hr, ⟨m, hm, hs⟩, rfl, f6, rfl⟩
    refine BdIs_of (E := [.val (.box i), .val (.int 5), .val fu, .val (.lst (fo.map txt)), .val (txt fd), .own (.dct ks vs), .val (nat k), s7, .un, .un]) (by rcases f6 with rfl | ⟨_, rfl⟩ <;> simp [nat]) (body_go ?_)
    have g1 := nameBf hi d' ts
    have g2 := textBf hi (nameG d').2 ts 3
    simp only [List.length_cons] at hm hr
    have kl : ks.length < 16777216 := by have := hs.2.1; simp only at this; omega
    simp only [lp__law_world_0]
    refine okP_seqL fun LQ hLQ => ?_
    simp [g1]
    refine hLQ _ _ _ (then_nx ?_)
    clear hLQ LQ
    refine okP_lock fun LQ hLQ => ?_
    simp [g2, kl]
    refine hLQ _ _ _ ?_
    clear hLQ LQ
    exact loop_nx ⟨_, _, _, _, _, hr, ⟨m + 1, by omega, nstep_ok hs⟩, rfl, free_val, rfl⟩
  · rintro E B' ⟨ks, vs, d', s6, s7, hr, ⟨m, hm, hs⟩, rfl, f6, rfl⟩
    refine then_nx ?_
    have hr : (ks, vs, d') = res := hr
    subst hr
    have hA : wA d' = gen (textG 2) (drawN 3 d').toNat (drawD 3 d') := rfl
    simp only
    have e6 := drawBf hi d' ts 3
    have v0 := drawN_ge 3 d'
    have v1 := drawN_lt 3 d'
    have i6 : I62 (drawN 3 d') = true := i62 (by omega) (by omega)
    have lc := lcGenW nat txt (bd := bdN 6) (f := mCall G__law_text (mCons (mVar 0) (mCons (mC (.int 2)) mNil))) (ks := [6]) (xs := List.range (drawN 3 d').toNat) (E := [.val (.box i), .val (.int 5), .val fu, .val (.lst (fo.map txt)), .val (txt fd), .own (.dct ks vs), s6, s7, .un, .un]) (B := Bf B i (drawD 3 d') ts) (B1 := Bf B i d' ts) (i := i)
      (fi := mRange1 (mCons (mCall G__law_draw (mCons (mVar 0) (mCons (mC (.int 3)) mNil))) mNil)) (textG 2) (Bf_at hi _ _) (by simp [i6, e6, intsU_map, nat]) (by rcases f6 with rfl | ⟨_, rfl⟩ <;> simp) (keepS (s := s6) rfl) (by simp; omega)
      (fun x B d _ hd => BdIs_of (E := [.val (.box i), .val (.int 5), .val fu, .val (.lst (fo.map txt)), .val (txt fd), .own (.dct ks vs), .val (nat x), s7, .un, .un]) (by rcases f6 with rfl | ⟨_, rfl⟩ <;> simp) ⟨by simp, _, by simp [text_at 2 hd]; rfl, rfl⟩)
    simp only [List.length_range, Bf_set hi, ← hA] at lc
    have lce : lc__law_world_0 G__law_draw G__law_text [.val (.box i), .val (.int 5), .val fu, .val (.lst (fo.map txt)), .val (txt fd), .own (.dct ks vs), s6, s7, .un, .un] (Bf B i d' ts) = _ := lc
    refine okP_seqL fun LQ hLQ => ?_
    simp [lce]
    refine hLQ _ _ _ (then_nx ?_)
    clear hLQ LQ
    refine okP_seqL fun LQ hLQ => ?_
    simp
    refine hLQ _ _ _ (then_nx ?_)
    clear hLQ LQ
    generalize wA d' = a at *
    have e7 := drawBf hi a.2 ts 3
    refine okP_seqT ?_
    by_cases h0 : drawN 3 a.2 = 0
    · have hF : wF a.2 = ([keyC (102 :: strI (drawN 10 (funG (drawD 3 a.2)).2))], [(funG (drawD 3 a.2)).1], drawD 10 (funG (drawD 3 a.2)).2) := by rw [wF, if_pos h0]
      rw [hF]
      have g1 := funBf hi (drawD 3 a.2) ts
      have g2 := drawBf hi (funG (drawD 3 a.2)).2 ts 10
      have u0 := drawN_ge 10 (funG (drawD 3 a.2)).2
      have u1 := drawN_lt 10 (funG (drawD 3 a.2)).2
      have pk := putKs_new (ks := []) (p := 102 :: strI (drawN 10 (funG (drawD 3 a.2)).2)) (by simp)
      have pv := putVs_new (ks := []) (vs := []) (p := 102 :: strI (drawN 10 (funG (drawD 3 a.2)).2)) (u := (funG (drawD 3 a.2)).1) (by simp)
      simp only [List.map_nil, List.nil_append, List.map_cons] at pk pv
      have gs := e_strI (i := drawN 10 (funG (drawD 3 a.2)).2) (by omega) (by omega)
      have gl := strI_len (k := 1) (i := drawN 10 (funG (drawD 3 a.2)).2) (by omega) u0 (by omega)
      have ka : gAdd (.str (ofC [102])) (txt (strI (drawN 10 (funG (drawD 3 a.2)).2))) = some (.w (txt (102 :: strI (drawN 10 (funG (drawD 3 a.2)).2)))) := by
        simp [txt, show 1 + (strI (drawN 10 (funG (drawD 3 a.2)).2)).length ≤ 16777216 by omega]
      have g3 := textBf hi (drawD 10 (funG (drawD 3 a.2)).2) ts 2
      generalize strI (drawN 10 (funG (drawD 3 a.2)).2) = sz at *
      generalize drawD 10 (funG (drawD 3 a.2)).2 = d9 at *
      have g4 := drawBf hi (textG 2 d9).2 ts 256
      refine okP_ift (by simp [e7, h0] <;> first | exact ⟨rfl, rfl⟩ | rfl) ?_
      refine okP_lock fun LQ hLQ => ?_
      simp [g1, g2, gs, ka, pk, pv]
      refine hLQ _ _ _ ?_
      clear hLQ LQ
      refine then_nx ?_
      refine okP_lock fun LQ hLQ => ?_
      simp [g3, g4]
      refine hLQ _ _ _ ?_
      clear hLQ LQ
      exact ret_is' rfl rfl
    · have hF : wF a.2 = ([], [], drawD 3 a.2) := by rw [wF, if_neg h0]
      rw [hF]
      have g3 := textBf hi (drawD 3 a.2) ts 2
      have g4 := drawBf hi (textG 2 (drawD 3 a.2)).2 ts 256
      refine okP_iff (by simp [e7, h0] <;> first | exact ⟨rfl, rfl⟩ | rfl) ?_
      refine okP_lock fun LQ hLQ => ?_
      simp only [e_sNext, OkP_ok]
      refine hLQ _ _ _ (then_nx ?_)
      clear hLQ LQ
      refine okP_lock fun LQ hLQ => ?_
      simp [g3, g4]
      refine hLQ _ _ _ ?_
      clear hLQ LQ
      exact ret_is' rfl rfl
end LawW
/-! S51z: the world is a plain tree; fields. -/
namespace LawW
open PySem L2 QB PySem.NumText
theorem pl_txt (n : Nat) (l : List Nat) : PlU n (txt l) := by cases n <;> trivial
theorem pl_int (n : Nat) (l : Int) : PlU n (.int l) := by cases n <;> trivial
theorem pl_optT (n : Nat) (o : Option (List Nat)) : PlU n (optT o) := by cases o <;> cases n <;> trivial
theorem pl_ns {m : Nat} {s : Ns} (h : NsOk m s) (hm : m ≤ 1000) (n : Nat) : PlU (n + 1) (.dct s.1 s.2.1) :=
  ⟨h.1, h.2.2.1, by have := h.2.1; omega, fun v hv => by obtain ⟨z, rfl⟩ := h.2.2.2 v hv; exact pl_txt _ _⟩
theorem pl_files {ks : Ks} {vs : Vs} (h : ks.length = vs.length) (h5 : ks.length ≤ 1000) (n : Nat) : PlU (n + 1) (dctU ks vs) := by
  refine ⟨by simpa using h, ?_, by simp; omega, ?_⟩
  · intro k hk
    obtain ⟨a, _, rfl⟩ := List.mem_map.mp hk
    exact ⟨a, rfl⟩
  · intro v hv
    obtain ⟨a, _, rfl⟩ := List.mem_map.mp hv
    exact pl_optT _ _
theorem pl_wF (d : Dk) : PlU 10 (.dct (wF d).1 (wF d).2.1) := by
  unfold wF
  split
  · refine ⟨rfl, ?_, by simp, ?_⟩
    · intro k hk
      simp only [List.mem_singleton] at hk
      exact ⟨_, hk⟩
    · intro v hv
      simp only [List.mem_singleton] at hv
      subst hv
      exact fun_pl _
  · exact ⟨rfl, by simp, by simp, by simp⟩
theorem pl_wA (d : Dk) : PlU 10 (.lst ((wA d).1.map txt)) := by
  have h0 := drawN_ge 3 d
  have h1 := drawN_lt 3 d
  have hl := gen_len (textG 2) (drawN 3 d).toNat (drawD 3 d)
  refine ⟨by rw [List.length_map, wA, hl]; omega, ?_⟩
  intro v hv
  obtain ⟨a, _, rfl⟩ := List.mem_map.mp hv
  exact pl_txt _ _
theorem wN_ok (d : Dk) : NsOk 3 (wN d) := by
  have h0 := drawN_ge 3 d
  have h1 := drawN_lt 3 d
  have := namesN_ok (drawN 3 d).toNat 0 ([], [], drawD 3 d) ⟨rfl, by simp, by simp, by simp⟩
  obtain ⟨a, b, c⟩ := this
  exact ⟨a, by show (namesN _ _).1.length ≤ 3; omega, c⟩
theorem world_pl (d : Dk) : PlU 11 (worldG d).1 := by
  have fok := filesG_ok d
  refine ⟨by simp, ?_⟩
  intro x hx
  simp only [List.mem_cons, List.not_mem_nil, or_false] at hx
  rcases hx with rfl | rfl | rfl | rfl | rfl | rfl | rfl
  · exact pl_files fok.1 (by have := fok.2.1; omega) 9
  · exact pl_txt _ _
  · exact pl_ns (wN_ok _) (by omega) 9
  · exact pl_wA _
  · exact pl_txt _ _
  · exact pl_int _ _
  · exact pl_wF _
theorem wFolder_good (d : Dk) : GoodP (wFolder d) ∧ (wFolder d).length ≤ 25 := by
  have fok := filesG_ok d
  have hm := getD_mem (draw_in (folders_ne (filesG d).1 (filesG d).2.1) (filesG d).2.2)
  rcases folders_mem hm with h | h
  · have h : wFolder d = [47] := h
    rw [h]
    exact ⟨good_top, by simp⟩
  · exact fok.2.2.2 _ h
end LawW
/-! S51zb: all signs are signs. -/
namespace LawW
open PySem L2 QB PySem.NumText
def Asc (l : List Nat) : Prop := ∀ c ∈ l, c < 1114112
theorem asc_nil : Asc [] := fun _ h => by cases h
theorem asc_cons {c : Nat} {l : List Nat} (h : c < 1114112) (h2 : Asc l) : Asc (c :: l) := fun x hx => by
  rcases List.mem_cons.mp hx with rfl | hx
  · exact h
  · exact h2 x hx
theorem asc_app {a b : List Nat} (h : Asc a) (h2 : Asc b) : Asc (a ++ b) := fun x hx => by
  rcases List.mem_append.mp hx with hx | hx
  · exact h x hx
  · exact h2 x hx
theorem asc_drop {a : List Nat} (n : Nat) (h : Asc a) : Asc (a.drop n) := fun x hx => h x (List.mem_of_mem_drop hx)
theorem sgs_asc : ∀ c ∈ sgs, c < 128 := by decide +kernel
theorem getD_asc {l : List Nat} (h : ∀ c ∈ l, c < 128) (k : Nat) : l.getD k 0 < 1114112 := by
  rw [List.getD_eq_getElem?_getD]
  cases e : l[k]? with
  | none => simp
  | some c =>
    have := h c (List.mem_iff_getElem?.mpr ⟨k, e⟩)
    simp only [Option.getD_some]
    omega
theorem sign_asc (m : Int) (d : Dk) : (signG m d).1 < 1114112 := getD_asc sgs_asc _
theorem text_asc (most : Int) (d : Dk) : Asc (textG most d).1 := fun c hc => gen_all (P := fun c => c < 1114112) (sign_asc 95) _ _ c hc
theorem part_asc (d : Dk) : Asc (partG d).1 := by
  by_cases h0 : drawN 2 d = 0
  · rw [partG, if_pos h0]
    simp only
    generalize (drawN 4 (drawD 2 d)).toNat = k
    match k with
    | 0 => intro c hc; simp [partS] at hc; omega
    | 1 => intro c hc; simp [partS] at hc; omega
    | 2 => intro c hc; simp [partS] at hc; omega
    | 3 => intro c hc; simp [partS] at hc; omega
    | k + 4 => intro c hc; simp [partS] at hc
  · rw [partG, if_neg h0]
    have hn := gen_all (P := fun c => c < 1114112) (sign_asc 94) (1 + drawN 3 (drawD 2 d)).toNat (drawD 3 (drawD 2 d))
    simp only
    split
    · exact asc_app hn (asc_cons (by omega) asc_nil)
    · exact hn
theorem joinP_asc {f p : List Nat} (hf : Asc f) (hp : Asc p) : Asc (joinP f p) := by
  unfold joinP
  split
  · exact asc_cons (by omega) hp
  · exact asc_app hf (asc_cons (by omega) hp)
theorem folders_asc {ks : Ks} {vs : Vs} (h : ∀ k ∈ ks, Asc k) {f : List Nat} (hf : f ∈ foldersC ks vs) : Asc f := by
  rcases folders_mem hf with rfl | hf
  · exact asc_cons (by omega) asc_nil
  · exact h f hf
theorem step_asc {s : Fs} (h : ∀ k ∈ s.1, Asc k) : ∀ k ∈ (fileStep s).1, Asc k := by
  have hm := folders_asc h (getD_mem (draw_in (folders_ne s.1 s.2.1) s.2.2))
  have hj := joinP_asc hm (part_asc (drawD (foldersC s.1 s.2.1).length s.2.2))
  unfold fileStep
  split
  · exact h
  · split
    · intro k hk
      rcases List.mem_append.mp hk with hk | hk
      · exact h k hk
      · rw [List.mem_singleton] at hk; subst hk; exact hj
    · intro k hk
      rcases List.mem_append.mp hk with hk | hk
      · exact h k hk
      · rw [List.mem_singleton] at hk; subst hk; exact hj
theorem filesN_asc : ∀ (n : Nat) (s : Fs), (∀ k ∈ s.1, Asc k) → ∀ k ∈ (filesN n s).1, Asc k
  | 0, s, h => h
  | n + 1, s, h => filesN_asc n _ (step_asc h)
theorem filesG_asc (d : Dk) : ∀ k ∈ (filesG d).1, Asc k := by
  have h := filesN_asc (drawN 6 d).toNat ([], [], drawD 6 d) (by simp)
  unfold filesG
  split
  · intro k hk
    exact h k (by simpa using hk)
  · exact h
theorem strI_asc (i : Int) : Asc (strI i) := by
  intro c hc
  unfold strI at hc
  rw [ofS, codes_ofC, List.mem_map] at hc
  obtain ⟨x, _, rfl⟩ := hc
  have := x.valid
  simp only [UInt32.isValidChar, Nat.isValidChar] at this
  show x.val.toNat < 1114112
  omega
theorem flt_txts {l : Ks} (h : ∀ k ∈ l, Asc k) : Flt 2 (.lst (l.map txt)) := by
  intro v hv
  obtain ⟨a, ha, rfl⟩ := List.mem_map.mp hv
  exact okS_of (h a ha)
theorem eqT_txts : ∀ l : Ks, eqT (.lst (l.map txt)) (.lst (l.map txt)) = true := by
  have h : ∀ l : Ks, eqTs (l.map txt) (l.map txt) = true := by
    intro l
    induction l with
    | nil => simp [eqTs]
    | cons a l ih => simp [eqTs, ih, txt, eqT]
  intro l
  simp [eqT, h]
theorem eq_txts {l : Ks} (h : ∀ k ∈ l, Asc k) : QB.eqU (.lst (l.map txt)) (.lst (l.map txt)) = some true := by
  rw [eqU_flt (by omega) (flt_txts h) (flt_txts h), eqT_txts]
/-- a field -/
def FOk (l : List Nat) : Prop := l.length ≤ 100 ∧ Asc l
end LawW
/-! S51zd: the path that a text says. -/
namespace LawW
open PySem L2 QB PySem.NumText
def onP (acc : Ks) (p : List Nat) : Ks := if p = [46, 46] then acc.dropLast else if p = [] ∨ p = [46] then acc else acc ++ [p]
def goP : Ks → Ks → Ks
  | acc, [] => acc
  | acc, p :: r => goP (onP acc p) r
theorem goP_app : ∀ (a b acc : Ks), goP acc (a ++ b) = goP (goP acc a) b
  | [], b, acc => rfl
  | p :: a, b, acc => by simp only [List.cons_append, goP, goP_app a b]
theorem goP_good : ∀ (a acc : Ks), (∀ q ∈ a, q ≠ [46] ∧ q ≠ [46, 46]) → goP acc a = acc ++ a.filter fun q => !q.isEmpty
  | [], acc, _ => by simp [goP]
  | p :: a, acc, h => by
    have hp := h p (List.mem_cons_self ..)
    rw [goP, goP_good a _ (fun q hq => h q (List.mem_cons_of_mem _ hq)), onP, if_neg hp.2]
    cases p with
    | nil => simp
    | cons x p =>
      have : ¬ ((x :: p) = [] ∨ (x :: p) = [46]) := by rintro (e | e); cases e; exact hp.1 e
      rw [if_neg this]
      simp
def pathT (f t : List Nat) : List Nat := 47 :: joinC [47] (goP [] (if t.head? = some 47 then splitC 47 t else splitC 47 f ++ splitC 47 t))
theorem weigh_app (a b : Ks) : weigh (a ++ b) = weigh a + weigh b := by simp [weigh]; omega
theorem weigh_one (p : List Nat) : weigh [p] = p.length + 1 := by simp [weigh]
theorem weigh_cons (p : List Nat) (r : Ks) : weigh (p :: r) = p.length + 1 + weigh r := by rw [← weigh_one, ← weigh_app]; rfl
theorem weigh_drop (a : Ks) : weigh a.dropLast ≤ weigh a := by
  rw [List.dropLast_eq_take]
  have := weigh_app (a.take (a.length - 1)) (a.drop (a.length - 1))
  rw [List.take_append_drop] at this
  omega
theorem weigh_on (acc : Ks) (p : List Nat) : weigh (onP acc p) ≤ weigh acc + (p.length + 1) := by
  unfold onP
  split
  · have := weigh_drop acc; omega
  · split
    · omega
    · rw [weigh_app, weigh_one]; omega
theorem weigh_filter (a : Ks) (q : List Nat → Bool) : weigh (a.filter q) ≤ weigh a := by
  induction a with
  | nil => simp
  | cons p a ih =>
    rw [List.filter_cons]
    split
    · rw [weigh_cons, weigh_cons]; omega
    · rw [weigh_cons]; omega
theorem cutU_m1 (us : List U) : cutU us none (some (-1)) = us.dropLast := by
  unfold cutU
  have e : HT.sIx us.length us.length (some (-1)) = us.length - 1 := by
    unfold HT.sIx
    simp only
    rw [if_pos (by decide)]
    omega
  rw [e, HT.sIx_none, List.drop_zero, Nat.sub_zero, List.dropLast_eq_take]
theorem map_drop1 (a : Ks) : (a.map txt).dropLast = a.dropLast.map txt := by simp [List.map_dropLast]
theorem e_split47 {t : List Nat} (h : t.length ≤ 100000) : gSplit (.str (ofC t)) [.str (ofC [47])] = some (.fr (.lst ((splitC 47 t).map txt))) := e_splitC (by omega) (by omega)
theorem e_join47 {a : Ks} (h : weigh a ≤ 1000000) : gJoin (.str (ofC [47])) [.lst (a.map txt)] = some (.w (txt (joinC [47] a))) := e_joinC (by unfold weigh at h; simp; omega)
theorem join47_len {a : Ks} (h : weigh a ≤ 1000000) : (joinC [47] a).length ≤ 1000000 := by
  have := joinC_len [47] a
  unfold weigh at h
  simp at this
  omega
theorem c_top : c_TOP = ofC [47] := lit_TOP
theorem head_top (t : List Nat) : (t.head? == some 47) = decide (t.head? = some 47) := by
  cases h : t.head? with
  | none => rfl
  | some c => by_cases e : c = 47 <;> simp [e]
theorem said_at {f t : List Nat} (hf : GoodP f) (fl : f.length ≤ 10000) (tl : t.length ≤ 10000) (B : Bx) : G_said_path [txt f, txt t] B = .ok (txt (pathT f t)) B := by
  have e1 := e_starts t 47
  rw [head_top] at e1
  have e2 := e_split47 (t := f) (by omega)
  have e3 := e_split47 (t := t) (by omega)
  have l2 := splitC_len 47 f
  have l3 := splitC_len 47 t
  have w2 := splitC_weigh 47 f
  have w3 := splitC_weigh 47 t
  have hg : goP [] (splitC 47 f) = (splitC 47 f).filter fun q => !q.isEmpty := by rw [goP_good _ _ hf]; rfl
  have lc := mLc_if txt (fun q => !q.isEmpty) txt (bd := bdN 3) (t := toT (m2 gNe (mVar 3) (mC (.str "")))) (f := mVar 3) (ks := [3]) (xs := splitC 47 f) (E := [.val (txt f), .val (txt t), .un, .un]) (B := B)
    (fi := mItV (mM gSplit (mVar 0) (mCons (mC (.str c_TOP)) mNil))) (by simp [c_top, e2, txt]) (by simp) (by simp) (by omega)
    (fun k hk => BdIs_of (E := [.val (txt f), .val (txt t), .un, .val (txt k)]) (by simp) ⟨by simp, by
      unfold Tst
      cases k <;> simp [txt], fun _ => by unfold Elt; simp⟩)
  have lce : lc_said_path_0 [.val (txt f), .val (txt t), .un, .un] B = _ := lc
  have st : ∃ start : Ks, goP start (splitC 47 t) = goP [] (if t.head? = some 47 then splitC 47 t else splitC 47 f ++ splitC 47 t) ∧ weigh start ≤ 10001 ∧
      (mIf (mTru (mM gStarts (mVar 1) (mCons (mC (.str c_TOP)) mNil))) (mLst mNil) lc_said_path_0) [.val (txt f), .val (txt t), .un, .un] B = .ok (.fr (.lst (start.map txt))) [.val (txt f), .val (txt t), .un, .un] B := by
    by_cases h : t.head? = some 47
    · refine ⟨[], by rw [if_pos h], by simp [weigh], ?_⟩
      simp [c_top, txt, e1, h]
    · refine ⟨(splitC 47 f).filter fun q => !q.isEmpty, by rw [if_neg h, goP_app, hg], by have := weigh_filter (splitC 47 f) fun q => !q.isEmpty; omega, ?_⟩
      have lce2 := lce
      simp only [txt] at lce2 ⊢
      simp [c_top, e1, h, lce2]
  obtain ⟨start, hs, ws, est⟩ := st
  unfold pathT
  rw [← hs]
  simp only [G_said_path]
  refine run_is rfl ?_
  simp only [b_said_path, List.map_cons, List.map_nil, List.length_cons, List.length_nil, Nat.reduceAdd, Nat.reduceSub, List.replicate_succ, List.replicate_zero, List.cons_append, List.nil_append, Nat.zero_add, Nat.sub_self, List.append_nil]
  refine okP_seqT ?_
  rw [e_sOwn, est]
  refine okP_lock fun LQ hLQ => ?_
  simp
  refine hLQ _ _ _ (then_nx ?_)
  clear hLQ LQ
  refine okP_seqT ?_
  refine okP_forM txt (xs := splitC 47 t) (E1 := [.val (txt f), .val (txt t), .own (.lst (start.map txt)), .un]) (B1 := B) (by simp [c_top, e3, txt])
    (fun r E B' => B' = B ∧ ∃ acc s3, goP acc r = goP start (splitC 47 t) ∧ weigh acc + weigh r ≤ 30000 ∧ E = [.val (txt f), .val (txt t), .own (.lst (acc.map txt)), s3] ∧ Free s3)
    ⟨rfl, start, .un, rfl, by omega, rfl, free_un⟩ ?_ ?_
  · rintro p r E B' ⟨rfl, acc, s3, h1, h2, rfl, f3⟩
    refine BdIs_of (E := [.val (txt f), .val (txt t), .own (.lst (acc.map txt)), .val (txt p)]) (by rcases f3 with rfl | ⟨_, rfl⟩ <;> simp) (body_go ?_)
    rw [weigh_cons] at h2
    have w := weigh_on acc p
    have nx : ∀ acc', onP acc p = acc' → LoopP (Then (sRet (m2 gAdd (mC (.str c_TOP)) (mM gJoin (mC (.str c_TOP)) (mCons (mVar 2) mNil)))) (RetIs (txt (47 :: joinC [47] (goP start (splitC 47 t)))) B'))
        (fun E B'' => B'' = B' ∧ ∃ acc s3, goP acc r = goP start (splitC 47 t) ∧ weigh acc + weigh r ≤ 30000 ∧ E = [.val (txt f), .val (txt t), .own (.lst (acc.map txt)), s3] ∧ Free s3) .nx [.val (txt f), .val (txt t), .own (.lst (acc'.map txt)), .val (txt p)] B' := by
      rintro acc' rfl
      exact loop_nx ⟨rfl, _, _, h1, by omega, rfl, free_val⟩
    simp only [lp_said_path_0]
    have al : acc.length ≤ 30000 := by have := h2; unfold weigh at this; omega
    have al2 : acc.length + 1 ≤ 16777216 := by omega
    have al3 : acc.length < 16777216 := by omega
    by_cases hp : p = [46, 46]
    · subst hp
      have cu := cutU_m1 (acc.map txt)
      rw [map_drop1] at cu
      refine okP_ift0 (by simp [txt]; done) ?_
      refine okP_lock fun LQ hLQ => ?_
      simp [cu]
      refine hLQ _ _ _ ?_
      clear hLQ LQ
      rw [map_drop1]
      exact nx acc.dropLast (by simp [onP])
    · refine okP_iff0 (by simp [txt, hp]; done) ?_
      by_cases hq : p = [] ∨ p = [46]
      · refine okP_iff0 (by rcases hq with rfl | rfl <;> simp [txt]; done) ?_
        refine okP_lock fun LQ hLQ => ?_
        simp
        refine hLQ _ _ _ ?_
        clear hLQ LQ
        exact nx _ (by rw [onP, if_neg hp, if_pos hq])
      · have hq' := hq
        rw [not_or] at hq'
        refine okP_ift0 (by simp [txt, hq'.1, hq'.2, Ne.symm hq'.1, Ne.symm hq'.2]; done) ?_
        refine okP_lock fun LQ hLQ => ?_
        simp [al2, al3]
        refine hLQ _ _ _ ?_
        clear hLQ LQ
        have := nx (acc ++ [p]) (by rw [onP, if_neg hp, if_neg hq])
        simpa using this
  · rintro E B' ⟨rfl, acc, s3, h1, h2, rfl, f3⟩
    refine then_nx ?_
    have h1 : acc = goP start (splitC 47 t) := h1
    rw [← h1]
    have wa : weigh acc ≤ 1000000 := by omega
    have e5 := e_join47 wa
    have jl := join47_len wa
    have jl2 : 1 + (joinC [47] acc).length ≤ 16777216 := by omega
    simp only [txt] at e5
    refine okP_lock fun LQ hLQ => ?_
    simp [c_top, e5, jl2]
    refine hLQ _ _ _ ?_
    clear hLQ LQ
    exact ret_is' (by simp [txt]) rfl
end LawW
/-! S45b: the paths of the files stand. -/
namespace LawW
open PySem L2 QB PySem.NumText PySem.StrLaws
def PathOk (k : List Nat) : Prop := ∃ ps : Ks, ps ≠ [] ∧ (∀ p ∈ ps, PartOk p) ∧ k = 47 :: joinC [47] ps
theorem joinC_snoc (sep p : List Nat) : ∀ ps : Ks, ps ≠ [] → joinC sep (ps ++ [p]) = joinC sep ps ++ sep ++ p
  | [], h => absurd rfl h
  | [a], _ => rfl
  | a :: b :: r, _ => by
    have ih := joinC_snoc sep p (b :: r) (by simp)
    simp only [List.cons_append, joinC] at ih ⊢
    rw [ih]
    simp
theorem splitC_join : ∀ ps : Ks, ps ≠ [] → (∀ p ∈ ps, 47 ∉ p) → splitC 47 (joinC [47] ps) = ps
  | [], h, _ => absurd rfl h
  | [a], _, h => splitC_no 47 a (h a (by simp))
  | a :: b :: r, _, h => by
    have ih := splitC_join (b :: r) (by simp) (fun p hp => h p (List.mem_cons_of_mem _ hp))
    simp only [joinC]
    rw [List.append_assoc, List.singleton_append, splitC_app, ih, splitC_no 47 a (h a (by simp))]
    rfl
theorem pathOk_join {f p : List Nat} (hf : f = [47] ∨ PathOk f) (hp : PartOk p) : PathOk (joinP f p) := by
  unfold joinP
  by_cases h : f = [47]
  · rw [if_pos h]
    exact ⟨[p], by simp, by simpa using hp, rfl⟩
  · rw [if_neg h]
    rcases hf with e | ⟨ps, h1, h2, rfl⟩
    · exact absurd e h
    · refine ⟨ps ++ [p], by simp, fun q hq => ?_, by rw [joinC_snoc _ _ _ h1]; simp⟩
      rcases List.mem_append.mp hq with hq | hq
      · exact h2 q hq
      · rw [List.mem_singleton] at hq; subst hq; exact hp
/-- each path's folder is there -/
def Stand (ks : Ks) (vs : Vs) : Prop := ∀ k ∈ ks, ∃ f p, k = joinP f p ∧ PartOk p ∧ (f = [47] ∨ (PathOk f ∧ f ∈ ks ∧ valC ks vs f = none))
theorem Stand.path {ks : Ks} {vs : Vs} (h : Stand ks vs) {k : List Nat} (hk : k ∈ ks) : PathOk k := by
  obtain ⟨f, p, rfl, hp, hf⟩ := h k hk
  exact pathOk_join (by rcases hf with e | e; exact .inl e; exact .inr e.1) hp
theorem valC_app : ∀ {ks : Ks} {vs : Vs} {f : List Nat} (l : Ks) (m : Vs), ks.length = vs.length → f ∈ ks → valC (ks ++ l) (vs ++ m) f = valC ks vs f
  | [], vs, f, l, m, _, h => by cases h
  | k :: ks, [], f, l, m, h, _ => by simp at h
  | k :: ks, v :: vs, f, l, m, h, hf => by
    simp only [List.cons_append, valC]
    by_cases e : k = f
    · rw [if_pos e, if_pos e]
    · rw [if_neg e, if_neg e]
      rcases List.mem_cons.mp hf with rfl | hf
      · exact absurd rfl e
      · exact valC_app l m (by simpa using h) hf
theorem folders_none {ks : Ks} {vs : Vs} {f : List Nat} (h : f ∈ foldersC ks vs) : f = [47] ∨ (f ∈ ks ∧ valC ks vs f = none) := by
  unfold foldersC at h
  rcases List.mem_cons.mp h with h | h
  · exact .inl h
  · have := List.mem_filter.mp h
    exact .inr ⟨(sortC_mem _ _).mp this.1, by simpa using this.2⟩
theorem step_stand {s : Fs} (hl : s.1.length = s.2.1.length) (h : Stand s.1 s.2.1) : Stand (fileStep s).1 (fileStep s).2.1 := by
  obtain ⟨ks, vs, d⟩ := s
  simp only at h hl
  unfold fileStep
  simp only
  have hm := folders_none (getD_mem (draw_in (folders_ne ks vs) d))
  generalize (foldersC ks vs).getD (drawN (foldersC ks vs).length d).toNat [] = f at *
  have hp := part_good (drawD (foldersC ks vs).length d)
  generalize partG (drawD (foldersC ks vs).length d) = q at *
  have grow : ∀ v : Option (List Nat), Stand (ks ++ [joinP f q.1]) (vs ++ [v]) := by
    intro v k hk
    rcases List.mem_append.mp hk with hk | hk
    · obtain ⟨g, p, e, h1, h2⟩ := h k hk
      refine ⟨g, p, e, h1, ?_⟩
      rcases h2 with h2 | ⟨h2, h3, h4⟩
      · exact .inl h2
      · exact .inr ⟨h2, List.mem_append_left _ h3, by rw [valC_app _ _ hl h3]; exact h4⟩
    · rw [List.mem_singleton] at hk
      refine ⟨f, q.1, hk, hp, ?_⟩
      rcases hm with hm | ⟨h3, h4⟩
      · exact .inl hm
      · exact .inr ⟨h.path h3, List.mem_append_left _ h3, by rw [valC_app _ _ hl h3]; exact h4⟩
  split
  · exact h
  · split
    · exact grow _
    · exact grow _
theorem filesN_stand : ∀ (n m : Nat) (s : Fs), StOk m s → Stand s.1 s.2.1 → Stand (filesN n s).1 (filesN n s).2.1
  | 0, m, s, _, h => h
  | n + 1, m, s, hs, h => filesN_stand n (m + 1) _ (step_ok hs) (step_stand hs.1 h)
theorem zip_rev : ∀ {ks : Ks} {vs : Vs}, ks.length = vs.length → ks.reverse.zip vs.reverse = (ks.zip vs).reverse
  | [], [], _ => rfl
  | [], v :: vs, h => by simp at h
  | k :: ks, [], h => by simp at h
  | k :: ks, v :: vs, h => by
    have ih := zip_rev (ks := ks) (vs := vs) (by simpa using h)
    rw [List.reverse_cons, List.reverse_cons, List.zip_append (by simpa using h), ih]
    simp
theorem valC_in : ∀ {ks : Ks} {vs : Vs} {f : List Nat}, ks.length = vs.length → f ∈ ks → (f, valC ks vs f) ∈ ks.zip vs
  | [], vs, f, _, h => by cases h
  | k :: ks, [], f, h, _ => by simp at h
  | k :: ks, v :: vs, f, h, hf => by
    simp only [valC, List.zip_cons_cons]
    by_cases e : k = f
    · rw [if_pos e, e]; exact List.mem_cons_self ..
    · rw [if_neg e]
      rcases List.mem_cons.mp hf with rfl | hf
      · exact absurd rfl e
      · exact List.mem_cons_of_mem _ (valC_in (by simpa using h) hf)
theorem valC_of : ∀ {ks : Ks} {vs : Vs} {f : List Nat} {v : Option (List Nat)}, ks.Nodup → (f, v) ∈ ks.zip vs → valC ks vs f = v
  | [], vs, f, v, _, h => by simp at h
  | k :: ks, [], f, v, _, h => by simp at h
  | k :: ks, w :: vs, f, v, hn, h => by
    rw [List.nodup_cons] at hn
    rw [List.zip_cons_cons] at h
    rcases List.mem_cons.mp h with e | h
    · cases e
      rw [valC, if_pos rfl]
    · have : f ∈ ks := (List.of_mem_zip h).1
      rw [valC, if_neg (fun e => hn.1 (by rw [e]; exact this)), valC_of hn.2 h]
theorem valC_rev {ks : Ks} {vs : Vs} {f : List Nat} (hn : ks.Nodup) (hl : ks.length = vs.length) (hf : f ∈ ks) : valC ks.reverse vs.reverse f = valC ks vs f := by
  refine valC_of ((List.reverse_perm ks).nodup_iff.mpr hn) ?_
  rw [zip_rev hl, List.mem_reverse]
  exact valC_in hl hf
theorem filesG_stand (d : Dk) : Stand (filesG d).1 (filesG d).2.1 := by
  have h := filesN_stand (drawN 6 d).toNat 0 ([], [], drawD 6 d) ⟨rfl, by simp, by simp⟩ (by intro k hk; cases hk)
  have h0 := filesN_ok (drawN 6 d).toNat 0 ([], [], drawD 6 d) ⟨rfl, by simp, by simp⟩
  have hn := filesN_nodup (drawN 6 d).toNat ([], [], drawD 6 d) (by simp)
  unfold filesG
  generalize filesN (drawN 6 d).toNat ([], [], drawD 6 d) = s at *
  split
  · intro k hk
    simp only [List.mem_reverse] at hk
    obtain ⟨f, p, e, h1, h2⟩ := h k hk
    refine ⟨f, p, e, h1, ?_⟩
    rcases h2 with h2 | ⟨h2, h3, h4⟩
    · exact .inl h2
    · exact .inr ⟨h2, by simpa using h3, by show valC s.1.reverse s.2.1.reverse f = none; rw [valC_rev hn h0.1 h3]; exact h4⟩
  · exact h
/-! ### the last part of a path -/
theorem at_one (l : List Nat) (c i : Nat) : StrLaws.At (ofC l) (ofC [c]) (ofC l).length i ↔ l[i]? = some c := by
  have := subAt_one (ofC l) c i
  rw [ofC_cps] at this
  exact this
theorem last_one {a b : List Nat} {c : Nat} (h : c ∉ b) : Builtin.Str.lastOccurrence (ofC (a ++ c :: b)) (ofC [c]) 0 (ofC (a ++ c :: b)).length = some a.length := by
  have ha : (a ++ c :: b)[a.length]? = some c := by simp
  rcases last_spec (ofC (a ++ c :: b)) (ofC [c]) with ⟨h0, hn⟩ | ⟨i, h0, hi, hn⟩
  · exact absurd ((at_one _ _ _).mpr ha) (hn a.length)
  · rw [h0]
    have hi := (at_one _ _ _).mp hi
    rcases Nat.lt_trichotomy i a.length with hlt | e | hgt
    · exact absurd ((at_one _ _ _).mpr ha) (hn a.length hlt)
    · rw [e]
    · exfalso
      have e : i = a.length + ((i - a.length - 1) + 1) := by omega
      rw [e, List.getElem?_append_right (by omega)] at hi
      rw [show a.length + (i - a.length - 1 + 1) - a.length = (i - a.length - 1) + 1 by omega, List.getElem?_cons_succ] at hi
      exact h (List.mem_iff_getElem?.mpr ⟨_, hi⟩)
theorem rpart_one {a b : List Nat} {c : Nat} (h : c ∉ b) : Txt.rpartition (ofC (a ++ c :: b)) (ofC [c]) = (ofC a, ofC [c], ofC b) := by
  unfold Txt.rpartition
  rw [last_one h]
  simp only [sub_ofC, ofC_len]
  have e : a.length + (b.length + 1) - (a.length + 1) = b.length := by omega
  simp [e]
theorem e_rpart {a b : List Nat} (h : 47 ∉ b) (hl : (a ++ 47 :: b).length ≤ 16777216) : gRPart (.str (ofC (a ++ 47 :: b))) [.str (ofC [47])] = some (.w (.tup [txt a, txt [47], txt b])) := by
  unfold gRPart
  simp only
  rw [if_pos ⟨by simp, by simpa using hl⟩, rpart_one h]
  rfl
end LawW
/-! S45c: the files stand. -/
namespace LawW
open PySem L2 QB PySem.NumText
def fileB (ks : Ks) (vs : Vs) (p : List Nat) : Bool := decide (p ∈ ks) && !decide (valC ks vs p = none)
def foldB (ks : Ks) (vs : Vs) (p : List Nat) : Bool := p == [47] || (decide (p ∈ ks) && decide (valC ks vs p = none))
theorem din_ok {ks : Ks} {vs : Vs} (p : List Nat) : gDIn false (txt p) (dctU ks vs) = some (.w (.bl (decide (p ∈ ks)))) := by
  have e6 := has_ok ks p
  simp [gDIn, dctU, e6]
theorem dix_ok {ks : Ks} {vs : Vs} (hl : ks.length = vs.length) {p : List Nat} (hp : p ∈ ks) : gDIx (dctU ks vs) (txt p) = some (.w (optT (valC ks vs p))) := by
  have e1 := look_ok hl hp
  simp [gDIx, dctU, txt, show Sum.inr (ofC p) = keyC p from rfl, e1]
@[simp] theorem view_dct (ks : Ks) (vs : Vs) (B : Bx) : viewU (dctU ks vs) B = some (dctU ks vs) := rfl
theorem is_folder_at {ks : Ks} {vs : Vs} (hl : ks.length = vs.length) (p : List Nat) (B : Bx) : G_is_folder [dctU ks vs, txt p] B = .ok (.bl (foldB ks vs p)) B := by
  have e1 := din_ok (ks := ks) (vs := vs) p
  have en := isNon_optT (valC ks vs p)
  have te : QB.eqU (txt p) (.str (ofC [47])) = some (p == [47]) := by simp [txt]
  simp only [G_is_folder, foldB]
  cases ht : (p == [47]) with
  | true =>
    rw [ht] at te
    simp [runBody, b_is_folder, c_top, te]
  | false =>
    rw [ht] at te
    by_cases hp : p ∈ ks
    · have e2 := dix_ok hl hp
      simp [runBody, b_is_folder, e1, e2, hp, view_optT, en, c_top, te]
    · simp [runBody, b_is_folder, e1, hp, c_top, te]
theorem is_path_at {k : List Nat} (h : PathOk k) (hl : k.length ≤ 10000) (B : Bx) : G_is_path [txt k] B = .ok (.bl true) B := by
  obtain ⟨ps, h1, h2, rfl⟩ := h
  have e1 := e_starts (47 :: joinC [47] ps) 47
  rw [head_top] at e1
  have l0 : (joinC [47] ps).length ≤ 10000 := by simp at hl; omega
  have l1 : (47 :: joinC [47] ps).length ≤ 16777216 := by omega
  have e2 : gSl (.str (ofC (47 :: joinC [47] ps))) (some 1) none = some (.w (.str (ofC (joinC [47] ps)))) := by rw [e_sl_s l1, cut_tail]; rfl
  have e3 := e_split47 (t := joinC [47] ps) (by omega)
  rw [splitC_join ps h1 (fun p hp => (h2 p hp).2.2.1)] at e3
  have w := splitC_weigh 47 (joinC [47] ps)
  rw [splitC_join ps h1 (fun p hp => (h2 p hp).2.2.1)] at w
  have pl : ps.length ≤ 16777216 := by unfold weigh at w; omega
  have lc := mLc_all txt (fun _ => .bl true) (bd := bdN 1) (f := m2 (gIn true) (mVar 1) (mTup (mCons (mC (.str "")) (mCons (mC (.str ".")) (mCons (mC (.str "..")) mNil))))) (ks := [1]) (xs := ps) (E := [.val (.str (ofC (47 :: joinC [47] ps))), .un]) (B := B)
    (fi := mItV (mM gSplit (mSl (mVar 0) (mPart (mC (.int 1))) mNoPart) (mCons (mC (.str c_TOP)) mNil))) (by simp [e2, e3, c_top]) (by simp) (by simp) (by omega)
    (fun p hp => BdIs_of (E := [.val (.str (ofC (47 :: joinC [47] ps))), .val (txt p)]) (by simp) ⟨by simp, by
      obtain ⟨p1, _, _, p4, p5⟩ := h2 p hp
      unfold Elt
      simp [txt, p1, p4, p5, Ne.symm p1, Ne.symm p4, Ne.symm p5]⟩)
  have lce : lc_is_path_0 [.val (.str (ofC (47 :: joinC [47] ps))), .un] B = _ := lc
  have ea := e_all' (l := ps) (p := fun _ => true)
  simp only [G_is_path, txt]
  refine run_is rfl ?_
  simp only [b_is_path, List.map_cons, List.map_nil, List.length_cons, List.length_nil, Nat.reduceAdd, Nat.reduceSub, List.replicate_succ, List.replicate_zero, List.cons_append, List.nil_append, Nat.zero_add, Nat.sub_self, List.append_nil]
  refine okP_seqT ?_
  refine okP_iff0 (by simp [c_top, e1]; done) ?_
  refine okP_lock fun LQ hLQ => ?_
  simp only [e_sNext, OkP_ok]
  refine hLQ _ _ _ (then_nx ?_)
  clear hLQ LQ
  refine okP_lock fun LQ hLQ => ?_
  simp [lce, ea]
  refine hLQ _ _ _ ?_
  clear hLQ LQ
  exact ret_is' (by simp) rfl
theorem top_starts {f : List Nat} (h : PathOk f) : f ≠ [] ∧ f ≠ [47] := by
  obtain ⟨ps, h1, h2, rfl⟩ := h
  refine ⟨by simp, fun e => ?_⟩
  have e : joinC [47] ps = [] := by simpa using e
  cases ps with
  | nil => exact h1 rfl
  | cons a r =>
    have ha := (h2 a (by simp)).1
    cases r with
    | nil => exact ha e
    | cons b r => simp [joinC] at e
theorem folder_of_at {f p : List Nat} (hf : f = [47] ∨ PathOk f) (hp : PartOk p) (hl : f.length ≤ 10000) (B : Bx) : G_folder_of [txt (joinP f p)] B = .ok (txt f) B := by
  have pl := hp.2.1
  simp only [G_folder_of]
  unfold joinP
  by_cases h : f = [47]
  · have e := e_rpart (a := []) (b := p) hp.2.2.1 (by simp; omega)
    simp only [List.nil_append, txt] at e
    rw [if_pos h]
    refine run_is rfl ?_
    simp only [b_folder_of, List.map_cons, List.map_nil, List.length_cons, List.length_nil, Nat.reduceAdd, Nat.reduceSub, List.replicate_succ, List.replicate_zero, List.cons_append, List.nil_append, Nat.zero_add, Nat.sub_self, List.append_nil]
    refine okP_seqL fun LQ hLQ => ?_
    simp [txt, c_top, e]
    refine hLQ _ _ _ (then_nx ?_)
    clear hLQ LQ
    refine okP_lock fun LQ hLQ => ?_
    simp [c_top]
    refine hLQ _ _ _ ?_
    clear hLQ LQ
    exact ret_is' (by rw [h]; rfl) rfl
  · have e := e_rpart (a := f) (b := p) hp.2.2.1 (by simp; omega)
    simp only [txt] at e
    rw [if_neg h]
    have hne : f ≠ [] := by
      rcases hf with hf | hf
      · exact absurd hf h
      · exact (top_starts hf).1
    refine run_is rfl ?_
    simp only [b_folder_of, List.map_cons, List.map_nil, List.length_cons, List.length_nil, Nat.reduceAdd, Nat.reduceSub, List.replicate_succ, List.replicate_zero, List.cons_append, List.nil_append, Nat.zero_add, Nat.sub_self, List.append_nil]
    refine okP_seqL fun LQ hLQ => ?_
    simp [txt, c_top, e]
    refine hLQ _ _ _ (then_nx ?_)
    clear hLQ LQ
    refine okP_lock fun LQ hLQ => ?_
    simp [c_top, hne]
    refine hLQ _ _ _ ?_
    clear hLQ LQ
    exact ret_is' rfl rfl
theorem stands_at {ks : Ks} {vs : Vs} (hl : ks.length = vs.length) (h5 : ks.length ≤ 1000) (hs : Stand ks vs) (hk : ∀ k ∈ ks, k.length ≤ 1000) (B : Bx) : G_stands [dctU ks vs] B = .ok (.bl true) B := by
  have hi : itemsD (ks.map keyC) (vs.map optT) = (ks.zip vs).map fun p => U.tup [txt p.1, optT p.2] := by
    clear hs hk h5
    induction ks generalizing vs with
    | nil => cases vs <;> rfl
    | cons k ks ih =>
      cases vs with
      | nil => simp at hl
      | cons v vs =>
        have ih := ih (vs := vs) (by simpa using hl)
        unfold itemsD at ih ⊢
        simp only [List.map_cons, List.zip_cons_cons, List.zipWith_cons_cons] at ih ⊢
        rw [ih]
        rfl
  simp only [G_stands]
  refine run_is rfl ?_
  simp only [b_stands, List.map_cons, List.map_nil, List.length_cons, List.length_nil, Nat.reduceAdd, Nat.reduceSub, List.replicate_succ, List.replicate_zero, List.cons_append, List.nil_append, Nat.zero_add, Nat.sub_self, List.append_nil]
  refine okP_seqT ?_
  refine okP_forM (fun p : List Nat × Option (List Nat) => U.tup [txt p.1, optT p.2]) (xs := ks.zip vs) (E1 := [.val (dctU ks vs), .un, .un]) (B1 := B) (by simp [dctU, hi])
    (fun r E B' => B' = B ∧ (∀ p ∈ r, p.1 ∈ ks) ∧ ∃ s1 s2, E = [.val (dctU ks vs), s1, s2] ∧ Free s1 ∧ Free s2)
    ⟨rfl, fun p hp => (List.of_mem_zip hp).1, .un, .un, rfl, free_un, free_un⟩ ?_ ?_
  · rintro ⟨k, v⟩ r E B' ⟨rfl, hr, s1, s2, rfl, f1, f2⟩
    have hk1 : k ∈ ks := hr (k, v) (List.mem_cons_self ..)
    refine BdIs_of (E := [.val (dctU ks vs), .val (txt k), .val (optT v)]) (by rcases f1 with rfl | ⟨_, rfl⟩ <;> rcases f2 with rfl | ⟨_, rfl⟩ <;> simp) (body_go ?_)
    obtain ⟨f, p, e, hp, hf⟩ := hs k hk1
    have kl := hk k hk1
    have e1 := is_path_at (hs.path hk1) (by omega) B'
    have fl : f.length ≤ 10000 := by
      rcases hf with rfl | ⟨_, h, _⟩
      · simp
      · have := hk f h; omega
    have e2 := folder_of_at (f := f) (p := p) (by rcases hf with h | h; exact .inl h; exact .inr h.1) hp fl B'
    rw [← e] at e2
    have e3 := is_folder_at (vs := vs) hl f B'
    have e4 : foldB ks vs f = true := by
      unfold foldB
      rcases hf with rfl | ⟨_, h3, h4⟩
      · simp
      · simp [h3, h4]
    rw [e4] at e3
    simp only [lp_stands_0]
    refine okP_seqT ?_
    have e1' := e1
    simp only [txt] at e1'
    refine okP_iff0 (by cases v <;> simp [e1', optT, txt]; done) ?_
    refine okP_lock fun LQ hLQ => ?_
    simp only [e_sNext, OkP_ok]
    refine hLQ _ _ _ (then_nx ?_)
    clear hLQ LQ
    refine okP_iff0 (by simp [e2, e3]; done) ?_
    refine okP_lock fun LQ hLQ => ?_
    simp
    refine hLQ _ _ _ ?_
    clear hLQ LQ
    exact loop_nx ⟨rfl, fun q hq => hr q (List.mem_cons_of_mem _ hq), _, _, rfl, free_val, free_val⟩
  · rintro E B' ⟨rfl, _, s1, s2, rfl, f1, f2⟩
    refine then_nx ?_
    refine okP_lock fun LQ hLQ => ?_
    simp
    refine hLQ _ _ _ ?_
    clear hLQ LQ
    exact ret_is
end LawW
/-! S45d: names. -/
namespace LawW
open PySem L2 QB PySem.NumText
def letP : List Nat := [97, 98, 99, 100, 101, 102, 103, 104, 105, 106, 107, 108, 109, 110, 111, 112, 113, 114, 115, 116, 117, 118, 119, 120, 121, 122, 65, 66, 67, 68, 69, 70, 71, 72, 73, 74, 75, 76, 77, 78, 79, 80, 81, 82, 83, 84, 85, 86, 87, 88, 89, 90, 95]
def digP : List Nat := [48, 49, 50, 51, 52, 53, 54, 55, 56, 57]
def nameP : List Nat := letP ++ digP
def bareP : List Nat := (letP.take 52) ++ digP ++ [46, 47, 95, 45, 44, 58, 43, 64, 61, 42, 63, 91, 93, 33, 126]
def sgsP : List Nat := 10 :: ((List.range 95).map (· + 32)).filter (· != 37)
theorem c_let : c_LETTERS = ofC letP := by rw [lit_LETTERS]; decide +kernel
theorem c_name : c_NAME_SIGNS = ofC nameP := by rw [lit_NAME_SIGNS]; decide +kernel
theorem c_bare : c_BARE = ofC bareP := by rw [lit_BARE]; decide +kernel
theorem c_sgsP : c_SIGNS = ofC sgsP := by rw [lit_SIGNS]; decide +kernel
theorem has_signs_ok (l s : List Nat) (hl : l.length ≤ 10000) (B : Bx) : G_has_signs [.str (ofC l), .str (ofC s)] B = .ok (.bl (l.all fun c => decide (c ∈ s))) B := by
  have lc : lc_has_signs_0 [.val (.str (ofC l)), .val (.str (ofC s)), .un] B = .ok (.fr (.lst (l.map fun c => .bl (decide (c ∈ s))))) [.val (.str (ofC l)), .val (.str (ofC s)), .un] B := by
    refine mLc_all chr (fun c => .bl (decide (c ∈ s))) (by simp [chr]) (by simp) (by simp) (by omega) (fun c _ => ?_)
    simp [Elt, chr]
  have an := e_all' (l := l) (p := fun c => decide (c ∈ s))
  simp only [G_has_signs]
  refine run_is rfl ?_
  simp only [b_has_signs, List.map_cons, List.map_nil, List.length_cons, List.length_nil, Nat.reduceAdd, Nat.reduceSub, List.replicate_succ, List.replicate_zero, List.cons_append, List.nil_append, Nat.zero_add, Nat.sub_self, List.append_nil]
  refine okP_lock fun LQ hLQ => ?_
  simp [lc, an]
  first | exact hLQ _ _ _ ret_is | exact hLQ _ _ _ (ret_is' (by simp [lc, an]) rfl)
def isNm (l : List Nat) : Bool := (l.all fun c => decide (c ∈ nameP)) && match l with
  | [] => false
  | c :: _ => decide (c ∈ letP)
theorem ne_nil {l : List Nat} : (l == ([] : List Nat)) = l.isEmpty := by cases l <;> rfl
theorem is_name_ok (l : List Nat) (hl : l.length ≤ 10000) (B : Bx) : G_is_name [.str (ofC l)] B = .ok (.bl (isNm l)) B := by
  have h1 := has_signs_ok l nameP hl B
  have hb : b_is_name G_has_signs = sRet (mAndV (mCall G_has_signs (mCons (mVar 0) (mCons (mC (.str (ofC nameP))) (mNil)))) (mAndV (m2 gNe (mVar 0) (mC (.str ""))) (m2 (gIn false) (m2 gIx (mVar 0) (mC (.int 0))) (mC (.str (ofC letP)))))) := by
    rw [← c_name, ← c_let]; rfl
  simp only [G_is_name, hb]
  refine run_is rfl ?_
  simp only [List.map_cons, List.map_nil, List.length_cons, List.length_nil, Nat.reduceAdd, Nat.reduceSub, List.replicate_zero, List.append_nil, Nat.sub_self]
  have hl2 : l.length ≤ 16777216 := by omega
  unfold isNm
  cases ha : (l.all fun c => decide (c ∈ nameP)) with
  | false =>
    rw [ha] at h1
    refine okP_lock fun LQ hLQ => ?_
    simp [h1]
    first | exact hLQ _ _ _ ret_is | exact hLQ _ _ _ (ret_is' (by simp [h1]) rfl)
  | true =>
    rw [ha] at h1
    cases l with
    | nil =>
      refine okP_lock fun LQ hLQ => ?_
      simp [h1]
      first | exact hLQ _ _ _ ret_is | exact hLQ _ _ _ (ret_is' (by simp [h1]) rfl)
    | cons c r =>
      have hl3 : r.length + 1 ≤ 16777216 := by simpa using hl2
      refine okP_lock fun LQ hLQ => ?_
      simp [h1, hl3]
      first | exact hLQ _ _ _ ret_is | exact hLQ _ _ _ (ret_is' (by simp [h1, hl3]) rfl)
theorem let_sub : ∀ c ∈ letS, c ∈ letP := by decide +kernel
theorem nam_sub : ∀ c ∈ letS ++ digS, c ∈ nameP := by decide +kernel
theorem let_nam : ∀ c ∈ letS, c ∈ nameP := by decide +kernel
theorem getD_in {l : List Nat} {k : Nat} (h : k < l.length) : l.getD k 0 ∈ l := by
  rw [List.getD_eq_getElem?_getD, List.getElem?_eq_getElem h]
  exact List.getElem_mem h
theorem name_nm (d : Dk) : isNm (nameG d).1 = true ∧ (nameG d).1.length ≤ 10 := by
  have a0 := drawN_ge 53 d
  have a1 := drawN_lt 53 d
  have b0 := drawN_ge 3 (drawD 53 d)
  have b1 := drawN_lt 3 (drawD 53 d)
  have h1 : letS.getD (drawN 53 d).toNat 0 ∈ letS := getD_in (by rw [let_len]; omega)
  have h2 := gen_all (f := nameC) (P := fun c => c ∈ letS ++ digS) (fun d => by
    have c0 := drawN_ge 63 d
    have c1 := drawN_lt 63 d
    exact getD_in (by rw [List.length_append, let_len, dig_len]; omega)) (drawN 3 (drawD 53 d)).toNat (drawD 3 (drawD 53 d))
  have h3 := gen_len nameC (drawN 3 (drawD 53 d)).toNat (drawD 3 (drawD 53 d))
  unfold nameG
  simp only
  generalize letS.getD (drawN 53 d).toNat 0 = c at *
  generalize (gen nameC (drawN 3 (drawD 53 d)).toNat (drawD 3 (drawD 53 d))).1 = l at *
  refine ⟨?_, by simp; omega⟩
  unfold isNm
  rw [Bool.and_eq_true]
  refine ⟨?_, by simpa using let_sub c h1⟩
  rw [List.all_eq_true]
  intro x hx
  rcases List.mem_cons.mp hx with rfl | hx
  · exact decide_eq_true (let_nam _ h1)
  · exact decide_eq_true (nam_sub x (h2 x hx))
def NmKs (s : Ns) : Prop := ∀ k ∈ s.1, ∃ z, k = keyC z ∧ isNm z = true ∧ z.length ≤ 10
theorem nstep_nm {s : Ns} (h : NmKs s) : NmKs (nameStep s) := by
  intro k hk
  simp only [nameStep, putKs] at hk
  split at hk
  · exact h k hk
  · rcases List.mem_append.mp hk with hk | hk
    · exact h k hk
    · rw [List.mem_singleton] at hk
      exact ⟨_, hk, (name_nm s.2.2).1, (name_nm s.2.2).2⟩
theorem namesN_nm : ∀ (n : Nat) (s : Ns), NmKs s → NmKs (namesN n s)
  | 0, s, h => h
  | n + 1, s, h => namesN_nm n _ (nstep_nm h)
theorem wN_nm (d : Dk) : NmKs (wN d) := namesN_nm _ _ (by intro k hk; cases hk)
theorem names_stand_at {ks : List Key} {vs : List U} (hl : ks.length = vs.length) (h100 : ks.length ≤ 100) (hk : ∀ k ∈ ks, ∃ z, k = keyC z ∧ isNm z = true ∧ z.length ≤ 10) (hv : ∀ v ∈ vs, ∃ z, v = txt z) (B : Bx) : G_names_stand [.dct ks vs] B = .ok (.bl true) B := by
  have lc := mLc_all uKey (fun _ => .bl true) (bd := bdN 1) (f := mAndV (mCall G_is_name (mCons (mVar 1) mNil)) (m1 (gIsi "str") (m2 gDIx (mVar 0) (mVar 1)))) (ks := [1]) (xs := ks) (E := [.val (.dct ks vs), .un]) (B := B)
    (fi := mItD keysD (mVar 0)) (by simp [keysD]) (by simp) (by simp) (by omega)
    (fun k hk2 => BdIs_of (E := [.val (.dct ks vs), .val (uKey k)]) (by simp) ⟨by simp, by
      obtain ⟨z, rfl, h1, h2⟩ := hk k hk2
      obtain ⟨v, hv2, e1⟩ := lookU_mem hl hk2
      obtain ⟨y, rfl⟩ := hv v hv2
      have e := is_name_ok z (by omega) B
      rw [h1] at e
      unfold keyC at e1
      simp only [txt] at e1
      unfold Elt
      simp [uKey, keyC, gDIx, e1, e]⟩)
  have lce : lc_names_stand_0 G_is_name [.val (.dct ks vs), .un] B = _ := lc
  have ea := e_all' (l := ks) (p := fun _ => true)
  simp only [G_names_stand]
  refine run_is rfl ?_
  simp only [b_names_stand, List.map_cons, List.map_nil, List.length_cons, List.length_nil, Nat.reduceAdd, Nat.reduceSub, List.replicate_succ, List.replicate_zero, List.cons_append, List.nil_append, Nat.zero_add, Nat.sub_self, List.append_nil]
  refine okP_lock fun LQ hLQ => ?_
  simp [lce, ea]
  refine hLQ _ _ _ ?_
  clear hLQ LQ
  exact ret_is' (by simp) rfl
theorem texts_alone_at (l : Ks) (hl : l.length ≤ 1000) (B : Bx) : G_texts_alone [.lst (l.map txt)] B = .ok (.bl true) B := by
  have lc := mLc_all txt (fun _ => .bl true) (bd := bdN 1) (f := m1 (gIsi "str") (mVar 1)) (ks := [1]) (xs := l) (E := [.val (.lst (l.map txt)), .un]) (B := B)
    (fi := mItV (mVar 0)) (by simp) (by simp) (by simp) (by omega)
    (fun k hk2 => BdIs_of (E := [.val (.lst (l.map txt)), .val (txt k)]) (by simp) ⟨by simp, by unfold Elt; simp [txt]⟩)
  have lce : lc_texts_alone_0 [.val (.lst (l.map txt)), .un] B = _ := lc
  have ea := e_all' (l := l) (p := fun _ => true)
  simp only [G_texts_alone]
  refine run_is rfl ?_
  simp only [b_texts_alone, List.map_cons, List.map_nil, List.length_cons, List.length_nil, Nat.reduceAdd, Nat.reduceSub, List.replicate_succ, List.replicate_zero, List.cons_append, List.nil_append, Nat.zero_add, Nat.sub_self, List.append_nil]
  refine okP_lock fun LQ hLQ => ?_
  simp [lce, ea]
  refine hLQ _ _ _ ?_
  clear hLQ LQ
  exact ret_is' (by simp) rfl
end LawW
/-! S45e: small commands stand. -/
namespace LawW
open PySem L2 QB PySem.NumText
def pcU (c : Nat) : U := .tup [.str (ofC [98, 97, 114, 101]), .str (ofC [c])]
def wdU (c : Nat) : U := .lst [pcU c]
def callV : U := .tup [.str (ofC [100, 111]), .lst [], .lst [wdU 97], .lst []]
theorem call_eq : callU = callV := rfl
theorem tagged_of {us : List U} {k : Str} {n : Nat} (hn : n + 1 ≤ 64) (hf : Flt (n + 1) (.tup (.str k :: us))) (B : Bx) : G_is_tagged [.tup (.str k :: us)] B = .ok (.bl true) B := by
  have q0 := eqU_tnil hn hf
  simp at q0
  simp [G_is_tagged, runBody, b_is_tagged, q0]
theorem okS_dec {l : List Nat} (h : (l.all fun c => decide (c < 1114112)) = true := by decide +kernel) : okS (ofC l) = true := okS_of fun c hc => by
  have := List.all_eq_true.mp h c hc
  simpa using this
theorem flt_pc {c : Nat} (h : c < 1000) : Flt 2 (pcU c) := by
  intro v hv
  simp only [List.mem_cons, List.not_mem_nil, or_false] at hv
  rcases hv with rfl | rfl
  · exact okS_dec
  · exact okS_of fun x hx => by rw [List.mem_singleton] at hx; omega
theorem flt_lst1 {n : Nat} {u : U} (h : Flt n u) : Flt (n + 1) (.lst [u]) := fun v hv => by rw [List.mem_singleton] at hv; subst hv; exact h
theorem bare_lt : ∀ c ∈ bareP, c < 1000 := by decide +kernel
theorem piece_k {c : Nat} (hc : c ∈ bareP) (n : Nat) (B : Bx) : G_is_piece (n + 1) [pcU c, .bl false] B = .ok (.bl true) B := by
  have tg : G_is_tagged [pcU c] B = .ok (.bl true) B := tagged_of (n := 1) (by decide) (flt_pc (bare_lt c hc)) B
  have b1 : G_has_signs [.str (ofC [c]), .str c_BARE] B = .ok (.bl true) B := by
    rw [c_bare, has_signs_ok [c] bareP (by simp)]
    simp [hc]
  generalize hz : c_BARE = z at *
  simp only [G_is_piece]
  refine run_is rfl ?_
  simp only [b_is_piece, List.map_cons, List.map_nil, List.length_cons, List.length_nil, Nat.reduceAdd, Nat.reduceSub, List.replicate_succ, List.replicate_zero, List.cons_append, List.nil_append, Nat.zero_add, Nat.sub_self, List.append_nil]
  refine okP_seqL fun LQ hLQ => ?_
  simp [tg]
  refine hLQ _ _ _ (then_nx ?_)
  clear hLQ LQ
  refine okP_lock fun LQ hLQ => ?_
  simp [pcU, b1, hz]
  first | exact hLQ _ _ _ ret_is | exact hLQ _ _ _ (ret_is' (by simp [pcU, b1, hz]) rfl)
theorem pieces_k {c : Nat} (hc : c ∈ bareP) (n : Nat) (B : Bx) : G_are_pieces (n + 2) [wdU c, .bl false] B = .ok (.bl true) B := by
  have pk := piece_k hc n B
  simp only [G_are_pieces, wdU]
  refine run_is rfl ?_
  simp only [b_are_pieces, List.map_cons, List.map_nil, List.length_cons, List.length_nil, Nat.reduceAdd, Nat.reduceSub, List.replicate_succ, List.replicate_zero, List.cons_append, List.nil_append, Nat.zero_add, Nat.sub_self, List.append_nil]
  refine okP_seqL fun LQ hLQ => ?_
  simp
  refine hLQ _ _ _ (then_nx ?_)
  clear hLQ LQ
  refine okP_seqL fun LQ hLQ => ?_
  simp
  refine hLQ _ _ _ (then_nx ?_)
  clear hLQ LQ
  refine okP_seqL fun LQ hLQ => ?_
  simp
  refine hLQ _ _ _ (then_nx ?_)
  clear hLQ LQ
  refine okP_seqT ?_
  refine okP_forM pcU (xs := [c]) (E1 := [.val (.lst [pcU c]), .val (.bl false), .val (.str (ofC [98, 97, 114, 101])), .val (.str (ofC [])), .un]) (B1 := B) (by simp)
    (fun r E B' => B' = B ∧ ((r = [c] ∧ E = [.val (.lst [pcU c]), .val (.bl false), .val (.str (ofC [98, 97, 114, 101])), .val (.str (ofC [])), .un]) ∨ (r = [] ∧ ∃ s t, E = [.val (.lst [pcU c]), .val (.bl false), .val (.str (ofC [98, 97, 114, 101])), s, t])))
    ⟨rfl, .inl ⟨rfl, rfl⟩⟩ ?_ ?_
  · rintro p r E B' ⟨rfl, h⟩
    rcases h with ⟨h1, rfl⟩ | ⟨h1, _⟩
    · rw [List.cons.injEq] at h1
      obtain ⟨rfl, rfl⟩ := h1
      refine BdIs_of (E := [.val (.lst [pcU p]), .val (.bl false), .val (.str (ofC [98, 97, 114, 101])), .val (.str (ofC [])), .val (pcU p)]) (by simp) (body_go ?_)
      have ix : gIx (pcU p) (.int 0) = some (.w (.str (ofC [98, 97, 114, 101]))) := by simp [pcU]
      simp only [lp_are_pieces_0]
      refine okP_seqL fun LQ hLQ => ?_
      simp [pk, ix]
      refine hLQ _ _ _ (then_nx ?_)
      clear hLQ LQ
      refine okP_lock fun LQ hLQ => ?_
      simp [ix]
      refine hLQ _ _ _ ?_
      clear hLQ LQ
      exact loop_nx (by simp)
    · cases h1
  · rintro E B' ⟨rfl, h⟩
    refine then_nx ?_
    refine okP_lock fun LQ hLQ => ?_
    simp
    first | exact hLQ _ _ _ ret_is | exact hLQ _ _ _ (ret_is' (by simp) rfl)
theorem word_k {c : Nat} (hc : c ∈ bareP) (n : Nat) (B : Bx) : G_is_word (n + 3) [wdU c] B = .ok (.bl true) B := by
  have q0 := eqU_nil (n := 2) (us := [pcU c]) (by decide) (flt_lst1 (flt_pc (bare_lt c hc)))
  have pk := pieces_k hc n B
  simp only [wdU] at pk ⊢
  simp at q0
  simp only [G_is_word]
  refine run_is rfl ?_
  simp only [b_is_word, List.map_cons, List.map_nil, List.length_cons, List.length_nil, Nat.reduceAdd, Nat.reduceSub, List.replicate_succ, List.replicate_zero, List.cons_append, List.nil_append, Nat.zero_add, Nat.sub_self, List.append_nil]
  refine okP_lock fun LQ hLQ => ?_
  simp [pk, q0]
  first | exact hLQ _ _ _ ret_is | exact hLQ _ _ _ (ret_is' (by simp [pk, q0]) rfl)
theorem words_k {c : Nat} (hc : c ∈ bareP) (n : Nat) (B : Bx) : G_are_words (n + 4) [.lst [wdU c]] B = .ok (.bl true) B := by
  have wk := word_k hc n B
  have lc := mLc_all wdU (fun _ => .bl true) (bd := bdN 1) (f := mCall (G_is_word (n + 3)) (mCons (mVar 1) mNil)) (ks := [1]) (xs := [c]) (E := [.val (.lst [wdU c]), .un]) (B := B)
    (fi := mItV (mVar 0)) (by simp) (by simp) (by simp) (by simp)
    (fun k hk => BdIs_of (E := [.val (.lst [wdU c]), .val (wdU k)]) (by simp) ⟨by simp, by rw [List.mem_singleton] at hk; subst hk; unfold Elt; simp [wk]⟩)
  have lce : lc_are_words_0 (G_is_word (n + 3)) [.val (.lst [wdU c]), .un] B = _ := lc
  have an := e_all' (l := [c]) (p := fun _ => true)
  simp only [G_are_words]
  refine run_is rfl ?_
  simp only [b_are_words, List.map_cons, List.map_nil, List.length_cons, List.length_nil, Nat.reduceAdd, Nat.reduceSub, List.replicate_succ, List.replicate_zero, List.cons_append, List.nil_append, Nat.zero_add, Nat.sub_self, List.append_nil]
  refine okP_lock fun LQ hLQ => ?_
  simp [lce, an]
  first | exact hLQ _ _ _ ret_is | exact hLQ _ _ _ (ret_is' (by simp [lce, an]) rfl)
theorem turns_nil (n : Nat) (B : Bx) : G_are_turns (n + 1) [.lst []] B = .ok (.bl true) B := by
  have lc := mLc_all wdU (fun _ => .bl true) (bd := bdN 1) (f := mCall (G_is_turn n) (mCons (mVar 1) mNil)) (ks := [1]) (xs := []) (E := [.val (.lst []), .un]) (B := B)
    (fi := mItV (mVar 0)) (by simp) (by simp) (by simp) (by simp) (fun k hk => by cases hk)
  have lce : lc_are_turns_0 (G_is_turn n) [.val (.lst []), .un] B = _ := lc
  have an := e_all' (l := ([] : List Nat)) (p := fun _ => true)
  simp only [G_are_turns]
  refine run_is rfl ?_
  simp only [b_are_turns, List.map_cons, List.map_nil, List.length_cons, List.length_nil, Nat.reduceAdd, Nat.reduceSub, List.replicate_succ, List.replicate_zero, List.cons_append, List.nil_append, Nat.zero_add, Nat.sub_self, List.append_nil]
  refine okP_lock fun LQ hLQ => ?_
  simp [lce, an]
  first | exact hLQ _ _ _ ret_is | exact hLQ _ _ _ (ret_is' (by simp [lce, an]) rfl)
def turnV : U := .tup [.int 1, .str (ofC [62]), wdU 103]
theorem turn_k (n : Nat) (B : Bx) : G_is_turn (n + 4) [turnV] B = .ok (.bl true) B := by
  have wk := word_k (c := 103) (by decide +kernel) n B
  have ik : G_is_integer [.int 1] B = .ok (.bl true) B := by simp [G_is_integer, runBody, b_is_integer]
  simp only [G_is_turn, turnV]
  refine run_is rfl ?_
  simp only [b_is_turn, List.map_cons, List.map_nil, List.length_cons, List.length_nil, Nat.reduceAdd, Nat.reduceSub, List.replicate_succ, List.replicate_zero, List.cons_append, List.nil_append, Nat.zero_add, Nat.sub_self, List.append_nil]
  refine okP_seqL fun LQ hLQ => ?_
  simp [ik]
  refine hLQ _ _ _ (then_nx ?_)
  clear hLQ LQ
  refine okP_lock fun LQ hLQ => ?_
  simp [wk]
  first | exact hLQ _ _ _ ret_is | exact hLQ _ _ _ (ret_is' (by simp [wk]) rfl)
theorem turns_one (n : Nat) (B : Bx) : G_are_turns (n + 5) [.lst [turnV]] B = .ok (.bl true) B := by
  have wk := turn_k n B
  have lc := mLc_all (fun _ : Nat => turnV) (fun _ => .bl true) (bd := bdN 1) (f := mCall (G_is_turn (n + 4)) (mCons (mVar 1) mNil)) (ks := [1]) (xs := [0]) (E := [.val (.lst [turnV]), .un]) (B := B)
    (fi := mItV (mVar 0)) (by simp) (by simp) (by simp) (by simp)
    (fun k hk => BdIs_of (E := [.val (.lst [turnV]), .val turnV]) (by simp) ⟨by simp, by unfold Elt; simp [wk]⟩)
  have lce : lc_are_turns_0 (G_is_turn (n + 4)) [.val (.lst [turnV]), .un] B = _ := lc
  have an := e_all' (l := [0]) (p := fun _ => true)
  simp only [G_are_turns]
  refine run_is rfl ?_
  simp only [b_are_turns, List.map_cons, List.map_nil, List.length_cons, List.length_nil, Nat.reduceAdd, Nat.reduceSub, List.replicate_succ, List.replicate_zero, List.cons_append, List.nil_append, Nat.zero_add, Nat.sub_self, List.append_nil]
  refine okP_lock fun LQ hLQ => ?_
  simp [lce, an]
  first | exact hLQ _ _ _ ret_is | exact hLQ _ _ _ (ret_is' (by simp [lce, an]) rfl)
end LawW
/-! S45f: the functions stand. -/
namespace LawW
open PySem L2 QB PySem.NumText
theorem begins_no (B : Bx) : G_begins_set [.str (ofC [97])] B = .ok (.bl false) B := by
  have p := part_eq (l := [97]) (c := 61) (by simp)
  rw [sepOf, if_neg (by simp)] at p
  simp at p
  simp only [G_begins_set]
  refine run_is rfl ?_
  simp only [b_begins_set, List.map_cons, List.map_nil, List.length_cons, List.length_nil, Nat.reduceAdd, Nat.reduceSub, List.replicate_succ, List.replicate_zero, List.cons_append, List.nil_append, Nat.zero_add, Nat.sub_self, List.append_nil]
  have st : sAsg (mM gPartition (mVar 0) (mCons (mC (.str "=")) mNil)) (bdT (bdCons (bdN 1) (bdCons (bdN 2) (bdCons (bdN 3) (bdNil))))) [.val (.str (ofC [97])), .un, .un, .un] B = .ok .nx [.val (.str (ofC [97])), .val (.str (ofC [97])), .val (.str (ofC [])), .val (.str (ofC []))] B := by
    simp [sAsg, p]
  refine okP_seqT ?_
  rw [st, OkP_ok]
  refine then_nx ?_
  refine okP_lock fun LQ hLQ => ?_
  simp
  first | exact hLQ _ _ _ ret_is | exact hLQ _ _ _ (ret_is' (by simp) rfl)
theorem in_strs {k : List Nat} : ∀ ls : List (List Nat), inU (.str (ofC k)) (.tup (ls.map fun l => .str (ofC l))) = some (decide (k ∈ ls))
  | [] => rfl
  | l :: ls => by
    rw [List.map_cons, inT_cons, in_strs ls]
    by_cases h : l = k
    · subst h; simp
    · have : (ofC l == ofC k) = false := by simpa using h
      have h2 : ¬ k = l := fun z => h z.symm
      simp [this, h2]
def keyW : Ks := [[105, 102], [116, 104, 101, 110], [101, 108, 105, 102], [101, 108, 115, 101], [102, 105], [119, 104, 105, 108, 101], [117, 110, 116, 105, 108], [100, 111], [100, 111, 110, 101], [102, 111, 114], [105, 110], [99, 97, 115, 101], [101, 115, 97, 99], [123], [125], [33]]
theorem key_eq : c_KEY_WORDS = .tup (keyW.map fun l => .str (ofC l)) := by simp [keyW]
theorem in_key (l : List Nat) : inU (.str (ofC l)) c_KEY_WORDS = some (decide (l ∈ keyW)) := by rw [key_eq, in_strs]
theorem do_k (n : Nat) (B : Bx) : G_is_do (n + 5) [.lst [], .lst [wdU 97], .lst []] B = .ok (.bl true) B := by
  have ws := words_k (c := 97) (by decide +kernel) n B
  have tn := turns_nil (n + 3) B
  have q1 := eqU_nil (n := 3) (us := [wdU 97]) (by decide) (flt_lst1 (flt_lst1 (flt_pc (by omega))))
  have q0 := eqU_nil (n := 0) (us := []) (by decide) (fun v hv => by cases hv)
  simp at q0 q1
  have ik := in_key [97]
  rw [show decide ([97] ∈ keyW) = false from by decide +kernel] at ik
  have bn := begins_no B
  have i0 : gIx (wdU 97) (.int 0) = some (.w (pcU 97)) := by simp [wdU]
  have i1 : gIx (pcU 97) (.int 0) = some (.w (.str (ofC [98, 97, 114, 101]))) := by simp [pcU]
  have i2 : gIx (pcU 97) (.int 1) = some (.w (.str (ofC [97]))) := by simp [pcU]
  have vw : ∀ B : Bx, viewU (wdU 97) B = some (wdU 97) := fun _ => rfl
  have vp : ∀ B : Bx, viewU (pcU 97) B = some (pcU 97) := fun _ => rfl
  have ll : gLen (wdU 97) = some (.w (.int 1)) := by simp [wdU]
  generalize hkw : c_KEY_WORDS = kw at *
  simp only [G_is_do, hkw]
  refine run_is rfl ?_
  simp only [b_is_do, hkw, List.map_cons, List.map_nil, List.length_cons, List.length_nil, Nat.reduceAdd, Nat.reduceSub, List.replicate_succ, List.replicate_zero, List.cons_append, List.nil_append, Nat.zero_add, Nat.sub_self, List.append_nil]
  generalize wdU 97 = wd at *
  generalize pcU 97 = pc at *
  have vk : ∀ B : Bx, viewU kw B = some kw := fun _ => by subst hkw; rfl
  refine okP_seqT ?_
  refine okP_iff0 (by simp [ws, tn]; done) ?_
  refine okP_lock fun LQ hLQ => ?_
  simp only [e_sNext, OkP_ok]
  refine hLQ _ _ _ (then_nx ?_)
  clear hLQ LQ
  refine okP_seqT ?_
  refine okP_forM pcU (xs := []) (E1 := [.val (.lst []), .val (.lst [wd]), .val (.lst []), .un, .un]) (B1 := B) (by simp) (fun r E B' => r = [] ∧ B' = B ∧ E = [.val (.lst []), .val (.lst [wd]), .val (.lst []), .un, .un]) ⟨rfl, rfl, rfl⟩ ?_ ?_
  · rintro x r E B' ⟨h, _⟩
    cases h
  · rintro E B' ⟨_, rfl, rfl⟩
    refine then_nx ?_
    refine okP_seqT ?_
    refine okP_iff0 (by simp [q1]; done) ?_
    refine okP_lock fun LQ hLQ => ?_
    simp only [e_sNext, OkP_ok]
    refine hLQ _ _ _ (then_nx ?_)
    clear hLQ LQ
    refine okP_seqL fun LQ hLQ => ?_
    simp
    refine hLQ _ _ _ (then_nx ?_)
    clear hLQ LQ
    refine okP_seqT ?_
    refine okP_iff0 (by simp [vw, i0, vp, i1]; done) ?_
    refine okP_lock fun LQ hLQ => ?_
    simp only [e_sNext, OkP_ok]
    refine hLQ _ _ _ (then_nx ?_)
    clear hLQ LQ
    refine okP_seqT ?_
    refine okP_iff0 (by simp [q0, vw, ll, i0, vp, i2, ik, vk]; done) ?_
    refine okP_lock fun LQ hLQ => ?_
    simp only [e_sNext, OkP_ok]
    refine hLQ _ _ _ (then_nx ?_)
    clear hLQ LQ
    refine okP_lock fun LQ hLQ => ?_
    simp [vw, i0, vp, i2, bn]
    first | exact hLQ _ _ _ ret_is | exact hLQ _ _ _ (ret_is' (by simp [vw, i0, vp, i2, bn]) rfl)
end LawW
/-! S45g: the functions stand. -/
namespace LawW
open PySem L2 QB PySem.NumText
theorem flt_up1 : ∀ (n : Nat) (u : U), Flt n u → Flt (n + 1) u
  | 0, _, h => h.elim
  | n + 1, u, h => by
    cases u with
    | lst us => exact fun v hv => flt_up1 n v (h v hv)
    | tup us => exact fun v hv => flt_up1 n v (h v hv)
    | non => trivial
    | bl _ => trivial
    | int _ => trivial
    | str _ => exact h
    | dct _ _ => exact h.elim
    | box _ => exact h.elim
    | scr _ => exact h.elim
theorem flt_up {n m : Nat} {u : U} (h : Flt n u) (hm : n ≤ m) : Flt m u := by
  obtain ⟨k, rfl⟩ := Nat.exists_eq_add_of_le hm
  clear hm
  induction k with
  | zero => exact h
  | succ k ih => exact flt_up1 _ _ ih
theorem flt_wd {c : Nat} (h : c < 1000) : Flt 3 (wdU c) := flt_lst1 (flt_pc h)
theorem flt_nil {n : Nat} : Flt (n + 1) (.lst []) := fun v hv => by cases hv
theorem flt_str {n : Nat} {l : List Nat} (h : (l.all fun c => decide (c < 1114112)) = true := by decide +kernel) : Flt (n + 1) (.str (ofC l)) := okS_dec h
theorem flt_tup {n : Nat} {us : List U} (h : ∀ v ∈ us, Flt n v) : Flt (n + 1) (.tup us) := h
theorem flt_call : Flt 5 callV := by
  refine flt_tup fun v hv => ?_
  simp only [List.mem_cons, List.not_mem_nil, or_false] at hv
  rcases hv with rfl | rfl | rfl | rfl
  · exact flt_str
  · exact flt_nil
  · exact flt_lst1 (flt_wd (by omega))
  · exact flt_nil
theorem command_call (n : Nat) (B : Bx) : G_is_command (n + 6) [callV] B = .ok (.bl true) B := by
  have dk := do_k n B
  have tg : G_is_tagged [callV] B = .ok (.bl true) B := tagged_of (n := 4) (by decide) flt_call B
  simp only [callV] at tg ⊢
  generalize wdU 97 = wd at *
  simp only [G_is_command]
  refine run_is rfl ?_
  simp only [b_is_command, List.map_cons, List.map_nil, List.length_cons, List.length_nil, Nat.reduceAdd, Nat.reduceSub, List.replicate_succ, List.replicate_zero, List.cons_append, List.nil_append, Nat.zero_add, Nat.sub_self, List.append_nil]
  refine okP_seqL fun LQ hLQ => ?_
  simp [tg]
  refine hLQ _ _ _ (then_nx ?_)
  clear hLQ LQ
  refine okP_lock fun LQ hLQ => ?_
  simp [dk]
  first | exact hLQ _ _ _ ret_is | exact hLQ _ _ _ (ret_is' (by simp [dk]) rfl)
theorem script_call (n : Nat) (B : Bx) : G_is_script (n + 7) [.lst [callV]] B = .ok (.bl true) B := by
  have ck := command_call n B
  have lc := mLc_all (fun _ : Nat => callV) (fun _ => .bl true) (bd := bdN 1) (f := mCall (G_is_command (n + 6)) (mCons (mVar 1) mNil)) (ks := [1]) (xs := [0]) (E := [.val (.lst [callV]), .un]) (B := B)
    (fi := mItV (mVar 0)) (by simp) (by simp) (by simp) (by simp)
    (fun k hk => BdIs_of (E := [.val (.lst [callV]), .val callV]) (by simp) ⟨by simp, by unfold Elt; simp [ck]⟩)
  have lce : lc_is_script_0 (G_is_command (n + 6)) [.val (.lst [callV]), .un] B = _ := lc
  have an := e_all' (l := [0]) (p := fun _ => true)
  simp only [G_is_script]
  refine run_is rfl ?_
  simp only [b_is_script, List.map_cons, List.map_nil, List.length_cons, List.length_nil, Nat.reduceAdd, Nat.reduceSub, List.replicate_succ, List.replicate_zero, List.cons_append, List.nil_append, Nat.zero_add, Nat.sub_self, List.append_nil]
  refine okP_lock fun LQ hLQ => ?_
  simp [lce, an]
  first | exact hLQ _ _ _ ret_is | exact hLQ _ _ _ (ret_is' (by simp [lce, an]) rfl)
theorem script_nil (n : Nat) (B : Bx) : G_is_script (n + 1) [.lst []] B = .ok (.bl true) B := by
  have lc := mLc_all (fun _ : Nat => callV) (fun _ => .bl true) (bd := bdN 1) (f := mCall (G_is_command n) (mCons (mVar 1) mNil)) (ks := [1]) (xs := []) (E := [.val (.lst []), .un]) (B := B)
    (fi := mItV (mVar 0)) (by simp) (by simp) (by simp) (by simp)
    (fun k hk => by cases hk)
  have lce : lc_is_script_0 (G_is_command n) [.val (.lst []), .un] B = _ := lc
  have an := e_all' (l := ([] : List Nat)) (p := fun _ => true)
  simp only [G_is_script]
  refine run_is rfl ?_
  simp only [b_is_script, List.map_cons, List.map_nil, List.length_cons, List.length_nil, Nat.reduceAdd, Nat.reduceSub, List.replicate_succ, List.replicate_zero, List.cons_append, List.nil_append, Nat.zero_add, Nat.sub_self, List.append_nil]
  refine okP_lock fun LQ hLQ => ?_
  simp [lce, an]
  first | exact hLQ _ _ _ ret_is | exact hLQ _ _ _ (ret_is' (by simp [lce, an]) rfl)
theorem body_call (n : Nat) (B : Bx) : G_is_body (n + 8) [.lst [callV]] B = .ok (.bl true) B := by
  have sc := script_call n B
  have q0 := eqU_nil (n := 5) (us := [callV]) (by decide) (flt_lst1 flt_call)
  simp at q0
  simp only [G_is_body]
  refine run_is rfl ?_
  simp only [b_is_body, List.map_cons, List.map_nil, List.length_cons, List.length_nil, Nat.reduceAdd, Nat.reduceSub, List.replicate_succ, List.replicate_zero, List.cons_append, List.nil_append, Nat.zero_add, Nat.sub_self, List.append_nil]
  refine okP_lock fun LQ hLQ => ?_
  simp [sc, q0]
  first | exact hLQ _ _ _ ret_is | exact hLQ _ _ _ (ret_is' (by simp [sc, q0]) rfl)
theorem arms_k (n : Nat) (B : Bx) : G_are_arms (n + 9) [.lst [.tup [.lst [callV], .lst [callV]]]] B = .ok (.bl true) B := by
  have bk := body_call n B
  have q0 := eqU_nil (n := 7) (us := [.tup [.lst [callV], .lst [callV]]]) (by decide) (flt_lst1 (flt_tup (n := 6) fun v hv => by
    simp only [List.mem_cons, List.not_mem_nil, or_false, or_self] at hv
    subst hv
    exact flt_lst1 flt_call))
  simp at q0
  generalize callV = cv at *
  simp only [G_are_arms]
  refine run_is rfl ?_
  simp only [b_are_arms, List.map_cons, List.map_nil, List.length_cons, List.length_nil, Nat.reduceAdd, Nat.reduceSub, List.replicate_succ, List.replicate_zero, List.cons_append, List.nil_append, Nat.zero_add, Nat.sub_self, List.append_nil]
  refine okP_seqT ?_
  refine okP_iff0 (by simp [q0]; done) ?_
  refine okP_lock fun LQ hLQ => ?_
  simp only [e_sNext, OkP_ok]
  refine hLQ _ _ _ (then_nx ?_)
  clear hLQ LQ
  refine okP_seqT ?_
  refine okP_forM (fun _ : Nat => U.tup [.lst [cv], .lst [cv]]) (xs := [0]) (E1 := [.val (.lst [.tup [.lst [cv], .lst [cv]]]), .un]) (B1 := B) (by simp)
    (fun r E B' => B' = B ∧ ∃ s, E = [.val (.lst [.tup [.lst [cv], .lst [cv]]]), s] ∧ Free s) ⟨rfl, .un, rfl, free_un⟩ ?_ ?_
  · rintro x r E B' ⟨rfl, s, rfl, fs⟩
    refine BdIs_of (E := [.val (.lst [.tup [.lst [cv], .lst [cv]]]), .val (.tup [.lst [cv], .lst [cv]])]) (by rcases fs with rfl | ⟨_, rfl⟩ <;> simp) (body_go ?_)
    simp only [lp_are_arms_0]
    refine okP_iff0 (by simp [bk]; done) ?_
    refine okP_lock fun LQ hLQ => ?_
    simp
    refine hLQ _ _ _ ?_
    clear hLQ LQ
    exact loop_nx ⟨rfl, _, rfl, free_val⟩
  · rintro E B' ⟨rfl, s, rfl, fs⟩
    refine then_nx ?_
    refine okP_lock fun LQ hLQ => ?_
    simp
    first | exact hLQ _ _ _ ret_is | exact hLQ _ _ _ (ret_is' (by simp) rfl)
theorem cases_k (n : Nat) (B : Bx) : G_are_cases (n + 5) [.lst [.tup [.lst [wdU 98], .lst []]]] B = .ok (.bl true) B := by
  have wk := words_k (c := 98) (by decide +kernel) n B
  have sk := script_nil (n + 3) B
  have q1 := eqU_nil (n := 3) (us := [wdU 98]) (by decide) (flt_lst1 (flt_wd (by omega)))
  have q2 : QB.eqU (wdU 98) (.lst [.tup [.str (ofC [98, 97, 114, 101]), .str (ofC [101, 115, 97, 99])]]) = some false := by
    rw [eqU_flt (n := 3) (by decide) (flt_wd (by omega)) (flt_lst1 (flt_tup (n := 1) fun v hv => by
      simp only [List.mem_cons, List.not_mem_nil, or_false] at hv
      rcases hv with rfl | rfl
      · exact flt_str
      · exact flt_str))]
    simp [wdU, pcU, eqT, eqTs]
  simp at q1
  have vw : ∀ B : Bx, viewU (wdU 98) B = some (wdU 98) := fun _ => rfl
  generalize wdU 98 = wd at *
  simp only [G_are_cases]
  refine run_is rfl ?_
  simp only [b_are_cases, List.map_cons, List.map_nil, List.length_cons, List.length_nil, Nat.reduceAdd, Nat.reduceSub, List.replicate_succ, List.replicate_zero, List.cons_append, List.nil_append, Nat.zero_add, Nat.sub_self, List.append_nil]
  refine okP_seqT ?_
  refine okP_iff0 (by simp; done) ?_
  refine okP_lock fun LQ hLQ => ?_
  simp only [e_sNext, OkP_ok]
  refine hLQ _ _ _ (then_nx ?_)
  clear hLQ LQ
  refine okP_seqT ?_
  refine okP_forM (fun _ : Nat => U.tup [.lst [wd], .lst []]) (xs := [0]) (E1 := [.val (.lst [.tup [.lst [wd], .lst []]]), .un]) (B1 := B) (by simp)
    (fun r E B' => B' = B ∧ ∃ s, E = [.val (.lst [.tup [.lst [wd], .lst []]]), s] ∧ Free s) ⟨rfl, .un, rfl, free_un⟩ ?_ ?_
  · rintro x r E B' ⟨rfl, s, rfl, fs⟩
    refine BdIs_of (E := [.val (.lst [.tup [.lst [wd], .lst []]]), .val (.tup [.lst [wd], .lst []])]) (by rcases fs with rfl | ⟨_, rfl⟩ <;> simp) (body_go ?_)
    simp only [lp_are_cases_0]
    refine okP_seqT ?_
    refine okP_iff0 (by simp [wk, sk]; done) ?_
    refine okP_lock fun LQ hLQ => ?_
    simp only [e_sNext, OkP_ok]
    refine hLQ _ _ _ (then_nx ?_)
    clear hLQ LQ
    refine okP_iff0 (by simp [q1, q2, vw]; done) ?_
    refine okP_lock fun LQ hLQ => ?_
    simp
    refine hLQ _ _ _ ?_
    clear hLQ LQ
    exact loop_nx ⟨rfl, _, rfl, free_val⟩
  · rintro E B' ⟨rfl, s, rfl, fs⟩
    refine then_nx ?_
    refine okP_lock fun LQ hLQ => ?_
    simp
    first | exact hLQ _ _ _ ret_is | exact hLQ _ _ _ (ret_is' (by simp) rfl)
end LawW
/-! S45h: each kind of function. -/
namespace LawW
open PySem L2 QB PySem.NumText
structure TurnOk (t : U) : Prop where
  ok : ∀ n B, G_are_turns (n + 5) [t] B = .ok (.bl true) B
  fl : Flt 6 t
  vw : ∀ B : Bx, viewU t B = some t
theorem comp_body1 {k : List Nat} (hk : k = [103, 114, 111, 117, 112] ∨ k = [97, 112, 97, 114, 116]) {t : U} (ht : TurnOk t) (n : Nat) (B : Bx) : G_is_compound (n + 10) [.tup [.str (ofC k), .lst [callV], t]] B = .ok (.bl true) B := by
  have bk := body_call (n + 1) B
  have tk := ht.ok (n + 4) B
  have a1 : atI [U.str (ofC k), .lst [callV], t] (-1) = some t := rfl
  generalize callV = cv at *
  simp only [G_is_compound]
  refine run_is rfl ?_
  simp only [b_is_compound, List.map_cons, List.map_nil, List.length_cons, List.length_nil, Nat.reduceAdd, Nat.reduceSub, List.replicate_succ, List.replicate_zero, List.cons_append, List.nil_append, Nat.zero_add, Nat.sub_self, List.append_nil]
  rcases hk with rfl | rfl
  · refine okP_seqL fun LQ hLQ => ?_
    simp [a1, tk]
    refine hLQ _ _ _ (then_nx ?_)
    clear hLQ LQ
    refine okP_lock fun LQ hLQ => ?_
    simp [bk]
    first | exact hLQ _ _ _ ret_is | exact hLQ _ _ _ (ret_is' (by simp [bk]) rfl)
  · refine okP_seqL fun LQ hLQ => ?_
    simp [a1, tk]
    refine hLQ _ _ _ (then_nx ?_)
    clear hLQ LQ
    refine okP_lock fun LQ hLQ => ?_
    simp [bk]
    first | exact hLQ _ _ _ ret_is | exact hLQ _ _ _ (ret_is' (by simp [bk]) rfl)
theorem comp_body2 {k : List Nat} (hk : k = [119, 104, 105, 108, 101] ∨ k = [117, 110, 116, 105, 108]) {t : U} (ht : TurnOk t) (n : Nat) (B : Bx) : G_is_compound (n + 10) [.tup [.str (ofC k), .lst [callV], .lst [callV], t]] B = .ok (.bl true) B := by
  have bk := body_call (n + 1) B
  have tk := ht.ok (n + 4) B
  have a1 : atI [U.str (ofC k), .lst [callV], .lst [callV], t] (-1) = some t := rfl
  generalize callV = cv at *
  simp only [G_is_compound]
  refine run_is rfl ?_
  simp only [b_is_compound, List.map_cons, List.map_nil, List.length_cons, List.length_nil, Nat.reduceAdd, Nat.reduceSub, List.replicate_succ, List.replicate_zero, List.cons_append, List.nil_append, Nat.zero_add, Nat.sub_self, List.append_nil]
  rcases hk with rfl | rfl
  · refine okP_seqL fun LQ hLQ => ?_
    simp [a1, tk]
    refine hLQ _ _ _ (then_nx ?_)
    clear hLQ LQ
    refine okP_lock fun LQ hLQ => ?_
    simp [bk]
    first | exact hLQ _ _ _ ret_is | exact hLQ _ _ _ (ret_is' (by simp [bk]) rfl)
  · refine okP_seqL fun LQ hLQ => ?_
    simp [a1, tk]
    refine hLQ _ _ _ (then_nx ?_)
    clear hLQ LQ
    refine okP_lock fun LQ hLQ => ?_
    simp [bk]
    first | exact hLQ _ _ _ ret_is | exact hLQ _ _ _ (ret_is' (by simp [bk]) rfl)
theorem comp_if {o : U} (ho : o = .non ∨ o = .lst [callV]) {t : U} (ht : TurnOk t) (n : Nat) (B : Bx) : G_is_compound (n + 10) [.tup [.str (ofC [105, 102]), .lst [.tup [.lst [callV], .lst [callV]]], o, t]] B = .ok (.bl true) B := by
  have bk := body_call (n + 1) B
  have ak := arms_k n B
  have tk := ht.ok (n + 4) B
  have a1 : atI [U.str (ofC [105, 102]), .lst [.tup [.lst [callV], .lst [callV]]], o, t] (-1) = some t := rfl
  generalize callV = cv at *
  simp only [G_is_compound]
  refine run_is rfl ?_
  simp only [b_is_compound, List.map_cons, List.map_nil, List.length_cons, List.length_nil, Nat.reduceAdd, Nat.reduceSub, List.replicate_succ, List.replicate_zero, List.cons_append, List.nil_append, Nat.zero_add, Nat.sub_self, List.append_nil]
  refine okP_seqL fun LQ hLQ => ?_
  simp [a1, tk]
  refine hLQ _ _ _ (then_nx ?_)
  clear hLQ LQ
  rcases ho with rfl | rfl
  · refine okP_lock fun LQ hLQ => ?_
    simp [ak, bk]
    first | exact hLQ _ _ _ ret_is | exact hLQ _ _ _ (ret_is' (by simp [ak, bk]) rfl)
  · refine okP_lock fun LQ hLQ => ?_
    simp [ak, bk]
    first | exact hLQ _ _ _ ret_is | exact hLQ _ _ _ (ret_is' (by simp [ak, bk]) rfl)
theorem comp_each {w : U} (hw : w = .non ∨ w = .lst [wdU 98]) {t : U} (ht : TurnOk t) (n : Nat) (B : Bx) : G_is_compound (n + 10) [.tup [.str (ofC [101, 97, 99, 104]), .str (ofC [120]), w, .lst [callV], t]] B = .ok (.bl true) B := by
  have bk := body_call (n + 1) B
  have wk := words_k (c := 98) (by decide +kernel) (n + 5) B
  have nk := is_name_ok [120] (by simp) B
  rw [show isNm [120] = true from by decide +kernel] at nk
  have tk := ht.ok (n + 4) B
  have a1 : atI [U.str (ofC [101, 97, 99, 104]), .str (ofC [120]), w, .lst [callV], t] (-1) = some t := rfl
  generalize callV = cv at *
  generalize wdU 98 = wd at *
  simp only [G_is_compound]
  refine run_is rfl ?_
  simp only [b_is_compound, List.map_cons, List.map_nil, List.length_cons, List.length_nil, Nat.reduceAdd, Nat.reduceSub, List.replicate_succ, List.replicate_zero, List.cons_append, List.nil_append, Nat.zero_add, Nat.sub_self, List.append_nil]
  refine okP_seqL fun LQ hLQ => ?_
  simp [a1, tk]
  refine hLQ _ _ _ (then_nx ?_)
  clear hLQ LQ
  rcases hw with rfl | rfl
  · refine okP_lock fun LQ hLQ => ?_
    simp [nk, bk]
    first | exact hLQ _ _ _ ret_is | exact hLQ _ _ _ (ret_is' (by simp [nk, bk]) rfl)
  · refine okP_lock fun LQ hLQ => ?_
    simp [nk, bk, wk]
    first | exact hLQ _ _ _ ret_is | exact hLQ _ _ _ (ret_is' (by simp [nk, bk, wk]) rfl)
theorem comp_case {t : U} (ht : TurnOk t) (n : Nat) (B : Bx) : G_is_compound (n + 10) [.tup [.str (ofC [99, 97, 115, 101]), wdU 97, .lst [.tup [.lst [wdU 98], .lst []]], t]] B = .ok (.bl true) B := by
  have ck := cases_k (n + 4) B
  have wk := word_k (c := 97) (by decide +kernel) (n + 6) B
  have tk := ht.ok (n + 4) B
  have a1 : atI [U.str (ofC [99, 97, 115, 101]), wdU 97, .lst [.tup [.lst [wdU 98], .lst []]], t] (-1) = some t := rfl
  generalize wdU 97 = wa at *
  generalize wdU 98 = wd at *
  simp only [G_is_compound]
  refine run_is rfl ?_
  simp only [b_is_compound, List.map_cons, List.map_nil, List.length_cons, List.length_nil, Nat.reduceAdd, Nat.reduceSub, List.replicate_succ, List.replicate_zero, List.cons_append, List.nil_append, Nat.zero_add, Nat.sub_self, List.append_nil]
  refine okP_seqL fun LQ hLQ => ?_
  simp [a1, tk]
  refine hLQ _ _ _ (then_nx ?_)
  clear hLQ LQ
  refine okP_lock fun LQ hLQ => ?_
  simp [ck, wk]
  first | exact hLQ _ _ _ ret_is | exact hLQ _ _ _ (ret_is' (by simp [ck, wk]) rfl)
theorem turn_nil : TurnOk (.lst []) := ⟨fun n B => turns_nil (n + 4) B, flt_nil, fun _ => rfl⟩
theorem turn_one : TurnOk (.lst [turnV]) := ⟨fun n B => turns_one n B, flt_up (flt_lst1 (flt_tup (n := 3) fun v hv => by
    simp only [List.mem_cons, List.not_mem_nil, or_false] at hv
    rcases hv with rfl | rfl | rfl
    · trivial
    · exact flt_str
    · exact flt_wd (by omega))) (by omega), fun _ => rfl⟩
/-- what a function of a drawn kind is -/
structure MadeOk (m : U) : Prop where
  ok : ∀ n B, G_is_compound (n + 10) [m] B = .ok (.bl true) B
  fl : Flt 12 m
  tg : ∀ B, G_is_tagged [m] B = .ok (.bl true) B
  vw : ∀ B : Bx, viewU m B = some m
theorem made_of {k : List Nat} {us : List U} (hk : (k.all fun c => decide (c < 1114112)) = true) (h : ∀ v ∈ us, Flt 11 v) (ok : ∀ n B, G_is_compound (n + 10) [.tup (.str (ofC k) :: us)] B = .ok (.bl true) B) : MadeOk (.tup (.str (ofC k) :: us)) := by
  have fl : Flt 12 (.tup (.str (ofC k) :: us)) := fun v hv => by
    rcases List.mem_cons.mp hv with rfl | hv
    · exact okS_dec hk
    · exact h v hv
  exact ⟨ok, fl, fun B => tagged_of (n := 11) (by decide) fl B, fun _ => rfl⟩
theorem flt_body : Flt 11 (.lst [callV]) := flt_up (flt_lst1 flt_call) (by omega)
theorem fun_made (d : Dk) : MadeOk (funG d).1 := by
  have a0 := drawN_ge 2 d
  have a1 := drawN_lt 2 d
  have b0 := drawN_ge 2 (drawD 2 d)
  have b1 := drawN_lt 2 (drawD 2 d)
  have c0 := drawN_ge 2 (drawD 2 (drawD 2 d))
  have c1 := drawN_lt 2 (drawD 2 (drawD 2 d))
  have d0 := drawN_ge 7 (drawD 2 (drawD 2 (drawD 2 d)))
  have d1 := drawN_lt 7 (drawD 2 (drawD 2 (drawD 2 d)))
  simp only [funG]
  generalize drawN 7 (drawD 2 (drawD 2 (drawD 2 d))) = z at *
  generalize drawN 2 (drawD 2 (drawD 2 d)) = y at *
  generalize drawN 2 (drawD 2 d) = x at *
  generalize drawN 2 d = w at *
  have pt : TurnOk (turnsS.getD w.toNat .non) := by
    have : w = 0 ∨ w = 1 := by omega
    rcases this with rfl | rfl
    · exact turn_nil
    · exact turn_one
  have po : otherS.getD x.toNat .non = .non ∨ otherS.getD x.toNat .non = .lst [callV] := by
    have : x = 0 ∨ x = 1 := by omega
    rcases this with rfl | rfl
    · exact .inl rfl
    · exact .inr rfl
  have pw : wordsS.getD y.toNat .non = .non ∨ wordsS.getD y.toNat .non = .lst [wdU 98] := by
    have : y = 0 ∨ y = 1 := by omega
    rcases this with rfl | rfl
    · exact .inl rfl
    · exact .inr rfl
  generalize turnsS.getD w.toNat .non = t at *
  generalize otherS.getD x.toNat .non = o at *
  generalize wordsS.getD y.toNat .non = v at *
  have ft : Flt 11 t := flt_up pt.fl (by omega)
  have fo : Flt 11 o := by rcases po with rfl | rfl; trivial; exact flt_body
  have fw : Flt 11 v := by rcases pw with rfl | rfl; trivial; exact flt_up (flt_lst1 (flt_wd (c := 98) (by omega))) (by omega)
  have hz : z = 0 ∨ z = 1 ∨ z = 2 ∨ z = 3 ∨ z = 4 ∨ z = 5 ∨ z = 6 := by omega
  rcases hz with rfl | rfl | rfl | rfl | rfl | rfl | rfl
  · refine made_of (k := [103, 114, 111, 117, 112]) (us := [.lst [callV], t]) (by decide +kernel) (fun v hv => ?_) (fun n B => comp_body1 (.inl rfl) pt n B)
    simp only [List.mem_cons, List.not_mem_nil, or_false] at hv
    rcases hv with rfl | rfl
    · exact flt_body
    · exact ft
  · refine made_of (k := [97, 112, 97, 114, 116]) (us := [.lst [callV], t]) (by decide +kernel) (fun v hv => ?_) (fun n B => comp_body1 (.inr rfl) pt n B)
    simp only [List.mem_cons, List.not_mem_nil, or_false] at hv
    rcases hv with rfl | rfl
    · exact flt_body
    · exact ft
  · refine made_of (k := [119, 104, 105, 108, 101]) (us := [.lst [callV], .lst [callV], t]) (by decide +kernel) (fun v hv => ?_) (fun n B => comp_body2 (.inl rfl) pt n B)
    simp only [List.mem_cons, List.not_mem_nil, or_false] at hv
    rcases hv with rfl | rfl | rfl
    · exact flt_body
    · exact flt_body
    · exact ft
  · refine made_of (k := [117, 110, 116, 105, 108]) (us := [.lst [callV], .lst [callV], t]) (by decide +kernel) (fun v hv => ?_) (fun n B => comp_body2 (.inr rfl) pt n B)
    simp only [List.mem_cons, List.not_mem_nil, or_false] at hv
    rcases hv with rfl | rfl | rfl
    · exact flt_body
    · exact flt_body
    · exact ft
  · refine made_of (k := [105, 102]) (us := [.lst [.tup [.lst [callV], .lst [callV]]], o, t]) (by decide +kernel) (fun v hv => ?_) (fun n B => comp_if po pt n B)
    simp only [List.mem_cons, List.not_mem_nil, or_false] at hv
    rcases hv with rfl | rfl | rfl
    · refine flt_up (n := 8) (flt_lst1 (flt_tup (n := 6) fun v hv => ?_)) (by omega)
      simp only [List.mem_cons, List.not_mem_nil, or_false, or_self] at hv
      subst hv
      exact flt_lst1 flt_call
    · exact fo
    · exact ft
  · refine made_of (k := [101, 97, 99, 104]) (us := [.str (ofC [120]), v, .lst [callV], t]) (by decide +kernel) (fun v hv => ?_) (fun n B => comp_each pw pt n B)
    simp only [List.mem_cons, List.not_mem_nil, or_false] at hv
    rcases hv with rfl | rfl | rfl | rfl
    · exact flt_str
    · exact fw
    · exact flt_body
    · exact ft
  · refine made_of (k := [99, 97, 115, 101]) (us := [wdU 97, .lst [.tup [.lst [wdU 98], .lst []]], t]) (by decide +kernel) (fun v hv => ?_) (fun n B => comp_case pt n B)
    simp only [List.mem_cons, List.not_mem_nil, or_false] at hv
    rcases hv with rfl | rfl | rfl
    · exact flt_up (flt_wd (c := 97) (by omega)) (by omega)
    · refine flt_up (n := 6) (flt_lst1 (flt_tup (n := 4) fun v hv => ?_)) (by omega)
      simp only [List.mem_cons, List.not_mem_nil, or_false] at hv
      rcases hv with rfl | rfl
      · exact flt_lst1 (flt_wd (by omega))
      · exact flt_nil
    · exact ft
end LawW
/-! S45i: worlds stand. -/
namespace LawW
open PySem L2 QB PySem.NumText
def deedW : Ks := [[58], [116, 114, 117, 101], [102, 97, 108, 115, 101], [101, 99, 104, 111], [114, 101, 97, 100], [115, 101, 116], [115, 104, 105, 102, 116], [117, 110, 115, 101, 116], [99, 100], [112, 119, 100], [116, 101, 115, 116], [98, 114, 101, 97, 107], [99, 111, 110, 116, 105, 110, 117, 101], [114, 101, 116, 117, 114, 110], [101, 120, 105, 116]]
def toolW : Ks := [[99, 97, 116], [107, 101, 101, 112], [100, 114, 111, 112], [102, 105, 114, 115, 116], [108, 97, 115, 116], [111, 114, 100, 101, 114], [111, 110, 99, 101], [99, 111, 117, 110, 116], [110, 117, 109, 98, 101, 114], [115, 119, 97, 112], [112, 97, 114, 116], [116, 101, 101], [109, 97, 107, 101], [114, 101, 109, 111, 118, 101], [109, 111, 118, 101], [99, 111, 112, 121], [108, 105, 115, 116]]
theorem deed_eq : c_DEED_NAMES = .tup (deedW.map fun l => .str (ofC l)) := by simp [deedW]
theorem tool_eq : c_TOOL_NAMES = .tup (toolW.map fun l => .str (ofC l)) := by simp [toolW]
theorem in_deed (l : List Nat) : inU (.str (ofC l)) c_DEED_NAMES = some (decide (l ∈ deedW)) := by rw [deed_eq, in_strs]
theorem in_tool (l : List Nat) : inU (.str (ofC l)) c_TOOL_NAMES = some (decide (l ∈ toolW)) := by rw [tool_eq, in_strs]
def FnNm (l : List Nat) : Prop := isNm l = true ∧ l ∉ deedW ∧ l ∉ toolW ∧ l ∉ keyW ∧ l.length ≤ 10 ∧ Asc l
theorem fnm_all : ∀ v : Fin 10, strI (v.val : Int) = [48 + v.val] := by decide +kernel
theorem fnm_all2 : ∀ v : Fin 10, isNm [102, 48 + v.val] = true ∧ [102, 48 + v.val] ∉ deedW ∧ [102, 48 + v.val] ∉ toolW ∧ [102, 48 + v.val] ∉ keyW := by decide +kernel
theorem fnm_of {v : Int} (h0 : 0 ≤ v) (h1 : v < 10) : FnNm (102 :: strI v) := by
  obtain ⟨m, rfl⟩ := Int.eq_ofNat_of_zero_le h0
  have hm : m < 10 := by omega
  have e := fnm_all ⟨m, hm⟩
  have e2 := fnm_all2 ⟨m, hm⟩
  simp only at e e2
  rw [e]
  exact ⟨e2.1, e2.2.1, e2.2.2.1, e2.2.2.2, by simp, asc_cons (by omega) (asc_cons (by omega) asc_nil)⟩
theorem may_name {l : List Nat} (h : FnNm l) (B : Bx) : G_may_name_function [.str (ofC l)] B = .ok (.bl true) B := by
  obtain ⟨h1, h2, h3, h4, h5, _⟩ := h
  have n := is_name_ok l (by omega) B
  rw [h1] at n
  have d := in_deed l
  have t := in_tool l
  have k := in_key l
  rw [decide_eq_false h2] at d
  rw [decide_eq_false h3] at t
  rw [decide_eq_false h4] at k
  have vd : viewU c_DEED_NAMES B = some c_DEED_NAMES := rfl
  have vt : viewU c_TOOL_NAMES B = some c_TOOL_NAMES := rfl
  have vk : viewU c_KEY_WORDS B = some c_KEY_WORDS := rfl
  simp only [G_may_name_function]
  unfold b_may_name_function
  generalize c_DEED_NAMES = cd at *
  generalize c_TOOL_NAMES = ct at *
  generalize c_KEY_WORDS = ck at *
  simp [runBody, n, d, t, k, vd, vt, vk]
theorem make_ok {l : List Nat} (hl : FnNm l) {m : U} (hm : MadeOk m) (n : Nat) (B : Bx) : G_is_command (n + 12) [.tup [.str (ofC [109, 97, 107, 101]), .str (ofC l), m]] B = .ok (.bl true) B := by
  have mn := may_name hl B
  have ck := hm.ok n B
  have tm := hm.tg B
  have jk : G_is_joint (n + 11) [.tup [.str (ofC [109, 97, 107, 101]), .str (ofC l), m]] B = .ok (.bl true) B := by
    simp only [G_is_joint]
    refine run_is rfl ?_
    simp only [b_is_joint, List.map_cons, List.map_nil, List.length_cons, List.length_nil, Nat.reduceAdd, Nat.reduceSub, List.replicate_succ, List.replicate_zero, List.cons_append, List.nil_append, Nat.zero_add, Nat.sub_self, List.append_nil]
    refine okP_lock fun LQ hLQ => ?_
    simp [mn, ck, tm]
    first | exact hLQ _ _ _ ret_is | exact hLQ _ _ _ (ret_is' (by simp [mn, ck, tm]) rfl)
  have tg : G_is_tagged [.tup [.str (ofC [109, 97, 107, 101]), .str (ofC l), m]] B = .ok (.bl true) B := tagged_of (n := 12) (by decide) (fun v hv => by
    simp only [List.mem_cons, List.not_mem_nil, or_false] at hv
    rcases hv with rfl | rfl | rfl
    · exact okS_dec
    · exact okS_of hl.2.2.2.2.2
    · exact hm.fl) B
  simp only [G_is_command]
  refine run_is rfl ?_
  simp only [b_is_command, List.map_cons, List.map_nil, List.length_cons, List.length_nil, Nat.reduceAdd, Nat.reduceSub, List.replicate_succ, List.replicate_zero, List.cons_append, List.nil_append, Nat.zero_add, Nat.sub_self, List.append_nil]
  refine okP_seqL fun LQ hLQ => ?_
  simp [tg]
  refine hLQ _ _ _ (then_nx ?_)
  clear hLQ LQ
  refine okP_lock fun LQ hLQ => ?_
  simp [jk]
  first | exact hLQ _ _ _ ret_is | exact hLQ _ _ _ (ret_is' (by simp [jk]) rfl)
theorem make_script {l : List Nat} (hl : FnNm l) {m : U} (hm : MadeOk m) (B : Bx) : G_is_script 24 [.lst [.tup [.str (ofC [109, 97, 107, 101]), .str (ofC l), m]]] B = .ok (.bl true) B := by
  have ck := make_ok hl hm 11 B
  generalize (U.tup [.str (ofC [109, 97, 107, 101]), .str (ofC l), m]) = c at *
  show G_is_script (23 + 1) [.lst [c]] B = _
  have lc : mLc (mItV (mVar 0)) (bdN 1) mYes (mCall (G_is_command 23) (mCons (mVar 1) mNil)) [1] [.val (.lst [c]), .un] B = .ok (.fr (.lst ([0].map fun _ => .bl true))) [.val (.lst [c]), .un] B :=
    mLc_all (fun _ : Nat => c) (fun _ => .bl true) (by simp) (by simp) (by simp) (by simp)
      (fun k hk => BdIs_of (E := [.val (.lst [c]), .val c]) (by simp) ⟨by simp, by unfold Elt; simp [ck]⟩)
  have lce : lc_is_script_0 (G_is_command 23) [.val (.lst [c]), .un] B = _ := lc
  have an := e_all' (l := [0]) (p := fun _ => true)
  simp only [G_is_script]
  refine run_is rfl ?_
  simp only [b_is_script, List.map_cons, List.map_nil, List.length_cons, List.length_nil, Nat.reduceAdd, Nat.reduceSub, List.replicate_succ, List.replicate_zero, List.cons_append, List.nil_append, Nat.zero_add, Nat.sub_self, List.append_nil]
  refine okP_lock fun LQ hLQ => ?_
  simp [lce, an]
  first | exact hLQ _ _ _ ret_is | exact hLQ _ _ _ (ret_is' (by simp [lce, an]) rfl)
theorem functions_stand_at {ks : List Key} {vs : List U} (hl : ks.length = vs.length) (h100 : ks.length ≤ 100) (hk : ∀ k ∈ ks, ∃ z, k = keyC z ∧ FnNm z) (hv : ∀ v ∈ vs, MadeOk v) (B : Bx) : G_functions_stand [.dct ks vs] B = .ok (.bl true) B := by
  have lc := mLc_all uKey (fun _ => .bl true) (bd := bdN 1) (f := mAndV (mCall G_is_name (mCons (mVar 1) mNil)) (mCall (G_is_script 24) (mCons (mLst (mCons (mTup (mCons (mC (.str "make")) (mCons (mVar 1) (mCons (m2 gDIx (mVar 0) (mVar 1)) mNil)))) mNil)) mNil))) (ks := [1]) (xs := ks) (E := [.val (.dct ks vs), .un]) (B := B)
    (fi := mItD keysD (mVar 0)) (by simp [keysD]) (by simp) (by simp) (by omega)
    (fun k hk2 => BdIs_of (E := [.val (.dct ks vs), .val (uKey k)]) (by simp) ⟨by simp, by
      obtain ⟨z, rfl, h1⟩ := hk k hk2
      obtain ⟨v, hv2, e1⟩ := lookU_mem hl hk2
      have hm := hv v hv2
      have e := is_name_ok z (by have := h1.2.2.2.2.1; omega) B
      rw [h1.1] at e
      have ms := make_script h1 hm B
      unfold keyC at e1
      unfold Elt
      simp [uKey, keyC, gDIx, e1, e, ms]⟩)
  have lce : lc_functions_stand_0 G_is_name (G_is_script 24) [.val (.dct ks vs), .un] B = _ := lc
  have ea := e_all' (l := ks) (p := fun _ => true)
  simp only [G_functions_stand]
  refine run_is rfl ?_
  simp only [b_functions_stand, List.map_cons, List.map_nil, List.length_cons, List.length_nil, Nat.reduceAdd, Nat.reduceSub, List.replicate_succ, List.replicate_zero, List.cons_append, List.nil_append, Nat.zero_add, Nat.sub_self, List.append_nil]
  refine okP_seqT ?_
  refine okP_iff0 (by simp; done) ?_
  refine okP_lock fun LQ hLQ => ?_
  simp only [e_sNext, OkP_ok]
  refine hLQ _ _ _ (then_nx ?_)
  clear hLQ LQ
  refine okP_lock fun LQ hLQ => ?_
  simp [lce, ea]
  refine hLQ _ _ _ ?_
  clear hLQ LQ
  exact ret_is' (by simp) rfl
end LawW
/-! S45j: worlds, and the paths that texts say in them. -/
namespace LawW
open PySem L2 QB PySem.NumText
/-- what stands behind the folder of a world -/
structure RestOk (nk : List Key) (nv : List U) (ar : Ks) (st : Int) (fk : List Key) (fv : List U) : Prop where
  n1 : nk.length = nv.length
  n2 : nk.length ≤ 100
  n3 : ∀ k ∈ nk, ∃ z, k = keyC z ∧ isNm z = true ∧ z.length ≤ 10
  n4 : ∀ v ∈ nv, ∃ z, v = txt z
  a1 : ar.length ≤ 1000
  s1 : 0 ≤ st
  s2 : st ≤ 255
  f1 : fk.length = fv.length
  f2 : fk.length ≤ 100
  f3 : ∀ k ∈ fk, ∃ z, k = keyC z ∧ FnNm z
  f4 : ∀ v ∈ fv, MadeOk v
def wOf (ks : Ks) (vs : Vs) (f : List Nat) (nk : List Key) (nv : List U) (ar : Ks) (ti : List Nat) (st : Int) (fk : List Key) (fv : List U) : U :=
  .tup [dctU ks vs, txt f, .dct nk nv, .lst (ar.map txt), txt ti, .int st, .dct fk fv]
structure FilOk (ks : Ks) (vs : Vs) : Prop where
  l : ks.length = vs.length
  n : ks.length ≤ 1000
  s : Stand ks vs
  k : ∀ k ∈ ks, k.length ≤ 1000
theorem is_world_at {ks : Ks} {vs : Vs} (hf : FilOk ks vs) {f : List Nat} (hd : foldB ks vs f = true) {nk nv ar st fk fv} (hr : RestOk nk nv ar st fk fv) (ti : List Nat) (B : Bx) : G_is_world [wOf ks vs f nk nv ar ti st fk fv] B = .ok (.bl true) B := by
  have e1 := stands_at hf.l hf.n hf.s hf.k B
  have e2 := is_folder_at (vs := vs) hf.l f B
  rw [hd] at e2
  have e3 := names_stand_at hr.n1 hr.n2 hr.n3 hr.n4 B
  have e4 := texts_alone_at ar hr.a1 B
  have e5 := functions_stand_at hr.f1 hr.f2 hr.f3 hr.f4 B
  have s1 := hr.s1
  have s2 := hr.s2
  simp only [G_is_world, wOf]
  refine run_is rfl ?_
  have dk : kindS (dctU ks vs) = some "dict" := rfl
  have vt : ∀ B : Bx, viewU (dctU ks vs) B = some (dctU ks vs) := fun _ => rfl
  have tf : kindS (txt f) = some "str" := rfl
  have tt : kindS (txt ti) = some "str" := rfl
  have vn : ∀ B : Bx, viewU (U.dct nk nv) B = some (U.dct nk nv) := fun _ => rfl
  have va : ∀ B : Bx, viewU (U.lst (ar.map txt)) B = some (U.lst (ar.map txt)) := fun _ => rfl
  have vf : ∀ B : Bx, viewU (U.dct fk fv) B = some (U.dct fk fv) := fun _ => rfl
  have vo : ∀ B : Bx, viewU (txt f) B = some (txt f) := fun _ => rfl
  have vi : ∀ B : Bx, viewU (txt ti) B = some (txt ti) := fun _ => rfl
  generalize dctU ks vs = du at *
  generalize U.dct nk nv = nu at *
  generalize U.lst (ar.map txt) = au at *
  generalize hfu : U.dct fk fv = fu at *
  generalize txt f = tfu at *
  generalize txt ti = ttu at *
  simp only [b_is_world, List.map_cons, List.map_nil, List.length_cons, List.length_nil, Nat.reduceAdd, Nat.reduceSub, List.replicate_succ, List.replicate_zero, List.cons_append, List.nil_append, Nat.zero_add, Nat.sub_self, List.append_nil]
  refine okP_seqT ?_
  refine okP_iff0 (by simp; done) ?_
  refine okP_lock fun LQ hLQ => ?_
  simp only [e_sNext, OkP_ok]
  refine hLQ _ _ _ (then_nx ?_)
  clear hLQ LQ
  have st1 : sAsg (mVar 0) (bdT (bdCons (bdN 1) (bdCons (bdN 2) (bdCons (bdN 3) (bdCons (bdN 4) (bdCons (bdN 5) (bdCons (bdN 6) (bdCons (bdN 7) (bdNil))))))))) [.val (.tup [du, tfu, nu, au, ttu, .int st, fu]), .un, .un, .un, .un, .un, .un, .un] B =
      .ok .nx [.val (.tup [du, tfu, nu, au, ttu, .int st, fu]), .val du, .val tfu, .val nu, .val au, .val ttu, .val (.int st), .val fu] B := by
    simp [sAsg]
  refine okP_seqT ?_
  rw [st1, OkP_ok]
  refine then_nx ?_
  refine okP_seqT ?_
  refine okP_iff0 (by simp [dk, tf, tt, vt, vo, vi]; done) ?_
  refine okP_lock fun LQ hLQ => ?_
  simp only [e_sNext, OkP_ok]
  refine hLQ _ _ _ (then_nx ?_)
  clear hLQ LQ
  refine okP_seqT ?_
  refine okP_iff0 (by simp [e1, e2]; done) ?_
  refine okP_lock fun LQ hLQ => ?_
  simp only [e_sNext, OkP_ok]
  refine hLQ _ _ _ (then_nx ?_)
  clear hLQ LQ
  refine okP_seqT ?_
  refine okP_iff0 (by simp [e3, e4]; done) ?_
  refine okP_lock fun LQ hLQ => ?_
  simp only [e_sNext, OkP_ok]
  refine hLQ _ _ _ (then_nx ?_)
  clear hLQ LQ
  refine okP_seqT ?_
  refine okP_iff0 (by simp [s1, s2]; done) ?_
  refine okP_lock fun LQ hLQ => ?_
  simp only [e_sNext, OkP_ok]
  refine hLQ _ _ _ (then_nx ?_)
  clear hLQ LQ
  refine okP_lock fun LQ hLQ => ?_
  simp [e5]
  first | exact hLQ _ _ _ ret_is | exact hLQ _ _ _ (ret_is' (by simp [e5]) rfl)
theorem path_of_at {ks : Ks} {vs : Vs} (hf : FilOk ks vs) {f : List Nat} (gf : GoodP f) (fl : f.length ≤ 10000) (hd : foldB ks vs f = true) {nk nv ar st fk fv} (hr : RestOk nk nv ar st fk fv) (ti : List Nat) {t : List Nat} (tl : t.length ≤ 10000) (B : Bx) :
    G_path_of [wOf ks vs f nk nv ar ti st fk fv, txt t] B = .ok (txt (pathT f t)) B := by
  have e1 := is_world_at hf hd hr ti B
  have e2 := said_at gf fl tl B
  have e3 : G_asked [wOf ks vs f nk nv ar ti st fk fv] B = .ok .non B := by
    generalize wOf ks vs f nk nv ar ti st fk fv = w at *
    simp only [G_asked]
    simp [runBody, b_asked, e1]
  have ix : gIx (wOf ks vs f nk nv ar ti st fk fv) (.int 1) = some (.w (txt f)) := by simp [wOf]
  have vw : ∀ B : Bx, viewU (wOf ks vs f nk nv ar ti st fk fv) B = some (wOf ks vs f nk nv ar ti st fk fv) := fun _ => rfl
  generalize wOf ks vs f nk nv ar ti st fk fv = w at *
  simp only [G_path_of]
  simp [runBody, b_path_of, e3, ix, vw, e2]
end LawW
/-! S45k: the walk from the right. -/
namespace LawW
open PySem L2 QB PySem.NumText
def rW : Ks → Ks → Nat → Ks
  | [], kept, _ => kept
  | p :: r, kept, sp => if p = [46, 46] then rW r kept (sp + 1) else if p = [] ∨ p = [46] then rW r kept sp else if sp = 0 then rW r (p :: kept) sp else rW r kept (sp - 1)
theorem rW_eq : ∀ (m kept : Ks) (sp : Nat), rW m kept sp = (goP [] m.reverse).take ((goP [] m.reverse).length - sp) ++ kept
  | [], kept, sp => by simp [rW, goP]
  | p :: r, kept, sp => by
    have e : goP [] (p :: r).reverse = onP (goP [] r.reverse) p := by
      rw [List.reverse_cons, goP_app]
      rfl
    rw [e, rW]
    generalize hg : goP [] r.reverse = g
    unfold onP
    by_cases h1 : p = [46, 46]
    · rw [if_pos h1, if_pos h1, rW_eq r, hg, List.dropLast_eq_take, List.take_take]
      congr 2
      simp
      omega
    · rw [if_neg h1, if_neg h1]
      by_cases h2 : p = [] ∨ p = [46]
      · rw [if_pos h2, if_pos h2, rW_eq r, hg]
      · rw [if_neg h2, if_neg h2]
        by_cases h3 : sp = 0
        · rw [if_pos h3, rW_eq r, hg, h3, Nat.sub_zero, Nat.sub_zero, List.take_of_length_le (Nat.le_refl _), List.take_of_length_le (Nat.le_refl _)]
          simp
        · rw [if_neg h3, rW_eq r, hg]
          have : (g ++ [p]).take ((g ++ [p]).length - sp) = g.take (g.length - (sp - 1)) := by
            rw [List.take_append_of_le_length (by simp; omega)]
            congr 1
            simp
            omega
          rw [this]
theorem rW_0 (ps : Ks) : rW ps.reverse [] 0 = goP [] ps := by
  rw [rW_eq]
  simp
theorem weigh_rev (ps : Ks) : weigh ps.reverse = weigh ps := by
  simp [weigh]
theorem law_said_at {f t : List Nat} (fl : f.length ≤ 10000) (tl : t.length ≤ 10000) (B : Bx) : G__law_said [txt f, txt t] B = .ok (txt (pathT f t)) B := by
  have e1 := e_starts t 47
  rw [head_top] at e1
  have e2 := e_split47 (t := f) (by omega)
  have e3 := e_split47 (t := t) (by omega)
  have l2 := splitC_len 47 f
  have l3 := splitC_len 47 t
  have w2 := splitC_weigh 47 f
  have w3 := splitC_weigh 47 t
  have ll : ((splitC 47 f).length + (splitC 47 t).length) ≤ 16777216 := by omega
  unfold pathT
  simp only [G__law_said]
  refine run_is rfl ?_
  simp only [b__law_said, List.map_cons, List.map_nil, List.length_cons, List.length_nil, Nat.reduceAdd, Nat.reduceSub, List.replicate_succ, List.replicate_zero, List.cons_append, List.nil_append, Nat.zero_add, Nat.sub_self, List.append_nil]
  refine okP_seqL fun LQ hLQ => ?_
  simp [txt, e3]
  refine hLQ _ _ _ (then_nx ?_)
  clear hLQ LQ
  have main : ∀ ps : Ks, weigh ps ≤ 30000 → OkP (sSeq (sSet 3 (mLst mNil)) (sSeq (sSet 4 (mC (.int 0))) (sSeq (sFor (mRevI (mVar 2)) (bdN 5) lp__law_said_0) (sRet (m2 gAdd (mC (.str "/")) (mM gJoin (mC (.str "/")) (mCons (mVar 3) mNil)))))) [.val (.str (ofC f)), .val (.str (ofC t)), .val (.lst (ps.map txt)), .un, .un, .un] B)
      (RetIs (txt (47 :: joinC [47] (goP [] ps))) B) := by
    intro ps hw
    refine okP_seqL fun LQ hLQ => ?_
    simp
    refine hLQ _ _ _ (then_nx ?_)
    clear hLQ LQ
    refine okP_seqL fun LQ hLQ => ?_
    simp
    refine hLQ _ _ _ (then_nx ?_)
    clear hLQ LQ
    refine okP_seqT ?_
    rw [← rW_0]
    generalize hT : rW ps.reverse [] 0 = T
    have wl : ps.length ≤ 30000 := by unfold weigh at hw; omega
    refine okP_forM txt (xs := ps.reverse) (E1 := [.val (.str (ofC f)), .val (.str (ofC t)), .val (.lst (ps.map txt)), .val (.lst []), .val (.int 0), .un]) (B1 := B) (by simp)
      (fun r E B' => B' = B ∧ ∃ kept sp s5, rW r kept sp = T ∧ weigh kept + weigh r ≤ 30000 ∧ E = [.val (.str (ofC f)), .val (.str (ofC t)), .val (.lst (ps.map txt)), .val (.lst (kept.map txt)), .val (.int (sp : Nat)), s5] ∧ Free s5)
      ⟨rfl, [], 0, .un, hT, by rw [weigh_rev]; simp [weigh] at hw ⊢; omega, rfl, free_un⟩ ?_ ?_
    · rintro p r E B' ⟨rfl, kept, sp, s5, h1, h2, rfl, f5⟩
      refine BdIs_of (E := [.val (.str (ofC f)), .val (.str (ofC t)), .val (.lst (ps.map txt)), .val (.lst (kept.map txt)), .val (.int (sp : Nat)), .val (txt p)]) (by rcases f5 with rfl | ⟨_, rfl⟩ <;> simp) (body_go ?_)
      rw [weigh_cons] at h2
      rw [rW] at h1
      have kl : kept.length ≤ 30000 := by have := h2; unfold weigh at this; omega
      have kl2 : 1 + kept.length ≤ 16777216 := by omega
      simp only [lp__law_said_0]
      by_cases hp : p = [46, 46]
      · subst hp
        rw [if_pos rfl] at h1
        refine okP_ift0 (by simp [txt]; done) ?_
        refine okP_lock fun LQ hLQ => ?_
        simp
        refine hLQ _ _ _ ?_
        clear hLQ LQ
        exact loop_nx ⟨rfl, kept, sp + 1, .val (txt [46, 46]), h1, by simp at h2; omega, by simp, free_val⟩
      · rw [if_neg hp] at h1
        refine okP_iff0 (by simp [txt, hp]; done) ?_
        by_cases hq : p = [] ∨ p = [46]
        · rw [if_pos hq] at h1
          refine okP_iff0 (by rcases hq with rfl | rfl <;> simp [txt]; done) ?_
          refine okP_lock fun LQ hLQ => ?_
          simp
          refine hLQ _ _ _ ?_
          clear hLQ LQ
          exact loop_nx ⟨rfl, kept, sp, _, h1, by omega, rfl, free_val⟩
        · rw [if_neg hq] at h1
          have hq' := hq
          rw [not_or] at hq'
          refine okP_ift0 (by simp [txt, hq'.1, hq'.2, Ne.symm hq'.1, Ne.symm hq'.2]; done) ?_
          by_cases h0 : sp = 0
          · subst h0
            rw [if_pos rfl] at h1
            refine okP_ift0 (by simp; done) ?_
            refine okP_lock fun LQ hLQ => ?_
            simp [kl2]
            refine hLQ _ _ _ ?_
            clear hLQ LQ
            exact loop_nx ⟨rfl, p :: kept, 0, .val (txt p), h1, by rw [weigh_cons]; omega, by simp, free_val⟩
          · rw [if_neg h0] at h1
            have h0' : ¬ ((sp : Int) = 0) := by omega
            refine okP_iff0 (by simp [h0]; done) ?_
            have hs : ((sp - 1 : Nat) : Int) = (sp : Int) - 1 := by omega
            refine okP_lock fun LQ hLQ => ?_
            simp
            refine hLQ _ _ _ ?_
            clear hLQ LQ
            exact loop_nx ⟨rfl, kept, sp - 1, .val (txt p), h1, by omega, by rw [hs], free_val⟩
    · rintro E B' ⟨rfl, acc, sp, s5, h1, h2, rfl, f5⟩
      refine then_nx ?_
      have h1 : acc = T := h1
      rw [← h1]
      have wa : weigh acc ≤ 1000000 := by omega
      have e5 := e_join47 wa
      have jl := join47_len wa
      have jl2 : 1 + (joinC [47] acc).length ≤ 16777216 := by omega
      simp only [txt] at e5
      refine okP_lock fun LQ hLQ => ?_
      simp [e5, jl2]
      refine hLQ _ _ _ ?_
      clear hLQ LQ
      exact ret_is' (by simp [txt]) rfl
  refine okP_seqT ?_
  by_cases h : t.head? = some 47
  · rw [if_pos h]
    refine okP_iff (by simp [e1, h] <;> first | exact ⟨rfl, rfl⟩ | rfl) ?_
    refine okP_lock fun LQ hLQ => ?_
    simp only [e_sNext, OkP_ok]
    refine hLQ _ _ _ (then_nx ?_)
    clear hLQ LQ
    exact main (splitC 47 t) (by omega)
  · rw [if_neg h]
    refine okP_ift (by simp [e1, h] <;> first | exact ⟨rfl, rfl⟩ | rfl) ?_
    refine okP_lock fun LQ hLQ => ?_
    simp [e2, ll]
    refine hLQ _ _ _ ?_
    clear hLQ LQ
    have := main (splitC 47 f ++ splitC 47 t) (by rw [weigh_app]; omega)
    refine then_nx ?_
    simpa using this
end LawW
/-! S45l: laws of said paths; pieces. -/
namespace LawW
open PySem L2 QB PySem.NumText
theorem splitC_free (c : Nat) : ∀ l : List Nat, ∀ q ∈ splitC c l, c ∉ q
  | [], q, h => by simp [splitC] at h; subst h; simp
  | x :: l, q, h => by
    have ih := splitC_free c l
    rw [splitC] at h
    by_cases e : x = c
    · rw [if_pos e] at h
      rcases List.mem_cons.mp h with rfl | h
      · simp
      · exact ih q h
    · rw [if_neg e] at h
      cases hs : splitC c l with
      | nil => exact absurd hs (splitC_ne _ _)
      | cons p r =>
        rw [hs] at h ih
        rcases List.mem_cons.mp h with rfl | h
        · intro z
          rcases List.mem_append.mp z with z | z
          · rw [List.mem_singleton] at z; exact e z.symm
          · exact ih p (List.mem_cons_self ..) z
        · exact ih q (List.mem_cons_of_mem _ h)
def Part4 (q : List Nat) : Prop := q ≠ [] ∧ q ≠ [46] ∧ q ≠ [46, 46] ∧ 47 ∉ q
theorem goP_ok : ∀ (ps acc : Ks), (∀ q ∈ acc, Part4 q) → (∀ q ∈ ps, 47 ∉ q) → ∀ q ∈ goP acc ps, Part4 q
  | [], acc, h, _ => h
  | p :: ps, acc, h, hp => by
    rw [goP]
    refine goP_ok ps _ ?_ (fun q hq => hp q (List.mem_cons_of_mem _ hq))
    intro q hq
    unfold onP at hq
    split at hq
    · exact h q ((List.dropLast_sublist acc).subset hq)
    · next h1 =>
      split at hq
      · exact h q hq
      · next h2 =>
        rcases List.mem_append.mp hq with hq | hq
        · exact h q hq
        · rw [List.mem_singleton] at hq
          subst hq
          rw [not_or] at h2
          exact ⟨h2.1, h2.2, h1, hp _ (List.mem_cons_self ..)⟩
def keptT (f t : List Nat) : Ks := goP [] (if t.head? = some 47 then splitC 47 t else splitC 47 f ++ splitC 47 t)
theorem pathT_def (f t : List Nat) : pathT f t = 47 :: joinC [47] (keptT f t) := rfl
theorem kept_ok (f t : List Nat) : ∀ q ∈ keptT f t, Part4 q := by
  refine goP_ok _ [] (by simp) ?_
  intro q hq
  split at hq
  · exact splitC_free 47 t q hq
  · rcases List.mem_append.mp hq with hq | hq
    · exact splitC_free 47 f q hq
    · exact splitC_free 47 t q hq
theorem goP_kept {ps : Ks} (h : ∀ q ∈ ps, Part4 q) : goP [] ps = ps := by
  rw [goP_good _ _ (fun q hq => ⟨(h q hq).2.1, (h q hq).2.2.1⟩), List.nil_append]
  apply List.filter_eq_self.mpr
  intro q hq
  have := (h q hq).1
  cases q with
  | nil => exact absurd rfl this
  | cons _ _ => rfl
/-- a path made of parts says itself -/
theorem pathT_parts {ps : Ks} (h : ∀ q ∈ ps, Part4 q) (g : List Nat) : pathT g (47 :: joinC [47] ps) = 47 :: joinC [47] ps := by
  unfold pathT
  have h1 : (47 :: joinC [47] ps).head? = some 47 := rfl
  rw [if_pos h1, splitC, if_pos rfl]
  congr 2
  cases ps with
  | nil => simp [joinC, splitC, goP, onP]
  | cons a r =>
    rw [splitC_join _ (by simp) (fun p hp => (h p hp).2.2.2)]
    show goP (onP [] []) (a :: r) = _
    exact goP_kept h
theorem pathT_idem (g f t : List Nat) : pathT g (pathT f t) = pathT f t := by
  rw [pathT_def f t]
  exact pathT_parts (kept_ok f t) g
theorem pathT_slash (g f t : List Nat) : pathT g (pathT f t ++ [47]) = pathT f t := by
  have e := pathT_idem g f t
  unfold pathT at e ⊢
  have h1 : (47 :: joinC [47] (goP [] (if t.head? = some 47 then splitC 47 t else splitC 47 f ++ splitC 47 t)) ++ [47]).head? = some 47 := rfl
  have h3 : (47 :: joinC [47] (goP [] (if t.head? = some 47 then splitC 47 t else splitC 47 f ++ splitC 47 t))).head? = some 47 := rfl
  rw [if_pos h1, splitC_app]
  rw [if_pos h3] at e
  rw [goP_app]
  have h2 : ∀ acc : Ks, goP acc (splitC 47 []) = acc := fun acc => rfl
  rw [h2]
  exact e
theorem pathT_in {f t : List Nat} (g : List Nat) (h : t.head? ≠ some 47) (hf : f.head? = some 47) : pathT g (f ++ 47 :: t) = pathT f t := by
  unfold pathT
  have h1 : (f ++ 47 :: t).head? = some 47 := by
    cases f with
    | nil => rfl
    | cons a r => exact hf
  rw [if_pos h1, if_neg h, splitC_app]
theorem weigh_go : ∀ (ps acc : Ks), weigh (goP acc ps) ≤ weigh acc + weigh ps
  | [], acc => by simp [goP, weigh]
  | p :: ps, acc => by
    have ih := weigh_go ps (onP acc p)
    have := weigh_on acc p
    rw [goP, weigh_cons]
    omega
theorem pathT_len (f t : List Nat) : (pathT f t).length ≤ f.length + t.length + 3 := by
  have h1 := joinC_len [47] (keptT f t)
  have h2 : weigh (keptT f t) ≤ f.length + t.length + 2 := by
    have := weigh_go (if t.head? = some 47 then splitC 47 t else splitC 47 f ++ splitC 47 t) []
    have w2 := splitC_weigh 47 f
    have w3 := splitC_weigh 47 t
    have w0 : weigh [] = 0 := rfl
    unfold keptT
    by_cases h : t.head? = some 47
    · rw [if_pos h] at this ⊢; omega
    · rw [if_neg h] at this ⊢; rw [weigh_app] at this; omega
  rw [pathT_def]
  unfold weigh at h2
  simp at h1 ⊢
  omega
theorem pathT_self {k : List Nat} (h : PathOk k) (g : List Nat) : pathT g k = k := by
  obtain ⟨ps, h1, h2, rfl⟩ := h
  exact pathT_parts (fun q hq => by obtain ⟨a, b, c, d, e⟩ := h2 q hq; exact ⟨a, d, e, c⟩) g
/-! ### pieces -/
theorem atI_last {l : Ks} (h : l ≠ []) : ∃ p ∈ l, atI (l.map txt) (-1) = some (txt p) := by
  refine ⟨l.getLast h, List.getLast_mem h, ?_⟩
  have hl : 0 < l.length := List.length_pos_iff.mpr h
  unfold atI ixN
  rw [if_neg (by omega)]
  simp only [List.length_map]
  rw [if_pos (by omega)]
  have e : ((-1 : Int) + (l.length : Int)).toNat = l.length - 1 := by omega
  simp only [Option.bind_some]
  rw [e, List.getElem?_map, List.getLast_eq_getElem, List.getElem?_eq_getElem (by omega)]
  rfl
end LawW
/-! S45m: the pieces of a text. -/
namespace LawW
open PySem L2 QB PySem.NumText
theorem part_short {l q : List Nat} (h : q ∈ splitC 47 l) : q.length ≤ l.length := by
  have w := splitC_weigh 47 l
  have : ∀ (s : Ks), q ∈ s → q.length + 1 ≤ weigh s := by
    intro s
    induction s with
    | nil => intro h; cases h
    | cons p s ih =>
      intro h
      rw [weigh_cons]
      rcases List.mem_cons.mp h with rfl | h
      · omega
      · have := ih h; omega
  have := this _ h
  omega
def PcsOk (l : Ks) : Prop := (∀ p ∈ l, p.length ≤ 25) ∧ l.length ≤ 7
theorem piecesBf {B : Bx} {i : Nat} (hi : i < B.length) (d : Dk) (ts : List Cell) {ks : Ks} (vs : Vs) (h64 : ks.length < 64) (hk : ∀ k ∈ ks, k.length ≤ 25) :
    ∃ (l : Ks) (d' : Dk), PcsOk l ∧ G__law_pieces [.box i, dctU ks vs] (Bf B i d ts) = .ok (.lst (l.map txt)) (Bf B i d' ts) := by
  suffices h : ∃ u B', G__law_pieces [.box i, dctU ks vs] (Bf B i d ts) = .ok u B' ∧ ∃ (l : Ks) (d' : Dk), PcsOk l ∧ u = .lst (l.map txt) ∧ B' = Bf B i d' ts by
    obtain ⟨u, B', e, l, d', hl, rfl, rfl⟩ := h
    exact ⟨l, d', hl, e⟩
  have es := e_sortD (vs := vs) h64
  have hm := fun k => sortC_mem ks k
  have hl := sortC_len ks
  have ne0 : gDNe0 (dctU ks vs) (.dct [] []) = some (.w (.bl (!ks.isEmpty))) := by
    simp [gDNe0, dctU]
  have e1 := drawBf hi d ts 8
  have v0 := drawN_ge 8 d
  have v1 := drawN_lt 8 d
  simp only [G__law_pieces]
  refine run_p rfl ?_
  simp only [b__law_pieces, List.map_cons, List.map_nil, List.length_cons, List.length_nil, Nat.reduceAdd, Nat.reduceSub, List.replicate_succ, List.replicate_zero, List.cons_append, List.nil_append, Nat.zero_add, Nat.sub_self, List.append_nil]
  generalize drawN 8 d = n at *
  generalize drawD 8 d = d1 at *
  have i1 : I62 n = true := i62 (by omega) (by omega)
  generalize sortC ks = so at *
  have vw : ∀ B : Bx, viewU (dctU ks vs) B = some (dctU ks vs) := fun _ => rfl
  generalize dctU ks vs = u at *
  have hks : ∀ k ∈ so, k.length ≤ 25 := fun k h => hk k ((hm k).mp h)
  refine okP_seqL fun LQ hLQ => ?_
  simp
  refine hLQ _ _ _ (then_nx ?_)
  clear hLQ LQ
  refine okP_seqT ?_
  refine okP_forM nat (xs := List.range n.toNat) (E1 := [.val (.box i), .val u, .own (.lst []), .un, .un, .un]) (B1 := Bf B i d1 ts) (by simp [e1, i1, intsU_map, nat])
    (fun r E B' => ∃ acc d' s3 s4 s5, (∀ p ∈ acc, p.length ≤ 25) ∧ acc.length + r.length ≤ 7 ∧ E = [.val (.box i), .val u, .own (.lst (acc.map txt)), s3, s4, s5] ∧ Free s3 ∧ B' = Bf B i d' ts)
    ⟨[], d1, .un, .un, .un, by simp, by simp; omega, rfl, free_un, rfl⟩ ?_ ?_
  · rintro k r E B' ⟨acc, d', s3, s4, s5, ha, hlen, rfl, f3, rfl⟩
    refine BdIs_of (E := [.val (.box i), .val u, .own (.lst (acc.map txt)), .val (nat k), s4, s5]) (by rcases f3 with rfl | ⟨_, rfl⟩ <;> simp [nat]) (body_go ?_)
    simp only [List.length_cons] at hlen
    have al : acc.length < 16777216 := by omega
    have e2 := drawBf hi d' ts 6
    have w0 := drawN_ge 6 d'
    have w1 := drawN_lt 6 d'
    generalize drawN 6 d' = z at *
    generalize drawD 6 d' = d2 at *
    have grow : ∀ p : List Nat, p.length ≤ 25 → ∀ q ∈ acc ++ [p], q.length ≤ 25 := fun p hp q hq => by
      rcases List.mem_append.mp hq with hq | hq
      · exact ha q hq
      · rw [List.mem_singleton] at hq; subst hq; exact hp
    simp only [lp__law_pieces_0]
    refine okP_seqL fun LQ hLQ => ?_
    simp [e2]
    refine hLQ _ _ _ (then_nx ?_)
    clear hLQ LQ
    by_cases h4 : z < 4
    · refine okP_ift0 (by simp [h4]; done) ?_
      have hz : z = 0 ∨ z = 1 ∨ z = 2 ∨ z = 3 := by omega
      refine okP_lock fun LQ hLQ => ?_
      rcases hz with rfl | rfl | rfl | rfl <;> simp [al]
      · exact hLQ _ _ _ (loop_nx ⟨acc ++ [[]], d2, .val (nat k), .val (.int 0), s5, grow [] (by simp), by simp; omega, by simp [txt], free_val, rfl⟩)
      · exact hLQ _ _ _ (loop_nx ⟨acc ++ [[46]], d2, .val (nat k), .val (.int 1), s5, grow [46] (by simp), by simp; omega, by simp [txt], free_val, rfl⟩)
      · exact hLQ _ _ _ (loop_nx ⟨acc ++ [[46, 46]], d2, .val (nat k), .val (.int 2), s5, grow [46, 46] (by simp), by simp; omega, by simp [txt], free_val, rfl⟩)
      · exact hLQ _ _ _ (loop_nx ⟨acc ++ [[46, 46]], d2, .val (nat k), .val (.int 3), s5, grow [46, 46] (by simp), by simp; omega, by simp [txt], free_val, rfl⟩)
    · refine okP_iff0 (by simp [h4]; done) ?_
      by_cases h5 : z = 4 ∧ ks ≠ []
      · obtain ⟨rfl, hne⟩ := h5
        have hemp : ks.isEmpty = false := by cases ks <;> simp at hne ⊢
        rw [hemp] at ne0
        have hpos : 0 < so.length := by rw [hl]; cases ks <;> simp at hne ⊢
        have e3 := drawBf hi d2 ts (so.length : Int) (by omega) (by omega)
        have e4 := atI_txt (l := so) (drawN_ge (so.length : Int) d2 (by omega)) (drawN_lt (so.length : Int) d2 (by omega))
        have e5 := hks _ (getD_mem (draw_in hpos d2))
        have sl : so.length ≤ 16777216 := by omega
        generalize so.getD (drawN so.length d2).toNat [] = f at *
        generalize drawD so.length d2 = d3 at *
        have e6 := e_split47 (t := f) (by omega)
        obtain ⟨p, hp, e7⟩ := atI_last (splitC_ne 47 f)
        have pl := part_short hp
        simp only [txt] at e4
        refine okP_ift0 (by simp [ne0, vw]; done) ?_
        refine okP_seqL fun LQ hLQ => ?_
        simp [es, vw]
        refine hLQ _ _ _ (then_nx ?_)
        clear hLQ LQ
        refine okP_lock fun LQ hLQ => ?_
        simp [e3, e4, sl, e6, e7, al]
        refine hLQ _ _ _ ?_
        clear hLQ LQ
        exact loop_nx ⟨acc ++ [p], d3, .val (nat k), .val (.int 4), .val (.lst (so.map txt)), grow p (by omega), by simp; omega, by simp [txt], free_val, rfl⟩
      · have h5' : z ≠ 4 ∨ (z = 4 ∧ ks.isEmpty = true) := by
          by_cases a : z = 4
          · right
            refine ⟨a, ?_⟩
            cases ks with
            | nil => rfl
            | cons x y => exact absurd ⟨a, by simp⟩ h5
          · exact .inl a
        refine okP_iff0 (by
          rcases h5' with h | ⟨h, h2⟩
          · simp [h]
          · rw [h2] at ne0
            simp [h, ne0, vw]) ?_
        have e8 := partBf hi d2 ts
        have pg := part_good d2
        generalize partG d2 = q at *
        refine okP_lock fun LQ hLQ => ?_
        simp [e8, al]
        refine hLQ _ _ _ ?_
        clear hLQ LQ
        exact loop_nx ⟨acc ++ [q.1], q.2, .val (nat k), .val (.int z), s5, grow q.1 (by have := pg.2.1; omega), by simp; omega, by simp, free_val, rfl⟩
  · rintro E B' ⟨acc, d', s3, s4, s5, ha, hlen, rfl, f3, rfl⟩
    refine then_nx ?_
    refine okP_lock fun LQ hLQ => ?_
    simp
    refine hLQ _ _ _ ?_
    clear hLQ LQ
    exact ret_p ⟨acc, d', ⟨ha, by simp at hlen; omega⟩, rfl, rfl⟩
end LawW
/-! S45n: what is drawn is a world. -/
namespace LawW
open PySem L2 QB PySem.NumText
/-- a folder of the files -/
structure DirOk (ks : Ks) (vs : Vs) (f : List Nat) : Prop where
  g : GoodP f
  l : f.length ≤ 25
  d : foldB ks vs f = true
  h : f.head? = some 47
theorem dir_of {d : Dk} {f : List Nat} (h : f ∈ foldersC (filesG d).1 (filesG d).2.1) : DirOk (filesG d).1 (filesG d).2.1 f := by
  have fok := filesG_ok d
  have fst := filesG_stand d
  rcases folders_none h with rfl | ⟨h1, h2⟩
  · exact ⟨good_top, by simp, by simp [foldB], rfl⟩
  · have := fok.2.2.2 f h1
    obtain ⟨ps, _, _, rfl⟩ := fst.path h1
    exact ⟨this.1, this.2, by simp [foldB, h1, h2], rfl⟩
theorem fil_of (d : Dk) : FilOk (filesG d).1 (filesG d).2.1 := by
  have fok := filesG_ok d
  exact ⟨fok.1, by have := fok.2.1; omega, filesG_stand d, fun k hk => by have := (fok.2.2.2 k hk).2; omega⟩
theorem wF_ok (d : Dk) : (wF d).1.length = (wF d).2.1.length ∧ (wF d).1.length ≤ 1 ∧ (∀ k ∈ (wF d).1, ∃ z, k = keyC z ∧ FnNm z) ∧ ∀ v ∈ (wF d).2.1, MadeOk v := by
  unfold wF
  split
  · refine ⟨rfl, by simp, fun k hk => ?_, fun v hv => ?_⟩
    · simp only [List.mem_singleton] at hk
      exact ⟨_, hk, fnm_of (drawN_ge 10 _) (drawN_lt 10 _)⟩
    · simp only [List.mem_singleton] at hv
      subst hv
      exact fun_made _
  · exact ⟨rfl, by simp, by simp, by simp⟩
theorem world_of (d : Dk) : ∃ nk nv ar ti st fk fv, RestOk nk nv ar st fk fv ∧ (worldG d).1 = wOf (filesG d).1 (filesG d).2.1 (wFolder d) nk nv ar ti st fk fv := by
  refine ⟨_, _, _, _, _, _, _, ?_, rfl⟩
  have n := wN_ok (w1 d)
  have nm := wN_nm (w1 d)
  have f := wF_ok (wA (wN (w1 d)).2.2).2
  have h0 := drawN_ge 3 (wN (w1 d)).2.2
  have h1 := drawN_lt 3 (wN (w1 d)).2.2
  have al := gen_len (textG 2) (drawN 3 (wN (w1 d)).2.2).toNat (drawD 3 (wN (w1 d)).2.2)
  exact ⟨n.1, by have := n.2.1; omega, nm, n.2.2.2, by show (gen (textG 2) _ _).1.length ≤ 1000; omega, drawN_ge 256 _, by have := drawN_lt 256 (textG 2 (wF (wA (wN (w1 d)).2.2).2).2.2).2; omega, f.1, by have := f.2.1; omega, f.2.2.1, f.2.2.2⟩
theorem worldBf {B : Bx} {i : Nat} (hi : i < B.length) (d : Dk) (ts : List Cell) : ∃ ts', G__law_world [.box i, .int 5] (Bf B i d ts) = .ok (worldG d).1 (Bf B i (worldG d).2 ts') := by
  have hi2 : i < (Bf B i d ts).length := by rw [Bf_len]; omega
  obtain ⟨us, e⟩ := world_at hi2 (Bf_at hi d ts)
  refine ⟨ts ++ us, ?_⟩
  rw [e]
  congr 1
  show (Bf B i d ts).set i (Cl (worldG d).2) ++ us = _
  rw [Bf_set hi, Bf_app]
theorem app_at (B : Bx) (d : Dk) : At (B ++ [Cl d]) B.length d := by
  unfold At
  simp
theorem app_bf (B : Bx) (d : Dk) : B ++ [Cl d] = Bf (B ++ [Cl d]) B.length d [] := by
  have := Bf_0 (app_at B d) []
  simpa using this
def nxD (x k : Int) : Int := (x * x + 48271 * x + 6364136223846793 * (k + 1)) % 2305843009213693951
def totL : List Nat → Int → Int → Int
  | [], _, t => t
  | k :: r, x, t => totL r (nxD x k) (t * 2305843009213693951 + nxD x k)
def deckF (n : Int) : Dk := if (1000000000000000000 : Int) ≤ n then (n - 1000000000000000000, totL (List.range 16) (n % 2305843009213693951) 0) else (totL (List.range 16) (n % 2305843009213693951) 0, 0)
theorem deck_at (n : Int) (B : Bx) : G__law_deck [.int n] B = .ok (.box B.length) (B ++ [Cl (deckF n)]) := by
  simp only [G__law_deck]
  unfold deckF
  generalize hT : totL (List.range 16) (n % 2305843009213693951) 0 = T
  refine run_is rfl ?_
  simp only [b__law_deck, List.map_cons, List.map_nil, List.length_cons, List.length_nil, Nat.reduceAdd, Nat.reduceSub, List.replicate_succ, List.replicate_zero, List.cons_append, List.nil_append, Nat.zero_add, Nat.sub_self, List.append_nil]
  refine okP_seqL fun LQ hLQ => ?_
  simp
  refine hLQ _ _ _ (then_nx ?_)
  clear hLQ LQ
  refine okP_seqL fun LQ hLQ => ?_
  simp
  refine hLQ _ _ _ (then_nx ?_)
  clear hLQ LQ
  refine okP_seqT ?_
  have i16 : I62 16 = true := i62 (by omega) (by omega)
  refine okP_forM nat (xs := List.range 16) (E1 := [.val (.int n), .val (.int (n % 2305843009213693951)), .val (.int 0), .un]) (B1 := B) (by simp [i16, intsU_map, nat])
    (fun r E B' => B' = B ∧ ∃ (x t : Int) (s : Sl), totL r x t = T ∧ E = [.val (.int n), .val (.int x), .val (.int t), s] ∧ Free s ∧ 0 ≤ x ∧ x < 2305843009213693951)
    ⟨rfl, _, _, .un, hT, rfl, free_un, Int.emod_nonneg _ (by decide), Int.emod_lt_of_pos _ (by decide)⟩ ?_ ?_
  · rintro k r E B' ⟨rfl, x, t, s, ht, rfl, fs, hx, hx2⟩
    refine BdIs_of (E := [.val (.int n), .val (.int x), .val (.int t), .val (.int (k : Int))]) (by rcases fs with rfl | ⟨_, rfl⟩ <;> simp [nat]) (body_go ?_)
    have c1 : cMul x x = true := cMul_l (by omega) (by omega)
    have c2 : ∀ z : Int, cMul 48271 z = true := fun z => cMul_l (by decide) (by decide)
    have c3 : ∀ z : Int, cMul 6364136223846793 z = true := fun z => cMul_l (by decide) (by decide)
    have c4 : ∀ z : Int, cMul z 2305843009213693951 = true := fun z => cMul_r (by decide) (by decide)
    refine okP_lock fun LQ hLQ => ?_
    simp [lp__law_deck_0, c1, c2, c3, c4]
    refine hLQ _ _ _ ?_
    clear hLQ LQ
    exact loop_nx ⟨rfl, nxD x k, t * 2305843009213693951 + nxD x k, .val (.int (k : Int)), ht, rfl, free_val, Int.emod_nonneg _ (by decide), Int.emod_lt_of_pos _ (by decide)⟩
  · rintro E B' ⟨rfl, x, t, s, ht, rfl, fs, hx, hx2⟩
    have ht : t = T := ht
    subst ht
    refine then_nx ?_
    have e18 : cPow 10 18 = true := by decide
    by_cases hb : (1000000000000000000 : Int) ≤ n
    · have hb' : decide ((1000000000000000000 : Int) ≤ n) = true := decide_eq_true hb
      rw [if_pos hb]
      refine okP_seqT ?_
      refine okP_ift0 (by simp [e18, hb']) ?_
      refine okP_lock fun LQ hLQ => ?_
      simp [e18]
      exact hLQ _ _ _ (then_rt (ret_is' rfl rfl))
    · have hb' : decide ((1000000000000000000 : Int) ≤ n) = false := decide_eq_false hb
      rw [if_neg hb]
      refine okP_seqT ?_
      refine okP_iff0 (by simp [e18, hb']) ?_
      refine okP_lock fun LQ hLQ => ?_
      simp only [e_sNext, OkP_ok]
      refine hLQ _ _ _ (then_nx ?_)
      refine okP_lock fun LQ hLQ => ?_
      simp
      refine hLQ _ _ _ ?_
      clear hLQ LQ
      exact ret_is' rfl rfl
end LawW
/-! S45ze: one cell. -/
namespace LawW
open PySem L2 QB PySem.NumText
theorem eq_txt (a b : List Nat) : QB.eqU (txt a) (txt b) = some (a == b) := by simp [txt]
theorem weigh_le : ∀ l : Ks, (∀ p ∈ l, p.length ≤ 25) → weigh l ≤ 26 * l.length
  | [], _ => by simp [weigh]
  | p :: l, h => by
    have ih := weigh_le l (fun q hq => h q (List.mem_cons_of_mem _ hq))
    have := h p (List.mem_cons_self ..)
    rw [weigh_cons, List.length_cons]
    omega
def dirOkAll (ks : Ks) (vs : Vs) (r : Ks) : Prop := ∀ g ∈ r, DirOk ks vs g
theorem right_at (n : Int) (B0 : Bx) : ∃ B', G__law_right [.int n] B0 = .ok (.bl true) B' := by
  suffices h : ∃ u B', G__law_right [.int n] B0 = .ok u B' ∧ u = .bl true by
    obtain ⟨u, B', e, rfl⟩ := h
    exact ⟨B', e⟩
  have de := deck_at n
  generalize hB : B0 ++ [Cl (deckF n)] = B
  have hi : B0.length < B.length := by rw [← hB]; simp
  have bf : B = Bf B B0.length (deckF n) [] := by rw [← hB]; exact app_bf B0 _
  have de0 := de B0
  rw [hB] at de0
  rw [bf] at de0
  have e1 := drawBf hi (deckF n) [] 2
  have v0 := drawN_ge 2 (deckF n)
  have v1 := drawN_lt 2 (deckF n)
  have hd1 : drawD 2 (deckF n) = drawD 2 (deckF n) := rfl
  generalize hdd : drawD 2 (deckF n) = d1 at *
  obtain ⟨ts, e2⟩ := worldBf hi d1 []
  obtain ⟨nk, nv, ar, ti, st, fk, fv, hr, hw⟩ := world_of d1
  have wp := world_pl d1
  have fok := filesG_ok d1
  have fil := fil_of d1
  have dir : DirOk (filesG d1).1 (filesG d1).2.1 (wFolder d1) := dir_of (getD_mem (draw_in (folders_ne _ _) _))
  have fst := filesG_stand d1
  have dirs := fun f h => dir_of (d := d1) (f := f) h
  have fln := folders_ne (filesG d1).1 (filesG d1).2.1
  have fll := folders_le (filesG d1).1 (filesG d1).2.1
  have ws := fun B => same_ok 11 (worldG d1).1 B wp
  have again : ∀ B' : Bx, ∃ B'', G__law_world [.box B'.length, .int 5] (Bf (B' ++ [Cl (deckF n)]) B'.length d1 []) = .ok (worldG d1).1 B'' := fun B' => by
    obtain ⟨ts, e⟩ := worldBf (B := B' ++ [Cl (deckF n)]) (i := B'.length) (by simp) d1 []
    exact ⟨_, e⟩
  have drawA : ∀ B' : Bx, G__law_draw [.box B'.length, .int 2] (B' ++ [Cl (deckF n)]) = .ok (.int (drawN 2 (deckF n))) (Bf (B' ++ [Cl (deckF n)]) B'.length d1 []) := fun B' => by
    have e := drawBf (B := B' ++ [Cl (deckF n)]) (i := B'.length) (by simp) (deckF n) [] 2
    rw [← app_bf, hdd] at e
    exact e
  simp only [G__law_right]
  refine run_p rfl ?_
  simp only [b__law_right, List.map_cons, List.map_nil, List.length_cons, List.length_nil, Nat.reduceAdd, Nat.reduceSub, List.replicate_succ, List.replicate_zero, List.cons_append, List.nil_append, Nat.zero_add, Nat.sub_self, List.append_nil]
  rw [hw] at e2 ws again
  generalize (worldG d1).2 = d2 at *
  generalize hks : (filesG d1).1 = ks at *
  generalize hvs : (filesG d1).2.1 = vs at *
  generalize wFolder d1 = f at *
  have fl5 := fok.2.1
  rw [hks] at fl5
  have fk25 : ∀ k ∈ ks, k.length ≤ 25 := fun k hk => by have := (fok.2.2.2 k (by rw [hks]; exact hk)).2; omega
  generalize hW : wOf ks vs f nk nv ar ti st fk fv = W at *
  have ixW : gIx W (.int 0) = some (.w (dctU ks vs)) := by rw [← hW]; simp [wOf]
  have vW : ∀ B : Bx, viewU W B = some W := fun _ => by rw [← hW]; rfl
  have slW : gSl W (some 2) none = some (.w (.tup [.dct nk nv, .lst (ar.map txt), txt ti, .int st, .dct fk fv])) := by
    rw [← hW]
    simp only [wOf, gSl]
    rw [cutU_i (i := 2) (a := 2) rfl]
    rfl
  obtain ⟨l, d3, ⟨pl1, pl2⟩, e3⟩ := piecesBf hi d2 ts vs (by omega : ks.length < 64) fk25
  have ef := folders_at (u := dctU ks vs) (B := Bf B B0.length d3 ts) (ks := ks) (vs := vs) rfl fil.l (by omega)
  have e4 := drawBf hi d3 ts ((foldersC ks vs).length : Int) (by omega) (by omega)
  have e5 := atI_txt (l := foldersC ks vs) (drawN_ge ((foldersC ks vs).length : Int) d3 (by omega)) (drawN_lt ((foldersC ks vs).length : Int) d3 (by omega))
  have dir2 := dirs _ (getD_mem (draw_in fln d3))
  have fl2 : (foldersC ks vs).length ≤ 16777216 := by omega
  generalize (foldersC ks vs).getD (drawN (foldersC ks vs).length d3).toNat [] = f2 at *
  generalize drawD (foldersC ks vs).length d3 = d4 at *
  generalize foldersC ks vs = fo at *
  have l0x : ∃ l0 : List Nat, l0.length ≤ 1 ∧ atI [U.str (ofC []), .str (ofC [47])] (drawN 2 (deckF n)) = some (.str (ofC l0)) := by
    have : drawN 2 (deckF n) = 0 ∨ drawN 2 (deckF n) = 1 := by omega
    rcases this with h | h <;> rw [h]
    · exact ⟨[], by simp, by simp⟩
    · exact ⟨[47], by simp, by simp⟩
  obtain ⟨l0, l0l, e0⟩ := l0x
  have wl := weigh_le l pl1
  have ej := e_join47 (a := l) (by omega)
  have jl := joinC_len [47] l
  have jl2 : (joinC [47] l).length ≤ 182 := by unfold weigh at wl; simp at jl; omega
  simp only [txt] at ej
  have al : l0.length + (joinC [47] l).length ≤ 16777216 := by omega
  refine okP_seqL fun LQ hLQ => ?_
  simp [de0]
  refine hLQ _ _ _ (then_nx ?_)
  clear hLQ LQ
  refine okP_seqL fun LQ hLQ => ?_
  simp [e1, e0]
  refine hLQ _ _ _ (then_nx ?_)
  clear hLQ LQ
  refine okP_seqL fun LQ hLQ => ?_
  simp [e2]
  refine hLQ _ _ _ (then_nx ?_)
  clear hLQ LQ
  refine okP_seqL fun LQ hLQ => ?_
  simp [ixW, vW, e3, ej, al]
  refine hLQ _ _ _ (then_nx ?_)
  clear hLQ LQ
  have lnl : (l0 ++ joinC [47] l).length ≤ 183 := by simp; omega
  generalize l0 ++ joinC [47] l = line at *
  refine okP_seqL fun LQ hLQ => ?_
  simp [ixW, vW, ef]
  refine hLQ _ _ _ (then_nx ?_)
  clear hLQ LQ
  refine okP_seqL fun LQ hLQ => ?_
  simp [ixW, vW, e4, e5, fl2, slW]
  refine hLQ _ _ _ (then_nx ?_)
  clear hLQ LQ
  have pf := fun (g : List Nat) (dg : DirOk ks vs g) (t : List Nat) (tl : t.length ≤ 10000) (B : Bx) => path_of_at fil dg.g (by have := dg.l; omega) dg.d hr ti (t := t) tl B
  have ix1 : ∀ g, gIx (wOf ks vs g nk nv ar ti st fk fv) (.int 1) = some (.w (.str (ofC g))) := fun g => by simp [wOf, txt]
  have vw : ∀ g (B : Bx), viewU (wOf ks vs g nk nv ar ti st fk fv) B = some (wOf ks vs g nk nv ar ti st fk fv) := fun _ _ => rfl
  have hW2 : (U.tup [dctU ks vs, txt f2, .dct nk nv, .lst (ar.map txt), txt ti, .int st, .dct fk fv]) = wOf ks vs f2 nk nv ar ti st fk fv := rfl
  rw [hW2]
  generalize hwf : (fun g => wOf ks vs g nk nv ar ti st fk fv) = wf at *
  have hwf2 : ∀ g, wOf ks vs g nk nv ar ti st fk fv = wf g := fun g => by rw [← hwf]
  simp only [hwf2] at pf ix1 vw hW ⊢
  subst hW
  have dsplit : dirOkAll ks vs [f, f2, f] := by
    intro g hg
    simp only [List.mem_cons, List.not_mem_nil, or_false] at hg
    rcases hg with rfl | rfl | rfl
    · exact dir
    · exact dir2
    · exact dir
  refine okP_seqT ?_
  refine okP_forM wf (xs := [f, f2, f]) (E1 := [.val (.int n), .val (.box B0.length), .val (.str (ofC line)), .val (wf f), .val (.lst (fo.map txt)), .val (wf f2), .un, .un, .un, .un, .un]) (B1 := Bf B B0.length d4 ts) (by simp)
    (fun r E B' => dirOkAll ks vs r ∧ B' = Bf B B0.length d4 ts ∧ ∃ s6 s7 s8, E = [.val (.int n), .val (.box B0.length), .val (.str (ofC line)), .val (wf f), .val (.lst (fo.map txt)), .val (wf f2), s6, s7, s8, .un, .un] ∧ Free s6)
    ⟨dsplit, rfl, .un, .un, .un, rfl, free_un⟩ ?_ ?_
  · rintro g r E B' ⟨hds, rfl, s6, s7, s8, rfl, f6⟩
    have dg := hds g (List.mem_cons_self ..)
    generalize Bf B B0.length d4 ts = B' at *
    refine BdIs_of (E := [.val (.int n), .val (.box B0.length), .val (.str (ofC line)), .val (wf f), .val (.lst (fo.map txt)), .val (wf f2), .val (wf g), s7, s8, .un, .un]) (by rcases f6 with rfl | ⟨_, rfl⟩ <;> simp) (body_go ?_)
    have pll := pathT_len g line
    have gl := dg.l
    have p1 := pf g dg line (by omega) B'
    have p2 := law_said_at (f := g) (t := line) (by omega) (by omega) B'
    have p3 := same_str 11 (pathT g line) (pathT g line) B'
    rw [beq_self_eq_true] at p3
    have p4 := pf g dg (pathT g line) (by omega) B'
    rw [pathT_idem] at p4
    have p5 := pf f dir (pathT g line ++ [47]) (by simp; omega) B'
    rw [pathT_slash] at p5
    have p6 := fun h => pathT_in (f := g) (t := line) f h dg.h
    have p7 := pf f dir (g ++ 47 :: line) (by simp; omega) B'
    have st := e_starts line 47
    rw [head_top] at st
    simp only [txt] at p1 p2 p4 p5 p7
    have a1 : (pathT g line).length ≤ 16777215 := by omega
    have a2 : g.length ≤ 16777215 := by omega
    have a3 : g.length + 1 + line.length ≤ 16777216 := by omega
    have a4 : g.length + (line.length + 1) ≤ 16777216 := by omega
    generalize pathT g line = due at *
    simp only [lp__law_right_1]
    refine okP_seqL fun LQ hLQ => ?_
    simp [p1]
    refine hLQ _ _ _ (then_nx ?_)
    clear hLQ LQ
    refine okP_seqL fun LQ hLQ => ?_
    simp [ix1, vw, p2]
    refine hLQ _ _ _ (then_nx ?_)
    clear hLQ LQ
    refine okP_seqT ?_
    refine okP_iff0 (by simp [p3, p4, p5, a1]; done) ?_
    refine okP_lock fun LQ hLQ => ?_
    simp only [e_sNext, OkP_ok]
    refine hLQ _ _ _ (then_nx ?_)
    clear hLQ LQ
    by_cases h : line.head? = some 47
    · refine okP_iff0 (by simp [st, h]; done) ?_
      refine okP_lock fun LQ hLQ => ?_
      simp
      refine hLQ _ _ _ ?_
      clear hLQ LQ
      exact loop_nx ⟨fun q hq => hds q (List.mem_cons_of_mem _ hq), rfl, _, _, _, rfl, free_val⟩
    · rw [p6 h] at p7
      refine okP_iff0 (by simp [st, h, ix1, vw, p7, a2, a3, a4]; done) ?_
      refine okP_lock fun LQ hLQ => ?_
      simp
      refine hLQ _ _ _ ?_
      clear hLQ LQ
      exact loop_nx ⟨fun q hq => hds q (List.mem_cons_of_mem _ hq), rfl, _, _, _, rfl, free_val⟩
  · rintro E B' ⟨_, rfl, s6, s7, s8, rfl, f6⟩
    generalize Bf B B0.length d4 ts = B' at *
    refine then_nx ?_
    refine okP_seqT ?_
    have hks2 : ∀ k ∈ ks, PathOk k := fun k hk => fst.path hk
    have kd : keysD (ks.map keyC) (vs.map optT) = ks.map txt := by
      unfold keysD
      rw [List.map_map]
      rfl
    refine okP_forM txt (xs := ks) (E1 := [.val (.int n), .val (.box B0.length), .val (.str (ofC line)), .val (wf f), .val (.lst (fo.map txt)), .val (wf f2), s6, s7, s8, .un, .un]) (B1 := B') (by simp [ixW, vW, dctU, kd])
      (fun r E B'' => (∀ k ∈ r, k ∈ ks) ∧ B'' = B' ∧ ∃ s9, E = [.val (.int n), .val (.box B0.length), .val (.str (ofC line)), .val (wf f), .val (.lst (fo.map txt)), .val (wf f2), s6, s7, s8, s9, .un] ∧ Free s9)
      ⟨fun _ h => h, rfl, .un, rfl, free_un⟩ ?_ ?_
    · rintro k r E B'' ⟨hin, rfl, s9, rfl, f9⟩
      refine BdIs_of (E := [.val (.int n), .val (.box B0.length), .val (.str (ofC line)), .val (wf f), .val (.lst (fo.map txt)), .val (wf f2), s6, s7, s8, .val (txt k), .un]) (by rcases f9 with rfl | ⟨_, rfl⟩ <;> simp) (body_go ?_)
      have hk := hin k (List.mem_cons_self ..)
      have p1 := pf f2 dir2 k (by have := fk25 k hk; omega) B''
      rw [pathT_self (hks2 k hk)] at p1
      have eq := eq_txt k k
      rw [beq_self_eq_true] at eq
      simp only [lp__law_right_0]
      refine okP_iff0 (by simp [p1, eq]; done) ?_
      refine okP_lock fun LQ hLQ => ?_
      simp
      refine hLQ _ _ _ ?_
      clear hLQ LQ
      exact loop_nx ⟨fun q hq => hin q (List.mem_cons_of_mem _ hq), rfl, _, rfl, free_val⟩
    · rintro E B'' ⟨_, rfl, s9, rfl, f9⟩
      refine then_nx ?_
      obtain ⟨B3, ea⟩ := again B''
      have da := drawA B''
      have dk := de B''
      have wk := ws B3
      refine okP_seqL fun LQ hLQ => ?_
      simp [dk]
      refine hLQ _ _ _ (then_nx ?_)
      clear hLQ LQ
      refine okP_seqL fun LQ hLQ => ?_
      simp [da]
      refine hLQ _ _ _ (then_nx ?_)
      clear hLQ LQ
      refine okP_lock fun LQ hLQ => ?_
      simp [ea, wk]
      refine hLQ _ _ _ ?_
      clear hLQ LQ
      exact ret_p rfl
end LawW
/-! S45zf: the law. -/
namespace LawW
open PySem L2 QB PySem.NumText
theorem plain (ns : List Int) (hl : ns.length ≤ 63) : ∃ B', G_law [.scr ns] [] = .ok (.bl true) B' := by
  have key : ∃ u B', G_law [.scr ns] [] = .ok u B' ∧ u = .bl true := by
    simp only [G_law]
    refine run_p rfl ?_
    simp only [b_law, List.map_cons, List.map_nil, List.length_cons, List.length_nil, Nat.reduceAdd, Nat.reduceSub, List.replicate_succ, List.replicate_zero, List.cons_append, List.nil_append, Nat.zero_add, Nat.sub_self, List.append_nil]
    refine okP_seqT ?_
    have ml : 1 + min 20 ns.length ≤ 16777216 := by omega
    refine okP_forM (fun n => U.int n) (xs := 0 :: ns.take 20) (E1 := [.val (.scr ns), .un]) (B1 := []) (by have hs := gSlS_to (ns := ns) (j := 20) (b := 20) rfl; simp [hs, ml])
      (fun r E B' => ∃ s, E = [.val (.scr ns), s] ∧ Free s)
      ⟨.un, rfl, free_un⟩ ?_ ?_
    · rintro n q E B' ⟨s, rfl, fs⟩
      refine BdIs_of (E := [.val (.scr ns), .val (.int n)]) (by rcases fs with rfl | ⟨_, rfl⟩ <;> simp) (body_go ?_)
      obtain ⟨B2, e⟩ := right_at n B'
      simp only [lp_law_0]
      refine okP_iff (by simp [e] <;> first | exact ⟨rfl, rfl⟩ | rfl) ?_
      refine okP_lock fun LQ hLQ => ?_
      simp only [e_sNext, OkP_ok]
      refine hLQ _ _ _ ?_
      clear hLQ LQ
      exact loop_nx ⟨_, rfl, free_val⟩
    · rintro E B' ⟨s, rfl, fs⟩
      refine then_nx ?_
      refine okP_lock fun LQ hLQ => ?_
      simp
      refine hLQ _ _ _ ?_
      clear hLQ LQ
      exact ret_p rfl
  obtain ⟨u, B', e, rfl⟩ := key
  exact ⟨B', e⟩
end LawW
open PySem PySem.W PyProof.Rows
set_option maxRecDepth 100000 in
set_option maxHeartbeats 0 in
theorem PySem.Challenge.cw_quotedback_k45_texts_say_paths_holds : PySem.Challenge.rw_quotedback_k45_texts_say_paths.Holds := by
  w_on; o_law; k_head; (case hw => w_witness2)
  k_fill
  refine LawW.walk LawW.plain (l := PySem.Challenge.rw_quotedback_k45_texts_say_paths) rfl rfl (fun w h Y => PySem.W.kIn_of Y) ?F
  case F =>
    intro w mg fa h KX G hmg
    refine' LawW.all_mk KX G hmg ?a0 ?l0 ?c0 ?k0 ?a1 ?l1 ?c1 ?k1 ?a2 ?l2 ?c2 ?k2 ?a3 ?l3 ?c3 ?k3 ?a4 ?l4 ?c4 ?k4 ?a5 ?l5 ?c5 ?k5 ?a6 ?l6 ?c6 ?k6 ?a7 ?l7 ?c7 ?k7 ?a8 ?l8 ?c8 ?k8 ?a9 ?l9 ?c9 ?k9 ?a10 ?l10 ?c10 ?k10 ?a11 ?l11 ?c11 ?k11 ?a12 ?l12 ?c12 ?k12 ?a13 ?l13 ?c13 ?k13 ?a14 ?l14 ?c14 ?k14 ?a15 ?l15 ?c15 ?k15 ?a16 ?l16 ?c16 ?k16 ?a17 ?l17 ?c17 ?k17 ?a18 ?l18 ?c18 ?k18 ?a19 ?l19 ?c19 ?k19 ?a20 ?l20 ?c20 ?k20 ?a21 ?l21 ?c21 ?k21 ?a22 ?l22 ?c22 ?k22 ?a23 ?l23 ?c23 ?k23 ?a24 ?l24 ?c24 ?k24 ?a25 ?l25 ?c25 ?k25 ?a26 ?l26 ?c26 ?k26 ?a27 ?l27 ?c27 ?k27 ?a28 ?l28 ?c28 ?k28 ?a29 ?l29 ?c29 ?k29 ?a30 ?l30 ?c30 ?k30 ?a31 ?l31 ?c31 ?k31 ?a32 ?l32 ?c32 ?k32 ?a33 ?l33 ?c33 ?k33 ?a34 ?l34 ?c34 ?k34 ?a35 ?l35 ?c35 ?k35 ?a36 ?l36 ?c36 ?k36 ?a37 ?l37 ?c37 ?k37 ?a38 ?l38 ?c38 ?k38 ?a39 ?l39 ?c39 ?k39 ?a40 ?l40 ?c40 ?k40 ?a41 ?l41 ?c41 ?k41 ?a42 ?l42 ?c42 ?k42 ?a43 ?l43 ?c43 ?k43 ?a44 ?l44 ?c44 ?k44 ?a45 ?l45 ?c45 ?k45 ?a46 ?l46 ?c46 ?k46 ?a47 ?l47 ?c47 ?k47 ?a48 ?l48 ?c48 ?k48 ?a49 ?l49 ?c49 ?k49 ?a50 ?l50 ?c50 ?k50 ?a51 ?l51 ?c51 ?k51 ?a52 ?l52 ?c52 ?k52 ?q_KEY_WORDS ?q_DEED_NAMES ?q_TOOL_NAMES ?q_DESCRIPTORS ?v63 ?v62 ?v59 ?v56 ?v53 ?v50 ?v32 ?v16 ?z_all ?z_bool ?z_dict ?z_enumerate ?z_int ?z_isinstance ?z_len ?z_list ?z_range ?z_reversed ?z_sorted ?z_str ?z_tuple ?q_DIGITS ?q_LETTERS ?q_NAME_SIGNS ?q_BARE ?q_SIGNS ?q_TOP
    (case a0 => k_is)
    (case l0 => k_is)
    (case c0 => k_is)
    (case k0 => k_is)
    (case a1 => k_is)
    (case l1 => k_is)
    (case c1 => k_is)
    (case k1 => k_is)
    (case a2 => k_is)
    (case l2 => k_is)
    (case c2 => k_is)
    (case k2 => k_is)
    (case a3 => k_is)
    (case l3 => k_is)
    (case c3 => k_is)
    (case k3 => k_is)
    (case a4 => k_is)
    (case l4 => k_is)
    (case c4 => k_is)
    (case k4 => k_is)
    (case a5 => k_is)
    (case l5 => k_is)
    (case c5 => k_is)
    (case k5 => k_is)
    (case a6 => k_is)
    (case l6 => k_is)
    (case c6 => k_is)
    (case k6 => k_is)
    (case a7 => k_is)
    (case l7 => k_is)
    (case c7 => k_is)
    (case k7 => k_is)
    (case a8 => k_is)
    (case l8 => k_is)
    (case c8 => k_is)
    (case k8 => k_is)
    (case a9 => k_is)
    (case l9 => k_is)
    (case c9 => k_is)
    (case k9 => k_is)
    (case a10 => k_is)
    (case l10 => k_is)
    (case c10 => k_is)
    (case k10 => k_is)
    (case a11 => k_is)
    (case l11 => k_is)
    (case c11 => k_is)
    (case k11 => k_is)
    (case a12 => k_is)
    (case l12 => k_is)
    (case c12 => k_is)
    (case k12 => k_is)
    (case a13 => k_is)
    (case l13 => k_is)
    (case c13 => k_is)
    (case k13 => k_is)
    (case a14 => k_is)
    (case l14 => k_is)
    (case c14 => k_is)
    (case k14 => k_is)
    (case a15 => k_is)
    (case l15 => k_is)
    (case c15 => k_is)
    (case k15 => k_is)
    (case a16 => k_is)
    (case l16 => k_is)
    (case c16 => k_is)
    (case k16 => k_is)
    (case a17 => k_is)
    (case l17 => k_is)
    (case c17 => k_is)
    (case k17 => k_is)
    (case a18 => k_is)
    (case l18 => k_is)
    (case c18 => k_is)
    (case k18 => k_is)
    (case a19 => k_is)
    (case l19 => k_is)
    (case c19 => k_is)
    (case k19 => k_is)
    (case a20 => k_is)
    (case l20 => k_is)
    (case c20 => k_is)
    (case k20 => k_is)
    (case a21 => k_is)
    (case l21 => k_is)
    (case c21 => k_is)
    (case k21 => k_is)
    (case a22 => k_is)
    (case l22 => k_is)
    (case c22 => k_is)
    (case k22 => k_is)
    (case a23 => k_is)
    (case l23 => k_is)
    (case c23 => k_is)
    (case k23 => k_is)
    (case a24 => k_is)
    (case l24 => k_is)
    (case c24 => k_is)
    (case k24 => k_is)
    (case a25 => k_is)
    (case l25 => k_is)
    (case c25 => k_is)
    (case k25 => k_is)
    (case a26 => k_is)
    (case l26 => k_is)
    (case c26 => k_is)
    (case k26 => k_is)
    (case a27 => k_is)
    (case l27 => k_is)
    (case c27 => k_is)
    (case k27 => k_is)
    (case a28 => k_is)
    (case l28 => k_is)
    (case c28 => k_is)
    (case k28 => k_is)
    (case a29 => k_is)
    (case l29 => k_is)
    (case c29 => k_is)
    (case k29 => k_is)
    (case a30 => k_is)
    (case l30 => k_is)
    (case c30 => k_is)
    (case k30 => k_is)
    (case a31 => k_is)
    (case l31 => k_is)
    (case c31 => k_is)
    (case k31 => k_is)
    (case a32 => k_is)
    (case l32 => k_is)
    (case c32 => k_is)
    (case k32 => k_is)
    (case a33 => k_is)
    (case l33 => k_is)
    (case c33 => k_is)
    (case k33 => k_is)
    (case a34 => k_is)
    (case l34 => k_is)
    (case c34 => k_is)
    (case k34 => k_is)
    (case a35 => k_is)
    (case l35 => k_is)
    (case c35 => k_is)
    (case k35 => k_is)
    (case a36 => k_is)
    (case l36 => k_is)
    (case c36 => k_is)
    (case k36 => k_is)
    (case a37 => k_is)
    (case l37 => k_is)
    (case c37 => k_is)
    (case k37 => k_is)
    (case a38 => k_is)
    (case l38 => k_is)
    (case c38 => k_is)
    (case k38 => k_is)
    (case a39 => k_is)
    (case l39 => k_is)
    (case c39 => k_is)
    (case k39 => k_is)
    (case a40 => k_is)
    (case l40 => k_is)
    (case c40 => k_is)
    (case k40 => k_is)
    (case a41 => k_is)
    (case l41 => k_is)
    (case c41 => k_is)
    (case k41 => k_is)
    (case a42 => k_is)
    (case l42 => k_is)
    (case c42 => k_is)
    (case k42 => k_is)
    (case a43 => k_is)
    (case l43 => k_is)
    (case c43 => k_is)
    (case k43 => k_is)
    (case a44 => k_is)
    (case l44 => k_is)
    (case c44 => k_is)
    (case k44 => k_is)
    (case a45 => k_is)
    (case l45 => k_is)
    (case c45 => k_is)
    (case k45 => k_is)
    (case a46 => k_is)
    (case l46 => k_is)
    (case c46 => k_is)
    (case k46 => k_is)
    (case a47 => k_is)
    (case l47 => k_is)
    (case c47 => k_is)
    (case k47 => k_is)
    (case a48 => k_is)
    (case l48 => k_is)
    (case c48 => k_is)
    (case k48 => k_is)
    (case a49 => k_is)
    (case l49 => k_is)
    (case c49 => k_is)
    (case k49 => k_is)
    (case a50 => k_is)
    (case l50 => k_is)
    (case c50 => k_is)
    (case k50 => k_is)
    (case a51 => k_is)
    (case l51 => k_is)
    (case c51 => k_is)
    (case k51 => k_is)
    (case a52 => k_is)
    (case l52 => k_is)
    (case c52 => k_is)
    (case k52 => k_is)
    (case q_KEY_WORDS => k_is)
    (case q_DEED_NAMES => k_is)
    (case q_TOOL_NAMES => k_is)
    (case q_DESCRIPTORS => k_is)
    (case v63 => k_is)
    (case v62 => k_is)
    (case v59 => k_is)
    (case v56 => k_is)
    (case v53 => k_is)
    (case v50 => k_is)
    (case v32 => k_is)
    (case v16 => k_is)
    (case z_all => k_is)
    (case z_bool => k_is)
    (case z_dict => k_is)
    (case z_enumerate => k_is)
    (case z_int => k_is)
    (case z_isinstance => k_is)
    (case z_len => k_is)
    (case z_list => k_is)
    (case z_range => k_is)
    (case z_reversed => k_is)
    (case z_sorted => k_is)
    (case z_str => k_is)
    (case z_tuple => k_is)
    (case q_DIGITS => k_is)
    (case q_LETTERS => k_is)
    (case q_NAME_SIGNS => k_is)
    (case q_BARE => k_is)
    (case q_SIGNS => k_is)
    (case q_TOP => k_is)
#print axioms PySem.Challenge.cw_quotedback_k45_texts_say_paths_holds
