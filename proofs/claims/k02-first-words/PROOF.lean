import PyProof.Rows.All
import Wide.All
import OpenK.AllK
import Wide.FinOn
import HandS.ForMost
import HandS.Walk
import HandS.Wide
import HandS.IsInst
import HandS.Style
import HandS.StrMore
import HandS.TupAny
import HandS.TupLe
import HandS.Flow
import HandS.Iter
import KE.GoesEnumKw
import HandS.SortKw
import HandS.SetFor
import HandS.Strs
import HandS.SortInts
import PyProof.RulesMatch
import PySem.Challenge.RW_quotedback_k02_first_words
set_option Elab.async false
set_option linter.all false
set_option maxRecDepth 100000
set_option maxHeartbeats 4000000
/-! QbA: values as trees, boxes, own slots; what stands in the abstract heap for them. -/
namespace QB
open PySem L2

/-- a value: a tree (never changed any more), or a box (a shared thing that may change) -/
inductive U where
  | non | bl (b : Bool) | int (i : Int) | str (x : Str)
  | lst (xs : List U) | tup (xs : List U) | dct (ks : List Key) (vs : List U) | box (i : Nat)
  /-- the script itself: read, never written -/
  | scr (ns : List Int)
  deriving Inhabited
/-- what stands in a box, in a slot of one's own -/
inductive Cell where
  | dead | lst (xs : List U) | dct (ks : List Key) (vs : List U)
def Cell.live : Cell → Bool
  | .dead => false
  | _ => true
def Cell.toU : Cell → U
  | .dead => .non
  | .lst xs => .lst xs
  | .dct ks vs => .dct ks vs
inductive Sl where
  | un | val (u : U) | own (c : Cell)
/-- an expression's result: a value, the slot i, a new thing that nobody else holds -/
inductive R where
  | w (u : U) | s (i : Nat) | fr (c : Cell)
structure Exn where
  cls : String
  val : U
abbrev En := List Sl
abbrev Bx := List Cell
inductive O (α : Type) where
  | ok (a : α) (E : En) (B : Bx) | ex (c : Exn) (E : En) (B : Bx) | bad
inductive Fo where
  | ok (u : U) (B : Bx) | ex (c : Exn) (B : Bx) | bad
abbrev Fn := List U → Bx → Fo

/-! ### what stands for a value -/
def KL (K : PySem.W.Frag) (a : Addr) (xs : List V) : Prop :=
  ∃ (o : Obj) (its : Array Value) (n : Nat), K.lookup a = some o ∧ o.cls = .type "list" ∧ o.dict = none ∧ o.data = .seq its n ∧ its.size ≤ sizeLine ∧ Vals xs its.toList
def KT (K : PySem.W.Frag) (a : Addr) (xs : List V) : Prop :=
  ∃ (o : Obj) (its : Array Value) (n : Nat), K.lookup a = some o ∧ o.cls = .type "tuple" ∧ o.data = .seq its n ∧ its.size ≤ sizeLine ∧ Vals xs its.toList
abbrev AS := Addr → Prop
mutual
def Rep (K : PySem.W.Frag) (H : Hp) (Lv : AS) (ρ : List Addr) : U → V → Prop
  | .non, v => v = .non
  | .bl b, v => v = .bl b
  | .int i, v => v = .int i
  | .str x, v => v = .str x
  | .lst us, v => ∃ p vs, v = .ref p ∧ (H p = some (.lst vs) ∧ ¬ Lv p) ∧ Reps K H Lv ρ us vs
  | .tup us, v => ∃ p vs, v = .ref p ∧ ((Rd H p (.tup vs) ∧ ¬ Lv p) ∨ KT K p vs) ∧ Reps K H Lv ρ us vs
  | .dct ks us, v => ∃ p kvs, v = .ref p ∧ H p = some (.dK kvs) ∧ ¬ Lv p ∧ kvs.map (·.1) = ks ∧ Reps K H Lv ρ us (kvs.map (·.2))
  | .box i, v => ∃ p, ρ[i]? = some p ∧ v = .ref p
  | .scr ns, v => ∃ p, v = .ref p ∧ ((Rd H p (.lst (ns.map V.int)) ∧ ¬ Lv p) ∨ KL K p (ns.map V.int))
def Reps (K : PySem.W.Frag) (H : Hp) (Lv : AS) (ρ : List Addr) : List U → List V → Prop
  | [], vs => vs = []
  | u :: us, vs => ∃ v r, vs = v :: r ∧ Rep K H Lv ρ u v ∧ Reps K H Lv ρ us r
end
/-- what is not live stands, and is not live -/
def Stp (H : Hp) (Lv : AS) (H' : Hp) (Lv' : AS) : Prop := ∀ q o, H q = some o → ¬ Lv q → H' q = some o ∧ ¬ Lv' q
section
variable {K : PySem.W.Frag} {H H' H2 : Hp} {Lv Lv' Lv2 : AS} {ρ ρ' : List Addr}
theorem Stp.refl : Stp H Lv H Lv := fun _ _ h n => ⟨h, n⟩
theorem Stp.trans (a : Stp H Lv H' Lv') (b : Stp H' Lv' H2 Lv2) : Stp H Lv H2 Lv2 := fun q o h n => b q o (a q o h n).1 (a q o h n).2
theorem Stp.less (h : ∀ q, Lv' q → Lv q) : Stp H Lv H Lv' := fun q _ e n => ⟨e, fun z => n (h q z)⟩
theorem Stp.rd (s : Stp H Lv H' Lv') {p : Addr} {u : HO} (r : Rd H p u) (n : ¬ Lv p) : Rd H' p u ∧ ¬ Lv' p := by
  rcases r with r | ⟨o, r⟩
  · exact ⟨.inl (s p _ r n).1, (s p _ r n).2⟩
  · exact ⟨.inr ⟨o, (s p _ r n).1⟩, (s p _ r n).2⟩
theorem px_get {i : Nat} {p : Addr} (e : ρ <+: ρ') (h : ρ[i]? = some p) : ρ'[i]? = some p := by
  obtain ⟨t, rfl⟩ := e
  rw [List.getElem?_append_left (List.getElem?_eq_some_iff.mp h).1]
  exact h
mutual
theorem Rep.mono (s : Stp H Lv H' Lv') (e : ρ <+: ρ') : ∀ (u : U) (v : V), Rep K H Lv ρ u v → Rep K H' Lv' ρ' u v
  | .non, _, h => by simpa [Rep] using h
  | .bl _, _, h => by simpa [Rep] using h
  | .int _, _, h => by simpa [Rep] using h
  | .str _, _, h => by simpa [Rep] using h
  | .lst us, v, h => by
    simp only [Rep] at h ⊢
    obtain ⟨p, vs, rfl, h1, h2⟩ := h
    exact ⟨p, vs, rfl, s p _ h1.1 h1.2, Reps.mono s e us vs h2⟩
  | .tup us, v, h => by
    simp only [Rep] at h ⊢
    obtain ⟨p, vs, rfl, h1, h2⟩ := h
    refine ⟨p, vs, rfl, ?_, Reps.mono s e us vs h2⟩
    rcases h1 with h1 | h1
    · exact .inl (s.rd h1.1 h1.2)
    · exact .inr h1
  | .dct ks us, v, h => by
    simp only [Rep] at h ⊢
    obtain ⟨p, kvs, rfl, h1, h2, h3, h4⟩ := h
    exact ⟨p, kvs, rfl, (s p _ h1 h2).1, (s p _ h1 h2).2, h3, Reps.mono s e us _ h4⟩
  | .box i, v, h => by
    simp only [Rep] at h ⊢
    obtain ⟨p, h1, h2⟩ := h
    exact ⟨p, px_get e h1, h2⟩
  | .scr ns, v, h => by
    simp only [Rep] at h ⊢
    obtain ⟨p, h1, h2⟩ := h
    refine ⟨p, h1, ?_⟩
    rcases h2 with h2 | h2
    · exact .inl (s.rd h2.1 h2.2)
    · exact .inr h2
theorem Reps.mono (s : Stp H Lv H' Lv') (e : ρ <+: ρ') : ∀ (us : List U) (vs : List V), Reps K H Lv ρ us vs → Reps K H' Lv' ρ' us vs
  | [], _, h => by simpa [Reps] using h
  | u :: us, vs, h => by
    simp only [Reps] at h ⊢
    obtain ⟨v, r, rfl, h1, h2⟩ := h
    exact ⟨v, r, rfl, Rep.mono s e u v h1, Reps.mono s e us r h2⟩
end
theorem Reps.len : ∀ {us : List U} {vs : List V}, Reps K H Lv ρ us vs → us.length = vs.length
  | [], vs, h => by simp only [Reps] at h; subst h; rfl
  | u :: us, vs, h => by
    simp only [Reps] at h
    obtain ⟨v, r, rfl, _, h2⟩ := h
    simp [Reps.len h2]
theorem Reps.get : ∀ {us : List U} {vs : List V} {i : Nat} {u : U}, Reps K H Lv ρ us vs → us[i]? = some u → ∃ v, vs[i]? = some v ∧ Rep K H Lv ρ u v
  | [], vs, i, u, h, e => by simp at e
  | u' :: us, vs, i, u, h, e => by
    simp only [Reps] at h
    obtain ⟨v, r, rfl, h1, h2⟩ := h
    cases i with
    | zero => simp at e; subst e; exact ⟨v, by simp, h1⟩
    | succ i => simpa using Reps.get h2 (by simpa using e)
theorem Reps.getV : ∀ {us : List U} {vs : List V} {i : Nat} {v : V}, Reps K H Lv ρ us vs → vs[i]? = some v → ∃ u, us[i]? = some u ∧ Rep K H Lv ρ u v
  | [], vs, i, v, h, e => by simp only [Reps] at h; subst h; simp at e
  | u' :: us, vs, i, v, h, e => by
    simp only [Reps] at h
    obtain ⟨v', r, rfl, h1, h2⟩ := h
    cases i with
    | zero => simp at e; subst e; exact ⟨u', by simp, h1⟩
    | succ i => simpa using Reps.getV h2 (by simpa using e)
theorem Reps.set : ∀ {us : List U} {vs : List V} {u : U} {v : V} (i : Nat), Reps K H Lv ρ us vs → Rep K H Lv ρ u v → Reps K H Lv ρ (us.set i u) (vs.set i v)
  | [], vs, u, v, i, h, r => by simp only [Reps] at h; subst h; simp [Reps]
  | u' :: us, vs, u, v, i, h, r => by
    simp only [Reps] at h
    obtain ⟨v', t, rfl, h1, h2⟩ := h
    cases i with
    | zero => simp only [List.set_cons_zero, Reps]; exact ⟨v, t, rfl, r, h2⟩
    | succ i => simp only [List.set_cons_succ, Reps]; exact ⟨v', _, rfl, h1, Reps.set i h2 r⟩
theorem Reps.append : ∀ {us us' : List U} {vs vs' : List V}, Reps K H Lv ρ us vs → Reps K H Lv ρ us' vs' → Reps K H Lv ρ (us ++ us') (vs ++ vs')
  | [], _, vs, _, h, r => by simp only [Reps] at h; subst h; exact r
  | u' :: us, us', vs, vs', h, r => by
    simp only [Reps] at h
    obtain ⟨v', t, rfl, h1, h2⟩ := h
    simp only [List.cons_append, Reps]
    exact ⟨v', _, rfl, h1, Reps.append h2 r⟩
theorem Reps.take : ∀ {us : List U} {vs : List V} (n : Nat), Reps K H Lv ρ us vs → Reps K H Lv ρ (us.take n) (vs.take n)
  | [], vs, n, h => by simp only [Reps] at h; subst h; simp [Reps]
  | u' :: us, vs, n, h => by
    simp only [Reps] at h
    obtain ⟨v', t, rfl, h1, h2⟩ := h
    cases n with
    | zero => simp [Reps]
    | succ n => simp only [List.take_succ_cons, Reps]; exact ⟨v', _, rfl, h1, Reps.take n h2⟩
theorem Reps.drop : ∀ {us : List U} {vs : List V} (n : Nat), Reps K H Lv ρ us vs → Reps K H Lv ρ (us.drop n) (vs.drop n)
  | [], vs, n, h => by simp only [Reps] at h; subst h; simp [Reps]
  | u' :: us, vs, n, h => by
    cases n with
    | zero => simpa using h
    | succ n =>
      simp only [Reps] at h
      obtain ⟨v', t, rfl, h1, h2⟩ := h
      simpa using Reps.drop n h2
theorem Reps.one {u : U} {v : V} (h : Rep K H Lv ρ u v) : Reps K H Lv ρ [u] [v] := by simp only [Reps]; exact ⟨v, [], rfl, h, rfl⟩
theorem Reps.nil : Reps K H Lv ρ [] [] := by simp [Reps]
theorem Reps.cons {u : U} {v : V} {us : List U} {vs : List V} (h : Rep K H Lv ρ u v) (r : Reps K H Lv ρ us vs) : Reps K H Lv ρ (u :: us) (v :: vs) := by simp only [Reps]; exact ⟨v, vs, rfl, h, r⟩
theorem Reps.reverse : ∀ {us : List U} {vs : List V}, Reps K H Lv ρ us vs → Reps K H Lv ρ us.reverse vs.reverse
  | [], vs, h => by simp only [Reps] at h; subst h; simp [Reps]
  | u' :: us, vs, h => by
    simp only [Reps] at h
    obtain ⟨v', t, rfl, h1, h2⟩ := h
    simp only [List.reverse_cons]
    exact (Reps.reverse h2).append (Reps.one h1)

/-! ### cells -/
def CellOk (K : PySem.W.Frag) (H : Hp) (Lv : AS) (ρ : List Addr) : Cell → Addr → Prop
  | .dead, _ => True
  | .lst us, p => ∃ vs, H p = some (.lst vs) ∧ Reps K H Lv ρ us vs
  | .dct ks us, p => ∃ kvs, H p = some (.dK kvs) ∧ kvs.map (·.1) = ks ∧ Reps K H Lv ρ us (kvs.map (·.2))
theorem CellOk.mono {c : Cell} {p : Addr} (s : Stp H Lv H' Lv') (e : ρ <+: ρ') (same : H' p = H p) (h : CellOk K H Lv ρ c p) : CellOk K H' Lv' ρ' c p := by
  cases c with
  | dead => trivial
  | lst us => obtain ⟨vs, h1, h2⟩ := h; exact ⟨vs, by rw [same]; exact h1, h2.mono s e⟩
  | dct ks us => obtain ⟨kvs, h1, h2, h3⟩ := h; exact ⟨kvs, by rw [same]; exact h1, h2, h3.mono s e⟩
theorem CellOk.there {c : Cell} {p : Addr} (hl : c.live = true) (h : CellOk K H Lv ρ c p) : ∃ o, H p = some o := by
  cases c with
  | dead => cases hl
  | lst us => obtain ⟨vs, h1, _⟩ := h; exact ⟨_, h1⟩
  | dct ks us => obtain ⟨vs, h1, _⟩ := h; exact ⟨_, h1⟩
/-- a live thing comes to rest -/
theorem CellOk.rep {c : Cell} {p : Addr} (hl : c.live = true) (n : ¬ Lv p) (h : CellOk K H Lv ρ c p) : Rep K H Lv ρ c.toU (.ref p) := by
  cases c with
  | dead => cases hl
  | lst us => obtain ⟨vs, h1, h2⟩ := h; simp only [Cell.toU, Rep]; exact ⟨p, vs, rfl, ⟨h1, n⟩, h2⟩
  | dct ks us => obtain ⟨kvs, h1, h2, h3⟩ := h; simp only [Cell.toU, Rep]; exact ⟨p, kvs, rfl, h1, n, h2, h3⟩
end

/-! ### the state -/
structure Fm where
  Out : AS
  H0 : Hp
  Lv0 : AS
def BLv (ρ : List Addr) (B : Bx) : AS := fun q => ∃ (i : Nat) (c : Cell), B[i]? = some c ∧ c.live = true ∧ ρ[i]? = some q
def SLv (E : En) (σ : L2.St) : AS := fun q => ∃ (i : Nat) (c : Cell), E[i]? = some (.own c) ∧ σ[i]? = some (some (.ref q))
def LvF (F : Fm) (ρ : List Addr) (E : En) (B : Bx) (σ : L2.St) : AS := fun q => F.Out q ∨ BLv ρ B q ∨ SLv E σ q
structure Rel (K : PySem.W.Frag) (F : Fm) (ρ : List Addr) (E : En) (B : Bx) (σ : L2.St) (H : Hp) : Prop where
  elen : E.length = σ.length
  blen : ρ.length = B.length
  val : ∀ (i : Nat) (u : U), E[i]? = some (.val u) → ∃ v, σ[i]? = some (some v) ∧ Rep K H (LvF F ρ E B σ) ρ u v
  own : ∀ (i : Nat) (c : Cell), E[i]? = some (.own c) → c.live = true ∧ ∃ p, σ[i]? = some (some (.ref p)) ∧ CellOk K H (LvF F ρ E B σ) ρ c p ∧ ¬ F.Out p ∧ ¬ BLv ρ B p
  oinj : ∀ (i j : Nat) (c d : Cell) (p : Addr), E[i]? = some (.own c) → E[j]? = some (.own d) → σ[i]? = some (some (.ref p)) → σ[j]? = some (some (.ref p)) → i = j
  box : ∀ (i : Nat) (c : Cell) (p : Addr), B[i]? = some c → c.live = true → ρ[i]? = some p → CellOk K H (LvF F ρ E B σ) ρ c p ∧ ¬ F.Out p
  binj : ∀ (i j : Nat) (c d : Cell) (p : Addr), B[i]? = some c → c.live = true → B[j]? = some d → d.live = true → ρ[i]? = some p → ρ[j]? = some p → i = j
  out : ∀ q, F.Out q → H q = F.H0 q ∧ ∃ o, F.H0 q = some o
  old : Stp F.H0 F.Lv0 H (LvF F ρ E B σ)
  grow : ∀ q o, F.H0 q = some o → ∃ o', H q = some o'
def Fm.add (F : Fm) (p : Addr) (o : Option HO) : Fm := ⟨fun q => F.Out q ∨ q = p, fun q => if q = p then o else F.H0 q, fun q => F.Lv0 q ∨ q = p⟩
/-- p is new to F -/
structure New (F : Fm) (p : Addr) : Prop where
  out : ¬ F.Out p
  h0 : F.H0 p = none
section
variable {K : PySem.W.Frag} {F : Fm} {ρ ρ' : List Addr} {E E' : En} {B B' : Bx} {σ : L2.St} {H H' : Hp} {p : Addr} {o : Option HO}
theorem Rel.lv_there (r : Rel K F ρ E B σ H) : ∀ q, LvF F ρ E B σ q → ∃ o, H q = some o := by
  intro q h
  rcases h with h | ⟨i, c, h1, h2, h3⟩ | ⟨i, c, h1, h2⟩
  · obtain ⟨e, o, ho⟩ := r.out q h
    exact ⟨o, by rw [e]; exact ho⟩
  · exact (r.box i c q h1 h2 h3).1.there h2
  · obtain ⟨hl, p, h3, h4, _⟩ := r.own i c h1
    rw [h3] at h2
    have e : p = q := by simpa using h2
    subst e
    exact h4.there hl
/-- the heap grew -/
theorem grow_stp (r : Rel K F ρ E B σ H) (g : ∀ q o, H q = some o → H' q = some o) : Stp H (LvF F ρ E B σ) H' (LvF F ρ E B σ) := fun q o h n => ⟨g q o h, n⟩
theorem Rel.growH (r : Rel K F ρ E B σ H) (g : ∀ q o, H q = some o → H' q = some o) : Rel K F ρ E B σ H' := by
  have s := grow_stp r g
  have px : ρ <+: ρ := List.prefix_refl _
  have eqv : ∀ q, LvF F ρ E B σ q → H' q = H q := fun q h => by
    obtain ⟨o, ho⟩ := r.lv_there q h
    rw [ho, g q o ho]
  refine ⟨r.elen, r.blen, fun i u h => ?_, fun i c h => ?_, r.oinj, fun i c q h1 h2 h3 => ?_, r.binj, fun q h => ?_, r.old.trans s, fun q o h => ?_⟩
  · obtain ⟨v, h1, h2⟩ := r.val i u h
    exact ⟨v, h1, h2.mono s px⟩
  · obtain ⟨h1, q, h2, h3, h4⟩ := r.own i c h
    exact ⟨h1, q, h2, h3.mono s px (eqv q (.inr (.inr ⟨i, c, h, h2⟩))), h4⟩
  · obtain ⟨h4, h5⟩ := r.box i c q h1 h2 h3
    exact ⟨h4.mono s px (eqv q (.inr (.inl ⟨i, c, h1, h2, h3⟩))), h5⟩
  · obtain ⟨h1, o, h2⟩ := r.out q h
    exact ⟨by rw [eqv q (.inl h)]; exact h1, o, h2⟩
  · obtain ⟨o', h1⟩ := r.grow q o h
    exact ⟨o', g q o' h1⟩
/-- the live set is changed, what is live stands as it is -/
theorem Rel.lv {F' : Fm} (r : Rel K F ρ E B σ H) (hl : ∀ q o, H q = some o → ¬ LvF F ρ E B σ q → ¬ LvF F' ρ E B σ q)
    (ho : ∀ q, F'.Out q → H q = F'.H0 q ∧ ∃ o, F'.H0 q = some o) (hb : ∀ q, BLv ρ B q → ¬ F'.Out q) (hs : ∀ q, SLv E σ q → ¬ F'.Out q) (old : Stp F'.H0 F'.Lv0 H (LvF F' ρ E B σ)) (grow : ∀ q o, F'.H0 q = some o → ∃ o', H q = some o') : Rel K F' ρ E B σ H := by
  have s : Stp H (LvF F ρ E B σ) H (LvF F' ρ E B σ) := fun q o h n => ⟨h, hl q o h n⟩
  have px : ρ <+: ρ := List.prefix_refl _
  refine ⟨r.elen, r.blen, fun i u h => ?_, fun i c h => ?_, r.oinj, fun i c q h1 h2 h3 => ?_, r.binj, ho, old, grow⟩
  · obtain ⟨v, h1, h2⟩ := r.val i u h
    exact ⟨v, h1, h2.mono s px⟩
  · obtain ⟨h1, q, h2, h3, h4, h5⟩ := r.own i c h
    exact ⟨h1, q, h2, h3.mono s px rfl, hs q ⟨i, c, h, h2⟩, h5⟩
  · obtain ⟨h4, h5⟩ := r.box i c q h1 h2 h3
    exact ⟨h4.mono s px rfl, hb q ⟨i, c, h1, h2, h3⟩⟩
theorem LvF.add_iff {q : Addr} : LvF (F.add p o) ρ E B σ q ↔ LvF F ρ E B σ q ∨ q = p := by
  unfold LvF Fm.add
  constructor
  · rintro ((h | h) | h | h)
    · exact .inl (.inl h)
    · exact .inr h
    · exact .inl (.inr (.inl h))
    · exact .inl (.inr (.inr h))
  · rintro ((h | h | h) | h)
    · exact .inl (.inl h)
    · exact .inr (.inl h)
    · exact .inr (.inr h)
    · exact .inl (.inr h)
/-- the new thing at p is forgotten: it rests -/
theorem Rel.drop (r : Rel K (F.add p o) ρ E B σ H) (n : New F p) : Rel K F ρ E B σ H := by
  refine r.lv (fun q u h z y => z (LvF.add_iff.mpr (.inl y))) (fun q h => ?_) (fun q ⟨i, c, h1, h2, h3⟩ z => (r.box i c q h1 h2 h3).2 (.inl z)) (fun q ⟨i, c, h1, h2⟩ z => ?_) (fun q u h z => ?_) (fun q u h => ?_)
  · have e := r.out q (.inl h)
    have ne : q ≠ p := fun z => n.out (z ▸ h)
    simpa [Fm.add, ne] using e
  · obtain ⟨_, p', h3, _, h4, _⟩ := r.own i c h1
    rw [h3] at h2
    have e : p' = q := by simpa using h2
    subst e
    exact h4 (.inl z)
  · have ne : q ≠ p := fun y => by rw [y, n.h0] at h; cases h
    have := r.old q u (by simp [Fm.add, ne, h]) (fun y => y.elim z ne)
    exact ⟨this.1, fun y => this.2 (LvF.add_iff.mpr (.inl y))⟩
  · have ne : q ≠ p := fun y => by rw [y, n.h0] at h; cases h
    exact r.grow q u (by simp [Fm.add, ne, h])
theorem Rel.notLv (r : Rel K (F.add p o) ρ E B σ H) (n : New F p) : ¬ LvF F ρ E B σ p := by
  rintro (h | ⟨i, c, h1, h2, h3⟩ | ⟨i, c, h1, h2⟩)
  · exact n.out h
  · exact (r.box i c p h1 h2 h3).2 (.inr rfl)
  · obtain ⟨_, p', h3, _, h4, _⟩ := r.own i c h1
    rw [h3] at h2
    have e : p' = p := by simpa using h2
    subst e
    exact h4 (.inr rfl)
theorem Rel.new (r : Rel K F ρ E B σ H) (hp : H p = none) : New F p := by
  refine ⟨fun z => ?_, ?_⟩
  · obtain ⟨e, o, h⟩ := r.out p z
    rw [e, h] at hp; cases hp
  · cases h : F.H0 p with
    | none => rfl
    | some o =>
      obtain ⟨o', h'⟩ := r.grow p o h
      rw [h'] at hp; cases hp
/-- a new thing is laid at p -/
theorem Rel.alloc {ob : HO} (r : Rel K F ρ E B σ H) (hp : H p = none) : Rel K (F.add p (some ob)) ρ E B σ (upd H p ob) := by
  have g : ∀ q o, H q = some o → (upd H p ob) q = some o := fun q o h => by rw [upd_ne (ne_of_none h hp)]; exact h
  have r' := r.growH g
  have nl : ¬ LvF F ρ E B σ p := fun z => by obtain ⟨o, h⟩ := r.lv_there p z; rw [hp] at h; cases h
  have nw := r.new hp
  have key : ∀ q, LvF F ρ E B σ q → q ≠ p := fun q h e => nl (e ▸ h)
  have s : ∀ q o, H q = some o → ¬ LvF F ρ E B σ q → ¬ LvF (F.add p (some ob)) ρ E B σ q := fun q o h n z => by
    rcases LvF.add_iff.mp z with z | z
    · exact n z
    · subst z; rw [hp] at h; cases h
  have stp : Stp H (LvF F ρ E B σ) (upd H p ob) (LvF (F.add p (some ob)) ρ E B σ) := fun q o h n => ⟨g q o h, s q o h n⟩
  have px : ρ <+: ρ := List.prefix_refl _
  have same : ∀ q, LvF F ρ E B σ q → (upd H p ob) q = H q := fun q h => upd_ne (key q h)
  refine ⟨r.elen, r.blen, fun i u h => ?_, fun i c h => ?_, r.oinj, fun i c q h1 h2 h3 => ?_, r.binj, fun q h => ?_, fun q u h z => ?_, fun q u h => ?_⟩
  · obtain ⟨v, h1, h2⟩ := r.val i u h
    exact ⟨v, h1, h2.mono stp px⟩
  · obtain ⟨h1, q, h2, h3, h4, h5⟩ := r.own i c h
    have lq : LvF F ρ E B σ q := .inr (.inr ⟨i, c, h, h2⟩)
    exact ⟨h1, q, h2, h3.mono stp px (same q lq), fun z => z.elim h4 (key q lq), h5⟩
  · obtain ⟨h4, h5⟩ := r.box i c q h1 h2 h3
    have lq : LvF F ρ E B σ q := .inr (.inl ⟨i, c, h1, h2, h3⟩)
    exact ⟨h4.mono stp px (same q lq), fun z => z.elim h5 (key q lq)⟩
  · rcases h with h | h
    · have ne : q ≠ p := fun z => nw.out (z ▸ h)
      obtain ⟨e, o, ho⟩ := r.out q h
      refine ⟨?_, o, by simp [Fm.add, ne, ho]⟩
      rw [upd_ne ne, e]; simp [Fm.add, ne]
    · subst h
      exact ⟨by rw [upd_same]; simp [Fm.add], ob, by simp [Fm.add]⟩
  · have ne : q ≠ p := fun y => z (.inr y)
    have h' : F.H0 q = some u := by simpa [Fm.add, ne] using h
    obtain ⟨h1, h2⟩ := r.old q u h' (fun y => z (.inl y))
    exact stp q u h1 h2
  · by_cases e : q = p
    · subst e; exact ⟨ob, upd_same⟩
    · have h' : F.H0 q = some u := by simpa [Fm.add, e] using h
      obtain ⟨o', h1⟩ := r.grow q u h'
      exact ⟨o', g q o' h1⟩
end
end QB
/-! QbB: the judgements, results that come to rest, views. -/
namespace QB
open PySem L2

def Fm.addR (F : Fm) (H : Hp) : R → V → Fm
  | .fr _, .ref p => F.add p (H p)
  | _, _ => F
def IsSet (E : En) (i : Nat) : Prop := (∃ u, E[i]? = some (Sl.val u)) ∨ ∃ c, E[i]? = some (Sl.own c)
def EnLe (E E' : En) : Prop := ∀ i, IsSet E i → IsSet E' i
theorem EnLe.refl {E : En} : EnLe E E := fun _ h => h
theorem EnLe.trans {E E' E2 : En} (a : EnLe E E') (b : EnLe E' E2) : EnLe E E2 := fun i h => b i (a i h)
def RepR (K : PySem.W.Frag) (F : Fm) (H : Hp) (Lv : AS) (ρ : List Addr) (E : En) (σ : L2.St) : R → V → Prop
  | .w u, v => Rep K H Lv ρ u v
  | .s i, v => σ[i]? = some (some v) ∧ IsSet E i
  | .fr c, v => ∃ p, v = .ref p ∧ c.live = true ∧ CellOk K H Lv ρ c p ∧ New F p
structure Aft (K : PySem.W.Frag) (F : Fm) (ρ : List Addr) (E : En) (B : Bx) (σ : L2.St) (H : Hp) (r : R) (ρ' : List Addr) (E' : En) (B' : Bx) (H' : Hp) (v : V) : Prop where
  px : ρ <+: ρ'
  rel : Rel K (F.addR H' r v) ρ' E' B' σ H'
  stp : Stp H (LvF F ρ E B σ) H' (LvF (F.addR H' r v) ρ' E' B' σ)
  le : EnLe E E'
  rep : RepR K F H' (LvF (F.addR H' r v) ρ' E' B' σ) ρ' E' σ r v
structure AftT (K : PySem.W.Frag) (F : Fm) (ρ : List Addr) (E : En) (B : Bx) (σ : L2.St) (H : Hp) (ρ' : List Addr) (E' : En) (B' : Bx) (H' : Hp) : Prop where
  px : ρ <+: ρ'
  rel : Rel K F ρ' E' B' σ H'
  stp : Stp H (LvF F ρ E B σ) H' (LvF F ρ' E' B' σ)
  le : EnLe E E'
def PostE (K : PySem.W.Frag) (F : Fm) (ρ : List Addr) (E : En) (B : Bx) (σ : L2.St) (H : Hp) : O R → VK → Prop
  | .ok r E' B', Q => ∀ ρ' H' v, Aft K F ρ E B σ H r ρ' E' B' H' v → Q v H'
  | _, _ => False
def PostT (K : PySem.W.Frag) (F : Fm) (ρ : List Addr) (E : En) (B : Bx) (σ : L2.St) (H : Hp) : O Bool → (Bool → Hp → Prop) → Prop
  | .ok b E' B', Q => ∀ ρ' H', AftT K F ρ E B σ H ρ' E' B' H' → Q b H'
  | _, _ => False
abbrev Ex := En → Bx → O R
abbrev Te := En → Bx → O Bool
def SndE (X : Cx) (e : Expr) (f : Ex) : Prop := ∃ t : TE, PE X e t ∧ ∀ F ρ E B σ H Q, Rel X.K F ρ E B σ H → PostE X.K F ρ E B σ H (f E B) Q → t σ H Q
def SndT (X : Cx) (e : Expr) (f : Te) : Prop := ∃ t : TT, PT X e t ∧ ∀ F ρ E B σ H Q, Rel X.K F ρ E B σ H → PostT X.K F ρ E B σ H (f E B) Q → t σ H Q
def SndW (X : Cx) (e : Expr) (f : Te) : Prop := ∃ t : TT, PW X e t ∧ ∀ F ρ E B σ H Q, Rel X.K F ρ E B σ H → PostT X.K F ρ E B σ H (f E B) Q → t σ H Q

/-! ### coming to rest -/
def settle (r : R) (E : En) : Option (U × En) :=
  match r with
  | .w u => some (u, E)
  | .fr c => some (c.toU, E)
  | .s i => match E[i]? with
    | some (.own c) => some (c.toU, E.set i (.val c.toU))
    | some (.val u) => some (u, E)
    | _ => none
section
variable {K : PySem.W.Frag} {F : Fm} {ρ ρ' : List Addr} {E E' : En} {B B' : Bx} {σ : L2.St} {H H' : Hp} {p : Addr} {v : V} {u : U} {r : R}
/-- an own thing in slot i comes to rest -/
theorem Rel.freeze {i : Nat} {c : Cell} (r : Rel K F ρ E B σ H) (h : E[i]? = some (.own c)) :
    Rel K F ρ (E.set i (.val c.toU)) B σ H ∧ Stp H (LvF F ρ E B σ) H (LvF F ρ (E.set i (.val c.toU)) B σ) ∧ EnLe E (E.set i (.val c.toU)) ∧
      ∃ v, σ[i]? = some (some v) ∧ Rep K H (LvF F ρ (E.set i (.val c.toU)) B σ) ρ c.toU v := by
  obtain ⟨hl, p, hp, hc, ho, hb⟩ := r.own i c h
  have hi : i < E.length := (List.getElem?_eq_some_iff.mp h).1
  have px : ρ <+: ρ := List.prefix_refl _
  have ownSet : ∀ (j : Nat) (d : Cell), (E.set i (.val c.toU))[j]? = some (.own d) → E[j]? = some (.own d) ∧ j ≠ i := fun j d e => by
    by_cases hj : i = j
    · subst hj; rw [List.getElem?_set_self hi] at e; cases e
    · rw [List.getElem?_set_ne hj] at e; exact ⟨e, fun z => hj z.symm⟩
  have less : ∀ q, LvF F ρ (E.set i (.val c.toU)) B σ q → LvF F ρ E B σ q := fun q z => by
    rcases z with z | z | ⟨j, d, h1, h2⟩
    · exact .inl z
    · exact .inr (.inl z)
    · exact .inr (.inr ⟨j, d, (ownSet j d h1).1, h2⟩)
  have nl : ¬ LvF F ρ (E.set i (.val c.toU)) B σ p := by
    rintro (z | z | ⟨j, d, h1, h2⟩)
    · exact ho z
    · exact hb z
    · obtain ⟨h3, h4⟩ := ownSet j d h1
      exact h4 (r.oinj j i d c p h3 h h2 hp)
  have s : Stp H (LvF F ρ E B σ) H (LvF F ρ (E.set i (.val c.toU)) B σ) := Stp.less less
  have hrep : Rep K H (LvF F ρ (E.set i (.val c.toU)) B σ) ρ c.toU (.ref p) := (hc.mono s px rfl).rep hl nl
  refine ⟨⟨by rw [List.length_set]; exact r.elen, r.blen, fun j u e => ?_, fun j d e => ?_, fun j k d f q e1 e2 e3 e4 => ?_, fun j d q e1 e2 e3 => ?_, r.binj, r.out, r.old.trans s, r.grow⟩, s, fun j hj => ?_, .ref p, hp, hrep⟩
  · by_cases hj : i = j
    · subst hj; rw [List.getElem?_set_self hi] at e; cases e; exact ⟨_, hp, hrep⟩
    · rw [List.getElem?_set_ne hj] at e
      obtain ⟨w, h1, h2⟩ := r.val j u e
      exact ⟨w, h1, h2.mono s px⟩
  · obtain ⟨h1, h2, q, h3, h4, h5⟩ := And.intro (ownSet j d e) (r.own j d (ownSet j d e).1)
    exact ⟨h2, q, h3, h4.mono s px rfl, h5⟩
  · exact r.oinj j k d f q (ownSet j d e1).1 (ownSet k f e2).1 e3 e4
  · obtain ⟨h4, h5⟩ := r.box j d q e1 e2 e3
    exact ⟨h4.mono s px rfl, h5⟩
  · by_cases e : i = j
    · subst e; exact .inl ⟨_, List.getElem?_set_self hi⟩
    · unfold IsSet; rw [List.getElem?_set_ne e]; exact hj
theorem settle_ok {E' : En} (rl : Rel K (F.addR H r v) ρ E B σ H) (rr : RepR K F H (LvF (F.addR H r v) ρ E B σ) ρ E σ r v) (h : settle r E = some (u, E')) :
    Rel K F ρ E' B σ H ∧ Stp H (LvF (F.addR H r v) ρ E B σ) H (LvF F ρ E' B σ) ∧ EnLe E E' ∧ Rep K H (LvF F ρ E' B σ) ρ u v := by
  cases r with
  | w x =>
    simp only [settle, Option.some.injEq, Prod.mk.injEq] at h
    obtain ⟨rfl, rfl⟩ := h
    exact ⟨rl, Stp.refl, EnLe.refl, rr⟩
  | fr c =>
    simp only [settle, Option.some.injEq, Prod.mk.injEq] at h
    obtain ⟨rfl, rfl⟩ := h
    obtain ⟨p, rfl, hl, hc, hn⟩ := rr
    have r2 := Rel.drop rl hn
    have s : Stp H (LvF (F.addR H (.fr c) (.ref p)) ρ E B σ) H (LvF F ρ E B σ) := Stp.less fun q z => LvF.add_iff.mpr (.inl z)
    exact ⟨r2, s, EnLe.refl, (hc.mono s (List.prefix_refl _) rfl).rep hl (Rel.notLv rl hn)⟩
  | s i =>
    simp only [settle] at h
    split at h
    · next c hc =>
      cases h
      obtain ⟨h1, h2, h3, w, h4, h5⟩ := Rel.freeze (show Rel K F ρ E B σ H from rl) hc
      have e : w = v := by
        have := rr.1
        rw [h4] at this
        simpa using this
      subst e
      exact ⟨h1, h2, h3, h5⟩
    · next x hx =>
      cases h
      obtain ⟨w, h4, h5⟩ := (show Rel K F ρ E B σ H from rl).val i _ hx
      have e : w = v := by
        have := rr.1
        rw [h4] at this
        simpa using this
      subst e
      exact ⟨rl, Stp.refl, EnLe.refl, h5⟩
    · cases h

/-! ### views: what a value holds right now -/
def Cell.view : Cell → Option U
  | .dead => none
  | .lst xs => some (.lst xs)
  | .dct ks vs => some (.dct ks vs)
def viewU (u : U) (B : Bx) : Option U :=
  match u with
  | .box i => (B[i]?).bind Cell.view
  | u => some u
def view (r : R) (E : En) (B : Bx) : Option U :=
  match r with
  | .w u => viewU u B
  | .fr c => c.view
  | .s i => match E[i]? with
    | some (.own c) => c.view
    | some (.val u) => viewU u B
    | _ => none
/-- v holds u right now -/
def Top (K : PySem.W.Frag) (H : Hp) (Lv : AS) (ρ : List Addr) : U → V → Prop
  | .lst us, v => ∃ p vs, v = .ref p ∧ H p = some (.lst vs) ∧ Reps K H Lv ρ us vs
  | .tup us, v => ∃ p vs, v = .ref p ∧ ((Rd H p (.tup vs) ∧ ¬ Lv p) ∨ KT K p vs) ∧ Reps K H Lv ρ us vs
  | .dct ks us, v => ∃ p kvs, v = .ref p ∧ H p = some (.dK kvs) ∧ kvs.map (·.1) = ks ∧ Reps K H Lv ρ us (kvs.map (·.2))
  | .box _, _ => False
  | u, v => Rep K H Lv ρ u v
theorem sqL_of {Lv : AS} {p : Addr} {vs : List V} (h : (Rd H p (.lst vs) ∧ ¬ Lv p) ∨ KL K p vs) : SqL K H p vs := by
  rcases h with h | h
  · exact .inl h.1
  · exact .inr h
theorem sqT_of {Lv : AS} {p : Addr} {vs : List V} (h : (Rd H p (.tup vs) ∧ ¬ Lv p) ∨ KT K p vs) : SqT K H p vs := by
  rcases h with h | h
  · exact .inl h.1
  · exact .inr h
theorem Rep.top {Lv : AS} (h : Rep K H Lv ρ u v) (hb : ∀ i, u ≠ .box i) : Top K H Lv ρ u v := by
  cases u with
  | lst us =>
    simp only [Rep] at h
    obtain ⟨p, vs, e, h1, h2⟩ := h
    exact ⟨p, vs, e, h1.1, h2⟩
  | tup us =>
    simp only [Rep] at h
    obtain ⟨p, vs, e, h1, h2⟩ := h
    exact ⟨p, vs, e, h1, h2⟩
  | dct ks us =>
    simp only [Rep] at h
    obtain ⟨p, kvs, e, h1, _, h2⟩ := h
    exact ⟨p, kvs, e, h1, h2⟩
  | box i => exact absurd rfl (hb i)
  | non => exact h
  | bl _ => exact h
  | int _ => exact h
  | str _ => exact h
  | scr _ => exact h
theorem CellOk.top {Lv : AS} {c : Cell} (hc : CellOk K H Lv ρ c p) (h : c.view = some u) : Top K H Lv ρ u (.ref p) := by
  cases c with
  | dead => cases h
  | lst us => cases h; obtain ⟨vs, h1, h2⟩ := hc; exact ⟨p, vs, rfl, h1, h2⟩
  | dct ks us => cases h; obtain ⟨kvs, h1, h2, h3⟩ := hc; exact ⟨p, kvs, rfl, h1, h2, h3⟩
theorem viewU_top (rl : Rel K F ρ E B σ H) {Lv : AS} (hL : Lv = LvF F ρ E B σ) {w : U} (h : Rep K H Lv ρ w v) (e : viewU w B = some u) : Top K H Lv ρ u v := by
  subst hL
  by_cases hb : ∃ i, w = .box i
  · obtain ⟨i, rfl⟩ := hb
    simp only [viewU] at e
    simp only [Rep] at h
    obtain ⟨p, hp, rfl⟩ := h
    cases hB : B[i]? with
    | none => rw [hB] at e; cases e
    | some c =>
      rw [hB] at e
      have e' : c.view = some u := e
      have hl : c.live = true := by cases c <;> first | rfl | cases e'
      exact (rl.box i c p hB hl hp).1.top e'
  · have e' : w = u := by
      cases w <;> first | (exact absurd ⟨_, rfl⟩ hb) | (simp only [viewU, Option.some.injEq] at e; exact e)
    subst e'
    exact h.top fun i z => hb ⟨i, z⟩
theorem view_top (rl : Rel K (F.addR H r v) ρ E B σ H) (rr : RepR K F H (LvF (F.addR H r v) ρ E B σ) ρ E σ r v) (h : view r E B = some u) : Top K H (LvF (F.addR H r v) ρ E B σ) ρ u v := by
  cases r with
  | w x => exact viewU_top rl rfl rr h
  | fr c => obtain ⟨p, rfl, hl, hc, hn⟩ := rr; exact hc.top h
  | s i =>
    simp only [view] at h
    split at h
    · next c hc =>
      obtain ⟨hl, p, h1, h2, _⟩ := (show Rel K F ρ E B σ H from rl).own i c hc
      have e : v = .ref p := by
        have := rr.1
        rw [h1] at this
        simpa using this.symm
      subst e
      exact h2.top h
    · next x hx =>
      obtain ⟨w, h4, h5⟩ := (show Rel K F ρ E B σ H from rl).val i _ hx
      have e : w = v := by
        have := rr.1
        rw [h4] at this
        simpa using this
      subst e
      exact viewU_top (show Rel K F ρ E B σ H from rl) rfl h5 h
    · cases h
theorem Top.mono {Lv Lv' : AS} (s : Stp H Lv H Lv') (h : Top K H Lv ρ u v) : Top K H Lv' ρ u v := by
  have px : ρ <+: ρ := List.prefix_refl _
  cases u with
  | lst us => obtain ⟨p, vs, e, h1, h2⟩ := h; exact ⟨p, vs, e, h1, h2.mono s px⟩
  | tup us => exact (show Top K H Lv' ρ (.tup us) v by have := Rep.mono s px (.tup us) v (by simp only [Rep]; exact h); simp only [Rep] at this; exact this)
  | dct ks us => obtain ⟨p, kvs, e, h1, h2, h3⟩ := h; exact ⟨p, kvs, e, h1, h2, h3.mono s px⟩
  | box i => exact h.elim
  | non => exact h
  | bl _ => exact h
  | int _ => exact h
  | str _ => exact h
  | scr _ => exact Rep.mono s px _ _ h
/-! ### letting go of a result -/
theorem addR_lv {q : Addr} (h : LvF F ρ E B σ q) : LvF (F.addR H r v) ρ E B σ q := by
  cases r with
  | fr c =>
    cases v <;> first | exact h | exact LvF.add_iff.mpr (.inl h)
  | w _ => exact h
  | s _ => exact h
theorem Aft.letgo (a : Aft K F ρ E B σ H r ρ' E' B' H' v) : AftT K F ρ E B σ H ρ' E' B' H' := by
  have rl : Rel K F ρ' E' B' σ H' := by
    have r0 := a.rel
    cases r with
    | w _ => exact r0
    | s _ => exact r0
    | fr c =>
      have rr := a.rep
      obtain ⟨p, rfl, _, _, hn⟩ := rr
      exact Rel.drop r0 hn
  exact ⟨a.px, rl, a.stp.trans (Stp.less fun q z => addR_lv z), a.le⟩
theorem Aft.top (a : Aft K F ρ E B σ H r ρ' E' B' H' v) (h : view r E' B' = some u) : Top K H' (LvF F ρ' E' B' σ) ρ' u v :=
  (view_top a.rel a.rep h).mono (Stp.less fun q z => addR_lv z)
theorem AftT.refl (rl : Rel K F ρ E B σ H) : AftT K F ρ E B σ H ρ E B H := ⟨List.prefix_refl _, rl, Stp.refl, EnLe.refl⟩
theorem AftT.trans {ρ2 : List Addr} {E2 : En} {B2 : Bx} {H2 : Hp} (a : AftT K F ρ E B σ H ρ' E' B' H') (b : AftT K F ρ' E' B' σ H' ρ2 E2 B2 H2) : AftT K F ρ E B σ H ρ2 E2 B2 H2 :=
  ⟨a.px.trans b.px, b.rel, a.stp.trans b.stp, a.le.trans b.le⟩
theorem AftT.then {ρ2 : List Addr} {E2 : En} {B2 : Bx} {H2 : Hp} (a : AftT K F ρ E B σ H ρ' E' B' H') (b : Aft K F ρ' E' B' σ H' r ρ2 E2 B2 H2 v) : Aft K F ρ E B σ H r ρ2 E2 B2 H2 v :=
  ⟨a.px.trans b.px, b.rel, a.stp.trans b.stp, a.le.trans b.le, b.rep⟩
/-- a first result behind a second one -/
theorem Aft.carry {r1 : R} {v1 : V} {ρ1 ρ2 : List Addr} {E1 E2 : En} {B1 B2 : Bx} {H1 H2 : Hp} (a : Aft K F ρ E B σ H r1 ρ1 E1 B1 H1 v1) (b : AftT K (F.addR H1 r1 v1) ρ1 E1 B1 σ H1 ρ2 E2 B2 H2) :
    Aft K F ρ E B σ H r1 ρ2 E2 B2 H2 v1 := by
  have same : F.addR H2 r1 v1 = F.addR H1 r1 v1 := by
    cases r1 with
    | w _ => rfl
    | s _ => rfl
    | fr c =>
      obtain ⟨p, rfl, _, _, _⟩ := a.rep
      have := (b.rel.out p (.inr rfl)).1
      simp only [Fm.addR, Fm.add, if_pos] at this ⊢
      rw [this]
  refine ⟨a.px.trans b.px, by rw [same]; exact b.rel, by rw [same]; exact a.stp.trans b.stp, a.le.trans b.le, ?_⟩
  rw [same]
  have rr := a.rep
  cases r1 with
  | w x => exact Rep.mono b.stp b.px x v1 rr
  | s i => exact ⟨rr.1, b.le i rr.2⟩
  | fr c =>
    obtain ⟨p, rfl, hl, hc, hn⟩ := rr
    refine ⟨p, rfl, hl, hc.mono b.stp b.px ?_, hn⟩
    have := (b.rel.out p (.inr rfl)).1
    simpa [Fm.addR, Fm.add] using this
/-! ### results of plain operations -/
theorem Aft.val {x : U} (rl : Rel K F ρ E B σ H) (h : Rep K H (LvF F ρ E B σ) ρ x v) : Aft K F ρ E B σ H (.w x) ρ E B H v := ⟨List.prefix_refl _, rl, Stp.refl, EnLe.refl, h⟩
theorem Aft.fresh {us : List U} {vs : List V} (rl : Rel K F ρ E B σ H) (hp : H p = none) (h : Reps K H (LvF F ρ E B σ) ρ us vs) : Aft K F ρ E B σ H (.fr (.lst us)) ρ E B (upd H p (.lst vs)) (.ref p) := by
  have e : F.addR (upd H p (.lst vs)) (.fr (.lst us)) (.ref p) = F.add p (some (.lst vs)) := by simp only [Fm.addR, upd_same]
  have r2 := rl.alloc (ob := .lst vs) hp
  have nl : ∀ q o, H q = some o → ¬ LvF F ρ E B σ q → ¬ LvF (F.add p (some (.lst vs))) ρ E B σ q := fun q o h n z => by
    rcases LvF.add_iff.mp z with z | z
    · exact n z
    · subst z; rw [hp] at h; cases h
  have s : Stp H (LvF F ρ E B σ) (upd H p (.lst vs)) (LvF (F.add p (some (.lst vs))) ρ E B σ) := fun q o h n => ⟨by rw [upd_ne (ne_of_none h hp)]; exact h, nl q o h n⟩
  refine ⟨List.prefix_refl _, by rw [e]; exact r2, by rw [e]; exact s, EnLe.refl, ?_⟩
  rw [e]
  exact ⟨p, rfl, rfl, ⟨vs, upd_same, h.mono s (List.prefix_refl _)⟩, rl.new hp⟩
theorem Aft.freshD {ks : List Key} {us : List U} {kvs : List (Key × V)} (rl : Rel K F ρ E B σ H) (hp : H p = none) (hk : kvs.map (·.1) = ks) (h : Reps K H (LvF F ρ E B σ) ρ us (kvs.map (·.2))) : Aft K F ρ E B σ H (.fr (.dct ks us)) ρ E B (upd H p (.dK kvs)) (.ref p) := by
  have e : F.addR (upd H p (.dK kvs)) (.fr (.dct ks us)) (.ref p) = F.add p (some (.dK kvs)) := by simp only [Fm.addR, upd_same]
  have r2 := rl.alloc (ob := .dK kvs) hp
  have nl : ∀ q o, H q = some o → ¬ LvF F ρ E B σ q → ¬ LvF (F.add p (some (.dK kvs))) ρ E B σ q := fun q o h n z => by
    rcases LvF.add_iff.mp z with z | z
    · exact n z
    · subst z; rw [hp] at h; cases h
  have s : Stp H (LvF F ρ E B σ) (upd H p (.dK kvs)) (LvF (F.add p (some (.dK kvs))) ρ E B σ) := fun q o h n => ⟨by rw [upd_ne (ne_of_none h hp)]; exact h, nl q o h n⟩
  refine ⟨List.prefix_refl _, by rw [e]; exact r2, by rw [e]; exact s, EnLe.refl, ?_⟩
  rw [e]
  exact ⟨p, rfl, rfl, ⟨kvs, upd_same, hk, h.mono s (List.prefix_refl _)⟩, rl.new hp⟩
theorem Aft.tuple {us : List U} {vs : List V} (rl : Rel K F ρ E B σ H) (hp : H p = none) (h : Reps K H (LvF F ρ E B σ) ρ us vs) : Aft K F ρ E B σ H (.w (.tup us)) ρ E B (upd H p (.tup vs)) (.ref p) := by
  have g : ∀ q o, H q = some o → (upd H p (.tup vs)) q = some o := fun q o h => by rw [upd_ne (ne_of_none h hp)]; exact h
  have r2 := rl.growH g
  have s := grow_stp rl g
  refine ⟨List.prefix_refl _, r2, s, EnLe.refl, ?_⟩
  show Rep K _ _ _ (.tup us) _
  simp only [Rep]
  exact ⟨p, vs, rfl, .inl ⟨.inl upd_same, fun z => by obtain ⟨o, h⟩ := rl.lv_there p z; rw [hp] at h; cases h⟩, h.mono s (List.prefix_refl _)⟩
end
end QB
/-! QbC: expressions. -/
namespace QB
open PySem L2

def O.bind {α β : Type} (o : O α) (k : α → En → Bx → O β) : O β :=
  match o with
  | .ok a E B => k a E B
  | .ex c E B => .ex c E B
  | .bad => .bad
@[simp] theorem O.bind_ok {α β : Type} {a : α} {E : En} {B : Bx} {k : α → En → Bx → O β} : (O.ok a E B).bind k = k a E B := rfl
@[simp] theorem O.bind_bad {α β : Type} {k : α → En → Bx → O β} : (O.bad : O α).bind k = .bad := rfl
@[simp] theorem O.bind_ex {α β : Type} {c : Exn} {E : En} {B : Bx} {k : α → En → Bx → O β} : (O.ex c E B).bind k = .ex c E B := rfl

def mVar (i : Nat) : Ex := fun E B =>
  match E[i]? with
  | some (.val u) => .ok (.w u) E B
  | some (.own _) => .ok (.s i) E B
  | _ => .bad
def mC (u : U) : Ex := fun E B => .ok (.w u) E B
def m2 (g : U → U → Option R) (fa fb : Ex) : Ex := fun E B =>
  (fa E B).bind fun r1 E1 B1 => (fb E1 B1).bind fun r2 E2 B2 =>
    match view r1 E2 B2, view r2 E2 B2 with
    | some u1, some u2 => match g u1 u2 with
      | some r => .ok r E2 B2
      | none => .bad
    | _, _ => .bad
def m1 (g : U → Option R) (fa : Ex) : Ex := fun E B =>
  (fa E B).bind fun r1 E1 B1 =>
    match view r1 E1 B1 with
    | some u1 => match g u1 with
      | some r => .ok r E1 B1
      | none => .bad
    | none => .bad
/-- a result as a test -/
def toT (f : Ex) : Te := fun E B => (f E B).bind fun r E1 B1 =>
  match r with
  | .w (.bl b) => .ok b E1 B1
  | _ => .bad
def truU : U → Option Bool
  | .non => some false
  | .bl b => some b
  | .int i => some (i != 0)
  | .str y => if y.length ≤ 16777216 then some ((y.length : Int) != 0) else none
  | .lst us => some (!us.isEmpty)
  | .tup us => some (!us.isEmpty)
  | .dct ks _ => some (!ks.isEmpty)
  | .box _ => none
  | .scr ns => some (!ns.isEmpty)
def mTru (f : Ex) : Te := fun E B => (f E B).bind fun r E1 B1 =>
  match view r E1 B1 with
  | some u => match truU u with
    | some b => .ok b E1 B1
    | none => .bad
  | none => .bad
def mAnd (f g : Te) : Te := fun E B => (f E B).bind fun b E1 B1 => if b = true then g E1 B1 else .ok false E1 B1
def mOr (f g : Te) : Te := fun E B => (f E B).bind fun b E1 B1 => if b = true then .ok true E1 B1 else g E1 B1
def mNot (f : Te) : Te := fun E B => (f E B).bind fun b E1 B1 => .ok (!b) E1 B1
def mAndV (f g : Ex) : Ex := fun E B => (toT f E B).bind fun b E1 B1 => if b = true then g E1 B1 else .ok (.w (.bl false)) E1 B1
def mOrV (f g : Ex) : Ex := fun E B => (toT f E B).bind fun b E1 B1 => if b = true then .ok (.w (.bl true)) E1 B1 else g E1 B1
def mNotV (f : Ex) : Ex := fun E B => (toT f E B).bind fun b E1 B1 => .ok (.w (.bl (!b))) E1 B1
def mIf (t : Te) (f g : Ex) : Ex := fun E B => (t E B).bind fun b E1 B1 => if b = true then f E1 B1 else g E1 B1
/-- a new thing becomes a box -/
def mBox (f : Ex) : Ex := fun E B => (f E B).bind fun r E1 B1 =>
  match r with
  | .fr c => .ok (.w (.box B1.length)) E1 (B1 ++ [c])
  | _ => .bad

section
variable {X : Cx} {a b c e : Expr} {es : List Expr} {fa fb : Ex} {ft fu : Te} {pos p : Pos} {x : Str}

theorem AftT.thenT {K : PySem.W.Frag} {F : Fm} {ρ ρ' ρ2 : List Addr} {E E' E2 : En} {B B' B2 : Bx} {σ : L2.St} {H H' H2 : Hp} (a : AftT K F ρ E B σ H ρ' E' B' H') (b : AftT K F ρ' E' B' σ H' ρ2 E2 B2 H2) : AftT K F ρ E B σ H ρ2 E2 B2 H2 := a.trans b

theorem sndE_var (i : Nat) (hN : X.N[i]? = some x := by rfl) (hv : Vis X.env.scope x := by first | exact Or.inl rfl | exact Or.inr (Or.inl rfl) | exact Or.inr (Or.inr rfl)) (hd : (x == ("__debug__" : Str)) = false := by decide)
    (hcd : (x == ("__classdict__" : Str)) = false := by decide) : SndE X (.Name x pos) (mVar i) := by
  refine ⟨_, pe_var hN hv hd hcd, fun F ρ E B σ H Q rl h => ?_⟩
  simp only [mVar] at h
  split at h
  · next u hu =>
    obtain ⟨v, h1, h2⟩ := rl.val i u hu
    exact ⟨v, h1, h ρ H v (Aft.val rl h2)⟩
  · next c hc =>
    obtain ⟨_, q, h1, _⟩ := rl.own i c hc
    exact ⟨_, h1, h ρ H _ ⟨List.prefix_refl _, rl, Stp.refl, EnLe.refl, h1, .inr ⟨c, hc⟩⟩⟩
  · exact h.elim
theorem sndE_int {i j} : SndE X (.Constant (.int i) j pos) (mC (.int i)) := ⟨_, pe_int, fun F ρ E B σ H Q rl h => h ρ H _ (Aft.val rl (by simp [Rep]))⟩
theorem sndE_bl {i j} : SndE X (.Constant (.bool i) j pos) (mC (.bl i)) := ⟨_, pe_bl, fun F ρ E B σ H Q rl h => h ρ H _ (Aft.val rl (by simp [Rep]))⟩
theorem sndE_str {i j} : SndE X (.Constant (.str i) j pos) (mC (.str i)) := ⟨_, pe_str, fun F ρ E B σ H Q rl h => h ρ H _ (Aft.val rl (by simp [Rep]))⟩
theorem sndE_non {j} : SndE X (.Constant .none j pos) (mC .non) := ⟨_, pe_non, fun F ρ E B σ H Q rl h => h ρ H _ (Aft.val rl (by simp [Rep]))⟩
/-- a text of the module's top -/
theorem sndE_gstr {u : Value} {z : Str} (hm : X.mg x = some u) (hu : ∃ t, u = Value.str z t) (hg : Gl X x := by rfl) (hd : (x == ("__debug__" : Str)) = false := by decide) : SndE X (.Name x pos) (mC (.str z)) :=
  ⟨_, pe_glob (v := .str z) hg hm hu hd, fun F ρ E B σ H Q rl h => h ρ H _ (Aft.val rl (by simp [Rep]))⟩
/-- a thing of the module's top that stands for a tree whatever the heap is -/
theorem sndE_gtree {p : Addr} {u : U} (hm : X.mg x = some (.ref p)) (hu : ∀ H Lv ρ, Rep X.K H Lv ρ u (.ref p)) (hg : Gl X x := by rfl) (hd : (x == ("__debug__" : Str)) = false := by decide) : SndE X (.Name x pos) (mC u) :=
  ⟨_, pe_glob (v := .ref p) hg hm rfl hd, fun F ρ E B σ H Q rl h => h ρ H _ (Aft.val rl (hu _ _ _))⟩

/-! ### operators -/
def Op2S (X : Cx) (op : Value → Value → Sem Value) (g : U → U → Option R) : Prop :=
  ∃ r : R2, OpR X op r ∧ ∀ F ρ E B σ H u1 u2 v1 v2 r3 Q, Rel X.K F ρ E B σ H → Top X.K H (LvF F ρ E B σ) ρ u1 v1 → Top X.K H (LvF F ρ E B σ) ρ u2 v2 → g u1 u2 = some r3 →
    (∀ H' v, Aft X.K F ρ E B σ H r3 ρ E B H' v → Q v H') → r v1 v2 H Q
theorem Op2S.or {op : Value → Value → Sem Value} {g g' : U → U → Option R} (h : Op2S X op g) (h' : Op2S X op g') : Op2S X op (fun a b => (g a b).or (g' a b)) := by
  obtain ⟨r, h1, h2⟩ := h
  obtain ⟨r', h1', h2'⟩ := h'
  refine ⟨_, h1.or h1', fun F ρ E B σ H u1 u2 v1 v2 r3 Q rl t1 t2 e q => ?_⟩
  cases hg : g u1 u2 with
  | some y =>
    simp only [hg, Option.some_or, Option.some.injEq] at e
    subst e
    exact .inl (h2 F ρ E B σ H u1 u2 v1 v2 _ Q rl t1 t2 hg q)
  | none =>
    simp only [hg, Option.none_or] at e
    exact .inr (h2' F ρ E B σ H u1 u2 v1 v2 _ Q rl t1 t2 e q)
theorem m2_ok {f : Value → Value → Sem Value} {g : U → U → Option R} {r : R2} {ta tb : TE}
    (ho : ∀ F ρ E B σ H u1 u2 v1 v2 r3 Q, Rel X.K F ρ E B σ H → Top X.K H (LvF F ρ E B σ) ρ u1 v1 → Top X.K H (LvF F ρ E B σ) ρ u2 v2 → g u1 u2 = some r3 → (∀ H' v, Aft X.K F ρ E B σ H r3 ρ E B H' v → Q v H') → r v1 v2 H Q)
    (ha : ∀ F ρ E B σ H Q, Rel X.K F ρ E B σ H → PostE X.K F ρ E B σ H (fa E B) Q → ta σ H Q) (hb : ∀ F ρ E B σ H Q, Rel X.K F ρ E B σ H → PostE X.K F ρ E B σ H (fb E B) Q → tb σ H Q) :
    ∀ F ρ E B σ H Q, Rel X.K F ρ E B σ H → PostE X.K F ρ E B σ H (m2 g fa fb E B) Q → tOp r ta tb σ H Q := by
  intro F ρ E B σ H Q rl h
  refine ha F ρ E B σ H _ rl ?_
  simp only [m2] at h
  cases h1 : fa E B with
  | bad => rw [h1] at h; exact h
  | ex c E' B' => rw [h1] at h; exact h
  | ok r1 E1 B1 =>
    rw [h1] at h
    intro ρ1 H1 v1 A1
    refine hb _ ρ1 E1 B1 σ H1 _ A1.rel ?_
    simp only [O.bind_ok] at h
    cases h2 : fb E1 B1 with
    | bad => rw [h2] at h; exact h
    | ex c E' B' => rw [h2] at h; exact h
    | ok r2 E2 B2 =>
      rw [h2] at h
      simp only [O.bind_ok] at h
      intro ρ2 H2 v2 A2
      have A2' := A2.letgo
      have A1' := A1.carry A2'
      have T1 := A1'.letgo
      split at h
      · next u1 u2 e1 e2 =>
        split at h
        · next r3 eg =>
          have t1 := A1'.top e1
          have t2 : Top X.K H2 (LvF F ρ2 E2 B2 σ) ρ2 u2 v2 := (A2.top e2).mono (Stp.less fun q z => addR_lv z)
          exact ho F ρ2 E2 B2 σ H2 u1 u2 v1 v2 r3 Q T1.rel t1 t2 eg fun H' v A3 => h ρ2 H' v (T1.then A3)
        · exact h.elim
      · exact h.elim
theorem sndE_op {op : Operator} {g : U → U → Option R} (ho : Op2S X (binaryOp op) g) (ha : SndE X a fa) (hb : SndE X b fb) : SndE X (.BinOp a op b pos) (m2 g fa fb) := by
  obtain ⟨r, hr, ho⟩ := ho
  obtain ⟨ta, pa, ha⟩ := ha
  obtain ⟨tb, pb, hb⟩ := hb
  exact ⟨_, pe_op hr pa pb, m2_ok (f := binaryOp op) ho ha hb⟩
theorem sndE_cmp {op : CmpOp} {g : U → U → Option R} (ho : Op2S X (compareOp op) g) (ha : SndE X a fa) (hb : SndE X b fb) (hm : behindInMarks op b = false := by first | rfl | exact nomark _) : SndE X (.Compare a [op] [b] pos) (m2 g fa fb) := by
  obtain ⟨r, hr, ho⟩ := ho
  obtain ⟨ta, pa, ha⟩ := ha
  obtain ⟨tb, pb, hb⟩ := hb
  exact ⟨_, pe_cmpR hr pa pb hm, m2_ok (f := compareOp op) ho ha hb⟩
/-- a test by a value that is a truth -/
theorem toT_ok {t : TE} (h : ∀ F ρ E B σ H Q, Rel X.K F ρ E B σ H → PostE X.K F ρ E B σ H (fa E B) Q → t σ H Q) :
    ∀ F ρ E B σ H Q, Rel X.K F ρ E B σ H → PostT X.K F ρ E B σ H (toT fa E B) Q → tTest t σ H Q := by
  intro F ρ E B σ H Q rl q
  refine h F ρ E B σ H _ rl ?_
  simp only [toT] at q
  cases h1 : fa E B with
  | bad => rw [h1] at q; exact q
  | ex c E' B' => rw [h1] at q; exact q
  | ok r1 E1 B1 =>
    rw [h1] at q
    intro ρ1 H1 v1 A1
    simp only [O.bind_ok] at q
    split at q
    · next r b =>
      have rr := A1.rep
      simp only [RepR, Rep] at rr
      exact ⟨b, rr, q ρ1 H1 A1.letgo⟩
    · exact q.elim
theorem sndT_cmp {op : CmpOp} {g : U → U → Option R} (ho : Op2S X (compareOp op) g) (ha : SndE X a fa) (hb : SndE X b fb) (hm : behindInMarks op b = false := by first | rfl | exact nomark _) : SndT X (.Compare a [op] [b] pos) (toT (m2 g fa fb)) := by
  obtain ⟨r, hr, ho⟩ := ho
  obtain ⟨ta, pa, ha⟩ := ha
  obtain ⟨tb, pb, hb⟩ := hb
  exact ⟨_, pt_cmpR hr pa pb hm, toT_ok (m2_ok (f := compareOp op) ho ha hb)⟩
/-- truth of a value -/
theorem tru_top {K : PySem.W.Frag} {H : Hp} {Lv : AS} {ρ : List Addr} {u : U} {v : V} {k : Bool} (t : Top K H Lv ρ u v) (h : truU u = some k) : TruV K v H k := by
  cases u with
  | non => simp only [Top, Rep] at t; subst t; simp only [truU, Option.some.injEq] at h; exact h.symm
  | bl b => simp only [Top, Rep] at t; subst t; simp only [truU, Option.some.injEq] at h; exact h.symm
  | int i => simp only [Top, Rep] at t; subst t; simp only [truU, Option.some.injEq] at h; exact h.symm
  | str y =>
    simp only [Top, Rep] at t; subst t; simp only [truU] at h
    split at h
    · next hl => cases h; exact ⟨by rw [sizeLine_eq]; exact hl, rfl⟩
    · cases h
  | lst us =>
    obtain ⟨p, vs, rfl, h1, h2⟩ := t
    simp only [truU, Option.some.injEq] at h
    refine .inl ⟨vs, .inl (.inl h1), ?_⟩
    rw [← h]
    have := h2.len
    cases us <;> cases vs <;> simp_all
  | tup us =>
    obtain ⟨p, vs, rfl, h1, h2⟩ := t
    simp only [truU, Option.some.injEq] at h
    refine .inr (.inl ⟨vs, sqT_of h1, ?_⟩)
    rw [← h]
    have := h2.len
    cases us <;> cases vs <;> simp_all
  | dct ks us =>
    obtain ⟨p, kvs, rfl, h1, h2, h3⟩ := t
    simp only [truU, Option.some.injEq] at h
    refine .inr (.inr ⟨kvs, h1, ?_⟩)
    rw [← h, ← h2]
    cases kvs <;> simp
  | box i => exact t.elim
  | scr ns =>
    simp only [Top, Rep] at t
    obtain ⟨p, rfl, h1⟩ := t
    simp only [truU, Option.some.injEq] at h
    refine .inl ⟨_, sqL_of h1, ?_⟩
    rw [← h]
    cases ns <;> simp
theorem sndT_tru (ha : SndE X a fa) (he : ∀ whole, isTrue a X.env whole = (do let v ← whole; standAt a.pos; holding [v] (truthy v)) := by intro _; rfl) : SndT X a (mTru fa) := by
  obtain ⟨ta, pa, ha⟩ := ha
  refine ⟨_, pt_truth pa he, fun F ρ E B σ H Q rl q => ?_⟩
  refine ha F ρ E B σ H _ rl ?_
  simp only [mTru] at q
  cases h1 : fa E B with
  | bad => rw [h1] at q; exact q
  | ex c E' B' => rw [h1] at q; exact q
  | ok r1 E1 B1 =>
    rw [h1] at q
    intro ρ1 H1 v1 A1
    simp only [O.bind_ok] at q
    split at q
    · next u e =>
      split at q
      · next k ek => exact ⟨k, tru_top (A1.top e) ek, q ρ1 H1 A1.letgo⟩
      · exact q.elim
    · exact q.elim
/-! ### and, or, not -/
theorem sndT_of (h : SndW X e ft) : SndT X e ft := by
  obtain ⟨t, h1, h2⟩ := h
  exact ⟨t, h1.pt, h2⟩
theorem sndW_and1 (h : SndT X a ft) : SndW X (.BoolOp .And [a] pos) ft := by
  obtain ⟨t, h1, h2⟩ := h
  exact ⟨t, pw_and1 h1, h2⟩
theorem sndW_or1 (h : SndT X a ft) : SndW X (.BoolOp .Or [a] pos) ft := by
  obtain ⟨t, h1, h2⟩ := h
  exact ⟨t, pw_or1 h1, h2⟩
theorem sndW_and {rest : List Expr} (ha : SndT X a ft) (hb : SndW X (.BoolOp .And (b :: rest) pos) fu) : SndW X (.BoolOp .And (a :: b :: rest) pos) (mAnd ft fu) := by
  obtain ⟨t, p1, ha⟩ := ha
  obtain ⟨u, p2, hb⟩ := hb
  refine ⟨_, pw_and p1 p2, fun F ρ E B σ H Q rl q => ?_⟩
  refine ha F ρ E B σ H _ rl ?_
  simp only [mAnd] at q
  cases h1 : ft E B with
  | bad => rw [h1] at q; exact q
  | ex c E' B' => rw [h1] at q; exact q
  | ok b1 E1 B1 =>
    rw [h1] at q
    intro ρ1 H1 A1
    cases b1 with
    | true =>
      simp only [O.bind_ok, if_true] at q ⊢
      refine hb F ρ1 E1 B1 σ H1 _ A1.rel ?_
      cases h2 : fu E1 B1 with
      | bad => rw [h2] at q; exact q
      | ex c E' B' => rw [h2] at q; exact q
      | ok b2 E2 B2 => rw [h2] at q; exact fun ρ2 H2 A2 => q ρ2 H2 (A1.trans A2)
    | false =>
      simp only [O.bind_ok, Bool.false_eq_true, if_false] at q ⊢
      exact q ρ1 H1 A1
theorem sndW_or {rest : List Expr} (ha : SndT X a ft) (hb : SndW X (.BoolOp .Or (b :: rest) pos) fu) : SndW X (.BoolOp .Or (a :: b :: rest) pos) (mOr ft fu) := by
  obtain ⟨t, p1, ha⟩ := ha
  obtain ⟨u, p2, hb⟩ := hb
  refine ⟨_, pw_or p1 p2, fun F ρ E B σ H Q rl q => ?_⟩
  refine ha F ρ E B σ H _ rl ?_
  simp only [mOr] at q
  cases h1 : ft E B with
  | bad => rw [h1] at q; exact q
  | ex c E' B' => rw [h1] at q; exact q
  | ok b1 E1 B1 =>
    rw [h1] at q
    intro ρ1 H1 A1
    cases b1 with
    | false =>
      simp only [O.bind_ok, Bool.false_eq_true, if_false] at q ⊢
      refine hb F ρ1 E1 B1 σ H1 _ A1.rel ?_
      cases h2 : fu E1 B1 with
      | bad => rw [h2] at q; exact q
      | ex c E' B' => rw [h2] at q; exact q
      | ok b2 E2 B2 => rw [h2] at q; exact fun ρ2 H2 A2 => q ρ2 H2 (A1.trans A2)
    | true =>
      simp only [O.bind_ok, if_true] at q ⊢
      exact q ρ1 H1 A1
theorem sndT_not (ha : SndT X a ft) : SndT X (.UnaryOp .Not a pos) (mNot ft) := by
  obtain ⟨t, p1, ha⟩ := ha
  refine ⟨_, pt_not p1, fun F ρ E B σ H Q rl q => ?_⟩
  refine ha F ρ E B σ H _ rl ?_
  simp only [mNot] at q
  cases h1 : ft E B with
  | bad => rw [h1] at q; exact q
  | ex c E' B' => rw [h1] at q; exact q
  | ok b1 E1 B1 => rw [h1] at q; exact fun ρ1 H1 A1 => q ρ1 H1 A1
/-- .. as values -/
theorem toB_ok {t : TE} (h : ∀ F ρ E B σ H Q, Rel X.K F ρ E B σ H → PostE X.K F ρ E B σ H (fa E B) Q → t σ H Q) {F : Fm} {ρ : List Addr} {E : En} {B : Bx} {σ : L2.St} {H : Hp} (rl : Rel X.K F ρ E B σ H)
    {Q : VK} (q : match toT fa E B with | .ok b E1 B1 => ∀ ρ1 H1, AftT X.K F ρ E B σ H ρ1 E1 B1 H1 → Q (.bl b) H1 | _ => False) : t σ H Q := by
  refine h F ρ E B σ H _ rl ?_
  simp only [toT] at q
  cases h1 : fa E B with
  | bad => rw [h1] at q; exact q
  | ex c E' B' => rw [h1] at q; exact q
  | ok r1 E1 B1 =>
    rw [h1] at q
    intro ρ1 H1 v1 A1
    simp only [O.bind_ok] at q
    cases r1 with
    | w u =>
      cases u with
      | bl b =>
        have rr := A1.rep
        simp only [RepR, Rep] at rr
        rw [rr]
        exact q ρ1 H1 A1.letgo
      | _ => exact q.elim
    | _ => exact q.elim
theorem sndE_one {op} (h : SndE X a fa) : SndE X (.BoolOp op [a] pos) fa := by
  obtain ⟨t, h1, h2⟩ := h
  exact ⟨t, pe_one h1, h2⟩
theorem postE_then {K : PySem.W.Frag} {F : Fm} {ρ ρ1 : List Addr} {E E1 : En} {B B1 : Bx} {σ : L2.St} {H H1 : Hp} {Q : VK} {o : O R} (A : AftT K F ρ E B σ H ρ1 E1 B1 H1) (q : PostE K F ρ E B σ H o Q) : PostE K F ρ1 E1 B1 σ H1 o Q := by
  cases o with
  | bad => exact q
  | ex _ _ _ => exact q
  | ok r E2 B2 => exact fun ρ2 H2 v A2 => q ρ2 H2 v (A.then A2)
theorem sndE_and {rest : List Expr} (ha : SndE X a fa) (hb : SndE X (.BoolOp .And (b :: rest) pos) fb) : SndE X (.BoolOp .And (a :: b :: rest) pos) (mAndV fa fb) := by
  obtain ⟨t, p1, ha⟩ := ha
  obtain ⟨u, p2, hb⟩ := hb
  refine ⟨_, pe_and p1 p2, fun F ρ E B σ H Q rl q => ?_⟩
  refine toB_ok ha rl ?_
  simp only [mAndV] at q
  cases h1 : toT fa E B with
  | bad => rw [h1] at q; exact q
  | ex c E' B' => rw [h1] at q; exact q
  | ok b1 E1 B1 =>
    rw [h1] at q
    intro ρ1 H1 A1
    refine ⟨b1, rfl, ?_⟩
    cases b1 with
    | true =>
      simp only [O.bind_ok, if_true] at q ⊢
      exact hb F ρ1 E1 B1 σ H1 Q A1.rel (postE_then A1 q)
    | false =>
      simp only [O.bind_ok, Bool.false_eq_true, if_false] at q ⊢
      exact q ρ1 H1 _ (A1.then (Aft.val A1.rel (by simp [Rep])))
theorem sndE_or {rest : List Expr} (ha : SndE X a fa) (hb : SndE X (.BoolOp .Or (b :: rest) pos) fb) : SndE X (.BoolOp .Or (a :: b :: rest) pos) (mOrV fa fb) := by
  obtain ⟨t, p1, ha⟩ := ha
  obtain ⟨u, p2, hb⟩ := hb
  refine ⟨_, pe_or p1 p2, fun F ρ E B σ H Q rl q => ?_⟩
  refine toB_ok ha rl ?_
  simp only [mOrV] at q
  cases h1 : toT fa E B with
  | bad => rw [h1] at q; exact q
  | ex c E' B' => rw [h1] at q; exact q
  | ok b1 E1 B1 =>
    rw [h1] at q
    intro ρ1 H1 A1
    refine ⟨b1, rfl, ?_⟩
    cases b1 with
    | false =>
      simp only [O.bind_ok, Bool.false_eq_true, if_false] at q ⊢
      exact hb F ρ1 E1 B1 σ H1 Q A1.rel (postE_then A1 q)
    | true =>
      simp only [O.bind_ok, if_true] at q ⊢
      exact q ρ1 H1 _ (A1.then (Aft.val A1.rel (by simp [Rep])))
theorem sndE_not (ha : SndE X a fa) : SndE X (.UnaryOp .Not a pos) (mNotV fa) := by
  obtain ⟨t, p1, ha⟩ := ha
  refine ⟨_, pe_not p1, fun F ρ E B σ H Q rl q => ?_⟩
  refine toB_ok ha rl ?_
  simp only [mNotV] at q
  cases h1 : toT fa E B with
  | bad => rw [h1] at q; exact q
  | ex c E' B' => rw [h1] at q; exact q
  | ok b1 E1 B1 =>
    rw [h1] at q
    intro ρ1 H1 A1
    exact ⟨b1, rfl, q ρ1 H1 _ (A1.then (Aft.val A1.rel (by simp [Rep])))⟩
theorem sndE_if (ht : SndT X c ft) (ha : SndE X a fa) (hb : SndE X b fb) : SndE X (.IfExp c a b pos) (mIf ft fa fb) := by
  obtain ⟨t, p1, ht⟩ := ht
  obtain ⟨u, p2, ha⟩ := ha
  obtain ⟨u', p3, hb⟩ := hb
  refine ⟨_, pe_ifExp p1 p2 p3, fun F ρ E B σ H Q rl q => ?_⟩
  refine ht F ρ E B σ H _ rl ?_
  simp only [mIf] at q
  cases h1 : ft E B with
  | bad => rw [h1] at q; exact q
  | ex c E' B' => rw [h1] at q; exact q
  | ok b1 E1 B1 =>
    rw [h1] at q
    intro ρ1 H1 A1
    cases b1 with
    | true =>
      simp only [O.bind_ok, if_true] at q ⊢
      exact ha F ρ1 E1 B1 σ H1 Q A1.rel (postE_then A1 q)
    | false =>
      simp only [O.bind_ok, Bool.false_eq_true, if_false] at q ⊢
      exact hb F ρ1 E1 B1 σ H1 Q A1.rel (postE_then A1 q)
/-! ### boxes -/
theorem Rel.push {K : PySem.W.Frag} {F : Fm} {ρ : List Addr} {E : En} {B : Bx} {σ : L2.St} {H : Hp} {p : Addr} {o : Option HO} {c : Cell} (r : Rel K (F.add p o) ρ E B σ H) (n : New F p) (hl : c.live = true) (hc : CellOk K H (LvF (F.add p o) ρ E B σ) ρ c p) :
    Rel K F (ρ ++ [p]) E (B ++ [c]) σ H ∧ (∀ q, LvF F (ρ ++ [p]) E (B ++ [c]) σ q ↔ LvF (F.add p o) ρ E B σ q) := by
  have bl := r.blen
  have blv : ∀ q, BLv (ρ ++ [p]) (B ++ [c]) q ↔ BLv ρ B q ∨ q = p := fun q => by
    constructor
    · rintro ⟨i, d, h1, h2, h3⟩
      by_cases hi : i < B.length
      · rw [List.getElem?_append_left hi] at h1
        rw [List.getElem?_append_left (by omega)] at h3
        exact .inl ⟨i, d, h1, h2, h3⟩
      · have hi2 : i = B.length := by
          have := (List.getElem?_eq_some_iff.mp h1).1
          simp at this; omega
        subst hi2
        rw [List.getElem?_append_right (by omega)] at h3
        simp [bl] at h3
        exact .inr h3.symm
    · rintro (⟨i, d, h1, h2, h3⟩ | rfl)
      · exact ⟨i, d, by rw [List.getElem?_append_left (List.getElem?_eq_some_iff.mp h1).1]; exact h1, h2, by rw [List.getElem?_append_left (List.getElem?_eq_some_iff.mp h3).1]; exact h3⟩
      · exact ⟨B.length, c, by simp, hl, by rw [← bl]; simp⟩
  have lv : ∀ q, LvF F (ρ ++ [p]) E (B ++ [c]) σ q ↔ LvF (F.add p o) ρ E B σ q := fun q => by
    rw [LvF.add_iff]
    unfold LvF
    rw [blv]
    constructor
    · rintro (h | (h | h) | h)
      · exact .inl (.inl h)
      · exact .inl (.inr (.inl h))
      · exact .inr h
      · exact .inl (.inr (.inr h))
    · rintro ((h | h | h) | h)
      · exact .inl h
      · exact .inr (.inl (.inl h))
      · exact .inr (.inr h)
      · exact .inr (.inl (.inr h))
  have s : Stp H (LvF (F.add p o) ρ E B σ) H (LvF F (ρ ++ [p]) E (B ++ [c]) σ) := Stp.less fun q z => (lv q).mp z
  have px : ρ <+: ρ ++ [p] := List.prefix_append _ _
  have nbp := Rel.notLv r n
  refine ⟨⟨r.elen, by simp [bl], fun i u h => ?_, fun i d h => ?_, r.oinj, fun i d q h1 h2 h3 => ?_, fun i j d d' q h1 h2 h3 h4 h5 h6 => ?_, fun q h => ?_, fun q u h z => ?_, fun q u h => ?_⟩, lv⟩
  · obtain ⟨v, h1, h2⟩ := r.val i u h
    exact ⟨v, h1, h2.mono s px⟩
  · obtain ⟨h1, q, h2, h3, h4, h5⟩ := r.own i d h
    exact ⟨h1, q, h2, h3.mono s px rfl, fun z => h4 (.inl z), fun z => ((blv q).mp z).elim h5 fun e => h4 (.inr e)⟩
  · by_cases hi : i < B.length
    · rw [List.getElem?_append_left hi] at h1
      rw [List.getElem?_append_left (by omega)] at h3
      obtain ⟨h4, h5⟩ := r.box i d q h1 h2 h3
      exact ⟨h4.mono s px rfl, fun z => h5 (.inl z)⟩
    · have hi2 : i = B.length := by
        have := (List.getElem?_eq_some_iff.mp h1).1
        simp at this; omega
      subst hi2
      rw [List.getElem?_append_right (by omega)] at h3
      simp [bl] at h3
      rw [List.getElem?_append_right (by omega)] at h1
      simp at h1
      subst h3 h1
      exact ⟨hc.mono s px rfl, n.out⟩
  · have key : ∀ (i : Nat) (d : Cell), (B ++ [c])[i]? = some d → (ρ ++ [p])[i]? = some q → d.live = true → (i < B.length ∧ B[i]? = some d ∧ ρ[i]? = some q ∧ q ≠ p) ∨ (i = B.length ∧ q = p) := fun i d h1 h3 h2 => by
      by_cases hi : i < B.length
      · rw [List.getElem?_append_left hi] at h1
        rw [List.getElem?_append_left (by omega)] at h3
        exact .inl ⟨hi, h1, h3, fun e => (r.box i d q h1 h2 h3).2 (.inr e)⟩
      · have hi2 : i = B.length := by
          have := (List.getElem?_eq_some_iff.mp h1).1
          simp at this; omega
        subst hi2
        rw [List.getElem?_append_right (by omega)] at h3
        simp [bl] at h3
        exact .inr ⟨rfl, h3.symm⟩
    rcases key i d h1 h5 h2 with ⟨_, a1, a2, a3⟩ | ⟨a1, a2⟩ <;> rcases key j d' h3 h6 h4 with ⟨_, b1, b2, b3⟩ | ⟨b1, b2⟩
    · exact r.binj i j d d' q a1 h2 b1 h4 a2 b2
    · exact absurd b2 a3
    · exact absurd a2 b3
    · omega
  · have ne : q ≠ p := fun z => n.out (z ▸ h)
    have e := r.out q (.inl h)
    simpa [Fm.add, ne] using e
  · have ne : q ≠ p := fun y => by rw [y, n.h0] at h; cases h
    have := r.old q u (by simp [Fm.add, ne, h]) (fun y => y.elim z ne)
    exact ⟨this.1, fun y => this.2 ((lv q).mp y)⟩
  · have ne : q ≠ p := fun y => by rw [y, n.h0] at h; cases h
    exact r.grow q u (by simp [Fm.add, ne, h])
theorem sndE_box (ha : SndE X a fa) : SndE X a (mBox fa) := by
  obtain ⟨t, p1, ha⟩ := ha
  refine ⟨t, p1, fun F ρ E B σ H Q rl q => ?_⟩
  refine ha F ρ E B σ H _ rl ?_
  simp only [mBox] at q
  cases h1 : fa E B with
  | bad => rw [h1] at q; exact q
  | ex c E' B' => rw [h1] at q; exact q
  | ok r1 E1 B1 =>
    rw [h1] at q
    intro ρ1 H1 v1 A1
    simp only [O.bind_ok] at q
    cases r1 with
    | w u => exact q.elim
    | s i => exact q.elim
    | fr c =>
      have rr := A1.rep
      obtain ⟨p, rfl, hl, hc, hn⟩ := rr
      have r0 := A1.rel
      obtain ⟨r2, lv⟩ := Rel.push (o := H1 p) r0 hn hl hc
      have bl := r0.blen
      refine q (ρ1 ++ [p]) H1 (.ref p) ⟨A1.px.trans (List.prefix_append _ _), r2, A1.stp.trans (Stp.less fun y z => (lv y).mp z), A1.le, ?_⟩
      simp only [RepR, Rep]
      exact ⟨p, by rw [← bl]; simp, rfl⟩
end
end QB
/-! QbD: the operators by values, == , in, is. -/
namespace QB
open PySem L2
section
variable {K : PySem.W.Frag} {H : Hp} {Lv : AS} {ρ : List Addr} {v : V}
theorem top_int {i : Int} (t : Top K H Lv ρ (.int i) v) : v = .int i := by simpa [Top, Rep] using t
theorem top_bl {i : Bool} (t : Top K H Lv ρ (.bl i) v) : v = .bl i := by simpa [Top, Rep] using t
theorem top_str {i : Str} (t : Top K H Lv ρ (.str i) v) : v = .str i := by simpa [Top, Rep] using t
theorem top_non (t : Top K H Lv ρ .non v) : v = .non := by simpa [Top, Rep] using t
end
section
variable {X : Cx}
def gII (C : Int → Int → Bool) (g : Int → Int → Int) : U → U → Option R
  | .int i, .int j => if C i j = true then some (.w (.int (g i j))) else none
  | _, _ => none
def gIB (g : Int → Int → Bool) : U → U → Option R
  | .int i, .int j => some (.w (.bl (g i j)))
  | _, _ => none
def gSB (g : Str → Str → Bool) : U → U → Option R
  | .str i, .str j => some (.w (.bl (g i j)))
  | _, _ => none
theorem op2_II {op : Value → Value → Sem Value} {P : Int → Int → Prop} {C : Int → Int → Bool} {g : Int → Int → Int} (h : OpR X op (rI P fun i j => .int (g i j))) (hc : ∀ i j, C i j = true → P i j) : Op2S X op (gII C g) := by
  refine ⟨_, h, fun F ρ E B σ H u1 u2 v1 v2 r3 Q rl t1 t2 e q => ?_⟩
  unfold gII at e
  split at e
  · next i j =>
    split at e
    · next c =>
      cases e
      exact ⟨i, j, top_int t1, top_int t2, hc i j c, q H _ (Aft.val rl (by simp [Rep]))⟩
    · cases e
  · cases e
theorem op2_II0 {op : Value → Value → Sem Value} {g : Int → Int → Int} (h : OpR X op (rI0 fun i j => .int (g i j))) : Op2S X op (gII (fun _ _ => true) g) := by
  refine ⟨_, h, fun F ρ E B σ H u1 u2 v1 v2 r3 Q rl t1 t2 e q => ?_⟩
  unfold gII at e
  split at e
  · next i j =>
    cases e
    exact ⟨i, j, top_int t1, top_int t2, q H _ (Aft.val rl (by simp [Rep]))⟩
  · cases e
theorem op2_IB {op : Value → Value → Sem Value} {g : Int → Int → Bool} (h : OpR X op (rI0 fun i j => .bl (g i j))) : Op2S X op (gIB g) := by
  refine ⟨_, h, fun F ρ E B σ H u1 u2 v1 v2 r3 Q rl t1 t2 e q => ?_⟩
  unfold gIB at e
  split at e
  · next i j =>
    cases e
    exact ⟨i, j, top_int t1, top_int t2, q H _ (Aft.val rl (by simp [Rep]))⟩
  · cases e
theorem op2_SB {op : Value → Value → Sem Value} {g : Str → Str → Bool} (h : OpR X op (fun x y H Q => ∃ i j, x = .str i ∧ y = .str j ∧ Q (.bl (g i j)) H)) : Op2S X op (gSB g) := by
  refine ⟨_, h, fun F ρ E B σ H u1 u2 v1 v2 r3 Q rl t1 t2 e q => ?_⟩
  unfold gSB at e
  split at e
  · next i j =>
    cases e
    exact ⟨i, j, top_str t1, top_str t2, q H _ (Aft.val rl (by simp [Rep]))⟩
  · cases e
def gCatS : U → U → Option R
  | .str i, .str j => if i.length + j.length ≤ 16777216 then some (.w (.str (i ++ j))) else none
  | _, _ => none
def gCatL : U → U → Option R
  | .lst i, .lst j => if i.length + j.length ≤ 16777216 then some (.fr (.lst (i ++ j))) else none
  | _, _ => none
def gCatT : U → U → Option R
  | .tup i, .tup j => if i.length + j.length ≤ 16777216 then some (.w (.tup (i ++ j))) else none
  | _, _ => none
/-- small enough: read off the number's own form, so that no check counts up to the bound -/
def within (n : Nat) : Int → Bool
  | .ofNat k => Nat.ble k n
  | .negSucc k => Nat.ble k n
theorem within_iff {n : Nat} {i : Int} : within n i = true ↔ -(n : Int) - 1 ≤ i ∧ i ≤ n := by
  cases i with
  | ofNat k =>
    show Nat.ble k n = true ↔ _
    rw [Nat.ble_eq]
    show k ≤ n ↔ -(n : Int) - 1 ≤ (k : Int) ∧ (k : Int) ≤ n
    omega
  | negSucc k =>
    show Nat.ble k n = true ↔ _
    rw [Nat.ble_eq]
    omega
def I62 : Int → Bool := within 4611686018427387903
theorem i62_iff {j : Int} : I62 j = true ↔ (-(2 ^ 62) ≤ j ∧ j < 2 ^ 62) := by
  unfold I62
  rw [within_iff]
  omega
theorem i62 {j : Int} (h : -1000000000 ≤ j) (h2 : j ≤ 1000000000) : I62 j = true := i62_iff.mpr (by omega)
def gRep : U → U → Option R
  | .lst i, .int k => if I62 k = true ∧ i.length * k.toNat ≤ 16777216 then some (.fr (.lst (List.replicate k.toNat i).flatten)) else none
  | _, _ => none
theorem op2_catS : Op2S X (binaryOp .Add) gCatS := by
  refine ⟨_, op_add_str, fun F ρ E B σ H u1 u2 v1 v2 r3 Q rl t1 t2 e q => ?_⟩
  unfold gCatS at e
  split at e
  · next i j =>
    split at e
    · next c =>
      cases e
      exact ⟨i, j, top_str t1, top_str t2, by rw [sizeLine_eq]; exact c, q H _ (Aft.val rl (by simp [Rep]))⟩
    · cases e
  · cases e
theorem op2_icatS : Op2S X (inplaceOp .Add) gCatS := by
  refine ⟨_, iop_add_str, fun F ρ E B σ H u1 u2 v1 v2 r3 Q rl t1 t2 e q => ?_⟩
  unfold gCatS at e
  split at e
  · next i j =>
    split at e
    · next c =>
      cases e
      exact ⟨i, j, top_str t1, top_str t2, by rw [sizeLine_eq]; exact c, q H _ (Aft.val rl (by simp [Rep]))⟩
    · cases e
  · cases e
theorem op2_catL : Op2S X (binaryOp .Add) gCatL := by
  refine ⟨_, op_cat, fun F ρ E B σ H u1 u2 v1 v2 r3 Q rl t1 t2 e q => ?_⟩
  unfold gCatL at e
  split at e
  · next i j =>
    split at e
    · next c =>
      cases e
      obtain ⟨p1, xs, rfl, h1, r1⟩ := t1
      obtain ⟨p2, ys, rfl, h2, r2⟩ := t2
      refine ⟨p1, p2, xs, ys, rfl, rfl, h1, h2, by rw [sizeLine_eq, ← r1.len, ← r2.len]; exact c, fun p hp => q _ _ (Aft.fresh rl hp (r1.append r2))⟩
    · cases e
  · cases e
theorem op2_catT : Op2S X (binaryOp .Add) gCatT := by
  refine ⟨_, op_catA, fun F ρ E B σ H u1 u2 v1 v2 r3 Q rl t1 t2 e q => ?_⟩
  unfold gCatT at e
  split at e
  · next i j =>
    split at e
    · next c =>
      cases e
      obtain ⟨p1, xs, rfl, h1, r1⟩ := t1
      obtain ⟨p2, ys, rfl, h2, r2⟩ := t2
      have s1 : SqT X.K H p1 xs := sqT_of h1
      have s2 : SqT X.K H p2 ys := sqT_of h2
      refine ⟨p1, p2, xs, ys, rfl, rfl, s1, s2, by rw [sizeLine_eq, ← r1.len, ← r2.len]; exact c, fun e => ?_, fun e1 e2 => ?_, fun e1 e2 p hp => q _ _ (Aft.tuple rl hp (r1.append r2))⟩
      · have : i = [] := by have := r1.len; rw [e] at this; simpa using this
        subst this
        exact q _ _ (Aft.val rl (by simp only [List.nil_append, Rep]; exact ⟨p2, ys, rfl, h2, r2⟩))
      · have : j = [] := by have := r2.len; rw [e2] at this; simpa using this
        subst this
        exact q _ _ (Aft.val rl (by simp only [List.append_nil, Rep]; exact ⟨p1, xs, rfl, h1, r1⟩))
    · cases e
  · cases e
theorem op2_rep : Op2S X (binaryOp .Mult) gRep := by
  refine ⟨_, op_rep, fun F ρ E B σ H u1 u2 v1 v2 r3 Q rl t1 t2 e q => ?_⟩
  unfold gRep at e
  split at e
  · next i k =>
    split at e
    · next c =>
      cases e
      obtain ⟨p1, xs, rfl, h1, r1⟩ := t1
      have hr : ∀ n : Nat, Reps X.K H (LvF F ρ E B σ) ρ (List.replicate n i).flatten (List.replicate n xs).flatten := by
        intro n
        induction n with
        | zero => simp [Reps]
        | succ n ih => rw [List.replicate_succ, List.replicate_succ, List.flatten_cons, List.flatten_cons]; exact r1.append ih
      have cc := i62_iff.mp c.1
      refine ⟨p1, k, xs, rfl, top_int t2, h1, by omega, by omega, by rw [sizeLine_eq, ← r1.len]; exact c.2, fun p hp => q _ _ (Aft.fresh rl hp (hr _))⟩
    · cases e
  · cases e
/-! ### ints -/
def cMul (i j : Int) : Bool := within 9223372036854775807 i || (within 9223372036854775807 j || decide (i.natAbs.log2 + j.natAbs.log2 < 1000000))
theorem cMul_iff {i j : Int} : cMul i j = true ↔ (-9223372036854775808 ≤ i ∧ i ≤ 9223372036854775807) ∨ (-9223372036854775808 ≤ j ∧ j ≤ 9223372036854775807) ∨ i.natAbs.log2 + j.natAbs.log2 < 1000000 := by
  unfold cMul
  rw [Bool.or_eq_true, Bool.or_eq_true, within_iff, within_iff, decide_eq_true_iff]
  exact Iff.rfl
def cDiv (_ j : Int) : Bool := within 99999999999999999999999999999999999999999999999999 j && decide (0 < j)
theorem cDiv_iff {i j : Int} : cDiv i j = true ↔ (-99999999999999999999999999999999999999999999999999 - 1 ≤ j ∧ j ≤ 99999999999999999999999999999999999999999999999999) ∧ 0 < j := by
  unfold cDiv
  rw [Bool.and_eq_true, within_iff, decide_eq_true_iff]
  exact Iff.rfl
def cMod (_ j : Int) : Bool := decide (0 < j)
def cPow (i j : Int) : Bool := within 1000000 j && (decide (0 ≤ j) && within 9223372036854775807 i)
theorem cPow_iff {i j : Int} : cPow i j = true ↔ (-1000001 ≤ j ∧ j ≤ 1000000) ∧ 0 ≤ j ∧ (-9223372036854775808 ≤ i ∧ i ≤ 9223372036854775807) := by
  unfold cPow
  rw [Bool.and_eq_true, Bool.and_eq_true, within_iff, decide_eq_true_iff, within_iff]
  exact Iff.rfl
theorem op_mulA : OpR X (binaryOp .Mult) (rI (fun i j => CMul i j ∨ CMulW i j) fun i j => .int (i * j)) := by
  intro pins s σ H x y v u Q I rx ry h
  obtain ⟨i, j, h1, h2, h3 | h3, q⟩ := h
  · exact op_mul pins s σ H x y v u Q I rx ry ⟨i, j, h1, h2, h3, q⟩
  · exact op_mulW pins s σ H x y v u Q I rx ry ⟨i, j, h1, h2, h3, q⟩
theorem op2_add : Op2S X (binaryOp .Add) (gII (fun _ _ => true) (· + ·)) := op2_II0 op_add
theorem op2_sub : Op2S X (binaryOp .Sub) (gII (fun _ _ => true) (· - ·)) := op2_II0 op_sub
theorem op2_iadd : Op2S X (inplaceOp .Add) (gII (fun _ _ => true) (· + ·)) := op2_II0 iop_add
theorem op2_isub : Op2S X (inplaceOp .Sub) (gII (fun _ _ => true) (· - ·)) := op2_II0 iop_sub
theorem op2_mul : Op2S X (binaryOp .Mult) (gII cMul (· * ·)) := op2_II op_mulA fun i j h => by
  rcases cMul_iff.mp h with h | h | h
  · exact .inl (.inl (by omega))
  · exact .inl (.inr (by omega))
  · exact .inr h
theorem op2_fdiv : Op2S X (binaryOp .FloorDiv) (gII cDiv (· / ·)) := op2_II op_fdivW fun i j h => by
  obtain ⟨⟨_, h2⟩, h1⟩ := cDiv_iff.mp h
  refine ⟨h1, ?_⟩
  have h3 : j.natAbs < 2 ^ 200 := by
    have h4 : (j.natAbs : Int) < 2 ^ 200 := by omega
    exact_mod_cast h4
  have h5 : j.natAbs.log2 < 200 := (Nat.log2_lt (by omega)).mpr h3
  omega
theorem op2_mod : Op2S X (binaryOp .Mod) (gII cMod (· % ·)) := op2_II op_mod fun i j h => of_decide_eq_true h
theorem op2_pow : Op2S X (binaryOp .Pow) (gII cPow fun i j => i ^ j.toNat) := op2_II op_pow fun i j h => (show 0 ≤ j ∧ j ≤ 1000000 ∧ i.natAbs < 2 ^ 64 from by have := cPow_iff.mp h; omega)
theorem op2_ltI : Op2S X (compareOp .Lt) (gIB fun i j => decide (i < j)) := op2_IB op_lt
theorem op2_leI : Op2S X (compareOp .LtE) (gIB fun i j => decide (i ≤ j)) := op2_IB op_le
theorem op2_gtI : Op2S X (compareOp .Gt) (gIB fun i j => decide (j < i)) := op2_IB op_gt
theorem op2_geI : Op2S X (compareOp .GtE) (gIB fun i j => decide (j ≤ i)) := op2_IB op_ge
theorem op2_ltS : Op2S X (compareOp .Lt) (gSB fun i j => decide (i.cps.toList < j.cps.toList)) := op2_SB op_lt_str
theorem op2_leS : Op2S X (compareOp .LtE) (gSB fun i j => !decide (j.cps.toList < i.cps.toList)) := op2_SB op_le_str
theorem op2_gtS : Op2S X (compareOp .Gt) (gSB fun i j => decide (j.cps.toList < i.cps.toList)) := op2_SB op_gt_str
theorem op2_geS : Op2S X (compareOp .GtE) (gSB fun i j => !decide (i.cps.toList < j.cps.toList)) := op2_SB op_ge_str
/-! ### == -/
mutual
def toD : U → Option PyData
  | .non => some .none
  | .bl b => some (.bool b)
  | .int i => some (.int i)
  | .str x => some (.str x)
  | .lst us => (toDs us).map .list
  | .tup us => (toDs us).map .tuple
  | .dct _ _ => none
  | .box _ => none
  | .scr ns => some (.list (ns.map .int))
def toDs : List U → Option (List PyData)
  | [] => some []
  | u :: us => match toD u, toDs us with
    | some d, some ds => some (d :: ds)
    | _, _ => none
end
section
variable {K : PySem.W.Frag} {H : Hp} {Lv : AS} {ρ : List Addr}
theorem dp_ints (ns : List Int) : DpAll K H (ns.map V.int) (ns.map .int) := by
  induction ns with
  | nil => exact .nil
  | cons n r ih => exact .cons (.int n) ih
mutual
theorem Rep.dp : ∀ (u : U) (v : V) (d : PyData), Rep K H Lv ρ u v → toD u = some d → Dp K H v d
  | .non, v, d, h, e => by simp only [Rep] at h; subst h; simp only [toD, Option.some.injEq] at e; subst e; exact .non
  | .bl b, v, d, h, e => by simp only [Rep] at h; subst h; simp only [toD, Option.some.injEq] at e; subst e; exact .bl b
  | .int i, v, d, h, e => by simp only [Rep] at h; subst h; simp only [toD, Option.some.injEq] at e; subst e; exact .int i
  | .str x, v, d, h, e => by simp only [Rep] at h; subst h; simp only [toD, Option.some.injEq] at e; subst e; exact .str x
  | .lst us, v, d, h, e => by
    simp only [Rep] at h
    obtain ⟨p, vs, rfl, ⟨h1, _⟩, h2⟩ := h
    simp only [toD, Option.map_eq_some_iff] at e
    obtain ⟨ds, e1, rfl⟩ := e
    exact .lst (.inl (.inl h1)) (Reps.dp us vs ds h2 e1)
  | .tup us, v, d, h, e => by
    simp only [Rep] at h
    obtain ⟨p, vs, rfl, h1, h2⟩ := h
    simp only [toD, Option.map_eq_some_iff] at e
    obtain ⟨ds, e1, rfl⟩ := e
    refine .tup ?_ (Reps.dp us vs ds h2 e1)
    rcases h1 with h1 | h1
    · exact .inl h1.1
    · exact .inr h1
  | .dct _ _, _, _, _, e => by simp [toD] at e
  | .box _, _, _, _, e => by simp [toD] at e
  | .scr ns, v, d, h, e => by
    simp only [Rep] at h
    obtain ⟨p, rfl, h1⟩ := h
    simp only [toD, Option.some.injEq] at e
    subst e
    exact .lst (sqL_of h1) (dp_ints ns)
theorem Reps.dp : ∀ (us : List U) (vs : List V) (ds : List PyData), Reps K H Lv ρ us vs → toDs us = some ds → DpAll K H vs ds
  | [], vs, ds, h, e => by simp only [Reps] at h; subst h; simp only [toDs, Option.some.injEq] at e; subst e; exact .nil
  | u :: us, vs, ds, h, e => by
    simp only [Reps] at h
    obtain ⟨v, r, rfl, h1, h2⟩ := h
    simp only [toDs] at e
    split at e
    · next d ds' e1 e2 => cases e; exact .cons (Rep.dp u v d h1 e1) (Reps.dp us r ds' h2 e2)
    · cases e
end
theorem Top.dp {u : U} {v : V} {d : PyData} (t : Top K H Lv ρ u v) (e : toD u = some d) : Dp K H v d := by
  cases u with
  | lst us =>
    obtain ⟨p, vs, rfl, h1, h2⟩ := t
    simp only [toD, Option.map_eq_some_iff] at e
    obtain ⟨ds, e1, rfl⟩ := e
    exact .lst (.inl (.inl h1)) (Reps.dp us vs ds h2 e1)
  | tup us =>
    obtain ⟨p, vs, rfl, h1, h2⟩ := t
    simp only [toD, Option.map_eq_some_iff] at e
    obtain ⟨ds, e1, rfl⟩ := e
    exact .tup (sqT_of h1) (Reps.dp us vs ds h2 e1)
  | dct _ _ => simp [toD] at e
  | box i => exact t.elim
  | non => exact Rep.dp _ _ _ t e
  | bl _ => exact Rep.dp _ _ _ t e
  | int _ => exact Rep.dp _ _ _ t e
  | str _ => exact Rep.dp _ _ _ t e
  | scr _ => exact Rep.dp _ _ _ t e
end
/-- texts alone need no look at their signs -/
def eqU (a b : U) : Option Bool :=
  match a, b with
  | .str x, .str y => some (x == y)
  | .int x, .int y => some (x == y)
  | .str _, .int _ => some false
  | .int _, .str _ => some false
  | .non, .str _ => some false
  | .str _, .non => some false
  | a, b => match toD a, toD b with
    | some d, some e => if (SeqAt.shaped d && SeqAt.shaped e) = true then some (PyData.eqv d e) else none
    | _, _ => none
def gEq (a b : U) : Option R := (eqU a b).map fun k => .w (.bl k)
def gNe (a b : U) : Option R := (eqU a b).map fun k => .w (.bl (!k))
theorem op2_eq (hu : X.A.units + 64 < cLine) : Op2S X (compareOp .Eq) gEq := by
  refine ⟨_, op_eq.or (op_eqD hu), fun F ρ E B σ H u1 u2 v1 v2 r3 Q rl t1 t2 e q => ?_⟩
  simp only [gEq, Option.map_eq_some_iff] at e
  obtain ⟨k, e, rfl⟩ := e
  have fin : Q (.bl k) H := q H _ (Aft.val rl (by simp [Rep]))
  unfold eqU at e
  split at e
  · next x y => cases e; rw [top_str t1, top_str t2]; exact .inl ⟨rfl, by rw [dec_str]; exact fin⟩
  · next x y => cases e; rw [top_int t1, top_int t2]; exact .inl ⟨rfl, by rw [dec_int]; exact fin⟩
  · next x y => cases e; rw [top_str t1, top_int t2]; exact .inl ⟨rfl, by simpa using fin⟩
  · next x y => cases e; rw [top_int t1, top_str t2]; exact .inl ⟨rfl, by simpa using fin⟩
  · next x => cases e; rw [top_non t1, top_str t2]; exact .inl ⟨rfl, by simpa using fin⟩
  · next x => cases e; rw [top_str t1, top_non t2]; exact .inl ⟨rfl, by simpa using fin⟩
  · split at e
    · next d d' e1 e2 =>
      split at e
      · next hs =>
        cases e
        simp only [Bool.and_eq_true] at hs
        exact .inr ⟨d, d', t1.dp e1, t2.dp e2, hs.1, hs.2, fin⟩
      · cases e
    · cases e
theorem op2_ne (hu : X.A.units + 64 < cLine) : Op2S X (compareOp .NotEq) gNe := by
  refine ⟨_, op_ne.or (op_neD hu), fun F ρ E B σ H u1 u2 v1 v2 r3 Q rl t1 t2 e q => ?_⟩
  simp only [gNe, Option.map_eq_some_iff] at e
  obtain ⟨k, e, rfl⟩ := e
  have fin : Q (.bl (!k)) H := q H _ (Aft.val rl (by simp [Rep]))
  unfold eqU at e
  split at e
  · next x y => cases e; rw [top_str t1, top_str t2]; exact .inl ⟨rfl, by rw [dec_str]; exact fin⟩
  · next x y => cases e; rw [top_int t1, top_int t2]; exact .inl ⟨rfl, by rw [dec_int]; exact fin⟩
  · next x y => cases e; rw [top_str t1, top_int t2]; exact .inl ⟨rfl, by simpa using fin⟩
  · next x y => cases e; rw [top_int t1, top_str t2]; exact .inl ⟨rfl, by simpa using fin⟩
  · next x => cases e; rw [top_non t1, top_str t2]; exact .inl ⟨rfl, by simpa using fin⟩
  · next x => cases e; rw [top_str t1, top_non t2]; exact .inl ⟨rfl, by simpa using fin⟩
  · split at e
    · next d d' e1 e2 =>
      split at e
      · next hs =>
        cases e
        simp only [Bool.and_eq_true] at hs
        exact .inr ⟨d, d', t1.dp e1, t2.dp e2, hs.1, hs.2, fin⟩
      · cases e
    · cases e
/-! ### is -/
def isNon : U → Bool
  | .non => true
  | _ => false
def gIs (neg : Bool) : U → U → Option R
  | a, .non => some (.w (.bl (if neg then !isNon a else isNon a)))
  | .bl a, .bl b => some (.w (.bl (if neg then !decide (a = b) else decide (a = b))))
  | _, _ => none
theorem isNon_top {K : PySem.W.Frag} {H : Hp} {Lv : AS} {ρ : List Addr} {u : U} {v : V} (t : Top K H Lv ρ u v) : decide (v = .non) = isNon u := by
  cases u with
  | non => rw [top_non t]; rfl
  | bl _ => rw [top_bl t]; rfl
  | int _ => rw [top_int t]; rfl
  | str _ => rw [top_str t]; rfl
  | lst _ => obtain ⟨p, vs, rfl, _⟩ := t; rfl
  | tup _ => obtain ⟨p, vs, rfl, _⟩ := t; rfl
  | dct _ _ => obtain ⟨p, vs, rfl, _⟩ := t; rfl
  | box _ => exact t.elim
  | scr _ => simp only [Top, Rep] at t; obtain ⟨p, rfl, _⟩ := t; rfl
theorem op2_is : Op2S X (compareOp .Is) (gIs false) := by
  refine ⟨_, op_isN.or op_is_bl, fun F ρ E B σ H u1 u2 v1 v2 r3 Q rl t1 t2 e q => ?_⟩
  unfold gIs at e
  split at e
  · cases e
    refine .inl ⟨top_non t2, ?_⟩
    rw [isNon_top t1]
    exact q H _ (Aft.val rl (by simp [Rep]))
  · next a b =>
    cases e
    exact .inr ⟨a, b, top_bl t1, top_bl t2, q H _ (Aft.val rl (by simp [Rep]))⟩
  · cases e
theorem op2_isnot : Op2S X (compareOp .IsNot) (gIs true) := by
  refine ⟨_, op_notN.or op_isnot_bl, fun F ρ E B σ H u1 u2 v1 v2 r3 Q rl t1 t2 e q => ?_⟩
  unfold gIs at e
  split at e
  · cases e
    refine .inl ⟨top_non t2, ?_⟩
    rw [isNon_top t1]
    exact q H _ (Aft.val rl (by simp [Rep]))
  · next a b =>
    cases e
    exact .inr ⟨a, b, top_bl t1, top_bl t2, q H _ (Aft.val rl (by simp [Rep]))⟩
  · cases e
/-! ### in -/
def flatU : U → Option V
  | .non => some .non
  | .bl b => some (.bl b)
  | .int i => some (.int i)
  | .str x => some (.str x)
  | _ => none
theorem flatU_top {K : PySem.W.Frag} {H : Hp} {Lv : AS} {ρ : List Addr} {u : U} {v x : V} (t : Top K H Lv ρ u v) (e : flatU u = some x) : v = x ∧ flatV v = true := by
  cases u <;> simp only [flatU, Option.some.injEq] at e <;> first | (cases e; done) | skip
  · rw [top_non t]; exact ⟨e, rfl⟩
  · rw [top_bl t]; exact ⟨e, rfl⟩
  · rw [top_int t]; exact ⟨e, rfl⟩
  · rw [top_str t]; exact ⟨e, rfl⟩
theorem flatU_rep {K : PySem.W.Frag} {H : Hp} {Lv : AS} {ρ : List Addr} {u : U} {v x : V} (t : Rep K H Lv ρ u v) (e : flatU u = some x) : v = x ∧ flatV v = true :=
  flatU_top (t.top fun i z => by subst z; cases e) e
def flatUs : List U → Option (List V)
  | [] => some []
  | u :: us => match flatU u, flatUs us with
    | some v, some vs => some (v :: vs)
    | _, _ => none
theorem flatUs_reps {K : PySem.W.Frag} {H : Hp} {Lv : AS} {ρ : List Addr} : ∀ {us : List U} {vs xs : List V}, Reps K H Lv ρ us vs → flatUs us = some xs → vs = xs ∧ vs.all flatV = true
  | [], vs, xs, h, e => by simp only [Reps] at h; subst h; simp only [flatUs, Option.some.injEq] at e; exact ⟨e, rfl⟩
  | u :: us, vs, xs, h, e => by
    simp only [Reps] at h
    obtain ⟨v, r, rfl, h1, h2⟩ := h
    simp only [flatUs] at e
    split at e
    · next a b e1 e2 =>
      cases e
      obtain ⟨h3, h4⟩ := flatU_rep h1 e1
      obtain ⟨h5, h6⟩ := flatUs_reps h2 e2
      exact ⟨by rw [h3, h5], by simp [h4, h6]⟩
    · cases e
def inStr (a z : Str) : Bool := if a.cps.size = 1 then decide (a.cps.getD 0 0 ∈ z.cps.toList) else !(Builtin.Str.occurrences z a 0 z.length 1).isEmpty
def seqOf : U → Option (List U)
  | .lst us => some us
  | .tup us => some us
  | _ => none
def inU (a b : U) : Option Bool :=
  match a, b with
  | .str x, .str z => some (inStr x z)
  | a, b => match flatU a, (seqOf b).bind flatUs with
    | some v, some vs => some (inV v vs)
    | _, _ => none
def gIn (neg : Bool) (a b : U) : Option R := (inU a b).map fun k => .w (.bl (if neg then !k else k))
theorem str_one {a : Str} (h : a.cps.size = 1) : a = ⟨#[a.cps.getD 0 0]⟩ := by
  obtain ⟨cs⟩ := a
  obtain ⟨l⟩ := cs
  match l, h with
  | [c], _ => rfl
theorem op2_in : Op2S X (compareOp .In) (gIn false) := by
  refine ⟨_, (op_in_sign.or op_in_str).or op_in_seq, fun F ρ E B σ H u1 u2 v1 v2 r3 Q rl t1 t2 e q => ?_⟩
  simp only [gIn, Option.map_eq_some_iff] at e
  obtain ⟨k, e, rfl⟩ := e
  have fin : Q (.bl k) H := q H _ (Aft.val rl (by simp [Rep]))
  unfold inU at e
  split at e
  · next x z =>
    cases e
    unfold inStr at fin
    split at fin
    · next h1 => exact .inl (.inl ⟨x.cps.getD 0 0, z, by rw [top_str t1, ← str_one h1], top_str t2, fin⟩)
    · exact .inl (.inr ⟨x, z, top_str t1, top_str t2, fin⟩)
  · split at e
    · next v vs e1 e2 =>
      cases e
      simp only [Option.bind_eq_some_iff] at e2
      obtain ⟨us, e2, e3⟩ := e2
      obtain ⟨h1, h2⟩ := flatU_top t1 e1
      subst h1
      cases u2 <;> simp only [seqOf, Option.some.injEq] at e2 <;> first | (cases e2; done) | skip
      · subst e2
        obtain ⟨p, ws, rfl, h3, h4⟩ := t2
        obtain ⟨h5, h6⟩ := flatUs_reps h4 e3
        subst h5
        exact .inr ⟨p, ws, rfl, .inl (.inl (.inl h3)), h2, h6, fin⟩
      · subst e2
        obtain ⟨p, ws, rfl, h3, h4⟩ := t2
        obtain ⟨h5, h6⟩ := flatUs_reps h4 e3
        subst h5
        exact .inr ⟨p, ws, rfl, .inr (sqT_of h3), h2, h6, fin⟩
    · cases e
theorem op2_notin : Op2S X (compareOp .NotIn) (gIn true) := by
  refine ⟨_, (op_notIn_sign.or op_notin_str).or op_notIn_seq, fun F ρ E B σ H u1 u2 v1 v2 r3 Q rl t1 t2 e q => ?_⟩
  simp only [gIn, Option.map_eq_some_iff] at e
  obtain ⟨k, e, rfl⟩ := e
  have fin : Q (.bl (!k)) H := q H _ (Aft.val rl (by simp [Rep]))
  unfold inU at e
  split at e
  · next x z =>
    cases e
    unfold inStr at fin
    split at fin
    · next h1 => exact .inl (.inl ⟨x.cps.getD 0 0, z, by rw [top_str t1, ← str_one h1], top_str t2, fin⟩)
    · exact .inl (.inr ⟨x, z, top_str t1, top_str t2, fin⟩)
  · split at e
    · next v vs e1 e2 =>
      cases e
      simp only [Option.bind_eq_some_iff] at e2
      obtain ⟨us, e2, e3⟩ := e2
      obtain ⟨h1, h2⟩ := flatU_top t1 e1
      subst h1
      cases u2 <;> simp only [seqOf, Option.some.injEq] at e2 <;> first | (cases e2; done) | skip
      · subst e2
        obtain ⟨p, ws, rfl, h3, h4⟩ := t2
        obtain ⟨h5, h6⟩ := flatUs_reps h4 e3
        subst h5
        exact .inr ⟨p, ws, rfl, .inl (.inl (.inl h3)), h2, h6, fin⟩
      · subst e2
        obtain ⟨p, ws, rfl, h3, h4⟩ := t2
        obtain ⟨h5, h6⟩ := flatUs_reps h4 e3
        subst h5
        exact .inr ⟨p, ws, rfl, .inr (sqT_of h3), h2, h6, fin⟩
    · cases e
end
end QB
/-! QbE: arguments, built-ins, displays, subscripts, calls. -/
namespace QB
open PySem L2
section
variable {X : Cx} {a b c e : Expr} {es : List Expr} {fa fb : Ex} {pos p p2 p3 cpos apos : Pos} {x : Str}

/-! ### a plain step on one value -/
theorem m1_ok {g : U → Option R} {r : V → Hp → VK → Prop} {ta : TE}
    (ho : ∀ F ρ E B σ H u1 v1 r3 Q, Rel X.K F ρ E B σ H → Top X.K H (LvF F ρ E B σ) ρ u1 v1 → g u1 = some r3 → (∀ H' v, Aft X.K F ρ E B σ H r3 ρ E B H' v → Q v H') → r v1 H Q)
    (ha : ∀ F ρ E B σ H Q, Rel X.K F ρ E B σ H → PostE X.K F ρ E B σ H (fa E B) Q → ta σ H Q) :
    ∀ F ρ E B σ H Q, Rel X.K F ρ E B σ H → PostE X.K F ρ E B σ H (m1 g fa E B) Q → ta σ H (fun v H1 => r v H1 Q) := by
  intro F ρ E B σ H Q rl h
  refine ha F ρ E B σ H _ rl ?_
  simp only [m1] at h
  cases h1 : fa E B with
  | bad => rw [h1] at h; exact h
  | ex c E' B' => rw [h1] at h; exact h
  | ok r1 E1 B1 =>
    rw [h1] at h
    intro ρ1 H1 v1 A1
    simp only [O.bind_ok] at h
    split at h
    · next u1 e1 =>
      split at h
      · next r3 eg =>
        have T1 := A1.letgo
        exact ho F ρ1 E1 B1 σ H1 u1 v1 r3 Q T1.rel (A1.top e1) eg fun H' v A3 => h ρ1 H' v (T1.then A3)
      · exact h.elim
    · exact h.elim
theorem sndE_un {op : UnaryOp} {r : V → Hp → VK → Prop} {g : U → Option R} (hr : UnR X (unaryOp op) r)
    (ho : ∀ F ρ E B σ H u1 v1 r3 Q, Rel X.K F ρ E B σ H → Top X.K H (LvF F ρ E B σ) ρ u1 v1 → g u1 = some r3 → (∀ H' v, Aft X.K F ρ E B σ H r3 ρ E B H' v → Q v H') → r v1 H Q)
    (ha : SndE X a fa) : SndE X (.UnaryOp op a pos) (m1 g fa) := by
  obtain ⟨ta, pa, ha⟩ := ha
  exact ⟨_, pe_un hr pa, m1_ok (r := r) ho ha⟩
def gNeg : U → Option R
  | .int i => some (.w (.int (-i)))
  | _ => none
theorem sndE_neg (ha : SndE X a fa) : SndE X (.UnaryOp .USub a pos) (m1 gNeg fa) := by
  refine sndE_un un_neg (fun F ρ E B σ H u1 v1 r3 Q rl t e q => ?_) ha
  unfold gNeg at e
  split at e
  · next i => cases e; exact ⟨i, top_int t, q H _ (Aft.val rl (by simp [Rep]))⟩
  · cases e

/-! ### built-ins of one argument -/
def Call1S (X : Cx) (f : Value) (g : U → Option R) : Prop :=
  ∃ r, CallR X f r ∧ ∀ F ρ E B σ H u1 v1 r3 Q, Rel X.K F ρ E B σ H → Top X.K H (LvF F ρ E B σ) ρ u1 v1 → g u1 = some r3 → (∀ H' v, Aft X.K F ρ E B σ H r3 ρ E B H' v → Q v H') → r [v1] H Q
theorem sndE_b1 {id : String} {g : U → Option R} (hc : Call1S X (.builtin id) g) (hm : X.mg x = none) (hv : bootBuiltins x = some (.builtin id)) (ha : SndE X a fa) (hg : Gl X x := by rfl) (hn : x ≠ "__name__" := by decide) (hdb : (x == ("__debug__" : Str)) = false := by decide) (hs : starEach [a] X.env = (false, eval a X.env) :: starEach [] X.env := by rfl) : SndE X (.Call (.Name x p) [a] [] pos) (m1 g fa) := by
  obtain ⟨r, hr, ho⟩ := hc
  obtain ⟨ta, pa, ha⟩ := ha
  exact ⟨_, pe_callB hr hg hm hv (pa_cons pa pa_nil hs) hn hdb hs, m1_ok (r := fun v H Q => r [v] H Q) ho ha⟩
theorem sndE_t1 {T : String} {g : U → Option R} (hc : Call1S X (.type T) g) (hm : X.mg x = none) (hv : bootBuiltins x = some (.type T)) (ha : SndE X a fa) (hg : Gl X x := by rfl) (hn : x ≠ "__name__" := by decide) (hdb : (x == ("__debug__" : Str)) = false := by decide) (hs : starEach [a] X.env = (false, eval a X.env) :: starEach [] X.env := by rfl) : SndE X (.Call (.Name x p) [a] [] pos) (m1 g fa) := by
  obtain ⟨r, hr, ho⟩ := hc
  obtain ⟨ta, pa, ha⟩ := ha
  exact ⟨_, pe_callTy hr hg hm hv (pa_cons pa pa_nil hs) hn hdb hs, m1_ok (r := fun v H Q => r [v] H Q) ho ha⟩
def gLen : U → Option R
  | .str y => if y.length ≤ 16777216 then some (.w (.int y.length)) else none
  | .lst us => some (.w (.int us.length))
  | .tup us => some (.w (.int us.length))
  | .scr ns => some (.w (.int ns.length))
  | _ => none
theorem call1_len : Call1S X (.builtin "len") gLen := by
  refine ⟨_, call_len, fun F ρ E B σ H u1 v1 r3 Q rl t e q => ?_⟩
  have fin : ∀ n : Nat, r3 = .w (.int n) → Q (.int n) H := fun n h => q H _ (by subst h; exact Aft.val rl (by simp [Rep]))
  unfold gLen at e
  split at e
  · next y =>
    split at e
    · next hl => cases e; exact ⟨_, y.length, rfl, by rw [top_str t]; exact ⟨by rw [sizeLine_eq]; exact hl, rfl⟩, fin _ rfl⟩
    · cases e
  · next us =>
    cases e
    obtain ⟨p, vs, rfl, h1, h2⟩ := t
    exact ⟨_, us.length, rfl, .inl ⟨vs, .inl (.inl h1), h2.len⟩, fin _ rfl⟩
  · next us =>
    cases e
    obtain ⟨p, vs, rfl, h1, h2⟩ := t
    exact ⟨_, us.length, rfl, .inr ⟨vs, sqT_of h1, h2.len⟩, fin _ rfl⟩
  · next ns =>
    cases e
    simp only [Top, Rep] at t
    obtain ⟨p, rfl, h1⟩ := t
    exact ⟨_, ns.length, rfl, .inl ⟨_, sqL_of h1, by simp⟩, fin _ rfl⟩
  · cases e
def gAbs : U → Option R
  | .int i => some (.w (.int (if i < 0 then -i else i)))
  | _ => none
theorem call1_abs : Call1S X (.builtin "abs") gAbs := by
  refine ⟨_, call_abs, fun F ρ E B σ H u1 v1 r3 Q rl t e q => ?_⟩
  unfold gAbs at e
  split at e
  · next i => cases e; exact ⟨i, by rw [top_int t], q H _ (Aft.val rl (by simp [Rep]))⟩
  · cases e
def gInt : U → Option R
  | .int i => some (.w (.int i))
  | .bl b => some (.w (.int (if b then 1 else 0)))
  | _ => none
theorem call1_int : Call1S X (.type "int") gInt := by
  refine ⟨_, call_int1, fun F ρ E B σ H u1 v1 r3 Q rl t e q => ?_⟩
  unfold gInt at e
  split at e
  · next i => cases e; exact .inl ⟨i, by rw [top_int t], q H _ (Aft.val rl (by simp [Rep]))⟩
  · next i => cases e; exact .inr ⟨i, by rw [top_bl t], q H _ (Aft.val rl (by simp [Rep]))⟩
  · cases e
def gStrI : U → Option R
  | .int i => if i.natAbs < 10 ^ 100 then some (.w (.str (toString i : String))) else none
  | _ => none
theorem call1_strI : Call1S X (.type "str") gStrI := by
  refine ⟨_, call_str_int, fun F ρ E B σ H u1 v1 r3 Q rl t e q => ?_⟩
  unfold gStrI at e
  split at e
  · next i =>
    split at e
    · next hl =>
      cases e
      have h3 : i.natAbs < 2 ^ 400 := Nat.lt_trans hl (by decide)
      have h5 : i.natAbs.log2 < 1920 := by
        by_cases z : i.natAbs = 0
        · rw [z]; decide
        · have := (Nat.log2_lt z).mpr h3; omega
      exact ⟨i, by rw [top_int t], h5, q H _ (Aft.val rl (by simp [Rep]))⟩
    · cases e
  · cases e
def gListOf : U → Option R
  | .lst us => some (.fr (.lst us))
  | .tup us => some (.fr (.lst us))
  | _ => none
theorem call1_list : Call1S X (.type "list") gListOf := by
  refine ⟨_, call_list_of, fun F ρ E B σ H u1 v1 r3 Q rl t e q => ?_⟩
  unfold gListOf at e
  split at e
  · next us =>
    cases e
    obtain ⟨p, vs, rfl, h1, h2⟩ := t
    exact ⟨p, vs, rfl, .inl (.inl (.inl h1)), fun l hl => q _ _ (Aft.fresh rl hl h2)⟩
  · next us =>
    cases e
    obtain ⟨p, vs, rfl, h1, h2⟩ := t
    exact ⟨p, vs, rfl, .inr (sqT_of h1), fun l hl => q _ _ (Aft.fresh rl hl h2)⟩
  · cases e
def gTupleOf : U → Option R
  | .lst us => some (.w (.tup us))
  | .tup us => some (.w (.tup us))
  | _ => none
theorem call1_tuple : Call1S X (.type "tuple") gTupleOf := by
  refine ⟨_, call_tuple_of, fun F ρ E B σ H u1 v1 r3 Q rl t e q => ?_⟩
  unfold gTupleOf at e
  split at e
  · next us =>
    cases e
    obtain ⟨p, vs, rfl, h1, h2⟩ := t
    exact ⟨p, vs, rfl, .inl ⟨.inl (.inl h1), fun l hl => q _ _ (Aft.tuple rl hl h2)⟩⟩
  · next us =>
    cases e
    have t' := t
    obtain ⟨p, vs, rfl, h1, h2⟩ := t
    exact ⟨p, vs, rfl, .inr ⟨sqT_of h1, q _ _ (Aft.val rl (by simp only [Rep]; exact t'))⟩⟩
  · cases e
def blsOf : List U → Option (List Bool)
  | [] => some []
  | .bl b :: us => (blsOf us).map (b :: ·)
  | _ => none
theorem blsOf_reps {K : PySem.W.Frag} {H : Hp} {Lv : AS} {ρ : List Addr} : ∀ {us : List U} {vs : List V} {bs : List Bool}, Reps K H Lv ρ us vs → blsOf us = some bs → vs = bs.map V.bl
  | [], vs, bs, h, e => by simp only [Reps] at h; subst h; simp only [blsOf, Option.some.injEq] at e; subst e; rfl
  | u :: us, vs, bs, h, e => by
    simp only [Reps] at h
    obtain ⟨v, r, rfl, h1, h2⟩ := h
    cases u <;> simp only [blsOf, Option.map_eq_some_iff] at e <;> first | (cases e; done) | skip
    obtain ⟨cs, e1, rfl⟩ := e
    simp only [Rep] at h1
    rw [h1, blsOf_reps h2 e1]; rfl
def gAny : U → Option R
  | .lst us => (blsOf us).map fun bs => .w (.bl (bs.any id))
  | _ => none
def gAll : U → Option R
  | .lst us => (blsOf us).map fun bs => .w (.bl (bs.all id))
  | _ => none
theorem call1_any (hc : X.calm = true) : Call1S X (.builtin "any") gAny := by
  refine ⟨_, cr_any hc, fun F ρ E B σ H u1 v1 r3 Q rl t e q => ?_⟩
  unfold gAny at e
  split at e
  · next us =>
    simp only [Option.map_eq_some_iff] at e
    obtain ⟨bs, e1, rfl⟩ := e
    obtain ⟨p, vs, rfl, h1, h2⟩ := t
    exact ⟨p, bs, rfl, .inl (.inl (by rw [h1, blsOf_reps h2 e1])), q H _ (Aft.val rl (by simp [Rep]))⟩
  · cases e
theorem call1_all (hc : X.calm = true) : Call1S X (.builtin "all") gAll := by
  refine ⟨_, cr_all hc, fun F ρ E B σ H u1 v1 r3 Q rl t e q => ?_⟩
  unfold gAll at e
  split at e
  · next us =>
    simp only [Option.map_eq_some_iff] at e
    obtain ⟨bs, e1, rfl⟩ := e
    obtain ⟨p, vs, rfl, h1, h2⟩ := t
    exact ⟨p, bs, rfl, .inl (.inl (by rw [h1, blsOf_reps h2 e1])), q H _ (Aft.val rl (by simp [Rep]))⟩
  · cases e

/-! ### isinstance -/
def kindS : U → Option String
  | .non => some "NoneType"
  | .bl _ => some "bool"
  | .int _ => some "int"
  | .str _ => some "str"
  | .lst _ => some "list"
  | .tup _ => some "tuple"
  | .dct _ _ => some "dict"
  | .scr _ => some "list"
  | .box _ => none
theorem kind_top {K : PySem.W.Frag} {H : Hp} {Lv : AS} {ρ : List Addr} {u : U} {v : V} {s : String} (t : Top K H Lv ρ u v) (e : kindS u = some s) : TyX K H v (.type s) := by
  cases u with
  | non => cases e; rw [top_non t]; exact .base .non
  | bl _ => cases e; rw [top_bl t]; exact .base (.bl _)
  | int _ => cases e; rw [top_int t]; exact .base (.int _)
  | str _ => cases e; rw [top_str t]; exact .base (.str _)
  | lst _ => cases e; obtain ⟨p, vs, rfl, h1, _⟩ := t; exact .base (.lst h1)
  | tup _ =>
    cases e
    obtain ⟨p, vs, rfl, h1, _⟩ := t
    rcases h1 with ⟨h1 | ⟨o, h1⟩, _⟩ | ⟨o, its, n, h1, h2, _⟩
    · exact .base (.tup h1)
    · exact .fTuple h1
    · exact .kTuple h1 h2
  | dct _ _ => cases e; obtain ⟨p, vs, rfl, h1, _⟩ := t; exact .base (.dK h1)
  | box _ => cases e
  | scr _ =>
    cases e
    simp only [Top, Rep] at t
    obtain ⟨p, rfl, ⟨h1 | ⟨o, h1⟩, _⟩ | ⟨o, its, n, h1, h2, _⟩⟩ := t
    · exact .base (.lst h1)
    · exact .base (.frz h1)
    · exact .kList h1 h2
def gIsi (T : String) (u : U) : Option R := (kindS u).bind fun s => (kitB s T).map fun k => .w (.bl k)
def isAny (s : String) (Ts : List String) : Option Bool :=
  match Ts with
  | [] => some false
  | T :: Ts => (kitB s T).bind fun k => (isAny s Ts).map fun k' => k || k'
def gIsiT (Ts : List String) (u : U) : Option R := (kindS u).bind fun s => (isAny s Ts).map fun k => .w (.bl k)
theorem sndE_isi {T : String} {tx : Str} (hm : X.mg "isinstance" = none) (hmT : X.mg tx = none) (hvT : bootBuiltins tx = some (.type T)) (ha : SndE X a fa) (hg : Gl X "isinstance" := by rfl) (hgT : Gl X tx := by rfl) (hn : tx ≠ "__name__" := by decide) (hdb : (tx == ("__debug__" : Str)) = false := by decide)
    (hvI : bootBuiltins "isinstance" = some (.builtin "isinstance") := by decide +kernel) (hs : starEach [a, .Name tx p2] X.env = (false, eval a X.env) :: starEach [.Name tx p2] X.env := by rfl) : SndE X (.Call (.Name "isinstance" p) [a, .Name tx p2] [] pos) (m1 (gIsi T) fa) := by
  obtain ⟨ta, pa, ha⟩ := ha
  refine ⟨_, pe_callB call_isi hg hm hvI (pa_cons pa (pa_cons (pe_bltn (v := .ty T) hgT hmT hvT rfl hn hdb) pa_nil) hs) (by decide) (by decide) hs, ?_⟩
  refine m1_ok (r := fun v H Q => rIsi X.K [v, .ty T] H Q) (fun F ρ E B σ H u1 v1 r3 Q rl t e q => ?_) ha
  simp only [gIsi, Option.bind_eq_some_iff, Option.map_eq_some_iff] at e
  obtain ⟨s, e1, k, e2, rfl⟩ := e
  exact ⟨v1, .ty T, .type s, .type T, k, rfl, .ty T, kind_top t e1, kit_ty e2, q H _ (Aft.val rl (by simp [Rep]))⟩

/-! ### subscripts -/
def gIx : U → U → Option R
  | .lst us, .int i => (atI us i).map .w
  | .tup us, .int i => (atI us i).map .w
  | .str z, .int i => if z.length ≤ 16777216 then (atI z.cps.toList i).map fun c => .w (.str ⟨#[c]⟩) else none
  | .scr ns, .int i => (atI ns i).map fun n => .w (.int n)
  | _, _ => none
theorem atI_reps {K : PySem.W.Frag} {H : Hp} {Lv : AS} {ρ : List Addr} {us : List U} {vs : List V} {i : Int} {u : U} (h : Reps K H Lv ρ us vs) (e : atI us i = some u) : ∃ v, atI vs i = some v ∧ Rep K H Lv ρ u v := by
  unfold atI at e ⊢
  simp only [Option.bind_eq_some_iff] at e ⊢
  obtain ⟨j, e1, e2⟩ := e
  obtain ⟨v, h1, h2⟩ := h.get e2
  exact ⟨v, ⟨j, by rw [← h.len]; exact e1, h1⟩, h2⟩
theorem sndE_ix (ha : SndE X a fa) (hb : SndE X b fb) (hs : PlainIx b := by intro _ _; rfl) : SndE X (.Subscript a b pos) (m2 gIx fa fb) := by
  obtain ⟨ta, pa, ha⟩ := ha
  obtain ⟨tb, pb, hb⟩ := hb
  refine ⟨_, pe_ix ix_seq pa pb hs, m2_ok (f := fun _ _ => pure Value.none) (fun F ρ E B σ H u1 u2 v1 v2 r3 Q rl t1 t2 e q => ?_) ha hb⟩
  unfold gIx at e
  split at e
  · next us i =>
    simp only [Option.map_eq_some_iff] at e
    obtain ⟨w, e1, rfl⟩ := e
    obtain ⟨p, vs, rfl, h1, h2⟩ := t1
    obtain ⟨v, h3, h4⟩ := atI_reps h2 e1
    exact .inl ⟨p, vs, i, v, rfl, top_int t2, .inl (.inl h1), h3, q H _ (Aft.val rl h4)⟩
  · next us i =>
    simp only [Option.map_eq_some_iff] at e
    obtain ⟨w, e1, rfl⟩ := e
    obtain ⟨p, vs, rfl, h1, h2⟩ := t1
    obtain ⟨v, h3, h4⟩ := atI_reps h2 e1
    exact .inr (.inl ⟨p, vs, i, v, rfl, top_int t2, sqT_of h1, h3, q H _ (Aft.val rl h4)⟩)
  · next z i =>
    split at e
    · next hl =>
      simp only [Option.map_eq_some_iff] at e
      obtain ⟨c, e1, rfl⟩ := e
      exact .inr (.inr ⟨z, i, c, top_str t1, top_int t2, by rw [sizeLine_eq]; exact hl, e1, q H _ (Aft.val rl (by simp [Rep]))⟩)
    · cases e
  · next ns i =>
    simp only [Option.map_eq_some_iff] at e
    obtain ⟨n, e1, rfl⟩ := e
    simp only [Top, Rep] at t1
    obtain ⟨p, rfl, h1⟩ := t1
    refine .inl ⟨p, _, i, .int n, rfl, top_int t2, sqL_of h1, ?_, q H _ (Aft.val rl (by simp [Rep]))⟩
    unfold atI at e1 ⊢
    simp only [Option.bind_eq_some_iff] at e1 ⊢
    obtain ⟨j, e2, e3⟩ := e1
    exact ⟨j, by simpa using e2, by simp [e3]⟩
  · cases e

/-! ### slices -/
/-- a part of a slice -/
def SndO (X : Cx) (o : Option Expr) (f : En → Bx → O (Option Int)) : Prop :=
  ∃ t : TO, PO X o t ∧ ∀ F ρ E B σ H (Q : Option Int → Hp → Prop), Rel X.K F ρ E B σ H → (match f E B with | .ok i E' B' => ∀ ρ' H', AftT X.K F ρ E B σ H ρ' E' B' H' → Q i H' | _ => False) → t σ H Q
def mNoPart : En → Bx → O (Option Int) := fun E B => .ok none E B
def mPart (f : Ex) : En → Bx → O (Option Int) := fun E B => (f E B).bind fun r E1 B1 =>
  match r with
  | .w (.int i) => .ok (some i) E1 B1
  | _ => .bad
theorem sndO_none : SndO X none mNoPart := ⟨_, po_none, fun F ρ E B σ H Q rl h => h ρ H (AftT.refl rl)⟩
theorem sndO_some (ha : SndE X a fa) : SndO X (some a) (mPart fa) := by
  obtain ⟨ta, pa, ha⟩ := ha
  refine ⟨_, po_some pa, fun F ρ E B σ H Q rl h => ?_⟩
  refine ha F ρ E B σ H _ rl ?_
  simp only [mPart] at h
  cases h1 : fa E B with
  | bad => rw [h1] at h; exact h
  | ex c E' B' => rw [h1] at h; exact h
  | ok r1 E1 B1 =>
    rw [h1] at h
    intro ρ1 H1 v1 A1
    simp only [O.bind_ok] at h
    cases r1 with
    | w u =>
      cases u with
      | int i =>
        have rr := A1.rep
        simp only [RepR, Rep] at rr
        exact ⟨i, rr, h ρ1 H1 A1.letgo⟩
      | _ => exact h.elim
    | _ => exact h.elim
def cutU (us : List U) (lo hi : Option Int) : List U := (us.drop (HT.sIx us.length 0 lo)).take (HT.sIx us.length us.length hi - HT.sIx us.length 0 lo)
def gSl (u : U) (lo hi : Option Int) : Option R :=
  match u with
  | .lst us => some (.fr (.lst (cutU us lo hi)))
  | .tup us => some (.w (.tup (cutU us lo hi)))
  | .str z => if z.length ≤ 16777216 then some (.w (.str (cutS z lo hi))) else none
  | _ => none
def mSl (fa : Ex) (fl fh : En → Bx → O (Option Int)) : Ex := fun E B =>
  (fa E B).bind fun r E1 B1 => (fl E1 B1).bind fun lo E2 B2 => (fh E2 B2).bind fun hi E3 B3 =>
    match view r E3 B3 with
    | some u => match gSl u lo hi with
      | some r => .ok r E3 B3
      | none => .bad
    | none => .bad
theorem cutU_reps {K : PySem.W.Frag} {H : Hp} {Lv : AS} {ρ : List Addr} {us : List U} {vs : List V} {lo hi : Option Int} (h : Reps K H Lv ρ us vs) : Reps K H Lv ρ (cutU us lo hi) (cutV vs lo hi) := by
  unfold cutU cutV
  rw [h.len]
  exact (h.drop _).take _
theorem cutV_all {us : List V} {lo hi : Option Int} (h : HT.sIx us.length 0 lo = 0 ∧ HT.sIx us.length us.length hi = us.length) : cutV us lo hi = us := by
  unfold cutV
  rw [h.1, h.2]
  simp
theorem sndE_sl {lo hi : Option Expr} {fl fh : En → Bx → O (Option Int)} (ha : SndE X a fa) (hl : SndO X lo fl) (hh : SndO X hi fh) : SndE X (.Subscript a (.Slice lo hi none p2) pos) (mSl fa fl fh) := by
  obtain ⟨ta, pa, ha⟩ := ha
  obtain ⟨tl, pl, hl⟩ := hl
  obtain ⟨th, ph, hh⟩ := hh
  refine ⟨_, pe_slice ((sl_list.or sl_tupA).or sl_str) pa pl ph, fun F ρ E B σ H Q rl h => ?_⟩
  refine ha F ρ E B σ H _ rl ?_
  simp only [mSl] at h
  cases h1 : fa E B with
  | bad => rw [h1] at h; exact h
  | ex c E' B' => rw [h1] at h; exact h
  | ok r1 E1 B1 =>
    rw [h1] at h
    intro ρ1 H1 v1 A1
    simp only [O.bind_ok] at h
    refine hl _ ρ1 E1 B1 σ H1 _ A1.rel ?_
    cases h2 : fl E1 B1 with
    | bad => rw [h2] at h; exact h
    | ex c E' B' => rw [h2] at h; exact h
    | ok lo E2 B2 =>
      rw [h2] at h
      simp only [O.bind_ok] at h
      intro ρ2 H2 A2
      have A12 := A1.carry A2
      refine hh _ ρ2 E2 B2 σ H2 _ A12.rel ?_
      cases h3 : fh E2 B2 with
      | bad => rw [h3] at h; exact h
      | ex c E' B' => rw [h3] at h; exact h
      | ok hi E3 B3 =>
        rw [h3] at h
        simp only [O.bind_ok] at h
        intro ρ3 H3 A3
        have A13 := A12.carry A3
        have T1 := A13.letgo
        split at h
        · next u1 e1 =>
          have t1 := A13.top e1
          split at h
          · next r3 eg =>
            have fin : ∀ H' v, Aft X.K F ρ3 E3 B3 σ H3 r3 ρ3 E3 B3 H' v → Q v H' := fun H' v A4 => h ρ3 H' v (T1.then A4)
            unfold gSl at eg
            split at eg
            · next us =>
              cases eg
              obtain ⟨p, vs, rfl, k1, k2⟩ := t1
              exact .inl (.inl ⟨p, vs, rfl, .inl (.inl k1), fun q hq => fin _ _ (Aft.fresh T1.rel hq (cutU_reps k2))⟩)
            · next us =>
              cases eg
              obtain ⟨p, vs, rfl, k1, k2⟩ := t1
              refine .inl (.inr ⟨p, vs, rfl, sqT_of k1, fun z => fin _ _ (Aft.val T1.rel ?_), fun z q hq => fin _ _ (Aft.tuple T1.rel hq (cutU_reps k2))⟩)
              simp only [Rep]
              refine ⟨p, vs, rfl, k1, ?_⟩
              have := cutU_reps (lo := lo) (hi := hi) k2
              rw [cutV_all z] at this
              exact this
            · next z =>
              split at eg
              · next hz =>
                cases eg
                exact .inr ⟨z, top_str t1, by rw [sizeLine_eq]; exact hz, fin _ _ (Aft.val T1.rel (by simp [Rep]))⟩
              · cases eg
            · cases eg
          · exact h.elim
        · exact h.elim

/-! ### arguments, each at rest -/
structure AftA (K : PySem.W.Frag) (F : Fm) (ρ : List Addr) (E : En) (B : Bx) (σ : L2.St) (H : Hp) (us : List U) (ρ' : List Addr) (E' : En) (B' : Bx) (H' : Hp) (vs : List V) : Prop where
  t : AftT K F ρ E B σ H ρ' E' B' H'
  reps : Reps K H' (LvF F ρ' E' B' σ) ρ' us vs
abbrev Ar := En → Bx → O (List U)
def PostA (K : PySem.W.Frag) (F : Fm) (ρ : List Addr) (E : En) (B : Bx) (σ : L2.St) (H : Hp) : O (List U) → (List V → Hp → Prop) → Prop
  | .ok us E' B', Q => ∀ ρ' H' vs, AftA K F ρ E B σ H us ρ' E' B' H' vs → Q vs H'
  | _, _ => False
def SndA (X : Cx) (es : List Expr) (f : Ar) : Prop := ∃ t : TA, PA X es t ∧ ∀ F ρ E B σ H Q, Rel X.K F ρ E B σ H → PostA X.K F ρ E B σ H (f E B) Q → t σ H Q
def mNil : Ar := fun E B => .ok [] E B
def mCons (f : Ex) (fs : Ar) : Ar := fun E B => (f E B).bind fun r E1 B1 =>
  match settle r E1 with
  | some (u, E2) => (fs E2 B1).bind fun us E3 B3 => .ok (u :: us) E3 B3
  | none => .bad
theorem sndA_nil : SndA X [] mNil := ⟨_, pa_nil, fun F ρ E B σ H Q rl h => h ρ H [] ⟨AftT.refl rl, Reps.nil⟩⟩
/-- a result at rest -/
theorem Aft.settled {K : PySem.W.Frag} {F : Fm} {ρ ρ' : List Addr} {E E' E2 : En} {B B' : Bx} {σ : L2.St} {H H' : Hp} {r : R} {v : V} {u : U} (A : Aft K F ρ E B σ H r ρ' E' B' H' v) (h : settle r E' = some (u, E2)) :
    AftT K F ρ E B σ H ρ' E2 B' H' ∧ Rep K H' (LvF F ρ' E2 B' σ) ρ' u v := by
  obtain ⟨h1, h2, h3, h4⟩ := settle_ok A.rel A.rep h
  exact ⟨⟨A.px, h1, A.stp.trans h2, A.le.trans h3⟩, h4⟩
theorem sndA_cons {fs : Ar} (ha : SndE X e fa) (hr : SndA X es fs) (hs : starEach (e :: es) X.env = (false, eval e X.env) :: starEach es X.env := by rfl) : SndA X (e :: es) (mCons fa fs) := by
  obtain ⟨ta, pa, ha⟩ := ha
  obtain ⟨tr, pr, hr⟩ := hr
  refine ⟨_, pa_cons pa pr hs, fun F ρ E B σ H Q rl h => ?_⟩
  refine ha F ρ E B σ H _ rl ?_
  simp only [mCons] at h
  cases h1 : fa E B with
  | bad => rw [h1] at h; exact h
  | ex c E' B' => rw [h1] at h; exact h
  | ok r1 E1 B1 =>
    rw [h1] at h
    intro ρ1 H1 v1 A1
    simp only [O.bind_ok] at h
    split at h
    · next u E2 es =>
      obtain ⟨T1, R1⟩ := A1.settled es
      refine hr F ρ1 E2 B1 σ H1 _ T1.rel ?_
      cases h2 : fs E2 B1 with
      | bad => rw [h2] at h; exact h
      | ex c E' B' => rw [h2] at h; exact h
      | ok us E3 B3 =>
        rw [h2] at h
        simp only [O.bind_ok] at h
        intro ρ3 H3 vs A3
        exact h ρ3 H3 (v1 :: vs) ⟨T1.trans A3.t, Reps.cons (Rep.mono A3.t.stp A3.t.px _ _ R1) A3.reps⟩
    · exact h.elim
/-! ### displays -/
def mTup (fs : Ar) : Ex := fun E B => (fs E B).bind fun us E1 B1 => if us.length ≤ 16777216 then .ok (.w (.tup us)) E1 B1 else .bad
def mLst (fs : Ar) : Ex := fun E B => (fs E B).bind fun us E1 B1 => if us.length ≤ 16777216 then .ok (.fr (.lst us)) E1 B1 else .bad
theorem sndE_tup {fs : Ar} {k} (h : SndA X es fs) : SndE X (.Tuple es k pos) (mTup fs) := by
  obtain ⟨t, p1, h⟩ := h
  refine ⟨_, pe_tup p1, fun F ρ E B σ H Q rl q => ?_⟩
  refine h F ρ E B σ H _ rl ?_
  simp only [mTup] at q
  cases h1 : fs E B with
  | bad => rw [h1] at q; exact q
  | ex c E' B' => rw [h1] at q; exact q
  | ok us E1 B1 =>
    rw [h1] at q
    intro ρ1 H1 vs A1
    simp only [O.bind_ok] at q
    split at q
    · next hl => exact ⟨by rw [sizeLine_eq, ← A1.reps.len]; exact hl, fun p hp => q ρ1 _ _ (A1.t.then (Aft.tuple A1.t.rel hp A1.reps))⟩
    · exact q.elim
theorem sndE_lst {fs : Ar} (h : SndA X es fs) : SndE X (.List es pos) (mLst fs) := by
  obtain ⟨t, p1, h⟩ := h
  refine ⟨_, pe_lst p1, fun F ρ E B σ H Q rl q => ?_⟩
  refine h F ρ E B σ H _ rl ?_
  simp only [mLst] at q
  cases h1 : fs E B with
  | bad => rw [h1] at q; exact q
  | ex c E' B' => rw [h1] at q; exact q
  | ok us E1 B1 =>
    rw [h1] at q
    intro ρ1 H1 vs A1
    simp only [O.bind_ok] at q
    split at q
    · next hl => exact ⟨by rw [sizeLine_eq, ← A1.reps.len]; exact hl, fun p hp => q ρ1 _ _ (A1.t.then (Aft.fresh A1.t.rel hp A1.reps))⟩
    · exact q.elim
/-! ### built-ins of several arguments at rest -/
def mB (g : List U → Option R) (fs : Ar) : Ex := fun E B => (fs E B).bind fun us E1 B1 =>
  match g us with
  | some r => .ok r E1 B1
  | none => .bad
def CallNS (X : Cx) (f : Value) (g : List U → Option R) : Prop :=
  ∃ r, CallR X f r ∧ ∀ F ρ E B σ H us vs r3 Q, Rel X.K F ρ E B σ H → Reps X.K H (LvF F ρ E B σ) ρ us vs → g us = some r3 → (∀ H' v, Aft X.K F ρ E B σ H r3 ρ E B H' v → Q v H') → r vs H Q
theorem sndE_bn {id : String} {g : List U → Option R} {fs : Ar} (hc : CallNS X (.builtin id) g) (hm : X.mg x = none) (hv : bootBuiltins x = some (.builtin id)) (ha : SndA X (e :: es) fs) (hg : Gl X x := by rfl) (hn : x ≠ "__name__" := by decide) (hdb : (x == ("__debug__" : Str)) = false := by decide)
    (hs : starEach (e :: es) X.env = (false, eval e X.env) :: starEach es X.env := by rfl) (hpl : (backTo pos (starEach es X.env)).any (·.1) = false := by rfl) : SndE X (.Call (.Name x p) (e :: es) [] pos) (mB g fs) := by
  obtain ⟨r, hr, ho⟩ := hc
  obtain ⟨ta, pa, ha⟩ := ha
  refine ⟨_, pe_callB hr hg hm hv pa hn hdb hs hpl, fun F ρ E B σ H Q rl q => ?_⟩
  refine ha F ρ E B σ H _ rl ?_
  simp only [mB] at q
  cases h1 : fs E B with
  | bad => rw [h1] at q; exact q
  | ex c E' B' => rw [h1] at q; exact q
  | ok us E1 B1 =>
    rw [h1] at q
    intro ρ1 H1 vs A1
    simp only [O.bind_ok] at q
    split at q
    · next r3 eg => exact ho F ρ1 E1 B1 σ H1 us vs r3 Q A1.t.rel A1.reps eg fun H' v A3 => q ρ1 H' v (A1.t.then A3)
    · exact q.elim
def gMax2 : List U → Option R
  | [.int i, .int j] => some (.w (.int (if j > i then j else i)))
  | _ => none
def gMin2 : List U → Option R
  | [.int i, .int j] => some (.w (.int (if j < i then j else i)))
  | _ => none
theorem callN_max (hc : X.calm = true) : CallNS X (.builtin "max") gMax2 := by
  refine ⟨_, call_max2 hc, fun F ρ E B σ H us vs r3 Q rl t e q => ?_⟩
  unfold gMax2 at e
  split at e
  · next i j =>
    cases e
    simp only [Reps, Rep] at t
    obtain ⟨v, r, rfl, rfl, w, r2, rfl, rfl, rfl⟩ := t
    exact ⟨i, j, rfl, q H _ (Aft.val rl (by simp [Rep]))⟩
  · cases e
theorem callN_min (hc : X.calm = true) : CallNS X (.builtin "min") gMin2 := by
  refine ⟨_, call_min2 hc, fun F ρ E B σ H us vs r3 Q rl t e q => ?_⟩
  unfold gMin2 at e
  split at e
  · next i j =>
    cases e
    simp only [Reps, Rep] at t
    obtain ⟨v, r, rfl, rfl, w, r2, rfl, rfl, rfl⟩ := t
    exact ⟨i, j, rfl, q H _ (Aft.val rl (by simp [Rep]))⟩
  · cases e
/-! ### methods of texts -/
def mM (g : U → List U → Option R) (fo : Ex) (fs : Ar) : Ex := fun E B => (fo E B).bind fun r E1 B1 =>
  match r with
  | .w (.str z) => (fs E1 B1).bind fun us E2 B2 => match g (.str z) us with
    | some r => .ok r E2 B2
    | none => .bad
  | _ => .bad
def MethS (X : Cx) (id : String) (g : U → List U → Option R) : Prop :=
  ∃ r, MtR X id r ∧ ∀ F ρ E B σ H (z : Str) us vs r3 Q, Rel X.K F ρ E B σ H → Reps X.K H (LvF F ρ E B σ) ρ us vs → g (.str z) us = some r3 → (∀ H' v, Aft X.K F ρ E B σ H r3 ρ E B H' v → Q v H') → r (.str z) vs H Q
end
end QB
/-! QbF: writing, calls of defs, statements, defs. -/
namespace QB
open PySem L2
section
variable {K : PySem.W.Frag} {F : Fm} {ρ ρ' : List Addr} {E E' : En} {B B' : Bx} {σ : L2.St} {H H' : Hp} {p : Addr} {v : V} {u : U} {o : Option HO}
theorem Rel.setVal {i : Nat} (r : Rel K F ρ E B σ H) (hi : i < E.length) (h : Rep K H (LvF F ρ E B σ) ρ u v) : Rel K F ρ (E.set i (.val u)) B (σ.set i (some v)) H := by
  have px : ρ <+: ρ := List.prefix_refl _
  have hi2 : i < σ.length := by rw [← r.elen]; exact hi
  have ownSet : ∀ (j : Nat) (d : Cell), (E.set i (.val u))[j]? = some (.own d) → E[j]? = some (.own d) ∧ (σ.set i (some v))[j]? = σ[j]? := fun j d e => by
    by_cases hj : i = j
    · subst hj; rw [List.getElem?_set_self hi] at e; cases e
    · rw [List.getElem?_set_ne hj] at e; exact ⟨e, List.getElem?_set_ne hj⟩
  have less : ∀ q, LvF F ρ (E.set i (.val u)) B (σ.set i (some v)) q → LvF F ρ E B σ q := fun q z => by
    rcases z with z | z | ⟨j, d, h1, h2⟩
    · exact .inl z
    · exact .inr (.inl z)
    · obtain ⟨h3, h4⟩ := ownSet j d h1
      exact .inr (.inr ⟨j, d, h3, by rw [← h4]; exact h2⟩)
  have s : Stp H (LvF F ρ E B σ) H (LvF F ρ (E.set i (.val u)) B (σ.set i (some v))) := Stp.less less
  refine ⟨by rw [List.length_set, List.length_set]; exact r.elen, r.blen, fun j w e => ?_, fun j d e => ?_, fun j k d f q e1 e2 e3 e4 => ?_, fun j d q e1 e2 e3 => ?_, r.binj, r.out, r.old.trans s, r.grow⟩
  · by_cases hj : i = j
    · subst hj; rw [List.getElem?_set_self hi] at e; cases e; exact ⟨v, List.getElem?_set_self hi2, h.mono s px⟩
    · rw [List.getElem?_set_ne hj] at e
      obtain ⟨w', h1, h2⟩ := r.val j w e
      exact ⟨w', by rw [List.getElem?_set_ne hj]; exact h1, h2.mono s px⟩
  · obtain ⟨h1, h2⟩ := ownSet j d e
    obtain ⟨h3, q, h4, h5, h6⟩ := r.own j d h1
    exact ⟨h3, q, by rw [h2]; exact h4, h5.mono s px rfl, h6⟩
  · obtain ⟨a1, a2⟩ := ownSet j d e1
    obtain ⟨b1, b2⟩ := ownSet k f e2
    exact r.oinj j k d f q a1 b1 (by rw [← a2]; exact e3) (by rw [← b2]; exact e4)
  · obtain ⟨h4, h5⟩ := r.box j d q e1 e2 e3
    exact ⟨h4.mono s px rfl, h5⟩
theorem Rel.setOwn {i : Nat} {c : Cell} (r : Rel K (F.add p o) ρ E B σ H) (n : New F p) (hi : i < E.length) (hl : c.live = true) (h : CellOk K H (LvF (F.add p o) ρ E B σ) ρ c p) : Rel K F ρ (E.set i (.own c)) B (σ.set i (some (.ref p))) H := by
  have px : ρ <+: ρ := List.prefix_refl _
  have hi2 : i < σ.length := by rw [← r.elen]; exact hi
  have ownSet : ∀ (j : Nat) (d : Cell), i ≠ j → (E.set i (.own c))[j]? = some (.own d) → E[j]? = some (.own d) ∧ (σ.set i (some (.ref p)))[j]? = σ[j]? := fun j d hj e => by
    rw [List.getElem?_set_ne hj] at e; exact ⟨e, List.getElem?_set_ne hj⟩
  have less : ∀ q, LvF F ρ (E.set i (.own c)) B (σ.set i (some (.ref p))) q → LvF (F.add p o) ρ E B σ q := fun q z => by
    rw [LvF.add_iff]
    rcases z with z | z | ⟨j, d, h1, h2⟩
    · exact .inl (.inl z)
    · exact .inl (.inr (.inl z))
    · by_cases hj : i = j
      · subst hj
        rw [List.getElem?_set_self hi2] at h2
        exact .inr (by simpa using h2.symm)
      · obtain ⟨h3, h4⟩ := ownSet j d hj h1
        exact .inl (.inr (.inr ⟨j, d, h3, by rw [← h4]; exact h2⟩))
  have s : Stp H (LvF (F.add p o) ρ E B σ) H (LvF F ρ (E.set i (.own c)) B (σ.set i (some (.ref p)))) := Stp.less less
  have notB : ¬ BLv ρ B p := fun ⟨j, d, h1, h2, h3⟩ => (r.box j d p h1 h2 h3).2 (.inr rfl)
  have nes : ∀ (j : Nat) (d : Cell) (q : Addr), E[j]? = some (.own d) → σ[j]? = some (some (.ref q)) → q ≠ p := fun j d q e1 e2 e => by
    obtain ⟨_, p', h3, _, h4, _⟩ := r.own j d e1
    rw [h3] at e2
    have : p' = q := by simpa using e2
    subst this
    exact h4 (.inr e)
  refine ⟨by rw [List.length_set, List.length_set]; exact r.elen, r.blen, fun j w e => ?_, fun j d e => ?_, fun j k d f q e1 e2 e3 e4 => ?_, fun j d q e1 e2 e3 => ?_, r.binj, fun q h => ?_, fun q u h z => ?_, fun q u h => ?_⟩
  · by_cases hj : i = j
    · subst hj; rw [List.getElem?_set_self hi] at e; cases e
    · rw [List.getElem?_set_ne hj] at e
      obtain ⟨w', h1, h2⟩ := r.val j w e
      exact ⟨w', by rw [List.getElem?_set_ne hj]; exact h1, h2.mono s px⟩
  · by_cases hj : i = j
    · subst hj; rw [List.getElem?_set_self hi] at e; cases e
      exact ⟨hl, p, List.getElem?_set_self hi2, h.mono s px rfl, n.out, notB⟩
    · obtain ⟨h1, h2⟩ := ownSet j d hj e
      obtain ⟨h3, q, h4, h5, h6, h7⟩ := r.own j d h1
      exact ⟨h3, q, by rw [h2]; exact h4, h5.mono s px rfl, fun z => h6 (.inl z), h7⟩
  · by_cases hj : i = j <;> by_cases hk : i = k
    · omega
    · subst hj
      obtain ⟨b1, b2⟩ := ownSet k f hk e2
      rw [List.getElem?_set_self hi2] at e3
      have : p = q := by simpa using e3
      subst this
      exact absurd rfl (nes k f p b1 (by rw [← b2]; exact e4))
    · subst hk
      obtain ⟨b1, b2⟩ := ownSet j d hj e1
      rw [List.getElem?_set_self hi2] at e4
      have : p = q := by simpa using e4
      subst this
      exact absurd rfl (nes j d p b1 (by rw [← b2]; exact e3))
    · obtain ⟨a1, a2⟩ := ownSet j d hj e1
      obtain ⟨b1, b2⟩ := ownSet k f hk e2
      exact r.oinj j k d f q a1 b1 (by rw [← a2]; exact e3) (by rw [← b2]; exact e4)
  · obtain ⟨h4, h5⟩ := r.box j d q e1 e2 e3
    exact ⟨h4.mono s px rfl, fun z => h5 (.inl z)⟩
  · have ne : q ≠ p := fun z => n.out (z ▸ h)
    have e := r.out q (.inl h)
    simpa [Fm.add, ne] using e
  · have ne : q ≠ p := fun y => by rw [y, n.h0] at h; cases h
    have := r.old q u (by simp [Fm.add, ne, h]) (fun y => y.elim z ne)
    exact ⟨this.1, fun y => this.2 (less q y)⟩
  · have ne : q ≠ p := fun y => by rw [y, n.h0] at h; cases h
    exact r.grow q u (by simp [Fm.add, ne, h])
/-! ### writing -/
def cellOf (r : R) (E : En) (B : Bx) : Option Cell :=
  match r with
  | .s i => match E[i]? with
    | some (.own c) => some c
    | some (.val (.box j)) => B[j]?
    | _ => none
  | .w (.box j) => B[j]?
  | _ => none
def put (r : R) (E : En) (B : Bx) (c : Cell) : En × Bx :=
  match r with
  | .s i => match E[i]? with
    | some (.own _) => (E.set i (.own c), B)
    | some (.val (.box j)) => (E, B.set j c)
    | _ => (E, B)
  | .w (.box j) => (E, B.set j c)
  | _ => (E, B)
/-- the cell at p, live, gets another content -/
theorem Rel.wrS {i : Nat} {c c' : Cell} {ob : HO} (r : Rel K F ρ E B σ H) (he : E[i]? = some (.own c)) (hσ : σ[i]? = some (some (.ref p))) (hl' : c'.live = true)
    (hc : Stp H (LvF F ρ E B σ) (upd H p ob) (LvF F ρ (E.set i (.own c')) B σ) → CellOk K (upd H p ob) (LvF F ρ (E.set i (.own c')) B σ) ρ c' p) :
    Rel K F ρ (E.set i (.own c')) B σ (upd H p ob) ∧ Stp H (LvF F ρ E B σ) (upd H p ob) (LvF F ρ (E.set i (.own c')) B σ) ∧ EnLe E (E.set i (.own c')) := by
  have px : ρ <+: ρ := List.prefix_refl _
  have hi : i < E.length := (List.getElem?_eq_some_iff.mp he).1
  obtain ⟨_, p', hp', _, nO, nB⟩ := r.own i c he
  rw [hσ] at hp'
  have e : p' = p := by simpa using hp'.symm
  subst e
  have lv : ∀ q, LvF F ρ (E.set i (.own c')) B σ q → LvF F ρ E B σ q := fun q z => by
    rcases z with z | z | ⟨j, d, h1, h2⟩
    · exact .inl z
    · exact .inr (.inl z)
    · by_cases hj : i = j
      · subst hj; exact .inr (.inr ⟨i, c, he, h2⟩)
      · rw [List.getElem?_set_ne hj] at h1; exact .inr (.inr ⟨j, d, h1, h2⟩)
  have lp : LvF F ρ E B σ p' := .inr (.inr ⟨i, c, he, hσ⟩)
  have s : Stp H (LvF F ρ E B σ) (upd H p' ob) (LvF F ρ (E.set i (.own c')) B σ) := fun q x h n => ⟨by rw [upd_ne (by rintro rfl; exact n lp)]; exact h, fun z => n (lv q z)⟩
  refine ⟨⟨by rw [List.length_set]; exact r.elen, r.blen, fun j w e => ?_, fun j d e => ?_, fun j k d f q e1 e2 e3 e4 => ?_, fun j d q e1 e2 e3 => ?_, r.binj, fun q h => ?_, r.old.trans s, fun q x h => ?_⟩, s, fun j hj => ?_⟩
  · by_cases hj : i = j
    · subst hj; rw [List.getElem?_set_self hi] at e; cases e
    · rw [List.getElem?_set_ne hj] at e
      obtain ⟨w', h1, h2⟩ := r.val j w e
      exact ⟨w', h1, h2.mono s px⟩
  · by_cases hj : i = j
    · subst hj; rw [List.getElem?_set_self hi] at e; cases e
      exact ⟨hl', p', hσ, hc s, nO, nB⟩
    · rw [List.getElem?_set_ne hj] at e
      obtain ⟨h3, q, h4, h5, h6, h7⟩ := r.own j d e
      have ne : q ≠ p' := fun z => by subst z; exact hj (r.oinj i j c d q he e hσ h4)
      exact ⟨h3, q, h4, h5.mono s px (upd_ne ne), h6, h7⟩
  · have key : ∀ (j : Nat) (d : Cell), (E.set i (.own c'))[j]? = some (.own d) → ∃ d', E[j]? = some (.own d') := fun j d e => by
      by_cases hj : i = j
      · subst hj; exact ⟨c, he⟩
      · rw [List.getElem?_set_ne hj] at e; exact ⟨d, e⟩
    obtain ⟨d1, a1⟩ := key j d e1
    obtain ⟨d2, a2⟩ := key k f e2
    exact r.oinj j k d1 d2 q a1 a2 e3 e4
  · obtain ⟨h4, h5⟩ := r.box j d q e1 e2 e3
    have ne : q ≠ p' := fun z => nB (z ▸ ⟨j, d, e1, e2, e3⟩)
    exact ⟨h4.mono s px (upd_ne ne), h5⟩
  · have ne : q ≠ p' := fun z => nO (z ▸ h)
    rw [upd_ne ne]; exact r.out q h
  · obtain ⟨o', h1⟩ := r.grow q x h
    by_cases ne : q = p'
    · subst ne; exact ⟨ob, upd_same⟩
    · exact ⟨o', by rw [upd_ne ne]; exact h1⟩
  · by_cases hj' : i = j
    · subst hj'; exact .inr ⟨c', List.getElem?_set_self hi⟩
    · unfold IsSet; rw [List.getElem?_set_ne hj']; exact hj
theorem Rel.wrB {i : Nat} {c c' : Cell} {ob : HO} (r : Rel K F ρ E B σ H) (hb : B[i]? = some c) (hl : c.live = true) (hρ : ρ[i]? = some p) (hl' : c'.live = true)
    (hc : Stp H (LvF F ρ E B σ) (upd H p ob) (LvF F ρ E (B.set i c') σ) → CellOk K (upd H p ob) (LvF F ρ E (B.set i c') σ) ρ c' p) :
    Rel K F ρ E (B.set i c') σ (upd H p ob) ∧ Stp H (LvF F ρ E B σ) (upd H p ob) (LvF F ρ E (B.set i c') σ) := by
  have px : ρ <+: ρ := List.prefix_refl _
  have hi : i < B.length := (List.getElem?_eq_some_iff.mp hb).1
  obtain ⟨_, nO⟩ := r.box i c p hb hl hρ
  have key : ∀ (j : Nat) (d : Cell), (B.set i c')[j]? = some d → d.live = true → ∃ d', B[j]? = some d' ∧ d'.live = true := fun j d e hd => by
    by_cases hj : i = j
    · subst hj; exact ⟨c, hb, hl⟩
    · rw [List.getElem?_set_ne hj] at e; exact ⟨d, e, hd⟩
  have lv : ∀ q, LvF F ρ E (B.set i c') σ q → LvF F ρ E B σ q := fun q z => by
    rcases z with z | ⟨j, d, h1, h2, h3⟩ | z
    · exact .inl z
    · obtain ⟨d', h4, h5⟩ := key j d h1 h2
      exact .inr (.inl ⟨j, d', h4, h5, h3⟩)
    · exact .inr (.inr z)
  have blv : ∀ q, BLv ρ (B.set i c') q → BLv ρ B q := fun q ⟨j, d, h1, h2, h3⟩ => by
    obtain ⟨d', h4, h5⟩ := key j d h1 h2
    exact ⟨j, d', h4, h5, h3⟩
  have lb : BLv ρ B p := ⟨i, c, hb, hl, hρ⟩
  have lp : LvF F ρ E B σ p := .inr (.inl lb)
  have s : Stp H (LvF F ρ E B σ) (upd H p ob) (LvF F ρ E (B.set i c') σ) := fun q x h n => ⟨by rw [upd_ne (by rintro rfl; exact n lp)]; exact h, fun z => n (lv q z)⟩
  refine ⟨⟨r.elen, by rw [List.length_set]; exact r.blen, fun j w e => ?_, fun j d e => ?_, r.oinj, fun j d q e1 e2 e3 => ?_, fun j k d f q e1 e2 e3 e4 e5 e6 => ?_, fun q h => ?_, r.old.trans s, fun q x h => ?_⟩, s⟩
  · obtain ⟨w', h1, h2⟩ := r.val j w e
    exact ⟨w', h1, h2.mono s px⟩
  · obtain ⟨h3, q, h4, h5, h6, h7⟩ := r.own j d e
    have ne : q ≠ p := fun z => h7 (z ▸ lb)
    exact ⟨h3, q, h4, h5.mono s px (upd_ne ne), h6, fun z => h7 (blv q z)⟩
  · by_cases hj : i = j
    · subst hj
      rw [List.getElem?_set_self hi] at e1; cases e1
      rw [hρ] at e3; cases e3
      exact ⟨hc s, nO⟩
    · rw [List.getElem?_set_ne hj] at e1
      obtain ⟨h4, h5⟩ := r.box j d q e1 e2 e3
      have ne : q ≠ p := fun z => by subst z; exact hj (r.binj i j c d q hb hl e1 e2 hρ e3)
      exact ⟨h4.mono s px (upd_ne ne), h5⟩
  · obtain ⟨d1, a1, a2⟩ := key j d e1 e2
    obtain ⟨d2, a3, a4⟩ := key k f e3 e4
    exact r.binj j k d1 d2 q a1 a2 a3 a4 e5 e6
  · have ne : q ≠ p := fun z => nO (z ▸ h)
    rw [upd_ne ne]; exact r.out q h
  · obtain ⟨o', h1⟩ := r.grow q x h
    by_cases ne : q = p
    · subst ne; exact ⟨ob, upd_same⟩
    · exact ⟨o', by rw [upd_ne ne]; exact h1⟩
/-- what a changeable thing is, and how it is changed -/
theorem wr_ok {r : R} {c c' : Cell} {ob : HO} (rl : Rel K F ρ E B σ H) (hnf : ∀ d, r ≠ .fr d) (rr : RepR K F H (LvF F ρ E B σ) ρ E σ r v) (hc : cellOf r E B = some c) (hl : c.live = true) (hl' : c'.live = true) :
    ∃ p, v = .ref p ∧ CellOk K H (LvF F ρ E B σ) ρ c p ∧
      ∀ ob, (∀ Lv', Stp H (LvF F ρ E B σ) (upd H p ob) Lv' → CellOk K (upd H p ob) Lv' ρ c' p) → AftT K F ρ E B σ H ρ (put r E B c').1 (put r E B c').2 (upd H p ob) := by
  have px : ρ <+: ρ := List.prefix_refl _
  have boxed : ∀ j, B[j]? = some c → Rep K H (LvF F ρ E B σ) ρ (.box j) v → ∃ p, v = .ref p ∧ CellOk K H (LvF F ρ E B σ) ρ c p ∧
      ∀ ob, (∀ Lv', Stp H (LvF F ρ E B σ) (upd H p ob) Lv' → CellOk K (upd H p ob) Lv' ρ c' p) → AftT K F ρ E B σ H ρ E (B.set j c') (upd H p ob) := fun j hB hr => by
    simp only [Rep] at hr
    obtain ⟨p, hp, rfl⟩ := hr
    refine ⟨p, rfl, (rl.box j c p hB hl hp).1, fun ob h => ?_⟩
    obtain ⟨h1, h2⟩ := rl.wrB (ob := ob) hB hl hp hl' (h _)
    exact ⟨px, h1, h2, EnLe.refl⟩
  cases r with
  | fr d => exact absurd rfl (hnf d)
  | w x =>
    cases x with
    | box j => exact boxed j hc rr
    | _ => cases hc
  | s i =>
    simp only [cellOf] at hc
    simp only [put]
    split at hc
    · next d hd =>
      cases hc
      obtain ⟨_, p, h1, h2, _⟩ := rl.own i c hd
      have e : v = .ref p := by
        have := rr.1
        rw [h1] at this
        simpa using this.symm
      subst e
      refine ⟨p, rfl, h2, fun ob h => ?_⟩
      obtain ⟨h3, h4, h5⟩ := rl.wrS (ob := ob) hd h1 hl' (h _)
      exact ⟨px, h3, h4, h5⟩
    · next j hj =>
      obtain ⟨w, h4, h5⟩ := rl.val i _ hj
      have e : w = v := by
        have := rr.1
        rw [h4] at this
        simpa using this
      subst e
      exact boxed j hc h5
    · cases hc
end

/-! ### calls of defs -/
def OB (Out : AS) (ρ : List Addr) (B : Bx) : AS := fun q => Out q ∨ BLv ρ B q
structure BRel (K : PySem.W.Frag) (Out : AS) (ρ : List Addr) (B : Bx) (H : Hp) : Prop where
  blen : ρ.length = B.length
  box : ∀ (i : Nat) (c : Cell) (p : Addr), B[i]? = some c → c.live = true → ρ[i]? = some p → CellOk K H (OB Out ρ B) ρ c p ∧ ¬ Out p
  binj : ∀ (i j : Nat) (c d : Cell) (p : Addr), B[i]? = some c → c.live = true → B[j]? = some d → d.live = true → ρ[i]? = some p → ρ[j]? = some p → i = j
  out : ∀ q, Out q → ∃ o, H q = some o
structure BAft (K : PySem.W.Frag) (Out : AS) (ρ : List Addr) (B : Bx) (H : Hp) (u : U) (ρ' : List Addr) (B' : Bx) (H' : Hp) (v : V) : Prop where
  px : ρ <+: ρ'
  rel : BRel K Out ρ' B' H'
  same : ∀ q, Out q → H' q = H q
  stp : Stp H (OB Out ρ B) H' (OB Out ρ' B')
  grow : ∀ q o, H q = some o → ∃ o', H' q = some o'
  rep : Rep K H' (OB Out ρ' B') ρ' u v
/-- the promise: the def does what the function g says -/
def spF (K : PySem.W.Frag) (n : Nat) (g : Fn) : Sp := fun vs H Q _ => ∃ Out ρ B us, us.length = n ∧ BRel K Out ρ B H ∧ Reps K H (OB Out ρ B) ρ us vs ∧
  match g us B with
  | .ok u B' => ∀ ρ' H' v, BAft K Out ρ B H u ρ' B' H' v → Q v H'
  | _ => False
theorem spF_len {K : PySem.W.Frag} {n : Nat} {g : Fn} : ∀ vs H Q E, spF K n g vs H Q E → vs.length = n := fun vs H Q E ⟨Out, ρ, B, us, h1, _, h3, _⟩ => by rw [← h3.len]; exact h1
/-- where g says more -/
def FLe (g g' : Fn) : Prop := ∀ us B, g' us B ≠ .bad → g us B = g' us B
theorem spF_imp {K : PySem.W.Frag} {n : Nat} {g g' : Fn} (h : ∀ us B, us.length = n → g' us B ≠ .bad → g us B = g' us B) : ∀ vs H Q E, spF K n g' vs H Q E → spF K n g vs H Q E := fun vs H Q E ⟨Out, ρ, B, us, h1, h2, h3, h4⟩ =>
  ⟨Out, ρ, B, us, h1, h2, h3, by
    cases e : g' us B with
    | bad => rw [e] at h4; exact h4.elim
    | ex c B' => rw [e] at h4; exact h4.elim
    | ok u B' =>
      rw [h us B h1 (by rw [e]; intro z; cases z), e]
      rw [e] at h4
      exact h4⟩
section
variable {K : PySem.W.Frag} {F : Fm} {ρ ρ' : List Addr} {E E' : En} {B B' : Bx} {σ : L2.St} {H H' : Hp} {p : Addr} {v : V} {u : U} {o : Option HO}
abbrev outOf (F : Fm) (E : En) (σ : L2.St) : AS := fun q => F.Out q ∨ SLv E σ q
theorem ob_iff {q : Addr} : OB (outOf F E σ) ρ B q ↔ LvF F ρ E B σ q := by
  unfold OB LvF outOf
  constructor
  · rintro ((h | h) | h)
    · exact .inl h
    · exact .inr (.inr h)
    · exact .inr (.inl h)
  · rintro (h | h | h)
    · exact .inl (.inl h)
    · exact .inr h
    · exact .inl (.inr h)
theorem ob_eq : OB (outOf F E σ) ρ B = LvF F ρ E B σ := funext fun _ => propext ob_iff
theorem Rel.brel (r : Rel K F ρ E B σ H) : BRel K (outOf F E σ) ρ B H := by
  refine ⟨r.blen, fun i c p h1 h2 h3 => ?_, r.binj, fun q h => r.lv_there q (ob_iff.mp (.inl h))⟩
  obtain ⟨h4, h5⟩ := r.box i c p h1 h2 h3
  rw [ob_eq]
  refine ⟨h4, fun z => z.elim h5 fun ⟨j, d, e1, e2⟩ => ?_⟩
  obtain ⟨_, p', e3, _, _, e4⟩ := r.own j d e1
  rw [e3] at e2
  have : p' = p := by simpa using e2
  subst this
  exact e4 ⟨i, c, h1, h2, h3⟩
theorem Rel.back {v : V} (r : Rel K F ρ E B σ H) (a : BAft K (outOf F E σ) ρ B H u ρ' B' H' v) : Aft K F ρ E B σ H (.w u) ρ' E B' H' v := by
  have s : Stp H (LvF F ρ E B σ) H' (LvF F ρ' E B' σ) := by have := a.stp; rw [ob_eq, ob_eq] at this; exact this
  have rp : Rep K H' (LvF F ρ' E B' σ) ρ' u v := by have := a.rep; rw [ob_eq] at this; exact this
  refine ⟨a.px, ⟨r.elen, a.rel.blen, fun i w h => ?_, fun i c h => ?_, r.oinj, fun i c q h1 h2 h3 => ?_, a.rel.binj, fun q h => ?_, r.old.trans s, fun q x h => ?_⟩, s, EnLe.refl, rp⟩
  · obtain ⟨w', h1, h2⟩ := r.val i w h
    exact ⟨w', h1, h2.mono s a.px⟩
  · obtain ⟨h1, q, h2, h3, h4, h5⟩ := r.own i c h
    have oq : outOf F E σ q := .inr ⟨i, c, h, h2⟩
    exact ⟨h1, q, h2, h3.mono s a.px (a.same q oq), h4, fun ⟨j, d, e1, e2, e3⟩ => (a.rel.box j d q e1 e2 e3).2 oq⟩
  · have := a.rel.box i c q h1 h2 h3
    rw [ob_eq] at this
    exact ⟨this.1, fun z => this.2 (.inl z)⟩
  · rw [a.same q (.inl h)]; exact r.out q h
  · obtain ⟨o', h1⟩ := r.grow q x h
    exact a.grow q o' h1
end
def mCall (g : Fn) (fs : Ar) : Ex := fun E B => (fs E B).bind fun us E1 B1 =>
  match g us B1 with
  | .ok u B2 => .ok (.w u) E1 B2
  | .ex c B2 => .ex c E1 B2
  | .bad => .bad
section
variable {X : Cx} {a b c e : Expr} {es : List Expr} {fa fb : Ex} {fs : Ar} {pos p p2 p3 cpos apos : Pos} {x : Str} {k : Nat} {f : Addr} {fd : FuncData} {ps : List Str} {g : Fn}
theorem call_reads {sp : Sp} {t : TA} (hsp : sp = spF X.K ps.length g) (ha : ∀ F ρ E B σ H Q, Rel X.K F ρ E B σ H → PostA X.K F ρ E B σ H (fs E B) Q → t σ H Q) (hlen : ∀ us B, us.length ≠ ps.length → g us B = .bad) {XX : XK} :
    ∀ F ρ E B σ H Q, Rel X.K F ρ E B σ H → PostE X.K F ρ E B σ H (mCall g fs E B) Q → tCall sp [] XX t σ H Q := by
  subst hsp
  intro F ρ E B σ H Q rl q
  refine ha F ρ E B σ H _ rl ?_
  simp only [mCall] at q
  cases h1 : fs E B with
  | bad => rw [h1] at q; exact q
  | ex c E' B' => rw [h1] at q; exact q
  | ok us E1 B1 =>
    rw [h1] at q
    intro ρ1 H1 vs A1
    simp only [O.bind_ok] at q
    have hl : us.length = ps.length := by
      by_cases z : us.length = ps.length
      · exact z
      · rw [hlen us B1 z] at q; exact q.elim
    rw [List.append_nil]
    refine ⟨outOf F E1 σ, ρ1, B1, us, hl, A1.t.rel.brel, by rw [ob_eq]; exact A1.reps, ?_⟩
    cases h2 : g us B1 with
    | bad => rw [h2] at q; exact q.elim
    | ex c B' => rw [h2] at q; exact q.elim
    | ok u B2 =>
      rw [h2] at q
      exact fun ρ2 H2 v A2 => q ρ2 H2 v (A1.t.then (A1.t.rel.back A2))
theorem sndE_call (Fk : FnOk X.prog X.w X.K X.mg X.base CX0 k f fd ps (spF X.K ps.length g)) (hr : Room k X.A) (hm : X.mg x = some (.ref f)) (hk : PySem.W.keepIn X.K (.ref f) = true) (hb : Binds X.K fd ps []) (hlen : ∀ us B, us.length ≠ ps.length → g us B = .bad) (ha : SndA X (e :: es) fs)
    (hg : Gl X x := by rfl) (hdb : (x == ("__debug__" : Str)) = false := by decide) (hs : starEach (e :: es) X.env = (false, eval e X.env) :: starEach es X.env := by rfl) (hpl : (backTo pos (starEach es X.env)).any (·.1) = false := by rfl) : SndE X (.Call (.Name x p) (e :: es) [] pos) (mCall g fs) := by
  obtain ⟨t, p1, ha⟩ := ha
  exact ⟨_, pe_call Fk hr hg hm hk hb .nil (pass0 (X := X)) p1 hdb hs hpl, call_reads rfl ha hlen⟩
theorem sndE_call0 (Fk : FnOk X.prog X.w X.K X.mg X.base CX0 k f fd [] (spF X.K 0 g)) (hr : Room k X.A) (hm : X.mg x = some (.ref f)) (hk : PySem.W.keepIn X.K (.ref f) = true) (hb : Binds X.K fd [] []) (hlen : ∀ us B, us.length ≠ 0 → g us B = .bad)
    (hg : Gl X x := by rfl) (hdb : (x == ("__debug__" : Str)) = false := by decide) : SndE X (.Call (.Name x p) [] [] pos) (mCall g mNil) :=
  ⟨_, pe_call0 Fk hr hg hm hk hb .nil (pass0 (X := X)) hdb, call_reads (X := X) (ps := []) (fs := mNil) rfl (fun F ρ E B σ H Q rl h => h ρ H [] ⟨AftT.refl rl, Reps.nil⟩) hlen⟩
end

/-! ### statements -/
inductive Fl where
  | nx | rt (u : U) | bk | ct
abbrev Sm := En → Bx → O Fl
def PostS (K : PySem.W.Frag) (F : Fm) (ρ : List Addr) (o : O Fl) (D : Ends) : Prop :=
  match o with
  | .ok .nx E' B' => ∀ ρ' σ' H', ρ <+: ρ' → Rel K F ρ' E' B' σ' H' → D.nx σ' H'
  | .ok .bk E' B' => ∀ ρ' σ' H', ρ <+: ρ' → Rel K F ρ' E' B' σ' H' → D.bk σ' H'
  | .ok .ct E' B' => ∀ ρ' σ' H', ρ <+: ρ' → Rel K F ρ' E' B' σ' H' → D.ct σ' H'
  | .ok (.rt u) E' B' => ∀ ρ' σ' H' v, ρ <+: ρ' → Rel K F ρ' E' B' σ' H' → Rep K H' (LvF F ρ' E' B' σ') ρ' u v → D.rt v H'
  | _ => False
def SndS (X : Cx) (st : Stmt) (f : Sm) : Prop := ∃ t : TS, PS X st t ∧ ∀ F ρ E B σ H D, Rel X.K F ρ E B σ H → PostS X.K F ρ (f E B) D → t D σ H
def SndB (X : Cx) (sts : List Stmt) (f : Sm) : Prop := ∃ t : TS, PSs X sts t ∧ ∀ F ρ E B σ H D, Rel X.K F ρ E B σ H → PostS X.K F ρ (f E B) D → t D σ H
def sNext : Sm := fun E B => .ok .nx E B
def sBreak : Sm := fun E B => .ok .bk E B
def sCont : Sm := fun E B => .ok .ct E B
def sBad : Sm := fun _ _ => .bad
def sSeq (f g : Sm) : Sm := fun E B => (f E B).bind fun fl E1 B1 =>
  match fl with
  | .nx => g E1 B1
  | fl => .ok fl E1 B1
def sSet (i : Nat) (f : Ex) : Sm := fun E B => (f E B).bind fun r E1 B1 =>
  match settle r E1 with
  | some (u, E2) => if i < E2.length then .ok .nx (E2.set i (.val u)) B1 else .bad
  | none => .bad
def sOwn (i : Nat) (f : Ex) : Sm := fun E B => (f E B).bind fun r E1 B1 =>
  match r with
  | .fr c => if i < E1.length then .ok .nx (E1.set i (.own c)) B1 else .bad
  | _ => .bad
def sExpr (f : Ex) : Sm := fun E B => (f E B).bind fun _ E1 B1 => .ok .nx E1 B1
def sRet (f : Ex) : Sm := fun E B => (f E B).bind fun r E1 B1 =>
  match settle r E1 with
  | some (u, E2) => .ok (.rt u) E2 B1
  | none => .bad
def sRetN : Sm := fun E B => .ok (.rt .non) E B
def sIf (c : Te) (f g : Sm) : Sm := fun E B => (c E B).bind fun b E1 B1 => if b = true then f E1 B1 else g E1 B1
theorem PostS.px {K : PySem.W.Frag} {F : Fm} {ρ ρ' : List Addr} {o : O Fl} {D : Ends} (h : PostS K F ρ o D) (e : ρ <+: ρ') : PostS K F ρ' o D := by
  cases o with
  | bad => exact h
  | ex _ _ _ => exact h
  | ok fl E B =>
    cases fl with
    | nx => exact fun ρ2 σ H x => h ρ2 σ H (e.trans x)
    | bk => exact fun ρ2 σ H x => h ρ2 σ H (e.trans x)
    | ct => exact fun ρ2 σ H x => h ρ2 σ H (e.trans x)
    | rt u => exact fun ρ2 σ H v x => h ρ2 σ H v (e.trans x)
section
variable {X : Cx} {a b c e : Expr} {es : List Expr} {fa fb : Ex} {ft : Te} {f g : Sm} {pos p p2 p3 cpos apos : Pos} {x : Str} {st : Stmt} {rest sts : List Stmt}
theorem sndB_nil : SndB X [] sNext := ⟨_, pss_nil, fun F ρ E B σ H D rl h => h ρ σ H (List.prefix_refl _) rl⟩
theorem sndB_one (h : SndS X st f) : SndB X [st] f := by
  obtain ⟨t, p1, h⟩ := h
  exact ⟨t, pss_one p1, h⟩
theorem sndB_cons (h : SndS X st f) (hr : SndB X rest g) : SndB X (st :: rest) (sSeq f g) := by
  obtain ⟨t, p1, h⟩ := h
  obtain ⟨u, p2, hr⟩ := hr
  refine ⟨_, pss_cons p1 p2, fun F ρ E B σ H D rl q => ?_⟩
  refine h F ρ E B σ H _ rl ?_
  simp only [sSeq] at q
  cases h1 : f E B with
  | bad => rw [h1] at q; exact q
  | ex c E' B' => rw [h1] at q; exact q
  | ok fl E1 B1 =>
    rw [h1] at q
    simp only [O.bind_ok] at q
    cases fl with
    | nx => exact fun ρ1 σ1 H1 px r1 => hr F ρ1 E1 B1 σ1 H1 D r1 (q.px px)
    | bk => exact q
    | ct => exact q
    | rt u => exact q
theorem sndS_pass : SndS X (.Pass pos) sNext := ⟨_, ps_pass, fun F ρ E B σ H D rl h => h ρ σ H (List.prefix_refl _) rl⟩
theorem sndS_break : SndS X (.Break pos) sBreak := ⟨_, ps_break, fun F ρ E B σ H D rl h => h ρ σ H (List.prefix_refl _) rl⟩
theorem sndS_continue : SndS X (.Continue pos) sCont := ⟨_, ps_continue, fun F ρ E B σ H D rl h => h ρ σ H (List.prefix_refl _) rl⟩
theorem sndS_never : SndS X st sBad := ⟨_, ps_never, fun F ρ E B σ H D rl h => h.elim⟩
theorem sndB_never : SndB X sts sBad := ⟨_, pss_never, fun F ρ E B σ H D rl h => h.elim⟩
theorem sndS_if {bs cs : List Stmt} (ht : SndT X c ft) (hf : SndB X bs f) (hg : SndB X cs g) : SndS X (.If c bs cs pos) (sIf ft f g) := by
  obtain ⟨t, p1, ht⟩ := ht
  obtain ⟨u, p2, hf⟩ := hf
  obtain ⟨u', p3, hg⟩ := hg
  refine ⟨_, ps_if p1 p2 p3, fun F ρ E B σ H D rl q => ?_⟩
  refine ht F ρ E B σ H _ rl ?_
  simp only [sIf] at q
  cases h1 : ft E B with
  | bad => rw [h1] at q; exact q
  | ex c E' B' => rw [h1] at q; exact q
  | ok b1 E1 B1 =>
    rw [h1] at q
    intro ρ1 H1 A1
    cases b1 with
    | true =>
      simp only [O.bind_ok, if_true] at q ⊢
      exact hf F ρ1 E1 B1 σ H1 D A1.rel (q.px A1.px)
    | false =>
      simp only [O.bind_ok, Bool.false_eq_true, if_false] at q ⊢
      exact hg F ρ1 E1 B1 σ H1 D A1.rel (q.px A1.px)
theorem set_reads {i : Nat} {t : TE} (ha : ∀ F ρ E B σ H Q, Rel X.K F ρ E B σ H → PostE X.K F ρ E B σ H (fa E B) Q → t σ H Q) : ∀ F ρ E B σ H D, Rel X.K F ρ E B σ H → PostS X.K F ρ (sSet i fa E B) D → tAsg t (gName i) D σ H := by
  intro F ρ E B σ H D rl q
  refine ha F ρ E B σ H _ rl ?_
  simp only [sSet] at q
  cases h1 : fa E B with
  | bad => rw [h1] at q; exact q
  | ex c E' B' => rw [h1] at q; exact q
  | ok r1 E1 B1 =>
    rw [h1] at q
    intro ρ1 H1 v1 A1
    simp only [O.bind_ok] at q
    split at q
    · next u E2 es =>
      split at q
      · next hi =>
        obtain ⟨T1, R1⟩ := A1.settled es
        exact q ρ1 _ H1 T1.px (T1.rel.setVal hi R1)
      · exact q.elim
    · exact q.elim
theorem own_reads {i : Nat} {t : TE} (ha : ∀ F ρ E B σ H Q, Rel X.K F ρ E B σ H → PostE X.K F ρ E B σ H (fa E B) Q → t σ H Q) : ∀ F ρ E B σ H D, Rel X.K F ρ E B σ H → PostS X.K F ρ (sOwn i fa E B) D → tAsg t (gName i) D σ H := by
  intro F ρ E B σ H D rl q
  refine ha F ρ E B σ H _ rl ?_
  simp only [sOwn] at q
  cases h1 : fa E B with
  | bad => rw [h1] at q; exact q
  | ex c E' B' => rw [h1] at q; exact q
  | ok r1 E1 B1 =>
    rw [h1] at q
    intro ρ1 H1 v1 A1
    simp only [O.bind_ok] at q
    cases r1 with
    | w _ => exact q.elim
    | s _ => exact q.elim
    | fr c =>
      simp only at q
      split at q
      · next hi =>
        obtain ⟨p, rfl, hl, hc, hn⟩ := A1.rep
        exact q ρ1 _ H1 A1.px (Rel.setOwn (o := H1 p) A1.rel hn hi hl hc)
      · exact q.elim
theorem sndS_set {i : Nat} (ha : SndE X a fa) (hN : X.N.Nodup) (hi : X.N[i]? = some x := by rfl) (hx : Loc X.env.scope x := by first | exact Or.inl rfl | exact Or.inr rfl) (hs : swapsWith a (some (.Name x p)) pos.line X.env = pure false := by rfl)
    (hf : X.fn x = true ∨ X.env.scope.names.lookup x = some .local := by first | exact .inl rfl | exact .inr rfl | assumption) : SndS X (.Assign [.Name x p] a pos) (sSet i fa) := by
  obtain ⟨t, p1, ha⟩ := ha
  exact ⟨_, ps_set hN hi hx p1 hs hf, set_reads ha⟩
theorem sndS_own {i : Nat} (ha : SndE X a fa) (hN : X.N.Nodup) (hi : X.N[i]? = some x := by rfl) (hx : Loc X.env.scope x := by first | exact Or.inl rfl | exact Or.inr rfl) (hs : swapsWith a (some (.Name x p)) pos.line X.env = pure false := by rfl)
    (hf : X.fn x = true ∨ X.env.scope.names.lookup x = some .local := by first | exact .inl rfl | exact .inr rfl | assumption) : SndS X (.Assign [.Name x p] a pos) (sOwn i fa) := by
  obtain ⟨t, p1, ha⟩ := ha
  exact ⟨_, ps_set hN hi hx p1 hs hf, own_reads ha⟩
theorem sndS_expr (ha : SndE X a fa) (hs : swapsWith a none pos.line X.env = pure false := by rfl) : SndS X (.Expr a pos) (sExpr fa) := by
  obtain ⟨t, p1, ha⟩ := ha
  refine ⟨_, ps_expr p1 hs, fun F ρ E B σ H D rl q => ?_⟩
  refine ha F ρ E B σ H _ rl ?_
  simp only [sExpr] at q
  cases h1 : fa E B with
  | bad => rw [h1] at q; exact q
  | ex c E' B' => rw [h1] at q; exact q
  | ok r1 E1 B1 => rw [h1] at q; exact fun ρ1 H1 v1 A1 => q ρ1 σ H1 A1.px A1.letgo.rel
theorem sndS_ret (ha : SndE X a fa) : SndS X (.Return (some a) pos) (sRet fa) := by
  obtain ⟨t, p1, ha⟩ := ha
  refine ⟨_, ps_ret p1, fun F ρ E B σ H D rl q => ?_⟩
  refine ha F ρ E B σ H _ rl ?_
  simp only [sRet] at q
  cases h1 : fa E B with
  | bad => rw [h1] at q; exact q
  | ex c E' B' => rw [h1] at q; exact q
  | ok r1 E1 B1 =>
    rw [h1] at q
    intro ρ1 H1 v1 A1
    simp only [O.bind_ok] at q
    split at q
    · next u E2 es =>
      obtain ⟨T1, R1⟩ := A1.settled es
      exact q ρ1 σ H1 v1 T1.px T1.rel R1
    · exact q.elim
theorem sndS_retN : SndS X (.Return none pos) sRetN := ⟨_, ps_retN, fun F ρ E B σ H D rl h => h ρ σ H .non (List.prefix_refl _) rl (by simp [Rep])⟩
end

/-! ### a def by its body -/
def runBody (N n : Nat) (f : Sm) : Fn := fun us B =>
  if us.length = n then
    match f (us.map .val ++ List.replicate (N - us.length) .un) B with
    | .ok (.rt u) _ B' => .ok u B'
    | .ok .nx _ B' => .ok .non B'
    | .ex c _ B' => .ex c B'
    | _ => .bad
  else .bad
theorem runBody_len {N n : Nat} {f : Sm} : ∀ us B, us.length ≠ n → runBody N n f us B = .bad := fun us B h => by unfold runBody; rw [if_neg h]
section
variable {P : Program} {w : World} {K : PySem.W.Frag} {mg : Str → Option Value} {base : Heap}
theorem rel_start {Out : AS} {ρ : List Addr} {B : Bx} {H : Hp} {us : List U} {vs : List V} {N : List Str} (b : BRel K Out ρ B H) (h : Reps K H (OB Out ρ B) ρ us vs) :
    Rel K ⟨Out, H, OB Out ρ B⟩ ρ (us.map .val ++ List.replicate (N.length - us.length) .un) B (L2.start N vs) H := by
  have hl := h.len
  have ev : ∀ (i : Nat) (s : Sl), (us.map Sl.val ++ List.replicate (N.length - us.length) Sl.un)[i]? = some s → s = .un ∨ ∃ u, us[i]? = some u ∧ s = .val u := fun i s e => by
    by_cases hi : i < us.length
    · rw [List.getElem?_append_left (by simpa using hi), List.getElem?_map] at e
      cases q : us[i]? with
      | none => rw [q] at e; cases e
      | some u => rw [q] at e; cases e; exact .inr ⟨u, rfl, rfl⟩
    · rw [List.getElem?_append_right (by simpa using hi)] at e
      exact .inl (List.mem_replicate.mp (List.mem_of_getElem? e)).2
  have nos : ∀ q, ¬ SLv (us.map Sl.val ++ List.replicate (N.length - us.length) Sl.un) (L2.start N vs) q := fun q ⟨i, c, h1, _⟩ => by
    rcases ev i _ h1 with z | ⟨u, _, z⟩ <;> cases z
  have lv : LvF ⟨Out, H, OB Out ρ B⟩ ρ (us.map .val ++ List.replicate (N.length - us.length) .un) B (L2.start N vs) = OB Out ρ B := funext fun q => propext ⟨fun z => by
    rcases z with z | z | z
    · exact .inl z
    · exact .inr z
    · exact absurd z (nos q), fun z => by
    rcases z with z | z
    · exact .inl z
    · exact .inr (.inl z)⟩
  refine ⟨by simp [L2.start, hl], b.blen, fun i u e => ?_, fun i c e => ?_, fun i j c d q e1 e2 e3 e4 => ?_, fun i c q h1 h2 h3 => ?_, b.binj, fun q h => ⟨rfl, b.out q h⟩, by rw [lv]; exact Stp.refl, fun q o h => ⟨o, h⟩⟩
  · rw [lv]
    rcases ev i _ e with z | ⟨u', h1, z⟩
    · cases z
    · cases z
      obtain ⟨v, h2, h3⟩ := h.get h1
      have hi : i < vs.length := (List.getElem?_eq_some_iff.mp h2).1
      exact ⟨v, by unfold L2.start; rw [List.getElem?_append_left (by simpa using hi), List.getElem?_map, h2]; rfl, h3⟩
  · rcases ev i _ e with z | ⟨u, _, z⟩ <;> cases z
  · rcases ev i _ e1 with z | ⟨u, _, z⟩ <;> cases z
  · rw [lv]; exact b.box i c q h1 h2 h3
theorem rel_end {Out : AS} {ρ ρ' : List Addr} {B B' : Bx} {E' : En} {σ' : L2.St} {H H' : Hp} {u : U} {v : V} (px : ρ <+: ρ') (r : Rel K ⟨Out, H, OB Out ρ B⟩ ρ' E' B' σ' H') (h : Rep K H' (LvF ⟨Out, H, OB Out ρ B⟩ ρ' E' B' σ') ρ' u v) : BAft K Out ρ B H u ρ' B' H' v := by
  have less : ∀ q, OB Out ρ' B' q → LvF ⟨Out, H, OB Out ρ B⟩ ρ' E' B' σ' q := fun q z => by
    rcases z with z | z
    · exact .inl z
    · exact .inr (.inl z)
  have s : Stp H' (LvF ⟨Out, H, OB Out ρ B⟩ ρ' E' B' σ') H' (OB Out ρ' B') := Stp.less less
  have px' : ρ' <+: ρ' := List.prefix_refl _
  refine ⟨px, ⟨r.blen, fun i c p h1 h2 h3 => ?_, r.binj, fun q h => ?_⟩, fun q h => (r.out q h).1, r.old.trans s, r.grow, h.mono s px'⟩
  · obtain ⟨h4, h5⟩ := r.box i c p h1 h2 h3
    exact ⟨h4.mono s px' rfl, h5⟩
  · obtain ⟨h1, o, h2⟩ := r.out q h
    exact ⟨o, by rw [h1]; exact h2⟩
theorem fn_body {x qual : Str} {st : Stmt} {f : Addr} {fd : FuncData} {N ps : List Str} {k : Nat} {body : Sm} (Fu : Fun K x qual st f fd) (S : FnScope N ps (defScope st))
    (h : ∀ (cdv : Value) (A : Around) (outer : List Env) (s : Shared) (H : Hp) (E : XK), Room k (A.deeper (PyProof.Rows.envOfC qual (defScope st) s.heap.objs.size f cdv)) →
      SndB (cxOf CX0 P w K mg base N qual (defScope st) f cdv A outer s H E).nox (defBody st) body) : FnOk P w K mg base CX0 (k + 1) f fd ps (spF K ps.length (runBody N.length ps.length body)) := by
  refine Fu.ok S spF_len fun cdv A outer s H vs Q E hr hsp => ?_
  obtain ⟨t, p1, ht⟩ := h cdv A outer s H E hr
  refine ⟨t, p1, ?_⟩
  obtain ⟨Out, ρ, B, us, hl, hb, hrs, q⟩ := hsp
  refine ht ⟨Out, H, OB Out ρ B⟩ ρ (us.map Sl.val ++ List.replicate (N.length - us.length) Sl.un) B (L2.start N vs) H _ (rel_start (N := N) hb hrs) ?_
  unfold runBody at q
  rw [if_pos hl] at q
  cases h1 : body (us.map .val ++ List.replicate (N.length - us.length) .un) B with
  | bad => rw [h1] at q; exact q.elim
  | ex c E' B' => rw [h1] at q; exact q.elim
  | ok fl E' B' =>
    rw [h1] at q
    cases fl with
    | nx => exact fun ρ' σ' H' px r => q ρ' H' .non (rel_end px r (by simp [Rep]))
    | rt u => exact fun ρ' σ' H' v px r hr => q ρ' H' v (rel_end px r hr)
    | bk => exact q.elim
    | ct => exact q.elim
end
end QB
/-! QbG: methods, stores, loops. -/
namespace QB
open PySem L2
section
variable {X : Cx} {a b c e o i : Expr} {es : List Expr} {fa fb fo fe fi : Ex} {fs : Ar} {pos p p2 p3 cpos apos pos' : Pos} {x name : Str}

/-! ### methods of texts -/
theorem mM_reads {id : String} {g : U → List U → Option R} {r : V → List V → Hp → VK → Prop} {to : TE} {t : TA}
    (hm : ∀ F ρ E B σ H (z : Str) us vs r3 Q, Rel X.K F ρ E B σ H → Reps X.K H (LvF F ρ E B σ) ρ us vs → g (.str z) us = some r3 → (∀ H' v, Aft X.K F ρ E B σ H r3 ρ E B H' v → Q v H') → r (.str z) vs H Q)
    (ho : ∀ F ρ E B σ H Q, Rel X.K F ρ E B σ H → PostE X.K F ρ E B σ H (fo E B) Q → to σ H Q) (ha : ∀ F ρ E B σ H Q, Rel X.K F ρ E B σ H → PostA X.K F ρ E B σ H (fs E B) Q → t σ H Q) :
    ∀ F ρ E B σ H Q, Rel X.K F ρ E B σ H → PostE X.K F ρ E B σ H (mM g fo fs E B) Q → to σ H fun x H1 => (∃ z, x = .str z) ∧ t σ H1 fun xs H2 => r x xs H2 Q := by
  intro F ρ E B σ H Q rl q
  refine ho F ρ E B σ H _ rl ?_
  simp only [mM] at q
  cases h1 : fo E B with
  | bad => rw [h1] at q; exact q
  | ex c E' B' => rw [h1] at q; exact q
  | ok r1 E1 B1 =>
    rw [h1] at q
    intro ρ1 H1 v1 A1
    simp only [O.bind_ok] at q
    split at q
    · next r' z =>
      have rr := A1.rep
      simp only [RepR, Rep] at rr
      subst rr
      have T1 := A1.letgo
      refine ⟨⟨z, rfl⟩, ha F ρ1 E1 B1 σ H1 _ T1.rel ?_⟩
      cases h2 : fs E1 B1 with
      | bad => rw [h2] at q; exact q
      | ex c E' B' => rw [h2] at q; exact q
      | ok us E2 B2 =>
        rw [h2] at q
        intro ρ2 H2 vs A2
        simp only [O.bind_ok] at q
        split at q
        · next r3 eg => exact hm F ρ2 E2 B2 σ H2 z us vs r3 Q A2.t.rel A2.reps eg fun H' v A3 => q ρ2 H' v ((T1.trans A2.t).then A3)
        · exact q.elim
    · exact q.elim
theorem sndE_m1 {id : String} {g : U → List U → Option R} (slot : Slot "str" name id) (ty : typeOf (.builtin id) = pure (.type "method_descriptor")) (hm : MethS X id g) (ho : SndE X o fo) (ha : SndE X e fe)
    (hs : starEach [e] X.env = [(false, eval e X.env)] := by rfl) (hb : attributeBase o name X.env (eval o X.env) = eval o X.env := by rfl) (hl : (apos.endLine == pos.line) = true := by rfl) : SndE X (.Call (.Attribute o name apos) [e] [] pos) (mM g fo (mCons fe mNil)) := by
  obtain ⟨r, hr, hm⟩ := hm
  obtain ⟨to, po, ho⟩ := ho
  have ⟨te, pe, he⟩ := ha
  obtain ⟨t, pt, ht⟩ := sndA_cons ha sndA_nil hs
  refine ⟨_, pe_m1 slot ty hr po pe hs hb hl, fun F ρ E B σ H Q rl q => ?_⟩
  -- one argument: the list reading and the single one say the same
  have key : ∀ F ρ E B σ H Q, Rel X.K F ρ E B σ H → PostA X.K F ρ E B σ H (mCons fe mNil E B) Q → (fun σ H Q => te σ H fun y H2 => Q [y] H2 : TA) σ H Q := by
    intro F ρ E B σ H Q rl q
    refine he F ρ E B σ H _ rl ?_
    simp only [mCons] at q
    cases h1 : fe E B with
    | bad => rw [h1] at q; exact q
    | ex c E' B' => rw [h1] at q; exact q
    | ok r1 E1 B1 =>
      rw [h1] at q
      intro ρ1 H1 v1 A1
      simp only [O.bind_ok] at q
      split at q
      · next u E2 es =>
        obtain ⟨T1, R1⟩ := A1.settled es
        exact q ρ1 H1 [v1] ⟨T1, Reps.one R1⟩
      · exact q.elim
  have := mM_reads (id := id) (r := r) (to := to) hm ho key F ρ E B σ H Q rl q
  exact this
theorem sndE_m0 {id : String} {g : U → List U → Option R} (slot : Slot "str" name id) (ty : typeOf (.builtin id) = pure (.type "method_descriptor")) (hm : MethS X id g) (ho : SndE X o fo)
    (hb : attributeBase o name X.env (eval o X.env) = eval o X.env := by rfl) (hl : (apos.endLine == pos.line) = true := by rfl) : SndE X (.Call (.Attribute o name apos) [] [] pos) (mM g fo mNil) := by
  obtain ⟨r, hr, hm⟩ := hm
  obtain ⟨to, po, ho⟩ := ho
  refine ⟨_, pe_m0 slot ty hr po hb hl, fun F ρ E B σ H Q rl q => ?_⟩
  exact mM_reads (id := id) (r := r) (to := to) (fs := mNil) (t := fun _ H Q => Q [] H) hm ho (fun F ρ E B σ H Q rl h => h ρ H [] ⟨AftT.refl rl, Reps.nil⟩) F ρ E B σ H Q rl q
theorem sndE_mn {id : String} {g : U → List U → Option R} (pa : PlainAttrs "str") (slot : Slot "str" name id) (ty : typeOf (.builtin id) = pure (.type "method_descriptor")) (hm : MethS X id g) (ho : SndE X o fo) (ha : SndA X (e :: es) fs)
    (hb : attributeBase o name X.env (eval o X.env) = eval o X.env := by rfl) (h3 : (((backTo cpos (starEach (e :: es) X.env)).all fun x => !x.1) && (backToKw cpos (keywordEach [] X.env)).all (·.1.isSome) && decide ((e :: es).length + ([] : List Keyword).length + (if ([] : List Keyword).isEmpty = true then 0 else 1) < 30)) = true := by rfl)
    (hl : (apos.endLine == cpos.line) = true := by rfl) (hs : starEach (e :: es) X.env = (false, eval e X.env) :: starEach es X.env := by rfl) (hpl : (backTo cpos (starEach es X.env)).any (·.1) = false := by rfl) : SndE X (.Call (.Attribute o name apos) (e :: es) [] cpos) (mM g fo fs) := by
  obtain ⟨r, hr, hm⟩ := hm
  obtain ⟨to, po, ho⟩ := ho
  obtain ⟨t, pt, ht⟩ := ha
  refine ⟨_, pe_bm pa slot ty hr po pt hb h3 hl hs hpl, fun F ρ E B σ H Q rl q => ?_⟩
  have := mM_reads (id := id) (r := r) (to := to) hm ho ht F ρ E B σ H (fun v H2 => Q v H2) rl q
  refine (?_ : to σ H fun x H1 => tyV X.K "str" x H1 ∧ t σ H1 fun xs H2 => r x xs H2 Q)
  refine ho F ρ E B σ H _ rl ?_
  simp only [mM] at q
  cases h1 : fo E B with
  | bad => rw [h1] at q; exact q
  | ex c E' B' => rw [h1] at q; exact q
  | ok r1 E1 B1 =>
    rw [h1] at q
    intro ρ1 H1 v1 A1
    simp only [O.bind_ok] at q
    split at q
    · next r' z =>
      have rr := A1.rep
      simp only [RepR, Rep] at rr
      subst rr
      have T1 := A1.letgo
      refine ⟨rfl, ht F ρ1 E1 B1 σ H1 _ T1.rel ?_⟩
      cases h2 : fs E1 B1 with
      | bad => rw [h2] at q; exact q
      | ex c E' B' => rw [h2] at q; exact q
      | ok us E2 B2 =>
        rw [h2] at q
        intro ρ2 H2 vs A2
        simp only [O.bind_ok] at q
        split at q
        · next r3 eg => exact hm F ρ2 E2 B2 σ H2 z us vs r3 Q A2.t.rel A2.reps eg fun H' v A3 => q ρ2 H' v ((T1.trans A2.t).then A3)
        · exact q.elim
    · exact q.elim
def strsOf : List U → Option (List Str)
  | [] => some []
  | .str b :: us => (strsOf us).map (b :: ·)
  | _ => none
theorem strsOf_reps {K : PySem.W.Frag} {H : Hp} {Lv : AS} {ρ : List Addr} : ∀ {us : List U} {vs : List V} {bs : List Str}, Reps K H Lv ρ us vs → strsOf us = some bs → vs = bs.map V.str
  | [], vs, bs, h, e => by simp only [Reps] at h; subst h; simp only [strsOf, Option.some.injEq] at e; subst e; rfl
  | u :: us, vs, bs, h, e => by
    simp only [Reps] at h
    obtain ⟨v, r, rfl, h1, h2⟩ := h
    cases u <;> simp only [strsOf, Option.map_eq_some_iff] at e <;> first | (cases e; done) | skip
    obtain ⟨cs, e1, rfl⟩ := e
    simp only [Rep] at h1
    rw [h1, strsOf_reps h2 e1]; rfl
def gJoin : U → List U → Option R
  | .str a, [.lst us] => match strsOf us with
    | some ys => if (ys.map (·.length)).sum + ys.length * a.length ≤ 16777216 then some (.w (.str (Txt.join a ys))) else none
    | none => none
  | _, _ => none
theorem meth_join : MethS X "str.join" gJoin := by
  refine ⟨_, mt_join, fun F ρ E B σ H z us vs r3 Q rl rs e q => ?_⟩
  unfold gJoin at e
  split at e
  · next a ws hz =>
    injection hz with hz
    subst hz
    split at e
    · next ys ey =>
      split at e
      · next hl =>
        cases e
        simp only [Reps, Rep] at rs
        obtain ⟨v, r, rfl, ⟨p, xs, rfl, ⟨h1, _⟩, h2⟩, rfl⟩ := rs
        exact ⟨_, p, ys, rfl, rfl, .inl (.inl (.inl (by rw [h1, strsOf_reps h2 ey]))), hl, q H _ (Aft.val rl (by simp [Rep]))⟩
      · cases e
    · cases e
  · cases e
def gFind3 : U → List U → Option R
  | .str a, [.str b, .int i] => some (.w (.int (Txt.find3 a b i)))
  | _, _ => none
theorem meth_find3 : MethS X "str.find" gFind3 := by
  refine ⟨_, mt_find3, fun F ρ E B σ H z us vs r3 Q rl rs e q => ?_⟩
  unfold gFind3 at e
  split at e
  · next a b i hz =>
    injection hz with hz
    subst hz
    cases e
    simp only [Reps, Rep] at rs
    obtain ⟨v, r, rfl, rfl, w, r2, rfl, rfl, rfl⟩ := rs
    exact ⟨_, b, i, rfl, rfl, q H _ (Aft.val rl (by simp [Rep]))⟩
  · cases e
def gPartition : U → List U → Option R
  | .str a, [.str b] => if (b.length == 0) = false ∧ a.length ≤ 16777216 then some (.w (.tup [.str (Txt.partition a b).1, .str (Txt.partition a b).2.1, .str (Txt.partition a b).2.2])) else none
  | _, _ => none
theorem meth_partition : MethS X "str.partition" gPartition := by
  refine ⟨_, mt_partition, fun F ρ E B σ H z us vs r3 Q rl rs e q => ?_⟩
  unfold gPartition at e
  split at e
  · next a b hz =>
    injection hz with hz
    subst hz
    split at e
    · next hc =>
      cases e
      simp only [Reps, Rep] at rs
      obtain ⟨v, r, rfl, rfl, rfl⟩ := rs
      exact ⟨_, b, rfl, rfl, hc.1, by rw [sizeLine_eq]; exact hc.2, fun p hp => q _ _ (Aft.tuple rl hp (by simp [Reps, Rep]))⟩
    · cases e
  · cases e

/-! ### lists that change -/
def mAppend (fo fe : Ex) : Ex := fun E B => (fo E B).bind fun r E1 B1 =>
  match cellOf r E1 B1 with
  | some (.lst _) => (mCons fe mNil E1 B1).bind fun us E2 B2 =>
    match us, cellOf r E2 B2 with
    | [u], some (.lst xs) => if xs.length < 16777216 then .ok (.w .non) (put r E2 B2 (.lst (xs ++ [u]))).1 (put r E2 B2 (.lst (xs ++ [u]))).2 else .bad
    | _, _ => .bad
  | _ => .bad
theorem cellOf_nfr {r : R} {E : En} {B : Bx} {c : Cell} (h : cellOf r E B = some c) : ∀ d, r ≠ .fr d := fun d z => by subst z; cases h
theorem addR_nfr {F : Fm} {H : Hp} {r : R} {v : V} (h : ∀ d, r ≠ .fr d) : F.addR H r v = F := by
  cases r with
  | fr d => exact absurd rfl (h d)
  | w _ => rfl
  | s _ => rfl
theorem sndE_append (ho : SndE X o fo) (ha : SndE X e fe) (hb : attributeBase o "append" X.env (eval o X.env) = eval o X.env := by rfl)
    (h3 : (((backTo cpos (starEach [e] X.env)).all fun x => !x.1) && (backToKw cpos (keywordEach [] X.env)).all (·.1.isSome) && decide ([e].length + ([] : List Keyword).length + (if ([] : List Keyword).isEmpty = true then 0 else 1) < 30)) = true := by rfl)
    (hl : (apos.endLine == cpos.line) = true := by rfl) (hs : starEach [e] X.env = (false, eval e X.env) :: starEach [] X.env := by rfl) : SndE X (.Call (.Attribute o "append" apos) [e] [] cpos) (mAppend fo fe) := by
  obtain ⟨to, po, ho⟩ := ho
  obtain ⟨t, pt, ht⟩ := sndA_cons ha sndA_nil hs
  refine ⟨_, pe_bm PySem.F.plainAttrs_list PySem.F.slot_list_append PySem.F.type_list_append mt_append po pt hb h3 hl hs, fun F ρ E B σ H Q rl q => ?_⟩
  refine ho F ρ E B σ H _ rl ?_
  simp only [mAppend] at q
  cases h1 : fo E B with
  | bad => rw [h1] at q; exact q
  | ex c E' B' => rw [h1] at q; exact q
  | ok r1 E1 B1 =>
    rw [h1] at q
    intro ρ1 H1 v1 A1
    simp only [O.bind_ok] at q
    split at q
    · next xs0 hc0 =>
      have nf := cellOf_nfr hc0
      have ae : F.addR H1 r1 v1 = F := addR_nfr nf
      have rel1 : Rel X.K F ρ1 E1 B1 σ H1 := by have := A1.rel; rw [ae] at this; exact this
      have rep1 : RepR X.K F H1 (LvF F ρ1 E1 B1 σ) ρ1 E1 σ r1 v1 := by have := A1.rep; rw [ae] at this; exact this
      obtain ⟨p0, e0, c0, _⟩ := wr_ok (c' := .lst xs0) (ob := .lst []) rel1 nf rep1 hc0 rfl rfl
      obtain ⟨vs0, hv0, _⟩ := c0
      subst e0
      refine ⟨.inl ⟨rfl, vs0, .inl (.inl hv0)⟩, ?_⟩
      refine ht F ρ1 E1 B1 σ H1 _ rel1 ?_
      cases h2 : mCons fe mNil E1 B1 with
      | bad => rw [h2] at q; exact q
      | ex c E' B' => rw [h2] at q; exact q
      | ok us E2 B2 =>
        rw [h2] at q
        intro ρ2 H2 vs A2
        simp only [O.bind_ok] at q
        split at q
        · next u xs hc =>
          split at q
          · next hlen =>
            have A12 : Aft X.K F ρ E B σ H r1 ρ2 E2 B2 H2 (.ref p0) := A1.carry (by rw [ae]; exact A2.t)
            have ae2 : F.addR H2 r1 (.ref p0) = F := addR_nfr nf
            have rel2 : Rel X.K F ρ2 E2 B2 σ H2 := by have := A12.rel; rw [ae2] at this; exact this
            have rep2 : RepR X.K F H2 (LvF F ρ2 E2 B2 σ) ρ2 E2 σ r1 (.ref p0) := by have := A12.rep; rw [ae2] at this; exact this
            have R2 := A2.reps
            simp only [Reps] at R2
            obtain ⟨v, rr, rfl, hru, rfl⟩ := R2
            obtain ⟨p, ep, cp, wr⟩ := wr_ok (c' := .lst (xs ++ [u])) (ob := .lst []) rel2 nf rep2 hc rfl rfl
            have e' : p0 = p := by injection ep
            subst e'
            obtain ⟨ws, hw, hr⟩ := cp
            have T := wr (.lst (ws ++ [v])) fun Lv' s => ⟨ws ++ [v], upd_same, (hr.mono s (List.prefix_refl _)).append (Reps.one (Rep.mono s (List.prefix_refl _) _ _ hru))⟩
            refine ⟨p0, ws, v, rfl, rfl, hw, by rw [sizeLine_eq, ← hr.len]; exact hlen, ?_⟩
            exact q ρ2 _ _ ((A12.letgo.trans T).then (Aft.val T.rel (by simp [Rep])))
          · exact q.elim
        · exact q.elim
    · exact q.elim
/-- o[i] = e, o a list -/
def sStore (fe fo fi : Ex) : Sm := fun E B => (fe E B).bind fun r0 E0 B0 =>
  match settle r0 E0 with
  | none => .bad
  | some (u, E0') => (fo E0' B0).bind fun r E1 B1 => (fi E1 B1).bind fun ri E2 B2 =>
    match ri, cellOf r E2 B2 with
    | .w (.int k), some (.lst xs) => match ixN xs.length k with
      | some j => .ok .nx (put r E2 B2 (.lst (xs.set j u))).1 (put r E2 B2 (.lst (xs.set j u))).2
      | none => .bad
    | _, _ => .bad
theorem sndS_store (he : SndE X e fe) (ho : SndE X o fo) (hi : SndE X i fi) (hs : swapsWithSole [.Subscript o i p] e pos.line X.env = pure false := by rfl) (hw : swappedStores [.Subscript o i p] e X.env = pure none := by rfl)
    (h1 : (assignEach [.Subscript o i p] X.env).map (·.2) = [assign (.Subscript o i p) X.env] := by rfl)
    (hA : ∀ v, assign (.Subscript o i p) X.env v = (do
      let ov ← holding [v] (eval o X.env)
      let iv ← holding [v, ov] (eval i X.env)
      standAt p
      holding [v, ov, iv] (setItem ov iv v)
      release [v, ov, iv] []) := by intro _; rfl) : SndS X (.Assign [.Subscript o i p] e pos) (sStore fe fo fi) := by
  obtain ⟨te, pe, he⟩ := he
  obtain ⟨to, po, ho⟩ := ho
  obtain ⟨ti, pi, hi⟩ := hi
  refine ⟨_, ps_asg pe (pg_sub po pi set_list hA) hs hw h1, fun F ρ E B σ H D rl q => ?_⟩
  refine he F ρ E B σ H _ rl ?_
  simp only [sStore] at q
  cases h1 : fe E B with
  | bad => rw [h1] at q; exact q
  | ex c E' B' => rw [h1] at q; exact q
  | ok r0 E0 B0 =>
    rw [h1] at q
    intro ρ0 H0 v0 A0
    simp only [O.bind_ok] at q
    split at q
    · exact q.elim
    · next u E0' es =>
      obtain ⟨T0, R0⟩ := A0.settled es
      refine ho F ρ0 E0' B0 σ H0 _ T0.rel ?_
      cases h2 : fo E0' B0 with
      | bad => rw [h2] at q; exact q
      | ex c E' B' => rw [h2] at q; exact q
      | ok r E1 B1 =>
        rw [h2] at q
        intro ρ1 H1 v1 A1
        simp only [O.bind_ok] at q
        refine hi _ ρ1 E1 B1 σ H1 _ A1.rel ?_
        cases h3 : fi E1 B1 with
        | bad => rw [h3] at q; exact q
        | ex c E' B' => rw [h3] at q; exact q
        | ok ri E2 B2 =>
          rw [h3] at q
          intro ρ2 H2 v2 A2
          simp only [O.bind_ok] at q
          split at q
          · next r' k xs hc =>
            split at q
            · next j hj =>
              have nf := cellOf_nfr hc
              have A2' := A2.letgo
              have A12 := A1.carry A2'
              have ae2 : F.addR H2 r v1 = F := addR_nfr nf
              have rel2 : Rel X.K F ρ2 E2 B2 σ H2 := by have := A12.rel; rw [ae2] at this; exact this
              have rep2 : RepR X.K F H2 (LvF F ρ2 E2 B2 σ) ρ2 E2 σ r v1 := by have := A12.rep; rw [ae2] at this; exact this
              have rr := A2.rep
              simp only [RepR, Rep] at rr
              subst rr
              have hru : Rep X.K H2 (LvF F ρ2 E2 B2 σ) ρ2 u v0 := Rep.mono A12.letgo.stp A12.px _ _ R0
              obtain ⟨pp, ep, cp, wr⟩ := wr_ok (c' := .lst (xs.set j u)) (ob := .lst []) rel2 nf rep2 hc rfl rfl
              obtain ⟨ws, hw, hr⟩ := cp
              have T := wr (.lst (ws.set j v0)) fun Lv' s => ⟨ws.set j v0, upd_same, Reps.set j (hr.mono s (List.prefix_refl _)) (Rep.mono s (List.prefix_refl _) _ _ hru)⟩
              refine ⟨pp, ws, k, j, ep, rfl, hw, by rw [← hr.len]; exact hj, ?_⟩
              exact q ρ2 σ _ ((T0.trans A12.letgo).px) T.rel
            · exact q.elim
          · exact q.elim
/-! ### name op= e -/
def sAug (k : Nat) (g : U → U → Option R) (fe : Ex) : Sm := fun E B =>
  match E[k]? with
  | some (.val u1) => match flatU u1 with
    | some _ => (fe E B).bind fun r E1 B1 => match view r E1 B1 with
      | some u2 => match g u1 u2 with
        | some (.w z) => if k < E1.length then .ok .nx (E1.set k (.val z)) B1 else .bad
        | _ => .bad
      | none => .bad
    | none => .bad
  | _ => .bad
theorem sndS_aug {k : Nat} {op : Operator} {g : U → U → Option R} (ho : Op2S X (inplaceOp op) g) (he : SndE X e fe) (hN : X.N.Nodup) (hi : X.N[k]? = some x := by rfl) (hx : Loc X.env.scope x := by first | exact Or.inl rfl | exact Or.inr rfl)
    (hf : X.fn x = true ∨ X.env.scope.names.lookup x = some .local := by first | exact .inl rfl | exact .inr rfl | assumption) : SndS X (.AugAssign (.Name x p) op e pos) (sAug k g fe) := by
  obtain ⟨r, hr, ho⟩ := ho
  obtain ⟨te, pe, he⟩ := he
  refine ⟨_, ps_aug hN hi hx pe (ti := r) (fun pins s σ H x y v u Q I r1 r2 h => hr pins s σ H x y v u Q I r1 r2 h) hf, fun F ρ E B σ H D rl q => ?_⟩
  simp only [sAug] at q
  split at q
  · next u1 hu =>
    split at q
    · next fv hfl =>
      obtain ⟨v1, h1, h2⟩ := rl.val k u1 hu
      refine ⟨v1, h1, he F ρ E B σ H _ rl ?_⟩
      cases h3 : fe E B with
      | bad => rw [h3] at q; exact q
      | ex c E' B' => rw [h3] at q; exact q
      | ok r1 E1 B1 =>
        rw [h3] at q
        intro ρ1 H1 v2 A1
        simp only [O.bind_ok] at q
        split at q
        · next u2 e2 =>
          split at q
          · next z eg =>
            split at q
            · next hk =>
              have T1 := A1.letgo
              have r1' : Rep X.K H1 (LvF F ρ1 E1 B1 σ) ρ1 u1 v1 := Rep.mono T1.stp T1.px _ _ h2
              refine ho F ρ1 E1 B1 σ H1 u1 u2 v1 v2 _ _ T1.rel (r1'.top fun i zz => by subst zz; cases hfl) (A1.top e2) eg fun H' v A3 => ?_
              have rep3 : Rep X.K H' (LvF F ρ1 E1 B1 σ) ρ1 z v := A3.rep
              exact q ρ1 _ H' (T1.px.trans A3.px) (Rel.setVal (show Rel X.K F ρ1 E1 B1 σ H' from A3.rel) hk rep3)
            · exact q.elim
          · exact q.elim
        · exact q.elim
    · exact q.elim
  · exact q.elim
/-! ### targets -/
def SameBut (ks : List Nat) (σ σ' : L2.St) : Prop := σ'.length = σ.length ∧ ∀ j, j ∉ ks → σ'[j]? = σ[j]?
abbrev Bd := U → En → Option En
def SndG (X : Cx) (tg : Expr) (ks : List Nat) (bd : Bd) : Prop := ∃ g : TG, PG X tg g ∧ ∀ F ρ E B σ H u v (Q : L2.St → Hp → Prop), Rel X.K F ρ E B σ H → Rep X.K H (LvF F ρ E B σ) ρ u v →
  (match bd u E with
    | some E' => ∀ σ', Rel X.K F ρ E' B σ' H → SameBut ks σ σ' → (∀ q, LvF F ρ E' B σ' q → LvF F ρ E B σ q) → EnLe E E' → Q σ' H
    | none => False) → g v σ H Q
def bdN (k : Nat) : Bd := fun u E => match E[k]? with
  | some (.own _) => none
  | some _ => some (E.set k (.val u))
  | none => none
theorem setVal_lv {K : PySem.W.Frag} {F : Fm} {ρ : List Addr} {E : En} {B : Bx} {σ : L2.St} {H : Hp} {k : Nat} {u : U} {v : V} (r : Rel K F ρ E B σ H) (hk : k < E.length) : ∀ q, LvF F ρ (E.set k (.val u)) B (σ.set k (some v)) q → LvF F ρ E B σ q := fun q z => by
  rcases z with z | z | ⟨j, d, h1, h2⟩
  · exact .inl z
  · exact .inr (.inl z)
  · by_cases hj : k = j
    · subst hj; rw [List.getElem?_set_self hk] at h1; cases h1
    · rw [List.getElem?_set_ne hj] at h1 h2; exact .inr (.inr ⟨j, d, h1, h2⟩)
theorem sndG_name {k : Nat} (hN : X.N.Nodup) (hi : X.N[k]? = some x := by rfl) (hx : Loc X.env.scope x := by first | exact Or.inl rfl | exact Or.inr rfl) (hf : X.fn x = true ∨ X.env.scope.names.lookup x = some .local := by first | exact .inl rfl | exact .inr rfl | assumption) : SndG X (.Name x p) [k] (bdN k) := by
  refine ⟨_, pg_name hN hi hx hf, fun F ρ E B σ H u v Q rl h q => ?_⟩
  simp only [bdN] at q
  have fin : ∀ E', E' = E.set k (Sl.val u) → k < E.length → (∀ σ', Rel X.K F ρ E' B σ' H → SameBut [k] σ σ' → (∀ q, LvF F ρ E' B σ' q → LvF F ρ E B σ q) → EnLe E E' → Q σ' H) → gName k v σ H Q := fun E' e hk q => by
    subst e
    exact q _ (rl.setVal hk h) ⟨List.length_set, fun j hj => List.getElem?_set_ne (by simpa [eq_comm] using hj)⟩ (setVal_lv rl hk) fun j hj => by
      by_cases e : k = j
      · subst e; exact .inl ⟨u, List.getElem?_set_self hk⟩
      · unfold IsSet; rw [List.getElem?_set_ne e]; exact hj
  cases hE : E[k]? with
  | none => rw [hE] at q; exact q.elim
  | some s =>
    have hk : k < E.length := (List.getElem?_eq_some_iff.mp hE).1
    rw [hE] at q
    cases s with
    | own c => exact q.elim
    | un => exact fin _ rfl hk q
    | val w => exact fin _ rfl hk q
abbrev Bds := List U → En → Option En
def SndGs (X : Cx) (tgs : List Expr) (ks : List Nat) (bd : Bds) : Prop := ∃ g : TGs, PGs X tgs g ∧ ∀ F ρ E B σ H us vs (Q : L2.St → Hp → Prop), Rel X.K F ρ E B σ H → Reps X.K H (LvF F ρ E B σ) ρ us vs →
  (match bd us E with
    | some E' => ∀ σ', Rel X.K F ρ E' B σ' H → SameBut ks σ σ' → (∀ q, LvF F ρ E' B σ' q → LvF F ρ E B σ q) → EnLe E E' → Q σ' H
    | none => False) → g vs σ H Q
def bdNil : Bds := fun us E => match us with
  | [] => some E
  | _ => none
def bdCons (b : Bd) (bs : Bds) : Bds := fun us E => match us with
  | u :: r => (b u E).bind fun E1 => bs r E1
  | [] => none
theorem sndGs_nil : SndGs X [] [] bdNil := by
  refine ⟨_, pgs_nil, fun F ρ E B σ H us vs Q rl h q => ?_⟩
  cases us with
  | nil => simp only [Reps] at h; subst h; exact ⟨rfl, q σ rl ⟨rfl, fun _ _ => rfl⟩ (fun _ z => z) EnLe.refl⟩
  | cons u us => exact q.elim
theorem sndGs_cons {tg : Expr} {tgs : List Expr} {ks ls : List Nat} {b1 : Bd} {bs : Bds} (h1 : SndG X tg ks b1) (h2 : SndGs X tgs ls bs) (hs : (assignEach (tg :: tgs) X.env).map (·.2) = assign tg X.env :: (assignEach tgs X.env).map (·.2) := by rfl) : SndGs X (tg :: tgs) (ks ++ ls) (bdCons b1 bs) := by
  obtain ⟨g, p1, h1⟩ := h1
  obtain ⟨g2, p2, h2⟩ := h2
  refine ⟨_, pgs_cons p1 p2 hs, fun F ρ E B σ H us vs Q rl h q => ?_⟩
  cases us with
  | nil => exact q.elim
  | cons u us =>
    simp only [Reps] at h
    obtain ⟨v, r, rfl, hv, hr⟩ := h
    refine ⟨v, r, rfl, h1 F ρ E B σ H u v _ rl hv ?_⟩
    simp only [bdCons] at q
    cases e1 : b1 u E with
    | none => rw [e1] at q; exact q.elim
    | some E1 =>
      rw [e1] at q
      intro σ1 rl1 sb1 lv1 le1
      refine h2 F ρ E1 B σ1 H us r _ rl1 (hr.mono (Stp.less lv1) (List.prefix_refl _)) ?_
      simp only [Option.bind_some] at q
      cases e2 : bs us E1 with
      | none => rw [e2] at q; exact q.elim
      | some E2 =>
        rw [e2] at q
        intro σ2 rl2 sb2 lv2 le2
        refine q σ2 rl2 ⟨sb2.1.trans sb1.1, fun j hj => ?_⟩ (fun z hz => lv1 z (lv2 z hz)) (le1.trans le2)
        rw [sb2.2 j (fun z => hj (List.mem_append_right _ z)), sb1.2 j (fun z => hj (List.mem_append_left _ z))]
def bdT (bs : Bds) : Bd := fun u E => match u with
  | .tup us => bs us E
  | _ => none
theorem sndG_tup {tgs : List Expr} {k n : Nat} {ks : List Nat} {bs : Bds} (hc : X.calm = true) (h : SndGs X tgs ks bs) (hbl : ∀ us E, us.length ≠ n → bs us E = none) (hn : (assignEach tgs X.env).length = n := by rfl) (hst : (assignEach tgs X.env).findIdx? (·.1) = none := by rfl) : SndG X (.Tuple tgs k pos) ks (bdT bs) := by
  obtain ⟨g, p1, h⟩ := h
  refine ⟨_, pg_tup hc p1 hn hst, fun F ρ E B σ H u v Q rl hr q => ?_⟩
  cases u with
  | tup us =>
    simp only [Rep] at hr
    obtain ⟨pp, vs, rfl, h1, h2⟩ := hr
    simp only [bdT] at q
    refine ⟨pp, vs, rfl, sqT_of h1, ?_, h F ρ E B σ H us vs Q rl h2 q⟩
    rw [← h2.len]
    by_cases z : us.length = n
    · exact z
    · rw [hbl us E z] at q; exact q.elim
  | _ => exact q.elim
theorem bdNil_len {us : List U} {E : En} (h : us.length ≠ 0) : bdNil us E = none := by cases us <;> simp_all [bdNil]
theorem bdCons_len {b1 : Bd} {bs : Bds} {n : Nat} (h : ∀ us E, us.length ≠ n → bs us E = none) : ∀ us E, us.length ≠ n + 1 → bdCons b1 bs us E = none := fun us E hl => by
  cases us with
  | nil => rfl
  | cons u us =>
    simp only [bdCons]
    cases b1 u E with
    | none => rfl
    | some E1 => exact h us E1 (fun z => hl (by simp [z]))
end
end QB
/-! QbH: while, for, comprehensions. -/
namespace QB
open PySem L2
open Classical in
/-- only where the walked thing is as it was -/
noncomputable def goOn (chk : Bx → Prop) (f : Sm) : Sm := fun E B => if chk B then f E B else .bad
theorem goOn_yes {chk : Bx → Prop} {f : Sm} {E : En} {B : Bx} (h : chk B) : goOn chk f E B = f E B := by unfold goOn; exact if_pos h
theorem goOn_post {K : PySem.W.Frag} {F : Fm} {ρ : List Addr} {chk : Bx → Prop} {f : Sm} {E : En} {B : Bx} {D : Ends} (h : PostS K F ρ (goOn chk f E B) D) : chk B ∧ PostS K F ρ (f E B) D := by
  unfold goOn at h
  split at h
  · next c => exact ⟨c, h⟩
  · exact h.elim
@[simp] theorem goOn_true {f : Sm} {E : En} {B : Bx} : goOn (fun _ => True) f E B = f E B := goOn_yes trivial
/-- one turn for each item -/
noncomputable def forGo (bd : Bd) (body : Sm) (chk : Bx → Prop) : List U → Sm
  | [] => fun E B => .ok .nx E B
  | u :: us => fun E B => match bd u E with
    | none => .bad
    | some E1 => (body E1 B).bind fun fl E2 B2 => match fl with
      | .bk => .ok .nx E2 B2
      | .rt v => .ok (.rt v) E2 B2
      | _ => goOn chk (forGo bd body chk us) E2 B2
abbrev Iv := En → Bx → O (List U × (Bx → Prop))
noncomputable def sFor (fi : Iv) (bd : Bd) (body : Sm) : Sm := fun E B => (fi E B).bind fun w E1 B1 => forGo bd body w.2 w.1 E1 B1
def whileN : Nat → Te → Sm → Sm
  | 0, _, _ => fun _ _ => .bad
  | n + 1, c, b => fun E B => (c E B).bind fun k E1 B1 => if k = true then (b E1 B1).bind fun fl E2 B2 => match fl with
      | .bk => .ok .nx E2 B2
      | .rt v => .ok (.rt v) E2 B2
      | _ => whileN n c b E2 B2
    else .ok .nx E1 B1
def whileFuel : Nat := 1000000000000
def sWhile (c : Te) (b : Sm) : Sm := whileN whileFuel c b
/-- what is walked: the items, as they come -/
structure WalkU (K : PySem.W.Frag) (J : It) (us : List U) (chk : Bx → Prop) (G : Hp → AS → List Addr → Prop) : Prop where
  keep : ∀ H Lv ρ H' Lv' ρ' (B' : Bx), G H Lv ρ → Stp H Lv H' Lv' → ρ <+: ρ' → (∀ (i : Nat) (c : Cell) (p : Addr), B'[i]? = some c → c.live = true → ρ'[i]? = some p → CellOk K H' Lv' ρ' c p) → chk B' → G H' Lv' ρ'
  go : ∀ H Lv ρ i, G H Lv ρ → i < us.length → J.go i H
  stop : ∀ H Lv ρ, G H Lv ρ → J.stop us.length H
  yld : ∀ H Lv ρ i u x H', G H Lv ρ → us[i]? = some u → J.yld i H x H' → (∀ q, Lv q → ∃ o, H q = some o) → (∀ q o, H q = some o → H' q = some o) ∧ Rep K H' Lv ρ u x
def SndI (X : Cx) (tg iter : Expr) (fi : Iv) : Prop := ∃ wi : TI, PI X tg iter wi ∧ ∀ F ρ E B σ H (Rk : It → Hp → Prop), Rel X.K F ρ E B σ H →
  (match fi E B with
    | .ok w E' B' => ∀ ρ' H' J G, AftT X.K F ρ E B σ H ρ' E' B' H' → WalkU X.K J w.1 w.2 G → G H' (LvF F ρ' E' B' σ) ρ' → w.2 B' → Rk J H'
    | _ => False) → wi σ H Rk
section
variable {X : Cx} {a b c e i tg iter elt : Expr} {es ifs : List Expr} {fa fb fe : Ex} {ft : Te} {f g body : Sm} {fi : Iv} {fs : Ar} {bd : Bd} {ks : List Nat} {pos p p2 p3 cpos apos pos' : Pos} {x name : Str} {sts : List Stmt}
theorem Rel.boxes {K : PySem.W.Frag} {F : Fm} {ρ : List Addr} {E : En} {B : Bx} {σ : L2.St} {H : Hp} (r : Rel K F ρ E B σ H) : ∀ (i : Nat) (c : Cell) (p : Addr), B[i]? = some c → c.live = true → ρ[i]? = some p → CellOk K H (LvF F ρ E B σ) ρ c p := fun i c p h1 h2 h3 => (r.box i c p h1 h2 h3).1
theorem Rel.rebase {K : PySem.W.Frag} {F : Fm} {ρ : List Addr} {E : En} {B : Bx} {σ : L2.St} {H : Hp} (r : Rel K F ρ E B σ H) : Rel K ⟨F.Out, H, LvF F ρ E B σ⟩ ρ E B σ H :=
  ⟨r.elen, r.blen, r.val, r.own, r.oinj, r.box, r.binj, fun q h => ⟨rfl, r.lv_there q (.inl h)⟩, Stp.refl, fun q o h => ⟨o, h⟩⟩
theorem Rel.unbase {K : PySem.W.Frag} {F : Fm} {ρ ρ' : List Addr} {E E' : En} {B B' : Bx} {σ σ' : L2.St} {H H' : Hp} (r : Rel K F ρ E B σ H) (r' : Rel K ⟨F.Out, H, LvF F ρ E B σ⟩ ρ' E' B' σ' H') :
    Rel K F ρ' E' B' σ' H' ∧ Stp H (LvF F ρ E B σ) H' (LvF F ρ' E' B' σ') := by
  have s : Stp H (LvF F ρ E B σ) H' (LvF F ρ' E' B' σ') := r'.old
  refine ⟨⟨r'.elen, r'.blen, r'.val, r'.own, r'.oinj, r'.box, r'.binj, fun q h => ?_, r.old.trans s, fun q o h => ?_⟩, s⟩
  · rw [(r'.out q h).1]; exact r.out q h
  · obtain ⟨o', h1⟩ := r.grow q o h
    exact r'.grow q o' h1
theorem sndS_while {c : Expr} (hp : PassesOwn (model X.prog X.w) X.A X.env X.xe) (hc : SndT X c ft) (hb : SndB X sts body) : SndS X (.While c sts [] pos) (sWhile ft body) := by
  obtain ⟨tc, pc, hc⟩ := hc
  obtain ⟨tb, pb, hb⟩ := hb
  refine ⟨_, ps_while hp pc pb, fun F ρ E B σ H D rl q => ?_⟩
  refine ⟨fun m σ' H' => ∃ ρ' E' B', ρ <+: ρ' ∧ Rel X.K F ρ' E' B' σ' H' ∧ PostS X.K F ρ' (whileN m ft body E' B') D, ⟨whileFuel, ρ, E, B, List.prefix_refl _, rl, q⟩, ?_⟩
  rintro m σ1 H1 ⟨ρ1, E1, B1, px1, rl1, q1⟩
  cases m with
  | zero => exact q1.elim
  | succ m =>
    refine hc F ρ1 E1 B1 σ1 H1 _ rl1 ?_
    simp only [whileN] at q1
    cases h1 : ft E1 B1 with
    | bad => rw [h1] at q1; exact q1
    | ex c E' B' => rw [h1] at q1; exact q1
    | ok k E2 B2 =>
      rw [h1] at q1
      intro ρ2 H2 A2
      cases k with
      | false =>
        simp only [O.bind_ok, Bool.false_eq_true, if_false] at q1 ⊢
        exact q1 ρ2 σ1 H2 A2.px A2.rel
      | true =>
        simp only [O.bind_ok, if_true] at q1 ⊢
        refine ⟨fun σ' H' => ∃ ρ' E' B', ρ <+: ρ' ∧ Rel X.K F ρ' E' B' σ' H' ∧ PostS X.K F ρ' (whileN m ft body E' B') D, fun σ' H' n => ⟨m, by omega, n⟩, ?_⟩
        refine hb F ρ2 E2 B2 σ1 H2 _ A2.rel ?_
        have q2 := PostS.px q1 A2.px
        cases h2 : body E2 B2 with
        | bad => rw [h2] at q2; exact q2
        | ex c E' B' => rw [h2] at q2; exact q2
        | ok fl E3 B3 =>
          rw [h2] at q2
          simp only [O.bind_ok] at q2
          cases fl with
          | nx => exact fun ρ3 σ3 H3 px3 rl3 => ⟨ρ3, E3, B3, (px1.trans A2.px).trans px3, rl3, q2.px px3⟩
          | ct => exact fun ρ3 σ3 H3 px3 rl3 => ⟨ρ3, E3, B3, (px1.trans A2.px).trans px3, rl3, q2.px px3⟩
          | bk => exact q2
          | rt u => exact q2
theorem sndS_for (hp : PassesOwn (model X.prog X.w) X.A X.env X.xe) (hcalm : X.calm = true) (hi : SndI X tg iter fi) (hg : SndG X tg ks bd) (hb : SndB X sts body) (hs : ∀ x, foldedSetIterable iter X.env x = pure x := by intro _; rfl) : SndS X (.For tg iter sts [] pos) (sFor fi bd body) := by
  obtain ⟨wi, pi, hi⟩ := hi
  obtain ⟨g, pg, hg⟩ := hg
  obtain ⟨tb, pb, hb⟩ := hb
  refine ⟨_, ps_for hp hcalm pi pg pb hs, fun F ρ E B σ H D rl q => ?_⟩
  refine hi F ρ E B σ H _ rl ?_
  simp only [sFor] at q
  cases h1 : fi E B with
  | bad => rw [h1] at q; exact q
  | ex c E' B' => rw [h1] at q; exact q
  | ok w E1 B1 =>
    rw [h1] at q
    obtain ⟨us, chk⟩ := w
    simp only [O.bind_ok] at q
    intro ρ1 H1 J G A1 W G1 C1
    refine ⟨fun i m σ' H' => m = us.length - i ∧ i ≤ us.length ∧ ∃ ρ' E' B', ρ <+: ρ' ∧ Rel X.K F ρ' E' B' σ' H' ∧ G H' (LvF F ρ' E' B' σ') ρ' ∧ PostS X.K F ρ' (forGo bd body chk (us.drop i) E' B') D,
      ⟨us.length, by simp, Nat.zero_le _, ρ1, E1, B1, A1.px, A1.rel, G1, by simpa using q.px A1.px⟩, ?_⟩
    rintro i m σ2 H2 ⟨rfl, hil, ρ2, E2, B2, px2, rl2, G2, q2⟩
    by_cases hlt : i < us.length
    · refine .inr ⟨W.go _ _ _ _ G2 hlt, fun σ' H' => (us.length - (i + 1) = us.length - (i + 1) ∧ i + 1 ≤ us.length ∧ ∃ ρ' E' B', ρ <+: ρ' ∧ Rel X.K F ρ' E' B' σ' H' ∧ G H' (LvF F ρ' E' B' σ') ρ' ∧ PostS X.K F ρ' (forGo bd body chk (us.drop (i + 1)) E' B') D),
        fun σ' H' n => ⟨us.length - (i + 1), by omega, n⟩, fun y H' hy => ?_⟩
      have hu : us[i]? = some us[i] := List.getElem?_eq_getElem hlt
      obtain ⟨gr, rp⟩ := W.yld _ _ _ i us[i] y H' G2 hu hy rl2.lv_there
      have rl3 := rl2.growH gr
      rw [List.drop_eq_getElem_cons hlt] at q2
      simp only [forGo] at q2
      refine hg F ρ2 E2 B2 σ2 H' us[i] y _ rl3 rp ?_
      cases h2 : bd us[i] E2 with
      | none => rw [h2] at q2; exact q2.elim
      | some E3 =>
        rw [h2] at q2
        intro σ3 rl4 sb lv3 _
        have s23 : Stp H2 (LvF F ρ2 E2 B2 σ2) H' (LvF F ρ2 E3 B2 σ3) := (grow_stp rl2 gr).trans (Stp.less lv3)
        refine hb _ ρ2 E3 B2 σ3 H' _ rl4.rebase ?_
        cases h3 : body E3 B2 with
        | bad => simp only [h3] at q2; exact q2
        | ex c E' B' => simp only [h3] at q2; exact q2
        | ok fl E4 B4 =>
          simp only [h3, O.bind_ok] at q2
          have next : PostS X.K F ρ2 (goOn chk (forGo bd body chk (us.drop (i + 1))) E4 B4) D → ∀ ρ5 σ5 H5, ρ2 <+: ρ5 → Rel X.K ⟨F.Out, H', LvF F ρ2 E3 B2 σ3⟩ ρ5 E4 B4 σ5 H5 →
              us.length - (i + 1) = us.length - (i + 1) ∧ i + 1 ≤ us.length ∧ ∃ ρ' E' B', ρ <+: ρ' ∧ Rel X.K F ρ' E' B' σ5 H5 ∧ G H5 (LvF F ρ' E' B' σ5) ρ' ∧ PostS X.K F ρ' (forGo bd body chk (us.drop (i + 1)) E' B') D := fun q5 ρ5 σ5 H5 px5 rl5 => by
            obtain ⟨hck, q6⟩ := goOn_post q5
            obtain ⟨rl6, s5⟩ := rl4.unbase rl5
            exact ⟨rfl, hlt, ρ5, E4, B4, px2.trans px5, rl6, W.keep _ _ _ _ _ _ B4 G2 (s23.trans s5) px5 rl6.boxes hck, q6.px px5⟩
          cases fl with
          | nx => exact next q2
          | ct => exact next q2
          | bk => exact fun ρ5 σ5 H5 px5 rl5 => q2 ρ5 σ5 H5 px5 (rl4.unbase rl5).1
          | rt u => exact fun ρ5 σ5 H5 v5 px5 rl5 rp5 => q2 ρ5 σ5 H5 v5 px5 (rl4.unbase rl5).1 rp5
    · have e : i = us.length := by omega
      subst e
      rw [List.drop_length] at q2
      exact .inl ⟨W.stop _ _ _ G2, q2 ρ2 σ2 H2 (List.prefix_refl _) rl2⟩
end
end QB
/-! QbI: what is walked; list comprehensions. -/
namespace QB
open PySem L2
/-! ### what is walked -/
def yes : Bx → Prop := fun _ => True
@[simp] theorem goOn_Yes {f : Sm} {E : En} {B : Bx} : goOn yes f E B = f E B := goOn_yes trivial
def itemsOf (u : U) (B : Bx) : Option (List U × (Bx → Prop)) :=
  match u with
  | .lst us => some (us, yes)
  | .tup us => some (us, yes)
  | .str z => some (z.cps.toList.map (fun c => .str ⟨#[c]⟩), yes)
  | .scr ns => some (ns.map .int, yes)
  | .box j => match B[j]? with
    | some (.lst us) => some (us, fun B' => B'[j]? = some (.lst us))
    | _ => none
  | _ => none
def mItV (f : Ex) : Iv := fun E B => (f E B).bind fun r E1 B1 =>
  match settle r E1 with
  | some (u, E2) => match itemsOf u B1 with
    | some w => .ok w E2 B1
    | none => .bad
  | none => .bad
def intsU (lo : Int) (n : Nat) : List U := (List.range n).map fun k => .int (lo + (k : Nat))
def mRange1 (fs : Ar) : Iv := fun E B => (fs E B).bind fun us E1 B1 =>
  match us with
  | [.int j] => if I62 j = true then .ok (intsU 0 j.toNat, yes) E1 B1 else .bad
  | _ => .bad
def mRange2 (fs : Ar) : Iv := fun E B => (fs E B).bind fun us E1 B1 =>
  match us with
  | [.int i, .int j] => if I62 i = true ∧ I62 j = true then .ok (intsU i (j - i).toNat, yes) E1 B1 else .bad
  | _ => .bad
def mEnum (fs : Ar) : Iv := fun E B => (fs E B).bind fun us E1 B1 =>
  match us with
  | [.lst ws] => .ok (ws.mapIdx fun k u => .tup [.int (k : Nat), u], yes) E1 B1
  | _ => .bad
section
variable {X : Cx} {a b c e i tg iter elt : Expr} {es ifs : List Expr} {fa fb fe : Ex} {ft : Te} {f g body : Sm} {fi : Iv} {fs : Ar} {bd : Bd} {ks : List Nat} {pos p p2 p3 cpos apos pos' tpos : Pos} {x name : Str} {sts : List Stmt}
section
variable {K : PySem.W.Frag}
theorem walkU_list {q : Addr} {us : List U} : WalkU K (Itl K q) us yes (fun H Lv ρ => Rep K H Lv ρ (.lst us) (.ref q)) := by
  have un : ∀ {H Lv ρ}, Rep K H Lv ρ (.lst us) (.ref q) → ∃ vs, SqL K H q vs ∧ Reps K H Lv ρ us vs := fun {H Lv ρ} h => by
    simp only [Rep] at h
    obtain ⟨p, vs, e, h1, h2⟩ := h
    cases e
    exact ⟨vs, .inl (.inl h1.1), h2⟩
  refine ⟨fun H Lv ρ H' Lv' ρ' B' g s px _ _ => Rep.mono s px _ _ g, fun H Lv ρ i g hi => ?_, fun H Lv ρ g => ?_, fun H Lv ρ i u x H' g hu hy _ => ?_⟩
  · obtain ⟨vs, h1, h2⟩ := un g
    obtain ⟨v, h3, _⟩ := h2.get (List.getElem?_eq_getElem hi)
    exact ⟨vs, v, h1, h3⟩
  · obtain ⟨vs, h1, h2⟩ := un g
    exact ⟨vs, h1, by rw [h2.len]; exact Nat.le_refl _⟩
  · obtain ⟨vs, h1, h2⟩ := un g
    obtain ⟨rfl, hy⟩ := hy
    obtain ⟨v, h3, h4⟩ := h2.get hu
    have := hy vs h1
    rw [h3] at this
    cases this
    exact ⟨fun _ _ z => z, h4⟩
theorem walkU_box {q : Addr} {us : List U} {j : Nat} : WalkU K (Itl K q) us (fun B' => B'[j]? = some (.lst us)) (fun H Lv ρ => ρ[j]? = some q ∧ ∃ vs, H q = some (.lst vs) ∧ Reps K H Lv ρ us vs) := by
  refine ⟨fun H Lv ρ H' Lv' ρ' B' g s px hb hc => ?_, fun H Lv ρ i g hi => ?_, fun H Lv ρ g => ?_, fun H Lv ρ i u x H' g hu hy _ => ?_⟩
  · have h := px_get px g.1
    exact ⟨h, hb j _ q hc rfl h⟩
  · obtain ⟨_, vs, h1, h2⟩ := g
    obtain ⟨v, h3, _⟩ := h2.get (List.getElem?_eq_getElem hi)
    exact ⟨vs, v, .inl (.inl h1), h3⟩
  · obtain ⟨_, vs, h1, h2⟩ := g
    exact ⟨vs, .inl (.inl h1), by rw [h2.len]; exact Nat.le_refl _⟩
  · obtain ⟨_, vs, h1, h2⟩ := g
    obtain ⟨rfl, hy⟩ := hy
    obtain ⟨v, h3, h4⟩ := h2.get hu
    have := hy vs (.inl (.inl h1))
    rw [h3] at this
    cases this
    exact ⟨fun _ _ z => z, h4⟩
theorem walkU_tup {q : Addr} {us : List U} : WalkU K (Itt K q) us yes (fun H Lv ρ => Rep K H Lv ρ (.tup us) (.ref q)) := by
  have un : ∀ {H Lv ρ}, Rep K H Lv ρ (.tup us) (.ref q) → ∃ vs, SqT K H q vs ∧ Reps K H Lv ρ us vs := fun {H Lv ρ} h => by
    simp only [Rep] at h
    obtain ⟨p, vs, e, h1, h2⟩ := h
    cases e
    exact ⟨vs, sqT_of h1, h2⟩
  refine ⟨fun H Lv ρ H' Lv' ρ' B' g s px _ _ => Rep.mono s px _ _ g, fun H Lv ρ i g hi => ?_, fun H Lv ρ g => ?_, fun H Lv ρ i u x H' g hu hy _ => ?_⟩
  · obtain ⟨vs, h1, h2⟩ := un g
    obtain ⟨v, h3, _⟩ := h2.get (List.getElem?_eq_getElem hi)
    exact ⟨vs, v, h1, h3⟩
  · obtain ⟨vs, h1, h2⟩ := un g
    exact ⟨vs, h1, by rw [h2.len]; exact Nat.le_refl _⟩
  · obtain ⟨vs, h1, h2⟩ := un g
    obtain ⟨rfl, hy⟩ := hy
    obtain ⟨v, h3, h4⟩ := h2.get hu
    have := hy vs h1
    rw [h3] at this
    cases this
    exact ⟨fun _ _ z => z, h4⟩
theorem walkU_scr {q : Addr} {ns : List Int} : WalkU K (Itl K q) (ns.map .int) yes (fun H Lv ρ => Rep K H Lv ρ (.scr ns) (.ref q)) := by
  have un : ∀ {H Lv ρ}, Rep K H Lv ρ (.scr ns) (.ref q) → SqL K H q (ns.map V.int) := fun {H Lv ρ} h => by
    simp only [Rep] at h
    obtain ⟨p, e, h1⟩ := h
    cases e
    exact sqL_of h1
  refine ⟨fun H Lv ρ H' Lv' ρ' B' g s px _ _ => Rep.mono s px _ _ g, fun H Lv ρ i g hi => ?_, fun H Lv ρ g => ?_, fun H Lv ρ i u x H' g hu hy _ => ?_⟩
  · have hi' : i < ns.length := by simpa using hi
    exact ⟨_, .int ns[i], un g, by simp [hi']⟩
  · exact ⟨_, un g, by simp⟩
  · obtain ⟨rfl, hy⟩ := hy
    have h1 := hy _ (un g)
    simp only [List.getElem?_map, Option.map_eq_some_iff] at hu h1
    obtain ⟨n, h2, rfl⟩ := hu
    obtain ⟨m, h3, rfl⟩ := h1
    rw [h2] at h3
    cases h3
    exact ⟨fun _ _ z => z, by simp [Rep]⟩
theorem walkU_str {z : Str} : WalkU K (Its z) (z.cps.toList.map (fun c => .str ⟨#[c]⟩)) yes (fun _ _ _ => True) := by
  refine ⟨fun _ _ _ _ _ _ _ _ _ _ _ _ => trivial, fun H Lv ρ i g hi => ?_, fun H Lv ρ g => ?_, fun H Lv ρ i u x H' g hu hy _ => ?_⟩
  · simpa [Its] using hi
  · simp [Its]
  · obtain ⟨rfl, c, h1, rfl⟩ := hy
    simp only [List.getElem?_map, Option.map_eq_some_iff] at hu
    obtain ⟨n, h2, rfl⟩ := hu
    have : n = c := by
      rw [Array.getElem?_toList] at h2
      rw [h1] at h2
      exact (Option.some.inj h2).symm
    subst this
    exact ⟨fun _ _ z => z, by simp [Rep]⟩
theorem walkU_range {lo : Int} {n : Nat} : WalkU K (Itr lo n) (intsU lo n) yes (fun _ _ _ => True) := by
  refine ⟨fun _ _ _ _ _ _ _ _ _ _ _ _ => trivial, fun H Lv ρ i g hi => ?_, fun H Lv ρ g => ?_, fun H Lv ρ i u x H' g hu hy _ => ?_⟩
  · simpa [Itr, intsU] using hi
  · simp [Itr, intsU]
  · obtain ⟨rfl, rfl⟩ := hy
    unfold intsU at hu
    simp only [List.getElem?_map, Option.map_eq_some_iff] at hu
    obtain ⟨k, h2, rfl⟩ := hu
    have : k = i := by
      have := (List.getElem?_eq_some_iff.mp h2).2
      simpa using this.symm
    subst this
    exact ⟨fun _ _ z => z, by simp [Rep]⟩
theorem walkU_enum {q : Addr} {us : List U} : WalkU K (Ite K q) (us.mapIdx fun k u => .tup [.int (k : Nat), u]) yes (fun H Lv ρ => Rep K H Lv ρ (.lst us) (.ref q)) := by
  have un : ∀ {H Lv ρ}, Rep K H Lv ρ (.lst us) (.ref q) → ∃ vs, SqL K H q vs ∧ Reps K H Lv ρ us vs := fun {H Lv ρ} h => by
    simp only [Rep] at h
    obtain ⟨p, vs, e, h1, h2⟩ := h
    cases e
    exact ⟨vs, .inl (.inl h1.1), h2⟩
  refine ⟨fun H Lv ρ H' Lv' ρ' B' g s px _ _ => Rep.mono s px _ _ g, fun H Lv ρ i g hi => ?_, fun H Lv ρ g => ?_, fun H Lv ρ i u x H' g hu hy hlv => ?_⟩
  · obtain ⟨vs, h1, h2⟩ := un g
    have hi' : i < us.length := by simpa using hi
    obtain ⟨v, h3, _⟩ := h2.get (List.getElem?_eq_getElem hi')
    exact ⟨vs, v, h1, h3⟩
  · obtain ⟨vs, h1, h2⟩ := un g
    exact ⟨vs, h1, by rw [← h2.len]; simp⟩
  · obtain ⟨vs, h1, h2⟩ := un g
    obtain ⟨T, y, rfl, hT, rfl, hy⟩ := hy
    simp only [List.getElem?_mapIdx, Option.map_eq_some_iff] at hu
    obtain ⟨w, h3, rfl⟩ := hu
    obtain ⟨v, h4, h5⟩ := h2.get h3
    have hvy := hy vs h1
    rw [h4] at hvy
    have hvy' : v = y := Option.some.inj hvy
    subst hvy'
    have gr : ∀ q o, H q = some o → (upd H T (.tup [.int (i : Nat), v])) q = some o := fun q o h => by rw [upd_ne (ne_of_none h hT)]; exact h
    refine ⟨gr, ?_⟩
    have s : Stp H Lv (upd H T (.tup [.int (i : Nat), v])) Lv := fun q o h n => ⟨gr q o h, n⟩
    have nl : ¬ Lv T := fun z => by obtain ⟨o, ho⟩ := hlv T z; rw [hT] at ho; cases ho
    simp only [Rep]
    refine ⟨T, _, rfl, .inl ⟨.inl upd_same, nl⟩, ?_⟩
    simp only [Reps]
    exact ⟨_, _, rfl, by simp [Rep], v, _, rfl, Rep.mono s (List.prefix_refl _) _ _ h5, rfl⟩
end
theorem PI.or {w1 w2 : TI} (h1 : PI X tg iter w1) (h2 : PI X tg iter w2) : PI X tg iter (fun σ H R => w1 σ H R ∨ w2 σ H R) :=
  ⟨fun pins s σ H R I h => by
    rcases h with h | h
    · exact h1.run pins s σ H R I h
    · exact h2.run pins s σ H R I h⟩
theorem sndI_val (ha : SndE X a fa) : SndI X tg a (mItV fa) := by
  obtain ⟨ta, pa, ha⟩ := ha
  refine ⟨_, PI.or (PI.or (pi_list pa) (pi_tup pa)) (pi_str pa), fun F ρ E B σ H Rk rl q => ?_⟩
  simp only [mItV] at q
  cases h1 : fa E B with
  | bad => rw [h1] at q; exact q.elim
  | ex c E' B' => rw [h1] at q; exact q.elim
  | ok r1 E1 B1 =>
    rw [h1] at q
    simp only [O.bind_ok] at q
    cases hs : settle r1 E1 with
    | none => rw [hs] at q; exact q.elim
    | some y =>
      obtain ⟨u, E2⟩ := y
      rw [hs] at q
      simp only at q
      cases hi : itemsOf u B1 with
      | none => rw [hi] at q; exact q.elim
      | some w =>
        rw [hi] at q
        simp only at q
        have go : ∀ {Qv : VK}, (∀ ρ1 H1 v1, AftT X.K F ρ E B σ H ρ1 E2 B1 H1 → Rep X.K H1 (LvF F ρ1 E2 B1 σ) ρ1 u v1 → Qv v1 H1) → ta σ H Qv := fun {Qv} k => by
          refine ha F ρ E B σ H _ rl ?_
          rw [h1]
          intro ρ1 H1 v1 A1
          obtain ⟨T1, R1⟩ := A1.settled hs
          exact k ρ1 H1 v1 T1 R1
        cases u with
        | lst us =>
          cases hi
          refine .inl (.inl (go fun ρ1 H1 v1 T1 R1 => ?_))
          have R2 := R1
          simp only [Rep] at R2
          obtain ⟨pp, vs, rfl, k1, k2⟩ := R2
          exact ⟨pp, rfl, ⟨vs, .inl (.inl k1.1)⟩, q ρ1 H1 _ _ T1 walkU_list R1 trivial⟩
        | tup us =>
          cases hi
          refine .inl (.inr (go fun ρ1 H1 v1 T1 R1 => ?_))
          have R2 := R1
          simp only [Rep] at R2
          obtain ⟨pp, vs, rfl, k1, k2⟩ := R2
          exact ⟨pp, rfl, ⟨vs, sqT_of k1⟩, q ρ1 H1 _ _ T1 walkU_tup R1 trivial⟩
        | str z =>
          cases hi
          refine .inr (go fun ρ1 H1 v1 T1 R1 => ?_)
          simp only [Rep] at R1
          exact ⟨z, R1, q ρ1 H1 _ _ T1 walkU_str trivial trivial⟩
        | scr ns =>
          cases hi
          refine .inl (.inl (go fun ρ1 H1 v1 T1 R1 => ?_))
          have R2 := R1
          simp only [Rep] at R2
          obtain ⟨pp, rfl, k1⟩ := R2
          exact ⟨pp, rfl, ⟨_, sqL_of k1⟩, q ρ1 H1 _ _ T1 walkU_scr R1 trivial⟩
        | box j =>
          simp only [itemsOf] at hi
          split at hi
          · next us hB =>
            cases hi
            refine .inl (.inl (go fun ρ1 H1 v1 T1 R1 => ?_))
            simp only [Rep] at R1
            obtain ⟨pp, k1, rfl⟩ := R1
            have c1 := (T1.rel.box j _ pp hB rfl k1).1
            have c2 := c1
            obtain ⟨vs, k2, k3⟩ := c2
            exact ⟨pp, rfl, ⟨vs, .inl (.inl k2)⟩, q ρ1 H1 _ _ T1 walkU_box ⟨k1, c1⟩ hB⟩
          · cases hi
        | non => cases hi
        | bl _ => cases hi
        | int _ => cases hi
        | dct _ _ => cases hi
theorem sndI_range1 (hm : X.mg "range" = none) (ha : SndA X [a] fs) (hg : Gl X "range" := by rfl) (hs : starEach [a] X.env = [(false, eval a X.env)] := by rfl) : SndI X tg (.Call (.Name "range" p) [a] [] pos) (mRange1 fs) := by
  obtain ⟨ta, pa, ha⟩ := ha
  refine ⟨_, pi_range1 hg hm pa hs, fun F ρ E B σ H Rk rl q => ?_⟩
  simp only [mRange1] at q
  cases h1 : fs E B with
  | bad => rw [h1] at q; exact q.elim
  | ex c E' B' => rw [h1] at q; exact q.elim
  | ok us E1 B1 =>
    rw [h1] at q
    simp only [O.bind_ok] at q
    revert q
    generalize hw : (match us with | [.int j] => if I62 j = true then O.ok (intsU 0 j.toNat, yes) E1 B1 else .bad | _ => .bad) = oo
    intro q
    cases oo with
    | bad => exact q.elim
    | ex c E' B' => exact q.elim
    | ok w E' B' =>
      exact (by
        split at hw
        · next j =>
          split at hw
          · next hj =>
            cases hw
            refine ha F ρ E B σ H _ rl ?_
            rw [h1]
            intro ρ1 H1 vs A1
            have R := A1.reps
            simp only [Reps, Rep] at R
            obtain ⟨v, r, rfl, rfl, rfl⟩ := R
            exact ⟨j, rfl, (i62_iff.mp hj).1, (i62_iff.mp hj).2, q ρ1 H1 _ _ A1.t walkU_range trivial trivial⟩
          · cases hw
        · cases hw)
theorem sndI_range2 (hm : X.mg "range" = none) (ha : SndA X [a, b] fs) (hg : Gl X "range" := by rfl) (hs : starEach [a, b] X.env = [(false, eval a X.env), (false, eval b X.env)] := by rfl) (hs2 : starEach [b] X.env = [(false, eval b X.env)] := by rfl) : SndI X tg (.Call (.Name "range" p) [a, b] [] pos) (mRange2 fs) := by
  obtain ⟨ta, pa, ha⟩ := ha
  refine ⟨_, pi_range2 hg hm pa hs hs2, fun F ρ E B σ H Rk rl q => ?_⟩
  simp only [mRange2] at q
  cases h1 : fs E B with
  | bad => rw [h1] at q; exact q.elim
  | ex c E' B' => rw [h1] at q; exact q.elim
  | ok us E1 B1 =>
    rw [h1] at q
    simp only [O.bind_ok] at q
    revert q
    generalize hw : (match us with | [.int i, .int j] => if I62 i = true ∧ I62 j = true then O.ok (intsU i (j - i).toNat, yes) E1 B1 else .bad | _ => .bad) = oo
    intro q
    cases oo with
    | bad => exact q.elim
    | ex c E' B' => exact q.elim
    | ok w E' B' =>
      exact (by
        split at hw
        · next i j =>
          split at hw
          · next hj =>
            cases hw
            refine ha F ρ E B σ H _ rl ?_
            rw [h1]
            intro ρ1 H1 vs A1
            have R := A1.reps
            simp only [Reps, Rep] at R
            obtain ⟨v, r, rfl, rfl, v2, r2, rfl, rfl, rfl⟩ := R
            exact ⟨i, j, rfl, ⟨(i62_iff.mp hj.1).1, (i62_iff.mp hj.1).2, i62_iff.mp hj.2⟩, q ρ1 H1 _ _ A1.t walkU_range trivial trivial⟩
          · cases hw
        · cases hw)
theorem sndI_enum {elts : List Expr} {kk : Nat} (hm : X.mg "enumerate" = none) (ha : SndA X [a] fs) (hg : Gl X "enumerate" := by rfl) (hs : starEach [a] X.env = [(false, eval a X.env)] := by rfl) : SndI X (.Tuple elts kk tpos) (.Call (.Name "enumerate" p) [a] [] pos) (mEnum fs) := by
  obtain ⟨ta, pa, ha⟩ := ha
  refine ⟨_, pi_enum hg hm pa hs, fun F ρ E B σ H Rk rl q => ?_⟩
  simp only [mEnum] at q
  cases h1 : fs E B with
  | bad => rw [h1] at q; exact q.elim
  | ex c E' B' => rw [h1] at q; exact q.elim
  | ok us E1 B1 =>
    rw [h1] at q
    simp only [O.bind_ok] at q
    revert q
    generalize hw : (match us with | [.lst ws] => O.ok (ws.mapIdx fun k u => U.tup [U.int (k : Nat), u], yes) E1 B1 | _ => O.bad) = oo
    intro q
    cases oo with
    | bad => exact q.elim
    | ex c E' B' => exact q.elim
    | ok w E' B' =>
      exact (by
        split at hw
        · next ws =>
          cases hw
          refine ha F ρ E B σ H _ rl ?_
          rw [h1]
          intro ρ1 H1 vs A1
          have R := A1.reps
          simp only [Reps] at R
          obtain ⟨v, r, rfl, R1, rfl⟩ := R
          have R2 := R1
          simp only [Rep] at R2
          obtain ⟨pp, xs, rfl, k1, k2⟩ := R2
          exact ⟨pp, xs, rfl, .inl (.inl k1.1), q ρ1 H1 _ _ A1.t walkU_enum R1 trivial⟩
        · cases hw)
end
end QB
/-! QbJ: list comprehensions. -/
namespace QB
open PySem L2
def wipeE (E : En) : List Nat → En
  | [] => E
  | v :: vs => (wipeE E vs).set v .un
/-- the slots ks as they were in E1 -/
def keepE (E1 E : En) : List Nat → En
  | [] => E
  | v :: vs => match E1[v]? with
    | some s => (keepE E1 E vs).set v s
    | none => keepE E1 E vs
def noOwn (E1 : En) : List Nat → Bool
  | [] => true
  | v :: vs => match E1[v]? with
    | some (.own _) => false
    | none => false
    | _ => noOwn E1 vs
open Classical in
noncomputable def goOnL (chk : Bx → Prop) (f : Ar) : Ar := fun E B => if chk B then f E B else .bad
theorem goOnL_yes {chk : Bx → Prop} {f : Ar} {E : En} {B : Bx} (h : chk B) : goOnL chk f E B = f E B := by unfold goOnL; exact if_pos h
@[simp] theorem goOnL_Yes {f : Ar} {E : En} {B : Bx} : goOnL yes f E B = f E B := goOnL_yes trivial
noncomputable def lcGo (bd : Bd) (t : Te) (f : Ex) (chk : Bx → Prop) (ks : List Nat) : List U → List U → Ar
  | [], acc => fun E B => .ok acc E B
  | u :: us, acc => fun E B => match bd u E with
    | none => .bad
    | some E1 => (t E1 B).bind fun b E2 B2 => if b = true then (f E2 B2).bind fun r E3 B3 => match settle r E3 with
        | some (y, E4) => if acc.length < 16777216 then goOnL chk (lcGo bd t f chk ks us (acc ++ [y])) (wipeE E4 ks) B3 else .bad
        | none => .bad
      else goOnL chk (lcGo bd t f chk ks us acc) (wipeE E2 ks) B2
noncomputable def mLc (fi : Iv) (bd : Bd) (t : Te) (f : Ex) (ks : List Nat) : Ex := fun E B => (fi E B).bind fun w E1 B1 =>
  if noOwn E1 ks = true then (lcGo bd t f w.2 ks w.1 [] (wipeE E1 ks) B1).bind fun acc E2 B2 => .ok (.fr (.lst acc)) (keepE E1 E2 ks) B2 else .bad
def mYes : Te := fun E B => .ok true E B

section
variable {K : PySem.W.Frag} {F : Fm} {ρ ρ' : List Addr} {E E1 E' : En} {B B1 B' : Bx} {σ : L2.St} {H H' : Hp} {ks : List Nat}
theorem wipeE_len : ∀ ks : List Nat, (wipeE E ks).length = E.length
  | [] => rfl
  | v :: vs => by unfold wipeE; rw [List.length_set, wipeE_len vs]
theorem wipeE_get : ∀ {ks : List Nat} {j : Nat}, j ∉ ks → (wipeE E ks)[j]? = E[j]?
  | [], j, _ => rfl
  | v :: vs, j, h => by
    unfold wipeE
    rw [List.getElem?_set_ne (fun e => h (by simp [e]))]
    exact wipeE_get fun z => h (List.mem_cons_of_mem _ z)
theorem wipeE_in : ∀ {ks : List Nat} {j : Nat} {s : Sl}, j ∈ ks → (wipeE E ks)[j]? = some s → s = .un
  | v :: vs, j, s, h, e => by
    unfold wipeE at e
    by_cases hj : v = j
    · subst hj
      have hl : v < (wipeE E vs).length := by have := (List.getElem?_eq_some_iff.mp e).1; simpa using this
      rw [List.getElem?_set_self hl] at e
      exact (Option.some.inj e).symm
    · rw [List.getElem?_set_ne hj] at e
      rcases List.mem_cons.mp h with z | z
      · exact absurd z.symm hj
      · exact wipeE_in z e
theorem wipe_get : ∀ {ks : List Nat} {j : Nat}, j ∉ ks → (wipe σ ks)[j]? = σ[j]?
  | [], j, _ => rfl
  | v :: vs, j, h => by
    unfold wipe
    rw [List.getElem?_set_ne (fun e => h (by simp [e]))]
    exact wipe_get fun z => h (List.mem_cons_of_mem _ z)
theorem wipe_same {σ' : L2.St} (h : SameBut ks σ σ') (hk : ∀ k ∈ ks, k < σ.length) : wipe σ' ks = wipe (wipe σ ks) ks := by
  apply List.ext_getElem?
  intro j
  by_cases hj : j ∈ ks
  · have key : ∀ {τ : L2.St} {ls : List Nat}, j ∈ ls → j < τ.length → (wipe τ ls)[j]? = some none := by
      intro τ ls
      induction ls with
      | nil => intro h; cases h
      | cons v vs ih =>
        intro h hl
        unfold wipe
        by_cases hv : v = j
        · subst hv; exact List.getElem?_set_self (by rw [wipe_length]; exact hl)
        · rw [List.getElem?_set_ne hv]
          rcases List.mem_cons.mp h with z | z
          · exact absurd z.symm hv
          · exact ih z hl
    rw [key hj (by rw [h.1]; exact hk j hj), key hj (by rw [wipe_length]; exact hk j hj)]
  · rw [wipe_get hj, h.2 j hj, wipe_get hj, wipe_get hj]
theorem wipe_idem (hk : ∀ k ∈ ks, k < σ.length) : wipe (wipe σ ks) ks = wipe σ ks := (wipe_same (σ := σ) (σ' := σ) ⟨rfl, fun _ _ => rfl⟩ hk).symm
/-- the block's own names are forgotten -/
theorem Rel.wipes (r : Rel K F ρ E B σ H) : Rel K F ρ (wipeE E ks) B (wipe σ ks) H ∧ (∀ q, LvF F ρ (wipeE E ks) B (wipe σ ks) q → LvF F ρ E B σ q) := by
  have px : ρ <+: ρ := List.prefix_refl _
  have ownSet : ∀ (j : Nat) (d : Cell), (wipeE E ks)[j]? = some (.own d) → E[j]? = some (.own d) ∧ (wipe σ ks)[j]? = σ[j]? := fun j d e => by
    by_cases hj : j ∈ ks
    · cases wipeE_in hj e
    · rw [wipeE_get hj] at e; exact ⟨e, wipe_get hj⟩
  have less : ∀ q, LvF F ρ (wipeE E ks) B (wipe σ ks) q → LvF F ρ E B σ q := fun q z => by
    rcases z with z | z | ⟨j, d, h1, h2⟩
    · exact .inl z
    · exact .inr (.inl z)
    · obtain ⟨h3, h4⟩ := ownSet j d h1
      exact .inr (.inr ⟨j, d, h3, by rw [← h4]; exact h2⟩)
  have s := Stp.less (H := H) less
  refine ⟨⟨by rw [wipeE_len, wipe_length]; exact r.elen, r.blen, fun j w e => ?_, fun j d e => ?_, fun j k d f q e1 e2 e3 e4 => ?_, fun j d q e1 e2 e3 => ?_, r.binj, r.out, r.old.trans s, r.grow⟩, less⟩
  · by_cases hj : j ∈ ks
    · cases wipeE_in hj e
    · rw [wipeE_get hj] at e
      obtain ⟨w', h1, h2⟩ := r.val j w e
      exact ⟨w', by rw [wipe_get hj]; exact h1, h2.mono s px⟩
  · obtain ⟨h1, h2⟩ := ownSet j d e
    obtain ⟨h3, q, h4, h5, h6⟩ := r.own j d h1
    exact ⟨h3, q, by rw [h2]; exact h4, h5.mono s px rfl, h6⟩
  · obtain ⟨a1, a2⟩ := ownSet j d e1
    obtain ⟨b1, b2⟩ := ownSet k f e2
    exact r.oinj j k d f q a1 b1 (by rw [← a2]; exact e3) (by rw [← b2]; exact e4)
  · obtain ⟨h4, h5⟩ := r.box j d q e1 e2 e3
    exact ⟨h4.mono s px rfl, h5⟩
theorem EnLe.wipe (h : EnLe E E') : EnLe (wipeE E ks) (wipeE E' ks) := fun i hi => by
  by_cases hj : i ∈ ks
  · rcases hi with ⟨u, e⟩ | ⟨c, e⟩ <;> cases wipeE_in hj e
  · unfold IsSet at hi ⊢
    rw [wipeE_get hj] at hi ⊢
    exact h i hi
theorem wipeE_idem : wipeE (wipeE E ks) ks = wipeE E ks := by
  apply List.ext_getElem?
  intro j
  by_cases hj : j ∈ ks
  · by_cases hl : j < E.length
    · have h1 : ∃ s, (wipeE (wipeE E ks) ks)[j]? = some s := ⟨_, List.getElem?_eq_getElem (by rw [wipeE_len, wipeE_len]; exact hl)⟩
      have h2 : ∃ s, (wipeE E ks)[j]? = some s := ⟨_, List.getElem?_eq_getElem (by rw [wipeE_len]; exact hl)⟩
      obtain ⟨s1, h1⟩ := h1
      obtain ⟨s2, h2⟩ := h2
      rw [h1, h2, wipeE_in hj h1, wipeE_in hj h2]
    · rw [List.getElem?_eq_none (by rw [wipeE_len, wipeE_len]; omega), List.getElem?_eq_none (by rw [wipeE_len]; omega)]
  · rw [wipeE_get hj]
theorem keepE_len : ∀ ks : List Nat, (keepE E1 E ks).length = E.length
  | [] => rfl
  | v :: vs => by
    unfold keepE
    split
    · rw [List.length_set, keepE_len vs]
    · exact keepE_len vs
theorem keepE_get : ∀ {ks : List Nat} {j : Nat}, j ∉ ks → (keepE E1 E ks)[j]? = E[j]?
  | [], j, _ => rfl
  | v :: vs, j, h => by
    unfold keepE
    split
    · rw [List.getElem?_set_ne (fun e => h (by simp [e]))]
      exact keepE_get fun z => h (List.mem_cons_of_mem _ z)
    · exact keepE_get fun z => h (List.mem_cons_of_mem _ z)
theorem keepE_in : ∀ {ks : List Nat} {j : Nat} {s : Sl}, j ∈ ks → noOwn E1 ks = true → (keepE E1 E ks)[j]? = some s → E1[j]? = some s ∧ ∀ c, s ≠ .own c
  | v :: vs, j, s, h, hn, e => by
    unfold keepE at e
    unfold noOwn at hn
    cases hv : E1[v]? with
    | none => rw [hv] at hn; cases hn
    | some sv =>
      rw [hv] at e hn
      have hn' : noOwn E1 vs = true ∧ ∀ c, sv ≠ .own c := by
        cases sv with
        | own c => cases hn
        | un => exact ⟨hn, fun c z => by cases z⟩
        | val u => exact ⟨hn, fun c z => by cases z⟩
      by_cases hj : v = j
      · subst hj
        have hl : v < (keepE E1 E vs).length := by have := (List.getElem?_eq_some_iff.mp e).1; simpa using this
        simp only at e
        rw [List.getElem?_set_self hl] at e
        cases e
        exact ⟨hv, hn'.2⟩
      · simp only at e
        rw [List.getElem?_set_ne hj] at e
        rcases List.mem_cons.mp h with z | z
        · exact absurd z.symm hj
        · exact keepE_in z hn'.1 e
/-- behind the block the slots are as they were -/
theorem Rel.restore {ρ1 : List Addr} {H1 : Hp} {F1 : Fm} (r1 : Rel K F1 ρ1 E1 B1 σ H1) (r : Rel K F ρ E B (wipe σ ks) H) (s1 : Stp H1 (LvF F1 ρ1 E1 B1 σ) H (LvF F ρ E B (wipe σ ks))) (px1 : ρ1 <+: ρ) (hn : noOwn E1 ks = true) :
    Rel K F ρ (keepE E1 E ks) B σ H ∧ (∀ q, LvF F ρ (keepE E1 E ks) B σ q → LvF F ρ E B (wipe σ ks) q) := by
  have px : ρ <+: ρ := List.prefix_refl _
  have ownSet : ∀ (j : Nat) (d : Cell), (keepE E1 E ks)[j]? = some (.own d) → E[j]? = some (.own d) ∧ σ[j]? = (wipe σ ks)[j]? := fun j d e => by
    by_cases hj : j ∈ ks
    · exact absurd rfl ((keepE_in hj hn e).2 d)
    · rw [keepE_get hj] at e; exact ⟨e, (wipe_get hj).symm⟩
  have less : ∀ q, LvF F ρ (keepE E1 E ks) B σ q → LvF F ρ E B (wipe σ ks) q := fun q z => by
    rcases z with z | z | ⟨j, d, h1, h2⟩
    · exact .inl z
    · exact .inr (.inl z)
    · obtain ⟨h3, h4⟩ := ownSet j d h1
      exact .inr (.inr ⟨j, d, h3, by rw [← h4]; exact h2⟩)
  have s := Stp.less (H := H) less
  refine ⟨⟨by rw [keepE_len, r.elen, wipe_length], r.blen, fun j w e => ?_, fun j d e => ?_, fun j k d f q e1 e2 e3 e4 => ?_, fun j d q e1 e2 e3 => ?_, r.binj, r.out, r.old.trans s, r.grow⟩, less⟩
  · by_cases hj : j ∈ ks
    · obtain ⟨w', h1, h2⟩ := r1.val j w (keepE_in hj hn e).1
      exact ⟨w', h1, h2.mono (s1.trans s) px1⟩
    · rw [keepE_get hj] at e
      obtain ⟨w', h1, h2⟩ := r.val j w e
      exact ⟨w', by rw [← h1, wipe_get hj], h2.mono s px⟩
  · obtain ⟨h1, h2⟩ := ownSet j d e
    obtain ⟨h3, q, h4, h5, h6⟩ := r.own j d h1
    exact ⟨h3, q, by rw [h2]; exact h4, h5.mono s px rfl, h6⟩
  · obtain ⟨a1, a2⟩ := ownSet j d e1
    obtain ⟨b1, b2⟩ := ownSet k f e2
    exact r.oinj j k d f q a1 b1 (by rw [← a2]; exact e3) (by rw [← b2]; exact e4)
  · obtain ⟨h4, h5⟩ := r.box j d q e1 e2 e3
    exact ⟨h4.mono s px rfl, h5⟩
/-- a new thing gets another content -/
theorem Rel.reown {D : Addr} {o : Option HO} {ob : HO} (r : Rel K (F.add D o) ρ E B σ H) (n : New F D) :
    Rel K (F.add D (some ob)) ρ E B σ (upd H D ob) ∧ Stp H (LvF (F.add D o) ρ E B σ) (upd H D ob) (LvF (F.add D (some ob)) ρ E B σ) := by
  have px : ρ <+: ρ := List.prefix_refl _
  have nl := Rel.notLv r n
  have s : Stp H (LvF (F.add D o) ρ E B σ) (upd H D ob) (LvF (F.add D (some ob)) ρ E B σ) := fun q x h z => by
    have ne : q ≠ D := fun y => z (LvF.add_iff.mpr (.inr y))
    exact ⟨by rw [upd_ne ne]; exact h, z⟩
  have neB : ∀ (i : Nat) (c : Cell) (q : Addr), B[i]? = some c → c.live = true → ρ[i]? = some q → q ≠ D := fun i c q h1 h2 h3 e => (r.box i c q h1 h2 h3).2 (.inr e)
  refine ⟨⟨r.elen, r.blen, fun j w e => ?_, fun j d e => ?_, r.oinj, fun j d q e1 e2 e3 => ?_, r.binj, fun q h => ?_, fun q x h z => ?_, fun q x h => ?_⟩, s⟩
  · obtain ⟨w', h1, h2⟩ := r.val j w e
    exact ⟨w', h1, h2.mono s px⟩
  · obtain ⟨h3, q, h4, h5, h6, h7⟩ := r.own j d e
    have ne : q ≠ D := fun y => h6 (.inr y)
    exact ⟨h3, q, h4, h5.mono s px (upd_ne ne), h6, h7⟩
  · obtain ⟨h4, h5⟩ := r.box j d q e1 e2 e3
    exact ⟨h4.mono s px (upd_ne (neB j d q e1 e2 e3)), h5⟩
  · by_cases ne : q = D
    · subst ne; exact ⟨by rw [upd_same]; simp [Fm.add], ob, by simp [Fm.add]⟩
    · have := r.out q h
      rw [upd_ne ne]
      simpa [Fm.add, ne] using this
  · have ne : q ≠ D := fun y => z (.inr y)
    have := r.old q x (by simpa [Fm.add, ne] using h) z
    exact s q x this.1 this.2
  · by_cases ne : q = D
    · subst ne; exact ⟨ob, upd_same⟩
    · obtain ⟨o', h1⟩ := r.grow q x (by simpa [Fm.add, ne] using h)
      exact ⟨o', by rw [upd_ne ne]; exact h1⟩
end
/-! ### uniform readings -/
def uE (K : PySem.W.Frag) (f : Ex) : TE := fun σ H Q => ∃ F ρ E B, Rel K F ρ E B σ H ∧ PostE K F ρ E B σ H (f E B) Q
def uT (K : PySem.W.Frag) (f : Te) : TT := fun σ H Q => ∃ F ρ E B, Rel K F ρ E B σ H ∧ PostT K F ρ E B σ H (f E B) Q
def uG (K : PySem.W.Frag) (ks : List Nat) (bd : Bd) : TG := fun v σ H Q => ∃ F ρ E B u, Rel K F ρ E B σ H ∧ Rep K H (LvF F ρ E B σ) ρ u v ∧
  (match bd u E with
    | some E' => ∀ σ', Rel K F ρ E' B σ' H → SameBut ks σ σ' → (∀ q, LvF F ρ E' B σ' q → LvF F ρ E B σ q) → EnLe E E' → Q σ' H
    | none => False)
section
variable {X : Cx} {a b c e i tg iter elt : Expr} {es ifs : List Expr} {fa fb fe : Ex} {ft : Te} {fi : Iv} {bd : Bd} {ks : List Nat} {pos spos py : Pos} {y : Str} {scope : Scope} {own : List (Str × Nat)}
theorem SndE.u (h : SndE X e fa) : PE X e (uE X.K fa) := by
  obtain ⟨t, p, h⟩ := h
  exact ⟨fun pins s σ H Q I ⟨F, ρ, E, B, rl, q⟩ => p.run pins s σ H Q I (h F ρ E B σ H Q rl q)⟩
theorem SndT.u (h : SndT X e ft) : PT X e (uT X.K ft) := by
  obtain ⟨t, p, h⟩ := h
  exact ⟨fun pins s σ H Q I ⟨F, ρ, E, B, rl, q⟩ => p.run pins s σ H Q I (h F ρ E B σ H Q rl q)⟩
theorem SndG.u (h : SndG X tg ks bd) : PG X tg (uG X.K ks bd) := by
  obtain ⟨t, p, h⟩ := h
  exact ⟨fun pins s σ H v u Q I r ⟨F, ρ, E, B, w, rl, rr, q⟩ => p.run pins s σ H v u Q I r (h F ρ E B σ H w v Q rl rr q)⟩
/-- the tests of a comprehension -/
def SndTs (X : Cx) (ifs : List Expr) (f : Te) : Prop := PTs X ifs (uT X.K f)
theorem sndTs_nil : SndTs X [] mYes := ⟨fun pins s σ H Q I ⟨F, ρ, E, B, rl, q⟩ => pts_nil.run pins s σ H Q I (q ρ H (AftT.refl rl))⟩
theorem sndTs_one (h : SndT X c ft) : SndTs X [c] ft := pts_one h.u
def PostL (o : O (List U)) (k : List U → En → Bx → Prop) : Prop :=
  match o with
  | .ok a E B => k a E B
  | _ => False
structure Fin (K : PySem.W.Frag) (F : Fm) (ρ1 : List Addr) (E1 : En) (B1 : Bx) (σ : L2.St) (H1 : Hp) (D : Addr) (ks : List Nat) (acc : List U) (E : En) (B : Bx) (ρ : List Addr) (H : Hp) (vacc : List V) : Prop where
  px : ρ1 <+: ρ
  rel : Rel K (F.add D (some (.lst vacc))) ρ E B (wipe σ ks) H
  stp : Stp H1 (LvF F ρ1 E1 B1 σ) H (LvF (F.add D (some (.lst vacc))) ρ E B (wipe σ ks))
  le : EnLe (wipeE E1 ks) E
  at_ : H D = some (.lst vacc)
  reps : Reps K H (LvF (F.add D (some (.lst vacc))) ρ E B (wipe σ ks)) ρ acc vacc
theorem lc_reads {ta : TI} (hi : ∀ F ρ E B σ H (Rk : It → Hp → Prop), Rel X.K F ρ E B σ H → (match fi E B with
      | .ok w E' B' => ∀ ρ' H' J G, AftT X.K F ρ E B σ H ρ' E' B' H' → WalkU X.K J w.1 w.2 G → G H' (LvF F ρ' E' B' σ) ρ' → w.2 B' → Rk J H'
      | _ => False) → ta σ H Rk) :
    ∀ F ρ E B σ H Q, Rel X.K F ρ E B σ H → PostE X.K F ρ E B σ H (mLc fi bd ft fe ks E B) Q → tLc ta (uG X.K ks bd) (uT X.K ft) (uE X.K fe) ks σ H Q := by
  intro F ρ E B σ H Q rl q
  refine hi F ρ E B σ H _ rl ?_
  simp only [mLc] at q
  cases h1 : fi E B with
  | bad => rw [h1] at q; exact q
  | ex c E' B' => rw [h1] at q; exact q
  | ok w E1 B1 =>
    rw [h1] at q
    obtain ⟨us, chk⟩ := w
    simp only [O.bind_ok] at q
    intro ρ1 H1 J G A1 W G1 C1 D hD
    have hn : noOwn E1 ks = true := by
      by_cases z : noOwn E1 ks = true
      · exact z
      · rw [if_neg z] at q; exact q.elim
    rw [if_pos hn] at q
    have nw : New F D := A1.rel.new hD
    -- the slots lie within the frame
    have hks : ∀ k ∈ ks, k < σ.length := fun k hkm => by
      have hE : ∀ (ls : List Nat), noOwn E1 ls = true → ∀ k ∈ ls, k < E1.length := by
        intro ls
        induction ls with
        | nil => intro _ k z; cases z
        | cons v vs ih =>
          intro hn k hk
          unfold noOwn at hn
          cases hv : E1[v]? with
          | none => rw [hv] at hn; cases hn
          | some sv =>
            rw [hv] at hn
            have hn' : noOwn E1 vs = true := by cases sv <;> first | exact hn | cases hn
            rcases List.mem_cons.mp hk with z | z
            · subst z; exact (List.getElem?_eq_some_iff.mp hv).1
            · exact ih hn' k z
      have := hE ks hn k hkm
      rw [A1.rel.elen] at this
      exact this
    have qpost : PostL (lcGo bd ft fe chk ks us [] (wipeE E1 ks) B1) (fun accf Ef Bf => ∀ ρf Hf vf, Fin X.K F ρ1 E1 B1 σ H1 D ks accf Ef Bf ρf Hf vf → Q (.ref D) Hf) := by
      cases h2 : lcGo bd ft fe chk ks us [] (wipeE E1 ks) B1 with
      | bad => rw [h2] at q; exact q
      | ex c E' B' => rw [h2] at q; exact q
      | ok accf Ef Bf =>
        rw [h2] at q
        simp only [O.bind_ok] at q
        intro ρf Hf vf fin
        obtain ⟨r2, lv2⟩ := Rel.restore A1.rel fin.rel fin.stp fin.px hn
        have ea : F.addR Hf (.fr (.lst accf)) (.ref D) = F.add D (some (.lst vf)) := by simp only [Fm.addR, fin.at_]
        have s2 := Stp.less (H := Hf) lv2
        refine q ρf Hf (.ref D) ⟨A1.px.trans fin.px, by rw [ea]; exact r2, by rw [ea]; exact A1.stp.trans (fin.stp.trans s2), A1.le.trans fun j hj => ?_, ?_⟩
        · by_cases hjk : j ∈ ks
          · have hjl : j < E1.length := by rcases hj with ⟨u, e⟩ | ⟨c, e⟩ <;> exact (List.getElem?_eq_some_iff.mp e).1
            have hfl : j < (keepE E1 Ef ks).length := by
              rw [keepE_len, fin.rel.elen, wipe_length, ← A1.rel.elen]; exact hjl
            have hs := keepE_in hjk hn (List.getElem?_eq_getElem hfl)
            unfold IsSet at hj ⊢
            rw [List.getElem?_eq_getElem hfl, ← hs.1]
            exact hj
          · have h3 : IsSet (wipeE E1 ks) j := by unfold IsSet at hj ⊢; rw [wipeE_get hjk]; exact hj
            have h4 := fin.le j h3
            unfold IsSet at h4 ⊢
            rw [keepE_get hjk]
            exact h4
        · rw [ea]
          exact ⟨D, rfl, rfl, ⟨vf, fin.at_, fin.reps.mono s2 (List.prefix_refl _)⟩, nw⟩
    -- the loop
    refine ⟨fun i m Hc => m = us.length - i ∧ i ≤ us.length ∧ ∃ ρc Ec Bc acc vacc, Fin X.K F ρ1 E1 B1 σ H1 D ks acc Ec Bc ρc Hc vacc ∧ G Hc (LvF (F.add D (some (.lst vacc))) ρc Ec Bc (wipe σ ks)) ρc ∧ wipeE Ec ks = Ec ∧
      PostL (lcGo bd ft fe chk ks (us.drop i) acc Ec Bc) (fun accf Ef Bf => ∀ ρf Hf vf, Fin X.K F ρ1 E1 B1 σ H1 D ks accf Ef Bf ρf Hf vf → Q (.ref D) Hf), ⟨us.length, by simp, Nat.zero_le _, ρ1, wipeE E1 ks, B1, [], [], ?_, ?_, wipeE_idem, by simpa using qpost⟩, ?_⟩
    · obtain ⟨r2, lv2⟩ := (A1.rel.alloc (ob := .lst []) hD).wipes (ks := ks)
      have sa : Stp H1 (LvF F ρ1 E1 B1 σ) (upd H1 D (.lst [])) (LvF (F.add D (some (.lst []))) ρ1 E1 B1 σ) := fun q o h n => ⟨by rw [upd_ne (ne_of_none h hD)]; exact h, fun z => by
        rcases LvF.add_iff.mp z with z | z
        · exact n z
        · subst z; rw [hD] at h; cases h⟩
      exact ⟨List.prefix_refl _, r2, sa.trans (Stp.less lv2), EnLe.refl, upd_same, Reps.nil⟩
    · obtain ⟨r2, lv2⟩ := (A1.rel.alloc (ob := .lst []) hD).wipes (ks := ks)
      have sa : Stp H1 (LvF F ρ1 E1 B1 σ) (upd H1 D (.lst [])) (LvF (F.add D (some (.lst []))) ρ1 E1 B1 σ) := fun q o h n => ⟨by rw [upd_ne (ne_of_none h hD)]; exact h, fun z => by
        rcases LvF.add_iff.mp z with z | z
        · exact n z
        · subst z; rw [hD] at h; cases h⟩
      exact W.keep _ _ _ _ _ _ B1 G1 (sa.trans (Stp.less lv2)) (List.prefix_refl _) r2.boxes C1
    · rintro i m Hc ⟨rfl, hil, ρc, Ec, Bc, acc, vacc, fin, Gc, hwe, qc⟩
      by_cases hlt : i < us.length
      · refine .inr ⟨W.go _ _ _ _ Gc hlt, fun H' => (i + 1 ≤ us.length ∧ ∃ ρc Ec Bc acc vacc, Fin X.K F ρ1 E1 B1 σ H1 D ks acc Ec Bc ρc H' vacc ∧ G H' (LvF (F.add D (some (.lst vacc))) ρc Ec Bc (wipe σ ks)) ρc ∧ wipeE Ec ks = Ec ∧
          PostL (lcGo bd ft fe chk ks (us.drop (i + 1)) acc Ec Bc) (fun accf Ef Bf => ∀ ρf Hf vf, Fin X.K F ρ1 E1 B1 σ H1 D ks accf Ef Bf ρf Hf vf → Q (.ref D) Hf)), fun H' n => ⟨us.length - (i + 1), by omega, rfl, n⟩, fun x H' hy => ?_⟩
        have hu : us[i]? = some us[i] := List.getElem?_eq_getElem hlt
        obtain ⟨gr, rp⟩ := W.yld _ _ _ i us[i] x H' Gc hu hy fin.rel.lv_there
        have rl3 := fin.rel.growH gr
        have sg := grow_stp fin.rel gr
        rw [List.drop_eq_getElem_cons hlt] at qc
        simp only [lcGo] at qc
        refine ⟨F.add D (some (.lst vacc)), ρc, Ec, Bc, us[i], rl3, rp, ?_⟩
        cases h3 : bd us[i] Ec with
        | none => simp only [h3] at qc; exact (qc : False).elim
        | some E2 =>
          simp only [h3] at qc
          intro σ2 rl4 sb lv4 le4
          have hw2 : wipe σ2 ks = wipe σ ks := by
            have := wipe_same sb (fun k hkm => by rw [wipe_length]; exact hks k hkm)
            rw [this, wipe_idem (by intro k hkm; rw [wipe_length]; exact hks k hkm), wipe_idem hks]
          have s0 : Stp Hc (LvF (F.add D (some (.lst vacc))) ρc Ec Bc (wipe σ ks)) H' (LvF (F.add D (some (.lst vacc))) ρc E2 Bc σ2) := sg.trans (Stp.less lv4)
          have done : ∀ (ρn : List Addr) (En : En) (Bn : Bx) (Hn : Hp) (vn : List V) (accn : List U), ρc <+: ρn → Rel X.K (F.add D (some (.lst vn))) ρn En Bn σ2 Hn → Stp H' (LvF (F.add D (some (.lst vacc))) ρc E2 Bc σ2) Hn (LvF (F.add D (some (.lst vn))) ρn En Bn σ2) → EnLe E2 En → Hn D = some (.lst vn) →
              Reps X.K Hn (LvF (F.add D (some (.lst vn))) ρn En Bn σ2) ρn accn vn → PostL (goOnL chk (lcGo bd ft fe chk ks (us.drop (i + 1)) accn) (wipeE En ks) Bn) (fun accf Ef Bf => ∀ ρf Hf vf, Fin X.K F ρ1 E1 B1 σ H1 D ks accf Ef Bf ρf Hf vf → Q (.ref D) Hf) →
              (i + 1 ≤ us.length ∧ ∃ ρc Ec Bc acc vacc, Fin X.K F ρ1 E1 B1 σ H1 D ks acc Ec Bc ρc Hn vacc ∧ G Hn (LvF (F.add D (some (.lst vacc))) ρc Ec Bc (wipe σ ks)) ρc ∧ wipeE Ec ks = Ec ∧
                PostL (lcGo bd ft fe chk ks (us.drop (i + 1)) acc Ec Bc) (fun accf Ef Bf => ∀ ρf Hf vf, Fin X.K F ρ1 E1 B1 σ H1 D ks accf Ef Bf ρf Hf vf → Q (.ref D) Hf)) := fun ρn En Bn Hn vn accn pxn rln sn len atn repn qn => by
            obtain ⟨rw', lvw⟩ := rln.wipes (ks := ks)
            rw [hw2] at rw' lvw
            have sw := Stp.less (H := Hn) lvw
            have hck : chk Bn := by
              by_cases z : chk Bn
              · exact z
              · unfold goOnL at qn; rw [if_neg z] at qn; exact qn.elim
            rw [goOnL_yes hck] at qn
            have stot := (s0.trans sn).trans sw
            have le5 : EnLe (wipeE E1 ks) (wipeE En ks) := by
              have h0 := fin.le.trans (le4.trans len)
              have h1 := h0.wipe (ks := ks)
              rw [wipeE_idem] at h1
              exact h1
            exact ⟨hlt, ρn, wipeE En ks, Bn, accn, vn, ⟨fin.px.trans pxn, rw', fin.stp.trans stot, le5, atn, repn.mono sw (List.prefix_refl _)⟩, W.keep _ _ _ _ _ _ Bn Gc stot pxn rw'.boxes hck, wipeE_idem, qn⟩
          refine ⟨hw2, F.add D (some (.lst vacc)), ρc, E2, Bc, rl4, ?_⟩
          cases h4 : ft E2 Bc with
          | bad => simp only [h4] at qc; exact qc
          | ex c E' B' => simp only [h4] at qc; exact qc
          | ok b E3 B3 =>
            simp only [h4, O.bind_ok] at qc
            intro ρ3 H3 A3
            have at3 : H3 D = some (.lst vacc) := by have := (A3.rel.out D (.inr rfl)).1; simpa [Fm.add] using this
            cases b with
            | false =>
              simp only [Bool.false_eq_true, if_false] at qc ⊢
              exact done ρ3 E3 B3 H3 vacc acc A3.px A3.rel A3.stp A3.le at3 (fin.reps.mono (s0.trans A3.stp) A3.px) qc
            | true =>
              simp only [if_true] at qc ⊢
              refine ⟨F.add D (some (.lst vacc)), ρ3, E3, B3, A3.rel, ?_⟩
              cases h5 : fe E3 B3 with
              | bad => rw [h5] at qc; exact qc
              | ex c E' B' => rw [h5] at qc; exact qc
              | ok r E4 B4 =>
                rw [h5] at qc
                simp only [O.bind_ok] at qc
                intro ρ4 H4 v4 A4
                cases h6 : settle r E4 with
                | none => rw [h6] at qc; exact qc.elim
                | some yE =>
                  obtain ⟨y, E5⟩ := yE
                  rw [h6] at qc
                  simp only at qc
                  by_cases hl : acc.length < 16777216
                  · rw [if_pos hl] at qc
                    obtain ⟨T4, R4⟩ := A4.settled h6
                    have at4 : H4 D = some (.lst vacc) := by have := (T4.rel.out D (.inr rfl)).1; simpa [Fm.add] using this
                    obtain ⟨r5, s5⟩ := T4.rel.reown (ob := .lst (vacc ++ [v4])) nw
                    refine ⟨vacc, at4, by rw [sizeLine_eq, ← fin.reps.len]; exact hl, ?_⟩
                    exact done ρ4 E5 B4 _ (vacc ++ [v4]) (acc ++ [y]) (A3.px.trans T4.px) r5 ((A3.stp.trans T4.stp).trans s5) (A3.le.trans T4.le) upd_same
                      ((fin.reps.mono (((s0.trans A3.stp).trans T4.stp).trans s5) (A3.px.trans T4.px)).append (Reps.one (Rep.mono s5 (List.prefix_refl _) _ _ R4))) qc
                  · rw [if_neg hl] at qc; exact qc.elim
      · have e : i = us.length := by omega
        subst e
        rw [List.drop_length] at qc
        exact .inl ⟨W.stop _ _ _ Gc, qc ρc Hc vacc fin⟩
end
end QB
/-! QbK: comprehensions as expressions and statements; more operations; the law's end. -/
namespace QB
open PySem L2
section
variable {X : Cx} {a b c e i o tg iter elt : Expr} {es ifs : List Expr} {fa fb fe fo : Ex} {ft : Te} {fi : Iv} {fs : Ar} {bd : Bd} {ks : List Nat} {pos spos py p p1 p2 p3 cpos apos : Pos} {x y name : Str} {scope : Scope} {own : List (Str × Nat)}
theorem sndE_lc (hc : X.calm = true) (hN : X.N.Nodup) (ok : BlkOk X.N X.env.scope scope own) (hi : SndI X tg iter fi)
    (hg : ∀ (s : Shared) (H : Hp) (C : Addr) (cl : List (Str × Addr)) (fp : List Addr), SndG (X.blk s H scope (compEnvC scope cl C X.env) fp) tg (own.map (·.2)) bd)
    (ht : ∀ (s : Shared) (H : Hp) (C : Addr) (cl : List (Str × Addr)) (fp : List Addr), SndTs (X.blk s H scope (compEnvC scope cl C X.env) fp) ifs ft)
    (he : ∀ (s : Shared) (H : Hp) (C : Addr) (cl : List (Str × Addr)) (fp : List Addr), SndE (X.blk s H scope (compEnvC scope cl C X.env) fp) elt fe)
    (hs : ∀ x, foldedSetIterable iter X.env x = pure x := by intro _; rfl) : SndE X (.ListComp elt [⟨tg, iter, ifs, 0⟩] scope pos) (mLc fi bd ft fe (own.map (·.2))) := by
  obtain ⟨wi, pi, hi⟩ := hi
  exact ⟨_, pe_lc (g := uG X.K (own.map (·.2)) bd) (tt := uT X.K ft) (te := uE X.K fe) hc hN pi ok (fun s H C cl fp => (hg s H C cl fp).u) (fun s H C cl fp => ht s H C cl fp) (fun s H C cl fp => (he s H C cl fp).u) hs, lc_reads hi⟩
theorem sndS_setLc {k : Nat} (hc : X.calm = true) (hN : X.N.Nodup) (ok : BlkOk X.N X.env.scope scope own) (hi : SndI X tg iter fi)
    (hg : ∀ (s : Shared) (H : Hp) (C : Addr) (cl : List (Str × Addr)) (fp : List Addr), SndG (X.blk s H scope (compEnvC scope cl C X.env) fp) tg (own.map (·.2)) bd)
    (ht : ∀ (s : Shared) (H : Hp) (C : Addr) (cl : List (Str × Addr)) (fp : List Addr), SndTs (X.blk s H scope (compEnvC scope cl C X.env) fp) ifs ft)
    (he : ∀ (s : Shared) (H : Hp) (C : Addr) (cl : List (Str × Addr)) (fp : List Addr), SndE (X.blk s H scope (compEnvC scope cl C X.env) fp) elt fe)
    (hy : X.N[k]? = some y := by rfl) (hyl : X.env.scope.names.lookup y = some .local := by rfl) (hsw : swapsWith (.ListComp elt [⟨tg, iter, ifs, 0⟩] scope pos) (some (.Name y py)) spos.line X.env = pure true := by exact sw_true rfl rfl rfl (by decide +kernel))
    (hs : ∀ x, foldedSetIterable iter X.env x = pure x := by intro _; rfl) : SndS X (.Assign [.Name y py] (.ListComp elt [⟨tg, iter, ifs, 0⟩] scope pos) spos) (sSet k (mLc fi bd ft fe (own.map (·.2)))) := by
  obtain ⟨wi, pi, hi⟩ := hi
  exact ⟨_, ps_setLc (g := uG X.K (own.map (·.2)) bd) (tt := uT X.K ft) (te := uE X.K fe) hc hN hy hyl hsw pi ok (fun s H C cl fp => (hg s H C cl fp).u) (fun s H C cl fp => ht s H C cl fp) (fun s H C cl fp => (he s H C cl fp).u) hs, set_reads (lc_reads hi)⟩
theorem sndS_ownLc {k : Nat} (hc : X.calm = true) (hN : X.N.Nodup) (ok : BlkOk X.N X.env.scope scope own) (hi : SndI X tg iter fi)
    (hg : ∀ (s : Shared) (H : Hp) (C : Addr) (cl : List (Str × Addr)) (fp : List Addr), SndG (X.blk s H scope (compEnvC scope cl C X.env) fp) tg (own.map (·.2)) bd)
    (ht : ∀ (s : Shared) (H : Hp) (C : Addr) (cl : List (Str × Addr)) (fp : List Addr), SndTs (X.blk s H scope (compEnvC scope cl C X.env) fp) ifs ft)
    (he : ∀ (s : Shared) (H : Hp) (C : Addr) (cl : List (Str × Addr)) (fp : List Addr), SndE (X.blk s H scope (compEnvC scope cl C X.env) fp) elt fe)
    (hy : X.N[k]? = some y := by rfl) (hyl : X.env.scope.names.lookup y = some .local := by rfl) (hsw : swapsWith (.ListComp elt [⟨tg, iter, ifs, 0⟩] scope pos) (some (.Name y py)) spos.line X.env = pure true := by exact sw_true rfl rfl rfl (by decide +kernel))
    (hs : ∀ x, foldedSetIterable iter X.env x = pure x := by intro _; rfl) : SndS X (.Assign [.Name y py] (.ListComp elt [⟨tg, iter, ifs, 0⟩] scope pos) spos) (sOwn k (mLc fi bd ft fe (own.map (·.2)))) := by
  obtain ⟨wi, pi, hi⟩ := hi
  exact ⟨_, ps_setLc (g := uG X.K (own.map (·.2)) bd) (tt := uT X.K ft) (te := uE X.K fe) hc hN hy hyl hsw pi ok (fun s H C cl fp => (hg s H C cl fp).u) (fun s H C cl fp => ht s H C cl fp) (fun s H C cl fp => (he s H C cl fp).u) hs, own_reads (lc_reads hi)⟩
/-! ### isinstance against a tuple of types -/
theorem kitAny_of {K : PySem.W.Frag} {s : String} : ∀ {Ts : List String} {k : Bool}, isAny s Ts = some k → PySem.W.kitAny K (.type s) (Ts.map Value.type) = some k := by
  intro Ts
  induction Ts with
  | nil => intro k h; simp only [isAny, Option.some.injEq] at h; subst h; rfl
  | cons T Ts ih =>
    intro k h
    simp only [isAny, Option.bind_eq_some_iff, Option.map_eq_some_iff] at h
    obtain ⟨k1, h1, k2, h2, rfl⟩ := h
    have e1 : PySem.W.kitOne K (.type s) (.type T) = some k1 := kit_ty h1
    have e2 := ih h2
    simp only [List.map_cons, PySem.W.kitAny, e1, e2]
    cases k1 <;> rfl
/-! ### [::-1] of lists -/
def mRevL (fa : Ex) : Ex := m1 (fun u => match u with | .lst us => some (.fr (.lst us.reverse)) | _ => none) fa
theorem sndE_revL {k : Nat} (ha : SndE X a fa) : SndE X (.Subscript a (.Slice none none (some (.UnaryOp .USub (.Constant (.int 1) k p1) p2)) p3) pos) (mRevL fa) := by
  obtain ⟨ta, pa, ha⟩ := ha
  refine ⟨_, pe_revL pa, m1_ok (r := fun v H Q => ∃ a xs, v = .ref a ∧ SqL X.K H a xs ∧ ∀ p, H p = none → Q (.ref p) (upd H p (.lst xs.reverse))) (fun F ρ E B σ H u1 v1 r3 Q rl t e q => ?_) ha⟩
  split at e
  · next us =>
    cases e
    obtain ⟨p, vs, rfl, h1, h2⟩ := t
    exact ⟨p, vs, rfl, .inl (.inl h1), fun p hp => q _ _ (Aft.fresh rl hp h2.reverse)⟩
  · cases e
end
/-! ### the law's end -/
theorem spF_law {K : PySem.W.Frag} {g : Fn} (h : ∀ ns : List Int, ns.length ≤ 63 → ∃ B', g [.scr ns] [] = .ok (.bl true) B') :
    ∀ (H : Hp) (a : Addr) (ns : List Int), ns.length ≤ 63 → SqL K H a (ns.map V.int) → spF K 1 g [.ref a] H (fun v _ => v = .bl true) fun _ _ _ => False := by
  intro H a ns hl hS
  obtain ⟨B', e⟩ := h ns hl
  refine ⟨fun _ => False, [], [], [.scr ns], rfl, ⟨rfl, fun i c p h => by simp at h, fun i j c d p h => by simp at h, fun q z => z.elim⟩, Reps.one ?_, ?_⟩
  · simp only [Rep]
    refine ⟨a, rfl, ?_⟩
    rcases hS with hS | hS
    · exact .inl ⟨hS, fun z => by rcases z with z | ⟨i, c, z, _⟩; exact z; simp at z⟩
    · exact .inr hS
  · rw [e]
    intro ρ' H' v A
    have := A.rep
    simpa [Rep] using this
end QB
/-! QbL: defs as the generator calls them; joined operators; chains; keywords. -/
namespace QB
open PySem L2 PyProof.Rows
/-- a def of the text that keeps its promise -/
structure CalF (P : Program) (w : World) (K : PySem.W.Frag) (mg : Str → Option Value) (base : Heap) (k : Nat) (x : Str) (st : Stmt) (ps : List Str) (g : Fn) : Prop where
  ex : ∃ f fd, FnOk P w K mg base CX0 k f fd ps (spF K ps.length g) ∧ mg x = some (.ref f) ∧ Fun K x x st f fd ∧ Binds K fd ps []
  len : ∀ us B, us.length ≠ ps.length → g us B = .bad
/-- where the def stands -/
structure DefAt (K : PySem.W.Frag) (mg : Str → Option Value) (x : Str) (st : Stmt) : Prop where
  ex : ∃ f fd, Fun K x x st f fd ∧ mg x = some (.ref f)
section
variable {P : Program} {w : World} {K : PySem.W.Frag} {mg : Str → Option Value} {base : Heap} {k j : Nat} {x : Str} {st : Stmt} {ps : List Str} {g g' : Fn}
theorem CalF.mono (C : CalF P w K mg base j x st ps g) (h : j ≤ k) : CalF P w K mg base k x st ps g := by
  obtain ⟨⟨f, fd, h1, h2⟩, h3⟩ := C
  exact ⟨⟨f, fd, h1.mono h, h2⟩, h3⟩
theorem CalF.to (C : CalF P w K mg base k x st ps g) (h : ∀ us B, us.length = ps.length → g' us B ≠ .bad → g us B = g' us B) (hl : ∀ us B, us.length ≠ ps.length → g' us B = .bad) : CalF P w K mg base k x st ps g' := by
  obtain ⟨⟨f, fd, h1, h2⟩, h3⟩ := C
  exact ⟨⟨f, fd, h1.imp (spF_imp h), h2⟩, hl⟩
theorem calF_of {N : List Str} {body : Sm} (D : DefAt K mg x st) (S : FnScope N ps (defScope st))
    (hb : ∀ (kV doc pm : Value) (an : Option Addr) (cdv ct : Value) (us : List Value), us.length = ps.length → bindArgs (PySem.W.fnOf x x (defArgs st) (defBody st) (defScope st) .none kV doc pm an cdv ct) ⟨us, []⟩ = pure (ps.zip us))
    (h : ∀ (f : Addr) (cdv : Value) (A : Around) (outer : List Env) (s : Shared) (H : Hp) (E : XK), Room k (A.deeper (PyProof.Rows.envOfC x (defScope st) s.heap.objs.size f cdv)) →
      SndB (cxOf CX0 P w K mg base N x (defScope st) f cdv A outer s H E).nox (defBody st) body) : CalF P w K mg base (k + 1) x st ps (runBody N.length ps.length body) := by
  obtain ⟨f, fd, hF, hm⟩ := D.ex
  exact ⟨⟨f, fd, fn_body hF S (fun cdv A outer s H E hr => h f cdv A outer s H E hr), hm, hF, hF.binds hb⟩, runBody_len⟩
theorem calF_zero : CalF P w K mg base 0 x st ps (fun _ _ => .bad) → True := fun _ => trivial
/-- nothing is promised at level 0 -/
theorem calF_none (D : DefAt K mg x st) (hb : ∀ (kV doc pm : Value) (an : Option Addr) (cdv ct : Value) (us : List Value), us.length = ps.length → bindArgs (PySem.W.fnOf x x (defArgs st) (defBody st) (defScope st) .none kV doc pm an cdv ct) ⟨us, []⟩ = pure (ps.zip us)) :
    CalF P w K mg base k x st ps (fun _ _ => .bad) := by
  obtain ⟨f, fd, hF, hm⟩ := D.ex
  have no : ∀ vs H Q E, ¬ spF K ps.length (fun _ _ => Fo.bad) vs H Q E := fun vs H Q E ⟨_, _, _, _, _, _, _, z⟩ => z
  exact ⟨⟨f, fd, ⟨fun vs H Q E h => absurd h (no vs H Q E), fun A outer s H args us vs Q E _ _ _ _ h => absurd h (no vs H Q E)⟩, hm, hF, hF.binds hb⟩, fun _ _ _ => rfl⟩
end
section
variable {X : Cx} {a b c e : Expr} {es : List Expr} {fa fb fc : Ex} {fs : Ar} {pos p p2 p3 : Pos} {x : Str} {k j : Nat} {st : Stmt} {ps : List Str} {g : Fn}
theorem sndE_callF (C : CalF X.prog X.w X.K X.mg X.base k x st ps g) (hr : Room j X.A) (hk : k ≤ j) (ha : SndA X (e :: es) fs) (hg : Gl X x := by rfl) (hdb : (x == ("__debug__" : Str)) = false := by decide)
    (hs : starEach (e :: es) X.env = (false, eval e X.env) :: starEach es X.env := by rfl) (hpl : (backTo pos (starEach es X.env)).any (·.1) = false := by rfl) : SndE X (.Call (.Name x p) (e :: es) [] pos) (mCall g fs) := by
  obtain ⟨⟨f, fd, h1, h2, h3, h4⟩, hl⟩ := C
  exact sndE_call h1 (hr.mono hk) h2 h3.kp h4 hl ha hg hdb hs hpl
theorem sndE_callF0 (C : CalF X.prog X.w X.K X.mg X.base k x st [] g) (hr : Room j X.A) (hk : k ≤ j) (hg : Gl X x := by rfl) (hdb : (x == ("__debug__" : Str)) = false := by decide) : SndE X (.Call (.Name x p) [] [] pos) (mCall g mNil) := by
  obtain ⟨⟨f, fd, h1, h2, h3, h4⟩, hl⟩ := C
  exact sndE_call0 h1 (hr.mono hk) h2 h3.kp h4 hl hg hdb
/-! ### keywords alone -/
abbrev Perm2 := List Nat
/-- the values of the keywords, put in the parameters' order -/
def pick {α : Type} (ix : List Nat) (ws : List α) : List α := ix.filterMap fun i => ws[i]?
structure KwOk (K : PySem.W.Frag) (st : Stmt) (x : Str) (ps ks : List Str) (ix : List Nat) : Prop where
  b : ∀ (kV doc pm : Value) (an : Option Addr) (cdv ct : Value) (ws : List Value), (pick ix ws).length = ps.length → bindArgs (PySem.W.fnOf x x (defArgs st) (defBody st) (defScope st) .none kV doc pm an cdv ct) ⟨[], ks.zip ws⟩ = pure (ps.zip (pick ix ws))
theorem pick_vals {ix : List Nat} {zs : List V} {ws : List Value} (h : Vals zs ws) : Vals (pick ix zs) (pick ix ws) := by
  induction ix with
  | nil => exact .nil
  | cons i ix ih =>
    unfold pick at ih ⊢
    rw [List.filterMap_cons, List.filterMap_cons]
    cases e : zs[i]? with
    | none => rw [h.none_of e]; exact ih
    | some v =>
      obtain ⟨u, h1, h2⟩ := h.get e
      rw [h1]
      exact .cons h2 ih
theorem pick_reps {K : PySem.W.Frag} {H : Hp} {Lv : AS} {ρ : List Addr} {ix : List Nat} {us : List U} {vs : List V} (h : Reps K H Lv ρ us vs) : Reps K H Lv ρ (pick ix us) (pick ix vs) := by
  induction ix with
  | nil => exact Reps.nil
  | cons i ix ih =>
    unfold pick at ih ⊢
    rw [List.filterMap_cons, List.filterMap_cons]
    cases e : us[i]? with
    | none =>
      have : vs[i]? = none := by
        rw [List.getElem?_eq_none_iff] at e ⊢
        rw [← h.len]; exact e
      rw [this]; exact ih
    | some u =>
      obtain ⟨v, h1, h2⟩ := h.get e
      rw [h1]
      exact Reps.cons h2 ih
def SndK (X : Cx) (kws : List Keyword) (f : Ar) : Prop := ∃ t : TA, PK X kws t ∧ ∀ F ρ E B σ H Q, Rel X.K F ρ E B σ H → PostA X.K F ρ E B σ H (f E B) Q → t σ H Q
theorem sndK_nil : SndK X [] mNil := ⟨_, pk_nil, fun F ρ E B σ H Q rl h => h ρ H [] ⟨AftT.refl rl, Reps.nil⟩⟩
theorem sndK_cons {kws : List Keyword} {nm : Option Str} (ha : SndE X e fa) (hr : SndK X kws fs) : SndK X (⟨nm, e, p⟩ :: kws) (mCons fa fs) := by
  obtain ⟨ta, pa, ha⟩ := ha
  obtain ⟨tr, pr, hr⟩ := hr
  refine ⟨_, pk_cons pa pr, fun F ρ E B σ H Q rl h => ?_⟩
  refine ha F ρ E B σ H _ rl ?_
  simp only [mCons] at h
  cases h1 : fa E B with
  | bad => rw [h1] at h; exact h
  | ex c E' B' => rw [h1] at h; exact h
  | ok r1 E1 B1 =>
    rw [h1] at h
    intro ρ1 H1 v1 A1
    simp only [O.bind_ok] at h
    split at h
    · next u E2 es =>
      obtain ⟨T1, R1⟩ := A1.settled es
      refine hr F ρ1 E2 B1 σ H1 _ T1.rel ?_
      cases h2 : fs E2 B1 with
      | bad => rw [h2] at h; exact h
      | ex c E' B' => rw [h2] at h; exact h
      | ok us E3 B3 =>
        rw [h2] at h
        simp only [O.bind_ok] at h
        intro ρ3 H3 vs A3
        exact h ρ3 H3 (v1 :: vs) ⟨T1.trans A3.t, Reps.cons (Rep.mono A3.t.stp A3.t.px _ _ R1) A3.reps⟩
    · exact h.elim
def mCallK (g : Fn) (ix : List Nat) (fs : Ar) : Ex := mCall (fun us B => g (pick ix us) B) fs
theorem sndE_callK {kws : List Keyword} {ks : List Str} {ix : List Nat} (C : CalF X.prog X.w X.K X.mg X.base k x st ps g) (hr : Room j X.A) (hk : k ≤ j) (kw : KwOk X.K st x ps ks ix) (hps : ps ≠ []) (ha : SndK X kws fs) (hg : Gl X x := by rfl)
    (hall : (backToKw pos (keywordEach kws X.env)).all (·.1.isSome) = true := by rfl) (hks : (backToKw pos (keywordEach kws X.env)).filterMap (·.1) = ks := by rfl)
    (hdb : (x == ("__debug__" : Str)) = false := by decide) (hpl : ((backTo pos (starEach [] X.env)).any (·.1) || (backToKw pos (keywordEach kws X.env)).any (·.1.isNone)) = false := by rfl) : SndE X (.Call (.Name x p) [] kws pos) (mCallK g ix fs) := by
  obtain ⟨⟨f, fd, h1, h2, h3, h4⟩, hl⟩ := C
  obtain ⟨tk, pk, hk2⟩ := ha
  have kb : KBinds X.K fd ps ks (fun us ws => match us with | [] => pick ix ws | _ => []) (fun us zs => match us with | [] => pick ix zs | _ => []) := by
    obtain ⟨oc, od, kV, doc, pm, an, cdv, ct, osl, rfl, lk, hcd⟩ := h3.ex
    refine ⟨fun s us ws _ hlen => ?_, fun {vs us zs ws} r1 r2 => ?_⟩
    · cases us with
      | nil => exact .of_eq (kw.b kV doc pm an cdv ct ws hlen)
      | cons u us =>
        exact absurd (by cases ps <;> simp_all) hps
    · cases r1 with
      | nil => exact pick_vals r2
      | cons _ _ => exact .nil
  refine ⟨fun σ H Q => tk σ H fun zs H2 => spF X.K ps.length g (pick ix zs) H2 Q E0, ⟨fun pins s σ H Q I h => ?_⟩, fun F ρ E B σ H Q rl q => ?_⟩
  · refine wpAny_Call_Name_kw (ld_glob I hg h2 ?_ hdb)
    refine PySem.W.callWith_KW0 (h₀ := X.base) I.ok.mod.kin h3.kp hall (thn (pk.run pos pins s σ H _ I h) fun ws s2 ⟨zs, H2, I2, rz, q2⟩ => ⟨I2.kIn, ?_⟩) hpl
    rw [hks]
    exact run_fnk (vs := []) (us := []) h1 (hr.mono hk) kb (pass0 (X := X)) I2 .nil rz q2
  · refine hk2 F ρ E B σ H _ rl ?_
    simp only [mCallK, mCall] at q
    cases e1 : fs E B with
    | bad => rw [e1] at q; exact q
    | ex c E' B' => rw [e1] at q; exact q
    | ok us E1 B1 =>
      rw [e1] at q
      intro ρ1 H1 vs A1
      simp only [O.bind_ok] at q
      have hlen : (pick ix us).length = ps.length := by
        by_cases z : (pick ix us).length = ps.length
        · exact z
        · rw [hl _ B1 z] at q; exact q.elim
      refine ⟨outOf F E1 σ, ρ1, B1, pick ix us, hlen, A1.t.rel.brel, by rw [ob_eq]; exact pick_reps A1.reps, ?_⟩
      cases e2 : g (pick ix us) B1 with
      | bad => rw [e2] at q; exact q.elim
      | ex c B' => rw [e2] at q; exact q.elim
      | ok u B2 =>
        rw [e2] at q
        exact fun ρ2 H2 v A2 => q ρ2 H2 v (A1.t.then (A1.t.rel.back A2))
/-! ### joined operators -/
def gAdd (a b : U) : Option R := (gII (fun _ _ => true) (· + ·) a b).or ((gCatS a b).or ((gCatL a b).or (gCatT a b)))
def gSub : U → U → Option R := gII (fun _ _ => true) (· - ·)
def gMul (a b : U) : Option R := (gII cMul (· * ·) a b).or (gRep a b)
def gLt (a b : U) : Option R := (gIB (fun i j => decide (i < j)) a b).or (gSB (fun i j => decide (i.cps.toList < j.cps.toList)) a b)
def gLe (a b : U) : Option R := (gIB (fun i j => decide (i ≤ j)) a b).or (gSB (fun i j => !decide (j.cps.toList < i.cps.toList)) a b)
def gGt (a b : U) : Option R := (gIB (fun i j => decide (j < i)) a b).or (gSB (fun i j => decide (j.cps.toList < i.cps.toList)) a b)
def gGe (a b : U) : Option R := (gIB (fun i j => decide (j ≤ i)) a b).or (gSB (fun i j => !decide (i.cps.toList < j.cps.toList)) a b)
theorem op2_Add : Op2S X (binaryOp .Add) gAdd := op2_add.or (op2_catS.or (op2_catL.or op2_catT))
theorem op2_Sub : Op2S X (binaryOp .Sub) gSub := op2_sub
theorem op2_Mul : Op2S X (binaryOp .Mult) gMul := op2_mul.or op2_rep
theorem op2_Lt : Op2S X (compareOp .Lt) gLt := op2_ltI.or op2_ltS
theorem op2_Le : Op2S X (compareOp .LtE) gLe := op2_leI.or op2_leS
theorem op2_Gt : Op2S X (compareOp .Gt) gGt := op2_gtI.or op2_gtS
theorem op2_Ge : Op2S X (compareOp .GtE) gGe := op2_geI.or op2_geS
def gIAdd (a b : U) : Option R := (gII (fun _ _ => true) (· + ·) a b).or (gCatS a b)
theorem op2_IAdd : Op2S X (inplaceOp .Add) gIAdd := op2_iadd.or op2_icatS
theorem op2_ISub : Op2S X (inplaceOp .Sub) gSub := op2_isub
/-! ### a < b < c -/
def mChain (g1 g2 : U → U → Option R) (fa fb fc : Ex) : Ex := fun E B =>
  (fa E B).bind fun r1 E1 B1 => (fb E1 B1).bind fun r2 E2 B2 =>
    match view r1 E2 B2, view r2 E2 B2 with
    | some u1, some u2 => match flatU u2, g1 u1 u2 with
      | some _, some (.w (.bl true)) => (fc E2 B2).bind fun r3 E3 B3 => match view r3 E3 B3 with
        | some u3 => match g2 u2 u3 with
          | some r => .ok r E3 B3
          | none => .bad
        | none => .bad
      | some _, some (.w (.bl false)) => .ok (.w (.bl false)) E2 B2
      | _, _ => .bad
    | _, _ => .bad
theorem flat_keep {K : PySem.W.Frag} {H H' : Hp} {Lv Lv' : AS} {ρ ρ' : List Addr} {u : U} {v w : V} (t : Top K H Lv ρ u v) (e : flatU u = some w) : Top K H' Lv' ρ' u v := by
  cases u <;> simp only [flatU, Option.some.injEq] at e <;> first | (cases e; done) | skip
  · rw [top_non t]; simp [Top, Rep]
  · rw [top_bl t]; simp [Top, Rep]
  · rw [top_int t]; simp [Top, Rep]
  · rw [top_str t]; simp [Top, Rep]
theorem chain_reads {r r' : R2} {g1 g2 : U → U → Option R} {ta tb tc : TE}
    (ho : ∀ F ρ E B σ H u1 u2 v1 v2 r3 Q, Rel X.K F ρ E B σ H → Top X.K H (LvF F ρ E B σ) ρ u1 v1 → Top X.K H (LvF F ρ E B σ) ρ u2 v2 → g1 u1 u2 = some r3 → (∀ H' v, Aft X.K F ρ E B σ H r3 ρ E B H' v → Q v H') → r v1 v2 H Q)
    (ho' : ∀ F ρ E B σ H u1 u2 v1 v2 r3 Q, Rel X.K F ρ E B σ H → Top X.K H (LvF F ρ E B σ) ρ u1 v1 → Top X.K H (LvF F ρ E B σ) ρ u2 v2 → g2 u1 u2 = some r3 → (∀ H' v, Aft X.K F ρ E B σ H r3 ρ E B H' v → Q v H') → r' v1 v2 H Q)
    (ha : ∀ F ρ E B σ H Q, Rel X.K F ρ E B σ H → PostE X.K F ρ E B σ H (fa E B) Q → ta σ H Q) (hb : ∀ F ρ E B σ H Q, Rel X.K F ρ E B σ H → PostE X.K F ρ E B σ H (fb E B) Q → tb σ H Q) (hc : ∀ F ρ E B σ H Q, Rel X.K F ρ E B σ H → PostE X.K F ρ E B σ H (fc E B) Q → tc σ H Q) :
    ∀ F ρ E B σ H Q, Rel X.K F ρ E B σ H → PostE X.K F ρ E B σ H (mChain g1 g2 fa fb fc E B) Q → tChain r r' ta tb tc σ H Q := by
  intro F ρ E B σ H Q rl h
  refine ha F ρ E B σ H _ rl ?_
  simp only [mChain] at h
  cases e1 : fa E B with
  | bad => rw [e1] at h; exact h
  | ex c E' B' => rw [e1] at h; exact h
  | ok r1 E1 B1 =>
    rw [e1] at h
    intro ρ1 H1 v1 A1
    refine hb _ ρ1 E1 B1 σ H1 _ A1.rel ?_
    simp only [O.bind_ok] at h
    cases e2 : fb E1 B1 with
    | bad => rw [e2] at h; exact h
    | ex c E' B' => rw [e2] at h; exact h
    | ok r2 E2 B2 =>
      rw [e2] at h
      simp only [O.bind_ok] at h
      intro ρ2 H2 v2 A2
      have A1' := A1.carry A2.letgo
      have T1 := A1'.letgo
      split at h
      · next u1 u2 f1 f2 =>
        have t1 := A1'.top f1
        have t2 : Top X.K H2 (LvF F ρ2 E2 B2 σ) ρ2 u2 v2 := (A2.top f2).mono (Stp.less fun q z => addR_lv z)
        split at h
        · next w hfl eg =>
          refine ho F ρ2 E2 B2 σ H2 u1 u2 v1 v2 _ _ T1.rel t1 t2 eg fun H' v A3 => ?_
          have rr := A3.rep
          simp only [RepR, Rep] at rr
          subst rr
          have T3 := T1.trans A3.letgo
          refine ⟨true, rfl, ?_⟩
          rw [if_pos rfl]
          refine hc F ρ2 E2 B2 σ H' _ T3.rel ?_
          cases e3 : fc E2 B2 with
          | bad => rw [e3] at h; exact h
          | ex c E' B' => rw [e3] at h; exact h
          | ok r3 E3 B3 =>
            rw [e3] at h
            simp only [O.bind_ok] at h
            intro ρ3 H3 v3 A4
            split at h
            · next u3 f3 =>
              split at h
              · next r5 eg2 =>
                have T4 := A4.letgo
                exact ho' F ρ3 E3 B3 σ H3 u2 u3 v2 v3 r5 Q T4.rel (flat_keep t2 hfl) (A4.top f3) eg2 fun H5 v5 A5 => h ρ3 H5 v5 ((T3.trans T4).then A5)
              · exact h.elim
            · exact h.elim
        · next w hfl eg =>
          refine ho F ρ2 E2 B2 σ H2 u1 u2 v1 v2 _ _ T1.rel t1 t2 eg fun H' v A3 => ?_
          have rr := A3.rep
          simp only [RepR, Rep] at rr
          subst rr
          have T3 := T1.trans A3.letgo
          refine ⟨false, rfl, ?_⟩
          rw [if_neg Bool.false_ne_true]
          exact h ρ2 H' _ (T3.then (Aft.val T3.rel (by simp [Rep])))
        · exact h.elim
      · exact h.elim
theorem sndE_chain {op op' : CmpOp} {g1 g2 : U → U → Option R} (ho : Op2S X (compareOp op) g1) (ho' : Op2S X (compareOp op') g2) (ha : SndE X a fa) (hb : SndE X b fb) (hc : SndE X c fc)
    (hm : lastMarks [op, op'] [b, c] = false := by rfl) : SndE X (.Compare a [op, op'] [b, c] pos) (mChain g1 g2 fa fb fc) := by
  obtain ⟨r, hr, ho⟩ := ho
  obtain ⟨r', hr', ho'⟩ := ho'
  obtain ⟨ta, pa, ha⟩ := ha
  obtain ⟨tb, pb, hb⟩ := hb
  obtain ⟨tc, pc, hc⟩ := hc
  exact ⟨_, pe_chain hr hr' pa pb pc hm, chain_reads ho ho' ha hb hc⟩
theorem sndT_chain {op op' : CmpOp} {g1 g2 : U → U → Option R} (ho : Op2S X (compareOp op) g1) (ho' : Op2S X (compareOp op') g2) (ha : SndE X a fa) (hb : SndE X b fb) (hc : SndE X c fc)
    (hm : lastMarks [op, op'] [b, c] = false := by rfl) : SndT X (.Compare a [op, op'] [b, c] pos) (toT (mChain g1 g2 fa fb fc)) := by
  obtain ⟨r, hr, ho⟩ := ho
  obtain ⟨r', hr', ho'⟩ := ho'
  obtain ⟨ta, pa, ha⟩ := ha
  obtain ⟨tb, pb, hb⟩ := hb
  obtain ⟨tc, pc, hc⟩ := hc
  exact ⟨_, pt_chain hr hr' pa pb pc hm, toT_ok (chain_reads ho ho' ha hb hc)⟩
end
end QB
/-! QbM: constants of the top, isinstance of several, dicts of texts, targets, the walrus. -/
namespace QB
open PySem L2
section
variable {X : Cx} {a b c e i o : Expr} {es : List Expr} {fa fb fc : Ex} {ft : Te} {f g : Sm} {fs : Ar} {bd : Bd} {ks : List Nat} {pos p p2 p3 tpos : Pos} {x : Str} {sts sts' : List Stmt}
theorem sndE_gstrE {z : Str} (h : ∃ u, X.mg x = some u ∧ ∃ t, u = Value.str z t) (hg : Gl X x := by rfl) (hd : (x == ("__debug__" : Str)) = false := by decide) : SndE X (.Name x pos) (mC (.str z)) := by
  obtain ⟨u, h1, h2⟩ := h
  exact sndE_gstr h1 h2 hg hd
/-! ### isinstance against a written tuple -/
structure TyA (X : Cx) (es : List Expr) (Ts : List String) : Prop where
  pa : PA X es (fun σ H Q => Q (Ts.map V.ty) H)
theorem tyA_nil : TyA X [] [] := ⟨⟨fun pos pins s σ H Q I h => pa_nil.run pos pins s σ H Q I h⟩⟩
theorem tyA_cons {T : String} {Ts : List String} (hm : X.mg x = none) (hv : bootBuiltins x = some (.type T)) (hr : TyA X es Ts) (hg : Gl X x := by rfl) (hn : x ≠ "__name__" := by decide) (hdb : (x == ("__debug__" : Str)) = false := by decide)
    (hs : starEach (.Name x p :: es) X.env = (false, eval (.Name x p) X.env) :: starEach es X.env := by rfl) : TyA X (.Name x p :: es) (T :: Ts) :=
  ⟨⟨fun pos pins s σ H Q I h => (pa_cons (pe_bltn (v := .ty T) hg hm hv rfl hn hdb) hr.pa hs).run pos pins s σ H Q I h⟩⟩
theorem tyVals : ∀ Ts : List String, Paired ClsV (Ts.map V.ty) (Ts.map Value.type)
  | [] => .nil
  | T :: Ts => .cons (.ty T) (tyVals Ts)
theorem sndE_isiT {Ts : List String} {k} (hm : X.mg "isinstance" = none) (ha : SndE X a fa) (ht : TyA X es Ts) (hg : Gl X "isinstance" := by rfl) (hlen : Ts.length ≤ 1000 := by decide)
    (hs : starEach [a, .Tuple es k p2] X.env = (false, eval a X.env) :: starEach [.Tuple es k p2] X.env := by rfl) (hvI : bootBuiltins "isinstance" = some (.builtin "isinstance") := by decide +kernel) :
    SndE X (.Call (.Name "isinstance" p) [a, .Tuple es k p2] [] pos) (m1 (gIsiT Ts) fa) := by
  obtain ⟨ta, pa, ha⟩ := ha
  refine ⟨_, pe_callB call_isiT hg hm hvI (pa_cons pa (pa_cons (pe_tup ht.pa) pa_nil) hs) (by decide) (by decide) hs, ?_⟩
  refine m1_ok (r := fun v H Q => (Ts.map V.ty).length ≤ sizeLine ∧ ∀ q, H q = none → rIsiT X.K [v, .ref q] (upd H q (.tup (Ts.map V.ty))) Q) (fun F ρ E B σ H u1 v1 r3 Q rl t e q => ?_) ha
  refine ⟨by rw [List.length_map, sizeLine_eq]; omega, fun q' hq => ?_⟩
  simp only [gIsiT, Option.bind_eq_some_iff, Option.map_eq_some_iff] at e
  obtain ⟨s, e1, k', e2, rfl⟩ := e
  have gr : ∀ z o, H z = some o → (upd H q' (.tup (Ts.map V.ty))) z = some o := fun z o h => by rw [upd_ne (ne_of_none h hq)]; exact h
  have rl2 := rl.growH gr
  have st := grow_stp rl gr
  have ty : TyX X.K (upd H q' (.tup (Ts.map V.ty))) v1 (.type s) := by
    have t2 : Top X.K (upd H q' (.tup (Ts.map V.ty))) (LvF F ρ E B σ) ρ u1 v1 := by
      cases u1 with
      | lst us => obtain ⟨pp, vs, e0, h1, h2⟩ := t; exact ⟨pp, vs, e0, gr _ _ h1, h2.mono st (List.prefix_refl _)⟩
      | tup us => exact (show Top _ _ _ _ (.tup us) _ by have := Rep.mono st (List.prefix_refl _) (.tup us) v1 (by simp only [Rep]; exact t); simp only [Rep] at this; exact this)
      | dct ks us => obtain ⟨pp, kvs, e0, h1, h2, h3⟩ := t; exact ⟨pp, kvs, e0, gr _ _ h1, h2, h3.mono st (List.prefix_refl _)⟩
      | box _ => exact t.elim
      | non => exact t
      | bl _ => exact t
      | int _ => exact t
      | str _ => exact t
      | scr _ => exact Rep.mono st (List.prefix_refl _) _ _ t
    exact kind_top t2 e1
  exact ⟨v1, q', Ts.map V.ty, .type s, Ts.map Value.type, k', rfl, upd_same, tyVals Ts, ty, kitAny_of e2, q _ _ ⟨List.prefix_refl _, rl2, st, EnLe.refl, by simp [RepR, Rep]⟩⟩
/-! ### several targets at once -/
def sAsg (fe : Ex) (bd : Bd) : Sm := fun E B => (fe E B).bind fun r E1 B1 =>
  match settle r E1 with
  | some (u, E2) => match bd u E2 with
    | some E3 => .ok .nx E3 B1
    | none => .bad
  | none => .bad
theorem sndS_asg {tg : Expr} (he : SndE X e fa) (hg : SndG X tg ks bd) (hs : swapsWithSole [tg] e pos.line X.env = pure false := by rfl) (hw : swappedStores [tg] e X.env = pure none := by rfl) (h1 : (assignEach [tg] X.env).map (·.2) = [assign tg X.env] := by rfl) : SndS X (.Assign [tg] e pos) (sAsg fa bd) := by
  obtain ⟨te, pe, he⟩ := he
  obtain ⟨g, pg, hg⟩ := hg
  refine ⟨_, ps_asg pe pg hs hw h1, fun F ρ E B σ H D rl q => ?_⟩
  refine he F ρ E B σ H _ rl ?_
  simp only [sAsg] at q
  cases h1 : fa E B with
  | bad => rw [h1] at q; exact q
  | ex c E' B' => rw [h1] at q; exact q
  | ok r E1 B1 =>
    rw [h1] at q
    intro ρ1 H1 v1 A1
    simp only [O.bind_ok] at q
    split at q
    · next u E2 es =>
      obtain ⟨T1, R1⟩ := A1.settled es
      refine hg F ρ1 E2 B1 σ H1 u v1 _ T1.rel R1 ?_
      cases h2 : bd u E2 with
      | none => rw [h2] at q; exact q.elim
      | some E3 =>
        rw [h2] at q
        exact fun σ' rl' _ _ _ => q ρ1 σ' H1 T1.px rl'
    · exact q.elim
/-! ### dicts of written texts -/
structure DPs (X : Cx) (keys : List (Option Expr)) (values : List Expr) (ps : List (Str × Str)) : Prop where
  ex : ∃ trs, (∀ pos, PPs X pos keys values trs) ∧ ∀ σ H (Q : List (V × V) → Hp → Prop), Q (ps.map fun q => (V.str q.1, V.str q.2)) H → tPairs trs σ H Q
theorem dps_nil : DPs X [] [] [] := ⟨[], fun _ => pps_nil, fun _ _ _ q => q⟩
theorem dps_cons {k v : Str} {i j : Nat} {p1 p2 : Pos} {keys : List (Option Expr)} {values : List Expr} {ps : List (Str × Str)} (h : DPs X keys values ps) : DPs X (some (.Constant (.str k) i p1) :: keys) (.Constant (.str v) j p2 :: values) ((k, v) :: ps) := by
  obtain ⟨trs, h1, h2⟩ := h
  exact ⟨_, fun pos => pps_cons pe_str pe_str (h1 pos), fun σ H Q q => h2 σ H _ q⟩
def dK (ps : List (Str × Str)) : List (Key × V) := ps.map fun q => (Sum.inr q.1, V.str q.2)
def mDctS (ps : List (Str × Str)) : Ex := fun E B => .ok (.fr (.dct (ps.map fun q => Sum.inr q.1) (ps.map fun q => .str q.2))) E B
theorem sndE_dctS {keys : List (Option Expr)} {values : List Expr} {ps : List (Str × Str)} (h : DPs X keys values ps) (hall : keys.all (·.isSome) = true := by rfl) (hl : keys.length = values.length := by rfl) (h0 : keys ≠ [] := by intro z; cases z) (h15 : keys.length ≤ 15 := by decide)
    (hp : ps.length ≤ 15 := by decide) (hm : mergeK [] (dK ps) = dK ps := by decide +kernel) : SndE X (.Dict keys values pos) (mDctS ps) := by
  obtain ⟨trs, h1, h2⟩ := h.ex
  refine ⟨_, pe_disp (h1 pos) hall hl h0 h15, fun F ρ E B σ H Q rl q => fun pp hpp => ?_⟩
  refine h2 σ _ _ ⟨upd_same, dK ps, by simp [dK, kV, Function.comp_def], by simpa [dK] using hp, ?_⟩
  rw [upd_upd, hm]
  refine q ρ _ _ (Aft.freshD rl hpp (by simp [dK, Function.comp_def]) ?_)
  have hr : ∀ (qs : List (Str × Str)), Reps X.K H (LvF F ρ E B σ) ρ (qs.map fun q => .str q.2) ((dK qs).map (·.2)) := by
    intro qs
    induction qs with
    | nil => simp [dK, Reps]
    | cons q qs ih => exact Reps.cons (by simp [Rep]) ih
  exact hr ps
def lookU (ks : List Key) (us : List U) (k : Key) : Option U := match ks, us with
  | k' :: ks, u :: us => if k' = k then some u else lookU ks us k
  | _, _ => none
theorem lookU_ok {K : PySem.W.Frag} {H : Hp} {Lv : AS} {ρ : List Addr} {k : Key} {u : U} : ∀ {us : List U} {kvs : List (Key × V)}, Reps K H Lv ρ us (kvs.map (·.2)) → lookU (kvs.map (·.1)) us k = some u → ∃ v, valV kvs k = some v ∧ Rep K H Lv ρ u v
  | us, [], h, e => by cases us <;> simp [lookU] at e
  | [], kv :: kvs, h, e => by simp [lookU] at e
  | w :: us, kv :: kvs, h, e => by
    simp only [List.map_cons, Reps] at h
    obtain ⟨v, r, hv, h1, h2⟩ := h
    cases hv
    simp only [List.map_cons, lookU] at e
    by_cases hk : kv.1 = k
    · rw [if_pos hk] at e
      cases e
      exact ⟨kv.2, by simp [valV, List.find?, hk], h1⟩
    · rw [if_neg hk] at e
      obtain ⟨v, h3, h4⟩ := lookU_ok h2 e
      refine ⟨v, ?_, h4⟩
      unfold valV at h3 ⊢
      rw [List.find?_cons_of_neg (by simpa using hk)]
      exact h3
def gDIx : U → U → Option R
  | .dct ks us, .str z => (lookU ks us (.inr z)).map .w
  | .dct ks us, .int z => (lookU ks us (.inl z)).map .w
  | _, _ => none
theorem sndE_dix (hu : X.A.units + 1 < cLine) (ha : SndE X a fa) (hb : SndE X b fb) (hs : NoSl b := by intro _ _; rfl) : SndE X (.Subscript a b pos) (m2 gDIx fa fb) := by
  obtain ⟨ta, pa, ha⟩ := ha
  obtain ⟨tb, pb, hb⟩ := hb
  refine ⟨_, pe_dget hu pa pb hs, m2_ok (f := fun _ _ => pure Value.none) (r := fun x y H Q => ∃ a v, x = .ref a ∧ DGet H a y (some v) ∧ Q v H) (fun F ρ E B σ H u1 u2 v1 v2 r3 Q rl t1 t2 e q => ?_) ha hb⟩
  unfold gDIx at e
  split at e
  · next ks us z =>
    simp only [Option.map_eq_some_iff] at e
    obtain ⟨u, e1, rfl⟩ := e
    obtain ⟨pp, kvs, rfl, h1, rfl, h2⟩ := t1
    obtain ⟨v, h3, h4⟩ := lookU_ok h2 e1
    have := DGet.k (k := Sum.inr z) h1
    rw [h3] at this
    exact ⟨pp, v, rfl, by rw [top_str t2]; exact this, q H _ (Aft.val rl h4)⟩
  · next ks us z =>
    simp only [Option.map_eq_some_iff] at e
    obtain ⟨u, e1, rfl⟩ := e
    obtain ⟨pp, kvs, rfl, h1, rfl, h2⟩ := t1
    obtain ⟨v, h3, h4⟩ := lookU_ok h2 e1
    have := DGet.k (k := Sum.inl z) h1
    rw [h3] at this
    exact ⟨pp, v, rfl, by rw [top_int t2]; exact this, q H _ (Aft.val rl h4)⟩
  · cases e
/-! ### if a and (x := e) op b -/
abbrev Tw := En → Bx → O Bool
def SndTw (X : Cx) (e : Expr) (f : Tw) : Prop := ∃ t : TTw, PTw X e t ∧ ∀ F ρ E B σ H (Q : Bool → L2.St → Hp → Prop), Rel X.K F ρ E B σ H →
  (match f E B with
    | .ok b E' B' => ∀ ρ' σ' H', ρ <+: ρ' → Rel X.K F ρ' E' B' σ' H' → Q b σ' H'
    | _ => False) → t σ H Q
def wCmpN (i : Nat) (g : U → U → Option R) (fa fb : Ex) : Tw := fun E B => (fa E B).bind fun r E1 B1 =>
  match settle r E1 with
  | some (u, E2) => if i < E2.length then (fb (E2.set i (.val u)) B1).bind fun r2 E3 B3 => match viewU u B3, view r2 E3 B3 with
      | some u1, some u2 => match g u1 u2 with
        | some (.w (.bl b)) => .ok b E3 B3
        | _ => .bad
      | _, _ => .bad
    else .bad
  | none => .bad
theorem sndTw_cmpN {i : Nat} {op : CmpOp} {g : U → U → Option R} (ho : Op2S X (compareOp op) g) (ha : SndE X a fa) (hb : SndE X b fb) (hN : X.N.Nodup) (hi : X.N[i]? = some x := by rfl) (hx : Loc X.env.scope x := by first | exact Or.inl rfl | exact Or.inr rfl)
    (hf : X.fn x = true ∨ X.env.scope.names.lookup x = some .local := by first | exact .inl rfl | exact .inr rfl | assumption) (hm : behindInMarks op b = false := by first | rfl | exact nomark _) : SndTw X (.Compare (.NamedExpr (.Name x p) a p2) [op] [b] pos) (wCmpN i g fa fb) := by
  obtain ⟨r, hr, ho⟩ := ho
  obtain ⟨ta, pa, ha⟩ := ha
  obtain ⟨tb, pb, hb⟩ := hb
  refine ⟨_, ptw_cmp hr (pew_named hN hi hx (pew_of pa) hf) pb hm, fun F ρ E B σ H Q rl q => ?_⟩
  refine ha F ρ E B σ H _ rl ?_
  simp only [wCmpN] at q
  cases h1 : fa E B with
  | bad => rw [h1] at q; exact q
  | ex c E' B' => rw [h1] at q; exact q
  | ok r1 E1 B1 =>
    rw [h1] at q
    intro ρ1 H1 v1 A1
    simp only [O.bind_ok] at q
    cases h2 : settle r1 E1 with
    | none => rw [h2] at q; exact q.elim
    | some w =>
      obtain ⟨u, E2⟩ := w
      rw [h2] at q
      simp only at q
      by_cases hl : i < E2.length
      · rw [if_pos hl] at q
        obtain ⟨T1, R1⟩ := A1.settled h2
        have rl2 := T1.rel.setVal hl R1
        refine hb F ρ1 _ B1 _ H1 _ rl2 ?_
        cases h3 : fb (E2.set i (.val u)) B1 with
        | bad => rw [h3] at q; exact q
        | ex c E' B' => rw [h3] at q; exact q
        | ok r2 E3 B3 =>
          rw [h3] at q
          simp only [O.bind_ok] at q
          intro ρ3 H3 v3 A3
          have T3 := A3.letgo
          have R3 : Rep X.K H3 (LvF F ρ3 E3 B3 (σ.set i (some v1))) ρ3 u v1 := Rep.mono T3.stp T3.px _ _ (Rep.mono (Stp.less (setVal_lv T1.rel hl)) (List.prefix_refl _) _ _ R1)
          cases f1 : viewU u B3 with
          | none => rw [f1] at q; exact q.elim
          | some u1 =>
            cases f2 : view r2 E3 B3 with
            | none => rw [f1, f2] at q; exact q.elim
            | some u2 =>
              rw [f1, f2] at q
              simp only at q
              have t1 := viewU_top T3.rel rfl R3 f1
              have t2 := A3.top f2
              cases eg : g u1 u2 with
              | none => rw [eg] at q; exact q.elim
              | some r3 =>
                rw [eg] at q
                cases r3 with
                | s _ => exact q.elim
                | fr _ => exact q.elim
                | w u3 =>
                  cases u3 with
                  | bl b =>
                    simp only at q
                    refine ho F ρ3 E3 B3 _ H3 u1 u2 v1 v3 _ _ T3.rel t1 t2 eg fun H' v A4 => ?_
                    have rr := A4.rep
                    simp only [RepR, Rep] at rr
                    subst rr
                    exact ⟨b, rfl, q ρ3 _ H' (T1.px.trans T3.px) A4.letgo.rel⟩
                  | _ => exact q.elim
      · rw [if_neg hl] at q; exact q.elim
def wAnd (f : Te) (g : Tw) : Tw := fun E B => (f E B).bind fun b E1 B1 => if b = true then g E1 B1 else .ok false E1 B1
def wAndT (c : TT) (t : TTw) : TTw := fun σ H Q => c σ H fun b H1 => if b = true then t σ H1 Q else Q false σ H1
open PyProof.Rows in
theorem ptw_and {tc : TT} {t : TTw} (ha : PT X a tc) (hb : PTw X b t) : PTw X (.BoolOp .And [a, b] pos) (wAndT tc t) := by
  refine ⟨fun pins s σ H Q I h => ?_⟩
  refine isTrue_and (thn (ha.run pins s σ H _ I h) fun k s1 ⟨H1, I1, q1⟩ => ?_)
  cases k with
  | true => exact isTrue_and (thn (hb.run pins s1 σ H1 Q I1 q1) fun k2 s2 e2 => by
      cases k2 with
      | true => exact isTrue_and_nil e2
      | false => exact e2)
  | false => exact ⟨σ, H1, I1, q1⟩
theorem sndTw_and {fw : Tw} (ha : SndT X a ft) (hb : SndTw X b fw) : SndTw X (.BoolOp .And [a, b] pos) (wAnd ft fw) := by
  obtain ⟨tc, pc, ha⟩ := ha
  obtain ⟨t, pb, hb⟩ := hb
  refine ⟨_, ptw_and pc pb, fun F ρ E B σ H Q rl q => ?_⟩
  refine ha F ρ E B σ H _ rl ?_
  simp only [wAnd] at q
  cases h1 : ft E B with
  | bad => rw [h1] at q; exact q
  | ex c E' B' => rw [h1] at q; exact q
  | ok k E1 B1 =>
    rw [h1] at q
    intro ρ1 H1 A1
    cases k with
    | true =>
      simp only [O.bind_ok, if_true] at q ⊢
      refine hb F ρ1 E1 B1 σ H1 Q A1.rel ?_
      cases h2 : fw E1 B1 with
      | bad => rw [h2] at q; exact q
      | ex c E' B' => rw [h2] at q; exact q
      | ok k2 E2 B2 => rw [h2] at q; exact fun ρ2 σ2 H2 px r2 => q ρ2 σ2 H2 (A1.px.trans px) r2
    | false =>
      simp only [O.bind_ok, Bool.false_eq_true, if_false] at q ⊢
      exact q ρ1 σ H1 A1.px A1.rel
def sIfW (c : Tw) (f g : Sm) : Sm := fun E B => (c E B).bind fun b E1 B1 => if b = true then f E1 B1 else g E1 B1
theorem sndS_ifW {fw : Tw} (hc : SndTw X c fw) (hf : SndB X sts f) (hg : SndB X sts' g) : SndS X (.If c sts sts' pos) (sIfW fw f g) := by
  obtain ⟨t, p1, hc⟩ := hc
  obtain ⟨u, p2, hf⟩ := hf
  obtain ⟨u', p3, hg⟩ := hg
  refine ⟨_, ps_ifW p1 p2 p3, fun F ρ E B σ H D rl q => ?_⟩
  refine hc F ρ E B σ H _ rl ?_
  simp only [sIfW] at q
  cases h1 : fw E B with
  | bad => rw [h1] at q; exact q
  | ex c E' B' => rw [h1] at q; exact q
  | ok b1 E1 B1 =>
    rw [h1] at q
    intro ρ1 σ1 H1 px r1
    cases b1 with
    | true =>
      simp only [O.bind_ok, if_true] at q ⊢
      exact hf F ρ1 E1 B1 σ1 H1 D r1 (q.px px)
    | false =>
      simp only [O.bind_ok, Bool.false_eq_true, if_false] at q ⊢
      exact hg F ρ1 E1 B1 σ1 H1 D r1 (q.px px)
end
end QB
/-! QbN: reading the derived functions: equations for simp, loops by an invariant, texts as codes. -/
namespace QB
open PySem L2
theorem calF_end {P : Program} {w : World} {K : PySem.W.Frag} {mg : Str → Option Value} {base : Heap} {k : Nat} {x : Str} {st : Stmt} {ps : List Str} {g : Fn} {fa f : Addr} {fd : FuncData}
    (C : CalF P w K mg base k x st ps g) (hfa : mg x = some (.ref fa)) (F : Fun K x x st f fd) (hm : mg x = some (.ref f)) : FnOk P w K mg base CX0 k fa fd ps (spF K ps.length g) := by
  obtain ⟨⟨f', fd', h1, h2, h3, h4⟩, hl⟩ := C
  have e1 := hm.symm.trans h2
  have e2 := hfa.symm.trans h2
  cases e1
  cases e2
  obtain ⟨_, _, _, _, _, _, _, _, _, _, l1, _⟩ := h3.ex
  obtain ⟨_, _, _, _, _, _, _, _, _, _, l2, _⟩ := F.ex
  have e3 := l1.symm.trans l2
  cases e3
  exact h1
/-! ### texts -/
theorem lit_beq (a b : String) : (Str.ofString a == Str.ofString b) = (a == b) := by
  rw [Str.ofString_eq_toList, Str.ofString_eq_toList]
  have inj : ∀ {l m : List Char}, l.map Char.toNat = m.map Char.toNat → l = m := by
    intro l
    induction l with
    | nil => intro m h; cases m with
      | nil => rfl
      | cons _ _ => cases h
    | cons c l ih => intro m h; cases m with
      | nil => cases h
      | cons d m =>
        simp only [List.map_cons, List.cons.injEq] at h
        rw [ih h.2, Char.toNat_inj.mp h.1]
  by_cases h : a = b
  · subst h; simp
  · have : ¬ (Str.mk (a.toList.map Char.toNat).toArray = Str.mk (b.toList.map Char.toNat).toArray) := by
      intro z
      simp only [Str.mk.injEq, Array.mk.injEq] at z
      exact h (String.ext (inj z))
    rw [beq_eq_false_iff_ne.mpr this, beq_eq_false_iff_ne.mpr h]
def codes (x : Str) : List Nat := x.cps.toList
def ofC (l : List Nat) : Str := ⟨l.toArray⟩
@[simp] theorem codes_ofC (l : List Nat) : codes (ofC l) = l := rfl
@[simp] theorem ofC_codes (x : Str) : ofC (codes x) = x := rfl
theorem str_ext {x y : Str} (h : codes x = codes y) : x = y := by rw [← ofC_codes x, ← ofC_codes y, h]
@[simp] theorem ofC_inj {l m : List Nat} : ofC l = ofC m ↔ l = m := ⟨fun h => by have := congrArg codes h; simpa using this, fun h => by rw [h]⟩
@[simp] theorem ofC_len (l : List Nat) : (ofC l).length = l.length := by simp [ofC, Str.length]
@[simp] theorem ofC_beq (l m : List Nat) : (ofC l == ofC m) = (l == m) := by
  by_cases h : l = m
  · subst h; simp
  · rw [beq_eq_false_iff_ne.mpr h, beq_eq_false_iff_ne.mpr (by simpa using h)]
@[simp] theorem ofC_app (l m : List Nat) : ofC l ++ ofC m = ofC (l ++ m) := by
  show Str.append _ _ = _
  simp [Str.append, ofC]
theorem ofS (s : String) : Str.ofString s = ofC (s.toList.map Char.toNat) := Str.ofString_eq_toList s
theorem mk_ofC (l : List Nat) : (⟨l.toArray⟩ : Str) = ofC l := rfl
@[simp] theorem mk1_ofC (c : Nat) : (⟨#[c]⟩ : Str) = ofC [c] := rfl
@[simp] theorem ofC_cps (l : List Nat) : (ofC l).cps.toList = l := rfl
/-! ### places -/
theorem atI_nat' {α : Type} (us : List α) (k : Nat) : atI us (k : Int) = us[k]? := by
  unfold atI ixN
  rw [if_pos (by omega)]
  by_cases h : k < us.length
  · rw [if_pos (by omega)]; simp
  · rw [if_neg (by omega), Option.bind_none, List.getElem?_eq_none (by omega)]
theorem atI_of {α : Type} {us : List α} {i : Int} {k : Nat} (h : i = (k : Int)) : atI us i = us[k]? := by rw [h, atI_nat']
@[simp] theorem atI_0 {α : Type} (us : List α) : atI us 0 = us[0]? := atI_of (k := 0) rfl
@[simp] theorem atI_1 {α : Type} (us : List α) : atI us 1 = us[1]? := atI_of (k := 1) rfl
@[simp] theorem atI_2 {α : Type} (us : List α) : atI us 2 = us[2]? := atI_of (k := 2) rfl
@[simp] theorem atI_3 {α : Type} (us : List α) : atI us 3 = us[3]? := atI_of (k := 3) rfl
@[simp] theorem atI_k {α : Type} (us : List α) (k : Nat) : atI us (k : Int) = us[k]? := atI_nat' us k
@[simp] theorem atI_k1 {α : Type} (us : List α) (k : Nat) : atI us ((k : Int) + 1) = us[k + 1]? := atI_of (by omega)
@[simp] theorem atI_k2 {α : Type} (us : List α) (k : Nat) : atI us ((k : Int) + 2) = us[k + 2]? := atI_of (by omega)
theorem ixN_of {n : Nat} {i : Int} {k : Nat} (h : i = (k : Int)) (hk : k < n) : ixN n i = some k := by
  unfold ixN
  rw [if_pos (by omega), if_pos (by omega), h, Int.toNat_natCast]
theorem cutU_nat {us : List U} {i j : Int} {a b : Nat} (h1 : i = (a : Int)) (h2 : j = (b : Int)) (hb : b ≤ us.length) (hab : a ≤ b) : cutU us (some i) (some j) = (us.drop a).take (b - a) := by
  unfold cutU
  rw [h1, h2, HT.sIx_nat, HT.sIx_nat, Nat.min_eq_left hb, Nat.min_eq_left (Nat.le_trans hab hb)]
theorem drop_min {α : Type} (us : List α) (a : Nat) : us.drop (min a us.length) = us.drop a := by
  by_cases h : a ≤ us.length
  · rw [Nat.min_eq_left h]
  · rw [Nat.min_eq_right (by omega), List.drop_eq_nil_of_le (Nat.le_refl _), List.drop_eq_nil_of_le (by omega)]
theorem take_min2 {α : Type} (us : List α) (a b : Nat) : (us.drop a).take (min b us.length - min a us.length) = (us.drop a).take (b - a) := by
  by_cases h : a ≤ us.length
  · rw [Nat.min_eq_left h]
    by_cases h2 : b ≤ us.length
    · rw [Nat.min_eq_left h2]
    · rw [Nat.min_eq_right (by omega), List.take_of_length_le (by rw [List.length_drop]; omega), List.take_of_length_le (by rw [List.length_drop]; omega)]
  · rw [List.drop_eq_nil_of_le (by omega)]; simp
theorem cutU_ij {us : List U} {i j : Int} {a b : Nat} (h1 : i = (a : Int)) (h2 : j = (b : Int)) : cutU us (some i) (some j) = (us.drop a).take (b - a) := by
  unfold cutU
  rw [h1, h2, HT.sIx_nat, HT.sIx_nat, drop_min, take_min2]
theorem cutU_i {us : List U} {i : Int} {a : Nat} (h1 : i = (a : Int)) : cutU us (some i) none = us.drop a := by
  unfold cutU
  rw [h1, HT.sIx_nat, HT.sIx_none, drop_min]
  have := take_min2 us a us.length
  rw [Nat.min_self] at this
  rw [this, List.take_of_length_le (by rw [List.length_drop]; omega)]
theorem cutU_j {us : List U} {j : Int} {b : Nat} (h2 : j = (b : Int)) : cutU us none (some j) = us.take b := by
  unfold cutU
  rw [h2, HT.sIx_nat, HT.sIx_none, List.drop_zero, Nat.sub_zero]
  by_cases h : b ≤ us.length
  · rw [Nat.min_eq_left h]
  · rw [Nat.min_eq_right (by omega), List.take_of_length_le (Nat.le_refl _), List.take_of_length_le (by omega)]
/-! ### outcomes -/
def OkP {α : Type} (o : O α) (Q : α → En → Bx → Prop) : Prop := match o with
  | .ok a E B => Q a E B
  | _ => False
@[simp] theorem OkP_ok {α : Type} {a : α} {E : En} {B : Bx} {Q : α → En → Bx → Prop} : OkP (.ok a E B) Q ↔ Q a E B := Iff.rfl
theorem OkP.bind {α β : Type} {o : O α} {k : α → En → Bx → O β} {Q : β → En → Bx → Prop} (h : OkP o fun a E B => OkP (k a E B) Q) : OkP (o.bind k) Q := by
  cases o with
  | ok a E B => exact h
  | ex c E B => exact h.elim
  | bad => exact h.elim
theorem OkP.ofBind {α β : Type} {o : O α} {k : α → En → Bx → O β} {Q : β → En → Bx → Prop} (h : OkP (o.bind k) Q) : OkP o fun a E B => OkP (k a E B) Q := by
  cases o with
  | ok a E B => exact h
  | ex c E B => exact h.elim
  | bad => exact h.elim
theorem OkP.mono {α : Type} {o : O α} {Q Q' : α → En → Bx → Prop} (h : OkP o Q) (i : ∀ a E B, Q a E B → Q' a E B) : OkP o Q' := by
  cases o with
  | ok a E B => exact i _ _ _ h
  | ex c E B => exact h.elim
  | bad => exact h.elim
theorem OkP.get {α : Type} {o : O α} {Q : α → En → Bx → Prop} (h : OkP o Q) : ∃ a E B, o = .ok a E B ∧ Q a E B := by
  cases o with
  | ok a E B => exact ⟨a, E, B, rfl, h⟩
  | ex c E B => exact h.elim
  | bad => exact h.elim
theorem okP_seq {f g : Sm} {E : En} {B : Bx} {Q : Fl → En → Bx → Prop} (h : OkP (f E B) fun fl E1 B1 => match fl with | .nx => OkP (g E1 B1) Q | fl => Q fl E1 B1) : OkP (sSeq f g E B) Q := by
  unfold sSeq
  refine OkP.bind (h.mono fun fl E1 B1 q => ?_)
  cases fl <;> exact q
/-- what a body answers, as a def's outcome -/
theorem run_ok {N n : Nat} {f : Sm} {us : List U} {B : Bx} {Q : U → Bx → Prop} (hl : us.length = n) (h : OkP (f (us.map .val ++ List.replicate (N - us.length) .un) B) fun fl _ B' => match fl with | .rt u => Q u B' | .nx => Q .non B' | _ => False) : ∃ u B', runBody N n f us B = .ok u B' ∧ Q u B' := by
  unfold runBody
  rw [if_pos hl]
  obtain ⟨fl, E', B', e, q⟩ := h.get
  rw [e]
  cases fl with
  | rt u => exact ⟨u, B', rfl, q⟩
  | nx => exact ⟨.non, B', rfl, q⟩
  | bk => exact q.elim
  | ct => exact q.elim
/-- a while by an invariant and a number that falls -/
theorem okP_while {c : Te} {b : Sm} {Q : Fl → En → Bx → Prop} (I : Nat → En → Bx → Prop)
    (step : ∀ n E B, I n E B → OkP (c E B) fun k E1 B1 => if k = true then OkP (b E1 B1) fun fl E2 B2 => match fl with
      | .bk => Q .nx E2 B2
      | .rt v => Q (.rt v) E2 B2
      | _ => ∃ m, m < n ∧ I m E2 B2
      else Q .nx E1 B1) {E : En} {B : Bx} {n : Nat} (h : I n E B) (hn : n < whileFuel) : OkP (sWhile c b E B) Q := by
  have go : ∀ N n E B, n < N → I n E B → OkP (whileN N c b E B) Q := by
    intro N
    induction N with
    | zero => intro n E B h; omega
    | succ N ih =>
      intro n E B hN hI
      unfold whileN
      refine OkP.bind ((step n E B hI).mono fun k E1 B1 q => ?_)
      by_cases hk : k = true
      · rw [if_pos hk] at q ⊢
        refine OkP.bind (q.mono fun fl E2 B2 q2 => ?_)
        cases fl with
        | bk => exact q2
        | rt v => exact q2
        | nx => obtain ⟨m, hm, h2⟩ := q2; exact ih m E2 B2 (by omega) h2
        | ct => obtain ⟨m, hm, h2⟩ := q2; exact ih m E2 B2 (by omega) h2
      · rw [if_neg hk] at q ⊢
        exact q
  exact go whileFuel n E B hn h
/-- a for over things that cannot change under it -/
theorem okP_forGo {bd : Bd} {b : Sm} {Q : Fl → En → Bx → Prop} (I : List U → En → Bx → Prop) (step : ∀ u us E B, I (u :: us) E B → ∃ E1, bd u E = some E1 ∧ OkP (b E1 B) fun fl E2 B2 => match fl with
      | .bk => Q .nx E2 B2
      | .rt v => Q (.rt v) E2 B2
      | _ => I us E2 B2) (last : ∀ E B, I [] E B → Q .nx E B) : ∀ us E B, I us E B → OkP (forGo bd b yes us E B) Q
  | [], E, B, h => last E B h
  | u :: us, E, B, h => by
    obtain ⟨E1, e, q⟩ := step u us E B h
    unfold forGo
    rw [e]
    refine OkP.bind (q.mono fun fl E2 B2 q2 => ?_)
    cases fl with
    | bk => exact q2
    | rt v => exact q2
    | nx => simp only [goOn_Yes]; exact okP_forGo I step last us E2 B2 q2
    | ct => simp only [goOn_Yes]; exact okP_forGo I step last us E2 B2 q2
theorem okP_for {fi : Iv} {bd : Bd} {b : Sm} {us : List U} {E E1 : En} {B B1 : Bx} {Q : Fl → En → Bx → Prop} (hi : fi E B = .ok (us, yes) E1 B1) (I : List U → En → Bx → Prop) (h : I us E1 B1) (step : ∀ u us E B, I (u :: us) E B → ∃ E1, bd u E = some E1 ∧ OkP (b E1 B) fun fl E2 B2 => match fl with
      | .bk => Q .nx E2 B2
      | .rt v => Q (.rt v) E2 B2
      | _ => I us E2 B2) (last : ∀ E B, I [] E B → Q .nx E B) : OkP (sFor fi bd b E B) Q := by
  unfold sFor
  rw [hi]
  exact okP_forGo I step last us E1 B1 h
/-- a for over a shared list that its body leaves alone -/
theorem okP_forB {fi : Iv} {bd : Bd} {b : Sm} {us : List U} {j : Nat} {E E1 : En} {B B1 : Bx} {Q : Fl → En → Bx → Prop} (hi : fi E B = .ok (us, fun B' => B'[j]? = some (.lst ws)) E1 B1) (I : List U → En → Bx → Prop) (h : I us E1 B1) (step : ∀ u us E B, I (u :: us) E B → ∃ E1, bd u E = some E1 ∧ OkP (b E1 B) fun fl E2 B2 => match fl with
      | .bk => Q .nx E2 B2
      | .rt v => Q (.rt v) E2 B2
      | _ => B2[j]? = some (.lst ws) ∧ I us E2 B2) (last : ∀ E B, I [] E B → Q .nx E B) : OkP (sFor fi bd b E B) Q := by
  have go : ∀ us E B, I us E B → OkP (forGo bd b (fun B' => B'[j]? = some (.lst ws)) us E B) Q := by
    intro us
    induction us with
    | nil => intro E B h; exact last E B h
    | cons u us ih =>
      intro E B h
      obtain ⟨E1, e, q⟩ := step u us E B h
      unfold forGo
      rw [e]
      refine OkP.bind (q.mono fun fl E2 B2 q2 => ?_)
      cases fl with
      | bk => exact q2
      | rt v => exact q2
      | nx => simp only [goOn, if_pos q2.1]; exact ih E2 B2 q2.2
      | ct => simp only [goOn, if_pos q2.1]; exact ih E2 B2 q2.2
  unfold sFor
  rw [hi]
  exact go us E1 B1 h
/-- a list comprehension whose parts change nothing -/
theorem lc_pure {bd : Bd} {t : Te} {f : Ex} {ks : List Nat} {chk : Bx → Prop} {E : En} {B : Bx} {p : U → Bool} {y : U → U} (hc : chk B) : ∀ (us acc : List U), (∀ u ∈ us, ∃ E1, bd u E = some E1 ∧ wipeE E1 ks = E ∧ t E1 B = .ok (p u) E1 B ∧ (p u = true → ∃ r, f E1 B = .ok r E1 B ∧ settle r E1 = some (y u, E1))) → acc.length + us.length ≤ 16777216 → lcGo bd t f chk ks us acc E B = .ok (acc ++ (us.filter p).map y) E B
  | [], acc, _, _ => by simp [lcGo]
  | u :: us, acc, h, hl => by
    obtain ⟨E1, e1, e2, e3, e4⟩ := h u (List.mem_cons_self ..)
    have hl' : acc.length + (us.length + 1) ≤ 16777216 := hl
    unfold lcGo
    rw [e1]
    simp only [e3, O.bind_ok]
    by_cases hp : p u = true
    · obtain ⟨r, e5, e6⟩ := e4 hp
      rw [if_pos hp, e5]
      simp only [O.bind_ok, e6]
      rw [if_pos (by omega), e2]
      unfold goOnL
      rw [if_pos hc, lc_pure hc us (acc ++ [y u]) (fun v hv => h v (List.mem_cons_of_mem _ hv)) (by simp; omega)]
      simp [hp]
    · rw [if_neg hp, e2]
      unfold goOnL
      rw [if_pos hc, lc_pure hc us acc (fun v hv => h v (List.mem_cons_of_mem _ hv)) (by omega)]
      simp [hp]
theorem mLc_pure {fi : Iv} {bd : Bd} {t : Te} {f : Ex} {ks : List Nat} {chk : Bx → Prop} {E E1 : En} {B B1 : Bx} {us : List U} (p : U → Bool) (y : U → U) (hi : fi E B = .ok (us, chk) E1 B1) (hn : noOwn E1 ks = true) (hc : chk B1) (hl : us.length ≤ 16777216)
    (h : ∀ u ∈ us, ∃ E2, bd u (wipeE E1 ks) = some E2 ∧ wipeE E2 ks = wipeE E1 ks ∧ t E2 B1 = .ok (p u) E2 B1 ∧ (p u = true → ∃ r, f E2 B1 = .ok r E2 B1 ∧ settle r E2 = some (y u, E2))) :
    mLc fi bd t f ks E B = .ok (.fr (.lst ((us.filter p).map y))) (keepE E1 (wipeE E1 ks) ks) B1 := by
  unfold mLc
  rw [hi]
  simp only [O.bind_ok]
  rw [if_pos hn, lc_pure hc us [] h (by simpa using hl)]
  simp
end QB
/-! QbO: the layer's words as equations for simp. -/
namespace QB
open PySem L2
section
variable {E : En} {B : Bx} {f g : Ex} {s t : Sm} {c d : Te} {fs : Ar} {u : U} {i j : Nat}
@[simp] theorem e_mVar : mVar i E B = match E[i]? with
  | some (.val u) => .ok (.w u) E B
  | some (.own _) => .ok (.s i) E B
  | _ => .bad := (rfl)
@[simp] theorem e_mC : mC u E B = .ok (.w u) E B := (rfl)
@[simp] theorem e_m2 {h : U → U → Option R} : m2 h f g E B = (f E B).bind fun r1 E1 B1 => (g E1 B1).bind fun r2 E2 B2 =>
    match view r1 E2 B2, view r2 E2 B2 with
    | some u1, some u2 => match h u1 u2 with
      | some r => .ok r E2 B2
      | none => .bad
    | _, _ => .bad := (rfl)
@[simp] theorem e_m1 {h : U → Option R} : m1 h f E B = (f E B).bind fun r1 E1 B1 =>
    match view r1 E1 B1 with
    | some u1 => match h u1 with
      | some r => .ok r E1 B1
      | none => .bad
    | none => .bad := (rfl)
@[simp] theorem e_toT : toT f E B = (f E B).bind fun r E1 B1 =>
  match r with
  | .w (.bl b) => .ok b E1 B1
  | _ => .bad := (rfl)
@[simp] theorem e_mTru : mTru f E B = (f E B).bind fun r E1 B1 =>
  match view r E1 B1 with
  | some u => match truU u with
    | some b => .ok b E1 B1
    | none => .bad
  | none => .bad := (rfl)
@[simp] theorem e_mAnd : mAnd c d E B = (c E B).bind fun b E1 B1 => if b = true then d E1 B1 else .ok false E1 B1 := (rfl)
@[simp] theorem e_mOr : mOr c d E B = (c E B).bind fun b E1 B1 => if b = true then .ok true E1 B1 else d E1 B1 := (rfl)
@[simp] theorem e_mNot : mNot c E B = (c E B).bind fun b E1 B1 => .ok (!b) E1 B1 := (rfl)
@[simp] theorem e_mAndV : mAndV f g E B = (toT f E B).bind fun b E1 B1 => if b = true then g E1 B1 else .ok (.w (.bl false)) E1 B1 := (rfl)
@[simp] theorem e_mOrV : mOrV f g E B = (toT f E B).bind fun b E1 B1 => if b = true then .ok (.w (.bl true)) E1 B1 else g E1 B1 := (rfl)
@[simp] theorem e_mNotV : mNotV f E B = (toT f E B).bind fun b E1 B1 => .ok (.w (.bl (!b))) E1 B1 := (rfl)
@[simp] theorem e_mIf : mIf c f g E B = (c E B).bind fun b E1 B1 => if b = true then f E1 B1 else g E1 B1 := (rfl)
@[simp] theorem e_mBox : mBox f E B = (f E B).bind fun r E1 B1 =>
  match r with
  | .fr c => .ok (.w (.box B1.length)) E1 (B1 ++ [c])
  | _ => .bad := (rfl)
@[simp] theorem e_mNoPart : mNoPart E B = .ok none E B := (rfl)
@[simp] theorem e_mPart : mPart f E B = (f E B).bind fun r E1 B1 =>
  match r with
  | .w (.int i) => .ok (some i) E1 B1
  | _ => .bad := (rfl)
@[simp] theorem e_mSl {fl fh : En → Bx → O (Option Int)} : mSl f fl fh E B =
  (f E B).bind fun r E1 B1 => (fl E1 B1).bind fun lo E2 B2 => (fh E2 B2).bind fun hi E3 B3 =>
    match view r E3 B3 with
    | some u => match gSl u lo hi with
      | some r => .ok r E3 B3
      | none => .bad
    | none => .bad := (rfl)
@[simp] theorem e_mNil : mNil E B = .ok [] E B := (rfl)
@[simp] theorem e_mCons : mCons f fs E B = (f E B).bind fun r E1 B1 =>
  match settle r E1 with
  | some (u, E2) => (fs E2 B1).bind fun us E3 B3 => .ok (u :: us) E3 B3
  | none => .bad := (rfl)
@[simp] theorem e_mTup : mTup fs E B = (fs E B).bind fun us E1 B1 => if us.length ≤ 16777216 then .ok (.w (.tup us)) E1 B1 else .bad := (rfl)
@[simp] theorem e_mLst : mLst fs E B = (fs E B).bind fun us E1 B1 => if us.length ≤ 16777216 then .ok (.fr (.lst us)) E1 B1 else .bad := (rfl)
@[simp] theorem e_mB {h : List U → Option R} : mB h fs E B = (fs E B).bind fun us E1 B1 =>
  match h us with
  | some r => .ok r E1 B1
  | none => .bad := (rfl)
@[simp] theorem e_mM {h : U → List U → Option R} : mM h f fs E B = (f E B).bind fun r E1 B1 =>
  match r with
  | .w (.str z) => (fs E1 B1).bind fun us E2 B2 => match h (.str z) us with
    | some r => .ok r E2 B2
    | none => .bad
  | _ => .bad := (rfl)
@[simp] theorem e_mCall {h : Fn} : mCall h fs E B = (fs E B).bind fun us E1 B1 =>
  match h us B1 with
  | .ok u B2 => .ok (.w u) E1 B2
  | .ex c B2 => .ex c E1 B2
  | .bad => .bad := (rfl)
@[simp] theorem e_mCallK {h : Fn} {ix : List Nat} : mCallK h ix fs E B = (fs E B).bind fun us E1 B1 =>
  match h (pick ix us) B1 with
  | .ok u B2 => .ok (.w u) E1 B2
  | .ex c B2 => .ex c E1 B2
  | .bad => .bad := (rfl)
@[simp] theorem e_pick1 {a : U} : pick [0] [a] = [a] := (rfl)
@[simp] theorem e_mAppend : mAppend f g E B = (f E B).bind fun r E1 B1 =>
  match cellOf r E1 B1 with
  | some (.lst _) => (mCons g mNil E1 B1).bind fun us E2 B2 =>
    match us, cellOf r E2 B2 with
    | [u], some (.lst xs) => if xs.length < 16777216 then .ok (.w .non) (put r E2 B2 (.lst (xs ++ [u]))).1 (put r E2 B2 (.lst (xs ++ [u]))).2 else .bad
    | _, _ => .bad
  | _ => .bad := (rfl)
@[simp] theorem e_sStore {h : Ex} : sStore f g h E B = (f E B).bind fun r0 E0 B0 =>
  match settle r0 E0 with
  | none => .bad
  | some (u, E0') => (g E0' B0).bind fun r E1 B1 => (h E1 B1).bind fun ri E2 B2 =>
    match ri, cellOf r E2 B2 with
    | .w (.int k), some (.lst xs) => match ixN xs.length k with
      | some j => .ok .nx (put r E2 B2 (.lst (xs.set j u))).1 (put r E2 B2 (.lst (xs.set j u))).2
      | none => .bad
    | _, _ => .bad := (rfl)
@[simp] theorem e_sNext : sNext E B = .ok .nx E B := (rfl)
@[simp] theorem e_sBreak : sBreak E B = .ok .bk E B := (rfl)
@[simp] theorem e_sCont : sCont E B = .ok .ct E B := (rfl)
@[simp] theorem e_sBad : sBad E B = .bad := (rfl)
@[simp] theorem e_sSeq : sSeq s t E B = (s E B).bind fun fl E1 B1 =>
  match fl with
  | .nx => t E1 B1
  | fl => .ok fl E1 B1 := (rfl)
@[simp] theorem e_sSet : sSet i f E B = (f E B).bind fun r E1 B1 =>
  match settle r E1 with
  | some (u, E2) => if i < E2.length then .ok .nx (E2.set i (.val u)) B1 else .bad
  | none => .bad := (rfl)
@[simp] theorem e_sOwn : sOwn i f E B = (f E B).bind fun r E1 B1 =>
  match r with
  | .fr c => if i < E1.length then .ok .nx (E1.set i (.own c)) B1 else .bad
  | _ => .bad := (rfl)
@[simp] theorem e_sExpr : sExpr f E B = (f E B).bind fun _ E1 B1 => .ok .nx E1 B1 := (rfl)
@[simp] theorem e_sRet : sRet f E B = (f E B).bind fun r E1 B1 =>
  match settle r E1 with
  | some (u, E2) => .ok (.rt u) E2 B1
  | none => .bad := (rfl)
@[simp] theorem e_sRetN : sRetN E B = .ok (.rt .non) E B := (rfl)
@[simp] theorem e_sIf : sIf c s t E B = (c E B).bind fun b E1 B1 => if b = true then s E1 B1 else t E1 B1 := (rfl)
@[simp] theorem e_sAug {h : U → U → Option R} : sAug i h f E B =
  match E[i]? with
  | some (.val u1) => match flatU u1 with
    | some _ => (f E B).bind fun r E1 B1 => match view r E1 B1 with
      | some u2 => match h u1 u2 with
        | some (.w z) => if i < E1.length then .ok .nx (E1.set i (.val z)) B1 else .bad
        | _ => .bad
      | none => .bad
    | none => .bad
  | _ => .bad := (rfl)
@[simp] theorem e_mChain {h k : U → U → Option R} {l : Ex} : mChain h k f g l E B =
  (f E B).bind fun r1 E1 B1 => (g E1 B1).bind fun r2 E2 B2 =>
    match view r1 E2 B2, view r2 E2 B2 with
    | some u1, some u2 => match flatU u2, h u1 u2 with
      | some _, some (.w (.bl true)) => (l E2 B2).bind fun r3 E3 B3 => match view r3 E3 B3 with
        | some u3 => match k u2 u3 with
          | some r => .ok r E3 B3
          | none => .bad
        | none => .bad
      | some _, some (.w (.bl false)) => .ok (.w (.bl false)) E2 B2
      | _, _ => .bad
    | _, _ => .bad := (rfl)
@[simp] theorem e_wCmpN {h : U → U → Option R} : wCmpN i h f g E B = (f E B).bind fun r E1 B1 =>
  match settle r E1 with
  | some (u, E2) => if i < E2.length then (g (E2.set i (.val u)) B1).bind fun r2 E3 B3 => match viewU u B3, view r2 E3 B3 with
      | some u1, some u2 => match h u1 u2 with
        | some (.w (.bl b)) => .ok b E3 B3
        | _ => .bad
      | _, _ => .bad
    else .bad
  | none => .bad := (rfl)
@[simp] theorem e_wAnd {h : Tw} : wAnd c h E B = (c E B).bind fun b E1 B1 => if b = true then h E1 B1 else .ok false E1 B1 := (rfl)
@[simp] theorem e_sIfW {h : Tw} : sIfW h s t E B = (h E B).bind fun b E1 B1 => if b = true then s E1 B1 else t E1 B1 := (rfl)
@[simp] theorem e_mYes : mYes E B = .ok true E B := (rfl)
@[simp] theorem e_mItV : mItV f E B = (f E B).bind fun r E1 B1 =>
  match settle r E1 with
  | some (u, E2) => match itemsOf u B1 with
    | some w => .ok w E2 B1
    | none => .bad
  | none => .bad := (rfl)
@[simp] theorem e_mRange1 : mRange1 fs E B = (fs E B).bind fun us E1 B1 =>
  match us with
  | [.int j] => if I62 j = true then .ok (intsU 0 j.toNat, yes) E1 B1 else .bad
  | _ => .bad := (rfl)
@[simp] theorem e_mRange2 : mRange2 fs E B = (fs E B).bind fun us E1 B1 =>
  match us with
  | [.int i, .int j] => if I62 i = true ∧ I62 j = true then .ok (intsU i (j - i).toNat, yes) E1 B1 else .bad
  | _ => .bad := (rfl)
@[simp] theorem e_mEnum : mEnum fs E B = (fs E B).bind fun us E1 B1 =>
  match us with
  | [.lst ws] => .ok (ws.mapIdx fun k u => .tup [.int (k : Nat), u], yes) E1 B1
  | _ => .bad := (rfl)
@[simp] theorem e_items_lst {us : List U} : itemsOf (.lst us) B = some (us, yes) := (rfl)
@[simp] theorem e_items_tup {us : List U} : itemsOf (.tup us) B = some (us, yes) := (rfl)
@[simp] theorem e_items_str {l : List Nat} : itemsOf (.str (ofC l)) B = some (l.map (fun c => .str (ofC [c])), yes) := (rfl)
@[simp] theorem e_items_scr {ns : List Int} : itemsOf (.scr ns) B = some (ns.map .int, yes) := (rfl)
theorem e_items_box {us : List U} (h : B[j]? = some (.lst us)) : itemsOf (.box j) B = some (us, fun B' => B'[j]? = some (.lst us)) := by
  simp only [itemsOf, h]
/-! ### views -/
@[simp] theorem e_view_w : view (.w u) E B = viewU u B := (rfl)
@[simp] theorem e_view_fr {k : Cell} : view (.fr k) E B = k.view := (rfl)
@[simp] theorem e_view_s : view (.s i) E B = match E[i]? with
    | some (.own c) => c.view
    | some (.val u) => viewU u B
    | _ => none := (rfl)
@[simp] theorem e_cv_lst {us : List U} : Cell.view (.lst us) = some (.lst us) := (rfl)
@[simp] theorem e_cv_dct {ks : List Key} {us : List U} : Cell.view (.dct ks us) = some (.dct ks us) := (rfl)
@[simp] theorem e_vu_non : viewU .non B = some .non := (rfl)
@[simp] theorem e_vu_bl {b : Bool} : viewU (.bl b) B = some (.bl b) := (rfl)
@[simp] theorem e_vu_int {k : Int} : viewU (.int k) B = some (.int k) := (rfl)
@[simp] theorem e_vu_str {x : Str} : viewU (.str x) B = some (.str x) := (rfl)
@[simp] theorem e_vu_lst {us : List U} : viewU (.lst us) B = some (.lst us) := (rfl)
@[simp] theorem e_vu_tup {us : List U} : viewU (.tup us) B = some (.tup us) := (rfl)
@[simp] theorem e_vu_dct {ks : List Key} {us : List U} : viewU (.dct ks us) B = some (.dct ks us) := (rfl)
@[simp] theorem e_vu_scr {ns : List Int} : viewU (.scr ns) B = some (.scr ns) := (rfl)
@[simp] theorem e_vu_box : viewU (.box j) B = (B[j]?).bind Cell.view := (rfl)
@[simp] theorem e_settle_w : settle (.w u) E = some (u, E) := (rfl)
@[simp] theorem e_settle_fr {k : Cell} : settle (.fr k) E = some (k.toU, E) := (rfl)
@[simp] theorem e_settle_s : settle (.s i) E = match E[i]? with
    | some (.own c) => some (c.toU, E.set i (.val c.toU))
    | some (.val u) => some (u, E)
    | _ => none := (rfl)
@[simp] theorem e_toU_lst {us : List U} : Cell.toU (.lst us) = .lst us := (rfl)
@[simp] theorem e_toU_dct {ks : List Key} {us : List U} : Cell.toU (.dct ks us) = .dct ks us := (rfl)
@[simp] theorem e_cellOf_box : cellOf (.w (.box j)) E B = B[j]? := (rfl)
@[simp] theorem e_cellOf_s : cellOf (.s i) E B = match E[i]? with
    | some (.own c) => some c
    | some (.val (.box j)) => B[j]?
    | _ => none := (rfl)
@[simp] theorem e_put_box {k : Cell} : put (.w (.box j)) E B k = (E, B.set j k) := (rfl)
@[simp] theorem e_put_s {k : Cell} : put (.s i) E B k = match E[i]? with
    | some (.own _) => (E.set i (.own k), B)
    | some (.val (.box j)) => (E, B.set j k)
    | _ => (E, B) := (rfl)
@[simp] theorem e_bdN {k : Nat} : bdN k u E = match E[k]? with
  | some (.own _) => none
  | some _ => some (E.set k (.val u))
  | none => none := (rfl)
@[simp] theorem e_bdT {bs : Bds} {us : List U} : bdT bs (.tup us) E = bs us E := (rfl)
@[simp] theorem e_bdCons {b : Bd} {bs : Bds} {us : List U} : bdCons b bs (u :: us) E = (b u E).bind fun E1 => bs us E1 := (rfl)
@[simp] theorem e_bdNil : bdNil [] E = some E := (rfl)
@[simp] theorem e_wipe0 : wipeE E [] = E := (rfl)
@[simp] theorem e_wipe1 {v : Nat} {vs : List Nat} : wipeE E (v :: vs) = (wipeE E vs).set v .un := (rfl)
@[simp] theorem e_keep0 {E1 : En} : keepE E1 E [] = E := (rfl)
@[simp] theorem e_keep1 {E1 : En} {v : Nat} {vs : List Nat} : keepE E1 E (v :: vs) = match E1[v]? with
    | some s => (keepE E1 E vs).set v s
    | none => keepE E1 E vs := (rfl)
@[simp] theorem e_noOwn0 : noOwn E [] = true := (rfl)
@[simp] theorem e_noOwn1 {v : Nat} {vs : List Nat} : noOwn E (v :: vs) = match E[v]? with
    | some (.own _) => false
    | none => false
    | _ => noOwn E vs := (rfl)
/-! ### what is said of values -/
@[simp] theorem e_tru_bl {b : Bool} : truU (.bl b) = some b := (rfl)
@[simp] theorem e_tru_non : truU .non = some false := (rfl)
@[simp] theorem e_tru_int {k : Int} : truU (.int k) = some (k != 0) := (rfl)
@[simp] theorem e_tru_lst {us : List U} : truU (.lst us) = some (!us.isEmpty) := (rfl)
@[simp] theorem e_tru_tup {us : List U} : truU (.tup us) = some (!us.isEmpty) := (rfl)
@[simp] theorem e_tru_scr {ns : List Int} : truU (.scr ns) = some (!ns.isEmpty) := (rfl)
@[simp] theorem e_tru_str {l : List Nat} : truU (.str (ofC l)) = if l.length ≤ 16777216 then some ((l.length : Int) != 0) else none := (rfl)
@[simp] theorem e_gII {C : Int → Int → Bool} {h : Int → Int → Int} {a b : Int} : gII C h (.int a) (.int b) = if C a b = true then some (.w (.int (h a b))) else none := (rfl)
@[simp] theorem e_add_ii {a b : Int} : gAdd (.int a) (.int b) = some (.w (.int (a + b))) := (rfl)
@[simp] theorem e_add_ss {a b : Str} : gAdd (.str a) (.str b) = if a.length + b.length ≤ 16777216 then some (.w (.str (a ++ b))) else none := by
  simp [gAdd, gII, gCatS, gCatL, gCatT]
@[simp] theorem e_add_ll {a b : List U} : gAdd (.lst a) (.lst b) = if a.length + b.length ≤ 16777216 then some (.fr (.lst (a ++ b))) else none := by
  simp [gAdd, gII, gCatS, gCatL, gCatT]
@[simp] theorem e_add_tt {a b : List U} : gAdd (.tup a) (.tup b) = if a.length + b.length ≤ 16777216 then some (.w (.tup (a ++ b))) else none := by
  simp [gAdd, gII, gCatS, gCatL, gCatT]
@[simp] theorem e_iadd_ii {a b : Int} : gIAdd (.int a) (.int b) = some (.w (.int (a + b))) := (rfl)
@[simp] theorem e_iadd_ss {a b : Str} : gIAdd (.str a) (.str b) = if a.length + b.length ≤ 16777216 then some (.w (.str (a ++ b))) else none := by
  simp [gIAdd, gII, gCatS]
@[simp] theorem e_sub {a b : Int} : gSub (.int a) (.int b) = some (.w (.int (a - b))) := (rfl)
@[simp] theorem e_mul {a b : Int} : gMul (.int a) (.int b) = if cMul a b = true then some (.w (.int (a * b))) else none := by
  simp [gMul, gII, gRep]
@[simp] theorem e_mulL {a : List U} {b : Int} : gMul (.lst a) (.int b) = gRep (.lst a) (.int b) := (rfl)
@[simp] theorem e_lt_ii {a b : Int} : gLt (.int a) (.int b) = some (.w (.bl (decide (a < b)))) := (rfl)
@[simp] theorem e_le_ii {a b : Int} : gLe (.int a) (.int b) = some (.w (.bl (decide (a ≤ b)))) := (rfl)
@[simp] theorem e_gt_ii {a b : Int} : gGt (.int a) (.int b) = some (.w (.bl (decide (b < a)))) := (rfl)
@[simp] theorem e_ge_ii {a b : Int} : gGe (.int a) (.int b) = some (.w (.bl (decide (b ≤ a)))) := (rfl)
@[simp] theorem e_lt_ss {a b : List Nat} : gLt (.str (ofC a)) (.str (ofC b)) = some (.w (.bl (decide (a < b)))) := (rfl)
@[simp] theorem e_le_ss {a b : List Nat} : gLe (.str (ofC a)) (.str (ofC b)) = some (.w (.bl (!decide (b < a)))) := (rfl)
@[simp] theorem e_gt_ss {a b : List Nat} : gGt (.str (ofC a)) (.str (ofC b)) = some (.w (.bl (decide (b < a)))) := (rfl)
@[simp] theorem e_ge_ss {a b : List Nat} : gGe (.str (ofC a)) (.str (ofC b)) = some (.w (.bl (!decide (a < b)))) := (rfl)
@[simp] theorem e_len_lst {us : List U} : gLen (.lst us) = some (.w (.int us.length)) := (rfl)
@[simp] theorem e_len_tup {us : List U} : gLen (.tup us) = some (.w (.int us.length)) := (rfl)
@[simp] theorem e_len_scr {ns : List Int} : gLen (.scr ns) = some (.w (.int ns.length)) := (rfl)
@[simp] theorem e_len_str {l : List Nat} : gLen (.str (ofC l)) = if l.length ≤ 16777216 then some (.w (.int l.length)) else none := (rfl)
@[simp] theorem e_abs {a : Int} : gAbs (.int a) = some (.w (.int (if a < 0 then -a else a))) := (rfl)
@[simp] theorem e_neg {a : Int} : gNeg (.int a) = some (.w (.int (-a))) := (rfl)
@[simp] theorem e_int_i {a : Int} : gInt (.int a) = some (.w (.int a)) := (rfl)
@[simp] theorem e_int_b {b : Bool} : gInt (.bl b) = some (.w (.int (if b then 1 else 0))) := (rfl)
@[simp] theorem e_lo_l {us : List U} : gListOf (.lst us) = some (.fr (.lst us)) := (rfl)
@[simp] theorem e_lo_t {us : List U} : gListOf (.tup us) = some (.fr (.lst us)) := (rfl)
@[simp] theorem e_to_l {us : List U} : gTupleOf (.lst us) = some (.w (.tup us)) := (rfl)
@[simp] theorem e_to_t {us : List U} : gTupleOf (.tup us) = some (.w (.tup us)) := (rfl)
theorem blsOf_map : ∀ bs : List Bool, blsOf (bs.map .bl) = some bs
  | [] => rfl
  | b :: bs => by simp [blsOf, blsOf_map bs]
@[simp] theorem e_any {bs : List Bool} : gAny (.lst (bs.map .bl)) = some (.w (.bl (bs.any id))) := by simp [gAny, blsOf_map]
@[simp] theorem e_all {bs : List Bool} : gAll (.lst (bs.map .bl)) = some (.w (.bl (bs.all id))) := by simp [gAll, blsOf_map]
theorem e_any' {α : Type} {l : List α} {p : α → Bool} : gAny (.lst (l.map fun x => .bl (p x))) = some (.w (.bl (l.any p))) := by
  have h : (l.map fun x => U.bl (p x)) = (l.map p).map .bl := by simp [Function.comp_def]
  rw [h, e_any]; simp [List.any_map]
theorem e_all' {α : Type} {l : List α} {p : α → Bool} : gAll (.lst (l.map fun x => .bl (p x))) = some (.w (.bl (l.all p))) := by
  have h : (l.map fun x => U.bl (p x)) = (l.map p).map .bl := by simp [Function.comp_def]
  rw [h, e_all]; simp [List.all_map]
@[simp] theorem e_max2 {a b : Int} : gMax2 [.int a, .int b] = some (.w (.int (if b > a then b else a))) := (rfl)
@[simp] theorem e_min2 {a b : Int} : gMin2 [.int a, .int b] = some (.w (.int (if b < a then b else a))) := (rfl)
@[simp] theorem e_ix_l {us : List U} {k : Int} : gIx (.lst us) (.int k) = (atI us k).map .w := (rfl)
@[simp] theorem e_ix_t {us : List U} {k : Int} : gIx (.tup us) (.int k) = (atI us k).map .w := (rfl)
@[simp] theorem e_ix_s {l : List Nat} {k : Int} : gIx (.str (ofC l)) (.int k) = if l.length ≤ 16777216 then (atI l k).map fun c => .w (.str (ofC [c])) else none := (rfl)
@[simp] theorem e_ix_scr {ns : List Int} {k : Int} : gIx (.scr ns) (.int k) = (atI ns k).map fun n => .w (.int n) := (rfl)
@[simp] theorem e_sl_l {us : List U} {lo hi : Option Int} : gSl (.lst us) lo hi = some (.fr (.lst (cutU us lo hi))) := (rfl)
@[simp] theorem e_sl_t {us : List U} {lo hi : Option Int} : gSl (.tup us) lo hi = some (.w (.tup (cutU us lo hi))) := (rfl)
@[simp] theorem e_eq {a b : U} : gEq a b = (eqU a b).map fun k => .w (.bl k) := (rfl)
@[simp] theorem e_ne {a b : U} : gNe a b = (eqU a b).map fun k => .w (.bl (!k)) := (rfl)
@[simp] theorem e_eq_ss {x y : Str} : eqU (.str x) (.str y) = some (x == y) := (rfl)
@[simp] theorem e_eq_ii {x y : Int} : eqU (.int x) (.int y) = some (x == y) := (rfl)
@[simp] theorem e_eq_ns {y : Str} : eqU .non (.str y) = some false := (rfl)
@[simp] theorem e_eq_sn {y : Str} : eqU (.str y) .non = some false := (rfl)
@[simp] theorem e_eq_si {x : Str} {y : Int} : eqU (.str x) (.int y) = some false := (rfl)
@[simp] theorem e_eq_is {x : Str} {y : Int} : eqU (.int y) (.str x) = some false := (rfl)
@[simp] theorem e_eq_bb {x y : Bool} : eqU (.bl x) (.bl y) = some (x == y) := by cases x <;> cases y <;> decide +kernel
theorem eqU_self {u : U} {d : PyData} (h : toD u = some d) (hs : SeqAt.shaped d = true) (hu : ∀ x, u ≠ .str x) : eqU u u = some true := by
  have e : (match toD u, toD u with
    | some d, some e => if (SeqAt.shaped d && SeqAt.shaped e) = true then some (PyData.eqv d e) else none
    | _, _ => none) = some true := by
    rw [h]
    simp only [hs, Bool.and_self, if_true]
    rw [SeqAt.eqv_refl d (SeqAt.canLay_of_shaped hs)]
  cases u with
  | str x => exact absurd rfl (hu x)
  | int x => simp
  | _ => exact e
@[simp] theorem e_is_non {b : Bool} {a : U} : gIs b a .non = some (.w (.bl (if b then !isNon a else isNon a))) := by cases a <;> rfl
@[simp] theorem e_is_bb {n : Bool} {a b : Bool} : gIs n (.bl a) (.bl b) = some (.w (.bl (if n then !decide (a = b) else decide (a = b)))) := (rfl)
@[simp] theorem e_isNon_non : isNon .non = true := (rfl)
@[simp] theorem e_isNon_int {k : Int} : isNon (.int k) = false := (rfl)
@[simp] theorem e_isNon_str {x : Str} : isNon (.str x) = false := (rfl)
@[simp] theorem e_isNon_bl {b : Bool} : isNon (.bl b) = false := (rfl)
@[simp] theorem e_isNon_lst {us : List U} : isNon (.lst us) = false := (rfl)
@[simp] theorem e_isNon_tup {us : List U} : isNon (.tup us) = false := (rfl)
@[simp] theorem e_isNon_box : isNon (.box j) = false := (rfl)
@[simp] theorem e_gIn {n : Bool} {a b : U} : gIn n a b = (inU a b).map fun k => .w (.bl (if n then !k else k)) := (rfl)
@[simp] theorem e_in_1 {k : Nat} {l : List Nat} : inU (.str (ofC [k])) (.str (ofC l)) = some (decide (k ∈ l)) := by
  show some (inStr _ _) = _
  unfold inStr
  rw [if_pos (by rfl)]
  rfl
@[simp] theorem e_flat_str {x : Str} : flatU (.str x) = some (.str x) := (rfl)
@[simp] theorem e_flat_int {k : Int} : flatU (.int k) = some (.int k) := (rfl)
@[simp] theorem e_flat_bl {b : Bool} : flatU (.bl b) = some (.bl b) := (rfl)
@[simp] theorem e_flat_non : flatU .non = some .non := (rfl)
/-! ### kinds -/
@[simp] theorem e_isi {T : String} : gIsi T u = (kindS u).bind fun s => (kitB s T).map fun k => .w (.bl k) := (rfl)
@[simp] theorem e_isiT {Ts : List String} : gIsiT Ts u = (kindS u).bind fun s => (isAny s Ts).map fun k => .w (.bl k) := (rfl)
@[simp] theorem e_isAny0 {s : String} : isAny s [] = some false := (rfl)
@[simp] theorem e_isAny1 {s T : String} {Ts : List String} : isAny s (T :: Ts) = (kitB s T).bind fun k => (isAny s Ts).map fun k' => k || k' := (rfl)
@[simp] theorem e_kind_non : kindS .non = some "NoneType" := (rfl)
@[simp] theorem e_kind_bl {b : Bool} : kindS (.bl b) = some "bool" := (rfl)
@[simp] theorem e_kind_int {k : Int} : kindS (.int k) = some "int" := (rfl)
@[simp] theorem e_kind_str {x : Str} : kindS (.str x) = some "str" := (rfl)
@[simp] theorem e_kind_lst {us : List U} : kindS (.lst us) = some "list" := (rfl)
@[simp] theorem e_kind_tup {us : List U} : kindS (.tup us) = some "tuple" := (rfl)
@[simp] theorem e_kind_dct {ks : List Key} {us : List U} : kindS (.dct ks us) = some "dict" := (rfl)
@[simp] theorem e_kind_scr {ns : List Int} : kindS (.scr ns) = some "list" := (rfl)
@[simp] theorem e_cMod {a b : Int} : cMod a b = decide (0 < b) := (rfl)
theorem cMul_l {a b : Int} (h : -9223372036854775808 ≤ a) (h2 : a ≤ 9223372036854775807) : cMul a b = true := cMul_iff.mpr (.inl ⟨h, h2⟩)
theorem cMul_r {a b : Int} (h : -9223372036854775808 ≤ b) (h2 : b ≤ 9223372036854775807) : cMul a b = true := cMul_iff.mpr (.inr (.inl ⟨h, h2⟩))
theorem cMul_b {a b : Int} (h : a.natAbs.log2 + b.natAbs.log2 < 1000000) : cMul a b = true := cMul_iff.mpr (.inr (.inr h))
theorem cDiv_p {a b : Int} (h : 0 < b) (h2 : b ≤ 99999999999999999999999999999999999999999999999999) : cDiv a b = true := cDiv_iff.mpr ⟨by omega, h⟩
theorem cPow_p {a b : Int} (h : 0 ≤ b) (h2 : b ≤ 1000000) (h3 : -9223372036854775808 ≤ a) (h4 : a ≤ 9223372036854775807) : cPow a b = true := cPow_iff.mpr ⟨by omega, h, h3, h4⟩
/-- written numbers -/
@[simp] theorem cMul_lit {a : Int} {k : Nat} (h : Nat.ble k 9223372036854775807 = true := by rfl) : cMul a (no_index (OfNat.ofNat k)) = true := by
  refine cMul_r (by have : (OfNat.ofNat k : Int) = (k : Int) := rfl; omega) (by
    have e : (OfNat.ofNat k : Int) = (k : Int) := rfl
    have := Nat.le_of_ble_eq_true h
    omega)
end
@[simp] theorem kit_NoneType_bool : kitB "NoneType" "bool" = some false := by decide +kernel
@[simp] theorem kit_NoneType_int : kitB "NoneType" "int" = some false := by decide +kernel
@[simp] theorem kit_NoneType_str : kitB "NoneType" "str" = some false := by decide +kernel
@[simp] theorem kit_NoneType_list : kitB "NoneType" "list" = some false := by decide +kernel
@[simp] theorem kit_NoneType_tuple : kitB "NoneType" "tuple" = some false := by decide +kernel
@[simp] theorem kit_NoneType_dict : kitB "NoneType" "dict" = some false := by decide +kernel
@[simp] theorem kit_bool_bool : kitB "bool" "bool" = some true := by decide +kernel
@[simp] theorem kit_bool_int : kitB "bool" "int" = some true := by decide +kernel
@[simp] theorem kit_bool_str : kitB "bool" "str" = some false := by decide +kernel
@[simp] theorem kit_bool_list : kitB "bool" "list" = some false := by decide +kernel
@[simp] theorem kit_bool_tuple : kitB "bool" "tuple" = some false := by decide +kernel
@[simp] theorem kit_bool_dict : kitB "bool" "dict" = some false := by decide +kernel
@[simp] theorem kit_int_bool : kitB "int" "bool" = some false := by decide +kernel
@[simp] theorem kit_int_int : kitB "int" "int" = some true := by decide +kernel
@[simp] theorem kit_int_str : kitB "int" "str" = some false := by decide +kernel
@[simp] theorem kit_int_list : kitB "int" "list" = some false := by decide +kernel
@[simp] theorem kit_int_tuple : kitB "int" "tuple" = some false := by decide +kernel
@[simp] theorem kit_int_dict : kitB "int" "dict" = some false := by decide +kernel
@[simp] theorem kit_str_bool : kitB "str" "bool" = some false := by decide +kernel
@[simp] theorem kit_str_int : kitB "str" "int" = some false := by decide +kernel
@[simp] theorem kit_str_str : kitB "str" "str" = some true := by decide +kernel
@[simp] theorem kit_str_list : kitB "str" "list" = some false := by decide +kernel
@[simp] theorem kit_str_tuple : kitB "str" "tuple" = some false := by decide +kernel
@[simp] theorem kit_str_dict : kitB "str" "dict" = some false := by decide +kernel
@[simp] theorem kit_list_bool : kitB "list" "bool" = some false := by decide +kernel
@[simp] theorem kit_list_int : kitB "list" "int" = some false := by decide +kernel
@[simp] theorem kit_list_str : kitB "list" "str" = some false := by decide +kernel
@[simp] theorem kit_list_list : kitB "list" "list" = some true := by decide +kernel
@[simp] theorem kit_list_tuple : kitB "list" "tuple" = some false := by decide +kernel
@[simp] theorem kit_list_dict : kitB "list" "dict" = some false := by decide +kernel
@[simp] theorem kit_tuple_bool : kitB "tuple" "bool" = some false := by decide +kernel
@[simp] theorem kit_tuple_int : kitB "tuple" "int" = some false := by decide +kernel
@[simp] theorem kit_tuple_str : kitB "tuple" "str" = some false := by decide +kernel
@[simp] theorem kit_tuple_list : kitB "tuple" "list" = some false := by decide +kernel
@[simp] theorem kit_tuple_tuple : kitB "tuple" "tuple" = some true := by decide +kernel
@[simp] theorem kit_tuple_dict : kitB "tuple" "dict" = some false := by decide +kernel
@[simp] theorem kit_dict_bool : kitB "dict" "bool" = some false := by decide +kernel
@[simp] theorem kit_dict_int : kitB "dict" "int" = some false := by decide +kernel
@[simp] theorem kit_dict_str : kitB "dict" "str" = some false := by decide +kernel
@[simp] theorem kit_dict_list : kitB "dict" "list" = some false := by decide +kernel
@[simp] theorem kit_dict_tuple : kitB "dict" "tuple" = some false := by decide +kernel
@[simp] theorem kit_dict_dict : kitB "dict" "dict" = some true := by decide +kernel
end QB
/-! QbP: the purse and its coins, alike in every law. -/
namespace QB
open PySem L2
def purseB : Sm := sSeq (sSet 2 (mIf (toT (m2 gLt (mVar 1) (m1 gLen (mVar 0)))) (m2 gIx (mVar 0) (mVar 1)) (mC (.int 0)))) (sRet (mBox (mLst (mCons (mB gMax2 (mCons (mC (.int 0)) (mCons (m2 gSub (m1 gAbs (mVar 2)) (m2 (gII cPow fun i j => i ^ j.toNat) (mC (.int 10)) (mC (.int 18)))) (mNil)))) (mCons (m2 (gII cMod (· % ·)) (m1 gInt (m2 gAdd (m2 gAdd (m2 gMul (mVar 2) (mC (.int 2654435761))) (m2 gMul (mVar 1) (mC (.int 40503)))) (mC (.int 977)))) (m2 gAdd (m2 (gII cPow fun i j => i ^ j.toNat) (mC (.int 10)) (mC (.int 24))) (mC (.int 7)))) (mCons (mC (.int 0)) (mNil)))))))
def coinB : Sm := sSeq (sIf (toT (m2 gGt (m2 gIx (mVar 0) (mC (.int 0))) (mC (.int 0)))) (sSeq (sSet 2 (m2 (gII cMod (· % ·)) (m1 gInt (m2 gIx (mVar 0) (mC (.int 0)))) (mVar 1))) (sSeq (sStore (m2 (gII cDiv (· / ·)) (m2 gIx (mVar 0) (mC (.int 0))) (mVar 1)) (mVar 0) (mC (.int 0))) (sRet (mVar 2)))) (sNext)) (sSeq (sStore (m2 gAdd (m2 gIx (mVar 0) (mC (.int 2))) (mC (.int 1))) (mVar 0) (mC (.int 2))) (sSeq (sSet 3 (m2 gAdd (m2 gIx (mVar 0) (mC (.int 1))) (m2 gMul (mC (.int 362437)) (m2 gIx (mVar 0) (mC (.int 2)))))) (sSeq (sSet 3 (m2 (gII cMod (· % ·)) (m1 gInt (m2 gAdd (m2 gMul (mVar 3) (mVar 3)) (m2 gIx (mVar 0) (mC (.int 2))))) (m2 gAdd (m2 (gII cPow fun i j => i ^ j.toNat) (mC (.int 10)) (mC (.int 25))) (mC (.int 13))))) (sSeq (sSet 3 (m2 (gII cMod (· % ·)) (m1 gInt (m2 gAdd (m2 gMul (m2 gMul (mVar 3) (mVar 3)) (mC (.int 5))) (mVar 3))) (m2 gAdd (m2 (gII cPow fun i j => i ^ j.toNat) (mC (.int 10)) (mC (.int 23))) (mC (.int 117))))) (sRet (m2 (gII cMod (· % ·)) (m1 gInt (m2 (gII cDiv (· / ·)) (mVar 3) (mC (.int 1000)))) (mVar 1)))))))
theorem run_rt {N n : Nat} {f : Sm} {us : List U} {u : U} {B B' : Bx} {E' : En} (hl : us.length = n) (h : f (us.map .val ++ List.replicate (N - us.length) .un) B = .ok (.rt u) E' B') : runBody N n f us B = .ok u B' := by
  unfold runBody
  rw [if_pos hl, h]
theorem run_nx {N n : Nat} {f : Sm} {us : List U} {B B' : Bx} {E' : En} (hl : us.length = n) (h : f (us.map .val ++ List.replicate (N - us.length) .un) B = .ok .nx E' B') : runBody N n f us B = .ok .non B' := by
  unfold runBody
  rw [if_pos hl, h]
theorem seq_nx {s t : Sm} {E E1 : En} {B B1 : Bx} (h : s E B = .ok .nx E1 B1) : sSeq s t E B = t E1 B1 := by
  unfold sSeq
  rw [h, O.bind_ok]
theorem seq_rt {s t : Sm} {E E1 : En} {B B1 : Bx} {u : U} (h : s E B = .ok (.rt u) E1 B1) : sSeq s t E B = .ok (.rt u) E1 B1 := by
  unfold sSeq
  rw [h, O.bind_ok]
/-- the i-th shared cell is a purse from which n coins can still be taken -/
def Purse (B : Bx) (i n : Nat) : Prop := ∃ a b t : Int, B[i]? = some (.lst [.int a, .int b, .int t]) ∧ 0 ≤ b ∧ b < 10 ^ 25 ∧ 0 ≤ t ∧ t + n ≤ 2 ^ 40
theorem Purse.lt {B : Bx} {i n : Nat} (h : Purse B i n) : i < B.length := by
  obtain ⟨a, b, t, h, _⟩ := h
  exact (List.getElem?_eq_some_iff.mp h).1
theorem Purse.le {B : Bx} {i n m : Nat} (h : Purse B i n) (hm : m ≤ n) : Purse B i m := by
  obtain ⟨a, b, t, h, h1, h2, h3, h4⟩ := h
  exact ⟨a, b, t, h, h1, h2, h3, by omega⟩
theorem Purse.set {B : Bx} {i j n : Nat} {c : Cell} (h : Purse B i n) (hj : j ≠ i) : Purse (B.set j c) i n := by
  obtain ⟨a, b, t, h, h1⟩ := h
  exact ⟨a, b, t, by rw [List.getElem?_set_ne hj]; exact h, h1⟩
theorem Purse.app {B C : Bx} {i n : Nat} (h : Purse B i n) : Purse (B ++ C) i n := by
  have := h.lt
  obtain ⟨a, b, t, h, h1⟩ := h
  exact ⟨a, b, t, by rw [List.getElem?_append_left this]; exact h, h1⟩
def coinF : Fn := runBody 4 2 coinB
def purseF : Fn := runBody 3 2 purseB
theorem ix3_0 : ixN 3 0 = some 0 := rfl
theorem ix3_2 : ixN 3 2 = some 2 := rfl
theorem coin_ok {B : Bx} {i n : Nat} {many : Int} (h : Purse B i (n + 1)) (h0 : 0 < many := by decide) (hm : many ≤ 1000000000 := by decide) :
    ∃ (v : Int) (c : Cell), 0 ≤ v ∧ v < many ∧ coinF [.box i, .int many] B = .ok (.int v) (B.set i c) ∧ Purse (B.set i c) i n := by
  have hi := h.lt
  obtain ⟨a, b, t, h, h1, h2, h3, h4⟩ := h
  by_cases ha : 0 < a
  · refine ⟨a % many, .lst [.int (a / many), .int b, .int t], Int.emod_nonneg _ (by omega), Int.emod_lt_of_pos _ h0, ?_, _, _, _, List.getElem?_set_self hi, h1, h2, h3, by omega⟩
    have d0 : cDiv a many = true := cDiv_p h0 (by omega)
    simp [coinF, runBody, coinB, h, ha, h0, d0, ix3_0]
  · have m1 : -(2 ^ 64) < t + 1 ∧ t + 1 < 2 ^ 64 := by omega
    have q0 : ∀ x y : Int, 0 < y → 0 ≤ x % y ∧ x % y < y := fun x y hy => ⟨Int.emod_nonneg _ (by omega), Int.emod_lt_of_pos _ hy⟩
    have l0 : ∀ x y : Int, 0 ≤ x → x < 10 ^ 40 → 0 ≤ y → y < 10 ^ 40 → x.natAbs.log2 + y.natAbs.log2 < 1000000 := by
      intro x y a1 a2 a3 a4
      have u1 : x.natAbs.log2 < 200 := by
        rcases Nat.eq_zero_or_pos x.natAbs with z | z
        · rw [z]; decide
        · rw [Nat.log2_lt (by omega)]
          have : x.natAbs < 10 ^ 40 := by omega
          exact Nat.lt_trans this (by decide)
      have u2 : y.natAbs.log2 < 200 := by
        rcases Nat.eq_zero_or_pos y.natAbs with z | z
        · rw [z]; decide
        · rw [Nat.log2_lt (by omega)]
          have : y.natAbs < 10 ^ 40 := by omega
          exact Nat.lt_trans this (by decide)
      omega
    have s0 : 0 ≤ b + 362437 * (t + 1) ∧ b + 362437 * (t + 1) < 10 ^ 40 := by omega
    generalize e0 : b + 362437 * (t + 1) = x0 at s0
    have c0 := l0 x0 x0 s0.1 s0.2 s0.1 s0.2
    have s1 := q0 (x0 * x0 + (t + 1)) (10 ^ 25 + 13) (by decide)
    generalize e1 : (x0 * x0 + (t + 1)) % (10 ^ 25 + 13) = x1 at s1
    have c1 := l0 x1 x1 s1.1 (by omega) s1.1 (by omega)
    have s2 := q0 (x1 * x1 * 5 + x1) (10 ^ 23 + 117) (by decide)
    generalize e2 : (x1 * x1 * 5 + x1) % (10 ^ 23 + 117) = x2 at s2
    refine ⟨x2 / 1000 % many, .lst [.int a, .int b, .int (t + 1)], Int.emod_nonneg _ (by omega), Int.emod_lt_of_pos _ h0, ?_, _, _, _, List.getElem?_set_self hi, h1, h2, by omega, by omega⟩
    have e1' : (x0 * x0 + (t + 1)) % 10000000000000000000000013 = x1 := e1
    have e2' : (x1 * x1 * 5 + x1) % 100000000000000000000117 = x2 := e2
    have gs : ∀ c : Cell, (B.set i c)[i]? = some c := fun c => List.getElem?_set_self hi
    have k1 : cMul 362437 (t + 1) = true := cMul_l (by decide) (by decide)
    have k2 : cMul x0 x0 = true := cMul_b c0
    have k3 : cMul x1 x1 = true := cMul_b c1
    have k4 : cMul (x1 * x1) 5 = true := cMul_r (by decide) (by decide)
    have k5 : cPow 10 25 = true := by decide
    have k6 : cPow 10 23 = true := by decide
    have k7 : cDiv x2 1000 = true := cDiv_p (by decide) (by decide)
    simp [coinF, runBody, coinB, h, ha, h0, ix3_2, gs, e0, e1', e2', k1, k2, k3, k4, k5, k6, k7]
def px (z : Int) : Int := if 0 < (if z < 0 then -z else z) - 1000000000000000000 then (if z < 0 then -z else z) - 1000000000000000000 else 0
theorem purse_1 (z : Int) {E : En} {B : Bx} (h : E[2]? = some (.val (.int z))) : (mB gMax2 (mCons (mC (.int 0)) (mCons (m2 gSub (m1 gAbs (mVar 2)) (m2 (gII cPow fun i j => i ^ j.toNat) (mC (.int 10)) (mC (.int 18)))) (mNil)))) E B = .ok (.w (.int (px z))) E B := by
  have k5 : cPow 10 18 = true := by decide
  simp [px, h, k5]
theorem purse_2 (z : Int) (k : Int) {E : En} {B : Bx} (h : E[2]? = some (.val (.int z))) (h1 : E[1]? = some (.val (.int k))) : (m2 (gII cMod (· % ·)) (m1 gInt (m2 gAdd (m2 gAdd (m2 gMul (mVar 2) (mC (.int 2654435761))) (m2 gMul (mVar 1) (mC (.int 40503)))) (mC (.int 977)))) (m2 gAdd (m2 (gII cPow fun i j => i ^ j.toNat) (mC (.int 10)) (mC (.int 24))) (mC (.int 7)))) E B = .ok (.w (.int ((z * 2654435761 + k * 40503 + 977) % 1000000000000000000000007))) E B := by
  have k1 : cMul z 2654435761 = true := cMul_r (by decide) (by decide)
  have k2 : cMul k 40503 = true := cMul_r (by decide) (by decide)
  have k5 : cPow 10 24 = true := by decide
  simp [h, h1, k1, k2, k5]
theorem mB_eq {g : List U → Option R} {fs : Ar} {E : En} {B : Bx} : mB g fs E B = (fs E B).bind fun us E1 B1 =>
  match g us with
  | some r => .ok r E1 B1
  | none => .bad := rfl
theorem purse_3 (z k : Int) {u : U} {B : Bx} : ∃ a b : Int, 0 ≤ b ∧ b < 10 ^ 25 ∧ (sRet (mBox (mLst (mCons (mB gMax2 (mCons (mC (.int 0)) (mCons (m2 gSub (m1 gAbs (mVar 2)) (m2 (gII cPow fun i j => i ^ j.toNat) (mC (.int 10)) (mC (.int 18)))) (mNil)))) (mCons (m2 (gII cMod (· % ·)) (m1 gInt (m2 gAdd (m2 gAdd (m2 gMul (mVar 2) (mC (.int 2654435761))) (m2 gMul (mVar 1) (mC (.int 40503)))) (mC (.int 977)))) (m2 gAdd (m2 (gII cPow fun i j => i ^ j.toNat) (mC (.int 10)) (mC (.int 24))) (mC (.int 7)))) (mCons (mC (.int 0)) (mNil)))))))
    [.val u, .val (.int k), .val (.int z)] B = .ok (.rt (.box B.length)) [.val u, .val (.int k), .val (.int z)] (B ++ [.lst [.int a, .int b, .int 0]]) := by
  have q := Int.emod_nonneg (z * 2654435761 + k * 40503 + 977) (show (1000000000000000000000007 : Int) ≠ 0 by decide)
  have q2 := Int.emod_lt_of_pos (z * 2654435761 + k * 40503 + 977) (show (0 : Int) < 1000000000000000000000007 by decide)
  refine ⟨px z, (z * 2654435761 + k * 40503 + 977) % 1000000000000000000000007, q, by omega, ?_⟩
  have h1 := purse_1 z (E := [.val u, .val (.int k), .val (.int z)]) (B := B) rfl
  have h2 := purse_2 z k (E := [.val u, .val (.int k), .val (.int z)]) (B := B) rfl rfl
  simp only [e_sRet, e_mBox, e_mLst, e_mCons (f := mB _ _), h1, O.bind_ok, e_settle_w]
  rw [e_mCons, h2]
  simp
theorem purse_ok {B : Bx} {ns : List Int} {k : Nat} : ∃ c : Cell, purseF [.scr ns, .int k] B = .ok (.box B.length) (B ++ [c]) ∧ Purse (B ++ [c]) B.length (2 ^ 39) := by
  have s1 : ∃ z : Int, (sSet 2 (mIf (toT (m2 gLt (mVar 1) (m1 gLen (mVar 0)))) (m2 gIx (mVar 0) (mVar 1)) (mC (.int 0)))) [.val (.scr ns), .val (.int k), .un] B = .ok .nx [.val (.scr ns), .val (.int k), .val (.int z)] B := by
    by_cases hk : k < ns.length
    · refine ⟨ns[k], ?_⟩
      have hk' : (k : Int) < ns.length := by omega
      simp [hk, hk']
    · refine ⟨0, ?_⟩
      have hk' : ¬ (k : Int) < ns.length := by omega
      simp [hk, hk']
  obtain ⟨z, s1⟩ := s1
  obtain ⟨a, b, h1, h2, s2⟩ := purse_3 z k (u := .scr ns) (B := B)
  refine ⟨.lst [.int a, .int b, .int 0], ?_, a, b, 0, by simp, h1, h2, by omega, by omega⟩
  refine run_rt rfl (E' := [.val (.scr ns), .val (.int k), .val (.int z)]) ?_
  exact (seq_nx s1).trans s2
end QB
/-! QbQ: texts: joined, cut, sought in. -/
namespace QB
open PySem L2
open PySem.StrLaws (occBody occ_eq subAt_one)
theorem sjoin0 : ∀ ls : List (List Nat), Str.join (ofC []) (ls.map ofC) = ofC ls.flatten
  | [] => rfl
  | [l] => by simp [Str.join]
  | l :: m :: r => by
    have ih := sjoin0 (m :: r)
    simp only [List.map_cons, Str.join] at ih ⊢
    rw [ih]
    simp
theorem join0 (ls : List (List Nat)) : Txt.join (ofC []) (ls.map ofC) = ofC ls.flatten := by
  show Builtin.Str.glued _ _ = _
  rw [StrLaws.glued_eq_join, sjoin0]
theorem strsOf_map : ∀ ls : List (List Nat), strsOf (ls.map fun l => .str (ofC l)) = some (ls.map ofC)
  | [] => rfl
  | l :: ls => by simp [strsOf, strsOf_map ls]
theorem e_join {ls : List (List Nat)} : gJoin (.str (ofC [])) [.lst (ls.map fun l => .str (ofC l))] = if ls.flatten.length ≤ 16777216 then some (.w (.str (ofC ls.flatten))) else none := by
  have e : (List.map (fun x => x.length) (ls.map ofC)).sum = ls.flatten.length := by
    simp [List.length_flatten, Function.comp_def]
  simp only [gJoin, strsOf_map, join0, ofC_len, List.length_nil, Nat.mul_zero, Nat.add_zero, e]
theorem cutS_ij {l : List Nat} {i j : Int} {a b : Nat} (h1 : i = (a : Int)) (h2 : j = (b : Int)) : cutS (ofC l) (some i) (some j) = ofC ((l.drop a).take (b - a)) := by
  unfold cutS
  rw [h1, h2, ofC_len, ofC_cps, HT.sIx_nat, HT.sIx_nat, drop_min, take_min2]
  rfl
theorem e_sl_s {l : List Nat} {lo hi : Option Int} (h : l.length ≤ 16777216) : gSl (.str (ofC l)) lo hi = some (.w (.str (cutS (ofC l) lo hi))) := by
  show (if (ofC l).length ≤ 16777216 then _ else _) = _
  rw [ofC_len, if_pos h]
/-- the first place of a sign, counted on from i -/
def idx (c : Nat) : List Nat → Nat → Option Nat
  | [], _ => none
  | a :: r, i => if a = c then some i else idx c r (i + 1)
theorem occ_stays (s sub : Str) (hi : Nat) : ∀ (l : List Nat) (st : Array Nat × Nat), st.fst.size = 1 → (forIn l st (occBody s sub hi 1)).run.fst = st.fst
  | [], st, h => rfl
  | a :: l, st, h => by
    rw [List.forIn_cons]
    unfold occBody
    rw [if_neg (fun z => by have := z.1.1.1; omega)]
    exact occ_stays s sub hi l _ h
theorem occ_go (l : List Nat) (c : Nat) : ∀ (n i free : Nat), i + n = l.length + 1 → free ≤ i →
    (forIn (List.range' i n) ((#[] : Array Nat), free) (occBody (ofC l) ⟨#[c]⟩ l.length 1)).run.fst.toList = (idx c (l.drop i) i).toList
  | 0, i, free, h, hf => by
    rw [List.drop_eq_nil_of_le (by omega)]
    rfl
  | n + 1, i, free, h, hf => by
    rw [List.range'_succ, List.forIn_cons]
    have key := subAt_one (ofC l) c i
    rw [ofC_len, ofC_cps] at key
    by_cases hc : l[i]? = some c
    · have k2 := key.mpr hc
      have hlt : i < l.length := (List.getElem?_eq_some_iff.mp hc).1
      have e : (occBody (ofC l) ⟨#[c]⟩ l.length 1 i ((#[] : Array Nat), free)) = pure (ForInStep.yield ((#[] : Array Nat).push i, i + (⟨#[c]⟩ : Str).length)) := by
        unfold occBody
        rw [if_pos ⟨⟨⟨by simp, hf⟩, k2.1⟩, k2.2⟩]
      rw [e]
      show (forIn (List.range' (i + 1) n) ((#[] : Array Nat).push i, i + (⟨#[c]⟩ : Str).length) (occBody (ofC l) ⟨#[c]⟩ l.length 1)).run.fst.toList = _
      rw [occ_stays _ _ _ _ _ (by simp), List.drop_eq_getElem_cons hlt, idx, if_pos ((List.getElem?_eq_some_iff.mp hc).2)]
      simp
    · have e : (occBody (ofC l) ⟨#[c]⟩ l.length 1 i ((#[] : Array Nat), free)) = pure (ForInStep.yield ((#[] : Array Nat), free)) := by
        unfold occBody
        rw [if_neg (fun z => hc (key.mp ⟨z.1.2, z.2⟩))]
      rw [e]
      show (forIn (List.range' (i + 1) n) ((#[] : Array Nat), free) (occBody (ofC l) ⟨#[c]⟩ l.length 1)).run.fst.toList = _
      rw [occ_go l c n (i + 1) free (by omega) (by omega)]
      by_cases hlt : i < l.length
      · rw [List.drop_eq_getElem_cons hlt, idx, if_neg (fun z => hc (by rw [List.getElem?_eq_getElem hlt, z]))]
      · rw [List.drop_eq_nil_of_le (by omega : l.length ≤ i), List.drop_eq_nil_of_le (by omega)]; rfl
theorem occ_one (l : List Nat) (c k : Nat) : Builtin.Str.occurrences (ofC l) (ofC [c]) k l.length 1 = (idx c (l.drop k) k).toList := by
  rw [occ_eq]
  by_cases h : k ≤ l.length
  · exact occ_go l c (l.length + 1 - k) k k (by omega) (Nat.le_refl _)
  · rw [show l.length + 1 - k = 0 from by omega, List.drop_eq_nil_of_le (by omega)]
    rfl
def optI : Option Nat → Int
  | some k => k
  | none => -1
theorem find3_one (l : List Nat) (c : Nat) {i : Int} {k : Nat} (h : i = (k : Int)) : Txt.find3 (ofC l) (ofC [c]) i = optI (idx c (l.drop k) k) := by
  unfold Txt.find3
  have e : PySem.fromIndex (ofC l).length i = k := by
    unfold PySem.fromIndex
    rw [h, if_neg (by omega)]
    omega
  rw [e, ofC_len, occ_one]
  cases idx c (l.drop k) k <;> rfl
end QB
/-! QbR: == and != of trees that hold shared lists. -/
namespace QB
open PySem L2
def mapO (f : U → Option PyData) : List U → Option (List PyData)
  | [] => some []
  | u :: us => match f u, mapO f us with
    | some d, some ds => some (d :: ds)
    | _, _ => none
def toDB (B : Bx) : Nat → U → Option PyData
  | 0 => fun _ => none
  | n + 1 => fun u => match u with
    | .non => some .none
    | .bl b => some (.bool b)
    | .int i => some (.int i)
    | .str x => some (.str x)
    | .lst us => (mapO (toDB B n) us).map .list
    | .tup us => (mapO (toDB B n) us).map .tuple
    | .box i => match B[i]? with
      | some (.lst us) => (mapO (toDB B n) us).map .list
      | _ => none
    | _ => none
theorem mapO_dp {K : PySem.W.Frag} {H : Hp} {Lv : AS} {ρ : List Addr} {f : U → Option PyData} (hf : ∀ u v d, Rep K H Lv ρ u v → f u = some d → Dp K H v d) : ∀ (us : List U) (vs : List V) (ds : List PyData), Reps K H Lv ρ us vs → mapO f us = some ds → DpAll K H vs ds
  | [], vs, ds, h, e => by
    simp only [Reps] at h
    subst h
    simp only [mapO, Option.some.injEq] at e
    subst e
    exact .nil
  | u :: us, vs, ds, h, e => by
    simp only [Reps] at h
    obtain ⟨v, r, rfl, h1, h2⟩ := h
    simp only [mapO] at e
    split at e
    · next d ds' e1 e2 =>
      cases e
      exact .cons (hf u v d h1 e1) (mapO_dp hf us r ds' h2 e2)
    · cases e
theorem toDB_dp {K : PySem.W.Frag} {F : Fm} {ρ : List Addr} {E : En} {B : Bx} {σ : L2.St} {H : Hp} (rl : Rel K F ρ E B σ H) : ∀ (n : Nat) (u : U) (v : V) (d : PyData), Rep K H (LvF F ρ E B σ) ρ u v → toDB B n u = some d → Dp K H v d
  | 0, u, v, d, h, e => by simp [toDB] at e
  | n + 1, u, v, d, h, e => by
    have ih := mapO_dp (toDB_dp rl n)
    cases u with
    | non => exact Rep.dp _ _ _ h (by simpa [toDB, toD] using e)
    | bl b => exact Rep.dp _ _ _ h (by simpa [toDB, toD] using e)
    | int i => exact Rep.dp _ _ _ h (by simpa [toDB, toD] using e)
    | str x => exact Rep.dp _ _ _ h (by simpa [toDB, toD] using e)
    | lst us =>
      simp only [Rep] at h
      obtain ⟨p, vs, rfl, ⟨h1, _⟩, h2⟩ := h
      simp only [toDB, Option.map_eq_some_iff] at e
      obtain ⟨ds, e1, rfl⟩ := e
      exact .lst (.inl (.inl h1)) (ih us vs ds h2 e1)
    | tup us =>
      simp only [Rep] at h
      obtain ⟨p, vs, rfl, h1, h2⟩ := h
      simp only [toDB, Option.map_eq_some_iff] at e
      obtain ⟨ds, e1, rfl⟩ := e
      exact .tup (sqT_of h1) (ih us vs ds h2 e1)
    | box i =>
      simp only [Rep] at h
      obtain ⟨p, hp, rfl⟩ := h
      simp only [toDB] at e
      split at e
      · next us hb =>
        simp only [Option.map_eq_some_iff] at e
        obtain ⟨ds, e1, rfl⟩ := e
        obtain ⟨⟨vs, h1, h2⟩, _⟩ := rl.box i _ p hb rfl hp
        exact .lst (.inl (.inl h1)) (ih us vs ds h2 e1)
      · cases e
    | dct _ _ => simp [toDB] at e
    | scr _ => simp [toDB] at e
theorem toDB_top {K : PySem.W.Frag} {F : Fm} {ρ : List Addr} {E : En} {B : Bx} {σ : L2.St} {H : Hp} (rl : Rel K F ρ E B σ H) {n : Nat} {u : U} {v : V} {d : PyData} (t : Top K H (LvF F ρ E B σ) ρ u v) (e : toDB B n u = some d) : Dp K H v d := by
  cases n with
  | zero => simp [toDB] at e
  | succ n =>
    have ih := mapO_dp (toDB_dp rl n)
    cases u with
    | lst us =>
      obtain ⟨p, vs, rfl, h1, h2⟩ := t
      simp only [toDB, Option.map_eq_some_iff] at e
      obtain ⟨ds, e1, rfl⟩ := e
      exact .lst (.inl (.inl h1)) (ih us vs ds h2 e1)
    | tup us =>
      obtain ⟨p, vs, rfl, h1, h2⟩ := t
      simp only [toDB, Option.map_eq_some_iff] at e
      obtain ⟨ds, e1, rfl⟩ := e
      exact .tup (sqT_of h1) (ih us vs ds h2 e1)
    | box i => exact t.elim
    | non => exact toDB_dp rl (n + 1) _ _ _ t e
    | bl _ => exact toDB_dp rl (n + 1) _ _ _ t e
    | int _ => exact toDB_dp rl (n + 1) _ _ _ t e
    | str _ => exact toDB_dp rl (n + 1) _ _ _ t e
    | dct _ _ => simp [toDB] at e
    | scr _ => simp [toDB] at e
def eqB (B : Bx) (a b : U) : Option Bool := match toDB B 8 a, toDB B 8 b with
  | some d, some e => if (SeqAt.shaped d && SeqAt.shaped e) = true then some (PyData.eqv d e) else none
  | _, _ => none
def gEqB (B : Bx) (a b : U) : Option R := (eqB B a b).map fun k => .w (.bl k)
def gNeB (B : Bx) (a b : U) : Option R := (eqB B a b).map fun k => .w (.bl (!k))
def Op2SB (X : Cx) (op : Value → Value → Sem Value) (g : Bx → U → U → Option R) : Prop :=
  ∃ r : R2, OpR X op r ∧ ∀ F ρ E B σ H u1 u2 v1 v2 r3 Q, Rel X.K F ρ E B σ H → Top X.K H (LvF F ρ E B σ) ρ u1 v1 → Top X.K H (LvF F ρ E B σ) ρ u2 v2 → g B u1 u2 = some r3 →
    (∀ H' v, Aft X.K F ρ E B σ H r3 ρ E B H' v → Q v H') → r v1 v2 H Q
def m2B (g : Bx → U → U → Option R) (fa fb : Ex) : Ex := fun E B =>
  (fa E B).bind fun r1 E1 B1 => (fb E1 B1).bind fun r2 E2 B2 =>
    match view r1 E2 B2, view r2 E2 B2 with
    | some u1, some u2 => match g B2 u1 u2 with
      | some r => .ok r E2 B2
      | none => .bad
    | _, _ => .bad
section
variable {X : Cx} {a b : Expr} {fa fb : Ex} {pos : Pos}
theorem op2B_eq (hu : X.A.units + 64 < cLine) : Op2SB X (compareOp .Eq) gEqB := by
  refine ⟨_, op_eqD hu, fun F ρ E B σ H u1 u2 v1 v2 r3 Q rl t1 t2 e q => ?_⟩
  simp only [gEqB, Option.map_eq_some_iff] at e
  obtain ⟨k, e, rfl⟩ := e
  have fin : Q (.bl k) H := q H _ (Aft.val rl (by simp [Rep]))
  unfold eqB at e
  split at e
  · next d d' e1 e2 =>
    split at e
    · next hs =>
      cases e
      simp only [Bool.and_eq_true] at hs
      exact ⟨d, d', toDB_top rl t1 e1, toDB_top rl t2 e2, hs.1, hs.2, fin⟩
    · cases e
  · cases e
theorem op2B_ne (hu : X.A.units + 64 < cLine) : Op2SB X (compareOp .NotEq) gNeB := by
  refine ⟨_, op_neD hu, fun F ρ E B σ H u1 u2 v1 v2 r3 Q rl t1 t2 e q => ?_⟩
  simp only [gNeB, Option.map_eq_some_iff] at e
  obtain ⟨k, e, rfl⟩ := e
  have fin : Q (.bl (!k)) H := q H _ (Aft.val rl (by simp [Rep]))
  unfold eqB at e
  split at e
  · next d d' e1 e2 =>
    split at e
    · next hs =>
      cases e
      simp only [Bool.and_eq_true] at hs
      exact ⟨d, d', toDB_top rl t1 e1, toDB_top rl t2 e2, hs.1, hs.2, fin⟩
    · cases e
  · cases e
theorem m2B_ok {g : Bx → U → U → Option R} {r : R2} {ta tb : TE}
    (ho : ∀ F ρ E B σ H u1 u2 v1 v2 r3 Q, Rel X.K F ρ E B σ H → Top X.K H (LvF F ρ E B σ) ρ u1 v1 → Top X.K H (LvF F ρ E B σ) ρ u2 v2 → g B u1 u2 = some r3 → (∀ H' v, Aft X.K F ρ E B σ H r3 ρ E B H' v → Q v H') → r v1 v2 H Q)
    (ha : ∀ F ρ E B σ H Q, Rel X.K F ρ E B σ H → PostE X.K F ρ E B σ H (fa E B) Q → ta σ H Q) (hb : ∀ F ρ E B σ H Q, Rel X.K F ρ E B σ H → PostE X.K F ρ E B σ H (fb E B) Q → tb σ H Q) :
    ∀ F ρ E B σ H Q, Rel X.K F ρ E B σ H → PostE X.K F ρ E B σ H (m2B g fa fb E B) Q → tOp r ta tb σ H Q := by
  intro F ρ E B σ H Q rl h
  refine ha F ρ E B σ H _ rl ?_
  simp only [m2B] at h
  cases h1 : fa E B with
  | bad => rw [h1] at h; exact h
  | ex c E' B' => rw [h1] at h; exact h
  | ok r1 E1 B1 =>
    rw [h1] at h
    intro ρ1 H1 v1 A1
    refine hb _ ρ1 E1 B1 σ H1 _ A1.rel ?_
    simp only [O.bind_ok] at h
    cases h2 : fb E1 B1 with
    | bad => rw [h2] at h; exact h
    | ex c E' B' => rw [h2] at h; exact h
    | ok r2 E2 B2 =>
      rw [h2] at h
      simp only [O.bind_ok] at h
      intro ρ2 H2 v2 A2
      have A2' := A2.letgo
      have A1' := A1.carry A2'
      have T1 := A1'.letgo
      split at h
      · next u1 u2 e1 e2 =>
        split at h
        · next r3 eg =>
          have t1 := A1'.top e1
          have t2 : Top X.K H2 (LvF F ρ2 E2 B2 σ) ρ2 u2 v2 := (A2.top e2).mono (Stp.less fun q z => addR_lv z)
          exact ho F ρ2 E2 B2 σ H2 u1 u2 v1 v2 r3 Q T1.rel t1 t2 eg fun H' v A3 => h ρ2 H' v (T1.then A3)
        · exact h.elim
      · exact h.elim
theorem sndE_cmpB {op : CmpOp} {g : Bx → U → U → Option R} (ho : Op2SB X (compareOp op) g) (ha : SndE X a fa) (hb : SndE X b fb) (hm : behindInMarks op b = false := by first | rfl | exact nomark _) : SndE X (.Compare a [op] [b] pos) (m2B g fa fb) := by
  obtain ⟨r, hr, ho⟩ := ho
  obtain ⟨ta, pa, ha⟩ := ha
  obtain ⟨tb, pb, hb⟩ := hb
  exact ⟨_, pe_cmpR hr pa pb hm, m2B_ok ho ha hb⟩
theorem sndT_cmpB {op : CmpOp} {g : Bx → U → U → Option R} (ho : Op2SB X (compareOp op) g) (ha : SndE X a fa) (hb : SndE X b fb) (hm : behindInMarks op b = false := by first | rfl | exact nomark _) : SndT X (.Compare a [op] [b] pos) (toT (m2B g fa fb)) := by
  obtain ⟨r, hr, ho⟩ := ho
  obtain ⟨ta, pa, ha⟩ := ha
  obtain ⟨tb, pb, hb⟩ := hb
  exact ⟨_, pt_cmpR hr pa pb hm, toT_ok (m2B_ok ho ha hb)⟩
end
section
variable {E : En} {B : Bx} {f g : Ex}
@[simp] theorem e_m2B {h : Bx → U → U → Option R} : m2B h f g E B = (f E B).bind fun r1 E1 B1 => (g E1 B1).bind fun r2 E2 B2 =>
    match view r1 E2 B2, view r2 E2 B2 with
    | some u1, some u2 => match h B2 u1 u2 with
      | some r => .ok r E2 B2
      | none => .bad
    | _, _ => .bad := (rfl)
end
end QB
/-! QbS: enumerate(text, start=j); turned lists and texts; comprehensions with a deed in them. -/
namespace QB
open PySem L2 PyProof.Rows
theorem callTy_kw {M : Model} {A : Around} {E : Value → Shared → Prop} {s : Shared} {pos : Pos} {T : String} {ar : List (Bool × Sem Value)} {kw : List (Option Str × Sem Value)} {Q : Value → Shared → Prop}
    (h1 : ar.any (·.1) = false) (h2 : kw.any (·.1.isNone) = false) (h : wpAny M A (evalArgs (.type T) true ar kw) (fun z s1 => wpAny M A (call (.type T) z.pos z.kw) Q E s1) E s) : wpAny M A (callWith pos (.type T) [] ar kw) Q E s := by
  unfold callWith
  refine wpAny_bind (wpAny_holding (wpAny_mono h (fun z s1 q => wpAny_bind (wpAny_standAt ?_)) fun _ _ q => q))
  simp only [h1, h2, Bool.or_false]
  refine wpAny_bind (wpAny_pure (wpAny_bind (wpAny_mono q (fun r s2 q2 => ?_) fun _ _ q => q)))
  exact wpAny_bind (wpAny_holding (wpAny_point (wpAny_pure q2)))
/-- the signs of a text with their numbers, from j on, each in a new pair -/
def Itt (z : Str) (j : Int) : It :=
  ⟨fun i _ => i < z.cps.size, fun i H v H' => ∃ T c, v = .ref T ∧ H T = none ∧ z.cps[i]? = some c ∧ H' = upd H T (.tup [.int (j + (i : Nat)), .str ⟨#[c]⟩]), fun i _ => i = z.cps.size⟩
theorem turn_text {P : Program} {w : World} {K : PySem.W.Frag} {elts : List Expr} {kk : Nat} {tpos : Pos} (z : Str) (tok : Tok) (j : Int) (e it : Addr) :
    Turn P w K (.Tuple elts kk tpos) (Itt z j) [e, it] e (fun i h => (∃ old, IsEnum h e it (j + (i : Nat)) old) ∧ h.IsStrIter it (strIterType z) z tok i ∧ e ≠ it) where
  mem := List.mem_cons_self ..
  obj := fun i h ⟨⟨old, he⟩, ⟨o, ho, hc, hd⟩, _⟩ b hb => by
    rcases List.mem_cons.mp hb with y | y
    · subst y; exact ⟨_, he, fun v q => nomatch q⟩
    · rw [List.mem_singleton] at y; subst y; exact ⟨o, ho, fun v q => by rw [hd] at q; cases q⟩
  keep := fun i h h' ⟨⟨old, he⟩, ⟨o, ho, r⟩, hne⟩ k => ⟨⟨old, k e (List.mem_cons_self ..) _ he⟩, ⟨o, k it (by simp) o ho, r⟩, hne⟩
  item := by
    intro X hP hw hK hc i pins s σ H E I hf ⟨⟨old, he⟩, hit, hne⟩ hg
    subst hP hw hK
    have ea := Heap.lt_size he
    have ia : it < s.heap.objs.size := by obtain ⟨_, q, _⟩ := hit; exact Heap.lt_size q
    have D := Draws.text (prog := X.prog) (w := X.w) (A := X.A.in1) (I.ok.hd hc) it z tok
    refine wpAny_pyNext_enum_itemC D he hit hg hne (by simpa using hne) fun x h1 tk ⟨c, u, ec, ex⟩ ho hit1 hT hsz hk => ?_
    subst ex
    refine ⟨_, rfl, wpAny_letOwnedTupleGo_enum (s := { s with heap := h1, toks := tk + 1 }) ho fun h2 he2 sb => ?_⟩
    have T2 : h2.get? s.heap.objs.size = some { cls := .type "tuple", data := .seq #[.int (j + (i : Nat)) tk, .str ⟨#[c]⟩ u] } := (sb.2 _ (Nat.ne_of_gt ea)).trans hT
    have ob : ObjOk X.prog X.w (upd H s.heap.objs.size (.tup [.int (j + (i : Nat)), .str ⟨#[c]⟩])) h2 s.heap.objs.size (.tup [.int (j + (i : Nat)), .str ⟨#[c]⟩]) :=
      ⟨by show 2 ≤ sizeLine; decide, [.int (j + (i : Nat)) tk, .str ⟨#[c]⟩ u], .cons ⟨_, rfl⟩ (.cons ⟨_, rfl⟩ .nil), ⟨_, T2, rfl, _, rfl⟩⟩
    have I2 : Inv X pins σ (upd H s.heap.objs.size (.tup [.int (j + (i : Nat)), .str ⟨#[c]⟩])) { s with heap := h2, toks := tk + 1 } :=
      I.turnedNew (ch := [e, it]) (fun b o hb q => (sb.2 b (fun y => hb (by simp [y]))).trans (hk b o (fun y => hb (by simp [y])) (fun y => hb (by simp [y])) q)) hf (Nat.le_refl _) ob
    refine ⟨.ref s.heap.objs.size, _, I2, rfl, ⟨_, c, rfl, I.hok.fresh (Nat.le_refl _), ec, rfl⟩, ⟨⟨.str ⟨#[c]⟩ u, ?_⟩, ?_, hne⟩, fun b hb => ?_⟩
    · have e1 : j + ((i + 1 : Nat) : Int) = j + (i : Int) + 1 := by omega
      rw [e1]; exact he2
    · obtain ⟨o, q, r⟩ := hit1
      exact ⟨o, (sb.2 it (Ne.symm hne)).trans q, r⟩
    · have lt : b < s.heap.objs.size := by
        rcases List.mem_cons.mp hb with y | y
        · subst y; exact ea
        · rw [List.mem_singleton] at y; subst y; exact ia
      rw [upd_ne (Nat.ne_of_lt lt)]
      exact (hf b hb).1
  done := by
    intro X hP hw hK hc i pins s σ H E I hf ⟨⟨old, he⟩, hit, hne⟩ hg
    subst hP hw hK
    have D := Draws.text (prog := X.prog) (w := X.w) (A := X.A.in1) (I.ok.hd hc) it z tok
    obtain ⟨f0, f1, f2, f3, f4, f5⟩ := hf it (by simp)
    have hi : i = z.cps.size := hg
    subst hi
    exact wpAny_pyNext_enum_endD D he hit fun h1 eb => ⟨rfl, I.turned (t' := s.toks) (fun b o hb q => eb b o hb q) f0 f1 f3 f4 f5⟩
  self := fun A i s Q E ⟨⟨_, he⟩, _⟩ h => wpAny_pyIter_enum he h
def iText (ta tk : TA) (Bd : Str → Int → Prop) : TI := fun σ H R => ta σ H fun vs H1 => tk σ H1 fun zs H2 => ∃ z j, vs = [.str z] ∧ zs = [.int j] ∧ -(2 ^ 62) ≤ j ∧ j < 2 ^ 62 ∧ R (Itt z j) H2
section
variable {X : Cx} {a b : Expr} {fs gs : Ar} {pos p p2 tpos : Pos}
theorem pi_textFrom {ta tk : TA} {elts : List Expr} {kk : Nat} {kws : List Keyword} (hg : Gl X "enumerate") (hm : X.mg "enumerate" = none) (ha : PA X [a] ta) (hk : PK X kws tk) (hs : starEach [a] X.env = [(false, eval a X.env)] := by rfl)
    (hs2 : backTo pos (starEach [a] X.env) = (false, eval a X.env) :: backTo pos (starEach [] X.env) := by rfl) (h1 : (backTo pos (starEach [a] X.env)).any (·.1) = false := by rfl)
    (hall : (backToKw pos (keywordEach kws X.env)).all (·.1.isSome) = true := by rfl) (h2 : (backToKw pos (keywordEach kws X.env)).any (·.1.isNone) = false := by rfl) (hks : (backToKw pos (keywordEach kws X.env)).filterMap (·.1) = [Str.ofString "start"] := by rfl) :
    PI X (.Tuple elts kk tpos) (.Call (.Name "enumerate" p) [a] kws pos) (iText ta tk fun _ _ => True) := by
  refine ⟨fun pins s σ H R I h => ?_⟩
  refine wpAny_Call_Name_kw (ld_blt I hg hm boot_enumerate ?_)
  refine callTy_kw h1 h2 (evalArgs_kw2 hall (thn (ha.run pos pins s σ H _ I h) fun us s1 ⟨vs, H1, I1, r1, q1⟩ => thn (hk.run pos pins s1 σ H1 _ I1 q1) fun ws s2 ⟨zs, H2, I2, r2, q2⟩ => ?_) hs)
  rw [hks]
  obtain ⟨z, j, rfl, rfl, b1, b2, q⟩ := q2
  cases r1 with
  | cons r rr =>
    cases rr
    obtain ⟨t, rfl⟩ := r
    cases r2 with
    | cons r' rr' =>
      cases rr'
      obtain ⟨t', rfl⟩ := r'
      refine enum_begins_start (begins_text z t) trivial (by omega) (by omega) fun h' he hit hsz hkp => wpAny_pyIter_enum he ?_
      have I3 : Inv X pins σ H2 { s2 with heap := h' } := I2.kept (t' := s2.toks) hkp
      refine ⟨s2.heap.objs.size + 1, [s2.heap.objs.size + 1, s2.heap.objs.size], _, Itt z j, H2, rfl, I3, turn_text z t j (s2.heap.objs.size + 1) s2.heap.objs.size, ⟨⟨.none, ?_⟩, ⟨_, hit, rfl, rfl⟩, Nat.succ_ne_self _⟩, fun b hb => ?_, q⟩
      · have e0 : j + ((0 : Nat) : Int) = j := by omega
        rw [e0]; exact he
      · have lb : s2.heap.objs.size ≤ b := by
          rcases List.mem_cons.mp hb with y | y
          · subst y; exact Nat.le_succ _
          · rw [List.mem_singleton] at y; subst y; exact Nat.le_refl _
        exact I2.fpOk lb (I2.hok.fresh lb)
def textU (z : Str) (j : Int) : List U := z.cps.toList.mapIdx fun k c => .tup [.int (j + (k : Nat)), .str ⟨#[c]⟩]
theorem walkU_text {K : PySem.W.Frag} {z : Str} {j : Int} : WalkU K (Itt z j) (textU z j) yes (fun _ _ _ => True) := by
  have len : (textU z j).length = z.cps.size := by simp [textU]
  refine ⟨fun _ _ _ _ _ _ _ _ _ _ _ _ => trivial, fun H Lv ρ i _ hi => by rw [len] at hi; exact hi, fun H Lv ρ _ => len, fun H Lv ρ i u x H' _ hu hy hlv => ?_⟩
  obtain ⟨T, c, rfl, hT, hc, rfl⟩ := hy
  have gr : ∀ q o, H q = some o → (upd H T (.tup [.int (j + (i : Nat)), .str ⟨#[c]⟩])) q = some o := fun q o h => by rw [upd_ne (ne_of_none h hT)]; exact h
  refine ⟨gr, ?_⟩
  have e : u = .tup [.int (j + (i : Nat)), .str ⟨#[c]⟩] := by
    simp only [textU, List.getElem?_mapIdx, Option.map_eq_some_iff] at hu
    obtain ⟨d, h1, rfl⟩ := hu
    rw [Array.getElem?_toList, hc] at h1
    cases h1
    rfl
  subst e
  simp only [Rep]
  refine ⟨T, _, rfl, .inl ⟨.inl upd_same, fun z => ?_⟩, Reps.cons (by simp [Rep]) (Reps.one (by simp [Rep]))⟩
  obtain ⟨o, ho⟩ := hlv T z
  rw [hT] at ho
  cases ho
def mEnumT (fs gs : Ar) : Iv := fun E B => (fs E B).bind fun us E1 B1 => (gs E1 B1).bind fun ws E2 B2 =>
  match us, ws with
  | [.str z], [.int j] => if I62 j = true then .ok (textU z j, yes) E2 B2 else .bad
  | _, _ => .bad
theorem sndI_enumT {elts : List Expr} {kk : Nat} {kws : List Keyword} (hm : X.mg "enumerate" = none) (ha : SndA X [a] fs) (hk : SndK X kws gs) (hg : Gl X "enumerate" := by rfl) (hs : starEach [a] X.env = [(false, eval a X.env)] := by rfl)
    (hs2 : backTo pos (starEach [a] X.env) = (false, eval a X.env) :: backTo pos (starEach [] X.env) := by rfl) (h1 : (backTo pos (starEach [a] X.env)).any (·.1) = false := by rfl)
    (hall : (backToKw pos (keywordEach kws X.env)).all (·.1.isSome) = true := by rfl) (h2 : (backToKw pos (keywordEach kws X.env)).any (·.1.isNone) = false := by rfl) (hks : (backToKw pos (keywordEach kws X.env)).filterMap (·.1) = [Str.ofString "start"] := by rfl) :
    SndI X (.Tuple elts kk tpos) (.Call (.Name "enumerate" p) [a] kws pos) (mEnumT fs gs) := by
  obtain ⟨ta, pa, ha⟩ := ha
  obtain ⟨tk, pk, hk⟩ := hk
  refine ⟨_, pi_textFrom hg hm pa pk hs hs2 h1 hall h2 hks, fun F ρ E B σ H Rk rl q => ?_⟩
  refine ha F ρ E B σ H _ rl ?_
  simp only [mEnumT] at q
  cases h1 : fs E B with
  | bad => rw [h1] at q; exact q.elim
  | ex c E' B' => rw [h1] at q; exact q.elim
  | ok us E1 B1 =>
    rw [h1] at q
    simp only [O.bind_ok] at q
    intro ρ1 H1 vs A1
    refine hk F ρ1 E1 B1 σ H1 _ A1.t.rel ?_
    cases h2 : gs E1 B1 with
    | bad => rw [h2] at q; exact q.elim
    | ex c E' B' => rw [h2] at q; exact q.elim
    | ok ws E2 B2 =>
      rw [h2] at q
      simp only [O.bind_ok] at q
      intro ρ2 H2 zs A2
      have R1 := A1.reps
      have R2 := A2.reps
      revert q
      generalize hw : (match us, ws with | [.str z], [.int j] => if I62 j = true then O.ok (textU z j, yes) E2 B2 else .bad | _, _ => .bad) = oo
      intro q
      cases oo with
      | bad => exact q.elim
      | ex c E' B' => exact q.elim
      | ok w E' B' =>
        exact (by
          split at hw
          · next z j =>
            split at hw
            · next hj =>
              cases hw
              simp only [Reps, Rep] at R1 R2
              obtain ⟨v, r, rfl, rfl, rfl⟩ := R1
              obtain ⟨v2, r2, rfl, rfl, rfl⟩ := R2
              have b := i62_iff.mp hj
              exact ⟨z, j, rfl, rfl, b.1, b.2, q ρ2 H2 _ _ (A1.t.trans A2.t) walkU_text trivial trivial⟩
            · cases hw
          · cases hw)
end
/-- a list comprehension with a deed in it, by an invariant over what is left and what is gathered -/
theorem okP_lcGo {bd : Bd} {t : Te} {f : Ex} {ks : List Nat} (I : List U → List U → En → Bx → Prop) (step : ∀ u us acc E B, I (u :: us) acc E B → ∃ E1, bd u E = some E1 ∧ OkP (t E1 B) fun b E2 B2 =>
      if b = true then OkP (f E2 B2) fun r E3 B3 => ∃ y E4, settle r E3 = some (y, E4) ∧ acc.length < 16777216 ∧ I us (acc ++ [y]) (wipeE E4 ks) B3 else I us acc (wipeE E2 ks) B2) :
    ∀ us acc E B, I us acc E B → OkP (lcGo bd t f yes ks us acc E B) fun acc' E' B' => I [] acc' E' B'
  | [], acc, E, B, h => h
  | u :: us, acc, E, B, h => by
    obtain ⟨E1, e, q⟩ := step u us acc E B h
    unfold lcGo
    rw [e]
    refine OkP.bind (q.mono fun b E2 B2 q2 => ?_)
    by_cases hb : b = true
    · rw [if_pos hb] at q2 ⊢
      refine OkP.bind (q2.mono fun r E3 B3 ⟨y, E4, e4, hl, q3⟩ => ?_)
      rw [e4]
      simp only
      rw [if_pos hl]
      unfold goOnL
      rw [if_pos (show yes _ from trivial)]
      exact okP_lcGo I step us _ _ _ q3
    · rw [if_neg hb] at q2 ⊢
      unfold goOnL
      rw [if_pos (show yes _ from trivial)]
      exact okP_lcGo I step us _ _ _ q2
theorem okP_lc {fi : Iv} {bd : Bd} {t : Te} {f : Ex} {ks : List Nat} {us : List U} {E E1 : En} {B B1 : Bx} {Q : R → En → Bx → Prop} (hi : fi E B = .ok (us, yes) E1 B1) (hn : noOwn E1 ks = true) (I : List U → List U → En → Bx → Prop) (h : I us [] (wipeE E1 ks) B1)
    (step : ∀ u us acc E B, I (u :: us) acc E B → ∃ E1, bd u E = some E1 ∧ OkP (t E1 B) fun b E2 B2 =>
      if b = true then OkP (f E2 B2) fun r E3 B3 => ∃ y E4, settle r E3 = some (y, E4) ∧ acc.length < 16777216 ∧ I us (acc ++ [y]) (wipeE E4 ks) B3 else I us acc (wipeE E2 ks) B2)
    (last : ∀ acc E B, I [] acc E B → Q (.fr (.lst acc)) (keepE E1 E ks) B) : OkP (mLc fi bd t f ks E B) Q := by
  unfold mLc
  rw [hi]
  simp only [O.bind_ok]
  rw [if_pos hn]
  exact OkP.bind ((okP_lcGo I step us [] _ _ h).mono fun acc E2 B2 q => last acc E2 B2 q)
end QB
/-! QbT: texts and lists turned about. -/
namespace QB
open PySem L2 PyProof.Rows
def revS (z : Str) : Str := ⟨z.cps.toList.reverse.toArray⟩
theorem picked_back (z : Str) : (Builtin.Str.strSliceIndices none none (-1) z.length).filterMap (z.cps[·]?) = z.cps.toList.reverse := by
  rw [picked_rev, filterMap_get, List.map_map]
  · apply List.ext_getElem?
    intro i
    by_cases h : i < z.length
    · have h2 : i < z.cps.toList.length := by rw [Array.length_toList]; exact h
      rw [List.getElem?_map, List.getElem?_range h, List.getElem?_reverse h2]
      have h3 : z.length - 1 - i < z.cps.size := by show z.cps.size - 1 - i < z.cps.size; have : i < z.cps.size := h; omega
      simp only [Option.map_some, Function.comp, Array.length_toList]
      rw [Array.getD_eq_getD_getElem?, Array.getElem?_toList]
      show some ((z.cps[z.cps.size - 1 - i]?).getD 0) = z.cps[z.cps.size - 1 - i]?
      have h4 : z.cps.size - 1 - i < z.cps.size := h3
      rw [Array.getElem?_eq_getElem h4]; rfl
    · have h2 : ¬ i < z.cps.toList.length := by rw [Array.length_toList]; exact h
      rw [List.getElem?_eq_none (by simp; omega), List.getElem?_eq_none (by rw [List.length_reverse]; exact Nat.le_of_not_lt h2)]
  · intro i hi
    obtain ⟨k, hk, rfl⟩ := List.mem_map.mp hi
    have hk' : k < z.length := List.mem_range.mp hk
    show z.length - 1 - k < z.length
    omega
section
variable {X : Cx} {e : Expr} {te : TE} {k : Nat} {p1 p2 p3 pos : Pos}
def tRevS (te : TE) : TE := fun σ H Q => te σ H fun x H1 => ∃ z, x = .str z ∧ z.length ≤ sizeLine ∧ Q (.str (revS z)) H1
theorem pe_revS (he : PE X e te) : PE X (.Subscript e (.Slice none none (some (.UnaryOp .USub (.Constant (.int 1) k p1) p2)) p3) pos) (tRevS te) := by
  refine ⟨fun pins s σ H Q I h => Subscript_ (thn (he.run pins s σ H _ I h) fun v s1 ⟨x, H1, I1, r1, z, ex, hz, q⟩ => ?_)⟩
  subst ex
  obtain ⟨t, rfl⟩ := r1
  have st : PO X (some (.UnaryOp .USub (.Constant (.int 1) k p1) p2)) (tPart (tUn (rU fun i => .int (-i)) (tC (.int 1)))) := po_some (pe_un un_neg pe_int)
  refine wpAny_Slice (thn (po_none.run pins s1 σ H1 (fun o K2 => o = none ∧ K2 = H1) I1 ⟨rfl, rfl⟩) fun vl s2 ⟨l, H2, I2, pl, el, e2⟩ => thn (po_none.run pins s2 σ H2 (fun o K3 => o = none ∧ K3 = H2) I2 ⟨rfl, rfl⟩) fun vu s3 ⟨u, H3, I3, pu, eu, e3⟩ =>
    thn (st.run pins s3 σ H3 (fun o K4 => o = some (-1) ∧ K4 = H3) I3 ⟨1, rfl, -1, rfl, rfl, rfl⟩) fun vs s4 ⟨o, H4, I4, ps, eo, e4⟩ => ?_)
  subst el e2 eu e3 eo e4
  have I5 : Inv X pins σ H4 { s4 with heap := s4.heap.push { cls := .type "slice", data := .fields #[vl, vu, vs] } } := I4.kept (t' := s4.toks) fun b ob y => Heap.get?_push_of_some _ y
  obtain ⟨l', rfl, el⟩ := IsPart.raw pl
  obtain ⟨u', rfl, eu⟩ := IsPart.raw pu
  obtain ⟨w', rfl, ew⟩ := IsPart.raw ps
  show wpAny (model X.prog X.w) X.A (subscriptTail e (.Slice none none (some (.UnaryOp .USub (.Constant (.int 1) k p1) p2)) p3) (.str z t) (.ref s4.heap.objs.size)) (EP X pins σ Q) X.xe { s4 with heap := s4.heap.push { cls := .type "slice", data := .fields #[partValue l', partValue u', partValue w'] } }
  refine tail_any (ops := [.str z t, .ref s4.heap.objs.size]) (typeIs_str _ _ _) (PySem.F.slot_str_getitem.lookup) ?_ (by with_unfolding_all rfl)
  refine wpAny_getItem_str_slice (l := l') (u := u') (st := w') ⟨_, Heap.get?_push_size _ rfl, rfl, rfl⟩ (by rw [ew]; rfl) ?_
  show Made.post (if ((w'.map (·.1)).getD 1 == 1 && (Builtin.Str.strSliceIndices (l'.map (·.1)) (u'.map (·.1)) ((w'.map (·.1)).getD 1) z.length).length == z.length) = true then Made.val (.str z t)
    else Made.str ⟨((Builtin.Str.strSliceIndices (l'.map (·.1)) (u'.map (·.1)) ((w'.map (·.1)).getD 1) z.length).filterMap (z.cps[·]?)).toArray⟩) (EP X pins σ Q) _
  rw [el, eu, ew]
  have c : ¬ (((some (-1 : Int)).getD 1 == 1 && (Builtin.Str.strSliceIndices none none ((some (-1 : Int)).getD 1) z.length).length == z.length) = true) := by
    have : ((some (-1 : Int)).getD 1 == 1) = false := rfl
    rw [this]; simp
  rw [if_neg c]
  show Made.post (Made.str ⟨((Builtin.Str.strSliceIndices none none (-1) z.length).filterMap (z.cps[·]?)).toArray⟩) (EP X pins σ Q) _
  rw [picked_back]
  refine ⟨?_, .str _, _, I5.tok _, ⟨_, rfl⟩, q⟩
  show (revS z).length ≤ sizeLine
  have : (revS z).length = z.length := by simp [revS, Str.length]
  rw [this]; exact hz
def gRevA : U → Option R
  | .lst us => some (.fr (.lst us.reverse))
  | .str z => if z.length ≤ 16777216 then some (.w (.str (revS z))) else none
  | _ => none
def mRevA (fa : Ex) : Ex := m1 gRevA fa
theorem peOr {a : Expr} {t1 t2 : TE} (h1 : PE X a t1) (h2 : PE X a t2) : PE X a (fun σ H Q => t1 σ H Q ∨ t2 σ H Q) :=
  ⟨fun pins s σ H Q I h => h.elim (h1.run pins s σ H Q I) (h2.run pins s σ H Q I)⟩
def gRevL1 : U → Option R
  | .lst us => some (.fr (.lst us.reverse))
  | _ => none
def gRevS1 : U → Option R
  | .str z => if z.length ≤ 16777216 then some (.w (.str (revS z))) else none
  | _ => none
theorem sndE_revA {a : Expr} {fa : Ex} (ha : SndE X a fa) : SndE X (.Subscript a (.Slice none none (some (.UnaryOp .USub (.Constant (.int 1) k p1) p2)) p3) pos) (mRevA fa) := by
  obtain ⟨ta, pa, ha⟩ := ha
  refine ⟨_, peOr (pe_revL pa) (pe_revS pa), fun F ρ E B σ H Q rl q => ?_⟩
  have hL := m1_ok (g := gRevL1) (r := fun v H Q => ∃ a xs, v = .ref a ∧ SqL X.K H a xs ∧ ∀ p, H p = none → Q (.ref p) (upd H p (.lst xs.reverse))) (fun F ρ E B σ H u1 v1 r3 Q rl t e q => by
    cases u1 <;> simp only [gRevL1, reduceCtorEq, Option.some.injEq] at e
    next us =>
      subst e
      obtain ⟨p, vs, rfl, h1, h2⟩ := t
      exact ⟨p, vs, rfl, .inl (.inl h1), fun p' hp => q _ _ (Aft.fresh rl hp h2.reverse)⟩) ha F ρ E B σ H Q rl
  have hS := m1_ok (g := gRevS1) (r := fun v H Q => ∃ z, v = .str z ∧ z.length ≤ sizeLine ∧ Q (.str (revS z)) H) (fun F ρ E B σ H u1 v1 r3 Q rl t e q => by
    cases u1 <;> simp only [gRevS1, reduceCtorEq] at e
    next z =>
      split at e
      · next hz =>
        cases e
        exact ⟨z, top_str t, by rw [sizeLine_eq]; exact hz, q H _ (Aft.val rl (by simp [Rep]))⟩
      · cases e) ha F ρ E B σ H Q rl
  simp only [mRevA, m1] at q
  simp only [m1] at hL hS
  cases h1 : fa E B with
  | bad => rw [h1] at q; exact q.elim
  | ex c E' B' => rw [h1] at q; exact q.elim
  | ok r E1 B1 =>
    rw [h1] at q hL hS
    simp only [O.bind_ok] at q hL hS
    cases h2 : view r E1 B1 with
    | none => rw [h2] at q; exact q.elim
    | some u =>
      rw [h2] at q hL hS
      cases u with
      | lst us => exact .inl (hL q)
      | str z => exact .inr (hS q)
      | _ => exact q.elim
end
end QB
/-! QbU: stepping through bodies: locked continuations, loops and comprehensions over encoded lists, == by trees. -/
namespace QB
open PySem L2
/-- what follows, not to be looked into -/
def Then (g : Sm) (Q : Fl → En → Bx → Prop) : Fl → En → Bx → Prop := fun fl E B => match fl with | .nx => OkP (g E B) Q | fl => Q fl E B
theorem then_nx {g : Sm} {Q : Fl → En → Bx → Prop} {E : En} {B : Bx} (h : OkP (g E B) Q) : Then g Q .nx E B := h
theorem then_rt {g : Sm} {Q : Fl → En → Bx → Prop} {E : En} {B : Bx} {u : U} (h : Q (.rt u) E B) : Then g Q (.rt u) E B := h
theorem then_bk {g : Sm} {Q : Fl → En → Bx → Prop} {E : En} {B : Bx} (h : Q .bk E B) : Then g Q .bk E B := h
theorem then_ct {g : Sm} {Q : Fl → En → Bx → Prop} {E : En} {B : Bx} (h : Q .ct E B) : Then g Q .ct E B := h
theorem okP_seqT {f g : Sm} {E : En} {B : Bx} {Q : Fl → En → Bx → Prop} (h : OkP (f E B) (Then g Q)) : OkP (sSeq f g E B) Q :=
  okP_seq (h.mono fun fl E1 B1 q => by cases fl <;> exact q)
theorem okP_lock {α : Type} {o : O α} {Q : α → En → Bx → Prop} (h : ∀ LQ : α → En → Bx → Prop, (∀ a E B, Q a E B → LQ a E B) → OkP o LQ) : OkP o Q := h Q fun _ _ _ q => q
theorem okP_seqL {f g : Sm} {E : En} {B : Bx} {Q : Fl → En → Bx → Prop} (h : ∀ LQ : Fl → En → Bx → Prop, (∀ a E B, Then g Q a E B → LQ a E B) → OkP (f E B) LQ) : OkP (sSeq f g E B) Q := okP_seqT (okP_lock h)
theorem okP_ift {c : Te} {f g : Sm} {E E1 : En} {B B1 : Bx} {Q : Fl → En → Bx → Prop} (hc : c E B = .ok true E1 B1) (h : OkP (f E1 B1) Q) : OkP (sIf c f g E B) Q := by
  unfold sIf; rw [hc]; exact h
theorem okP_iff {c : Te} {f g : Sm} {E E1 : En} {B B1 : Bx} {Q : Fl → En → Bx → Prop} (hc : c E B = .ok false E1 B1) (h : OkP (g E1 B1) Q) : OkP (sIf c f g E B) Q := by
  unfold sIf; rw [hc]; exact h
theorem okP_ift0 {c : Te} {f g : Sm} {E : En} {B : Bx} {Q : Fl → En → Bx → Prop} (hc : c E B = .ok true E B) (h : OkP (f E B) Q) : OkP (sIf c f g E B) Q := okP_ift hc h
theorem okP_iff0 {c : Te} {f g : Sm} {E : En} {B : Bx} {Q : Fl → En → Bx → Prop} (hc : c E B = .ok false E B) (h : OkP (g E B) Q) : OkP (sIf c f g E B) Q := okP_iff hc h
/-- a test whose outcome is open -/
theorem okP_ifb {c : Te} {f g : Sm} {E E1 : En} {B B1 : Bx} {Q : Fl → En → Bx → Prop} {b : Bool} (hc : c E B = .ok b E1 B1) (h : b = true → OkP (f E1 B1) Q) (h2 : b = false → OkP (g E1 B1) Q) : OkP (sIf c f g E B) Q := by
  cases b
  · exact okP_iff hc (h2 rfl)
  · exact okP_ift hc (h rfl)
/-! ### what a def answers -/
def RetIs (u : U) (B1 : Bx) : Fl → En → Bx → Prop := fun fl _ B' => match fl with | .rt v => v = u ∧ B' = B1 | .nx => U.non = u ∧ B' = B1 | _ => False
theorem ret_is {u : U} {B : Bx} {E : En} : RetIs u B (.rt u) E B := ⟨rfl, rfl⟩
theorem ret_is' {u v : U} {B B' : Bx} {E : En} (h : v = u) (h2 : B' = B) : RetIs u B (.rt v) E B' := ⟨h, h2⟩
theorem ret_nx {B : Bx} {E : En} : RetIs .non B .nx E B := ⟨rfl, rfl⟩
theorem ret_nx' {B B' : Bx} {E : En} (h : B' = B) : RetIs .non B .nx E B' := ⟨rfl, h⟩
theorem run_is {N n : Nat} {f : Sm} {us : List U} {B B1 : Bx} {u : U} (hl : us.length = n) (h : OkP (f (us.map .val ++ List.replicate (N - us.length) .un) B) (RetIs u B1)) : runBody N n f us B = .ok u B1 := by
  obtain ⟨v, B', e, rfl, rfl⟩ := run_ok (N := N) (n := n) (f := f) (us := us) (B := B) (Q := fun v B' => v = u ∧ B' = B1) hl (h.mono fun fl E B' q => by cases fl <;> exact q)
  exact e
def RetP (Q : U → Bx → Prop) : Fl → En → Bx → Prop := fun fl _ B' => match fl with | .rt v => Q v B' | .nx => Q .non B' | _ => False
theorem ret_p {Q : U → Bx → Prop} {u : U} {B : Bx} {E : En} (h : Q u B) : RetP Q (.rt u) E B := h
theorem ret_pn {Q : U → Bx → Prop} {B : Bx} {E : En} (h : Q .non B) : RetP Q .nx E B := h
theorem run_p {N n : Nat} {f : Sm} {us : List U} {B : Bx} {Q : U → Bx → Prop} (hl : us.length = n) (h : OkP (f (us.map .val ++ List.replicate (N - us.length) .un) B) (RetP Q)) : ∃ u B1, runBody N n f us B = .ok u B1 ∧ Q u B1 :=
  run_ok hl (h.mono fun fl E B' q => by cases fl <;> exact q)
/-! ### loops over encoded lists -/
def LoopP (Q : Fl → En → Bx → Prop) (J : En → Bx → Prop) : Fl → En → Bx → Prop := fun fl E B => match fl with | .bk => Q .nx E B | .rt v => Q (.rt v) E B | _ => J E B
theorem loop_nx {Q : Fl → En → Bx → Prop} {J : En → Bx → Prop} {E : En} {B : Bx} (h : J E B) : LoopP Q J .nx E B := h
theorem loop_ct {Q : Fl → En → Bx → Prop} {J : En → Bx → Prop} {E : En} {B : Bx} (h : J E B) : LoopP Q J .ct E B := h
theorem loop_bk {Q : Fl → En → Bx → Prop} {J : En → Bx → Prop} {E : En} {B : Bx} (h : Q .nx E B) : LoopP Q J .bk E B := h
theorem loop_rt {Q : Fl → En → Bx → Prop} {J : En → Bx → Prop} {E : En} {B : Bx} {u : U} (h : Q (.rt u) E B) : LoopP Q J (.rt u) E B := h
def BdIs (o : Option En) (P : En → Prop) : Prop := match o with | some E => P E | none => False
@[simp] theorem bdIs_some {E : En} {P : En → Prop} : BdIs (some E) P = P E := rfl
theorem BdIs.get {o : Option En} {P : En → Prop} (h : BdIs o P) : ∃ E, o = some E ∧ P E := by
  cases o with
  | none => exact h.elim
  | some E => exact ⟨E, rfl, h⟩
theorem BdIs_of {o : Option En} {E : En} {P : En → Prop} (h : o = some E) (p : P E) : BdIs o P := by rw [h]; exact p
/-- a slot that holds nothing of its own -/
def Free (s : Sl) : Prop := s = .un ∨ ∃ u, s = .val u
theorem free_un : Free .un := .inl rfl
theorem free_val {u : U} : Free (.val u) := .inr ⟨u, rfl⟩
theorem bdN_free {k : Nat} {u : U} {E : En} {s : Sl} (h : E[k]? = some s) (f : Free s) : bdN k u E = some (E.set k (.val u)) := by
  rcases f with rfl | ⟨_, rfl⟩ <;> simp [h]
theorem atI_lastQ {α : Type} (l : List α) (a : α) : atI (l ++ [a]) (-1) = some a := by
  unfold atI ixN
  have e : (l ++ [a]).length = l.length + 1 := by simp
  rw [if_neg (by omega), e, if_pos (by omega), show ((-1 + ((l.length + 1 : Nat) : Int))).toNat = l.length from by omega]
  simp
@[simp] theorem lt_1 {a b : Nat} : ([a] < [b]) ↔ a < b := by
  rw [List.cons_lt_cons_iff]
  constructor
  · rintro (h | ⟨_, h⟩)
    · exact h
    · exact absurd h (List.lt_irrefl _)
  · exact .inl
theorem fil_true {α : Type} (l : List α) : l.filter (fun _ => true) = l := List.filter_eq_self.mpr (fun _ _ => rfl)
theorem intsU_cons {lo : Int} {n : Nat} : intsU lo (n + 1) = .int lo :: intsU (lo + 1) n := by
  unfold intsU
  rw [List.range_succ_eq_map]
  simp only [List.map_cons, List.map_map, List.cons.injEq]
  refine ⟨by simp, ?_⟩
  apply List.map_congr_left
  intro a _
  simp [Function.comp]
  omega
/-- the places of a range as an encoded list -/
theorem intsU_map (n : Nat) : intsU 0 n = (List.range n).map fun (k : Nat) => U.int (k : Int) := by
  unfold intsU
  apply List.map_congr_left
  intro a _
  simp
theorem intsU_map' (lo n : Nat) : intsU (lo : Int) n = (List.range' lo n).map fun (k : Nat) => U.int (k : Int) := by
  unfold intsU
  rw [List.range'_eq_map_range, List.map_map]
  apply List.map_congr_left
  intro a _
  simp
def Body (b : Sm) (B : Bx) (Q : Fl → En → Bx → Prop) (E : En) : Prop := OkP (b E B) Q
theorem body_go {b : Sm} {B : Bx} {Q : Fl → En → Bx → Prop} {E : En} (h : OkP (b E B) Q) : Body b B Q E := h
theorem okP_forM {α : Type} (enc : α → U) {fi : Iv} {bd : Bd} {b : Sm} {xs : List α} {E E1 : En} {B B1 : Bx} {Q : Fl → En → Bx → Prop} (hi : fi E B = .ok (xs.map enc, yes) E1 B1) (I : List α → En → Bx → Prop) (h : I xs E1 B1)
    (step : ∀ x r E B, I (x :: r) E B → BdIs (bd (enc x) E) (Body b B (LoopP Q (I r)))) (last : ∀ E B, I [] E B → Q .nx E B) : OkP (sFor fi bd b E B) Q := by
  refine okP_for hi (fun us E B => ∃ r, us = r.map enc ∧ I r E B) ⟨xs, rfl, h⟩ ?_ ?_
  · rintro u us E B ⟨r, e, hI⟩
    cases r with
    | nil => cases e
    | cons x r =>
      rw [List.map_cons, List.cons.injEq] at e
      obtain ⟨rfl, rfl⟩ := e
      obtain ⟨E2, e2, q⟩ := (step x r E B hI).get
      refine ⟨E2, e2, OkP.mono q fun fl E3 B3 q3 => ?_⟩
      cases fl with
      | nx => exact ⟨r, rfl, q3⟩
      | ct => exact ⟨r, rfl, q3⟩
      | bk => exact q3
      | rt v => exact q3
  · rintro E B ⟨r, e, hI⟩
    cases r with
    | nil => exact last E B hI
    | cons x r => cases e
def WhileP (Q : Fl → En → Bx → Prop) (I : Nat → En → Bx → Prop) (n : Nat) : Fl → En → Bx → Prop := fun fl E B => match fl with | .bk => Q .nx E B | .rt v => Q (.rt v) E B | _ => ∃ m, m < n ∧ I m E B
theorem while_nx {Q : Fl → En → Bx → Prop} {I : Nat → En → Bx → Prop} {n : Nat} {E : En} {B : Bx} (m : Nat) (hm : m < n) (h : I m E B) : WhileP Q I n .nx E B := ⟨m, hm, h⟩
theorem while_ct {Q : Fl → En → Bx → Prop} {I : Nat → En → Bx → Prop} {n : Nat} {E : En} {B : Bx} (m : Nat) (hm : m < n) (h : I m E B) : WhileP Q I n .ct E B := ⟨m, hm, h⟩
theorem while_bk {Q : Fl → En → Bx → Prop} {I : Nat → En → Bx → Prop} {n : Nat} {E : En} {B : Bx} (h : Q .nx E B) : WhileP Q I n .bk E B := h
theorem while_rt {Q : Fl → En → Bx → Prop} {I : Nat → En → Bx → Prop} {n : Nat} {E : En} {B : Bx} {u : U} (h : Q (.rt u) E B) : WhileP Q I n (.rt u) E B := h
theorem okP_whileM {c : Te} {b : Sm} {Q : Fl → En → Bx → Prop} (I : Nat → En → Bx → Prop)
    (step : ∀ n E B, I n E B → ∃ k E1 B1, c E B = .ok k E1 B1 ∧ (k = true → OkP (b E1 B1) (WhileP Q I n)) ∧ (k = false → Q .nx E1 B1)) {E : En} {B : Bx} {n : Nat} (h : I n E B) (hn : n < whileFuel) : OkP (sWhile c b E B) Q := by
  refine okP_while I (fun n E B hI => ?_) h hn
  obtain ⟨k, E1, B1, e, h1, h2⟩ := step n E B hI
  rw [e, OkP_ok]
  cases k with
  | false => rw [if_neg (by decide)]; exact h2 rfl
  | true =>
    rw [if_pos rfl]
    refine (h1 rfl).mono fun fl E2 B2 q => ?_
    cases fl <;> exact q
/-! ### comprehensions over encoded lists -/
def Elt (f : Ex) (B : Bx) (u : U) (E : En) : Prop := match f E B with
  | .ok r E1 B1 => settle r E1 = some (u, E) ∧ B1 = B
  | _ => False
def Tst (t : Te) (B : Bx) (b : Bool) (E : En) : Prop := t E B = .ok b E B
theorem keepE_self : ∀ (ks : List Nat) (E : En), keepE E E ks = E
  | [], E => rfl
  | k :: ks, E => by
    rw [e_keep1, keepE_self ks E]
    cases h : E[k]? with
    | none => rfl
    | some s =>
      obtain ⟨hl, e⟩ := List.getElem?_eq_some_iff.mp h
      simp only
      rw [← e, List.set_getElem_self]
theorem mLc_map {α : Type} (enc : α → U) (p : α → Bool) (y : α → U) {fi : Iv} {bd : Bd} {t : Te} {f : Ex} {ks : List Nat} {chk : Bx → Prop} {xs : List α} {E E1 : En} {B B1 : Bx} (hi : fi E B = .ok (xs.map enc, chk) E1 B1) (hc : chk B1) (hn : noOwn E1 ks = true) (hw : wipeE E1 ks = E1) (hl : xs.length ≤ 16777216)
    (h : ∀ x ∈ xs, BdIs (bd (enc x) E1) fun E2 => wipeE E2 ks = E1 ∧ Tst t B1 (p x) E2 ∧ (p x = true → Elt f B1 (y x) E2)) :
    mLc fi bd t f ks E B = .ok (.fr (.lst ((xs.filter p).map y))) E1 B1 := by
  have key : ∀ (xs : List α) (acc : List U), acc.length + xs.length ≤ 16777216 → (∀ x ∈ xs, BdIs (bd (enc x) E1) fun E2 => wipeE E2 ks = E1 ∧ Tst t B1 (p x) E2 ∧ (p x = true → Elt f B1 (y x) E2)) →
      lcGo bd t f chk ks (xs.map enc) acc E1 B1 = .ok (acc ++ (xs.filter p).map y) E1 B1 := by
    intro xs
    induction xs with
    | nil => intro acc _ _; simp [lcGo]
    | cons x xs ih =>
      intro acc hl h
      obtain ⟨E2, e1, e2, e3, e4⟩ := (h x (List.mem_cons_self ..)).get
      have hl' : acc.length + (xs.length + 1) ≤ 16777216 := hl
      rw [List.map_cons]
      unfold lcGo
      rw [e1]
      unfold Tst at e3
      simp only [e3, O.bind_ok]
      by_cases hp : p x = true
      · have e5 := e4 hp
        unfold Elt at e5
        rw [if_pos hp]
        cases h1 : f E2 B1 with
        | bad => rw [h1] at e5; exact e5.elim
        | ex _ _ _ => rw [h1] at e5; exact e5.elim
        | ok r E3 B3 =>
          rw [h1] at e5
          obtain ⟨e6, rfl⟩ := e5
          simp only [O.bind_ok, e6]
          rw [if_pos (by omega), e2]
          unfold goOnL
          rw [if_pos hc, ih (acc ++ [y x]) (by simp; omega) (fun v hv => h v (List.mem_cons_of_mem _ hv))]
          simp [hp]
      · rw [if_neg hp, e2]
        unfold goOnL
        rw [if_pos hc, ih acc (by omega) (fun v hv => h v (List.mem_cons_of_mem _ hv))]
        simp [hp]
  unfold mLc
  rw [hi]
  simp only [O.bind_ok]
  rw [if_pos hn, hw, key xs [] (by simpa using hl) h, O.bind_ok, keepE_self]
  simp
def LcP (Q : R → En → Bx → Prop) : R → En → Bx → Prop := Q
/-- a comprehension whose elements are drawn: an invariant of what is gathered -/
theorem okP_lcM {α : Type} (enc : α → U) {fi : Iv} {bd : Bd} {f : Ex} {ks : List Nat} {xs : List α} {E E1 : En} {B B1 : Bx} {Q : R → En → Bx → Prop} (hi : fi E B = .ok (xs.map enc, yes) E1 B1) (hn : noOwn E1 ks = true) (hw : wipeE E1 ks = E1) (hl : xs.length ≤ 16777216) (I : List α → List U → Bx → Prop) (h : I xs [] B1)
    (step : ∀ x r acc B, I (x :: r) acc B → BdIs (bd (enc x) E1) fun E2 => wipeE E2 ks = E1 ∧ ∃ w u B3, f E2 B = .ok w E2 B3 ∧ settle w E2 = some (u, E2) ∧ I r (acc ++ [u]) B3)
    (last : ∀ acc B, I [] acc B → Q (.fr (.lst acc)) E1 B) : OkP (mLc fi bd mYes f ks E B) Q := by
  refine okP_lc hi hn (fun us acc E B => ∃ r, us = r.map enc ∧ acc.length + r.length ≤ 16777216 ∧ E = E1 ∧ I r acc B) ⟨xs, rfl, by simpa using hl, hw, h⟩ ?_ ?_
  · rintro u us acc E B ⟨r, e, hl, rfl, hI⟩
    cases r with
    | nil => cases e
    | cons x r =>
      rw [List.map_cons, List.cons.injEq] at e
      obtain ⟨rfl, rfl⟩ := e
      rw [List.length_cons] at hl
      obtain ⟨E2, e2, q1, w, u, B3, q2, q3, q4⟩ := (step x r acc B hI).get
      refine ⟨E2, e2, ?_⟩
      rw [e_mYes, OkP_ok, if_pos rfl, q2, OkP_ok]
      exact ⟨u, E2, q3, by omega, r, rfl, by simp; omega, q1, q4⟩
  · rintro acc E B ⟨r, e, hl, rfl, hI⟩
    cases r with
    | nil => rw [keepE_self]; exact last acc B hI
    | cons x r => cases e
/-! ### == by trees -/
mutual
def eqT : U → U → Bool
  | .non, .non => true
  | .bl a, .bl b => a == b
  | .bl a, .int j => (if a then 1 else 0) == j
  | .int i, .bl b => i == (if b then 1 else 0)
  | .int i, .int j => i == j
  | .str x, .str y => x == y
  | .lst xs, .lst ys => eqTs xs ys
  | .tup xs, .tup ys => eqTs xs ys
  | _, _ => false
def eqTs : List U → List U → Bool
  | [], [] => true
  | x :: xs, y :: ys => eqT x y && eqTs xs ys
  | _, _ => false
end
def okS (x : Str) : Bool := PyData.canLay0 (.str x)
/-- a tree without dicts and boxes at most n deep -/
def Flt : Nat → U → Prop
  | 0, _ => False
  | n + 1, u => match u with
    | .non | .bl _ | .int _ => True
    | .str x => okS x = true
    | .lst us => ∀ v ∈ us, Flt n v
    | .tup us => ∀ v ∈ us, Flt n v
    | _ => False
theorem flt_toD : ∀ (n : Nat) (u : U), Flt n u → ∃ d, toD u = some d ∧ d.canLay0 = true ∧ d.depth ≤ n
  | 0, _, h => h.elim
  | n + 1, u, h => by
    have many : ∀ us : List U, (∀ v ∈ us, Flt n v) → ∃ ds, toDs us = some ds ∧ PyData.canLayAll0 ds = true ∧ PyData.depthAll ds ≤ n := by
      intro us
      induction us with
      | nil => intro _; exact ⟨[], rfl, rfl, by simp [PyData.depthAll]⟩
      | cons v us ih =>
        intro h
        obtain ⟨ds, e1, e2, e3⟩ := ih fun w hw => h w (List.mem_cons_of_mem _ hw)
        obtain ⟨d, f1, f2, f3⟩ := flt_toD n v (h v (List.mem_cons_self ..))
        refine ⟨d :: ds, by simp [toDs, f1, e1], by simp [PyData.canLayAll0, f2, e2], by simp only [PyData.depthAll]; omega⟩
    cases u with
    | non => exact ⟨_, rfl, rfl, by simp [PyData.depth]⟩
    | bl b => exact ⟨_, rfl, rfl, by simp [PyData.depth]⟩
    | int i => exact ⟨_, rfl, rfl, by simp [PyData.depth]⟩
    | str x => exact ⟨_, rfl, h, by simp [PyData.depth]⟩
    | lst us => obtain ⟨ds, e1, e2, e3⟩ := many us h; exact ⟨.list ds, by simp [toD, e1], by simpa [PyData.canLay0] using e2, by simp only [PyData.depth]; omega⟩
    | tup us => obtain ⟨ds, e1, e2, e3⟩ := many us h; exact ⟨.tuple ds, by simp [toD, e1], by simpa [PyData.canLay0] using e2, by simp only [PyData.depth]; omega⟩
    | dct _ _ => exact h.elim
    | box _ => exact h.elim
    | scr _ => exact h.elim
theorem eqv_eqT : ∀ (n : Nat) (u v : U) (d e : PyData), Flt n u → toD u = some d → toD v = some e → (∀ ns, v ≠ .scr ns) → Flt n v → PyData.eqv d e = eqT u v
  | 0, _, _, _, _, h, _, _, _, _ => h.elim
  | n + 1, u, v, d, e, hu, hd, he, hs, hv => by
    have many : ∀ (us vs : List U) (ds es : List PyData), (∀ w ∈ us, Flt n w) → (∀ w ∈ vs, Flt n w) → toDs us = some ds → toDs vs = some es → PyData.eqvAll ds es = eqTs us vs := by
      intro us
      induction us with
      | nil =>
        intro vs ds es _ _ h1 h2
        cases h1
        cases vs with
        | nil => cases h2; rfl
        | cons v vs =>
          simp only [toDs] at h2
          split at h2
          · cases h2; rfl
          · cases h2
      | cons u us ih =>
        intro vs ds es hu hv h1 h2
        simp only [toDs] at h1
        split at h1
        · next d ds' a1 a2 =>
          cases h1
          cases vs with
          | nil => cases h2; rfl
          | cons v vs =>
            simp only [toDs] at h2
            split at h2
            · next e es' b1 b2 =>
              cases h2
              rw [PyData.eqvAll, eqTs, ih vs ds' es' (fun w hw => hu w (List.mem_cons_of_mem _ hw)) (fun w hw => hv w (List.mem_cons_of_mem _ hw)) a2 b2,
                eqv_eqT n u v d e (hu u (List.mem_cons_self ..)) a1 b1 (fun ns z => by
                  have := hv v (List.mem_cons_self ..)
                  rw [z] at this
                  cases n <;> exact this) (hv v (List.mem_cons_self ..))]
            · cases h2
        · cases h1
    cases u with
    | dct _ _ => exact hu.elim
    | box _ => exact hu.elim
    | scr _ => exact hu.elim
    | lst us =>
      simp only [toD, Option.map_eq_some_iff] at hd
      obtain ⟨ds, a1, rfl⟩ := hd
      cases v with
      | lst vs =>
        simp only [toD, Option.map_eq_some_iff] at he
        obtain ⟨es, b1, rfl⟩ := he
        rw [PyData.eqv, eqT]
        exact many us vs ds es hu hv a1 b1
      | tup vs => simp only [toD, Option.map_eq_some_iff] at he; obtain ⟨es, b1, rfl⟩ := he; rfl
      | non => cases he; rfl
      | bl _ => cases he; rfl
      | int _ => cases he; rfl
      | str _ => cases he; rfl
      | dct _ _ => exact hv.elim
      | box _ => exact hv.elim
      | scr ns => exact absurd rfl (hs ns)
    | tup us =>
      simp only [toD, Option.map_eq_some_iff] at hd
      obtain ⟨ds, a1, rfl⟩ := hd
      cases v with
      | tup vs =>
        simp only [toD, Option.map_eq_some_iff] at he
        obtain ⟨es, b1, rfl⟩ := he
        rw [PyData.eqv, eqT]
        exact many us vs ds es hu hv a1 b1
      | lst vs => simp only [toD, Option.map_eq_some_iff] at he; obtain ⟨es, b1, rfl⟩ := he; rfl
      | non => cases he; rfl
      | bl _ => cases he; rfl
      | int _ => cases he; rfl
      | str _ => cases he; rfl
      | dct _ _ => exact hv.elim
      | box _ => exact hv.elim
      | scr ns => exact absurd rfl (hs ns)
    | non => cases hd; cases v <;> first | (exact absurd rfl (hs _)) | exact hv.elim | (cases he; rfl) | (simp only [toD, Option.map_eq_some_iff] at he; obtain ⟨es, b1, rfl⟩ := he; rfl)
    | bl _ => cases hd; cases v <;> first | (exact absurd rfl (hs _)) | exact hv.elim | (cases he; rfl) | (simp only [toD, Option.map_eq_some_iff] at he; obtain ⟨es, b1, rfl⟩ := he; rfl)
    | int _ => cases hd; cases v <;> first | (exact absurd rfl (hs _)) | exact hv.elim | (cases he; rfl) | (simp only [toD, Option.map_eq_some_iff] at he; obtain ⟨es, b1, rfl⟩ := he; rfl)
    | str _ => cases hd; cases v <;> first | (exact absurd rfl (hs _)) | exact hv.elim | (cases he; rfl) | (simp only [toD, Option.map_eq_some_iff] at he; obtain ⟨es, b1, rfl⟩ := he; rfl)
theorem flt_scr {n : Nat} {v : U} (h : Flt n v) : ∀ ns, v ≠ .scr ns := fun ns z => by subst z; cases n <;> exact h
theorem eqU_flt {n : Nat} {u v : U} (hn : n ≤ 64) (hu : Flt n u) (hv : Flt n v) : eqU u v = some (eqT u v) := by
  obtain ⟨d, a1, a2, a3⟩ := flt_toD n u hu
  obtain ⟨e, b1, b2, b3⟩ := flt_toD n v hv
  have k := eqv_eqT n u v d e hu a1 b1 (flt_scr hv) hv
  have main : (match toD u, toD v with
    | some d, some e => if (SeqAt.shaped d && SeqAt.shaped e) = true then some (PyData.eqv d e) else none
    | _, _ => none) = some (eqT u v) := by
    rw [a1, b1]
    have s1 : SeqAt.shaped d = true := by unfold SeqAt.shaped; rw [a2, decide_eq_true (show d.depth ≤ 64 by omega)]; rfl
    have s2 : SeqAt.shaped e = true := by unfold SeqAt.shaped; rw [b2, decide_eq_true (show e.depth ≤ 64 by omega)]; rfl
    simp only [s1, s2, Bool.and_self, if_true, k]
  cases u <;> cases v <;> first | exact main | (simp [eqT, eqU])
end QB
/-! QbV: small facts: cells at the end of the row, last places, texts and lists as encoded lists. -/
namespace QB
open PySem L2
@[simp] theorem app_getQ {B0 : Bx} {c : Cell} {r : Bx} : (B0 ++ c :: r)[B0.length]? = some c := by simp
@[simp] theorem app_setQ {B0 : Bx} {c d : Cell} {r : Bx} : (B0 ++ c :: r).set B0.length d = B0 ++ d :: r := by simp [List.set_append]
theorem atI_neg1 {α : Type} (l : List α) : atI l (-1) = l.getLast? := by
  rcases List.eq_nil_or_concat l with rfl | ⟨m, a, rfl⟩
  · rfl
  · rw [List.concat_eq_append, atI_lastQ]; simp
def chr (c : Nat) : U := .str (ofC [c])
def nat (k : Nat) : U := .int (k : Int)
theorem nat_eq (k : Nat) : nat k = .int (k : Int) := rfl
theorem chr_eq (c : Nat) : chr c = .str (ofC [c]) := rfl
@[simp] theorem vu_chr {c : Nat} {B : Bx} : viewU (chr c) B = some (chr c) := rfl
@[simp] theorem vu_nat {c : Nat} {B : Bx} : viewU (nat c) B = some (nat c) := rfl
theorem enumQ {α : Type} (enc : α → U) (es : List α) (i : Nat) : ((es.map enc).mapIdx fun k u => U.tup [.int ((k + i : Nat) : Int), u]) = (es.zipIdx i).map fun p => U.tup [.int (p.2 : Int), enc p.1] := by
  induction es generalizing i with
  | nil => rfl
  | cons e es ih =>
    rw [List.map_cons, List.mapIdx_cons, List.zipIdx_cons, List.map_cons, ← ih (i + 1)]
    simp [Function.comp_def, Nat.add_assoc, Nat.add_comm 1 i]
theorem enumQ0 {α : Type} (enc : α → U) (es : List α) : ((es.map enc).mapIdx fun k u => U.tup [.int ((k : Nat) : Int), u]) = (es.zipIdx 0).map fun p => U.tup [.int (p.2 : Int), enc p.1] := enumQ enc es 0
theorem textU_map (l : List Nat) (j : Nat) : textU (ofC l) (j : Int) = (l.zipIdx j).map fun p => U.tup [.int (p.2 : Int), chr p.1] := by
  rw [← enumQ chr l j]
  unfold textU
  simp only [ofC_cps, mk1_ofC]
  apply List.ext_getElem?
  intro i
  simp only [List.getElem?_mapIdx, List.getElem?_map]
  cases l[i]? with
  | none => rfl
  | some c => simp [chr]; omega
@[simp] theorem e_mEnumT {fs gs : Ar} {E : En} {B : Bx} : mEnumT fs gs E B = (fs E B).bind fun us E1 B1 => (gs E1 B1).bind fun ws E2 B2 =>
  match us, ws with
  | [.str z], [.int j] => if I62 j = true then .ok (textU z j, yes) E2 B2 else .bad
  | _, _ => .bad := (rfl)
end QB
/-! QbW: the same of two trees, and a tree of one's own, as many laws write them. -/
namespace QB
open PySem L2
noncomputable def sameB (g : Fn) : Sm := sSeq (sIf (mTru (m1 (gIsiT ["list", "tuple"]) (mVar 1))) (sSeq (sIf (mOr (toT (m2 gNe (m1 (gIsi "list") (mVar 1)) (m1 (gIsi "list") (mVar 0)))) (toT (m2 gNe (m1 (gIsi "tuple") (mVar 1)) (m1 (gIsi "tuple") (mVar 0))))) (sRet (mC (.bl false))) (sNext)) (sRet (mAndV (m2 gEq (m1 gLen (mVar 0)) (m1 gLen (mVar 1))) (m1 gAll (mLc (mRange1 (mCons (m1 gLen (mVar 1)) (mNil))) (bdN 2) (mYes) (mCall g (mCons (m2 gIx (mVar 0) (mVar 2)) (mCons (m2 gIx (mVar 1) (mVar 2)) (mNil)))) [2]))))) (sNext)) (sSeq (sIf (toT (m2 (gIs false) (mVar 1) (mC .non))) (sRet (m2 (gIs false) (mVar 0) (mC .non))) (sNext)) (sSeq (sIf (mTru (m1 (gIsi "int") (mVar 1))) (sRet (mAndV (m1 (gIsi "int") (mVar 0)) (mAndV (m2 gEq (m1 (gIsi "bool") (mVar 0)) (m1 (gIsi "bool") (mVar 1))) (m2 gEq (mVar 0) (mVar 1))))) (sNext)) (sRet (mAndV (m1 (gIsi "str") (mVar 0)) (m2 gEq (mVar 0) (mVar 1))))))
noncomputable def sameF : Nat → Fn
  | 0 => fun _ _ => .bad
  | n + 1 => runBody 3 2 (sameB (sameF n))
noncomputable def ownB (g : Fn) : Sm := sSeq (sIf (mTru (m1 (gIsi "list") (mVar 0))) (sRet (mLc (mItV (mVar 0)) (bdN 1) (mYes) (mCall g (mCons (mVar 1) (mNil))) [1])) (sNext)) (sSeq (sIf (mTru (m1 (gIsi "tuple") (mVar 0))) (sRet (m1 gTupleOf (mLc (mItV (mVar 0)) (bdN 1) (mYes) (mCall g (mCons (mVar 1) (mNil))) [1]))) (sNext)) (sRet (mVar 0)))
noncomputable def ownF : Nat → Fn
  | 0 => fun _ _ => .bad
  | n + 1 => runBody 2 1 (ownB (ownF n))
/-- a tree at most n deep, without dicts and shared cells, of texts that may be laid -/
def Wf : Nat → U → Prop
  | 0, _ => False
  | n + 1, u => match u with
    | .non | .bl _ | .int _ => True
    | .str x => okS x = true
    | .lst us => us.length ≤ 20000 ∧ ∀ v ∈ us, Wf n v
    | .tup us => us.length ≤ 20000 ∧ ∀ v ∈ us, Wf n v
    | _ => False
theorem Wf.flt : ∀ {n : Nat} {u : U}, Wf n u → Flt n u
  | 0, _, h => h.elim
  | n + 1, u, h => by
    cases u with
    | non => trivial
    | bl _ => trivial
    | int _ => trivial
    | str _ => exact h
    | lst us => exact fun v hv => (h.2 v hv).flt
    | tup us => exact fun v hv => (h.2 v hv).flt
    | dct _ _ => exact h.elim
    | box _ => exact h.elim
    | scr _ => exact h.elim
theorem Wf.mono : ∀ {n m : Nat} {u : U}, Wf n u → n ≤ m → Wf m u
  | 0, _, _, h, _ => h.elim
  | n + 1, 0, _, _, hm => by omega
  | n + 1, m + 1, u, h, hm => by
    cases u with
    | non => trivial
    | bl _ => trivial
    | int _ => trivial
    | str _ => exact h
    | lst us => exact ⟨h.1, fun v hv => (h.2 v hv).mono (by omega)⟩
    | tup us => exact ⟨h.1, fun v hv => (h.2 v hv).mono (by omega)⟩
    | dct _ _ => exact h.elim
    | box _ => exact h.elim
    | scr _ => exact h.elim
def SmT (B : Bx) : Nat → U → U → Prop
  | 0, _, _ => False
  | n + 1, u, d => (∃ x, u = .str x ∧ d = .str x) ∨ (∃ b, u = .bl b ∧ d = .bl b) ∨ (∃ i, u = .int i ∧ d = .int i) ∨ (u = .non ∧ d = .non) ∨
    (∃ us ds, viewU u B = some (.lst us) ∧ d = .lst ds ∧ us.length = ds.length ∧ us.length ≤ 20000 ∧ ∀ (i : Nat) (a b : U), us[i]? = some a → ds[i]? = some b → SmT B n a b) ∨
    (∃ us ds, u = .tup us ∧ d = .tup ds ∧ us.length = ds.length ∧ us.length ≤ 20000 ∧ ∀ (i : Nat) (a b : U), us[i]? = some a → ds[i]? = some b → SmT B n a b)
theorem Wf.sm {B : Bx} : ∀ {n : Nat} {u : U}, Wf n u → SmT B n u u
  | 0, _, h => h.elim
  | n + 1, u, h => by
    cases u with
    | non => exact .inr (.inr (.inr (.inl ⟨rfl, rfl⟩)))
    | bl b => exact .inr (.inl ⟨b, rfl, rfl⟩)
    | int i => exact .inr (.inr (.inl ⟨i, rfl, rfl⟩))
    | str x => exact .inl ⟨x, rfl, rfl⟩
    | lst us => exact .inr (.inr (.inr (.inr (.inl ⟨us, us, rfl, rfl, rfl, h.1, fun i a b ha hb => by
        rw [ha] at hb; cases hb; exact (h.2 a (List.mem_of_getElem? ha)).sm⟩))))
    | tup us => exact .inr (.inr (.inr (.inr (.inr ⟨us, us, rfl, rfl, rfl, h.1, fun i a b ha hb => by
        rw [ha] at hb; cases hb; exact (h.2 a (List.mem_of_getElem? ha)).sm⟩))))
    | dct _ _ => exact h.elim
    | box _ => exact h.elim
    | scr _ => exact h.elim
theorem Wf.smB {B : Bx} {n j : Nat} {us : List U} (h : Wf n (.lst us)) (hj : B[j]? = some (.lst us)) : SmT B n (.box j) (.lst us) := by
  cases n with
  | zero => exact h.elim
  | succ n =>
    exact .inr (.inr (.inr (.inr (.inl ⟨us, us, by simp [hj], rfl, rfl, h.1, fun i a b ha hb => by
        rw [ha] at hb; cases hb; exact (h.2 a (List.mem_of_getElem? ha)).sm⟩))))
theorem same_lc {g : Fn} {B : Bx} {u d : U} {us ds : List U} (hu : viewU u B = some (.lst us) ∨ u = .tup us) (hd : d = .lst ds ∨ d = .tup ds) (hl : us.length = ds.length) (hl2 : us.length ≤ 20000)
    (h : ∀ (i : Nat) (a b : U), us[i]? = some a → ds[i]? = some b → g [a, b] B = .ok (.bl true) B) :
    (mLc (mRange1 (mCons (m1 gLen (mVar 1)) (mNil))) (bdN 2) (mYes) (mCall g (mCons (m2 gIx (mVar 0) (mVar 2)) (mCons (m2 gIx (mVar 1) (mVar 2)) (mNil)))) [2]) [.val u, .val d, .un] B = .ok (.fr (.lst ((List.range ds.length).map fun _ => .bl true))) [.val u, .val d, .un] B := by
  have i1 : I62 (ds.length : Int) = true := i62 (by omega) (by omega)
  have lc := mLc_map nat (fun _ => true) (fun _ => .bl true) (fi := mRange1 (mCons (m1 gLen (mVar 1)) (mNil))) (bd := bdN 2) (t := mYes) (f := mCall g (mCons (m2 gIx (mVar 0) (mVar 2)) (mCons (m2 gIx (mVar 1) (mVar 2)) (mNil)))) (ks := [2]) (xs := List.range ds.length) (E := [.val u, .val d, .un]) (B := B) (E1 := [.val u, .val d, .un]) (B1 := B) (chk := yes)
    (by rcases hd with rfl | rfl <;> simp [i1, intsU_map, nat]) trivial (by simp) (by simp) (by simp; omega) (fun k hk => by
      have hk := List.mem_range.mp hk
      have hk' : k < us.length := by omega
      have g1 := h k us[k] ds[k] (List.getElem?_eq_getElem _) (List.getElem?_eq_getElem _)
      rcases hu with hu | rfl <;> rcases hd with rfl | rfl <;> simp [Tst, Elt, nat, *])
  rw [fil_true] at lc
  exact lc
theorem same_an (n : Nat) : gAll (.lst ((List.range n).map fun _ => .bl true)) = some (.w (.bl true)) := by
  have an := e_all' (l := List.range n) (p := fun _ => true)
  rw [an]; simp
theorem same_ok {B : Bx} : ∀ (n : Nat) (u d : U), SmT B n u d → sameF n [u, d] B = .ok (.bl true) B
  | 0, _, _, h => h.elim
  | n + 1, u, d, h => by
    rcases h with ⟨x, rfl, rfl⟩ | ⟨b, rfl, rfl⟩ | ⟨i, rfl, rfl⟩ | ⟨rfl, rfl⟩ | ⟨us, ds, h1, rfl, h3, h4, h5⟩ | ⟨us, ds, rfl, rfl, h3, h4, h5⟩
    · simp [sameF, runBody, sameB]
    · simp [sameF, runBody, sameB]
    · simp [sameF, runBody, sameB]
    · simp [sameF, runBody, sameB]
    · have lc := same_lc (g := sameF n) (.inl h1) (.inl rfl) h3 h4 fun i a b ha hb => same_ok n a b (h5 i a b ha hb)
      have e3 : ((us.length : Int) == (ds.length : Int)) = true := by rw [beq_iff_eq]; omega
      simp only [sameF]
      refine run_is rfl ?_
      simp only [sameB, List.map_cons, List.map_nil, List.length_cons, List.length_nil, Nat.reduceAdd, Nat.reduceSub, List.replicate_succ, List.replicate_zero, List.cons_append, List.nil_append, Nat.zero_add, Nat.sub_self, List.append_nil]
      refine okP_seqT ?_
      refine okP_ift0 (by simp; done) ?_
      refine okP_seqT ?_
      refine okP_lock fun LQ hLQ => ?_
      simp [h1]
      refine hLQ _ _ _ (then_nx ?_)
      refine okP_lock fun LQ hLQ => ?_
      simp [h1, e3, lc, same_an]
      exact hLQ _ _ _ (then_rt ret_is)
    · have lc := same_lc (g := sameF n) (B := B) (.inr rfl) (.inr rfl) h3 h4 fun i a b ha hb => same_ok n a b (h5 i a b ha hb)
      have e3 : ((us.length : Int) == (ds.length : Int)) = true := by rw [beq_iff_eq]; omega
      simp only [sameF]
      refine run_is rfl ?_
      simp only [sameB, List.map_cons, List.map_nil, List.length_cons, List.length_nil, Nat.reduceAdd, Nat.reduceSub, List.replicate_succ, List.replicate_zero, List.cons_append, List.nil_append, Nat.zero_add, Nat.sub_self, List.append_nil]
      refine okP_seqT ?_
      refine okP_ift0 (by simp; done) ?_
      refine okP_seqT ?_
      refine okP_lock fun LQ hLQ => ?_
      simp
      refine hLQ _ _ _ (then_nx ?_)
      refine okP_lock fun LQ hLQ => ?_
      simp [e3, lc, same_an]
      exact hLQ _ _ _ (then_rt ret_is)
theorem own_ok {B : Bx} : ∀ (n : Nat) (u : U), Wf n u → ownF n [u] B = .ok u B
  | 0, _, h => h.elim
  | n + 1, u, h => by
    have lc : ∀ (u : U) (us : List U), us.length ≤ 20000 → (∀ v ∈ us, Wf n v) → itemsOf u B = some (us, yes) → (mLc (mItV (mVar 0)) (bdN 1) (mYes) (mCall (ownF n) (mCons (mVar 1) (mNil))) [1]) [.val u, .un] B = .ok (.fr (.lst us)) [.val u, .un] B := by
      intro u us hl hw hi
      have lc := mLc_map id (fun _ => true) id (fi := mItV (mVar 0)) (bd := bdN 1) (t := mYes) (f := mCall (ownF n) (mCons (mVar 1) (mNil))) (ks := [1]) (xs := us) (E := [.val u, .un]) (B := B) (E1 := [.val u, .un]) (B1 := B) (chk := yes)
        (by simp [hi]) trivial (by simp) (by simp) (by omega) (fun v hv => by simp [Tst, Elt, own_ok n v (hw v hv)])
      rw [fil_true, List.map_id] at lc
      exact lc
    cases u with
    | non => simp [ownF, runBody, ownB]
    | bl b => simp [ownF, runBody, ownB]
    | int i => simp [ownF, runBody, ownB]
    | str x => simp [ownF, runBody, ownB]
    | lst us =>
      have lc := lc (.lst us) us h.1 h.2 rfl
      simp only [ownF]
      refine run_is rfl ?_
      simp only [ownB, List.map_cons, List.map_nil, List.length_cons, List.length_nil, Nat.reduceAdd, Nat.reduceSub, List.replicate_succ, List.replicate_zero, List.cons_append, List.nil_append, Nat.zero_add, Nat.sub_self, List.append_nil]
      refine okP_seqT ?_
      refine okP_ift0 (by simp; done) ?_
      refine okP_lock fun LQ hLQ => ?_
      simp [lc]
      exact hLQ _ _ _ (then_rt ret_is)
    | tup us =>
      have lc := lc (.tup us) us h.1 h.2 rfl
      simp only [ownF]
      refine run_is rfl ?_
      simp only [ownB, List.map_cons, List.map_nil, List.length_cons, List.length_nil, Nat.reduceAdd, Nat.reduceSub, List.replicate_succ, List.replicate_zero, List.cons_append, List.nil_append, Nat.zero_add, Nat.sub_self, List.append_nil]
      refine okP_seqL fun LQ hLQ => ?_
      simp
      refine hLQ _ _ _ (then_nx ?_)
      clear hLQ LQ
      refine okP_seqT ?_
      refine okP_ift0 (by simp; done) ?_
      refine okP_lock fun LQ hLQ => ?_
      rw [e_sRet, e_m1, lc]
      simp
      exact hLQ _ _ _ (then_rt ret_is)
    | dct _ _ => exact h.elim
    | box _ => exact h.elim
    | scr _ => exact h.elim
theorem eqU_nil {n : Nat} {us : List U} (hn : n + 1 ≤ 64) (h : Flt (n + 1) (.lst us)) : eqU (.lst us) (.lst []) = some us.isEmpty := by
  have f0 : Flt (n + 1) (.lst []) := fun v hv => by cases hv
  rw [eqU_flt hn h f0]
  cases us <;> rfl
theorem flt_nats {n : Nat} {ks : List Nat} : Flt (n + 2) (.lst (ks.map nat)) := by
  intro v hv
  obtain ⟨_, _, rfl⟩ := List.mem_map.mp hv
  trivial
theorem wf_nats {n : Nat} {ks : List Nat} (h : ks.length ≤ 20000) : Wf (n + 2) (.lst (ks.map nat)) := by
  refine ⟨by simpa using h, fun v hv => ?_⟩
  obtain ⟨_, _, rfl⟩ := List.mem_map.mp hv
  trivial
end QB
/-! QbX: sorted of lists, of a list's set. -/
namespace QB
open PySem L2 PyProof.Rows
section
variable {P : Program} {w : World} {A : Around} {E : Value → Shared → Prop} {s : Shared}
/-- an empty set as the class makes it -/
abbrev eSet (w : World) : Obj := { cls := .type "set", dict := none, data := .set #[] 0 (.fresh 0 0 (!w.params.followText "set-order")) }
abbrev inits (w : World) (s : Shared) (ns : List Int) : Value → Shared → Prop := fun r z => r = .none ∧ ∃ g tk c, z = { s with heap := g, toks := tk } ∧ SetR w g s.heap.objs.size (fun j => decide (j ∈ ns)) c ∧ c ≤ ns.length ∧ ∀ b o, s.heap.get? b = some o → g.get? b = some o
set_option maxHeartbeats 3200000 in
theorem setOfList {l : Addr} {its : Array Value} (ns : List Int) {Q : Value → Shared → Prop} (hh : A.handled = none) (hl : s.heap.IsList l its) (hit : IntsAre its.toList ns) (hb : ns.length + 1 < scanBound)
    (q : ∀ (g : Heap) (tk c : Nat), SetR w g s.heap.objs.size (fun j => decide (j ∈ ns)) c → c ≤ ns.length → (∀ b o, s.heap.get? b = some o → g.get? b = some o) → Q (.ref s.heap.objs.size) { s with heap := g, toks := tk }) :
    wpAny (model P w) A (call (.type "set") [.ref l]) Q E s := by
  have len : its.size = ns.length := by have z := IntsAre.length hit; rwa [Array.length_toList] at z
  obtain ⟨c, tl, o1⟩ := F.called_set.mro
  have o2 := F.called_set.made
  have o3 := F.called_set.sub
  refine wpAny_call (codeAny_of_tree (show wpAny _ _ (callAny (.type "set") _) _ _ _ from ?_))
  refine wpAny_pure ⟨Code.quiet_builtin _ (by decide +kernel), codeAny_builtin F.entry_type_call ?_⟩
  rw [Around.under_plain (weight_type_call_type "set" [.ref l] []) rfl]
  have o4 := F.called_set.notType
  have o5 := F.called_set.canCreate
  have o6 := F.typeCall_set_1 (.ref l)
  repeat (any_goals (first | assumption | wp_step))
  refine codeAny_mono (code_set_led1 (.ref l) (E := E) (Q₁ := fun v z => v = .ref s.heap.objs.size ∧ z = { s with heap := s.heap.push (eSet w) }) ⟨rfl, rfl⟩) fun r z hr => ?_
  cases r with
  | error e => exact hr
  | ok fl =>
    cases fl with
    | ret v =>
      obtain ⟨rfl, rfl⟩ := hr
      have at0 : (s.heap.push (eSet w)).get? s.heap.objs.size = some (eSet w) := Heap.get?_push_size _ rfl
      have ty : Shared.TypeIs { s with heap := s.heap.push (eSet w) } (.ref s.heap.objs.size) "set" := ⟨_, at0, rfl⟩
      have o7 := F.called_set.init.lookup
      have o8 := F.called_set.init.bind (.ref s.heap.objs.size)
      repeat (any_goals (first | assumption | wp_step))
      refine codeAny_mono (codeAny_call_builtin (R := wants (inits w s ns) E) F.called_set.init.plain F.entry_set_init (check_set_init_1 ty ?_)) fun r2 z2 hr2 => ?_
      · obtain ⟨⟨oc, od, ot, os⟩, hol, hcl, nl, hdl⟩ := hl
        simp only at hcl hdl
        subst hcl; subst hdl
        have hol2 : (s.heap.push (eSet w)).get? l = some { cls := .type "list", dict := od, data := .seq its nl, slots := os } := Heap.get?_push_of_some _ hol
        have p1 := F.sub_list_set
        have p2 := F.sub_list_frozenset
        have p3 : (Value.type "list" == Value.type "dict") = false := by decide
        have isl : (s.heap.push (eSet w)).IsList l its := ⟨_, hol2, rfl, nl, rfl⟩
        unfold Builtin.«set.__init__» noKeywords Builtin.Frozenset.updateFrom
        generalize hPI : pyIter = PI
        wp_walk
        subst hPI
        refine wpAny_pyIter_list isl (wpAny_bind (wpAny_runValue ?_))
        have lS : l < s.heap.objs.size := Heap.lt_size hol
        have hd3 : A.in1.in1.in1.handled = none := by simp [hh]
        have ne1 : l ≠ (s.heap.push (eSet w)).objs.size := by rw [Heap.size_push]; exact Nat.ne_of_lt (Nat.lt_succ_of_lt lS)
        have ne2 : s.heap.objs.size ∉ [(s.heap.push (eSet w)).objs.size, l] := by
          rw [Heap.size_push]
          intro z
          rcases List.mem_cons.mp z with z | z
          · exact Nat.ne_of_lt (Nat.lt_succ_self _) z
          · exact Nat.ne_of_gt lS (List.mem_singleton.mp z)
        have vals : ∀ (i : Nat) (v : Value), its[i]? = some v → ∃ k t, ns[i]? = some k ∧ v = .int k t := fun i v hv => by
          have hi : i < ns.length := by rw [← len]; exact (Array.getElem?_eq_some_iff.mp hv).1
          obtain ⟨t, e⟩ := IntsAre.int_at hit i v (by rwa [Array.getElem?_toList])
          exact ⟨ns[i], t, List.getElem?_eq_getElem hi, by rw [e, List.getD_eq_getElem?_getD, List.getElem?_eq_getElem hi]; rfl⟩
        refine set_update_ints ((Walks.list hd3 _ l ne1 its).toS) s.heap.objs.size ne2 ns len hb vals (its.size - 0) 0 _ (by omega) (Nat.zero_le _) ⟨⟨_, Heap.get?_push_size _ rfl, rfl, rfl⟩, isl.push _⟩ ?a0 ?a1
        case a0 => exact ⟨0, Nat.le_refl 0, setR_new_at (Heap.get?_push_of_some _ at0)⟩
        case a1 =>
          rintro ⟨g, g2, d2, tk, os2⟩ c2 mv le R
          have e1 : g2 = s.gens := mv.gens
          have e2 : d2 = s.drawn := mv.drawn
          have e3 : os2 = s.os := mv.os
          subst e1; subst e2; subst e3
          show wpAny _ _ _ _ _ _
          refine wpAny_pure (show wpAny _ _ (ret Value.none) _ _ _ from ?_)
          rw [len] at le
          refine wpAny_pure ⟨rfl, g, tk, c2, rfl, R, le, fun b o e => mv.heap b o ?_ (Heap.get?_push_of_some _ (Heap.get?_push_of_some _ e))⟩
          have b0 : b < s.heap.objs.size := Heap.lt_size e
          intro z
          rcases List.mem_cons.mp z with z | z
          · exact Nat.ne_of_lt b0 z
          · have y := List.mem_singleton.mp z
            rw [Heap.size_push] at y
            exact Nat.ne_of_lt (Nat.lt_succ_of_lt b0) y
      · cases r2 with
        | error e => exact hr2
        | ok fl2 =>
          cases fl2 with
          | ret r =>
            obtain ⟨rfl, g, tk, c2, rfl, R, le, kp⟩ := hr2
            repeat (any_goals (first | assumption | wp_step))
            exact q _ _ _ R le kp
          | _ => exact hr2.elim
    | _ => exact hr.elim
end
theorem nodup_le {α : Type} [DecidableEq α] : ∀ {l r : List α}, l.Nodup → (∀ x ∈ l, x ∈ r) → l.length ≤ r.length
  | [], r, _, _ => by simp
  | a :: l, r, hn, h => by
    obtain ⟨h1, h2⟩ := List.nodup_cons.mp hn
    have ha := h a (List.mem_cons_self ..)
    have := nodup_le (l := l) (r := r.erase a) h2 fun x hx => by
      have : x ≠ a := fun z => h1 (z ▸ hx)
      exact (List.mem_erase_of_ne this).mpr (h x (List.mem_cons_of_mem _ hx))
    have e := List.length_erase_of_mem ha
    have hp : 0 < r.length := List.length_pos_of_mem ha
    rw [List.length_cons]
    omega
section
variable {X : Cx}
def rSetOfL (K : PySem.W.Frag) (w : World) : List V → Hp → VK → Prop := fun vs H Q => ∃ (l : Addr) (ns r : List Int), vs = [.ref l] ∧ SqL K H l (ns.map V.int) ∧ ns.length ≤ 4000 ∧ (∀ k ∈ ns, k ∈ r) ∧ ∀ p c, H p = none → c ≤ r.length → Q (.ref p) (upd H p (SetO w p (fun j => decide (j ∈ ns)) c))
theorem cr_setOfL (hc : X.calm = true) : CallR X (.type "set") (rSetOfL X.K X.w) := by
  intro pins s σ H vs us Q I r h
  obtain ⟨l, ns, rr, rfl, hs, hl, hsub, q⟩ := h
  obtain ⟨its, rv, hlist, _⟩ := I.list hs
  rw [Vals.ref1 r]
  have hi := rv.ints
  refine setOfList ns (I.ok.hd hc) hlist.isList hi (by unfold scanBound; omega) fun g tk c R hcl kp => ?_
  have hn : H s.heap.objs.size = none := I.hok.fresh (Nat.le_refl _)
  have le : c ≤ rr.length := by
    obtain ⟨o, es, ep, t, h1, h2, h3, h4, h5, h6, h7, h8, h9, h10⟩ := R
    have : (es.toList.map keyOf).length ≤ rr.length := nodup_le h5 fun x hx => hsub x (by simpa using (h6 x).mpr hx)
    rw [List.length_map, Array.length_toList, h9] at this
    exact this
  have J := I.laid (t' := tk) (fun b o e => kp b o e) (Nat.le_refl _) (setO_new R)
  exact ⟨.ref s.heap.objs.size, _, J, rfl, q _ c hn le⟩
end
end QB
/-! QbY: sorted(..) of ints, sorted(set(..)) of ints. -/
namespace QB
open PySem L2 PyProof.Rows
def sortI (ns : List Int) : List Int := ns.mergeSort fun a b => decide (a ≤ b)
theorem perm_sorted_eq : ∀ {l r : List Int}, l.Perm r → l.Pairwise (· ≤ ·) → r.Pairwise (· ≤ ·) → l = r
  | [], r, p, _, _ => by rw [List.nil_perm.mp p]
  | a :: l, [], p, _, _ => by have := p.length_eq; simp at this
  | a :: l, b :: r, p, h1, h2 => by
    have a1 : b ≤ a := by
      rcases List.mem_cons.mp (p.mem_iff.mp (List.mem_cons_self ..)) with h | h
      · omega
      · exact (List.pairwise_cons.mp h2).1 a h
    have a2 : a ≤ b := by
      rcases List.mem_cons.mp (p.mem_iff.mpr (List.mem_cons_self ..)) with h | h
      · omega
      · exact (List.pairwise_cons.mp h1).1 b h
    have e : a = b := by omega
    subst e
    rw [perm_sorted_eq ((List.perm_cons a).mp p) (List.pairwise_cons.mp h1).2 (List.pairwise_cons.mp h2).2]
theorem sortI_perm (ns : List Int) : (sortI ns).Perm ns := List.mergeSort_perm ..
theorem sortI_sorted (ns : List Int) : (sortI ns).Pairwise (· ≤ ·) := by
  have := List.pairwise_mergeSort (le := fun a b : Int => decide (a ≤ b)) (fun a b c h1 h2 => by simp at *; omega) (fun a b => by simp; omega) ns
  exact this.imp fun h => by simpa using h
theorem sortI_eq {ns r : List Int} (p : r.Perm ns) (h : r.Pairwise (· ≤ ·)) : sortI ns = r := perm_sorted_eq ((sortI_perm ns).trans p.symm) (sortI_sorted ns) h
/-- the members, each once, ascending -/
def sortSI (ns : List Int) : List Int := sortI ns.eraseDups
theorem mem_sortSI {ns : List Int} {k : Int} : k ∈ sortSI ns ↔ k ∈ ns := by
  rw [sortSI, (sortI_perm _).mem_iff, List.mem_eraseDups]
theorem lt_nodup {l : List Int} (h : l.Pairwise (· < ·)) : l.Nodup := h.imp fun h => by omega
theorem nodup_dups : ∀ (n : Nat) (l : List Int), l.length ≤ n → l.eraseDups.Nodup
  | 0, l, h => by
    have : l = [] := List.eq_nil_of_length_eq_zero (by omega)
    subst this; simp
  | n + 1, [], _ => by simp
  | n + 1, a :: l, h => by
    rw [List.eraseDups_cons, List.nodup_cons]
    refine ⟨fun z => ?_, nodup_dups n _ ?_⟩
    · rw [List.mem_eraseDups, List.mem_filter] at z
      simp at z
    · have := List.length_filter_le (fun b => !b == a) l
      rw [List.length_cons] at h
      omega
theorem sortSI_eq {ns r : List Int} (h : r.Pairwise (· < ·)) (m : ∀ k, k ∈ r ↔ k ∈ ns) : sortSI ns = r := by
  refine sortI_eq ?_ (h.imp fun h => by omega)
  refine (List.perm_ext_iff_of_nodup (lt_nodup h) (nodup_dups _ _ (Nat.le_refl _))).mpr fun k => ?_
  rw [m, List.mem_eraseDups]
def intsOf : List U → Option (List Int)
  | [] => some []
  | .int i :: us => (intsOf us).map (i :: ·)
  | _ => none
theorem intsOf_reps {K : PySem.W.Frag} {H : Hp} {Lv : AS} {ρ : List Addr} : ∀ {us : List U} {vs : List V} {ns : List Int}, Reps K H Lv ρ us vs → intsOf us = some ns → vs = ns.map V.int
  | [], vs, ns, h, e => by simp only [Reps] at h; subst h; simp only [intsOf, Option.some.injEq] at e; subst e; rfl
  | u :: us, vs, ns, h, e => by
    simp only [Reps] at h
    obtain ⟨v, r, rfl, h1, h2⟩ := h
    cases u <;> simp only [intsOf] at e <;> try (cases e; done)
    next i =>
      obtain ⟨ms, e1, rfl⟩ := Option.map_eq_some_iff.mp e
      simp only [Rep] at h1
      subst h1
      rw [intsOf_reps h2 e1]
      rfl
theorem intsOf_map : ∀ ns : List Int, intsOf (ns.map .int) = some ns
  | [] => rfl
  | n :: ns => by rw [List.map_cons, intsOf, intsOf_map ns]; rfl
theorem reps_ints {K : PySem.W.Frag} {H : Hp} {Lv : AS} {ρ : List Addr} : ∀ ns : List Int, Reps K H Lv ρ (ns.map .int) (ns.map V.int)
  | [] => Reps.nil
  | n :: ns => Reps.cons (by simp [Rep]) (reps_ints ns)
def gSortedI : U → Option R
  | .lst us => (intsOf us).map fun ns => .fr (.lst ((sortI ns).map .int))
  | .scr ns => some (.fr (.lst ((sortI ns).map .int)))
  | _ => none
def gSortSet : U → Option R
  | .lst us => (intsOf us).bind fun ns => if ns.length ≤ 4000 ∧ (sortSI ns).length < 64 then some (.fr (.lst ((sortSI ns).map .int))) else none
  | _ => none
section
variable {X : Cx} {a : Expr} {fa : Ex} {p p2 q pos : Pos}
theorem call1_sortedI : Call1S X (.builtin "sorted") gSortedI := by
  refine ⟨_, cr_sortedI, fun F ρ E B σ H u1 v1 r3 Q rl t e q => ?_⟩
  have fin : ∀ (ns ns' : List Int) (p : Addr), ns'.Perm ns → ns'.Pairwise (· ≤ ·) → H p = none → r3 = .fr (.lst ((sortI ns).map .int)) → Q (.ref p) (upd H p (.lst (ns'.map V.int))) := by
    intro ns ns' p h1 h2 h3 e3
    rw [← sortI_eq h1 h2]
    subst e3
    exact q _ _ (Aft.fresh rl h3 (reps_ints _))
  unfold gSortedI at e
  split at e
  · next us =>
    obtain ⟨ns, e1, rfl⟩ := Option.map_eq_some_iff.mp e
    obtain ⟨p, vs, rfl, h1, h2⟩ := t
    have := intsOf_reps h2 e1
    subst this
    exact ⟨p, ns, rfl, .inl (.inl h1), fun ns' p' h3 h4 h5 => fin ns ns' p' h3 h4 h5 rfl⟩
  · next ns =>
    cases e
    simp only [Top, Rep] at t
    obtain ⟨p, rfl, h1⟩ := t
    exact ⟨p, ns, rfl, sqL_of h1, fun ns' p' h3 h4 h5 => fin ns ns' p' h3 h4 h5 rfl⟩
  · cases e
theorem sndE_sortSet (hc : X.calm = true) (hm : X.mg "sorted" = none) (hm2 : X.mg "set" = none) (ha : SndE X a fa) (hg : Gl X "sorted" := by rfl) (hg2 : Gl X "set" := by rfl)
    (hs : starEach [a] X.env = (false, eval a X.env) :: starEach [] X.env := by rfl) (hs2 : starEach [.Call (.Name "set" p2) [a] [] q] X.env = (false, eval (.Call (.Name "set" p2) [a] [] q) X.env) :: starEach [] X.env := by rfl) :
    SndE X (.Call (.Name "sorted" p) [.Call (.Name "set" p2) [a] [] q] [] pos) (m1 gSortSet fa) := by
  obtain ⟨ta, pa, ha⟩ := ha
  have p1 := pe_callTy (pos := q) (p := p2) (cr_setOfL hc) hg2 hm2 (by decide +kernel) (pa_cons pa pa_nil hs) (by decide) (by decide) hs
  refine ⟨_, pe_callB (cr_sortedSet hc) hg hm (by decide +kernel) (pa_cons p1 pa_nil hs2) (by decide) (by decide) hs2, m1_ok (r := fun v H Q => rSetOfL X.K X.w [v] H fun u H1 => rSortedSet X.w [u] H1 Q) (fun F ρ E B σ H u1 v1 r3 Q rl t e q => ?_) ha⟩
  unfold gSortSet at e
  split at e
  · next us =>
    obtain ⟨ns, e1, e2⟩ := Option.bind_eq_some_iff.mp e
    split at e2
    · next hl =>
      cases e2
      obtain ⟨p, vs, rfl, h1, h2⟩ := t
      have := intsOf_reps h2 e1
      subst this
      refine ⟨p, ns, sortSI ns, rfl, .inl (.inl h1), hl.1, fun k hk => mem_sortSI.mpr hk, fun p' c hp hcl => ?_⟩
      refine ⟨p', _, c, rfl, upd_same, by omega, fun ns' p2 h3 h4 h5 h6 => ?_⟩
      have e : sortSI ns = ns' := sortSI_eq h3 fun k => by rw [h4]; simp
      rw [← e]
      have g : ∀ q o, H q = some o → (upd H p' (SetO X.w p' (fun j => decide (j ∈ ns)) c)) q = some o := fun q o h => by rw [upd_ne (ne_of_none h hp)]; exact h
      have rl2 := rl.growH g
      have A := Aft.fresh rl2 h6 (reps_ints (sortSI ns))
      refine q _ _ ⟨A.px, A.rel, (grow_stp rl g).trans A.stp, A.le, A.rep⟩
    · cases e2
  · cases e
end
end QB
/-! QbZ: comprehensions without a test; small words. -/
namespace QB
open PySem L2
theorem mLc_all {α : Type} (enc : α → U) (y : α → U) {fi : Iv} {bd : Bd} {f : Ex} {ks : List Nat} {xs : List α} {E : En} {B : Bx} (hi : fi E B = .ok (xs.map enc, yes) E B) (hn : noOwn E ks = true) (hw : wipeE E ks = E) (hl : xs.length ≤ 16777216)
    (h : ∀ x ∈ xs, BdIs (bd (enc x) E) fun E2 => wipeE E2 ks = E ∧ Elt f B (y x) E2) :
    mLc fi bd mYes f ks E B = .ok (.fr (.lst (xs.map y))) E B := by
  have e := mLc_map (t := mYes) enc (fun _ => true) y hi (chk := yes) trivial hn hw hl fun x hx => by
    obtain ⟨E2, e1, e2, e3⟩ := (h x hx).get
    exact BdIs_of e1 ⟨e2, by simp [Tst], fun _ => e3⟩
  rwa [fil_true] at e
theorem mLc_if {α : Type} (enc : α → U) (p : α → Bool) (y : α → U) {fi : Iv} {bd : Bd} {t : Te} {f : Ex} {ks : List Nat} {xs : List α} {E : En} {B : Bx} (hi : fi E B = .ok (xs.map enc, yes) E B) (hn : noOwn E ks = true) (hw : wipeE E ks = E) (hl : xs.length ≤ 16777216)
    (h : ∀ x ∈ xs, BdIs (bd (enc x) E) fun E2 => wipeE E2 ks = E ∧ Tst t B (p x) E2 ∧ (p x = true → Elt f B (y x) E2)) :
    mLc fi bd t f ks E B = .ok (.fr (.lst ((xs.filter p).map y))) E B := mLc_map enc p y hi (chk := yes) trivial hn hw hl h
/-- .. that walks a shared list -/
theorem mLc_ifB {α : Type} (enc : α → U) (p : α → Bool) (y : α → U) {chk : Bx → Prop} {fi : Iv} {bd : Bd} {t : Te} {f : Ex} {ks : List Nat} {xs : List α} {E : En} {B : Bx} (hi : fi E B = .ok (xs.map enc, chk) E B) (hc : chk B) (hn : noOwn E ks = true) (hw : wipeE E ks = E) (hl : xs.length ≤ 16777216)
    (h : ∀ x ∈ xs, BdIs (bd (enc x) E) fun E2 => wipeE E2 ks = E ∧ Tst t B (p x) E2 ∧ (p x = true → Elt f B (y x) E2)) :
    mLc fi bd t f ks E B = .ok (.fr (.lst ((xs.filter p).map y))) E B := mLc_map enc p y hi hc hn hw hl h
/-- a comprehension whose elements are drawn, as an answer -/
theorem lcDraw {α β : Type} (enc : α → U) (out : β → U) {fi : Iv} {bd : Bd} {f : Ex} {ks : List Nat} {xs : List α} {E : En} {B B1 : Bx} (hi : fi E B1 = .ok (xs.map enc, yes) E B) (hn : noOwn E ks = true) (hw : wipeE E ks = E) (hl : xs.length ≤ 16777216) (I : Nat → List β → Bx → Prop) (h : I xs.length [] B)
    (step : ∀ x (n : Nat) (acc : List β) (B : Bx), x ∈ xs → acc.length + (n + 1) = xs.length → I (n + 1) acc B → BdIs (bd (enc x) E) fun E2 => wipeE E2 ks = E ∧ ∃ (w : R) (v : β) (B3 : Bx), f E2 B = .ok w E2 B3 ∧ settle w E2 = some (out v, E2) ∧ I n (acc ++ [v]) B3) :
    ∃ (vs : List β) (B' : Bx), mLc fi bd mYes f ks E B1 = .ok (.fr (.lst (vs.map out))) E B' ∧ vs.length = xs.length ∧ I 0 vs B' := by
  have k := okP_lcM enc (bd := bd) (f := f) (ks := ks) (Q := fun r E' B' => ∃ vs : List β, r = .fr (.lst (vs.map out)) ∧ E' = E ∧ vs.length = xs.length ∧ I 0 vs B') hi hn hw hl
    (fun q acc B' => ∃ vs : List β, acc = vs.map out ∧ vs.length + q.length = xs.length ∧ (∀ x ∈ q, x ∈ xs) ∧ I q.length vs B') ⟨[], rfl, by simp, fun _ h => h, h⟩
    (by
      rintro x q acc B' ⟨vs, rfl, hl, hm, hI⟩
      rw [List.length_cons] at hl hI
      obtain ⟨E2, e1, e2, w, v, B3, e3, e4, e5⟩ := (step x q.length vs B' (hm x (List.mem_cons_self ..)) hl hI).get
      exact BdIs_of e1 ⟨e2, w, out v, B3, e3, e4, vs ++ [v], by simp, by simp; omega, fun y hy => hm y (List.mem_cons_of_mem _ hy), e5⟩)
    (by rintro acc B' ⟨vs, rfl, hl, hm, hI⟩; exact ⟨vs, rfl, rfl, by simpa using hl, hI⟩)
  obtain ⟨r, E', B', e, vs, rfl, rfl, h1, h2⟩ := k.get
  exact ⟨vs, B', e, h1, h2⟩
@[simp] theorem pick10 {a b : U} : pick [1, 0] [a, b] = [b, a] := rfl
@[simp] theorem revS_ofC (l : List Nat) : revS (ofC l) = ofC l.reverse := rfl
theorem G_any {α : Type} {l : List α} {p : α → Bool} : gAny (.lst (l.map fun x => .bl (p x))) = some (.w (.bl (l.any p))) := e_any'
theorem in_nats {n : Nat} {ks : List Nat} : inU (.int (n : Int)) (.lst (ks.map nat)) = some (decide (n ∈ ks)) := by
  have e : ∀ ks : List Nat, flatUs (ks.map nat) = some (ks.map fun (k : Nat) => V.int (k : Int)) := by
    intro ks
    induction ks with
    | nil => rfl
    | cons k ks ih => rw [List.map_cons, flatUs, ih]; rfl
  have e2 : inU (.int (n : Int)) (.lst (ks.map nat)) = (match flatU (.int (n : Int)), (seqOf (.lst (ks.map nat))).bind flatUs with
    | some v, some vs => some (inV v vs)
    | _, _ => none) := rfl
  rw [e2]
  simp only [seqOf, Option.bind_some, e, flatU]
  congr 1
  rw [inV, List.any_map, Bool.eq_iff_iff, List.any_eq_true, decide_eq_true_iff]
  constructor
  · rintro ⟨k, hk, h⟩
    have : (k : Int) = (n : Int) := by simpa [eqV, Function.comp] using h
    have : k = n := by omega
    subst this; exact hk
  · intro h
    exact ⟨n, h, by simp [eqV, Function.comp]⟩
theorem atI_mem {α : Type} {l : List α} {v : Int} (h0 : 0 ≤ v) (h1 : v < l.length) : ∃ c ∈ l, atI l v = some c := by
  have hk : v.toNat < l.length := by omega
  refine ⟨l[v.toNat], List.getElem_mem hk, ?_⟩
  rw [atI_of (k := v.toNat) (by omega), List.getElem?_eq_getElem hk]
theorem join_chr {ls : List Nat} (h : ls.length ≤ 16777216) : gJoin (.str (ofC [])) [.lst (ls.map chr)] = some (.w (.str (ofC ls))) := by
  have e := e_join (ls := ls.map fun c => [c])
  have e2 : ∀ ls : List Nat, (ls.map fun c => [c]).flatten = ls := by
    intro ls
    induction ls with
    | nil => rfl
    | cons c ls ih => rw [List.map_cons, List.flatten_cons, ih]; rfl
  rw [e2, if_pos h] at e
  rw [← e, List.map_map]
  rfl
theorem cutS_len (l : List Nat) (lo hi : Option Int) : ∃ l', cutS (ofC l) lo hi = ofC l' ∧ l'.length ≤ l.length := by
  refine ⟨codes (cutS (ofC l) lo hi), by simp, ?_⟩
  simp [codes, cutS]
  omega
@[simp] theorem app_get1 {B0 : Bx} {c d : Cell} {r : Bx} : (B0 ++ c :: d :: r)[B0.length + 1]? = some d := by
  rw [List.getElem?_append_right (by omega), show B0.length + 1 - B0.length = 1 from by omega]; rfl
@[simp] theorem app_set1 {B0 : Bx} {c d x : Cell} {r : Bx} : (B0 ++ c :: d :: r).set (B0.length + 1) x = B0 ++ c :: x :: r := by simp [List.set_append]
theorem app_get2 {B0 : Bx} {c d x : Cell} {r : Bx} : (B0 ++ c :: d :: x :: r)[B0.length + 2]? = some x := by
  rw [List.getElem?_append_right (by omega), show B0.length + 2 - B0.length = 2 from by omega]; rfl
theorem app_get3 {B0 : Bx} {c d x y : Cell} {r : Bx} : (B0 ++ c :: d :: x :: y :: r)[B0.length + 3]? = some y := by
  rw [List.getElem?_append_right (by omega), show B0.length + 3 - B0.length = 3 from by omega]; rfl
theorem coinQ {B : Bx} {i n : Nat} (many : Int) (h : Purse B i (n + 1)) (h0 : 0 < many := by decide) (hm : many ≤ 1000000000 := by decide) :
    ∃ (v : Int) (B1 : Bx), 0 ≤ v ∧ v < many ∧ coinF [.box i, .int many] B = .ok (.int v) B1 ∧ Purse B1 i n := by
  obtain ⟨v, c, h1, h2, h3, h4⟩ := coin_ok h h0 hm
  exact ⟨v, _, h1, h2, h3, h4⟩
end QB
/-! QbZb: comprehensions whose names stand in use outside. -/
namespace QB
open PySem L2
theorem mLc_gen {α : Type} (enc : α → U) (p : α → Bool) (y : α → U) {fi : Iv} {bd : Bd} {t : Te} {f : Ex} {ks : List Nat} {chk : Bx → Prop} {xs : List α} {E E1 : En} {B B1 : Bx} (hi : fi E B = .ok (xs.map enc, chk) E1 B1) (hc : chk B1) (hn : noOwn E1 ks = true) (hl : xs.length ≤ 16777216)
    (h : ∀ x ∈ xs, BdIs (bd (enc x) (wipeE E1 ks)) fun E2 => wipeE E2 ks = wipeE E1 ks ∧ Tst t B1 (p x) E2 ∧ (p x = true → Elt f B1 (y x) E2)) :
    mLc fi bd t f ks E B = .ok (.fr (.lst ((xs.filter p).map y))) (keepE E1 (wipeE E1 ks) ks) B1 := by
  have key : ∀ (xs : List α) (acc : List U), acc.length + xs.length ≤ 16777216 → (∀ x ∈ xs, BdIs (bd (enc x) (wipeE E1 ks)) fun E2 => wipeE E2 ks = wipeE E1 ks ∧ Tst t B1 (p x) E2 ∧ (p x = true → Elt f B1 (y x) E2)) →
      lcGo bd t f chk ks (xs.map enc) acc (wipeE E1 ks) B1 = .ok (acc ++ (xs.filter p).map y) (wipeE E1 ks) B1 := by
    intro xs
    induction xs with
    | nil => intro acc _ _; simp [lcGo]
    | cons x xs ih =>
      intro acc hl h
      obtain ⟨E2, e1, e2, e3, e4⟩ := (h x (List.mem_cons_self ..)).get
      have hl' : acc.length + (xs.length + 1) ≤ 16777216 := hl
      rw [List.map_cons]
      unfold lcGo
      rw [e1]
      unfold Tst at e3
      simp only [e3, O.bind_ok]
      by_cases hp : p x = true
      · have e5 := e4 hp
        unfold Elt at e5
        rw [if_pos hp]
        cases h1 : f E2 B1 with
        | bad => rw [h1] at e5; exact e5.elim
        | ex _ _ _ => rw [h1] at e5; exact e5.elim
        | ok r E3 B3 =>
          rw [h1] at e5
          obtain ⟨e6, rfl⟩ := e5
          simp only [O.bind_ok, e6]
          rw [if_pos (by omega), e2]
          unfold goOnL
          rw [if_pos hc, ih (acc ++ [y x]) (by simp; omega) (fun v hv => h v (List.mem_cons_of_mem _ hv))]
          simp [hp]
      · rw [if_neg hp, e2]
        unfold goOnL
        rw [if_pos hc, ih acc (by omega) (fun v hv => h v (List.mem_cons_of_mem _ hv))]
        simp [hp]
  unfold mLc
  rw [hi]
  simp only [O.bind_ok]
  rw [if_pos hn, key xs [] (by simpa using hl) h, O.bind_ok]
  simp
theorem mLc_ifW {α : Type} (enc : α → U) (p : α → Bool) (y : α → U) {fi : Iv} {bd : Bd} {t : Te} {f : Ex} {ks : List Nat} {xs : List α} {E : En} {B : Bx} (hi : fi E B = .ok (xs.map enc, yes) E B) (hn : noOwn E ks = true) (hk : keepE E (wipeE E ks) ks = E) (hl : xs.length ≤ 16777216)
    (h : ∀ x ∈ xs, BdIs (bd (enc x) (wipeE E ks)) fun E2 => wipeE E2 ks = wipeE E ks ∧ Tst t B (p x) E2 ∧ (p x = true → Elt f B (y x) E2)) :
    mLc fi bd t f ks E B = .ok (.fr (.lst ((xs.filter p).map y))) E B := by
  have e := mLc_gen enc p y (chk := yes) hi trivial hn hl h
  rw [hk] at e
  exact e
theorem mLc_allW {α : Type} (enc : α → U) (y : α → U) {fi : Iv} {bd : Bd} {f : Ex} {ks : List Nat} {xs : List α} {E : En} {B : Bx} (hi : fi E B = .ok (xs.map enc, yes) E B) (hn : noOwn E ks = true) (hk : keepE E (wipeE E ks) ks = E) (hl : xs.length ≤ 16777216)
    (h : ∀ x ∈ xs, BdIs (bd (enc x) (wipeE E ks)) fun E2 => wipeE E2 ks = wipeE E ks ∧ Elt f B (y x) E2) :
    mLc fi bd mYes f ks E B = .ok (.fr (.lst (xs.map y))) E B := by
  have e := mLc_ifW (t := mYes) enc (fun _ => true) y hi hn hk hl fun x hx => by
    obtain ⟨E2, e1, e2, e3⟩ := (h x hx).get
    exact BdIs_of e1 ⟨e2, by simp [Tst], fun _ => e3⟩
  rwa [fil_true] at e
end QB
/-! QcA: match statements over texts. -/
namespace QB
open PySem L2
/-- the texts of a case: none is the last resort -/
abbrev Kc := Option (List Str)
def ValsIs : List Pattern → List Str → Prop
  | [], [] => True
  | p :: ps, k :: ks => (∃ j q pos, p = Pattern.MatchValue (.Constant (.str k) j q) pos) ∧ ValsIs ps ks
  | _, _ => False
def PatIs (p : Pattern) : Kc → Prop
  | none => ∃ pos, p = .MatchAs none none pos
  | some ks => (∃ k j q pos, p = .MatchValue (.Constant (.str k) j q) pos ∧ ks = [k]) ∨
      (∃ ps pos, p = .MatchOr ps pos ∧ ValsIs ps ks)
section
variable {X : Cx} {pins : List (Addr × Obj)} {σ : L2.St} {H : Hp} {s : Shared}
theorem matchVal {k z : Str} {j : Nat} {q pos : Pos} {u : Value} {Q : Option (List (Str × Value)) → Shared → Prop} (I : L2.Inv X pins σ H s) (r : RelV (.str z) u) (h : ∀ s', L2.Inv X pins σ H s' → Q (if z == k then some [] else none) s') :
    wpAny (model X.prog X.w) X.A (matchPattern (.MatchValue (.Constant (.str k) j q) pos) X.env u) Q X.xe s := by
  refine wpAny_matchPattern_Value ((pe_str (X := X)).run pins s σ H (fun v H1 => v = .str k ∧ H1 = H) I ⟨rfl, rfl⟩ |> fun w => thn w fun a s1 ⟨v, H1, I1, r1, e1, e2⟩ => ?_)
  subst e1 e2
  refine thn (op_eq (X := X) pins s1 σ H1 (.str z) (.str k) u a (fun v H2 => v = .bl (z == k) ∧ H2 = H1) I1 r r1 ⟨rfl, ?_, rfl⟩) fun c s2 ⟨v, H2, I2, r2, e3, e4⟩ => ?_
  · rw [dec_str]
  · subst e3 e4
    cases r2
    refine wpAny_truthy_bool ?_
    have := h _ I2
    cases hb : (z == k) <;> simp only [hb] at this ⊢ <;> exact this
theorem matchOrs {z : Str} {u : Value} (r : RelV (.str z) u) : ∀ (ps : List Pattern) (ks : List Str), ValsIs ps ks → ∀ {Q : Option (List (Str × Value)) → Shared → Prop} {s : Shared}, L2.Inv X pins σ H s →
    (∀ s', L2.Inv X pins σ H s' → Q (if ks.any (fun k => z == k) then some [] else none) s') → wpAny (model X.prog X.w) X.A (matchFirst ps X.env u) Q X.xe s
  | [], [], _, Q, s, I, h => wpAny_matchFirst_nil (h s I)
  | p :: ps, k :: ks, h2, Q, s, I, h => by
    obtain ⟨⟨j, q, pos, rfl⟩, hr⟩ := h2
    refine wpAny_matchFirst_cons (matchVal (Q := fun r s1 => match r with
          | some bs => Q (some bs) s1
          | none => wpAny (model X.prog X.w) X.A (matchFirst ps X.env u) Q X.xe s1) I r fun s1 I1 => ?_)
    cases hb : (z == k) with
    | true =>
      have := h s1 I1
      rw [List.any_cons, hb] at this
      exact this
    | false =>
      refine matchOrs r ps ks hr I1 fun s2 I2 => ?_
      have := h s2 I2
      rw [List.any_cons, hb, Bool.false_or] at this
      exact this
  | [], _ :: _, h2, Q, s, I, h => h2.elim
  | _ :: _, [], h2, Q, s, I, h => h2.elim
theorem names_vals : ∀ (ps : List Pattern) (ks : List Str), ValsIs ps ks → namesOfAll (ps.take 1) = []
  | [], _, _ => rfl
  | p :: ps, [], h => h.elim
  | p :: ps, k :: ks, h => by
    obtain ⟨⟨j, q, pos, rfl⟩, _⟩ := h
    rfl
def hitK (z : Str) : Kc → Bool
  | none => true
  | some ks => ks.any fun k => z == k
theorem matchPat {p : Pattern} {kc : Kc} (hp : PatIs p kc) {z : Str} {u : Value} {Q : Option (List (Str × Value)) → Shared → Prop} (I : L2.Inv X pins σ H s) (r : RelV (.str z) u) (h : ∀ s', L2.Inv X pins σ H s' → Q (if hitK z kc then some [] else none) s') :
    wpAny (model X.prog X.w) X.A (matchPattern p X.env u) Q X.xe s := by
  cases kc with
  | none =>
    obtain ⟨pos, rfl⟩ := hp
    exact wpAny_matchPattern_Capture (h s I)
  | some ks =>
    rcases hp with ⟨k, j, q, pos, rfl, rfl⟩ | ⟨ps, pos, rfl, h2⟩
    · refine matchVal I r fun s1 I1 => ?_
      have := h s1 I1
      simp only [hitK, List.any_cons, List.any_nil, Bool.or_false] at this
      exact this
    · refine wpAny_matchPattern_Or (matchOrs r ps ks h2 I fun s1 I1 => ?_)
      have := h s1 I1
      simp only [hitK] at this
      rw [names_vals ps ks h2]
      cases hb : ks.any (fun k => z == k) <;> simp only [hb] at this ⊢ <;> exact this
end
inductive PCs (X : Cx) : List MatchCase → List (Kc × TS) → Prop where
  | nil : PCs X [] []
  | cons {p : Pattern} {kc : Kc} {body : List Stmt} {t : TS} {r : List MatchCase} {l : List (Kc × TS)} : PatIs p kc → PSs X body t → PCs X r l → PCs X (⟨p, none, body⟩ :: r) ((kc, t) :: l)
def goK : List (Kc × TS) → Str → TS
  | [], _ => fun D σ H => D.nx σ H
  | (kc, t) :: l, z => fun D σ H => if hitK z kc = true then t D σ H else goK l z D σ H
section
variable {X : Cx} {pins : List (Addr × Obj)} {σ : L2.St} {H : Hp} {s : Shared} {pos : Pos}
theorem cases_run {z : Str} {u : Value} (r : RelV (.str z) u) : ∀ {cs : List MatchCase} {l : List (Kc × TS)}, PCs X cs l → ∀ (first : Bool) (D : Ends) {s : Shared}, L2.Inv X pins σ H s → goK l z D σ H → wpAny (model X.prog X.w) X.A (matchCases cs X.env u first) (SP X pins D) X.xe s
  | [], _, h, first, D, s, I, q => by
    cases h
    exact wpAny_matchCases_nil ⟨σ, H, I, q⟩
  | _ :: _, _, h, first, D, s, I, q => by
    cases h with
    | cons hp hb hr =>
      refine wpAny_matchCases_cons (matchPat hp I r fun s1 I1 => ?_)
      unfold goK at q
      split at q
      · next hk =>
        simp only [hk, if_true]
        exact wpAny_assignInOrder_none (hb.run pins s1 σ H D I1 q)
      · next hk =>
        simp only [hk, if_false]
        exact cases_run r hr false D I1 q
def tMatch (t : TE) (l : List (Kc × TS)) : TS := fun D σ H => t σ H fun v H1 => ∃ z, v = .str z ∧ goK l z D σ H1
theorem ps_match {e : Expr} {cs : List MatchCase} {t : TE} {l : List (Kc × TS)} (he : PE X e t) (hc : PCs X cs l) : PS X (.Match e cs pos) (tMatch t l) := by
  refine ⟨fun pins s σ H D I h => ?_⟩
  refine wpAny_Match (thn (he.run pins s σ H _ I h) fun u s1 ⟨v, H1, I1, r, z, e1, q⟩ => ?_)
  subst e1
  exact cases_run r hc true D I1 q
end
/-! ### as a judgement -/
def goM : List (Kc × Sm) → Str → Sm
  | [], _ => fun E B => .ok .nx E B
  | (kc, f) :: l, z => fun E B => if hitK z kc = true then f E B else goM l z E B
def sMatch (fe : Ex) (l : List (Kc × Sm)) : Sm := fun E B => (fe E B).bind fun r E1 B1 =>
  match view r E1 B1 with
  | some (.str z) => goM l z E1 B1
  | _ => .bad
inductive SndCs (X : Cx) : List MatchCase → List (Kc × Sm) → Prop where
  | nil : SndCs X [] []
  | cons {p : Pattern} {kc : Kc} {body : List Stmt} {f : Sm} {r : List MatchCase} {l : List (Kc × Sm)} : PatIs p kc → SndB X body f → SndCs X r l → SndCs X (⟨p, none, body⟩ :: r) ((kc, f) :: l)
theorem sndCs_t {X : Cx} : ∀ {cs : List MatchCase} {l : List (Kc × Sm)}, SndCs X cs l → ∃ l', PCs X cs l' ∧ ∀ z F ρ E B σ H D, Rel X.K F ρ E B σ H → PostS X.K F ρ (goM l z E B) D → goK l' z D σ H
  | [], _, h => by
    cases h
    exact ⟨[], .nil, fun z F ρ E B σ H D rl q => q ρ σ H (List.prefix_refl _) rl⟩
  | _ :: _, _, h => by
    cases h with
    | cons hp hb hr =>
      obtain ⟨l', h1, h2⟩ := sndCs_t hr
      obtain ⟨t, p1, hb⟩ := hb
      refine ⟨_, .cons hp p1 h1, fun z F ρ E B σ H D rl q => ?_⟩
      unfold goM at q
      unfold goK
      split
      · next hk => rw [if_pos hk] at q; exact hb F ρ E B σ H D rl q
      · next hk => rw [if_neg hk] at q; exact h2 z F ρ E B σ H D rl q
theorem sndS_match {X : Cx} {e : Expr} {fe : Ex} {cs : List MatchCase} {l : List (Kc × Sm)} {pos : Pos} (he : SndE X e fe) (hc : SndCs X cs l) : SndS X (.Match e cs pos) (sMatch fe l) := by
  obtain ⟨t, p1, he⟩ := he
  obtain ⟨l', h1, h2⟩ := sndCs_t hc
  refine ⟨_, ps_match p1 h1, fun F ρ E B σ H D rl q => ?_⟩
  refine he F ρ E B σ H _ rl ?_
  simp only [sMatch] at q
  cases h3 : fe E B with
  | bad => rw [h3] at q; exact q
  | ex c E' B' => rw [h3] at q; exact q
  | ok r1 E1 B1 =>
    rw [h3] at q
    intro ρ1 H1 v1 A1
    simp only [O.bind_ok] at q
    split at q
    · next z e1 =>
      have t1 := A1.top e1
      exact ⟨z, top_str t1, h2 z F ρ1 E1 B1 σ H1 D A1.letgo.rel (q.px A1.px)⟩
    · exact q.elim
@[simp] theorem e_sMatch {fe : Ex} {l : List (Kc × Sm)} {E : En} {B : Bx} : sMatch fe l E B = (fe E B).bind fun r E1 B1 =>
  match view r E1 B1 with
  | some (.str z) => goM l z E1 B1
  | _ => .bad := (rfl)
@[simp] theorem e_goM0 {z : Str} {E : En} {B : Bx} : goM [] z E B = .ok .nx E B := (rfl)
@[simp] theorem e_goM1 {kc : Kc} {f : Sm} {l : List (Kc × Sm)} {z : Str} {E : En} {B : Bx} : goM ((kc, f) :: l) z E B = if hitK z kc = true then f E B else goM l z E B := (rfl)
@[simp] theorem e_hit0 {z : Str} : hitK z none = true := (rfl)
@[simp] theorem e_hit1 {z : Str} {ks : List Str} : hitK z (some ks) = ks.any fun k => z == k := (rfl)
end QB
/-! QcB: tuples of the module's top. -/
namespace QB
open PySem L2
mutual
inductive KU (K : PySem.W.Frag) : U → Value → Prop where
  | non : KU K .non .none
  | bl (b : Bool) : KU K (.bl b) (.bool b)
  | int (i : Int) (t : Tok) : KU K (.int i) (.int i t)
  | str (x : Str) (t : Tok) : KU K (.str x) (.str x t)
  | tup {us : List U} {vs : List Value} {p : Addr} {d : Option Addr} {n : Nat} {sl : Array (Option Value)} : K.lookup p = some ⟨.type "tuple", d, .seq vs.toArray n, sl⟩ → KUs K us vs → (h : Nat.ble vs.length 1000 = true := by rfl) → KU K (.tup us) (.ref p)
inductive KUs (K : PySem.W.Frag) : List U → List Value → Prop where
  | nil : KUs K [] []
  | cons {u : U} {v : Value} {us : List U} {vs : List Value} : KU K u v → KUs K us vs → KUs K (u :: us) (v :: vs)
end
section
variable {K : PySem.W.Frag}
mutual
theorem KU.val : ∀ {u : U} {v : Value}, KU K u v → ∃ x : V, RelV x v ∧ ∀ H Lv ρ, Rep K H Lv ρ u x
  | _, _, .non => ⟨.non, rfl, fun _ _ _ => by simp [Rep]⟩
  | _, _, .bl b => ⟨.bl b, rfl, fun _ _ _ => by simp [Rep]⟩
  | _, _, .int i t => ⟨.int i, ⟨t, rfl⟩, fun _ _ _ => by simp [Rep]⟩
  | _, _, .str x t => ⟨.str x, ⟨t, rfl⟩, fun _ _ _ => by simp [Rep]⟩
  | _, _, .tup (vs := vs) (p := p) h hs hb => by
    obtain ⟨xs, h1, h2⟩ := hs.vals
    refine ⟨.ref p, rfl, fun H Lv ρ => ?_⟩
    simp only [Rep]
    refine ⟨p, xs, rfl, .inr ⟨_, vs.toArray, _, h, rfl, rfl, ?_, by simpa using h1⟩, h2 H Lv ρ⟩
    have := Nat.le_of_ble_eq_true hb
    rw [List.size_toArray, sizeLine_eq]; omega
theorem KUs.vals : ∀ {us : List U} {vs : List Value}, KUs K us vs → ∃ xs : List V, Vals xs vs ∧ ∀ H Lv ρ, Reps K H Lv ρ us xs
  | _, _, .nil => ⟨[], .nil, fun _ _ _ => Reps.nil⟩
  | _, _, .cons h hs => by
    obtain ⟨x, h1, h2⟩ := h.val
    obtain ⟨xs, h3, h4⟩ := hs.vals
    exact ⟨x :: xs, .cons h1 h3, fun H Lv ρ => Reps.cons (h2 H Lv ρ) (h4 H Lv ρ)⟩
end
end
theorem KU.ref {K : PySem.W.Frag} {u : U} {p : Addr} (h : KU K u (.ref p)) : ∀ H Lv ρ, Rep K H Lv ρ u (.ref p) := by
  obtain ⟨x, h1, h2⟩ := h.val
  have : x = .ref p := by
    cases x with
    | ref q => exact congrArg V.ref (by have e : Value.ref q = Value.ref p := h1.symm; cases e; rfl)
    | non => cases h1
    | bl _ => cases h1
    | int _ => obtain ⟨t, z⟩ := h1; cases z
    | str _ => obtain ⟨t, z⟩ := h1; cases z
    | _ => first | (cases h1; done) | (obtain ⟨t, z⟩ := h1; cases z)
  subst this
  exact h2
theorem sndE_gtreeE {X : Cx} {x : Str} {u : U} {pos : Pos} (h : ∃ p, X.mg x = some (.ref p) ∧ KU X.K u (.ref p)) (hg : Gl X x := by rfl) (hd : (x == ("__debug__" : Str)) = false := by decide) : SndE X (.Name x pos) (mC u) := by
  obtain ⟨p, h1, h2⟩ := h
  exact sndE_gtree h1 h2.ref hg hd
end QB
/-! QcC: a comprehension's list as a shared thing. -/
namespace QB
open PySem L2
section
variable {X : Cx} {a b c e i o tg iter elt : Expr} {es ifs : List Expr} {fa fb fe fo : Ex} {ft : Te} {fi : Iv} {fs : Ar} {bd : Bd} {ks : List Nat} {pos spos py p p1 p2 p3 cpos apos : Pos} {x y name : Str} {scope : Scope} {own : List (Str × Nat)}
theorem box_reads {t : TE} (ha : ∀ F ρ E B σ H Q, Rel X.K F ρ E B σ H → PostE X.K F ρ E B σ H (fa E B) Q → t σ H Q) : ∀ F ρ E B σ H Q, Rel X.K F ρ E B σ H → PostE X.K F ρ E B σ H (mBox fa E B) Q → t σ H Q := by
  intro F ρ E B σ H Q rl q
  refine ha F ρ E B σ H _ rl ?_
  simp only [mBox] at q
  cases h1 : fa E B with
  | bad => rw [h1] at q; exact q
  | ex c E' B' => rw [h1] at q; exact q
  | ok r1 E1 B1 =>
    rw [h1] at q
    intro ρ1 H1 v1 A1
    simp only [O.bind_ok] at q
    cases r1 with
    | w u => exact q.elim
    | s i => exact q.elim
    | fr c =>
      have rr := A1.rep
      obtain ⟨p, rfl, hl, hc, hn⟩ := rr
      have r0 := A1.rel
      obtain ⟨r2, lv⟩ := Rel.push (o := H1 p) r0 hn hl hc
      have bl := r0.blen
      refine q (ρ1 ++ [p]) H1 (.ref p) ⟨A1.px.trans (List.prefix_append _ _), r2, A1.stp.trans (Stp.less fun y z => (lv y).mp z), A1.le, ?_⟩
      simp only [RepR, Rep]
      exact ⟨p, by rw [← bl]; simp, rfl⟩
theorem sndS_boxLc {k : Nat} (hc : X.calm = true) (hN : X.N.Nodup) (ok : BlkOk X.N X.env.scope scope own) (hi : SndI X tg iter fi)
    (hg : ∀ (s : Shared) (H : Hp) (C : Addr) (cl : List (Str × Addr)) (fp : List Addr), SndG (X.blk s H scope (compEnvC scope cl C X.env) fp) tg (own.map (·.2)) bd)
    (ht : ∀ (s : Shared) (H : Hp) (C : Addr) (cl : List (Str × Addr)) (fp : List Addr), SndTs (X.blk s H scope (compEnvC scope cl C X.env) fp) ifs ft)
    (he : ∀ (s : Shared) (H : Hp) (C : Addr) (cl : List (Str × Addr)) (fp : List Addr), SndE (X.blk s H scope (compEnvC scope cl C X.env) fp) elt fe)
    (hy : X.N[k]? = some y := by rfl) (hyl : X.env.scope.names.lookup y = some .local := by rfl) (hsw : swapsWith (.ListComp elt [⟨tg, iter, ifs, 0⟩] scope pos) (some (.Name y py)) spos.line X.env = pure true := by exact sw_true rfl rfl rfl (by decide +kernel))
    (hs : ∀ x, foldedSetIterable iter X.env x = pure x := by intro _; rfl) : SndS X (.Assign [.Name y py] (.ListComp elt [⟨tg, iter, ifs, 0⟩] scope pos) spos) (sSet k (mBox (mLc fi bd ft fe (own.map (·.2))))) := by
  obtain ⟨wi, pi, hi⟩ := hi
  exact ⟨_, ps_setLc (g := uG X.K (own.map (·.2)) bd) (tt := uT X.K ft) (te := uE X.K fe) hc hN hy hyl hsw pi ok (fun s H C cl fp => (hg s H C cl fp).u) (fun s H C cl fp => ht s H C cl fp) (fun s H C cl fp => (he s H C cl fp).u) hs, set_reads (box_reads (lc_reads hi))⟩
end
end QB
/-! QcD: the state and its draws, alike in many laws. -/
namespace QB
open PySem L2
noncomputable def drawB : Sm := sSeq (sSet 2 (m2 (gII cMod (· % ·)) (m1 gInt (m2 gIx (mVar 0) (mC (.int 1)))) (m1 gLen (m2 gIx (mVar 0) (mC (.int 0)))))) (sSeq (sStore (m2 gAdd (m2 gIx (mVar 0) (mC (.int 1))) (mC (.int 1))) (mVar 0) (mC (.int 1))) (sSeq (sSet 3 (m2 gIx (m2 gIx (mVar 0) (mC (.int 0))) (mVar 2))) (sSeq (sIf (toT (m2 gGe (mVar 3) (m2 (gII cPow fun i j => i ^ j.toNat) (mC (.int 10)) (mC (.int 18))))) (sSeq (sSet 4 (m2 gIx (mVar 0) (mC (.int 0)))) (sSeq (sStore (m2 (gII cDiv (· / ·)) (mVar 3) (mVar 1)) (mVar 4) (mVar 2)) (sRet (m2 (gII cMod (· % ·)) (m1 gInt (mVar 3)) (mVar 1))))) (sNext)) (sSeq (sSet 5 (m2 (gII cMod (· % ·)) (m1 gInt (m2 gAdd (m2 gAdd (m2 gMul (mVar 3) (mC (.int 48271))) (m2 gMul (m2 gIx (mVar 0) (mC (.int 1))) (mC (.int 69621)))) (mC (.int 17)))) (mC (.int 2147483647)))) (sSeq (sSet 6 (m2 (gII cMod (· % ·)) (m1 gInt (m2 gAdd (m2 gMul (mVar 5) (mVar 5)) (m2 gMul (m2 gIx (mVar 0) (mC (.int 1))) (mC (.int 40692))))) (mC (.int 2147483629)))) (sSeq (sSet 7 (m2 (gII cMod (· % ·)) (m1 gInt (m2 gAdd (m2 gMul (mVar 6) (mC (.int 48611))) (mVar 5))) (mC (.int 2147483587)))) (sRet (m2 (gII cMod (· % ·)) (m1 gInt (m2 (gII cDiv (· / ·)) (mVar 7) (mC (.int 16)))) (mVar 1)))))))))
noncomputable def drawF : Fn := runBody 8 2 drawB
noncomputable def stateLc : Ex := mLc (mItV (mVar 0)) (bdN 2) (mYes) (m2 gAdd (m2 gMul (mC (.int 2)) (m1 gAbs (mVar 2))) (m1 gInt (m2 gLt (mVar 2) (mC (.int 0))))) [2]
noncomputable def stateB : Sm := sSeq (sSet 1 (mBox (stateLc))) (sSeq (sIf (toT (m2 gEq (mVar 1) (mLst (mNil)))) (sSet 1 (mBox (mLst (mCons (mC (.int 0)) (mNil))))) (sNext)) (sRet (mBox (mLst (mCons (mVar 1) (mCons (mC (.int 0)) (mCons (mC (.int 14)) (mCons (mC (.int 34)) (mNil)))))))))
noncomputable def stateF : Fn := runBody 3 1 stateB
/-- the state i with its rests j, two numbers of its own, and n draws that may still come -/
structure Draw (B : Bx) (i j : Nat) (p q : Int) (n : Nat) : Prop where
  ex : ∃ (ws : List Int) (c : Int), B[i]? = some (.lst [.box j, .int c, .int p, .int q]) ∧ B[j]? = some (.lst (ws.map .int)) ∧ ws ≠ [] ∧ ws.length ≤ 1000 ∧ (∀ w ∈ ws, 0 ≤ w) ∧ 0 ≤ c ∧ c + n ≤ 2 ^ 40
  ne : j ≠ i
theorem Draw.le {B : Bx} {i j : Nat} {p q : Int} {n m : Nat} (h : Draw B i j p q n) (hm : m ≤ n) : Draw B i j p q m := by
  obtain ⟨⟨ws, c, h1, h2, h3, h4, h5, h6, h7⟩, ne⟩ := h
  exact ⟨⟨ws, c, h1, h2, h3, h4, h5, h6, by omega⟩, ne⟩
theorem Draw.app {B C : Bx} {i j : Nat} {p q : Int} {n : Nat} (h : Draw B i j p q n) : Draw (B ++ C) i j p q n := by
  obtain ⟨⟨ws, c, h1, h2, h3⟩, ne⟩ := h
  exact ⟨⟨ws, c, by rw [List.getElem?_append_left (List.getElem?_eq_some_iff.mp h1).1]; exact h1, by rw [List.getElem?_append_left (List.getElem?_eq_some_iff.mp h2).1]; exact h2, h3⟩, ne⟩
theorem ix4_1 : ixN 4 1 = some 1 := rfl
/-- what stands elsewhere stands -/
def Else (B B' : Bx) (i j : Nat) : Prop := B'.length = B.length ∧ ∀ k, k ≠ i → k ≠ j → B'[k]? = B[k]?
theorem Else.refl {B : Bx} {i j : Nat} : Else B B i j := ⟨rfl, fun _ _ _ => rfl⟩
theorem Else.trans {B B' B2 : Bx} {i j : Nat} (a : Else B B' i j) (b : Else B' B2 i j) : Else B B2 i j := ⟨b.1.trans a.1, fun k h1 h2 => (b.2 k h1 h2).trans (a.2 k h1 h2)⟩
theorem modI {a b : Int} (h : 0 < b) : 0 ≤ a % b ∧ a % b < b := ⟨Int.emod_nonneg _ (by omega), Int.emod_lt_of_pos _ h⟩
theorem draw_ok {B : Bx} {i j : Nat} {p q : Int} {n : Nat} {many : Int} (h : Draw B i j p q (n + 1)) (h0 : 0 < many := by decide) (hm : many ≤ 10 ^ 40 := by decide) :
    ∃ (v : Int) (B' : Bx), 0 ≤ v ∧ v < many ∧ drawF [.box i, .int many] B = .ok (.int v) B' ∧ Draw B' i j p q n ∧ Else B B' i j := by
  obtain ⟨⟨ws, c, h1, h2, h3, h4, h5, h6, h7⟩, ne⟩ := h
  have hi : i < B.length := (List.getElem?_eq_some_iff.mp h1).1
  have hj : j < B.length := (List.getElem?_eq_some_iff.mp h2).1
  have hl : 0 < ws.length := List.length_pos_iff.mpr h3
  have a0 := modI (a := c) (b := (ws.length : Int)) (by omega)
  generalize ha : c % (ws.length : Int) = a at a0
  have hat : a.toNat < ws.length := by omega
  have ea : a = ((a.toNat : Nat) : Int) := by omega
  have hw : ws[a.toNat]? = some ws[a.toNat] := List.getElem?_eq_getElem hat
  have hw0 := h5 ws[a.toNat] (List.getElem_mem hat)
  generalize ws[a.toNat] = w at hw hw0
  have ax : atI (ws.map U.int) a = some (.int w) := by rw [ea, atI_k, List.getElem?_map, hw]; rfl
  have gj : (B.set i (.lst [.box j, .int (c + 1), .int p, .int q]))[j]? = some (.lst (ws.map .int)) := by rw [List.getElem?_set_ne (Ne.symm ne)]; exact h2
  have gi : (B.set i (.lst [.box j, .int (c + 1), .int p, .int q]))[i]? = some (.lst [.box j, .int (c + 1), .int p, .int q]) := List.getElem?_set_self hi
  have lnz : decide (0 < (ws.length : Int)) = true := by simpa using hl
  have e18 : cPow 10 18 = true := by decide
  have start : ∀ {Q : Fl → En → Bx → Prop}, OkP ((sSeq (sIf (toT (m2 gGe (mVar 3) (m2 (gII cPow fun i j => i ^ j.toNat) (mC (.int 10)) (mC (.int 18))))) (sSeq (sSet 4 (m2 gIx (mVar 0) (mC (.int 0)))) (sSeq (sStore (m2 (gII cDiv (· / ·)) (mVar 3) (mVar 1)) (mVar 4) (mVar 2)) (sRet (m2 (gII cMod (· % ·)) (m1 gInt (mVar 3)) (mVar 1))))) (sNext)) (sSeq (sSet 5 (m2 (gII cMod (· % ·)) (m1 gInt (m2 gAdd (m2 gAdd (m2 gMul (mVar 3) (mC (.int 48271))) (m2 gMul (m2 gIx (mVar 0) (mC (.int 1))) (mC (.int 69621)))) (mC (.int 17)))) (mC (.int 2147483647)))) (sSeq (sSet 6 (m2 (gII cMod (· % ·)) (m1 gInt (m2 gAdd (m2 gMul (mVar 5) (mVar 5)) (m2 gMul (m2 gIx (mVar 0) (mC (.int 1))) (mC (.int 40692))))) (mC (.int 2147483629)))) (sSeq (sSet 7 (m2 (gII cMod (· % ·)) (m1 gInt (m2 gAdd (m2 gMul (mVar 6) (mC (.int 48611))) (mVar 5))) (mC (.int 2147483587)))) (sRet (m2 (gII cMod (· % ·)) (m1 gInt (m2 (gII cDiv (· / ·)) (mVar 7) (mC (.int 16)))) (mVar 1)))))))
      [.val (.box i), .val (.int many), .val (.int a), .val (.int w), .un, .un, .un, .un] (B.set i (.lst [.box j, .int (c + 1), .int p, .int q]))) Q →
      OkP (drawB [.val (.box i), .val (.int many), .un, .un, .un, .un, .un, .un] B) Q := by
    intro Q h
    unfold drawB
    refine okP_seqL fun LQ hLQ => ?_
    simp [h1, h2, ha, hl]
    refine hLQ _ _ _ (then_nx ?_)
    clear hLQ LQ
    refine okP_seqL fun LQ hLQ => ?_
    simp [h1, ix4_1]
    refine hLQ _ _ _ (then_nx ?_)
    clear hLQ LQ
    refine okP_seqL fun LQ hLQ => ?_
    simp [gi, gj, ax]
    refine hLQ _ _ _ (then_nx ?_)
    clear hLQ LQ
    exact h
  by_cases hb : 10 ^ 18 ≤ w
  · have d0 : cDiv w many = true := cDiv_p h0 (by omega)
    have iw : ixN ws.length a = some a.toNat := ixN_of ea hat
    have hb' : decide ((1000000000000000000 : Int) ≤ w) = true := decide_eq_true hb
    have d1 : cMod w many = true := decide_eq_true h0
    have r := modI (a := w) h0
    refine ⟨w % many, (B.set i (.lst [.box j, .int (c + 1), .int p, .int q])).set j (.lst ((ws.set a.toNat (w / many)).map .int)), r.1, r.2, ?_, ⟨⟨ws.set a.toNat (w / many), c + 1, ?_, ?_, ?_, by simpa using h4, ?_, by omega, by omega⟩, ne⟩, by simp, fun k k1 k2 => ?_⟩
    · simp only [drawF]
      refine run_is rfl (start ?_)
      refine okP_seqT ?_
      refine okP_ift0 (by simp [e18, hb']) ?_
      refine okP_lock fun LQ hLQ => ?_
      simp [gi, gj, d0, iw, h0]
      exact hLQ _ _ _ (then_rt (ret_is' rfl (by rw [List.map_set])))
    · rw [List.getElem?_set_ne ne]; exact gi
    · exact List.getElem?_set_self (by simpa using hj)
    · intro z; apply h3; exact List.eq_nil_of_length_eq_zero (by have := congrArg List.length z; simpa using this)
    · intro x hx
      rcases List.mem_or_eq_of_mem_set hx with hx | rfl
      · exact h5 x hx
      · exact Int.ediv_nonneg hw0 (by omega)
    · rw [List.getElem?_set_ne (Ne.symm k2), List.getElem?_set_ne (Ne.symm k1)]
  · have hb' : decide ((1000000000000000000 : Int) ≤ w) = false := decide_eq_false hb
    have c1 : cMul (c + 1) 69621 = true := cMul_r (by decide) (by decide)
    have c2 : cMul (c + 1) 40692 = true := cMul_r (by decide) (by decide)
    have c3 : cMul w 48271 = true := cMul_r (by decide) (by decide)
    have b1 := modI (a := w * 48271 + (c + 1) * 69621 + 17) (b := 2147483647) (by decide)
    generalize e1 : (w * 48271 + (c + 1) * 69621 + 17) % 2147483647 = x1 at b1
    have c4 : cMul x1 x1 = true := cMul_l (by omega) (by omega)
    have b2 := modI (a := x1 * x1 + (c + 1) * 40692) (b := 2147483629) (by decide)
    generalize e2 : (x1 * x1 + (c + 1) * 40692) % 2147483629 = x2 at b2
    have c5 : cMul x2 48611 = true := cMul_r (by decide) (by decide)
    generalize e3 : (x2 * 48611 + x1) % 2147483587 = x3
    have d0 : cDiv x3 16 = true := cDiv_p (by decide) (by decide)
    have r := modI (a := x3 / 16) h0
    refine ⟨x3 / 16 % many, B.set i (.lst [.box j, .int (c + 1), .int p, .int q]), r.1, r.2, ?_, ⟨⟨ws, c + 1, gi, gj, h3, h4, h5, by omega, by omega⟩, ne⟩, by simp, fun k k1 k2 => ?_⟩
    · simp only [drawF]
      refine run_is rfl (start ?_)
      refine okP_seqT ?_
      refine okP_iff0 (by simp [e18, hb']) ?_
      refine okP_lock fun LQ hLQ => ?_
      simp only [e_sNext, OkP_ok]
      refine hLQ _ _ _ (then_nx ?_)
      refine okP_seqL fun LQ hLQ => ?_
      simp [gi, c1, c3, e1]
      refine hLQ _ _ _ (then_nx ?_)
      clear hLQ LQ
      refine okP_seqL fun LQ hLQ => ?_
      simp [gi, c2, c4, e2]
      refine hLQ _ _ _ (then_nx ?_)
      clear hLQ LQ
      refine okP_seqL fun LQ hLQ => ?_
      simp [c5, e3]
      refine hLQ _ _ _ (then_nx ?_)
      clear hLQ LQ
      refine okP_lock fun LQ hLQ => ?_
      simp [d0, h0]
      exact hLQ _ _ _ ret_is
    · rw [List.getElem?_set_ne (Ne.symm k1)]
theorem state_ok {B : Bx} {ns : List Int} (hn : ns.length ≤ 63) : ∃ (C : Bx) (i j : Nat), stateF [.scr ns] B = .ok (.box i) (B ++ C) ∧ Draw (B ++ C) i j 14 34 (2 ^ 39) ∧ B.length ≤ i ∧ B.length ≤ j := by
  let f : Int → Int := fun n => 2 * (if n < 0 then -n else n) + (if n < 0 then 1 else 0)
  have hf : ∀ n, 0 ≤ f n := by intro n; simp only [f]; split <;> omega
  have lc : stateLc [.val (.scr ns), .un, .un] B = .ok (.fr (.lst (ns.map fun n => .int (f n)))) [.val (.scr ns), .un, .un] B := by
    refine mLc_all U.int (fun n => .int (f n)) (by simp) (by simp) (by simp) (by omega) (fun n _ => ?_)
    have c1 : ∀ z : Int, cMul 2 z = true := fun z => cMul_l (by decide) (by decide)
    by_cases h : n < 0 <;> simp [Elt, f, h, c1]
  have e1 : (ns.map fun n => U.int (f n)) = (ns.map f).map .int := by rw [List.map_map]; rfl
  rw [e1] at lc
  have fl : Flt 2 (.lst ((ns.map f).map .int)) := by
    intro v hv
    obtain ⟨_, _, rfl⟩ := List.mem_map.mp hv
    trivial
  have q0 := eqU_nil (n := 1) (by decide) fl
  have hws : ∀ w ∈ ns.map f, 0 ≤ w := by intro w hw; obtain ⟨n, _, rfl⟩ := List.mem_map.mp hw; exact hf n
  have hwl : (ns.map f).length ≤ 63 := by simpa using hn
  generalize ns.map f = ws at lc q0 hws hwl
  cases ws with
  | nil =>
    refine ⟨[.lst [], .lst [.int 0], .lst [.box (B.length + 1), .int 0, .int 14, .int 34]], B.length + 2, B.length + 1, ?_, ⟨⟨[0], 0, app_get2, app_get1, by simp, by simp, by simp, by omega, by omega⟩, by omega⟩, by omega, by omega⟩
    simp only [stateF]
    refine run_is rfl ?_
    simp only [stateB, List.map_cons, List.map_nil, List.length_cons, List.length_nil, Nat.reduceAdd, Nat.reduceSub, List.replicate_succ, List.replicate_zero, List.cons_append, List.nil_append, Nat.zero_add, Nat.sub_self, List.append_nil]
    simp at q0 lc
    refine okP_seqL fun LQ hLQ => ?_
    simp [lc]
    refine hLQ _ _ _ (then_nx ?_)
    clear hLQ LQ
    refine okP_seqL fun LQ hLQ => ?_
    simp [q0]
    refine hLQ _ _ _ (then_nx ?_)
    clear hLQ LQ
    refine okP_lock fun LQ hLQ => ?_
    simp
    refine hLQ _ _ _ ?_
    clear hLQ LQ
    exact ret_is
  | cons w ws =>
    refine ⟨[.lst ((w :: ws).map .int), .lst [.box B.length, .int 0, .int 14, .int 34]], B.length + 1, B.length, ?_, ⟨⟨w :: ws, 0, app_get1, app_getQ, by simp, by omega, hws, by omega, by omega⟩, by omega⟩, by omega, by omega⟩
    simp only [stateF]
    refine run_is rfl ?_
    simp only [stateB, List.map_cons, List.map_nil, List.length_cons, List.length_nil, Nat.reduceAdd, Nat.reduceSub, List.replicate_succ, List.replicate_zero, List.cons_append, List.nil_append, Nat.zero_add, Nat.sub_self, List.append_nil]
    simp at q0 lc
    refine okP_seqL fun LQ hLQ => ?_
    simp [lc]
    refine hLQ _ _ _ (then_nx ?_)
    clear hLQ LQ
    refine okP_seqL fun LQ hLQ => ?_
    simp [q0]
    refine hLQ _ _ _ (then_nx ?_)
    clear hLQ LQ
    refine okP_lock fun LQ hLQ => ?_
    simp
    refine hLQ _ _ _ ?_
    clear hLQ LQ
    exact ret_is
end QB
/-! QcE: texts cut at a sign, texts of given signs. -/
namespace QB
open PySem L2
theorem span_ne {c : Nat} : ∀ l : List Nat, c ∈ l → ∃ post, l = l.takeWhile (· != c) ++ c :: post ∧ c ∉ l.takeWhile (· != c) ∧ (l.dropWhile (· != c)).drop 1 = post
  | [], h => by cases h
  | a :: l, h => by
    by_cases e : a = c
    · subst e
      refine ⟨l, ?_, ?_, ?_⟩ <;> simp
    · rcases List.mem_cons.mp h with h | h
      · exact absurd h.symm e
      · obtain ⟨post, h1, h2, h3⟩ := span_ne l h
        have e' : (a != c) = true := by simpa using e
        refine ⟨post, ?_, ?_, ?_⟩
        · rw [List.takeWhile_cons, e', if_pos rfl, List.cons_append, ← h1]
        · rw [List.takeWhile_cons, e', if_pos rfl, List.mem_cons]
          rintro (z | z)
          · exact e z.symm
          · exact h2 z
        · rw [List.dropWhile_cons, e', if_pos rfl]; exact h3
theorem tw_all {c : Nat} : ∀ l : List Nat, c ∉ l → l.takeWhile (· != c) = l
  | [], _ => rfl
  | a :: l, h => by
    rw [List.mem_cons] at h
    have e' : (a != c) = true := by simp; exact fun z => h (.inl z.symm)
    rw [List.takeWhile_cons, e', if_pos rfl, tw_all l fun z => h (.inr z)]
theorem dw_all {c : Nat} : ∀ l : List Nat, c ∉ l → l.dropWhile (· != c) = []
  | [], _ => rfl
  | a :: l, h => by
    rw [List.mem_cons] at h
    have e' : (a != c) = true := by simp; exact fun z => h (.inl z.symm)
    rw [List.dropWhile_cons, e', if_pos rfl, dw_all l fun z => h (.inr z)]
def sepOf (c : Nat) (l : List Nat) : List Nat := if c ∈ l then [c] else []
theorem part_eq {l : List Nat} {c : Nat} (h : l.length ≤ 16777216) : gPartition (.str (ofC l)) [.str (ofC [c])] = some (.w (.tup [.str (ofC (l.takeWhile (· != c))), .str (ofC (sepOf c l)), .str (ofC ((l.dropWhile (· != c)).drop 1))])) := by
  have e : Txt.partition (ofC l) (ofC [c]) = (ofC (l.takeWhile (· != c)), ofC (sepOf c l), ofC ((l.dropWhile (· != c)).drop 1)) := by
    by_cases hm : c ∈ l
    · obtain ⟨post, h1, h2, h3⟩ := span_ne l hm
      have k := TL.partition_app (y := ofC [c]) (s := c) (S := []) rfl (a := ofC (l.takeWhile (· != c))) (b := ofC post) h2
      rw [ofC_app, ofC_app, List.append_assoc, List.singleton_append, ← h1] at k
      rw [k, h3, sepOf, if_pos hm]
    · have k := TL.partition_none (y := ofC [c]) (s := c) (S := []) rfl (a := ofC l) hm
      rw [k, tw_all l hm, dw_all l hm, sepOf, if_neg hm]
      rfl
  show (if _ then _ else _) = _
  rw [e]
  simp [h]
theorem tw_len (p : Nat → Bool) (l : List Nat) : (l.takeWhile p).length ≤ l.length := by
  have := (List.takeWhile_sublist p (l := l)).length_le
  exact this
end QB
/-! QcF: in over rows of texts, == against the empty, texts made of given signs. -/
namespace QB
open PySem L2
theorem inT_eq (a : Str) (us : List U) : inU (.str a) (.tup us) = (flatUs us).map (inV (.str a)) := by
  show (match flatU (.str a), (seqOf (.tup us)).bind flatUs with | some v, some vs => some (inV v vs) | _, _ => none) = _
  simp only [seqOf, Option.bind_some, flatU]
  cases flatUs us <;> rfl
theorem inL_eq (a : Str) (us : List U) : inU (.str a) (.lst us) = (flatUs us).map (inV (.str a)) := by
  show (match flatU (.str a), (seqOf (.lst us)).bind flatUs with | some v, some vs => some (inV v vs) | _, _ => none) = _
  simp only [seqOf, Option.bind_some, flatU]
  cases flatUs us <;> rfl
theorem inF_cons (a b : Str) (us : List U) : (flatUs (.str b :: us)).map (inV (.str a)) = ((flatUs us).map (inV (.str a))).map fun r => (b == a) || r := by
  rw [flatUs]
  cases flatUs us <;> simp [flatU, inV, eqV]
@[simp] theorem inT_nil {a : Str} : inU (.str a) (.tup []) = some false := rfl
@[simp] theorem inL_nil {a : Str} : inU (.str a) (.lst []) = some false := rfl
@[simp] theorem inT_cons {a b : Str} {us : List U} : inU (.str a) (.tup (.str b :: us)) = (inU (.str a) (.tup us)).map fun r => (b == a) || r := by
  rw [inT_eq, inT_eq, inF_cons]
@[simp] theorem inL_cons {a b : Str} {us : List U} : inU (.str a) (.lst (.str b :: us)) = (inU (.str a) (.lst us)).map fun r => (b == a) || r := by
  rw [inL_eq, inL_eq, inF_cons]
theorem eqU_tnil {n : Nat} {us : List U} (hn : n + 1 ≤ 64) (h : Flt (n + 1) (.tup us)) : eqU (.tup us) (.tup []) = some us.isEmpty := by
  have f0 : Flt (n + 1) (.tup []) := fun v hv => by cases hv
  rw [eqU_flt hn h f0]
  cases us <;> rfl
theorem okS_of {l : List Nat} (h : ∀ c ∈ l, c < 1114112) : okS (ofC l) = true := by
  show (ofC l).cps.all (fun c => decide (c < 1114112)) = true
  rw [Array.all_eq_true_iff_forall_mem]
  intro x hx
  have hx' : x ∈ l := by simpa [ofC] using hx
  exact decide_eq_true (h x hx')
theorem all_contains {l s : List Nat} : (l.all fun c => decide (c ∈ s)) = true ↔ ∀ c ∈ l, c ∈ s := by simp
end QB
/-! printed by gen.py -/
namespace LawW
open PySem L2 QB PyProof.Rows
def topS (i : Nat) : Stmt := PySem.Challenge.pw_quotedback_k02_first_words.main.body.getD i (.Pass ⟨0, 0, 0, 0⟩)
abbrev s_has_signs : Stmt := topS 10
abbrev s_is_text : Stmt := topS 11
abbrev s_is_name : Stmt := topS 12
abbrev s_is_place : Stmt := topS 13
abbrev s_is_name_or_place : Stmt := topS 14
abbrev s_may_name_function : Stmt := topS 15
abbrev s_begins_set : Stmt := topS 16
abbrev s_is_sum : Stmt := topS 21
abbrev s_is_tagged : Stmt := topS 24
abbrev s_is_word : Stmt := topS 25
abbrev s_are_words : Stmt := topS 26
abbrev s_are_pieces : Stmt := topS 27
abbrev s_is_piece : Stmt := topS 28
abbrev s_may_be_done : Stmt := topS 29
abbrev s_is_script : Stmt := topS 30
abbrev s_is_body : Stmt := topS 31
abbrev s_is_command : Stmt := topS 32
abbrev s_is_do : Stmt := topS 33
abbrev s_is_joint : Stmt := topS 34
abbrev s_is_compound : Stmt := topS 35
abbrev s_are_arms : Stmt := topS 36
abbrev s_are_cases : Stmt := topS 37
abbrev s_are_turns : Stmt := topS 38
abbrev s_is_turn : Stmt := topS 39
abbrev s__law_state : Stmt := topS 42
abbrev s__law_draw : Stmt := topS 43
abbrev s__law_signs : Stmt := topS 44
abbrev s__law_name : Stmt := topS 46
abbrev s__law_bare : Stmt := topS 48
abbrev s__law_is_name : Stmt := topS 49
abbrev s__law_key : Stmt := topS 50
abbrev s__law_drawn : Stmt := topS 51
abbrev s_law : Stmt := topS 52
abbrev c_DIGITS : Str := "0123456789"
abbrev c_LETTERS : Str := "abcdefghijklmnopqrstuvwxyzABCDEFGHIJKLMNOPQRSTUVWXYZ_"
abbrev c_NAME_SIGNS : Str := "abcdefghijklmnopqrstuvwxyzABCDEFGHIJKLMNOPQRSTUVWXYZ_0123456789"
abbrev c_BARE : Str := "abcdefghijklmnopqrstuvwxyzABCDEFGHIJKLMNOPQRSTUVWXYZ0123456789./_-,:+@=*?[]!~"
abbrev c_SIGNS : Str := "\x0a !\"#$&'()*+,-./0123456789:;<=>?@ABCDEFGHIJKLMNOPQRSTUVWXYZ[\\]^_`abcdefghijklmnopqrstuvwxyz{|}~"
abbrev c_KEY_WORDS : U := .tup [.str "if", .str "then", .str "elif", .str "else", .str "fi", .str "while", .str "until", .str "do", .str "done", .str "for", .str "in", .str "case", .str "esac", .str "{", .str "}", .str "!"]
structure BlT (mg : Str → Option Value) : Prop where
  abs_ : mg "abs" = none
  all_ : mg "all" = none
  bool_ : mg "bool" = none
  enumerate_ : mg "enumerate" = none
  int_ : mg "int" = none
  isinstance : mg "isinstance" = none
  len_ : mg "len" = none
  list_ : mg "list" = none
  range_ : mg "range" = none
  str_ : mg "str" = none
  tuple_ : mg "tuple" = none
structure GsT (K : PySem.W.Frag) (mg : Str → Option Value) : Prop where
  DIGITS : ∃ u, mg "DIGITS" = some u ∧ ∃ t, u = Value.str c_DIGITS t
  LETTERS : ∃ u, mg "LETTERS" = some u ∧ ∃ t, u = Value.str c_LETTERS t
  NAME_SIGNS : ∃ u, mg "NAME_SIGNS" = some u ∧ ∃ t, u = Value.str c_NAME_SIGNS t
  BARE : ∃ u, mg "BARE" = some u ∧ ∃ t, u = Value.str c_BARE t
  SIGNS : ∃ u, mg "SIGNS" = some u ∧ ∃ t, u = Value.str c_SIGNS t
  KEY_WORDS : ∃ p, mg "KEY_WORDS" = some (.ref p) ∧ KU K c_KEY_WORDS (.ref p)
section
variable {P : Program} {w : World} {K : PySem.W.Frag} {mg : Str → Option Value} {base : Heap} {k : Nat}
theorem kw_is_script_tree : KwOk K s_is_script "is_script" ["tree"] ["tree"] [0] := ⟨fun _ _ _ _ _ _ ws hl => match ws, hl with | _ :: _, _ => rfl | [], h => by simp [pick] at h⟩
/-! ### has_signs -/
abbrev N_has_signs : List Str := ["text", "signs", "sign"]
theorem sc_has_signs : FnScope ["text", "signs", "sign"] ["text", "signs"] (defScope s_has_signs) := ⟨rfl, rfl, rfl, by decide +kernel, rfl, by decide +kernel, by decide +kernel⟩
noncomputable def lc_has_signs_0 : Ex := mLc (mItV (mVar 0)) (bdN 2) (mYes) (m2 (gIn false) (mVar 2) (mVar 1)) [2]
noncomputable def b_has_signs : Sm := sRet (mAndV (m1 (gIsi "str") (mVar 0)) (m1 gAll (lc_has_signs_0)))
theorem ok_has_signs (Bl : BlT mg) (Gs : GsT K mg) (D : DefAt K mg "has_signs" s_has_signs) : CalF P w K mg base (k + 1) "has_signs" s_has_signs ["text", "signs"] (runBody 3 2 (b_has_signs)) :=
  calF_of D sc_has_signs (fun _ _ _ _ _ _ us hl => match us, hl with | [_, _], _ => rfl) fun f cdv A outer s H E hr =>
  sndB_one (sndS_ret (sndE_and (sndE_isi Bl.isinstance Bl.str_ (by decide +kernel) (sndE_var 0)) (sndE_one (sndE_b1 (call1_all rfl) Bl.all_ (by decide +kernel) (sndE_lc (own := [("sign", 2)]) rfl sc_has_signs.nd (blkOk_by (by change blkC N_has_signs (defScope s_has_signs) _ [("sign", 2)] = true; decide +kernel)) (sndI_val (sndE_var 0)) (fun _ _ _ _ _ => sndG_name (k := 2) sc_has_signs.nd) (fun _ _ _ _ _ => sndTs_nil) (fun _ _ _ _ _ => sndE_cmp op2_in (sndE_var 2) (sndE_var 1)))))))
/-! ### is_text -/
abbrev N_is_text : List Str := ["thing"]
theorem sc_is_text : FnScope ["thing"] ["thing"] (defScope s_is_text) := ⟨rfl, rfl, rfl, by decide +kernel, rfl, by decide +kernel, by decide +kernel⟩
noncomputable def b_is_text (g_has_signs : Fn) : Sm := sRet (mCall g_has_signs (mCons (mVar 0) (mCons (mC (.str c_SIGNS)) (mNil))))
theorem ok_is_text (Bl : BlT mg) (Gs : GsT K mg) (D : DefAt K mg "is_text" s_is_text) {g_has_signs : Fn} (C_has_signs : CalF P w K mg base k "has_signs" s_has_signs ["text", "signs"] g_has_signs) : CalF P w K mg base (k + 1) "is_text" s_is_text ["thing"] (runBody 1 1 (b_is_text g_has_signs)) :=
  calF_of D sc_is_text (fun _ _ _ _ _ _ us hl => match us, hl with | [_], _ => rfl) fun f cdv A outer s H E hr =>
  sndB_one (sndS_ret (sndE_callF C_has_signs hr (Nat.le_refl _) (sndA_cons (sndE_var 0) (sndA_cons (sndE_gstrE Gs.SIGNS) (sndA_nil)))))
/-! ### is_sum -/
abbrev N_is_sum : List Str := ["tree", "kind", "part"]
theorem sc_is_sum : FnScope ["tree", "kind", "part"] ["tree"] (defScope s_is_sum) := ⟨rfl, rfl, rfl, by decide +kernel, rfl, by decide +kernel, by decide +kernel⟩
noncomputable def b_is_sum : Sm := sBad
theorem ok_is_sum (Bl : BlT mg) (Gs : GsT K mg) (D : DefAt K mg "is_sum" s_is_sum) : CalF P w K mg base (k + 1) "is_sum" s_is_sum ["tree"] (runBody 3 1 (b_is_sum)) :=
  calF_of D sc_is_sum (fun _ _ _ _ _ _ us hl => match us, hl with | [_], _ => rfl) fun f cdv A outer s H E hr =>
  sndB_never
/-! ### is_name -/
abbrev N_is_name : List Str := ["thing"]
theorem sc_is_name : FnScope ["thing"] ["thing"] (defScope s_is_name) := ⟨rfl, rfl, rfl, by decide +kernel, rfl, by decide +kernel, by decide +kernel⟩
noncomputable def b_is_name (g_has_signs : Fn) : Sm := sRet (mAndV (mCall g_has_signs (mCons (mVar 0) (mCons (mC (.str c_NAME_SIGNS)) (mNil)))) (mAndV (m2 gNe (mVar 0) (mC (.str ""))) (m2 (gIn false) (m2 gIx (mVar 0) (mC (.int 0))) (mC (.str c_LETTERS)))))
theorem ok_is_name (Bl : BlT mg) (Gs : GsT K mg) (D : DefAt K mg "is_name" s_is_name) {g_has_signs : Fn} (C_has_signs : CalF P w K mg base k "has_signs" s_has_signs ["text", "signs"] g_has_signs) : CalF P w K mg base (k + 1) "is_name" s_is_name ["thing"] (runBody 1 1 (b_is_name g_has_signs)) :=
  calF_of D sc_is_name (fun _ _ _ _ _ _ us hl => match us, hl with | [_], _ => rfl) fun f cdv A outer s H E hr =>
  sndB_one (sndS_ret (sndE_and (sndE_callF C_has_signs hr (Nat.le_refl _) (sndA_cons (sndE_var 0) (sndA_cons (sndE_gstrE Gs.NAME_SIGNS) (sndA_nil)))) (sndE_and (sndE_cmp (op2_ne hr.units) (sndE_var 0) (sndE_str)) (sndE_one (sndE_cmp op2_in (sndE_ix (sndE_var 0) (sndE_int)) (sndE_gstrE Gs.LETTERS))))))
/-! ### is_place -/
abbrev N_is_place : List Str := ["thing"]
theorem sc_is_place : FnScope ["thing"] ["thing"] (defScope s_is_place) := ⟨rfl, rfl, rfl, by decide +kernel, rfl, by decide +kernel, by decide +kernel⟩
noncomputable def b_is_place (g_has_signs : Fn) : Sm := sSeq (sIf (toT (m2 (gIn false) (mVar 0) (mTup (mCons (mC (.str "0")) (mCons (mC (.str "#")) (mCons (mC (.str "?")) (mCons (mC (.str "@")) (mCons (mC (.str "*")) (mNil))))))))) (sRet (mC (.bl true))) (sNext)) (sRet (mAndV (mCall g_has_signs (mCons (mVar 0) (mCons (mC (.str c_DIGITS)) (mNil)))) (mAndV (m2 gNe (mVar 0) (mC (.str ""))) (m2 gNe (m2 gIx (mVar 0) (mC (.int 0))) (mC (.str "0"))))))
theorem ok_is_place (Bl : BlT mg) (Gs : GsT K mg) (D : DefAt K mg "is_place" s_is_place) {g_has_signs : Fn} (C_has_signs : CalF P w K mg base k "has_signs" s_has_signs ["text", "signs"] g_has_signs) : CalF P w K mg base (k + 1) "is_place" s_is_place ["thing"] (runBody 1 1 (b_is_place g_has_signs)) :=
  calF_of D sc_is_place (fun _ _ _ _ _ _ us hl => match us, hl with | [_], _ => rfl) fun f cdv A outer s H E hr =>
  sndB_cons (sndS_if (sndT_cmp op2_in (sndE_var 0) (sndE_tup (sndA_cons (sndE_str) (sndA_cons (sndE_str) (sndA_cons (sndE_str) (sndA_cons (sndE_str) (sndA_cons (sndE_str) (sndA_nil)))))))) (sndB_one (sndS_ret (sndE_bl))) (sndB_nil)) (sndB_one (sndS_ret (sndE_and (sndE_callF C_has_signs hr (Nat.le_refl _) (sndA_cons (sndE_var 0) (sndA_cons (sndE_gstrE Gs.DIGITS) (sndA_nil)))) (sndE_and (sndE_cmp (op2_ne hr.units) (sndE_var 0) (sndE_str)) (sndE_one (sndE_cmp (op2_ne hr.units) (sndE_ix (sndE_var 0) (sndE_int)) (sndE_str)))))))
/-! ### is_name_or_place -/
abbrev N_is_name_or_place : List Str := ["thing"]
theorem sc_is_name_or_place : FnScope ["thing"] ["thing"] (defScope s_is_name_or_place) := ⟨rfl, rfl, rfl, by decide +kernel, rfl, by decide +kernel, by decide +kernel⟩
noncomputable def b_is_name_or_place (g_is_name : Fn) (g_is_place : Fn) : Sm := sRet (mOrV (mCall g_is_name (mCons (mVar 0) (mNil))) (mCall g_is_place (mCons (mVar 0) (mNil))))
theorem ok_is_name_or_place (Bl : BlT mg) (Gs : GsT K mg) (D : DefAt K mg "is_name_or_place" s_is_name_or_place) {g_is_name : Fn} (C_is_name : CalF P w K mg base k "is_name" s_is_name ["thing"] g_is_name) {g_is_place : Fn} (C_is_place : CalF P w K mg base k "is_place" s_is_place ["thing"] g_is_place) : CalF P w K mg base (k + 1) "is_name_or_place" s_is_name_or_place ["thing"] (runBody 1 1 (b_is_name_or_place g_is_name g_is_place)) :=
  calF_of D sc_is_name_or_place (fun _ _ _ _ _ _ us hl => match us, hl with | [_], _ => rfl) fun f cdv A outer s H E hr =>
  sndB_one (sndS_ret (sndE_or (sndE_callF C_is_name hr (Nat.le_refl _) (sndA_cons (sndE_var 0) (sndA_nil))) (sndE_one (sndE_callF C_is_place hr (Nat.le_refl _) (sndA_cons (sndE_var 0) (sndA_nil))))))
/-! ### is_tagged -/
abbrev N_is_tagged : List Str := ["tree"]
theorem sc_is_tagged : FnScope ["tree"] ["tree"] (defScope s_is_tagged) := ⟨rfl, rfl, rfl, by decide +kernel, rfl, by decide +kernel, by decide +kernel⟩
noncomputable def b_is_tagged : Sm := sRet (mAndV (m1 (gIsi "tuple") (mVar 0)) (mAndV (m2 gNe (mVar 0) (mTup (mNil))) (m1 (gIsi "str") (m2 gIx (mVar 0) (mC (.int 0))))))
theorem ok_is_tagged (Bl : BlT mg) (Gs : GsT K mg) (D : DefAt K mg "is_tagged" s_is_tagged) : CalF P w K mg base (k + 1) "is_tagged" s_is_tagged ["tree"] (runBody 1 1 (b_is_tagged)) :=
  calF_of D sc_is_tagged (fun _ _ _ _ _ _ us hl => match us, hl with | [_], _ => rfl) fun f cdv A outer s H E hr =>
  sndB_one (sndS_ret (sndE_and (sndE_isi Bl.isinstance Bl.tuple_ (by decide +kernel) (sndE_var 0)) (sndE_and (sndE_cmp (op2_ne hr.units) (sndE_var 0) (sndE_tup (sndA_nil))) (sndE_one (sndE_isi Bl.isinstance Bl.str_ (by decide +kernel) (sndE_ix (sndE_var 0) (sndE_int)))))))
/-! ### are_cases -/
abbrev N_are_cases : List Str := ["tree", "arm"]
theorem sc_are_cases : FnScope ["tree", "arm"] ["tree"] (defScope s_are_cases) := ⟨rfl, rfl, rfl, by decide +kernel, rfl, by decide +kernel, by decide +kernel⟩
noncomputable def b_are_cases : Sm := sBad
theorem ok_are_cases (Bl : BlT mg) (Gs : GsT K mg) (D : DefAt K mg "are_cases" s_are_cases) : CalF P w K mg base (k + 1) "are_cases" s_are_cases ["tree"] (runBody 2 1 (b_are_cases)) :=
  calF_of D sc_are_cases (fun _ _ _ _ _ _ us hl => match us, hl with | [_], _ => rfl) fun f cdv A outer s H E hr =>
  sndB_never
/-! ### are_arms -/
abbrev N_are_arms : List Str := ["tree", "arm"]
theorem sc_are_arms : FnScope ["tree", "arm"] ["tree"] (defScope s_are_arms) := ⟨rfl, rfl, rfl, by decide +kernel, rfl, by decide +kernel, by decide +kernel⟩
noncomputable def b_are_arms : Sm := sBad
theorem ok_are_arms (Bl : BlT mg) (Gs : GsT K mg) (D : DefAt K mg "are_arms" s_are_arms) : CalF P w K mg base (k + 1) "are_arms" s_are_arms ["tree"] (runBody 2 1 (b_are_arms)) :=
  calF_of D sc_are_arms (fun _ _ _ _ _ _ us hl => match us, hl with | [_], _ => rfl) fun f cdv A outer s H E hr =>
  sndB_never
/-! ### is_turn -/
abbrev N_is_turn : List Str := ["turn"]
theorem sc_is_turn : FnScope ["turn"] ["turn"] (defScope s_is_turn) := ⟨rfl, rfl, rfl, by decide +kernel, rfl, by decide +kernel, by decide +kernel⟩
noncomputable def b_is_turn : Sm := sBad
theorem ok_is_turn (Bl : BlT mg) (Gs : GsT K mg) (D : DefAt K mg "is_turn" s_is_turn) : CalF P w K mg base (k + 1) "is_turn" s_is_turn ["turn"] (runBody 1 1 (b_is_turn)) :=
  calF_of D sc_is_turn (fun _ _ _ _ _ _ us hl => match us, hl with | [_], _ => rfl) fun f cdv A outer s H E hr =>
  sndB_never
/-! ### are_turns -/
abbrev N_are_turns : List Str := ["tree", "turn"]
theorem sc_are_turns : FnScope ["tree", "turn"] ["tree"] (defScope s_are_turns) := ⟨rfl, rfl, rfl, by decide +kernel, rfl, by decide +kernel, by decide +kernel⟩
noncomputable def lc_are_turns_0 (g_is_turn : Fn) : Ex := mLc (mItV (mVar 0)) (bdN 1) (mYes) (mCall g_is_turn (mCons (mVar 1) (mNil))) [1]
noncomputable def b_are_turns (g_is_turn : Fn) : Sm := sRet (mAndV (m1 (gIsi "list") (mVar 0)) (m1 gAll (lc_are_turns_0 g_is_turn)))
theorem ok_are_turns (Bl : BlT mg) (Gs : GsT K mg) (D : DefAt K mg "are_turns" s_are_turns) {g_is_turn : Fn} (C_is_turn : CalF P w K mg base k "is_turn" s_is_turn ["turn"] g_is_turn) : CalF P w K mg base (k + 1) "are_turns" s_are_turns ["tree"] (runBody 2 1 (b_are_turns g_is_turn)) :=
  calF_of D sc_are_turns (fun _ _ _ _ _ _ us hl => match us, hl with | [_], _ => rfl) fun f cdv A outer s H E hr =>
  sndB_one (sndS_ret (sndE_and (sndE_isi Bl.isinstance Bl.list_ (by decide +kernel) (sndE_var 0)) (sndE_one (sndE_b1 (call1_all rfl) Bl.all_ (by decide +kernel) (sndE_lc (own := [("turn", 1)]) rfl sc_are_turns.nd (blkOk_by (by change blkC N_are_turns (defScope s_are_turns) _ [("turn", 1)] = true; decide +kernel)) (sndI_val (sndE_var 0)) (fun _ _ _ _ _ => sndG_name (k := 1) sc_are_turns.nd) (fun _ _ _ _ _ => sndTs_nil) (fun _ _ _ _ _ => sndE_callF C_is_turn hr (Nat.le_refl _) (sndA_cons (sndE_var 1) (sndA_nil))))))))
/-! ### may_name_function -/
abbrev N_may_name_function : List Str := ["thing"]
theorem sc_may_name_function : FnScope ["thing"] ["thing"] (defScope s_may_name_function) := ⟨rfl, rfl, rfl, by decide +kernel, rfl, by decide +kernel, by decide +kernel⟩
noncomputable def b_may_name_function : Sm := sBad
theorem ok_may_name_function (Bl : BlT mg) (Gs : GsT K mg) (D : DefAt K mg "may_name_function" s_may_name_function) : CalF P w K mg base (k + 1) "may_name_function" s_may_name_function ["thing"] (runBody 1 1 (b_may_name_function)) :=
  calF_of D sc_may_name_function (fun _ _ _ _ _ _ us hl => match us, hl with | [_], _ => rfl) fun f cdv A outer s H E hr =>
  sndB_never
/-! ### begins_set -/
abbrev N_begins_set : List Str := ["text", "name", "sign", "_"]
theorem sc_begins_set : FnScope ["text", "name", "sign", "_"] ["text"] (defScope s_begins_set) := ⟨rfl, rfl, rfl, by decide +kernel, rfl, by decide +kernel, by decide +kernel⟩
noncomputable def b_begins_set (g_is_name : Fn) : Sm := sSeq (sAsg (mM gPartition (mVar 0) (mCons (mC (.str "=")) mNil)) (bdT (bdCons (bdN 1) (bdCons (bdN 2) (bdCons (bdN 3) (bdNil)))))) (sRet (mAndV (m2 gNe (mVar 2) (mC (.str ""))) (mCall g_is_name (mCons (mVar 1) (mNil)))))
theorem ok_begins_set (Bl : BlT mg) (Gs : GsT K mg) (D : DefAt K mg "begins_set" s_begins_set) {g_is_name : Fn} (C_is_name : CalF P w K mg base k "is_name" s_is_name ["thing"] g_is_name) : CalF P w K mg base (k + 1) "begins_set" s_begins_set ["text"] (runBody 4 1 (b_begins_set g_is_name)) :=
  calF_of D sc_begins_set (fun _ _ _ _ _ _ us hl => match us, hl with | [_], _ => rfl) fun f cdv A outer s H E hr =>
  sndB_cons (sndS_asg (sndE_m1 PySem.F.slot_str_partition PySem.F.type_str_partition meth_partition (sndE_var 0) (sndE_str)) (sndG_tup rfl (sndGs_cons (sndG_name (k := 1) sc_begins_set.nd) (sndGs_cons (sndG_name (k := 2) sc_begins_set.nd) (sndGs_cons (sndG_name (k := 3) sc_begins_set.nd) (sndGs_nil)))) (n := 3) (bdCons_len (bdCons_len (bdCons_len (fun _ _ h => bdNil_len h)))))) (sndB_one (sndS_ret (sndE_and (sndE_cmp (op2_ne hr.units) (sndE_var 2) (sndE_str)) (sndE_one (sndE_callF C_is_name hr (Nat.le_refl _) (sndA_cons (sndE_var 1) (sndA_nil)))))))
/-! ### is_script -/
abbrev N_is_script : List Str := ["tree", "command"]
theorem sc_is_script : FnScope ["tree", "command"] ["tree"] (defScope s_is_script) := ⟨rfl, rfl, rfl, by decide +kernel, rfl, by decide +kernel, by decide +kernel⟩
noncomputable def lc_is_script_0 (g_is_command : Fn) : Ex := mLc (mItV (mVar 0)) (bdN 1) (mYes) (mCall g_is_command (mCons (mVar 1) (mNil))) [1]
noncomputable def b_is_script (g_is_command : Fn) : Sm := sRet (mAndV (m1 (gIsi "list") (mVar 0)) (m1 gAll (lc_is_script_0 g_is_command)))
theorem ok_is_script (Bl : BlT mg) (Gs : GsT K mg) (D : DefAt K mg "is_script" s_is_script) {g_is_command : Fn} (C_is_command : CalF P w K mg base k "is_command" s_is_command ["tree"] g_is_command) : CalF P w K mg base (k + 1) "is_script" s_is_script ["tree"] (runBody 2 1 (b_is_script g_is_command)) :=
  calF_of D sc_is_script (fun _ _ _ _ _ _ us hl => match us, hl with | [_], _ => rfl) fun f cdv A outer s H E hr =>
  sndB_one (sndS_ret (sndE_and (sndE_isi Bl.isinstance Bl.list_ (by decide +kernel) (sndE_var 0)) (sndE_one (sndE_b1 (call1_all rfl) Bl.all_ (by decide +kernel) (sndE_lc (own := [("command", 1)]) rfl sc_is_script.nd (blkOk_by (by change blkC N_is_script (defScope s_is_script) _ [("command", 1)] = true; decide +kernel)) (sndI_val (sndE_var 0)) (fun _ _ _ _ _ => sndG_name (k := 1) sc_is_script.nd) (fun _ _ _ _ _ => sndTs_nil) (fun _ _ _ _ _ => sndE_callF C_is_command hr (Nat.le_refl _) (sndA_cons (sndE_var 1) (sndA_nil))))))))
/-! ### is_command -/
abbrev N_is_command : List Str := ["tree"]
theorem sc_is_command : FnScope ["tree"] ["tree"] (defScope s_is_command) := ⟨rfl, rfl, rfl, by decide +kernel, rfl, by decide +kernel, by decide +kernel⟩
noncomputable def b_is_command (g_is_compound : Fn) (g_is_joint : Fn) (g_is_do : Fn) (g_is_tagged : Fn) : Sm := sSeq (sIf (mNot (mTru (mCall g_is_tagged (mCons (mVar 0) (mNil))))) (sRet (mC (.bl false))) (sNext)) (sSeq (sIf (toT (m2 gEq (m2 gIx (mVar 0) (mC (.int 0))) (mC (.str "do")))) (sRet (mAndV (m2 gEq (m1 gLen (mVar 0)) (mC (.int 4))) (mCall g_is_do (mCons (m2 gIx (mVar 0) (mC (.int 1))) (mCons (m2 gIx (mVar 0) (mC (.int 2))) (mCons (m2 gIx (mVar 0) (mC (.int 3))) (mNil))))))) (sNext)) (sSeq (sIf (toT (m2 (gIn false) (m2 gIx (mVar 0) (mC (.int 0))) (mTup (mCons (mC (.str "make")) (mCons (mC (.str "pipe")) (mCons (mC (.str "not")) (mCons (mC (.str "and")) (mCons (mC (.str "or")) (mNil))))))))) (sRet (mCall g_is_joint (mCons (mVar 0) (mNil)))) (sNext)) (sRet (mCall g_is_compound (mCons (mVar 0) (mNil))))))
theorem ok_is_command (Bl : BlT mg) (Gs : GsT K mg) (D : DefAt K mg "is_command" s_is_command) {g_is_compound : Fn} (C_is_compound : CalF P w K mg base k "is_compound" s_is_compound ["tree"] g_is_compound) {g_is_joint : Fn} (C_is_joint : CalF P w K mg base k "is_joint" s_is_joint ["tree"] g_is_joint) {g_is_do : Fn} (C_is_do : CalF P w K mg base k "is_do" s_is_do ["sets", "words", "turns"] g_is_do) {g_is_tagged : Fn} (C_is_tagged : CalF P w K mg base k "is_tagged" s_is_tagged ["tree"] g_is_tagged) : CalF P w K mg base (k + 1) "is_command" s_is_command ["tree"] (runBody 1 1 (b_is_command g_is_compound g_is_joint g_is_do g_is_tagged)) :=
  calF_of D sc_is_command (fun _ _ _ _ _ _ us hl => match us, hl with | [_], _ => rfl) fun f cdv A outer s H E hr =>
  sndB_cons (sndS_if (sndT_not (sndT_tru (sndE_callF C_is_tagged hr (Nat.le_refl _) (sndA_cons (sndE_var 0) (sndA_nil))))) (sndB_one (sndS_ret (sndE_bl))) (sndB_nil)) (sndB_cons (sndS_if (sndT_cmp (op2_eq hr.units) (sndE_ix (sndE_var 0) (sndE_int)) (sndE_str)) (sndB_one (sndS_ret (sndE_and (sndE_cmp (op2_eq hr.units) (sndE_b1 call1_len Bl.len_ PySem.boot_len (sndE_var 0)) (sndE_int)) (sndE_one (sndE_callF C_is_do hr (Nat.le_refl _) (sndA_cons (sndE_ix (sndE_var 0) (sndE_int)) (sndA_cons (sndE_ix (sndE_var 0) (sndE_int)) (sndA_cons (sndE_ix (sndE_var 0) (sndE_int)) (sndA_nil))))))))) (sndB_nil)) (sndB_cons (sndS_if (sndT_cmp op2_in (sndE_ix (sndE_var 0) (sndE_int)) (sndE_tup (sndA_cons (sndE_str) (sndA_cons (sndE_str) (sndA_cons (sndE_str) (sndA_cons (sndE_str) (sndA_cons (sndE_str) (sndA_nil)))))))) (sndB_one (sndS_ret (sndE_callF C_is_joint hr (Nat.le_refl _) (sndA_cons (sndE_var 0) (sndA_nil))))) (sndB_nil)) (sndB_one (sndS_ret (sndE_callF C_is_compound hr (Nat.le_refl _) (sndA_cons (sndE_var 0) (sndA_nil)))))))
/-! ### is_compound -/
abbrev N_is_compound : List Str := ["tree"]
theorem sc_is_compound : FnScope ["tree"] ["tree"] (defScope s_is_compound) := ⟨rfl, rfl, rfl, by decide +kernel, rfl, by decide +kernel, by decide +kernel⟩
noncomputable def b_is_compound (g_is_word : Fn) (g_are_cases : Fn) (g_is_name : Fn) (g_are_words : Fn) (g_is_body : Fn) (g_are_arms : Fn) (g_are_turns : Fn) : Sm := sSeq (sIf (mNot (mTru (mCall g_are_turns (mCons (m2 gIx (mVar 0) (m1 gNeg (mC (.int 1)))) (mNil))))) (sRet (mC (.bl false))) (sNext)) (sSeq (sMatch (m2 gIx (mVar 0) (mC (.int 0))) ((some ["group", "apart"], sRet (mAndV (m2 gEq (m1 gLen (mVar 0)) (mC (.int 3))) (mCall g_is_body (mCons (m2 gIx (mVar 0) (mC (.int 1))) (mNil))))) :: (some ["while", "until"], sRet (mAndV (m2 gEq (m1 gLen (mVar 0)) (mC (.int 4))) (mAndV (mCall g_is_body (mCons (m2 gIx (mVar 0) (mC (.int 1))) (mNil))) (mCall g_is_body (mCons (m2 gIx (mVar 0) (mC (.int 2))) (mNil)))))) :: (some ["if"], sRet (mAndV (m2 gEq (m1 gLen (mVar 0)) (mC (.int 4))) (mAndV (mCall g_are_arms (mCons (m2 gIx (mVar 0) (mC (.int 1))) (mNil))) (mOrV (m2 (gIs false) (m2 gIx (mVar 0) (mC (.int 2))) (mC .non)) (mCall g_is_body (mCons (m2 gIx (mVar 0) (mC (.int 2))) (mNil))))))) :: (some ["each"], sRet (mAndV (m2 gEq (m1 gLen (mVar 0)) (mC (.int 5))) (mAndV (mCall g_is_name (mCons (m2 gIx (mVar 0) (mC (.int 1))) (mNil))) (mAndV (mOrV (m2 (gIs false) (m2 gIx (mVar 0) (mC (.int 2))) (mC .non)) (mCall g_are_words (mCons (m2 gIx (mVar 0) (mC (.int 2))) (mNil)))) (mCall g_is_body (mCons (m2 gIx (mVar 0) (mC (.int 3))) (mNil))))))) :: (some ["case"], sRet (mAndV (m2 gEq (m1 gLen (mVar 0)) (mC (.int 4))) (mAndV (mCall g_is_word (mCons (m2 gIx (mVar 0) (mC (.int 1))) (mNil))) (mCall g_are_cases (mCons (m2 gIx (mVar 0) (mC (.int 2))) (mNil)))))) :: [])) (sRet (mC (.bl false))))
theorem ok_is_compound (Bl : BlT mg) (Gs : GsT K mg) (D : DefAt K mg "is_compound" s_is_compound) {g_is_word : Fn} (C_is_word : CalF P w K mg base k "is_word" s_is_word ["tree"] g_is_word) {g_are_cases : Fn} (C_are_cases : CalF P w K mg base k "are_cases" s_are_cases ["tree"] g_are_cases) {g_is_name : Fn} (C_is_name : CalF P w K mg base k "is_name" s_is_name ["thing"] g_is_name) {g_are_words : Fn} (C_are_words : CalF P w K mg base k "are_words" s_are_words ["trees"] g_are_words) {g_is_body : Fn} (C_is_body : CalF P w K mg base k "is_body" s_is_body ["tree"] g_is_body) {g_are_arms : Fn} (C_are_arms : CalF P w K mg base k "are_arms" s_are_arms ["tree"] g_are_arms) {g_are_turns : Fn} (C_are_turns : CalF P w K mg base k "are_turns" s_are_turns ["tree"] g_are_turns) : CalF P w K mg base (k + 1) "is_compound" s_is_compound ["tree"] (runBody 1 1 (b_is_compound g_is_word g_are_cases g_is_name g_are_words g_is_body g_are_arms g_are_turns)) :=
  calF_of D sc_is_compound (fun _ _ _ _ _ _ us hl => match us, hl with | [_], _ => rfl) fun f cdv A outer s H E hr =>
  sndB_cons (sndS_if (sndT_not (sndT_tru (sndE_callF C_are_turns hr (Nat.le_refl _) (sndA_cons (sndE_ix (sndE_var 0) (sndE_neg (sndE_int))) (sndA_nil))))) (sndB_one (sndS_ret (sndE_bl))) (sndB_nil)) (sndB_cons (sndS_match (sndE_ix (sndE_var 0) (sndE_int)) (.cons (.inr ⟨_, _, rfl, ⟨⟨_, _, _, rfl⟩, ⟨⟨_, _, _, rfl⟩, trivial⟩⟩⟩) (sndB_one (sndS_ret (sndE_and (sndE_cmp (op2_eq hr.units) (sndE_b1 call1_len Bl.len_ PySem.boot_len (sndE_var 0)) (sndE_int)) (sndE_one (sndE_callF C_is_body hr (Nat.le_refl _) (sndA_cons (sndE_ix (sndE_var 0) (sndE_int)) (sndA_nil))))))) (.cons (.inr ⟨_, _, rfl, ⟨⟨_, _, _, rfl⟩, ⟨⟨_, _, _, rfl⟩, trivial⟩⟩⟩) (sndB_one (sndS_ret (sndE_and (sndE_cmp (op2_eq hr.units) (sndE_b1 call1_len Bl.len_ PySem.boot_len (sndE_var 0)) (sndE_int)) (sndE_and (sndE_callF C_is_body hr (Nat.le_refl _) (sndA_cons (sndE_ix (sndE_var 0) (sndE_int)) (sndA_nil))) (sndE_one (sndE_callF C_is_body hr (Nat.le_refl _) (sndA_cons (sndE_ix (sndE_var 0) (sndE_int)) (sndA_nil)))))))) (.cons (.inl ⟨_, _, _, _, rfl, rfl⟩) (sndB_one (sndS_ret (sndE_and (sndE_cmp (op2_eq hr.units) (sndE_b1 call1_len Bl.len_ PySem.boot_len (sndE_var 0)) (sndE_int)) (sndE_and (sndE_callF C_are_arms hr (Nat.le_refl _) (sndA_cons (sndE_ix (sndE_var 0) (sndE_int)) (sndA_nil))) (sndE_one (sndE_or (sndE_cmp op2_is (sndE_ix (sndE_var 0) (sndE_int)) (sndE_non)) (sndE_one (sndE_callF C_is_body hr (Nat.le_refl _) (sndA_cons (sndE_ix (sndE_var 0) (sndE_int)) (sndA_nil)))))))))) (.cons (.inl ⟨_, _, _, _, rfl, rfl⟩) (sndB_one (sndS_ret (sndE_and (sndE_cmp (op2_eq hr.units) (sndE_b1 call1_len Bl.len_ PySem.boot_len (sndE_var 0)) (sndE_int)) (sndE_and (sndE_callF C_is_name hr (Nat.le_refl _) (sndA_cons (sndE_ix (sndE_var 0) (sndE_int)) (sndA_nil))) (sndE_and (sndE_or (sndE_cmp op2_is (sndE_ix (sndE_var 0) (sndE_int)) (sndE_non)) (sndE_one (sndE_callF C_are_words hr (Nat.le_refl _) (sndA_cons (sndE_ix (sndE_var 0) (sndE_int)) (sndA_nil))))) (sndE_one (sndE_callF C_is_body hr (Nat.le_refl _) (sndA_cons (sndE_ix (sndE_var 0) (sndE_int)) (sndA_nil))))))))) (.cons (.inl ⟨_, _, _, _, rfl, rfl⟩) (sndB_one (sndS_ret (sndE_and (sndE_cmp (op2_eq hr.units) (sndE_b1 call1_len Bl.len_ PySem.boot_len (sndE_var 0)) (sndE_int)) (sndE_and (sndE_callF C_is_word hr (Nat.le_refl _) (sndA_cons (sndE_ix (sndE_var 0) (sndE_int)) (sndA_nil))) (sndE_one (sndE_callF C_are_cases hr (Nat.le_refl _) (sndA_cons (sndE_ix (sndE_var 0) (sndE_int)) (sndA_nil)))))))) (.nil))))))) (sndB_one (sndS_ret (sndE_bl))))
/-! ### is_word -/
abbrev N_is_word : List Str := ["tree"]
theorem sc_is_word : FnScope ["tree"] ["tree"] (defScope s_is_word) := ⟨rfl, rfl, rfl, by decide +kernel, rfl, by decide +kernel, by decide +kernel⟩
noncomputable def b_is_word (g_are_pieces : Fn) : Sm := sRet (mAndV (mCall g_are_pieces (mCons (mVar 0) (mCons (mC (.bl false)) (mNil)))) (m2 gNe (mVar 0) (mLst (mNil))))
theorem ok_is_word (Bl : BlT mg) (Gs : GsT K mg) (D : DefAt K mg "is_word" s_is_word) {g_are_pieces : Fn} (C_are_pieces : CalF P w K mg base k "are_pieces" s_are_pieces ["tree", "inside"] g_are_pieces) : CalF P w K mg base (k + 1) "is_word" s_is_word ["tree"] (runBody 1 1 (b_is_word g_are_pieces)) :=
  calF_of D sc_is_word (fun _ _ _ _ _ _ us hl => match us, hl with | [_], _ => rfl) fun f cdv A outer s H E hr =>
  sndB_one (sndS_ret (sndE_and (sndE_callF C_are_pieces hr (Nat.le_refl _) (sndA_cons (sndE_var 0) (sndA_cons (sndE_bl) (sndA_nil)))) (sndE_one (sndE_cmp (op2_ne hr.units) (sndE_var 0) (sndE_lst (sndA_nil))))))
/-! ### are_pieces -/
abbrev N_are_pieces : List Str := ["tree", "inside", "parted", "behind", "piece"]
theorem sc_are_pieces : FnScope ["tree", "inside", "parted", "behind", "piece"] ["tree", "inside"] (defScope s_are_pieces) := ⟨rfl, rfl, rfl, by decide +kernel, rfl, by decide +kernel, by decide +kernel⟩
noncomputable def lp_are_pieces_0 (g_is_piece : Fn) : Sm := sSeq (sIf (mOr (mNot (mTru (mCall g_is_piece (mCons (mVar 4) (mCons (mVar 1) (mNil)))))) (toT (mChain gEq gEq (m2 gIx (mVar 4) (mC (.int 0))) (mVar 3) (mVar 2)))) (sRet (mC (.bl false))) (sNext)) (sSet 3 (m2 gIx (mVar 4) (mC (.int 0))))
noncomputable def b_are_pieces (g_is_piece : Fn) : Sm := sSeq (sIf (mNot (mTru (m1 (gIsi "list") (mVar 0)))) (sRet (mC (.bl false))) (sNext)) (sSeq (sSet 2 (mIf (mTru (mVar 1)) (mC (.str "plain")) (mC (.str "bare")))) (sSeq (sSet 3 (mC (.str ""))) (sSeq (sFor (mItV (mVar 0)) (bdN 4) (lp_are_pieces_0 g_is_piece)) (sRet (mC (.bl true))))))
theorem ok_are_pieces (Bl : BlT mg) (Gs : GsT K mg) (D : DefAt K mg "are_pieces" s_are_pieces) {g_is_piece : Fn} (C_is_piece : CalF P w K mg base k "is_piece" s_is_piece ["piece", "inside"] g_is_piece) : CalF P w K mg base (k + 1) "are_pieces" s_are_pieces ["tree", "inside"] (runBody 5 2 (b_are_pieces g_is_piece)) :=
  calF_of D sc_are_pieces (fun _ _ _ _ _ _ us hl => match us, hl with | [_, _], _ => rfl) fun f cdv A outer s H E hr =>
  sndB_cons (sndS_if (sndT_not (sndT_tru (sndE_isi Bl.isinstance Bl.list_ (by decide +kernel) (sndE_var 0)))) (sndB_one (sndS_ret (sndE_bl))) (sndB_nil)) (sndB_cons (sndS_set (i := 2) (sndE_if (sndT_tru (sndE_var 1)) (sndE_str) (sndE_str)) sc_are_pieces.nd) (sndB_cons (sndS_set (i := 3) (sndE_str) sc_are_pieces.nd) (sndB_cons (sndS_for PassesOwn.never rfl (sndI_val (sndE_var 0)) (sndG_name (k := 4) sc_are_pieces.nd) (sndB_cons (sndS_if (sndT_of (sndW_or (sndT_not (sndT_tru (sndE_callF C_is_piece hr (Nat.le_refl _) (sndA_cons (sndE_var 4) (sndA_cons (sndE_var 1) (sndA_nil)))))) (sndW_or1 (sndT_chain (op2_eq hr.units) (op2_eq hr.units) (sndE_ix (sndE_var 4) (sndE_int)) (sndE_var 3) (sndE_var 2))))) (sndB_one (sndS_ret (sndE_bl))) (sndB_nil)) (sndB_one (sndS_set (i := 3) (sndE_ix (sndE_var 4) (sndE_int)) sc_are_pieces.nd)))) (sndB_one (sndS_ret (sndE_bl))))))
/-! ### is_piece -/
abbrev N_is_piece : List Str := ["piece", "inside"]
theorem sc_is_piece : FnScope ["piece", "inside"] ["piece", "inside"] (defScope s_is_piece) := ⟨rfl, rfl, rfl, by decide +kernel, rfl, by decide +kernel, by decide +kernel⟩
noncomputable def b_is_piece (g_has_signs : Fn) (g_is_text : Fn) (g_are_pieces : Fn) (g_is_script : Fn) (g_is_sum : Fn) (g_is_name_or_place : Fn) (g_may_be_done : Fn) (g_is_tagged : Fn) : Sm := sSeq (sIf (mNot (mTru (mCall g_is_tagged (mCons (mVar 0) (mNil))))) (sRet (mC (.bl false))) (sNext)) (sSeq (sIf (toT (m2 gEq (m2 gIx (mVar 0) (mC (.int 0))) (mC (.str "name")))) (sRet (mAndV (m2 gEq (m1 gLen (mVar 0)) (mC (.int 3))) (mAndV (mCall g_is_name_or_place (mCons (m2 gIx (mVar 0) (mC (.int 1))) (mNil))) (mCall g_may_be_done (mCons (m2 gIx (mVar 0) (mC (.int 1))) (mCons (m2 gIx (mVar 0) (mC (.int 2))) (mNil))))))) (sNext)) (sSeq (sIf (toT (m2 gNe (m1 gLen (mVar 0)) (mC (.int 2)))) (sRet (mC (.bl false))) (sNext)) (sSeq (sIf (toT (m2 gEq (m2 gIx (mVar 0) (mC (.int 0))) (mC (.str "sum")))) (sRet (mCall g_is_sum (mCons (m2 gIx (mVar 0) (mC (.int 1))) (mNil)))) (sNext)) (sSeq (sIf (toT (m2 gEq (m2 gIx (mVar 0) (mC (.int 0))) (mC (.str "run")))) (sRet (mCall g_is_script (mCons (m2 gIx (mVar 0) (mC (.int 1))) (mNil)))) (sNext)) (sSeq (sIf (mTru (mVar 1)) (sRet (mAndV (m2 gEq (m2 gIx (mVar 0) (mC (.int 0))) (mC (.str "plain"))) (mAndV (mCall g_is_text (mCons (m2 gIx (mVar 0) (mC (.int 1))) (mNil))) (m2 gNe (m2 gIx (mVar 0) (mC (.int 1))) (mC (.str "")))))) (sNext)) (sSeq (sIf (toT (m2 gEq (m2 gIx (mVar 0) (mC (.int 0))) (mC (.str "wide")))) (sRet (mCall g_are_pieces (mCons (m2 gIx (mVar 0) (mC (.int 1))) (mCons (mC (.bl true)) (mNil))))) (sNext)) (sSeq (sIf (toT (m2 gEq (m2 gIx (mVar 0) (mC (.int 0))) (mC (.str "mark")))) (sRet (mAndV (mCall g_is_text (mCons (m2 gIx (mVar 0) (mC (.int 1))) (mNil))) (mAndV (m2 gEq (m1 gLen (m2 gIx (mVar 0) (mC (.int 1)))) (mC (.int 1))) (m2 gNe (m2 gIx (mVar 0) (mC (.int 1))) (mC (.str "\x0a")))))) (sNext)) (sSeq (sIf (toT (m2 gEq (m2 gIx (mVar 0) (mC (.int 0))) (mC (.str "held")))) (sRet (mAndV (mCall g_is_text (mCons (m2 gIx (mVar 0) (mC (.int 1))) (mNil))) (m2 (gIn true) (mC (.str "'")) (m2 gIx (mVar 0) (mC (.int 1)))))) (sNext)) (sRet (mAndV (m2 gEq (m2 gIx (mVar 0) (mC (.int 0))) (mC (.str "bare"))) (mAndV (mCall g_has_signs (mCons (m2 gIx (mVar 0) (mC (.int 1))) (mCons (mC (.str c_BARE)) (mNil)))) (m2 gNe (m2 gIx (mVar 0) (mC (.int 1))) (mC (.str ""))))))))))))))
theorem ok_is_piece (Bl : BlT mg) (Gs : GsT K mg) (D : DefAt K mg "is_piece" s_is_piece) {g_has_signs : Fn} (C_has_signs : CalF P w K mg base k "has_signs" s_has_signs ["text", "signs"] g_has_signs) {g_is_text : Fn} (C_is_text : CalF P w K mg base k "is_text" s_is_text ["thing"] g_is_text) {g_are_pieces : Fn} (C_are_pieces : CalF P w K mg base k "are_pieces" s_are_pieces ["tree", "inside"] g_are_pieces) {g_is_script : Fn} (C_is_script : CalF P w K mg base k "is_script" s_is_script ["tree"] g_is_script) {g_is_sum : Fn} (C_is_sum : CalF P w K mg base k "is_sum" s_is_sum ["tree"] g_is_sum) {g_is_name_or_place : Fn} (C_is_name_or_place : CalF P w K mg base k "is_name_or_place" s_is_name_or_place ["thing"] g_is_name_or_place) {g_may_be_done : Fn} (C_may_be_done : CalF P w K mg base k "may_be_done" s_may_be_done ["name", "deed"] g_may_be_done) {g_is_tagged : Fn} (C_is_tagged : CalF P w K mg base k "is_tagged" s_is_tagged ["tree"] g_is_tagged) : CalF P w K mg base (k + 1) "is_piece" s_is_piece ["piece", "inside"] (runBody 2 2 (b_is_piece g_has_signs g_is_text g_are_pieces g_is_script g_is_sum g_is_name_or_place g_may_be_done g_is_tagged)) :=
  calF_of D sc_is_piece (fun _ _ _ _ _ _ us hl => match us, hl with | [_, _], _ => rfl) fun f cdv A outer s H E hr =>
  sndB_cons (sndS_if (sndT_not (sndT_tru (sndE_callF C_is_tagged hr (Nat.le_refl _) (sndA_cons (sndE_var 0) (sndA_nil))))) (sndB_one (sndS_ret (sndE_bl))) (sndB_nil)) (sndB_cons (sndS_if (sndT_cmp (op2_eq hr.units) (sndE_ix (sndE_var 0) (sndE_int)) (sndE_str)) (sndB_one (sndS_ret (sndE_and (sndE_cmp (op2_eq hr.units) (sndE_b1 call1_len Bl.len_ PySem.boot_len (sndE_var 0)) (sndE_int)) (sndE_and (sndE_callF C_is_name_or_place hr (Nat.le_refl _) (sndA_cons (sndE_ix (sndE_var 0) (sndE_int)) (sndA_nil))) (sndE_one (sndE_callF C_may_be_done hr (Nat.le_refl _) (sndA_cons (sndE_ix (sndE_var 0) (sndE_int)) (sndA_cons (sndE_ix (sndE_var 0) (sndE_int)) (sndA_nil))))))))) (sndB_nil)) (sndB_cons (sndS_if (sndT_cmp (op2_ne hr.units) (sndE_b1 call1_len Bl.len_ PySem.boot_len (sndE_var 0)) (sndE_int)) (sndB_one (sndS_ret (sndE_bl))) (sndB_nil)) (sndB_cons (sndS_if (sndT_cmp (op2_eq hr.units) (sndE_ix (sndE_var 0) (sndE_int)) (sndE_str)) (sndB_one (sndS_ret (sndE_callF C_is_sum hr (Nat.le_refl _) (sndA_cons (sndE_ix (sndE_var 0) (sndE_int)) (sndA_nil))))) (sndB_nil)) (sndB_cons (sndS_if (sndT_cmp (op2_eq hr.units) (sndE_ix (sndE_var 0) (sndE_int)) (sndE_str)) (sndB_one (sndS_ret (sndE_callF C_is_script hr (Nat.le_refl _) (sndA_cons (sndE_ix (sndE_var 0) (sndE_int)) (sndA_nil))))) (sndB_nil)) (sndB_cons (sndS_if (sndT_tru (sndE_var 1)) (sndB_one (sndS_ret (sndE_and (sndE_cmp (op2_eq hr.units) (sndE_ix (sndE_var 0) (sndE_int)) (sndE_str)) (sndE_and (sndE_callF C_is_text hr (Nat.le_refl _) (sndA_cons (sndE_ix (sndE_var 0) (sndE_int)) (sndA_nil))) (sndE_one (sndE_cmp (op2_ne hr.units) (sndE_ix (sndE_var 0) (sndE_int)) (sndE_str))))))) (sndB_nil)) (sndB_cons (sndS_if (sndT_cmp (op2_eq hr.units) (sndE_ix (sndE_var 0) (sndE_int)) (sndE_str)) (sndB_one (sndS_ret (sndE_callF C_are_pieces hr (Nat.le_refl _) (sndA_cons (sndE_ix (sndE_var 0) (sndE_int)) (sndA_cons (sndE_bl) (sndA_nil)))))) (sndB_nil)) (sndB_cons (sndS_if (sndT_cmp (op2_eq hr.units) (sndE_ix (sndE_var 0) (sndE_int)) (sndE_str)) (sndB_one (sndS_ret (sndE_and (sndE_callF C_is_text hr (Nat.le_refl _) (sndA_cons (sndE_ix (sndE_var 0) (sndE_int)) (sndA_nil))) (sndE_and (sndE_cmp (op2_eq hr.units) (sndE_b1 call1_len Bl.len_ PySem.boot_len (sndE_ix (sndE_var 0) (sndE_int))) (sndE_int)) (sndE_one (sndE_cmp (op2_ne hr.units) (sndE_ix (sndE_var 0) (sndE_int)) (sndE_str))))))) (sndB_nil)) (sndB_cons (sndS_if (sndT_cmp (op2_eq hr.units) (sndE_ix (sndE_var 0) (sndE_int)) (sndE_str)) (sndB_one (sndS_ret (sndE_and (sndE_callF C_is_text hr (Nat.le_refl _) (sndA_cons (sndE_ix (sndE_var 0) (sndE_int)) (sndA_nil))) (sndE_one (sndE_cmp op2_notin (sndE_str) (sndE_ix (sndE_var 0) (sndE_int))))))) (sndB_nil)) (sndB_one (sndS_ret (sndE_and (sndE_cmp (op2_eq hr.units) (sndE_ix (sndE_var 0) (sndE_int)) (sndE_str)) (sndE_and (sndE_callF C_has_signs hr (Nat.le_refl _) (sndA_cons (sndE_ix (sndE_var 0) (sndE_int)) (sndA_cons (sndE_gstrE Gs.BARE) (sndA_nil)))) (sndE_one (sndE_cmp (op2_ne hr.units) (sndE_ix (sndE_var 0) (sndE_int)) (sndE_str)))))))))))))))
/-! ### may_be_done -/
abbrev N_may_be_done : List Str := ["name", "deed", "read_as_size"]
theorem sc_may_be_done : FnScope ["name", "deed", "read_as_size"] ["name", "deed"] (defScope s_may_be_done) := ⟨rfl, rfl, rfl, by decide +kernel, rfl, by decide +kernel, by decide +kernel⟩
noncomputable def b_may_be_done (g_are_pieces : Fn) (g_is_tagged : Fn) : Sm := sSeq (sIf (toT (m2 gEq (mVar 1) (mTup (mNil)))) (sRet (mC (.bl true))) (sNext)) (sSeq (sIf (mNot (mTru (mCall g_is_tagged (mCons (mVar 1) (mNil))))) (sRet (mC (.bl false))) (sNext)) (sSeq (sIf (toT (m2 gEq (m1 gLen (mVar 1)) (mC (.int 1)))) (sRet (m2 gEq (m2 gIx (mVar 1) (mC (.int 0))) (mC (.str "size")))) (sNext)) (sSeq (sIf (mOr (toT (m2 gNe (m1 gLen (mVar 1)) (mC (.int 3)))) (mNot (mTru (mCall g_are_pieces (mCons (m2 gIx (mVar 1) (mC (.int 2))) (mCons (mC (.bl false)) (mNil))))))) (sRet (mC (.bl false))) (sNext)) (sSeq (sSet 2 (mAndV (m2 gEq (mVar 0) (mC (.str "#"))) (m2 gEq (m2 gIx (mVar 1) (mC (.int 2))) (mLst (mNil))))) (sSeq (sIf (toT (m2 gEq (m2 gIx (mVar 1) (mC (.int 0))) (mC (.str "cut")))) (sRet (mOrV (m2 (gIn false) (m2 gIx (mVar 1) (mC (.int 1))) (mTup (mCons (mC (.str "##")) (mCons (mC (.str "^")) (mCons (mC (.str "^^")) (mNil)))))) (mAndV (m2 gEq (m2 gIx (mVar 1) (mC (.int 1))) (mC (.str "#"))) (mNotV (mVar 2))))) (sNext)) (sSeq (sIf (mOr (toT (m2 (gIn true) (m2 gIx (mVar 1) (mC (.int 0))) (mTup (mCons (mC (.str "lack")) (mCons (mC (.str "set")) (mCons (mC (.str "must")) (mCons (mC (.str "other")) (mNil)))))))) (mNot (mTru (m1 (gIsi "bool") (m2 gIx (mVar 1) (mC (.int 1))))))) (sRet (mC (.bl false))) (sNext)) (sRet (mOrV (m2 gNe (m2 gIx (mVar 1) (mC (.int 0))) (mC (.str "must"))) (mOrV (m2 gIx (mVar 1) (mC (.int 1))) (mNotV (mVar 2)))))))))))
theorem ok_may_be_done (Bl : BlT mg) (Gs : GsT K mg) (D : DefAt K mg "may_be_done" s_may_be_done) {g_are_pieces : Fn} (C_are_pieces : CalF P w K mg base k "are_pieces" s_are_pieces ["tree", "inside"] g_are_pieces) {g_is_tagged : Fn} (C_is_tagged : CalF P w K mg base k "is_tagged" s_is_tagged ["tree"] g_is_tagged) : CalF P w K mg base (k + 1) "may_be_done" s_may_be_done ["name", "deed"] (runBody 3 2 (b_may_be_done g_are_pieces g_is_tagged)) :=
  calF_of D sc_may_be_done (fun _ _ _ _ _ _ us hl => match us, hl with | [_, _], _ => rfl) fun f cdv A outer s H E hr =>
  sndB_cons (sndS_if (sndT_cmp (op2_eq hr.units) (sndE_var 1) (sndE_tup (sndA_nil))) (sndB_one (sndS_ret (sndE_bl))) (sndB_nil)) (sndB_cons (sndS_if (sndT_not (sndT_tru (sndE_callF C_is_tagged hr (Nat.le_refl _) (sndA_cons (sndE_var 1) (sndA_nil))))) (sndB_one (sndS_ret (sndE_bl))) (sndB_nil)) (sndB_cons (sndS_if (sndT_cmp (op2_eq hr.units) (sndE_b1 call1_len Bl.len_ PySem.boot_len (sndE_var 1)) (sndE_int)) (sndB_one (sndS_ret (sndE_cmp (op2_eq hr.units) (sndE_ix (sndE_var 1) (sndE_int)) (sndE_str)))) (sndB_nil)) (sndB_cons (sndS_if (sndT_of (sndW_or (sndT_cmp (op2_ne hr.units) (sndE_b1 call1_len Bl.len_ PySem.boot_len (sndE_var 1)) (sndE_int)) (sndW_or1 (sndT_not (sndT_tru (sndE_callF C_are_pieces hr (Nat.le_refl _) (sndA_cons (sndE_ix (sndE_var 1) (sndE_int)) (sndA_cons (sndE_bl) (sndA_nil))))))))) (sndB_one (sndS_ret (sndE_bl))) (sndB_nil)) (sndB_cons (sndS_set (i := 2) (sndE_and (sndE_cmp (op2_eq hr.units) (sndE_var 0) (sndE_str)) (sndE_one (sndE_cmp (op2_eq hr.units) (sndE_ix (sndE_var 1) (sndE_int)) (sndE_lst (sndA_nil))))) sc_may_be_done.nd) (sndB_cons (sndS_if (sndT_cmp (op2_eq hr.units) (sndE_ix (sndE_var 1) (sndE_int)) (sndE_str)) (sndB_one (sndS_ret (sndE_or (sndE_cmp op2_in (sndE_ix (sndE_var 1) (sndE_int)) (sndE_tup (sndA_cons (sndE_str) (sndA_cons (sndE_str) (sndA_cons (sndE_str) (sndA_nil)))))) (sndE_one (sndE_and (sndE_cmp (op2_eq hr.units) (sndE_ix (sndE_var 1) (sndE_int)) (sndE_str)) (sndE_one (sndE_not (sndE_var 2)))))))) (sndB_nil)) (sndB_cons (sndS_if (sndT_of (sndW_or (sndT_cmp op2_notin (sndE_ix (sndE_var 1) (sndE_int)) (sndE_tup (sndA_cons (sndE_str) (sndA_cons (sndE_str) (sndA_cons (sndE_str) (sndA_cons (sndE_str) (sndA_nil))))))) (sndW_or1 (sndT_not (sndT_tru (sndE_isi Bl.isinstance Bl.bool_ (by decide +kernel) (sndE_ix (sndE_var 1) (sndE_int)))))))) (sndB_one (sndS_ret (sndE_bl))) (sndB_nil)) (sndB_one (sndS_ret (sndE_or (sndE_cmp (op2_ne hr.units) (sndE_ix (sndE_var 1) (sndE_int)) (sndE_str)) (sndE_or (sndE_ix (sndE_var 1) (sndE_int)) (sndE_one (sndE_not (sndE_var 2)))))))))))))
/-! ### are_words -/
abbrev N_are_words : List Str := ["trees", "tree"]
theorem sc_are_words : FnScope ["trees", "tree"] ["trees"] (defScope s_are_words) := ⟨rfl, rfl, rfl, by decide +kernel, rfl, by decide +kernel, by decide +kernel⟩
noncomputable def lc_are_words_0 (g_is_word : Fn) : Ex := mLc (mItV (mVar 0)) (bdN 1) (mYes) (mCall g_is_word (mCons (mVar 1) (mNil))) [1]
noncomputable def b_are_words (g_is_word : Fn) : Sm := sRet (mAndV (m1 (gIsi "list") (mVar 0)) (m1 gAll (lc_are_words_0 g_is_word)))
theorem ok_are_words (Bl : BlT mg) (Gs : GsT K mg) (D : DefAt K mg "are_words" s_are_words) {g_is_word : Fn} (C_is_word : CalF P w K mg base k "is_word" s_is_word ["tree"] g_is_word) : CalF P w K mg base (k + 1) "are_words" s_are_words ["trees"] (runBody 2 1 (b_are_words g_is_word)) :=
  calF_of D sc_are_words (fun _ _ _ _ _ _ us hl => match us, hl with | [_], _ => rfl) fun f cdv A outer s H E hr =>
  sndB_one (sndS_ret (sndE_and (sndE_isi Bl.isinstance Bl.list_ (by decide +kernel) (sndE_var 0)) (sndE_one (sndE_b1 (call1_all rfl) Bl.all_ (by decide +kernel) (sndE_lc (own := [("tree", 1)]) rfl sc_are_words.nd (blkOk_by (by change blkC N_are_words (defScope s_are_words) _ [("tree", 1)] = true; decide +kernel)) (sndI_val (sndE_var 0)) (fun _ _ _ _ _ => sndG_name (k := 1) sc_are_words.nd) (fun _ _ _ _ _ => sndTs_nil) (fun _ _ _ _ _ => sndE_callF C_is_word hr (Nat.le_refl _) (sndA_cons (sndE_var 1) (sndA_nil))))))))
/-! ### is_body -/
abbrev N_is_body : List Str := ["tree"]
theorem sc_is_body : FnScope ["tree"] ["tree"] (defScope s_is_body) := ⟨rfl, rfl, rfl, by decide +kernel, rfl, by decide +kernel, by decide +kernel⟩
noncomputable def b_is_body (g_is_script : Fn) : Sm := sRet (mAndV (mCall g_is_script (mCons (mVar 0) (mNil))) (m2 gNe (mVar 0) (mLst (mNil))))
theorem ok_is_body (Bl : BlT mg) (Gs : GsT K mg) (D : DefAt K mg "is_body" s_is_body) {g_is_script : Fn} (C_is_script : CalF P w K mg base k "is_script" s_is_script ["tree"] g_is_script) : CalF P w K mg base (k + 1) "is_body" s_is_body ["tree"] (runBody 1 1 (b_is_body g_is_script)) :=
  calF_of D sc_is_body (fun _ _ _ _ _ _ us hl => match us, hl with | [_], _ => rfl) fun f cdv A outer s H E hr =>
  sndB_one (sndS_ret (sndE_and (sndE_callF C_is_script hr (Nat.le_refl _) (sndA_cons (sndE_var 0) (sndA_nil))) (sndE_one (sndE_cmp (op2_ne hr.units) (sndE_var 0) (sndE_lst (sndA_nil))))))
/-! ### is_joint -/
abbrev N_is_joint : List Str := ["tree", "part"]
theorem sc_is_joint : FnScope ["tree", "part"] ["tree"] (defScope s_is_joint) := ⟨rfl, rfl, rfl, by decide +kernel, rfl, by decide +kernel, by decide +kernel⟩
noncomputable def lc_is_joint_0 : Ex := mLc (mItV (m2 gIx (mVar 0) (mC (.int 1)))) (bdN 1) (mYes) (m2 (gIn true) (m2 gIx (mVar 1) (mC (.int 0))) (mTup (mCons (mC (.str "pipe")) (mCons (mC (.str "not")) (mCons (mC (.str "and")) (mCons (mC (.str "or")) (mNil))))))) [1]
noncomputable def b_is_joint (g_is_command : Fn) (g_is_script : Fn) (g_may_name_function : Fn) (g_is_tagged : Fn) (g_is_compound : Fn) : Sm := sSeq (sIf (toT (m2 gEq (m2 gIx (mVar 0) (mC (.int 0))) (mC (.str "make")))) (sRet (mAndV (m2 gEq (m1 gLen (mVar 0)) (mC (.int 3))) (mAndV (mCall g_may_name_function (mCons (m2 gIx (mVar 0) (mC (.int 1))) (mNil))) (mAndV (mCall g_is_tagged (mCons (m2 gIx (mVar 0) (mC (.int 2))) (mNil))) (mCall g_is_compound (mCons (m2 gIx (mVar 0) (mC (.int 2))) (mNil))))))) (sNext)) (sSeq (sIf (toT (m2 gEq (m2 gIx (mVar 0) (mC (.int 0))) (mC (.str "pipe")))) (sRet (mAndV (m2 gEq (m1 gLen (mVar 0)) (mC (.int 2))) (mAndV (mCall g_is_script (mCons (m2 gIx (mVar 0) (mC (.int 1))) (mNil))) (mAndV (m2 gGt (m1 gLen (m2 gIx (mVar 0) (mC (.int 1)))) (mC (.int 1))) (m1 gAll (lc_is_joint_0)))))) (sNext)) (sSeq (sIf (toT (m2 gEq (m2 gIx (mVar 0) (mC (.int 0))) (mC (.str "not")))) (sRet (mAndV (m2 gEq (m1 gLen (mVar 0)) (mC (.int 2))) (mAndV (mCall g_is_command (mCons (m2 gIx (mVar 0) (mC (.int 1))) (mNil))) (m2 (gIn true) (m2 gIx (m2 gIx (mVar 0) (mC (.int 1))) (mC (.int 0))) (mTup (mCons (mC (.str "not")) (mCons (mC (.str "and")) (mCons (mC (.str "or")) (mNil))))))))) (sNext)) (sRet (mAndV (m2 gEq (m1 gLen (mVar 0)) (mC (.int 3))) (mAndV (mCall g_is_command (mCons (m2 gIx (mVar 0) (mC (.int 1))) (mNil))) (mAndV (mCall g_is_command (mCons (m2 gIx (mVar 0) (mC (.int 2))) (mNil))) (m2 (gIn true) (m2 gIx (m2 gIx (mVar 0) (mC (.int 2))) (mC (.int 0))) (mTup (mCons (mC (.str "and")) (mCons (mC (.str "or")) (mNil)))))))))))
theorem ok_is_joint (Bl : BlT mg) (Gs : GsT K mg) (D : DefAt K mg "is_joint" s_is_joint) {g_is_command : Fn} (C_is_command : CalF P w K mg base k "is_command" s_is_command ["tree"] g_is_command) {g_is_script : Fn} (C_is_script : CalF P w K mg base k "is_script" s_is_script ["tree"] g_is_script) {g_may_name_function : Fn} (C_may_name_function : CalF P w K mg base k "may_name_function" s_may_name_function ["thing"] g_may_name_function) {g_is_tagged : Fn} (C_is_tagged : CalF P w K mg base k "is_tagged" s_is_tagged ["tree"] g_is_tagged) {g_is_compound : Fn} (C_is_compound : CalF P w K mg base k "is_compound" s_is_compound ["tree"] g_is_compound) : CalF P w K mg base (k + 1) "is_joint" s_is_joint ["tree"] (runBody 2 1 (b_is_joint g_is_command g_is_script g_may_name_function g_is_tagged g_is_compound)) :=
  calF_of D sc_is_joint (fun _ _ _ _ _ _ us hl => match us, hl with | [_], _ => rfl) fun f cdv A outer s H E hr =>
  sndB_cons (sndS_if (sndT_cmp (op2_eq hr.units) (sndE_ix (sndE_var 0) (sndE_int)) (sndE_str)) (sndB_one (sndS_ret (sndE_and (sndE_cmp (op2_eq hr.units) (sndE_b1 call1_len Bl.len_ PySem.boot_len (sndE_var 0)) (sndE_int)) (sndE_and (sndE_callF C_may_name_function hr (Nat.le_refl _) (sndA_cons (sndE_ix (sndE_var 0) (sndE_int)) (sndA_nil))) (sndE_and (sndE_callF C_is_tagged hr (Nat.le_refl _) (sndA_cons (sndE_ix (sndE_var 0) (sndE_int)) (sndA_nil))) (sndE_one (sndE_callF C_is_compound hr (Nat.le_refl _) (sndA_cons (sndE_ix (sndE_var 0) (sndE_int)) (sndA_nil))))))))) (sndB_nil)) (sndB_cons (sndS_if (sndT_cmp (op2_eq hr.units) (sndE_ix (sndE_var 0) (sndE_int)) (sndE_str)) (sndB_one (sndS_ret (sndE_and (sndE_cmp (op2_eq hr.units) (sndE_b1 call1_len Bl.len_ PySem.boot_len (sndE_var 0)) (sndE_int)) (sndE_and (sndE_callF C_is_script hr (Nat.le_refl _) (sndA_cons (sndE_ix (sndE_var 0) (sndE_int)) (sndA_nil))) (sndE_and (sndE_cmp op2_Gt (sndE_b1 call1_len Bl.len_ PySem.boot_len (sndE_ix (sndE_var 0) (sndE_int))) (sndE_int)) (sndE_one (sndE_b1 (call1_all rfl) Bl.all_ (by decide +kernel) (sndE_lc (own := [("part", 1)]) rfl sc_is_joint.nd (blkOk_by (by change blkC N_is_joint (defScope s_is_joint) _ [("part", 1)] = true; decide +kernel)) (sndI_val (sndE_ix (sndE_var 0) (sndE_int))) (fun _ _ _ _ _ => sndG_name (k := 1) sc_is_joint.nd) (fun _ _ _ _ _ => sndTs_nil) (fun _ _ _ _ _ => sndE_cmp op2_notin (sndE_ix (sndE_var 1) (sndE_int)) (sndE_tup (sndA_cons (sndE_str) (sndA_cons (sndE_str) (sndA_cons (sndE_str) (sndA_cons (sndE_str) (sndA_nil))))))))))))))) (sndB_nil)) (sndB_cons (sndS_if (sndT_cmp (op2_eq hr.units) (sndE_ix (sndE_var 0) (sndE_int)) (sndE_str)) (sndB_one (sndS_ret (sndE_and (sndE_cmp (op2_eq hr.units) (sndE_b1 call1_len Bl.len_ PySem.boot_len (sndE_var 0)) (sndE_int)) (sndE_and (sndE_callF C_is_command hr (Nat.le_refl _) (sndA_cons (sndE_ix (sndE_var 0) (sndE_int)) (sndA_nil))) (sndE_one (sndE_cmp op2_notin (sndE_ix (sndE_ix (sndE_var 0) (sndE_int)) (sndE_int)) (sndE_tup (sndA_cons (sndE_str) (sndA_cons (sndE_str) (sndA_cons (sndE_str) (sndA_nil))))))))))) (sndB_nil)) (sndB_one (sndS_ret (sndE_and (sndE_cmp (op2_eq hr.units) (sndE_b1 call1_len Bl.len_ PySem.boot_len (sndE_var 0)) (sndE_int)) (sndE_and (sndE_callF C_is_command hr (Nat.le_refl _) (sndA_cons (sndE_ix (sndE_var 0) (sndE_int)) (sndA_nil))) (sndE_and (sndE_callF C_is_command hr (Nat.le_refl _) (sndA_cons (sndE_ix (sndE_var 0) (sndE_int)) (sndA_nil))) (sndE_one (sndE_cmp op2_notin (sndE_ix (sndE_ix (sndE_var 0) (sndE_int)) (sndE_int)) (sndE_tup (sndA_cons (sndE_str) (sndA_cons (sndE_str) (sndA_nil)))))))))))))
/-! ### is_do -/
abbrev N_is_do : List Str := ["sets", "words", "turns", "one", "first"]
theorem sc_is_do : FnScope ["sets", "words", "turns", "one", "first"] ["sets", "words", "turns"] (defScope s_is_do) := ⟨rfl, rfl, rfl, by decide +kernel, rfl, by decide +kernel, by decide +kernel⟩
noncomputable def lp_is_do_0 (g_is_name : Fn) (g_are_pieces : Fn) : Sm := sIf (mOr (mNot (mTru (m1 (gIsi "tuple") (mVar 3)))) (mOr (toT (m2 gNe (m1 gLen (mVar 3)) (mC (.int 2)))) (mOr (mNot (mTru (mCall g_is_name (mCons (m2 gIx (mVar 3) (mC (.int 0))) (mNil))))) (mNot (mTru (mCall g_are_pieces (mCons (m2 gIx (mVar 3) (mC (.int 1))) (mCons (mC (.bl false)) (mNil))))))))) (sRet (mC (.bl false))) (sNext)
noncomputable def b_is_do (g_begins_set : Fn) (g_is_name : Fn) (g_are_pieces : Fn) (g_are_words : Fn) (g_are_turns : Fn) : Sm := sSeq (sIf (mOr (mNot (mTru (m1 (gIsi "list") (mVar 0)))) (mOr (mNot (mTru (mCall g_are_words (mCons (mVar 1) (mNil))))) (mNot (mTru (mCall g_are_turns (mCons (mVar 2) (mNil))))))) (sRet (mC (.bl false))) (sNext)) (sSeq (sFor (mItV (mVar 0)) (bdN 3) (lp_is_do_0 g_is_name g_are_pieces)) (sSeq (sIf (toT (m2 gEq (mVar 1) (mLst (mNil)))) (sRet (mOrV (m2 gNe (mVar 0) (mLst (mNil))) (m2 gNe (mVar 2) (mLst (mNil))))) (sNext)) (sSeq (sSet 4 (m2 gIx (mVar 1) (mC (.int 0)))) (sSeq (sIf (toT (m2 gNe (m2 gIx (m2 gIx (mVar 4) (mC (.int 0))) (mC (.int 0))) (mC (.str "bare")))) (sRet (mC (.bl true))) (sNext)) (sSeq (sIf (mAnd (toT (m2 gEq (mVar 0) (mLst (mNil)))) (mAnd (toT (m2 gEq (m1 gLen (mVar 4)) (mC (.int 1)))) (toT (m2 (gIn false) (m2 gIx (m2 gIx (mVar 4) (mC (.int 0))) (mC (.int 1))) (mC c_KEY_WORDS))))) (sRet (mC (.bl false))) (sNext)) (sRet (mNotV (mCall g_begins_set (mCons (m2 gIx (m2 gIx (mVar 4) (mC (.int 0))) (mC (.int 1))) (mNil))))))))))
theorem ok_is_do (Bl : BlT mg) (Gs : GsT K mg) (D : DefAt K mg "is_do" s_is_do) {g_begins_set : Fn} (C_begins_set : CalF P w K mg base k "begins_set" s_begins_set ["text"] g_begins_set) {g_is_name : Fn} (C_is_name : CalF P w K mg base k "is_name" s_is_name ["thing"] g_is_name) {g_are_pieces : Fn} (C_are_pieces : CalF P w K mg base k "are_pieces" s_are_pieces ["tree", "inside"] g_are_pieces) {g_are_words : Fn} (C_are_words : CalF P w K mg base k "are_words" s_are_words ["trees"] g_are_words) {g_are_turns : Fn} (C_are_turns : CalF P w K mg base k "are_turns" s_are_turns ["tree"] g_are_turns) : CalF P w K mg base (k + 1) "is_do" s_is_do ["sets", "words", "turns"] (runBody 5 3 (b_is_do g_begins_set g_is_name g_are_pieces g_are_words g_are_turns)) :=
  calF_of D sc_is_do (fun _ _ _ _ _ _ us hl => match us, hl with | [_, _, _], _ => rfl) fun f cdv A outer s H E hr =>
  sndB_cons (sndS_if (sndT_of (sndW_or (sndT_not (sndT_tru (sndE_isi Bl.isinstance Bl.list_ (by decide +kernel) (sndE_var 0)))) (sndW_or (sndT_not (sndT_tru (sndE_callF C_are_words hr (Nat.le_refl _) (sndA_cons (sndE_var 1) (sndA_nil))))) (sndW_or1 (sndT_not (sndT_tru (sndE_callF C_are_turns hr (Nat.le_refl _) (sndA_cons (sndE_var 2) (sndA_nil))))))))) (sndB_one (sndS_ret (sndE_bl))) (sndB_nil)) (sndB_cons (sndS_for PassesOwn.never rfl (sndI_val (sndE_var 0)) (sndG_name (k := 3) sc_is_do.nd) (sndB_one (sndS_if (sndT_of (sndW_or (sndT_not (sndT_tru (sndE_isi Bl.isinstance Bl.tuple_ (by decide +kernel) (sndE_var 3)))) (sndW_or (sndT_cmp (op2_ne hr.units) (sndE_b1 call1_len Bl.len_ PySem.boot_len (sndE_var 3)) (sndE_int)) (sndW_or (sndT_not (sndT_tru (sndE_callF C_is_name hr (Nat.le_refl _) (sndA_cons (sndE_ix (sndE_var 3) (sndE_int)) (sndA_nil))))) (sndW_or1 (sndT_not (sndT_tru (sndE_callF C_are_pieces hr (Nat.le_refl _) (sndA_cons (sndE_ix (sndE_var 3) (sndE_int)) (sndA_cons (sndE_bl) (sndA_nil))))))))))) (sndB_one (sndS_ret (sndE_bl))) (sndB_nil)))) (sndB_cons (sndS_if (sndT_cmp (op2_eq hr.units) (sndE_var 1) (sndE_lst (sndA_nil))) (sndB_one (sndS_ret (sndE_or (sndE_cmp (op2_ne hr.units) (sndE_var 0) (sndE_lst (sndA_nil))) (sndE_one (sndE_cmp (op2_ne hr.units) (sndE_var 2) (sndE_lst (sndA_nil))))))) (sndB_nil)) (sndB_cons (sndS_set (i := 4) (sndE_ix (sndE_var 1) (sndE_int)) sc_is_do.nd) (sndB_cons (sndS_if (sndT_cmp (op2_ne hr.units) (sndE_ix (sndE_ix (sndE_var 4) (sndE_int)) (sndE_int)) (sndE_str)) (sndB_one (sndS_ret (sndE_bl))) (sndB_nil)) (sndB_cons (sndS_if (sndT_of (sndW_and (sndT_cmp (op2_eq hr.units) (sndE_var 0) (sndE_lst (sndA_nil))) (sndW_and (sndT_cmp (op2_eq hr.units) (sndE_b1 call1_len Bl.len_ PySem.boot_len (sndE_var 4)) (sndE_int)) (sndW_and1 (sndT_cmp op2_in (sndE_ix (sndE_ix (sndE_var 4) (sndE_int)) (sndE_int)) (sndE_gtreeE Gs.KEY_WORDS)))))) (sndB_one (sndS_ret (sndE_bl))) (sndB_nil)) (sndB_one (sndS_ret (sndE_not (sndE_callF C_begins_set hr (Nat.le_refl _) (sndA_cons (sndE_ix (sndE_ix (sndE_var 4) (sndE_int)) (sndE_int)) (sndA_nil)))))))))))
/-! ### _law_draw -/
abbrev N__law_draw : List Str := ["_law_state_here", "_law_many", "_law_at", "_law_worth", "_law_rests", "_law_one", "_law_two", "_law_three"]
theorem sc__law_draw : FnScope ["_law_state_here", "_law_many", "_law_at", "_law_worth", "_law_rests", "_law_one", "_law_two", "_law_three"] ["_law_state_here", "_law_many"] (defScope s__law_draw) := ⟨rfl, rfl, rfl, by decide +kernel, rfl, by decide +kernel, by decide +kernel⟩
noncomputable def b__law_draw : Sm := sSeq (sSet 2 (m2 (gII cMod (· % ·)) (m1 gInt (m2 gIx (mVar 0) (mC (.int 1)))) (m1 gLen (m2 gIx (mVar 0) (mC (.int 0)))))) (sSeq (sStore (m2 gAdd (m2 gIx (mVar 0) (mC (.int 1))) (mC (.int 1))) (mVar 0) (mC (.int 1))) (sSeq (sSet 3 (m2 gIx (m2 gIx (mVar 0) (mC (.int 0))) (mVar 2))) (sSeq (sIf (toT (m2 gGe (mVar 3) (m2 (gII cPow fun i j => i ^ j.toNat) (mC (.int 10)) (mC (.int 18))))) (sSeq (sSet 4 (m2 gIx (mVar 0) (mC (.int 0)))) (sSeq (sStore (m2 (gII cDiv (· / ·)) (mVar 3) (mVar 1)) (mVar 4) (mVar 2)) (sRet (m2 (gII cMod (· % ·)) (m1 gInt (mVar 3)) (mVar 1))))) (sNext)) (sSeq (sSet 5 (m2 (gII cMod (· % ·)) (m1 gInt (m2 gAdd (m2 gAdd (m2 gMul (mVar 3) (mC (.int 48271))) (m2 gMul (m2 gIx (mVar 0) (mC (.int 1))) (mC (.int 69621)))) (mC (.int 17)))) (mC (.int 2147483647)))) (sSeq (sSet 6 (m2 (gII cMod (· % ·)) (m1 gInt (m2 gAdd (m2 gMul (mVar 5) (mVar 5)) (m2 gMul (m2 gIx (mVar 0) (mC (.int 1))) (mC (.int 40692))))) (mC (.int 2147483629)))) (sSeq (sSet 7 (m2 (gII cMod (· % ·)) (m1 gInt (m2 gAdd (m2 gMul (mVar 6) (mC (.int 48611))) (mVar 5))) (mC (.int 2147483587)))) (sRet (m2 (gII cMod (· % ·)) (m1 gInt (m2 (gII cDiv (· / ·)) (mVar 7) (mC (.int 16)))) (mVar 1)))))))))
theorem ok__law_draw (Bl : BlT mg) (Gs : GsT K mg) (D : DefAt K mg "_law_draw" s__law_draw) : CalF P w K mg base (k + 1) "_law_draw" s__law_draw ["_law_state_here", "_law_many"] (runBody 8 2 (b__law_draw)) :=
  calF_of D sc__law_draw (fun _ _ _ _ _ _ us hl => match us, hl with | [_, _], _ => rfl) fun f cdv A outer s H E hr =>
  sndB_cons (sndS_set (i := 2) (sndE_op op2_mod (sndE_t1 call1_int Bl.int_ (by decide +kernel) (sndE_ix (sndE_var 0) (sndE_int))) (sndE_b1 call1_len Bl.len_ PySem.boot_len (sndE_ix (sndE_var 0) (sndE_int)))) sc__law_draw.nd) (sndB_cons (sndS_store (sndE_op op2_Add (sndE_ix (sndE_var 0) (sndE_int)) (sndE_int)) (sndE_var 0) (sndE_int)) (sndB_cons (sndS_set (i := 3) (sndE_ix (sndE_ix (sndE_var 0) (sndE_int)) (sndE_var 2)) sc__law_draw.nd) (sndB_cons (sndS_if (sndT_cmp op2_Ge (sndE_var 3) (sndE_op op2_pow (sndE_int) (sndE_int))) (sndB_cons (sndS_set (i := 4) (sndE_ix (sndE_var 0) (sndE_int)) sc__law_draw.nd) (sndB_cons (sndS_store (sndE_op op2_fdiv (sndE_var 3) (sndE_var 1)) (sndE_var 4) (sndE_var 2)) (sndB_one (sndS_ret (sndE_op op2_mod (sndE_t1 call1_int Bl.int_ (by decide +kernel) (sndE_var 3)) (sndE_var 1)))))) (sndB_nil)) (sndB_cons (sndS_set (i := 5) (sndE_op op2_mod (sndE_t1 call1_int Bl.int_ (by decide +kernel) (sndE_op op2_Add (sndE_op op2_Add (sndE_op op2_Mul (sndE_var 3) (sndE_int)) (sndE_op op2_Mul (sndE_ix (sndE_var 0) (sndE_int)) (sndE_int))) (sndE_int))) (sndE_int)) sc__law_draw.nd) (sndB_cons (sndS_set (i := 6) (sndE_op op2_mod (sndE_t1 call1_int Bl.int_ (by decide +kernel) (sndE_op op2_Add (sndE_op op2_Mul (sndE_var 5) (sndE_var 5)) (sndE_op op2_Mul (sndE_ix (sndE_var 0) (sndE_int)) (sndE_int)))) (sndE_int)) sc__law_draw.nd) (sndB_cons (sndS_set (i := 7) (sndE_op op2_mod (sndE_t1 call1_int Bl.int_ (by decide +kernel) (sndE_op op2_Add (sndE_op op2_Mul (sndE_var 6) (sndE_int)) (sndE_var 5))) (sndE_int)) sc__law_draw.nd) (sndB_one (sndS_ret (sndE_op op2_mod (sndE_t1 call1_int Bl.int_ (by decide +kernel) (sndE_op op2_fdiv (sndE_var 7) (sndE_int))) (sndE_var 1))))))))))
/-! ### _law_is_name -/
abbrev N__law_is_name : List Str := ["_law_told", "_law_some", "_law_sign"]
theorem sc__law_is_name : FnScope ["_law_told", "_law_some", "_law_sign"] ["_law_told"] (defScope s__law_is_name) := ⟨rfl, rfl, rfl, by decide +kernel, rfl, by decide +kernel, by decide +kernel⟩
noncomputable def lc__law_is_name_0 : Ex := mLc (mItV (mVar 0)) (bdN 2) (mYes) (m2 (gIn false) (mVar 2) (m2 gAdd (mVar 1) (mC (.str "0123456789")))) [2]
noncomputable def b__law_is_name : Sm := sSeq (sSet 1 (mC (.str "abcdefghijklmnopqrstuvwxyzABCDEFGHIJKLMNOPQRSTUVWXYZ_"))) (sRet (mAndV (m2 gNe (mVar 0) (mC (.str ""))) (mAndV (m2 (gIn false) (m2 gIx (mVar 0) (mC (.int 0))) (mVar 1)) (m1 gAll (lc__law_is_name_0)))))
theorem ok__law_is_name (Bl : BlT mg) (Gs : GsT K mg) (D : DefAt K mg "_law_is_name" s__law_is_name) : CalF P w K mg base (k + 1) "_law_is_name" s__law_is_name ["_law_told"] (runBody 3 1 (b__law_is_name)) :=
  calF_of D sc__law_is_name (fun _ _ _ _ _ _ us hl => match us, hl with | [_], _ => rfl) fun f cdv A outer s H E hr =>
  sndB_cons (sndS_set (i := 1) (sndE_str) sc__law_is_name.nd) (sndB_one (sndS_ret (sndE_and (sndE_cmp (op2_ne hr.units) (sndE_var 0) (sndE_str)) (sndE_and (sndE_cmp op2_in (sndE_ix (sndE_var 0) (sndE_int)) (sndE_var 1)) (sndE_one (sndE_b1 (call1_all rfl) Bl.all_ (by decide +kernel) (sndE_lc (own := [("_law_sign", 2)]) rfl sc__law_is_name.nd (blkOk_by (by change blkC N__law_is_name (defScope s__law_is_name) _ [("_law_sign", 2)] = true; decide +kernel)) (sndI_val (sndE_var 0)) (fun _ _ _ _ _ => sndG_name (k := 2) sc__law_is_name.nd) (fun _ _ _ _ _ => sndTs_nil) (fun _ _ _ _ _ => sndE_cmp op2_in (sndE_var 2) (sndE_op op2_Add (sndE_var 1) (sndE_str))))))))))
/-! ### _law_key -/
abbrev N__law_key : List Str := ["_law_told", "_law_keys"]
theorem sc__law_key : FnScope ["_law_told", "_law_keys"] ["_law_told"] (defScope s__law_key) := ⟨rfl, rfl, rfl, by decide +kernel, rfl, by decide +kernel, by decide +kernel⟩
noncomputable def b__law_key : Sm := sSeq (sSet 1 (mLst (mCons (mC (.str "if")) (mCons (mC (.str "then")) (mCons (mC (.str "elif")) (mCons (mC (.str "else")) (mCons (mC (.str "fi")) (mCons (mC (.str "while")) (mCons (mC (.str "until")) (mCons (mC (.str "do")) (mCons (mC (.str "done")) (mCons (mC (.str "for")) (mCons (mC (.str "in")) (mCons (mC (.str "case")) (mCons (mC (.str "esac")) (mCons (mC (.str "!")) (mNil))))))))))))))))) (sRet (m2 (gIn false) (mVar 0) (mVar 1)))
theorem ok__law_key (Bl : BlT mg) (Gs : GsT K mg) (D : DefAt K mg "_law_key" s__law_key) : CalF P w K mg base (k + 1) "_law_key" s__law_key ["_law_told"] (runBody 2 1 (b__law_key)) :=
  calF_of D sc__law_key (fun _ _ _ _ _ _ us hl => match us, hl with | [_], _ => rfl) fun f cdv A outer s H E hr =>
  sndB_cons (sndS_set (i := 1) (sndE_lst (sndA_cons (sndE_str) (sndA_cons (sndE_str) (sndA_cons (sndE_str) (sndA_cons (sndE_str) (sndA_cons (sndE_str) (sndA_cons (sndE_str) (sndA_cons (sndE_str) (sndA_cons (sndE_str) (sndA_cons (sndE_str) (sndA_cons (sndE_str) (sndA_cons (sndE_str) (sndA_cons (sndE_str) (sndA_cons (sndE_str) (sndA_cons (sndE_str) (sndA_nil)))))))))))))))) sc__law_key.nd) (sndB_one (sndS_ret (sndE_cmp op2_in (sndE_var 0) (sndE_var 1))))
/-! ### _law_signs -/
abbrev N__law_signs : List Str := ["_law_state_here", "_law_some", "_law_least", "_law_most", "_law_many", "_law_k"]
theorem sc__law_signs : FnScope ["_law_state_here", "_law_some", "_law_least", "_law_most", "_law_many", "_law_k"] ["_law_state_here", "_law_some", "_law_least", "_law_most"] (defScope s__law_signs) := ⟨rfl, rfl, rfl, by decide +kernel, rfl, by decide +kernel, by decide +kernel⟩
noncomputable def lc__law_signs_0 (g__law_draw : Fn) : Ex := mLc (mRange1 (mCons (mVar 4) (mNil))) (bdN 5) (mYes) (m2 gIx (mVar 1) (mCall g__law_draw (mCons (mVar 0) (mCons (m1 gLen (mVar 1)) (mNil))))) [5]
noncomputable def b__law_signs (g__law_draw : Fn) : Sm := sSeq (sSet 4 (m2 gAdd (mVar 2) (mCall g__law_draw (mCons (mVar 0) (mCons (m2 gAdd (m2 gSub (mVar 3) (mVar 2)) (mC (.int 1))) (mNil)))))) (sRet (mM gJoin (mC (.str "")) (mCons (lc__law_signs_0 g__law_draw) mNil)))
theorem ok__law_signs (Bl : BlT mg) (Gs : GsT K mg) (D : DefAt K mg "_law_signs" s__law_signs) {g__law_draw : Fn} (C__law_draw : CalF P w K mg base k "_law_draw" s__law_draw ["_law_state_here", "_law_many"] g__law_draw) : CalF P w K mg base (k + 1) "_law_signs" s__law_signs ["_law_state_here", "_law_some", "_law_least", "_law_most"] (runBody 6 4 (b__law_signs g__law_draw)) :=
  calF_of D sc__law_signs (fun _ _ _ _ _ _ us hl => match us, hl with | [_, _, _, _], _ => rfl) fun f cdv A outer s H E hr =>
  sndB_cons (sndS_set (i := 4) (sndE_op op2_Add (sndE_var 2) (sndE_callF C__law_draw hr (Nat.le_refl _) (sndA_cons (sndE_var 0) (sndA_cons (sndE_op op2_Add (sndE_op op2_Sub (sndE_var 3) (sndE_var 2)) (sndE_int)) (sndA_nil))))) sc__law_signs.nd) (sndB_one (sndS_ret (sndE_m1 PySem.F.slot_str_join PySem.F.type_str_join meth_join (sndE_str) (sndE_lc (own := [("_law_k", 5)]) rfl sc__law_signs.nd (blkOk_by (by change blkC N__law_signs (defScope s__law_signs) _ [("_law_k", 5)] = true; decide +kernel)) (sndI_range1 Bl.range_ (sndA_cons (sndE_var 4) (sndA_nil))) (fun _ _ _ _ _ => sndG_name (k := 5) sc__law_signs.nd) (fun _ _ _ _ _ => sndTs_nil) (fun _ _ _ _ _ => sndE_ix (sndE_var 1) (sndE_callF C__law_draw hr (Nat.le_refl _) (sndA_cons (sndE_var 0) (sndA_cons (sndE_b1 call1_len Bl.len_ PySem.boot_len (sndE_var 1)) (sndA_nil)))))))))
/-! ### _law_bare -/
abbrev N__law_bare : List Str := ["_law_state_here", "_law_words", "_law_pick", "_law_some"]
theorem sc__law_bare : FnScope ["_law_state_here", "_law_words", "_law_pick", "_law_some"] ["_law_state_here"] (defScope s__law_bare) := ⟨rfl, rfl, rfl, by decide +kernel, rfl, by decide +kernel, by decide +kernel⟩
noncomputable def b__law_bare (g__law_signs : Fn) (g__law_draw : Fn) : Sm := sSeq (sSet 1 (mLst (mCons (mC (.str "if")) (mCons (mC (.str "then")) (mCons (mC (.str "esac")) (mCons (mC (.str "in")) (mCons (mC (.str "do")) (mCons (mC (.str "!")) (mCons (mC (.str "x")) (mCons (mC (.str "x=")) (mCons (mC (.str "_1=a")) (mCons (mC (.str "1=")) (mCons (mC (.str "2")) (mCons (mC (.str "0")) (mCons (mC (.str "-")) (mCons (mC (.str "*")) (mNil))))))))))))))))) (sSeq (sSet 2 (mCall g__law_draw (mCons (mVar 0) (mCons (mC (.int 24)) (mNil))))) (sSeq (sIf (toT (m2 gLt (mVar 2) (mC (.int 14)))) (sRet (m2 gIx (mVar 1) (mVar 2))) (sNext)) (sSeq (sSet 3 (mC (.str "abcdefghijklmnopqrstuvwxyzABCDEFGHIJKLMNOPQRSTUVWXYZ0123456789./_-,:+@=*?[]!~"))) (sRet (mCall g__law_signs (mCons (mVar 0) (mCons (mVar 3) (mCons (mC (.int 1)) (mCons (mC (.int 6)) (mNil))))))))))
theorem ok__law_bare (Bl : BlT mg) (Gs : GsT K mg) (D : DefAt K mg "_law_bare" s__law_bare) {g__law_signs : Fn} (C__law_signs : CalF P w K mg base k "_law_signs" s__law_signs ["_law_state_here", "_law_some", "_law_least", "_law_most"] g__law_signs) {g__law_draw : Fn} (C__law_draw : CalF P w K mg base k "_law_draw" s__law_draw ["_law_state_here", "_law_many"] g__law_draw) : CalF P w K mg base (k + 1) "_law_bare" s__law_bare ["_law_state_here"] (runBody 4 1 (b__law_bare g__law_signs g__law_draw)) :=
  calF_of D sc__law_bare (fun _ _ _ _ _ _ us hl => match us, hl with | [_], _ => rfl) fun f cdv A outer s H E hr =>
  sndB_cons (sndS_set (i := 1) (sndE_lst (sndA_cons (sndE_str) (sndA_cons (sndE_str) (sndA_cons (sndE_str) (sndA_cons (sndE_str) (sndA_cons (sndE_str) (sndA_cons (sndE_str) (sndA_cons (sndE_str) (sndA_cons (sndE_str) (sndA_cons (sndE_str) (sndA_cons (sndE_str) (sndA_cons (sndE_str) (sndA_cons (sndE_str) (sndA_cons (sndE_str) (sndA_cons (sndE_str) (sndA_nil)))))))))))))))) sc__law_bare.nd) (sndB_cons (sndS_set (i := 2) (sndE_callF C__law_draw hr (Nat.le_refl _) (sndA_cons (sndE_var 0) (sndA_cons (sndE_int) (sndA_nil)))) sc__law_bare.nd) (sndB_cons (sndS_if (sndT_cmp op2_Lt (sndE_var 2) (sndE_int)) (sndB_one (sndS_ret (sndE_ix (sndE_var 1) (sndE_var 2)))) (sndB_nil)) (sndB_cons (sndS_set (i := 3) (sndE_str) sc__law_bare.nd) (sndB_one (sndS_ret (sndE_callF C__law_signs hr (Nat.le_refl _) (sndA_cons (sndE_var 0) (sndA_cons (sndE_var 3) (sndA_cons (sndE_int) (sndA_cons (sndE_int) (sndA_nil)))))))))))
/-! ### _law_name -/
abbrev N__law_name : List Str := ["_law_state_here", "_law_some", "_law_words", "_law_pick"]
theorem sc__law_name : FnScope ["_law_state_here", "_law_some", "_law_words", "_law_pick"] ["_law_state_here"] (defScope s__law_name) := ⟨rfl, rfl, rfl, by decide +kernel, rfl, by decide +kernel, by decide +kernel⟩
noncomputable def b__law_name (g__law_draw : Fn) (g__law_signs : Fn) : Sm := sSeq (sSet 1 (mC (.str "abcdefghijklmnopqrstuvwxyzABCDEFGHIJKLMNOPQRSTUVWXYZ_"))) (sSeq (sSet 2 (mLst (mCons (mC (.str "if")) (mCons (mC (.str "in")) (mCons (mC (.str "do")) (mCons (mC (.str "x")) (mCons (mC (.str "SEP")) (mNil)))))))) (sSeq (sSet 3 (mCall g__law_draw (mCons (mVar 0) (mCons (mC (.int 9)) (mNil))))) (sSeq (sIf (toT (m2 gLt (mVar 3) (mC (.int 5)))) (sRet (m2 gIx (mVar 2) (mVar 3))) (sNext)) (sRet (m2 gAdd (m2 gIx (mVar 1) (mCall g__law_draw (mCons (mVar 0) (mCons (mC (.int 53)) (mNil))))) (mCall g__law_signs (mCons (mVar 0) (mCons (m2 gAdd (mVar 1) (mC (.str "0123456789"))) (mCons (mC (.int 0)) (mCons (mC (.int 4)) (mNil)))))))))))
theorem ok__law_name (Bl : BlT mg) (Gs : GsT K mg) (D : DefAt K mg "_law_name" s__law_name) {g__law_draw : Fn} (C__law_draw : CalF P w K mg base k "_law_draw" s__law_draw ["_law_state_here", "_law_many"] g__law_draw) {g__law_signs : Fn} (C__law_signs : CalF P w K mg base k "_law_signs" s__law_signs ["_law_state_here", "_law_some", "_law_least", "_law_most"] g__law_signs) : CalF P w K mg base (k + 1) "_law_name" s__law_name ["_law_state_here"] (runBody 4 1 (b__law_name g__law_draw g__law_signs)) :=
  calF_of D sc__law_name (fun _ _ _ _ _ _ us hl => match us, hl with | [_], _ => rfl) fun f cdv A outer s H E hr =>
  sndB_cons (sndS_set (i := 1) (sndE_str) sc__law_name.nd) (sndB_cons (sndS_set (i := 2) (sndE_lst (sndA_cons (sndE_str) (sndA_cons (sndE_str) (sndA_cons (sndE_str) (sndA_cons (sndE_str) (sndA_cons (sndE_str) (sndA_nil))))))) sc__law_name.nd) (sndB_cons (sndS_set (i := 3) (sndE_callF C__law_draw hr (Nat.le_refl _) (sndA_cons (sndE_var 0) (sndA_cons (sndE_int) (sndA_nil)))) sc__law_name.nd) (sndB_cons (sndS_if (sndT_cmp op2_Lt (sndE_var 3) (sndE_int)) (sndB_one (sndS_ret (sndE_ix (sndE_var 2) (sndE_var 3)))) (sndB_nil)) (sndB_one (sndS_ret (sndE_op op2_Add (sndE_ix (sndE_var 1) (sndE_callF C__law_draw hr (Nat.le_refl _) (sndA_cons (sndE_var 0) (sndA_cons (sndE_int) (sndA_nil))))) (sndE_callF C__law_signs hr (Nat.le_refl _) (sndA_cons (sndE_var 0) (sndA_cons (sndE_op op2_Add (sndE_var 1) (sndE_str)) (sndA_cons (sndE_int) (sndA_cons (sndE_int) (sndA_nil))))))))))))
/-! ### _law_drawn -/
abbrev N__law_drawn : List Str := ["_law_state_here", "_law_keys", "_law_pick"]
theorem sc__law_drawn : FnScope ["_law_state_here", "_law_keys", "_law_pick"] ["_law_state_here"] (defScope s__law_drawn) := ⟨rfl, rfl, rfl, by decide +kernel, rfl, by decide +kernel, by decide +kernel⟩
noncomputable def b__law_drawn (g__law_bare : Fn) (g__law_draw : Fn) (g__law_name : Fn) : Sm := sSeq (sSet 1 (mLst (mCons (mC (.str "if")) (mCons (mC (.str "then")) (mCons (mC (.str "elif")) (mCons (mC (.str "else")) (mCons (mC (.str "fi")) (mCons (mC (.str "while")) (mCons (mC (.str "until")) (mCons (mC (.str "do")) (mCons (mC (.str "done")) (mCons (mC (.str "for")) (mCons (mC (.str "in")) (mCons (mC (.str "case")) (mCons (mC (.str "esac")) (mCons (mC (.str "!")) (mNil))))))))))))))))) (sSeq (sSet 2 (mCall g__law_draw (mCons (mVar 0) (mCons (mC (.int 5)) (mNil))))) (sSeq (sIf (toT (m2 gEq (mVar 2) (mC (.int 0)))) (sRet (m2 gIx (mVar 1) (mCall g__law_draw (mCons (mVar 0) (mCons (mC (.int 14)) (mNil)))))) (sNext)) (sSeq (sIf (toT (m2 gEq (mVar 2) (mC (.int 1)))) (sRet (m2 gAdd (m2 gAdd (mCall g__law_name (mCons (mVar 0) (mNil))) (mC (.str "="))) (m2 gIx (mLst (mCons (mC (.str "")) (mCons (mC (.str "a")) (mCons (mC (.str "=")) (mNil))))) (mCall g__law_draw (mCons (mVar 0) (mCons (mC (.int 3)) (mNil))))))) (sNext)) (sSeq (sIf (toT (m2 gEq (mVar 2) (mC (.int 2)))) (sRet (m2 gAdd (m2 gIx (mVar 1) (mCall g__law_draw (mCons (mVar 0) (mCons (mC (.int 14)) (mNil))))) (m2 gIx (mLst (mCons (mC (.str "a")) (mCons (mC (.str "=")) (mCons (mC (.str "-=")) (mNil))))) (mCall g__law_draw (mCons (mVar 0) (mCons (mC (.int 3)) (mNil))))))) (sNext)) (sRet (mCall g__law_bare (mCons (mVar 0) (mNil))))))))
theorem ok__law_drawn (Bl : BlT mg) (Gs : GsT K mg) (D : DefAt K mg "_law_drawn" s__law_drawn) {g__law_bare : Fn} (C__law_bare : CalF P w K mg base k "_law_bare" s__law_bare ["_law_state_here"] g__law_bare) {g__law_draw : Fn} (C__law_draw : CalF P w K mg base k "_law_draw" s__law_draw ["_law_state_here", "_law_many"] g__law_draw) {g__law_name : Fn} (C__law_name : CalF P w K mg base k "_law_name" s__law_name ["_law_state_here"] g__law_name) : CalF P w K mg base (k + 1) "_law_drawn" s__law_drawn ["_law_state_here"] (runBody 3 1 (b__law_drawn g__law_bare g__law_draw g__law_name)) :=
  calF_of D sc__law_drawn (fun _ _ _ _ _ _ us hl => match us, hl with | [_], _ => rfl) fun f cdv A outer s H E hr =>
  sndB_cons (sndS_set (i := 1) (sndE_lst (sndA_cons (sndE_str) (sndA_cons (sndE_str) (sndA_cons (sndE_str) (sndA_cons (sndE_str) (sndA_cons (sndE_str) (sndA_cons (sndE_str) (sndA_cons (sndE_str) (sndA_cons (sndE_str) (sndA_cons (sndE_str) (sndA_cons (sndE_str) (sndA_cons (sndE_str) (sndA_cons (sndE_str) (sndA_cons (sndE_str) (sndA_cons (sndE_str) (sndA_nil)))))))))))))))) sc__law_drawn.nd) (sndB_cons (sndS_set (i := 2) (sndE_callF C__law_draw hr (Nat.le_refl _) (sndA_cons (sndE_var 0) (sndA_cons (sndE_int) (sndA_nil)))) sc__law_drawn.nd) (sndB_cons (sndS_if (sndT_cmp (op2_eq hr.units) (sndE_var 2) (sndE_int)) (sndB_one (sndS_ret (sndE_ix (sndE_var 1) (sndE_callF C__law_draw hr (Nat.le_refl _) (sndA_cons (sndE_var 0) (sndA_cons (sndE_int) (sndA_nil))))))) (sndB_nil)) (sndB_cons (sndS_if (sndT_cmp (op2_eq hr.units) (sndE_var 2) (sndE_int)) (sndB_one (sndS_ret (sndE_op op2_Add (sndE_op op2_Add (sndE_callF C__law_name hr (Nat.le_refl _) (sndA_cons (sndE_var 0) (sndA_nil))) (sndE_str)) (sndE_ix (sndE_lst (sndA_cons (sndE_str) (sndA_cons (sndE_str) (sndA_cons (sndE_str) (sndA_nil))))) (sndE_callF C__law_draw hr (Nat.le_refl _) (sndA_cons (sndE_var 0) (sndA_cons (sndE_int) (sndA_nil)))))))) (sndB_nil)) (sndB_cons (sndS_if (sndT_cmp (op2_eq hr.units) (sndE_var 2) (sndE_int)) (sndB_one (sndS_ret (sndE_op op2_Add (sndE_ix (sndE_var 1) (sndE_callF C__law_draw hr (Nat.le_refl _) (sndA_cons (sndE_var 0) (sndA_cons (sndE_int) (sndA_nil))))) (sndE_ix (sndE_lst (sndA_cons (sndE_str) (sndA_cons (sndE_str) (sndA_cons (sndE_str) (sndA_nil))))) (sndE_callF C__law_draw hr (Nat.le_refl _) (sndA_cons (sndE_var 0) (sndA_cons (sndE_int) (sndA_nil)))))))) (sndB_nil)) (sndB_one (sndS_ret (sndE_callF C__law_bare hr (Nat.le_refl _) (sndA_cons (sndE_var 0) (sndA_nil)))))))))
/-! ### _law_state -/
abbrev N__law_state : List Str := ["_law_script", "_law_rests", "_law_cell"]
theorem sc__law_state : FnScope ["_law_script", "_law_rests", "_law_cell"] ["_law_script"] (defScope s__law_state) := ⟨rfl, rfl, rfl, by decide +kernel, rfl, by decide +kernel, by decide +kernel⟩
noncomputable def lc__law_state_0 : Ex := mLc (mItV (mVar 0)) (bdN 2) (mYes) (m2 gAdd (m2 gMul (mC (.int 2)) (m1 gAbs (mVar 2))) (m1 gInt (m2 gLt (mVar 2) (mC (.int 0))))) [2]
noncomputable def b__law_state : Sm := sSeq (sSet 1 (mBox (lc__law_state_0))) (sSeq (sIf (toT (m2 gEq (mVar 1) (mLst (mNil)))) (sSet 1 (mBox (mLst (mCons (mC (.int 0)) (mNil))))) (sNext)) (sRet (mBox (mLst (mCons (mVar 1) (mCons (mC (.int 0)) (mCons (mC (.int 14)) (mCons (mC (.int 34)) (mNil)))))))))
theorem ok__law_state (Bl : BlT mg) (Gs : GsT K mg) (D : DefAt K mg "_law_state" s__law_state) : CalF P w K mg base (k + 1) "_law_state" s__law_state ["_law_script"] (runBody 3 1 (b__law_state)) :=
  calF_of D sc__law_state (fun _ _ _ _ _ _ us hl => match us, hl with | [_], _ => rfl) fun f cdv A outer s H E hr =>
  sndB_cons (sndS_boxLc (k := 1) (own := [("_law_cell", 2)]) rfl sc__law_state.nd (blkOk_by (by change blkC N__law_state (defScope s__law_state) _ [("_law_cell", 2)] = true; decide +kernel)) (sndI_val (sndE_var 0)) (fun _ _ _ _ _ => sndG_name (k := 2) sc__law_state.nd) (fun _ _ _ _ _ => sndTs_nil) (fun _ _ _ _ _ => sndE_op op2_Add (sndE_op op2_Mul (sndE_int) (sndE_b1 call1_abs Bl.abs_ (by decide +kernel) (sndE_var 2))) (sndE_t1 call1_int Bl.int_ (by decide +kernel) (sndE_cmp op2_Lt (sndE_var 2) (sndE_int))))) (sndB_cons (sndS_if (sndT_cmp (op2_eq hr.units) (sndE_var 1) (sndE_lst (sndA_nil))) (sndB_one (sndS_set (i := 1) (sndE_box (sndE_lst (sndA_cons (sndE_int) (sndA_nil)))) sc__law_state.nd)) (sndB_nil)) (sndB_one (sndS_ret (sndE_box (sndE_lst (sndA_cons (sndE_var 1) (sndA_cons (sndE_int) (sndA_cons (sndE_int) (sndA_cons (sndE_int) (sndA_nil))))))))))
/-! ### law -/
abbrev N_law : List Str := ["_law_script", "_law_state_here", "_law_k", "_law_sets", "_law_told", "_law_first", "_law_pick", "_law_second", "_law_bad", "_law_node", "_law_passed", "_law_found", "_law_j"]
theorem sc_law : FnScope ["_law_script", "_law_state_here", "_law_k", "_law_sets", "_law_told", "_law_first", "_law_pick", "_law_second", "_law_bad", "_law_node", "_law_passed", "_law_found", "_law_j"] ["_law_script"] (defScope s_law) := ⟨rfl, rfl, rfl, by decide +kernel, rfl, by decide +kernel, by decide +kernel⟩
noncomputable def lc_law_0 (g__law_draw : Fn) (g__law_name : Fn) : Ex := mLc (mRange1 (mCons (m2 gIx (mLst (mCons (mC (.int 0)) (mCons (mC (.int 0)) (mCons (mC (.int 1)) (mCons (mC (.int 2)) (mNil)))))) (mCall g__law_draw (mCons (mVar 1) (mCons (mC (.int 4)) (mNil))))) (mNil))) (bdN 12) (mYes) (mTup (mCons (mCall g__law_name (mCons (mVar 1) (mNil))) (mCons (mLst (mNil)) (mNil)))) [12]
noncomputable def lp_law_0 (g__law_draw : Fn) (g__law_name : Fn) (g__law_drawn : Fn) (g__law_key : Fn) (g__law_is_name : Fn) (g_is_script : Fn) : Sm := sSeq (sSet 3 (lc_law_0 g__law_draw g__law_name)) (sSeq (sSet 4 (mCall g__law_drawn (mCons (mVar 1) (mNil)))) (sSeq (sSet 5 (mLst (mCons (mTup (mCons (mC (.str "bare")) (mCons (mVar 4) (mNil)))) (mNil)))) (sSeq (sSet 5 (m2 gAdd (mVar 5) (m2 gIx (mLst (mCons (mLst (mNil)) (mCons (mLst (mNil)) (mCons (mLst (mCons (mTup (mCons (mC (.str "held")) (mCons (mC (.str "")) (mNil)))) (mNil))) (mCons (mLst (mCons (mTup (mCons (mC (.str "name")) (mCons (mC (.str "x")) (mCons (mTup (mNil)) (mNil))))) (mNil))) (mNil)))))) (mCall g__law_draw (mCons (mVar 1) (mCons (mC (.int 4)) (mNil))))))) (sSeq (sSet 6 (mCall g__law_draw (mCons (mVar 1) (mCons (mC (.int 6)) (mNil))))) (sSeq (sIf (toT (m2 gEq (mVar 6) (mC (.int 0)))) (sSet 5 (m2 gAdd (mLst (mCons (mTup (mCons (mC (.str "held")) (mCons (mVar 4) (mNil)))) (mNil))) (mVar 5))) (sNext)) (sSeq (sIf (toT (m2 gEq (mVar 6) (mC (.int 1)))) (sSet 5 (mLst (mCons (mTup (mCons (mC (.str "wide")) (mCons (mLst (mNil)) (mNil)))) (mCons (mTup (mCons (mC (.str "bare")) (mCons (mVar 4) (mNil)))) (mNil))))) (sNext)) (sSeq (sSet 7 (mLst (mCons (mTup (mCons (mC (.str "bare")) (mCons (mCall g__law_drawn (mCons (mVar 1) (mNil))) (mNil)))) (mNil)))) (sSeq (sSet 8 (mAndV (m2 gGt (mVar 6) (mC (.int 1))) (mAndV (m2 gEq (mVar 3) (mLst (mNil))) (mAndV (m2 gEq (m1 gLen (mVar 5)) (mC (.int 1))) (mCall g__law_key (mCons (mVar 4) (mNil))))))) (sSeq (sIf (mAnd (toT (m2 gGt (mVar 6) (mC (.int 1)))) (mAnd (toT (m2 (gIn false) (mC (.str "=")) (mVar 4))) (mTru (mCall g__law_is_name (mCons (m2 gIx (mM gPartition (mVar 4) (mCons (mC (.str "=")) mNil)) (mC (.int 0))) (mNil)))))) (sSet 8 (mC (.bl true))) (sNext)) (sSeq (sSet 9 (mTup (mCons (mC (.str "do")) (mCons (mVar 3) (mCons (mSl (mLst (mCons (mVar 5) (mCons (mVar 7) (mNil)))) mNoPart (mPart (m2 gAdd (mC (.int 1)) (mCall g__law_draw (mCons (mVar 1) (mCons (mC (.int 2)) (mNil))))))) (mCons (mLst (mNil)) (mNil))))))) (sSeq (sSet 10 (m2 gIx (mLst (mCons (mLst (mCons (mVar 9) (mNil))) (mCons (mLst (mCons (mTup (mCons (mC (.str "group")) (mCons (mLst (mCons (mVar 9) (mNil))) (mCons (mLst (mNil)) (mNil))))) (mNil))) (mCons (mLst (mCons (mTup (mCons (mC (.str "pipe")) (mCons (mLst (mCons (mTup (mCons (mC (.str "do")) (mCons (mLst (mNil)) (mCons (mLst (mCons (mLst (mCons (mTup (mCons (mC (.str "held")) (mCons (mC (.str "")) (mNil)))) (mNil))) (mNil))) (mCons (mLst (mNil)) (mNil)))))) (mCons (mVar 9) (mNil)))) (mNil)))) (mNil))) (mNil))))) (mCall g__law_draw (mCons (mVar 1) (mCons (mC (.int 3)) (mNil)))))) (sSeq (sSet 11 (mCallK g_is_script [0] (mCons (mVar 10) (mNil)))) (sIf (mOr (mNot (mTru (m1 (gIsi "bool") (mVar 11)))) (toT (m2 gEq (mVar 11) (mVar 8)))) (sRet (mC (.bl false))) (sNext))))))))))))))
noncomputable def b_law (g_is_script : Fn) (g__law_draw : Fn) (g__law_is_name : Fn) (g__law_key : Fn) (g__law_drawn : Fn) (g__law_name : Fn) (g__law_state : Fn) : Sm := sSeq (sSet 1 (mCall g__law_state (mCons (mVar 0) (mNil)))) (sSeq (sFor (mRange1 (mCons (mC (.int 4)) (mNil))) (bdN 2) (lp_law_0 g__law_draw g__law_name g__law_drawn g__law_key g__law_is_name g_is_script)) (sRet (mC (.bl true))))
theorem ok_law (Bl : BlT mg) (Gs : GsT K mg) (D : DefAt K mg "law" s_law) {g_is_script : Fn} (C_is_script : CalF P w K mg base k "is_script" s_is_script ["tree"] g_is_script) {g__law_draw : Fn} (C__law_draw : CalF P w K mg base k "_law_draw" s__law_draw ["_law_state_here", "_law_many"] g__law_draw) {g__law_is_name : Fn} (C__law_is_name : CalF P w K mg base k "_law_is_name" s__law_is_name ["_law_told"] g__law_is_name) {g__law_key : Fn} (C__law_key : CalF P w K mg base k "_law_key" s__law_key ["_law_told"] g__law_key) {g__law_drawn : Fn} (C__law_drawn : CalF P w K mg base k "_law_drawn" s__law_drawn ["_law_state_here"] g__law_drawn) {g__law_name : Fn} (C__law_name : CalF P w K mg base k "_law_name" s__law_name ["_law_state_here"] g__law_name) {g__law_state : Fn} (C__law_state : CalF P w K mg base k "_law_state" s__law_state ["_law_script"] g__law_state) : CalF P w K mg base (k + 1) "law" s_law ["_law_script"] (runBody 13 1 (b_law g_is_script g__law_draw g__law_is_name g__law_key g__law_drawn g__law_name g__law_state)) :=
  calF_of D sc_law (fun _ _ _ _ _ _ us hl => match us, hl with | [_], _ => rfl) fun f cdv A outer s H E hr =>
  sndB_cons (sndS_set (i := 1) (sndE_callF C__law_state hr (Nat.le_refl _) (sndA_cons (sndE_var 0) (sndA_nil))) sc_law.nd) (sndB_cons (sndS_for PassesOwn.never rfl (sndI_range1 Bl.range_ (sndA_cons (sndE_int) (sndA_nil))) (sndG_name (k := 2) sc_law.nd) (sndB_cons (sndS_setLc (k := 3) (own := [("_law_j", 12)]) rfl sc_law.nd (blkOk_by (by change blkC N_law (defScope s_law) _ [("_law_j", 12)] = true; decide +kernel)) (sndI_range1 Bl.range_ (sndA_cons (sndE_ix (sndE_lst (sndA_cons (sndE_int) (sndA_cons (sndE_int) (sndA_cons (sndE_int) (sndA_cons (sndE_int) (sndA_nil)))))) (sndE_callF C__law_draw hr (Nat.le_refl _) (sndA_cons (sndE_var 1) (sndA_cons (sndE_int) (sndA_nil))))) (sndA_nil))) (fun _ _ _ _ _ => sndG_name (k := 12) sc_law.nd) (fun _ _ _ _ _ => sndTs_nil) (fun _ _ _ _ _ => sndE_tup (sndA_cons (sndE_callF C__law_name hr (Nat.le_refl _) (sndA_cons (sndE_var 1) (sndA_nil))) (sndA_cons (sndE_lst (sndA_nil)) (sndA_nil))))) (sndB_cons (sndS_set (i := 4) (sndE_callF C__law_drawn hr (Nat.le_refl _) (sndA_cons (sndE_var 1) (sndA_nil))) sc_law.nd) (sndB_cons (sndS_set (i := 5) (sndE_lst (sndA_cons (sndE_tup (sndA_cons (sndE_str) (sndA_cons (sndE_var 4) (sndA_nil)))) (sndA_nil))) sc_law.nd) (sndB_cons (sndS_set (i := 5) (sndE_op op2_Add (sndE_var 5) (sndE_ix (sndE_lst (sndA_cons (sndE_lst (sndA_nil)) (sndA_cons (sndE_lst (sndA_nil)) (sndA_cons (sndE_lst (sndA_cons (sndE_tup (sndA_cons (sndE_str) (sndA_cons (sndE_str) (sndA_nil)))) (sndA_nil))) (sndA_cons (sndE_lst (sndA_cons (sndE_tup (sndA_cons (sndE_str) (sndA_cons (sndE_str) (sndA_cons (sndE_tup (sndA_nil)) (sndA_nil))))) (sndA_nil))) (sndA_nil)))))) (sndE_callF C__law_draw hr (Nat.le_refl _) (sndA_cons (sndE_var 1) (sndA_cons (sndE_int) (sndA_nil)))))) sc_law.nd) (sndB_cons (sndS_set (i := 6) (sndE_callF C__law_draw hr (Nat.le_refl _) (sndA_cons (sndE_var 1) (sndA_cons (sndE_int) (sndA_nil)))) sc_law.nd) (sndB_cons (sndS_if (sndT_cmp (op2_eq hr.units) (sndE_var 6) (sndE_int)) (sndB_one (sndS_set (i := 5) (sndE_op op2_Add (sndE_lst (sndA_cons (sndE_tup (sndA_cons (sndE_str) (sndA_cons (sndE_var 4) (sndA_nil)))) (sndA_nil))) (sndE_var 5)) sc_law.nd)) (sndB_nil)) (sndB_cons (sndS_if (sndT_cmp (op2_eq hr.units) (sndE_var 6) (sndE_int)) (sndB_one (sndS_set (i := 5) (sndE_lst (sndA_cons (sndE_tup (sndA_cons (sndE_str) (sndA_cons (sndE_lst (sndA_nil)) (sndA_nil)))) (sndA_cons (sndE_tup (sndA_cons (sndE_str) (sndA_cons (sndE_var 4) (sndA_nil)))) (sndA_nil)))) sc_law.nd)) (sndB_nil)) (sndB_cons (sndS_set (i := 7) (sndE_lst (sndA_cons (sndE_tup (sndA_cons (sndE_str) (sndA_cons (sndE_callF C__law_drawn hr (Nat.le_refl _) (sndA_cons (sndE_var 1) (sndA_nil))) (sndA_nil)))) (sndA_nil))) sc_law.nd) (sndB_cons (sndS_set (i := 8) (sndE_and (sndE_cmp op2_Gt (sndE_var 6) (sndE_int)) (sndE_and (sndE_cmp (op2_eq hr.units) (sndE_var 3) (sndE_lst (sndA_nil))) (sndE_and (sndE_cmp (op2_eq hr.units) (sndE_b1 call1_len Bl.len_ PySem.boot_len (sndE_var 5)) (sndE_int)) (sndE_one (sndE_callF C__law_key hr (Nat.le_refl _) (sndA_cons (sndE_var 4) (sndA_nil))))))) sc_law.nd) (sndB_cons (sndS_if (sndT_of (sndW_and (sndT_cmp op2_Gt (sndE_var 6) (sndE_int)) (sndW_and (sndT_cmp op2_in (sndE_str) (sndE_var 4)) (sndW_and1 (sndT_tru (sndE_callF C__law_is_name hr (Nat.le_refl _) (sndA_cons (sndE_ix (sndE_m1 PySem.F.slot_str_partition PySem.F.type_str_partition meth_partition (sndE_var 4) (sndE_str)) (sndE_int)) (sndA_nil)))))))) (sndB_one (sndS_set (i := 8) (sndE_bl) sc_law.nd)) (sndB_nil)) (sndB_cons (sndS_set (i := 9) (sndE_tup (sndA_cons (sndE_str) (sndA_cons (sndE_var 3) (sndA_cons (sndE_sl (sndE_lst (sndA_cons (sndE_var 5) (sndA_cons (sndE_var 7) (sndA_nil)))) sndO_none (sndO_some (sndE_op op2_Add (sndE_int) (sndE_callF C__law_draw hr (Nat.le_refl _) (sndA_cons (sndE_var 1) (sndA_cons (sndE_int) (sndA_nil))))))) (sndA_cons (sndE_lst (sndA_nil)) (sndA_nil)))))) sc_law.nd) (sndB_cons (sndS_set (i := 10) (sndE_ix (sndE_lst (sndA_cons (sndE_lst (sndA_cons (sndE_var 9) (sndA_nil))) (sndA_cons (sndE_lst (sndA_cons (sndE_tup (sndA_cons (sndE_str) (sndA_cons (sndE_lst (sndA_cons (sndE_var 9) (sndA_nil))) (sndA_cons (sndE_lst (sndA_nil)) (sndA_nil))))) (sndA_nil))) (sndA_cons (sndE_lst (sndA_cons (sndE_tup (sndA_cons (sndE_str) (sndA_cons (sndE_lst (sndA_cons (sndE_tup (sndA_cons (sndE_str) (sndA_cons (sndE_lst (sndA_nil)) (sndA_cons (sndE_lst (sndA_cons (sndE_lst (sndA_cons (sndE_tup (sndA_cons (sndE_str) (sndA_cons (sndE_str) (sndA_nil)))) (sndA_nil))) (sndA_nil))) (sndA_cons (sndE_lst (sndA_nil)) (sndA_nil)))))) (sndA_cons (sndE_var 9) (sndA_nil)))) (sndA_nil)))) (sndA_nil))) (sndA_nil))))) (sndE_callF C__law_draw hr (Nat.le_refl _) (sndA_cons (sndE_var 1) (sndA_cons (sndE_int) (sndA_nil))))) sc_law.nd) (sndB_cons (sndS_set (i := 11) (sndE_callK C_is_script hr (Nat.le_refl _) kw_is_script_tree (by decide) (sndK_cons (sndE_var 10) (sndK_nil))) sc_law.nd) (sndB_one (sndS_if (sndT_of (sndW_or (sndT_not (sndT_tru (sndE_isi Bl.isinstance Bl.bool_ (by decide +kernel) (sndE_var 11)))) (sndW_or1 (sndT_cmp (op2_eq hr.units) (sndE_var 11) (sndE_var 8))))) (sndB_one (sndS_ret (sndE_bl))) (sndB_nil))))))))))))))))) (sndB_one (sndS_ret (sndE_bl))))
end
/-! ### the texts as codes -/
@[simp] theorem lit_0 : Str.ofString "if" = ofC [105, 102] := by decide +kernel
@[simp] theorem lit_1 : Str.ofString "then" = ofC [116, 104, 101, 110] := by decide +kernel
@[simp] theorem lit_2 : Str.ofString "elif" = ofC [101, 108, 105, 102] := by decide +kernel
@[simp] theorem lit_3 : Str.ofString "else" = ofC [101, 108, 115, 101] := by decide +kernel
@[simp] theorem lit_4 : Str.ofString "fi" = ofC [102, 105] := by decide +kernel
@[simp] theorem lit_5 : Str.ofString "while" = ofC [119, 104, 105, 108, 101] := by decide +kernel
@[simp] theorem lit_6 : Str.ofString "until" = ofC [117, 110, 116, 105, 108] := by decide +kernel
@[simp] theorem lit_7 : Str.ofString "do" = ofC [100, 111] := by decide +kernel
@[simp] theorem lit_8 : Str.ofString "done" = ofC [100, 111, 110, 101] := by decide +kernel
@[simp] theorem lit_9 : Str.ofString "for" = ofC [102, 111, 114] := by decide +kernel
@[simp] theorem lit_10 : Str.ofString "in" = ofC [105, 110] := by decide +kernel
@[simp] theorem lit_11 : Str.ofString "case" = ofC [99, 97, 115, 101] := by decide +kernel
@[simp] theorem lit_12 : Str.ofString "esac" = ofC [101, 115, 97, 99] := by decide +kernel
@[simp] theorem lit_13 : Str.ofString "{" = ofC [123] := by decide +kernel
@[simp] theorem lit_14 : Str.ofString "}" = ofC [125] := by decide +kernel
@[simp] theorem lit_15 : Str.ofString "!" = ofC [33] := by decide +kernel
@[simp] theorem lit_16 : Str.ofString "set" = ofC [115, 101, 116] := by decide +kernel
@[simp] theorem lit_17 : Str.ofString "first" = ofC [102, 105, 114, 115, 116] := by decide +kernel
@[simp] theorem lit_18 : Str.ofString "part" = ofC [112, 97, 114, 116] := by decide +kernel
@[simp] theorem lit_19 : Str.ofString "make" = ofC [109, 97, 107, 101] := by decide +kernel
@[simp] theorem lit_20 : Str.ofString "list" = ofC [108, 105, 115, 116] := by decide +kernel
@[simp] theorem lit_21 : Str.ofString "" = ofC [] := by decide +kernel
@[simp] theorem lit_22 : Str.ofString "=" = ofC [61] := by decide +kernel
@[simp] theorem lit_23 : Str.ofString "-" = ofC [45] := by decide +kernel
@[simp] theorem lit_24 : Str.ofString "*" = ofC [42] := by decide +kernel
@[simp] theorem lit_25 : Str.ofString "^" = ofC [94] := by decide +kernel
@[simp] theorem lit_26 : Str.ofString "bare" = ofC [98, 97, 114, 101] := by decide +kernel
@[simp] theorem lit_27 : Str.ofString "0" = ofC [48] := by decide +kernel
@[simp] theorem lit_28 : Str.ofString "2" = ofC [50] := by decide +kernel
@[simp] theorem lit_29 : Str.ofString "plain" = ofC [112, 108, 97, 105, 110] := by decide +kernel
@[simp] theorem lit_30 : Str.ofString "name" = ofC [110, 97, 109, 101] := by decide +kernel
@[simp] theorem lit_31 : Str.ofString "sum" = ofC [115, 117, 109] := by decide +kernel
@[simp] theorem lit_32 : Str.ofString "run" = ofC [114, 117, 110] := by decide +kernel
@[simp] theorem lit_33 : Str.ofString "wide" = ofC [119, 105, 100, 101] := by decide +kernel
@[simp] theorem lit_34 : Str.ofString "mark" = ofC [109, 97, 114, 107] := by decide +kernel
@[simp] theorem lit_35 : Str.ofString "held" = ofC [104, 101, 108, 100] := by decide +kernel
@[simp] theorem lit_36 : Str.ofString "cut" = ofC [99, 117, 116] := by decide +kernel
@[simp] theorem lit_37 : Str.ofString "pipe" = ofC [112, 105, 112, 101] := by decide +kernel
@[simp] theorem lit_38 : Str.ofString "not" = ofC [110, 111, 116] := by decide +kernel
@[simp] theorem lit_39 : Str.ofString "x" = ofC [120] := by decide +kernel
@[simp] theorem lit_40 : Str.ofString "SEP" = ofC [83, 69, 80] := by decide +kernel
@[simp] theorem lit_41 : Str.ofString "x=" = ofC [120, 61] := by decide +kernel
@[simp] theorem lit_42 : Str.ofString "_1=a" = ofC [95, 49, 61, 97] := by decide +kernel
@[simp] theorem lit_43 : Str.ofString "1=" = ofC [49, 61] := by decide +kernel
@[simp] theorem lit_44 : Str.ofString "#" = ofC [35] := by decide +kernel
@[simp] theorem lit_45 : Str.ofString "?" = ofC [63] := by decide +kernel
@[simp] theorem lit_46 : Str.ofString "@" = ofC [64] := by decide +kernel
@[simp] theorem lit_47 : Str.ofString "size" = ofC [115, 105, 122, 101] := by decide +kernel
@[simp] theorem lit_48 : Str.ofString "must" = ofC [109, 117, 115, 116] := by decide +kernel
@[simp] theorem lit_49 : Str.ofString "and" = ofC [97, 110, 100] := by decide +kernel
@[simp] theorem lit_50 : Str.ofString "or" = ofC [111, 114] := by decide +kernel
@[simp] theorem lit_51 : Str.ofString "each" = ofC [101, 97, 99, 104] := by decide +kernel
@[simp] theorem lit_52 : Str.ofString "\x0a" = ofC [10] := by decide +kernel
@[simp] theorem lit_53 : Str.ofString "'" = ofC [39] := by decide +kernel
@[simp] theorem lit_54 : Str.ofString "lack" = ofC [108, 97, 99, 107] := by decide +kernel
@[simp] theorem lit_55 : Str.ofString "other" = ofC [111, 116, 104, 101, 114] := by decide +kernel
@[simp] theorem lit_56 : Str.ofString "group" = ofC [103, 114, 111, 117, 112] := by decide +kernel
@[simp] theorem lit_57 : Str.ofString "apart" = ofC [97, 112, 97, 114, 116] := by decide +kernel
@[simp] theorem lit_58 : Str.ofString "##" = ofC [35, 35] := by decide +kernel
@[simp] theorem lit_59 : Str.ofString "^^" = ofC [94, 94] := by decide +kernel
@[simp] theorem lit_60 : Str.ofString "a" = ofC [97] := by decide +kernel
@[simp] theorem lit_61 : Str.ofString "-=" = ofC [45, 61] := by decide +kernel
theorem lit_DIGITS : c_DIGITS = ofC [48, 49, 50, 51, 52, 53, 54, 55, 56, 57] := by decide +kernel
theorem lit_LETTERS : c_LETTERS = ofC [97, 98, 99, 100, 101, 102, 103, 104, 105, 106, 107, 108, 109, 110, 111, 112, 113, 114, 115, 116, 117, 118, 119, 120, 121, 122, 65, 66, 67, 68, 69, 70, 71, 72, 73, 74, 75, 76, 77, 78, 79, 80, 81, 82, 83, 84, 85, 86, 87, 88, 89, 90, 95] := by decide +kernel
theorem lit_NAME_SIGNS : c_NAME_SIGNS = ofC [97, 98, 99, 100, 101, 102, 103, 104, 105, 106, 107, 108, 109, 110, 111, 112, 113, 114, 115, 116, 117, 118, 119, 120, 121, 122, 65, 66, 67, 68, 69, 70, 71, 72, 73, 74, 75, 76, 77, 78, 79, 80, 81, 82, 83, 84, 85, 86, 87, 88, 89, 90, 95, 48, 49, 50, 51, 52, 53, 54, 55, 56, 57] := by decide +kernel
theorem lit_BARE : c_BARE = ofC [97, 98, 99, 100, 101, 102, 103, 104, 105, 106, 107, 108, 109, 110, 111, 112, 113, 114, 115, 116, 117, 118, 119, 120, 121, 122, 65, 66, 67, 68, 69, 70, 71, 72, 73, 74, 75, 76, 77, 78, 79, 80, 81, 82, 83, 84, 85, 86, 87, 88, 89, 90, 48, 49, 50, 51, 52, 53, 54, 55, 56, 57, 46, 47, 95, 45, 44, 58, 43, 64, 61, 42, 63, 91, 93, 33, 126] := by decide +kernel
theorem lit_SIGNS : c_SIGNS = ofC [10, 32, 33, 34, 35, 36, 38, 39, 40, 41, 42, 43, 44, 45, 46, 47, 48, 49, 50, 51, 52, 53, 54, 55, 56, 57, 58, 59, 60, 61, 62, 63, 64, 65, 66, 67, 68, 69, 70, 71, 72, 73, 74, 75, 76, 77, 78, 79, 80, 81, 82, 83, 84, 85, 86, 87, 88, 89, 90, 91, 92, 93, 94, 95, 96, 97, 98, 99, 100, 101, 102, 103, 104, 105, 106, 107, 108, 109, 110, 111, 112, 113, 114, 115, 116, 117, 118, 119, 120, 121, 122, 123, 124, 125, 126] := by decide +kernel
/-! ### the chain -/
structure DfT (K : PySem.W.Frag) (mg : Str → Option Value) : Prop where
  d_has_signs : DefAt K mg "has_signs" s_has_signs
  d_is_text : DefAt K mg "is_text" s_is_text
  d_is_sum : DefAt K mg "is_sum" s_is_sum
  d_is_name : DefAt K mg "is_name" s_is_name
  d_is_place : DefAt K mg "is_place" s_is_place
  d_is_name_or_place : DefAt K mg "is_name_or_place" s_is_name_or_place
  d_is_tagged : DefAt K mg "is_tagged" s_is_tagged
  d_are_cases : DefAt K mg "are_cases" s_are_cases
  d_are_arms : DefAt K mg "are_arms" s_are_arms
  d_is_turn : DefAt K mg "is_turn" s_is_turn
  d_are_turns : DefAt K mg "are_turns" s_are_turns
  d_may_name_function : DefAt K mg "may_name_function" s_may_name_function
  d_begins_set : DefAt K mg "begins_set" s_begins_set
  d_is_script : DefAt K mg "is_script" s_is_script
  d_is_command : DefAt K mg "is_command" s_is_command
  d_is_compound : DefAt K mg "is_compound" s_is_compound
  d_is_word : DefAt K mg "is_word" s_is_word
  d_are_pieces : DefAt K mg "are_pieces" s_are_pieces
  d_is_piece : DefAt K mg "is_piece" s_is_piece
  d_may_be_done : DefAt K mg "may_be_done" s_may_be_done
  d_are_words : DefAt K mg "are_words" s_are_words
  d_is_body : DefAt K mg "is_body" s_is_body
  d_is_joint : DefAt K mg "is_joint" s_is_joint
  d_is_do : DefAt K mg "is_do" s_is_do
  d__law_draw : DefAt K mg "_law_draw" s__law_draw
  d__law_is_name : DefAt K mg "_law_is_name" s__law_is_name
  d__law_key : DefAt K mg "_law_key" s__law_key
  d__law_signs : DefAt K mg "_law_signs" s__law_signs
  d__law_bare : DefAt K mg "_law_bare" s__law_bare
  d__law_name : DefAt K mg "_law_name" s__law_name
  d__law_drawn : DefAt K mg "_law_drawn" s__law_drawn
  d__law_state : DefAt K mg "_law_state" s__law_state
  d_law : DefAt K mg "law" s_law
section
variable {P : Program} {w : World} {K : PySem.W.Frag} {mg : Str → Option Value} {base : Heap}
noncomputable def G_has_signs : Fn := runBody 3 2 (b_has_signs)
theorem cal_has_signs (Bl : BlT mg) (Gs : GsT K mg) (D : DfT K mg) : CalF P w K mg base 1 "has_signs" s_has_signs ["text", "signs"] G_has_signs := ok_has_signs Bl Gs D.d_has_signs (k := 0)
noncomputable def G_is_text : Fn := runBody 1 1 (b_is_text G_has_signs)
theorem cal_is_text (Bl : BlT mg) (Gs : GsT K mg) (D : DfT K mg) : CalF P w K mg base 2 "is_text" s_is_text ["thing"] G_is_text := ok_is_text Bl Gs D.d_is_text ((cal_has_signs Bl Gs D).mono (by decide))
noncomputable def G_is_sum : Fn := runBody 3 1 (b_is_sum)
theorem cal_is_sum (Bl : BlT mg) (Gs : GsT K mg) (D : DfT K mg) : CalF P w K mg base 1 "is_sum" s_is_sum ["tree"] G_is_sum := ok_is_sum Bl Gs D.d_is_sum (k := 0)
noncomputable def G_is_name : Fn := runBody 1 1 (b_is_name G_has_signs)
theorem cal_is_name (Bl : BlT mg) (Gs : GsT K mg) (D : DfT K mg) : CalF P w K mg base 2 "is_name" s_is_name ["thing"] G_is_name := ok_is_name Bl Gs D.d_is_name ((cal_has_signs Bl Gs D).mono (by decide))
noncomputable def G_is_place : Fn := runBody 1 1 (b_is_place G_has_signs)
theorem cal_is_place (Bl : BlT mg) (Gs : GsT K mg) (D : DfT K mg) : CalF P w K mg base 2 "is_place" s_is_place ["thing"] G_is_place := ok_is_place Bl Gs D.d_is_place ((cal_has_signs Bl Gs D).mono (by decide))
noncomputable def G_is_name_or_place : Fn := runBody 1 1 (b_is_name_or_place G_is_name G_is_place)
theorem cal_is_name_or_place (Bl : BlT mg) (Gs : GsT K mg) (D : DfT K mg) : CalF P w K mg base 3 "is_name_or_place" s_is_name_or_place ["thing"] G_is_name_or_place := ok_is_name_or_place Bl Gs D.d_is_name_or_place ((cal_is_name Bl Gs D).mono (by decide)) ((cal_is_place Bl Gs D).mono (by decide))
noncomputable def G_is_tagged : Fn := runBody 1 1 (b_is_tagged)
theorem cal_is_tagged (Bl : BlT mg) (Gs : GsT K mg) (D : DfT K mg) : CalF P w K mg base 1 "is_tagged" s_is_tagged ["tree"] G_is_tagged := ok_is_tagged Bl Gs D.d_is_tagged (k := 0)
noncomputable def G_are_cases : Fn := runBody 2 1 (b_are_cases)
theorem cal_are_cases (Bl : BlT mg) (Gs : GsT K mg) (D : DfT K mg) : CalF P w K mg base 1 "are_cases" s_are_cases ["tree"] G_are_cases := ok_are_cases Bl Gs D.d_are_cases (k := 0)
noncomputable def G_are_arms : Fn := runBody 2 1 (b_are_arms)
theorem cal_are_arms (Bl : BlT mg) (Gs : GsT K mg) (D : DfT K mg) : CalF P w K mg base 1 "are_arms" s_are_arms ["tree"] G_are_arms := ok_are_arms Bl Gs D.d_are_arms (k := 0)
noncomputable def G_is_turn : Fn := runBody 1 1 (b_is_turn)
theorem cal_is_turn (Bl : BlT mg) (Gs : GsT K mg) (D : DfT K mg) : CalF P w K mg base 1 "is_turn" s_is_turn ["turn"] G_is_turn := ok_is_turn Bl Gs D.d_is_turn (k := 0)
noncomputable def G_are_turns : Fn := runBody 2 1 (b_are_turns G_is_turn)
theorem cal_are_turns (Bl : BlT mg) (Gs : GsT K mg) (D : DfT K mg) : CalF P w K mg base 2 "are_turns" s_are_turns ["tree"] G_are_turns := ok_are_turns Bl Gs D.d_are_turns ((cal_is_turn Bl Gs D).mono (by decide))
noncomputable def G_may_name_function : Fn := runBody 1 1 (b_may_name_function)
theorem cal_may_name_function (Bl : BlT mg) (Gs : GsT K mg) (D : DfT K mg) : CalF P w K mg base 1 "may_name_function" s_may_name_function ["thing"] G_may_name_function := ok_may_name_function Bl Gs D.d_may_name_function (k := 0)
noncomputable def G_begins_set : Fn := runBody 4 1 (b_begins_set G_is_name)
theorem cal_begins_set (Bl : BlT mg) (Gs : GsT K mg) (D : DfT K mg) : CalF P w K mg base 3 "begins_set" s_begins_set ["text"] G_begins_set := ok_begins_set Bl Gs D.d_begins_set ((cal_is_name Bl Gs D).mono (by decide))
mutual
noncomputable def G_is_script : Nat → Fn
  | 0 => fun _ _ => .bad
  | n + 1 => runBody 2 1 (b_is_script (G_is_command n))
noncomputable def G_is_command : Nat → Fn
  | 0 => fun _ _ => .bad
  | n + 1 => runBody 1 1 (b_is_command (G_is_compound n) (G_is_joint n) (G_is_do n) G_is_tagged)
noncomputable def G_is_compound : Nat → Fn
  | 0 => fun _ _ => .bad
  | n + 1 => runBody 1 1 (b_is_compound (G_is_word n) G_are_cases G_is_name (G_are_words n) (G_is_body n) G_are_arms G_are_turns)
noncomputable def G_is_word : Nat → Fn
  | 0 => fun _ _ => .bad
  | n + 1 => runBody 1 1 (b_is_word (G_are_pieces n))
noncomputable def G_are_pieces : Nat → Fn
  | 0 => fun _ _ => .bad
  | n + 1 => runBody 5 2 (b_are_pieces (G_is_piece n))
noncomputable def G_is_piece : Nat → Fn
  | 0 => fun _ _ => .bad
  | n + 1 => runBody 2 2 (b_is_piece G_has_signs G_is_text (G_are_pieces n) (G_is_script n) G_is_sum G_is_name_or_place (G_may_be_done n) G_is_tagged)
noncomputable def G_may_be_done : Nat → Fn
  | 0 => fun _ _ => .bad
  | n + 1 => runBody 3 2 (b_may_be_done (G_are_pieces n) G_is_tagged)
noncomputable def G_are_words : Nat → Fn
  | 0 => fun _ _ => .bad
  | n + 1 => runBody 2 1 (b_are_words (G_is_word n))
noncomputable def G_is_body : Nat → Fn
  | 0 => fun _ _ => .bad
  | n + 1 => runBody 1 1 (b_is_body (G_is_script n))
noncomputable def G_is_joint : Nat → Fn
  | 0 => fun _ _ => .bad
  | n + 1 => runBody 2 1 (b_is_joint (G_is_command n) (G_is_script n) G_may_name_function G_is_tagged (G_is_compound n))
noncomputable def G_is_do : Nat → Fn
  | 0 => fun _ _ => .bad
  | n + 1 => runBody 5 3 (b_is_do G_begins_set G_is_name (G_are_pieces n) (G_are_words n) G_are_turns)
end
theorem cals_is_script (Bl : BlT mg) (Gs : GsT K mg) (D : DfT K mg) : ∀ n, CalF P w K mg base (3 + n) "is_script" s_is_script ["tree"] (G_is_script n) ∧ CalF P w K mg base (3 + n) "is_command" s_is_command ["tree"] (G_is_command n) ∧ CalF P w K mg base (3 + n) "is_compound" s_is_compound ["tree"] (G_is_compound n) ∧ CalF P w K mg base (3 + n) "is_word" s_is_word ["tree"] (G_is_word n) ∧ CalF P w K mg base (3 + n) "are_pieces" s_are_pieces ["tree", "inside"] (G_are_pieces n) ∧ CalF P w K mg base (3 + n) "is_piece" s_is_piece ["piece", "inside"] (G_is_piece n) ∧ CalF P w K mg base (3 + n) "may_be_done" s_may_be_done ["name", "deed"] (G_may_be_done n) ∧ CalF P w K mg base (3 + n) "are_words" s_are_words ["trees"] (G_are_words n) ∧ CalF P w K mg base (3 + n) "is_body" s_is_body ["tree"] (G_is_body n) ∧ CalF P w K mg base (3 + n) "is_joint" s_is_joint ["tree"] (G_is_joint n) ∧ CalF P w K mg base (3 + n) "is_do" s_is_do ["sets", "words", "turns"] (G_is_do n)
  | 0 => ⟨(calF_none D.d_is_script (fun _ _ _ _ _ _ us hl => match us, hl with | [_], _ => rfl)), (calF_none D.d_is_command (fun _ _ _ _ _ _ us hl => match us, hl with | [_], _ => rfl)), (calF_none D.d_is_compound (fun _ _ _ _ _ _ us hl => match us, hl with | [_], _ => rfl)), (calF_none D.d_is_word (fun _ _ _ _ _ _ us hl => match us, hl with | [_], _ => rfl)), (calF_none D.d_are_pieces (fun _ _ _ _ _ _ us hl => match us, hl with | [_, _], _ => rfl)), (calF_none D.d_is_piece (fun _ _ _ _ _ _ us hl => match us, hl with | [_, _], _ => rfl)), (calF_none D.d_may_be_done (fun _ _ _ _ _ _ us hl => match us, hl with | [_, _], _ => rfl)), (calF_none D.d_are_words (fun _ _ _ _ _ _ us hl => match us, hl with | [_], _ => rfl)), (calF_none D.d_is_body (fun _ _ _ _ _ _ us hl => match us, hl with | [_], _ => rfl)), (calF_none D.d_is_joint (fun _ _ _ _ _ _ us hl => match us, hl with | [_], _ => rfl)), (calF_none D.d_is_do (fun _ _ _ _ _ _ us hl => match us, hl with | [_, _, _], _ => rfl))⟩
  | n + 1 => by
    obtain ⟨c_is_script, c_is_command, c_is_compound, c_is_word, c_are_pieces, c_is_piece, c_may_be_done, c_are_words, c_is_body, c_is_joint, c_is_do⟩ := cals_is_script Bl Gs D n
    exact ⟨(ok_is_script Bl Gs D.d_is_script c_is_command), (ok_is_command Bl Gs D.d_is_command c_is_compound c_is_joint c_is_do ((cal_is_tagged Bl Gs D).mono (Nat.le_trans (by decide : 1 ≤ 3) (Nat.le_add_right _ _)))), (ok_is_compound Bl Gs D.d_is_compound c_is_word ((cal_are_cases Bl Gs D).mono (Nat.le_trans (by decide : 1 ≤ 3) (Nat.le_add_right _ _))) ((cal_is_name Bl Gs D).mono (Nat.le_trans (by decide : 2 ≤ 3) (Nat.le_add_right _ _))) c_are_words c_is_body ((cal_are_arms Bl Gs D).mono (Nat.le_trans (by decide : 1 ≤ 3) (Nat.le_add_right _ _))) ((cal_are_turns Bl Gs D).mono (Nat.le_trans (by decide : 2 ≤ 3) (Nat.le_add_right _ _)))), (ok_is_word Bl Gs D.d_is_word c_are_pieces), (ok_are_pieces Bl Gs D.d_are_pieces c_is_piece), (ok_is_piece Bl Gs D.d_is_piece ((cal_has_signs Bl Gs D).mono (Nat.le_trans (by decide : 1 ≤ 3) (Nat.le_add_right _ _))) ((cal_is_text Bl Gs D).mono (Nat.le_trans (by decide : 2 ≤ 3) (Nat.le_add_right _ _))) c_are_pieces c_is_script ((cal_is_sum Bl Gs D).mono (Nat.le_trans (by decide : 1 ≤ 3) (Nat.le_add_right _ _))) ((cal_is_name_or_place Bl Gs D).mono (Nat.le_trans (by decide : 3 ≤ 3) (Nat.le_add_right _ _))) c_may_be_done ((cal_is_tagged Bl Gs D).mono (Nat.le_trans (by decide : 1 ≤ 3) (Nat.le_add_right _ _)))), (ok_may_be_done Bl Gs D.d_may_be_done c_are_pieces ((cal_is_tagged Bl Gs D).mono (Nat.le_trans (by decide : 1 ≤ 3) (Nat.le_add_right _ _)))), (ok_are_words Bl Gs D.d_are_words c_is_word), (ok_is_body Bl Gs D.d_is_body c_is_script), (ok_is_joint Bl Gs D.d_is_joint c_is_command c_is_script ((cal_may_name_function Bl Gs D).mono (Nat.le_trans (by decide : 1 ≤ 3) (Nat.le_add_right _ _))) ((cal_is_tagged Bl Gs D).mono (Nat.le_trans (by decide : 1 ≤ 3) (Nat.le_add_right _ _))) c_is_compound), (ok_is_do Bl Gs D.d_is_do ((cal_begins_set Bl Gs D).mono (Nat.le_trans (by decide : 3 ≤ 3) (Nat.le_add_right _ _))) ((cal_is_name Bl Gs D).mono (Nat.le_trans (by decide : 2 ≤ 3) (Nat.le_add_right _ _))) c_are_pieces c_are_words ((cal_are_turns Bl Gs D).mono (Nat.le_trans (by decide : 2 ≤ 3) (Nat.le_add_right _ _))))⟩
theorem cal_is_script (Bl : BlT mg) (Gs : GsT K mg) (D : DfT K mg) (n : Nat) : CalF P w K mg base (3 + n) "is_script" s_is_script ["tree"] (G_is_script n) := (cals_is_script Bl Gs D n).1
theorem cal_is_command (Bl : BlT mg) (Gs : GsT K mg) (D : DfT K mg) (n : Nat) : CalF P w K mg base (3 + n) "is_command" s_is_command ["tree"] (G_is_command n) := (cals_is_script Bl Gs D n).2.1
theorem cal_is_compound (Bl : BlT mg) (Gs : GsT K mg) (D : DfT K mg) (n : Nat) : CalF P w K mg base (3 + n) "is_compound" s_is_compound ["tree"] (G_is_compound n) := (cals_is_script Bl Gs D n).2.2.1
theorem cal_is_word (Bl : BlT mg) (Gs : GsT K mg) (D : DfT K mg) (n : Nat) : CalF P w K mg base (3 + n) "is_word" s_is_word ["tree"] (G_is_word n) := (cals_is_script Bl Gs D n).2.2.2.1
theorem cal_are_pieces (Bl : BlT mg) (Gs : GsT K mg) (D : DfT K mg) (n : Nat) : CalF P w K mg base (3 + n) "are_pieces" s_are_pieces ["tree", "inside"] (G_are_pieces n) := (cals_is_script Bl Gs D n).2.2.2.2.1
theorem cal_is_piece (Bl : BlT mg) (Gs : GsT K mg) (D : DfT K mg) (n : Nat) : CalF P w K mg base (3 + n) "is_piece" s_is_piece ["piece", "inside"] (G_is_piece n) := (cals_is_script Bl Gs D n).2.2.2.2.2.1
theorem cal_may_be_done (Bl : BlT mg) (Gs : GsT K mg) (D : DfT K mg) (n : Nat) : CalF P w K mg base (3 + n) "may_be_done" s_may_be_done ["name", "deed"] (G_may_be_done n) := (cals_is_script Bl Gs D n).2.2.2.2.2.2.1
theorem cal_are_words (Bl : BlT mg) (Gs : GsT K mg) (D : DfT K mg) (n : Nat) : CalF P w K mg base (3 + n) "are_words" s_are_words ["trees"] (G_are_words n) := (cals_is_script Bl Gs D n).2.2.2.2.2.2.2.1
theorem cal_is_body (Bl : BlT mg) (Gs : GsT K mg) (D : DfT K mg) (n : Nat) : CalF P w K mg base (3 + n) "is_body" s_is_body ["tree"] (G_is_body n) := (cals_is_script Bl Gs D n).2.2.2.2.2.2.2.2.1
theorem cal_is_joint (Bl : BlT mg) (Gs : GsT K mg) (D : DfT K mg) (n : Nat) : CalF P w K mg base (3 + n) "is_joint" s_is_joint ["tree"] (G_is_joint n) := (cals_is_script Bl Gs D n).2.2.2.2.2.2.2.2.2.1
theorem cal_is_do (Bl : BlT mg) (Gs : GsT K mg) (D : DfT K mg) (n : Nat) : CalF P w K mg base (3 + n) "is_do" s_is_do ["sets", "words", "turns"] (G_is_do n) := (cals_is_script Bl Gs D n).2.2.2.2.2.2.2.2.2.2
noncomputable def G__law_draw : Fn := runBody 8 2 (b__law_draw)
theorem cal__law_draw (Bl : BlT mg) (Gs : GsT K mg) (D : DfT K mg) : CalF P w K mg base 1 "_law_draw" s__law_draw ["_law_state_here", "_law_many"] G__law_draw := ok__law_draw Bl Gs D.d__law_draw (k := 0)
noncomputable def G__law_is_name : Fn := runBody 3 1 (b__law_is_name)
theorem cal__law_is_name (Bl : BlT mg) (Gs : GsT K mg) (D : DfT K mg) : CalF P w K mg base 1 "_law_is_name" s__law_is_name ["_law_told"] G__law_is_name := ok__law_is_name Bl Gs D.d__law_is_name (k := 0)
noncomputable def G__law_key : Fn := runBody 2 1 (b__law_key)
theorem cal__law_key (Bl : BlT mg) (Gs : GsT K mg) (D : DfT K mg) : CalF P w K mg base 1 "_law_key" s__law_key ["_law_told"] G__law_key := ok__law_key Bl Gs D.d__law_key (k := 0)
noncomputable def G__law_signs : Fn := runBody 6 4 (b__law_signs G__law_draw)
theorem cal__law_signs (Bl : BlT mg) (Gs : GsT K mg) (D : DfT K mg) : CalF P w K mg base 2 "_law_signs" s__law_signs ["_law_state_here", "_law_some", "_law_least", "_law_most"] G__law_signs := ok__law_signs Bl Gs D.d__law_signs ((cal__law_draw Bl Gs D).mono (by decide))
noncomputable def G__law_bare : Fn := runBody 4 1 (b__law_bare G__law_signs G__law_draw)
theorem cal__law_bare (Bl : BlT mg) (Gs : GsT K mg) (D : DfT K mg) : CalF P w K mg base 3 "_law_bare" s__law_bare ["_law_state_here"] G__law_bare := ok__law_bare Bl Gs D.d__law_bare ((cal__law_signs Bl Gs D).mono (by decide)) ((cal__law_draw Bl Gs D).mono (by decide))
noncomputable def G__law_name : Fn := runBody 4 1 (b__law_name G__law_draw G__law_signs)
theorem cal__law_name (Bl : BlT mg) (Gs : GsT K mg) (D : DfT K mg) : CalF P w K mg base 3 "_law_name" s__law_name ["_law_state_here"] G__law_name := ok__law_name Bl Gs D.d__law_name ((cal__law_draw Bl Gs D).mono (by decide)) ((cal__law_signs Bl Gs D).mono (by decide))
noncomputable def G__law_drawn : Fn := runBody 3 1 (b__law_drawn G__law_bare G__law_draw G__law_name)
theorem cal__law_drawn (Bl : BlT mg) (Gs : GsT K mg) (D : DfT K mg) : CalF P w K mg base 4 "_law_drawn" s__law_drawn ["_law_state_here"] G__law_drawn := ok__law_drawn Bl Gs D.d__law_drawn ((cal__law_bare Bl Gs D).mono (by decide)) ((cal__law_draw Bl Gs D).mono (by decide)) ((cal__law_name Bl Gs D).mono (by decide))
noncomputable def G__law_state : Fn := runBody 3 1 (b__law_state)
theorem cal__law_state (Bl : BlT mg) (Gs : GsT K mg) (D : DfT K mg) : CalF P w K mg base 1 "_law_state" s__law_state ["_law_script"] G__law_state := ok__law_state Bl Gs D.d__law_state (k := 0)
noncomputable def G_law : Fn := runBody 13 1 (b_law (G_is_script 24) G__law_draw G__law_is_name G__law_key G__law_drawn G__law_name G__law_state)
theorem cal_law (Bl : BlT mg) (Gs : GsT K mg) (D : DfT K mg) : CalF P w K mg base 28 "law" s_law ["_law_script"] G_law := ok_law Bl Gs D.d_law ((cal_is_script Bl Gs D 24).mono (by decide)) ((cal__law_draw Bl Gs D).mono (by decide)) ((cal__law_is_name Bl Gs D).mono (by decide)) ((cal__law_key Bl Gs D).mono (by decide)) ((cal__law_drawn Bl Gs D).mono (by decide)) ((cal__law_name Bl Gs D).mono (by decide)) ((cal__law_state Bl Gs D).mono (by decide))
/-! ### the end -/
theorem all_mk {l : PySem.W.OpenLaw} {w : World} {K : PySem.W.Frag} {h : Heap} {mg : Str → Option Value} {fa f0 f1 f2 f3 f4 f5 f6 f7 f8 f9 f10 f11 f12 f13 f14 f15 f16 f17 f18 f19 f20 f21 f22 f23 f24 f25 f26 f27 f28 f29 f30 f31 f32 : Addr} (X : K.In h) (G : h.Ns mainGlobals mg) (hfa : mg "law" = some (.ref fa)) {od0 an0 od1 an1 od2 an2 od3 an3 od4 an4 od5 an5 od6 an6 od7 an7 od8 an8 od9 an9 od10 an10 od11 an11 od12 an12 od13 an13 od14 an14 od15 an15 od16 an16 od17 an17 od18 an18 od19 an19 od20 an20 od21 an21 od22 an22 od23 an23 od24 an24 od25 an25 od26 an26 od27 an27 od28 an28 od29 an29 od30 an30 od31 an31 od32 an32 : Option Addr} {sl0 sl1 sl2 sl3 sl4 sl5 sl6 sl7 sl8 sl9 sl10 sl11 sl12 sl13 sl14 sl15 sl16 sl17 sl18 sl19 sl20 sl21 sl22 sl23 sl24 sl25 sl26 sl27 sl28 sl29 sl30 sl31 sl32 : Array (Option Value)} {oc0 kV0 dc0 pm0 cd0 ct0 oc1 kV1 dc1 pm1 cd1 ct1 oc2 kV2 dc2 pm2 cd2 ct2 oc3 kV3 dc3 pm3 cd3 ct3 oc4 kV4 dc4 pm4 cd4 ct4 oc5 kV5 dc5 pm5 cd5 ct5 oc6 kV6 dc6 pm6 cd6 ct6 oc7 kV7 dc7 pm7 cd7 ct7 oc8 kV8 dc8 pm8 cd8 ct8 oc9 kV9 dc9 pm9 cd9 ct9 oc10 kV10 dc10 pm10 cd10 ct10 oc11 kV11 dc11 pm11 cd11 ct11 oc12 kV12 dc12 pm12 cd12 ct12 oc13 kV13 dc13 pm13 cd13 ct13 oc14 kV14 dc14 pm14 cd14 ct14 oc15 kV15 dc15 pm15 cd15 ct15 oc16 kV16 dc16 pm16 cd16 ct16 oc17 kV17 dc17 pm17 cd17 ct17 oc18 kV18 dc18 pm18 cd18 ct18 oc19 kV19 dc19 pm19 cd19 ct19 oc20 kV20 dc20 pm20 cd20 ct20 oc21 kV21 dc21 pm21 cd21 ct21 oc22 kV22 dc22 pm22 cd22 ct22 oc23 kV23 dc23 pm23 cd23 ct23 oc24 kV24 dc24 pm24 cd24 ct24 oc25 kV25 dc25 pm25 cd25 ct25 oc26 kV26 dc26 pm26 cd26 ct26 oc27 kV27 dc27 pm27 cd27 ct27 oc28 kV28 dc28 pm28 cd28 ct28 oc29 kV29 dc29 pm29 cd29 ct29 oc30 kV30 dc30 pm30 cd30 ct30 oc31 kV31 dc31 pm31 cd31 ct31 oc32 kV32 dc32 pm32 cd32 ct32 : Value} {t_DIGITS : Tok} {t_LETTERS : Tok} {t_NAME_SIGNS : Tok} {t_BARE : Tok} {t_SIGNS : Tok} {u16 : Addr} {ud16 : Option Addr} {un16 : Nat} {us16 : Array (Option Value)} {k0t k10t k11t k12t k13t k14t k15t k1t k2t k3t k4t k5t k6t k7t k8t k9t : Tok}
    (a0 : PySem.W.nsIn K mainGlobals "has_signs" = some (some (.ref f0))) (l0 : K.lookup f0 = some ⟨oc0, od0, .func (PySem.W.fnOf "has_signs" "has_signs" (defArgs s_has_signs) (defBody s_has_signs) (defScope s_has_signs) .none kV0 dc0 pm0 an0 cd0 ct0), sl0⟩) (c0 : PySem.W.codeIn K cd0 "has_signs" = true) (k0 : PySem.W.keepIn K (.ref f0) = true)
    (a1 : PySem.W.nsIn K mainGlobals "is_text" = some (some (.ref f1))) (l1 : K.lookup f1 = some ⟨oc1, od1, .func (PySem.W.fnOf "is_text" "is_text" (defArgs s_is_text) (defBody s_is_text) (defScope s_is_text) .none kV1 dc1 pm1 an1 cd1 ct1), sl1⟩) (c1 : PySem.W.codeIn K cd1 "is_text" = true) (k1 : PySem.W.keepIn K (.ref f1) = true)
    (a2 : PySem.W.nsIn K mainGlobals "is_sum" = some (some (.ref f2))) (l2 : K.lookup f2 = some ⟨oc2, od2, .func (PySem.W.fnOf "is_sum" "is_sum" (defArgs s_is_sum) (defBody s_is_sum) (defScope s_is_sum) .none kV2 dc2 pm2 an2 cd2 ct2), sl2⟩) (c2 : PySem.W.codeIn K cd2 "is_sum" = true) (k2 : PySem.W.keepIn K (.ref f2) = true)
    (a3 : PySem.W.nsIn K mainGlobals "is_name" = some (some (.ref f3))) (l3 : K.lookup f3 = some ⟨oc3, od3, .func (PySem.W.fnOf "is_name" "is_name" (defArgs s_is_name) (defBody s_is_name) (defScope s_is_name) .none kV3 dc3 pm3 an3 cd3 ct3), sl3⟩) (c3 : PySem.W.codeIn K cd3 "is_name" = true) (k3 : PySem.W.keepIn K (.ref f3) = true)
    (a4 : PySem.W.nsIn K mainGlobals "is_place" = some (some (.ref f4))) (l4 : K.lookup f4 = some ⟨oc4, od4, .func (PySem.W.fnOf "is_place" "is_place" (defArgs s_is_place) (defBody s_is_place) (defScope s_is_place) .none kV4 dc4 pm4 an4 cd4 ct4), sl4⟩) (c4 : PySem.W.codeIn K cd4 "is_place" = true) (k4 : PySem.W.keepIn K (.ref f4) = true)
    (a5 : PySem.W.nsIn K mainGlobals "is_name_or_place" = some (some (.ref f5))) (l5 : K.lookup f5 = some ⟨oc5, od5, .func (PySem.W.fnOf "is_name_or_place" "is_name_or_place" (defArgs s_is_name_or_place) (defBody s_is_name_or_place) (defScope s_is_name_or_place) .none kV5 dc5 pm5 an5 cd5 ct5), sl5⟩) (c5 : PySem.W.codeIn K cd5 "is_name_or_place" = true) (k5 : PySem.W.keepIn K (.ref f5) = true)
    (a6 : PySem.W.nsIn K mainGlobals "is_tagged" = some (some (.ref f6))) (l6 : K.lookup f6 = some ⟨oc6, od6, .func (PySem.W.fnOf "is_tagged" "is_tagged" (defArgs s_is_tagged) (defBody s_is_tagged) (defScope s_is_tagged) .none kV6 dc6 pm6 an6 cd6 ct6), sl6⟩) (c6 : PySem.W.codeIn K cd6 "is_tagged" = true) (k6 : PySem.W.keepIn K (.ref f6) = true)
    (a7 : PySem.W.nsIn K mainGlobals "are_cases" = some (some (.ref f7))) (l7 : K.lookup f7 = some ⟨oc7, od7, .func (PySem.W.fnOf "are_cases" "are_cases" (defArgs s_are_cases) (defBody s_are_cases) (defScope s_are_cases) .none kV7 dc7 pm7 an7 cd7 ct7), sl7⟩) (c7 : PySem.W.codeIn K cd7 "are_cases" = true) (k7 : PySem.W.keepIn K (.ref f7) = true)
    (a8 : PySem.W.nsIn K mainGlobals "are_arms" = some (some (.ref f8))) (l8 : K.lookup f8 = some ⟨oc8, od8, .func (PySem.W.fnOf "are_arms" "are_arms" (defArgs s_are_arms) (defBody s_are_arms) (defScope s_are_arms) .none kV8 dc8 pm8 an8 cd8 ct8), sl8⟩) (c8 : PySem.W.codeIn K cd8 "are_arms" = true) (k8 : PySem.W.keepIn K (.ref f8) = true)
    (a9 : PySem.W.nsIn K mainGlobals "is_turn" = some (some (.ref f9))) (l9 : K.lookup f9 = some ⟨oc9, od9, .func (PySem.W.fnOf "is_turn" "is_turn" (defArgs s_is_turn) (defBody s_is_turn) (defScope s_is_turn) .none kV9 dc9 pm9 an9 cd9 ct9), sl9⟩) (c9 : PySem.W.codeIn K cd9 "is_turn" = true) (k9 : PySem.W.keepIn K (.ref f9) = true)
    (a10 : PySem.W.nsIn K mainGlobals "are_turns" = some (some (.ref f10))) (l10 : K.lookup f10 = some ⟨oc10, od10, .func (PySem.W.fnOf "are_turns" "are_turns" (defArgs s_are_turns) (defBody s_are_turns) (defScope s_are_turns) .none kV10 dc10 pm10 an10 cd10 ct10), sl10⟩) (c10 : PySem.W.codeIn K cd10 "are_turns" = true) (k10 : PySem.W.keepIn K (.ref f10) = true)
    (a11 : PySem.W.nsIn K mainGlobals "may_name_function" = some (some (.ref f11))) (l11 : K.lookup f11 = some ⟨oc11, od11, .func (PySem.W.fnOf "may_name_function" "may_name_function" (defArgs s_may_name_function) (defBody s_may_name_function) (defScope s_may_name_function) .none kV11 dc11 pm11 an11 cd11 ct11), sl11⟩) (c11 : PySem.W.codeIn K cd11 "may_name_function" = true) (k11 : PySem.W.keepIn K (.ref f11) = true)
    (a12 : PySem.W.nsIn K mainGlobals "begins_set" = some (some (.ref f12))) (l12 : K.lookup f12 = some ⟨oc12, od12, .func (PySem.W.fnOf "begins_set" "begins_set" (defArgs s_begins_set) (defBody s_begins_set) (defScope s_begins_set) .none kV12 dc12 pm12 an12 cd12 ct12), sl12⟩) (c12 : PySem.W.codeIn K cd12 "begins_set" = true) (k12 : PySem.W.keepIn K (.ref f12) = true)
    (a13 : PySem.W.nsIn K mainGlobals "is_script" = some (some (.ref f13))) (l13 : K.lookup f13 = some ⟨oc13, od13, .func (PySem.W.fnOf "is_script" "is_script" (defArgs s_is_script) (defBody s_is_script) (defScope s_is_script) .none kV13 dc13 pm13 an13 cd13 ct13), sl13⟩) (c13 : PySem.W.codeIn K cd13 "is_script" = true) (k13 : PySem.W.keepIn K (.ref f13) = true)
    (a14 : PySem.W.nsIn K mainGlobals "is_command" = some (some (.ref f14))) (l14 : K.lookup f14 = some ⟨oc14, od14, .func (PySem.W.fnOf "is_command" "is_command" (defArgs s_is_command) (defBody s_is_command) (defScope s_is_command) .none kV14 dc14 pm14 an14 cd14 ct14), sl14⟩) (c14 : PySem.W.codeIn K cd14 "is_command" = true) (k14 : PySem.W.keepIn K (.ref f14) = true)
    (a15 : PySem.W.nsIn K mainGlobals "is_compound" = some (some (.ref f15))) (l15 : K.lookup f15 = some ⟨oc15, od15, .func (PySem.W.fnOf "is_compound" "is_compound" (defArgs s_is_compound) (defBody s_is_compound) (defScope s_is_compound) .none kV15 dc15 pm15 an15 cd15 ct15), sl15⟩) (c15 : PySem.W.codeIn K cd15 "is_compound" = true) (k15 : PySem.W.keepIn K (.ref f15) = true)
    (a16 : PySem.W.nsIn K mainGlobals "is_word" = some (some (.ref f16))) (l16 : K.lookup f16 = some ⟨oc16, od16, .func (PySem.W.fnOf "is_word" "is_word" (defArgs s_is_word) (defBody s_is_word) (defScope s_is_word) .none kV16 dc16 pm16 an16 cd16 ct16), sl16⟩) (c16 : PySem.W.codeIn K cd16 "is_word" = true) (k16 : PySem.W.keepIn K (.ref f16) = true)
    (a17 : PySem.W.nsIn K mainGlobals "are_pieces" = some (some (.ref f17))) (l17 : K.lookup f17 = some ⟨oc17, od17, .func (PySem.W.fnOf "are_pieces" "are_pieces" (defArgs s_are_pieces) (defBody s_are_pieces) (defScope s_are_pieces) .none kV17 dc17 pm17 an17 cd17 ct17), sl17⟩) (c17 : PySem.W.codeIn K cd17 "are_pieces" = true) (k17 : PySem.W.keepIn K (.ref f17) = true)
    (a18 : PySem.W.nsIn K mainGlobals "is_piece" = some (some (.ref f18))) (l18 : K.lookup f18 = some ⟨oc18, od18, .func (PySem.W.fnOf "is_piece" "is_piece" (defArgs s_is_piece) (defBody s_is_piece) (defScope s_is_piece) .none kV18 dc18 pm18 an18 cd18 ct18), sl18⟩) (c18 : PySem.W.codeIn K cd18 "is_piece" = true) (k18 : PySem.W.keepIn K (.ref f18) = true)
    (a19 : PySem.W.nsIn K mainGlobals "may_be_done" = some (some (.ref f19))) (l19 : K.lookup f19 = some ⟨oc19, od19, .func (PySem.W.fnOf "may_be_done" "may_be_done" (defArgs s_may_be_done) (defBody s_may_be_done) (defScope s_may_be_done) .none kV19 dc19 pm19 an19 cd19 ct19), sl19⟩) (c19 : PySem.W.codeIn K cd19 "may_be_done" = true) (k19 : PySem.W.keepIn K (.ref f19) = true)
    (a20 : PySem.W.nsIn K mainGlobals "are_words" = some (some (.ref f20))) (l20 : K.lookup f20 = some ⟨oc20, od20, .func (PySem.W.fnOf "are_words" "are_words" (defArgs s_are_words) (defBody s_are_words) (defScope s_are_words) .none kV20 dc20 pm20 an20 cd20 ct20), sl20⟩) (c20 : PySem.W.codeIn K cd20 "are_words" = true) (k20 : PySem.W.keepIn K (.ref f20) = true)
    (a21 : PySem.W.nsIn K mainGlobals "is_body" = some (some (.ref f21))) (l21 : K.lookup f21 = some ⟨oc21, od21, .func (PySem.W.fnOf "is_body" "is_body" (defArgs s_is_body) (defBody s_is_body) (defScope s_is_body) .none kV21 dc21 pm21 an21 cd21 ct21), sl21⟩) (c21 : PySem.W.codeIn K cd21 "is_body" = true) (k21 : PySem.W.keepIn K (.ref f21) = true)
    (a22 : PySem.W.nsIn K mainGlobals "is_joint" = some (some (.ref f22))) (l22 : K.lookup f22 = some ⟨oc22, od22, .func (PySem.W.fnOf "is_joint" "is_joint" (defArgs s_is_joint) (defBody s_is_joint) (defScope s_is_joint) .none kV22 dc22 pm22 an22 cd22 ct22), sl22⟩) (c22 : PySem.W.codeIn K cd22 "is_joint" = true) (k22 : PySem.W.keepIn K (.ref f22) = true)
    (a23 : PySem.W.nsIn K mainGlobals "is_do" = some (some (.ref f23))) (l23 : K.lookup f23 = some ⟨oc23, od23, .func (PySem.W.fnOf "is_do" "is_do" (defArgs s_is_do) (defBody s_is_do) (defScope s_is_do) .none kV23 dc23 pm23 an23 cd23 ct23), sl23⟩) (c23 : PySem.W.codeIn K cd23 "is_do" = true) (k23 : PySem.W.keepIn K (.ref f23) = true)
    (a24 : PySem.W.nsIn K mainGlobals "_law_draw" = some (some (.ref f24))) (l24 : K.lookup f24 = some ⟨oc24, od24, .func (PySem.W.fnOf "_law_draw" "_law_draw" (defArgs s__law_draw) (defBody s__law_draw) (defScope s__law_draw) .none kV24 dc24 pm24 an24 cd24 ct24), sl24⟩) (c24 : PySem.W.codeIn K cd24 "_law_draw" = true) (k24 : PySem.W.keepIn K (.ref f24) = true)
    (a25 : PySem.W.nsIn K mainGlobals "_law_is_name" = some (some (.ref f25))) (l25 : K.lookup f25 = some ⟨oc25, od25, .func (PySem.W.fnOf "_law_is_name" "_law_is_name" (defArgs s__law_is_name) (defBody s__law_is_name) (defScope s__law_is_name) .none kV25 dc25 pm25 an25 cd25 ct25), sl25⟩) (c25 : PySem.W.codeIn K cd25 "_law_is_name" = true) (k25 : PySem.W.keepIn K (.ref f25) = true)
    (a26 : PySem.W.nsIn K mainGlobals "_law_key" = some (some (.ref f26))) (l26 : K.lookup f26 = some ⟨oc26, od26, .func (PySem.W.fnOf "_law_key" "_law_key" (defArgs s__law_key) (defBody s__law_key) (defScope s__law_key) .none kV26 dc26 pm26 an26 cd26 ct26), sl26⟩) (c26 : PySem.W.codeIn K cd26 "_law_key" = true) (k26 : PySem.W.keepIn K (.ref f26) = true)
    (a27 : PySem.W.nsIn K mainGlobals "_law_signs" = some (some (.ref f27))) (l27 : K.lookup f27 = some ⟨oc27, od27, .func (PySem.W.fnOf "_law_signs" "_law_signs" (defArgs s__law_signs) (defBody s__law_signs) (defScope s__law_signs) .none kV27 dc27 pm27 an27 cd27 ct27), sl27⟩) (c27 : PySem.W.codeIn K cd27 "_law_signs" = true) (k27 : PySem.W.keepIn K (.ref f27) = true)
    (a28 : PySem.W.nsIn K mainGlobals "_law_bare" = some (some (.ref f28))) (l28 : K.lookup f28 = some ⟨oc28, od28, .func (PySem.W.fnOf "_law_bare" "_law_bare" (defArgs s__law_bare) (defBody s__law_bare) (defScope s__law_bare) .none kV28 dc28 pm28 an28 cd28 ct28), sl28⟩) (c28 : PySem.W.codeIn K cd28 "_law_bare" = true) (k28 : PySem.W.keepIn K (.ref f28) = true)
    (a29 : PySem.W.nsIn K mainGlobals "_law_name" = some (some (.ref f29))) (l29 : K.lookup f29 = some ⟨oc29, od29, .func (PySem.W.fnOf "_law_name" "_law_name" (defArgs s__law_name) (defBody s__law_name) (defScope s__law_name) .none kV29 dc29 pm29 an29 cd29 ct29), sl29⟩) (c29 : PySem.W.codeIn K cd29 "_law_name" = true) (k29 : PySem.W.keepIn K (.ref f29) = true)
    (a30 : PySem.W.nsIn K mainGlobals "_law_drawn" = some (some (.ref f30))) (l30 : K.lookup f30 = some ⟨oc30, od30, .func (PySem.W.fnOf "_law_drawn" "_law_drawn" (defArgs s__law_drawn) (defBody s__law_drawn) (defScope s__law_drawn) .none kV30 dc30 pm30 an30 cd30 ct30), sl30⟩) (c30 : PySem.W.codeIn K cd30 "_law_drawn" = true) (k30 : PySem.W.keepIn K (.ref f30) = true)
    (a31 : PySem.W.nsIn K mainGlobals "_law_state" = some (some (.ref f31))) (l31 : K.lookup f31 = some ⟨oc31, od31, .func (PySem.W.fnOf "_law_state" "_law_state" (defArgs s__law_state) (defBody s__law_state) (defScope s__law_state) .none kV31 dc31 pm31 an31 cd31 ct31), sl31⟩) (c31 : PySem.W.codeIn K cd31 "_law_state" = true) (k31 : PySem.W.keepIn K (.ref f31) = true)
    (a32 : PySem.W.nsIn K mainGlobals "law" = some (some (.ref f32))) (l32 : K.lookup f32 = some ⟨oc32, od32, .func (PySem.W.fnOf "law" "law" (defArgs s_law) (defBody s_law) (defScope s_law) .none kV32 dc32 pm32 an32 cd32 ct32), sl32⟩) (c32 : PySem.W.codeIn K cd32 "law" = true) (k32 : PySem.W.keepIn K (.ref f32) = true)
    (q_KEY_WORDS : PySem.W.nsIn K mainGlobals "KEY_WORDS" = some (some (.ref u16)))
    (v16 : K.lookup u16 = some ⟨.type "tuple", ud16, .seq #[.str "if" k0t, .str "then" k1t, .str "elif" k2t, .str "else" k3t, .str "fi" k4t, .str "while" k5t, .str "until" k6t, .str "do" k7t, .str "done" k8t, .str "for" k9t, .str "in" k10t, .str "case" k11t, .str "esac" k12t, .str "{" k13t, .str "}" k14t, .str "!" k15t] un16, us16⟩)
    (z_abs : PySem.W.nsIn K mainGlobals "abs" = some none)
    (z_all : PySem.W.nsIn K mainGlobals "all" = some none)
    (z_bool : PySem.W.nsIn K mainGlobals "bool" = some none)
    (z_enumerate : PySem.W.nsIn K mainGlobals "enumerate" = some none)
    (z_int : PySem.W.nsIn K mainGlobals "int" = some none)
    (z_isinstance : PySem.W.nsIn K mainGlobals "isinstance" = some none)
    (z_len : PySem.W.nsIn K mainGlobals "len" = some none)
    (z_list : PySem.W.nsIn K mainGlobals "list" = some none)
    (z_range : PySem.W.nsIn K mainGlobals "range" = some none)
    (z_str : PySem.W.nsIn K mainGlobals "str" = some none)
    (z_tuple : PySem.W.nsIn K mainGlobals "tuple" = some none)
    (q_DIGITS : PySem.W.nsIn K mainGlobals "DIGITS" = some (some (Value.str c_DIGITS t_DIGITS)))
    (q_LETTERS : PySem.W.nsIn K mainGlobals "LETTERS" = some (some (Value.str c_LETTERS t_LETTERS)))
    (q_NAME_SIGNS : PySem.W.nsIn K mainGlobals "NAME_SIGNS" = some (some (Value.str c_NAME_SIGNS t_NAME_SIGNS)))
    (q_BARE : PySem.W.nsIn K mainGlobals "BARE" = some (some (Value.str c_BARE t_BARE)))
    (q_SIGNS : PySem.W.nsIn K mainGlobals "SIGNS" = some (some (Value.str c_SIGNS t_SIGNS))) :
    ∃ fd : FuncData, (∀ (s : Shared) (v : Value), BindsTo s fd ⟨[v], []⟩ [("_law_script", v)]) ∧ ∀ base : Heap, K.In base → base.Ns mainGlobals mg → FnOk l.prog w K mg base CX0 28 fa fd ["_law_script"] (spF K 1 G_law) := by
  have Bl : BlT mg := ⟨PySem.W.mg_none_of X G z_abs, PySem.W.mg_none_of X G z_all, PySem.W.mg_none_of X G z_bool, PySem.W.mg_none_of X G z_enumerate, PySem.W.mg_none_of X G z_int, PySem.W.mg_none_of X G z_isinstance, PySem.W.mg_none_of X G z_len, PySem.W.mg_none_of X G z_list, PySem.W.mg_none_of X G z_range, PySem.W.mg_none_of X G z_str, PySem.W.mg_none_of X G z_tuple⟩
  have Gs : GsT K mg := ⟨⟨_, PySem.W.mg_of X G q_DIGITS, _, rfl⟩, ⟨_, PySem.W.mg_of X G q_LETTERS, _, rfl⟩, ⟨_, PySem.W.mg_of X G q_NAME_SIGNS, _, rfl⟩, ⟨_, PySem.W.mg_of X G q_BARE, _, rfl⟩, ⟨_, PySem.W.mg_of X G q_SIGNS, _, rfl⟩, ⟨_, PySem.W.mg_of X G q_KEY_WORDS, (KU.tup v16 (.cons (KU.str _ _) (.cons (KU.str _ _) (.cons (KU.str _ _) (.cons (KU.str _ _) (.cons (KU.str _ _) (.cons (KU.str _ _) (.cons (KU.str _ _) (.cons (KU.str _ _) (.cons (KU.str _ _) (.cons (KU.str _ _) (.cons (KU.str _ _) (.cons (KU.str _ _) (.cons (KU.str _ _) (.cons (KU.str _ _) (.cons (KU.str _ _) (.cons (KU.str _ _) (.nil))))))))))))))))))⟩⟩
  have D : DfT K mg := ⟨⟨_, _, fun_mk (st := s_has_signs) l0 c0 k0, PySem.W.mg_of X G a0⟩, ⟨_, _, fun_mk (st := s_is_text) l1 c1 k1, PySem.W.mg_of X G a1⟩, ⟨_, _, fun_mk (st := s_is_sum) l2 c2 k2, PySem.W.mg_of X G a2⟩, ⟨_, _, fun_mk (st := s_is_name) l3 c3 k3, PySem.W.mg_of X G a3⟩, ⟨_, _, fun_mk (st := s_is_place) l4 c4 k4, PySem.W.mg_of X G a4⟩, ⟨_, _, fun_mk (st := s_is_name_or_place) l5 c5 k5, PySem.W.mg_of X G a5⟩, ⟨_, _, fun_mk (st := s_is_tagged) l6 c6 k6, PySem.W.mg_of X G a6⟩, ⟨_, _, fun_mk (st := s_are_cases) l7 c7 k7, PySem.W.mg_of X G a7⟩, ⟨_, _, fun_mk (st := s_are_arms) l8 c8 k8, PySem.W.mg_of X G a8⟩, ⟨_, _, fun_mk (st := s_is_turn) l9 c9 k9, PySem.W.mg_of X G a9⟩, ⟨_, _, fun_mk (st := s_are_turns) l10 c10 k10, PySem.W.mg_of X G a10⟩, ⟨_, _, fun_mk (st := s_may_name_function) l11 c11 k11, PySem.W.mg_of X G a11⟩, ⟨_, _, fun_mk (st := s_begins_set) l12 c12 k12, PySem.W.mg_of X G a12⟩, ⟨_, _, fun_mk (st := s_is_script) l13 c13 k13, PySem.W.mg_of X G a13⟩, ⟨_, _, fun_mk (st := s_is_command) l14 c14 k14, PySem.W.mg_of X G a14⟩, ⟨_, _, fun_mk (st := s_is_compound) l15 c15 k15, PySem.W.mg_of X G a15⟩, ⟨_, _, fun_mk (st := s_is_word) l16 c16 k16, PySem.W.mg_of X G a16⟩, ⟨_, _, fun_mk (st := s_are_pieces) l17 c17 k17, PySem.W.mg_of X G a17⟩, ⟨_, _, fun_mk (st := s_is_piece) l18 c18 k18, PySem.W.mg_of X G a18⟩, ⟨_, _, fun_mk (st := s_may_be_done) l19 c19 k19, PySem.W.mg_of X G a19⟩, ⟨_, _, fun_mk (st := s_are_words) l20 c20 k20, PySem.W.mg_of X G a20⟩, ⟨_, _, fun_mk (st := s_is_body) l21 c21 k21, PySem.W.mg_of X G a21⟩, ⟨_, _, fun_mk (st := s_is_joint) l22 c22 k22, PySem.W.mg_of X G a22⟩, ⟨_, _, fun_mk (st := s_is_do) l23 c23 k23, PySem.W.mg_of X G a23⟩, ⟨_, _, fun_mk (st := s__law_draw) l24 c24 k24, PySem.W.mg_of X G a24⟩, ⟨_, _, fun_mk (st := s__law_is_name) l25 c25 k25, PySem.W.mg_of X G a25⟩, ⟨_, _, fun_mk (st := s__law_key) l26 c26 k26, PySem.W.mg_of X G a26⟩, ⟨_, _, fun_mk (st := s__law_signs) l27 c27 k27, PySem.W.mg_of X G a27⟩, ⟨_, _, fun_mk (st := s__law_bare) l28 c28 k28, PySem.W.mg_of X G a28⟩, ⟨_, _, fun_mk (st := s__law_name) l29 c29 k29, PySem.W.mg_of X G a29⟩, ⟨_, _, fun_mk (st := s__law_drawn) l30 c30 k30, PySem.W.mg_of X G a30⟩, ⟨_, _, fun_mk (st := s__law_state) l31 c31 k31, PySem.W.mg_of X G a31⟩, ⟨_, _, fun_mk (st := s_law) l32 c32 k32, PySem.W.mg_of X G a32⟩⟩
  refine ⟨PySem.W.fnOf "law" "law" (defArgs s_law) (defBody s_law) (defScope s_law) .none kV32 dc32 pm32 an32 cd32 ct32, fun s v => .of_eq rfl, fun base _ _ => ?_⟩
  exact calF_end (cal_law (P := l.prog) (w := w) (base := base) Bl Gs D) hfa (fun_mk (st := s_law) l32 c32 k32) (PySem.W.mg_of X G a32)
end
theorem walk (plain : ∀ ns : List Int, ns.length ≤ 63 → ∃ B', G_law [.scr ns] [] = .ok (.bl true) B') {l : PySem.W.OpenLaw} {q : Program} {loose : List Str} {XP : (Str → Option Value) → Heap → Prop} {YP : World → Heap → Prop} {d : DefRec} {K : Params → PySem.W.Frag} (hn : l.most = some 63) (hdf : d.params.defaults = [])
    (hY : ∀ (w : World) (h : Heap), YP w h → (K w.params).In h)
    (F : ∀ (w : World) (mg : Str → Option Value) (fa : Addr) (h : Heap), (K w.params).In h → h.Ns mainGlobals mg → mg d.name = some (.ref fa) →
      ∃ fd : FuncData, (∀ (s : Shared) (u : Value), BindsTo s fd ⟨[u], []⟩ [("_law_script", u)]) ∧ ∀ base : Heap, (K w.params).In base → base.Ns mainGlobals mg → FnOk l.prog w (K w.params) mg base CX0 28 fa fd ["_law_script"] (spF (K w.params) 1 G_law)) :
    PySem.W.WalkO q loose XP YP l.row.toRowW d [] (fun f vs => PySem.call f vs) :=
  L2.walk_of (n := 63) (k := 28) (x := "_law_script") (CX := fun _ => CX0) (sp := fun w => spF (K w.params) 1 G_law) hn (by decide) hdf ⟨rfl, by decide, by decide⟩ hY F (fun _ H a ns hl _ hS => spF_law plain H a ns hl hS) fun _ _ _ _ _ z => z
end LawW
namespace LawW
open PySem L2 QB
def letS : List Nat := [97, 98, 99, 100, 101, 102, 103, 104, 105, 106, 107, 108, 109, 110, 111, 112, 113, 114, 115, 116, 117, 118, 119, 120, 121, 122, 65, 66, 67, 68, 69, 70, 71, 72, 73, 74, 75, 76, 77, 78, 79, 80, 81, 82, 83, 84, 85, 86, 87, 88, 89, 90, 95]
def digS : List Nat := [48, 49, 50, 51, 52, 53, 54, 55, 56, 57]
def nameS : List Nat := letS ++ digS
def bareS : List Nat := (letS.take 52) ++ digS ++ [46, 47, 95, 45, 44, 58, 43, 64, 61, 42, 63, 91, 93, 33, 126]
def sgs : List Nat := 10 :: ((List.range 95).map (· + 32)).filter (· != 37)
theorem c_let : c_LETTERS = ofC letS := by rw [lit_LETTERS]; decide +kernel
theorem c_name : c_NAME_SIGNS = ofC nameS := by rw [lit_NAME_SIGNS]; decide +kernel
theorem c_bare : c_BARE = ofC bareS := by rw [lit_BARE]; decide +kernel
theorem c_sgs : c_SIGNS = ofC sgs := by rw [lit_SIGNS]; decide +kernel
theorem has_signs_ok (l s : List Nat) (hl : l.length ≤ 10000) (B : Bx) : G_has_signs [.str (ofC l), .str (ofC s)] B = .ok (.bl (l.all fun c => decide (c ∈ s))) B := by
  have lc : lc_has_signs_0 [.val (.str (ofC l)), .val (.str (ofC s)), .un] B = .ok (.fr (.lst (l.map fun c => .bl (decide (c ∈ s))))) [.val (.str (ofC l)), .val (.str (ofC s)), .un] B := by
    refine mLc_all chr (fun c => .bl (decide (c ∈ s))) (by simp [chr]) (by simp) (by simp) (by omega) (fun c _ => ?_)
    simp [Elt, chr]
  have an := e_all' (l := l) (p := fun c => decide (c ∈ s))
  simp only [G_has_signs]
  refine run_is rfl ?_
  simp only [b_has_signs, List.map_cons, List.map_nil, List.length_cons, List.length_nil, Nat.reduceAdd, Nat.reduceSub, List.replicate_succ, List.replicate_zero, List.cons_append, List.nil_append, Nat.zero_add, Nat.sub_self, List.append_nil]
  refine okP_lock fun LQ hLQ => ?_
  simp [lc, an]
  exact hLQ _ _ _ ret_is
def isNm (l : List Nat) : Bool := (l.all fun c => decide (c ∈ nameS)) && match l with
  | [] => false
  | c :: _ => decide (c ∈ letS)
theorem ne_nil {l : List Nat} : (l == ([] : List Nat)) = l.isEmpty := by cases l <;> rfl
theorem is_name_ok (l : List Nat) (hl : l.length ≤ 10000) (B : Bx) : G_is_name [.str (ofC l)] B = .ok (.bl (isNm l)) B := by
  have h1 := has_signs_ok l nameS hl B
  have hb : b_is_name G_has_signs = sRet (mAndV (mCall G_has_signs (mCons (mVar 0) (mCons (mC (.str (ofC nameS))) (mNil)))) (mAndV (m2 gNe (mVar 0) (mC (.str ""))) (m2 (gIn false) (m2 gIx (mVar 0) (mC (.int 0))) (mC (.str (ofC letS)))))) := by
    rw [← c_name, ← c_let]; rfl
  simp only [G_is_name, hb]
  refine run_is rfl ?_
  simp only [List.map_cons, List.map_nil, List.length_cons, List.length_nil, Nat.reduceAdd, Nat.reduceSub, List.replicate_zero, List.append_nil, Nat.sub_self]
  have hl2 : l.length ≤ 16777216 := by omega
  unfold isNm
  cases ha : (l.all fun c => decide (c ∈ nameS)) with
  | false =>
    rw [ha] at h1
    refine okP_lock fun LQ hLQ => ?_
    simp [h1]
    exact hLQ _ _ _ ret_is
  | true =>
    rw [ha] at h1
    cases l with
    | nil =>
      refine okP_lock fun LQ hLQ => ?_
      simp [h1]
      exact hLQ _ _ _ ret_is
    | cons c r =>
      have hl3 : r.length + 1 ≤ 16777216 := by simpa using hl2
      refine okP_lock fun LQ hLQ => ?_
      simp [h1, hl3]
      exact hLQ _ _ _ ret_is
/-- pieces of this law -/
inductive Pc where
  | bare (l : List Nat) | held (l : List Nat) | nm | wide
def uP : Pc → U
  | .bare l => .tup [.str (ofC [98, 97, 114, 101]), .str (ofC l)]
  | .held l => .tup [.str (ofC [104, 101, 108, 100]), .str (ofC l)]
  | .nm => .tup [.str (ofC [110, 97, 109, 101]), .str (ofC [120]), .tup []]
  | .wide => .tup [.str (ofC [119, 105, 100, 101]), .lst []]
def TxOk (l : List Nat) : Prop := (∀ c ∈ l, c ∈ bareS) ∧ l.length ≤ 100
def PcOk : Pc → Prop
  | .bare l => TxOk l ∧ l ≠ []
  | .held l => TxOk l
  | _ => True
def Pc.isBare : Pc → Bool
  | .bare _ => true
  | _ => false
theorem bare_sgs : ∀ c ∈ bareS, c ∈ sgs ∧ c ≠ 39 ∧ c < 127 := by decide +kernel
theorem TxOk.okS {l : List Nat} (h : TxOk l) : okS (ofC l) = true := okS_of fun c hc => by have := (bare_sgs c (h.1 c hc)).2.2; omega
@[simp] theorem vu_uP {p : Pc} {B : Bx} : viewU (uP p) B = some (uP p) := by cases p <;> rfl
theorem flt_uP {p : Pc} (h : PcOk p) : Flt 4 (uP p) := by
  have o1 : okS (ofC [98, 97, 114, 101]) = true := by decide +kernel
  have o2 : okS (ofC [104, 101, 108, 100]) = true := by decide +kernel
  have o3 : okS (ofC [110, 97, 109, 101]) = true := by decide +kernel
  have o4 : okS (ofC [119, 105, 100, 101]) = true := by decide +kernel
  have o5 : okS (ofC [120]) = true := by decide +kernel
  cases p with
  | bare l => intro v hv; simp at hv; rcases hv with rfl | rfl; exact o1; exact h.1.okS
  | held l => intro v hv; simp at hv; rcases hv with rfl | rfl; exact o2; exact TxOk.okS h
  | nm => intro v hv; simp at hv; rcases hv with rfl | rfl | rfl; exact o3; exact o5; exact fun v hv => by cases hv
  | wide => intro v hv; simp at hv; rcases hv with rfl | rfl; exact o4; exact fun v hv => by cases hv
theorem tagged_of {us : List U} {k : Str} {n : Nat} (hn : n + 1 ≤ 64) (hf : Flt (n + 1) (.tup (.str k :: us))) (B : Bx) : G_is_tagged [.tup (.str k :: us)] B = .ok (.bl true) B := by
  have q0 := eqU_tnil hn hf
  simp at q0
  simp [G_is_tagged, runBody, b_is_tagged, q0]
theorem is_text_ok {l : List Nat} (h : TxOk l) (B : Bx) : G_is_text [.str (ofC l)] B = .ok (.bl true) B := by
  have h1 := has_signs_ok l sgs (by have := h.2; omega) B
  have h2 : (l.all fun c => decide (c ∈ sgs)) = true := all_contains.mpr fun c hc => (bare_sgs c (h.1 c hc)).1
  rw [h2] at h1
  have hb : b_is_text G_has_signs = sRet (mCall G_has_signs (mCons (mVar 0) (mCons (mC (.str (ofC sgs))) (mNil)))) := by rw [← c_sgs]; rfl
  simp only [G_is_text, hb]
  simp [runBody, h1]
theorem bare_ok {l : List Nat} (h : TxOk l) (B : Bx) : G_has_signs [.str (ofC l), .str c_BARE] B = .ok (.bl true) B := by
  rw [c_bare, has_signs_ok l bareS (by have := h.2; omega), all_contains.mpr h.1]
theorem nameX (B : Bx) : G_is_name_or_place [.str (ofC [120])] B = .ok (.bl true) B := by
  have h := is_name_ok [120] (by simp) B
  rw [show isNm [120] = true from by decide +kernel] at h
  simp [G_is_name_or_place, runBody, b_is_name_or_place, h]
theorem done_nil (n : Nat) (B : Bx) : G_may_be_done (n + 1) [.str (ofC [120]), .tup []] B = .ok (.bl true) B := by
  have q0 : eqU (.tup []) (.tup []) = some true := eqU_tnil (n := 0) (by decide) fun v hv => by cases hv
  simp only [G_may_be_done]
  simp [runBody, b_may_be_done, q0]
theorem pieces_nil (n : Nat) (b : Bool) (B : Bx) : G_are_pieces (n + 1) [.lst [], .bl b] B = .ok (.bl true) B := by
  simp only [G_are_pieces]
  cases b <;> simp [runBody, b_are_pieces, sFor, forGo]
theorem notq {l : List Nat} (h : TxOk l) : inU (.str (ofC [39])) (.str (ofC l)) = some false := by
  rw [e_in_1, decide_eq_false]
  exact fun z => (bare_sgs 39 (h.1 39 z)).2.1 rfl
theorem is_piece_ok {p : Pc} (h : PcOk p) (n : Nat) (B : Bx) : G_is_piece (n + 2) [uP p, .bl false] B = .ok (.bl true) B := by
  have tg : G_is_tagged [uP p] B = .ok (.bl true) B := by
    have hf := flt_uP h
    cases p <;> exact tagged_of (n := 3) (by decide) hf B
  simp only [G_is_piece]
  refine run_is rfl ?_
  simp only [b_is_piece, List.map_cons, List.map_nil, List.length_cons, List.length_nil, Nat.reduceAdd, Nat.reduceSub, List.replicate_succ, List.replicate_zero, List.cons_append, List.nil_append, Nat.zero_add, Nat.sub_self, List.append_nil]
  refine okP_seqL fun LQ hLQ => ?_
  simp [tg]
  refine hLQ _ _ _ (then_nx ?_)
  clear hLQ LQ
  cases p with
  | bare l =>
    have e1 : (l == ([] : List Nat)) = false := by cases l with | nil => exact absurd rfl h.2 | cons _ _ => rfl
    generalize hz : c_BARE = z
    have b1 := bare_ok h.1 B
    rw [hz] at b1
    refine okP_lock fun LQ hLQ => ?_
    simp [uP, b1, e1]
    exact hLQ _ _ _ ret_is
  | held l =>
    refine okP_lock fun LQ hLQ => ?_
    simp [uP, is_text_ok h, notq h]
    exact hLQ _ _ _ ret_is
  | nm =>
    refine okP_lock fun LQ hLQ => ?_
    simp [uP, nameX, done_nil]
    exact hLQ _ _ _ ret_is
  | wide =>
    refine okP_lock fun LQ hLQ => ?_
    simp [uP, pieces_nil]
    exact hLQ _ _ _ ret_is
end LawW
namespace LawW
open PySem L2 QB
def bareT : List Nat := [98, 97, 114, 101]
def kindL : Pc → List Nat
  | .bare _ => [98, 97, 114, 101]
  | .held _ => [104, 101, 108, 100]
  | .nm => [110, 97, 109, 101]
  | .wide => [119, 105, 100, 101]
@[simp] theorem ix_k {p : Pc} : gIx (uP p) (.int 0) = some (.w (.str (ofC (kindL p)))) := by cases p <;> simp [uP, kindL]
def okRow : Bool → List Pc → Prop
  | _, [] => True
  | b, p :: r => (b && p.isBare) = false ∧ okRow p.isBare r
theorem kind_bare (p : Pc) : (kindL p == [98, 97, 114, 101]) = p.isBare := by cases p <;> rfl
theorem pieces_ok {ps : List Pc} (ho : ∀ p ∈ ps, PcOk p) (hr : okRow false ps) (hl : ps.length ≤ 1000) (n : Nat) (B : Bx) : G_are_pieces (n + 3) [.lst (ps.map uP), .bl false] B = .ok (.bl true) B := by
  simp only [G_are_pieces]
  refine run_is rfl ?_
  simp only [b_are_pieces, List.map_cons, List.map_nil, List.length_cons, List.length_nil, Nat.reduceAdd, Nat.reduceSub, List.replicate_succ, List.replicate_zero, List.cons_append, List.nil_append, Nat.zero_add, Nat.sub_self, List.append_nil]
  refine okP_seqL fun LQ hLQ => ?_
  simp
  refine hLQ _ _ _ (then_nx ?_)
  clear hLQ LQ
  refine okP_seqL fun LQ hLQ => ?_
  simp
  refine hLQ _ _ _ (then_nx ?_)
  clear hLQ LQ
  refine okP_seqL fun LQ hLQ => ?_
  simp
  refine hLQ _ _ _ (then_nx ?_)
  clear hLQ LQ
  refine okP_seqT ?_
  refine okP_forM uP (xs := ps) (E1 := [.val (.lst (ps.map uP)), .val (.bl false), .val (.str (ofC [98, 97, 114, 101])), .val (.str (ofC [])), .un]) (B1 := B) (by simp)
    (fun r E B' => B' = B ∧ ∃ (h : List Nat) (b : Bool) (s : Sl), E = [.val (.lst (ps.map uP)), .val (.bl false), .val (.str (ofC [98, 97, 114, 101])), .val (.str (ofC h)), s] ∧ Free s ∧ (h == [98, 97, 114, 101]) = b ∧ okRow b r ∧ ∀ p ∈ r, PcOk p)
    ⟨rfl, [], false, .un, rfl, free_un, rfl, hr, ho⟩ ?_ ?_
  · rintro p r E B' ⟨rfl, h, b, s, rfl, fs, hb, hrow, ho'⟩
    refine BdIs_of (E := [.val (.lst (ps.map uP)), .val (.bl false), .val (.str (ofC [98, 97, 114, 101])), .val (.str (ofC h)), .val (uP p)]) (by rcases fs with rfl | ⟨_, rfl⟩ <;> simp) (body_go ?_)
    have pk := is_piece_ok (ho' p (List.mem_cons_self ..)) n B'
    simp only [lp_are_pieces_0]
    by_cases hk : h = kindL p
    · have hn : (kindL p == [98, 97, 114, 101]) = false := by
        have h1 := hrow.1
        rw [← hb, hk] at h1
        rw [kind_bare] at h1 ⊢
        cases hp : p.isBare <;> simp [hp] at h1 ⊢
      subst hk
      refine okP_seqL fun LQ hLQ => ?_
      simp [pk, hn]
      refine hLQ _ _ _ (then_nx ?_)
      clear hLQ LQ
      refine okP_lock fun LQ hLQ => ?_
      simp
      refine hLQ _ _ _ ?_
      clear hLQ LQ
      exact loop_nx ⟨rfl, kindL p, p.isBare, .val (uP p), rfl, free_val, kind_bare p, hrow.2, fun x hx => ho' x (List.mem_cons_of_mem _ hx)⟩
    · have hk' : (kindL p == h) = false := by simpa using fun z => hk z.symm
      refine okP_seqL fun LQ hLQ => ?_
      simp [pk, hk']
      refine hLQ _ _ _ (then_nx ?_)
      clear hLQ LQ
      refine okP_lock fun LQ hLQ => ?_
      simp
      refine hLQ _ _ _ ?_
      clear hLQ LQ
      exact loop_nx ⟨rfl, kindL p, p.isBare, .val (uP p), rfl, free_val, kind_bare p, hrow.2, fun x hx => ho' x (List.mem_cons_of_mem _ hx)⟩
  · rintro E B' ⟨rfl, h, b, s, rfl, fs, hb, hrow, ho'⟩
    refine then_nx ?_
    refine okP_lock fun LQ hLQ => ?_
    simp
    first | exact hLQ _ _ _ ret_is | exact hLQ _ _ _ (ret_is' (by simp) rfl)
structure WdOk (ps : List Pc) : Prop where
  ok : ∀ p ∈ ps, PcOk p
  row : okRow false ps
  ne : ps ≠ []
  len : ps.length ≤ 1000
theorem flt_row {ps : List Pc} (h : ∀ p ∈ ps, PcOk p) : Flt 5 (.lst (ps.map uP)) := by
  intro v hv
  obtain ⟨p, hp, rfl⟩ := List.mem_map.mp hv
  exact flt_uP (h p hp)
theorem is_word_ok {ps : List Pc} (h : WdOk ps) (n : Nat) (B : Bx) : G_is_word (n + 4) [.lst (ps.map uP)] B = .ok (.bl true) B := by
  have q0 := eqU_nil (n := 4) (by decide) (flt_row h.ok)
  rw [List.isEmpty_map] at q0
  have ne : ps.isEmpty = false := by simpa using h.ne
  rw [ne] at q0
  simp only [G_is_word]
  refine run_is rfl ?_
  simp only [b_is_word, List.map_cons, List.map_nil, List.length_cons, List.length_nil, Nat.reduceAdd, Nat.reduceSub, List.replicate_succ, List.replicate_zero, List.cons_append, List.nil_append, Nat.zero_add, Nat.sub_self, List.append_nil]
  refine okP_lock fun LQ hLQ => ?_
  simp [pieces_ok h.ok h.row h.len, q0]
  first | exact hLQ _ _ _ ret_is | exact hLQ _ _ _ (ret_is' (by simp [pieces_ok h.ok h.row h.len, q0]) rfl)
theorem are_words_ok {ws : List (List Pc)} (h : ∀ w ∈ ws, WdOk w) (hl : ws.length ≤ 1000) (n : Nat) (B : Bx) : G_are_words (n + 5) [.lst (ws.map fun w => .lst (w.map uP))] B = .ok (.bl true) B := by
  have lc : lc_are_words_0 (G_is_word (n + 4)) [.val (.lst (ws.map fun w => .lst (w.map uP))), .un] B = .ok (.fr (.lst (ws.map fun _ => .bl true))) [.val (.lst (ws.map fun w => .lst (w.map uP))), .un] B := by
    refine mLc_all (fun w : List Pc => U.lst (w.map uP)) (fun _ => .bl true) (by simp) (by simp) (by simp) (by omega) (fun w hw => ?_)
    simp [Elt, is_word_ok (h w hw)]
  have an := e_all' (l := ws) (p := fun _ => true)
  simp only [G_are_words]
  refine run_is rfl ?_
  simp only [b_are_words, List.map_cons, List.map_nil, List.length_cons, List.length_nil, Nat.reduceAdd, Nat.reduceSub, List.replicate_succ, List.replicate_zero, List.cons_append, List.nil_append, Nat.zero_add, Nat.sub_self, List.append_nil]
  refine okP_lock fun LQ hLQ => ?_
  simp [lc, an]
  exact hLQ _ _ _ (ret_is' (by simp) rfl)
def begS (l : List Nat) : Bool := decide (61 ∈ l) && isNm (l.takeWhile (· != 61))
theorem begins_ok {l : List Nat} (hl : l.length ≤ 1000) (B : Bx) : G_begins_set [.str (ofC l)] B = .ok (.bl (begS l)) B := by
  have p := part_eq (l := l) (c := 61) (by omega)
  have hn := is_name_ok (l.takeWhile (· != 61)) (by have := tw_len (· != 61) l; omega) B
  unfold begS
  simp only [G_begins_set]
  refine run_is rfl ?_
  simp only [b_begins_set, List.map_cons, List.map_nil, List.length_cons, List.length_nil, Nat.reduceAdd, Nat.reduceSub, List.replicate_succ, List.replicate_zero, List.cons_append, List.nil_append, Nat.zero_add, Nat.sub_self, List.append_nil]
  by_cases hm : 61 ∈ l
  · rw [sepOf, if_pos hm] at p
    generalize l.takeWhile (· != 61) = a at *
    generalize (l.dropWhile (· != 61)).drop 1 = c at *
    have st : sAsg (mM gPartition (mVar 0) (mCons (mC (.str "=")) mNil)) (bdT (bdCons (bdN 1) (bdCons (bdN 2) (bdCons (bdN 3) (bdNil))))) [.val (.str (ofC l)), .un, .un, .un] B = .ok .nx [.val (.str (ofC l)), .val (.str (ofC a)), .val (.str (ofC [61])), .val (.str (ofC c))] B := by
      simp [sAsg, p]
    refine okP_seqT ?_
    rw [st, OkP_ok]
    refine then_nx ?_
    refine okP_lock fun LQ hLQ => ?_
    simp [hn, hm]
    first | exact hLQ _ _ _ ret_is | exact hLQ _ _ _ (ret_is' (by simp [hn, hm]) rfl)
  · rw [sepOf, if_neg hm] at p
    generalize l.takeWhile (· != 61) = a at *
    generalize (l.dropWhile (· != 61)).drop 1 = c at *
    have st : sAsg (mM gPartition (mVar 0) (mCons (mC (.str "=")) mNil)) (bdT (bdCons (bdN 1) (bdCons (bdN 2) (bdCons (bdN 3) (bdNil))))) [.val (.str (ofC l)), .un, .un, .un] B = .ok .nx [.val (.str (ofC l)), .val (.str (ofC a)), .val (.str (ofC [])), .val (.str (ofC c))] B := by
      simp [sAsg, p]
    refine okP_seqT ?_
    rw [st, OkP_ok]
    refine then_nx ?_
    refine okP_lock fun LQ hLQ => ?_
    simp [hm]
    first | exact hLQ _ _ _ ret_is | exact hLQ _ _ _ (ret_is' (by simp [hm]) rfl)
end LawW
namespace LawW
open PySem L2 QB
theorem in_strs {k : List Nat} : ∀ ls : List (List Nat), inU (.str (ofC k)) (.tup (ls.map fun l => .str (ofC l))) = some (decide (k ∈ ls))
  | [] => rfl
  | l :: ls => by
    rw [List.map_cons, inT_cons, in_strs ls]
    by_cases h : l = k
    · subst h; simp
    · have : (ofC l == ofC k) = false := by simpa using h
      have h2 : ¬ k = l := fun z => h z.symm
      simp [this, h2]
theorem in_strsL {k : List Nat} : ∀ ls : List (List Nat), inU (.str (ofC k)) (.lst (ls.map fun l => .str (ofC l))) = some (decide (k ∈ ls))
  | [] => rfl
  | l :: ls => by
    rw [List.map_cons, inL_cons, in_strsL ls]
    by_cases h : l = k
    · subst h; simp
    · have : (ofC l == ofC k) = false := by simpa using h
      have h2 : ¬ k = l := fun z => h z.symm
      simp [this, h2]
def keyL : List (List Nat) := [[105, 102], [116, 104, 101, 110], [101, 108, 105, 102], [101, 108, 115, 101], [102, 105], [119, 104, 105, 108, 101], [117, 110, 116, 105, 108], [100, 111], [100, 111, 110, 101], [102, 111, 114], [105, 110], [99, 97, 115, 101], [101, 115, 97, 99], [33]]
def keyW : List (List Nat) := [[105, 102], [116, 104, 101, 110], [101, 108, 105, 102], [101, 108, 115, 101], [102, 105], [119, 104, 105, 108, 101], [117, 110, 116, 105, 108], [100, 111], [100, 111, 110, 101], [102, 111, 114], [105, 110], [99, 97, 115, 101], [101, 115, 97, 99], [123], [125], [33]]
theorem key_eq : c_KEY_WORDS = .tup (keyW.map fun l => .str (ofC l)) := by simp [keyW]
theorem in_key (l : List Nat) : inU (.str (ofC l)) c_KEY_WORDS = some (decide (l ∈ keyW)) := by rw [key_eq, in_strs]
theorem key_same {l : List Nat} (h : TxOk l) : decide (l ∈ keyW) = decide (l ∈ keyL) := by
  have h1 : l ≠ [123] := fun z => by subst z; exact absurd (h.1 123 (by simp)) (by decide +kernel)
  have h2 : l ≠ [125] := fun z => by subst z; exact absurd (h.1 125 (by simp)) (by decide +kernel)
  rw [Bool.eq_iff_iff, decide_eq_true_iff, decide_eq_true_iff]
  simp [keyW, keyL, h1, h2]
def uSets (xs : List (List Nat)) : U := .lst (xs.map fun l => .tup [.str (ofC l), .lst []])
theorem turns_nil (B : Bx) : G_are_turns [.lst []] B = .ok (.bl true) B := by
  have lc : lc_are_turns_0 G_is_turn [.val (.lst []), .un] B = .ok (.fr (.lst [])) [.val (.lst []), .un] B := by
    refine mLc_all chr (fun _ => .non) (xs := []) (by simp) (by simp) (by simp) (by simp) (fun c h => by cases h)
  have an := e_all' (l := ([] : List Nat)) (p := fun _ => true)
  simp at an
  simp only [G_are_turns]
  refine run_is rfl ?_
  simp only [b_are_turns, List.map_cons, List.map_nil, List.length_cons, List.length_nil, Nat.reduceAdd, Nat.reduceSub, List.replicate_succ, List.replicate_zero, List.cons_append, List.nil_append, Nat.zero_add, Nat.sub_self, List.append_nil]
  refine okP_lock fun LQ hLQ => ?_
  simp [lc, an]
  first | exact hLQ _ _ _ ret_is | exact hLQ _ _ _ (ret_is' (by simp [lc, an]) rfl)
def NmOk (l : List Nat) : Prop := isNm l = true ∧ l.length ≤ 100
theorem NmOk.okS {l : List Nat} (h : NmOk l) : okS (ofC l) = true := by
  refine okS_of fun c hc => ?_
  have h1 := h.1
  unfold isNm at h1
  rw [Bool.and_eq_true] at h1
  have : c ∈ nameS := all_contains.mp h1.1 c hc
  have k : ∀ c ∈ nameS, c < 200 := by decide +kernel
  have := k c this
  omega
theorem flt_sets {xs : List (List Nat)} (h : ∀ l ∈ xs, NmOk l) : Flt 4 (uSets xs) := by
  intro v hv
  obtain ⟨l, hl, rfl⟩ := List.mem_map.mp hv
  intro v hv
  simp at hv
  rcases hv with rfl | rfl
  · exact (h l hl).okS
  · exact fun v hv => by cases hv
def res (xs : List (List Nat)) : List Pc → Bool
  | .bare l :: r => !((xs.isEmpty && (r.isEmpty && decide (l ∈ keyW))) || begS l)
  | _ => true
theorem res_bare {xs : List (List Nat)} {l : List Nat} {r : List Pc} : res xs (.bare l :: r) = !((xs.isEmpty && (r.isEmpty && decide (l ∈ keyW))) || begS l) := rfl
theorem is_do_ok {xs : List (List Nat)} {first : List Pc} {more : List (List Pc)} (hx : ∀ l ∈ xs, NmOk l) (hxl : xs.length ≤ 100) (hw : ∀ w ∈ first :: more, WdOk w) (hl : more.length ≤ 10) (n : Nat) (B : Bx) :
    G_is_do (n + 6) [uSets xs, .lst ((first :: more).map fun w => .lst (w.map uP)), .lst []] B = .ok (.bl (res xs first)) B := by
  have aw := are_words_ok hw (by simp; omega) n B
  have an : ∀ B, G_are_pieces (n + 5) [.lst [], .bl false] B = .ok (.bl true) B := fun B => pieces_nil (n + 4) false B
  have qs := eqU_nil (n := 3) (by decide) (flt_sets hx)
  rw [List.isEmpty_map] at qs
  have fw : Flt 6 (.lst ((first :: more).map fun w => .lst (w.map uP))) := by
    intro v hv
    obtain ⟨w, hw', rfl⟩ := List.mem_map.mp hv
    exact flt_row (hw w hw').ok
  have qw := eqU_nil (n := 5) (by decide) fw
  rw [List.map_cons] at aw qw ⊢
  simp only [G_is_do]
  generalize hm : (more.map fun w => U.lst (w.map uP)) = mu at *
  simp only [List.isEmpty_cons] at qw
  refine run_is rfl ?_
  simp only [b_is_do, List.map_cons, List.map_nil, List.length_cons, List.length_nil, Nat.reduceAdd, Nat.reduceSub, List.replicate_succ, List.replicate_zero, List.cons_append, List.nil_append, Nat.zero_add, Nat.sub_self, List.append_nil]
  refine okP_seqL fun LQ hLQ => ?_
  simp [uSets, aw, turns_nil]
  refine hLQ _ _ _ (then_nx ?_)
  clear hLQ LQ
  refine okP_seqT ?_
  refine okP_forM (fun l => U.tup [.str (ofC l), .lst []]) (xs := xs) (E1 := [.val (uSets xs), .val (.lst (.lst (first.map uP) :: mu)), .val (.lst []), .un, .un]) (B1 := B) (by simp [uSets])
    (fun r E B' => B' = B ∧ ∃ s, Free s ∧ E = [.val (uSets xs), .val (.lst (.lst (first.map uP) :: mu)), .val (.lst []), s, .un] ∧ ∀ l ∈ r, NmOk l) ⟨rfl, .un, free_un, rfl, hx⟩ ?_ ?_
  · rintro l r E B' ⟨rfl, s, fs, rfl, ho⟩
    refine BdIs_of (E := [.val (uSets xs), .val (.lst (.lst (first.map uP) :: mu)), .val (.lst []), .val (.tup [.str (ofC l), .lst []]), .un]) (by rcases fs with rfl | ⟨_, rfl⟩ <;> simp) (body_go ?_)
    have hl' := ho l (List.mem_cons_self ..)
    have nm := is_name_ok l (by have := hl'.2; omega) B'
    rw [hl'.1] at nm
    refine okP_lock fun LQ hLQ => ?_
    simp [lp_is_do_0, nm, an]
    refine hLQ _ _ _ ?_
    clear hLQ LQ
    exact loop_nx ⟨rfl, _, free_val, rfl, fun x hx => ho x (List.mem_cons_of_mem _ hx)⟩
  · rintro E B' ⟨rfl, s, fs, rfl, ho⟩
    refine then_nx ?_
    refine okP_seqL fun LQ hLQ => ?_
    simp [qw]
    refine hLQ _ _ _ (then_nx ?_)
    clear hLQ LQ
    refine okP_seqL fun LQ hLQ => ?_
    simp
    refine hLQ _ _ _ (then_nx ?_)
    clear hLQ LQ
    have w0 := hw first (List.mem_cons_self ..)
    cases first with
    | nil => exact absurd rfl w0.ne
    | cons p r =>
      have hkey : gIx (uP p) (.int 0) = some (.w (.str (ofC (kindL p)))) := ix_k
      cases hp : p.isBare with
      | false =>
        have k1 : (kindL p == [98, 97, 114, 101]) = false := by rw [kind_bare, hp]
        have rs : res xs (p :: r) = true := by cases p <;> first | rfl | cases hp
        rw [rs]
        refine okP_lock fun LQ hLQ => ?_
        simp [k1]
        first | exact hLQ _ _ _ ret_is | exact hLQ _ _ _ (ret_is' (by simp [k1]) rfl)
      | true =>
        cases p with
        | bare l =>
          have pk : PcOk (.bare l) := w0.ok _ (List.mem_cons_self ..)
          have hl9 : l.length ≤ 1000 := by have := pk.1.2; omega
          have bs := begins_ok hl9 B'
          have ik := in_key l
          have k1 : (kindL (.bare l) == [98, 97, 114, 101]) = true := by rw [kind_bare]; rfl
          have x1 : gIx (uP (.bare l)) (.int 1) = some (.w (.str (ofC l))) := by simp [uP]
          generalize hkw : c_KEY_WORDS = kw at ik ⊢
          refine okP_seqL fun LQ hLQ => ?_
          simp [k1]
          refine hLQ _ _ _ (then_nx ?_)
          clear hLQ LQ
          have hlen : ∀ {z : Int}, ((r.length : Int) + 1 == 1) = r.isEmpty := by
            cases r with
            | nil => intro; rfl
            | cons a b => intro; simp; omega
          have qs2 : eqU (uSets xs) (.lst []) = some xs.isEmpty := qs
          have qv : viewU (uSets xs) B' = some (uSets xs) := rfl
          cases h1 : xs.isEmpty with
          | false =>
            rw [h1] at qs2
            rw [res_bare, h1]
            refine okP_seqL fun LQ hLQ => ?_
            simp [qs2, qv]
            refine hLQ _ _ _ (then_nx ?_)
            clear hLQ LQ
            refine okP_lock fun LQ hLQ => ?_
            simp [bs, x1]
            first | exact hLQ _ _ _ ret_is | exact hLQ _ _ _ (ret_is' (by simp [bs, x1]) rfl)
          | true =>
            rw [h1] at qs2
            have hl1 := @hlen 0
            cases h2 : r.isEmpty with
            | false =>
              rw [h2] at hl1
              rw [res_bare, h1, h2]
              refine okP_seqL fun LQ hLQ => ?_
              simp [qs2, qv, hl1]
              refine hLQ _ _ _ (then_nx ?_)
              clear hLQ LQ
              refine okP_lock fun LQ hLQ => ?_
              simp [bs, x1]
              first | exact hLQ _ _ _ ret_is | exact hLQ _ _ _ (ret_is' (by simp [bs, x1]) rfl)
            | true =>
              rw [h2] at hl1
              by_cases h3 : l ∈ keyW
              · have ik' : inU (.str (ofC l)) kw = some true := by rw [ik, decide_eq_true h3]
                have qk : viewU kw B' = some kw := by rw [← hkw]; rfl
                refine okP_lock fun LQ hLQ => ?_
                simp [qs2, qv, hl1, ik', qk, x1]
                refine hLQ _ _ _ ?_
                clear hLQ LQ
                exact ret_is' (by rw [res_bare, h1, h2, decide_eq_true h3]; rfl) rfl
              · have ik' : inU (.str (ofC l)) kw = some false := by rw [ik, decide_eq_false h3]
                have qk : viewU kw B' = some kw := by rw [← hkw]; rfl
                rw [res_bare, h1, h2, decide_eq_false h3]
                refine okP_seqL fun LQ hLQ => ?_
                simp [qs2, qv, hl1, ik', qk, x1]
                refine hLQ _ _ _ (then_nx ?_)
                clear hLQ LQ
                refine okP_lock fun LQ hLQ => ?_
                simp [bs, x1]
                first | exact hLQ _ _ _ ret_is | exact hLQ _ _ _ (ret_is' (by simp [bs, x1]) rfl)
        | held l => cases hp
        | nm => cases hp
        | wide => cases hp
end LawW
namespace LawW
open PySem L2 QB
def uNode (xs : List (List Nat)) (ws : List (List Pc)) : U := .tup [.str (ofC [100, 111]), uSets xs, .lst (ws.map fun w => .lst (w.map uP)), .lst []]
structure NdOk (xs : List (List Nat)) (first : List Pc) (more : List (List Pc)) : Prop where
  x : ∀ l ∈ xs, NmOk l
  xl : xs.length ≤ 100
  w : ∀ w ∈ first :: more, WdOk w
  l : more.length ≤ 10
theorem flt_node {xs : List (List Nat)} {first : List Pc} {more : List (List Pc)} (h : NdOk xs first more) : Flt 7 (uNode xs (first :: more)) := by
  intro v hv
  simp only [List.mem_cons, List.not_mem_nil, or_false] at hv
  rcases hv with rfl | rfl | rfl | rfl
  · exact (by decide +kernel : okS (ofC [100, 111]) = true)
  · intro v hv
    obtain ⟨l, hl, rfl⟩ := List.mem_map.mp hv
    intro v hv
    simp at hv
    rcases hv with rfl | rfl
    · exact (h.x l hl).okS
    · exact fun v hv => by cases hv
  · intro v hv
    obtain ⟨w, hw', rfl⟩ := List.mem_map.mp hv
    exact flt_row (h.w w hw').ok
  · exact fun v hv => by cases hv
theorem command_ok {xs : List (List Nat)} {first : List Pc} {more : List (List Pc)} (h : NdOk xs first more) (n : Nat) (B : Bx) : G_is_command (n + 7) [uNode xs (first :: more)] B = .ok (.bl (res xs first)) B := by
  have dk := is_do_ok h.x h.xl h.w h.l n B
  have tg : G_is_tagged [uNode xs (first :: more)] B = .ok (.bl true) B := tagged_of (n := 6) (by decide) (flt_node h) B
  unfold uNode at tg ⊢
  generalize uSets xs = us at *
  generalize (U.lst ((first :: more).map fun w => .lst (w.map uP))) = uw at *
  simp only [G_is_command]
  refine run_is rfl ?_
  simp only [b_is_command, List.map_cons, List.map_nil, List.length_cons, List.length_nil, Nat.reduceAdd, Nat.reduceSub, List.replicate_succ, List.replicate_zero, List.cons_append, List.nil_append, Nat.zero_add, Nat.sub_self, List.append_nil]
  refine okP_seqL fun LQ hLQ => ?_
  simp [tg]
  refine hLQ _ _ _ (then_nx ?_)
  clear hLQ LQ
  refine okP_lock fun LQ hLQ => ?_
  simp [dk]
  first | exact hLQ _ _ _ ret_is | exact hLQ _ _ _ (ret_is' (by simp [dk]) rfl)
/-- a script of commands that are answered -/
theorem script_ok {cs : List (U × Bool)} {n : Nat} {B : Bx} (h : ∀ c ∈ cs, G_is_command n [c.1] B = .ok (.bl c.2) B) (hl : cs.length ≤ 1000) : G_is_script (n + 1) [.lst (cs.map (·.1))] B = .ok (.bl (cs.all (·.2))) B := by
  have lc : lc_is_script_0 (G_is_command n) [.val (.lst (cs.map (·.1))), .un] B = .ok (.fr (.lst (cs.map fun c => .bl c.2))) [.val (.lst (cs.map (·.1))), .un] B := by
    refine mLc_all (fun c : U × Bool => c.1) (fun c => .bl c.2) (by simp) (by simp) (by simp) (by omega) (fun c hc => ?_)
    simp [Elt, h c hc]
  have an := e_all' (l := cs) (p := fun c => c.2)
  simp only [G_is_script]
  refine run_is rfl ?_
  simp only [b_is_script, List.map_cons, List.map_nil, List.length_cons, List.length_nil, Nat.reduceAdd, Nat.reduceSub, List.replicate_succ, List.replicate_zero, List.cons_append, List.nil_append, Nat.zero_add, Nat.sub_self, List.append_nil]
  refine okP_lock fun LQ hLQ => ?_
  simp [lc, an]
  first | exact hLQ _ _ _ ret_is | exact hLQ _ _ _ (ret_is' (by simp [lc, an]) rfl)
theorem group_ok {c : U} {b : Bool} {m n : Nat} {B : Bx} (hm : m + 2 ≤ 60) (hf : Flt (m + 1) c) (h : G_is_command n [c] B = .ok (.bl b) B) : G_is_command (n + 4) [.tup [.str (ofC [103, 114, 111, 117, 112]), .lst [c], .lst []]] B = .ok (.bl b) B := by
  have sc := script_ok (cs := [(c, b)]) (n := n) (B := B) (by intro x hx; rw [List.mem_singleton] at hx; subst hx; exact h) (by simp)
  simp at sc
  have q0 := eqU_nil (n := m + 1) (us := [c]) (by omega) (fun v hv => by rw [List.mem_singleton] at hv; subst hv; exact hf)
  simp at q0
  have bd : G_is_body (n + 2) [.lst [c]] B = .ok (.bl b) B := by
    simp only [G_is_body]
    refine run_is rfl ?_
    simp only [b_is_body, List.map_cons, List.map_nil, List.length_cons, List.length_nil, Nat.reduceAdd, Nat.reduceSub, List.replicate_succ, List.replicate_zero, List.cons_append, List.nil_append, Nat.zero_add, Nat.sub_self, List.append_nil]
    cases b <;> (refine okP_lock fun LQ hLQ => ?_; simp [sc, q0]; exact hLQ _ _ _ ret_is)
  have hg : okS (ofC [103, 114, 111, 117, 112]) = true := by decide +kernel
  have tg : G_is_tagged [.tup [.str (ofC [103, 114, 111, 117, 112]), .lst [c], .lst []]] B = .ok (.bl true) B := tagged_of (n := m + 2) (by omega) (fun v hv => by
    simp only [List.mem_cons, List.not_mem_nil, or_false] at hv
    rcases hv with rfl | rfl | rfl
    · exact hg
    · exact fun v hv => by rw [List.mem_singleton] at hv; subst hv; exact hf
    · exact fun v hv => by cases hv) B
  have cp : G_is_compound (n + 3) [.tup [.str (ofC [103, 114, 111, 117, 112]), .lst [c], .lst []]] B = .ok (.bl b) B := by
    simp only [G_is_compound]
    refine run_is rfl ?_
    simp only [b_is_compound, List.map_cons, List.map_nil, List.length_cons, List.length_nil, Nat.reduceAdd, Nat.reduceSub, List.replicate_succ, List.replicate_zero, List.cons_append, List.nil_append, Nat.zero_add, Nat.sub_self, List.append_nil]
    have a1 : atI [U.str (ofC [103, 114, 111, 117, 112]), .lst [c], .lst []] (-1) = some (.lst []) := rfl
    refine okP_seqL fun LQ hLQ => ?_
    simp [a1, turns_nil]
    refine hLQ _ _ _ (then_nx ?_)
    clear hLQ LQ
    refine okP_lock fun LQ hLQ => ?_
    simp [bd]
    first | exact hLQ _ _ _ ret_is | exact hLQ _ _ _ (ret_is' (by simp [bd]) rfl)
  simp only [G_is_command]
  refine run_is rfl ?_
  simp only [b_is_command, List.map_cons, List.map_nil, List.length_cons, List.length_nil, Nat.reduceAdd, Nat.reduceSub, List.replicate_succ, List.replicate_zero, List.cons_append, List.nil_append, Nat.zero_add, Nat.sub_self, List.append_nil]
  refine okP_seqL fun LQ hLQ => ?_
  simp [tg]
  refine hLQ _ _ _ (then_nx ?_)
  clear hLQ LQ
  refine okP_lock fun LQ hLQ => ?_
  simp [cp]
  first | exact hLQ _ _ _ ret_is | exact hLQ _ _ _ (ret_is' (by simp [cp]) rfl)
theorem pipe_ok {c d : U} {b : Bool} {m n : Nat} {B : Bx} (hm : m + 2 ≤ 60) (hf : Flt (m + 1) c) (hd : Flt (m + 1) d) (h : G_is_command n [c] B = .ok (.bl b) B) (h2 : G_is_command n [d] B = .ok (.bl true) B)
    (k1 : gIx c (.int 0) = some (.w (.str (ofC [100, 111])))) (k2 : gIx d (.int 0) = some (.w (.str (ofC [100, 111])))) (v1 : viewU c B = some c) (v2 : viewU d B = some d) :
    G_is_command (n + 3) [.tup [.str (ofC [112, 105, 112, 101]), .lst [d, c]]] B = .ok (.bl b) B := by
  have sc := script_ok (cs := [(d, true), (c, b)]) (n := n) (B := B) (by
    intro x hx
    simp only [List.mem_cons, List.not_mem_nil, or_false] at hx
    rcases hx with rfl | rfl
    · exact h2
    · exact h) (by simp)
  simp at sc
  have hg : okS (ofC [112, 105, 112, 101]) = true := by decide +kernel
  have tg : G_is_tagged [.tup [.str (ofC [112, 105, 112, 101]), .lst [d, c]]] B = .ok (.bl true) B := tagged_of (n := m + 2) (by omega) (fun v hv => by
    simp only [List.mem_cons, List.not_mem_nil, or_false] at hv
    rcases hv with rfl | rfl
    · exact hg
    · intro v hv
      simp only [List.mem_cons, List.not_mem_nil, or_false] at hv
      rcases hv with rfl | rfl
      · exact hd
      · exact hf) B
  have lc : lc_is_joint_0 [.val (.tup [.str (ofC [112, 105, 112, 101]), .lst [d, c]]), .un] B = .ok (.fr (.lst ([true, false].map fun _ => .bl true))) [.val (.tup [.str (ofC [112, 105, 112, 101]), .lst [d, c]]), .un] B := by
    refine mLc_all (fun x : Bool => if x then d else c) (fun _ => .bl true) (by simp) (by simp) (by simp) (by simp) (fun x hx => ?_)
    cases x <;> simp [Elt, k1, k2, v1, v2]
  simp at lc
  have an := e_all' (l := [true, false]) (p := fun _ => true)
  simp at an
  have cp : G_is_joint (n + 2) [.tup [.str (ofC [112, 105, 112, 101]), .lst [d, c]]] B = .ok (.bl b) B := by
    simp only [G_is_joint]
    refine run_is rfl ?_
    simp only [b_is_joint, List.map_cons, List.map_nil, List.length_cons, List.length_nil, Nat.reduceAdd, Nat.reduceSub, List.replicate_succ, List.replicate_zero, List.cons_append, List.nil_append, Nat.zero_add, Nat.sub_self, List.append_nil]
    refine okP_seqL fun LQ hLQ => ?_
    simp
    refine hLQ _ _ _ (then_nx ?_)
    clear hLQ LQ
    cases b
    · refine okP_lock fun LQ hLQ => ?_
      simp [sc]
      first | exact hLQ _ _ _ ret_is | exact hLQ _ _ _ (ret_is' (by simp [sc]) rfl)
    · refine okP_lock fun LQ hLQ => ?_
      simp [sc, lc, an]
      first | exact hLQ _ _ _ ret_is | exact hLQ _ _ _ (ret_is' (by simp [sc, lc, an]) rfl)
  simp only [G_is_command]
  refine run_is rfl ?_
  simp only [b_is_command, List.map_cons, List.map_nil, List.length_cons, List.length_nil, Nat.reduceAdd, Nat.reduceSub, List.replicate_succ, List.replicate_zero, List.cons_append, List.nil_append, Nat.zero_add, Nat.sub_self, List.append_nil]
  refine okP_seqL fun LQ hLQ => ?_
  simp [tg]
  refine hLQ _ _ _ (then_nx ?_)
  clear hLQ LQ
  refine okP_lock fun LQ hLQ => ?_
  simp [cp]
  first | exact hLQ _ _ _ ret_is | exact hLQ _ _ _ (ret_is' (by simp [cp]) rfl)
end LawW
namespace LawW
open PySem L2 QB
theorem draw1 {B : Bx} {i j n : Nat} {p q : Int} (many : Int) (h : Draw B i j p q (n + 1)) (h0 : 0 < many := by decide) (hm : many ≤ 10 ^ 40 := by decide) :
    ∃ (v : Int) (B1 : Bx), 0 ≤ v ∧ v < many ∧ G__law_draw [.box i, .int many] B = .ok (.int v) B1 ∧ Draw B1 i j p q n := by
  obtain ⟨v, B', h1, h2, h3, h4, _⟩ := draw_ok h h0 hm
  exact ⟨v, B', h1, h2, h3, h4⟩
theorem law_signs_ok {s : List Nat} {lo hi : Int} (hs : 0 < s.length) (hs2 : s.length ≤ 1000) (h0 : 0 ≤ lo) (h1 : lo ≤ hi) (h2 : hi ≤ 90) {B : Bx} {i j n : Nat} {p q : Int} (hp : Draw B i j p q (n + 100)) :
    ∃ u B', G__law_signs [.box i, .str (ofC s), .int lo, .int hi] B = .ok u B' ∧ (∃ l : List Nat, u = .str (ofC l) ∧ (∀ c ∈ l, c ∈ s) ∧ lo ≤ l.length ∧ l.length ≤ hi) ∧ Draw B' i j p q n := by
  obtain ⟨v, B1, v0, v1, e1, p1⟩ := draw1 (hi - lo + 1) hp (by omega) (by omega)
  simp only [G__law_signs]
  refine run_p rfl ?_
  simp only [b__law_signs, List.map_cons, List.map_nil, List.length_cons, List.length_nil, Nat.reduceAdd, Nat.reduceSub, List.replicate_succ, List.replicate_zero, List.cons_append, List.nil_append, Nat.zero_add, Nat.sub_self, List.append_nil]
  refine okP_seqL fun LQ hLQ => ?_
  simp [e1]
  refine hLQ _ _ _ (then_nx ?_)
  clear hLQ LQ
  have i1 : I62 (lo + v) = true := i62 (by omega) (by omega)
  have hsl : s.length ≤ 16777216 := by omega
  obtain ⟨ls, B2, e2, hl2, hc2, p2⟩ := lcDraw nat chr (bd := bdN 5) (f := (m2 gIx (mVar 1) (mCall G__law_draw (mCons (mVar 0) (mCons (m1 gLen (mVar 1)) (mNil)))))) (ks := [5]) (xs := List.range (lo + v).toNat) (E := [.val (.box i), .val (.str (ofC s)), .val (.int lo), .val (.int hi), .val (.int (lo + v)), .un]) (B := B1) (fi := mRange1 (mCons (mVar 4) (mNil))) (B1 := B1)
    (by simp [i1, intsU_map, nat]) (by simp) (by simp) (by simp; omega) (fun k acc B => (∀ c ∈ acc, c ∈ s) ∧ Draw B i j p q (n + k)) ⟨by simp, p1.le (by simp; omega)⟩
    (fun y k acc B _ _ hI => by
      obtain ⟨ho, pu⟩ := hI
      obtain ⟨w, B4, w0, w1, e2, p2⟩ := draw1 (s.length : Int) (pu.le (by omega : n + k + 1 ≤ _)) (by omega) (by omega)
      obtain ⟨c, hc, hx⟩ := atI_mem w0 w1
      refine BdIs_of (E := [.val (.box i), .val (.str (ofC s)), .val (.int lo), .val (.int hi), .val (.int (lo + v)), .val (nat y)]) (by simp) ⟨by simp, .w (chr c), c, B4, by simp [hsl, e2, hx, chr], rfl, ?_, p2⟩
      intro z hz
      rcases List.mem_append.mp hz with h | h
      · exact ho z h
      · rw [List.mem_singleton] at h; subst h; exact hc)
  have lce : lc__law_signs_0 G__law_draw [.val (.box i), .val (.str (ofC s)), .val (.int lo), .val (.int hi), .val (.int (lo + v)), .un] B1 = _ := e2
  simp at hl2
  have hj := join_chr (ls := ls) (by omega)
  refine okP_lock fun LQ hLQ => ?_
  simp [lce, hj]
  refine hLQ _ _ _ ?_
  clear hLQ LQ
  exact ret_p ⟨⟨ls, rfl, hc2, by omega, by omega⟩, p2.le (by omega)⟩
theorem isNm_app {a b : List Nat} (ha : isNm a = true) (hb : ∀ c ∈ b, c ∈ nameS) : isNm (a ++ b) = true := by
  unfold isNm at ha ⊢
  rw [Bool.and_eq_true] at ha ⊢
  refine ⟨all_contains.mpr fun c hc => ?_, ?_⟩
  · rcases List.mem_append.mp hc with h | h
    · exact all_contains.mp ha.1 c h
    · exact hb c h
  · cases a with
    | nil => cases ha.2
    | cons c r => exact ha.2
theorem law_name_ok {B : Bx} {i j n : Nat} {p q : Int} (hp : Draw B i j p q (n + 102)) :
    ∃ u B', G__law_name [.box i] B = .ok u B' ∧ (∃ l : List Nat, u = .str (ofC l) ∧ isNm l = true ∧ l.length ≤ 10) ∧ Draw B' i j p q n := by
  obtain ⟨v, B1, v0, v1, e1, p1⟩ := draw1 9 hp
  have hb : b__law_name G__law_draw G__law_signs = sSeq (sSet 1 (mC (.str (ofC letS)))) (sSeq (sSet 2 (mLst (mCons (mC (.str "if")) (mCons (mC (.str "in")) (mCons (mC (.str "do")) (mCons (mC (.str "x")) (mCons (mC (.str "SEP")) (mNil)))))))) (sSeq (sSet 3 (mCall G__law_draw (mCons (mVar 0) (mCons (mC (.int 9)) (mNil))))) (sSeq (sIf (toT (m2 gLt (mVar 3) (mC (.int 5)))) (sRet (m2 gIx (mVar 2) (mVar 3))) (sNext)) (sRet (m2 gAdd (m2 gIx (mVar 1) (mCall G__law_draw (mCons (mVar 0) (mCons (mC (.int 53)) (mNil))))) (mCall G__law_signs (mCons (mVar 0) (mCons (m2 gAdd (mVar 1) (mC (.str (ofC digS)))) (mCons (mC (.int 0)) (mCons (mC (.int 4)) (mNil))))))))))) := by
    rw [← c_let, show ofC digS = ("0123456789" : Str) from by decide +kernel]; rfl
  simp only [G__law_name, hb]
  refine run_p rfl ?_
  simp only [List.map_cons, List.map_nil, List.length_cons, List.length_nil, Nat.reduceAdd, Nat.reduceSub, List.replicate_succ, List.replicate_zero, List.cons_append, List.nil_append, Nat.zero_add, Nat.sub_self, List.append_nil]
  refine okP_seqL fun LQ hLQ => ?_
  simp
  refine hLQ _ _ _ (then_nx ?_)
  clear hLQ LQ
  refine okP_seqL fun LQ hLQ => ?_
  simp
  refine hLQ _ _ _ (then_nx ?_)
  clear hLQ LQ
  refine okP_seqL fun LQ hLQ => ?_
  simp [e1]
  refine hLQ _ _ _ (then_nx ?_)
  clear hLQ LQ
  by_cases h : v < 5
  · have hx : ∃ l : List Nat, atI [U.str (ofC [105, 102]), .str (ofC [105, 110]), .str (ofC [100, 111]), .str (ofC [120]), .str (ofC [83, 69, 80])] v = some (.str (ofC l)) ∧ isNm l = true ∧ l.length ≤ 10 := by
      have : v = 0 ∨ v = 1 ∨ v = 2 ∨ v = 3 ∨ v = 4 := by omega
      rcases this with rfl | rfl | rfl | rfl | rfl
      · exact ⟨_, rfl, by decide +kernel, by decide⟩
      · exact ⟨_, rfl, by decide +kernel, by decide⟩
      · exact ⟨_, rfl, by decide +kernel, by decide⟩
      · exact ⟨_, rfl, by decide +kernel, by decide⟩
      · exact ⟨_, rfl, by decide +kernel, by decide⟩
    obtain ⟨l, hx, h1, h2⟩ := hx
    refine okP_seqT ?_
    refine okP_ift0 (by simp [h]; done) ?_
    refine okP_lock fun LQ hLQ => ?_
    simp [hx]
    refine hLQ _ _ _ ?_
    clear hLQ LQ
    exact then_rt (ret_p ⟨⟨l, rfl, h1, h2⟩, p1.le (by omega)⟩)
  · obtain ⟨w, B2, w0, w1, e2, p2⟩ := draw1 53 p1
    have ll : letS.length = 53 := by decide +kernel
    have ld : digS.length = 10 := by decide +kernel
    obtain ⟨c, hc, hx⟩ := atI_mem (l := letS) w0 (by rw [ll]; omega)
    obtain ⟨u3, B3, e3, ⟨l, rfl, hl1, hl2, hl3⟩, p3⟩ := law_signs_ok (s := letS ++ digS) (lo := 0) (hi := 4) (by simp [ll, ld]) (by simp [ll, ld]) (by omega) (by omega) (by omega) p2
    have la : 1 + l.length ≤ 16777216 := by omega
    refine okP_seqL fun LQ hLQ => ?_
    simp [h]
    refine hLQ _ _ _ (then_nx ?_)
    clear hLQ LQ
    refine okP_lock fun LQ hLQ => ?_
    simp [e2, ll, ld, hx, e3, la]
    refine hLQ _ _ _ ?_
    clear hLQ LQ
    refine ret_p ⟨⟨c :: l, by simp, isNm_app (a := [c]) (b := l) ?_ hl1, by simp; omega⟩, p3.le (by omega)⟩
    have k : ∀ c ∈ letS, isNm [c] = true := by decide +kernel
    exact k c hc
theorem nm_bare : ∀ c ∈ nameS, c ∈ bareS := by decide +kernel
theorem isNm_bare {l : List Nat} (h : isNm l = true) : (∀ c ∈ l, c ∈ bareS) ∧ l ≠ [] := by
  unfold isNm at h
  rw [Bool.and_eq_true] at h
  exact ⟨fun c hc => nm_bare c (all_contains.mp h.1 c hc), by rintro rfl; cases h.2⟩
def ToldOk (l : List Nat) : Prop := TxOk l ∧ l ≠ []
theorem law_bare_ok {B : Bx} {i j n : Nat} {p q : Int} (hp : Draw B i j p q (n + 101)) :
    ∃ u B', G__law_bare [.box i] B = .ok u B' ∧ (∃ l : List Nat, u = .str (ofC l) ∧ ToldOk l ∧ l.length ≤ 10) ∧ Draw B' i j p q n := by
  obtain ⟨v, B1, v0, v1, e1, p1⟩ := draw1 24 hp
  have hb : b__law_bare G__law_signs G__law_draw = sSeq (sSet 1 (mLst (mCons (mC (.str "if")) (mCons (mC (.str "then")) (mCons (mC (.str "esac")) (mCons (mC (.str "in")) (mCons (mC (.str "do")) (mCons (mC (.str "!")) (mCons (mC (.str "x")) (mCons (mC (.str "x=")) (mCons (mC (.str "_1=a")) (mCons (mC (.str "1=")) (mCons (mC (.str "2")) (mCons (mC (.str "0")) (mCons (mC (.str "-")) (mCons (mC (.str "*")) (mNil))))))))))))))))) (sSeq (sSet 2 (mCall G__law_draw (mCons (mVar 0) (mCons (mC (.int 24)) (mNil))))) (sSeq (sIf (toT (m2 gLt (mVar 2) (mC (.int 14)))) (sRet (m2 gIx (mVar 1) (mVar 2))) (sNext)) (sSeq (sSet 3 (mC (.str (ofC bareS)))) (sRet (mCall G__law_signs (mCons (mVar 0) (mCons (mVar 3) (mCons (mC (.int 1)) (mCons (mC (.int 6)) (mNil)))))))))) := by
    rw [← c_bare]; rfl
  simp only [G__law_bare, hb]
  refine run_p rfl ?_
  simp only [List.map_cons, List.map_nil, List.length_cons, List.length_nil, Nat.reduceAdd, Nat.reduceSub, List.replicate_succ, List.replicate_zero, List.cons_append, List.nil_append, Nat.zero_add, Nat.sub_self, List.append_nil]
  refine okP_seqL fun LQ hLQ => ?_
  simp
  refine hLQ _ _ _ (then_nx ?_)
  clear hLQ LQ
  refine okP_seqL fun LQ hLQ => ?_
  simp [e1]
  refine hLQ _ _ _ (then_nx ?_)
  clear hLQ LQ
  by_cases h : v < 14
  · have hx : ∃ l ∈ [[105, 102], [116, 104, 101, 110], [101, 115, 97, 99], [105, 110], [100, 111], [33], [120], [120, 61], [95, 49, 61, 97], [49, 61], [50], [48], [45], [42]], atI [U.str (ofC [105, 102]), .str (ofC [116, 104, 101, 110]), .str (ofC [101, 115, 97, 99]), .str (ofC [105, 110]), .str (ofC [100, 111]), .str (ofC [33]), .str (ofC [120]), .str (ofC [120, 61]), .str (ofC [95, 49, 61, 97]), .str (ofC [49, 61]), .str (ofC [50]), .str (ofC [48]), .str (ofC [45]), .str (ofC [42])] v = some (.str (ofC l)) := by
      obtain ⟨l, h1, h2⟩ := atI_mem (l := [[105, 102], [116, 104, 101, 110], [101, 115, 97, 99], [105, 110], [100, 111], [33], [120], [120, 61], [95, 49, 61, 97], [49, 61], [50], [48], [45], [42]]) v0 (by simpa using h)
      refine ⟨l, h1, ?_⟩
      rw [atI_of (k := v.toNat) (by omega)] at h2 ⊢
      have := congrArg (Option.map fun l => U.str (ofC l)) h2
      rw [← List.getElem?_map] at this
      exact this
    obtain ⟨l, h1, hx⟩ := hx
    have k : ∀ l ∈ [[105, 102], [116, 104, 101, 110], [101, 115, 97, 99], [105, 110], [100, 111], [33], [120], [120, 61], [95, 49, 61, 97], [49, 61], [50], [48], [45], [42]], (∀ c ∈ l, c ∈ bareS) ∧ l.length ≤ 10 ∧ l ≠ [] := by decide +kernel
    refine okP_seqT ?_
    refine okP_ift0 (by simp [h]; done) ?_
    refine okP_lock fun LQ hLQ => ?_
    simp [hx]
    refine hLQ _ _ _ ?_
    clear hLQ LQ
    exact then_rt (ret_p ⟨⟨l, rfl, ⟨⟨(k l h1).1, by have := (k l h1).2.1; omega⟩, (k l h1).2.2⟩, (k l h1).2.1⟩, p1.le (by omega)⟩)
  · have lb : bareS.length = 77 := by decide +kernel
    obtain ⟨u3, B3, e3, ⟨l, rfl, hl1, hl2, hl3⟩, p3⟩ := law_signs_ok (s := bareS) (lo := 1) (hi := 6) (by rw [lb]; omega) (by rw [lb]; omega) (by omega) (by omega) (by omega) p1
    refine okP_seqL fun LQ hLQ => ?_
    simp [h]
    refine hLQ _ _ _ (then_nx ?_)
    clear hLQ LQ
    refine okP_seqL fun LQ hLQ => ?_
    simp
    refine hLQ _ _ _ (then_nx ?_)
    clear hLQ LQ
    refine okP_lock fun LQ hLQ => ?_
    simp [e3]
    refine hLQ _ _ _ ?_
    clear hLQ LQ
    exact ret_p ⟨⟨l, rfl, ⟨⟨hl1, by omega⟩, by rintro rfl; simp at hl2⟩, by omega⟩, p3⟩
end LawW
namespace LawW
open PySem L2 QB
theorem key_at {v : Int} (v0 : 0 ≤ v) (h : v < 14) : ∃ l ∈ keyL, atI [U.str (ofC [105, 102]), .str (ofC [116, 104, 101, 110]), .str (ofC [101, 108, 105, 102]), .str (ofC [101, 108, 115, 101]), .str (ofC [102, 105]), .str (ofC [119, 104, 105, 108, 101]), .str (ofC [117, 110, 116, 105, 108]), .str (ofC [100, 111]), .str (ofC [100, 111, 110, 101]), .str (ofC [102, 111, 114]), .str (ofC [105, 110]), .str (ofC [99, 97, 115, 101]), .str (ofC [101, 115, 97, 99]), .str (ofC [33])] v = some (.str (ofC l)) := by
  obtain ⟨l, h1, h2⟩ := atI_mem (l := keyL) v0 (by simpa [keyL] using h)
  refine ⟨l, h1, ?_⟩
  rw [atI_of (k := v.toNat) (by omega)] at h2 ⊢
  have := congrArg (Option.map fun l => U.str (ofC l)) h2
  rw [← List.getElem?_map] at this
  exact this
theorem keyL_ok : ∀ l ∈ keyL, (∀ c ∈ l, c ∈ bareS) ∧ l.length ≤ 10 ∧ l ≠ [] := by decide +kernel
theorem toldApp {a b : List Nat} (h1 : ∀ c ∈ a, c ∈ bareS) (h2 : ∀ c ∈ b, c ∈ bareS) (ha : a.length ≤ 20) (hb : b.length ≤ 20) (hn : a ≠ []) : ToldOk (a ++ b) :=
  ⟨⟨fun c hc => by
    rcases List.mem_append.mp hc with h | h
    · exact h1 c h
    · exact h2 c h, by simp; omega⟩, by simp [hn]⟩
theorem law_drawn_ok {B : Bx} {i j n : Nat} {p q : Int} (hp : Draw B i j p q (n + 110)) :
    ∃ u B', G__law_drawn [.box i] B = .ok u B' ∧ (∃ l : List Nat, u = .str (ofC l) ∧ ToldOk l) ∧ Draw B' i j p q n := by
  obtain ⟨v, B1, v0, v1, e1, p1⟩ := draw1 5 hp
  simp only [G__law_drawn]
  refine run_p rfl ?_
  simp only [b__law_drawn, List.map_cons, List.map_nil, List.length_cons, List.length_nil, Nat.reduceAdd, Nat.reduceSub, List.replicate_succ, List.replicate_zero, List.cons_append, List.nil_append, Nat.zero_add, Nat.sub_self, List.append_nil]
  refine okP_seqL fun LQ hLQ => ?_
  simp
  refine hLQ _ _ _ (then_nx ?_)
  clear hLQ LQ
  refine okP_seqL fun LQ hLQ => ?_
  simp [e1]
  refine hLQ _ _ _ (then_nx ?_)
  clear hLQ LQ
  by_cases h0 : v = 0
  · subst h0
    obtain ⟨w, B2, w0, w1, e2, p2⟩ := draw1 14 p1
    obtain ⟨l, hl, hx⟩ := key_at w0 w1
    refine okP_seqT ?_
    refine okP_ift0 (by simp; done) ?_
    refine okP_lock fun LQ hLQ => ?_
    simp [e2, hx]
    refine hLQ _ _ _ ?_
    clear hLQ LQ
    exact then_rt (ret_p ⟨⟨l, rfl, ⟨(keyL_ok l hl).1, by have := (keyL_ok l hl).2.1; omega⟩, (keyL_ok l hl).2.2⟩, p2.le (by omega)⟩)
  have h0' : (v == 0) = false := by simpa using h0
  refine okP_seqL fun LQ hLQ => ?_
  simp [h0']
  refine hLQ _ _ _ (then_nx ?_)
  clear hLQ LQ
  by_cases h1 : v = 1
  · subst h1
    obtain ⟨u2, B2, e2, ⟨a, rfl, a1, a2⟩, p2⟩ := law_name_ok (p1.le (by omega : n + 5 + 102 ≤ _))
    obtain ⟨w, B3, w0, w1, e3, p3⟩ := draw1 3 (p2.le (by omega : n + 4 + 1 ≤ _))
    have hx : ∃ l : List Nat, atI [U.str (ofC []), .str (ofC [97]), .str (ofC [61])] w = some (.str (ofC l)) ∧ (∀ c ∈ l, c ∈ bareS) ∧ l.length ≤ 5 := by
      have : w = 0 ∨ w = 1 ∨ w = 2 := by omega
      rcases this with rfl | rfl | rfl
      · exact ⟨_, rfl, by decide +kernel, by decide⟩
      · exact ⟨_, rfl, by decide +kernel, by decide⟩
      · exact ⟨_, rfl, by decide +kernel, by decide⟩
    obtain ⟨l, hx, l1, l2⟩ := hx
    have la : a.length + 1 ≤ 16777216 := by omega
    have lb : a.length + 1 + l.length ≤ 16777216 := by omega
    refine okP_seqT ?_
    refine okP_ift0 (by simp; done) ?_
    refine okP_lock fun LQ hLQ => ?_
    simp [e2, e3, hx, la, lb]
    refine hLQ _ _ _ ?_
    clear hLQ LQ
    refine then_rt (ret_p ⟨⟨a ++ 61 :: l, rfl, toldApp (isNm_bare a1).1 ?_ (by omega) (by simp; omega) (isNm_bare a1).2⟩, p3.le (by omega)⟩)
    intro c hc
    rcases List.mem_cons.mp hc with rfl | hc
    · decide +kernel
    · exact l1 c hc
  have h1' : (v == 1) = false := by simpa using h1
  refine okP_seqL fun LQ hLQ => ?_
  simp [h1']
  refine hLQ _ _ _ (then_nx ?_)
  clear hLQ LQ
  by_cases h2 : v = 2
  · subst h2
    obtain ⟨w, B2, w0, w1, e2, p2⟩ := draw1 14 p1
    obtain ⟨a, ha, hx⟩ := key_at w0 w1
    obtain ⟨w', B3, w0', w1', e3, p3⟩ := draw1 3 p2
    have hx2 : ∃ l : List Nat, atI [U.str (ofC [97]), .str (ofC [61]), .str (ofC [45, 61])] w' = some (.str (ofC l)) ∧ (∀ c ∈ l, c ∈ bareS) ∧ l.length ≤ 5 := by
      have : w' = 0 ∨ w' = 1 ∨ w' = 2 := by omega
      rcases this with rfl | rfl | rfl
      · exact ⟨_, rfl, by decide +kernel, by decide⟩
      · exact ⟨_, rfl, by decide +kernel, by decide⟩
      · exact ⟨_, rfl, by decide +kernel, by decide⟩
    obtain ⟨l, hx2, l1, l2⟩ := hx2
    have ak := keyL_ok a ha
    have la : a.length + l.length ≤ 16777216 := by omega
    refine okP_seqT ?_
    refine okP_ift0 (by simp; done) ?_
    refine okP_lock fun LQ hLQ => ?_
    simp [e2, e3, hx, hx2, la]
    refine hLQ _ _ _ ?_
    clear hLQ LQ
    exact then_rt (ret_p ⟨⟨a ++ l, rfl, toldApp ak.1 l1 (by omega) (by omega) ak.2.2⟩, p3.le (by omega)⟩)
  have h2' : (v == 2) = false := by simpa using h2
  refine okP_seqL fun LQ hLQ => ?_
  simp [h2']
  refine hLQ _ _ _ (then_nx ?_)
  clear hLQ LQ
  obtain ⟨u2, B2, e2, ⟨l, rfl, l1, l2⟩, p2⟩ := law_bare_ok (p1.le (by omega : n + 8 + 101 ≤ _))
  refine okP_lock fun LQ hLQ => ?_
  simp [e2]
  refine hLQ _ _ _ ?_
  clear hLQ LQ
  exact ret_p ⟨⟨l, rfl, l1⟩, p2.le (by omega)⟩
theorem law_key_ok (l : List Nat) (B : Bx) : G__law_key [.str (ofC l)] B = .ok (.bl (decide (l ∈ keyL))) B := by
  have ik := in_strsL (k := l) keyL
  simp only [G__law_key]
  refine run_is rfl ?_
  simp only [b__law_key, List.map_cons, List.map_nil, List.length_cons, List.length_nil, Nat.reduceAdd, Nat.reduceSub, List.replicate_succ, List.replicate_zero, List.cons_append, List.nil_append, Nat.zero_add, Nat.sub_self, List.append_nil]
  refine okP_seqL fun LQ hLQ => ?_
  simp
  refine hLQ _ _ _ (then_nx ?_)
  clear hLQ LQ
  have e : (U.lst (keyL.map fun l => .str (ofC l))) = .lst [.str (ofC [105, 102]), .str (ofC [116, 104, 101, 110]), .str (ofC [101, 108, 105, 102]), .str (ofC [101, 108, 115, 101]), .str (ofC [102, 105]), .str (ofC [119, 104, 105, 108, 101]), .str (ofC [117, 110, 116, 105, 108]), .str (ofC [100, 111]), .str (ofC [100, 111, 110, 101]), .str (ofC [102, 111, 114]), .str (ofC [105, 110]), .str (ofC [99, 97, 115, 101]), .str (ofC [101, 115, 97, 99]), .str (ofC [33])] := rfl
  rw [← e]
  generalize (U.lst (keyL.map fun l => .str (ofC l))) = kl at *
  refine okP_lock fun LQ hLQ => ?_
  have vk : ∀ B, viewU kl B = some kl := by rw [show kl = _ from e]; intro B; rfl
  simp [vk, ik]
  exact hLQ _ _ _ ret_is
theorem law_is_name_ok (l : List Nat) (hl : l.length ≤ 10000) (B : Bx) : G__law_is_name [.str (ofC l)] B = .ok (.bl (isNm l)) B := by
  have hb : b__law_is_name = sSeq (sSet 1 (mC (.str (ofC letS)))) (sRet (mAndV (m2 gNe (mVar 0) (mC (.str ""))) (mAndV (m2 (gIn false) (m2 gIx (mVar 0) (mC (.int 0))) (mVar 1)) (m1 gAll (lc__law_is_name_0))))) := by
    rw [← c_let]; rfl
  have lc : lc__law_is_name_0 [.val (.str (ofC l)), .val (.str (ofC letS)), .un] B = .ok (.fr (.lst (l.map fun c => .bl (decide (c ∈ nameS))))) [.val (.str (ofC l)), .val (.str (ofC letS)), .un] B := by
    have hd : ("0123456789" : Str) = ofC digS := by decide +kernel
    unfold lc__law_is_name_0
    rw [hd]
    refine mLc_all chr (fun c => .bl (decide (c ∈ nameS))) (by simp [chr]) (by simp) (by simp) (by omega) (fun c _ => ?_)
    have ll : letS.length = 53 := by decide +kernel
    have ld : digS.length = 10 := by decide +kernel
    simp [Elt, chr, ll, ld, nameS]
  have an := e_all' (l := l) (p := fun c => decide (c ∈ nameS))
  have hl2 : l.length ≤ 16777216 := by omega
  simp only [G__law_is_name, hb]
  refine run_is rfl ?_
  simp only [List.map_cons, List.map_nil, List.length_cons, List.length_nil, Nat.reduceAdd, Nat.reduceSub, List.replicate_succ, List.replicate_zero, List.cons_append, List.nil_append, Nat.zero_add, Nat.sub_self, List.append_nil]
  refine okP_seqL fun LQ hLQ => ?_
  simp
  refine hLQ _ _ _ (then_nx ?_)
  clear hLQ LQ
  unfold isNm
  cases l with
  | nil =>
    refine okP_lock fun LQ hLQ => ?_
    simp
    first | exact hLQ _ _ _ ret_is | exact hLQ _ _ _ (ret_is' (by simp) rfl)
  | cons c r =>
    have hl3 : r.length + 1 ≤ 16777216 := by simpa using hl2
    by_cases hc : c ∈ letS
    · refine okP_lock fun LQ hLQ => ?_
      rw [List.map_cons] at an lc
      simp [hl3, hc, lc, an]
      refine hLQ _ _ _ ?_
      refine ret_is' ?_ rfl
      simp [hc]
    · refine okP_lock fun LQ hLQ => ?_
      simp [hl3, hc]
      exact hLQ _ _ _ (ret_is' (by simp [hc]) rfl)
end LawW
namespace LawW
open PySem L2 QB
theorem pc_held {l : List Nat} (h : TxOk l) : PcOk (.held l) := h
theorem tx_nil : TxOk [] := ⟨by simp, by simp⟩
inductive Ext where | none | held | nm
def Ext.ps : Ext → List Pc
  | .none => []
  | .held => [.held []]
  | .nm => [.nm]
def firstOf (pick : Nat) (told : List Nat) (x : Ext) : List Pc :=
  if pick = 0 then .held told :: .bare told :: x.ps else if pick = 1 then [.wide, .bare told] else .bare told :: x.ps
theorem wd_first {told : List Nat} (h : ToldOk told) (pick : Nat) (x : Ext) : WdOk (firstOf pick told x) := by
  have b : PcOk (.bare told) := h
  unfold firstOf
  by_cases h0 : pick = 0
  · subst h0
    rw [if_pos rfl]
    refine ⟨?_, ?_, by simp, by cases x <;> simp [Ext.ps]⟩
    · intro p hp
      cases x <;> simp [Ext.ps] at hp
      · rcases hp with rfl | rfl; exact h.1; exact b
      · rcases hp with rfl | rfl | rfl; exact h.1; exact b; exact tx_nil
      · rcases hp with rfl | rfl | rfl; exact h.1; exact b; trivial
    · cases x <;> simp [okRow, Ext.ps, Pc.isBare]
  · rw [if_neg h0]
    by_cases h1 : pick = 1
    · subst h1
      rw [if_pos rfl]
      refine ⟨?_, by simp [okRow, Pc.isBare], by simp, by simp⟩
      intro p hp
      simp at hp
      rcases hp with rfl | rfl; trivial; exact b
    · rw [if_neg h1]
      refine ⟨?_, ?_, by simp, by cases x <;> simp [Ext.ps]⟩
      · intro p hp
        cases x <;> simp [Ext.ps] at hp
        · subst hp; exact b
        · rcases hp with rfl | rfl; exact b; exact tx_nil
        · rcases hp with rfl | rfl; exact b; trivial
      · cases x <;> simp [okRow, Ext.ps, Pc.isBare]
theorem wd_one {told : List Nat} (h : ToldOk told) : WdOk [.bare told] := ⟨by intro p hp; rw [List.mem_singleton] at hp; subst hp; exact h, by simp [okRow], by simp, by simp⟩
theorem wd_held : WdOk [.held []] := ⟨by intro p hp; rw [List.mem_singleton] at hp; subst hp; exact tx_nil, by simp [okRow], by simp, by simp⟩
theorem nd_held : NdOk [] [.held []] [] := ⟨by simp, by simp, by intro w hw; rw [List.mem_singleton] at hw; subst hw; exact wd_held, by simp⟩
/-- the three scripts -/
theorem passed_ok {xs : List (List Nat)} {first : List Pc} {more : List (List Pc)} (h : NdOk xs first more) {v : Int} (v0 : 0 ≤ v) (v1 : v < 3) : ∃ u : U, atI [U.lst [uNode xs (first :: more)], .lst [.tup [.str (ofC [103, 114, 111, 117, 112]), .lst [uNode xs (first :: more)], .lst []]], .lst [.tup [.str (ofC [112, 105, 112, 101]), .lst [uNode [] [[.held []]], uNode xs (first :: more)]]]] v = some u ∧
    ∀ B, G_is_script 24 [u] B = .ok (.bl (res xs first)) B := by
  have : v = 0 ∨ v = 1 ∨ v = 2 := by omega
  rcases this with rfl | rfl | rfl
  · refine ⟨_, rfl, fun B => ?_⟩
    have := script_ok (cs := [(uNode xs (first :: more), res xs first)]) (n := 23) (B := B) (by intro c hc; rw [List.mem_singleton] at hc; subst hc; exact command_ok h 16 B) (by simp)
    simpa using this
  · refine ⟨_, rfl, fun B => ?_⟩
    have g := group_ok (m := 6) (n := 19) (by decide) (flt_node h) (command_ok h 12 B)
    have := script_ok (cs := [(.tup [.str (ofC [103, 114, 111, 117, 112]), .lst [uNode xs (first :: more)], .lst []], res xs first)]) (n := 23) (B := B) (by intro c hc; rw [List.mem_singleton] at hc; subst hc; exact g) (by simp)
    simpa using this
  · refine ⟨_, rfl, fun B => ?_⟩
    have k : ∀ (a : List (List Nat)) (b : List (List Pc)), gIx (uNode a b) (.int 0) = some (.w (.str (ofC [100, 111]))) := fun a b => by simp [uNode]
    have g := pipe_ok (m := 6) (n := 20) (by decide) (flt_node h) (flt_node nd_held) (command_ok h 13 B) (command_ok nd_held 13 B) (k _ _) (k _ _) rfl rfl
    have := script_ok (cs := [(.tup [.str (ofC [112, 105, 112, 101]), .lst [uNode [] [[.held []]], uNode xs (first :: more)]], res xs first)]) (n := 23) (B := B) (by intro c hc; rw [List.mem_singleton] at hc; subst hc; exact g) (by simp)
    simpa using this
def badOf (pick : Nat) (xs : List (List Nat)) (told : List Nat) (x : Ext) : Bool := decide (1 < pick) && ((xs.isEmpty && (x.ps.isEmpty && decide (told ∈ keyL))) || begS told)
theorem res_bad {pick : Nat} {xs : List (List Nat)} {told : List Nat} {x : Ext} (h : ToldOk told) : res xs (firstOf pick told x) = !badOf pick xs told x := by
  unfold firstOf badOf
  by_cases h0 : pick = 0
  · subst h0; rfl
  · rw [if_neg h0]
    by_cases h1 : pick = 1
    · subst h1; rfl
    · rw [if_neg h1, res_bare, key_same h.1, decide_eq_true (show 1 < pick by omega), Bool.true_and]
end LawW
namespace LawW
open PySem L2 QB
def uSet (l : List Nat) : U := .tup [.str (ofC l), .lst []]
theorem ext_at {v : Int} (v0 : 0 ≤ v) (v1 : v < 4) : ∃ x : Ext, atI [U.lst [], .lst [], .lst [.tup [.str (ofC [104, 101, 108, 100]), .str (ofC [])]], .lst [.tup [.str (ofC [110, 97, 109, 101]), .str (ofC [120]), .tup []]]] v = some (.lst (x.ps.map uP)) := by
  have : v = 0 ∨ v = 1 ∨ v = 2 ∨ v = 3 := by omega
  rcases this with rfl | rfl | rfl | rfl
  · exact ⟨.none, rfl⟩
  · exact ⟨.none, rfl⟩
  · exact ⟨.held, rfl⟩
  · exact ⟨.nm, rfl⟩
theorem Ext.len (x : Ext) : x.ps.length ≤ 1 := by cases x <;> simp [Ext.ps]
theorem plain (ns : List Int) (hns : ns.length ≤ 63) : ∃ B', G_law [.scr ns] [] = .ok (.bl true) B' := by
  have key : ∃ u B', G_law [.scr ns] [] = .ok u B' ∧ u = .bl true := by
    obtain ⟨C, i, j, se, sd, _, _⟩ := state_ok (B := []) hns
    rw [List.nil_append] at se sd
    have se' : G__law_state [.scr ns] [] = .ok (.box i) C := se
    simp only [G_law]
    refine run_p rfl ?_
    simp only [b_law, List.map_cons, List.map_nil, List.length_cons, List.length_nil, Nat.reduceAdd, Nat.reduceSub, List.replicate_succ, List.replicate_zero, List.cons_append, List.nil_append, Nat.zero_add, Nat.sub_self, List.append_nil]
    refine okP_seqL fun LQ hLQ => ?_
    simp [se']
    refine hLQ _ _ _ (then_nx ?_)
    clear hLQ LQ
    refine okP_seqT ?_
    have i4 : I62 4 = true := i62 (by omega) (by omega)
    refine okP_forM nat (xs := List.range 4) (E1 := [.val (.scr ns), .val (.box i), .un, .un, .un, .un, .un, .un, .un, .un, .un, .un, .un]) (B1 := C) (by simp [i4, intsU_map, nat])
      (fun q E B' => ∃ s2 s3 s4 s5 s6 s7 s8 s9 s10 s11 : Sl, E = [.val (.scr ns), .val (.box i), s2, s3, s4, s5, s6, s7, s8, s9, s10, s11, .un] ∧ Free s2 ∧ Draw B' i j 14 34 (1000 * q.length))
      ⟨.un, .un, .un, .un, .un, .un, .un, .un, .un, .un, rfl, free_un, sd.le (by simp)⟩ ?_ ?_
    · rintro k q E B' ⟨s2, s3, s4, s5, s6, s7, s8, s9, s10, s11, rfl, f2, pu⟩
      rw [List.length_cons] at pu
      refine BdIs_of (E := [.val (.scr ns), .val (.box i), .val (nat k), s3, s4, s5, s6, s7, s8, s9, s10, s11, .un]) (by rcases f2 with rfl | ⟨_, rfl⟩ <;> simp) (body_go ?_)
      simp only [lp_law_0]
      obtain ⟨v, B1, v0, v1, e1, p1⟩ := draw1 4 (pu.le (by omega : 1000 * q.length + 999 + 1 ≤ _))
      have hm : ∃ m : Nat, m ≤ 2 ∧ atI [U.int 0, .int 0, .int 1, .int 2] v = some (.int (m : Int)) := by
        have : v = 0 ∨ v = 1 ∨ v = 2 ∨ v = 3 := by omega
        rcases this with rfl | rfl | rfl | rfl
        · exact ⟨0, by omega, rfl⟩
        · exact ⟨0, by omega, rfl⟩
        · exact ⟨1, by omega, rfl⟩
        · exact ⟨2, by omega, rfl⟩
      obtain ⟨m, hm, hx⟩ := hm
      have i1 : I62 (m : Int) = true := i62 (by omega) (by omega)
      obtain ⟨xs, B2, e2, hl2, hx2, p2⟩ := lcDraw nat uSet (bd := bdN 12) (f := (mTup (mCons (mCall G__law_name (mCons (mVar 1) (mNil))) (mCons (mLst (mNil)) (mNil))))) (ks := [12]) (xs := List.range m) (E := [.val (.scr ns), .val (.box i), .val (nat k), s3, s4, s5, s6, s7, s8, s9, s10, s11, .un]) (B := B1) (fi := (mRange1 (mCons (m2 gIx (mLst (mCons (mC (.int 0)) (mCons (mC (.int 0)) (mCons (mC (.int 1)) (mCons (mC (.int 2)) (mNil)))))) (mCall G__law_draw (mCons (mVar 1) (mCons (mC (.int 4)) (mNil))))) (mNil)))) (B1 := B')
        (by simp [e1, hx, i1, intsU_map, nat]) (by simp) (by simp) (by simp; omega) (fun k acc B => (∀ l ∈ acc, NmOk l) ∧ Draw B i j 14 34 (1000 * q.length + 600 + 110 * k)) ⟨by simp, p1.le (by simp; omega)⟩
        (fun y k' acc B _ _ hI => by
          obtain ⟨ho, pu⟩ := hI
          obtain ⟨u, B4, e2, ⟨l, rfl, l1, l2⟩, p2⟩ := law_name_ok (pu.le (by omega : 1000 * q.length + 600 + 110 * k' + 102 ≤ _))
          refine BdIs_of (E := [.val (.scr ns), .val (.box i), .val (nat k), s3, s4, s5, s6, s7, s8, s9, s10, s11, .val (nat y)]) (by simp) ⟨by simp, .w (uSet l), l, B4, by simp [e2, uSet], rfl, ?_, p2⟩
          intro z hz
          rcases List.mem_append.mp hz with h | h
          · exact ho z h
          · rw [List.mem_singleton] at h; subst h; exact ⟨l1, by omega⟩)
      simp at hl2
      have lce : lc_law_0 G__law_draw G__law_name [.val (.scr ns), .val (.box i), .val (nat k), s3, s4, s5, s6, s7, s8, s9, s10, s11, .un] B' = .ok (.fr (.lst (xs.map uSet))) [.val (.scr ns), .val (.box i), .val (nat k), s3, s4, s5, s6, s7, s8, s9, s10, s11, .un] B2 := e2
      refine okP_seqL fun LQ hLQ => ?_
      simp [lce]
      refine hLQ _ _ _ (then_nx ?_)
      clear hLQ LQ
      obtain ⟨u3, B3, e3, ⟨told, rfl, ht⟩, p3⟩ := law_drawn_ok (p2.le (by omega : 1000 * q.length + 490 + 110 ≤ _))
      refine okP_seqL fun LQ hLQ => ?_
      simp [e3]
      refine hLQ _ _ _ (then_nx ?_)
      clear hLQ LQ
      refine okP_seqL fun LQ hLQ => ?_
      simp
      refine hLQ _ _ _ (then_nx ?_)
      clear hLQ LQ
      obtain ⟨w, B4, w0, w1, e4, p4⟩ := draw1 4 (p3.le (by omega : 1000 * q.length + 480 + 1 ≤ _))
      obtain ⟨x, hx4⟩ := ext_at w0 w1
      have xl := x.len
      have la : 1 + x.ps.length ≤ 16777216 := by omega
      refine okP_seqL fun LQ hLQ => ?_
      simp [e4, hx4, la]
      refine hLQ _ _ _ (then_nx ?_)
      clear hLQ LQ
      obtain ⟨pk, B5, pk0, pk1, e5, p5⟩ := draw1 6 (p4.le (by omega : 1000 * q.length + 470 + 1 ≤ _))
      refine okP_seqL fun LQ hLQ => ?_
      simp [e5]
      refine hLQ _ _ _ (then_nx ?_)
      clear hLQ LQ
      have la2 : 1 + (x.ps.length + 1) ≤ 16777216 := by omega
      have mid : ∀ (rest : Sm) {Q : Fl → En → Bx → Prop}, OkP (rest [.val (.scr ns), .val (.box i), .val (nat k), .val (.lst (xs.map uSet)), .val (.str (ofC told)), .val (.lst ((firstOf pk.toNat told x).map uP)), .val (.int pk), s7, s8, s9, s10, s11, .un] B5) Q →
          OkP (sSeq (sIf (toT (m2 gEq (mVar 6) (mC (.int 0)))) (sSet 5 (m2 gAdd (mLst (mCons (mTup (mCons (mC (.str "held")) (mCons (mVar 4) (mNil)))) (mNil))) (mVar 5))) (sNext)) (sSeq (sIf (toT (m2 gEq (mVar 6) (mC (.int 1)))) (sSet 5 (mLst (mCons (mTup (mCons (mC (.str "wide")) (mCons (mLst (mNil)) (mNil)))) (mCons (mTup (mCons (mC (.str "bare")) (mCons (mVar 4) (mNil)))) (mNil))))) (sNext)) rest) [.val (.scr ns), .val (.box i), .val (nat k), .val (.lst (xs.map uSet)), .val (.str (ofC told)), .val (.lst (.tup [.str (ofC [98, 97, 114, 101]), .str (ofC told)] :: x.ps.map uP)), .val (.int pk), s7, s8, s9, s10, s11, .un] B5) Q := by
        intro rest Q h
        have : pk = 0 ∨ pk = 1 ∨ (¬ pk = 0 ∧ ¬ pk = 1) := by omega
        rcases this with rfl | rfl | ⟨n0, n1⟩
        · refine okP_seqL fun LQ hLQ => ?_
          simp [la2]
          refine hLQ _ _ _ (then_nx ?_)
          clear hLQ LQ
          refine okP_seqL fun LQ hLQ => ?_
          simp
          refine hLQ _ _ _ (then_nx ?_)
          clear hLQ LQ
          simpa [firstOf, uP] using h
        · refine okP_seqL fun LQ hLQ => ?_
          simp
          refine hLQ _ _ _ (then_nx ?_)
          clear hLQ LQ
          refine okP_seqL fun LQ hLQ => ?_
          simp
          refine hLQ _ _ _ (then_nx ?_)
          clear hLQ LQ
          simpa [firstOf, uP] using h
        · have m0 : ¬ pk.toNat = 0 := by omega
          have m1 : ¬ pk.toNat = 1 := by omega
          have n0' : (pk == 0) = false := by simpa using n0
          have n1' : (pk == 1) = false := by simpa using n1
          rw [firstOf, if_neg m0, if_neg m1] at h
          refine okP_seqL fun LQ hLQ => ?_
          simp [n0']
          refine hLQ _ _ _ (then_nx ?_)
          clear hLQ LQ
          refine okP_seqL fun LQ hLQ => ?_
          simp [n1']
          refine hLQ _ _ _ (then_nx ?_)
          clear hLQ LQ
          simpa [uP] using h
      refine mid _ ?_
      have wf1 := wd_first ht pk.toNat x
      have flen : ((firstOf pk.toNat told x).length : Int) = 1 ∧ 1 < pk.toNat ↔ x.ps.isEmpty = true ∧ 1 < pk.toNat := by
        constructor
        · rintro ⟨h1, h2⟩
          rw [firstOf, if_neg (by omega), if_neg (by omega)] at h1
          simp at h1
          exact ⟨List.isEmpty_iff.mpr (List.eq_nil_of_length_eq_zero (by omega)), h2⟩
        · rintro ⟨h1, h2⟩
          rw [firstOf, if_neg (by omega), if_neg (by omega)]
          simp at h1
          simp [h1, h2]
      generalize hf : firstOf pk.toNat told x = first at *
      obtain ⟨u6, B6, e6, ⟨told2, rfl, ht2⟩, p6⟩ := law_drawn_ok (p5.le (by omega : 1000 * q.length + 300 + 110 ≤ _))
      refine okP_seqL fun LQ hLQ => ?_
      simp [e6]
      refine hLQ _ _ _ (then_nx ?_)
      clear hLQ LQ
      have qs := eqU_nil (n := 3) (by decide) (flt_sets hx2)
      have qs2 : eqU (.lst (xs.map uSet)) (.lst []) = some xs.isEmpty := by rw [← List.isEmpty_map (f := uSet)]; exact qs
      have lk := law_key_ok told B6
      have htl : told.length ≤ 16777216 := by have := ht.1.2; omega
      have pt := part_eq (l := told) (c := 61) htl
      have ln := law_is_name_ok (told.takeWhile (· != 61)) (by have := tw_len (· != 61) told; have := ht.1.2; omega) B6
      generalize hsp : sepOf 61 told = sp at pt
      generalize hpo : (told.dropWhile (· != 61)).drop 1 = po at pt
      have two : ∀ (rest : Sm) {Q : Fl → En → Bx → Prop}, OkP (rest [.val (.scr ns), .val (.box i), .val (nat k), .val (.lst (xs.map uSet)), .val (.str (ofC told)), .val (.lst (first.map uP)), .val (.int pk), .val (.lst [.tup [.str (ofC [98, 97, 114, 101]), .str (ofC told2)]]), .val (.bl (badOf pk.toNat xs told x)), s9, s10, s11, .un] B6) Q →
          OkP (sSeq (sSet 8 (mAndV (m2 gGt (mVar 6) (mC (.int 1))) (mAndV (m2 gEq (mVar 3) (mLst (mNil))) (mAndV (m2 gEq (m1 gLen (mVar 5)) (mC (.int 1))) (mCall G__law_key (mCons (mVar 4) (mNil))))))) (sSeq (sIf (mAnd (toT (m2 gGt (mVar 6) (mC (.int 1)))) (mAnd (toT (m2 (gIn false) (mC (.str "=")) (mVar 4))) (mTru (mCall G__law_is_name (mCons (m2 gIx (mM gPartition (mVar 4) (mCons (mC (.str "=")) mNil)) (mC (.int 0))) (mNil)))))) (sSet 8 (mC (.bl true))) (sNext)) rest)
            [.val (.scr ns), .val (.box i), .val (nat k), .val (.lst (xs.map uSet)), .val (.str (ofC told)), .val (.lst (first.map uP)), .val (.int pk), .val (.lst [.tup [.str (ofC [98, 97, 114, 101]), .str (ofC told2)]]), s8, s9, s10, s11, .un] B6) Q := by
        intro rest Q h
        unfold badOf begS at h
        by_cases hp : 1 < pk
        · have hp2 : 1 < pk.toNat := by omega
          have fl : ((first.length : Int) == 1) = x.ps.isEmpty := by
            rw [Bool.eq_iff_iff, beq_iff_eq]
            exact ⟨fun h => (flen.mp ⟨h, hp2⟩).1, fun h => (flen.mpr ⟨h, hp2⟩).1⟩
          simp only [decide_eq_true hp2, Bool.true_and] at h
          have s8e : ∃ b8 : Bool, b8 = (xs.isEmpty && (x.ps.isEmpty && decide (told ∈ keyL))) := ⟨_, rfl⟩
          obtain ⟨b8, hb8⟩ := s8e
          rw [← hb8] at h
          refine okP_seqT ?_
          have st : sSet 8 (mAndV (m2 gGt (mVar 6) (mC (.int 1))) (mAndV (m2 gEq (mVar 3) (mLst (mNil))) (mAndV (m2 gEq (m1 gLen (mVar 5)) (mC (.int 1))) (mCall G__law_key (mCons (mVar 4) (mNil)))))) [.val (.scr ns), .val (.box i), .val (nat k), .val (.lst (xs.map uSet)), .val (.str (ofC told)), .val (.lst (first.map uP)), .val (.int pk), .val (.lst [.tup [.str (ofC [98, 97, 114, 101]), .str (ofC told2)]]), s8, s9, s10, s11, .un] B6 =
              .ok .nx [.val (.scr ns), .val (.box i), .val (nat k), .val (.lst (xs.map uSet)), .val (.str (ofC told)), .val (.lst (first.map uP)), .val (.int pk), .val (.lst [.tup [.str (ofC [98, 97, 114, 101]), .str (ofC told2)]]), .val (.bl b8), s9, s10, s11, .un] B6 := by
            rw [hb8]
            cases hxe : xs.isEmpty <;> rw [hxe] at qs2
            · simp [hp, qs2]
            · cases hxp : x.ps.isEmpty <;> rw [hxp] at fl <;> simp [hp, qs2, fl, lk]
          rw [st, OkP_ok]
          refine then_nx ?_
          by_cases hm : 61 ∈ told
          · cases hn : isNm (told.takeWhile (· != 61))
            · rw [hn] at ln h
              rw [decide_eq_true hm, Bool.and_false, Bool.or_false] at h
              refine okP_seqL fun LQ hLQ => ?_
              simp [hp, hm, pt, ln]
              refine hLQ _ _ _ (then_nx ?_)
              clear hLQ LQ
              exact h
            · rw [hn] at ln h
              rw [decide_eq_true hm, Bool.and_true, Bool.or_true] at h
              refine okP_seqL fun LQ hLQ => ?_
              simp [hp, hm, pt, ln]
              refine hLQ _ _ _ (then_nx ?_)
              clear hLQ LQ
              exact h
          · rw [decide_eq_false hm, Bool.false_and, Bool.or_false] at h
            refine okP_seqL fun LQ hLQ => ?_
            simp [hp, hm]
            refine hLQ _ _ _ (then_nx ?_)
            clear hLQ LQ
            exact h
        · have hp2 : ¬ 1 < pk.toNat := by omega
          simp only [decide_eq_false hp2, Bool.false_and] at h
          refine okP_seqL fun LQ hLQ => ?_
          simp [hp]
          refine hLQ _ _ _ (then_nx ?_)
          clear hLQ LQ
          refine okP_seqL fun LQ hLQ => ?_
          simp [hp]
          refine hLQ _ _ _ (then_nx ?_)
          clear hLQ LQ
          exact h
      refine two _ ?_
      obtain ⟨w7, B7, w70, w71, e7, p7⟩ := draw1 2 (p6.le (by omega : 1000 * q.length + 200 + 1 ≤ _))
      obtain ⟨w8, B8, w80, w81, e8, p8⟩ := draw1 3 (p7.le (by omega : 1000 * q.length + 100 + 1 ≤ _))
      obtain ⟨more, nd, cu⟩ : ∃ more : List (List Pc), NdOk xs first more ∧ cutU [U.lst (first.map uP), .lst [.tup [.str (ofC [98, 97, 114, 101]), .str (ofC told2)]]] none (some (1 + w7)) = (first :: more).map fun w => .lst (w.map uP) := by
        have : w7 = 0 ∨ w7 = 1 := by omega
        rcases this with rfl | rfl
        · refine ⟨[], ⟨hx2, by omega, by intro w hw; rw [List.mem_singleton] at hw; subst hw; exact wf1, by simp⟩, ?_⟩
          rw [cutU_j (j := 1 + 0) (b := 1) rfl]; rfl
        · refine ⟨[[.bare told2]], ⟨hx2, by omega, ?_, by simp⟩, ?_⟩
          · intro w hw
            simp at hw
            rcases hw with rfl | rfl
            · exact wf1
            · exact wd_one ht2
          · rw [cutU_j (j := 1 + 1) (b := 2) rfl]; rfl
      obtain ⟨u, hu, hs⟩ := passed_ok nd w80 w81
      have eN : U.tup [.str (ofC [100, 111]), .lst (xs.map uSet), .lst ((first :: more).map fun w => .lst (w.map uP)), .lst []] = uNode xs (first :: more) := rfl
      have eH : U.tup [.str (ofC [100, 111]), .lst [], .lst [.lst [.tup [.str (ofC [104, 101, 108, 100]), .str (ofC [])]]], .lst []] = uNode [] [[.held []]] := rfl
      refine okP_seqT ?_
      have st : sSet 9 (mTup (mCons (mC (.str "do")) (mCons (mVar 3) (mCons (mSl (mLst (mCons (mVar 5) (mCons (mVar 7) (mNil)))) mNoPart (mPart (m2 gAdd (mC (.int 1)) (mCall G__law_draw (mCons (mVar 1) (mCons (mC (.int 2)) (mNil))))))) (mCons (mLst (mNil)) (mNil)))))) [.val (.scr ns), .val (.box i), .val (nat k), .val (.lst (xs.map uSet)), .val (.str (ofC told)), .val (.lst (first.map uP)), .val (.int pk), .val (.lst [.tup [.str (ofC [98, 97, 114, 101]), .str (ofC told2)]]), .val (.bl (badOf pk.toNat xs told x)), s9, s10, s11, .un] B6 =
          .ok .nx [.val (.scr ns), .val (.box i), .val (nat k), .val (.lst (xs.map uSet)), .val (.str (ofC told)), .val (.lst (first.map uP)), .val (.int pk), .val (.lst [.tup [.str (ofC [98, 97, 114, 101]), .str (ofC told2)]]), .val (.bl (badOf pk.toNat xs told x)), .val (uNode xs (first :: more)), s10, s11, .un] B7 := by
        rw [← eN, ← cu]
        simp [e7]
      rw [st, OkP_ok]
      refine then_nx ?_
      generalize hN : uNode xs (first :: more) = nN at *
      generalize hH : uNode [] [[.held []]] = nH at *
      refine okP_seqT ?_
      have st : sSet 10 (m2 gIx (mLst (mCons (mLst (mCons (mVar 9) (mNil))) (mCons (mLst (mCons (mTup (mCons (mC (.str "group")) (mCons (mLst (mCons (mVar 9) (mNil))) (mCons (mLst (mNil)) (mNil))))) (mNil))) (mCons (mLst (mCons (mTup (mCons (mC (.str "pipe")) (mCons (mLst (mCons (mTup (mCons (mC (.str "do")) (mCons (mLst (mNil)) (mCons (mLst (mCons (mLst (mCons (mTup (mCons (mC (.str "held")) (mCons (mC (.str "")) (mNil)))) (mNil))) (mNil))) (mCons (mLst (mNil)) (mNil)))))) (mCons (mVar 9) (mNil)))) (mNil)))) (mNil))) (mNil))))) (mCall G__law_draw (mCons (mVar 1) (mCons (mC (.int 3)) (mNil))))) [.val (.scr ns), .val (.box i), .val (nat k), .val (.lst (xs.map uSet)), .val (.str (ofC told)), .val (.lst (first.map uP)), .val (.int pk), .val (.lst [.tup [.str (ofC [98, 97, 114, 101]), .str (ofC told2)]]), .val (.bl (badOf pk.toNat xs told x)), .val nN, s10, s11, .un] B7 =
          .ok .nx [.val (.scr ns), .val (.box i), .val (nat k), .val (.lst (xs.map uSet)), .val (.str (ofC told)), .val (.lst (first.map uP)), .val (.int pk), .val (.lst [.tup [.str (ofC [98, 97, 114, 101]), .str (ofC told2)]]), .val (.bl (badOf pk.toNat xs told x)), .val nN, .val u, s11, .un] B8 := by
        simp [e8, eH, hu]
      rw [st, OkP_ok]
      refine then_nx ?_
      refine okP_seqL fun LQ hLQ => ?_
      simp [hs]
      refine hLQ _ _ _ (then_nx ?_)
      clear hLQ LQ
      have rb := res_bad (pick := pk.toNat) (xs := xs) (x := x) ht
      rw [hf] at rb
      rw [rb]
      cases hbb : badOf pk.toNat xs told x
      · refine okP_lock fun LQ hLQ => ?_
        simp
        refine hLQ _ _ _ ?_
        clear hLQ LQ
        exact loop_nx ⟨_, _, _, _, _, _, _, _, _, _, rfl, free_val, p8.le (by omega)⟩
      · refine okP_lock fun LQ hLQ => ?_
        simp
        refine hLQ _ _ _ ?_
        clear hLQ LQ
        exact loop_nx ⟨_, _, _, _, _, _, _, _, _, _, rfl, free_val, p8.le (by omega)⟩
    · rintro E B' ⟨s2, s3, s4, s5, s6, s7, s8, s9, s10, s11, rfl, f2, pu⟩
      refine then_nx ?_
      refine okP_lock fun LQ hLQ => ?_
      simp
      refine hLQ _ _ _ ?_
      clear hLQ LQ
      exact ret_p rfl
  obtain ⟨u, B', e, rfl⟩ := key
  exact ⟨B', e⟩
end LawW
open PySem PySem.W PyProof.Rows
set_option maxRecDepth 100000 in
set_option maxHeartbeats 0 in
theorem PySem.Challenge.cw_quotedback_k02_first_words_holds : PySem.Challenge.rw_quotedback_k02_first_words.Holds := by
  w_on; o_law; k_head; (case hw => w_witness2)
  k_fill
  refine LawW.walk LawW.plain (l := PySem.Challenge.rw_quotedback_k02_first_words) rfl rfl (fun w h Y => PySem.W.kIn_of Y) ?F
  case F =>
    intro w mg fa h KX G hmg
    refine' LawW.all_mk KX G hmg ?a0 ?l0 ?c0 ?k0 ?a1 ?l1 ?c1 ?k1 ?a2 ?l2 ?c2 ?k2 ?a3 ?l3 ?c3 ?k3 ?a4 ?l4 ?c4 ?k4 ?a5 ?l5 ?c5 ?k5 ?a6 ?l6 ?c6 ?k6 ?a7 ?l7 ?c7 ?k7 ?a8 ?l8 ?c8 ?k8 ?a9 ?l9 ?c9 ?k9 ?a10 ?l10 ?c10 ?k10 ?a11 ?l11 ?c11 ?k11 ?a12 ?l12 ?c12 ?k12 ?a13 ?l13 ?c13 ?k13 ?a14 ?l14 ?c14 ?k14 ?a15 ?l15 ?c15 ?k15 ?a16 ?l16 ?c16 ?k16 ?a17 ?l17 ?c17 ?k17 ?a18 ?l18 ?c18 ?k18 ?a19 ?l19 ?c19 ?k19 ?a20 ?l20 ?c20 ?k20 ?a21 ?l21 ?c21 ?k21 ?a22 ?l22 ?c22 ?k22 ?a23 ?l23 ?c23 ?k23 ?a24 ?l24 ?c24 ?k24 ?a25 ?l25 ?c25 ?k25 ?a26 ?l26 ?c26 ?k26 ?a27 ?l27 ?c27 ?k27 ?a28 ?l28 ?c28 ?k28 ?a29 ?l29 ?c29 ?k29 ?a30 ?l30 ?c30 ?k30 ?a31 ?l31 ?c31 ?k31 ?a32 ?l32 ?c32 ?k32 ?q_KEY_WORDS ?v16 ?z_abs ?z_all ?z_bool ?z_enumerate ?z_int ?z_isinstance ?z_len ?z_list ?z_range ?z_str ?z_tuple ?q_DIGITS ?q_LETTERS ?q_NAME_SIGNS ?q_BARE ?q_SIGNS
    (case a0 => k_is)
    (case l0 => k_is)
    (case c0 => k_is)
    (case k0 => k_is)
    (case a1 => k_is)
    (case l1 => k_is)
    (case c1 => k_is)
    (case k1 => k_is)
    (case a2 => k_is)
    (case l2 => k_is)
    (case c2 => k_is)
    (case k2 => k_is)
    (case a3 => k_is)
    (case l3 => k_is)
    (case c3 => k_is)
    (case k3 => k_is)
    (case a4 => k_is)
    (case l4 => k_is)
    (case c4 => k_is)
    (case k4 => k_is)
    (case a5 => k_is)
    (case l5 => k_is)
    (case c5 => k_is)
    (case k5 => k_is)
    (case a6 => k_is)
    (case l6 => k_is)
    (case c6 => k_is)
    (case k6 => k_is)
    (case a7 => k_is)
    (case l7 => k_is)
    (case c7 => k_is)
    (case k7 => k_is)
    (case a8 => k_is)
    (case l8 => k_is)
    (case c8 => k_is)
    (case k8 => k_is)
    (case a9 => k_is)
    (case l9 => k_is)
    (case c9 => k_is)
    (case k9 => k_is)
    (case a10 => k_is)
    (case l10 => k_is)
    (case c10 => k_is)
    (case k10 => k_is)
    (case a11 => k_is)
    (case l11 => k_is)
    (case c11 => k_is)
    (case k11 => k_is)
    (case a12 => k_is)
    (case l12 => k_is)
    (case c12 => k_is)
    (case k12 => k_is)
    (case a13 => k_is)
    (case l13 => k_is)
    (case c13 => k_is)
    (case k13 => k_is)
    (case a14 => k_is)
    (case l14 => k_is)
    (case c14 => k_is)
    (case k14 => k_is)
    (case a15 => k_is)
    (case l15 => k_is)
    (case c15 => k_is)
    (case k15 => k_is)
    (case a16 => k_is)
    (case l16 => k_is)
    (case c16 => k_is)
    (case k16 => k_is)
    (case a17 => k_is)
    (case l17 => k_is)
    (case c17 => k_is)
    (case k17 => k_is)
    (case a18 => k_is)
    (case l18 => k_is)
    (case c18 => k_is)
    (case k18 => k_is)
    (case a19 => k_is)
    (case l19 => k_is)
    (case c19 => k_is)
    (case k19 => k_is)
    (case a20 => k_is)
    (case l20 => k_is)
    (case c20 => k_is)
    (case k20 => k_is)
    (case a21 => k_is)
    (case l21 => k_is)
    (case c21 => k_is)
    (case k21 => k_is)
    (case a22 => k_is)
    (case l22 => k_is)
    (case c22 => k_is)
    (case k22 => k_is)
    (case a23 => k_is)
    (case l23 => k_is)
    (case c23 => k_is)
    (case k23 => k_is)
    (case a24 => k_is)
    (case l24 => k_is)
    (case c24 => k_is)
    (case k24 => k_is)
    (case a25 => k_is)
    (case l25 => k_is)
    (case c25 => k_is)
    (case k25 => k_is)
    (case a26 => k_is)
    (case l26 => k_is)
    (case c26 => k_is)
    (case k26 => k_is)
    (case a27 => k_is)
    (case l27 => k_is)
    (case c27 => k_is)
    (case k27 => k_is)
    (case a28 => k_is)
    (case l28 => k_is)
    (case c28 => k_is)
    (case k28 => k_is)
    (case a29 => k_is)
    (case l29 => k_is)
    (case c29 => k_is)
    (case k29 => k_is)
    (case a30 => k_is)
    (case l30 => k_is)
    (case c30 => k_is)
    (case k30 => k_is)
    (case a31 => k_is)
    (case l31 => k_is)
    (case c31 => k_is)
    (case k31 => k_is)
    (case a32 => k_is)
    (case l32 => k_is)
    (case c32 => k_is)
    (case k32 => k_is)
    (case q_KEY_WORDS => k_is)
    (case v16 => k_is)
    (case z_abs => k_is)
    (case z_all => k_is)
    (case z_bool => k_is)
    (case z_enumerate => k_is)
    (case z_int => k_is)
    (case z_isinstance => k_is)
    (case z_len => k_is)
    (case z_list => k_is)
    (case z_range => k_is)
    (case z_str => k_is)
    (case z_tuple => k_is)
    (case q_DIGITS => k_is)
    (case q_LETTERS => k_is)
    (case q_NAME_SIGNS => k_is)
    (case q_BARE => k_is)
    (case q_SIGNS => k_is)
#print axioms PySem.Challenge.cw_quotedback_k02_first_words_holds
