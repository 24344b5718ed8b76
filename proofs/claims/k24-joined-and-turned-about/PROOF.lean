import PyProof.Rows.All
import Wide.All
import OpenK.AllK
import Wide.FinOn
import HandS.ForMost
import HandS.Walk
import HandS.Wide
import HandS.IsInst
import HandS.Style
import HandS.StrMore
import HandS.TupAny
import HandS.TupLe
import HandS.Flow
import HandS.Iter
import KE.GoesEnumKw
import HandS.SortKw
import HandS.SetFor
import HandS.Strs
import HandS.SortInts
import PySem.Challenge.RW_quotedback_k24_whole_joined_and_turned_a
set_option Elab.async false
set_option linter.all false
set_option maxRecDepth 100000
set_option maxHeartbeats 4000000
/-! QbA: values as trees, boxes, own slots; what stands in the abstract heap for them. -/
namespace QB
open PySem L2

/-- a value: a tree (never changed any more), or a box (a shared thing that may change) -/
inductive U where
  | non | bl (b : Bool) | int (i : Int) | str (x : Str)
  | lst (xs : List U) | tup (xs : List U) | dct (ks : List Key) (vs : List U) | box (i : Nat)
  /-- the script itself: read, never written -/
  | scr (ns : List Int)
  deriving Inhabited
/-- what stands in a box, in a slot of one's own -/
inductive Cell where
  | dead | lst (xs : List U) | dct (ks : List Key) (vs : List U)
def Cell.live : Cell → Bool
  | .dead => false
  | _ => true
def Cell.toU : Cell → U
  | .dead => .non
  | .lst xs => .lst xs
  | .dct ks vs => .dct ks vs
inductive Sl where
  | un | val (u : U) | own (c : Cell)
/-- an expression's result: a value, the slot i, a new thing that nobody else holds -/
inductive R where
  | w (u : U) | s (i : Nat) | fr (c : Cell)
structure Exn where
  cls : String
  val : U
abbrev En := List Sl
abbrev Bx := List Cell
inductive O (α : Type) where
  | ok (a : α) (E : En) (B : Bx) | ex (c : Exn) (E : En) (B : Bx) | bad
inductive Fo where
  | ok (u : U) (B : Bx) | ex (c : Exn) (B : Bx) | bad
abbrev Fn := List U → Bx → Fo

/-! ### what stands for a value -/
def KL (K : PySem.W.Frag) (a : Addr) (xs : List V) : Prop :=
  ∃ (o : Obj) (its : Array Value) (n : Nat), K.lookup a = some o ∧ o.cls = .type "list" ∧ o.dict = none ∧ o.data = .seq its n ∧ its.size ≤ sizeLine ∧ Vals xs its.toList
def KT (K : PySem.W.Frag) (a : Addr) (xs : List V) : Prop :=
  ∃ (o : Obj) (its : Array Value) (n : Nat), K.lookup a = some o ∧ o.cls = .type "tuple" ∧ o.data = .seq its n ∧ its.size ≤ sizeLine ∧ Vals xs its.toList
abbrev AS := Addr → Prop
mutual
def Rep (K : PySem.W.Frag) (H : Hp) (Lv : AS) (ρ : List Addr) : U → V → Prop
  | .non, v => v = .non
  | .bl b, v => v = .bl b
  | .int i, v => v = .int i
  | .str x, v => v = .str x
  | .lst us, v => ∃ p vs, v = .ref p ∧ (H p = some (.lst vs) ∧ ¬ Lv p) ∧ Reps K H Lv ρ us vs
  | .tup us, v => ∃ p vs, v = .ref p ∧ ((Rd H p (.tup vs) ∧ ¬ Lv p) ∨ KT K p vs) ∧ Reps K H Lv ρ us vs
  | .dct ks us, v => ∃ p kvs, v = .ref p ∧ H p = some (.dK kvs) ∧ ¬ Lv p ∧ kvs.map (·.1) = ks ∧ Reps K H Lv ρ us (kvs.map (·.2))
  | .box i, v => ∃ p, ρ[i]? = some p ∧ v = .ref p
  | .scr ns, v => ∃ p, v = .ref p ∧ ((Rd H p (.lst (ns.map V.int)) ∧ ¬ Lv p) ∨ KL K p (ns.map V.int))
def Reps (K : PySem.W.Frag) (H : Hp) (Lv : AS) (ρ : List Addr) : List U → List V → Prop
  | [], vs => vs = []
  | u :: us, vs => ∃ v r, vs = v :: r ∧ Rep K H Lv ρ u v ∧ Reps K H Lv ρ us r
end
/-- what is not live stands, and is not live -/
def Stp (H : Hp) (Lv : AS) (H' : Hp) (Lv' : AS) : Prop := ∀ q o, H q = some o → ¬ Lv q → H' q = some o ∧ ¬ Lv' q
section
variable {K : PySem.W.Frag} {H H' H2 : Hp} {Lv Lv' Lv2 : AS} {ρ ρ' : List Addr}
theorem Stp.refl : Stp H Lv H Lv := fun _ _ h n => ⟨h, n⟩
theorem Stp.trans (a : Stp H Lv H' Lv') (b : Stp H' Lv' H2 Lv2) : Stp H Lv H2 Lv2 := fun q o h n => b q o (a q o h n).1 (a q o h n).2
theorem Stp.less (h : ∀ q, Lv' q → Lv q) : Stp H Lv H Lv' := fun q _ e n => ⟨e, fun z => n (h q z)⟩
theorem Stp.rd (s : Stp H Lv H' Lv') {p : Addr} {u : HO} (r : Rd H p u) (n : ¬ Lv p) : Rd H' p u ∧ ¬ Lv' p := by
  rcases r with r | ⟨o, r⟩
  · exact ⟨.inl (s p _ r n).1, (s p _ r n).2⟩
  · exact ⟨.inr ⟨o, (s p _ r n).1⟩, (s p _ r n).2⟩
theorem px_get {i : Nat} {p : Addr} (e : ρ <+: ρ') (h : ρ[i]? = some p) : ρ'[i]? = some p := by
  obtain ⟨t, rfl⟩ := e
  rw [List.getElem?_append_left (List.getElem?_eq_some_iff.mp h).1]
  exact h
mutual
theorem Rep.mono (s : Stp H Lv H' Lv') (e : ρ <+: ρ') : ∀ (u : U) (v : V), Rep K H Lv ρ u v → Rep K H' Lv' ρ' u v
  | .non, _, h => by simpa [Rep] using h
  | .bl _, _, h => by simpa [Rep] using h
  | .int _, _, h => by simpa [Rep] using h
  | .str _, _, h => by simpa [Rep] using h
  | .lst us, v, h => by
    simp only [Rep] at h ⊢
    obtain ⟨p, vs, rfl, h1, h2⟩ := h
    exact ⟨p, vs, rfl, s p _ h1.1 h1.2, Reps.mono s e us vs h2⟩
  | .tup us, v, h => by
    simp only [Rep] at h ⊢
    obtain ⟨p, vs, rfl, h1, h2⟩ := h
    refine ⟨p, vs, rfl, ?_, Reps.mono s e us vs h2⟩
    rcases h1 with h1 | h1
    · exact .inl (s.rd h1.1 h1.2)
    · exact .inr h1
  | .dct ks us, v, h => by
    simp only [Rep] at h ⊢
    obtain ⟨p, kvs, rfl, h1, h2, h3, h4⟩ := h
    exact ⟨p, kvs, rfl, (s p _ h1 h2).1, (s p _ h1 h2).2, h3, Reps.mono s e us _ h4⟩
  | .box i, v, h => by
    simp only [Rep] at h ⊢
    obtain ⟨p, h1, h2⟩ := h
    exact ⟨p, px_get e h1, h2⟩
  | .scr ns, v, h => by
    simp only [Rep] at h ⊢
    obtain ⟨p, h1, h2⟩ := h
    refine ⟨p, h1, ?_⟩
    rcases h2 with h2 | h2
    · exact .inl (s.rd h2.1 h2.2)
    · exact .inr h2
theorem Reps.mono (s : Stp H Lv H' Lv') (e : ρ <+: ρ') : ∀ (us : List U) (vs : List V), Reps K H Lv ρ us vs → Reps K H' Lv' ρ' us vs
  | [], _, h => by simpa [Reps] using h
  | u :: us, vs, h => by
    simp only [Reps] at h ⊢
    obtain ⟨v, r, rfl, h1, h2⟩ := h
    exact ⟨v, r, rfl, Rep.mono s e u v h1, Reps.mono s e us r h2⟩
end
theorem Reps.len : ∀ {us : List U} {vs : List V}, Reps K H Lv ρ us vs → us.length = vs.length
  | [], vs, h => by simp only [Reps] at h; subst h; rfl
  | u :: us, vs, h => by
    simp only [Reps] at h
    obtain ⟨v, r, rfl, _, h2⟩ := h
    simp [Reps.len h2]
theorem Reps.get : ∀ {us : List U} {vs : List V} {i : Nat} {u : U}, Reps K H Lv ρ us vs → us[i]? = some u → ∃ v, vs[i]? = some v ∧ Rep K H Lv ρ u v
  | [], vs, i, u, h, e => by simp at e
  | u' :: us, vs, i, u, h, e => by
    simp only [Reps] at h
    obtain ⟨v, r, rfl, h1, h2⟩ := h
    cases i with
    | zero => simp at e; subst e; exact ⟨v, by simp, h1⟩
    | succ i => simpa using Reps.get h2 (by simpa using e)
theorem Reps.getV : ∀ {us : List U} {vs : List V} {i : Nat} {v : V}, Reps K H Lv ρ us vs → vs[i]? = some v → ∃ u, us[i]? = some u ∧ Rep K H Lv ρ u v
  | [], vs, i, v, h, e => by simp only [Reps] at h; subst h; simp at e
  | u' :: us, vs, i, v, h, e => by
    simp only [Reps] at h
    obtain ⟨v', r, rfl, h1, h2⟩ := h
    cases i with
    | zero => simp at e; subst e; exact ⟨u', by simp, h1⟩
    | succ i => simpa using Reps.getV h2 (by simpa using e)
theorem Reps.set : ∀ {us : List U} {vs : List V} {u : U} {v : V} (i : Nat), Reps K H Lv ρ us vs → Rep K H Lv ρ u v → Reps K H Lv ρ (us.set i u) (vs.set i v)
  | [], vs, u, v, i, h, r => by simp only [Reps] at h; subst h; simp [Reps]
  | u' :: us, vs, u, v, i, h, r => by
    simp only [Reps] at h
    obtain ⟨v', t, rfl, h1, h2⟩ := h
    cases i with
    | zero => simp only [List.set_cons_zero, Reps]; exact ⟨v, t, rfl, r, h2⟩
    | succ i => simp only [List.set_cons_succ, Reps]; exact ⟨v', _, rfl, h1, Reps.set i h2 r⟩
theorem Reps.append : ∀ {us us' : List U} {vs vs' : List V}, Reps K H Lv ρ us vs → Reps K H Lv ρ us' vs' → Reps K H Lv ρ (us ++ us') (vs ++ vs')
  | [], _, vs, _, h, r => by simp only [Reps] at h; subst h; exact r
  | u' :: us, us', vs, vs', h, r => by
    simp only [Reps] at h
    obtain ⟨v', t, rfl, h1, h2⟩ := h
    simp only [List.cons_append, Reps]
    exact ⟨v', _, rfl, h1, Reps.append h2 r⟩
theorem Reps.take : ∀ {us : List U} {vs : List V} (n : Nat), Reps K H Lv ρ us vs → Reps K H Lv ρ (us.take n) (vs.take n)
  | [], vs, n, h => by simp only [Reps] at h; subst h; simp [Reps]
  | u' :: us, vs, n, h => by
    simp only [Reps] at h
    obtain ⟨v', t, rfl, h1, h2⟩ := h
    cases n with
    | zero => simp [Reps]
    | succ n => simp only [List.take_succ_cons, Reps]; exact ⟨v', _, rfl, h1, Reps.take n h2⟩
theorem Reps.drop : ∀ {us : List U} {vs : List V} (n : Nat), Reps K H Lv ρ us vs → Reps K H Lv ρ (us.drop n) (vs.drop n)
  | [], vs, n, h => by simp only [Reps] at h; subst h; simp [Reps]
  | u' :: us, vs, n, h => by
    cases n with
    | zero => simpa using h
    | succ n =>
      simp only [Reps] at h
      obtain ⟨v', t, rfl, h1, h2⟩ := h
      simpa using Reps.drop n h2
theorem Reps.one {u : U} {v : V} (h : Rep K H Lv ρ u v) : Reps K H Lv ρ [u] [v] := by simp only [Reps]; exact ⟨v, [], rfl, h, rfl⟩
theorem Reps.nil : Reps K H Lv ρ [] [] := by simp [Reps]
theorem Reps.cons {u : U} {v : V} {us : List U} {vs : List V} (h : Rep K H Lv ρ u v) (r : Reps K H Lv ρ us vs) : Reps K H Lv ρ (u :: us) (v :: vs) := by simp only [Reps]; exact ⟨v, vs, rfl, h, r⟩
theorem Reps.reverse : ∀ {us : List U} {vs : List V}, Reps K H Lv ρ us vs → Reps K H Lv ρ us.reverse vs.reverse
  | [], vs, h => by simp only [Reps] at h; subst h; simp [Reps]
  | u' :: us, vs, h => by
    simp only [Reps] at h
    obtain ⟨v', t, rfl, h1, h2⟩ := h
    simp only [List.reverse_cons]
    exact (Reps.reverse h2).append (Reps.one h1)

/-! ### cells -/
def CellOk (K : PySem.W.Frag) (H : Hp) (Lv : AS) (ρ : List Addr) : Cell → Addr → Prop
  | .dead, _ => True
  | .lst us, p => ∃ vs, H p = some (.lst vs) ∧ Reps K H Lv ρ us vs
  | .dct ks us, p => ∃ kvs, H p = some (.dK kvs) ∧ kvs.map (·.1) = ks ∧ Reps K H Lv ρ us (kvs.map (·.2))
theorem CellOk.mono {c : Cell} {p : Addr} (s : Stp H Lv H' Lv') (e : ρ <+: ρ') (same : H' p = H p) (h : CellOk K H Lv ρ c p) : CellOk K H' Lv' ρ' c p := by
  cases c with
  | dead => trivial
  | lst us => obtain ⟨vs, h1, h2⟩ := h; exact ⟨vs, by rw [same]; exact h1, h2.mono s e⟩
  | dct ks us => obtain ⟨kvs, h1, h2, h3⟩ := h; exact ⟨kvs, by rw [same]; exact h1, h2, h3.mono s e⟩
theorem CellOk.there {c : Cell} {p : Addr} (hl : c.live = true) (h : CellOk K H Lv ρ c p) : ∃ o, H p = some o := by
  cases c with
  | dead => cases hl
  | lst us => obtain ⟨vs, h1, _⟩ := h; exact ⟨_, h1⟩
  | dct ks us => obtain ⟨vs, h1, _⟩ := h; exact ⟨_, h1⟩
/-- a live thing comes to rest -/
theorem CellOk.rep {c : Cell} {p : Addr} (hl : c.live = true) (n : ¬ Lv p) (h : CellOk K H Lv ρ c p) : Rep K H Lv ρ c.toU (.ref p) := by
  cases c with
  | dead => cases hl
  | lst us => obtain ⟨vs, h1, h2⟩ := h; simp only [Cell.toU, Rep]; exact ⟨p, vs, rfl, ⟨h1, n⟩, h2⟩
  | dct ks us => obtain ⟨kvs, h1, h2, h3⟩ := h; simp only [Cell.toU, Rep]; exact ⟨p, kvs, rfl, h1, n, h2, h3⟩
end

/-! ### the state -/
structure Fm where
  Out : AS
  H0 : Hp
  Lv0 : AS
def BLv (ρ : List Addr) (B : Bx) : AS := fun q => ∃ (i : Nat) (c : Cell), B[i]? = some c ∧ c.live = true ∧ ρ[i]? = some q
def SLv (E : En) (σ : L2.St) : AS := fun q => ∃ (i : Nat) (c : Cell), E[i]? = some (.own c) ∧ σ[i]? = some (some (.ref q))
def LvF (F : Fm) (ρ : List Addr) (E : En) (B : Bx) (σ : L2.St) : AS := fun q => F.Out q ∨ BLv ρ B q ∨ SLv E σ q
structure Rel (K : PySem.W.Frag) (F : Fm) (ρ : List Addr) (E : En) (B : Bx) (σ : L2.St) (H : Hp) : Prop where
  elen : E.length = σ.length
  blen : ρ.length = B.length
  val : ∀ (i : Nat) (u : U), E[i]? = some (.val u) → ∃ v, σ[i]? = some (some v) ∧ Rep K H (LvF F ρ E B σ) ρ u v
  own : ∀ (i : Nat) (c : Cell), E[i]? = some (.own c) → c.live = true ∧ ∃ p, σ[i]? = some (some (.ref p)) ∧ CellOk K H (LvF F ρ E B σ) ρ c p ∧ ¬ F.Out p ∧ ¬ BLv ρ B p
  oinj : ∀ (i j : Nat) (c d : Cell) (p : Addr), E[i]? = some (.own c) → E[j]? = some (.own d) → σ[i]? = some (some (.ref p)) → σ[j]? = some (some (.ref p)) → i = j
  box : ∀ (i : Nat) (c : Cell) (p : Addr), B[i]? = some c → c.live = true → ρ[i]? = some p → CellOk K H (LvF F ρ E B σ) ρ c p ∧ ¬ F.Out p
  binj : ∀ (i j : Nat) (c d : Cell) (p : Addr), B[i]? = some c → c.live = true → B[j]? = some d → d.live = true → ρ[i]? = some p → ρ[j]? = some p → i = j
  out : ∀ q, F.Out q → H q = F.H0 q ∧ ∃ o, F.H0 q = some o
  old : Stp F.H0 F.Lv0 H (LvF F ρ E B σ)
  grow : ∀ q o, F.H0 q = some o → ∃ o', H q = some o'
def Fm.add (F : Fm) (p : Addr) (o : Option HO) : Fm := ⟨fun q => F.Out q ∨ q = p, fun q => if q = p then o else F.H0 q, fun q => F.Lv0 q ∨ q = p⟩
/-- p is new to F -/
structure New (F : Fm) (p : Addr) : Prop where
  out : ¬ F.Out p
  h0 : F.H0 p = none
section
variable {K : PySem.W.Frag} {F : Fm} {ρ ρ' : List Addr} {E E' : En} {B B' : Bx} {σ : L2.St} {H H' : Hp} {p : Addr} {o : Option HO}
theorem Rel.lv_there (r : Rel K F ρ E B σ H) : ∀ q, LvF F ρ E B σ q → ∃ o, H q = some o := by
  intro q h
  rcases h with h | ⟨i, c, h1, h2, h3⟩ | ⟨i, c, h1, h2⟩
  · obtain ⟨e, o, ho⟩ := r.out q h
    exact ⟨o, by rw [e]; exact ho⟩
  · exact (r.box i c q h1 h2 h3).1.there h2
  · obtain ⟨hl, p, h3, h4, _⟩ := r.own i c h1
    rw [h3] at h2
    have e : p = q := by simpa using h2
    subst e
    exact h4.there hl
/-- the heap grew -/
theorem grow_stp (r : Rel K F ρ E B σ H) (g : ∀ q o, H q = some o → H' q = some o) : Stp H (LvF F ρ E B σ) H' (LvF F ρ E B σ) := fun q o h n => ⟨g q o h, n⟩
theorem Rel.growH (r : Rel K F ρ E B σ H) (g : ∀ q o, H q = some o → H' q = some o) : Rel K F ρ E B σ H' := by
  have s := grow_stp r g
  have px : ρ <+: ρ := List.prefix_refl _
  have eqv : ∀ q, LvF F ρ E B σ q → H' q = H q := fun q h => by
    obtain ⟨o, ho⟩ := r.lv_there q h
    rw [ho, g q o ho]
  refine ⟨r.elen, r.blen, fun i u h => ?_, fun i c h => ?_, r.oinj, fun i c q h1 h2 h3 => ?_, r.binj, fun q h => ?_, r.old.trans s, fun q o h => ?_⟩
  · obtain ⟨v, h1, h2⟩ := r.val i u h
    exact ⟨v, h1, h2.mono s px⟩
  · obtain ⟨h1, q, h2, h3, h4⟩ := r.own i c h
    exact ⟨h1, q, h2, h3.mono s px (eqv q (.inr (.inr ⟨i, c, h, h2⟩))), h4⟩
  · obtain ⟨h4, h5⟩ := r.box i c q h1 h2 h3
    exact ⟨h4.mono s px (eqv q (.inr (.inl ⟨i, c, h1, h2, h3⟩))), h5⟩
  · obtain ⟨h1, o, h2⟩ := r.out q h
    exact ⟨by rw [eqv q (.inl h)]; exact h1, o, h2⟩
  · obtain ⟨o', h1⟩ := r.grow q o h
    exact ⟨o', g q o' h1⟩
/-- the live set is changed, what is live stands as it is -/
theorem Rel.lv {F' : Fm} (r : Rel K F ρ E B σ H) (hl : ∀ q o, H q = some o → ¬ LvF F ρ E B σ q → ¬ LvF F' ρ E B σ q)
    (ho : ∀ q, F'.Out q → H q = F'.H0 q ∧ ∃ o, F'.H0 q = some o) (hb : ∀ q, BLv ρ B q → ¬ F'.Out q) (hs : ∀ q, SLv E σ q → ¬ F'.Out q) (old : Stp F'.H0 F'.Lv0 H (LvF F' ρ E B σ)) (grow : ∀ q o, F'.H0 q = some o → ∃ o', H q = some o') : Rel K F' ρ E B σ H := by
  have s : Stp H (LvF F ρ E B σ) H (LvF F' ρ E B σ) := fun q o h n => ⟨h, hl q o h n⟩
  have px : ρ <+: ρ := List.prefix_refl _
  refine ⟨r.elen, r.blen, fun i u h => ?_, fun i c h => ?_, r.oinj, fun i c q h1 h2 h3 => ?_, r.binj, ho, old, grow⟩
  · obtain ⟨v, h1, h2⟩ := r.val i u h
    exact ⟨v, h1, h2.mono s px⟩
  · obtain ⟨h1, q, h2, h3, h4, h5⟩ := r.own i c h
    exact ⟨h1, q, h2, h3.mono s px rfl, hs q ⟨i, c, h, h2⟩, h5⟩
  · obtain ⟨h4, h5⟩ := r.box i c q h1 h2 h3
    exact ⟨h4.mono s px rfl, hb q ⟨i, c, h1, h2, h3⟩⟩
theorem LvF.add_iff {q : Addr} : LvF (F.add p o) ρ E B σ q ↔ LvF F ρ E B σ q ∨ q = p := by
  unfold LvF Fm.add
  constructor
  · rintro ((h | h) | h | h)
    · exact .inl (.inl h)
    · exact .inr h
    · exact .inl (.inr (.inl h))
    · exact .inl (.inr (.inr h))
  · rintro ((h | h | h) | h)
    · exact .inl (.inl h)
    · exact .inr (.inl h)
    · exact .inr (.inr h)
    · exact .inl (.inr h)
/-- the new thing at p is forgotten: it rests -/
theorem Rel.drop (r : Rel K (F.add p o) ρ E B σ H) (n : New F p) : Rel K F ρ E B σ H := by
  refine r.lv (fun q u h z y => z (LvF.add_iff.mpr (.inl y))) (fun q h => ?_) (fun q ⟨i, c, h1, h2, h3⟩ z => (r.box i c q h1 h2 h3).2 (.inl z)) (fun q ⟨i, c, h1, h2⟩ z => ?_) (fun q u h z => ?_) (fun q u h => ?_)
  · have e := r.out q (.inl h)
    have ne : q ≠ p := fun z => n.out (z ▸ h)
    simpa [Fm.add, ne] using e
  · obtain ⟨_, p', h3, _, h4, _⟩ := r.own i c h1
    rw [h3] at h2
    have e : p' = q := by simpa using h2
    subst e
    exact h4 (.inl z)
  · have ne : q ≠ p := fun y => by rw [y, n.h0] at h; cases h
    have := r.old q u (by simp [Fm.add, ne, h]) (fun y => y.elim z ne)
    exact ⟨this.1, fun y => this.2 (LvF.add_iff.mpr (.inl y))⟩
  · have ne : q ≠ p := fun y => by rw [y, n.h0] at h; cases h
    exact r.grow q u (by simp [Fm.add, ne, h])
theorem Rel.notLv (r : Rel K (F.add p o) ρ E B σ H) (n : New F p) : ¬ LvF F ρ E B σ p := by
  rintro (h | ⟨i, c, h1, h2, h3⟩ | ⟨i, c, h1, h2⟩)
  · exact n.out h
  · exact (r.box i c p h1 h2 h3).2 (.inr rfl)
  · obtain ⟨_, p', h3, _, h4, _⟩ := r.own i c h1
    rw [h3] at h2
    have e : p' = p := by simpa using h2
    subst e
    exact h4 (.inr rfl)
theorem Rel.new (r : Rel K F ρ E B σ H) (hp : H p = none) : New F p := by
  refine ⟨fun z => ?_, ?_⟩
  · obtain ⟨e, o, h⟩ := r.out p z
    rw [e, h] at hp; cases hp
  · cases h : F.H0 p with
    | none => rfl
    | some o =>
      obtain ⟨o', h'⟩ := r.grow p o h
      rw [h'] at hp; cases hp
/-- a new thing is laid at p -/
theorem Rel.alloc {ob : HO} (r : Rel K F ρ E B σ H) (hp : H p = none) : Rel K (F.add p (some ob)) ρ E B σ (upd H p ob) := by
  have g : ∀ q o, H q = some o → (upd H p ob) q = some o := fun q o h => by rw [upd_ne (ne_of_none h hp)]; exact h
  have r' := r.growH g
  have nl : ¬ LvF F ρ E B σ p := fun z => by obtain ⟨o, h⟩ := r.lv_there p z; rw [hp] at h; cases h
  have nw := r.new hp
  have key : ∀ q, LvF F ρ E B σ q → q ≠ p := fun q h e => nl (e ▸ h)
  have s : ∀ q o, H q = some o → ¬ LvF F ρ E B σ q → ¬ LvF (F.add p (some ob)) ρ E B σ q := fun q o h n z => by
    rcases LvF.add_iff.mp z with z | z
    · exact n z
    · subst z; rw [hp] at h; cases h
  have stp : Stp H (LvF F ρ E B σ) (upd H p ob) (LvF (F.add p (some ob)) ρ E B σ) := fun q o h n => ⟨g q o h, s q o h n⟩
  have px : ρ <+: ρ := List.prefix_refl _
  have same : ∀ q, LvF F ρ E B σ q → (upd H p ob) q = H q := fun q h => upd_ne (key q h)
  refine ⟨r.elen, r.blen, fun i u h => ?_, fun i c h => ?_, r.oinj, fun i c q h1 h2 h3 => ?_, r.binj, fun q h => ?_, fun q u h z => ?_, fun q u h => ?_⟩
  · obtain ⟨v, h1, h2⟩ := r.val i u h
    exact ⟨v, h1, h2.mono stp px⟩
  · obtain ⟨h1, q, h2, h3, h4, h5⟩ := r.own i c h
    have lq : LvF F ρ E B σ q := .inr (.inr ⟨i, c, h, h2⟩)
    exact ⟨h1, q, h2, h3.mono stp px (same q lq), fun z => z.elim h4 (key q lq), h5⟩
  · obtain ⟨h4, h5⟩ := r.box i c q h1 h2 h3
    have lq : LvF F ρ E B σ q := .inr (.inl ⟨i, c, h1, h2, h3⟩)
    exact ⟨h4.mono stp px (same q lq), fun z => z.elim h5 (key q lq)⟩
  · rcases h with h | h
    · have ne : q ≠ p := fun z => nw.out (z ▸ h)
      obtain ⟨e, o, ho⟩ := r.out q h
      refine ⟨?_, o, by simp [Fm.add, ne, ho]⟩
      rw [upd_ne ne, e]; simp [Fm.add, ne]
    · subst h
      exact ⟨by rw [upd_same]; simp [Fm.add], ob, by simp [Fm.add]⟩
  · have ne : q ≠ p := fun y => z (.inr y)
    have h' : F.H0 q = some u := by simpa [Fm.add, ne] using h
    obtain ⟨h1, h2⟩ := r.old q u h' (fun y => z (.inl y))
    exact stp q u h1 h2
  · by_cases e : q = p
    · subst e; exact ⟨ob, upd_same⟩
    · have h' : F.H0 q = some u := by simpa [Fm.add, e] using h
      obtain ⟨o', h1⟩ := r.grow q u h'
      exact ⟨o', g q o' h1⟩
end
end QB
/-! QbB: the judgements, results that come to rest, views. -/
namespace QB
open PySem L2

def Fm.addR (F : Fm) (H : Hp) : R → V → Fm
  | .fr _, .ref p => F.add p (H p)
  | _, _ => F
def IsSet (E : En) (i : Nat) : Prop := (∃ u, E[i]? = some (Sl.val u)) ∨ ∃ c, E[i]? = some (Sl.own c)
def EnLe (E E' : En) : Prop := ∀ i, IsSet E i → IsSet E' i
theorem EnLe.refl {E : En} : EnLe E E := fun _ h => h
theorem EnLe.trans {E E' E2 : En} (a : EnLe E E') (b : EnLe E' E2) : EnLe E E2 := fun i h => b i (a i h)
def RepR (K : PySem.W.Frag) (F : Fm) (H : Hp) (Lv : AS) (ρ : List Addr) (E : En) (σ : L2.St) : R → V → Prop
  | .w u, v => Rep K H Lv ρ u v
  | .s i, v => σ[i]? = some (some v) ∧ IsSet E i
  | .fr c, v => ∃ p, v = .ref p ∧ c.live = true ∧ CellOk K H Lv ρ c p ∧ New F p
structure Aft (K : PySem.W.Frag) (F : Fm) (ρ : List Addr) (E : En) (B : Bx) (σ : L2.St) (H : Hp) (r : R) (ρ' : List Addr) (E' : En) (B' : Bx) (H' : Hp) (v : V) : Prop where
  px : ρ <+: ρ'
  rel : Rel K (F.addR H' r v) ρ' E' B' σ H'
  stp : Stp H (LvF F ρ E B σ) H' (LvF (F.addR H' r v) ρ' E' B' σ)
  le : EnLe E E'
  rep : RepR K F H' (LvF (F.addR H' r v) ρ' E' B' σ) ρ' E' σ r v
structure AftT (K : PySem.W.Frag) (F : Fm) (ρ : List Addr) (E : En) (B : Bx) (σ : L2.St) (H : Hp) (ρ' : List Addr) (E' : En) (B' : Bx) (H' : Hp) : Prop where
  px : ρ <+: ρ'
  rel : Rel K F ρ' E' B' σ H'
  stp : Stp H (LvF F ρ E B σ) H' (LvF F ρ' E' B' σ)
  le : EnLe E E'
def PostE (K : PySem.W.Frag) (F : Fm) (ρ : List Addr) (E : En) (B : Bx) (σ : L2.St) (H : Hp) : O R → VK → Prop
  | .ok r E' B', Q => ∀ ρ' H' v, Aft K F ρ E B σ H r ρ' E' B' H' v → Q v H'
  | _, _ => False
def PostT (K : PySem.W.Frag) (F : Fm) (ρ : List Addr) (E : En) (B : Bx) (σ : L2.St) (H : Hp) : O Bool → (Bool → Hp → Prop) → Prop
  | .ok b E' B', Q => ∀ ρ' H', AftT K F ρ E B σ H ρ' E' B' H' → Q b H'
  | _, _ => False
abbrev Ex := En → Bx → O R
abbrev Te := En → Bx → O Bool
def SndE (X : Cx) (e : Expr) (f : Ex) : Prop := ∃ t : TE, PE X e t ∧ ∀ F ρ E B σ H Q, Rel X.K F ρ E B σ H → PostE X.K F ρ E B σ H (f E B) Q → t σ H Q
def SndT (X : Cx) (e : Expr) (f : Te) : Prop := ∃ t : TT, PT X e t ∧ ∀ F ρ E B σ H Q, Rel X.K F ρ E B σ H → PostT X.K F ρ E B σ H (f E B) Q → t σ H Q
def SndW (X : Cx) (e : Expr) (f : Te) : Prop := ∃ t : TT, PW X e t ∧ ∀ F ρ E B σ H Q, Rel X.K F ρ E B σ H → PostT X.K F ρ E B σ H (f E B) Q → t σ H Q

/-! ### coming to rest -/
def settle (r : R) (E : En) : Option (U × En) :=
  match r with
  | .w u => some (u, E)
  | .fr c => some (c.toU, E)
  | .s i => match E[i]? with
    | some (.own c) => some (c.toU, E.set i (.val c.toU))
    | some (.val u) => some (u, E)
    | _ => none
section
variable {K : PySem.W.Frag} {F : Fm} {ρ ρ' : List Addr} {E E' : En} {B B' : Bx} {σ : L2.St} {H H' : Hp} {p : Addr} {v : V} {u : U} {r : R}
/-- an own thing in slot i comes to rest -/
theorem Rel.freeze {i : Nat} {c : Cell} (r : Rel K F ρ E B σ H) (h : E[i]? = some (.own c)) :
    Rel K F ρ (E.set i (.val c.toU)) B σ H ∧ Stp H (LvF F ρ E B σ) H (LvF F ρ (E.set i (.val c.toU)) B σ) ∧ EnLe E (E.set i (.val c.toU)) ∧
      ∃ v, σ[i]? = some (some v) ∧ Rep K H (LvF F ρ (E.set i (.val c.toU)) B σ) ρ c.toU v := by
  obtain ⟨hl, p, hp, hc, ho, hb⟩ := r.own i c h
  have hi : i < E.length := (List.getElem?_eq_some_iff.mp h).1
  have px : ρ <+: ρ := List.prefix_refl _
  have ownSet : ∀ (j : Nat) (d : Cell), (E.set i (.val c.toU))[j]? = some (.own d) → E[j]? = some (.own d) ∧ j ≠ i := fun j d e => by
    by_cases hj : i = j
    · subst hj; rw [List.getElem?_set_self hi] at e; cases e
    · rw [List.getElem?_set_ne hj] at e; exact ⟨e, fun z => hj z.symm⟩
  have less : ∀ q, LvF F ρ (E.set i (.val c.toU)) B σ q → LvF F ρ E B σ q := fun q z => by
    rcases z with z | z | ⟨j, d, h1, h2⟩
    · exact .inl z
    · exact .inr (.inl z)
    · exact .inr (.inr ⟨j, d, (ownSet j d h1).1, h2⟩)
  have nl : ¬ LvF F ρ (E.set i (.val c.toU)) B σ p := by
    rintro (z | z | ⟨j, d, h1, h2⟩)
    · exact ho z
    · exact hb z
    · obtain ⟨h3, h4⟩ := ownSet j d h1
      exact h4 (r.oinj j i d c p h3 h h2 hp)
  have s : Stp H (LvF F ρ E B σ) H (LvF F ρ (E.set i (.val c.toU)) B σ) := Stp.less less
  have hrep : Rep K H (LvF F ρ (E.set i (.val c.toU)) B σ) ρ c.toU (.ref p) := (hc.mono s px rfl).rep hl nl
  refine ⟨⟨by rw [List.length_set]; exact r.elen, r.blen, fun j u e => ?_, fun j d e => ?_, fun j k d f q e1 e2 e3 e4 => ?_, fun j d q e1 e2 e3 => ?_, r.binj, r.out, r.old.trans s, r.grow⟩, s, fun j hj => ?_, .ref p, hp, hrep⟩
  · by_cases hj : i = j
    · subst hj; rw [List.getElem?_set_self hi] at e; cases e; exact ⟨_, hp, hrep⟩
    · rw [List.getElem?_set_ne hj] at e
      obtain ⟨w, h1, h2⟩ := r.val j u e
      exact ⟨w, h1, h2.mono s px⟩
  · obtain ⟨h1, h2, q, h3, h4, h5⟩ := And.intro (ownSet j d e) (r.own j d (ownSet j d e).1)
    exact ⟨h2, q, h3, h4.mono s px rfl, h5⟩
  · exact r.oinj j k d f q (ownSet j d e1).1 (ownSet k f e2).1 e3 e4
  · obtain ⟨h4, h5⟩ := r.box j d q e1 e2 e3
    exact ⟨h4.mono s px rfl, h5⟩
  · by_cases e : i = j
    · subst e; exact .inl ⟨_, List.getElem?_set_self hi⟩
    · unfold IsSet; rw [List.getElem?_set_ne e]; exact hj
theorem settle_ok {E' : En} (rl : Rel K (F.addR H r v) ρ E B σ H) (rr : RepR K F H (LvF (F.addR H r v) ρ E B σ) ρ E σ r v) (h : settle r E = some (u, E')) :
    Rel K F ρ E' B σ H ∧ Stp H (LvF (F.addR H r v) ρ E B σ) H (LvF F ρ E' B σ) ∧ EnLe E E' ∧ Rep K H (LvF F ρ E' B σ) ρ u v := by
  cases r with
  | w x =>
    simp only [settle, Option.some.injEq, Prod.mk.injEq] at h
    obtain ⟨rfl, rfl⟩ := h
    exact ⟨rl, Stp.refl, EnLe.refl, rr⟩
  | fr c =>
    simp only [settle, Option.some.injEq, Prod.mk.injEq] at h
    obtain ⟨rfl, rfl⟩ := h
    obtain ⟨p, rfl, hl, hc, hn⟩ := rr
    have r2 := Rel.drop rl hn
    have s : Stp H (LvF (F.addR H (.fr c) (.ref p)) ρ E B σ) H (LvF F ρ E B σ) := Stp.less fun q z => LvF.add_iff.mpr (.inl z)
    exact ⟨r2, s, EnLe.refl, (hc.mono s (List.prefix_refl _) rfl).rep hl (Rel.notLv rl hn)⟩
  | s i =>
    simp only [settle] at h
    split at h
    · next c hc =>
      cases h
      obtain ⟨h1, h2, h3, w, h4, h5⟩ := Rel.freeze (show Rel K F ρ E B σ H from rl) hc
      have e : w = v := by
        have := rr.1
        rw [h4] at this
        simpa using this
      subst e
      exact ⟨h1, h2, h3, h5⟩
    · next x hx =>
      cases h
      obtain ⟨w, h4, h5⟩ := (show Rel K F ρ E B σ H from rl).val i _ hx
      have e : w = v := by
        have := rr.1
        rw [h4] at this
        simpa using this
      subst e
      exact ⟨rl, Stp.refl, EnLe.refl, h5⟩
    · cases h

/-! ### views: what a value holds right now -/
def Cell.view : Cell → Option U
  | .dead => none
  | .lst xs => some (.lst xs)
  | .dct ks vs => some (.dct ks vs)
def viewU (u : U) (B : Bx) : Option U :=
  match u with
  | .box i => (B[i]?).bind Cell.view
  | u => some u
def view (r : R) (E : En) (B : Bx) : Option U :=
  match r with
  | .w u => viewU u B
  | .fr c => c.view
  | .s i => match E[i]? with
    | some (.own c) => c.view
    | some (.val u) => viewU u B
    | _ => none
/-- v holds u right now -/
def Top (K : PySem.W.Frag) (H : Hp) (Lv : AS) (ρ : List Addr) : U → V → Prop
  | .lst us, v => ∃ p vs, v = .ref p ∧ H p = some (.lst vs) ∧ Reps K H Lv ρ us vs
  | .tup us, v => ∃ p vs, v = .ref p ∧ ((Rd H p (.tup vs) ∧ ¬ Lv p) ∨ KT K p vs) ∧ Reps K H Lv ρ us vs
  | .dct ks us, v => ∃ p kvs, v = .ref p ∧ H p = some (.dK kvs) ∧ kvs.map (·.1) = ks ∧ Reps K H Lv ρ us (kvs.map (·.2))
  | .box _, _ => False
  | u, v => Rep K H Lv ρ u v
theorem sqL_of {Lv : AS} {p : Addr} {vs : List V} (h : (Rd H p (.lst vs) ∧ ¬ Lv p) ∨ KL K p vs) : SqL K H p vs := by
  rcases h with h | h
  · exact .inl h.1
  · exact .inr h
theorem sqT_of {Lv : AS} {p : Addr} {vs : List V} (h : (Rd H p (.tup vs) ∧ ¬ Lv p) ∨ KT K p vs) : SqT K H p vs := by
  rcases h with h | h
  · exact .inl h.1
  · exact .inr h
theorem Rep.top {Lv : AS} (h : Rep K H Lv ρ u v) (hb : ∀ i, u ≠ .box i) : Top K H Lv ρ u v := by
  cases u with
  | lst us =>
    simp only [Rep] at h
    obtain ⟨p, vs, e, h1, h2⟩ := h
    exact ⟨p, vs, e, h1.1, h2⟩
  | tup us =>
    simp only [Rep] at h
    obtain ⟨p, vs, e, h1, h2⟩ := h
    exact ⟨p, vs, e, h1, h2⟩
  | dct ks us =>
    simp only [Rep] at h
    obtain ⟨p, kvs, e, h1, _, h2⟩ := h
    exact ⟨p, kvs, e, h1, h2⟩
  | box i => exact absurd rfl (hb i)
  | non => exact h
  | bl _ => exact h
  | int _ => exact h
  | str _ => exact h
  | scr _ => exact h
theorem CellOk.top {Lv : AS} {c : Cell} (hc : CellOk K H Lv ρ c p) (h : c.view = some u) : Top K H Lv ρ u (.ref p) := by
  cases c with
  | dead => cases h
  | lst us => cases h; obtain ⟨vs, h1, h2⟩ := hc; exact ⟨p, vs, rfl, h1, h2⟩
  | dct ks us => cases h; obtain ⟨kvs, h1, h2, h3⟩ := hc; exact ⟨p, kvs, rfl, h1, h2, h3⟩
theorem viewU_top (rl : Rel K F ρ E B σ H) {Lv : AS} (hL : Lv = LvF F ρ E B σ) {w : U} (h : Rep K H Lv ρ w v) (e : viewU w B = some u) : Top K H Lv ρ u v := by
  subst hL
  by_cases hb : ∃ i, w = .box i
  · obtain ⟨i, rfl⟩ := hb
    simp only [viewU] at e
    simp only [Rep] at h
    obtain ⟨p, hp, rfl⟩ := h
    cases hB : B[i]? with
    | none => rw [hB] at e; cases e
    | some c =>
      rw [hB] at e
      have e' : c.view = some u := e
      have hl : c.live = true := by cases c <;> first | rfl | cases e'
      exact (rl.box i c p hB hl hp).1.top e'
  · have e' : w = u := by
      cases w <;> first | (exact absurd ⟨_, rfl⟩ hb) | (simp only [viewU, Option.some.injEq] at e; exact e)
    subst e'
    exact h.top fun i z => hb ⟨i, z⟩
theorem view_top (rl : Rel K (F.addR H r v) ρ E B σ H) (rr : RepR K F H (LvF (F.addR H r v) ρ E B σ) ρ E σ r v) (h : view r E B = some u) : Top K H (LvF (F.addR H r v) ρ E B σ) ρ u v := by
  cases r with
  | w x => exact viewU_top rl rfl rr h
  | fr c => obtain ⟨p, rfl, hl, hc, hn⟩ := rr; exact hc.top h
  | s i =>
    simp only [view] at h
    split at h
    · next c hc =>
      obtain ⟨hl, p, h1, h2, _⟩ := (show Rel K F ρ E B σ H from rl).own i c hc
      have e : v = .ref p := by
        have := rr.1
        rw [h1] at this
        simpa using this.symm
      subst e
      exact h2.top h
    · next x hx =>
      obtain ⟨w, h4, h5⟩ := (show Rel K F ρ E B σ H from rl).val i _ hx
      have e : w = v := by
        have := rr.1
        rw [h4] at this
        simpa using this
      subst e
      exact viewU_top (show Rel K F ρ E B σ H from rl) rfl h5 h
    · cases h
theorem Top.mono {Lv Lv' : AS} (s : Stp H Lv H Lv') (h : Top K H Lv ρ u v) : Top K H Lv' ρ u v := by
  have px : ρ <+: ρ := List.prefix_refl _
  cases u with
  | lst us => obtain ⟨p, vs, e, h1, h2⟩ := h; exact ⟨p, vs, e, h1, h2.mono s px⟩
  | tup us => exact (show Top K H Lv' ρ (.tup us) v by have := Rep.mono s px (.tup us) v (by simp only [Rep]; exact h); simp only [Rep] at this; exact this)
  | dct ks us => obtain ⟨p, kvs, e, h1, h2, h3⟩ := h; exact ⟨p, kvs, e, h1, h2, h3.mono s px⟩
  | box i => exact h.elim
  | non => exact h
  | bl _ => exact h
  | int _ => exact h
  | str _ => exact h
  | scr _ => exact Rep.mono s px _ _ h
/-! ### letting go of a result -/
theorem addR_lv {q : Addr} (h : LvF F ρ E B σ q) : LvF (F.addR H r v) ρ E B σ q := by
  cases r with
  | fr c =>
    cases v <;> first | exact h | exact LvF.add_iff.mpr (.inl h)
  | w _ => exact h
  | s _ => exact h
theorem Aft.letgo (a : Aft K F ρ E B σ H r ρ' E' B' H' v) : AftT K F ρ E B σ H ρ' E' B' H' := by
  have rl : Rel K F ρ' E' B' σ H' := by
    have r0 := a.rel
    cases r with
    | w _ => exact r0
    | s _ => exact r0
    | fr c =>
      have rr := a.rep
      obtain ⟨p, rfl, _, _, hn⟩ := rr
      exact Rel.drop r0 hn
  exact ⟨a.px, rl, a.stp.trans (Stp.less fun q z => addR_lv z), a.le⟩
theorem Aft.top (a : Aft K F ρ E B σ H r ρ' E' B' H' v) (h : view r E' B' = some u) : Top K H' (LvF F ρ' E' B' σ) ρ' u v :=
  (view_top a.rel a.rep h).mono (Stp.less fun q z => addR_lv z)
theorem AftT.refl (rl : Rel K F ρ E B σ H) : AftT K F ρ E B σ H ρ E B H := ⟨List.prefix_refl _, rl, Stp.refl, EnLe.refl⟩
theorem AftT.trans {ρ2 : List Addr} {E2 : En} {B2 : Bx} {H2 : Hp} (a : AftT K F ρ E B σ H ρ' E' B' H') (b : AftT K F ρ' E' B' σ H' ρ2 E2 B2 H2) : AftT K F ρ E B σ H ρ2 E2 B2 H2 :=
  ⟨a.px.trans b.px, b.rel, a.stp.trans b.stp, a.le.trans b.le⟩
theorem AftT.then {ρ2 : List Addr} {E2 : En} {B2 : Bx} {H2 : Hp} (a : AftT K F ρ E B σ H ρ' E' B' H') (b : Aft K F ρ' E' B' σ H' r ρ2 E2 B2 H2 v) : Aft K F ρ E B σ H r ρ2 E2 B2 H2 v :=
  ⟨a.px.trans b.px, b.rel, a.stp.trans b.stp, a.le.trans b.le, b.rep⟩
/-- a first result behind a second one -/
theorem Aft.carry {r1 : R} {v1 : V} {ρ1 ρ2 : List Addr} {E1 E2 : En} {B1 B2 : Bx} {H1 H2 : Hp} (a : Aft K F ρ E B σ H r1 ρ1 E1 B1 H1 v1) (b : AftT K (F.addR H1 r1 v1) ρ1 E1 B1 σ H1 ρ2 E2 B2 H2) :
    Aft K F ρ E B σ H r1 ρ2 E2 B2 H2 v1 := by
  have same : F.addR H2 r1 v1 = F.addR H1 r1 v1 := by
    cases r1 with
    | w _ => rfl
    | s _ => rfl
    | fr c =>
      obtain ⟨p, rfl, _, _, _⟩ := a.rep
      have := (b.rel.out p (.inr rfl)).1
      simp only [Fm.addR, Fm.add, if_pos] at this ⊢
      rw [this]
  refine ⟨a.px.trans b.px, by rw [same]; exact b.rel, by rw [same]; exact a.stp.trans b.stp, a.le.trans b.le, ?_⟩
  rw [same]
  have rr := a.rep
  cases r1 with
  | w x => exact Rep.mono b.stp b.px x v1 rr
  | s i => exact ⟨rr.1, b.le i rr.2⟩
  | fr c =>
    obtain ⟨p, rfl, hl, hc, hn⟩ := rr
    refine ⟨p, rfl, hl, hc.mono b.stp b.px ?_, hn⟩
    have := (b.rel.out p (.inr rfl)).1
    simpa [Fm.addR, Fm.add] using this
/-! ### results of plain operations -/
theorem Aft.val {x : U} (rl : Rel K F ρ E B σ H) (h : Rep K H (LvF F ρ E B σ) ρ x v) : Aft K F ρ E B σ H (.w x) ρ E B H v := ⟨List.prefix_refl _, rl, Stp.refl, EnLe.refl, h⟩
theorem Aft.fresh {us : List U} {vs : List V} (rl : Rel K F ρ E B σ H) (hp : H p = none) (h : Reps K H (LvF F ρ E B σ) ρ us vs) : Aft K F ρ E B σ H (.fr (.lst us)) ρ E B (upd H p (.lst vs)) (.ref p) := by
  have e : F.addR (upd H p (.lst vs)) (.fr (.lst us)) (.ref p) = F.add p (some (.lst vs)) := by simp only [Fm.addR, upd_same]
  have r2 := rl.alloc (ob := .lst vs) hp
  have nl : ∀ q o, H q = some o → ¬ LvF F ρ E B σ q → ¬ LvF (F.add p (some (.lst vs))) ρ E B σ q := fun q o h n z => by
    rcases LvF.add_iff.mp z with z | z
    · exact n z
    · subst z; rw [hp] at h; cases h
  have s : Stp H (LvF F ρ E B σ) (upd H p (.lst vs)) (LvF (F.add p (some (.lst vs))) ρ E B σ) := fun q o h n => ⟨by rw [upd_ne (ne_of_none h hp)]; exact h, nl q o h n⟩
  refine ⟨List.prefix_refl _, by rw [e]; exact r2, by rw [e]; exact s, EnLe.refl, ?_⟩
  rw [e]
  exact ⟨p, rfl, rfl, ⟨vs, upd_same, h.mono s (List.prefix_refl _)⟩, rl.new hp⟩
theorem Aft.freshD {ks : List Key} {us : List U} {kvs : List (Key × V)} (rl : Rel K F ρ E B σ H) (hp : H p = none) (hk : kvs.map (·.1) = ks) (h : Reps K H (LvF F ρ E B σ) ρ us (kvs.map (·.2))) : Aft K F ρ E B σ H (.fr (.dct ks us)) ρ E B (upd H p (.dK kvs)) (.ref p) := by
  have e : F.addR (upd H p (.dK kvs)) (.fr (.dct ks us)) (.ref p) = F.add p (some (.dK kvs)) := by simp only [Fm.addR, upd_same]
  have r2 := rl.alloc (ob := .dK kvs) hp
  have nl : ∀ q o, H q = some o → ¬ LvF F ρ E B σ q → ¬ LvF (F.add p (some (.dK kvs))) ρ E B σ q := fun q o h n z => by
    rcases LvF.add_iff.mp z with z | z
    · exact n z
    · subst z; rw [hp] at h; cases h
  have s : Stp H (LvF F ρ E B σ) (upd H p (.dK kvs)) (LvF (F.add p (some (.dK kvs))) ρ E B σ) := fun q o h n => ⟨by rw [upd_ne (ne_of_none h hp)]; exact h, nl q o h n⟩
  refine ⟨List.prefix_refl _, by rw [e]; exact r2, by rw [e]; exact s, EnLe.refl, ?_⟩
  rw [e]
  exact ⟨p, rfl, rfl, ⟨kvs, upd_same, hk, h.mono s (List.prefix_refl _)⟩, rl.new hp⟩
theorem Aft.tuple {us : List U} {vs : List V} (rl : Rel K F ρ E B σ H) (hp : H p = none) (h : Reps K H (LvF F ρ E B σ) ρ us vs) : Aft K F ρ E B σ H (.w (.tup us)) ρ E B (upd H p (.tup vs)) (.ref p) := by
  have g : ∀ q o, H q = some o → (upd H p (.tup vs)) q = some o := fun q o h => by rw [upd_ne (ne_of_none h hp)]; exact h
  have r2 := rl.growH g
  have s := grow_stp rl g
  refine ⟨List.prefix_refl _, r2, s, EnLe.refl, ?_⟩
  show Rep K _ _ _ (.tup us) _
  simp only [Rep]
  exact ⟨p, vs, rfl, .inl ⟨.inl upd_same, fun z => by obtain ⟨o, h⟩ := rl.lv_there p z; rw [hp] at h; cases h⟩, h.mono s (List.prefix_refl _)⟩
end
end QB
/-! QbC: expressions. -/
namespace QB
open PySem L2

def O.bind {α β : Type} (o : O α) (k : α → En → Bx → O β) : O β :=
  match o with
  | .ok a E B => k a E B
  | .ex c E B => .ex c E B
  | .bad => .bad
@[simp] theorem O.bind_ok {α β : Type} {a : α} {E : En} {B : Bx} {k : α → En → Bx → O β} : (O.ok a E B).bind k = k a E B := rfl
@[simp] theorem O.bind_bad {α β : Type} {k : α → En → Bx → O β} : (O.bad : O α).bind k = .bad := rfl
@[simp] theorem O.bind_ex {α β : Type} {c : Exn} {E : En} {B : Bx} {k : α → En → Bx → O β} : (O.ex c E B).bind k = .ex c E B := rfl

def mVar (i : Nat) : Ex := fun E B =>
  match E[i]? with
  | some (.val u) => .ok (.w u) E B
  | some (.own _) => .ok (.s i) E B
  | _ => .bad
def mC (u : U) : Ex := fun E B => .ok (.w u) E B
def m2 (g : U → U → Option R) (fa fb : Ex) : Ex := fun E B =>
  (fa E B).bind fun r1 E1 B1 => (fb E1 B1).bind fun r2 E2 B2 =>
    match view r1 E2 B2, view r2 E2 B2 with
    | some u1, some u2 => match g u1 u2 with
      | some r => .ok r E2 B2
      | none => .bad
    | _, _ => .bad
def m1 (g : U → Option R) (fa : Ex) : Ex := fun E B =>
  (fa E B).bind fun r1 E1 B1 =>
    match view r1 E1 B1 with
    | some u1 => match g u1 with
      | some r => .ok r E1 B1
      | none => .bad
    | none => .bad
/-- a result as a test -/
def toT (f : Ex) : Te := fun E B => (f E B).bind fun r E1 B1 =>
  match r with
  | .w (.bl b) => .ok b E1 B1
  | _ => .bad
def truU : U → Option Bool
  | .non => some false
  | .bl b => some b
  | .int i => some (i != 0)
  | .str y => if y.length ≤ 16777216 then some ((y.length : Int) != 0) else none
  | .lst us => some (!us.isEmpty)
  | .tup us => some (!us.isEmpty)
  | .dct ks _ => some (!ks.isEmpty)
  | .box _ => none
  | .scr ns => some (!ns.isEmpty)
def mTru (f : Ex) : Te := fun E B => (f E B).bind fun r E1 B1 =>
  match view r E1 B1 with
  | some u => match truU u with
    | some b => .ok b E1 B1
    | none => .bad
  | none => .bad
def mAnd (f g : Te) : Te := fun E B => (f E B).bind fun b E1 B1 => if b = true then g E1 B1 else .ok false E1 B1
def mOr (f g : Te) : Te := fun E B => (f E B).bind fun b E1 B1 => if b = true then .ok true E1 B1 else g E1 B1
def mNot (f : Te) : Te := fun E B => (f E B).bind fun b E1 B1 => .ok (!b) E1 B1
def mAndV (f g : Ex) : Ex := fun E B => (toT f E B).bind fun b E1 B1 => if b = true then g E1 B1 else .ok (.w (.bl false)) E1 B1
def mOrV (f g : Ex) : Ex := fun E B => (toT f E B).bind fun b E1 B1 => if b = true then .ok (.w (.bl true)) E1 B1 else g E1 B1
def mNotV (f : Ex) : Ex := fun E B => (toT f E B).bind fun b E1 B1 => .ok (.w (.bl (!b))) E1 B1
def mIf (t : Te) (f g : Ex) : Ex := fun E B => (t E B).bind fun b E1 B1 => if b = true then f E1 B1 else g E1 B1
/-- a new thing becomes a box -/
def mBox (f : Ex) : Ex := fun E B => (f E B).bind fun r E1 B1 =>
  match r with
  | .fr c => .ok (.w (.box B1.length)) E1 (B1 ++ [c])
  | _ => .bad

section
variable {X : Cx} {a b c e : Expr} {es : List Expr} {fa fb : Ex} {ft fu : Te} {pos p : Pos} {x : Str}

theorem AftT.thenT {K : PySem.W.Frag} {F : Fm} {ρ ρ' ρ2 : List Addr} {E E' E2 : En} {B B' B2 : Bx} {σ : L2.St} {H H' H2 : Hp} (a : AftT K F ρ E B σ H ρ' E' B' H') (b : AftT K F ρ' E' B' σ H' ρ2 E2 B2 H2) : AftT K F ρ E B σ H ρ2 E2 B2 H2 := a.trans b

theorem sndE_var (i : Nat) (hN : X.N[i]? = some x := by rfl) (hv : Vis X.env.scope x := by first | exact Or.inl rfl | exact Or.inr (Or.inl rfl) | exact Or.inr (Or.inr rfl)) (hd : (x == ("__debug__" : Str)) = false := by decide)
    (hcd : (x == ("__classdict__" : Str)) = false := by decide) : SndE X (.Name x pos) (mVar i) := by
  refine ⟨_, pe_var hN hv hd hcd, fun F ρ E B σ H Q rl h => ?_⟩
  simp only [mVar] at h
  split at h
  · next u hu =>
    obtain ⟨v, h1, h2⟩ := rl.val i u hu
    exact ⟨v, h1, h ρ H v (Aft.val rl h2)⟩
  · next c hc =>
    obtain ⟨_, q, h1, _⟩ := rl.own i c hc
    exact ⟨_, h1, h ρ H _ ⟨List.prefix_refl _, rl, Stp.refl, EnLe.refl, h1, .inr ⟨c, hc⟩⟩⟩
  · exact h.elim
theorem sndE_int {i j} : SndE X (.Constant (.int i) j pos) (mC (.int i)) := ⟨_, pe_int, fun F ρ E B σ H Q rl h => h ρ H _ (Aft.val rl (by simp [Rep]))⟩
theorem sndE_bl {i j} : SndE X (.Constant (.bool i) j pos) (mC (.bl i)) := ⟨_, pe_bl, fun F ρ E B σ H Q rl h => h ρ H _ (Aft.val rl (by simp [Rep]))⟩
theorem sndE_str {i j} : SndE X (.Constant (.str i) j pos) (mC (.str i)) := ⟨_, pe_str, fun F ρ E B σ H Q rl h => h ρ H _ (Aft.val rl (by simp [Rep]))⟩
theorem sndE_non {j} : SndE X (.Constant .none j pos) (mC .non) := ⟨_, pe_non, fun F ρ E B σ H Q rl h => h ρ H _ (Aft.val rl (by simp [Rep]))⟩
/-- a text of the module's top -/
theorem sndE_gstr {u : Value} {z : Str} (hm : X.mg x = some u) (hu : ∃ t, u = Value.str z t) (hg : Gl X x := by rfl) (hd : (x == ("__debug__" : Str)) = false := by decide) : SndE X (.Name x pos) (mC (.str z)) :=
  ⟨_, pe_glob (v := .str z) hg hm hu hd, fun F ρ E B σ H Q rl h => h ρ H _ (Aft.val rl (by simp [Rep]))⟩
/-- a thing of the module's top that stands for a tree whatever the heap is -/
theorem sndE_gtree {p : Addr} {u : U} (hm : X.mg x = some (.ref p)) (hu : ∀ H Lv ρ, Rep X.K H Lv ρ u (.ref p)) (hg : Gl X x := by rfl) (hd : (x == ("__debug__" : Str)) = false := by decide) : SndE X (.Name x pos) (mC u) :=
  ⟨_, pe_glob (v := .ref p) hg hm rfl hd, fun F ρ E B σ H Q rl h => h ρ H _ (Aft.val rl (hu _ _ _))⟩

/-! ### operators -/
def Op2S (X : Cx) (op : Value → Value → Sem Value) (g : U → U → Option R) : Prop :=
  ∃ r : R2, OpR X op r ∧ ∀ F ρ E B σ H u1 u2 v1 v2 r3 Q, Rel X.K F ρ E B σ H → Top X.K H (LvF F ρ E B σ) ρ u1 v1 → Top X.K H (LvF F ρ E B σ) ρ u2 v2 → g u1 u2 = some r3 →
    (∀ H' v, Aft X.K F ρ E B σ H r3 ρ E B H' v → Q v H') → r v1 v2 H Q
theorem Op2S.or {op : Value → Value → Sem Value} {g g' : U → U → Option R} (h : Op2S X op g) (h' : Op2S X op g') : Op2S X op (fun a b => (g a b).or (g' a b)) := by
  obtain ⟨r, h1, h2⟩ := h
  obtain ⟨r', h1', h2'⟩ := h'
  refine ⟨_, h1.or h1', fun F ρ E B σ H u1 u2 v1 v2 r3 Q rl t1 t2 e q => ?_⟩
  cases hg : g u1 u2 with
  | some y =>
    simp only [hg, Option.some_or, Option.some.injEq] at e
    subst e
    exact .inl (h2 F ρ E B σ H u1 u2 v1 v2 _ Q rl t1 t2 hg q)
  | none =>
    simp only [hg, Option.none_or] at e
    exact .inr (h2' F ρ E B σ H u1 u2 v1 v2 _ Q rl t1 t2 e q)
theorem m2_ok {f : Value → Value → Sem Value} {g : U → U → Option R} {r : R2} {ta tb : TE}
    (ho : ∀ F ρ E B σ H u1 u2 v1 v2 r3 Q, Rel X.K F ρ E B σ H → Top X.K H (LvF F ρ E B σ) ρ u1 v1 → Top X.K H (LvF F ρ E B σ) ρ u2 v2 → g u1 u2 = some r3 → (∀ H' v, Aft X.K F ρ E B σ H r3 ρ E B H' v → Q v H') → r v1 v2 H Q)
    (ha : ∀ F ρ E B σ H Q, Rel X.K F ρ E B σ H → PostE X.K F ρ E B σ H (fa E B) Q → ta σ H Q) (hb : ∀ F ρ E B σ H Q, Rel X.K F ρ E B σ H → PostE X.K F ρ E B σ H (fb E B) Q → tb σ H Q) :
    ∀ F ρ E B σ H Q, Rel X.K F ρ E B σ H → PostE X.K F ρ E B σ H (m2 g fa fb E B) Q → tOp r ta tb σ H Q := by
  intro F ρ E B σ H Q rl h
  refine ha F ρ E B σ H _ rl ?_
  simp only [m2] at h
  cases h1 : fa E B with
  | bad => rw [h1] at h; exact h
  | ex c E' B' => rw [h1] at h; exact h
  | ok r1 E1 B1 =>
    rw [h1] at h
    intro ρ1 H1 v1 A1
    refine hb _ ρ1 E1 B1 σ H1 _ A1.rel ?_
    simp only [O.bind_ok] at h
    cases h2 : fb E1 B1 with
    | bad => rw [h2] at h; exact h
    | ex c E' B' => rw [h2] at h; exact h
    | ok r2 E2 B2 =>
      rw [h2] at h
      simp only [O.bind_ok] at h
      intro ρ2 H2 v2 A2
      have A2' := A2.letgo
      have A1' := A1.carry A2'
      have T1 := A1'.letgo
      split at h
      · next u1 u2 e1 e2 =>
        split at h
        · next r3 eg =>
          have t1 := A1'.top e1
          have t2 : Top X.K H2 (LvF F ρ2 E2 B2 σ) ρ2 u2 v2 := (A2.top e2).mono (Stp.less fun q z => addR_lv z)
          exact ho F ρ2 E2 B2 σ H2 u1 u2 v1 v2 r3 Q T1.rel t1 t2 eg fun H' v A3 => h ρ2 H' v (T1.then A3)
        · exact h.elim
      · exact h.elim
theorem sndE_op {op : Operator} {g : U → U → Option R} (ho : Op2S X (binaryOp op) g) (ha : SndE X a fa) (hb : SndE X b fb) : SndE X (.BinOp a op b pos) (m2 g fa fb) := by
  obtain ⟨r, hr, ho⟩ := ho
  obtain ⟨ta, pa, ha⟩ := ha
  obtain ⟨tb, pb, hb⟩ := hb
  exact ⟨_, pe_op hr pa pb, m2_ok (f := binaryOp op) ho ha hb⟩
theorem sndE_cmp {op : CmpOp} {g : U → U → Option R} (ho : Op2S X (compareOp op) g) (ha : SndE X a fa) (hb : SndE X b fb) (hm : behindInMarks op b = false := by first | rfl | exact nomark _) : SndE X (.Compare a [op] [b] pos) (m2 g fa fb) := by
  obtain ⟨r, hr, ho⟩ := ho
  obtain ⟨ta, pa, ha⟩ := ha
  obtain ⟨tb, pb, hb⟩ := hb
  exact ⟨_, pe_cmpR hr pa pb hm, m2_ok (f := compareOp op) ho ha hb⟩
/-- a test by a value that is a truth -/
theorem toT_ok {t : TE} (h : ∀ F ρ E B σ H Q, Rel X.K F ρ E B σ H → PostE X.K F ρ E B σ H (fa E B) Q → t σ H Q) :
    ∀ F ρ E B σ H Q, Rel X.K F ρ E B σ H → PostT X.K F ρ E B σ H (toT fa E B) Q → tTest t σ H Q := by
  intro F ρ E B σ H Q rl q
  refine h F ρ E B σ H _ rl ?_
  simp only [toT] at q
  cases h1 : fa E B with
  | bad => rw [h1] at q; exact q
  | ex c E' B' => rw [h1] at q; exact q
  | ok r1 E1 B1 =>
    rw [h1] at q
    intro ρ1 H1 v1 A1
    simp only [O.bind_ok] at q
    split at q
    · next r b =>
      have rr := A1.rep
      simp only [RepR, Rep] at rr
      exact ⟨b, rr, q ρ1 H1 A1.letgo⟩
    · exact q.elim
theorem sndT_cmp {op : CmpOp} {g : U → U → Option R} (ho : Op2S X (compareOp op) g) (ha : SndE X a fa) (hb : SndE X b fb) (hm : behindInMarks op b = false := by first | rfl | exact nomark _) : SndT X (.Compare a [op] [b] pos) (toT (m2 g fa fb)) := by
  obtain ⟨r, hr, ho⟩ := ho
  obtain ⟨ta, pa, ha⟩ := ha
  obtain ⟨tb, pb, hb⟩ := hb
  exact ⟨_, pt_cmpR hr pa pb hm, toT_ok (m2_ok (f := compareOp op) ho ha hb)⟩
/-- truth of a value -/
theorem tru_top {K : PySem.W.Frag} {H : Hp} {Lv : AS} {ρ : List Addr} {u : U} {v : V} {k : Bool} (t : Top K H Lv ρ u v) (h : truU u = some k) : TruV K v H k := by
  cases u with
  | non => simp only [Top, Rep] at t; subst t; simp only [truU, Option.some.injEq] at h; exact h.symm
  | bl b => simp only [Top, Rep] at t; subst t; simp only [truU, Option.some.injEq] at h; exact h.symm
  | int i => simp only [Top, Rep] at t; subst t; simp only [truU, Option.some.injEq] at h; exact h.symm
  | str y =>
    simp only [Top, Rep] at t; subst t; simp only [truU] at h
    split at h
    · next hl => cases h; exact ⟨by rw [sizeLine_eq]; exact hl, rfl⟩
    · cases h
  | lst us =>
    obtain ⟨p, vs, rfl, h1, h2⟩ := t
    simp only [truU, Option.some.injEq] at h
    refine .inl ⟨vs, .inl (.inl h1), ?_⟩
    rw [← h]
    have := h2.len
    cases us <;> cases vs <;> simp_all
  | tup us =>
    obtain ⟨p, vs, rfl, h1, h2⟩ := t
    simp only [truU, Option.some.injEq] at h
    refine .inr (.inl ⟨vs, sqT_of h1, ?_⟩)
    rw [← h]
    have := h2.len
    cases us <;> cases vs <;> simp_all
  | dct ks us =>
    obtain ⟨p, kvs, rfl, h1, h2, h3⟩ := t
    simp only [truU, Option.some.injEq] at h
    refine .inr (.inr ⟨kvs, h1, ?_⟩)
    rw [← h, ← h2]
    cases kvs <;> simp
  | box i => exact t.elim
  | scr ns =>
    simp only [Top, Rep] at t
    obtain ⟨p, rfl, h1⟩ := t
    simp only [truU, Option.some.injEq] at h
    refine .inl ⟨_, sqL_of h1, ?_⟩
    rw [← h]
    cases ns <;> simp
theorem sndT_tru (ha : SndE X a fa) (he : ∀ whole, isTrue a X.env whole = (do let v ← whole; standAt a.pos; holding [v] (truthy v)) := by intro _; rfl) : SndT X a (mTru fa) := by
  obtain ⟨ta, pa, ha⟩ := ha
  refine ⟨_, pt_truth pa he, fun F ρ E B σ H Q rl q => ?_⟩
  refine ha F ρ E B σ H _ rl ?_
  simp only [mTru] at q
  cases h1 : fa E B with
  | bad => rw [h1] at q; exact q
  | ex c E' B' => rw [h1] at q; exact q
  | ok r1 E1 B1 =>
    rw [h1] at q
    intro ρ1 H1 v1 A1
    simp only [O.bind_ok] at q
    split at q
    · next u e =>
      split at q
      · next k ek => exact ⟨k, tru_top (A1.top e) ek, q ρ1 H1 A1.letgo⟩
      · exact q.elim
    · exact q.elim
/-! ### and, or, not -/
theorem sndT_of (h : SndW X e ft) : SndT X e ft := by
  obtain ⟨t, h1, h2⟩ := h
  exact ⟨t, h1.pt, h2⟩
theorem sndW_and1 (h : SndT X a ft) : SndW X (.BoolOp .And [a] pos) ft := by
  obtain ⟨t, h1, h2⟩ := h
  exact ⟨t, pw_and1 h1, h2⟩
theorem sndW_or1 (h : SndT X a ft) : SndW X (.BoolOp .Or [a] pos) ft := by
  obtain ⟨t, h1, h2⟩ := h
  exact ⟨t, pw_or1 h1, h2⟩
theorem sndW_and {rest : List Expr} (ha : SndT X a ft) (hb : SndW X (.BoolOp .And (b :: rest) pos) fu) : SndW X (.BoolOp .And (a :: b :: rest) pos) (mAnd ft fu) := by
  obtain ⟨t, p1, ha⟩ := ha
  obtain ⟨u, p2, hb⟩ := hb
  refine ⟨_, pw_and p1 p2, fun F ρ E B σ H Q rl q => ?_⟩
  refine ha F ρ E B σ H _ rl ?_
  simp only [mAnd] at q
  cases h1 : ft E B with
  | bad => rw [h1] at q; exact q
  | ex c E' B' => rw [h1] at q; exact q
  | ok b1 E1 B1 =>
    rw [h1] at q
    intro ρ1 H1 A1
    cases b1 with
    | true =>
      simp only [O.bind_ok, if_true] at q ⊢
      refine hb F ρ1 E1 B1 σ H1 _ A1.rel ?_
      cases h2 : fu E1 B1 with
      | bad => rw [h2] at q; exact q
      | ex c E' B' => rw [h2] at q; exact q
      | ok b2 E2 B2 => rw [h2] at q; exact fun ρ2 H2 A2 => q ρ2 H2 (A1.trans A2)
    | false =>
      simp only [O.bind_ok, Bool.false_eq_true, if_false] at q ⊢
      exact q ρ1 H1 A1
theorem sndW_or {rest : List Expr} (ha : SndT X a ft) (hb : SndW X (.BoolOp .Or (b :: rest) pos) fu) : SndW X (.BoolOp .Or (a :: b :: rest) pos) (mOr ft fu) := by
  obtain ⟨t, p1, ha⟩ := ha
  obtain ⟨u, p2, hb⟩ := hb
  refine ⟨_, pw_or p1 p2, fun F ρ E B σ H Q rl q => ?_⟩
  refine ha F ρ E B σ H _ rl ?_
  simp only [mOr] at q
  cases h1 : ft E B with
  | bad => rw [h1] at q; exact q
  | ex c E' B' => rw [h1] at q; exact q
  | ok b1 E1 B1 =>
    rw [h1] at q
    intro ρ1 H1 A1
    cases b1 with
    | false =>
      simp only [O.bind_ok, Bool.false_eq_true, if_false] at q ⊢
      refine hb F ρ1 E1 B1 σ H1 _ A1.rel ?_
      cases h2 : fu E1 B1 with
      | bad => rw [h2] at q; exact q
      | ex c E' B' => rw [h2] at q; exact q
      | ok b2 E2 B2 => rw [h2] at q; exact fun ρ2 H2 A2 => q ρ2 H2 (A1.trans A2)
    | true =>
      simp only [O.bind_ok, if_true] at q ⊢
      exact q ρ1 H1 A1
theorem sndT_not (ha : SndT X a ft) : SndT X (.UnaryOp .Not a pos) (mNot ft) := by
  obtain ⟨t, p1, ha⟩ := ha
  refine ⟨_, pt_not p1, fun F ρ E B σ H Q rl q => ?_⟩
  refine ha F ρ E B σ H _ rl ?_
  simp only [mNot] at q
  cases h1 : ft E B with
  | bad => rw [h1] at q; exact q
  | ex c E' B' => rw [h1] at q; exact q
  | ok b1 E1 B1 => rw [h1] at q; exact fun ρ1 H1 A1 => q ρ1 H1 A1
/-- .. as values -/
theorem toB_ok {t : TE} (h : ∀ F ρ E B σ H Q, Rel X.K F ρ E B σ H → PostE X.K F ρ E B σ H (fa E B) Q → t σ H Q) {F : Fm} {ρ : List Addr} {E : En} {B : Bx} {σ : L2.St} {H : Hp} (rl : Rel X.K F ρ E B σ H)
    {Q : VK} (q : match toT fa E B with | .ok b E1 B1 => ∀ ρ1 H1, AftT X.K F ρ E B σ H ρ1 E1 B1 H1 → Q (.bl b) H1 | _ => False) : t σ H Q := by
  refine h F ρ E B σ H _ rl ?_
  simp only [toT] at q
  cases h1 : fa E B with
  | bad => rw [h1] at q; exact q
  | ex c E' B' => rw [h1] at q; exact q
  | ok r1 E1 B1 =>
    rw [h1] at q
    intro ρ1 H1 v1 A1
    simp only [O.bind_ok] at q
    cases r1 with
    | w u =>
      cases u with
      | bl b =>
        have rr := A1.rep
        simp only [RepR, Rep] at rr
        rw [rr]
        exact q ρ1 H1 A1.letgo
      | _ => exact q.elim
    | _ => exact q.elim
theorem sndE_one {op} (h : SndE X a fa) : SndE X (.BoolOp op [a] pos) fa := by
  obtain ⟨t, h1, h2⟩ := h
  exact ⟨t, pe_one h1, h2⟩
theorem postE_then {K : PySem.W.Frag} {F : Fm} {ρ ρ1 : List Addr} {E E1 : En} {B B1 : Bx} {σ : L2.St} {H H1 : Hp} {Q : VK} {o : O R} (A : AftT K F ρ E B σ H ρ1 E1 B1 H1) (q : PostE K F ρ E B σ H o Q) : PostE K F ρ1 E1 B1 σ H1 o Q := by
  cases o with
  | bad => exact q
  | ex _ _ _ => exact q
  | ok r E2 B2 => exact fun ρ2 H2 v A2 => q ρ2 H2 v (A.then A2)
theorem sndE_and {rest : List Expr} (ha : SndE X a fa) (hb : SndE X (.BoolOp .And (b :: rest) pos) fb) : SndE X (.BoolOp .And (a :: b :: rest) pos) (mAndV fa fb) := by
  obtain ⟨t, p1, ha⟩ := ha
  obtain ⟨u, p2, hb⟩ := hb
  refine ⟨_, pe_and p1 p2, fun F ρ E B σ H Q rl q => ?_⟩
  refine toB_ok ha rl ?_
  simp only [mAndV] at q
  cases h1 : toT fa E B with
  | bad => rw [h1] at q; exact q
  | ex c E' B' => rw [h1] at q; exact q
  | ok b1 E1 B1 =>
    rw [h1] at q
    intro ρ1 H1 A1
    refine ⟨b1, rfl, ?_⟩
    cases b1 with
    | true =>
      simp only [O.bind_ok, if_true] at q ⊢
      exact hb F ρ1 E1 B1 σ H1 Q A1.rel (postE_then A1 q)
    | false =>
      simp only [O.bind_ok, Bool.false_eq_true, if_false] at q ⊢
      exact q ρ1 H1 _ (A1.then (Aft.val A1.rel (by simp [Rep])))
theorem sndE_or {rest : List Expr} (ha : SndE X a fa) (hb : SndE X (.BoolOp .Or (b :: rest) pos) fb) : SndE X (.BoolOp .Or (a :: b :: rest) pos) (mOrV fa fb) := by
  obtain ⟨t, p1, ha⟩ := ha
  obtain ⟨u, p2, hb⟩ := hb
  refine ⟨_, pe_or p1 p2, fun F ρ E B σ H Q rl q => ?_⟩
  refine toB_ok ha rl ?_
  simp only [mOrV] at q
  cases h1 : toT fa E B with
  | bad => rw [h1] at q; exact q
  | ex c E' B' => rw [h1] at q; exact q
  | ok b1 E1 B1 =>
    rw [h1] at q
    intro ρ1 H1 A1
    refine ⟨b1, rfl, ?_⟩
    cases b1 with
    | false =>
      simp only [O.bind_ok, Bool.false_eq_true, if_false] at q ⊢
      exact hb F ρ1 E1 B1 σ H1 Q A1.rel (postE_then A1 q)
    | true =>
      simp only [O.bind_ok, if_true] at q ⊢
      exact q ρ1 H1 _ (A1.then (Aft.val A1.rel (by simp [Rep])))
theorem sndE_not (ha : SndE X a fa) : SndE X (.UnaryOp .Not a pos) (mNotV fa) := by
  obtain ⟨t, p1, ha⟩ := ha
  refine ⟨_, pe_not p1, fun F ρ E B σ H Q rl q => ?_⟩
  refine toB_ok ha rl ?_
  simp only [mNotV] at q
  cases h1 : toT fa E B with
  | bad => rw [h1] at q; exact q
  | ex c E' B' => rw [h1] at q; exact q
  | ok b1 E1 B1 =>
    rw [h1] at q
    intro ρ1 H1 A1
    exact ⟨b1, rfl, q ρ1 H1 _ (A1.then (Aft.val A1.rel (by simp [Rep])))⟩
theorem sndE_if (ht : SndT X c ft) (ha : SndE X a fa) (hb : SndE X b fb) : SndE X (.IfExp c a b pos) (mIf ft fa fb) := by
  obtain ⟨t, p1, ht⟩ := ht
  obtain ⟨u, p2, ha⟩ := ha
  obtain ⟨u', p3, hb⟩ := hb
  refine ⟨_, pe_ifExp p1 p2 p3, fun F ρ E B σ H Q rl q => ?_⟩
  refine ht F ρ E B σ H _ rl ?_
  simp only [mIf] at q
  cases h1 : ft E B with
  | bad => rw [h1] at q; exact q
  | ex c E' B' => rw [h1] at q; exact q
  | ok b1 E1 B1 =>
    rw [h1] at q
    intro ρ1 H1 A1
    cases b1 with
    | true =>
      simp only [O.bind_ok, if_true] at q ⊢
      exact ha F ρ1 E1 B1 σ H1 Q A1.rel (postE_then A1 q)
    | false =>
      simp only [O.bind_ok, Bool.false_eq_true, if_false] at q ⊢
      exact hb F ρ1 E1 B1 σ H1 Q A1.rel (postE_then A1 q)
/-! ### boxes -/
theorem Rel.push {K : PySem.W.Frag} {F : Fm} {ρ : List Addr} {E : En} {B : Bx} {σ : L2.St} {H : Hp} {p : Addr} {o : Option HO} {c : Cell} (r : Rel K (F.add p o) ρ E B σ H) (n : New F p) (hl : c.live = true) (hc : CellOk K H (LvF (F.add p o) ρ E B σ) ρ c p) :
    Rel K F (ρ ++ [p]) E (B ++ [c]) σ H ∧ (∀ q, LvF F (ρ ++ [p]) E (B ++ [c]) σ q ↔ LvF (F.add p o) ρ E B σ q) := by
  have bl := r.blen
  have blv : ∀ q, BLv (ρ ++ [p]) (B ++ [c]) q ↔ BLv ρ B q ∨ q = p := fun q => by
    constructor
    · rintro ⟨i, d, h1, h2, h3⟩
      by_cases hi : i < B.length
      · rw [List.getElem?_append_left hi] at h1
        rw [List.getElem?_append_left (by omega)] at h3
        exact .inl ⟨i, d, h1, h2, h3⟩
      · have hi2 : i = B.length := by
          have := (List.getElem?_eq_some_iff.mp h1).1
          simp at this; omega
        subst hi2
        rw [List.getElem?_append_right (by omega)] at h3
        simp [bl] at h3
        exact .inr h3.symm
    · rintro (⟨i, d, h1, h2, h3⟩ | rfl)
      · exact ⟨i, d, by rw [List.getElem?_append_left (List.getElem?_eq_some_iff.mp h1).1]; exact h1, h2, by rw [List.getElem?_append_left (List.getElem?_eq_some_iff.mp h3).1]; exact h3⟩
      · exact ⟨B.length, c, by simp, hl, by rw [← bl]; simp⟩
  have lv : ∀ q, LvF F (ρ ++ [p]) E (B ++ [c]) σ q ↔ LvF (F.add p o) ρ E B σ q := fun q => by
    rw [LvF.add_iff]
    unfold LvF
    rw [blv]
    constructor
    · rintro (h | (h | h) | h)
      · exact .inl (.inl h)
      · exact .inl (.inr (.inl h))
      · exact .inr h
      · exact .inl (.inr (.inr h))
    · rintro ((h | h | h) | h)
      · exact .inl h
      · exact .inr (.inl (.inl h))
      · exact .inr (.inr h)
      · exact .inr (.inl (.inr h))
  have s : Stp H (LvF (F.add p o) ρ E B σ) H (LvF F (ρ ++ [p]) E (B ++ [c]) σ) := Stp.less fun q z => (lv q).mp z
  have px : ρ <+: ρ ++ [p] := List.prefix_append _ _
  have nbp := Rel.notLv r n
  refine ⟨⟨r.elen, by simp [bl], fun i u h => ?_, fun i d h => ?_, r.oinj, fun i d q h1 h2 h3 => ?_, fun i j d d' q h1 h2 h3 h4 h5 h6 => ?_, fun q h => ?_, fun q u h z => ?_, fun q u h => ?_⟩, lv⟩
  · obtain ⟨v, h1, h2⟩ := r.val i u h
    exact ⟨v, h1, h2.mono s px⟩
  · obtain ⟨h1, q, h2, h3, h4, h5⟩ := r.own i d h
    exact ⟨h1, q, h2, h3.mono s px rfl, fun z => h4 (.inl z), fun z => ((blv q).mp z).elim h5 fun e => h4 (.inr e)⟩
  · by_cases hi : i < B.length
    · rw [List.getElem?_append_left hi] at h1
      rw [List.getElem?_append_left (by omega)] at h3
      obtain ⟨h4, h5⟩ := r.box i d q h1 h2 h3
      exact ⟨h4.mono s px rfl, fun z => h5 (.inl z)⟩
    · have hi2 : i = B.length := by
        have := (List.getElem?_eq_some_iff.mp h1).1
        simp at this; omega
      subst hi2
      rw [List.getElem?_append_right (by omega)] at h3
      simp [bl] at h3
      rw [List.getElem?_append_right (by omega)] at h1
      simp at h1
      subst h3 h1
      exact ⟨hc.mono s px rfl, n.out⟩
  · have key : ∀ (i : Nat) (d : Cell), (B ++ [c])[i]? = some d → (ρ ++ [p])[i]? = some q → d.live = true → (i < B.length ∧ B[i]? = some d ∧ ρ[i]? = some q ∧ q ≠ p) ∨ (i = B.length ∧ q = p) := fun i d h1 h3 h2 => by
      by_cases hi : i < B.length
      · rw [List.getElem?_append_left hi] at h1
        rw [List.getElem?_append_left (by omega)] at h3
        exact .inl ⟨hi, h1, h3, fun e => (r.box i d q h1 h2 h3).2 (.inr e)⟩
      · have hi2 : i = B.length := by
          have := (List.getElem?_eq_some_iff.mp h1).1
          simp at this; omega
        subst hi2
        rw [List.getElem?_append_right (by omega)] at h3
        simp [bl] at h3
        exact .inr ⟨rfl, h3.symm⟩
    rcases key i d h1 h5 h2 with ⟨_, a1, a2, a3⟩ | ⟨a1, a2⟩ <;> rcases key j d' h3 h6 h4 with ⟨_, b1, b2, b3⟩ | ⟨b1, b2⟩
    · exact r.binj i j d d' q a1 h2 b1 h4 a2 b2
    · exact absurd b2 a3
    · exact absurd a2 b3
    · omega
  · have ne : q ≠ p := fun z => n.out (z ▸ h)
    have e := r.out q (.inl h)
    simpa [Fm.add, ne] using e
  · have ne : q ≠ p := fun y => by rw [y, n.h0] at h; cases h
    have := r.old q u (by simp [Fm.add, ne, h]) (fun y => y.elim z ne)
    exact ⟨this.1, fun y => this.2 ((lv q).mp y)⟩
  · have ne : q ≠ p := fun y => by rw [y, n.h0] at h; cases h
    exact r.grow q u (by simp [Fm.add, ne, h])
theorem sndE_box (ha : SndE X a fa) : SndE X a (mBox fa) := by
  obtain ⟨t, p1, ha⟩ := ha
  refine ⟨t, p1, fun F ρ E B σ H Q rl q => ?_⟩
  refine ha F ρ E B σ H _ rl ?_
  simp only [mBox] at q
  cases h1 : fa E B with
  | bad => rw [h1] at q; exact q
  | ex c E' B' => rw [h1] at q; exact q
  | ok r1 E1 B1 =>
    rw [h1] at q
    intro ρ1 H1 v1 A1
    simp only [O.bind_ok] at q
    cases r1 with
    | w u => exact q.elim
    | s i => exact q.elim
    | fr c =>
      have rr := A1.rep
      obtain ⟨p, rfl, hl, hc, hn⟩ := rr
      have r0 := A1.rel
      obtain ⟨r2, lv⟩ := Rel.push (o := H1 p) r0 hn hl hc
      have bl := r0.blen
      refine q (ρ1 ++ [p]) H1 (.ref p) ⟨A1.px.trans (List.prefix_append _ _), r2, A1.stp.trans (Stp.less fun y z => (lv y).mp z), A1.le, ?_⟩
      simp only [RepR, Rep]
      exact ⟨p, by rw [← bl]; simp, rfl⟩
end
end QB
/-! QbD: the operators by values, == , in, is. -/
namespace QB
open PySem L2
section
variable {K : PySem.W.Frag} {H : Hp} {Lv : AS} {ρ : List Addr} {v : V}
theorem top_int {i : Int} (t : Top K H Lv ρ (.int i) v) : v = .int i := by simpa [Top, Rep] using t
theorem top_bl {i : Bool} (t : Top K H Lv ρ (.bl i) v) : v = .bl i := by simpa [Top, Rep] using t
theorem top_str {i : Str} (t : Top K H Lv ρ (.str i) v) : v = .str i := by simpa [Top, Rep] using t
theorem top_non (t : Top K H Lv ρ .non v) : v = .non := by simpa [Top, Rep] using t
end
section
variable {X : Cx}
def gII (C : Int → Int → Bool) (g : Int → Int → Int) : U → U → Option R
  | .int i, .int j => if C i j = true then some (.w (.int (g i j))) else none
  | _, _ => none
def gIB (g : Int → Int → Bool) : U → U → Option R
  | .int i, .int j => some (.w (.bl (g i j)))
  | _, _ => none
def gSB (g : Str → Str → Bool) : U → U → Option R
  | .str i, .str j => some (.w (.bl (g i j)))
  | _, _ => none
theorem op2_II {op : Value → Value → Sem Value} {P : Int → Int → Prop} {C : Int → Int → Bool} {g : Int → Int → Int} (h : OpR X op (rI P fun i j => .int (g i j))) (hc : ∀ i j, C i j = true → P i j) : Op2S X op (gII C g) := by
  refine ⟨_, h, fun F ρ E B σ H u1 u2 v1 v2 r3 Q rl t1 t2 e q => ?_⟩
  unfold gII at e
  split at e
  · next i j =>
    split at e
    · next c =>
      cases e
      exact ⟨i, j, top_int t1, top_int t2, hc i j c, q H _ (Aft.val rl (by simp [Rep]))⟩
    · cases e
  · cases e
theorem op2_II0 {op : Value → Value → Sem Value} {g : Int → Int → Int} (h : OpR X op (rI0 fun i j => .int (g i j))) : Op2S X op (gII (fun _ _ => true) g) := by
  refine ⟨_, h, fun F ρ E B σ H u1 u2 v1 v2 r3 Q rl t1 t2 e q => ?_⟩
  unfold gII at e
  split at e
  · next i j =>
    cases e
    exact ⟨i, j, top_int t1, top_int t2, q H _ (Aft.val rl (by simp [Rep]))⟩
  · cases e
theorem op2_IB {op : Value → Value → Sem Value} {g : Int → Int → Bool} (h : OpR X op (rI0 fun i j => .bl (g i j))) : Op2S X op (gIB g) := by
  refine ⟨_, h, fun F ρ E B σ H u1 u2 v1 v2 r3 Q rl t1 t2 e q => ?_⟩
  unfold gIB at e
  split at e
  · next i j =>
    cases e
    exact ⟨i, j, top_int t1, top_int t2, q H _ (Aft.val rl (by simp [Rep]))⟩
  · cases e
theorem op2_SB {op : Value → Value → Sem Value} {g : Str → Str → Bool} (h : OpR X op (fun x y H Q => ∃ i j, x = .str i ∧ y = .str j ∧ Q (.bl (g i j)) H)) : Op2S X op (gSB g) := by
  refine ⟨_, h, fun F ρ E B σ H u1 u2 v1 v2 r3 Q rl t1 t2 e q => ?_⟩
  unfold gSB at e
  split at e
  · next i j =>
    cases e
    exact ⟨i, j, top_str t1, top_str t2, q H _ (Aft.val rl (by simp [Rep]))⟩
  · cases e
def gCatS : U → U → Option R
  | .str i, .str j => if i.length + j.length ≤ 16777216 then some (.w (.str (i ++ j))) else none
  | _, _ => none
def gCatL : U → U → Option R
  | .lst i, .lst j => if i.length + j.length ≤ 16777216 then some (.fr (.lst (i ++ j))) else none
  | _, _ => none
def gCatT : U → U → Option R
  | .tup i, .tup j => if i.length + j.length ≤ 16777216 then some (.w (.tup (i ++ j))) else none
  | _, _ => none
/-- small enough: read off the number's own form, so that no check counts up to the bound -/
def within (n : Nat) : Int → Bool
  | .ofNat k => Nat.ble k n
  | .negSucc k => Nat.ble k n
theorem within_iff {n : Nat} {i : Int} : within n i = true ↔ -(n : Int) - 1 ≤ i ∧ i ≤ n := by
  cases i with
  | ofNat k =>
    show Nat.ble k n = true ↔ _
    rw [Nat.ble_eq]
    show k ≤ n ↔ -(n : Int) - 1 ≤ (k : Int) ∧ (k : Int) ≤ n
    omega
  | negSucc k =>
    show Nat.ble k n = true ↔ _
    rw [Nat.ble_eq]
    omega
def I62 : Int → Bool := within 4611686018427387903
theorem i62_iff {j : Int} : I62 j = true ↔ (-(2 ^ 62) ≤ j ∧ j < 2 ^ 62) := by
  unfold I62
  rw [within_iff]
  omega
theorem i62 {j : Int} (h : -1000000000 ≤ j) (h2 : j ≤ 1000000000) : I62 j = true := i62_iff.mpr (by omega)
def gRep : U → U → Option R
  | .lst i, .int k => if I62 k = true ∧ i.length * k.toNat ≤ 16777216 then some (.fr (.lst (List.replicate k.toNat i).flatten)) else none
  | _, _ => none
theorem op2_catS : Op2S X (binaryOp .Add) gCatS := by
  refine ⟨_, op_add_str, fun F ρ E B σ H u1 u2 v1 v2 r3 Q rl t1 t2 e q => ?_⟩
  unfold gCatS at e
  split at e
  · next i j =>
    split at e
    · next c =>
      cases e
      exact ⟨i, j, top_str t1, top_str t2, by rw [sizeLine_eq]; exact c, q H _ (Aft.val rl (by simp [Rep]))⟩
    · cases e
  · cases e
theorem op2_icatS : Op2S X (inplaceOp .Add) gCatS := by
  refine ⟨_, iop_add_str, fun F ρ E B σ H u1 u2 v1 v2 r3 Q rl t1 t2 e q => ?_⟩
  unfold gCatS at e
  split at e
  · next i j =>
    split at e
    · next c =>
      cases e
      exact ⟨i, j, top_str t1, top_str t2, by rw [sizeLine_eq]; exact c, q H _ (Aft.val rl (by simp [Rep]))⟩
    · cases e
  · cases e
theorem op2_catL : Op2S X (binaryOp .Add) gCatL := by
  refine ⟨_, op_cat, fun F ρ E B σ H u1 u2 v1 v2 r3 Q rl t1 t2 e q => ?_⟩
  unfold gCatL at e
  split at e
  · next i j =>
    split at e
    · next c =>
      cases e
      obtain ⟨p1, xs, rfl, h1, r1⟩ := t1
      obtain ⟨p2, ys, rfl, h2, r2⟩ := t2
      refine ⟨p1, p2, xs, ys, rfl, rfl, h1, h2, by rw [sizeLine_eq, ← r1.len, ← r2.len]; exact c, fun p hp => q _ _ (Aft.fresh rl hp (r1.append r2))⟩
    · cases e
  · cases e
theorem op2_catT : Op2S X (binaryOp .Add) gCatT := by
  refine ⟨_, op_catA, fun F ρ E B σ H u1 u2 v1 v2 r3 Q rl t1 t2 e q => ?_⟩
  unfold gCatT at e
  split at e
  · next i j =>
    split at e
    · next c =>
      cases e
      obtain ⟨p1, xs, rfl, h1, r1⟩ := t1
      obtain ⟨p2, ys, rfl, h2, r2⟩ := t2
      have s1 : SqT X.K H p1 xs := sqT_of h1
      have s2 : SqT X.K H p2 ys := sqT_of h2
      refine ⟨p1, p2, xs, ys, rfl, rfl, s1, s2, by rw [sizeLine_eq, ← r1.len, ← r2.len]; exact c, fun e => ?_, fun e1 e2 => ?_, fun e1 e2 p hp => q _ _ (Aft.tuple rl hp (r1.append r2))⟩
      · have : i = [] := by have := r1.len; rw [e] at this; simpa using this
        subst this
        exact q _ _ (Aft.val rl (by simp only [List.nil_append, Rep]; exact ⟨p2, ys, rfl, h2, r2⟩))
      · have : j = [] := by have := r2.len; rw [e2] at this; simpa using this
        subst this
        exact q _ _ (Aft.val rl (by simp only [List.append_nil, Rep]; exact ⟨p1, xs, rfl, h1, r1⟩))
    · cases e
  · cases e
theorem op2_rep : Op2S X (binaryOp .Mult) gRep := by
  refine ⟨_, op_rep, fun F ρ E B σ H u1 u2 v1 v2 r3 Q rl t1 t2 e q => ?_⟩
  unfold gRep at e
  split at e
  · next i k =>
    split at e
    · next c =>
      cases e
      obtain ⟨p1, xs, rfl, h1, r1⟩ := t1
      have hr : ∀ n : Nat, Reps X.K H (LvF F ρ E B σ) ρ (List.replicate n i).flatten (List.replicate n xs).flatten := by
        intro n
        induction n with
        | zero => simp [Reps]
        | succ n ih => rw [List.replicate_succ, List.replicate_succ, List.flatten_cons, List.flatten_cons]; exact r1.append ih
      have cc := i62_iff.mp c.1
      refine ⟨p1, k, xs, rfl, top_int t2, h1, by omega, by omega, by rw [sizeLine_eq, ← r1.len]; exact c.2, fun p hp => q _ _ (Aft.fresh rl hp (hr _))⟩
    · cases e
  · cases e
/-! ### ints -/
def cMul (i j : Int) : Bool := within 9223372036854775807 i || (within 9223372036854775807 j || decide (i.natAbs.log2 + j.natAbs.log2 < 1000000))
theorem cMul_iff {i j : Int} : cMul i j = true ↔ (-9223372036854775808 ≤ i ∧ i ≤ 9223372036854775807) ∨ (-9223372036854775808 ≤ j ∧ j ≤ 9223372036854775807) ∨ i.natAbs.log2 + j.natAbs.log2 < 1000000 := by
  unfold cMul
  rw [Bool.or_eq_true, Bool.or_eq_true, within_iff, within_iff, decide_eq_true_iff]
  exact Iff.rfl
def cDiv (_ j : Int) : Bool := within 99999999999999999999999999999999999999999999999999 j && decide (0 < j)
theorem cDiv_iff {i j : Int} : cDiv i j = true ↔ (-99999999999999999999999999999999999999999999999999 - 1 ≤ j ∧ j ≤ 99999999999999999999999999999999999999999999999999) ∧ 0 < j := by
  unfold cDiv
  rw [Bool.and_eq_true, within_iff, decide_eq_true_iff]
  exact Iff.rfl
def cMod (_ j : Int) : Bool := decide (0 < j)
def cPow (i j : Int) : Bool := within 1000000 j && (decide (0 ≤ j) && within 9223372036854775807 i)
theorem cPow_iff {i j : Int} : cPow i j = true ↔ (-1000001 ≤ j ∧ j ≤ 1000000) ∧ 0 ≤ j ∧ (-9223372036854775808 ≤ i ∧ i ≤ 9223372036854775807) := by
  unfold cPow
  rw [Bool.and_eq_true, Bool.and_eq_true, within_iff, decide_eq_true_iff, within_iff]
  exact Iff.rfl
theorem op_mulA : OpR X (binaryOp .Mult) (rI (fun i j => CMul i j ∨ CMulW i j) fun i j => .int (i * j)) := by
  intro pins s σ H x y v u Q I rx ry h
  obtain ⟨i, j, h1, h2, h3 | h3, q⟩ := h
  · exact op_mul pins s σ H x y v u Q I rx ry ⟨i, j, h1, h2, h3, q⟩
  · exact op_mulW pins s σ H x y v u Q I rx ry ⟨i, j, h1, h2, h3, q⟩
theorem op2_add : Op2S X (binaryOp .Add) (gII (fun _ _ => true) (· + ·)) := op2_II0 op_add
theorem op2_sub : Op2S X (binaryOp .Sub) (gII (fun _ _ => true) (· - ·)) := op2_II0 op_sub
theorem op2_iadd : Op2S X (inplaceOp .Add) (gII (fun _ _ => true) (· + ·)) := op2_II0 iop_add
theorem op2_isub : Op2S X (inplaceOp .Sub) (gII (fun _ _ => true) (· - ·)) := op2_II0 iop_sub
theorem op2_mul : Op2S X (binaryOp .Mult) (gII cMul (· * ·)) := op2_II op_mulA fun i j h => by
  rcases cMul_iff.mp h with h | h | h
  · exact .inl (.inl (by omega))
  · exact .inl (.inr (by omega))
  · exact .inr h
theorem op2_fdiv : Op2S X (binaryOp .FloorDiv) (gII cDiv (· / ·)) := op2_II op_fdivW fun i j h => by
  obtain ⟨⟨_, h2⟩, h1⟩ := cDiv_iff.mp h
  refine ⟨h1, ?_⟩
  have h3 : j.natAbs < 2 ^ 200 := by
    have h4 : (j.natAbs : Int) < 2 ^ 200 := by omega
    exact_mod_cast h4
  have h5 : j.natAbs.log2 < 200 := (Nat.log2_lt (by omega)).mpr h3
  omega
theorem op2_mod : Op2S X (binaryOp .Mod) (gII cMod (· % ·)) := op2_II op_mod fun i j h => of_decide_eq_true h
theorem op2_pow : Op2S X (binaryOp .Pow) (gII cPow fun i j => i ^ j.toNat) := op2_II op_pow fun i j h => (show 0 ≤ j ∧ j ≤ 1000000 ∧ i.natAbs < 2 ^ 64 from by have := cPow_iff.mp h; omega)
theorem op2_ltI : Op2S X (compareOp .Lt) (gIB fun i j => decide (i < j)) := op2_IB op_lt
theorem op2_leI : Op2S X (compareOp .LtE) (gIB fun i j => decide (i ≤ j)) := op2_IB op_le
theorem op2_gtI : Op2S X (compareOp .Gt) (gIB fun i j => decide (j < i)) := op2_IB op_gt
theorem op2_geI : Op2S X (compareOp .GtE) (gIB fun i j => decide (j ≤ i)) := op2_IB op_ge
theorem op2_ltS : Op2S X (compareOp .Lt) (gSB fun i j => decide (i.cps.toList < j.cps.toList)) := op2_SB op_lt_str
theorem op2_leS : Op2S X (compareOp .LtE) (gSB fun i j => !decide (j.cps.toList < i.cps.toList)) := op2_SB op_le_str
theorem op2_gtS : Op2S X (compareOp .Gt) (gSB fun i j => decide (j.cps.toList < i.cps.toList)) := op2_SB op_gt_str
theorem op2_geS : Op2S X (compareOp .GtE) (gSB fun i j => !decide (i.cps.toList < j.cps.toList)) := op2_SB op_ge_str
/-! ### == -/
mutual
def toD : U → Option PyData
  | .non => some .none
  | .bl b => some (.bool b)
  | .int i => some (.int i)
  | .str x => some (.str x)
  | .lst us => (toDs us).map .list
  | .tup us => (toDs us).map .tuple
  | .dct _ _ => none
  | .box _ => none
  | .scr ns => some (.list (ns.map .int))
def toDs : List U → Option (List PyData)
  | [] => some []
  | u :: us => match toD u, toDs us with
    | some d, some ds => some (d :: ds)
    | _, _ => none
end
section
variable {K : PySem.W.Frag} {H : Hp} {Lv : AS} {ρ : List Addr}
theorem dp_ints (ns : List Int) : DpAll K H (ns.map V.int) (ns.map .int) := by
  induction ns with
  | nil => exact .nil
  | cons n r ih => exact .cons (.int n) ih
mutual
theorem Rep.dp : ∀ (u : U) (v : V) (d : PyData), Rep K H Lv ρ u v → toD u = some d → Dp K H v d
  | .non, v, d, h, e => by simp only [Rep] at h; subst h; simp only [toD, Option.some.injEq] at e; subst e; exact .non
  | .bl b, v, d, h, e => by simp only [Rep] at h; subst h; simp only [toD, Option.some.injEq] at e; subst e; exact .bl b
  | .int i, v, d, h, e => by simp only [Rep] at h; subst h; simp only [toD, Option.some.injEq] at e; subst e; exact .int i
  | .str x, v, d, h, e => by simp only [Rep] at h; subst h; simp only [toD, Option.some.injEq] at e; subst e; exact .str x
  | .lst us, v, d, h, e => by
    simp only [Rep] at h
    obtain ⟨p, vs, rfl, ⟨h1, _⟩, h2⟩ := h
    simp only [toD, Option.map_eq_some_iff] at e
    obtain ⟨ds, e1, rfl⟩ := e
    exact .lst (.inl (.inl h1)) (Reps.dp us vs ds h2 e1)
  | .tup us, v, d, h, e => by
    simp only [Rep] at h
    obtain ⟨p, vs, rfl, h1, h2⟩ := h
    simp only [toD, Option.map_eq_some_iff] at e
    obtain ⟨ds, e1, rfl⟩ := e
    refine .tup ?_ (Reps.dp us vs ds h2 e1)
    rcases h1 with h1 | h1
    · exact .inl h1.1
    · exact .inr h1
  | .dct _ _, _, _, _, e => by simp [toD] at e
  | .box _, _, _, _, e => by simp [toD] at e
  | .scr ns, v, d, h, e => by
    simp only [Rep] at h
    obtain ⟨p, rfl, h1⟩ := h
    simp only [toD, Option.some.injEq] at e
    subst e
    exact .lst (sqL_of h1) (dp_ints ns)
theorem Reps.dp : ∀ (us : List U) (vs : List V) (ds : List PyData), Reps K H Lv ρ us vs → toDs us = some ds → DpAll K H vs ds
  | [], vs, ds, h, e => by simp only [Reps] at h; subst h; simp only [toDs, Option.some.injEq] at e; subst e; exact .nil
  | u :: us, vs, ds, h, e => by
    simp only [Reps] at h
    obtain ⟨v, r, rfl, h1, h2⟩ := h
    simp only [toDs] at e
    split at e
    · next d ds' e1 e2 => cases e; exact .cons (Rep.dp u v d h1 e1) (Reps.dp us r ds' h2 e2)
    · cases e
end
theorem Top.dp {u : U} {v : V} {d : PyData} (t : Top K H Lv ρ u v) (e : toD u = some d) : Dp K H v d := by
  cases u with
  | lst us =>
    obtain ⟨p, vs, rfl, h1, h2⟩ := t
    simp only [toD, Option.map_eq_some_iff] at e
    obtain ⟨ds, e1, rfl⟩ := e
    exact .lst (.inl (.inl h1)) (Reps.dp us vs ds h2 e1)
  | tup us =>
    obtain ⟨p, vs, rfl, h1, h2⟩ := t
    simp only [toD, Option.map_eq_some_iff] at e
    obtain ⟨ds, e1, rfl⟩ := e
    exact .tup (sqT_of h1) (Reps.dp us vs ds h2 e1)
  | dct _ _ => simp [toD] at e
  | box i => exact t.elim
  | non => exact Rep.dp _ _ _ t e
  | bl _ => exact Rep.dp _ _ _ t e
  | int _ => exact Rep.dp _ _ _ t e
  | str _ => exact Rep.dp _ _ _ t e
  | scr _ => exact Rep.dp _ _ _ t e
end
/-- texts alone need no look at their signs -/
def eqU (a b : U) : Option Bool :=
  match a, b with
  | .str x, .str y => some (x == y)
  | .int x, .int y => some (x == y)
  | .str _, .int _ => some false
  | .int _, .str _ => some false
  | .non, .str _ => some false
  | .str _, .non => some false
  | a, b => match toD a, toD b with
    | some d, some e => if (SeqAt.shaped d && SeqAt.shaped e) = true then some (PyData.eqv d e) else none
    | _, _ => none
def gEq (a b : U) : Option R := (eqU a b).map fun k => .w (.bl k)
def gNe (a b : U) : Option R := (eqU a b).map fun k => .w (.bl (!k))
theorem op2_eq (hu : X.A.units + 64 < cLine) : Op2S X (compareOp .Eq) gEq := by
  refine ⟨_, op_eq.or (op_eqD hu), fun F ρ E B σ H u1 u2 v1 v2 r3 Q rl t1 t2 e q => ?_⟩
  simp only [gEq, Option.map_eq_some_iff] at e
  obtain ⟨k, e, rfl⟩ := e
  have fin : Q (.bl k) H := q H _ (Aft.val rl (by simp [Rep]))
  unfold eqU at e
  split at e
  · next x y => cases e; rw [top_str t1, top_str t2]; exact .inl ⟨rfl, by rw [dec_str]; exact fin⟩
  · next x y => cases e; rw [top_int t1, top_int t2]; exact .inl ⟨rfl, by rw [dec_int]; exact fin⟩
  · next x y => cases e; rw [top_str t1, top_int t2]; exact .inl ⟨rfl, by simpa using fin⟩
  · next x y => cases e; rw [top_int t1, top_str t2]; exact .inl ⟨rfl, by simpa using fin⟩
  · next x => cases e; rw [top_non t1, top_str t2]; exact .inl ⟨rfl, by simpa using fin⟩
  · next x => cases e; rw [top_str t1, top_non t2]; exact .inl ⟨rfl, by simpa using fin⟩
  · split at e
    · next d d' e1 e2 =>
      split at e
      · next hs =>
        cases e
        simp only [Bool.and_eq_true] at hs
        exact .inr ⟨d, d', t1.dp e1, t2.dp e2, hs.1, hs.2, fin⟩
      · cases e
    · cases e
theorem op2_ne (hu : X.A.units + 64 < cLine) : Op2S X (compareOp .NotEq) gNe := by
  refine ⟨_, op_ne.or (op_neD hu), fun F ρ E B σ H u1 u2 v1 v2 r3 Q rl t1 t2 e q => ?_⟩
  simp only [gNe, Option.map_eq_some_iff] at e
  obtain ⟨k, e, rfl⟩ := e
  have fin : Q (.bl (!k)) H := q H _ (Aft.val rl (by simp [Rep]))
  unfold eqU at e
  split at e
  · next x y => cases e; rw [top_str t1, top_str t2]; exact .inl ⟨rfl, by rw [dec_str]; exact fin⟩
  · next x y => cases e; rw [top_int t1, top_int t2]; exact .inl ⟨rfl, by rw [dec_int]; exact fin⟩
  · next x y => cases e; rw [top_str t1, top_int t2]; exact .inl ⟨rfl, by simpa using fin⟩
  · next x y => cases e; rw [top_int t1, top_str t2]; exact .inl ⟨rfl, by simpa using fin⟩
  · next x => cases e; rw [top_non t1, top_str t2]; exact .inl ⟨rfl, by simpa using fin⟩
  · next x => cases e; rw [top_str t1, top_non t2]; exact .inl ⟨rfl, by simpa using fin⟩
  · split at e
    · next d d' e1 e2 =>
      split at e
      · next hs =>
        cases e
        simp only [Bool.and_eq_true] at hs
        exact .inr ⟨d, d', t1.dp e1, t2.dp e2, hs.1, hs.2, fin⟩
      · cases e
    · cases e
/-! ### is -/
def isNon : U → Bool
  | .non => true
  | _ => false
def gIs (neg : Bool) : U → U → Option R
  | a, .non => some (.w (.bl (if neg then !isNon a else isNon a)))
  | .bl a, .bl b => some (.w (.bl (if neg then !decide (a = b) else decide (a = b))))
  | _, _ => none
theorem isNon_top {K : PySem.W.Frag} {H : Hp} {Lv : AS} {ρ : List Addr} {u : U} {v : V} (t : Top K H Lv ρ u v) : decide (v = .non) = isNon u := by
  cases u with
  | non => rw [top_non t]; rfl
  | bl _ => rw [top_bl t]; rfl
  | int _ => rw [top_int t]; rfl
  | str _ => rw [top_str t]; rfl
  | lst _ => obtain ⟨p, vs, rfl, _⟩ := t; rfl
  | tup _ => obtain ⟨p, vs, rfl, _⟩ := t; rfl
  | dct _ _ => obtain ⟨p, vs, rfl, _⟩ := t; rfl
  | box _ => exact t.elim
  | scr _ => simp only [Top, Rep] at t; obtain ⟨p, rfl, _⟩ := t; rfl
theorem op2_is : Op2S X (compareOp .Is) (gIs false) := by
  refine ⟨_, op_isN.or op_is_bl, fun F ρ E B σ H u1 u2 v1 v2 r3 Q rl t1 t2 e q => ?_⟩
  unfold gIs at e
  split at e
  · cases e
    refine .inl ⟨top_non t2, ?_⟩
    rw [isNon_top t1]
    exact q H _ (Aft.val rl (by simp [Rep]))
  · next a b =>
    cases e
    exact .inr ⟨a, b, top_bl t1, top_bl t2, q H _ (Aft.val rl (by simp [Rep]))⟩
  · cases e
theorem op2_isnot : Op2S X (compareOp .IsNot) (gIs true) := by
  refine ⟨_, op_notN.or op_isnot_bl, fun F ρ E B σ H u1 u2 v1 v2 r3 Q rl t1 t2 e q => ?_⟩
  unfold gIs at e
  split at e
  · cases e
    refine .inl ⟨top_non t2, ?_⟩
    rw [isNon_top t1]
    exact q H _ (Aft.val rl (by simp [Rep]))
  · next a b =>
    cases e
    exact .inr ⟨a, b, top_bl t1, top_bl t2, q H _ (Aft.val rl (by simp [Rep]))⟩
  · cases e
/-! ### in -/
def flatU : U → Option V
  | .non => some .non
  | .bl b => some (.bl b)
  | .int i => some (.int i)
  | .str x => some (.str x)
  | _ => none
theorem flatU_top {K : PySem.W.Frag} {H : Hp} {Lv : AS} {ρ : List Addr} {u : U} {v x : V} (t : Top K H Lv ρ u v) (e : flatU u = some x) : v = x ∧ flatV v = true := by
  cases u <;> simp only [flatU, Option.some.injEq] at e <;> first | (cases e; done) | skip
  · rw [top_non t]; exact ⟨e, rfl⟩
  · rw [top_bl t]; exact ⟨e, rfl⟩
  · rw [top_int t]; exact ⟨e, rfl⟩
  · rw [top_str t]; exact ⟨e, rfl⟩
theorem flatU_rep {K : PySem.W.Frag} {H : Hp} {Lv : AS} {ρ : List Addr} {u : U} {v x : V} (t : Rep K H Lv ρ u v) (e : flatU u = some x) : v = x ∧ flatV v = true :=
  flatU_top (t.top fun i z => by subst z; cases e) e
def flatUs : List U → Option (List V)
  | [] => some []
  | u :: us => match flatU u, flatUs us with
    | some v, some vs => some (v :: vs)
    | _, _ => none
theorem flatUs_reps {K : PySem.W.Frag} {H : Hp} {Lv : AS} {ρ : List Addr} : ∀ {us : List U} {vs xs : List V}, Reps K H Lv ρ us vs → flatUs us = some xs → vs = xs ∧ vs.all flatV = true
  | [], vs, xs, h, e => by simp only [Reps] at h; subst h; simp only [flatUs, Option.some.injEq] at e; exact ⟨e, rfl⟩
  | u :: us, vs, xs, h, e => by
    simp only [Reps] at h
    obtain ⟨v, r, rfl, h1, h2⟩ := h
    simp only [flatUs] at e
    split at e
    · next a b e1 e2 =>
      cases e
      obtain ⟨h3, h4⟩ := flatU_rep h1 e1
      obtain ⟨h5, h6⟩ := flatUs_reps h2 e2
      exact ⟨by rw [h3, h5], by simp [h4, h6]⟩
    · cases e
def inStr (a z : Str) : Bool := if a.cps.size = 1 then decide (a.cps.getD 0 0 ∈ z.cps.toList) else !(Builtin.Str.occurrences z a 0 z.length 1).isEmpty
def seqOf : U → Option (List U)
  | .lst us => some us
  | .tup us => some us
  | _ => none
def inU (a b : U) : Option Bool :=
  match a, b with
  | .str x, .str z => some (inStr x z)
  | a, b => match flatU a, (seqOf b).bind flatUs with
    | some v, some vs => some (inV v vs)
    | _, _ => none
def gIn (neg : Bool) (a b : U) : Option R := (inU a b).map fun k => .w (.bl (if neg then !k else k))
theorem str_one {a : Str} (h : a.cps.size = 1) : a = ⟨#[a.cps.getD 0 0]⟩ := by
  obtain ⟨cs⟩ := a
  obtain ⟨l⟩ := cs
  match l, h with
  | [c], _ => rfl
theorem op2_in : Op2S X (compareOp .In) (gIn false) := by
  refine ⟨_, (op_in_sign.or op_in_str).or op_in_seq, fun F ρ E B σ H u1 u2 v1 v2 r3 Q rl t1 t2 e q => ?_⟩
  simp only [gIn, Option.map_eq_some_iff] at e
  obtain ⟨k, e, rfl⟩ := e
  have fin : Q (.bl k) H := q H _ (Aft.val rl (by simp [Rep]))
  unfold inU at e
  split at e
  · next x z =>
    cases e
    unfold inStr at fin
    split at fin
    · next h1 => exact .inl (.inl ⟨x.cps.getD 0 0, z, by rw [top_str t1, ← str_one h1], top_str t2, fin⟩)
    · exact .inl (.inr ⟨x, z, top_str t1, top_str t2, fin⟩)
  · split at e
    · next v vs e1 e2 =>
      cases e
      simp only [Option.bind_eq_some_iff] at e2
      obtain ⟨us, e2, e3⟩ := e2
      obtain ⟨h1, h2⟩ := flatU_top t1 e1
      subst h1
      cases u2 <;> simp only [seqOf, Option.some.injEq] at e2 <;> first | (cases e2; done) | skip
      · subst e2
        obtain ⟨p, ws, rfl, h3, h4⟩ := t2
        obtain ⟨h5, h6⟩ := flatUs_reps h4 e3
        subst h5
        exact .inr ⟨p, ws, rfl, .inl (.inl (.inl h3)), h2, h6, fin⟩
      · subst e2
        obtain ⟨p, ws, rfl, h3, h4⟩ := t2
        obtain ⟨h5, h6⟩ := flatUs_reps h4 e3
        subst h5
        exact .inr ⟨p, ws, rfl, .inr (sqT_of h3), h2, h6, fin⟩
    · cases e
theorem op2_notin : Op2S X (compareOp .NotIn) (gIn true) := by
  refine ⟨_, (op_notIn_sign.or op_notin_str).or op_notIn_seq, fun F ρ E B σ H u1 u2 v1 v2 r3 Q rl t1 t2 e q => ?_⟩
  simp only [gIn, Option.map_eq_some_iff] at e
  obtain ⟨k, e, rfl⟩ := e
  have fin : Q (.bl (!k)) H := q H _ (Aft.val rl (by simp [Rep]))
  unfold inU at e
  split at e
  · next x z =>
    cases e
    unfold inStr at fin
    split at fin
    · next h1 => exact .inl (.inl ⟨x.cps.getD 0 0, z, by rw [top_str t1, ← str_one h1], top_str t2, fin⟩)
    · exact .inl (.inr ⟨x, z, top_str t1, top_str t2, fin⟩)
  · split at e
    · next v vs e1 e2 =>
      cases e
      simp only [Option.bind_eq_some_iff] at e2
      obtain ⟨us, e2, e3⟩ := e2
      obtain ⟨h1, h2⟩ := flatU_top t1 e1
      subst h1
      cases u2 <;> simp only [seqOf, Option.some.injEq] at e2 <;> first | (cases e2; done) | skip
      · subst e2
        obtain ⟨p, ws, rfl, h3, h4⟩ := t2
        obtain ⟨h5, h6⟩ := flatUs_reps h4 e3
        subst h5
        exact .inr ⟨p, ws, rfl, .inl (.inl (.inl h3)), h2, h6, fin⟩
      · subst e2
        obtain ⟨p, ws, rfl, h3, h4⟩ := t2
        obtain ⟨h5, h6⟩ := flatUs_reps h4 e3
        subst h5
        exact .inr ⟨p, ws, rfl, .inr (sqT_of h3), h2, h6, fin⟩
    · cases e
end
end QB
/-! QbE: arguments, built-ins, displays, subscripts, calls. -/
namespace QB
open PySem L2
section
variable {X : Cx} {a b c e : Expr} {es : List Expr} {fa fb : Ex} {pos p p2 p3 cpos apos : Pos} {x : Str}

/-! ### a plain step on one value -/
theorem m1_ok {g : U → Option R} {r : V → Hp → VK → Prop} {ta : TE}
    (ho : ∀ F ρ E B σ H u1 v1 r3 Q, Rel X.K F ρ E B σ H → Top X.K H (LvF F ρ E B σ) ρ u1 v1 → g u1 = some r3 → (∀ H' v, Aft X.K F ρ E B σ H r3 ρ E B H' v → Q v H') → r v1 H Q)
    (ha : ∀ F ρ E B σ H Q, Rel X.K F ρ E B σ H → PostE X.K F ρ E B σ H (fa E B) Q → ta σ H Q) :
    ∀ F ρ E B σ H Q, Rel X.K F ρ E B σ H → PostE X.K F ρ E B σ H (m1 g fa E B) Q → ta σ H (fun v H1 => r v H1 Q) := by
  intro F ρ E B σ H Q rl h
  refine ha F ρ E B σ H _ rl ?_
  simp only [m1] at h
  cases h1 : fa E B with
  | bad => rw [h1] at h; exact h
  | ex c E' B' => rw [h1] at h; exact h
  | ok r1 E1 B1 =>
    rw [h1] at h
    intro ρ1 H1 v1 A1
    simp only [O.bind_ok] at h
    split at h
    · next u1 e1 =>
      split at h
      · next r3 eg =>
        have T1 := A1.letgo
        exact ho F ρ1 E1 B1 σ H1 u1 v1 r3 Q T1.rel (A1.top e1) eg fun H' v A3 => h ρ1 H' v (T1.then A3)
      · exact h.elim
    · exact h.elim
theorem sndE_un {op : UnaryOp} {r : V → Hp → VK → Prop} {g : U → Option R} (hr : UnR X (unaryOp op) r)
    (ho : ∀ F ρ E B σ H u1 v1 r3 Q, Rel X.K F ρ E B σ H → Top X.K H (LvF F ρ E B σ) ρ u1 v1 → g u1 = some r3 → (∀ H' v, Aft X.K F ρ E B σ H r3 ρ E B H' v → Q v H') → r v1 H Q)
    (ha : SndE X a fa) : SndE X (.UnaryOp op a pos) (m1 g fa) := by
  obtain ⟨ta, pa, ha⟩ := ha
  exact ⟨_, pe_un hr pa, m1_ok (r := r) ho ha⟩
def gNeg : U → Option R
  | .int i => some (.w (.int (-i)))
  | _ => none
theorem sndE_neg (ha : SndE X a fa) : SndE X (.UnaryOp .USub a pos) (m1 gNeg fa) := by
  refine sndE_un un_neg (fun F ρ E B σ H u1 v1 r3 Q rl t e q => ?_) ha
  unfold gNeg at e
  split at e
  · next i => cases e; exact ⟨i, top_int t, q H _ (Aft.val rl (by simp [Rep]))⟩
  · cases e

/-! ### built-ins of one argument -/
def Call1S (X : Cx) (f : Value) (g : U → Option R) : Prop :=
  ∃ r, CallR X f r ∧ ∀ F ρ E B σ H u1 v1 r3 Q, Rel X.K F ρ E B σ H → Top X.K H (LvF F ρ E B σ) ρ u1 v1 → g u1 = some r3 → (∀ H' v, Aft X.K F ρ E B σ H r3 ρ E B H' v → Q v H') → r [v1] H Q
theorem sndE_b1 {id : String} {g : U → Option R} (hc : Call1S X (.builtin id) g) (hm : X.mg x = none) (hv : bootBuiltins x = some (.builtin id)) (ha : SndE X a fa) (hg : Gl X x := by rfl) (hn : x ≠ "__name__" := by decide) (hdb : (x == ("__debug__" : Str)) = false := by decide) (hs : starEach [a] X.env = (false, eval a X.env) :: starEach [] X.env := by rfl) : SndE X (.Call (.Name x p) [a] [] pos) (m1 g fa) := by
  obtain ⟨r, hr, ho⟩ := hc
  obtain ⟨ta, pa, ha⟩ := ha
  exact ⟨_, pe_callB hr hg hm hv (pa_cons pa pa_nil hs) hn hdb hs, m1_ok (r := fun v H Q => r [v] H Q) ho ha⟩
theorem sndE_t1 {T : String} {g : U → Option R} (hc : Call1S X (.type T) g) (hm : X.mg x = none) (hv : bootBuiltins x = some (.type T)) (ha : SndE X a fa) (hg : Gl X x := by rfl) (hn : x ≠ "__name__" := by decide) (hdb : (x == ("__debug__" : Str)) = false := by decide) (hs : starEach [a] X.env = (false, eval a X.env) :: starEach [] X.env := by rfl) : SndE X (.Call (.Name x p) [a] [] pos) (m1 g fa) := by
  obtain ⟨r, hr, ho⟩ := hc
  obtain ⟨ta, pa, ha⟩ := ha
  exact ⟨_, pe_callTy hr hg hm hv (pa_cons pa pa_nil hs) hn hdb hs, m1_ok (r := fun v H Q => r [v] H Q) ho ha⟩
def gLen : U → Option R
  | .str y => if y.length ≤ 16777216 then some (.w (.int y.length)) else none
  | .lst us => some (.w (.int us.length))
  | .tup us => some (.w (.int us.length))
  | .scr ns => some (.w (.int ns.length))
  | _ => none
theorem call1_len : Call1S X (.builtin "len") gLen := by
  refine ⟨_, call_len, fun F ρ E B σ H u1 v1 r3 Q rl t e q => ?_⟩
  have fin : ∀ n : Nat, r3 = .w (.int n) → Q (.int n) H := fun n h => q H _ (by subst h; exact Aft.val rl (by simp [Rep]))
  unfold gLen at e
  split at e
  · next y =>
    split at e
    · next hl => cases e; exact ⟨_, y.length, rfl, by rw [top_str t]; exact ⟨by rw [sizeLine_eq]; exact hl, rfl⟩, fin _ rfl⟩
    · cases e
  · next us =>
    cases e
    obtain ⟨p, vs, rfl, h1, h2⟩ := t
    exact ⟨_, us.length, rfl, .inl ⟨vs, .inl (.inl h1), h2.len⟩, fin _ rfl⟩
  · next us =>
    cases e
    obtain ⟨p, vs, rfl, h1, h2⟩ := t
    exact ⟨_, us.length, rfl, .inr ⟨vs, sqT_of h1, h2.len⟩, fin _ rfl⟩
  · next ns =>
    cases e
    simp only [Top, Rep] at t
    obtain ⟨p, rfl, h1⟩ := t
    exact ⟨_, ns.length, rfl, .inl ⟨_, sqL_of h1, by simp⟩, fin _ rfl⟩
  · cases e
def gAbs : U → Option R
  | .int i => some (.w (.int (if i < 0 then -i else i)))
  | _ => none
theorem call1_abs : Call1S X (.builtin "abs") gAbs := by
  refine ⟨_, call_abs, fun F ρ E B σ H u1 v1 r3 Q rl t e q => ?_⟩
  unfold gAbs at e
  split at e
  · next i => cases e; exact ⟨i, by rw [top_int t], q H _ (Aft.val rl (by simp [Rep]))⟩
  · cases e
def gInt : U → Option R
  | .int i => some (.w (.int i))
  | .bl b => some (.w (.int (if b then 1 else 0)))
  | _ => none
theorem call1_int : Call1S X (.type "int") gInt := by
  refine ⟨_, call_int1, fun F ρ E B σ H u1 v1 r3 Q rl t e q => ?_⟩
  unfold gInt at e
  split at e
  · next i => cases e; exact .inl ⟨i, by rw [top_int t], q H _ (Aft.val rl (by simp [Rep]))⟩
  · next i => cases e; exact .inr ⟨i, by rw [top_bl t], q H _ (Aft.val rl (by simp [Rep]))⟩
  · cases e
def gStrI : U → Option R
  | .int i => if i.natAbs < 10 ^ 100 then some (.w (.str (toString i : String))) else none
  | _ => none
theorem call1_strI : Call1S X (.type "str") gStrI := by
  refine ⟨_, call_str_int, fun F ρ E B σ H u1 v1 r3 Q rl t e q => ?_⟩
  unfold gStrI at e
  split at e
  · next i =>
    split at e
    · next hl =>
      cases e
      have h3 : i.natAbs < 2 ^ 400 := Nat.lt_trans hl (by decide)
      have h5 : i.natAbs.log2 < 1920 := by
        by_cases z : i.natAbs = 0
        · rw [z]; decide
        · have := (Nat.log2_lt z).mpr h3; omega
      exact ⟨i, by rw [top_int t], h5, q H _ (Aft.val rl (by simp [Rep]))⟩
    · cases e
  · cases e
def gListOf : U → Option R
  | .lst us => some (.fr (.lst us))
  | .tup us => some (.fr (.lst us))
  | _ => none
theorem call1_list : Call1S X (.type "list") gListOf := by
  refine ⟨_, call_list_of, fun F ρ E B σ H u1 v1 r3 Q rl t e q => ?_⟩
  unfold gListOf at e
  split at e
  · next us =>
    cases e
    obtain ⟨p, vs, rfl, h1, h2⟩ := t
    exact ⟨p, vs, rfl, .inl (.inl (.inl h1)), fun l hl => q _ _ (Aft.fresh rl hl h2)⟩
  · next us =>
    cases e
    obtain ⟨p, vs, rfl, h1, h2⟩ := t
    exact ⟨p, vs, rfl, .inr (sqT_of h1), fun l hl => q _ _ (Aft.fresh rl hl h2)⟩
  · cases e
def gTupleOf : U → Option R
  | .lst us => some (.w (.tup us))
  | .tup us => some (.w (.tup us))
  | _ => none
theorem call1_tuple : Call1S X (.type "tuple") gTupleOf := by
  refine ⟨_, call_tuple_of, fun F ρ E B σ H u1 v1 r3 Q rl t e q => ?_⟩
  unfold gTupleOf at e
  split at e
  · next us =>
    cases e
    obtain ⟨p, vs, rfl, h1, h2⟩ := t
    exact ⟨p, vs, rfl, .inl ⟨.inl (.inl h1), fun l hl => q _ _ (Aft.tuple rl hl h2)⟩⟩
  · next us =>
    cases e
    have t' := t
    obtain ⟨p, vs, rfl, h1, h2⟩ := t
    exact ⟨p, vs, rfl, .inr ⟨sqT_of h1, q _ _ (Aft.val rl (by simp only [Rep]; exact t'))⟩⟩
  · cases e
def blsOf : List U → Option (List Bool)
  | [] => some []
  | .bl b :: us => (blsOf us).map (b :: ·)
  | _ => none
theorem blsOf_reps {K : PySem.W.Frag} {H : Hp} {Lv : AS} {ρ : List Addr} : ∀ {us : List U} {vs : List V} {bs : List Bool}, Reps K H Lv ρ us vs → blsOf us = some bs → vs = bs.map V.bl
  | [], vs, bs, h, e => by simp only [Reps] at h; subst h; simp only [blsOf, Option.some.injEq] at e; subst e; rfl
  | u :: us, vs, bs, h, e => by
    simp only [Reps] at h
    obtain ⟨v, r, rfl, h1, h2⟩ := h
    cases u <;> simp only [blsOf, Option.map_eq_some_iff] at e <;> first | (cases e; done) | skip
    obtain ⟨cs, e1, rfl⟩ := e
    simp only [Rep] at h1
    rw [h1, blsOf_reps h2 e1]; rfl
def gAny : U → Option R
  | .lst us => (blsOf us).map fun bs => .w (.bl (bs.any id))
  | _ => none
def gAll : U → Option R
  | .lst us => (blsOf us).map fun bs => .w (.bl (bs.all id))
  | _ => none
theorem call1_any (hc : X.calm = true) : Call1S X (.builtin "any") gAny := by
  refine ⟨_, cr_any hc, fun F ρ E B σ H u1 v1 r3 Q rl t e q => ?_⟩
  unfold gAny at e
  split at e
  · next us =>
    simp only [Option.map_eq_some_iff] at e
    obtain ⟨bs, e1, rfl⟩ := e
    obtain ⟨p, vs, rfl, h1, h2⟩ := t
    exact ⟨p, bs, rfl, .inl (.inl (by rw [h1, blsOf_reps h2 e1])), q H _ (Aft.val rl (by simp [Rep]))⟩
  · cases e
theorem call1_all (hc : X.calm = true) : Call1S X (.builtin "all") gAll := by
  refine ⟨_, cr_all hc, fun F ρ E B σ H u1 v1 r3 Q rl t e q => ?_⟩
  unfold gAll at e
  split at e
  · next us =>
    simp only [Option.map_eq_some_iff] at e
    obtain ⟨bs, e1, rfl⟩ := e
    obtain ⟨p, vs, rfl, h1, h2⟩ := t
    exact ⟨p, bs, rfl, .inl (.inl (by rw [h1, blsOf_reps h2 e1])), q H _ (Aft.val rl (by simp [Rep]))⟩
  · cases e

/-! ### isinstance -/
def kindS : U → Option String
  | .non => some "NoneType"
  | .bl _ => some "bool"
  | .int _ => some "int"
  | .str _ => some "str"
  | .lst _ => some "list"
  | .tup _ => some "tuple"
  | .dct _ _ => some "dict"
  | .scr _ => some "list"
  | .box _ => none
theorem kind_top {K : PySem.W.Frag} {H : Hp} {Lv : AS} {ρ : List Addr} {u : U} {v : V} {s : String} (t : Top K H Lv ρ u v) (e : kindS u = some s) : TyX K H v (.type s) := by
  cases u with
  | non => cases e; rw [top_non t]; exact .base .non
  | bl _ => cases e; rw [top_bl t]; exact .base (.bl _)
  | int _ => cases e; rw [top_int t]; exact .base (.int _)
  | str _ => cases e; rw [top_str t]; exact .base (.str _)
  | lst _ => cases e; obtain ⟨p, vs, rfl, h1, _⟩ := t; exact .base (.lst h1)
  | tup _ =>
    cases e
    obtain ⟨p, vs, rfl, h1, _⟩ := t
    rcases h1 with ⟨h1 | ⟨o, h1⟩, _⟩ | ⟨o, its, n, h1, h2, _⟩
    · exact .base (.tup h1)
    · exact .fTuple h1
    · exact .kTuple h1 h2
  | dct _ _ => cases e; obtain ⟨p, vs, rfl, h1, _⟩ := t; exact .base (.dK h1)
  | box _ => cases e
  | scr _ =>
    cases e
    simp only [Top, Rep] at t
    obtain ⟨p, rfl, ⟨h1 | ⟨o, h1⟩, _⟩ | ⟨o, its, n, h1, h2, _⟩⟩ := t
    · exact .base (.lst h1)
    · exact .base (.frz h1)
    · exact .kList h1 h2
def gIsi (T : String) (u : U) : Option R := (kindS u).bind fun s => (kitB s T).map fun k => .w (.bl k)
def isAny (s : String) (Ts : List String) : Option Bool :=
  match Ts with
  | [] => some false
  | T :: Ts => (kitB s T).bind fun k => (isAny s Ts).map fun k' => k || k'
def gIsiT (Ts : List String) (u : U) : Option R := (kindS u).bind fun s => (isAny s Ts).map fun k => .w (.bl k)
theorem sndE_isi {T : String} {tx : Str} (hm : X.mg "isinstance" = none) (hmT : X.mg tx = none) (hvT : bootBuiltins tx = some (.type T)) (ha : SndE X a fa) (hg : Gl X "isinstance" := by rfl) (hgT : Gl X tx := by rfl) (hn : tx ≠ "__name__" := by decide) (hdb : (tx == ("__debug__" : Str)) = false := by decide)
    (hvI : bootBuiltins "isinstance" = some (.builtin "isinstance") := by decide +kernel) (hs : starEach [a, .Name tx p2] X.env = (false, eval a X.env) :: starEach [.Name tx p2] X.env := by rfl) : SndE X (.Call (.Name "isinstance" p) [a, .Name tx p2] [] pos) (m1 (gIsi T) fa) := by
  obtain ⟨ta, pa, ha⟩ := ha
  refine ⟨_, pe_callB call_isi hg hm hvI (pa_cons pa (pa_cons (pe_bltn (v := .ty T) hgT hmT hvT rfl hn hdb) pa_nil) hs) (by decide) (by decide) hs, ?_⟩
  refine m1_ok (r := fun v H Q => rIsi X.K [v, .ty T] H Q) (fun F ρ E B σ H u1 v1 r3 Q rl t e q => ?_) ha
  simp only [gIsi, Option.bind_eq_some_iff, Option.map_eq_some_iff] at e
  obtain ⟨s, e1, k, e2, rfl⟩ := e
  exact ⟨v1, .ty T, .type s, .type T, k, rfl, .ty T, kind_top t e1, kit_ty e2, q H _ (Aft.val rl (by simp [Rep]))⟩

/-! ### subscripts -/
def gIx : U → U → Option R
  | .lst us, .int i => (atI us i).map .w
  | .tup us, .int i => (atI us i).map .w
  | .str z, .int i => if z.length ≤ 16777216 then (atI z.cps.toList i).map fun c => .w (.str ⟨#[c]⟩) else none
  | .scr ns, .int i => (atI ns i).map fun n => .w (.int n)
  | _, _ => none
theorem atI_reps {K : PySem.W.Frag} {H : Hp} {Lv : AS} {ρ : List Addr} {us : List U} {vs : List V} {i : Int} {u : U} (h : Reps K H Lv ρ us vs) (e : atI us i = some u) : ∃ v, atI vs i = some v ∧ Rep K H Lv ρ u v := by
  unfold atI at e ⊢
  simp only [Option.bind_eq_some_iff] at e ⊢
  obtain ⟨j, e1, e2⟩ := e
  obtain ⟨v, h1, h2⟩ := h.get e2
  exact ⟨v, ⟨j, by rw [← h.len]; exact e1, h1⟩, h2⟩
theorem sndE_ix (ha : SndE X a fa) (hb : SndE X b fb) (hs : PlainIx b := by intro _ _; rfl) : SndE X (.Subscript a b pos) (m2 gIx fa fb) := by
  obtain ⟨ta, pa, ha⟩ := ha
  obtain ⟨tb, pb, hb⟩ := hb
  refine ⟨_, pe_ix ix_seq pa pb hs, m2_ok (f := fun _ _ => pure Value.none) (fun F ρ E B σ H u1 u2 v1 v2 r3 Q rl t1 t2 e q => ?_) ha hb⟩
  unfold gIx at e
  split at e
  · next us i =>
    simp only [Option.map_eq_some_iff] at e
    obtain ⟨w, e1, rfl⟩ := e
    obtain ⟨p, vs, rfl, h1, h2⟩ := t1
    obtain ⟨v, h3, h4⟩ := atI_reps h2 e1
    exact .inl ⟨p, vs, i, v, rfl, top_int t2, .inl (.inl h1), h3, q H _ (Aft.val rl h4)⟩
  · next us i =>
    simp only [Option.map_eq_some_iff] at e
    obtain ⟨w, e1, rfl⟩ := e
    obtain ⟨p, vs, rfl, h1, h2⟩ := t1
    obtain ⟨v, h3, h4⟩ := atI_reps h2 e1
    exact .inr (.inl ⟨p, vs, i, v, rfl, top_int t2, sqT_of h1, h3, q H _ (Aft.val rl h4)⟩)
  · next z i =>
    split at e
    · next hl =>
      simp only [Option.map_eq_some_iff] at e
      obtain ⟨c, e1, rfl⟩ := e
      exact .inr (.inr ⟨z, i, c, top_str t1, top_int t2, by rw [sizeLine_eq]; exact hl, e1, q H _ (Aft.val rl (by simp [Rep]))⟩)
    · cases e
  · next ns i =>
    simp only [Option.map_eq_some_iff] at e
    obtain ⟨n, e1, rfl⟩ := e
    simp only [Top, Rep] at t1
    obtain ⟨p, rfl, h1⟩ := t1
    refine .inl ⟨p, _, i, .int n, rfl, top_int t2, sqL_of h1, ?_, q H _ (Aft.val rl (by simp [Rep]))⟩
    unfold atI at e1 ⊢
    simp only [Option.bind_eq_some_iff] at e1 ⊢
    obtain ⟨j, e2, e3⟩ := e1
    exact ⟨j, by simpa using e2, by simp [e3]⟩
  · cases e

/-! ### slices -/
/-- a part of a slice -/
def SndO (X : Cx) (o : Option Expr) (f : En → Bx → O (Option Int)) : Prop :=
  ∃ t : TO, PO X o t ∧ ∀ F ρ E B σ H (Q : Option Int → Hp → Prop), Rel X.K F ρ E B σ H → (match f E B with | .ok i E' B' => ∀ ρ' H', AftT X.K F ρ E B σ H ρ' E' B' H' → Q i H' | _ => False) → t σ H Q
def mNoPart : En → Bx → O (Option Int) := fun E B => .ok none E B
def mPart (f : Ex) : En → Bx → O (Option Int) := fun E B => (f E B).bind fun r E1 B1 =>
  match r with
  | .w (.int i) => .ok (some i) E1 B1
  | _ => .bad
theorem sndO_none : SndO X none mNoPart := ⟨_, po_none, fun F ρ E B σ H Q rl h => h ρ H (AftT.refl rl)⟩
theorem sndO_some (ha : SndE X a fa) : SndO X (some a) (mPart fa) := by
  obtain ⟨ta, pa, ha⟩ := ha
  refine ⟨_, po_some pa, fun F ρ E B σ H Q rl h => ?_⟩
  refine ha F ρ E B σ H _ rl ?_
  simp only [mPart] at h
  cases h1 : fa E B with
  | bad => rw [h1] at h; exact h
  | ex c E' B' => rw [h1] at h; exact h
  | ok r1 E1 B1 =>
    rw [h1] at h
    intro ρ1 H1 v1 A1
    simp only [O.bind_ok] at h
    cases r1 with
    | w u =>
      cases u with
      | int i =>
        have rr := A1.rep
        simp only [RepR, Rep] at rr
        exact ⟨i, rr, h ρ1 H1 A1.letgo⟩
      | _ => exact h.elim
    | _ => exact h.elim
def cutU (us : List U) (lo hi : Option Int) : List U := (us.drop (HT.sIx us.length 0 lo)).take (HT.sIx us.length us.length hi - HT.sIx us.length 0 lo)
def gSl (u : U) (lo hi : Option Int) : Option R :=
  match u with
  | .lst us => some (.fr (.lst (cutU us lo hi)))
  | .tup us => some (.w (.tup (cutU us lo hi)))
  | .str z => if z.length ≤ 16777216 then some (.w (.str (cutS z lo hi))) else none
  | _ => none
def mSl (fa : Ex) (fl fh : En → Bx → O (Option Int)) : Ex := fun E B =>
  (fa E B).bind fun r E1 B1 => (fl E1 B1).bind fun lo E2 B2 => (fh E2 B2).bind fun hi E3 B3 =>
    match view r E3 B3 with
    | some u => match gSl u lo hi with
      | some r => .ok r E3 B3
      | none => .bad
    | none => .bad
theorem cutU_reps {K : PySem.W.Frag} {H : Hp} {Lv : AS} {ρ : List Addr} {us : List U} {vs : List V} {lo hi : Option Int} (h : Reps K H Lv ρ us vs) : Reps K H Lv ρ (cutU us lo hi) (cutV vs lo hi) := by
  unfold cutU cutV
  rw [h.len]
  exact (h.drop _).take _
theorem cutV_all {us : List V} {lo hi : Option Int} (h : HT.sIx us.length 0 lo = 0 ∧ HT.sIx us.length us.length hi = us.length) : cutV us lo hi = us := by
  unfold cutV
  rw [h.1, h.2]
  simp
theorem sndE_sl {lo hi : Option Expr} {fl fh : En → Bx → O (Option Int)} (ha : SndE X a fa) (hl : SndO X lo fl) (hh : SndO X hi fh) : SndE X (.Subscript a (.Slice lo hi none p2) pos) (mSl fa fl fh) := by
  obtain ⟨ta, pa, ha⟩ := ha
  obtain ⟨tl, pl, hl⟩ := hl
  obtain ⟨th, ph, hh⟩ := hh
  refine ⟨_, pe_slice ((sl_list.or sl_tupA).or sl_str) pa pl ph, fun F ρ E B σ H Q rl h => ?_⟩
  refine ha F ρ E B σ H _ rl ?_
  simp only [mSl] at h
  cases h1 : fa E B with
  | bad => rw [h1] at h; exact h
  | ex c E' B' => rw [h1] at h; exact h
  | ok r1 E1 B1 =>
    rw [h1] at h
    intro ρ1 H1 v1 A1
    simp only [O.bind_ok] at h
    refine hl _ ρ1 E1 B1 σ H1 _ A1.rel ?_
    cases h2 : fl E1 B1 with
    | bad => rw [h2] at h; exact h
    | ex c E' B' => rw [h2] at h; exact h
    | ok lo E2 B2 =>
      rw [h2] at h
      simp only [O.bind_ok] at h
      intro ρ2 H2 A2
      have A12 := A1.carry A2
      refine hh _ ρ2 E2 B2 σ H2 _ A12.rel ?_
      cases h3 : fh E2 B2 with
      | bad => rw [h3] at h; exact h
      | ex c E' B' => rw [h3] at h; exact h
      | ok hi E3 B3 =>
        rw [h3] at h
        simp only [O.bind_ok] at h
        intro ρ3 H3 A3
        have A13 := A12.carry A3
        have T1 := A13.letgo
        split at h
        · next u1 e1 =>
          have t1 := A13.top e1
          split at h
          · next r3 eg =>
            have fin : ∀ H' v, Aft X.K F ρ3 E3 B3 σ H3 r3 ρ3 E3 B3 H' v → Q v H' := fun H' v A4 => h ρ3 H' v (T1.then A4)
            unfold gSl at eg
            split at eg
            · next us =>
              cases eg
              obtain ⟨p, vs, rfl, k1, k2⟩ := t1
              exact .inl (.inl ⟨p, vs, rfl, .inl (.inl k1), fun q hq => fin _ _ (Aft.fresh T1.rel hq (cutU_reps k2))⟩)
            · next us =>
              cases eg
              obtain ⟨p, vs, rfl, k1, k2⟩ := t1
              refine .inl (.inr ⟨p, vs, rfl, sqT_of k1, fun z => fin _ _ (Aft.val T1.rel ?_), fun z q hq => fin _ _ (Aft.tuple T1.rel hq (cutU_reps k2))⟩)
              simp only [Rep]
              refine ⟨p, vs, rfl, k1, ?_⟩
              have := cutU_reps (lo := lo) (hi := hi) k2
              rw [cutV_all z] at this
              exact this
            · next z =>
              split at eg
              · next hz =>
                cases eg
                exact .inr ⟨z, top_str t1, by rw [sizeLine_eq]; exact hz, fin _ _ (Aft.val T1.rel (by simp [Rep]))⟩
              · cases eg
            · cases eg
          · exact h.elim
        · exact h.elim

/-! ### arguments, each at rest -/
structure AftA (K : PySem.W.Frag) (F : Fm) (ρ : List Addr) (E : En) (B : Bx) (σ : L2.St) (H : Hp) (us : List U) (ρ' : List Addr) (E' : En) (B' : Bx) (H' : Hp) (vs : List V) : Prop where
  t : AftT K F ρ E B σ H ρ' E' B' H'
  reps : Reps K H' (LvF F ρ' E' B' σ) ρ' us vs
abbrev Ar := En → Bx → O (List U)
def PostA (K : PySem.W.Frag) (F : Fm) (ρ : List Addr) (E : En) (B : Bx) (σ : L2.St) (H : Hp) : O (List U) → (List V → Hp → Prop) → Prop
  | .ok us E' B', Q => ∀ ρ' H' vs, AftA K F ρ E B σ H us ρ' E' B' H' vs → Q vs H'
  | _, _ => False
def SndA (X : Cx) (es : List Expr) (f : Ar) : Prop := ∃ t : TA, PA X es t ∧ ∀ F ρ E B σ H Q, Rel X.K F ρ E B σ H → PostA X.K F ρ E B σ H (f E B) Q → t σ H Q
def mNil : Ar := fun E B => .ok [] E B
def mCons (f : Ex) (fs : Ar) : Ar := fun E B => (f E B).bind fun r E1 B1 =>
  match settle r E1 with
  | some (u, E2) => (fs E2 B1).bind fun us E3 B3 => .ok (u :: us) E3 B3
  | none => .bad
theorem sndA_nil : SndA X [] mNil := ⟨_, pa_nil, fun F ρ E B σ H Q rl h => h ρ H [] ⟨AftT.refl rl, Reps.nil⟩⟩
/-- a result at rest -/
theorem Aft.settled {K : PySem.W.Frag} {F : Fm} {ρ ρ' : List Addr} {E E' E2 : En} {B B' : Bx} {σ : L2.St} {H H' : Hp} {r : R} {v : V} {u : U} (A : Aft K F ρ E B σ H r ρ' E' B' H' v) (h : settle r E' = some (u, E2)) :
    AftT K F ρ E B σ H ρ' E2 B' H' ∧ Rep K H' (LvF F ρ' E2 B' σ) ρ' u v := by
  obtain ⟨h1, h2, h3, h4⟩ := settle_ok A.rel A.rep h
  exact ⟨⟨A.px, h1, A.stp.trans h2, A.le.trans h3⟩, h4⟩
theorem sndA_cons {fs : Ar} (ha : SndE X e fa) (hr : SndA X es fs) (hs : starEach (e :: es) X.env = (false, eval e X.env) :: starEach es X.env := by rfl) : SndA X (e :: es) (mCons fa fs) := by
  obtain ⟨ta, pa, ha⟩ := ha
  obtain ⟨tr, pr, hr⟩ := hr
  refine ⟨_, pa_cons pa pr hs, fun F ρ E B σ H Q rl h => ?_⟩
  refine ha F ρ E B σ H _ rl ?_
  simp only [mCons] at h
  cases h1 : fa E B with
  | bad => rw [h1] at h; exact h
  | ex c E' B' => rw [h1] at h; exact h
  | ok r1 E1 B1 =>
    rw [h1] at h
    intro ρ1 H1 v1 A1
    simp only [O.bind_ok] at h
    split at h
    · next u E2 es =>
      obtain ⟨T1, R1⟩ := A1.settled es
      refine hr F ρ1 E2 B1 σ H1 _ T1.rel ?_
      cases h2 : fs E2 B1 with
      | bad => rw [h2] at h; exact h
      | ex c E' B' => rw [h2] at h; exact h
      | ok us E3 B3 =>
        rw [h2] at h
        simp only [O.bind_ok] at h
        intro ρ3 H3 vs A3
        exact h ρ3 H3 (v1 :: vs) ⟨T1.trans A3.t, Reps.cons (Rep.mono A3.t.stp A3.t.px _ _ R1) A3.reps⟩
    · exact h.elim
/-! ### displays -/
def mTup (fs : Ar) : Ex := fun E B => (fs E B).bind fun us E1 B1 => if us.length ≤ 16777216 then .ok (.w (.tup us)) E1 B1 else .bad
def mLst (fs : Ar) : Ex := fun E B => (fs E B).bind fun us E1 B1 => if us.length ≤ 16777216 then .ok (.fr (.lst us)) E1 B1 else .bad
theorem sndE_tup {fs : Ar} {k} (h : SndA X es fs) : SndE X (.Tuple es k pos) (mTup fs) := by
  obtain ⟨t, p1, h⟩ := h
  refine ⟨_, pe_tup p1, fun F ρ E B σ H Q rl q => ?_⟩
  refine h F ρ E B σ H _ rl ?_
  simp only [mTup] at q
  cases h1 : fs E B with
  | bad => rw [h1] at q; exact q
  | ex c E' B' => rw [h1] at q; exact q
  | ok us E1 B1 =>
    rw [h1] at q
    intro ρ1 H1 vs A1
    simp only [O.bind_ok] at q
    split at q
    · next hl => exact ⟨by rw [sizeLine_eq, ← A1.reps.len]; exact hl, fun p hp => q ρ1 _ _ (A1.t.then (Aft.tuple A1.t.rel hp A1.reps))⟩
    · exact q.elim
theorem sndE_lst {fs : Ar} (h : SndA X es fs) : SndE X (.List es pos) (mLst fs) := by
  obtain ⟨t, p1, h⟩ := h
  refine ⟨_, pe_lst p1, fun F ρ E B σ H Q rl q => ?_⟩
  refine h F ρ E B σ H _ rl ?_
  simp only [mLst] at q
  cases h1 : fs E B with
  | bad => rw [h1] at q; exact q
  | ex c E' B' => rw [h1] at q; exact q
  | ok us E1 B1 =>
    rw [h1] at q
    intro ρ1 H1 vs A1
    simp only [O.bind_ok] at q
    split at q
    · next hl => exact ⟨by rw [sizeLine_eq, ← A1.reps.len]; exact hl, fun p hp => q ρ1 _ _ (A1.t.then (Aft.fresh A1.t.rel hp A1.reps))⟩
    · exact q.elim
/-! ### built-ins of several arguments at rest -/
def mB (g : List U → Option R) (fs : Ar) : Ex := fun E B => (fs E B).bind fun us E1 B1 =>
  match g us with
  | some r => .ok r E1 B1
  | none => .bad
def CallNS (X : Cx) (f : Value) (g : List U → Option R) : Prop :=
  ∃ r, CallR X f r ∧ ∀ F ρ E B σ H us vs r3 Q, Rel X.K F ρ E B σ H → Reps X.K H (LvF F ρ E B σ) ρ us vs → g us = some r3 → (∀ H' v, Aft X.K F ρ E B σ H r3 ρ E B H' v → Q v H') → r vs H Q
theorem sndE_bn {id : String} {g : List U → Option R} {fs : Ar} (hc : CallNS X (.builtin id) g) (hm : X.mg x = none) (hv : bootBuiltins x = some (.builtin id)) (ha : SndA X (e :: es) fs) (hg : Gl X x := by rfl) (hn : x ≠ "__name__" := by decide) (hdb : (x == ("__debug__" : Str)) = false := by decide)
    (hs : starEach (e :: es) X.env = (false, eval e X.env) :: starEach es X.env := by rfl) (hpl : (backTo pos (starEach es X.env)).any (·.1) = false := by rfl) : SndE X (.Call (.Name x p) (e :: es) [] pos) (mB g fs) := by
  obtain ⟨r, hr, ho⟩ := hc
  obtain ⟨ta, pa, ha⟩ := ha
  refine ⟨_, pe_callB hr hg hm hv pa hn hdb hs hpl, fun F ρ E B σ H Q rl q => ?_⟩
  refine ha F ρ E B σ H _ rl ?_
  simp only [mB] at q
  cases h1 : fs E B with
  | bad => rw [h1] at q; exact q
  | ex c E' B' => rw [h1] at q; exact q
  | ok us E1 B1 =>
    rw [h1] at q
    intro ρ1 H1 vs A1
    simp only [O.bind_ok] at q
    split at q
    · next r3 eg => exact ho F ρ1 E1 B1 σ H1 us vs r3 Q A1.t.rel A1.reps eg fun H' v A3 => q ρ1 H' v (A1.t.then A3)
    · exact q.elim
def gMax2 : List U → Option R
  | [.int i, .int j] => some (.w (.int (if j > i then j else i)))
  | _ => none
def gMin2 : List U → Option R
  | [.int i, .int j] => some (.w (.int (if j < i then j else i)))
  | _ => none
theorem callN_max (hc : X.calm = true) : CallNS X (.builtin "max") gMax2 := by
  refine ⟨_, call_max2 hc, fun F ρ E B σ H us vs r3 Q rl t e q => ?_⟩
  unfold gMax2 at e
  split at e
  · next i j =>
    cases e
    simp only [Reps, Rep] at t
    obtain ⟨v, r, rfl, rfl, w, r2, rfl, rfl, rfl⟩ := t
    exact ⟨i, j, rfl, q H _ (Aft.val rl (by simp [Rep]))⟩
  · cases e
theorem callN_min (hc : X.calm = true) : CallNS X (.builtin "min") gMin2 := by
  refine ⟨_, call_min2 hc, fun F ρ E B σ H us vs r3 Q rl t e q => ?_⟩
  unfold gMin2 at e
  split at e
  · next i j =>
    cases e
    simp only [Reps, Rep] at t
    obtain ⟨v, r, rfl, rfl, w, r2, rfl, rfl, rfl⟩ := t
    exact ⟨i, j, rfl, q H _ (Aft.val rl (by simp [Rep]))⟩
  · cases e
/-! ### methods of texts -/
def mM (g : U → List U → Option R) (fo : Ex) (fs : Ar) : Ex := fun E B => (fo E B).bind fun r E1 B1 =>
  match r with
  | .w (.str z) => (fs E1 B1).bind fun us E2 B2 => match g (.str z) us with
    | some r => .ok r E2 B2
    | none => .bad
  | _ => .bad
def MethS (X : Cx) (id : String) (g : U → List U → Option R) : Prop :=
  ∃ r, MtR X id r ∧ ∀ F ρ E B σ H (z : Str) us vs r3 Q, Rel X.K F ρ E B σ H → Reps X.K H (LvF F ρ E B σ) ρ us vs → g (.str z) us = some r3 → (∀ H' v, Aft X.K F ρ E B σ H r3 ρ E B H' v → Q v H') → r (.str z) vs H Q
end
end QB
/-! QbF: writing, calls of defs, statements, defs. -/
namespace QB
open PySem L2
section
variable {K : PySem.W.Frag} {F : Fm} {ρ ρ' : List Addr} {E E' : En} {B B' : Bx} {σ : L2.St} {H H' : Hp} {p : Addr} {v : V} {u : U} {o : Option HO}
theorem Rel.setVal {i : Nat} (r : Rel K F ρ E B σ H) (hi : i < E.length) (h : Rep K H (LvF F ρ E B σ) ρ u v) : Rel K F ρ (E.set i (.val u)) B (σ.set i (some v)) H := by
  have px : ρ <+: ρ := List.prefix_refl _
  have hi2 : i < σ.length := by rw [← r.elen]; exact hi
  have ownSet : ∀ (j : Nat) (d : Cell), (E.set i (.val u))[j]? = some (.own d) → E[j]? = some (.own d) ∧ (σ.set i (some v))[j]? = σ[j]? := fun j d e => by
    by_cases hj : i = j
    · subst hj; rw [List.getElem?_set_self hi] at e; cases e
    · rw [List.getElem?_set_ne hj] at e; exact ⟨e, List.getElem?_set_ne hj⟩
  have less : ∀ q, LvF F ρ (E.set i (.val u)) B (σ.set i (some v)) q → LvF F ρ E B σ q := fun q z => by
    rcases z with z | z | ⟨j, d, h1, h2⟩
    · exact .inl z
    · exact .inr (.inl z)
    · obtain ⟨h3, h4⟩ := ownSet j d h1
      exact .inr (.inr ⟨j, d, h3, by rw [← h4]; exact h2⟩)
  have s : Stp H (LvF F ρ E B σ) H (LvF F ρ (E.set i (.val u)) B (σ.set i (some v))) := Stp.less less
  refine ⟨by rw [List.length_set, List.length_set]; exact r.elen, r.blen, fun j w e => ?_, fun j d e => ?_, fun j k d f q e1 e2 e3 e4 => ?_, fun j d q e1 e2 e3 => ?_, r.binj, r.out, r.old.trans s, r.grow⟩
  · by_cases hj : i = j
    · subst hj; rw [List.getElem?_set_self hi] at e; cases e; exact ⟨v, List.getElem?_set_self hi2, h.mono s px⟩
    · rw [List.getElem?_set_ne hj] at e
      obtain ⟨w', h1, h2⟩ := r.val j w e
      exact ⟨w', by rw [List.getElem?_set_ne hj]; exact h1, h2.mono s px⟩
  · obtain ⟨h1, h2⟩ := ownSet j d e
    obtain ⟨h3, q, h4, h5, h6⟩ := r.own j d h1
    exact ⟨h3, q, by rw [h2]; exact h4, h5.mono s px rfl, h6⟩
  · obtain ⟨a1, a2⟩ := ownSet j d e1
    obtain ⟨b1, b2⟩ := ownSet k f e2
    exact r.oinj j k d f q a1 b1 (by rw [← a2]; exact e3) (by rw [← b2]; exact e4)
  · obtain ⟨h4, h5⟩ := r.box j d q e1 e2 e3
    exact ⟨h4.mono s px rfl, h5⟩
theorem Rel.setOwn {i : Nat} {c : Cell} (r : Rel K (F.add p o) ρ E B σ H) (n : New F p) (hi : i < E.length) (hl : c.live = true) (h : CellOk K H (LvF (F.add p o) ρ E B σ) ρ c p) : Rel K F ρ (E.set i (.own c)) B (σ.set i (some (.ref p))) H := by
  have px : ρ <+: ρ := List.prefix_refl _
  have hi2 : i < σ.length := by rw [← r.elen]; exact hi
  have ownSet : ∀ (j : Nat) (d : Cell), i ≠ j → (E.set i (.own c))[j]? = some (.own d) → E[j]? = some (.own d) ∧ (σ.set i (some (.ref p)))[j]? = σ[j]? := fun j d hj e => by
    rw [List.getElem?_set_ne hj] at e; exact ⟨e, List.getElem?_set_ne hj⟩
  have less : ∀ q, LvF F ρ (E.set i (.own c)) B (σ.set i (some (.ref p))) q → LvF (F.add p o) ρ E B σ q := fun q z => by
    rw [LvF.add_iff]
    rcases z with z | z | ⟨j, d, h1, h2⟩
    · exact .inl (.inl z)
    · exact .inl (.inr (.inl z))
    · by_cases hj : i = j
      · subst hj
        rw [List.getElem?_set_self hi2] at h2
        exact .inr (by simpa using h2.symm)
      · obtain ⟨h3, h4⟩ := ownSet j d hj h1
        exact .inl (.inr (.inr ⟨j, d, h3, by rw [← h4]; exact h2⟩))
  have s : Stp H (LvF (F.add p o) ρ E B σ) H (LvF F ρ (E.set i (.own c)) B (σ.set i (some (.ref p)))) := Stp.less less
  have notB : ¬ BLv ρ B p := fun ⟨j, d, h1, h2, h3⟩ => (r.box j d p h1 h2 h3).2 (.inr rfl)
  have nes : ∀ (j : Nat) (d : Cell) (q : Addr), E[j]? = some (.own d) → σ[j]? = some (some (.ref q)) → q ≠ p := fun j d q e1 e2 e => by
    obtain ⟨_, p', h3, _, h4, _⟩ := r.own j d e1
    rw [h3] at e2
    have : p' = q := by simpa using e2
    subst this
    exact h4 (.inr e)
  refine ⟨by rw [List.length_set, List.length_set]; exact r.elen, r.blen, fun j w e => ?_, fun j d e => ?_, fun j k d f q e1 e2 e3 e4 => ?_, fun j d q e1 e2 e3 => ?_, r.binj, fun q h => ?_, fun q u h z => ?_, fun q u h => ?_⟩
  · by_cases hj : i = j
    · subst hj; rw [List.getElem?_set_self hi] at e; cases e
    · rw [List.getElem?_set_ne hj] at e
      obtain ⟨w', h1, h2⟩ := r.val j w e
      exact ⟨w', by rw [List.getElem?_set_ne hj]; exact h1, h2.mono s px⟩
  · by_cases hj : i = j
    · subst hj; rw [List.getElem?_set_self hi] at e; cases e
      exact ⟨hl, p, List.getElem?_set_self hi2, h.mono s px rfl, n.out, notB⟩
    · obtain ⟨h1, h2⟩ := ownSet j d hj e
      obtain ⟨h3, q, h4, h5, h6, h7⟩ := r.own j d h1
      exact ⟨h3, q, by rw [h2]; exact h4, h5.mono s px rfl, fun z => h6 (.inl z), h7⟩
  · by_cases hj : i = j <;> by_cases hk : i = k
    · omega
    · subst hj
      obtain ⟨b1, b2⟩ := ownSet k f hk e2
      rw [List.getElem?_set_self hi2] at e3
      have : p = q := by simpa using e3
      subst this
      exact absurd rfl (nes k f p b1 (by rw [← b2]; exact e4))
    · subst hk
      obtain ⟨b1, b2⟩ := ownSet j d hj e1
      rw [List.getElem?_set_self hi2] at e4
      have : p = q := by simpa using e4
      subst this
      exact absurd rfl (nes j d p b1 (by rw [← b2]; exact e3))
    · obtain ⟨a1, a2⟩ := ownSet j d hj e1
      obtain ⟨b1, b2⟩ := ownSet k f hk e2
      exact r.oinj j k d f q a1 b1 (by rw [← a2]; exact e3) (by rw [← b2]; exact e4)
  · obtain ⟨h4, h5⟩ := r.box j d q e1 e2 e3
    exact ⟨h4.mono s px rfl, fun z => h5 (.inl z)⟩
  · have ne : q ≠ p := fun z => n.out (z ▸ h)
    have e := r.out q (.inl h)
    simpa [Fm.add, ne] using e
  · have ne : q ≠ p := fun y => by rw [y, n.h0] at h; cases h
    have := r.old q u (by simp [Fm.add, ne, h]) (fun y => y.elim z ne)
    exact ⟨this.1, fun y => this.2 (less q y)⟩
  · have ne : q ≠ p := fun y => by rw [y, n.h0] at h; cases h
    exact r.grow q u (by simp [Fm.add, ne, h])
/-! ### writing -/
def cellOf (r : R) (E : En) (B : Bx) : Option Cell :=
  match r with
  | .s i => match E[i]? with
    | some (.own c) => some c
    | some (.val (.box j)) => B[j]?
    | _ => none
  | .w (.box j) => B[j]?
  | _ => none
def put (r : R) (E : En) (B : Bx) (c : Cell) : En × Bx :=
  match r with
  | .s i => match E[i]? with
    | some (.own _) => (E.set i (.own c), B)
    | some (.val (.box j)) => (E, B.set j c)
    | _ => (E, B)
  | .w (.box j) => (E, B.set j c)
  | _ => (E, B)
/-- the cell at p, live, gets another content -/
theorem Rel.wrS {i : Nat} {c c' : Cell} {ob : HO} (r : Rel K F ρ E B σ H) (he : E[i]? = some (.own c)) (hσ : σ[i]? = some (some (.ref p))) (hl' : c'.live = true)
    (hc : Stp H (LvF F ρ E B σ) (upd H p ob) (LvF F ρ (E.set i (.own c')) B σ) → CellOk K (upd H p ob) (LvF F ρ (E.set i (.own c')) B σ) ρ c' p) :
    Rel K F ρ (E.set i (.own c')) B σ (upd H p ob) ∧ Stp H (LvF F ρ E B σ) (upd H p ob) (LvF F ρ (E.set i (.own c')) B σ) ∧ EnLe E (E.set i (.own c')) := by
  have px : ρ <+: ρ := List.prefix_refl _
  have hi : i < E.length := (List.getElem?_eq_some_iff.mp he).1
  obtain ⟨_, p', hp', _, nO, nB⟩ := r.own i c he
  rw [hσ] at hp'
  have e : p' = p := by simpa using hp'.symm
  subst e
  have lv : ∀ q, LvF F ρ (E.set i (.own c')) B σ q → LvF F ρ E B σ q := fun q z => by
    rcases z with z | z | ⟨j, d, h1, h2⟩
    · exact .inl z
    · exact .inr (.inl z)
    · by_cases hj : i = j
      · subst hj; exact .inr (.inr ⟨i, c, he, h2⟩)
      · rw [List.getElem?_set_ne hj] at h1; exact .inr (.inr ⟨j, d, h1, h2⟩)
  have lp : LvF F ρ E B σ p' := .inr (.inr ⟨i, c, he, hσ⟩)
  have s : Stp H (LvF F ρ E B σ) (upd H p' ob) (LvF F ρ (E.set i (.own c')) B σ) := fun q x h n => ⟨by rw [upd_ne (by rintro rfl; exact n lp)]; exact h, fun z => n (lv q z)⟩
  refine ⟨⟨by rw [List.length_set]; exact r.elen, r.blen, fun j w e => ?_, fun j d e => ?_, fun j k d f q e1 e2 e3 e4 => ?_, fun j d q e1 e2 e3 => ?_, r.binj, fun q h => ?_, r.old.trans s, fun q x h => ?_⟩, s, fun j hj => ?_⟩
  · by_cases hj : i = j
    · subst hj; rw [List.getElem?_set_self hi] at e; cases e
    · rw [List.getElem?_set_ne hj] at e
      obtain ⟨w', h1, h2⟩ := r.val j w e
      exact ⟨w', h1, h2.mono s px⟩
  · by_cases hj : i = j
    · subst hj; rw [List.getElem?_set_self hi] at e; cases e
      exact ⟨hl', p', hσ, hc s, nO, nB⟩
    · rw [List.getElem?_set_ne hj] at e
      obtain ⟨h3, q, h4, h5, h6, h7⟩ := r.own j d e
      have ne : q ≠ p' := fun z => by subst z; exact hj (r.oinj i j c d q he e hσ h4)
      exact ⟨h3, q, h4, h5.mono s px (upd_ne ne), h6, h7⟩
  · have key : ∀ (j : Nat) (d : Cell), (E.set i (.own c'))[j]? = some (.own d) → ∃ d', E[j]? = some (.own d') := fun j d e => by
      by_cases hj : i = j
      · subst hj; exact ⟨c, he⟩
      · rw [List.getElem?_set_ne hj] at e; exact ⟨d, e⟩
    obtain ⟨d1, a1⟩ := key j d e1
    obtain ⟨d2, a2⟩ := key k f e2
    exact r.oinj j k d1 d2 q a1 a2 e3 e4
  · obtain ⟨h4, h5⟩ := r.box j d q e1 e2 e3
    have ne : q ≠ p' := fun z => nB (z ▸ ⟨j, d, e1, e2, e3⟩)
    exact ⟨h4.mono s px (upd_ne ne), h5⟩
  · have ne : q ≠ p' := fun z => nO (z ▸ h)
    rw [upd_ne ne]; exact r.out q h
  · obtain ⟨o', h1⟩ := r.grow q x h
    by_cases ne : q = p'
    · subst ne; exact ⟨ob, upd_same⟩
    · exact ⟨o', by rw [upd_ne ne]; exact h1⟩
  · by_cases hj' : i = j
    · subst hj'; exact .inr ⟨c', List.getElem?_set_self hi⟩
    · unfold IsSet; rw [List.getElem?_set_ne hj']; exact hj
theorem Rel.wrB {i : Nat} {c c' : Cell} {ob : HO} (r : Rel K F ρ E B σ H) (hb : B[i]? = some c) (hl : c.live = true) (hρ : ρ[i]? = some p) (hl' : c'.live = true)
    (hc : Stp H (LvF F ρ E B σ) (upd H p ob) (LvF F ρ E (B.set i c') σ) → CellOk K (upd H p ob) (LvF F ρ E (B.set i c') σ) ρ c' p) :
    Rel K F ρ E (B.set i c') σ (upd H p ob) ∧ Stp H (LvF F ρ E B σ) (upd H p ob) (LvF F ρ E (B.set i c') σ) := by
  have px : ρ <+: ρ := List.prefix_refl _
  have hi : i < B.length := (List.getElem?_eq_some_iff.mp hb).1
  obtain ⟨_, nO⟩ := r.box i c p hb hl hρ
  have key : ∀ (j : Nat) (d : Cell), (B.set i c')[j]? = some d → d.live = true → ∃ d', B[j]? = some d' ∧ d'.live = true := fun j d e hd => by
    by_cases hj : i = j
    · subst hj; exact ⟨c, hb, hl⟩
    · rw [List.getElem?_set_ne hj] at e; exact ⟨d, e, hd⟩
  have lv : ∀ q, LvF F ρ E (B.set i c') σ q → LvF F ρ E B σ q := fun q z => by
    rcases z with z | ⟨j, d, h1, h2, h3⟩ | z
    · exact .inl z
    · obtain ⟨d', h4, h5⟩ := key j d h1 h2
      exact .inr (.inl ⟨j, d', h4, h5, h3⟩)
    · exact .inr (.inr z)
  have blv : ∀ q, BLv ρ (B.set i c') q → BLv ρ B q := fun q ⟨j, d, h1, h2, h3⟩ => by
    obtain ⟨d', h4, h5⟩ := key j d h1 h2
    exact ⟨j, d', h4, h5, h3⟩
  have lb : BLv ρ B p := ⟨i, c, hb, hl, hρ⟩
  have lp : LvF F ρ E B σ p := .inr (.inl lb)
  have s : Stp H (LvF F ρ E B σ) (upd H p ob) (LvF F ρ E (B.set i c') σ) := fun q x h n => ⟨by rw [upd_ne (by rintro rfl; exact n lp)]; exact h, fun z => n (lv q z)⟩
  refine ⟨⟨r.elen, by rw [List.length_set]; exact r.blen, fun j w e => ?_, fun j d e => ?_, r.oinj, fun j d q e1 e2 e3 => ?_, fun j k d f q e1 e2 e3 e4 e5 e6 => ?_, fun q h => ?_, r.old.trans s, fun q x h => ?_⟩, s⟩
  · obtain ⟨w', h1, h2⟩ := r.val j w e
    exact ⟨w', h1, h2.mono s px⟩
  · obtain ⟨h3, q, h4, h5, h6, h7⟩ := r.own j d e
    have ne : q ≠ p := fun z => h7 (z ▸ lb)
    exact ⟨h3, q, h4, h5.mono s px (upd_ne ne), h6, fun z => h7 (blv q z)⟩
  · by_cases hj : i = j
    · subst hj
      rw [List.getElem?_set_self hi] at e1; cases e1
      rw [hρ] at e3; cases e3
      exact ⟨hc s, nO⟩
    · rw [List.getElem?_set_ne hj] at e1
      obtain ⟨h4, h5⟩ := r.box j d q e1 e2 e3
      have ne : q ≠ p := fun z => by subst z; exact hj (r.binj i j c d q hb hl e1 e2 hρ e3)
      exact ⟨h4.mono s px (upd_ne ne), h5⟩
  · obtain ⟨d1, a1, a2⟩ := key j d e1 e2
    obtain ⟨d2, a3, a4⟩ := key k f e3 e4
    exact r.binj j k d1 d2 q a1 a2 a3 a4 e5 e6
  · have ne : q ≠ p := fun z => nO (z ▸ h)
    rw [upd_ne ne]; exact r.out q h
  · obtain ⟨o', h1⟩ := r.grow q x h
    by_cases ne : q = p
    · subst ne; exact ⟨ob, upd_same⟩
    · exact ⟨o', by rw [upd_ne ne]; exact h1⟩
/-- what a changeable thing is, and how it is changed -/
theorem wr_ok {r : R} {c c' : Cell} {ob : HO} (rl : Rel K F ρ E B σ H) (hnf : ∀ d, r ≠ .fr d) (rr : RepR K F H (LvF F ρ E B σ) ρ E σ r v) (hc : cellOf r E B = some c) (hl : c.live = true) (hl' : c'.live = true) :
    ∃ p, v = .ref p ∧ CellOk K H (LvF F ρ E B σ) ρ c p ∧
      ∀ ob, (∀ Lv', Stp H (LvF F ρ E B σ) (upd H p ob) Lv' → CellOk K (upd H p ob) Lv' ρ c' p) → AftT K F ρ E B σ H ρ (put r E B c').1 (put r E B c').2 (upd H p ob) := by
  have px : ρ <+: ρ := List.prefix_refl _
  have boxed : ∀ j, B[j]? = some c → Rep K H (LvF F ρ E B σ) ρ (.box j) v → ∃ p, v = .ref p ∧ CellOk K H (LvF F ρ E B σ) ρ c p ∧
      ∀ ob, (∀ Lv', Stp H (LvF F ρ E B σ) (upd H p ob) Lv' → CellOk K (upd H p ob) Lv' ρ c' p) → AftT K F ρ E B σ H ρ E (B.set j c') (upd H p ob) := fun j hB hr => by
    simp only [Rep] at hr
    obtain ⟨p, hp, rfl⟩ := hr
    refine ⟨p, rfl, (rl.box j c p hB hl hp).1, fun ob h => ?_⟩
    obtain ⟨h1, h2⟩ := rl.wrB (ob := ob) hB hl hp hl' (h _)
    exact ⟨px, h1, h2, EnLe.refl⟩
  cases r with
  | fr d => exact absurd rfl (hnf d)
  | w x =>
    cases x with
    | box j => exact boxed j hc rr
    | _ => cases hc
  | s i =>
    simp only [cellOf] at hc
    simp only [put]
    split at hc
    · next d hd =>
      cases hc
      obtain ⟨_, p, h1, h2, _⟩ := rl.own i c hd
      have e : v = .ref p := by
        have := rr.1
        rw [h1] at this
        simpa using this.symm
      subst e
      refine ⟨p, rfl, h2, fun ob h => ?_⟩
      obtain ⟨h3, h4, h5⟩ := rl.wrS (ob := ob) hd h1 hl' (h _)
      exact ⟨px, h3, h4, h5⟩
    · next j hj =>
      obtain ⟨w, h4, h5⟩ := rl.val i _ hj
      have e : w = v := by
        have := rr.1
        rw [h4] at this
        simpa using this
      subst e
      exact boxed j hc h5
    · cases hc
end

/-! ### calls of defs -/
def OB (Out : AS) (ρ : List Addr) (B : Bx) : AS := fun q => Out q ∨ BLv ρ B q
structure BRel (K : PySem.W.Frag) (Out : AS) (ρ : List Addr) (B : Bx) (H : Hp) : Prop where
  blen : ρ.length = B.length
  box : ∀ (i : Nat) (c : Cell) (p : Addr), B[i]? = some c → c.live = true → ρ[i]? = some p → CellOk K H (OB Out ρ B) ρ c p ∧ ¬ Out p
  binj : ∀ (i j : Nat) (c d : Cell) (p : Addr), B[i]? = some c → c.live = true → B[j]? = some d → d.live = true → ρ[i]? = some p → ρ[j]? = some p → i = j
  out : ∀ q, Out q → ∃ o, H q = some o
structure BAft (K : PySem.W.Frag) (Out : AS) (ρ : List Addr) (B : Bx) (H : Hp) (u : U) (ρ' : List Addr) (B' : Bx) (H' : Hp) (v : V) : Prop where
  px : ρ <+: ρ'
  rel : BRel K Out ρ' B' H'
  same : ∀ q, Out q → H' q = H q
  stp : Stp H (OB Out ρ B) H' (OB Out ρ' B')
  grow : ∀ q o, H q = some o → ∃ o', H' q = some o'
  rep : Rep K H' (OB Out ρ' B') ρ' u v
/-- the promise: the def does what the function g says -/
def spF (K : PySem.W.Frag) (n : Nat) (g : Fn) : Sp := fun vs H Q _ => ∃ Out ρ B us, us.length = n ∧ BRel K Out ρ B H ∧ Reps K H (OB Out ρ B) ρ us vs ∧
  match g us B with
  | .ok u B' => ∀ ρ' H' v, BAft K Out ρ B H u ρ' B' H' v → Q v H'
  | _ => False
theorem spF_len {K : PySem.W.Frag} {n : Nat} {g : Fn} : ∀ vs H Q E, spF K n g vs H Q E → vs.length = n := fun vs H Q E ⟨Out, ρ, B, us, h1, _, h3, _⟩ => by rw [← h3.len]; exact h1
/-- where g says more -/
def FLe (g g' : Fn) : Prop := ∀ us B, g' us B ≠ .bad → g us B = g' us B
theorem spF_imp {K : PySem.W.Frag} {n : Nat} {g g' : Fn} (h : ∀ us B, us.length = n → g' us B ≠ .bad → g us B = g' us B) : ∀ vs H Q E, spF K n g' vs H Q E → spF K n g vs H Q E := fun vs H Q E ⟨Out, ρ, B, us, h1, h2, h3, h4⟩ =>
  ⟨Out, ρ, B, us, h1, h2, h3, by
    cases e : g' us B with
    | bad => rw [e] at h4; exact h4.elim
    | ex c B' => rw [e] at h4; exact h4.elim
    | ok u B' =>
      rw [h us B h1 (by rw [e]; intro z; cases z), e]
      rw [e] at h4
      exact h4⟩
section
variable {K : PySem.W.Frag} {F : Fm} {ρ ρ' : List Addr} {E E' : En} {B B' : Bx} {σ : L2.St} {H H' : Hp} {p : Addr} {v : V} {u : U} {o : Option HO}
abbrev outOf (F : Fm) (E : En) (σ : L2.St) : AS := fun q => F.Out q ∨ SLv E σ q
theorem ob_iff {q : Addr} : OB (outOf F E σ) ρ B q ↔ LvF F ρ E B σ q := by
  unfold OB LvF outOf
  constructor
  · rintro ((h | h) | h)
    · exact .inl h
    · exact .inr (.inr h)
    · exact .inr (.inl h)
  · rintro (h | h | h)
    · exact .inl (.inl h)
    · exact .inr h
    · exact .inl (.inr h)
theorem ob_eq : OB (outOf F E σ) ρ B = LvF F ρ E B σ := funext fun _ => propext ob_iff
theorem Rel.brel (r : Rel K F ρ E B σ H) : BRel K (outOf F E σ) ρ B H := by
  refine ⟨r.blen, fun i c p h1 h2 h3 => ?_, r.binj, fun q h => r.lv_there q (ob_iff.mp (.inl h))⟩
  obtain ⟨h4, h5⟩ := r.box i c p h1 h2 h3
  rw [ob_eq]
  refine ⟨h4, fun z => z.elim h5 fun ⟨j, d, e1, e2⟩ => ?_⟩
  obtain ⟨_, p', e3, _, _, e4⟩ := r.own j d e1
  rw [e3] at e2
  have : p' = p := by simpa using e2
  subst this
  exact e4 ⟨i, c, h1, h2, h3⟩
theorem Rel.back {v : V} (r : Rel K F ρ E B σ H) (a : BAft K (outOf F E σ) ρ B H u ρ' B' H' v) : Aft K F ρ E B σ H (.w u) ρ' E B' H' v := by
  have s : Stp H (LvF F ρ E B σ) H' (LvF F ρ' E B' σ) := by have := a.stp; rw [ob_eq, ob_eq] at this; exact this
  have rp : Rep K H' (LvF F ρ' E B' σ) ρ' u v := by have := a.rep; rw [ob_eq] at this; exact this
  refine ⟨a.px, ⟨r.elen, a.rel.blen, fun i w h => ?_, fun i c h => ?_, r.oinj, fun i c q h1 h2 h3 => ?_, a.rel.binj, fun q h => ?_, r.old.trans s, fun q x h => ?_⟩, s, EnLe.refl, rp⟩
  · obtain ⟨w', h1, h2⟩ := r.val i w h
    exact ⟨w', h1, h2.mono s a.px⟩
  · obtain ⟨h1, q, h2, h3, h4, h5⟩ := r.own i c h
    have oq : outOf F E σ q := .inr ⟨i, c, h, h2⟩
    exact ⟨h1, q, h2, h3.mono s a.px (a.same q oq), h4, fun ⟨j, d, e1, e2, e3⟩ => (a.rel.box j d q e1 e2 e3).2 oq⟩
  · have := a.rel.box i c q h1 h2 h3
    rw [ob_eq] at this
    exact ⟨this.1, fun z => this.2 (.inl z)⟩
  · rw [a.same q (.inl h)]; exact r.out q h
  · obtain ⟨o', h1⟩ := r.grow q x h
    exact a.grow q o' h1
end
def mCall (g : Fn) (fs : Ar) : Ex := fun E B => (fs E B).bind fun us E1 B1 =>
  match g us B1 with
  | .ok u B2 => .ok (.w u) E1 B2
  | .ex c B2 => .ex c E1 B2
  | .bad => .bad
section
variable {X : Cx} {a b c e : Expr} {es : List Expr} {fa fb : Ex} {fs : Ar} {pos p p2 p3 cpos apos : Pos} {x : Str} {k : Nat} {f : Addr} {fd : FuncData} {ps : List Str} {g : Fn}
theorem call_reads {sp : Sp} {t : TA} (hsp : sp = spF X.K ps.length g) (ha : ∀ F ρ E B σ H Q, Rel X.K F ρ E B σ H → PostA X.K F ρ E B σ H (fs E B) Q → t σ H Q) (hlen : ∀ us B, us.length ≠ ps.length → g us B = .bad) {XX : XK} :
    ∀ F ρ E B σ H Q, Rel X.K F ρ E B σ H → PostE X.K F ρ E B σ H (mCall g fs E B) Q → tCall sp [] XX t σ H Q := by
  subst hsp
  intro F ρ E B σ H Q rl q
  refine ha F ρ E B σ H _ rl ?_
  simp only [mCall] at q
  cases h1 : fs E B with
  | bad => rw [h1] at q; exact q
  | ex c E' B' => rw [h1] at q; exact q
  | ok us E1 B1 =>
    rw [h1] at q
    intro ρ1 H1 vs A1
    simp only [O.bind_ok] at q
    have hl : us.length = ps.length := by
      by_cases z : us.length = ps.length
      · exact z
      · rw [hlen us B1 z] at q; exact q.elim
    rw [List.append_nil]
    refine ⟨outOf F E1 σ, ρ1, B1, us, hl, A1.t.rel.brel, by rw [ob_eq]; exact A1.reps, ?_⟩
    cases h2 : g us B1 with
    | bad => rw [h2] at q; exact q.elim
    | ex c B' => rw [h2] at q; exact q.elim
    | ok u B2 =>
      rw [h2] at q
      exact fun ρ2 H2 v A2 => q ρ2 H2 v (A1.t.then (A1.t.rel.back A2))
theorem sndE_call (Fk : FnOk X.prog X.w X.K X.mg X.base CX0 k f fd ps (spF X.K ps.length g)) (hr : Room k X.A) (hm : X.mg x = some (.ref f)) (hk : PySem.W.keepIn X.K (.ref f) = true) (hb : Binds X.K fd ps []) (hlen : ∀ us B, us.length ≠ ps.length → g us B = .bad) (ha : SndA X (e :: es) fs)
    (hg : Gl X x := by rfl) (hdb : (x == ("__debug__" : Str)) = false := by decide) (hs : starEach (e :: es) X.env = (false, eval e X.env) :: starEach es X.env := by rfl) (hpl : (backTo pos (starEach es X.env)).any (·.1) = false := by rfl) : SndE X (.Call (.Name x p) (e :: es) [] pos) (mCall g fs) := by
  obtain ⟨t, p1, ha⟩ := ha
  exact ⟨_, pe_call Fk hr hg hm hk hb .nil (pass0 (X := X)) p1 hdb hs hpl, call_reads rfl ha hlen⟩
theorem sndE_call0 (Fk : FnOk X.prog X.w X.K X.mg X.base CX0 k f fd [] (spF X.K 0 g)) (hr : Room k X.A) (hm : X.mg x = some (.ref f)) (hk : PySem.W.keepIn X.K (.ref f) = true) (hb : Binds X.K fd [] []) (hlen : ∀ us B, us.length ≠ 0 → g us B = .bad)
    (hg : Gl X x := by rfl) (hdb : (x == ("__debug__" : Str)) = false := by decide) : SndE X (.Call (.Name x p) [] [] pos) (mCall g mNil) :=
  ⟨_, pe_call0 Fk hr hg hm hk hb .nil (pass0 (X := X)) hdb, call_reads (X := X) (ps := []) (fs := mNil) rfl (fun F ρ E B σ H Q rl h => h ρ H [] ⟨AftT.refl rl, Reps.nil⟩) hlen⟩
end

/-! ### statements -/
inductive Fl where
  | nx | rt (u : U) | bk | ct
abbrev Sm := En → Bx → O Fl
def PostS (K : PySem.W.Frag) (F : Fm) (ρ : List Addr) (o : O Fl) (D : Ends) : Prop :=
  match o with
  | .ok .nx E' B' => ∀ ρ' σ' H', ρ <+: ρ' → Rel K F ρ' E' B' σ' H' → D.nx σ' H'
  | .ok .bk E' B' => ∀ ρ' σ' H', ρ <+: ρ' → Rel K F ρ' E' B' σ' H' → D.bk σ' H'
  | .ok .ct E' B' => ∀ ρ' σ' H', ρ <+: ρ' → Rel K F ρ' E' B' σ' H' → D.ct σ' H'
  | .ok (.rt u) E' B' => ∀ ρ' σ' H' v, ρ <+: ρ' → Rel K F ρ' E' B' σ' H' → Rep K H' (LvF F ρ' E' B' σ') ρ' u v → D.rt v H'
  | _ => False
def SndS (X : Cx) (st : Stmt) (f : Sm) : Prop := ∃ t : TS, PS X st t ∧ ∀ F ρ E B σ H D, Rel X.K F ρ E B σ H → PostS X.K F ρ (f E B) D → t D σ H
def SndB (X : Cx) (sts : List Stmt) (f : Sm) : Prop := ∃ t : TS, PSs X sts t ∧ ∀ F ρ E B σ H D, Rel X.K F ρ E B σ H → PostS X.K F ρ (f E B) D → t D σ H
def sNext : Sm := fun E B => .ok .nx E B
def sBreak : Sm := fun E B => .ok .bk E B
def sCont : Sm := fun E B => .ok .ct E B
def sBad : Sm := fun _ _ => .bad
def sSeq (f g : Sm) : Sm := fun E B => (f E B).bind fun fl E1 B1 =>
  match fl with
  | .nx => g E1 B1
  | fl => .ok fl E1 B1
def sSet (i : Nat) (f : Ex) : Sm := fun E B => (f E B).bind fun r E1 B1 =>
  match settle r E1 with
  | some (u, E2) => if i < E2.length then .ok .nx (E2.set i (.val u)) B1 else .bad
  | none => .bad
def sOwn (i : Nat) (f : Ex) : Sm := fun E B => (f E B).bind fun r E1 B1 =>
  match r with
  | .fr c => if i < E1.length then .ok .nx (E1.set i (.own c)) B1 else .bad
  | _ => .bad
def sExpr (f : Ex) : Sm := fun E B => (f E B).bind fun _ E1 B1 => .ok .nx E1 B1
def sRet (f : Ex) : Sm := fun E B => (f E B).bind fun r E1 B1 =>
  match settle r E1 with
  | some (u, E2) => .ok (.rt u) E2 B1
  | none => .bad
def sRetN : Sm := fun E B => .ok (.rt .non) E B
def sIf (c : Te) (f g : Sm) : Sm := fun E B => (c E B).bind fun b E1 B1 => if b = true then f E1 B1 else g E1 B1
theorem PostS.px {K : PySem.W.Frag} {F : Fm} {ρ ρ' : List Addr} {o : O Fl} {D : Ends} (h : PostS K F ρ o D) (e : ρ <+: ρ') : PostS K F ρ' o D := by
  cases o with
  | bad => exact h
  | ex _ _ _ => exact h
  | ok fl E B =>
    cases fl with
    | nx => exact fun ρ2 σ H x => h ρ2 σ H (e.trans x)
    | bk => exact fun ρ2 σ H x => h ρ2 σ H (e.trans x)
    | ct => exact fun ρ2 σ H x => h ρ2 σ H (e.trans x)
    | rt u => exact fun ρ2 σ H v x => h ρ2 σ H v (e.trans x)
section
variable {X : Cx} {a b c e : Expr} {es : List Expr} {fa fb : Ex} {ft : Te} {f g : Sm} {pos p p2 p3 cpos apos : Pos} {x : Str} {st : Stmt} {rest sts : List Stmt}
theorem sndB_nil : SndB X [] sNext := ⟨_, pss_nil, fun F ρ E B σ H D rl h => h ρ σ H (List.prefix_refl _) rl⟩
theorem sndB_one (h : SndS X st f) : SndB X [st] f := by
  obtain ⟨t, p1, h⟩ := h
  exact ⟨t, pss_one p1, h⟩
theorem sndB_cons (h : SndS X st f) (hr : SndB X rest g) : SndB X (st :: rest) (sSeq f g) := by
  obtain ⟨t, p1, h⟩ := h
  obtain ⟨u, p2, hr⟩ := hr
  refine ⟨_, pss_cons p1 p2, fun F ρ E B σ H D rl q => ?_⟩
  refine h F ρ E B σ H _ rl ?_
  simp only [sSeq] at q
  cases h1 : f E B with
  | bad => rw [h1] at q; exact q
  | ex c E' B' => rw [h1] at q; exact q
  | ok fl E1 B1 =>
    rw [h1] at q
    simp only [O.bind_ok] at q
    cases fl with
    | nx => exact fun ρ1 σ1 H1 px r1 => hr F ρ1 E1 B1 σ1 H1 D r1 (q.px px)
    | bk => exact q
    | ct => exact q
    | rt u => exact q
theorem sndS_pass : SndS X (.Pass pos) sNext := ⟨_, ps_pass, fun F ρ E B σ H D rl h => h ρ σ H (List.prefix_refl _) rl⟩
theorem sndS_break : SndS X (.Break pos) sBreak := ⟨_, ps_break, fun F ρ E B σ H D rl h => h ρ σ H (List.prefix_refl _) rl⟩
theorem sndS_continue : SndS X (.Continue pos) sCont := ⟨_, ps_continue, fun F ρ E B σ H D rl h => h ρ σ H (List.prefix_refl _) rl⟩
theorem sndS_never : SndS X st sBad := ⟨_, ps_never, fun F ρ E B σ H D rl h => h.elim⟩
theorem sndB_never : SndB X sts sBad := ⟨_, pss_never, fun F ρ E B σ H D rl h => h.elim⟩
theorem sndS_if {bs cs : List Stmt} (ht : SndT X c ft) (hf : SndB X bs f) (hg : SndB X cs g) : SndS X (.If c bs cs pos) (sIf ft f g) := by
  obtain ⟨t, p1, ht⟩ := ht
  obtain ⟨u, p2, hf⟩ := hf
  obtain ⟨u', p3, hg⟩ := hg
  refine ⟨_, ps_if p1 p2 p3, fun F ρ E B σ H D rl q => ?_⟩
  refine ht F ρ E B σ H _ rl ?_
  simp only [sIf] at q
  cases h1 : ft E B with
  | bad => rw [h1] at q; exact q
  | ex c E' B' => rw [h1] at q; exact q
  | ok b1 E1 B1 =>
    rw [h1] at q
    intro ρ1 H1 A1
    cases b1 with
    | true =>
      simp only [O.bind_ok, if_true] at q ⊢
      exact hf F ρ1 E1 B1 σ H1 D A1.rel (q.px A1.px)
    | false =>
      simp only [O.bind_ok, Bool.false_eq_true, if_false] at q ⊢
      exact hg F ρ1 E1 B1 σ H1 D A1.rel (q.px A1.px)
theorem set_reads {i : Nat} {t : TE} (ha : ∀ F ρ E B σ H Q, Rel X.K F ρ E B σ H → PostE X.K F ρ E B σ H (fa E B) Q → t σ H Q) : ∀ F ρ E B σ H D, Rel X.K F ρ E B σ H → PostS X.K F ρ (sSet i fa E B) D → tAsg t (gName i) D σ H := by
  intro F ρ E B σ H D rl q
  refine ha F ρ E B σ H _ rl ?_
  simp only [sSet] at q
  cases h1 : fa E B with
  | bad => rw [h1] at q; exact q
  | ex c E' B' => rw [h1] at q; exact q
  | ok r1 E1 B1 =>
    rw [h1] at q
    intro ρ1 H1 v1 A1
    simp only [O.bind_ok] at q
    split at q
    · next u E2 es =>
      split at q
      · next hi =>
        obtain ⟨T1, R1⟩ := A1.settled es
        exact q ρ1 _ H1 T1.px (T1.rel.setVal hi R1)
      · exact q.elim
    · exact q.elim
theorem own_reads {i : Nat} {t : TE} (ha : ∀ F ρ E B σ H Q, Rel X.K F ρ E B σ H → PostE X.K F ρ E B σ H (fa E B) Q → t σ H Q) : ∀ F ρ E B σ H D, Rel X.K F ρ E B σ H → PostS X.K F ρ (sOwn i fa E B) D → tAsg t (gName i) D σ H := by
  intro F ρ E B σ H D rl q
  refine ha F ρ E B σ H _ rl ?_
  simp only [sOwn] at q
  cases h1 : fa E B with
  | bad => rw [h1] at q; exact q
  | ex c E' B' => rw [h1] at q; exact q
  | ok r1 E1 B1 =>
    rw [h1] at q
    intro ρ1 H1 v1 A1
    simp only [O.bind_ok] at q
    cases r1 with
    | w _ => exact q.elim
    | s _ => exact q.elim
    | fr c =>
      simp only at q
      split at q
      · next hi =>
        obtain ⟨p, rfl, hl, hc, hn⟩ := A1.rep
        exact q ρ1 _ H1 A1.px (Rel.setOwn (o := H1 p) A1.rel hn hi hl hc)
      · exact q.elim
theorem sndS_set {i : Nat} (ha : SndE X a fa) (hN : X.N.Nodup) (hi : X.N[i]? = some x := by rfl) (hx : Loc X.env.scope x := by first | exact Or.inl rfl | exact Or.inr rfl) (hs : swapsWith a (some (.Name x p)) pos.line X.env = pure false := by rfl)
    (hf : X.fn x = true ∨ X.env.scope.names.lookup x = some .local := by first | exact .inl rfl | exact .inr rfl | assumption) : SndS X (.Assign [.Name x p] a pos) (sSet i fa) := by
  obtain ⟨t, p1, ha⟩ := ha
  exact ⟨_, ps_set hN hi hx p1 hs hf, set_reads ha⟩
theorem sndS_own {i : Nat} (ha : SndE X a fa) (hN : X.N.Nodup) (hi : X.N[i]? = some x := by rfl) (hx : Loc X.env.scope x := by first | exact Or.inl rfl | exact Or.inr rfl) (hs : swapsWith a (some (.Name x p)) pos.line X.env = pure false := by rfl)
    (hf : X.fn x = true ∨ X.env.scope.names.lookup x = some .local := by first | exact .inl rfl | exact .inr rfl | assumption) : SndS X (.Assign [.Name x p] a pos) (sOwn i fa) := by
  obtain ⟨t, p1, ha⟩ := ha
  exact ⟨_, ps_set hN hi hx p1 hs hf, own_reads ha⟩
theorem sndS_expr (ha : SndE X a fa) (hs : swapsWith a none pos.line X.env = pure false := by rfl) : SndS X (.Expr a pos) (sExpr fa) := by
  obtain ⟨t, p1, ha⟩ := ha
  refine ⟨_, ps_expr p1 hs, fun F ρ E B σ H D rl q => ?_⟩
  refine ha F ρ E B σ H _ rl ?_
  simp only [sExpr] at q
  cases h1 : fa E B with
  | bad => rw [h1] at q; exact q
  | ex c E' B' => rw [h1] at q; exact q
  | ok r1 E1 B1 => rw [h1] at q; exact fun ρ1 H1 v1 A1 => q ρ1 σ H1 A1.px A1.letgo.rel
theorem sndS_ret (ha : SndE X a fa) : SndS X (.Return (some a) pos) (sRet fa) := by
  obtain ⟨t, p1, ha⟩ := ha
  refine ⟨_, ps_ret p1, fun F ρ E B σ H D rl q => ?_⟩
  refine ha F ρ E B σ H _ rl ?_
  simp only [sRet] at q
  cases h1 : fa E B with
  | bad => rw [h1] at q; exact q
  | ex c E' B' => rw [h1] at q; exact q
  | ok r1 E1 B1 =>
    rw [h1] at q
    intro ρ1 H1 v1 A1
    simp only [O.bind_ok] at q
    split at q
    · next u E2 es =>
      obtain ⟨T1, R1⟩ := A1.settled es
      exact q ρ1 σ H1 v1 T1.px T1.rel R1
    · exact q.elim
theorem sndS_retN : SndS X (.Return none pos) sRetN := ⟨_, ps_retN, fun F ρ E B σ H D rl h => h ρ σ H .non (List.prefix_refl _) rl (by simp [Rep])⟩
end

/-! ### a def by its body -/
def runBody (N n : Nat) (f : Sm) : Fn := fun us B =>
  if us.length = n then
    match f (us.map .val ++ List.replicate (N - us.length) .un) B with
    | .ok (.rt u) _ B' => .ok u B'
    | .ok .nx _ B' => .ok .non B'
    | .ex c _ B' => .ex c B'
    | _ => .bad
  else .bad
theorem runBody_len {N n : Nat} {f : Sm} : ∀ us B, us.length ≠ n → runBody N n f us B = .bad := fun us B h => by unfold runBody; rw [if_neg h]
section
variable {P : Program} {w : World} {K : PySem.W.Frag} {mg : Str → Option Value} {base : Heap}
theorem rel_start {Out : AS} {ρ : List Addr} {B : Bx} {H : Hp} {us : List U} {vs : List V} {N : List Str} (b : BRel K Out ρ B H) (h : Reps K H (OB Out ρ B) ρ us vs) :
    Rel K ⟨Out, H, OB Out ρ B⟩ ρ (us.map .val ++ List.replicate (N.length - us.length) .un) B (L2.start N vs) H := by
  have hl := h.len
  have ev : ∀ (i : Nat) (s : Sl), (us.map Sl.val ++ List.replicate (N.length - us.length) Sl.un)[i]? = some s → s = .un ∨ ∃ u, us[i]? = some u ∧ s = .val u := fun i s e => by
    by_cases hi : i < us.length
    · rw [List.getElem?_append_left (by simpa using hi), List.getElem?_map] at e
      cases q : us[i]? with
      | none => rw [q] at e; cases e
      | some u => rw [q] at e; cases e; exact .inr ⟨u, rfl, rfl⟩
    · rw [List.getElem?_append_right (by simpa using hi)] at e
      exact .inl (List.mem_replicate.mp (List.mem_of_getElem? e)).2
  have nos : ∀ q, ¬ SLv (us.map Sl.val ++ List.replicate (N.length - us.length) Sl.un) (L2.start N vs) q := fun q ⟨i, c, h1, _⟩ => by
    rcases ev i _ h1 with z | ⟨u, _, z⟩ <;> cases z
  have lv : LvF ⟨Out, H, OB Out ρ B⟩ ρ (us.map .val ++ List.replicate (N.length - us.length) .un) B (L2.start N vs) = OB Out ρ B := funext fun q => propext ⟨fun z => by
    rcases z with z | z | z
    · exact .inl z
    · exact .inr z
    · exact absurd z (nos q), fun z => by
    rcases z with z | z
    · exact .inl z
    · exact .inr (.inl z)⟩
  refine ⟨by simp [L2.start, hl], b.blen, fun i u e => ?_, fun i c e => ?_, fun i j c d q e1 e2 e3 e4 => ?_, fun i c q h1 h2 h3 => ?_, b.binj, fun q h => ⟨rfl, b.out q h⟩, by rw [lv]; exact Stp.refl, fun q o h => ⟨o, h⟩⟩
  · rw [lv]
    rcases ev i _ e with z | ⟨u', h1, z⟩
    · cases z
    · cases z
      obtain ⟨v, h2, h3⟩ := h.get h1
      have hi : i < vs.length := (List.getElem?_eq_some_iff.mp h2).1
      exact ⟨v, by unfold L2.start; rw [List.getElem?_append_left (by simpa using hi), List.getElem?_map, h2]; rfl, h3⟩
  · rcases ev i _ e with z | ⟨u, _, z⟩ <;> cases z
  · rcases ev i _ e1 with z | ⟨u, _, z⟩ <;> cases z
  · rw [lv]; exact b.box i c q h1 h2 h3
theorem rel_end {Out : AS} {ρ ρ' : List Addr} {B B' : Bx} {E' : En} {σ' : L2.St} {H H' : Hp} {u : U} {v : V} (px : ρ <+: ρ') (r : Rel K ⟨Out, H, OB Out ρ B⟩ ρ' E' B' σ' H') (h : Rep K H' (LvF ⟨Out, H, OB Out ρ B⟩ ρ' E' B' σ') ρ' u v) : BAft K Out ρ B H u ρ' B' H' v := by
  have less : ∀ q, OB Out ρ' B' q → LvF ⟨Out, H, OB Out ρ B⟩ ρ' E' B' σ' q := fun q z => by
    rcases z with z | z
    · exact .inl z
    · exact .inr (.inl z)
  have s : Stp H' (LvF ⟨Out, H, OB Out ρ B⟩ ρ' E' B' σ') H' (OB Out ρ' B') := Stp.less less
  have px' : ρ' <+: ρ' := List.prefix_refl _
  refine ⟨px, ⟨r.blen, fun i c p h1 h2 h3 => ?_, r.binj, fun q h => ?_⟩, fun q h => (r.out q h).1, r.old.trans s, r.grow, h.mono s px'⟩
  · obtain ⟨h4, h5⟩ := r.box i c p h1 h2 h3
    exact ⟨h4.mono s px' rfl, h5⟩
  · obtain ⟨h1, o, h2⟩ := r.out q h
    exact ⟨o, by rw [h1]; exact h2⟩
theorem fn_body {x qual : Str} {st : Stmt} {f : Addr} {fd : FuncData} {N ps : List Str} {k : Nat} {body : Sm} (Fu : Fun K x qual st f fd) (S : FnScope N ps (defScope st))
    (h : ∀ (cdv : Value) (A : Around) (outer : List Env) (s : Shared) (H : Hp) (E : XK), Room k (A.deeper (PyProof.Rows.envOfC qual (defScope st) s.heap.objs.size f cdv)) →
      SndB (cxOf CX0 P w K mg base N qual (defScope st) f cdv A outer s H E).nox (defBody st) body) : FnOk P w K mg base CX0 (k + 1) f fd ps (spF K ps.length (runBody N.length ps.length body)) := by
  refine Fu.ok S spF_len fun cdv A outer s H vs Q E hr hsp => ?_
  obtain ⟨t, p1, ht⟩ := h cdv A outer s H E hr
  refine ⟨t, p1, ?_⟩
  obtain ⟨Out, ρ, B, us, hl, hb, hrs, q⟩ := hsp
  refine ht ⟨Out, H, OB Out ρ B⟩ ρ (us.map Sl.val ++ List.replicate (N.length - us.length) Sl.un) B (L2.start N vs) H _ (rel_start (N := N) hb hrs) ?_
  unfold runBody at q
  rw [if_pos hl] at q
  cases h1 : body (us.map .val ++ List.replicate (N.length - us.length) .un) B with
  | bad => rw [h1] at q; exact q.elim
  | ex c E' B' => rw [h1] at q; exact q.elim
  | ok fl E' B' =>
    rw [h1] at q
    cases fl with
    | nx => exact fun ρ' σ' H' px r => q ρ' H' .non (rel_end px r (by simp [Rep]))
    | rt u => exact fun ρ' σ' H' v px r hr => q ρ' H' v (rel_end px r hr)
    | bk => exact q.elim
    | ct => exact q.elim
end
end QB
/-! QbG: methods, stores, loops. -/
namespace QB
open PySem L2
section
variable {X : Cx} {a b c e o i : Expr} {es : List Expr} {fa fb fo fe fi : Ex} {fs : Ar} {pos p p2 p3 cpos apos pos' : Pos} {x name : Str}

/-! ### methods of texts -/
theorem mM_reads {id : String} {g : U → List U → Option R} {r : V → List V → Hp → VK → Prop} {to : TE} {t : TA}
    (hm : ∀ F ρ E B σ H (z : Str) us vs r3 Q, Rel X.K F ρ E B σ H → Reps X.K H (LvF F ρ E B σ) ρ us vs → g (.str z) us = some r3 → (∀ H' v, Aft X.K F ρ E B σ H r3 ρ E B H' v → Q v H') → r (.str z) vs H Q)
    (ho : ∀ F ρ E B σ H Q, Rel X.K F ρ E B σ H → PostE X.K F ρ E B σ H (fo E B) Q → to σ H Q) (ha : ∀ F ρ E B σ H Q, Rel X.K F ρ E B σ H → PostA X.K F ρ E B σ H (fs E B) Q → t σ H Q) :
    ∀ F ρ E B σ H Q, Rel X.K F ρ E B σ H → PostE X.K F ρ E B σ H (mM g fo fs E B) Q → to σ H fun x H1 => (∃ z, x = .str z) ∧ t σ H1 fun xs H2 => r x xs H2 Q := by
  intro F ρ E B σ H Q rl q
  refine ho F ρ E B σ H _ rl ?_
  simp only [mM] at q
  cases h1 : fo E B with
  | bad => rw [h1] at q; exact q
  | ex c E' B' => rw [h1] at q; exact q
  | ok r1 E1 B1 =>
    rw [h1] at q
    intro ρ1 H1 v1 A1
    simp only [O.bind_ok] at q
    split at q
    · next r' z =>
      have rr := A1.rep
      simp only [RepR, Rep] at rr
      subst rr
      have T1 := A1.letgo
      refine ⟨⟨z, rfl⟩, ha F ρ1 E1 B1 σ H1 _ T1.rel ?_⟩
      cases h2 : fs E1 B1 with
      | bad => rw [h2] at q; exact q
      | ex c E' B' => rw [h2] at q; exact q
      | ok us E2 B2 =>
        rw [h2] at q
        intro ρ2 H2 vs A2
        simp only [O.bind_ok] at q
        split at q
        · next r3 eg => exact hm F ρ2 E2 B2 σ H2 z us vs r3 Q A2.t.rel A2.reps eg fun H' v A3 => q ρ2 H' v ((T1.trans A2.t).then A3)
        · exact q.elim
    · exact q.elim
theorem sndE_m1 {id : String} {g : U → List U → Option R} (slot : Slot "str" name id) (ty : typeOf (.builtin id) = pure (.type "method_descriptor")) (hm : MethS X id g) (ho : SndE X o fo) (ha : SndE X e fe)
    (hs : starEach [e] X.env = [(false, eval e X.env)] := by rfl) (hb : attributeBase o name X.env (eval o X.env) = eval o X.env := by rfl) (hl : (apos.endLine == pos.line) = true := by rfl) : SndE X (.Call (.Attribute o name apos) [e] [] pos) (mM g fo (mCons fe mNil)) := by
  obtain ⟨r, hr, hm⟩ := hm
  obtain ⟨to, po, ho⟩ := ho
  have ⟨te, pe, he⟩ := ha
  obtain ⟨t, pt, ht⟩ := sndA_cons ha sndA_nil hs
  refine ⟨_, pe_m1 slot ty hr po pe hs hb hl, fun F ρ E B σ H Q rl q => ?_⟩
  -- one argument: the list reading and the single one say the same
  have key : ∀ F ρ E B σ H Q, Rel X.K F ρ E B σ H → PostA X.K F ρ E B σ H (mCons fe mNil E B) Q → (fun σ H Q => te σ H fun y H2 => Q [y] H2 : TA) σ H Q := by
    intro F ρ E B σ H Q rl q
    refine he F ρ E B σ H _ rl ?_
    simp only [mCons] at q
    cases h1 : fe E B with
    | bad => rw [h1] at q; exact q
    | ex c E' B' => rw [h1] at q; exact q
    | ok r1 E1 B1 =>
      rw [h1] at q
      intro ρ1 H1 v1 A1
      simp only [O.bind_ok] at q
      split at q
      · next u E2 es =>
        obtain ⟨T1, R1⟩ := A1.settled es
        exact q ρ1 H1 [v1] ⟨T1, Reps.one R1⟩
      · exact q.elim
  have := mM_reads (id := id) (r := r) (to := to) hm ho key F ρ E B σ H Q rl q
  exact this
theorem sndE_m0 {id : String} {g : U → List U → Option R} (slot : Slot "str" name id) (ty : typeOf (.builtin id) = pure (.type "method_descriptor")) (hm : MethS X id g) (ho : SndE X o fo)
    (hb : attributeBase o name X.env (eval o X.env) = eval o X.env := by rfl) (hl : (apos.endLine == pos.line) = true := by rfl) : SndE X (.Call (.Attribute o name apos) [] [] pos) (mM g fo mNil) := by
  obtain ⟨r, hr, hm⟩ := hm
  obtain ⟨to, po, ho⟩ := ho
  refine ⟨_, pe_m0 slot ty hr po hb hl, fun F ρ E B σ H Q rl q => ?_⟩
  exact mM_reads (id := id) (r := r) (to := to) (fs := mNil) (t := fun _ H Q => Q [] H) hm ho (fun F ρ E B σ H Q rl h => h ρ H [] ⟨AftT.refl rl, Reps.nil⟩) F ρ E B σ H Q rl q
theorem sndE_mn {id : String} {g : U → List U → Option R} (pa : PlainAttrs "str") (slot : Slot "str" name id) (ty : typeOf (.builtin id) = pure (.type "method_descriptor")) (hm : MethS X id g) (ho : SndE X o fo) (ha : SndA X (e :: es) fs)
    (hb : attributeBase o name X.env (eval o X.env) = eval o X.env := by rfl) (h3 : (((backTo cpos (starEach (e :: es) X.env)).all fun x => !x.1) && (backToKw cpos (keywordEach [] X.env)).all (·.1.isSome) && decide ((e :: es).length + ([] : List Keyword).length + (if ([] : List Keyword).isEmpty = true then 0 else 1) < 30)) = true := by rfl)
    (hl : (apos.endLine == cpos.line) = true := by rfl) (hs : starEach (e :: es) X.env = (false, eval e X.env) :: starEach es X.env := by rfl) (hpl : (backTo cpos (starEach es X.env)).any (·.1) = false := by rfl) : SndE X (.Call (.Attribute o name apos) (e :: es) [] cpos) (mM g fo fs) := by
  obtain ⟨r, hr, hm⟩ := hm
  obtain ⟨to, po, ho⟩ := ho
  obtain ⟨t, pt, ht⟩ := ha
  refine ⟨_, pe_bm pa slot ty hr po pt hb h3 hl hs hpl, fun F ρ E B σ H Q rl q => ?_⟩
  have := mM_reads (id := id) (r := r) (to := to) hm ho ht F ρ E B σ H (fun v H2 => Q v H2) rl q
  refine (?_ : to σ H fun x H1 => tyV X.K "str" x H1 ∧ t σ H1 fun xs H2 => r x xs H2 Q)
  refine ho F ρ E B σ H _ rl ?_
  simp only [mM] at q
  cases h1 : fo E B with
  | bad => rw [h1] at q; exact q
  | ex c E' B' => rw [h1] at q; exact q
  | ok r1 E1 B1 =>
    rw [h1] at q
    intro ρ1 H1 v1 A1
    simp only [O.bind_ok] at q
    split at q
    · next r' z =>
      have rr := A1.rep
      simp only [RepR, Rep] at rr
      subst rr
      have T1 := A1.letgo
      refine ⟨rfl, ht F ρ1 E1 B1 σ H1 _ T1.rel ?_⟩
      cases h2 : fs E1 B1 with
      | bad => rw [h2] at q; exact q
      | ex c E' B' => rw [h2] at q; exact q
      | ok us E2 B2 =>
        rw [h2] at q
        intro ρ2 H2 vs A2
        simp only [O.bind_ok] at q
        split at q
        · next r3 eg => exact hm F ρ2 E2 B2 σ H2 z us vs r3 Q A2.t.rel A2.reps eg fun H' v A3 => q ρ2 H' v ((T1.trans A2.t).then A3)
        · exact q.elim
    · exact q.elim
def strsOf : List U → Option (List Str)
  | [] => some []
  | .str b :: us => (strsOf us).map (b :: ·)
  | _ => none
theorem strsOf_reps {K : PySem.W.Frag} {H : Hp} {Lv : AS} {ρ : List Addr} : ∀ {us : List U} {vs : List V} {bs : List Str}, Reps K H Lv ρ us vs → strsOf us = some bs → vs = bs.map V.str
  | [], vs, bs, h, e => by simp only [Reps] at h; subst h; simp only [strsOf, Option.some.injEq] at e; subst e; rfl
  | u :: us, vs, bs, h, e => by
    simp only [Reps] at h
    obtain ⟨v, r, rfl, h1, h2⟩ := h
    cases u <;> simp only [strsOf, Option.map_eq_some_iff] at e <;> first | (cases e; done) | skip
    obtain ⟨cs, e1, rfl⟩ := e
    simp only [Rep] at h1
    rw [h1, strsOf_reps h2 e1]; rfl
def gJoin : U → List U → Option R
  | .str a, [.lst us] => match strsOf us with
    | some ys => if (ys.map (·.length)).sum + ys.length * a.length ≤ 16777216 then some (.w (.str (Txt.join a ys))) else none
    | none => none
  | _, _ => none
theorem meth_join : MethS X "str.join" gJoin := by
  refine ⟨_, mt_join, fun F ρ E B σ H z us vs r3 Q rl rs e q => ?_⟩
  unfold gJoin at e
  split at e
  · next a ws hz =>
    injection hz with hz
    subst hz
    split at e
    · next ys ey =>
      split at e
      · next hl =>
        cases e
        simp only [Reps, Rep] at rs
        obtain ⟨v, r, rfl, ⟨p, xs, rfl, ⟨h1, _⟩, h2⟩, rfl⟩ := rs
        exact ⟨_, p, ys, rfl, rfl, .inl (.inl (.inl (by rw [h1, strsOf_reps h2 ey]))), hl, q H _ (Aft.val rl (by simp [Rep]))⟩
      · cases e
    · cases e
  · cases e
def gFind3 : U → List U → Option R
  | .str a, [.str b, .int i] => some (.w (.int (Txt.find3 a b i)))
  | _, _ => none
theorem meth_find3 : MethS X "str.find" gFind3 := by
  refine ⟨_, mt_find3, fun F ρ E B σ H z us vs r3 Q rl rs e q => ?_⟩
  unfold gFind3 at e
  split at e
  · next a b i hz =>
    injection hz with hz
    subst hz
    cases e
    simp only [Reps, Rep] at rs
    obtain ⟨v, r, rfl, rfl, w, r2, rfl, rfl, rfl⟩ := rs
    exact ⟨_, b, i, rfl, rfl, q H _ (Aft.val rl (by simp [Rep]))⟩
  · cases e
def gPartition : U → List U → Option R
  | .str a, [.str b] => if (b.length == 0) = false ∧ a.length ≤ 16777216 then some (.w (.tup [.str (Txt.partition a b).1, .str (Txt.partition a b).2.1, .str (Txt.partition a b).2.2])) else none
  | _, _ => none
theorem meth_partition : MethS X "str.partition" gPartition := by
  refine ⟨_, mt_partition, fun F ρ E B σ H z us vs r3 Q rl rs e q => ?_⟩
  unfold gPartition at e
  split at e
  · next a b hz =>
    injection hz with hz
    subst hz
    split at e
    · next hc =>
      cases e
      simp only [Reps, Rep] at rs
      obtain ⟨v, r, rfl, rfl, rfl⟩ := rs
      exact ⟨_, b, rfl, rfl, hc.1, by rw [sizeLine_eq]; exact hc.2, fun p hp => q _ _ (Aft.tuple rl hp (by simp [Reps, Rep]))⟩
    · cases e
  · cases e

/-! ### lists that change -/
def mAppend (fo fe : Ex) : Ex := fun E B => (fo E B).bind fun r E1 B1 =>
  match cellOf r E1 B1 with
  | some (.lst _) => (mCons fe mNil E1 B1).bind fun us E2 B2 =>
    match us, cellOf r E2 B2 with
    | [u], some (.lst xs) => if xs.length < 16777216 then .ok (.w .non) (put r E2 B2 (.lst (xs ++ [u]))).1 (put r E2 B2 (.lst (xs ++ [u]))).2 else .bad
    | _, _ => .bad
  | _ => .bad
theorem cellOf_nfr {r : R} {E : En} {B : Bx} {c : Cell} (h : cellOf r E B = some c) : ∀ d, r ≠ .fr d := fun d z => by subst z; cases h
theorem addR_nfr {F : Fm} {H : Hp} {r : R} {v : V} (h : ∀ d, r ≠ .fr d) : F.addR H r v = F := by
  cases r with
  | fr d => exact absurd rfl (h d)
  | w _ => rfl
  | s _ => rfl
theorem sndE_append (ho : SndE X o fo) (ha : SndE X e fe) (hb : attributeBase o "append" X.env (eval o X.env) = eval o X.env := by rfl)
    (h3 : (((backTo cpos (starEach [e] X.env)).all fun x => !x.1) && (backToKw cpos (keywordEach [] X.env)).all (·.1.isSome) && decide ([e].length + ([] : List Keyword).length + (if ([] : List Keyword).isEmpty = true then 0 else 1) < 30)) = true := by rfl)
    (hl : (apos.endLine == cpos.line) = true := by rfl) (hs : starEach [e] X.env = (false, eval e X.env) :: starEach [] X.env := by rfl) : SndE X (.Call (.Attribute o "append" apos) [e] [] cpos) (mAppend fo fe) := by
  obtain ⟨to, po, ho⟩ := ho
  obtain ⟨t, pt, ht⟩ := sndA_cons ha sndA_nil hs
  refine ⟨_, pe_bm PySem.F.plainAttrs_list PySem.F.slot_list_append PySem.F.type_list_append mt_append po pt hb h3 hl hs, fun F ρ E B σ H Q rl q => ?_⟩
  refine ho F ρ E B σ H _ rl ?_
  simp only [mAppend] at q
  cases h1 : fo E B with
  | bad => rw [h1] at q; exact q
  | ex c E' B' => rw [h1] at q; exact q
  | ok r1 E1 B1 =>
    rw [h1] at q
    intro ρ1 H1 v1 A1
    simp only [O.bind_ok] at q
    split at q
    · next xs0 hc0 =>
      have nf := cellOf_nfr hc0
      have ae : F.addR H1 r1 v1 = F := addR_nfr nf
      have rel1 : Rel X.K F ρ1 E1 B1 σ H1 := by have := A1.rel; rw [ae] at this; exact this
      have rep1 : RepR X.K F H1 (LvF F ρ1 E1 B1 σ) ρ1 E1 σ r1 v1 := by have := A1.rep; rw [ae] at this; exact this
      obtain ⟨p0, e0, c0, _⟩ := wr_ok (c' := .lst xs0) (ob := .lst []) rel1 nf rep1 hc0 rfl rfl
      obtain ⟨vs0, hv0, _⟩ := c0
      subst e0
      refine ⟨.inl ⟨rfl, vs0, .inl (.inl hv0)⟩, ?_⟩
      refine ht F ρ1 E1 B1 σ H1 _ rel1 ?_
      cases h2 : mCons fe mNil E1 B1 with
      | bad => rw [h2] at q; exact q
      | ex c E' B' => rw [h2] at q; exact q
      | ok us E2 B2 =>
        rw [h2] at q
        intro ρ2 H2 vs A2
        simp only [O.bind_ok] at q
        split at q
        · next u xs hc =>
          split at q
          · next hlen =>
            have A12 : Aft X.K F ρ E B σ H r1 ρ2 E2 B2 H2 (.ref p0) := A1.carry (by rw [ae]; exact A2.t)
            have ae2 : F.addR H2 r1 (.ref p0) = F := addR_nfr nf
            have rel2 : Rel X.K F ρ2 E2 B2 σ H2 := by have := A12.rel; rw [ae2] at this; exact this
            have rep2 : RepR X.K F H2 (LvF F ρ2 E2 B2 σ) ρ2 E2 σ r1 (.ref p0) := by have := A12.rep; rw [ae2] at this; exact this
            have R2 := A2.reps
            simp only [Reps] at R2
            obtain ⟨v, rr, rfl, hru, rfl⟩ := R2
            obtain ⟨p, ep, cp, wr⟩ := wr_ok (c' := .lst (xs ++ [u])) (ob := .lst []) rel2 nf rep2 hc rfl rfl
            have e' : p0 = p := by injection ep
            subst e'
            obtain ⟨ws, hw, hr⟩ := cp
            have T := wr (.lst (ws ++ [v])) fun Lv' s => ⟨ws ++ [v], upd_same, (hr.mono s (List.prefix_refl _)).append (Reps.one (Rep.mono s (List.prefix_refl _) _ _ hru))⟩
            refine ⟨p0, ws, v, rfl, rfl, hw, by rw [sizeLine_eq, ← hr.len]; exact hlen, ?_⟩
            exact q ρ2 _ _ ((A12.letgo.trans T).then (Aft.val T.rel (by simp [Rep])))
          · exact q.elim
        · exact q.elim
    · exact q.elim
/-- o[i] = e, o a list -/
def sStore (fe fo fi : Ex) : Sm := fun E B => (fe E B).bind fun r0 E0 B0 =>
  match settle r0 E0 with
  | none => .bad
  | some (u, E0') => (fo E0' B0).bind fun r E1 B1 => (fi E1 B1).bind fun ri E2 B2 =>
    match ri, cellOf r E2 B2 with
    | .w (.int k), some (.lst xs) => match ixN xs.length k with
      | some j => .ok .nx (put r E2 B2 (.lst (xs.set j u))).1 (put r E2 B2 (.lst (xs.set j u))).2
      | none => .bad
    | _, _ => .bad
theorem sndS_store (he : SndE X e fe) (ho : SndE X o fo) (hi : SndE X i fi) (hs : swapsWithSole [.Subscript o i p] e pos.line X.env = pure false := by rfl) (hw : swappedStores [.Subscript o i p] e X.env = pure none := by rfl)
    (h1 : (assignEach [.Subscript o i p] X.env).map (·.2) = [assign (.Subscript o i p) X.env] := by rfl)
    (hA : ∀ v, assign (.Subscript o i p) X.env v = (do
      let ov ← holding [v] (eval o X.env)
      let iv ← holding [v, ov] (eval i X.env)
      standAt p
      holding [v, ov, iv] (setItem ov iv v)
      release [v, ov, iv] []) := by intro _; rfl) : SndS X (.Assign [.Subscript o i p] e pos) (sStore fe fo fi) := by
  obtain ⟨te, pe, he⟩ := he
  obtain ⟨to, po, ho⟩ := ho
  obtain ⟨ti, pi, hi⟩ := hi
  refine ⟨_, ps_asg pe (pg_sub po pi set_list hA) hs hw h1, fun F ρ E B σ H D rl q => ?_⟩
  refine he F ρ E B σ H _ rl ?_
  simp only [sStore] at q
  cases h1 : fe E B with
  | bad => rw [h1] at q; exact q
  | ex c E' B' => rw [h1] at q; exact q
  | ok r0 E0 B0 =>
    rw [h1] at q
    intro ρ0 H0 v0 A0
    simp only [O.bind_ok] at q
    split at q
    · exact q.elim
    · next u E0' es =>
      obtain ⟨T0, R0⟩ := A0.settled es
      refine ho F ρ0 E0' B0 σ H0 _ T0.rel ?_
      cases h2 : fo E0' B0 with
      | bad => rw [h2] at q; exact q
      | ex c E' B' => rw [h2] at q; exact q
      | ok r E1 B1 =>
        rw [h2] at q
        intro ρ1 H1 v1 A1
        simp only [O.bind_ok] at q
        refine hi _ ρ1 E1 B1 σ H1 _ A1.rel ?_
        cases h3 : fi E1 B1 with
        | bad => rw [h3] at q; exact q
        | ex c E' B' => rw [h3] at q; exact q
        | ok ri E2 B2 =>
          rw [h3] at q
          intro ρ2 H2 v2 A2
          simp only [O.bind_ok] at q
          split at q
          · next r' k xs hc =>
            split at q
            · next j hj =>
              have nf := cellOf_nfr hc
              have A2' := A2.letgo
              have A12 := A1.carry A2'
              have ae2 : F.addR H2 r v1 = F := addR_nfr nf
              have rel2 : Rel X.K F ρ2 E2 B2 σ H2 := by have := A12.rel; rw [ae2] at this; exact this
              have rep2 : RepR X.K F H2 (LvF F ρ2 E2 B2 σ) ρ2 E2 σ r v1 := by have := A12.rep; rw [ae2] at this; exact this
              have rr := A2.rep
              simp only [RepR, Rep] at rr
              subst rr
              have hru : Rep X.K H2 (LvF F ρ2 E2 B2 σ) ρ2 u v0 := Rep.mono A12.letgo.stp A12.px _ _ R0
              obtain ⟨pp, ep, cp, wr⟩ := wr_ok (c' := .lst (xs.set j u)) (ob := .lst []) rel2 nf rep2 hc rfl rfl
              obtain ⟨ws, hw, hr⟩ := cp
              have T := wr (.lst (ws.set j v0)) fun Lv' s => ⟨ws.set j v0, upd_same, Reps.set j (hr.mono s (List.prefix_refl _)) (Rep.mono s (List.prefix_refl _) _ _ hru)⟩
              refine ⟨pp, ws, k, j, ep, rfl, hw, by rw [← hr.len]; exact hj, ?_⟩
              exact q ρ2 σ _ ((T0.trans A12.letgo).px) T.rel
            · exact q.elim
          · exact q.elim
/-! ### name op= e -/
def sAug (k : Nat) (g : U → U → Option R) (fe : Ex) : Sm := fun E B =>
  match E[k]? with
  | some (.val u1) => match flatU u1 with
    | some _ => (fe E B).bind fun r E1 B1 => match view r E1 B1 with
      | some u2 => match g u1 u2 with
        | some (.w z) => if k < E1.length then .ok .nx (E1.set k (.val z)) B1 else .bad
        | _ => .bad
      | none => .bad
    | none => .bad
  | _ => .bad
theorem sndS_aug {k : Nat} {op : Operator} {g : U → U → Option R} (ho : Op2S X (inplaceOp op) g) (he : SndE X e fe) (hN : X.N.Nodup) (hi : X.N[k]? = some x := by rfl) (hx : Loc X.env.scope x := by first | exact Or.inl rfl | exact Or.inr rfl)
    (hf : X.fn x = true ∨ X.env.scope.names.lookup x = some .local := by first | exact .inl rfl | exact .inr rfl | assumption) : SndS X (.AugAssign (.Name x p) op e pos) (sAug k g fe) := by
  obtain ⟨r, hr, ho⟩ := ho
  obtain ⟨te, pe, he⟩ := he
  refine ⟨_, ps_aug hN hi hx pe (ti := r) (fun pins s σ H x y v u Q I r1 r2 h => hr pins s σ H x y v u Q I r1 r2 h) hf, fun F ρ E B σ H D rl q => ?_⟩
  simp only [sAug] at q
  split at q
  · next u1 hu =>
    split at q
    · next fv hfl =>
      obtain ⟨v1, h1, h2⟩ := rl.val k u1 hu
      refine ⟨v1, h1, he F ρ E B σ H _ rl ?_⟩
      cases h3 : fe E B with
      | bad => rw [h3] at q; exact q
      | ex c E' B' => rw [h3] at q; exact q
      | ok r1 E1 B1 =>
        rw [h3] at q
        intro ρ1 H1 v2 A1
        simp only [O.bind_ok] at q
        split at q
        · next u2 e2 =>
          split at q
          · next z eg =>
            split at q
            · next hk =>
              have T1 := A1.letgo
              have r1' : Rep X.K H1 (LvF F ρ1 E1 B1 σ) ρ1 u1 v1 := Rep.mono T1.stp T1.px _ _ h2
              refine ho F ρ1 E1 B1 σ H1 u1 u2 v1 v2 _ _ T1.rel (r1'.top fun i zz => by subst zz; cases hfl) (A1.top e2) eg fun H' v A3 => ?_
              have rep3 : Rep X.K H' (LvF F ρ1 E1 B1 σ) ρ1 z v := A3.rep
              exact q ρ1 _ H' (T1.px.trans A3.px) (Rel.setVal (show Rel X.K F ρ1 E1 B1 σ H' from A3.rel) hk rep3)
            · exact q.elim
          · exact q.elim
        · exact q.elim
    · exact q.elim
  · exact q.elim
/-! ### targets -/
def SameBut (ks : List Nat) (σ σ' : L2.St) : Prop := σ'.length = σ.length ∧ ∀ j, j ∉ ks → σ'[j]? = σ[j]?
abbrev Bd := U → En → Option En
def SndG (X : Cx) (tg : Expr) (ks : List Nat) (bd : Bd) : Prop := ∃ g : TG, PG X tg g ∧ ∀ F ρ E B σ H u v (Q : L2.St → Hp → Prop), Rel X.K F ρ E B σ H → Rep X.K H (LvF F ρ E B σ) ρ u v →
  (match bd u E with
    | some E' => ∀ σ', Rel X.K F ρ E' B σ' H → SameBut ks σ σ' → (∀ q, LvF F ρ E' B σ' q → LvF F ρ E B σ q) → EnLe E E' → Q σ' H
    | none => False) → g v σ H Q
def bdN (k : Nat) : Bd := fun u E => match E[k]? with
  | some (.own _) => none
  | some _ => some (E.set k (.val u))
  | none => none
theorem setVal_lv {K : PySem.W.Frag} {F : Fm} {ρ : List Addr} {E : En} {B : Bx} {σ : L2.St} {H : Hp} {k : Nat} {u : U} {v : V} (r : Rel K F ρ E B σ H) (hk : k < E.length) : ∀ q, LvF F ρ (E.set k (.val u)) B (σ.set k (some v)) q → LvF F ρ E B σ q := fun q z => by
  rcases z with z | z | ⟨j, d, h1, h2⟩
  · exact .inl z
  · exact .inr (.inl z)
  · by_cases hj : k = j
    · subst hj; rw [List.getElem?_set_self hk] at h1; cases h1
    · rw [List.getElem?_set_ne hj] at h1 h2; exact .inr (.inr ⟨j, d, h1, h2⟩)
theorem sndG_name {k : Nat} (hN : X.N.Nodup) (hi : X.N[k]? = some x := by rfl) (hx : Loc X.env.scope x := by first | exact Or.inl rfl | exact Or.inr rfl) (hf : X.fn x = true ∨ X.env.scope.names.lookup x = some .local := by first | exact .inl rfl | exact .inr rfl | assumption) : SndG X (.Name x p) [k] (bdN k) := by
  refine ⟨_, pg_name hN hi hx hf, fun F ρ E B σ H u v Q rl h q => ?_⟩
  simp only [bdN] at q
  have fin : ∀ E', E' = E.set k (Sl.val u) → k < E.length → (∀ σ', Rel X.K F ρ E' B σ' H → SameBut [k] σ σ' → (∀ q, LvF F ρ E' B σ' q → LvF F ρ E B σ q) → EnLe E E' → Q σ' H) → gName k v σ H Q := fun E' e hk q => by
    subst e
    exact q _ (rl.setVal hk h) ⟨List.length_set, fun j hj => List.getElem?_set_ne (by simpa [eq_comm] using hj)⟩ (setVal_lv rl hk) fun j hj => by
      by_cases e : k = j
      · subst e; exact .inl ⟨u, List.getElem?_set_self hk⟩
      · unfold IsSet; rw [List.getElem?_set_ne e]; exact hj
  cases hE : E[k]? with
  | none => rw [hE] at q; exact q.elim
  | some s =>
    have hk : k < E.length := (List.getElem?_eq_some_iff.mp hE).1
    rw [hE] at q
    cases s with
    | own c => exact q.elim
    | un => exact fin _ rfl hk q
    | val w => exact fin _ rfl hk q
abbrev Bds := List U → En → Option En
def SndGs (X : Cx) (tgs : List Expr) (ks : List Nat) (bd : Bds) : Prop := ∃ g : TGs, PGs X tgs g ∧ ∀ F ρ E B σ H us vs (Q : L2.St → Hp → Prop), Rel X.K F ρ E B σ H → Reps X.K H (LvF F ρ E B σ) ρ us vs →
  (match bd us E with
    | some E' => ∀ σ', Rel X.K F ρ E' B σ' H → SameBut ks σ σ' → (∀ q, LvF F ρ E' B σ' q → LvF F ρ E B σ q) → EnLe E E' → Q σ' H
    | none => False) → g vs σ H Q
def bdNil : Bds := fun us E => match us with
  | [] => some E
  | _ => none
def bdCons (b : Bd) (bs : Bds) : Bds := fun us E => match us with
  | u :: r => (b u E).bind fun E1 => bs r E1
  | [] => none
theorem sndGs_nil : SndGs X [] [] bdNil := by
  refine ⟨_, pgs_nil, fun F ρ E B σ H us vs Q rl h q => ?_⟩
  cases us with
  | nil => simp only [Reps] at h; subst h; exact ⟨rfl, q σ rl ⟨rfl, fun _ _ => rfl⟩ (fun _ z => z) EnLe.refl⟩
  | cons u us => exact q.elim
theorem sndGs_cons {tg : Expr} {tgs : List Expr} {ks ls : List Nat} {b1 : Bd} {bs : Bds} (h1 : SndG X tg ks b1) (h2 : SndGs X tgs ls bs) (hs : (assignEach (tg :: tgs) X.env).map (·.2) = assign tg X.env :: (assignEach tgs X.env).map (·.2) := by rfl) : SndGs X (tg :: tgs) (ks ++ ls) (bdCons b1 bs) := by
  obtain ⟨g, p1, h1⟩ := h1
  obtain ⟨g2, p2, h2⟩ := h2
  refine ⟨_, pgs_cons p1 p2 hs, fun F ρ E B σ H us vs Q rl h q => ?_⟩
  cases us with
  | nil => exact q.elim
  | cons u us =>
    simp only [Reps] at h
    obtain ⟨v, r, rfl, hv, hr⟩ := h
    refine ⟨v, r, rfl, h1 F ρ E B σ H u v _ rl hv ?_⟩
    simp only [bdCons] at q
    cases e1 : b1 u E with
    | none => rw [e1] at q; exact q.elim
    | some E1 =>
      rw [e1] at q
      intro σ1 rl1 sb1 lv1 le1
      refine h2 F ρ E1 B σ1 H us r _ rl1 (hr.mono (Stp.less lv1) (List.prefix_refl _)) ?_
      simp only [Option.bind_some] at q
      cases e2 : bs us E1 with
      | none => rw [e2] at q; exact q.elim
      | some E2 =>
        rw [e2] at q
        intro σ2 rl2 sb2 lv2 le2
        refine q σ2 rl2 ⟨sb2.1.trans sb1.1, fun j hj => ?_⟩ (fun z hz => lv1 z (lv2 z hz)) (le1.trans le2)
        rw [sb2.2 j (fun z => hj (List.mem_append_right _ z)), sb1.2 j (fun z => hj (List.mem_append_left _ z))]
def bdT (bs : Bds) : Bd := fun u E => match u with
  | .tup us => bs us E
  | _ => none
theorem sndG_tup {tgs : List Expr} {k n : Nat} {ks : List Nat} {bs : Bds} (hc : X.calm = true) (h : SndGs X tgs ks bs) (hbl : ∀ us E, us.length ≠ n → bs us E = none) (hn : (assignEach tgs X.env).length = n := by rfl) (hst : (assignEach tgs X.env).findIdx? (·.1) = none := by rfl) : SndG X (.Tuple tgs k pos) ks (bdT bs) := by
  obtain ⟨g, p1, h⟩ := h
  refine ⟨_, pg_tup hc p1 hn hst, fun F ρ E B σ H u v Q rl hr q => ?_⟩
  cases u with
  | tup us =>
    simp only [Rep] at hr
    obtain ⟨pp, vs, rfl, h1, h2⟩ := hr
    simp only [bdT] at q
    refine ⟨pp, vs, rfl, sqT_of h1, ?_, h F ρ E B σ H us vs Q rl h2 q⟩
    rw [← h2.len]
    by_cases z : us.length = n
    · exact z
    · rw [hbl us E z] at q; exact q.elim
  | _ => exact q.elim
theorem bdNil_len {us : List U} {E : En} (h : us.length ≠ 0) : bdNil us E = none := by cases us <;> simp_all [bdNil]
theorem bdCons_len {b1 : Bd} {bs : Bds} {n : Nat} (h : ∀ us E, us.length ≠ n → bs us E = none) : ∀ us E, us.length ≠ n + 1 → bdCons b1 bs us E = none := fun us E hl => by
  cases us with
  | nil => rfl
  | cons u us =>
    simp only [bdCons]
    cases b1 u E with
    | none => rfl
    | some E1 => exact h us E1 (fun z => hl (by simp [z]))
end
end QB
/-! QbH: while, for, comprehensions. -/
namespace QB
open PySem L2
open Classical in
/-- only where the walked thing is as it was -/
noncomputable def goOn (chk : Bx → Prop) (f : Sm) : Sm := fun E B => if chk B then f E B else .bad
theorem goOn_yes {chk : Bx → Prop} {f : Sm} {E : En} {B : Bx} (h : chk B) : goOn chk f E B = f E B := by unfold goOn; exact if_pos h
theorem goOn_post {K : PySem.W.Frag} {F : Fm} {ρ : List Addr} {chk : Bx → Prop} {f : Sm} {E : En} {B : Bx} {D : Ends} (h : PostS K F ρ (goOn chk f E B) D) : chk B ∧ PostS K F ρ (f E B) D := by
  unfold goOn at h
  split at h
  · next c => exact ⟨c, h⟩
  · exact h.elim
@[simp] theorem goOn_true {f : Sm} {E : En} {B : Bx} : goOn (fun _ => True) f E B = f E B := goOn_yes trivial
/-- one turn for each item -/
noncomputable def forGo (bd : Bd) (body : Sm) (chk : Bx → Prop) : List U → Sm
  | [] => fun E B => .ok .nx E B
  | u :: us => fun E B => match bd u E with
    | none => .bad
    | some E1 => (body E1 B).bind fun fl E2 B2 => match fl with
      | .bk => .ok .nx E2 B2
      | .rt v => .ok (.rt v) E2 B2
      | _ => goOn chk (forGo bd body chk us) E2 B2
abbrev Iv := En → Bx → O (List U × (Bx → Prop))
noncomputable def sFor (fi : Iv) (bd : Bd) (body : Sm) : Sm := fun E B => (fi E B).bind fun w E1 B1 => forGo bd body w.2 w.1 E1 B1
def whileN : Nat → Te → Sm → Sm
  | 0, _, _ => fun _ _ => .bad
  | n + 1, c, b => fun E B => (c E B).bind fun k E1 B1 => if k = true then (b E1 B1).bind fun fl E2 B2 => match fl with
      | .bk => .ok .nx E2 B2
      | .rt v => .ok (.rt v) E2 B2
      | _ => whileN n c b E2 B2
    else .ok .nx E1 B1
def whileFuel : Nat := 1000000000000
def sWhile (c : Te) (b : Sm) : Sm := whileN whileFuel c b
/-- what is walked: the items, as they come -/
structure WalkU (K : PySem.W.Frag) (J : It) (us : List U) (chk : Bx → Prop) (G : Hp → AS → List Addr → Prop) : Prop where
  keep : ∀ H Lv ρ H' Lv' ρ' (B' : Bx), G H Lv ρ → Stp H Lv H' Lv' → ρ <+: ρ' → (∀ (i : Nat) (c : Cell) (p : Addr), B'[i]? = some c → c.live = true → ρ'[i]? = some p → CellOk K H' Lv' ρ' c p) → chk B' → G H' Lv' ρ'
  go : ∀ H Lv ρ i, G H Lv ρ → i < us.length → J.go i H
  stop : ∀ H Lv ρ, G H Lv ρ → J.stop us.length H
  yld : ∀ H Lv ρ i u x H', G H Lv ρ → us[i]? = some u → J.yld i H x H' → (∀ q, Lv q → ∃ o, H q = some o) → (∀ q o, H q = some o → H' q = some o) ∧ Rep K H' Lv ρ u x
def SndI (X : Cx) (tg iter : Expr) (fi : Iv) : Prop := ∃ wi : TI, PI X tg iter wi ∧ ∀ F ρ E B σ H (Rk : It → Hp → Prop), Rel X.K F ρ E B σ H →
  (match fi E B with
    | .ok w E' B' => ∀ ρ' H' J G, AftT X.K F ρ E B σ H ρ' E' B' H' → WalkU X.K J w.1 w.2 G → G H' (LvF F ρ' E' B' σ) ρ' → w.2 B' → Rk J H'
    | _ => False) → wi σ H Rk
section
variable {X : Cx} {a b c e i tg iter elt : Expr} {es ifs : List Expr} {fa fb fe : Ex} {ft : Te} {f g body : Sm} {fi : Iv} {fs : Ar} {bd : Bd} {ks : List Nat} {pos p p2 p3 cpos apos pos' : Pos} {x name : Str} {sts : List Stmt}
theorem Rel.boxes {K : PySem.W.Frag} {F : Fm} {ρ : List Addr} {E : En} {B : Bx} {σ : L2.St} {H : Hp} (r : Rel K F ρ E B σ H) : ∀ (i : Nat) (c : Cell) (p : Addr), B[i]? = some c → c.live = true → ρ[i]? = some p → CellOk K H (LvF F ρ E B σ) ρ c p := fun i c p h1 h2 h3 => (r.box i c p h1 h2 h3).1
theorem Rel.rebase {K : PySem.W.Frag} {F : Fm} {ρ : List Addr} {E : En} {B : Bx} {σ : L2.St} {H : Hp} (r : Rel K F ρ E B σ H) : Rel K ⟨F.Out, H, LvF F ρ E B σ⟩ ρ E B σ H :=
  ⟨r.elen, r.blen, r.val, r.own, r.oinj, r.box, r.binj, fun q h => ⟨rfl, r.lv_there q (.inl h)⟩, Stp.refl, fun q o h => ⟨o, h⟩⟩
theorem Rel.unbase {K : PySem.W.Frag} {F : Fm} {ρ ρ' : List Addr} {E E' : En} {B B' : Bx} {σ σ' : L2.St} {H H' : Hp} (r : Rel K F ρ E B σ H) (r' : Rel K ⟨F.Out, H, LvF F ρ E B σ⟩ ρ' E' B' σ' H') :
    Rel K F ρ' E' B' σ' H' ∧ Stp H (LvF F ρ E B σ) H' (LvF F ρ' E' B' σ') := by
  have s : Stp H (LvF F ρ E B σ) H' (LvF F ρ' E' B' σ') := r'.old
  refine ⟨⟨r'.elen, r'.blen, r'.val, r'.own, r'.oinj, r'.box, r'.binj, fun q h => ?_, r.old.trans s, fun q o h => ?_⟩, s⟩
  · rw [(r'.out q h).1]; exact r.out q h
  · obtain ⟨o', h1⟩ := r.grow q o h
    exact r'.grow q o' h1
theorem sndS_while {c : Expr} (hp : PassesOwn (model X.prog X.w) X.A X.env X.xe) (hc : SndT X c ft) (hb : SndB X sts body) : SndS X (.While c sts [] pos) (sWhile ft body) := by
  obtain ⟨tc, pc, hc⟩ := hc
  obtain ⟨tb, pb, hb⟩ := hb
  refine ⟨_, ps_while hp pc pb, fun F ρ E B σ H D rl q => ?_⟩
  refine ⟨fun m σ' H' => ∃ ρ' E' B', ρ <+: ρ' ∧ Rel X.K F ρ' E' B' σ' H' ∧ PostS X.K F ρ' (whileN m ft body E' B') D, ⟨whileFuel, ρ, E, B, List.prefix_refl _, rl, q⟩, ?_⟩
  rintro m σ1 H1 ⟨ρ1, E1, B1, px1, rl1, q1⟩
  cases m with
  | zero => exact q1.elim
  | succ m =>
    refine hc F ρ1 E1 B1 σ1 H1 _ rl1 ?_
    simp only [whileN] at q1
    cases h1 : ft E1 B1 with
    | bad => rw [h1] at q1; exact q1
    | ex c E' B' => rw [h1] at q1; exact q1
    | ok k E2 B2 =>
      rw [h1] at q1
      intro ρ2 H2 A2
      cases k with
      | false =>
        simp only [O.bind_ok, Bool.false_eq_true, if_false] at q1 ⊢
        exact q1 ρ2 σ1 H2 A2.px A2.rel
      | true =>
        simp only [O.bind_ok, if_true] at q1 ⊢
        refine ⟨fun σ' H' => ∃ ρ' E' B', ρ <+: ρ' ∧ Rel X.K F ρ' E' B' σ' H' ∧ PostS X.K F ρ' (whileN m ft body E' B') D, fun σ' H' n => ⟨m, by omega, n⟩, ?_⟩
        refine hb F ρ2 E2 B2 σ1 H2 _ A2.rel ?_
        have q2 := PostS.px q1 A2.px
        cases h2 : body E2 B2 with
        | bad => rw [h2] at q2; exact q2
        | ex c E' B' => rw [h2] at q2; exact q2
        | ok fl E3 B3 =>
          rw [h2] at q2
          simp only [O.bind_ok] at q2
          cases fl with
          | nx => exact fun ρ3 σ3 H3 px3 rl3 => ⟨ρ3, E3, B3, (px1.trans A2.px).trans px3, rl3, q2.px px3⟩
          | ct => exact fun ρ3 σ3 H3 px3 rl3 => ⟨ρ3, E3, B3, (px1.trans A2.px).trans px3, rl3, q2.px px3⟩
          | bk => exact q2
          | rt u => exact q2
theorem sndS_for (hp : PassesOwn (model X.prog X.w) X.A X.env X.xe) (hcalm : X.calm = true) (hi : SndI X tg iter fi) (hg : SndG X tg ks bd) (hb : SndB X sts body) (hs : ∀ x, foldedSetIterable iter X.env x = pure x := by intro _; rfl) : SndS X (.For tg iter sts [] pos) (sFor fi bd body) := by
  obtain ⟨wi, pi, hi⟩ := hi
  obtain ⟨g, pg, hg⟩ := hg
  obtain ⟨tb, pb, hb⟩ := hb
  refine ⟨_, ps_for hp hcalm pi pg pb hs, fun F ρ E B σ H D rl q => ?_⟩
  refine hi F ρ E B σ H _ rl ?_
  simp only [sFor] at q
  cases h1 : fi E B with
  | bad => rw [h1] at q; exact q
  | ex c E' B' => rw [h1] at q; exact q
  | ok w E1 B1 =>
    rw [h1] at q
    obtain ⟨us, chk⟩ := w
    simp only [O.bind_ok] at q
    intro ρ1 H1 J G A1 W G1 C1
    refine ⟨fun i m σ' H' => m = us.length - i ∧ i ≤ us.length ∧ ∃ ρ' E' B', ρ <+: ρ' ∧ Rel X.K F ρ' E' B' σ' H' ∧ G H' (LvF F ρ' E' B' σ') ρ' ∧ PostS X.K F ρ' (forGo bd body chk (us.drop i) E' B') D,
      ⟨us.length, by simp, Nat.zero_le _, ρ1, E1, B1, A1.px, A1.rel, G1, by simpa using q.px A1.px⟩, ?_⟩
    rintro i m σ2 H2 ⟨rfl, hil, ρ2, E2, B2, px2, rl2, G2, q2⟩
    by_cases hlt : i < us.length
    · refine .inr ⟨W.go _ _ _ _ G2 hlt, fun σ' H' => (us.length - (i + 1) = us.length - (i + 1) ∧ i + 1 ≤ us.length ∧ ∃ ρ' E' B', ρ <+: ρ' ∧ Rel X.K F ρ' E' B' σ' H' ∧ G H' (LvF F ρ' E' B' σ') ρ' ∧ PostS X.K F ρ' (forGo bd body chk (us.drop (i + 1)) E' B') D),
        fun σ' H' n => ⟨us.length - (i + 1), by omega, n⟩, fun y H' hy => ?_⟩
      have hu : us[i]? = some us[i] := List.getElem?_eq_getElem hlt
      obtain ⟨gr, rp⟩ := W.yld _ _ _ i us[i] y H' G2 hu hy rl2.lv_there
      have rl3 := rl2.growH gr
      rw [List.drop_eq_getElem_cons hlt] at q2
      simp only [forGo] at q2
      refine hg F ρ2 E2 B2 σ2 H' us[i] y _ rl3 rp ?_
      cases h2 : bd us[i] E2 with
      | none => rw [h2] at q2; exact q2.elim
      | some E3 =>
        rw [h2] at q2
        intro σ3 rl4 sb lv3 _
        have s23 : Stp H2 (LvF F ρ2 E2 B2 σ2) H' (LvF F ρ2 E3 B2 σ3) := (grow_stp rl2 gr).trans (Stp.less lv3)
        refine hb _ ρ2 E3 B2 σ3 H' _ rl4.rebase ?_
        cases h3 : body E3 B2 with
        | bad => simp only [h3] at q2; exact q2
        | ex c E' B' => simp only [h3] at q2; exact q2
        | ok fl E4 B4 =>
          simp only [h3, O.bind_ok] at q2
          have next : PostS X.K F ρ2 (goOn chk (forGo bd body chk (us.drop (i + 1))) E4 B4) D → ∀ ρ5 σ5 H5, ρ2 <+: ρ5 → Rel X.K ⟨F.Out, H', LvF F ρ2 E3 B2 σ3⟩ ρ5 E4 B4 σ5 H5 →
              us.length - (i + 1) = us.length - (i + 1) ∧ i + 1 ≤ us.length ∧ ∃ ρ' E' B', ρ <+: ρ' ∧ Rel X.K F ρ' E' B' σ5 H5 ∧ G H5 (LvF F ρ' E' B' σ5) ρ' ∧ PostS X.K F ρ' (forGo bd body chk (us.drop (i + 1)) E' B') D := fun q5 ρ5 σ5 H5 px5 rl5 => by
            obtain ⟨hck, q6⟩ := goOn_post q5
            obtain ⟨rl6, s5⟩ := rl4.unbase rl5
            exact ⟨rfl, hlt, ρ5, E4, B4, px2.trans px5, rl6, W.keep _ _ _ _ _ _ B4 G2 (s23.trans s5) px5 rl6.boxes hck, q6.px px5⟩
          cases fl with
          | nx => exact next q2
          | ct => exact next q2
          | bk => exact fun ρ5 σ5 H5 px5 rl5 => q2 ρ5 σ5 H5 px5 (rl4.unbase rl5).1
          | rt u => exact fun ρ5 σ5 H5 v5 px5 rl5 rp5 => q2 ρ5 σ5 H5 v5 px5 (rl4.unbase rl5).1 rp5
    · have e : i = us.length := by omega
      subst e
      rw [List.drop_length] at q2
      exact .inl ⟨W.stop _ _ _ G2, q2 ρ2 σ2 H2 (List.prefix_refl _) rl2⟩
end
end QB
/-! QbI: what is walked; list comprehensions. -/
namespace QB
open PySem L2
/-! ### what is walked -/
def yes : Bx → Prop := fun _ => True
@[simp] theorem goOn_Yes {f : Sm} {E : En} {B : Bx} : goOn yes f E B = f E B := goOn_yes trivial
def itemsOf (u : U) (B : Bx) : Option (List U × (Bx → Prop)) :=
  match u with
  | .lst us => some (us, yes)
  | .tup us => some (us, yes)
  | .str z => some (z.cps.toList.map (fun c => .str ⟨#[c]⟩), yes)
  | .scr ns => some (ns.map .int, yes)
  | .box j => match B[j]? with
    | some (.lst us) => some (us, fun B' => B'[j]? = some (.lst us))
    | _ => none
  | _ => none
def mItV (f : Ex) : Iv := fun E B => (f E B).bind fun r E1 B1 =>
  match settle r E1 with
  | some (u, E2) => match itemsOf u B1 with
    | some w => .ok w E2 B1
    | none => .bad
  | none => .bad
def intsU (lo : Int) (n : Nat) : List U := (List.range n).map fun k => .int (lo + (k : Nat))
def mRange1 (fs : Ar) : Iv := fun E B => (fs E B).bind fun us E1 B1 =>
  match us with
  | [.int j] => if I62 j = true then .ok (intsU 0 j.toNat, yes) E1 B1 else .bad
  | _ => .bad
def mRange2 (fs : Ar) : Iv := fun E B => (fs E B).bind fun us E1 B1 =>
  match us with
  | [.int i, .int j] => if I62 i = true ∧ I62 j = true then .ok (intsU i (j - i).toNat, yes) E1 B1 else .bad
  | _ => .bad
def mEnum (fs : Ar) : Iv := fun E B => (fs E B).bind fun us E1 B1 =>
  match us with
  | [.lst ws] => .ok (ws.mapIdx fun k u => .tup [.int (k : Nat), u], yes) E1 B1
  | _ => .bad
section
variable {X : Cx} {a b c e i tg iter elt : Expr} {es ifs : List Expr} {fa fb fe : Ex} {ft : Te} {f g body : Sm} {fi : Iv} {fs : Ar} {bd : Bd} {ks : List Nat} {pos p p2 p3 cpos apos pos' tpos : Pos} {x name : Str} {sts : List Stmt}
section
variable {K : PySem.W.Frag}
theorem walkU_list {q : Addr} {us : List U} : WalkU K (Itl K q) us yes (fun H Lv ρ => Rep K H Lv ρ (.lst us) (.ref q)) := by
  have un : ∀ {H Lv ρ}, Rep K H Lv ρ (.lst us) (.ref q) → ∃ vs, SqL K H q vs ∧ Reps K H Lv ρ us vs := fun {H Lv ρ} h => by
    simp only [Rep] at h
    obtain ⟨p, vs, e, h1, h2⟩ := h
    cases e
    exact ⟨vs, .inl (.inl h1.1), h2⟩
  refine ⟨fun H Lv ρ H' Lv' ρ' B' g s px _ _ => Rep.mono s px _ _ g, fun H Lv ρ i g hi => ?_, fun H Lv ρ g => ?_, fun H Lv ρ i u x H' g hu hy _ => ?_⟩
  · obtain ⟨vs, h1, h2⟩ := un g
    obtain ⟨v, h3, _⟩ := h2.get (List.getElem?_eq_getElem hi)
    exact ⟨vs, v, h1, h3⟩
  · obtain ⟨vs, h1, h2⟩ := un g
    exact ⟨vs, h1, by rw [h2.len]; exact Nat.le_refl _⟩
  · obtain ⟨vs, h1, h2⟩ := un g
    obtain ⟨rfl, hy⟩ := hy
    obtain ⟨v, h3, h4⟩ := h2.get hu
    have := hy vs h1
    rw [h3] at this
    cases this
    exact ⟨fun _ _ z => z, h4⟩
theorem walkU_box {q : Addr} {us : List U} {j : Nat} : WalkU K (Itl K q) us (fun B' => B'[j]? = some (.lst us)) (fun H Lv ρ => ρ[j]? = some q ∧ ∃ vs, H q = some (.lst vs) ∧ Reps K H Lv ρ us vs) := by
  refine ⟨fun H Lv ρ H' Lv' ρ' B' g s px hb hc => ?_, fun H Lv ρ i g hi => ?_, fun H Lv ρ g => ?_, fun H Lv ρ i u x H' g hu hy _ => ?_⟩
  · have h := px_get px g.1
    exact ⟨h, hb j _ q hc rfl h⟩
  · obtain ⟨_, vs, h1, h2⟩ := g
    obtain ⟨v, h3, _⟩ := h2.get (List.getElem?_eq_getElem hi)
    exact ⟨vs, v, .inl (.inl h1), h3⟩
  · obtain ⟨_, vs, h1, h2⟩ := g
    exact ⟨vs, .inl (.inl h1), by rw [h2.len]; exact Nat.le_refl _⟩
  · obtain ⟨_, vs, h1, h2⟩ := g
    obtain ⟨rfl, hy⟩ := hy
    obtain ⟨v, h3, h4⟩ := h2.get hu
    have := hy vs (.inl (.inl h1))
    rw [h3] at this
    cases this
    exact ⟨fun _ _ z => z, h4⟩
theorem walkU_tup {q : Addr} {us : List U} : WalkU K (Itt K q) us yes (fun H Lv ρ => Rep K H Lv ρ (.tup us) (.ref q)) := by
  have un : ∀ {H Lv ρ}, Rep K H Lv ρ (.tup us) (.ref q) → ∃ vs, SqT K H q vs ∧ Reps K H Lv ρ us vs := fun {H Lv ρ} h => by
    simp only [Rep] at h
    obtain ⟨p, vs, e, h1, h2⟩ := h
    cases e
    exact ⟨vs, sqT_of h1, h2⟩
  refine ⟨fun H Lv ρ H' Lv' ρ' B' g s px _ _ => Rep.mono s px _ _ g, fun H Lv ρ i g hi => ?_, fun H Lv ρ g => ?_, fun H Lv ρ i u x H' g hu hy _ => ?_⟩
  · obtain ⟨vs, h1, h2⟩ := un g
    obtain ⟨v, h3, _⟩ := h2.get (List.getElem?_eq_getElem hi)
    exact ⟨vs, v, h1, h3⟩
  · obtain ⟨vs, h1, h2⟩ := un g
    exact ⟨vs, h1, by rw [h2.len]; exact Nat.le_refl _⟩
  · obtain ⟨vs, h1, h2⟩ := un g
    obtain ⟨rfl, hy⟩ := hy
    obtain ⟨v, h3, h4⟩ := h2.get hu
    have := hy vs h1
    rw [h3] at this
    cases this
    exact ⟨fun _ _ z => z, h4⟩
theorem walkU_scr {q : Addr} {ns : List Int} : WalkU K (Itl K q) (ns.map .int) yes (fun H Lv ρ => Rep K H Lv ρ (.scr ns) (.ref q)) := by
  have un : ∀ {H Lv ρ}, Rep K H Lv ρ (.scr ns) (.ref q) → SqL K H q (ns.map V.int) := fun {H Lv ρ} h => by
    simp only [Rep] at h
    obtain ⟨p, e, h1⟩ := h
    cases e
    exact sqL_of h1
  refine ⟨fun H Lv ρ H' Lv' ρ' B' g s px _ _ => Rep.mono s px _ _ g, fun H Lv ρ i g hi => ?_, fun H Lv ρ g => ?_, fun H Lv ρ i u x H' g hu hy _ => ?_⟩
  · have hi' : i < ns.length := by simpa using hi
    exact ⟨_, .int ns[i], un g, by simp [hi']⟩
  · exact ⟨_, un g, by simp⟩
  · obtain ⟨rfl, hy⟩ := hy
    have h1 := hy _ (un g)
    simp only [List.getElem?_map, Option.map_eq_some_iff] at hu h1
    obtain ⟨n, h2, rfl⟩ := hu
    obtain ⟨m, h3, rfl⟩ := h1
    rw [h2] at h3
    cases h3
    exact ⟨fun _ _ z => z, by simp [Rep]⟩
theorem walkU_str {z : Str} : WalkU K (Its z) (z.cps.toList.map (fun c => .str ⟨#[c]⟩)) yes (fun _ _ _ => True) := by
  refine ⟨fun _ _ _ _ _ _ _ _ _ _ _ _ => trivial, fun H Lv ρ i g hi => ?_, fun H Lv ρ g => ?_, fun H Lv ρ i u x H' g hu hy _ => ?_⟩
  · simpa [Its] using hi
  · simp [Its]
  · obtain ⟨rfl, c, h1, rfl⟩ := hy
    simp only [List.getElem?_map, Option.map_eq_some_iff] at hu
    obtain ⟨n, h2, rfl⟩ := hu
    have : n = c := by
      rw [Array.getElem?_toList] at h2
      rw [h1] at h2
      exact (Option.some.inj h2).symm
    subst this
    exact ⟨fun _ _ z => z, by simp [Rep]⟩
theorem walkU_range {lo : Int} {n : Nat} : WalkU K (Itr lo n) (intsU lo n) yes (fun _ _ _ => True) := by
  refine ⟨fun _ _ _ _ _ _ _ _ _ _ _ _ => trivial, fun H Lv ρ i g hi => ?_, fun H Lv ρ g => ?_, fun H Lv ρ i u x H' g hu hy _ => ?_⟩
  · simpa [Itr, intsU] using hi
  · simp [Itr, intsU]
  · obtain ⟨rfl, rfl⟩ := hy
    unfold intsU at hu
    simp only [List.getElem?_map, Option.map_eq_some_iff] at hu
    obtain ⟨k, h2, rfl⟩ := hu
    have : k = i := by
      have := (List.getElem?_eq_some_iff.mp h2).2
      simpa using this.symm
    subst this
    exact ⟨fun _ _ z => z, by simp [Rep]⟩
theorem walkU_enum {q : Addr} {us : List U} : WalkU K (Ite K q) (us.mapIdx fun k u => .tup [.int (k : Nat), u]) yes (fun H Lv ρ => Rep K H Lv ρ (.lst us) (.ref q)) := by
  have un : ∀ {H Lv ρ}, Rep K H Lv ρ (.lst us) (.ref q) → ∃ vs, SqL K H q vs ∧ Reps K H Lv ρ us vs := fun {H Lv ρ} h => by
    simp only [Rep] at h
    obtain ⟨p, vs, e, h1, h2⟩ := h
    cases e
    exact ⟨vs, .inl (.inl h1.1), h2⟩
  refine ⟨fun H Lv ρ H' Lv' ρ' B' g s px _ _ => Rep.mono s px _ _ g, fun H Lv ρ i g hi => ?_, fun H Lv ρ g => ?_, fun H Lv ρ i u x H' g hu hy hlv => ?_⟩
  · obtain ⟨vs, h1, h2⟩ := un g
    have hi' : i < us.length := by simpa using hi
    obtain ⟨v, h3, _⟩ := h2.get (List.getElem?_eq_getElem hi')
    exact ⟨vs, v, h1, h3⟩
  · obtain ⟨vs, h1, h2⟩ := un g
    exact ⟨vs, h1, by rw [← h2.len]; simp⟩
  · obtain ⟨vs, h1, h2⟩ := un g
    obtain ⟨T, y, rfl, hT, rfl, hy⟩ := hy
    simp only [List.getElem?_mapIdx, Option.map_eq_some_iff] at hu
    obtain ⟨w, h3, rfl⟩ := hu
    obtain ⟨v, h4, h5⟩ := h2.get h3
    have hvy := hy vs h1
    rw [h4] at hvy
    have hvy' : v = y := Option.some.inj hvy
    subst hvy'
    have gr : ∀ q o, H q = some o → (upd H T (.tup [.int (i : Nat), v])) q = some o := fun q o h => by rw [upd_ne (ne_of_none h hT)]; exact h
    refine ⟨gr, ?_⟩
    have s : Stp H Lv (upd H T (.tup [.int (i : Nat), v])) Lv := fun q o h n => ⟨gr q o h, n⟩
    have nl : ¬ Lv T := fun z => by obtain ⟨o, ho⟩ := hlv T z; rw [hT] at ho; cases ho
    simp only [Rep]
    refine ⟨T, _, rfl, .inl ⟨.inl upd_same, nl⟩, ?_⟩
    simp only [Reps]
    exact ⟨_, _, rfl, by simp [Rep], v, _, rfl, Rep.mono s (List.prefix_refl _) _ _ h5, rfl⟩
end
theorem PI.or {w1 w2 : TI} (h1 : PI X tg iter w1) (h2 : PI X tg iter w2) : PI X tg iter (fun σ H R => w1 σ H R ∨ w2 σ H R) :=
  ⟨fun pins s σ H R I h => by
    rcases h with h | h
    · exact h1.run pins s σ H R I h
    · exact h2.run pins s σ H R I h⟩
theorem sndI_val (ha : SndE X a fa) : SndI X tg a (mItV fa) := by
  obtain ⟨ta, pa, ha⟩ := ha
  refine ⟨_, PI.or (PI.or (pi_list pa) (pi_tup pa)) (pi_str pa), fun F ρ E B σ H Rk rl q => ?_⟩
  simp only [mItV] at q
  cases h1 : fa E B with
  | bad => rw [h1] at q; exact q.elim
  | ex c E' B' => rw [h1] at q; exact q.elim
  | ok r1 E1 B1 =>
    rw [h1] at q
    simp only [O.bind_ok] at q
    cases hs : settle r1 E1 with
    | none => rw [hs] at q; exact q.elim
    | some y =>
      obtain ⟨u, E2⟩ := y
      rw [hs] at q
      simp only at q
      cases hi : itemsOf u B1 with
      | none => rw [hi] at q; exact q.elim
      | some w =>
        rw [hi] at q
        simp only at q
        have go : ∀ {Qv : VK}, (∀ ρ1 H1 v1, AftT X.K F ρ E B σ H ρ1 E2 B1 H1 → Rep X.K H1 (LvF F ρ1 E2 B1 σ) ρ1 u v1 → Qv v1 H1) → ta σ H Qv := fun {Qv} k => by
          refine ha F ρ E B σ H _ rl ?_
          rw [h1]
          intro ρ1 H1 v1 A1
          obtain ⟨T1, R1⟩ := A1.settled hs
          exact k ρ1 H1 v1 T1 R1
        cases u with
        | lst us =>
          cases hi
          refine .inl (.inl (go fun ρ1 H1 v1 T1 R1 => ?_))
          have R2 := R1
          simp only [Rep] at R2
          obtain ⟨pp, vs, rfl, k1, k2⟩ := R2
          exact ⟨pp, rfl, ⟨vs, .inl (.inl k1.1)⟩, q ρ1 H1 _ _ T1 walkU_list R1 trivial⟩
        | tup us =>
          cases hi
          refine .inl (.inr (go fun ρ1 H1 v1 T1 R1 => ?_))
          have R2 := R1
          simp only [Rep] at R2
          obtain ⟨pp, vs, rfl, k1, k2⟩ := R2
          exact ⟨pp, rfl, ⟨vs, sqT_of k1⟩, q ρ1 H1 _ _ T1 walkU_tup R1 trivial⟩
        | str z =>
          cases hi
          refine .inr (go fun ρ1 H1 v1 T1 R1 => ?_)
          simp only [Rep] at R1
          exact ⟨z, R1, q ρ1 H1 _ _ T1 walkU_str trivial trivial⟩
        | scr ns =>
          cases hi
          refine .inl (.inl (go fun ρ1 H1 v1 T1 R1 => ?_))
          have R2 := R1
          simp only [Rep] at R2
          obtain ⟨pp, rfl, k1⟩ := R2
          exact ⟨pp, rfl, ⟨_, sqL_of k1⟩, q ρ1 H1 _ _ T1 walkU_scr R1 trivial⟩
        | box j =>
          simp only [itemsOf] at hi
          split at hi
          · next us hB =>
            cases hi
            refine .inl (.inl (go fun ρ1 H1 v1 T1 R1 => ?_))
            simp only [Rep] at R1
            obtain ⟨pp, k1, rfl⟩ := R1
            have c1 := (T1.rel.box j _ pp hB rfl k1).1
            have c2 := c1
            obtain ⟨vs, k2, k3⟩ := c2
            exact ⟨pp, rfl, ⟨vs, .inl (.inl k2)⟩, q ρ1 H1 _ _ T1 walkU_box ⟨k1, c1⟩ hB⟩
          · cases hi
        | non => cases hi
        | bl _ => cases hi
        | int _ => cases hi
        | dct _ _ => cases hi
theorem sndI_range1 (hm : X.mg "range" = none) (ha : SndA X [a] fs) (hg : Gl X "range" := by rfl) (hs : starEach [a] X.env = [(false, eval a X.env)] := by rfl) : SndI X tg (.Call (.Name "range" p) [a] [] pos) (mRange1 fs) := by
  obtain ⟨ta, pa, ha⟩ := ha
  refine ⟨_, pi_range1 hg hm pa hs, fun F ρ E B σ H Rk rl q => ?_⟩
  simp only [mRange1] at q
  cases h1 : fs E B with
  | bad => rw [h1] at q; exact q.elim
  | ex c E' B' => rw [h1] at q; exact q.elim
  | ok us E1 B1 =>
    rw [h1] at q
    simp only [O.bind_ok] at q
    revert q
    generalize hw : (match us with | [.int j] => if I62 j = true then O.ok (intsU 0 j.toNat, yes) E1 B1 else .bad | _ => .bad) = oo
    intro q
    cases oo with
    | bad => exact q.elim
    | ex c E' B' => exact q.elim
    | ok w E' B' =>
      exact (by
        split at hw
        · next j =>
          split at hw
          · next hj =>
            cases hw
            refine ha F ρ E B σ H _ rl ?_
            rw [h1]
            intro ρ1 H1 vs A1
            have R := A1.reps
            simp only [Reps, Rep] at R
            obtain ⟨v, r, rfl, rfl, rfl⟩ := R
            exact ⟨j, rfl, (i62_iff.mp hj).1, (i62_iff.mp hj).2, q ρ1 H1 _ _ A1.t walkU_range trivial trivial⟩
          · cases hw
        · cases hw)
theorem sndI_range2 (hm : X.mg "range" = none) (ha : SndA X [a, b] fs) (hg : Gl X "range" := by rfl) (hs : starEach [a, b] X.env = [(false, eval a X.env), (false, eval b X.env)] := by rfl) (hs2 : starEach [b] X.env = [(false, eval b X.env)] := by rfl) : SndI X tg (.Call (.Name "range" p) [a, b] [] pos) (mRange2 fs) := by
  obtain ⟨ta, pa, ha⟩ := ha
  refine ⟨_, pi_range2 hg hm pa hs hs2, fun F ρ E B σ H Rk rl q => ?_⟩
  simp only [mRange2] at q
  cases h1 : fs E B with
  | bad => rw [h1] at q; exact q.elim
  | ex c E' B' => rw [h1] at q; exact q.elim
  | ok us E1 B1 =>
    rw [h1] at q
    simp only [O.bind_ok] at q
    revert q
    generalize hw : (match us with | [.int i, .int j] => if I62 i = true ∧ I62 j = true then O.ok (intsU i (j - i).toNat, yes) E1 B1 else .bad | _ => .bad) = oo
    intro q
    cases oo with
    | bad => exact q.elim
    | ex c E' B' => exact q.elim
    | ok w E' B' =>
      exact (by
        split at hw
        · next i j =>
          split at hw
          · next hj =>
            cases hw
            refine ha F ρ E B σ H _ rl ?_
            rw [h1]
            intro ρ1 H1 vs A1
            have R := A1.reps
            simp only [Reps, Rep] at R
            obtain ⟨v, r, rfl, rfl, v2, r2, rfl, rfl, rfl⟩ := R
            exact ⟨i, j, rfl, ⟨(i62_iff.mp hj.1).1, (i62_iff.mp hj.1).2, i62_iff.mp hj.2⟩, q ρ1 H1 _ _ A1.t walkU_range trivial trivial⟩
          · cases hw
        · cases hw)
theorem sndI_enum {elts : List Expr} {kk : Nat} (hm : X.mg "enumerate" = none) (ha : SndA X [a] fs) (hg : Gl X "enumerate" := by rfl) (hs : starEach [a] X.env = [(false, eval a X.env)] := by rfl) : SndI X (.Tuple elts kk tpos) (.Call (.Name "enumerate" p) [a] [] pos) (mEnum fs) := by
  obtain ⟨ta, pa, ha⟩ := ha
  refine ⟨_, pi_enum hg hm pa hs, fun F ρ E B σ H Rk rl q => ?_⟩
  simp only [mEnum] at q
  cases h1 : fs E B with
  | bad => rw [h1] at q; exact q.elim
  | ex c E' B' => rw [h1] at q; exact q.elim
  | ok us E1 B1 =>
    rw [h1] at q
    simp only [O.bind_ok] at q
    revert q
    generalize hw : (match us with | [.lst ws] => O.ok (ws.mapIdx fun k u => U.tup [U.int (k : Nat), u], yes) E1 B1 | _ => O.bad) = oo
    intro q
    cases oo with
    | bad => exact q.elim
    | ex c E' B' => exact q.elim
    | ok w E' B' =>
      exact (by
        split at hw
        · next ws =>
          cases hw
          refine ha F ρ E B σ H _ rl ?_
          rw [h1]
          intro ρ1 H1 vs A1
          have R := A1.reps
          simp only [Reps] at R
          obtain ⟨v, r, rfl, R1, rfl⟩ := R
          have R2 := R1
          simp only [Rep] at R2
          obtain ⟨pp, xs, rfl, k1, k2⟩ := R2
          exact ⟨pp, xs, rfl, .inl (.inl k1.1), q ρ1 H1 _ _ A1.t walkU_enum R1 trivial⟩
        · cases hw)
end
end QB
/-! QbJ: list comprehensions. -/
namespace QB
open PySem L2
def wipeE (E : En) : List Nat → En
  | [] => E
  | v :: vs => (wipeE E vs).set v .un
/-- the slots ks as they were in E1 -/
def keepE (E1 E : En) : List Nat → En
  | [] => E
  | v :: vs => match E1[v]? with
    | some s => (keepE E1 E vs).set v s
    | none => keepE E1 E vs
def noOwn (E1 : En) : List Nat → Bool
  | [] => true
  | v :: vs => match E1[v]? with
    | some (.own _) => false
    | none => false
    | _ => noOwn E1 vs
open Classical in
noncomputable def goOnL (chk : Bx → Prop) (f : Ar) : Ar := fun E B => if chk B then f E B else .bad
theorem goOnL_yes {chk : Bx → Prop} {f : Ar} {E : En} {B : Bx} (h : chk B) : goOnL chk f E B = f E B := by unfold goOnL; exact if_pos h
@[simp] theorem goOnL_Yes {f : Ar} {E : En} {B : Bx} : goOnL yes f E B = f E B := goOnL_yes trivial
noncomputable def lcGo (bd : Bd) (t : Te) (f : Ex) (chk : Bx → Prop) (ks : List Nat) : List U → List U → Ar
  | [], acc => fun E B => .ok acc E B
  | u :: us, acc => fun E B => match bd u E with
    | none => .bad
    | some E1 => (t E1 B).bind fun b E2 B2 => if b = true then (f E2 B2).bind fun r E3 B3 => match settle r E3 with
        | some (y, E4) => if acc.length < 16777216 then goOnL chk (lcGo bd t f chk ks us (acc ++ [y])) (wipeE E4 ks) B3 else .bad
        | none => .bad
      else goOnL chk (lcGo bd t f chk ks us acc) (wipeE E2 ks) B2
noncomputable def mLc (fi : Iv) (bd : Bd) (t : Te) (f : Ex) (ks : List Nat) : Ex := fun E B => (fi E B).bind fun w E1 B1 =>
  if noOwn E1 ks = true then (lcGo bd t f w.2 ks w.1 [] (wipeE E1 ks) B1).bind fun acc E2 B2 => .ok (.fr (.lst acc)) (keepE E1 E2 ks) B2 else .bad
def mYes : Te := fun E B => .ok true E B

section
variable {K : PySem.W.Frag} {F : Fm} {ρ ρ' : List Addr} {E E1 E' : En} {B B1 B' : Bx} {σ : L2.St} {H H' : Hp} {ks : List Nat}
theorem wipeE_len : ∀ ks : List Nat, (wipeE E ks).length = E.length
  | [] => rfl
  | v :: vs => by unfold wipeE; rw [List.length_set, wipeE_len vs]
theorem wipeE_get : ∀ {ks : List Nat} {j : Nat}, j ∉ ks → (wipeE E ks)[j]? = E[j]?
  | [], j, _ => rfl
  | v :: vs, j, h => by
    unfold wipeE
    rw [List.getElem?_set_ne (fun e => h (by simp [e]))]
    exact wipeE_get fun z => h (List.mem_cons_of_mem _ z)
theorem wipeE_in : ∀ {ks : List Nat} {j : Nat} {s : Sl}, j ∈ ks → (wipeE E ks)[j]? = some s → s = .un
  | v :: vs, j, s, h, e => by
    unfold wipeE at e
    by_cases hj : v = j
    · subst hj
      have hl : v < (wipeE E vs).length := by have := (List.getElem?_eq_some_iff.mp e).1; simpa using this
      rw [List.getElem?_set_self hl] at e
      exact (Option.some.inj e).symm
    · rw [List.getElem?_set_ne hj] at e
      rcases List.mem_cons.mp h with z | z
      · exact absurd z.symm hj
      · exact wipeE_in z e
theorem wipe_get : ∀ {ks : List Nat} {j : Nat}, j ∉ ks → (wipe σ ks)[j]? = σ[j]?
  | [], j, _ => rfl
  | v :: vs, j, h => by
    unfold wipe
    rw [List.getElem?_set_ne (fun e => h (by simp [e]))]
    exact wipe_get fun z => h (List.mem_cons_of_mem _ z)
theorem wipe_same {σ' : L2.St} (h : SameBut ks σ σ') (hk : ∀ k ∈ ks, k < σ.length) : wipe σ' ks = wipe (wipe σ ks) ks := by
  apply List.ext_getElem?
  intro j
  by_cases hj : j ∈ ks
  · have key : ∀ {τ : L2.St} {ls : List Nat}, j ∈ ls → j < τ.length → (wipe τ ls)[j]? = some none := by
      intro τ ls
      induction ls with
      | nil => intro h; cases h
      | cons v vs ih =>
        intro h hl
        unfold wipe
        by_cases hv : v = j
        · subst hv; exact List.getElem?_set_self (by rw [wipe_length]; exact hl)
        · rw [List.getElem?_set_ne hv]
          rcases List.mem_cons.mp h with z | z
          · exact absurd z.symm hv
          · exact ih z hl
    rw [key hj (by rw [h.1]; exact hk j hj), key hj (by rw [wipe_length]; exact hk j hj)]
  · rw [wipe_get hj, h.2 j hj, wipe_get hj, wipe_get hj]
theorem wipe_idem (hk : ∀ k ∈ ks, k < σ.length) : wipe (wipe σ ks) ks = wipe σ ks := (wipe_same (σ := σ) (σ' := σ) ⟨rfl, fun _ _ => rfl⟩ hk).symm
/-- the block's own names are forgotten -/
theorem Rel.wipes (r : Rel K F ρ E B σ H) : Rel K F ρ (wipeE E ks) B (wipe σ ks) H ∧ (∀ q, LvF F ρ (wipeE E ks) B (wipe σ ks) q → LvF F ρ E B σ q) := by
  have px : ρ <+: ρ := List.prefix_refl _
  have ownSet : ∀ (j : Nat) (d : Cell), (wipeE E ks)[j]? = some (.own d) → E[j]? = some (.own d) ∧ (wipe σ ks)[j]? = σ[j]? := fun j d e => by
    by_cases hj : j ∈ ks
    · cases wipeE_in hj e
    · rw [wipeE_get hj] at e; exact ⟨e, wipe_get hj⟩
  have less : ∀ q, LvF F ρ (wipeE E ks) B (wipe σ ks) q → LvF F ρ E B σ q := fun q z => by
    rcases z with z | z | ⟨j, d, h1, h2⟩
    · exact .inl z
    · exact .inr (.inl z)
    · obtain ⟨h3, h4⟩ := ownSet j d h1
      exact .inr (.inr ⟨j, d, h3, by rw [← h4]; exact h2⟩)
  have s := Stp.less (H := H) less
  refine ⟨⟨by rw [wipeE_len, wipe_length]; exact r.elen, r.blen, fun j w e => ?_, fun j d e => ?_, fun j k d f q e1 e2 e3 e4 => ?_, fun j d q e1 e2 e3 => ?_, r.binj, r.out, r.old.trans s, r.grow⟩, less⟩
  · by_cases hj : j ∈ ks
    · cases wipeE_in hj e
    · rw [wipeE_get hj] at e
      obtain ⟨w', h1, h2⟩ := r.val j w e
      exact ⟨w', by rw [wipe_get hj]; exact h1, h2.mono s px⟩
  · obtain ⟨h1, h2⟩ := ownSet j d e
    obtain ⟨h3, q, h4, h5, h6⟩ := r.own j d h1
    exact ⟨h3, q, by rw [h2]; exact h4, h5.mono s px rfl, h6⟩
  · obtain ⟨a1, a2⟩ := ownSet j d e1
    obtain ⟨b1, b2⟩ := ownSet k f e2
    exact r.oinj j k d f q a1 b1 (by rw [← a2]; exact e3) (by rw [← b2]; exact e4)
  · obtain ⟨h4, h5⟩ := r.box j d q e1 e2 e3
    exact ⟨h4.mono s px rfl, h5⟩
theorem EnLe.wipe (h : EnLe E E') : EnLe (wipeE E ks) (wipeE E' ks) := fun i hi => by
  by_cases hj : i ∈ ks
  · rcases hi with ⟨u, e⟩ | ⟨c, e⟩ <;> cases wipeE_in hj e
  · unfold IsSet at hi ⊢
    rw [wipeE_get hj] at hi ⊢
    exact h i hi
theorem wipeE_idem : wipeE (wipeE E ks) ks = wipeE E ks := by
  apply List.ext_getElem?
  intro j
  by_cases hj : j ∈ ks
  · by_cases hl : j < E.length
    · have h1 : ∃ s, (wipeE (wipeE E ks) ks)[j]? = some s := ⟨_, List.getElem?_eq_getElem (by rw [wipeE_len, wipeE_len]; exact hl)⟩
      have h2 : ∃ s, (wipeE E ks)[j]? = some s := ⟨_, List.getElem?_eq_getElem (by rw [wipeE_len]; exact hl)⟩
      obtain ⟨s1, h1⟩ := h1
      obtain ⟨s2, h2⟩ := h2
      rw [h1, h2, wipeE_in hj h1, wipeE_in hj h2]
    · rw [List.getElem?_eq_none (by rw [wipeE_len, wipeE_len]; omega), List.getElem?_eq_none (by rw [wipeE_len]; omega)]
  · rw [wipeE_get hj]
theorem keepE_len : ∀ ks : List Nat, (keepE E1 E ks).length = E.length
  | [] => rfl
  | v :: vs => by
    unfold keepE
    split
    · rw [List.length_set, keepE_len vs]
    · exact keepE_len vs
theorem keepE_get : ∀ {ks : List Nat} {j : Nat}, j ∉ ks → (keepE E1 E ks)[j]? = E[j]?
  | [], j, _ => rfl
  | v :: vs, j, h => by
    unfold keepE
    split
    · rw [List.getElem?_set_ne (fun e => h (by simp [e]))]
      exact keepE_get fun z => h (List.mem_cons_of_mem _ z)
    · exact keepE_get fun z => h (List.mem_cons_of_mem _ z)
theorem keepE_in : ∀ {ks : List Nat} {j : Nat} {s : Sl}, j ∈ ks → noOwn E1 ks = true → (keepE E1 E ks)[j]? = some s → E1[j]? = some s ∧ ∀ c, s ≠ .own c
  | v :: vs, j, s, h, hn, e => by
    unfold keepE at e
    unfold noOwn at hn
    cases hv : E1[v]? with
    | none => rw [hv] at hn; cases hn
    | some sv =>
      rw [hv] at e hn
      have hn' : noOwn E1 vs = true ∧ ∀ c, sv ≠ .own c := by
        cases sv with
        | own c => cases hn
        | un => exact ⟨hn, fun c z => by cases z⟩
        | val u => exact ⟨hn, fun c z => by cases z⟩
      by_cases hj : v = j
      · subst hj
        have hl : v < (keepE E1 E vs).length := by have := (List.getElem?_eq_some_iff.mp e).1; simpa using this
        simp only at e
        rw [List.getElem?_set_self hl] at e
        cases e
        exact ⟨hv, hn'.2⟩
      · simp only at e
        rw [List.getElem?_set_ne hj] at e
        rcases List.mem_cons.mp h with z | z
        · exact absurd z.symm hj
        · exact keepE_in z hn'.1 e
/-- behind the block the slots are as they were -/
theorem Rel.restore {ρ1 : List Addr} {H1 : Hp} {F1 : Fm} (r1 : Rel K F1 ρ1 E1 B1 σ H1) (r : Rel K F ρ E B (wipe σ ks) H) (s1 : Stp H1 (LvF F1 ρ1 E1 B1 σ) H (LvF F ρ E B (wipe σ ks))) (px1 : ρ1 <+: ρ) (hn : noOwn E1 ks = true) :
    Rel K F ρ (keepE E1 E ks) B σ H ∧ (∀ q, LvF F ρ (keepE E1 E ks) B σ q → LvF F ρ E B (wipe σ ks) q) := by
  have px : ρ <+: ρ := List.prefix_refl _
  have ownSet : ∀ (j : Nat) (d : Cell), (keepE E1 E ks)[j]? = some (.own d) → E[j]? = some (.own d) ∧ σ[j]? = (wipe σ ks)[j]? := fun j d e => by
    by_cases hj : j ∈ ks
    · exact absurd rfl ((keepE_in hj hn e).2 d)
    · rw [keepE_get hj] at e; exact ⟨e, (wipe_get hj).symm⟩
  have less : ∀ q, LvF F ρ (keepE E1 E ks) B σ q → LvF F ρ E B (wipe σ ks) q := fun q z => by
    rcases z with z | z | ⟨j, d, h1, h2⟩
    · exact .inl z
    · exact .inr (.inl z)
    · obtain ⟨h3, h4⟩ := ownSet j d h1
      exact .inr (.inr ⟨j, d, h3, by rw [← h4]; exact h2⟩)
  have s := Stp.less (H := H) less
  refine ⟨⟨by rw [keepE_len, r.elen, wipe_length], r.blen, fun j w e => ?_, fun j d e => ?_, fun j k d f q e1 e2 e3 e4 => ?_, fun j d q e1 e2 e3 => ?_, r.binj, r.out, r.old.trans s, r.grow⟩, less⟩
  · by_cases hj : j ∈ ks
    · obtain ⟨w', h1, h2⟩ := r1.val j w (keepE_in hj hn e).1
      exact ⟨w', h1, h2.mono (s1.trans s) px1⟩
    · rw [keepE_get hj] at e
      obtain ⟨w', h1, h2⟩ := r.val j w e
      exact ⟨w', by rw [← h1, wipe_get hj], h2.mono s px⟩
  · obtain ⟨h1, h2⟩ := ownSet j d e
    obtain ⟨h3, q, h4, h5, h6⟩ := r.own j d h1
    exact ⟨h3, q, by rw [h2]; exact h4, h5.mono s px rfl, h6⟩
  · obtain ⟨a1, a2⟩ := ownSet j d e1
    obtain ⟨b1, b2⟩ := ownSet k f e2
    exact r.oinj j k d f q a1 b1 (by rw [← a2]; exact e3) (by rw [← b2]; exact e4)
  · obtain ⟨h4, h5⟩ := r.box j d q e1 e2 e3
    exact ⟨h4.mono s px rfl, h5⟩
/-- a new thing gets another content -/
theorem Rel.reown {D : Addr} {o : Option HO} {ob : HO} (r : Rel K (F.add D o) ρ E B σ H) (n : New F D) :
    Rel K (F.add D (some ob)) ρ E B σ (upd H D ob) ∧ Stp H (LvF (F.add D o) ρ E B σ) (upd H D ob) (LvF (F.add D (some ob)) ρ E B σ) := by
  have px : ρ <+: ρ := List.prefix_refl _
  have nl := Rel.notLv r n
  have s : Stp H (LvF (F.add D o) ρ E B σ) (upd H D ob) (LvF (F.add D (some ob)) ρ E B σ) := fun q x h z => by
    have ne : q ≠ D := fun y => z (LvF.add_iff.mpr (.inr y))
    exact ⟨by rw [upd_ne ne]; exact h, z⟩
  have neB : ∀ (i : Nat) (c : Cell) (q : Addr), B[i]? = some c → c.live = true → ρ[i]? = some q → q ≠ D := fun i c q h1 h2 h3 e => (r.box i c q h1 h2 h3).2 (.inr e)
  refine ⟨⟨r.elen, r.blen, fun j w e => ?_, fun j d e => ?_, r.oinj, fun j d q e1 e2 e3 => ?_, r.binj, fun q h => ?_, fun q x h z => ?_, fun q x h => ?_⟩, s⟩
  · obtain ⟨w', h1, h2⟩ := r.val j w e
    exact ⟨w', h1, h2.mono s px⟩
  · obtain ⟨h3, q, h4, h5, h6, h7⟩ := r.own j d e
    have ne : q ≠ D := fun y => h6 (.inr y)
    exact ⟨h3, q, h4, h5.mono s px (upd_ne ne), h6, h7⟩
  · obtain ⟨h4, h5⟩ := r.box j d q e1 e2 e3
    exact ⟨h4.mono s px (upd_ne (neB j d q e1 e2 e3)), h5⟩
  · by_cases ne : q = D
    · subst ne; exact ⟨by rw [upd_same]; simp [Fm.add], ob, by simp [Fm.add]⟩
    · have := r.out q h
      rw [upd_ne ne]
      simpa [Fm.add, ne] using this
  · have ne : q ≠ D := fun y => z (.inr y)
    have := r.old q x (by simpa [Fm.add, ne] using h) z
    exact s q x this.1 this.2
  · by_cases ne : q = D
    · subst ne; exact ⟨ob, upd_same⟩
    · obtain ⟨o', h1⟩ := r.grow q x (by simpa [Fm.add, ne] using h)
      exact ⟨o', by rw [upd_ne ne]; exact h1⟩
end
/-! ### uniform readings -/
def uE (K : PySem.W.Frag) (f : Ex) : TE := fun σ H Q => ∃ F ρ E B, Rel K F ρ E B σ H ∧ PostE K F ρ E B σ H (f E B) Q
def uT (K : PySem.W.Frag) (f : Te) : TT := fun σ H Q => ∃ F ρ E B, Rel K F ρ E B σ H ∧ PostT K F ρ E B σ H (f E B) Q
def uG (K : PySem.W.Frag) (ks : List Nat) (bd : Bd) : TG := fun v σ H Q => ∃ F ρ E B u, Rel K F ρ E B σ H ∧ Rep K H (LvF F ρ E B σ) ρ u v ∧
  (match bd u E with
    | some E' => ∀ σ', Rel K F ρ E' B σ' H → SameBut ks σ σ' → (∀ q, LvF F ρ E' B σ' q → LvF F ρ E B σ q) → EnLe E E' → Q σ' H
    | none => False)
section
variable {X : Cx} {a b c e i tg iter elt : Expr} {es ifs : List Expr} {fa fb fe : Ex} {ft : Te} {fi : Iv} {bd : Bd} {ks : List Nat} {pos spos py : Pos} {y : Str} {scope : Scope} {own : List (Str × Nat)}
theorem SndE.u (h : SndE X e fa) : PE X e (uE X.K fa) := by
  obtain ⟨t, p, h⟩ := h
  exact ⟨fun pins s σ H Q I ⟨F, ρ, E, B, rl, q⟩ => p.run pins s σ H Q I (h F ρ E B σ H Q rl q)⟩
theorem SndT.u (h : SndT X e ft) : PT X e (uT X.K ft) := by
  obtain ⟨t, p, h⟩ := h
  exact ⟨fun pins s σ H Q I ⟨F, ρ, E, B, rl, q⟩ => p.run pins s σ H Q I (h F ρ E B σ H Q rl q)⟩
theorem SndG.u (h : SndG X tg ks bd) : PG X tg (uG X.K ks bd) := by
  obtain ⟨t, p, h⟩ := h
  exact ⟨fun pins s σ H v u Q I r ⟨F, ρ, E, B, w, rl, rr, q⟩ => p.run pins s σ H v u Q I r (h F ρ E B σ H w v Q rl rr q)⟩
/-- the tests of a comprehension -/
def SndTs (X : Cx) (ifs : List Expr) (f : Te) : Prop := PTs X ifs (uT X.K f)
theorem sndTs_nil : SndTs X [] mYes := ⟨fun pins s σ H Q I ⟨F, ρ, E, B, rl, q⟩ => pts_nil.run pins s σ H Q I (q ρ H (AftT.refl rl))⟩
theorem sndTs_one (h : SndT X c ft) : SndTs X [c] ft := pts_one h.u
def PostL (o : O (List U)) (k : List U → En → Bx → Prop) : Prop :=
  match o with
  | .ok a E B => k a E B
  | _ => False
structure Fin (K : PySem.W.Frag) (F : Fm) (ρ1 : List Addr) (E1 : En) (B1 : Bx) (σ : L2.St) (H1 : Hp) (D : Addr) (ks : List Nat) (acc : List U) (E : En) (B : Bx) (ρ : List Addr) (H : Hp) (vacc : List V) : Prop where
  px : ρ1 <+: ρ
  rel : Rel K (F.add D (some (.lst vacc))) ρ E B (wipe σ ks) H
  stp : Stp H1 (LvF F ρ1 E1 B1 σ) H (LvF (F.add D (some (.lst vacc))) ρ E B (wipe σ ks))
  le : EnLe (wipeE E1 ks) E
  at_ : H D = some (.lst vacc)
  reps : Reps K H (LvF (F.add D (some (.lst vacc))) ρ E B (wipe σ ks)) ρ acc vacc
theorem lc_reads {ta : TI} (hi : ∀ F ρ E B σ H (Rk : It → Hp → Prop), Rel X.K F ρ E B σ H → (match fi E B with
      | .ok w E' B' => ∀ ρ' H' J G, AftT X.K F ρ E B σ H ρ' E' B' H' → WalkU X.K J w.1 w.2 G → G H' (LvF F ρ' E' B' σ) ρ' → w.2 B' → Rk J H'
      | _ => False) → ta σ H Rk) :
    ∀ F ρ E B σ H Q, Rel X.K F ρ E B σ H → PostE X.K F ρ E B σ H (mLc fi bd ft fe ks E B) Q → tLc ta (uG X.K ks bd) (uT X.K ft) (uE X.K fe) ks σ H Q := by
  intro F ρ E B σ H Q rl q
  refine hi F ρ E B σ H _ rl ?_
  simp only [mLc] at q
  cases h1 : fi E B with
  | bad => rw [h1] at q; exact q
  | ex c E' B' => rw [h1] at q; exact q
  | ok w E1 B1 =>
    rw [h1] at q
    obtain ⟨us, chk⟩ := w
    simp only [O.bind_ok] at q
    intro ρ1 H1 J G A1 W G1 C1 D hD
    have hn : noOwn E1 ks = true := by
      by_cases z : noOwn E1 ks = true
      · exact z
      · rw [if_neg z] at q; exact q.elim
    rw [if_pos hn] at q
    have nw : New F D := A1.rel.new hD
    -- the slots lie within the frame
    have hks : ∀ k ∈ ks, k < σ.length := fun k hkm => by
      have hE : ∀ (ls : List Nat), noOwn E1 ls = true → ∀ k ∈ ls, k < E1.length := by
        intro ls
        induction ls with
        | nil => intro _ k z; cases z
        | cons v vs ih =>
          intro hn k hk
          unfold noOwn at hn
          cases hv : E1[v]? with
          | none => rw [hv] at hn; cases hn
          | some sv =>
            rw [hv] at hn
            have hn' : noOwn E1 vs = true := by cases sv <;> first | exact hn | cases hn
            rcases List.mem_cons.mp hk with z | z
            · subst z; exact (List.getElem?_eq_some_iff.mp hv).1
            · exact ih hn' k z
      have := hE ks hn k hkm
      rw [A1.rel.elen] at this
      exact this
    have qpost : PostL (lcGo bd ft fe chk ks us [] (wipeE E1 ks) B1) (fun accf Ef Bf => ∀ ρf Hf vf, Fin X.K F ρ1 E1 B1 σ H1 D ks accf Ef Bf ρf Hf vf → Q (.ref D) Hf) := by
      cases h2 : lcGo bd ft fe chk ks us [] (wipeE E1 ks) B1 with
      | bad => rw [h2] at q; exact q
      | ex c E' B' => rw [h2] at q; exact q
      | ok accf Ef Bf =>
        rw [h2] at q
        simp only [O.bind_ok] at q
        intro ρf Hf vf fin
        obtain ⟨r2, lv2⟩ := Rel.restore A1.rel fin.rel fin.stp fin.px hn
        have ea : F.addR Hf (.fr (.lst accf)) (.ref D) = F.add D (some (.lst vf)) := by simp only [Fm.addR, fin.at_]
        have s2 := Stp.less (H := Hf) lv2
        refine q ρf Hf (.ref D) ⟨A1.px.trans fin.px, by rw [ea]; exact r2, by rw [ea]; exact A1.stp.trans (fin.stp.trans s2), A1.le.trans fun j hj => ?_, ?_⟩
        · by_cases hjk : j ∈ ks
          · have hjl : j < E1.length := by rcases hj with ⟨u, e⟩ | ⟨c, e⟩ <;> exact (List.getElem?_eq_some_iff.mp e).1
            have hfl : j < (keepE E1 Ef ks).length := by
              rw [keepE_len, fin.rel.elen, wipe_length, ← A1.rel.elen]; exact hjl
            have hs := keepE_in hjk hn (List.getElem?_eq_getElem hfl)
            unfold IsSet at hj ⊢
            rw [List.getElem?_eq_getElem hfl, ← hs.1]
            exact hj
          · have h3 : IsSet (wipeE E1 ks) j := by unfold IsSet at hj ⊢; rw [wipeE_get hjk]; exact hj
            have h4 := fin.le j h3
            unfold IsSet at h4 ⊢
            rw [keepE_get hjk]
            exact h4
        · rw [ea]
          exact ⟨D, rfl, rfl, ⟨vf, fin.at_, fin.reps.mono s2 (List.prefix_refl _)⟩, nw⟩
    -- the loop
    refine ⟨fun i m Hc => m = us.length - i ∧ i ≤ us.length ∧ ∃ ρc Ec Bc acc vacc, Fin X.K F ρ1 E1 B1 σ H1 D ks acc Ec Bc ρc Hc vacc ∧ G Hc (LvF (F.add D (some (.lst vacc))) ρc Ec Bc (wipe σ ks)) ρc ∧ wipeE Ec ks = Ec ∧
      PostL (lcGo bd ft fe chk ks (us.drop i) acc Ec Bc) (fun accf Ef Bf => ∀ ρf Hf vf, Fin X.K F ρ1 E1 B1 σ H1 D ks accf Ef Bf ρf Hf vf → Q (.ref D) Hf), ⟨us.length, by simp, Nat.zero_le _, ρ1, wipeE E1 ks, B1, [], [], ?_, ?_, wipeE_idem, by simpa using qpost⟩, ?_⟩
    · obtain ⟨r2, lv2⟩ := (A1.rel.alloc (ob := .lst []) hD).wipes (ks := ks)
      have sa : Stp H1 (LvF F ρ1 E1 B1 σ) (upd H1 D (.lst [])) (LvF (F.add D (some (.lst []))) ρ1 E1 B1 σ) := fun q o h n => ⟨by rw [upd_ne (ne_of_none h hD)]; exact h, fun z => by
        rcases LvF.add_iff.mp z with z | z
        · exact n z
        · subst z; rw [hD] at h; cases h⟩
      exact ⟨List.prefix_refl _, r2, sa.trans (Stp.less lv2), EnLe.refl, upd_same, Reps.nil⟩
    · obtain ⟨r2, lv2⟩ := (A1.rel.alloc (ob := .lst []) hD).wipes (ks := ks)
      have sa : Stp H1 (LvF F ρ1 E1 B1 σ) (upd H1 D (.lst [])) (LvF (F.add D (some (.lst []))) ρ1 E1 B1 σ) := fun q o h n => ⟨by rw [upd_ne (ne_of_none h hD)]; exact h, fun z => by
        rcases LvF.add_iff.mp z with z | z
        · exact n z
        · subst z; rw [hD] at h; cases h⟩
      exact W.keep _ _ _ _ _ _ B1 G1 (sa.trans (Stp.less lv2)) (List.prefix_refl _) r2.boxes C1
    · rintro i m Hc ⟨rfl, hil, ρc, Ec, Bc, acc, vacc, fin, Gc, hwe, qc⟩
      by_cases hlt : i < us.length
      · refine .inr ⟨W.go _ _ _ _ Gc hlt, fun H' => (i + 1 ≤ us.length ∧ ∃ ρc Ec Bc acc vacc, Fin X.K F ρ1 E1 B1 σ H1 D ks acc Ec Bc ρc H' vacc ∧ G H' (LvF (F.add D (some (.lst vacc))) ρc Ec Bc (wipe σ ks)) ρc ∧ wipeE Ec ks = Ec ∧
          PostL (lcGo bd ft fe chk ks (us.drop (i + 1)) acc Ec Bc) (fun accf Ef Bf => ∀ ρf Hf vf, Fin X.K F ρ1 E1 B1 σ H1 D ks accf Ef Bf ρf Hf vf → Q (.ref D) Hf)), fun H' n => ⟨us.length - (i + 1), by omega, rfl, n⟩, fun x H' hy => ?_⟩
        have hu : us[i]? = some us[i] := List.getElem?_eq_getElem hlt
        obtain ⟨gr, rp⟩ := W.yld _ _ _ i us[i] x H' Gc hu hy fin.rel.lv_there
        have rl3 := fin.rel.growH gr
        have sg := grow_stp fin.rel gr
        rw [List.drop_eq_getElem_cons hlt] at qc
        simp only [lcGo] at qc
        refine ⟨F.add D (some (.lst vacc)), ρc, Ec, Bc, us[i], rl3, rp, ?_⟩
        cases h3 : bd us[i] Ec with
        | none => simp only [h3] at qc; exact (qc : False).elim
        | some E2 =>
          simp only [h3] at qc
          intro σ2 rl4 sb lv4 le4
          have hw2 : wipe σ2 ks = wipe σ ks := by
            have := wipe_same sb (fun k hkm => by rw [wipe_length]; exact hks k hkm)
            rw [this, wipe_idem (by intro k hkm; rw [wipe_length]; exact hks k hkm), wipe_idem hks]
          have s0 : Stp Hc (LvF (F.add D (some (.lst vacc))) ρc Ec Bc (wipe σ ks)) H' (LvF (F.add D (some (.lst vacc))) ρc E2 Bc σ2) := sg.trans (Stp.less lv4)
          have done : ∀ (ρn : List Addr) (En : En) (Bn : Bx) (Hn : Hp) (vn : List V) (accn : List U), ρc <+: ρn → Rel X.K (F.add D (some (.lst vn))) ρn En Bn σ2 Hn → Stp H' (LvF (F.add D (some (.lst vacc))) ρc E2 Bc σ2) Hn (LvF (F.add D (some (.lst vn))) ρn En Bn σ2) → EnLe E2 En → Hn D = some (.lst vn) →
              Reps X.K Hn (LvF (F.add D (some (.lst vn))) ρn En Bn σ2) ρn accn vn → PostL (goOnL chk (lcGo bd ft fe chk ks (us.drop (i + 1)) accn) (wipeE En ks) Bn) (fun accf Ef Bf => ∀ ρf Hf vf, Fin X.K F ρ1 E1 B1 σ H1 D ks accf Ef Bf ρf Hf vf → Q (.ref D) Hf) →
              (i + 1 ≤ us.length ∧ ∃ ρc Ec Bc acc vacc, Fin X.K F ρ1 E1 B1 σ H1 D ks acc Ec Bc ρc Hn vacc ∧ G Hn (LvF (F.add D (some (.lst vacc))) ρc Ec Bc (wipe σ ks)) ρc ∧ wipeE Ec ks = Ec ∧
                PostL (lcGo bd ft fe chk ks (us.drop (i + 1)) acc Ec Bc) (fun accf Ef Bf => ∀ ρf Hf vf, Fin X.K F ρ1 E1 B1 σ H1 D ks accf Ef Bf ρf Hf vf → Q (.ref D) Hf)) := fun ρn En Bn Hn vn accn pxn rln sn len atn repn qn => by
            obtain ⟨rw', lvw⟩ := rln.wipes (ks := ks)
            rw [hw2] at rw' lvw
            have sw := Stp.less (H := Hn) lvw
            have hck : chk Bn := by
              by_cases z : chk Bn
              · exact z
              · unfold goOnL at qn; rw [if_neg z] at qn; exact qn.elim
            rw [goOnL_yes hck] at qn
            have stot := (s0.trans sn).trans sw
            have le5 : EnLe (wipeE E1 ks) (wipeE En ks) := by
              have h0 := fin.le.trans (le4.trans len)
              have h1 := h0.wipe (ks := ks)
              rw [wipeE_idem] at h1
              exact h1
            exact ⟨hlt, ρn, wipeE En ks, Bn, accn, vn, ⟨fin.px.trans pxn, rw', fin.stp.trans stot, le5, atn, repn.mono sw (List.prefix_refl _)⟩, W.keep _ _ _ _ _ _ Bn Gc stot pxn rw'.boxes hck, wipeE_idem, qn⟩
          refine ⟨hw2, F.add D (some (.lst vacc)), ρc, E2, Bc, rl4, ?_⟩
          cases h4 : ft E2 Bc with
          | bad => simp only [h4] at qc; exact qc
          | ex c E' B' => simp only [h4] at qc; exact qc
          | ok b E3 B3 =>
            simp only [h4, O.bind_ok] at qc
            intro ρ3 H3 A3
            have at3 : H3 D = some (.lst vacc) := by have := (A3.rel.out D (.inr rfl)).1; simpa [Fm.add] using this
            cases b with
            | false =>
              simp only [Bool.false_eq_true, if_false] at qc ⊢
              exact done ρ3 E3 B3 H3 vacc acc A3.px A3.rel A3.stp A3.le at3 (fin.reps.mono (s0.trans A3.stp) A3.px) qc
            | true =>
              simp only [if_true] at qc ⊢
              refine ⟨F.add D (some (.lst vacc)), ρ3, E3, B3, A3.rel, ?_⟩
              cases h5 : fe E3 B3 with
              | bad => rw [h5] at qc; exact qc
              | ex c E' B' => rw [h5] at qc; exact qc
              | ok r E4 B4 =>
                rw [h5] at qc
                simp only [O.bind_ok] at qc
                intro ρ4 H4 v4 A4
                cases h6 : settle r E4 with
                | none => rw [h6] at qc; exact qc.elim
                | some yE =>
                  obtain ⟨y, E5⟩ := yE
                  rw [h6] at qc
                  simp only at qc
                  by_cases hl : acc.length < 16777216
                  · rw [if_pos hl] at qc
                    obtain ⟨T4, R4⟩ := A4.settled h6
                    have at4 : H4 D = some (.lst vacc) := by have := (T4.rel.out D (.inr rfl)).1; simpa [Fm.add] using this
                    obtain ⟨r5, s5⟩ := T4.rel.reown (ob := .lst (vacc ++ [v4])) nw
                    refine ⟨vacc, at4, by rw [sizeLine_eq, ← fin.reps.len]; exact hl, ?_⟩
                    exact done ρ4 E5 B4 _ (vacc ++ [v4]) (acc ++ [y]) (A3.px.trans T4.px) r5 ((A3.stp.trans T4.stp).trans s5) (A3.le.trans T4.le) upd_same
                      ((fin.reps.mono (((s0.trans A3.stp).trans T4.stp).trans s5) (A3.px.trans T4.px)).append (Reps.one (Rep.mono s5 (List.prefix_refl _) _ _ R4))) qc
                  · rw [if_neg hl] at qc; exact qc.elim
      · have e : i = us.length := by omega
        subst e
        rw [List.drop_length] at qc
        exact .inl ⟨W.stop _ _ _ Gc, qc ρc Hc vacc fin⟩
end
end QB
/-! QbK: comprehensions as expressions and statements; more operations; the law's end. -/
namespace QB
open PySem L2
section
variable {X : Cx} {a b c e i o tg iter elt : Expr} {es ifs : List Expr} {fa fb fe fo : Ex} {ft : Te} {fi : Iv} {fs : Ar} {bd : Bd} {ks : List Nat} {pos spos py p p1 p2 p3 cpos apos : Pos} {x y name : Str} {scope : Scope} {own : List (Str × Nat)}
theorem sndE_lc (hc : X.calm = true) (hN : X.N.Nodup) (ok : BlkOk X.N X.env.scope scope own) (hi : SndI X tg iter fi)
    (hg : ∀ (s : Shared) (H : Hp) (C : Addr) (cl : List (Str × Addr)) (fp : List Addr), SndG (X.blk s H scope (compEnvC scope cl C X.env) fp) tg (own.map (·.2)) bd)
    (ht : ∀ (s : Shared) (H : Hp) (C : Addr) (cl : List (Str × Addr)) (fp : List Addr), SndTs (X.blk s H scope (compEnvC scope cl C X.env) fp) ifs ft)
    (he : ∀ (s : Shared) (H : Hp) (C : Addr) (cl : List (Str × Addr)) (fp : List Addr), SndE (X.blk s H scope (compEnvC scope cl C X.env) fp) elt fe)
    (hs : ∀ x, foldedSetIterable iter X.env x = pure x := by intro _; rfl) : SndE X (.ListComp elt [⟨tg, iter, ifs, 0⟩] scope pos) (mLc fi bd ft fe (own.map (·.2))) := by
  obtain ⟨wi, pi, hi⟩ := hi
  exact ⟨_, pe_lc (g := uG X.K (own.map (·.2)) bd) (tt := uT X.K ft) (te := uE X.K fe) hc hN pi ok (fun s H C cl fp => (hg s H C cl fp).u) (fun s H C cl fp => ht s H C cl fp) (fun s H C cl fp => (he s H C cl fp).u) hs, lc_reads hi⟩
theorem sndS_setLc {k : Nat} (hc : X.calm = true) (hN : X.N.Nodup) (ok : BlkOk X.N X.env.scope scope own) (hi : SndI X tg iter fi)
    (hg : ∀ (s : Shared) (H : Hp) (C : Addr) (cl : List (Str × Addr)) (fp : List Addr), SndG (X.blk s H scope (compEnvC scope cl C X.env) fp) tg (own.map (·.2)) bd)
    (ht : ∀ (s : Shared) (H : Hp) (C : Addr) (cl : List (Str × Addr)) (fp : List Addr), SndTs (X.blk s H scope (compEnvC scope cl C X.env) fp) ifs ft)
    (he : ∀ (s : Shared) (H : Hp) (C : Addr) (cl : List (Str × Addr)) (fp : List Addr), SndE (X.blk s H scope (compEnvC scope cl C X.env) fp) elt fe)
    (hy : X.N[k]? = some y := by rfl) (hyl : X.env.scope.names.lookup y = some .local := by rfl) (hsw : swapsWith (.ListComp elt [⟨tg, iter, ifs, 0⟩] scope pos) (some (.Name y py)) spos.line X.env = pure true := by exact sw_true rfl rfl rfl (by decide +kernel))
    (hs : ∀ x, foldedSetIterable iter X.env x = pure x := by intro _; rfl) : SndS X (.Assign [.Name y py] (.ListComp elt [⟨tg, iter, ifs, 0⟩] scope pos) spos) (sSet k (mLc fi bd ft fe (own.map (·.2)))) := by
  obtain ⟨wi, pi, hi⟩ := hi
  exact ⟨_, ps_setLc (g := uG X.K (own.map (·.2)) bd) (tt := uT X.K ft) (te := uE X.K fe) hc hN hy hyl hsw pi ok (fun s H C cl fp => (hg s H C cl fp).u) (fun s H C cl fp => ht s H C cl fp) (fun s H C cl fp => (he s H C cl fp).u) hs, set_reads (lc_reads hi)⟩
theorem sndS_ownLc {k : Nat} (hc : X.calm = true) (hN : X.N.Nodup) (ok : BlkOk X.N X.env.scope scope own) (hi : SndI X tg iter fi)
    (hg : ∀ (s : Shared) (H : Hp) (C : Addr) (cl : List (Str × Addr)) (fp : List Addr), SndG (X.blk s H scope (compEnvC scope cl C X.env) fp) tg (own.map (·.2)) bd)
    (ht : ∀ (s : Shared) (H : Hp) (C : Addr) (cl : List (Str × Addr)) (fp : List Addr), SndTs (X.blk s H scope (compEnvC scope cl C X.env) fp) ifs ft)
    (he : ∀ (s : Shared) (H : Hp) (C : Addr) (cl : List (Str × Addr)) (fp : List Addr), SndE (X.blk s H scope (compEnvC scope cl C X.env) fp) elt fe)
    (hy : X.N[k]? = some y := by rfl) (hyl : X.env.scope.names.lookup y = some .local := by rfl) (hsw : swapsWith (.ListComp elt [⟨tg, iter, ifs, 0⟩] scope pos) (some (.Name y py)) spos.line X.env = pure true := by exact sw_true rfl rfl rfl (by decide +kernel))
    (hs : ∀ x, foldedSetIterable iter X.env x = pure x := by intro _; rfl) : SndS X (.Assign [.Name y py] (.ListComp elt [⟨tg, iter, ifs, 0⟩] scope pos) spos) (sOwn k (mLc fi bd ft fe (own.map (·.2)))) := by
  obtain ⟨wi, pi, hi⟩ := hi
  exact ⟨_, ps_setLc (g := uG X.K (own.map (·.2)) bd) (tt := uT X.K ft) (te := uE X.K fe) hc hN hy hyl hsw pi ok (fun s H C cl fp => (hg s H C cl fp).u) (fun s H C cl fp => ht s H C cl fp) (fun s H C cl fp => (he s H C cl fp).u) hs, own_reads (lc_reads hi)⟩
/-! ### isinstance against a tuple of types -/
theorem kitAny_of {K : PySem.W.Frag} {s : String} : ∀ {Ts : List String} {k : Bool}, isAny s Ts = some k → PySem.W.kitAny K (.type s) (Ts.map Value.type) = some k := by
  intro Ts
  induction Ts with
  | nil => intro k h; simp only [isAny, Option.some.injEq] at h; subst h; rfl
  | cons T Ts ih =>
    intro k h
    simp only [isAny, Option.bind_eq_some_iff, Option.map_eq_some_iff] at h
    obtain ⟨k1, h1, k2, h2, rfl⟩ := h
    have e1 : PySem.W.kitOne K (.type s) (.type T) = some k1 := kit_ty h1
    have e2 := ih h2
    simp only [List.map_cons, PySem.W.kitAny, e1, e2]
    cases k1 <;> rfl
/-! ### [::-1] of lists -/
def mRevL (fa : Ex) : Ex := m1 (fun u => match u with | .lst us => some (.fr (.lst us.reverse)) | _ => none) fa
theorem sndE_revL {k : Nat} (ha : SndE X a fa) : SndE X (.Subscript a (.Slice none none (some (.UnaryOp .USub (.Constant (.int 1) k p1) p2)) p3) pos) (mRevL fa) := by
  obtain ⟨ta, pa, ha⟩ := ha
  refine ⟨_, pe_revL pa, m1_ok (r := fun v H Q => ∃ a xs, v = .ref a ∧ SqL X.K H a xs ∧ ∀ p, H p = none → Q (.ref p) (upd H p (.lst xs.reverse))) (fun F ρ E B σ H u1 v1 r3 Q rl t e q => ?_) ha⟩
  split at e
  · next us =>
    cases e
    obtain ⟨p, vs, rfl, h1, h2⟩ := t
    exact ⟨p, vs, rfl, .inl (.inl h1), fun p hp => q _ _ (Aft.fresh rl hp h2.reverse)⟩
  · cases e
end
/-! ### the law's end -/
theorem spF_law {K : PySem.W.Frag} {g : Fn} (h : ∀ ns : List Int, ns.length ≤ 63 → ∃ B', g [.scr ns] [] = .ok (.bl true) B') :
    ∀ (H : Hp) (a : Addr) (ns : List Int), ns.length ≤ 63 → SqL K H a (ns.map V.int) → spF K 1 g [.ref a] H (fun v _ => v = .bl true) fun _ _ _ => False := by
  intro H a ns hl hS
  obtain ⟨B', e⟩ := h ns hl
  refine ⟨fun _ => False, [], [], [.scr ns], rfl, ⟨rfl, fun i c p h => by simp at h, fun i j c d p h => by simp at h, fun q z => z.elim⟩, Reps.one ?_, ?_⟩
  · simp only [Rep]
    refine ⟨a, rfl, ?_⟩
    rcases hS with hS | hS
    · exact .inl ⟨hS, fun z => by rcases z with z | ⟨i, c, z, _⟩; exact z; simp at z⟩
    · exact .inr hS
  · rw [e]
    intro ρ' H' v A
    have := A.rep
    simpa [Rep] using this
end QB
/-! QbL: defs as the generator calls them; joined operators; chains; keywords. -/
namespace QB
open PySem L2 PyProof.Rows
/-- a def of the text that keeps its promise -/
structure CalF (P : Program) (w : World) (K : PySem.W.Frag) (mg : Str → Option Value) (base : Heap) (k : Nat) (x : Str) (st : Stmt) (ps : List Str) (g : Fn) : Prop where
  ex : ∃ f fd, FnOk P w K mg base CX0 k f fd ps (spF K ps.length g) ∧ mg x = some (.ref f) ∧ Fun K x x st f fd ∧ Binds K fd ps []
  len : ∀ us B, us.length ≠ ps.length → g us B = .bad
/-- where the def stands -/
structure DefAt (K : PySem.W.Frag) (mg : Str → Option Value) (x : Str) (st : Stmt) : Prop where
  ex : ∃ f fd, Fun K x x st f fd ∧ mg x = some (.ref f)
section
variable {P : Program} {w : World} {K : PySem.W.Frag} {mg : Str → Option Value} {base : Heap} {k j : Nat} {x : Str} {st : Stmt} {ps : List Str} {g g' : Fn}
theorem CalF.mono (C : CalF P w K mg base j x st ps g) (h : j ≤ k) : CalF P w K mg base k x st ps g := by
  obtain ⟨⟨f, fd, h1, h2⟩, h3⟩ := C
  exact ⟨⟨f, fd, h1.mono h, h2⟩, h3⟩
theorem CalF.to (C : CalF P w K mg base k x st ps g) (h : ∀ us B, us.length = ps.length → g' us B ≠ .bad → g us B = g' us B) (hl : ∀ us B, us.length ≠ ps.length → g' us B = .bad) : CalF P w K mg base k x st ps g' := by
  obtain ⟨⟨f, fd, h1, h2⟩, h3⟩ := C
  exact ⟨⟨f, fd, h1.imp (spF_imp h), h2⟩, hl⟩
theorem calF_of {N : List Str} {body : Sm} (D : DefAt K mg x st) (S : FnScope N ps (defScope st))
    (hb : ∀ (kV doc pm : Value) (an : Option Addr) (cdv ct : Value) (us : List Value), us.length = ps.length → bindArgs (PySem.W.fnOf x x (defArgs st) (defBody st) (defScope st) .none kV doc pm an cdv ct) ⟨us, []⟩ = pure (ps.zip us))
    (h : ∀ (f : Addr) (cdv : Value) (A : Around) (outer : List Env) (s : Shared) (H : Hp) (E : XK), Room k (A.deeper (PyProof.Rows.envOfC x (defScope st) s.heap.objs.size f cdv)) →
      SndB (cxOf CX0 P w K mg base N x (defScope st) f cdv A outer s H E).nox (defBody st) body) : CalF P w K mg base (k + 1) x st ps (runBody N.length ps.length body) := by
  obtain ⟨f, fd, hF, hm⟩ := D.ex
  exact ⟨⟨f, fd, fn_body hF S (fun cdv A outer s H E hr => h f cdv A outer s H E hr), hm, hF, hF.binds hb⟩, runBody_len⟩
theorem calF_zero : CalF P w K mg base 0 x st ps (fun _ _ => .bad) → True := fun _ => trivial
/-- nothing is promised at level 0 -/
theorem calF_none (D : DefAt K mg x st) (hb : ∀ (kV doc pm : Value) (an : Option Addr) (cdv ct : Value) (us : List Value), us.length = ps.length → bindArgs (PySem.W.fnOf x x (defArgs st) (defBody st) (defScope st) .none kV doc pm an cdv ct) ⟨us, []⟩ = pure (ps.zip us)) :
    CalF P w K mg base k x st ps (fun _ _ => .bad) := by
  obtain ⟨f, fd, hF, hm⟩ := D.ex
  have no : ∀ vs H Q E, ¬ spF K ps.length (fun _ _ => Fo.bad) vs H Q E := fun vs H Q E ⟨_, _, _, _, _, _, _, z⟩ => z
  exact ⟨⟨f, fd, ⟨fun vs H Q E h => absurd h (no vs H Q E), fun A outer s H args us vs Q E _ _ _ _ h => absurd h (no vs H Q E)⟩, hm, hF, hF.binds hb⟩, fun _ _ _ => rfl⟩
end
section
variable {X : Cx} {a b c e : Expr} {es : List Expr} {fa fb fc : Ex} {fs : Ar} {pos p p2 p3 : Pos} {x : Str} {k j : Nat} {st : Stmt} {ps : List Str} {g : Fn}
theorem sndE_callF (C : CalF X.prog X.w X.K X.mg X.base k x st ps g) (hr : Room j X.A) (hk : k ≤ j) (ha : SndA X (e :: es) fs) (hg : Gl X x := by rfl) (hdb : (x == ("__debug__" : Str)) = false := by decide)
    (hs : starEach (e :: es) X.env = (false, eval e X.env) :: starEach es X.env := by rfl) (hpl : (backTo pos (starEach es X.env)).any (·.1) = false := by rfl) : SndE X (.Call (.Name x p) (e :: es) [] pos) (mCall g fs) := by
  obtain ⟨⟨f, fd, h1, h2, h3, h4⟩, hl⟩ := C
  exact sndE_call h1 (hr.mono hk) h2 h3.kp h4 hl ha hg hdb hs hpl
theorem sndE_callF0 (C : CalF X.prog X.w X.K X.mg X.base k x st [] g) (hr : Room j X.A) (hk : k ≤ j) (hg : Gl X x := by rfl) (hdb : (x == ("__debug__" : Str)) = false := by decide) : SndE X (.Call (.Name x p) [] [] pos) (mCall g mNil) := by
  obtain ⟨⟨f, fd, h1, h2, h3, h4⟩, hl⟩ := C
  exact sndE_call0 h1 (hr.mono hk) h2 h3.kp h4 hl hg hdb
/-! ### keywords alone -/
abbrev Perm2 := List Nat
/-- the values of the keywords, put in the parameters' order -/
def pick {α : Type} (ix : List Nat) (ws : List α) : List α := ix.filterMap fun i => ws[i]?
structure KwOk (K : PySem.W.Frag) (st : Stmt) (x : Str) (ps ks : List Str) (ix : List Nat) : Prop where
  b : ∀ (kV doc pm : Value) (an : Option Addr) (cdv ct : Value) (ws : List Value), (pick ix ws).length = ps.length → bindArgs (PySem.W.fnOf x x (defArgs st) (defBody st) (defScope st) .none kV doc pm an cdv ct) ⟨[], ks.zip ws⟩ = pure (ps.zip (pick ix ws))
theorem pick_vals {ix : List Nat} {zs : List V} {ws : List Value} (h : Vals zs ws) : Vals (pick ix zs) (pick ix ws) := by
  induction ix with
  | nil => exact .nil
  | cons i ix ih =>
    unfold pick at ih ⊢
    rw [List.filterMap_cons, List.filterMap_cons]
    cases e : zs[i]? with
    | none => rw [h.none_of e]; exact ih
    | some v =>
      obtain ⟨u, h1, h2⟩ := h.get e
      rw [h1]
      exact .cons h2 ih
theorem pick_reps {K : PySem.W.Frag} {H : Hp} {Lv : AS} {ρ : List Addr} {ix : List Nat} {us : List U} {vs : List V} (h : Reps K H Lv ρ us vs) : Reps K H Lv ρ (pick ix us) (pick ix vs) := by
  induction ix with
  | nil => exact Reps.nil
  | cons i ix ih =>
    unfold pick at ih ⊢
    rw [List.filterMap_cons, List.filterMap_cons]
    cases e : us[i]? with
    | none =>
      have : vs[i]? = none := by
        rw [List.getElem?_eq_none_iff] at e ⊢
        rw [← h.len]; exact e
      rw [this]; exact ih
    | some u =>
      obtain ⟨v, h1, h2⟩ := h.get e
      rw [h1]
      exact Reps.cons h2 ih
def SndK (X : Cx) (kws : List Keyword) (f : Ar) : Prop := ∃ t : TA, PK X kws t ∧ ∀ F ρ E B σ H Q, Rel X.K F ρ E B σ H → PostA X.K F ρ E B σ H (f E B) Q → t σ H Q
theorem sndK_nil : SndK X [] mNil := ⟨_, pk_nil, fun F ρ E B σ H Q rl h => h ρ H [] ⟨AftT.refl rl, Reps.nil⟩⟩
theorem sndK_cons {kws : List Keyword} {nm : Option Str} (ha : SndE X e fa) (hr : SndK X kws fs) : SndK X (⟨nm, e, p⟩ :: kws) (mCons fa fs) := by
  obtain ⟨ta, pa, ha⟩ := ha
  obtain ⟨tr, pr, hr⟩ := hr
  refine ⟨_, pk_cons pa pr, fun F ρ E B σ H Q rl h => ?_⟩
  refine ha F ρ E B σ H _ rl ?_
  simp only [mCons] at h
  cases h1 : fa E B with
  | bad => rw [h1] at h; exact h
  | ex c E' B' => rw [h1] at h; exact h
  | ok r1 E1 B1 =>
    rw [h1] at h
    intro ρ1 H1 v1 A1
    simp only [O.bind_ok] at h
    split at h
    · next u E2 es =>
      obtain ⟨T1, R1⟩ := A1.settled es
      refine hr F ρ1 E2 B1 σ H1 _ T1.rel ?_
      cases h2 : fs E2 B1 with
      | bad => rw [h2] at h; exact h
      | ex c E' B' => rw [h2] at h; exact h
      | ok us E3 B3 =>
        rw [h2] at h
        simp only [O.bind_ok] at h
        intro ρ3 H3 vs A3
        exact h ρ3 H3 (v1 :: vs) ⟨T1.trans A3.t, Reps.cons (Rep.mono A3.t.stp A3.t.px _ _ R1) A3.reps⟩
    · exact h.elim
def mCallK (g : Fn) (ix : List Nat) (fs : Ar) : Ex := mCall (fun us B => g (pick ix us) B) fs
theorem sndE_callK {kws : List Keyword} {ks : List Str} {ix : List Nat} (C : CalF X.prog X.w X.K X.mg X.base k x st ps g) (hr : Room j X.A) (hk : k ≤ j) (kw : KwOk X.K st x ps ks ix) (hps : ps ≠ []) (ha : SndK X kws fs) (hg : Gl X x := by rfl)
    (hall : (backToKw pos (keywordEach kws X.env)).all (·.1.isSome) = true := by rfl) (hks : (backToKw pos (keywordEach kws X.env)).filterMap (·.1) = ks := by rfl)
    (hdb : (x == ("__debug__" : Str)) = false := by decide) (hpl : ((backTo pos (starEach [] X.env)).any (·.1) || (backToKw pos (keywordEach kws X.env)).any (·.1.isNone)) = false := by rfl) : SndE X (.Call (.Name x p) [] kws pos) (mCallK g ix fs) := by
  obtain ⟨⟨f, fd, h1, h2, h3, h4⟩, hl⟩ := C
  obtain ⟨tk, pk, hk2⟩ := ha
  have kb : KBinds X.K fd ps ks (fun us ws => match us with | [] => pick ix ws | _ => []) (fun us zs => match us with | [] => pick ix zs | _ => []) := by
    obtain ⟨oc, od, kV, doc, pm, an, cdv, ct, osl, rfl, lk, hcd⟩ := h3.ex
    refine ⟨fun s us ws _ hlen => ?_, fun {vs us zs ws} r1 r2 => ?_⟩
    · cases us with
      | nil => exact .of_eq (kw.b kV doc pm an cdv ct ws hlen)
      | cons u us =>
        exact absurd (by cases ps <;> simp_all) hps
    · cases r1 with
      | nil => exact pick_vals r2
      | cons _ _ => exact .nil
  refine ⟨fun σ H Q => tk σ H fun zs H2 => spF X.K ps.length g (pick ix zs) H2 Q E0, ⟨fun pins s σ H Q I h => ?_⟩, fun F ρ E B σ H Q rl q => ?_⟩
  · refine wpAny_Call_Name_kw (ld_glob I hg h2 ?_ hdb)
    refine PySem.W.callWith_KW0 (h₀ := X.base) I.ok.mod.kin h3.kp hall (thn (pk.run pos pins s σ H _ I h) fun ws s2 ⟨zs, H2, I2, rz, q2⟩ => ⟨I2.kIn, ?_⟩) hpl
    rw [hks]
    exact run_fnk (vs := []) (us := []) h1 (hr.mono hk) kb (pass0 (X := X)) I2 .nil rz q2
  · refine hk2 F ρ E B σ H _ rl ?_
    simp only [mCallK, mCall] at q
    cases e1 : fs E B with
    | bad => rw [e1] at q; exact q
    | ex c E' B' => rw [e1] at q; exact q
    | ok us E1 B1 =>
      rw [e1] at q
      intro ρ1 H1 vs A1
      simp only [O.bind_ok] at q
      have hlen : (pick ix us).length = ps.length := by
        by_cases z : (pick ix us).length = ps.length
        · exact z
        · rw [hl _ B1 z] at q; exact q.elim
      refine ⟨outOf F E1 σ, ρ1, B1, pick ix us, hlen, A1.t.rel.brel, by rw [ob_eq]; exact pick_reps A1.reps, ?_⟩
      cases e2 : g (pick ix us) B1 with
      | bad => rw [e2] at q; exact q.elim
      | ex c B' => rw [e2] at q; exact q.elim
      | ok u B2 =>
        rw [e2] at q
        exact fun ρ2 H2 v A2 => q ρ2 H2 v (A1.t.then (A1.t.rel.back A2))
/-! ### joined operators -/
def gAdd (a b : U) : Option R := (gII (fun _ _ => true) (· + ·) a b).or ((gCatS a b).or ((gCatL a b).or (gCatT a b)))
def gSub : U → U → Option R := gII (fun _ _ => true) (· - ·)
def gMul (a b : U) : Option R := (gII cMul (· * ·) a b).or (gRep a b)
def gLt (a b : U) : Option R := (gIB (fun i j => decide (i < j)) a b).or (gSB (fun i j => decide (i.cps.toList < j.cps.toList)) a b)
def gLe (a b : U) : Option R := (gIB (fun i j => decide (i ≤ j)) a b).or (gSB (fun i j => !decide (j.cps.toList < i.cps.toList)) a b)
def gGt (a b : U) : Option R := (gIB (fun i j => decide (j < i)) a b).or (gSB (fun i j => decide (j.cps.toList < i.cps.toList)) a b)
def gGe (a b : U) : Option R := (gIB (fun i j => decide (j ≤ i)) a b).or (gSB (fun i j => !decide (i.cps.toList < j.cps.toList)) a b)
theorem op2_Add : Op2S X (binaryOp .Add) gAdd := op2_add.or (op2_catS.or (op2_catL.or op2_catT))
theorem op2_Sub : Op2S X (binaryOp .Sub) gSub := op2_sub
theorem op2_Mul : Op2S X (binaryOp .Mult) gMul := op2_mul.or op2_rep
theorem op2_Lt : Op2S X (compareOp .Lt) gLt := op2_ltI.or op2_ltS
theorem op2_Le : Op2S X (compareOp .LtE) gLe := op2_leI.or op2_leS
theorem op2_Gt : Op2S X (compareOp .Gt) gGt := op2_gtI.or op2_gtS
theorem op2_Ge : Op2S X (compareOp .GtE) gGe := op2_geI.or op2_geS
def gIAdd (a b : U) : Option R := (gII (fun _ _ => true) (· + ·) a b).or (gCatS a b)
theorem op2_IAdd : Op2S X (inplaceOp .Add) gIAdd := op2_iadd.or op2_icatS
theorem op2_ISub : Op2S X (inplaceOp .Sub) gSub := op2_isub
/-! ### a < b < c -/
def mChain (g1 g2 : U → U → Option R) (fa fb fc : Ex) : Ex := fun E B =>
  (fa E B).bind fun r1 E1 B1 => (fb E1 B1).bind fun r2 E2 B2 =>
    match view r1 E2 B2, view r2 E2 B2 with
    | some u1, some u2 => match flatU u2, g1 u1 u2 with
      | some _, some (.w (.bl true)) => (fc E2 B2).bind fun r3 E3 B3 => match view r3 E3 B3 with
        | some u3 => match g2 u2 u3 with
          | some r => .ok r E3 B3
          | none => .bad
        | none => .bad
      | some _, some (.w (.bl false)) => .ok (.w (.bl false)) E2 B2
      | _, _ => .bad
    | _, _ => .bad
theorem flat_keep {K : PySem.W.Frag} {H H' : Hp} {Lv Lv' : AS} {ρ ρ' : List Addr} {u : U} {v w : V} (t : Top K H Lv ρ u v) (e : flatU u = some w) : Top K H' Lv' ρ' u v := by
  cases u <;> simp only [flatU, Option.some.injEq] at e <;> first | (cases e; done) | skip
  · rw [top_non t]; simp [Top, Rep]
  · rw [top_bl t]; simp [Top, Rep]
  · rw [top_int t]; simp [Top, Rep]
  · rw [top_str t]; simp [Top, Rep]
theorem chain_reads {r r' : R2} {g1 g2 : U → U → Option R} {ta tb tc : TE}
    (ho : ∀ F ρ E B σ H u1 u2 v1 v2 r3 Q, Rel X.K F ρ E B σ H → Top X.K H (LvF F ρ E B σ) ρ u1 v1 → Top X.K H (LvF F ρ E B σ) ρ u2 v2 → g1 u1 u2 = some r3 → (∀ H' v, Aft X.K F ρ E B σ H r3 ρ E B H' v → Q v H') → r v1 v2 H Q)
    (ho' : ∀ F ρ E B σ H u1 u2 v1 v2 r3 Q, Rel X.K F ρ E B σ H → Top X.K H (LvF F ρ E B σ) ρ u1 v1 → Top X.K H (LvF F ρ E B σ) ρ u2 v2 → g2 u1 u2 = some r3 → (∀ H' v, Aft X.K F ρ E B σ H r3 ρ E B H' v → Q v H') → r' v1 v2 H Q)
    (ha : ∀ F ρ E B σ H Q, Rel X.K F ρ E B σ H → PostE X.K F ρ E B σ H (fa E B) Q → ta σ H Q) (hb : ∀ F ρ E B σ H Q, Rel X.K F ρ E B σ H → PostE X.K F ρ E B σ H (fb E B) Q → tb σ H Q) (hc : ∀ F ρ E B σ H Q, Rel X.K F ρ E B σ H → PostE X.K F ρ E B σ H (fc E B) Q → tc σ H Q) :
    ∀ F ρ E B σ H Q, Rel X.K F ρ E B σ H → PostE X.K F ρ E B σ H (mChain g1 g2 fa fb fc E B) Q → tChain r r' ta tb tc σ H Q := by
  intro F ρ E B σ H Q rl h
  refine ha F ρ E B σ H _ rl ?_
  simp only [mChain] at h
  cases e1 : fa E B with
  | bad => rw [e1] at h; exact h
  | ex c E' B' => rw [e1] at h; exact h
  | ok r1 E1 B1 =>
    rw [e1] at h
    intro ρ1 H1 v1 A1
    refine hb _ ρ1 E1 B1 σ H1 _ A1.rel ?_
    simp only [O.bind_ok] at h
    cases e2 : fb E1 B1 with
    | bad => rw [e2] at h; exact h
    | ex c E' B' => rw [e2] at h; exact h
    | ok r2 E2 B2 =>
      rw [e2] at h
      simp only [O.bind_ok] at h
      intro ρ2 H2 v2 A2
      have A1' := A1.carry A2.letgo
      have T1 := A1'.letgo
      split at h
      · next u1 u2 f1 f2 =>
        have t1 := A1'.top f1
        have t2 : Top X.K H2 (LvF F ρ2 E2 B2 σ) ρ2 u2 v2 := (A2.top f2).mono (Stp.less fun q z => addR_lv z)
        split at h
        · next w hfl eg =>
          refine ho F ρ2 E2 B2 σ H2 u1 u2 v1 v2 _ _ T1.rel t1 t2 eg fun H' v A3 => ?_
          have rr := A3.rep
          simp only [RepR, Rep] at rr
          subst rr
          have T3 := T1.trans A3.letgo
          refine ⟨true, rfl, ?_⟩
          rw [if_pos rfl]
          refine hc F ρ2 E2 B2 σ H' _ T3.rel ?_
          cases e3 : fc E2 B2 with
          | bad => rw [e3] at h; exact h
          | ex c E' B' => rw [e3] at h; exact h
          | ok r3 E3 B3 =>
            rw [e3] at h
            simp only [O.bind_ok] at h
            intro ρ3 H3 v3 A4
            split at h
            · next u3 f3 =>
              split at h
              · next r5 eg2 =>
                have T4 := A4.letgo
                exact ho' F ρ3 E3 B3 σ H3 u2 u3 v2 v3 r5 Q T4.rel (flat_keep t2 hfl) (A4.top f3) eg2 fun H5 v5 A5 => h ρ3 H5 v5 ((T3.trans T4).then A5)
              · exact h.elim
            · exact h.elim
        · next w hfl eg =>
          refine ho F ρ2 E2 B2 σ H2 u1 u2 v1 v2 _ _ T1.rel t1 t2 eg fun H' v A3 => ?_
          have rr := A3.rep
          simp only [RepR, Rep] at rr
          subst rr
          have T3 := T1.trans A3.letgo
          refine ⟨false, rfl, ?_⟩
          rw [if_neg Bool.false_ne_true]
          exact h ρ2 H' _ (T3.then (Aft.val T3.rel (by simp [Rep])))
        · exact h.elim
      · exact h.elim
theorem sndE_chain {op op' : CmpOp} {g1 g2 : U → U → Option R} (ho : Op2S X (compareOp op) g1) (ho' : Op2S X (compareOp op') g2) (ha : SndE X a fa) (hb : SndE X b fb) (hc : SndE X c fc)
    (hm : lastMarks [op, op'] [b, c] = false := by rfl) : SndE X (.Compare a [op, op'] [b, c] pos) (mChain g1 g2 fa fb fc) := by
  obtain ⟨r, hr, ho⟩ := ho
  obtain ⟨r', hr', ho'⟩ := ho'
  obtain ⟨ta, pa, ha⟩ := ha
  obtain ⟨tb, pb, hb⟩ := hb
  obtain ⟨tc, pc, hc⟩ := hc
  exact ⟨_, pe_chain hr hr' pa pb pc hm, chain_reads ho ho' ha hb hc⟩
theorem sndT_chain {op op' : CmpOp} {g1 g2 : U → U → Option R} (ho : Op2S X (compareOp op) g1) (ho' : Op2S X (compareOp op') g2) (ha : SndE X a fa) (hb : SndE X b fb) (hc : SndE X c fc)
    (hm : lastMarks [op, op'] [b, c] = false := by rfl) : SndT X (.Compare a [op, op'] [b, c] pos) (toT (mChain g1 g2 fa fb fc)) := by
  obtain ⟨r, hr, ho⟩ := ho
  obtain ⟨r', hr', ho'⟩ := ho'
  obtain ⟨ta, pa, ha⟩ := ha
  obtain ⟨tb, pb, hb⟩ := hb
  obtain ⟨tc, pc, hc⟩ := hc
  exact ⟨_, pt_chain hr hr' pa pb pc hm, toT_ok (chain_reads ho ho' ha hb hc)⟩
end
end QB
/-! QbM: constants of the top, isinstance of several, dicts of texts, targets, the walrus. -/
namespace QB
open PySem L2
section
variable {X : Cx} {a b c e i o : Expr} {es : List Expr} {fa fb fc : Ex} {ft : Te} {f g : Sm} {fs : Ar} {bd : Bd} {ks : List Nat} {pos p p2 p3 tpos : Pos} {x : Str} {sts sts' : List Stmt}
theorem sndE_gstrE {z : Str} (h : ∃ u, X.mg x = some u ∧ ∃ t, u = Value.str z t) (hg : Gl X x := by rfl) (hd : (x == ("__debug__" : Str)) = false := by decide) : SndE X (.Name x pos) (mC (.str z)) := by
  obtain ⟨u, h1, h2⟩ := h
  exact sndE_gstr h1 h2 hg hd
/-! ### isinstance against a written tuple -/
structure TyA (X : Cx) (es : List Expr) (Ts : List String) : Prop where
  pa : PA X es (fun σ H Q => Q (Ts.map V.ty) H)
theorem tyA_nil : TyA X [] [] := ⟨⟨fun pos pins s σ H Q I h => pa_nil.run pos pins s σ H Q I h⟩⟩
theorem tyA_cons {T : String} {Ts : List String} (hm : X.mg x = none) (hv : bootBuiltins x = some (.type T)) (hr : TyA X es Ts) (hg : Gl X x := by rfl) (hn : x ≠ "__name__" := by decide) (hdb : (x == ("__debug__" : Str)) = false := by decide)
    (hs : starEach (.Name x p :: es) X.env = (false, eval (.Name x p) X.env) :: starEach es X.env := by rfl) : TyA X (.Name x p :: es) (T :: Ts) :=
  ⟨⟨fun pos pins s σ H Q I h => (pa_cons (pe_bltn (v := .ty T) hg hm hv rfl hn hdb) hr.pa hs).run pos pins s σ H Q I h⟩⟩
theorem tyVals : ∀ Ts : List String, Paired ClsV (Ts.map V.ty) (Ts.map Value.type)
  | [] => .nil
  | T :: Ts => .cons (.ty T) (tyVals Ts)
theorem sndE_isiT {Ts : List String} {k} (hm : X.mg "isinstance" = none) (ha : SndE X a fa) (ht : TyA X es Ts) (hg : Gl X "isinstance" := by rfl) (hlen : Ts.length ≤ 1000 := by decide)
    (hs : starEach [a, .Tuple es k p2] X.env = (false, eval a X.env) :: starEach [.Tuple es k p2] X.env := by rfl) (hvI : bootBuiltins "isinstance" = some (.builtin "isinstance") := by decide +kernel) :
    SndE X (.Call (.Name "isinstance" p) [a, .Tuple es k p2] [] pos) (m1 (gIsiT Ts) fa) := by
  obtain ⟨ta, pa, ha⟩ := ha
  refine ⟨_, pe_callB call_isiT hg hm hvI (pa_cons pa (pa_cons (pe_tup ht.pa) pa_nil) hs) (by decide) (by decide) hs, ?_⟩
  refine m1_ok (r := fun v H Q => (Ts.map V.ty).length ≤ sizeLine ∧ ∀ q, H q = none → rIsiT X.K [v, .ref q] (upd H q (.tup (Ts.map V.ty))) Q) (fun F ρ E B σ H u1 v1 r3 Q rl t e q => ?_) ha
  refine ⟨by rw [List.length_map, sizeLine_eq]; omega, fun q' hq => ?_⟩
  simp only [gIsiT, Option.bind_eq_some_iff, Option.map_eq_some_iff] at e
  obtain ⟨s, e1, k', e2, rfl⟩ := e
  have gr : ∀ z o, H z = some o → (upd H q' (.tup (Ts.map V.ty))) z = some o := fun z o h => by rw [upd_ne (ne_of_none h hq)]; exact h
  have rl2 := rl.growH gr
  have st := grow_stp rl gr
  have ty : TyX X.K (upd H q' (.tup (Ts.map V.ty))) v1 (.type s) := by
    have t2 : Top X.K (upd H q' (.tup (Ts.map V.ty))) (LvF F ρ E B σ) ρ u1 v1 := by
      cases u1 with
      | lst us => obtain ⟨pp, vs, e0, h1, h2⟩ := t; exact ⟨pp, vs, e0, gr _ _ h1, h2.mono st (List.prefix_refl _)⟩
      | tup us => exact (show Top _ _ _ _ (.tup us) _ by have := Rep.mono st (List.prefix_refl _) (.tup us) v1 (by simp only [Rep]; exact t); simp only [Rep] at this; exact this)
      | dct ks us => obtain ⟨pp, kvs, e0, h1, h2, h3⟩ := t; exact ⟨pp, kvs, e0, gr _ _ h1, h2, h3.mono st (List.prefix_refl _)⟩
      | box _ => exact t.elim
      | non => exact t
      | bl _ => exact t
      | int _ => exact t
      | str _ => exact t
      | scr _ => exact Rep.mono st (List.prefix_refl _) _ _ t
    exact kind_top t2 e1
  exact ⟨v1, q', Ts.map V.ty, .type s, Ts.map Value.type, k', rfl, upd_same, tyVals Ts, ty, kitAny_of e2, q _ _ ⟨List.prefix_refl _, rl2, st, EnLe.refl, by simp [RepR, Rep]⟩⟩
/-! ### several targets at once -/
def sAsg (fe : Ex) (bd : Bd) : Sm := fun E B => (fe E B).bind fun r E1 B1 =>
  match settle r E1 with
  | some (u, E2) => match bd u E2 with
    | some E3 => .ok .nx E3 B1
    | none => .bad
  | none => .bad
theorem sndS_asg {tg : Expr} (he : SndE X e fa) (hg : SndG X tg ks bd) (hs : swapsWithSole [tg] e pos.line X.env = pure false := by rfl) (hw : swappedStores [tg] e X.env = pure none := by rfl) (h1 : (assignEach [tg] X.env).map (·.2) = [assign tg X.env] := by rfl) : SndS X (.Assign [tg] e pos) (sAsg fa bd) := by
  obtain ⟨te, pe, he⟩ := he
  obtain ⟨g, pg, hg⟩ := hg
  refine ⟨_, ps_asg pe pg hs hw h1, fun F ρ E B σ H D rl q => ?_⟩
  refine he F ρ E B σ H _ rl ?_
  simp only [sAsg] at q
  cases h1 : fa E B with
  | bad => rw [h1] at q; exact q
  | ex c E' B' => rw [h1] at q; exact q
  | ok r E1 B1 =>
    rw [h1] at q
    intro ρ1 H1 v1 A1
    simp only [O.bind_ok] at q
    split at q
    · next u E2 es =>
      obtain ⟨T1, R1⟩ := A1.settled es
      refine hg F ρ1 E2 B1 σ H1 u v1 _ T1.rel R1 ?_
      cases h2 : bd u E2 with
      | none => rw [h2] at q; exact q.elim
      | some E3 =>
        rw [h2] at q
        exact fun σ' rl' _ _ _ => q ρ1 σ' H1 T1.px rl'
    · exact q.elim
/-! ### dicts of written texts -/
structure DPs (X : Cx) (keys : List (Option Expr)) (values : List Expr) (ps : List (Str × Str)) : Prop where
  ex : ∃ trs, (∀ pos, PPs X pos keys values trs) ∧ ∀ σ H (Q : List (V × V) → Hp → Prop), Q (ps.map fun q => (V.str q.1, V.str q.2)) H → tPairs trs σ H Q
theorem dps_nil : DPs X [] [] [] := ⟨[], fun _ => pps_nil, fun _ _ _ q => q⟩
theorem dps_cons {k v : Str} {i j : Nat} {p1 p2 : Pos} {keys : List (Option Expr)} {values : List Expr} {ps : List (Str × Str)} (h : DPs X keys values ps) : DPs X (some (.Constant (.str k) i p1) :: keys) (.Constant (.str v) j p2 :: values) ((k, v) :: ps) := by
  obtain ⟨trs, h1, h2⟩ := h
  exact ⟨_, fun pos => pps_cons pe_str pe_str (h1 pos), fun σ H Q q => h2 σ H _ q⟩
def dK (ps : List (Str × Str)) : List (Key × V) := ps.map fun q => (Sum.inr q.1, V.str q.2)
def mDctS (ps : List (Str × Str)) : Ex := fun E B => .ok (.fr (.dct (ps.map fun q => Sum.inr q.1) (ps.map fun q => .str q.2))) E B
theorem sndE_dctS {keys : List (Option Expr)} {values : List Expr} {ps : List (Str × Str)} (h : DPs X keys values ps) (hall : keys.all (·.isSome) = true := by rfl) (hl : keys.length = values.length := by rfl) (h0 : keys ≠ [] := by intro z; cases z) (h15 : keys.length ≤ 15 := by decide)
    (hp : ps.length ≤ 15 := by decide) (hm : mergeK [] (dK ps) = dK ps := by decide +kernel) : SndE X (.Dict keys values pos) (mDctS ps) := by
  obtain ⟨trs, h1, h2⟩ := h.ex
  refine ⟨_, pe_disp (h1 pos) hall hl h0 h15, fun F ρ E B σ H Q rl q => fun pp hpp => ?_⟩
  refine h2 σ _ _ ⟨upd_same, dK ps, by simp [dK, kV, Function.comp_def], by simpa [dK] using hp, ?_⟩
  rw [upd_upd, hm]
  refine q ρ _ _ (Aft.freshD rl hpp (by simp [dK, Function.comp_def]) ?_)
  have hr : ∀ (qs : List (Str × Str)), Reps X.K H (LvF F ρ E B σ) ρ (qs.map fun q => .str q.2) ((dK qs).map (·.2)) := by
    intro qs
    induction qs with
    | nil => simp [dK, Reps]
    | cons q qs ih => exact Reps.cons (by simp [Rep]) ih
  exact hr ps
def lookU (ks : List Key) (us : List U) (k : Key) : Option U := match ks, us with
  | k' :: ks, u :: us => if k' = k then some u else lookU ks us k
  | _, _ => none
theorem lookU_ok {K : PySem.W.Frag} {H : Hp} {Lv : AS} {ρ : List Addr} {k : Key} {u : U} : ∀ {us : List U} {kvs : List (Key × V)}, Reps K H Lv ρ us (kvs.map (·.2)) → lookU (kvs.map (·.1)) us k = some u → ∃ v, valV kvs k = some v ∧ Rep K H Lv ρ u v
  | us, [], h, e => by cases us <;> simp [lookU] at e
  | [], kv :: kvs, h, e => by simp [lookU] at e
  | w :: us, kv :: kvs, h, e => by
    simp only [List.map_cons, Reps] at h
    obtain ⟨v, r, hv, h1, h2⟩ := h
    cases hv
    simp only [List.map_cons, lookU] at e
    by_cases hk : kv.1 = k
    · rw [if_pos hk] at e
      cases e
      exact ⟨kv.2, by simp [valV, List.find?, hk], h1⟩
    · rw [if_neg hk] at e
      obtain ⟨v, h3, h4⟩ := lookU_ok h2 e
      refine ⟨v, ?_, h4⟩
      unfold valV at h3 ⊢
      rw [List.find?_cons_of_neg (by simpa using hk)]
      exact h3
def gDIx : U → U → Option R
  | .dct ks us, .str z => (lookU ks us (.inr z)).map .w
  | .dct ks us, .int z => (lookU ks us (.inl z)).map .w
  | _, _ => none
theorem sndE_dix (hu : X.A.units + 1 < cLine) (ha : SndE X a fa) (hb : SndE X b fb) (hs : NoSl b := by intro _ _; rfl) : SndE X (.Subscript a b pos) (m2 gDIx fa fb) := by
  obtain ⟨ta, pa, ha⟩ := ha
  obtain ⟨tb, pb, hb⟩ := hb
  refine ⟨_, pe_dget hu pa pb hs, m2_ok (f := fun _ _ => pure Value.none) (r := fun x y H Q => ∃ a v, x = .ref a ∧ DGet H a y (some v) ∧ Q v H) (fun F ρ E B σ H u1 u2 v1 v2 r3 Q rl t1 t2 e q => ?_) ha hb⟩
  unfold gDIx at e
  split at e
  · next ks us z =>
    simp only [Option.map_eq_some_iff] at e
    obtain ⟨u, e1, rfl⟩ := e
    obtain ⟨pp, kvs, rfl, h1, rfl, h2⟩ := t1
    obtain ⟨v, h3, h4⟩ := lookU_ok h2 e1
    have := DGet.k (k := Sum.inr z) h1
    rw [h3] at this
    exact ⟨pp, v, rfl, by rw [top_str t2]; exact this, q H _ (Aft.val rl h4)⟩
  · next ks us z =>
    simp only [Option.map_eq_some_iff] at e
    obtain ⟨u, e1, rfl⟩ := e
    obtain ⟨pp, kvs, rfl, h1, rfl, h2⟩ := t1
    obtain ⟨v, h3, h4⟩ := lookU_ok h2 e1
    have := DGet.k (k := Sum.inl z) h1
    rw [h3] at this
    exact ⟨pp, v, rfl, by rw [top_int t2]; exact this, q H _ (Aft.val rl h4)⟩
  · cases e
/-! ### if a and (x := e) op b -/
abbrev Tw := En → Bx → O Bool
def SndTw (X : Cx) (e : Expr) (f : Tw) : Prop := ∃ t : TTw, PTw X e t ∧ ∀ F ρ E B σ H (Q : Bool → L2.St → Hp → Prop), Rel X.K F ρ E B σ H →
  (match f E B with
    | .ok b E' B' => ∀ ρ' σ' H', ρ <+: ρ' → Rel X.K F ρ' E' B' σ' H' → Q b σ' H'
    | _ => False) → t σ H Q
def wCmpN (i : Nat) (g : U → U → Option R) (fa fb : Ex) : Tw := fun E B => (fa E B).bind fun r E1 B1 =>
  match settle r E1 with
  | some (u, E2) => if i < E2.length then (fb (E2.set i (.val u)) B1).bind fun r2 E3 B3 => match viewU u B3, view r2 E3 B3 with
      | some u1, some u2 => match g u1 u2 with
        | some (.w (.bl b)) => .ok b E3 B3
        | _ => .bad
      | _, _ => .bad
    else .bad
  | none => .bad
theorem sndTw_cmpN {i : Nat} {op : CmpOp} {g : U → U → Option R} (ho : Op2S X (compareOp op) g) (ha : SndE X a fa) (hb : SndE X b fb) (hN : X.N.Nodup) (hi : X.N[i]? = some x := by rfl) (hx : Loc X.env.scope x := by first | exact Or.inl rfl | exact Or.inr rfl)
    (hf : X.fn x = true ∨ X.env.scope.names.lookup x = some .local := by first | exact .inl rfl | exact .inr rfl | assumption) (hm : behindInMarks op b = false := by first | rfl | exact nomark _) : SndTw X (.Compare (.NamedExpr (.Name x p) a p2) [op] [b] pos) (wCmpN i g fa fb) := by
  obtain ⟨r, hr, ho⟩ := ho
  obtain ⟨ta, pa, ha⟩ := ha
  obtain ⟨tb, pb, hb⟩ := hb
  refine ⟨_, ptw_cmp hr (pew_named hN hi hx (pew_of pa) hf) pb hm, fun F ρ E B σ H Q rl q => ?_⟩
  refine ha F ρ E B σ H _ rl ?_
  simp only [wCmpN] at q
  cases h1 : fa E B with
  | bad => rw [h1] at q; exact q
  | ex c E' B' => rw [h1] at q; exact q
  | ok r1 E1 B1 =>
    rw [h1] at q
    intro ρ1 H1 v1 A1
    simp only [O.bind_ok] at q
    cases h2 : settle r1 E1 with
    | none => rw [h2] at q; exact q.elim
    | some w =>
      obtain ⟨u, E2⟩ := w
      rw [h2] at q
      simp only at q
      by_cases hl : i < E2.length
      · rw [if_pos hl] at q
        obtain ⟨T1, R1⟩ := A1.settled h2
        have rl2 := T1.rel.setVal hl R1
        refine hb F ρ1 _ B1 _ H1 _ rl2 ?_
        cases h3 : fb (E2.set i (.val u)) B1 with
        | bad => rw [h3] at q; exact q
        | ex c E' B' => rw [h3] at q; exact q
        | ok r2 E3 B3 =>
          rw [h3] at q
          simp only [O.bind_ok] at q
          intro ρ3 H3 v3 A3
          have T3 := A3.letgo
          have R3 : Rep X.K H3 (LvF F ρ3 E3 B3 (σ.set i (some v1))) ρ3 u v1 := Rep.mono T3.stp T3.px _ _ (Rep.mono (Stp.less (setVal_lv T1.rel hl)) (List.prefix_refl _) _ _ R1)
          cases f1 : viewU u B3 with
          | none => rw [f1] at q; exact q.elim
          | some u1 =>
            cases f2 : view r2 E3 B3 with
            | none => rw [f1, f2] at q; exact q.elim
            | some u2 =>
              rw [f1, f2] at q
              simp only at q
              have t1 := viewU_top T3.rel rfl R3 f1
              have t2 := A3.top f2
              cases eg : g u1 u2 with
              | none => rw [eg] at q; exact q.elim
              | some r3 =>
                rw [eg] at q
                cases r3 with
                | s _ => exact q.elim
                | fr _ => exact q.elim
                | w u3 =>
                  cases u3 with
                  | bl b =>
                    simp only at q
                    refine ho F ρ3 E3 B3 _ H3 u1 u2 v1 v3 _ _ T3.rel t1 t2 eg fun H' v A4 => ?_
                    have rr := A4.rep
                    simp only [RepR, Rep] at rr
                    subst rr
                    exact ⟨b, rfl, q ρ3 _ H' (T1.px.trans T3.px) A4.letgo.rel⟩
                  | _ => exact q.elim
      · rw [if_neg hl] at q; exact q.elim
def wAnd (f : Te) (g : Tw) : Tw := fun E B => (f E B).bind fun b E1 B1 => if b = true then g E1 B1 else .ok false E1 B1
def wAndT (c : TT) (t : TTw) : TTw := fun σ H Q => c σ H fun b H1 => if b = true then t σ H1 Q else Q false σ H1
open PyProof.Rows in
theorem ptw_and {tc : TT} {t : TTw} (ha : PT X a tc) (hb : PTw X b t) : PTw X (.BoolOp .And [a, b] pos) (wAndT tc t) := by
  refine ⟨fun pins s σ H Q I h => ?_⟩
  refine isTrue_and (thn (ha.run pins s σ H _ I h) fun k s1 ⟨H1, I1, q1⟩ => ?_)
  cases k with
  | true => exact isTrue_and (thn (hb.run pins s1 σ H1 Q I1 q1) fun k2 s2 e2 => by
      cases k2 with
      | true => exact isTrue_and_nil e2
      | false => exact e2)
  | false => exact ⟨σ, H1, I1, q1⟩
theorem sndTw_and {fw : Tw} (ha : SndT X a ft) (hb : SndTw X b fw) : SndTw X (.BoolOp .And [a, b] pos) (wAnd ft fw) := by
  obtain ⟨tc, pc, ha⟩ := ha
  obtain ⟨t, pb, hb⟩ := hb
  refine ⟨_, ptw_and pc pb, fun F ρ E B σ H Q rl q => ?_⟩
  refine ha F ρ E B σ H _ rl ?_
  simp only [wAnd] at q
  cases h1 : ft E B with
  | bad => rw [h1] at q; exact q
  | ex c E' B' => rw [h1] at q; exact q
  | ok k E1 B1 =>
    rw [h1] at q
    intro ρ1 H1 A1
    cases k with
    | true =>
      simp only [O.bind_ok, if_true] at q ⊢
      refine hb F ρ1 E1 B1 σ H1 Q A1.rel ?_
      cases h2 : fw E1 B1 with
      | bad => rw [h2] at q; exact q
      | ex c E' B' => rw [h2] at q; exact q
      | ok k2 E2 B2 => rw [h2] at q; exact fun ρ2 σ2 H2 px r2 => q ρ2 σ2 H2 (A1.px.trans px) r2
    | false =>
      simp only [O.bind_ok, Bool.false_eq_true, if_false] at q ⊢
      exact q ρ1 σ H1 A1.px A1.rel
def sIfW (c : Tw) (f g : Sm) : Sm := fun E B => (c E B).bind fun b E1 B1 => if b = true then f E1 B1 else g E1 B1
theorem sndS_ifW {fw : Tw} (hc : SndTw X c fw) (hf : SndB X sts f) (hg : SndB X sts' g) : SndS X (.If c sts sts' pos) (sIfW fw f g) := by
  obtain ⟨t, p1, hc⟩ := hc
  obtain ⟨u, p2, hf⟩ := hf
  obtain ⟨u', p3, hg⟩ := hg
  refine ⟨_, ps_ifW p1 p2 p3, fun F ρ E B σ H D rl q => ?_⟩
  refine hc F ρ E B σ H _ rl ?_
  simp only [sIfW] at q
  cases h1 : fw E B with
  | bad => rw [h1] at q; exact q
  | ex c E' B' => rw [h1] at q; exact q
  | ok b1 E1 B1 =>
    rw [h1] at q
    intro ρ1 σ1 H1 px r1
    cases b1 with
    | true =>
      simp only [O.bind_ok, if_true] at q ⊢
      exact hf F ρ1 E1 B1 σ1 H1 D r1 (q.px px)
    | false =>
      simp only [O.bind_ok, Bool.false_eq_true, if_false] at q ⊢
      exact hg F ρ1 E1 B1 σ1 H1 D r1 (q.px px)
end
end QB
/-! QbN: reading the derived functions: equations for simp, loops by an invariant, texts as codes. -/
namespace QB
open PySem L2
theorem calF_end {P : Program} {w : World} {K : PySem.W.Frag} {mg : Str → Option Value} {base : Heap} {k : Nat} {x : Str} {st : Stmt} {ps : List Str} {g : Fn} {fa f : Addr} {fd : FuncData}
    (C : CalF P w K mg base k x st ps g) (hfa : mg x = some (.ref fa)) (F : Fun K x x st f fd) (hm : mg x = some (.ref f)) : FnOk P w K mg base CX0 k fa fd ps (spF K ps.length g) := by
  obtain ⟨⟨f', fd', h1, h2, h3, h4⟩, hl⟩ := C
  have e1 := hm.symm.trans h2
  have e2 := hfa.symm.trans h2
  cases e1
  cases e2
  obtain ⟨_, _, _, _, _, _, _, _, _, _, l1, _⟩ := h3.ex
  obtain ⟨_, _, _, _, _, _, _, _, _, _, l2, _⟩ := F.ex
  have e3 := l1.symm.trans l2
  cases e3
  exact h1
/-! ### texts -/
theorem lit_beq (a b : String) : (Str.ofString a == Str.ofString b) = (a == b) := by
  rw [Str.ofString_eq_toList, Str.ofString_eq_toList]
  have inj : ∀ {l m : List Char}, l.map Char.toNat = m.map Char.toNat → l = m := by
    intro l
    induction l with
    | nil => intro m h; cases m with
      | nil => rfl
      | cons _ _ => cases h
    | cons c l ih => intro m h; cases m with
      | nil => cases h
      | cons d m =>
        simp only [List.map_cons, List.cons.injEq] at h
        rw [ih h.2, Char.toNat_inj.mp h.1]
  by_cases h : a = b
  · subst h; simp
  · have : ¬ (Str.mk (a.toList.map Char.toNat).toArray = Str.mk (b.toList.map Char.toNat).toArray) := by
      intro z
      simp only [Str.mk.injEq, Array.mk.injEq] at z
      exact h (String.ext (inj z))
    rw [beq_eq_false_iff_ne.mpr this, beq_eq_false_iff_ne.mpr h]
def codes (x : Str) : List Nat := x.cps.toList
def ofC (l : List Nat) : Str := ⟨l.toArray⟩
@[simp] theorem codes_ofC (l : List Nat) : codes (ofC l) = l := rfl
@[simp] theorem ofC_codes (x : Str) : ofC (codes x) = x := rfl
theorem str_ext {x y : Str} (h : codes x = codes y) : x = y := by rw [← ofC_codes x, ← ofC_codes y, h]
@[simp] theorem ofC_inj {l m : List Nat} : ofC l = ofC m ↔ l = m := ⟨fun h => by have := congrArg codes h; simpa using this, fun h => by rw [h]⟩
@[simp] theorem ofC_len (l : List Nat) : (ofC l).length = l.length := by simp [ofC, Str.length]
@[simp] theorem ofC_beq (l m : List Nat) : (ofC l == ofC m) = (l == m) := by
  by_cases h : l = m
  · subst h; simp
  · rw [beq_eq_false_iff_ne.mpr h, beq_eq_false_iff_ne.mpr (by simpa using h)]
@[simp] theorem ofC_app (l m : List Nat) : ofC l ++ ofC m = ofC (l ++ m) := by
  show Str.append _ _ = _
  simp [Str.append, ofC]
theorem ofS (s : String) : Str.ofString s = ofC (s.toList.map Char.toNat) := Str.ofString_eq_toList s
theorem mk_ofC (l : List Nat) : (⟨l.toArray⟩ : Str) = ofC l := rfl
@[simp] theorem mk1_ofC (c : Nat) : (⟨#[c]⟩ : Str) = ofC [c] := rfl
@[simp] theorem ofC_cps (l : List Nat) : (ofC l).cps.toList = l := rfl
/-! ### places -/
theorem atI_nat' {α : Type} (us : List α) (k : Nat) : atI us (k : Int) = us[k]? := by
  unfold atI ixN
  rw [if_pos (by omega)]
  by_cases h : k < us.length
  · rw [if_pos (by omega)]; simp
  · rw [if_neg (by omega), Option.bind_none, List.getElem?_eq_none (by omega)]
theorem atI_of {α : Type} {us : List α} {i : Int} {k : Nat} (h : i = (k : Int)) : atI us i = us[k]? := by rw [h, atI_nat']
@[simp] theorem atI_0 {α : Type} (us : List α) : atI us 0 = us[0]? := atI_of (k := 0) rfl
@[simp] theorem atI_1 {α : Type} (us : List α) : atI us 1 = us[1]? := atI_of (k := 1) rfl
@[simp] theorem atI_2 {α : Type} (us : List α) : atI us 2 = us[2]? := atI_of (k := 2) rfl
@[simp] theorem atI_3 {α : Type} (us : List α) : atI us 3 = us[3]? := atI_of (k := 3) rfl
@[simp] theorem atI_k {α : Type} (us : List α) (k : Nat) : atI us (k : Int) = us[k]? := atI_nat' us k
@[simp] theorem atI_k1 {α : Type} (us : List α) (k : Nat) : atI us ((k : Int) + 1) = us[k + 1]? := atI_of (by omega)
@[simp] theorem atI_k2 {α : Type} (us : List α) (k : Nat) : atI us ((k : Int) + 2) = us[k + 2]? := atI_of (by omega)
theorem ixN_of {n : Nat} {i : Int} {k : Nat} (h : i = (k : Int)) (hk : k < n) : ixN n i = some k := by
  unfold ixN
  rw [if_pos (by omega), if_pos (by omega), h, Int.toNat_natCast]
theorem cutU_nat {us : List U} {i j : Int} {a b : Nat} (h1 : i = (a : Int)) (h2 : j = (b : Int)) (hb : b ≤ us.length) (hab : a ≤ b) : cutU us (some i) (some j) = (us.drop a).take (b - a) := by
  unfold cutU
  rw [h1, h2, HT.sIx_nat, HT.sIx_nat, Nat.min_eq_left hb, Nat.min_eq_left (Nat.le_trans hab hb)]
theorem drop_min {α : Type} (us : List α) (a : Nat) : us.drop (min a us.length) = us.drop a := by
  by_cases h : a ≤ us.length
  · rw [Nat.min_eq_left h]
  · rw [Nat.min_eq_right (by omega), List.drop_eq_nil_of_le (Nat.le_refl _), List.drop_eq_nil_of_le (by omega)]
theorem take_min2 {α : Type} (us : List α) (a b : Nat) : (us.drop a).take (min b us.length - min a us.length) = (us.drop a).take (b - a) := by
  by_cases h : a ≤ us.length
  · rw [Nat.min_eq_left h]
    by_cases h2 : b ≤ us.length
    · rw [Nat.min_eq_left h2]
    · rw [Nat.min_eq_right (by omega), List.take_of_length_le (by rw [List.length_drop]; omega), List.take_of_length_le (by rw [List.length_drop]; omega)]
  · rw [List.drop_eq_nil_of_le (by omega)]; simp
theorem cutU_ij {us : List U} {i j : Int} {a b : Nat} (h1 : i = (a : Int)) (h2 : j = (b : Int)) : cutU us (some i) (some j) = (us.drop a).take (b - a) := by
  unfold cutU
  rw [h1, h2, HT.sIx_nat, HT.sIx_nat, drop_min, take_min2]
theorem cutU_i {us : List U} {i : Int} {a : Nat} (h1 : i = (a : Int)) : cutU us (some i) none = us.drop a := by
  unfold cutU
  rw [h1, HT.sIx_nat, HT.sIx_none, drop_min]
  have := take_min2 us a us.length
  rw [Nat.min_self] at this
  rw [this, List.take_of_length_le (by rw [List.length_drop]; omega)]
theorem cutU_j {us : List U} {j : Int} {b : Nat} (h2 : j = (b : Int)) : cutU us none (some j) = us.take b := by
  unfold cutU
  rw [h2, HT.sIx_nat, HT.sIx_none, List.drop_zero, Nat.sub_zero]
  by_cases h : b ≤ us.length
  · rw [Nat.min_eq_left h]
  · rw [Nat.min_eq_right (by omega), List.take_of_length_le (Nat.le_refl _), List.take_of_length_le (by omega)]
/-! ### outcomes -/
def OkP {α : Type} (o : O α) (Q : α → En → Bx → Prop) : Prop := match o with
  | .ok a E B => Q a E B
  | _ => False
@[simp] theorem OkP_ok {α : Type} {a : α} {E : En} {B : Bx} {Q : α → En → Bx → Prop} : OkP (.ok a E B) Q ↔ Q a E B := Iff.rfl
theorem OkP.bind {α β : Type} {o : O α} {k : α → En → Bx → O β} {Q : β → En → Bx → Prop} (h : OkP o fun a E B => OkP (k a E B) Q) : OkP (o.bind k) Q := by
  cases o with
  | ok a E B => exact h
  | ex c E B => exact h.elim
  | bad => exact h.elim
theorem OkP.ofBind {α β : Type} {o : O α} {k : α → En → Bx → O β} {Q : β → En → Bx → Prop} (h : OkP (o.bind k) Q) : OkP o fun a E B => OkP (k a E B) Q := by
  cases o with
  | ok a E B => exact h
  | ex c E B => exact h.elim
  | bad => exact h.elim
theorem OkP.mono {α : Type} {o : O α} {Q Q' : α → En → Bx → Prop} (h : OkP o Q) (i : ∀ a E B, Q a E B → Q' a E B) : OkP o Q' := by
  cases o with
  | ok a E B => exact i _ _ _ h
  | ex c E B => exact h.elim
  | bad => exact h.elim
theorem OkP.get {α : Type} {o : O α} {Q : α → En → Bx → Prop} (h : OkP o Q) : ∃ a E B, o = .ok a E B ∧ Q a E B := by
  cases o with
  | ok a E B => exact ⟨a, E, B, rfl, h⟩
  | ex c E B => exact h.elim
  | bad => exact h.elim
theorem okP_seq {f g : Sm} {E : En} {B : Bx} {Q : Fl → En → Bx → Prop} (h : OkP (f E B) fun fl E1 B1 => match fl with | .nx => OkP (g E1 B1) Q | fl => Q fl E1 B1) : OkP (sSeq f g E B) Q := by
  unfold sSeq
  refine OkP.bind (h.mono fun fl E1 B1 q => ?_)
  cases fl <;> exact q
/-- what a body answers, as a def's outcome -/
theorem run_ok {N n : Nat} {f : Sm} {us : List U} {B : Bx} {Q : U → Bx → Prop} (hl : us.length = n) (h : OkP (f (us.map .val ++ List.replicate (N - us.length) .un) B) fun fl _ B' => match fl with | .rt u => Q u B' | .nx => Q .non B' | _ => False) : ∃ u B', runBody N n f us B = .ok u B' ∧ Q u B' := by
  unfold runBody
  rw [if_pos hl]
  obtain ⟨fl, E', B', e, q⟩ := h.get
  rw [e]
  cases fl with
  | rt u => exact ⟨u, B', rfl, q⟩
  | nx => exact ⟨.non, B', rfl, q⟩
  | bk => exact q.elim
  | ct => exact q.elim
/-- a while by an invariant and a number that falls -/
theorem okP_while {c : Te} {b : Sm} {Q : Fl → En → Bx → Prop} (I : Nat → En → Bx → Prop)
    (step : ∀ n E B, I n E B → OkP (c E B) fun k E1 B1 => if k = true then OkP (b E1 B1) fun fl E2 B2 => match fl with
      | .bk => Q .nx E2 B2
      | .rt v => Q (.rt v) E2 B2
      | _ => ∃ m, m < n ∧ I m E2 B2
      else Q .nx E1 B1) {E : En} {B : Bx} {n : Nat} (h : I n E B) (hn : n < whileFuel) : OkP (sWhile c b E B) Q := by
  have go : ∀ N n E B, n < N → I n E B → OkP (whileN N c b E B) Q := by
    intro N
    induction N with
    | zero => intro n E B h; omega
    | succ N ih =>
      intro n E B hN hI
      unfold whileN
      refine OkP.bind ((step n E B hI).mono fun k E1 B1 q => ?_)
      by_cases hk : k = true
      · rw [if_pos hk] at q ⊢
        refine OkP.bind (q.mono fun fl E2 B2 q2 => ?_)
        cases fl with
        | bk => exact q2
        | rt v => exact q2
        | nx => obtain ⟨m, hm, h2⟩ := q2; exact ih m E2 B2 (by omega) h2
        | ct => obtain ⟨m, hm, h2⟩ := q2; exact ih m E2 B2 (by omega) h2
      · rw [if_neg hk] at q ⊢
        exact q
  exact go whileFuel n E B hn h
/-- a for over things that cannot change under it -/
theorem okP_forGo {bd : Bd} {b : Sm} {Q : Fl → En → Bx → Prop} (I : List U → En → Bx → Prop) (step : ∀ u us E B, I (u :: us) E B → ∃ E1, bd u E = some E1 ∧ OkP (b E1 B) fun fl E2 B2 => match fl with
      | .bk => Q .nx E2 B2
      | .rt v => Q (.rt v) E2 B2
      | _ => I us E2 B2) (last : ∀ E B, I [] E B → Q .nx E B) : ∀ us E B, I us E B → OkP (forGo bd b yes us E B) Q
  | [], E, B, h => last E B h
  | u :: us, E, B, h => by
    obtain ⟨E1, e, q⟩ := step u us E B h
    unfold forGo
    rw [e]
    refine OkP.bind (q.mono fun fl E2 B2 q2 => ?_)
    cases fl with
    | bk => exact q2
    | rt v => exact q2
    | nx => simp only [goOn_Yes]; exact okP_forGo I step last us E2 B2 q2
    | ct => simp only [goOn_Yes]; exact okP_forGo I step last us E2 B2 q2
theorem okP_for {fi : Iv} {bd : Bd} {b : Sm} {us : List U} {E E1 : En} {B B1 : Bx} {Q : Fl → En → Bx → Prop} (hi : fi E B = .ok (us, yes) E1 B1) (I : List U → En → Bx → Prop) (h : I us E1 B1) (step : ∀ u us E B, I (u :: us) E B → ∃ E1, bd u E = some E1 ∧ OkP (b E1 B) fun fl E2 B2 => match fl with
      | .bk => Q .nx E2 B2
      | .rt v => Q (.rt v) E2 B2
      | _ => I us E2 B2) (last : ∀ E B, I [] E B → Q .nx E B) : OkP (sFor fi bd b E B) Q := by
  unfold sFor
  rw [hi]
  exact okP_forGo I step last us E1 B1 h
/-- a for over a shared list that its body leaves alone -/
theorem okP_forB {fi : Iv} {bd : Bd} {b : Sm} {us : List U} {j : Nat} {E E1 : En} {B B1 : Bx} {Q : Fl → En → Bx → Prop} (hi : fi E B = .ok (us, fun B' => B'[j]? = some (.lst ws)) E1 B1) (I : List U → En → Bx → Prop) (h : I us E1 B1) (step : ∀ u us E B, I (u :: us) E B → ∃ E1, bd u E = some E1 ∧ OkP (b E1 B) fun fl E2 B2 => match fl with
      | .bk => Q .nx E2 B2
      | .rt v => Q (.rt v) E2 B2
      | _ => B2[j]? = some (.lst ws) ∧ I us E2 B2) (last : ∀ E B, I [] E B → Q .nx E B) : OkP (sFor fi bd b E B) Q := by
  have go : ∀ us E B, I us E B → OkP (forGo bd b (fun B' => B'[j]? = some (.lst ws)) us E B) Q := by
    intro us
    induction us with
    | nil => intro E B h; exact last E B h
    | cons u us ih =>
      intro E B h
      obtain ⟨E1, e, q⟩ := step u us E B h
      unfold forGo
      rw [e]
      refine OkP.bind (q.mono fun fl E2 B2 q2 => ?_)
      cases fl with
      | bk => exact q2
      | rt v => exact q2
      | nx => simp only [goOn, if_pos q2.1]; exact ih E2 B2 q2.2
      | ct => simp only [goOn, if_pos q2.1]; exact ih E2 B2 q2.2
  unfold sFor
  rw [hi]
  exact go us E1 B1 h
/-- a list comprehension whose parts change nothing -/
theorem lc_pure {bd : Bd} {t : Te} {f : Ex} {ks : List Nat} {chk : Bx → Prop} {E : En} {B : Bx} {p : U → Bool} {y : U → U} (hc : chk B) : ∀ (us acc : List U), (∀ u ∈ us, ∃ E1, bd u E = some E1 ∧ wipeE E1 ks = E ∧ t E1 B = .ok (p u) E1 B ∧ (p u = true → ∃ r, f E1 B = .ok r E1 B ∧ settle r E1 = some (y u, E1))) → acc.length + us.length ≤ 16777216 → lcGo bd t f chk ks us acc E B = .ok (acc ++ (us.filter p).map y) E B
  | [], acc, _, _ => by simp [lcGo]
  | u :: us, acc, h, hl => by
    obtain ⟨E1, e1, e2, e3, e4⟩ := h u (List.mem_cons_self ..)
    have hl' : acc.length + (us.length + 1) ≤ 16777216 := hl
    unfold lcGo
    rw [e1]
    simp only [e3, O.bind_ok]
    by_cases hp : p u = true
    · obtain ⟨r, e5, e6⟩ := e4 hp
      rw [if_pos hp, e5]
      simp only [O.bind_ok, e6]
      rw [if_pos (by omega), e2]
      unfold goOnL
      rw [if_pos hc, lc_pure hc us (acc ++ [y u]) (fun v hv => h v (List.mem_cons_of_mem _ hv)) (by simp; omega)]
      simp [hp]
    · rw [if_neg hp, e2]
      unfold goOnL
      rw [if_pos hc, lc_pure hc us acc (fun v hv => h v (List.mem_cons_of_mem _ hv)) (by omega)]
      simp [hp]
theorem mLc_pure {fi : Iv} {bd : Bd} {t : Te} {f : Ex} {ks : List Nat} {chk : Bx → Prop} {E E1 : En} {B B1 : Bx} {us : List U} (p : U → Bool) (y : U → U) (hi : fi E B = .ok (us, chk) E1 B1) (hn : noOwn E1 ks = true) (hc : chk B1) (hl : us.length ≤ 16777216)
    (h : ∀ u ∈ us, ∃ E2, bd u (wipeE E1 ks) = some E2 ∧ wipeE E2 ks = wipeE E1 ks ∧ t E2 B1 = .ok (p u) E2 B1 ∧ (p u = true → ∃ r, f E2 B1 = .ok r E2 B1 ∧ settle r E2 = some (y u, E2))) :
    mLc fi bd t f ks E B = .ok (.fr (.lst ((us.filter p).map y))) (keepE E1 (wipeE E1 ks) ks) B1 := by
  unfold mLc
  rw [hi]
  simp only [O.bind_ok]
  rw [if_pos hn, lc_pure hc us [] h (by simpa using hl)]
  simp
end QB
/-! QbO: the layer's words as equations for simp. -/
namespace QB
open PySem L2
section
variable {E : En} {B : Bx} {f g : Ex} {s t : Sm} {c d : Te} {fs : Ar} {u : U} {i j : Nat}
@[simp] theorem e_mVar : mVar i E B = match E[i]? with
  | some (.val u) => .ok (.w u) E B
  | some (.own _) => .ok (.s i) E B
  | _ => .bad := (rfl)
@[simp] theorem e_mC : mC u E B = .ok (.w u) E B := (rfl)
@[simp] theorem e_m2 {h : U → U → Option R} : m2 h f g E B = (f E B).bind fun r1 E1 B1 => (g E1 B1).bind fun r2 E2 B2 =>
    match view r1 E2 B2, view r2 E2 B2 with
    | some u1, some u2 => match h u1 u2 with
      | some r => .ok r E2 B2
      | none => .bad
    | _, _ => .bad := (rfl)
@[simp] theorem e_m1 {h : U → Option R} : m1 h f E B = (f E B).bind fun r1 E1 B1 =>
    match view r1 E1 B1 with
    | some u1 => match h u1 with
      | some r => .ok r E1 B1
      | none => .bad
    | none => .bad := (rfl)
@[simp] theorem e_toT : toT f E B = (f E B).bind fun r E1 B1 =>
  match r with
  | .w (.bl b) => .ok b E1 B1
  | _ => .bad := (rfl)
@[simp] theorem e_mTru : mTru f E B = (f E B).bind fun r E1 B1 =>
  match view r E1 B1 with
  | some u => match truU u with
    | some b => .ok b E1 B1
    | none => .bad
  | none => .bad := (rfl)
@[simp] theorem e_mAnd : mAnd c d E B = (c E B).bind fun b E1 B1 => if b = true then d E1 B1 else .ok false E1 B1 := (rfl)
@[simp] theorem e_mOr : mOr c d E B = (c E B).bind fun b E1 B1 => if b = true then .ok true E1 B1 else d E1 B1 := (rfl)
@[simp] theorem e_mNot : mNot c E B = (c E B).bind fun b E1 B1 => .ok (!b) E1 B1 := (rfl)
@[simp] theorem e_mAndV : mAndV f g E B = (toT f E B).bind fun b E1 B1 => if b = true then g E1 B1 else .ok (.w (.bl false)) E1 B1 := (rfl)
@[simp] theorem e_mOrV : mOrV f g E B = (toT f E B).bind fun b E1 B1 => if b = true then .ok (.w (.bl true)) E1 B1 else g E1 B1 := (rfl)
@[simp] theorem e_mNotV : mNotV f E B = (toT f E B).bind fun b E1 B1 => .ok (.w (.bl (!b))) E1 B1 := (rfl)
@[simp] theorem e_mIf : mIf c f g E B = (c E B).bind fun b E1 B1 => if b = true then f E1 B1 else g E1 B1 := (rfl)
@[simp] theorem e_mBox : mBox f E B = (f E B).bind fun r E1 B1 =>
  match r with
  | .fr c => .ok (.w (.box B1.length)) E1 (B1 ++ [c])
  | _ => .bad := (rfl)
@[simp] theorem e_mNoPart : mNoPart E B = .ok none E B := (rfl)
@[simp] theorem e_mPart : mPart f E B = (f E B).bind fun r E1 B1 =>
  match r with
  | .w (.int i) => .ok (some i) E1 B1
  | _ => .bad := (rfl)
@[simp] theorem e_mSl {fl fh : En → Bx → O (Option Int)} : mSl f fl fh E B =
  (f E B).bind fun r E1 B1 => (fl E1 B1).bind fun lo E2 B2 => (fh E2 B2).bind fun hi E3 B3 =>
    match view r E3 B3 with
    | some u => match gSl u lo hi with
      | some r => .ok r E3 B3
      | none => .bad
    | none => .bad := (rfl)
@[simp] theorem e_mNil : mNil E B = .ok [] E B := (rfl)
@[simp] theorem e_mCons : mCons f fs E B = (f E B).bind fun r E1 B1 =>
  match settle r E1 with
  | some (u, E2) => (fs E2 B1).bind fun us E3 B3 => .ok (u :: us) E3 B3
  | none => .bad := (rfl)
@[simp] theorem e_mTup : mTup fs E B = (fs E B).bind fun us E1 B1 => if us.length ≤ 16777216 then .ok (.w (.tup us)) E1 B1 else .bad := (rfl)
@[simp] theorem e_mLst : mLst fs E B = (fs E B).bind fun us E1 B1 => if us.length ≤ 16777216 then .ok (.fr (.lst us)) E1 B1 else .bad := (rfl)
@[simp] theorem e_mB {h : List U → Option R} : mB h fs E B = (fs E B).bind fun us E1 B1 =>
  match h us with
  | some r => .ok r E1 B1
  | none => .bad := (rfl)
@[simp] theorem e_mM {h : U → List U → Option R} : mM h f fs E B = (f E B).bind fun r E1 B1 =>
  match r with
  | .w (.str z) => (fs E1 B1).bind fun us E2 B2 => match h (.str z) us with
    | some r => .ok r E2 B2
    | none => .bad
  | _ => .bad := (rfl)
@[simp] theorem e_mCall {h : Fn} : mCall h fs E B = (fs E B).bind fun us E1 B1 =>
  match h us B1 with
  | .ok u B2 => .ok (.w u) E1 B2
  | .ex c B2 => .ex c E1 B2
  | .bad => .bad := (rfl)
@[simp] theorem e_mCallK {h : Fn} {ix : List Nat} : mCallK h ix fs E B = (fs E B).bind fun us E1 B1 =>
  match h (pick ix us) B1 with
  | .ok u B2 => .ok (.w u) E1 B2
  | .ex c B2 => .ex c E1 B2
  | .bad => .bad := (rfl)
@[simp] theorem e_pick1 {a : U} : pick [0] [a] = [a] := (rfl)
@[simp] theorem e_mAppend : mAppend f g E B = (f E B).bind fun r E1 B1 =>
  match cellOf r E1 B1 with
  | some (.lst _) => (mCons g mNil E1 B1).bind fun us E2 B2 =>
    match us, cellOf r E2 B2 with
    | [u], some (.lst xs) => if xs.length < 16777216 then .ok (.w .non) (put r E2 B2 (.lst (xs ++ [u]))).1 (put r E2 B2 (.lst (xs ++ [u]))).2 else .bad
    | _, _ => .bad
  | _ => .bad := (rfl)
@[simp] theorem e_sStore {h : Ex} : sStore f g h E B = (f E B).bind fun r0 E0 B0 =>
  match settle r0 E0 with
  | none => .bad
  | some (u, E0') => (g E0' B0).bind fun r E1 B1 => (h E1 B1).bind fun ri E2 B2 =>
    match ri, cellOf r E2 B2 with
    | .w (.int k), some (.lst xs) => match ixN xs.length k with
      | some j => .ok .nx (put r E2 B2 (.lst (xs.set j u))).1 (put r E2 B2 (.lst (xs.set j u))).2
      | none => .bad
    | _, _ => .bad := (rfl)
@[simp] theorem e_sNext : sNext E B = .ok .nx E B := (rfl)
@[simp] theorem e_sBreak : sBreak E B = .ok .bk E B := (rfl)
@[simp] theorem e_sCont : sCont E B = .ok .ct E B := (rfl)
@[simp] theorem e_sBad : sBad E B = .bad := (rfl)
@[simp] theorem e_sSeq : sSeq s t E B = (s E B).bind fun fl E1 B1 =>
  match fl with
  | .nx => t E1 B1
  | fl => .ok fl E1 B1 := (rfl)
@[simp] theorem e_sSet : sSet i f E B = (f E B).bind fun r E1 B1 =>
  match settle r E1 with
  | some (u, E2) => if i < E2.length then .ok .nx (E2.set i (.val u)) B1 else .bad
  | none => .bad := (rfl)
@[simp] theorem e_sOwn : sOwn i f E B = (f E B).bind fun r E1 B1 =>
  match r with
  | .fr c => if i < E1.length then .ok .nx (E1.set i (.own c)) B1 else .bad
  | _ => .bad := (rfl)
@[simp] theorem e_sExpr : sExpr f E B = (f E B).bind fun _ E1 B1 => .ok .nx E1 B1 := (rfl)
@[simp] theorem e_sRet : sRet f E B = (f E B).bind fun r E1 B1 =>
  match settle r E1 with
  | some (u, E2) => .ok (.rt u) E2 B1
  | none => .bad := (rfl)
@[simp] theorem e_sRetN : sRetN E B = .ok (.rt .non) E B := (rfl)
@[simp] theorem e_sIf : sIf c s t E B = (c E B).bind fun b E1 B1 => if b = true then s E1 B1 else t E1 B1 := (rfl)
@[simp] theorem e_sAug {h : U → U → Option R} : sAug i h f E B =
  match E[i]? with
  | some (.val u1) => match flatU u1 with
    | some _ => (f E B).bind fun r E1 B1 => match view r E1 B1 with
      | some u2 => match h u1 u2 with
        | some (.w z) => if i < E1.length then .ok .nx (E1.set i (.val z)) B1 else .bad
        | _ => .bad
      | none => .bad
    | none => .bad
  | _ => .bad := (rfl)
@[simp] theorem e_mChain {h k : U → U → Option R} {l : Ex} : mChain h k f g l E B =
  (f E B).bind fun r1 E1 B1 => (g E1 B1).bind fun r2 E2 B2 =>
    match view r1 E2 B2, view r2 E2 B2 with
    | some u1, some u2 => match flatU u2, h u1 u2 with
      | some _, some (.w (.bl true)) => (l E2 B2).bind fun r3 E3 B3 => match view r3 E3 B3 with
        | some u3 => match k u2 u3 with
          | some r => .ok r E3 B3
          | none => .bad
        | none => .bad
      | some _, some (.w (.bl false)) => .ok (.w (.bl false)) E2 B2
      | _, _ => .bad
    | _, _ => .bad := (rfl)
@[simp] theorem e_wCmpN {h : U → U → Option R} : wCmpN i h f g E B = (f E B).bind fun r E1 B1 =>
  match settle r E1 with
  | some (u, E2) => if i < E2.length then (g (E2.set i (.val u)) B1).bind fun r2 E3 B3 => match viewU u B3, view r2 E3 B3 with
      | some u1, some u2 => match h u1 u2 with
        | some (.w (.bl b)) => .ok b E3 B3
        | _ => .bad
      | _, _ => .bad
    else .bad
  | none => .bad := (rfl)
@[simp] theorem e_wAnd {h : Tw} : wAnd c h E B = (c E B).bind fun b E1 B1 => if b = true then h E1 B1 else .ok false E1 B1 := (rfl)
@[simp] theorem e_sIfW {h : Tw} : sIfW h s t E B = (h E B).bind fun b E1 B1 => if b = true then s E1 B1 else t E1 B1 := (rfl)
@[simp] theorem e_mYes : mYes E B = .ok true E B := (rfl)
@[simp] theorem e_mItV : mItV f E B = (f E B).bind fun r E1 B1 =>
  match settle r E1 with
  | some (u, E2) => match itemsOf u B1 with
    | some w => .ok w E2 B1
    | none => .bad
  | none => .bad := (rfl)
@[simp] theorem e_mRange1 : mRange1 fs E B = (fs E B).bind fun us E1 B1 =>
  match us with
  | [.int j] => if I62 j = true then .ok (intsU 0 j.toNat, yes) E1 B1 else .bad
  | _ => .bad := (rfl)
@[simp] theorem e_mRange2 : mRange2 fs E B = (fs E B).bind fun us E1 B1 =>
  match us with
  | [.int i, .int j] => if I62 i = true ∧ I62 j = true then .ok (intsU i (j - i).toNat, yes) E1 B1 else .bad
  | _ => .bad := (rfl)
@[simp] theorem e_mEnum : mEnum fs E B = (fs E B).bind fun us E1 B1 =>
  match us with
  | [.lst ws] => .ok (ws.mapIdx fun k u => .tup [.int (k : Nat), u], yes) E1 B1
  | _ => .bad := (rfl)
@[simp] theorem e_items_lst {us : List U} : itemsOf (.lst us) B = some (us, yes) := (rfl)
@[simp] theorem e_items_tup {us : List U} : itemsOf (.tup us) B = some (us, yes) := (rfl)
@[simp] theorem e_items_str {l : List Nat} : itemsOf (.str (ofC l)) B = some (l.map (fun c => .str (ofC [c])), yes) := (rfl)
@[simp] theorem e_items_scr {ns : List Int} : itemsOf (.scr ns) B = some (ns.map .int, yes) := (rfl)
theorem e_items_box {us : List U} (h : B[j]? = some (.lst us)) : itemsOf (.box j) B = some (us, fun B' => B'[j]? = some (.lst us)) := by
  simp only [itemsOf, h]
/-! ### views -/
@[simp] theorem e_view_w : view (.w u) E B = viewU u B := (rfl)
@[simp] theorem e_view_fr {k : Cell} : view (.fr k) E B = k.view := (rfl)
@[simp] theorem e_view_s : view (.s i) E B = match E[i]? with
    | some (.own c) => c.view
    | some (.val u) => viewU u B
    | _ => none := (rfl)
@[simp] theorem e_cv_lst {us : List U} : Cell.view (.lst us) = some (.lst us) := (rfl)
@[simp] theorem e_cv_dct {ks : List Key} {us : List U} : Cell.view (.dct ks us) = some (.dct ks us) := (rfl)
@[simp] theorem e_vu_non : viewU .non B = some .non := (rfl)
@[simp] theorem e_vu_bl {b : Bool} : viewU (.bl b) B = some (.bl b) := (rfl)
@[simp] theorem e_vu_int {k : Int} : viewU (.int k) B = some (.int k) := (rfl)
@[simp] theorem e_vu_str {x : Str} : viewU (.str x) B = some (.str x) := (rfl)
@[simp] theorem e_vu_lst {us : List U} : viewU (.lst us) B = some (.lst us) := (rfl)
@[simp] theorem e_vu_tup {us : List U} : viewU (.tup us) B = some (.tup us) := (rfl)
@[simp] theorem e_vu_dct {ks : List Key} {us : List U} : viewU (.dct ks us) B = some (.dct ks us) := (rfl)
@[simp] theorem e_vu_scr {ns : List Int} : viewU (.scr ns) B = some (.scr ns) := (rfl)
@[simp] theorem e_vu_box : viewU (.box j) B = (B[j]?).bind Cell.view := (rfl)
@[simp] theorem e_settle_w : settle (.w u) E = some (u, E) := (rfl)
@[simp] theorem e_settle_fr {k : Cell} : settle (.fr k) E = some (k.toU, E) := (rfl)
@[simp] theorem e_settle_s : settle (.s i) E = match E[i]? with
    | some (.own c) => some (c.toU, E.set i (.val c.toU))
    | some (.val u) => some (u, E)
    | _ => none := (rfl)
@[simp] theorem e_toU_lst {us : List U} : Cell.toU (.lst us) = .lst us := (rfl)
@[simp] theorem e_toU_dct {ks : List Key} {us : List U} : Cell.toU (.dct ks us) = .dct ks us := (rfl)
@[simp] theorem e_cellOf_box : cellOf (.w (.box j)) E B = B[j]? := (rfl)
@[simp] theorem e_cellOf_s : cellOf (.s i) E B = match E[i]? with
    | some (.own c) => some c
    | some (.val (.box j)) => B[j]?
    | _ => none := (rfl)
@[simp] theorem e_put_box {k : Cell} : put (.w (.box j)) E B k = (E, B.set j k) := (rfl)
@[simp] theorem e_put_s {k : Cell} : put (.s i) E B k = match E[i]? with
    | some (.own _) => (E.set i (.own k), B)
    | some (.val (.box j)) => (E, B.set j k)
    | _ => (E, B) := (rfl)
@[simp] theorem e_bdN {k : Nat} : bdN k u E = match E[k]? with
  | some (.own _) => none
  | some _ => some (E.set k (.val u))
  | none => none := (rfl)
@[simp] theorem e_bdT {bs : Bds} {us : List U} : bdT bs (.tup us) E = bs us E := (rfl)
@[simp] theorem e_bdCons {b : Bd} {bs : Bds} {us : List U} : bdCons b bs (u :: us) E = (b u E).bind fun E1 => bs us E1 := (rfl)
@[simp] theorem e_bdNil : bdNil [] E = some E := (rfl)
@[simp] theorem e_wipe0 : wipeE E [] = E := (rfl)
@[simp] theorem e_wipe1 {v : Nat} {vs : List Nat} : wipeE E (v :: vs) = (wipeE E vs).set v .un := (rfl)
@[simp] theorem e_keep0 {E1 : En} : keepE E1 E [] = E := (rfl)
@[simp] theorem e_keep1 {E1 : En} {v : Nat} {vs : List Nat} : keepE E1 E (v :: vs) = match E1[v]? with
    | some s => (keepE E1 E vs).set v s
    | none => keepE E1 E vs := (rfl)
@[simp] theorem e_noOwn0 : noOwn E [] = true := (rfl)
@[simp] theorem e_noOwn1 {v : Nat} {vs : List Nat} : noOwn E (v :: vs) = match E[v]? with
    | some (.own _) => false
    | none => false
    | _ => noOwn E vs := (rfl)
/-! ### what is said of values -/
@[simp] theorem e_tru_bl {b : Bool} : truU (.bl b) = some b := (rfl)
@[simp] theorem e_tru_non : truU .non = some false := (rfl)
@[simp] theorem e_tru_int {k : Int} : truU (.int k) = some (k != 0) := (rfl)
@[simp] theorem e_tru_lst {us : List U} : truU (.lst us) = some (!us.isEmpty) := (rfl)
@[simp] theorem e_tru_tup {us : List U} : truU (.tup us) = some (!us.isEmpty) := (rfl)
@[simp] theorem e_tru_scr {ns : List Int} : truU (.scr ns) = some (!ns.isEmpty) := (rfl)
@[simp] theorem e_tru_str {l : List Nat} : truU (.str (ofC l)) = if l.length ≤ 16777216 then some ((l.length : Int) != 0) else none := (rfl)
@[simp] theorem e_gII {C : Int → Int → Bool} {h : Int → Int → Int} {a b : Int} : gII C h (.int a) (.int b) = if C a b = true then some (.w (.int (h a b))) else none := (rfl)
@[simp] theorem e_add_ii {a b : Int} : gAdd (.int a) (.int b) = some (.w (.int (a + b))) := (rfl)
@[simp] theorem e_add_ss {a b : Str} : gAdd (.str a) (.str b) = if a.length + b.length ≤ 16777216 then some (.w (.str (a ++ b))) else none := by
  simp [gAdd, gII, gCatS, gCatL, gCatT]
@[simp] theorem e_add_ll {a b : List U} : gAdd (.lst a) (.lst b) = if a.length + b.length ≤ 16777216 then some (.fr (.lst (a ++ b))) else none := by
  simp [gAdd, gII, gCatS, gCatL, gCatT]
@[simp] theorem e_add_tt {a b : List U} : gAdd (.tup a) (.tup b) = if a.length + b.length ≤ 16777216 then some (.w (.tup (a ++ b))) else none := by
  simp [gAdd, gII, gCatS, gCatL, gCatT]
@[simp] theorem e_iadd_ii {a b : Int} : gIAdd (.int a) (.int b) = some (.w (.int (a + b))) := (rfl)
@[simp] theorem e_iadd_ss {a b : Str} : gIAdd (.str a) (.str b) = if a.length + b.length ≤ 16777216 then some (.w (.str (a ++ b))) else none := by
  simp [gIAdd, gII, gCatS]
@[simp] theorem e_sub {a b : Int} : gSub (.int a) (.int b) = some (.w (.int (a - b))) := (rfl)
@[simp] theorem e_mul {a b : Int} : gMul (.int a) (.int b) = if cMul a b = true then some (.w (.int (a * b))) else none := by
  simp [gMul, gII, gRep]
@[simp] theorem e_mulL {a : List U} {b : Int} : gMul (.lst a) (.int b) = gRep (.lst a) (.int b) := (rfl)
@[simp] theorem e_lt_ii {a b : Int} : gLt (.int a) (.int b) = some (.w (.bl (decide (a < b)))) := (rfl)
@[simp] theorem e_le_ii {a b : Int} : gLe (.int a) (.int b) = some (.w (.bl (decide (a ≤ b)))) := (rfl)
@[simp] theorem e_gt_ii {a b : Int} : gGt (.int a) (.int b) = some (.w (.bl (decide (b < a)))) := (rfl)
@[simp] theorem e_ge_ii {a b : Int} : gGe (.int a) (.int b) = some (.w (.bl (decide (b ≤ a)))) := (rfl)
@[simp] theorem e_lt_ss {a b : List Nat} : gLt (.str (ofC a)) (.str (ofC b)) = some (.w (.bl (decide (a < b)))) := (rfl)
@[simp] theorem e_le_ss {a b : List Nat} : gLe (.str (ofC a)) (.str (ofC b)) = some (.w (.bl (!decide (b < a)))) := (rfl)
@[simp] theorem e_gt_ss {a b : List Nat} : gGt (.str (ofC a)) (.str (ofC b)) = some (.w (.bl (decide (b < a)))) := (rfl)
@[simp] theorem e_ge_ss {a b : List Nat} : gGe (.str (ofC a)) (.str (ofC b)) = some (.w (.bl (!decide (a < b)))) := (rfl)
@[simp] theorem e_len_lst {us : List U} : gLen (.lst us) = some (.w (.int us.length)) := (rfl)
@[simp] theorem e_len_tup {us : List U} : gLen (.tup us) = some (.w (.int us.length)) := (rfl)
@[simp] theorem e_len_scr {ns : List Int} : gLen (.scr ns) = some (.w (.int ns.length)) := (rfl)
@[simp] theorem e_len_str {l : List Nat} : gLen (.str (ofC l)) = if l.length ≤ 16777216 then some (.w (.int l.length)) else none := (rfl)
@[simp] theorem e_abs {a : Int} : gAbs (.int a) = some (.w (.int (if a < 0 then -a else a))) := (rfl)
@[simp] theorem e_neg {a : Int} : gNeg (.int a) = some (.w (.int (-a))) := (rfl)
@[simp] theorem e_int_i {a : Int} : gInt (.int a) = some (.w (.int a)) := (rfl)
@[simp] theorem e_int_b {b : Bool} : gInt (.bl b) = some (.w (.int (if b then 1 else 0))) := (rfl)
@[simp] theorem e_lo_l {us : List U} : gListOf (.lst us) = some (.fr (.lst us)) := (rfl)
@[simp] theorem e_lo_t {us : List U} : gListOf (.tup us) = some (.fr (.lst us)) := (rfl)
@[simp] theorem e_to_l {us : List U} : gTupleOf (.lst us) = some (.w (.tup us)) := (rfl)
@[simp] theorem e_to_t {us : List U} : gTupleOf (.tup us) = some (.w (.tup us)) := (rfl)
theorem blsOf_map : ∀ bs : List Bool, blsOf (bs.map .bl) = some bs
  | [] => rfl
  | b :: bs => by simp [blsOf, blsOf_map bs]
@[simp] theorem e_any {bs : List Bool} : gAny (.lst (bs.map .bl)) = some (.w (.bl (bs.any id))) := by simp [gAny, blsOf_map]
@[simp] theorem e_all {bs : List Bool} : gAll (.lst (bs.map .bl)) = some (.w (.bl (bs.all id))) := by simp [gAll, blsOf_map]
theorem e_any' {α : Type} {l : List α} {p : α → Bool} : gAny (.lst (l.map fun x => .bl (p x))) = some (.w (.bl (l.any p))) := by
  have h : (l.map fun x => U.bl (p x)) = (l.map p).map .bl := by simp [Function.comp_def]
  rw [h, e_any]; simp [List.any_map]
theorem e_all' {α : Type} {l : List α} {p : α → Bool} : gAll (.lst (l.map fun x => .bl (p x))) = some (.w (.bl (l.all p))) := by
  have h : (l.map fun x => U.bl (p x)) = (l.map p).map .bl := by simp [Function.comp_def]
  rw [h, e_all]; simp [List.all_map]
@[simp] theorem e_max2 {a b : Int} : gMax2 [.int a, .int b] = some (.w (.int (if b > a then b else a))) := (rfl)
@[simp] theorem e_min2 {a b : Int} : gMin2 [.int a, .int b] = some (.w (.int (if b < a then b else a))) := (rfl)
@[simp] theorem e_ix_l {us : List U} {k : Int} : gIx (.lst us) (.int k) = (atI us k).map .w := (rfl)
@[simp] theorem e_ix_t {us : List U} {k : Int} : gIx (.tup us) (.int k) = (atI us k).map .w := (rfl)
@[simp] theorem e_ix_s {l : List Nat} {k : Int} : gIx (.str (ofC l)) (.int k) = if l.length ≤ 16777216 then (atI l k).map fun c => .w (.str (ofC [c])) else none := (rfl)
@[simp] theorem e_ix_scr {ns : List Int} {k : Int} : gIx (.scr ns) (.int k) = (atI ns k).map fun n => .w (.int n) := (rfl)
@[simp] theorem e_sl_l {us : List U} {lo hi : Option Int} : gSl (.lst us) lo hi = some (.fr (.lst (cutU us lo hi))) := (rfl)
@[simp] theorem e_sl_t {us : List U} {lo hi : Option Int} : gSl (.tup us) lo hi = some (.w (.tup (cutU us lo hi))) := (rfl)
@[simp] theorem e_eq {a b : U} : gEq a b = (eqU a b).map fun k => .w (.bl k) := (rfl)
@[simp] theorem e_ne {a b : U} : gNe a b = (eqU a b).map fun k => .w (.bl (!k)) := (rfl)
@[simp] theorem e_eq_ss {x y : Str} : eqU (.str x) (.str y) = some (x == y) := (rfl)
@[simp] theorem e_eq_ii {x y : Int} : eqU (.int x) (.int y) = some (x == y) := (rfl)
@[simp] theorem e_eq_ns {y : Str} : eqU .non (.str y) = some false := (rfl)
@[simp] theorem e_eq_sn {y : Str} : eqU (.str y) .non = some false := (rfl)
@[simp] theorem e_eq_si {x : Str} {y : Int} : eqU (.str x) (.int y) = some false := (rfl)
@[simp] theorem e_eq_is {x : Str} {y : Int} : eqU (.int y) (.str x) = some false := (rfl)
@[simp] theorem e_eq_bb {x y : Bool} : eqU (.bl x) (.bl y) = some (x == y) := by cases x <;> cases y <;> decide +kernel
theorem eqU_self {u : U} {d : PyData} (h : toD u = some d) (hs : SeqAt.shaped d = true) (hu : ∀ x, u ≠ .str x) : eqU u u = some true := by
  have e : (match toD u, toD u with
    | some d, some e => if (SeqAt.shaped d && SeqAt.shaped e) = true then some (PyData.eqv d e) else none
    | _, _ => none) = some true := by
    rw [h]
    simp only [hs, Bool.and_self, if_true]
    rw [SeqAt.eqv_refl d (SeqAt.canLay_of_shaped hs)]
  cases u with
  | str x => exact absurd rfl (hu x)
  | int x => simp
  | _ => exact e
@[simp] theorem e_is_non {b : Bool} {a : U} : gIs b a .non = some (.w (.bl (if b then !isNon a else isNon a))) := by cases a <;> rfl
@[simp] theorem e_is_bb {n : Bool} {a b : Bool} : gIs n (.bl a) (.bl b) = some (.w (.bl (if n then !decide (a = b) else decide (a = b)))) := (rfl)
@[simp] theorem e_isNon_non : isNon .non = true := (rfl)
@[simp] theorem e_isNon_int {k : Int} : isNon (.int k) = false := (rfl)
@[simp] theorem e_isNon_str {x : Str} : isNon (.str x) = false := (rfl)
@[simp] theorem e_isNon_bl {b : Bool} : isNon (.bl b) = false := (rfl)
@[simp] theorem e_isNon_lst {us : List U} : isNon (.lst us) = false := (rfl)
@[simp] theorem e_isNon_tup {us : List U} : isNon (.tup us) = false := (rfl)
@[simp] theorem e_isNon_box : isNon (.box j) = false := (rfl)
@[simp] theorem e_gIn {n : Bool} {a b : U} : gIn n a b = (inU a b).map fun k => .w (.bl (if n then !k else k)) := (rfl)
@[simp] theorem e_in_1 {k : Nat} {l : List Nat} : inU (.str (ofC [k])) (.str (ofC l)) = some (decide (k ∈ l)) := by
  show some (inStr _ _) = _
  unfold inStr
  rw [if_pos (by rfl)]
  rfl
@[simp] theorem e_flat_str {x : Str} : flatU (.str x) = some (.str x) := (rfl)
@[simp] theorem e_flat_int {k : Int} : flatU (.int k) = some (.int k) := (rfl)
@[simp] theorem e_flat_bl {b : Bool} : flatU (.bl b) = some (.bl b) := (rfl)
@[simp] theorem e_flat_non : flatU .non = some .non := (rfl)
/-! ### kinds -/
@[simp] theorem e_isi {T : String} : gIsi T u = (kindS u).bind fun s => (kitB s T).map fun k => .w (.bl k) := (rfl)
@[simp] theorem e_isiT {Ts : List String} : gIsiT Ts u = (kindS u).bind fun s => (isAny s Ts).map fun k => .w (.bl k) := (rfl)
@[simp] theorem e_isAny0 {s : String} : isAny s [] = some false := (rfl)
@[simp] theorem e_isAny1 {s T : String} {Ts : List String} : isAny s (T :: Ts) = (kitB s T).bind fun k => (isAny s Ts).map fun k' => k || k' := (rfl)
@[simp] theorem e_kind_non : kindS .non = some "NoneType" := (rfl)
@[simp] theorem e_kind_bl {b : Bool} : kindS (.bl b) = some "bool" := (rfl)
@[simp] theorem e_kind_int {k : Int} : kindS (.int k) = some "int" := (rfl)
@[simp] theorem e_kind_str {x : Str} : kindS (.str x) = some "str" := (rfl)
@[simp] theorem e_kind_lst {us : List U} : kindS (.lst us) = some "list" := (rfl)
@[simp] theorem e_kind_tup {us : List U} : kindS (.tup us) = some "tuple" := (rfl)
@[simp] theorem e_kind_dct {ks : List Key} {us : List U} : kindS (.dct ks us) = some "dict" := (rfl)
@[simp] theorem e_kind_scr {ns : List Int} : kindS (.scr ns) = some "list" := (rfl)
@[simp] theorem e_cMod {a b : Int} : cMod a b = decide (0 < b) := (rfl)
theorem cMul_l {a b : Int} (h : -9223372036854775808 ≤ a) (h2 : a ≤ 9223372036854775807) : cMul a b = true := cMul_iff.mpr (.inl ⟨h, h2⟩)
theorem cMul_r {a b : Int} (h : -9223372036854775808 ≤ b) (h2 : b ≤ 9223372036854775807) : cMul a b = true := cMul_iff.mpr (.inr (.inl ⟨h, h2⟩))
theorem cMul_b {a b : Int} (h : a.natAbs.log2 + b.natAbs.log2 < 1000000) : cMul a b = true := cMul_iff.mpr (.inr (.inr h))
theorem cDiv_p {a b : Int} (h : 0 < b) (h2 : b ≤ 99999999999999999999999999999999999999999999999999) : cDiv a b = true := cDiv_iff.mpr ⟨by omega, h⟩
theorem cPow_p {a b : Int} (h : 0 ≤ b) (h2 : b ≤ 1000000) (h3 : -9223372036854775808 ≤ a) (h4 : a ≤ 9223372036854775807) : cPow a b = true := cPow_iff.mpr ⟨by omega, h, h3, h4⟩
/-- written numbers -/
@[simp] theorem cMul_lit {a : Int} {k : Nat} (h : Nat.ble k 9223372036854775807 = true := by rfl) : cMul a (no_index (OfNat.ofNat k)) = true := by
  refine cMul_r (by have : (OfNat.ofNat k : Int) = (k : Int) := rfl; omega) (by
    have e : (OfNat.ofNat k : Int) = (k : Int) := rfl
    have := Nat.le_of_ble_eq_true h
    omega)
end
@[simp] theorem kit_NoneType_bool : kitB "NoneType" "bool" = some false := by decide +kernel
@[simp] theorem kit_NoneType_int : kitB "NoneType" "int" = some false := by decide +kernel
@[simp] theorem kit_NoneType_str : kitB "NoneType" "str" = some false := by decide +kernel
@[simp] theorem kit_NoneType_list : kitB "NoneType" "list" = some false := by decide +kernel
@[simp] theorem kit_NoneType_tuple : kitB "NoneType" "tuple" = some false := by decide +kernel
@[simp] theorem kit_NoneType_dict : kitB "NoneType" "dict" = some false := by decide +kernel
@[simp] theorem kit_bool_bool : kitB "bool" "bool" = some true := by decide +kernel
@[simp] theorem kit_bool_int : kitB "bool" "int" = some true := by decide +kernel
@[simp] theorem kit_bool_str : kitB "bool" "str" = some false := by decide +kernel
@[simp] theorem kit_bool_list : kitB "bool" "list" = some false := by decide +kernel
@[simp] theorem kit_bool_tuple : kitB "bool" "tuple" = some false := by decide +kernel
@[simp] theorem kit_bool_dict : kitB "bool" "dict" = some false := by decide +kernel
@[simp] theorem kit_int_bool : kitB "int" "bool" = some false := by decide +kernel
@[simp] theorem kit_int_int : kitB "int" "int" = some true := by decide +kernel
@[simp] theorem kit_int_str : kitB "int" "str" = some false := by decide +kernel
@[simp] theorem kit_int_list : kitB "int" "list" = some false := by decide +kernel
@[simp] theorem kit_int_tuple : kitB "int" "tuple" = some false := by decide +kernel
@[simp] theorem kit_int_dict : kitB "int" "dict" = some false := by decide +kernel
@[simp] theorem kit_str_bool : kitB "str" "bool" = some false := by decide +kernel
@[simp] theorem kit_str_int : kitB "str" "int" = some false := by decide +kernel
@[simp] theorem kit_str_str : kitB "str" "str" = some true := by decide +kernel
@[simp] theorem kit_str_list : kitB "str" "list" = some false := by decide +kernel
@[simp] theorem kit_str_tuple : kitB "str" "tuple" = some false := by decide +kernel
@[simp] theorem kit_str_dict : kitB "str" "dict" = some false := by decide +kernel
@[simp] theorem kit_list_bool : kitB "list" "bool" = some false := by decide +kernel
@[simp] theorem kit_list_int : kitB "list" "int" = some false := by decide +kernel
@[simp] theorem kit_list_str : kitB "list" "str" = some false := by decide +kernel
@[simp] theorem kit_list_list : kitB "list" "list" = some true := by decide +kernel
@[simp] theorem kit_list_tuple : kitB "list" "tuple" = some false := by decide +kernel
@[simp] theorem kit_list_dict : kitB "list" "dict" = some false := by decide +kernel
@[simp] theorem kit_tuple_bool : kitB "tuple" "bool" = some false := by decide +kernel
@[simp] theorem kit_tuple_int : kitB "tuple" "int" = some false := by decide +kernel
@[simp] theorem kit_tuple_str : kitB "tuple" "str" = some false := by decide +kernel
@[simp] theorem kit_tuple_list : kitB "tuple" "list" = some false := by decide +kernel
@[simp] theorem kit_tuple_tuple : kitB "tuple" "tuple" = some true := by decide +kernel
@[simp] theorem kit_tuple_dict : kitB "tuple" "dict" = some false := by decide +kernel
@[simp] theorem kit_dict_bool : kitB "dict" "bool" = some false := by decide +kernel
@[simp] theorem kit_dict_int : kitB "dict" "int" = some false := by decide +kernel
@[simp] theorem kit_dict_str : kitB "dict" "str" = some false := by decide +kernel
@[simp] theorem kit_dict_list : kitB "dict" "list" = some false := by decide +kernel
@[simp] theorem kit_dict_tuple : kitB "dict" "tuple" = some false := by decide +kernel
@[simp] theorem kit_dict_dict : kitB "dict" "dict" = some true := by decide +kernel
end QB
/-! QbP: the purse and its coins, alike in every law. -/
namespace QB
open PySem L2
def purseB : Sm := sSeq (sSet 2 (mIf (toT (m2 gLt (mVar 1) (m1 gLen (mVar 0)))) (m2 gIx (mVar 0) (mVar 1)) (mC (.int 0)))) (sRet (mBox (mLst (mCons (mB gMax2 (mCons (mC (.int 0)) (mCons (m2 gSub (m1 gAbs (mVar 2)) (m2 (gII cPow fun i j => i ^ j.toNat) (mC (.int 10)) (mC (.int 18)))) (mNil)))) (mCons (m2 (gII cMod (· % ·)) (m1 gInt (m2 gAdd (m2 gAdd (m2 gMul (mVar 2) (mC (.int 2654435761))) (m2 gMul (mVar 1) (mC (.int 40503)))) (mC (.int 977)))) (m2 gAdd (m2 (gII cPow fun i j => i ^ j.toNat) (mC (.int 10)) (mC (.int 24))) (mC (.int 7)))) (mCons (mC (.int 0)) (mNil)))))))
def coinB : Sm := sSeq (sIf (toT (m2 gGt (m2 gIx (mVar 0) (mC (.int 0))) (mC (.int 0)))) (sSeq (sSet 2 (m2 (gII cMod (· % ·)) (m1 gInt (m2 gIx (mVar 0) (mC (.int 0)))) (mVar 1))) (sSeq (sStore (m2 (gII cDiv (· / ·)) (m2 gIx (mVar 0) (mC (.int 0))) (mVar 1)) (mVar 0) (mC (.int 0))) (sRet (mVar 2)))) (sNext)) (sSeq (sStore (m2 gAdd (m2 gIx (mVar 0) (mC (.int 2))) (mC (.int 1))) (mVar 0) (mC (.int 2))) (sSeq (sSet 3 (m2 gAdd (m2 gIx (mVar 0) (mC (.int 1))) (m2 gMul (mC (.int 362437)) (m2 gIx (mVar 0) (mC (.int 2)))))) (sSeq (sSet 3 (m2 (gII cMod (· % ·)) (m1 gInt (m2 gAdd (m2 gMul (mVar 3) (mVar 3)) (m2 gIx (mVar 0) (mC (.int 2))))) (m2 gAdd (m2 (gII cPow fun i j => i ^ j.toNat) (mC (.int 10)) (mC (.int 25))) (mC (.int 13))))) (sSeq (sSet 3 (m2 (gII cMod (· % ·)) (m1 gInt (m2 gAdd (m2 gMul (m2 gMul (mVar 3) (mVar 3)) (mC (.int 5))) (mVar 3))) (m2 gAdd (m2 (gII cPow fun i j => i ^ j.toNat) (mC (.int 10)) (mC (.int 23))) (mC (.int 117))))) (sRet (m2 (gII cMod (· % ·)) (m1 gInt (m2 (gII cDiv (· / ·)) (mVar 3) (mC (.int 1000)))) (mVar 1)))))))
theorem run_rt {N n : Nat} {f : Sm} {us : List U} {u : U} {B B' : Bx} {E' : En} (hl : us.length = n) (h : f (us.map .val ++ List.replicate (N - us.length) .un) B = .ok (.rt u) E' B') : runBody N n f us B = .ok u B' := by
  unfold runBody
  rw [if_pos hl, h]
theorem run_nx {N n : Nat} {f : Sm} {us : List U} {B B' : Bx} {E' : En} (hl : us.length = n) (h : f (us.map .val ++ List.replicate (N - us.length) .un) B = .ok .nx E' B') : runBody N n f us B = .ok .non B' := by
  unfold runBody
  rw [if_pos hl, h]
theorem seq_nx {s t : Sm} {E E1 : En} {B B1 : Bx} (h : s E B = .ok .nx E1 B1) : sSeq s t E B = t E1 B1 := by
  unfold sSeq
  rw [h, O.bind_ok]
theorem seq_rt {s t : Sm} {E E1 : En} {B B1 : Bx} {u : U} (h : s E B = .ok (.rt u) E1 B1) : sSeq s t E B = .ok (.rt u) E1 B1 := by
  unfold sSeq
  rw [h, O.bind_ok]
/-- the i-th shared cell is a purse from which n coins can still be taken -/
def Purse (B : Bx) (i n : Nat) : Prop := ∃ a b t : Int, B[i]? = some (.lst [.int a, .int b, .int t]) ∧ 0 ≤ b ∧ b < 10 ^ 25 ∧ 0 ≤ t ∧ t + n ≤ 2 ^ 40
theorem Purse.lt {B : Bx} {i n : Nat} (h : Purse B i n) : i < B.length := by
  obtain ⟨a, b, t, h, _⟩ := h
  exact (List.getElem?_eq_some_iff.mp h).1
theorem Purse.le {B : Bx} {i n m : Nat} (h : Purse B i n) (hm : m ≤ n) : Purse B i m := by
  obtain ⟨a, b, t, h, h1, h2, h3, h4⟩ := h
  exact ⟨a, b, t, h, h1, h2, h3, by omega⟩
theorem Purse.set {B : Bx} {i j n : Nat} {c : Cell} (h : Purse B i n) (hj : j ≠ i) : Purse (B.set j c) i n := by
  obtain ⟨a, b, t, h, h1⟩ := h
  exact ⟨a, b, t, by rw [List.getElem?_set_ne hj]; exact h, h1⟩
theorem Purse.app {B C : Bx} {i n : Nat} (h : Purse B i n) : Purse (B ++ C) i n := by
  have := h.lt
  obtain ⟨a, b, t, h, h1⟩ := h
  exact ⟨a, b, t, by rw [List.getElem?_append_left this]; exact h, h1⟩
def coinF : Fn := runBody 4 2 coinB
def purseF : Fn := runBody 3 2 purseB
theorem ix3_0 : ixN 3 0 = some 0 := rfl
theorem ix3_2 : ixN 3 2 = some 2 := rfl
theorem coin_ok {B : Bx} {i n : Nat} {many : Int} (h : Purse B i (n + 1)) (h0 : 0 < many := by decide) (hm : many ≤ 1000000000 := by decide) :
    ∃ (v : Int) (c : Cell), 0 ≤ v ∧ v < many ∧ coinF [.box i, .int many] B = .ok (.int v) (B.set i c) ∧ Purse (B.set i c) i n := by
  have hi := h.lt
  obtain ⟨a, b, t, h, h1, h2, h3, h4⟩ := h
  by_cases ha : 0 < a
  · refine ⟨a % many, .lst [.int (a / many), .int b, .int t], Int.emod_nonneg _ (by omega), Int.emod_lt_of_pos _ h0, ?_, _, _, _, List.getElem?_set_self hi, h1, h2, h3, by omega⟩
    have d0 : cDiv a many = true := cDiv_p h0 (by omega)
    simp [coinF, runBody, coinB, h, ha, h0, d0, ix3_0]
  · have m1 : -(2 ^ 64) < t + 1 ∧ t + 1 < 2 ^ 64 := by omega
    have q0 : ∀ x y : Int, 0 < y → 0 ≤ x % y ∧ x % y < y := fun x y hy => ⟨Int.emod_nonneg _ (by omega), Int.emod_lt_of_pos _ hy⟩
    have l0 : ∀ x y : Int, 0 ≤ x → x < 10 ^ 40 → 0 ≤ y → y < 10 ^ 40 → x.natAbs.log2 + y.natAbs.log2 < 1000000 := by
      intro x y a1 a2 a3 a4
      have u1 : x.natAbs.log2 < 200 := by
        rcases Nat.eq_zero_or_pos x.natAbs with z | z
        · rw [z]; decide
        · rw [Nat.log2_lt (by omega)]
          have : x.natAbs < 10 ^ 40 := by omega
          exact Nat.lt_trans this (by decide)
      have u2 : y.natAbs.log2 < 200 := by
        rcases Nat.eq_zero_or_pos y.natAbs with z | z
        · rw [z]; decide
        · rw [Nat.log2_lt (by omega)]
          have : y.natAbs < 10 ^ 40 := by omega
          exact Nat.lt_trans this (by decide)
      omega
    have s0 : 0 ≤ b + 362437 * (t + 1) ∧ b + 362437 * (t + 1) < 10 ^ 40 := by omega
    generalize e0 : b + 362437 * (t + 1) = x0 at s0
    have c0 := l0 x0 x0 s0.1 s0.2 s0.1 s0.2
    have s1 := q0 (x0 * x0 + (t + 1)) (10 ^ 25 + 13) (by decide)
    generalize e1 : (x0 * x0 + (t + 1)) % (10 ^ 25 + 13) = x1 at s1
    have c1 := l0 x1 x1 s1.1 (by omega) s1.1 (by omega)
    have s2 := q0 (x1 * x1 * 5 + x1) (10 ^ 23 + 117) (by decide)
    generalize e2 : (x1 * x1 * 5 + x1) % (10 ^ 23 + 117) = x2 at s2
    refine ⟨x2 / 1000 % many, .lst [.int a, .int b, .int (t + 1)], Int.emod_nonneg _ (by omega), Int.emod_lt_of_pos _ h0, ?_, _, _, _, List.getElem?_set_self hi, h1, h2, by omega, by omega⟩
    have e1' : (x0 * x0 + (t + 1)) % 10000000000000000000000013 = x1 := e1
    have e2' : (x1 * x1 * 5 + x1) % 100000000000000000000117 = x2 := e2
    have gs : ∀ c : Cell, (B.set i c)[i]? = some c := fun c => List.getElem?_set_self hi
    have k1 : cMul 362437 (t + 1) = true := cMul_l (by decide) (by decide)
    have k2 : cMul x0 x0 = true := cMul_b c0
    have k3 : cMul x1 x1 = true := cMul_b c1
    have k4 : cMul (x1 * x1) 5 = true := cMul_r (by decide) (by decide)
    have k5 : cPow 10 25 = true := by decide
    have k6 : cPow 10 23 = true := by decide
    have k7 : cDiv x2 1000 = true := cDiv_p (by decide) (by decide)
    simp [coinF, runBody, coinB, h, ha, h0, ix3_2, gs, e0, e1', e2', k1, k2, k3, k4, k5, k6, k7]
def px (z : Int) : Int := if 0 < (if z < 0 then -z else z) - 1000000000000000000 then (if z < 0 then -z else z) - 1000000000000000000 else 0
theorem purse_1 (z : Int) {E : En} {B : Bx} (h : E[2]? = some (.val (.int z))) : (mB gMax2 (mCons (mC (.int 0)) (mCons (m2 gSub (m1 gAbs (mVar 2)) (m2 (gII cPow fun i j => i ^ j.toNat) (mC (.int 10)) (mC (.int 18)))) (mNil)))) E B = .ok (.w (.int (px z))) E B := by
  have k5 : cPow 10 18 = true := by decide
  simp [px, h, k5]
theorem purse_2 (z : Int) (k : Int) {E : En} {B : Bx} (h : E[2]? = some (.val (.int z))) (h1 : E[1]? = some (.val (.int k))) : (m2 (gII cMod (· % ·)) (m1 gInt (m2 gAdd (m2 gAdd (m2 gMul (mVar 2) (mC (.int 2654435761))) (m2 gMul (mVar 1) (mC (.int 40503)))) (mC (.int 977)))) (m2 gAdd (m2 (gII cPow fun i j => i ^ j.toNat) (mC (.int 10)) (mC (.int 24))) (mC (.int 7)))) E B = .ok (.w (.int ((z * 2654435761 + k * 40503 + 977) % 1000000000000000000000007))) E B := by
  have k1 : cMul z 2654435761 = true := cMul_r (by decide) (by decide)
  have k2 : cMul k 40503 = true := cMul_r (by decide) (by decide)
  have k5 : cPow 10 24 = true := by decide
  simp [h, h1, k1, k2, k5]
theorem mB_eq {g : List U → Option R} {fs : Ar} {E : En} {B : Bx} : mB g fs E B = (fs E B).bind fun us E1 B1 =>
  match g us with
  | some r => .ok r E1 B1
  | none => .bad := rfl
theorem purse_3 (z k : Int) {u : U} {B : Bx} : ∃ a b : Int, 0 ≤ b ∧ b < 10 ^ 25 ∧ (sRet (mBox (mLst (mCons (mB gMax2 (mCons (mC (.int 0)) (mCons (m2 gSub (m1 gAbs (mVar 2)) (m2 (gII cPow fun i j => i ^ j.toNat) (mC (.int 10)) (mC (.int 18)))) (mNil)))) (mCons (m2 (gII cMod (· % ·)) (m1 gInt (m2 gAdd (m2 gAdd (m2 gMul (mVar 2) (mC (.int 2654435761))) (m2 gMul (mVar 1) (mC (.int 40503)))) (mC (.int 977)))) (m2 gAdd (m2 (gII cPow fun i j => i ^ j.toNat) (mC (.int 10)) (mC (.int 24))) (mC (.int 7)))) (mCons (mC (.int 0)) (mNil)))))))
    [.val u, .val (.int k), .val (.int z)] B = .ok (.rt (.box B.length)) [.val u, .val (.int k), .val (.int z)] (B ++ [.lst [.int a, .int b, .int 0]]) := by
  have q := Int.emod_nonneg (z * 2654435761 + k * 40503 + 977) (show (1000000000000000000000007 : Int) ≠ 0 by decide)
  have q2 := Int.emod_lt_of_pos (z * 2654435761 + k * 40503 + 977) (show (0 : Int) < 1000000000000000000000007 by decide)
  refine ⟨px z, (z * 2654435761 + k * 40503 + 977) % 1000000000000000000000007, q, by omega, ?_⟩
  have h1 := purse_1 z (E := [.val u, .val (.int k), .val (.int z)]) (B := B) rfl
  have h2 := purse_2 z k (E := [.val u, .val (.int k), .val (.int z)]) (B := B) rfl rfl
  simp only [e_sRet, e_mBox, e_mLst, e_mCons (f := mB _ _), h1, O.bind_ok, e_settle_w]
  rw [e_mCons, h2]
  simp
theorem purse_ok {B : Bx} {ns : List Int} {k : Nat} : ∃ c : Cell, purseF [.scr ns, .int k] B = .ok (.box B.length) (B ++ [c]) ∧ Purse (B ++ [c]) B.length (2 ^ 39) := by
  have s1 : ∃ z : Int, (sSet 2 (mIf (toT (m2 gLt (mVar 1) (m1 gLen (mVar 0)))) (m2 gIx (mVar 0) (mVar 1)) (mC (.int 0)))) [.val (.scr ns), .val (.int k), .un] B = .ok .nx [.val (.scr ns), .val (.int k), .val (.int z)] B := by
    by_cases hk : k < ns.length
    · refine ⟨ns[k], ?_⟩
      have hk' : (k : Int) < ns.length := by omega
      simp [hk, hk']
    · refine ⟨0, ?_⟩
      have hk' : ¬ (k : Int) < ns.length := by omega
      simp [hk, hk']
  obtain ⟨z, s1⟩ := s1
  obtain ⟨a, b, h1, h2, s2⟩ := purse_3 z k (u := .scr ns) (B := B)
  refine ⟨.lst [.int a, .int b, .int 0], ?_, a, b, 0, by simp, h1, h2, by omega, by omega⟩
  refine run_rt rfl (E' := [.val (.scr ns), .val (.int k), .val (.int z)]) ?_
  exact (seq_nx s1).trans s2
end QB
/-! QbQ: texts: joined, cut, sought in. -/
namespace QB
open PySem L2
open PySem.StrLaws (occBody occ_eq subAt_one)
theorem sjoin0 : ∀ ls : List (List Nat), Str.join (ofC []) (ls.map ofC) = ofC ls.flatten
  | [] => rfl
  | [l] => by simp [Str.join]
  | l :: m :: r => by
    have ih := sjoin0 (m :: r)
    simp only [List.map_cons, Str.join] at ih ⊢
    rw [ih]
    simp
theorem join0 (ls : List (List Nat)) : Txt.join (ofC []) (ls.map ofC) = ofC ls.flatten := by
  show Builtin.Str.glued _ _ = _
  rw [StrLaws.glued_eq_join, sjoin0]
theorem strsOf_map : ∀ ls : List (List Nat), strsOf (ls.map fun l => .str (ofC l)) = some (ls.map ofC)
  | [] => rfl
  | l :: ls => by simp [strsOf, strsOf_map ls]
theorem e_join {ls : List (List Nat)} : gJoin (.str (ofC [])) [.lst (ls.map fun l => .str (ofC l))] = if ls.flatten.length ≤ 16777216 then some (.w (.str (ofC ls.flatten))) else none := by
  have e : (List.map (fun x => x.length) (ls.map ofC)).sum = ls.flatten.length := by
    simp [List.length_flatten, Function.comp_def]
  simp only [gJoin, strsOf_map, join0, ofC_len, List.length_nil, Nat.mul_zero, Nat.add_zero, e]
theorem cutS_ij {l : List Nat} {i j : Int} {a b : Nat} (h1 : i = (a : Int)) (h2 : j = (b : Int)) : cutS (ofC l) (some i) (some j) = ofC ((l.drop a).take (b - a)) := by
  unfold cutS
  rw [h1, h2, ofC_len, ofC_cps, HT.sIx_nat, HT.sIx_nat, drop_min, take_min2]
  rfl
theorem e_sl_s {l : List Nat} {lo hi : Option Int} (h : l.length ≤ 16777216) : gSl (.str (ofC l)) lo hi = some (.w (.str (cutS (ofC l) lo hi))) := by
  show (if (ofC l).length ≤ 16777216 then _ else _) = _
  rw [ofC_len, if_pos h]
/-- the first place of a sign, counted on from i -/
def idx (c : Nat) : List Nat → Nat → Option Nat
  | [], _ => none
  | a :: r, i => if a = c then some i else idx c r (i + 1)
theorem occ_stays (s sub : Str) (hi : Nat) : ∀ (l : List Nat) (st : Array Nat × Nat), st.fst.size = 1 → (forIn l st (occBody s sub hi 1)).run.fst = st.fst
  | [], st, h => rfl
  | a :: l, st, h => by
    rw [List.forIn_cons]
    unfold occBody
    rw [if_neg (fun z => by have := z.1.1.1; omega)]
    exact occ_stays s sub hi l _ h
theorem occ_go (l : List Nat) (c : Nat) : ∀ (n i free : Nat), i + n = l.length + 1 → free ≤ i →
    (forIn (List.range' i n) ((#[] : Array Nat), free) (occBody (ofC l) ⟨#[c]⟩ l.length 1)).run.fst.toList = (idx c (l.drop i) i).toList
  | 0, i, free, h, hf => by
    rw [List.drop_eq_nil_of_le (by omega)]
    rfl
  | n + 1, i, free, h, hf => by
    rw [List.range'_succ, List.forIn_cons]
    have key := subAt_one (ofC l) c i
    rw [ofC_len, ofC_cps] at key
    by_cases hc : l[i]? = some c
    · have k2 := key.mpr hc
      have hlt : i < l.length := (List.getElem?_eq_some_iff.mp hc).1
      have e : (occBody (ofC l) ⟨#[c]⟩ l.length 1 i ((#[] : Array Nat), free)) = pure (ForInStep.yield ((#[] : Array Nat).push i, i + (⟨#[c]⟩ : Str).length)) := by
        unfold occBody
        rw [if_pos ⟨⟨⟨by simp, hf⟩, k2.1⟩, k2.2⟩]
      rw [e]
      show (forIn (List.range' (i + 1) n) ((#[] : Array Nat).push i, i + (⟨#[c]⟩ : Str).length) (occBody (ofC l) ⟨#[c]⟩ l.length 1)).run.fst.toList = _
      rw [occ_stays _ _ _ _ _ (by simp), List.drop_eq_getElem_cons hlt, idx, if_pos ((List.getElem?_eq_some_iff.mp hc).2)]
      simp
    · have e : (occBody (ofC l) ⟨#[c]⟩ l.length 1 i ((#[] : Array Nat), free)) = pure (ForInStep.yield ((#[] : Array Nat), free)) := by
        unfold occBody
        rw [if_neg (fun z => hc (key.mp ⟨z.1.2, z.2⟩))]
      rw [e]
      show (forIn (List.range' (i + 1) n) ((#[] : Array Nat), free) (occBody (ofC l) ⟨#[c]⟩ l.length 1)).run.fst.toList = _
      rw [occ_go l c n (i + 1) free (by omega) (by omega)]
      by_cases hlt : i < l.length
      · rw [List.drop_eq_getElem_cons hlt, idx, if_neg (fun z => hc (by rw [List.getElem?_eq_getElem hlt, z]))]
      · rw [List.drop_eq_nil_of_le (by omega : l.length ≤ i), List.drop_eq_nil_of_le (by omega)]; rfl
theorem occ_one (l : List Nat) (c k : Nat) : Builtin.Str.occurrences (ofC l) (ofC [c]) k l.length 1 = (idx c (l.drop k) k).toList := by
  rw [occ_eq]
  by_cases h : k ≤ l.length
  · exact occ_go l c (l.length + 1 - k) k k (by omega) (Nat.le_refl _)
  · rw [show l.length + 1 - k = 0 from by omega, List.drop_eq_nil_of_le (by omega)]
    rfl
def optI : Option Nat → Int
  | some k => k
  | none => -1
theorem find3_one (l : List Nat) (c : Nat) {i : Int} {k : Nat} (h : i = (k : Int)) : Txt.find3 (ofC l) (ofC [c]) i = optI (idx c (l.drop k) k) := by
  unfold Txt.find3
  have e : PySem.fromIndex (ofC l).length i = k := by
    unfold PySem.fromIndex
    rw [h, if_neg (by omega)]
    omega
  rw [e, ofC_len, occ_one]
  cases idx c (l.drop k) k <;> rfl
end QB
/-! QbR: == and != of trees that hold shared lists. -/
namespace QB
open PySem L2
def mapO (f : U → Option PyData) : List U → Option (List PyData)
  | [] => some []
  | u :: us => match f u, mapO f us with
    | some d, some ds => some (d :: ds)
    | _, _ => none
def toDB (B : Bx) : Nat → U → Option PyData
  | 0 => fun _ => none
  | n + 1 => fun u => match u with
    | .non => some .none
    | .bl b => some (.bool b)
    | .int i => some (.int i)
    | .str x => some (.str x)
    | .lst us => (mapO (toDB B n) us).map .list
    | .tup us => (mapO (toDB B n) us).map .tuple
    | .box i => match B[i]? with
      | some (.lst us) => (mapO (toDB B n) us).map .list
      | _ => none
    | _ => none
theorem mapO_dp {K : PySem.W.Frag} {H : Hp} {Lv : AS} {ρ : List Addr} {f : U → Option PyData} (hf : ∀ u v d, Rep K H Lv ρ u v → f u = some d → Dp K H v d) : ∀ (us : List U) (vs : List V) (ds : List PyData), Reps K H Lv ρ us vs → mapO f us = some ds → DpAll K H vs ds
  | [], vs, ds, h, e => by
    simp only [Reps] at h
    subst h
    simp only [mapO, Option.some.injEq] at e
    subst e
    exact .nil
  | u :: us, vs, ds, h, e => by
    simp only [Reps] at h
    obtain ⟨v, r, rfl, h1, h2⟩ := h
    simp only [mapO] at e
    split at e
    · next d ds' e1 e2 =>
      cases e
      exact .cons (hf u v d h1 e1) (mapO_dp hf us r ds' h2 e2)
    · cases e
theorem toDB_dp {K : PySem.W.Frag} {F : Fm} {ρ : List Addr} {E : En} {B : Bx} {σ : L2.St} {H : Hp} (rl : Rel K F ρ E B σ H) : ∀ (n : Nat) (u : U) (v : V) (d : PyData), Rep K H (LvF F ρ E B σ) ρ u v → toDB B n u = some d → Dp K H v d
  | 0, u, v, d, h, e => by simp [toDB] at e
  | n + 1, u, v, d, h, e => by
    have ih := mapO_dp (toDB_dp rl n)
    cases u with
    | non => exact Rep.dp _ _ _ h (by simpa [toDB, toD] using e)
    | bl b => exact Rep.dp _ _ _ h (by simpa [toDB, toD] using e)
    | int i => exact Rep.dp _ _ _ h (by simpa [toDB, toD] using e)
    | str x => exact Rep.dp _ _ _ h (by simpa [toDB, toD] using e)
    | lst us =>
      simp only [Rep] at h
      obtain ⟨p, vs, rfl, ⟨h1, _⟩, h2⟩ := h
      simp only [toDB, Option.map_eq_some_iff] at e
      obtain ⟨ds, e1, rfl⟩ := e
      exact .lst (.inl (.inl h1)) (ih us vs ds h2 e1)
    | tup us =>
      simp only [Rep] at h
      obtain ⟨p, vs, rfl, h1, h2⟩ := h
      simp only [toDB, Option.map_eq_some_iff] at e
      obtain ⟨ds, e1, rfl⟩ := e
      exact .tup (sqT_of h1) (ih us vs ds h2 e1)
    | box i =>
      simp only [Rep] at h
      obtain ⟨p, hp, rfl⟩ := h
      simp only [toDB] at e
      split at e
      · next us hb =>
        simp only [Option.map_eq_some_iff] at e
        obtain ⟨ds, e1, rfl⟩ := e
        obtain ⟨⟨vs, h1, h2⟩, _⟩ := rl.box i _ p hb rfl hp
        exact .lst (.inl (.inl h1)) (ih us vs ds h2 e1)
      · cases e
    | dct _ _ => simp [toDB] at e
    | scr _ => simp [toDB] at e
theorem toDB_top {K : PySem.W.Frag} {F : Fm} {ρ : List Addr} {E : En} {B : Bx} {σ : L2.St} {H : Hp} (rl : Rel K F ρ E B σ H) {n : Nat} {u : U} {v : V} {d : PyData} (t : Top K H (LvF F ρ E B σ) ρ u v) (e : toDB B n u = some d) : Dp K H v d := by
  cases n with
  | zero => simp [toDB] at e
  | succ n =>
    have ih := mapO_dp (toDB_dp rl n)
    cases u with
    | lst us =>
      obtain ⟨p, vs, rfl, h1, h2⟩ := t
      simp only [toDB, Option.map_eq_some_iff] at e
      obtain ⟨ds, e1, rfl⟩ := e
      exact .lst (.inl (.inl h1)) (ih us vs ds h2 e1)
    | tup us =>
      obtain ⟨p, vs, rfl, h1, h2⟩ := t
      simp only [toDB, Option.map_eq_some_iff] at e
      obtain ⟨ds, e1, rfl⟩ := e
      exact .tup (sqT_of h1) (ih us vs ds h2 e1)
    | box i => exact t.elim
    | non => exact toDB_dp rl (n + 1) _ _ _ t e
    | bl _ => exact toDB_dp rl (n + 1) _ _ _ t e
    | int _ => exact toDB_dp rl (n + 1) _ _ _ t e
    | str _ => exact toDB_dp rl (n + 1) _ _ _ t e
    | dct _ _ => simp [toDB] at e
    | scr _ => simp [toDB] at e
def eqB (B : Bx) (a b : U) : Option Bool := match toDB B 8 a, toDB B 8 b with
  | some d, some e => if (SeqAt.shaped d && SeqAt.shaped e) = true then some (PyData.eqv d e) else none
  | _, _ => none
def gEqB (B : Bx) (a b : U) : Option R := (eqB B a b).map fun k => .w (.bl k)
def gNeB (B : Bx) (a b : U) : Option R := (eqB B a b).map fun k => .w (.bl (!k))
def Op2SB (X : Cx) (op : Value → Value → Sem Value) (g : Bx → U → U → Option R) : Prop :=
  ∃ r : R2, OpR X op r ∧ ∀ F ρ E B σ H u1 u2 v1 v2 r3 Q, Rel X.K F ρ E B σ H → Top X.K H (LvF F ρ E B σ) ρ u1 v1 → Top X.K H (LvF F ρ E B σ) ρ u2 v2 → g B u1 u2 = some r3 →
    (∀ H' v, Aft X.K F ρ E B σ H r3 ρ E B H' v → Q v H') → r v1 v2 H Q
def m2B (g : Bx → U → U → Option R) (fa fb : Ex) : Ex := fun E B =>
  (fa E B).bind fun r1 E1 B1 => (fb E1 B1).bind fun r2 E2 B2 =>
    match view r1 E2 B2, view r2 E2 B2 with
    | some u1, some u2 => match g B2 u1 u2 with
      | some r => .ok r E2 B2
      | none => .bad
    | _, _ => .bad
section
variable {X : Cx} {a b : Expr} {fa fb : Ex} {pos : Pos}
theorem op2B_eq (hu : X.A.units + 64 < cLine) : Op2SB X (compareOp .Eq) gEqB := by
  refine ⟨_, op_eqD hu, fun F ρ E B σ H u1 u2 v1 v2 r3 Q rl t1 t2 e q => ?_⟩
  simp only [gEqB, Option.map_eq_some_iff] at e
  obtain ⟨k, e, rfl⟩ := e
  have fin : Q (.bl k) H := q H _ (Aft.val rl (by simp [Rep]))
  unfold eqB at e
  split at e
  · next d d' e1 e2 =>
    split at e
    · next hs =>
      cases e
      simp only [Bool.and_eq_true] at hs
      exact ⟨d, d', toDB_top rl t1 e1, toDB_top rl t2 e2, hs.1, hs.2, fin⟩
    · cases e
  · cases e
theorem op2B_ne (hu : X.A.units + 64 < cLine) : Op2SB X (compareOp .NotEq) gNeB := by
  refine ⟨_, op_neD hu, fun F ρ E B σ H u1 u2 v1 v2 r3 Q rl t1 t2 e q => ?_⟩
  simp only [gNeB, Option.map_eq_some_iff] at e
  obtain ⟨k, e, rfl⟩ := e
  have fin : Q (.bl (!k)) H := q H _ (Aft.val rl (by simp [Rep]))
  unfold eqB at e
  split at e
  · next d d' e1 e2 =>
    split at e
    · next hs =>
      cases e
      simp only [Bool.and_eq_true] at hs
      exact ⟨d, d', toDB_top rl t1 e1, toDB_top rl t2 e2, hs.1, hs.2, fin⟩
    · cases e
  · cases e
theorem m2B_ok {g : Bx → U → U → Option R} {r : R2} {ta tb : TE}
    (ho : ∀ F ρ E B σ H u1 u2 v1 v2 r3 Q, Rel X.K F ρ E B σ H → Top X.K H (LvF F ρ E B σ) ρ u1 v1 → Top X.K H (LvF F ρ E B σ) ρ u2 v2 → g B u1 u2 = some r3 → (∀ H' v, Aft X.K F ρ E B σ H r3 ρ E B H' v → Q v H') → r v1 v2 H Q)
    (ha : ∀ F ρ E B σ H Q, Rel X.K F ρ E B σ H → PostE X.K F ρ E B σ H (fa E B) Q → ta σ H Q) (hb : ∀ F ρ E B σ H Q, Rel X.K F ρ E B σ H → PostE X.K F ρ E B σ H (fb E B) Q → tb σ H Q) :
    ∀ F ρ E B σ H Q, Rel X.K F ρ E B σ H → PostE X.K F ρ E B σ H (m2B g fa fb E B) Q → tOp r ta tb σ H Q := by
  intro F ρ E B σ H Q rl h
  refine ha F ρ E B σ H _ rl ?_
  simp only [m2B] at h
  cases h1 : fa E B with
  | bad => rw [h1] at h; exact h
  | ex c E' B' => rw [h1] at h; exact h
  | ok r1 E1 B1 =>
    rw [h1] at h
    intro ρ1 H1 v1 A1
    refine hb _ ρ1 E1 B1 σ H1 _ A1.rel ?_
    simp only [O.bind_ok] at h
    cases h2 : fb E1 B1 with
    | bad => rw [h2] at h; exact h
    | ex c E' B' => rw [h2] at h; exact h
    | ok r2 E2 B2 =>
      rw [h2] at h
      simp only [O.bind_ok] at h
      intro ρ2 H2 v2 A2
      have A2' := A2.letgo
      have A1' := A1.carry A2'
      have T1 := A1'.letgo
      split at h
      · next u1 u2 e1 e2 =>
        split at h
        · next r3 eg =>
          have t1 := A1'.top e1
          have t2 : Top X.K H2 (LvF F ρ2 E2 B2 σ) ρ2 u2 v2 := (A2.top e2).mono (Stp.less fun q z => addR_lv z)
          exact ho F ρ2 E2 B2 σ H2 u1 u2 v1 v2 r3 Q T1.rel t1 t2 eg fun H' v A3 => h ρ2 H' v (T1.then A3)
        · exact h.elim
      · exact h.elim
theorem sndE_cmpB {op : CmpOp} {g : Bx → U → U → Option R} (ho : Op2SB X (compareOp op) g) (ha : SndE X a fa) (hb : SndE X b fb) (hm : behindInMarks op b = false := by first | rfl | exact nomark _) : SndE X (.Compare a [op] [b] pos) (m2B g fa fb) := by
  obtain ⟨r, hr, ho⟩ := ho
  obtain ⟨ta, pa, ha⟩ := ha
  obtain ⟨tb, pb, hb⟩ := hb
  exact ⟨_, pe_cmpR hr pa pb hm, m2B_ok ho ha hb⟩
theorem sndT_cmpB {op : CmpOp} {g : Bx → U → U → Option R} (ho : Op2SB X (compareOp op) g) (ha : SndE X a fa) (hb : SndE X b fb) (hm : behindInMarks op b = false := by first | rfl | exact nomark _) : SndT X (.Compare a [op] [b] pos) (toT (m2B g fa fb)) := by
  obtain ⟨r, hr, ho⟩ := ho
  obtain ⟨ta, pa, ha⟩ := ha
  obtain ⟨tb, pb, hb⟩ := hb
  exact ⟨_, pt_cmpR hr pa pb hm, toT_ok (m2B_ok ho ha hb)⟩
end
section
variable {E : En} {B : Bx} {f g : Ex}
@[simp] theorem e_m2B {h : Bx → U → U → Option R} : m2B h f g E B = (f E B).bind fun r1 E1 B1 => (g E1 B1).bind fun r2 E2 B2 =>
    match view r1 E2 B2, view r2 E2 B2 with
    | some u1, some u2 => match h B2 u1 u2 with
      | some r => .ok r E2 B2
      | none => .bad
    | _, _ => .bad := (rfl)
end
end QB
/-! QbS: enumerate(text, start=j); turned lists and texts; comprehensions with a deed in them. -/
namespace QB
open PySem L2 PyProof.Rows
theorem callTy_kw {M : Model} {A : Around} {E : Value → Shared → Prop} {s : Shared} {pos : Pos} {T : String} {ar : List (Bool × Sem Value)} {kw : List (Option Str × Sem Value)} {Q : Value → Shared → Prop}
    (h1 : ar.any (·.1) = false) (h2 : kw.any (·.1.isNone) = false) (h : wpAny M A (evalArgs (.type T) true ar kw) (fun z s1 => wpAny M A (call (.type T) z.pos z.kw) Q E s1) E s) : wpAny M A (callWith pos (.type T) [] ar kw) Q E s := by
  unfold callWith
  refine wpAny_bind (wpAny_holding (wpAny_mono h (fun z s1 q => wpAny_bind (wpAny_standAt ?_)) fun _ _ q => q))
  simp only [h1, h2, Bool.or_false]
  refine wpAny_bind (wpAny_pure (wpAny_bind (wpAny_mono q (fun r s2 q2 => ?_) fun _ _ q => q)))
  exact wpAny_bind (wpAny_holding (wpAny_point (wpAny_pure q2)))
/-- the signs of a text with their numbers, from j on, each in a new pair -/
def Itt (z : Str) (j : Int) : It :=
  ⟨fun i _ => i < z.cps.size, fun i H v H' => ∃ T c, v = .ref T ∧ H T = none ∧ z.cps[i]? = some c ∧ H' = upd H T (.tup [.int (j + (i : Nat)), .str ⟨#[c]⟩]), fun i _ => i = z.cps.size⟩
theorem turn_text {P : Program} {w : World} {K : PySem.W.Frag} {elts : List Expr} {kk : Nat} {tpos : Pos} (z : Str) (tok : Tok) (j : Int) (e it : Addr) :
    Turn P w K (.Tuple elts kk tpos) (Itt z j) [e, it] e (fun i h => (∃ old, IsEnum h e it (j + (i : Nat)) old) ∧ h.IsStrIter it (strIterType z) z tok i ∧ e ≠ it) where
  mem := List.mem_cons_self ..
  obj := fun i h ⟨⟨old, he⟩, ⟨o, ho, hc, hd⟩, _⟩ b hb => by
    rcases List.mem_cons.mp hb with y | y
    · subst y; exact ⟨_, he, fun v q => nomatch q⟩
    · rw [List.mem_singleton] at y; subst y; exact ⟨o, ho, fun v q => by rw [hd] at q; cases q⟩
  keep := fun i h h' ⟨⟨old, he⟩, ⟨o, ho, r⟩, hne⟩ k => ⟨⟨old, k e (List.mem_cons_self ..) _ he⟩, ⟨o, k it (by simp) o ho, r⟩, hne⟩
  item := by
    intro X hP hw hK hc i pins s σ H E I hf ⟨⟨old, he⟩, hit, hne⟩ hg
    subst hP hw hK
    have ea := Heap.lt_size he
    have ia : it < s.heap.objs.size := by obtain ⟨_, q, _⟩ := hit; exact Heap.lt_size q
    have D := Draws.text (prog := X.prog) (w := X.w) (A := X.A.in1) (I.ok.hd hc) it z tok
    refine wpAny_pyNext_enum_itemC D he hit hg hne (by simpa using hne) fun x h1 tk ⟨c, u, ec, ex⟩ ho hit1 hT hsz hk => ?_
    subst ex
    refine ⟨_, rfl, wpAny_letOwnedTupleGo_enum (s := { s with heap := h1, toks := tk + 1 }) ho fun h2 he2 sb => ?_⟩
    have T2 : h2.get? s.heap.objs.size = some { cls := .type "tuple", data := .seq #[.int (j + (i : Nat)) tk, .str ⟨#[c]⟩ u] } := (sb.2 _ (Nat.ne_of_gt ea)).trans hT
    have ob : ObjOk X.prog X.w (upd H s.heap.objs.size (.tup [.int (j + (i : Nat)), .str ⟨#[c]⟩])) h2 s.heap.objs.size (.tup [.int (j + (i : Nat)), .str ⟨#[c]⟩]) :=
      ⟨by show 2 ≤ sizeLine; decide, [.int (j + (i : Nat)) tk, .str ⟨#[c]⟩ u], .cons ⟨_, rfl⟩ (.cons ⟨_, rfl⟩ .nil), ⟨_, T2, rfl, _, rfl⟩⟩
    have I2 : Inv X pins σ (upd H s.heap.objs.size (.tup [.int (j + (i : Nat)), .str ⟨#[c]⟩])) { s with heap := h2, toks := tk + 1 } :=
      I.turnedNew (ch := [e, it]) (fun b o hb q => (sb.2 b (fun y => hb (by simp [y]))).trans (hk b o (fun y => hb (by simp [y])) (fun y => hb (by simp [y])) q)) hf (Nat.le_refl _) ob
    refine ⟨.ref s.heap.objs.size, _, I2, rfl, ⟨_, c, rfl, I.hok.fresh (Nat.le_refl _), ec, rfl⟩, ⟨⟨.str ⟨#[c]⟩ u, ?_⟩, ?_, hne⟩, fun b hb => ?_⟩
    · have e1 : j + ((i + 1 : Nat) : Int) = j + (i : Int) + 1 := by omega
      rw [e1]; exact he2
    · obtain ⟨o, q, r⟩ := hit1
      exact ⟨o, (sb.2 it (Ne.symm hne)).trans q, r⟩
    · have lt : b < s.heap.objs.size := by
        rcases List.mem_cons.mp hb with y | y
        · subst y; exact ea
        · rw [List.mem_singleton] at y; subst y; exact ia
      rw [upd_ne (Nat.ne_of_lt lt)]
      exact (hf b hb).1
  done := by
    intro X hP hw hK hc i pins s σ H E I hf ⟨⟨old, he⟩, hit, hne⟩ hg
    subst hP hw hK
    have D := Draws.text (prog := X.prog) (w := X.w) (A := X.A.in1) (I.ok.hd hc) it z tok
    obtain ⟨f0, f1, f2, f3, f4, f5⟩ := hf it (by simp)
    have hi : i = z.cps.size := hg
    subst hi
    exact wpAny_pyNext_enum_endD D he hit fun h1 eb => ⟨rfl, I.turned (t' := s.toks) (fun b o hb q => eb b o hb q) f0 f1 f3 f4 f5⟩
  self := fun A i s Q E ⟨⟨_, he⟩, _⟩ h => wpAny_pyIter_enum he h
def iText (ta tk : TA) (Bd : Str → Int → Prop) : TI := fun σ H R => ta σ H fun vs H1 => tk σ H1 fun zs H2 => ∃ z j, vs = [.str z] ∧ zs = [.int j] ∧ -(2 ^ 62) ≤ j ∧ j < 2 ^ 62 ∧ R (Itt z j) H2
section
variable {X : Cx} {a b : Expr} {fs gs : Ar} {pos p p2 tpos : Pos}
theorem pi_textFrom {ta tk : TA} {elts : List Expr} {kk : Nat} {kws : List Keyword} (hg : Gl X "enumerate") (hm : X.mg "enumerate" = none) (ha : PA X [a] ta) (hk : PK X kws tk) (hs : starEach [a] X.env = [(false, eval a X.env)] := by rfl)
    (hs2 : backTo pos (starEach [a] X.env) = (false, eval a X.env) :: backTo pos (starEach [] X.env) := by rfl) (h1 : (backTo pos (starEach [a] X.env)).any (·.1) = false := by rfl)
    (hall : (backToKw pos (keywordEach kws X.env)).all (·.1.isSome) = true := by rfl) (h2 : (backToKw pos (keywordEach kws X.env)).any (·.1.isNone) = false := by rfl) (hks : (backToKw pos (keywordEach kws X.env)).filterMap (·.1) = [Str.ofString "start"] := by rfl) :
    PI X (.Tuple elts kk tpos) (.Call (.Name "enumerate" p) [a] kws pos) (iText ta tk fun _ _ => True) := by
  refine ⟨fun pins s σ H R I h => ?_⟩
  refine wpAny_Call_Name_kw (ld_blt I hg hm boot_enumerate ?_)
  refine callTy_kw h1 h2 (evalArgs_kw2 hall (thn (ha.run pos pins s σ H _ I h) fun us s1 ⟨vs, H1, I1, r1, q1⟩ => thn (hk.run pos pins s1 σ H1 _ I1 q1) fun ws s2 ⟨zs, H2, I2, r2, q2⟩ => ?_) hs)
  rw [hks]
  obtain ⟨z, j, rfl, rfl, b1, b2, q⟩ := q2
  cases r1 with
  | cons r rr =>
    cases rr
    obtain ⟨t, rfl⟩ := r
    cases r2 with
    | cons r' rr' =>
      cases rr'
      obtain ⟨t', rfl⟩ := r'
      refine enum_begins_start (begins_text z t) trivial (by omega) (by omega) fun h' he hit hsz hkp => wpAny_pyIter_enum he ?_
      have I3 : Inv X pins σ H2 { s2 with heap := h' } := I2.kept (t' := s2.toks) hkp
      refine ⟨s2.heap.objs.size + 1, [s2.heap.objs.size + 1, s2.heap.objs.size], _, Itt z j, H2, rfl, I3, turn_text z t j (s2.heap.objs.size + 1) s2.heap.objs.size, ⟨⟨.none, ?_⟩, ⟨_, hit, rfl, rfl⟩, Nat.succ_ne_self _⟩, fun b hb => ?_, q⟩
      · have e0 : j + ((0 : Nat) : Int) = j := by omega
        rw [e0]; exact he
      · have lb : s2.heap.objs.size ≤ b := by
          rcases List.mem_cons.mp hb with y | y
          · subst y; exact Nat.le_succ _
          · rw [List.mem_singleton] at y; subst y; exact Nat.le_refl _
        exact I2.fpOk lb (I2.hok.fresh lb)
def textU (z : Str) (j : Int) : List U := z.cps.toList.mapIdx fun k c => .tup [.int (j + (k : Nat)), .str ⟨#[c]⟩]
theorem walkU_text {K : PySem.W.Frag} {z : Str} {j : Int} : WalkU K (Itt z j) (textU z j) yes (fun _ _ _ => True) := by
  have len : (textU z j).length = z.cps.size := by simp [textU]
  refine ⟨fun _ _ _ _ _ _ _ _ _ _ _ _ => trivial, fun H Lv ρ i _ hi => by rw [len] at hi; exact hi, fun H Lv ρ _ => len, fun H Lv ρ i u x H' _ hu hy hlv => ?_⟩
  obtain ⟨T, c, rfl, hT, hc, rfl⟩ := hy
  have gr : ∀ q o, H q = some o → (upd H T (.tup [.int (j + (i : Nat)), .str ⟨#[c]⟩])) q = some o := fun q o h => by rw [upd_ne (ne_of_none h hT)]; exact h
  refine ⟨gr, ?_⟩
  have e : u = .tup [.int (j + (i : Nat)), .str ⟨#[c]⟩] := by
    simp only [textU, List.getElem?_mapIdx, Option.map_eq_some_iff] at hu
    obtain ⟨d, h1, rfl⟩ := hu
    rw [Array.getElem?_toList, hc] at h1
    cases h1
    rfl
  subst e
  simp only [Rep]
  refine ⟨T, _, rfl, .inl ⟨.inl upd_same, fun z => ?_⟩, Reps.cons (by simp [Rep]) (Reps.one (by simp [Rep]))⟩
  obtain ⟨o, ho⟩ := hlv T z
  rw [hT] at ho
  cases ho
def mEnumT (fs gs : Ar) : Iv := fun E B => (fs E B).bind fun us E1 B1 => (gs E1 B1).bind fun ws E2 B2 =>
  match us, ws with
  | [.str z], [.int j] => if I62 j = true then .ok (textU z j, yes) E2 B2 else .bad
  | _, _ => .bad
theorem sndI_enumT {elts : List Expr} {kk : Nat} {kws : List Keyword} (hm : X.mg "enumerate" = none) (ha : SndA X [a] fs) (hk : SndK X kws gs) (hg : Gl X "enumerate" := by rfl) (hs : starEach [a] X.env = [(false, eval a X.env)] := by rfl)
    (hs2 : backTo pos (starEach [a] X.env) = (false, eval a X.env) :: backTo pos (starEach [] X.env) := by rfl) (h1 : (backTo pos (starEach [a] X.env)).any (·.1) = false := by rfl)
    (hall : (backToKw pos (keywordEach kws X.env)).all (·.1.isSome) = true := by rfl) (h2 : (backToKw pos (keywordEach kws X.env)).any (·.1.isNone) = false := by rfl) (hks : (backToKw pos (keywordEach kws X.env)).filterMap (·.1) = [Str.ofString "start"] := by rfl) :
    SndI X (.Tuple elts kk tpos) (.Call (.Name "enumerate" p) [a] kws pos) (mEnumT fs gs) := by
  obtain ⟨ta, pa, ha⟩ := ha
  obtain ⟨tk, pk, hk⟩ := hk
  refine ⟨_, pi_textFrom hg hm pa pk hs hs2 h1 hall h2 hks, fun F ρ E B σ H Rk rl q => ?_⟩
  refine ha F ρ E B σ H _ rl ?_
  simp only [mEnumT] at q
  cases h1 : fs E B with
  | bad => rw [h1] at q; exact q.elim
  | ex c E' B' => rw [h1] at q; exact q.elim
  | ok us E1 B1 =>
    rw [h1] at q
    simp only [O.bind_ok] at q
    intro ρ1 H1 vs A1
    refine hk F ρ1 E1 B1 σ H1 _ A1.t.rel ?_
    cases h2 : gs E1 B1 with
    | bad => rw [h2] at q; exact q.elim
    | ex c E' B' => rw [h2] at q; exact q.elim
    | ok ws E2 B2 =>
      rw [h2] at q
      simp only [O.bind_ok] at q
      intro ρ2 H2 zs A2
      have R1 := A1.reps
      have R2 := A2.reps
      revert q
      generalize hw : (match us, ws with | [.str z], [.int j] => if I62 j = true then O.ok (textU z j, yes) E2 B2 else .bad | _, _ => .bad) = oo
      intro q
      cases oo with
      | bad => exact q.elim
      | ex c E' B' => exact q.elim
      | ok w E' B' =>
        exact (by
          split at hw
          · next z j =>
            split at hw
            · next hj =>
              cases hw
              simp only [Reps, Rep] at R1 R2
              obtain ⟨v, r, rfl, rfl, rfl⟩ := R1
              obtain ⟨v2, r2, rfl, rfl, rfl⟩ := R2
              have b := i62_iff.mp hj
              exact ⟨z, j, rfl, rfl, b.1, b.2, q ρ2 H2 _ _ (A1.t.trans A2.t) walkU_text trivial trivial⟩
            · cases hw
          · cases hw)
end
/-- a list comprehension with a deed in it, by an invariant over what is left and what is gathered -/
theorem okP_lcGo {bd : Bd} {t : Te} {f : Ex} {ks : List Nat} (I : List U → List U → En → Bx → Prop) (step : ∀ u us acc E B, I (u :: us) acc E B → ∃ E1, bd u E = some E1 ∧ OkP (t E1 B) fun b E2 B2 =>
      if b = true then OkP (f E2 B2) fun r E3 B3 => ∃ y E4, settle r E3 = some (y, E4) ∧ acc.length < 16777216 ∧ I us (acc ++ [y]) (wipeE E4 ks) B3 else I us acc (wipeE E2 ks) B2) :
    ∀ us acc E B, I us acc E B → OkP (lcGo bd t f yes ks us acc E B) fun acc' E' B' => I [] acc' E' B'
  | [], acc, E, B, h => h
  | u :: us, acc, E, B, h => by
    obtain ⟨E1, e, q⟩ := step u us acc E B h
    unfold lcGo
    rw [e]
    refine OkP.bind (q.mono fun b E2 B2 q2 => ?_)
    by_cases hb : b = true
    · rw [if_pos hb] at q2 ⊢
      refine OkP.bind (q2.mono fun r E3 B3 ⟨y, E4, e4, hl, q3⟩ => ?_)
      rw [e4]
      simp only
      rw [if_pos hl]
      unfold goOnL
      rw [if_pos (show yes _ from trivial)]
      exact okP_lcGo I step us _ _ _ q3
    · rw [if_neg hb] at q2 ⊢
      unfold goOnL
      rw [if_pos (show yes _ from trivial)]
      exact okP_lcGo I step us _ _ _ q2
theorem okP_lc {fi : Iv} {bd : Bd} {t : Te} {f : Ex} {ks : List Nat} {us : List U} {E E1 : En} {B B1 : Bx} {Q : R → En → Bx → Prop} (hi : fi E B = .ok (us, yes) E1 B1) (hn : noOwn E1 ks = true) (I : List U → List U → En → Bx → Prop) (h : I us [] (wipeE E1 ks) B1)
    (step : ∀ u us acc E B, I (u :: us) acc E B → ∃ E1, bd u E = some E1 ∧ OkP (t E1 B) fun b E2 B2 =>
      if b = true then OkP (f E2 B2) fun r E3 B3 => ∃ y E4, settle r E3 = some (y, E4) ∧ acc.length < 16777216 ∧ I us (acc ++ [y]) (wipeE E4 ks) B3 else I us acc (wipeE E2 ks) B2)
    (last : ∀ acc E B, I [] acc E B → Q (.fr (.lst acc)) (keepE E1 E ks) B) : OkP (mLc fi bd t f ks E B) Q := by
  unfold mLc
  rw [hi]
  simp only [O.bind_ok]
  rw [if_pos hn]
  exact OkP.bind ((okP_lcGo I step us [] _ _ h).mono fun acc E2 B2 q => last acc E2 B2 q)
end QB
/-! QbT: texts and lists turned about. -/
namespace QB
open PySem L2 PyProof.Rows
def revS (z : Str) : Str := ⟨z.cps.toList.reverse.toArray⟩
theorem picked_back (z : Str) : (Builtin.Str.strSliceIndices none none (-1) z.length).filterMap (z.cps[·]?) = z.cps.toList.reverse := by
  rw [picked_rev, filterMap_get, List.map_map]
  · apply List.ext_getElem?
    intro i
    by_cases h : i < z.length
    · have h2 : i < z.cps.toList.length := by rw [Array.length_toList]; exact h
      rw [List.getElem?_map, List.getElem?_range h, List.getElem?_reverse h2]
      have h3 : z.length - 1 - i < z.cps.size := by show z.cps.size - 1 - i < z.cps.size; have : i < z.cps.size := h; omega
      simp only [Option.map_some, Function.comp, Array.length_toList]
      rw [Array.getD_eq_getD_getElem?, Array.getElem?_toList]
      show some ((z.cps[z.cps.size - 1 - i]?).getD 0) = z.cps[z.cps.size - 1 - i]?
      have h4 : z.cps.size - 1 - i < z.cps.size := h3
      rw [Array.getElem?_eq_getElem h4]; rfl
    · have h2 : ¬ i < z.cps.toList.length := by rw [Array.length_toList]; exact h
      rw [List.getElem?_eq_none (by simp; omega), List.getElem?_eq_none (by rw [List.length_reverse]; exact Nat.le_of_not_lt h2)]
  · intro i hi
    obtain ⟨k, hk, rfl⟩ := List.mem_map.mp hi
    have hk' : k < z.length := List.mem_range.mp hk
    show z.length - 1 - k < z.length
    omega
section
variable {X : Cx} {e : Expr} {te : TE} {k : Nat} {p1 p2 p3 pos : Pos}
def tRevS (te : TE) : TE := fun σ H Q => te σ H fun x H1 => ∃ z, x = .str z ∧ z.length ≤ sizeLine ∧ Q (.str (revS z)) H1
theorem pe_revS (he : PE X e te) : PE X (.Subscript e (.Slice none none (some (.UnaryOp .USub (.Constant (.int 1) k p1) p2)) p3) pos) (tRevS te) := by
  refine ⟨fun pins s σ H Q I h => Subscript_ (thn (he.run pins s σ H _ I h) fun v s1 ⟨x, H1, I1, r1, z, ex, hz, q⟩ => ?_)⟩
  subst ex
  obtain ⟨t, rfl⟩ := r1
  have st : PO X (some (.UnaryOp .USub (.Constant (.int 1) k p1) p2)) (tPart (tUn (rU fun i => .int (-i)) (tC (.int 1)))) := po_some (pe_un un_neg pe_int)
  refine wpAny_Slice (thn (po_none.run pins s1 σ H1 (fun o K2 => o = none ∧ K2 = H1) I1 ⟨rfl, rfl⟩) fun vl s2 ⟨l, H2, I2, pl, el, e2⟩ => thn (po_none.run pins s2 σ H2 (fun o K3 => o = none ∧ K3 = H2) I2 ⟨rfl, rfl⟩) fun vu s3 ⟨u, H3, I3, pu, eu, e3⟩ =>
    thn (st.run pins s3 σ H3 (fun o K4 => o = some (-1) ∧ K4 = H3) I3 ⟨1, rfl, -1, rfl, rfl, rfl⟩) fun vs s4 ⟨o, H4, I4, ps, eo, e4⟩ => ?_)
  subst el e2 eu e3 eo e4
  have I5 : Inv X pins σ H4 { s4 with heap := s4.heap.push { cls := .type "slice", data := .fields #[vl, vu, vs] } } := I4.kept (t' := s4.toks) fun b ob y => Heap.get?_push_of_some _ y
  obtain ⟨l', rfl, el⟩ := IsPart.raw pl
  obtain ⟨u', rfl, eu⟩ := IsPart.raw pu
  obtain ⟨w', rfl, ew⟩ := IsPart.raw ps
  show wpAny (model X.prog X.w) X.A (subscriptTail e (.Slice none none (some (.UnaryOp .USub (.Constant (.int 1) k p1) p2)) p3) (.str z t) (.ref s4.heap.objs.size)) (EP X pins σ Q) X.xe { s4 with heap := s4.heap.push { cls := .type "slice", data := .fields #[partValue l', partValue u', partValue w'] } }
  refine tail_any (ops := [.str z t, .ref s4.heap.objs.size]) (typeIs_str _ _ _) (PySem.F.slot_str_getitem.lookup) ?_ (by with_unfolding_all rfl)
  refine wpAny_getItem_str_slice (l := l') (u := u') (st := w') ⟨_, Heap.get?_push_size _ rfl, rfl, rfl⟩ (by rw [ew]; rfl) ?_
  show Made.post (if ((w'.map (·.1)).getD 1 == 1 && (Builtin.Str.strSliceIndices (l'.map (·.1)) (u'.map (·.1)) ((w'.map (·.1)).getD 1) z.length).length == z.length) = true then Made.val (.str z t)
    else Made.str ⟨((Builtin.Str.strSliceIndices (l'.map (·.1)) (u'.map (·.1)) ((w'.map (·.1)).getD 1) z.length).filterMap (z.cps[·]?)).toArray⟩) (EP X pins σ Q) _
  rw [el, eu, ew]
  have c : ¬ (((some (-1 : Int)).getD 1 == 1 && (Builtin.Str.strSliceIndices none none ((some (-1 : Int)).getD 1) z.length).length == z.length) = true) := by
    have : ((some (-1 : Int)).getD 1 == 1) = false := rfl
    rw [this]; simp
  rw [if_neg c]
  show Made.post (Made.str ⟨((Builtin.Str.strSliceIndices none none (-1) z.length).filterMap (z.cps[·]?)).toArray⟩) (EP X pins σ Q) _
  rw [picked_back]
  refine ⟨?_, .str _, _, I5.tok _, ⟨_, rfl⟩, q⟩
  show (revS z).length ≤ sizeLine
  have : (revS z).length = z.length := by simp [revS, Str.length]
  rw [this]; exact hz
def gRevA : U → Option R
  | .lst us => some (.fr (.lst us.reverse))
  | .str z => if z.length ≤ 16777216 then some (.w (.str (revS z))) else none
  | _ => none
def mRevA (fa : Ex) : Ex := m1 gRevA fa
theorem peOr {a : Expr} {t1 t2 : TE} (h1 : PE X a t1) (h2 : PE X a t2) : PE X a (fun σ H Q => t1 σ H Q ∨ t2 σ H Q) :=
  ⟨fun pins s σ H Q I h => h.elim (h1.run pins s σ H Q I) (h2.run pins s σ H Q I)⟩
def gRevL1 : U → Option R
  | .lst us => some (.fr (.lst us.reverse))
  | _ => none
def gRevS1 : U → Option R
  | .str z => if z.length ≤ 16777216 then some (.w (.str (revS z))) else none
  | _ => none
theorem sndE_revA {a : Expr} {fa : Ex} (ha : SndE X a fa) : SndE X (.Subscript a (.Slice none none (some (.UnaryOp .USub (.Constant (.int 1) k p1) p2)) p3) pos) (mRevA fa) := by
  obtain ⟨ta, pa, ha⟩ := ha
  refine ⟨_, peOr (pe_revL pa) (pe_revS pa), fun F ρ E B σ H Q rl q => ?_⟩
  have hL := m1_ok (g := gRevL1) (r := fun v H Q => ∃ a xs, v = .ref a ∧ SqL X.K H a xs ∧ ∀ p, H p = none → Q (.ref p) (upd H p (.lst xs.reverse))) (fun F ρ E B σ H u1 v1 r3 Q rl t e q => by
    cases u1 <;> simp only [gRevL1, reduceCtorEq, Option.some.injEq] at e
    next us =>
      subst e
      obtain ⟨p, vs, rfl, h1, h2⟩ := t
      exact ⟨p, vs, rfl, .inl (.inl h1), fun p' hp => q _ _ (Aft.fresh rl hp h2.reverse)⟩) ha F ρ E B σ H Q rl
  have hS := m1_ok (g := gRevS1) (r := fun v H Q => ∃ z, v = .str z ∧ z.length ≤ sizeLine ∧ Q (.str (revS z)) H) (fun F ρ E B σ H u1 v1 r3 Q rl t e q => by
    cases u1 <;> simp only [gRevS1, reduceCtorEq] at e
    next z =>
      split at e
      · next hz =>
        cases e
        exact ⟨z, top_str t, by rw [sizeLine_eq]; exact hz, q H _ (Aft.val rl (by simp [Rep]))⟩
      · cases e) ha F ρ E B σ H Q rl
  simp only [mRevA, m1] at q
  simp only [m1] at hL hS
  cases h1 : fa E B with
  | bad => rw [h1] at q; exact q.elim
  | ex c E' B' => rw [h1] at q; exact q.elim
  | ok r E1 B1 =>
    rw [h1] at q hL hS
    simp only [O.bind_ok] at q hL hS
    cases h2 : view r E1 B1 with
    | none => rw [h2] at q; exact q.elim
    | some u =>
      rw [h2] at q hL hS
      cases u with
      | lst us => exact .inl (hL q)
      | str z => exact .inr (hS q)
      | _ => exact q.elim
end
end QB
/-! QbU: stepping through bodies: locked continuations, loops and comprehensions over encoded lists, == by trees. -/
namespace QB
open PySem L2
/-- what follows, not to be looked into -/
def Then (g : Sm) (Q : Fl → En → Bx → Prop) : Fl → En → Bx → Prop := fun fl E B => match fl with | .nx => OkP (g E B) Q | fl => Q fl E B
theorem then_nx {g : Sm} {Q : Fl → En → Bx → Prop} {E : En} {B : Bx} (h : OkP (g E B) Q) : Then g Q .nx E B := h
theorem then_rt {g : Sm} {Q : Fl → En → Bx → Prop} {E : En} {B : Bx} {u : U} (h : Q (.rt u) E B) : Then g Q (.rt u) E B := h
theorem then_bk {g : Sm} {Q : Fl → En → Bx → Prop} {E : En} {B : Bx} (h : Q .bk E B) : Then g Q .bk E B := h
theorem then_ct {g : Sm} {Q : Fl → En → Bx → Prop} {E : En} {B : Bx} (h : Q .ct E B) : Then g Q .ct E B := h
theorem okP_seqT {f g : Sm} {E : En} {B : Bx} {Q : Fl → En → Bx → Prop} (h : OkP (f E B) (Then g Q)) : OkP (sSeq f g E B) Q :=
  okP_seq (h.mono fun fl E1 B1 q => by cases fl <;> exact q)
theorem okP_lock {α : Type} {o : O α} {Q : α → En → Bx → Prop} (h : ∀ LQ : α → En → Bx → Prop, (∀ a E B, Q a E B → LQ a E B) → OkP o LQ) : OkP o Q := h Q fun _ _ _ q => q
theorem okP_seqL {f g : Sm} {E : En} {B : Bx} {Q : Fl → En → Bx → Prop} (h : ∀ LQ : Fl → En → Bx → Prop, (∀ a E B, Then g Q a E B → LQ a E B) → OkP (f E B) LQ) : OkP (sSeq f g E B) Q := okP_seqT (okP_lock h)
theorem okP_ift {c : Te} {f g : Sm} {E E1 : En} {B B1 : Bx} {Q : Fl → En → Bx → Prop} (hc : c E B = .ok true E1 B1) (h : OkP (f E1 B1) Q) : OkP (sIf c f g E B) Q := by
  unfold sIf; rw [hc]; exact h
theorem okP_iff {c : Te} {f g : Sm} {E E1 : En} {B B1 : Bx} {Q : Fl → En → Bx → Prop} (hc : c E B = .ok false E1 B1) (h : OkP (g E1 B1) Q) : OkP (sIf c f g E B) Q := by
  unfold sIf; rw [hc]; exact h
theorem okP_ift0 {c : Te} {f g : Sm} {E : En} {B : Bx} {Q : Fl → En → Bx → Prop} (hc : c E B = .ok true E B) (h : OkP (f E B) Q) : OkP (sIf c f g E B) Q := okP_ift hc h
theorem okP_iff0 {c : Te} {f g : Sm} {E : En} {B : Bx} {Q : Fl → En → Bx → Prop} (hc : c E B = .ok false E B) (h : OkP (g E B) Q) : OkP (sIf c f g E B) Q := okP_iff hc h
/-- a test whose outcome is open -/
theorem okP_ifb {c : Te} {f g : Sm} {E E1 : En} {B B1 : Bx} {Q : Fl → En → Bx → Prop} {b : Bool} (hc : c E B = .ok b E1 B1) (h : b = true → OkP (f E1 B1) Q) (h2 : b = false → OkP (g E1 B1) Q) : OkP (sIf c f g E B) Q := by
  cases b
  · exact okP_iff hc (h2 rfl)
  · exact okP_ift hc (h rfl)
/-! ### what a def answers -/
def RetIs (u : U) (B1 : Bx) : Fl → En → Bx → Prop := fun fl _ B' => match fl with | .rt v => v = u ∧ B' = B1 | .nx => U.non = u ∧ B' = B1 | _ => False
theorem ret_is {u : U} {B : Bx} {E : En} : RetIs u B (.rt u) E B := ⟨rfl, rfl⟩
theorem ret_is' {u v : U} {B B' : Bx} {E : En} (h : v = u) (h2 : B' = B) : RetIs u B (.rt v) E B' := ⟨h, h2⟩
theorem ret_nx {B : Bx} {E : En} : RetIs .non B .nx E B := ⟨rfl, rfl⟩
theorem ret_nx' {B B' : Bx} {E : En} (h : B' = B) : RetIs .non B .nx E B' := ⟨rfl, h⟩
theorem run_is {N n : Nat} {f : Sm} {us : List U} {B B1 : Bx} {u : U} (hl : us.length = n) (h : OkP (f (us.map .val ++ List.replicate (N - us.length) .un) B) (RetIs u B1)) : runBody N n f us B = .ok u B1 := by
  obtain ⟨v, B', e, rfl, rfl⟩ := run_ok (N := N) (n := n) (f := f) (us := us) (B := B) (Q := fun v B' => v = u ∧ B' = B1) hl (h.mono fun fl E B' q => by cases fl <;> exact q)
  exact e
def RetP (Q : U → Bx → Prop) : Fl → En → Bx → Prop := fun fl _ B' => match fl with | .rt v => Q v B' | .nx => Q .non B' | _ => False
theorem ret_p {Q : U → Bx → Prop} {u : U} {B : Bx} {E : En} (h : Q u B) : RetP Q (.rt u) E B := h
theorem ret_pn {Q : U → Bx → Prop} {B : Bx} {E : En} (h : Q .non B) : RetP Q .nx E B := h
theorem run_p {N n : Nat} {f : Sm} {us : List U} {B : Bx} {Q : U → Bx → Prop} (hl : us.length = n) (h : OkP (f (us.map .val ++ List.replicate (N - us.length) .un) B) (RetP Q)) : ∃ u B1, runBody N n f us B = .ok u B1 ∧ Q u B1 :=
  run_ok hl (h.mono fun fl E B' q => by cases fl <;> exact q)
/-! ### loops over encoded lists -/
def LoopP (Q : Fl → En → Bx → Prop) (J : En → Bx → Prop) : Fl → En → Bx → Prop := fun fl E B => match fl with | .bk => Q .nx E B | .rt v => Q (.rt v) E B | _ => J E B
theorem loop_nx {Q : Fl → En → Bx → Prop} {J : En → Bx → Prop} {E : En} {B : Bx} (h : J E B) : LoopP Q J .nx E B := h
theorem loop_ct {Q : Fl → En → Bx → Prop} {J : En → Bx → Prop} {E : En} {B : Bx} (h : J E B) : LoopP Q J .ct E B := h
theorem loop_bk {Q : Fl → En → Bx → Prop} {J : En → Bx → Prop} {E : En} {B : Bx} (h : Q .nx E B) : LoopP Q J .bk E B := h
theorem loop_rt {Q : Fl → En → Bx → Prop} {J : En → Bx → Prop} {E : En} {B : Bx} {u : U} (h : Q (.rt u) E B) : LoopP Q J (.rt u) E B := h
def BdIs (o : Option En) (P : En → Prop) : Prop := match o with | some E => P E | none => False
@[simp] theorem bdIs_some {E : En} {P : En → Prop} : BdIs (some E) P = P E := rfl
theorem BdIs.get {o : Option En} {P : En → Prop} (h : BdIs o P) : ∃ E, o = some E ∧ P E := by
  cases o with
  | none => exact h.elim
  | some E => exact ⟨E, rfl, h⟩
theorem BdIs_of {o : Option En} {E : En} {P : En → Prop} (h : o = some E) (p : P E) : BdIs o P := by rw [h]; exact p
/-- a slot that holds nothing of its own -/
def Free (s : Sl) : Prop := s = .un ∨ ∃ u, s = .val u
theorem free_un : Free .un := .inl rfl
theorem free_val {u : U} : Free (.val u) := .inr ⟨u, rfl⟩
theorem bdN_free {k : Nat} {u : U} {E : En} {s : Sl} (h : E[k]? = some s) (f : Free s) : bdN k u E = some (E.set k (.val u)) := by
  rcases f with rfl | ⟨_, rfl⟩ <;> simp [h]
theorem atI_lastQ {α : Type} (l : List α) (a : α) : atI (l ++ [a]) (-1) = some a := by
  unfold atI ixN
  have e : (l ++ [a]).length = l.length + 1 := by simp
  rw [if_neg (by omega), e, if_pos (by omega), show ((-1 + ((l.length + 1 : Nat) : Int))).toNat = l.length from by omega]
  simp
@[simp] theorem lt_1 {a b : Nat} : ([a] < [b]) ↔ a < b := by
  rw [List.cons_lt_cons_iff]
  constructor
  · rintro (h | ⟨_, h⟩)
    · exact h
    · exact absurd h (List.lt_irrefl _)
  · exact .inl
theorem fil_true {α : Type} (l : List α) : l.filter (fun _ => true) = l := List.filter_eq_self.mpr (fun _ _ => rfl)
theorem intsU_cons {lo : Int} {n : Nat} : intsU lo (n + 1) = .int lo :: intsU (lo + 1) n := by
  unfold intsU
  rw [List.range_succ_eq_map]
  simp only [List.map_cons, List.map_map, List.cons.injEq]
  refine ⟨by simp, ?_⟩
  apply List.map_congr_left
  intro a _
  simp [Function.comp]
  omega
/-- the places of a range as an encoded list -/
theorem intsU_map (n : Nat) : intsU 0 n = (List.range n).map fun (k : Nat) => U.int (k : Int) := by
  unfold intsU
  apply List.map_congr_left
  intro a _
  simp
theorem intsU_map' (lo n : Nat) : intsU (lo : Int) n = (List.range' lo n).map fun (k : Nat) => U.int (k : Int) := by
  unfold intsU
  rw [List.range'_eq_map_range, List.map_map]
  apply List.map_congr_left
  intro a _
  simp
def Body (b : Sm) (B : Bx) (Q : Fl → En → Bx → Prop) (E : En) : Prop := OkP (b E B) Q
theorem body_go {b : Sm} {B : Bx} {Q : Fl → En → Bx → Prop} {E : En} (h : OkP (b E B) Q) : Body b B Q E := h
theorem okP_forM {α : Type} (enc : α → U) {fi : Iv} {bd : Bd} {b : Sm} {xs : List α} {E E1 : En} {B B1 : Bx} {Q : Fl → En → Bx → Prop} (hi : fi E B = .ok (xs.map enc, yes) E1 B1) (I : List α → En → Bx → Prop) (h : I xs E1 B1)
    (step : ∀ x r E B, I (x :: r) E B → BdIs (bd (enc x) E) (Body b B (LoopP Q (I r)))) (last : ∀ E B, I [] E B → Q .nx E B) : OkP (sFor fi bd b E B) Q := by
  refine okP_for hi (fun us E B => ∃ r, us = r.map enc ∧ I r E B) ⟨xs, rfl, h⟩ ?_ ?_
  · rintro u us E B ⟨r, e, hI⟩
    cases r with
    | nil => cases e
    | cons x r =>
      rw [List.map_cons, List.cons.injEq] at e
      obtain ⟨rfl, rfl⟩ := e
      obtain ⟨E2, e2, q⟩ := (step x r E B hI).get
      refine ⟨E2, e2, OkP.mono q fun fl E3 B3 q3 => ?_⟩
      cases fl with
      | nx => exact ⟨r, rfl, q3⟩
      | ct => exact ⟨r, rfl, q3⟩
      | bk => exact q3
      | rt v => exact q3
  · rintro E B ⟨r, e, hI⟩
    cases r with
    | nil => exact last E B hI
    | cons x r => cases e
def WhileP (Q : Fl → En → Bx → Prop) (I : Nat → En → Bx → Prop) (n : Nat) : Fl → En → Bx → Prop := fun fl E B => match fl with | .bk => Q .nx E B | .rt v => Q (.rt v) E B | _ => ∃ m, m < n ∧ I m E B
theorem while_nx {Q : Fl → En → Bx → Prop} {I : Nat → En → Bx → Prop} {n : Nat} {E : En} {B : Bx} (m : Nat) (hm : m < n) (h : I m E B) : WhileP Q I n .nx E B := ⟨m, hm, h⟩
theorem while_ct {Q : Fl → En → Bx → Prop} {I : Nat → En → Bx → Prop} {n : Nat} {E : En} {B : Bx} (m : Nat) (hm : m < n) (h : I m E B) : WhileP Q I n .ct E B := ⟨m, hm, h⟩
theorem while_bk {Q : Fl → En → Bx → Prop} {I : Nat → En → Bx → Prop} {n : Nat} {E : En} {B : Bx} (h : Q .nx E B) : WhileP Q I n .bk E B := h
theorem while_rt {Q : Fl → En → Bx → Prop} {I : Nat → En → Bx → Prop} {n : Nat} {E : En} {B : Bx} {u : U} (h : Q (.rt u) E B) : WhileP Q I n (.rt u) E B := h
theorem okP_whileM {c : Te} {b : Sm} {Q : Fl → En → Bx → Prop} (I : Nat → En → Bx → Prop)
    (step : ∀ n E B, I n E B → ∃ k E1 B1, c E B = .ok k E1 B1 ∧ (k = true → OkP (b E1 B1) (WhileP Q I n)) ∧ (k = false → Q .nx E1 B1)) {E : En} {B : Bx} {n : Nat} (h : I n E B) (hn : n < whileFuel) : OkP (sWhile c b E B) Q := by
  refine okP_while I (fun n E B hI => ?_) h hn
  obtain ⟨k, E1, B1, e, h1, h2⟩ := step n E B hI
  rw [e, OkP_ok]
  cases k with
  | false => rw [if_neg (by decide)]; exact h2 rfl
  | true =>
    rw [if_pos rfl]
    refine (h1 rfl).mono fun fl E2 B2 q => ?_
    cases fl <;> exact q
/-! ### comprehensions over encoded lists -/
def Elt (f : Ex) (B : Bx) (u : U) (E : En) : Prop := match f E B with
  | .ok r E1 B1 => settle r E1 = some (u, E) ∧ B1 = B
  | _ => False
def Tst (t : Te) (B : Bx) (b : Bool) (E : En) : Prop := t E B = .ok b E B
theorem keepE_self : ∀ (ks : List Nat) (E : En), keepE E E ks = E
  | [], E => rfl
  | k :: ks, E => by
    rw [e_keep1, keepE_self ks E]
    cases h : E[k]? with
    | none => rfl
    | some s =>
      obtain ⟨hl, e⟩ := List.getElem?_eq_some_iff.mp h
      simp only
      rw [← e, List.set_getElem_self]
theorem mLc_map {α : Type} (enc : α → U) (p : α → Bool) (y : α → U) {fi : Iv} {bd : Bd} {t : Te} {f : Ex} {ks : List Nat} {chk : Bx → Prop} {xs : List α} {E E1 : En} {B B1 : Bx} (hi : fi E B = .ok (xs.map enc, chk) E1 B1) (hc : chk B1) (hn : noOwn E1 ks = true) (hw : wipeE E1 ks = E1) (hl : xs.length ≤ 16777216)
    (h : ∀ x ∈ xs, BdIs (bd (enc x) E1) fun E2 => wipeE E2 ks = E1 ∧ Tst t B1 (p x) E2 ∧ (p x = true → Elt f B1 (y x) E2)) :
    mLc fi bd t f ks E B = .ok (.fr (.lst ((xs.filter p).map y))) E1 B1 := by
  have key : ∀ (xs : List α) (acc : List U), acc.length + xs.length ≤ 16777216 → (∀ x ∈ xs, BdIs (bd (enc x) E1) fun E2 => wipeE E2 ks = E1 ∧ Tst t B1 (p x) E2 ∧ (p x = true → Elt f B1 (y x) E2)) →
      lcGo bd t f chk ks (xs.map enc) acc E1 B1 = .ok (acc ++ (xs.filter p).map y) E1 B1 := by
    intro xs
    induction xs with
    | nil => intro acc _ _; simp [lcGo]
    | cons x xs ih =>
      intro acc hl h
      obtain ⟨E2, e1, e2, e3, e4⟩ := (h x (List.mem_cons_self ..)).get
      have hl' : acc.length + (xs.length + 1) ≤ 16777216 := hl
      rw [List.map_cons]
      unfold lcGo
      rw [e1]
      unfold Tst at e3
      simp only [e3, O.bind_ok]
      by_cases hp : p x = true
      · have e5 := e4 hp
        unfold Elt at e5
        rw [if_pos hp]
        cases h1 : f E2 B1 with
        | bad => rw [h1] at e5; exact e5.elim
        | ex _ _ _ => rw [h1] at e5; exact e5.elim
        | ok r E3 B3 =>
          rw [h1] at e5
          obtain ⟨e6, rfl⟩ := e5
          simp only [O.bind_ok, e6]
          rw [if_pos (by omega), e2]
          unfold goOnL
          rw [if_pos hc, ih (acc ++ [y x]) (by simp; omega) (fun v hv => h v (List.mem_cons_of_mem _ hv))]
          simp [hp]
      · rw [if_neg hp, e2]
        unfold goOnL
        rw [if_pos hc, ih acc (by omega) (fun v hv => h v (List.mem_cons_of_mem _ hv))]
        simp [hp]
  unfold mLc
  rw [hi]
  simp only [O.bind_ok]
  rw [if_pos hn, hw, key xs [] (by simpa using hl) h, O.bind_ok, keepE_self]
  simp
def LcP (Q : R → En → Bx → Prop) : R → En → Bx → Prop := Q
/-- a comprehension whose elements are drawn: an invariant of what is gathered -/
theorem okP_lcM {α : Type} (enc : α → U) {fi : Iv} {bd : Bd} {f : Ex} {ks : List Nat} {xs : List α} {E E1 : En} {B B1 : Bx} {Q : R → En → Bx → Prop} (hi : fi E B = .ok (xs.map enc, yes) E1 B1) (hn : noOwn E1 ks = true) (hw : wipeE E1 ks = E1) (hl : xs.length ≤ 16777216) (I : List α → List U → Bx → Prop) (h : I xs [] B1)
    (step : ∀ x r acc B, I (x :: r) acc B → BdIs (bd (enc x) E1) fun E2 => wipeE E2 ks = E1 ∧ ∃ w u B3, f E2 B = .ok w E2 B3 ∧ settle w E2 = some (u, E2) ∧ I r (acc ++ [u]) B3)
    (last : ∀ acc B, I [] acc B → Q (.fr (.lst acc)) E1 B) : OkP (mLc fi bd mYes f ks E B) Q := by
  refine okP_lc hi hn (fun us acc E B => ∃ r, us = r.map enc ∧ acc.length + r.length ≤ 16777216 ∧ E = E1 ∧ I r acc B) ⟨xs, rfl, by simpa using hl, hw, h⟩ ?_ ?_
  · rintro u us acc E B ⟨r, e, hl, rfl, hI⟩
    cases r with
    | nil => cases e
    | cons x r =>
      rw [List.map_cons, List.cons.injEq] at e
      obtain ⟨rfl, rfl⟩ := e
      rw [List.length_cons] at hl
      obtain ⟨E2, e2, q1, w, u, B3, q2, q3, q4⟩ := (step x r acc B hI).get
      refine ⟨E2, e2, ?_⟩
      rw [e_mYes, OkP_ok, if_pos rfl, q2, OkP_ok]
      exact ⟨u, E2, q3, by omega, r, rfl, by simp; omega, q1, q4⟩
  · rintro acc E B ⟨r, e, hl, rfl, hI⟩
    cases r with
    | nil => rw [keepE_self]; exact last acc B hI
    | cons x r => cases e
/-! ### == by trees -/
mutual
def eqT : U → U → Bool
  | .non, .non => true
  | .bl a, .bl b => a == b
  | .bl a, .int j => (if a then 1 else 0) == j
  | .int i, .bl b => i == (if b then 1 else 0)
  | .int i, .int j => i == j
  | .str x, .str y => x == y
  | .lst xs, .lst ys => eqTs xs ys
  | .tup xs, .tup ys => eqTs xs ys
  | _, _ => false
def eqTs : List U → List U → Bool
  | [], [] => true
  | x :: xs, y :: ys => eqT x y && eqTs xs ys
  | _, _ => false
end
def okS (x : Str) : Bool := PyData.canLay0 (.str x)
/-- a tree without dicts and boxes at most n deep -/
def Flt : Nat → U → Prop
  | 0, _ => False
  | n + 1, u => match u with
    | .non | .bl _ | .int _ => True
    | .str x => okS x = true
    | .lst us => ∀ v ∈ us, Flt n v
    | .tup us => ∀ v ∈ us, Flt n v
    | _ => False
theorem flt_toD : ∀ (n : Nat) (u : U), Flt n u → ∃ d, toD u = some d ∧ d.canLay0 = true ∧ d.depth ≤ n
  | 0, _, h => h.elim
  | n + 1, u, h => by
    have many : ∀ us : List U, (∀ v ∈ us, Flt n v) → ∃ ds, toDs us = some ds ∧ PyData.canLayAll0 ds = true ∧ PyData.depthAll ds ≤ n := by
      intro us
      induction us with
      | nil => intro _; exact ⟨[], rfl, rfl, by simp [PyData.depthAll]⟩
      | cons v us ih =>
        intro h
        obtain ⟨ds, e1, e2, e3⟩ := ih fun w hw => h w (List.mem_cons_of_mem _ hw)
        obtain ⟨d, f1, f2, f3⟩ := flt_toD n v (h v (List.mem_cons_self ..))
        refine ⟨d :: ds, by simp [toDs, f1, e1], by simp [PyData.canLayAll0, f2, e2], by simp only [PyData.depthAll]; omega⟩
    cases u with
    | non => exact ⟨_, rfl, rfl, by simp [PyData.depth]⟩
    | bl b => exact ⟨_, rfl, rfl, by simp [PyData.depth]⟩
    | int i => exact ⟨_, rfl, rfl, by simp [PyData.depth]⟩
    | str x => exact ⟨_, rfl, h, by simp [PyData.depth]⟩
    | lst us => obtain ⟨ds, e1, e2, e3⟩ := many us h; exact ⟨.list ds, by simp [toD, e1], by simpa [PyData.canLay0] using e2, by simp only [PyData.depth]; omega⟩
    | tup us => obtain ⟨ds, e1, e2, e3⟩ := many us h; exact ⟨.tuple ds, by simp [toD, e1], by simpa [PyData.canLay0] using e2, by simp only [PyData.depth]; omega⟩
    | dct _ _ => exact h.elim
    | box _ => exact h.elim
    | scr _ => exact h.elim
theorem eqv_eqT : ∀ (n : Nat) (u v : U) (d e : PyData), Flt n u → toD u = some d → toD v = some e → (∀ ns, v ≠ .scr ns) → Flt n v → PyData.eqv d e = eqT u v
  | 0, _, _, _, _, h, _, _, _, _ => h.elim
  | n + 1, u, v, d, e, hu, hd, he, hs, hv => by
    have many : ∀ (us vs : List U) (ds es : List PyData), (∀ w ∈ us, Flt n w) → (∀ w ∈ vs, Flt n w) → toDs us = some ds → toDs vs = some es → PyData.eqvAll ds es = eqTs us vs := by
      intro us
      induction us with
      | nil =>
        intro vs ds es _ _ h1 h2
        cases h1
        cases vs with
        | nil => cases h2; rfl
        | cons v vs =>
          simp only [toDs] at h2
          split at h2
          · cases h2; rfl
          · cases h2
      | cons u us ih =>
        intro vs ds es hu hv h1 h2
        simp only [toDs] at h1
        split at h1
        · next d ds' a1 a2 =>
          cases h1
          cases vs with
          | nil => cases h2; rfl
          | cons v vs =>
            simp only [toDs] at h2
            split at h2
            · next e es' b1 b2 =>
              cases h2
              rw [PyData.eqvAll, eqTs, ih vs ds' es' (fun w hw => hu w (List.mem_cons_of_mem _ hw)) (fun w hw => hv w (List.mem_cons_of_mem _ hw)) a2 b2,
                eqv_eqT n u v d e (hu u (List.mem_cons_self ..)) a1 b1 (fun ns z => by
                  have := hv v (List.mem_cons_self ..)
                  rw [z] at this
                  cases n <;> exact this) (hv v (List.mem_cons_self ..))]
            · cases h2
        · cases h1
    cases u with
    | dct _ _ => exact hu.elim
    | box _ => exact hu.elim
    | scr _ => exact hu.elim
    | lst us =>
      simp only [toD, Option.map_eq_some_iff] at hd
      obtain ⟨ds, a1, rfl⟩ := hd
      cases v with
      | lst vs =>
        simp only [toD, Option.map_eq_some_iff] at he
        obtain ⟨es, b1, rfl⟩ := he
        rw [PyData.eqv, eqT]
        exact many us vs ds es hu hv a1 b1
      | tup vs => simp only [toD, Option.map_eq_some_iff] at he; obtain ⟨es, b1, rfl⟩ := he; rfl
      | non => cases he; rfl
      | bl _ => cases he; rfl
      | int _ => cases he; rfl
      | str _ => cases he; rfl
      | dct _ _ => exact hv.elim
      | box _ => exact hv.elim
      | scr ns => exact absurd rfl (hs ns)
    | tup us =>
      simp only [toD, Option.map_eq_some_iff] at hd
      obtain ⟨ds, a1, rfl⟩ := hd
      cases v with
      | tup vs =>
        simp only [toD, Option.map_eq_some_iff] at he
        obtain ⟨es, b1, rfl⟩ := he
        rw [PyData.eqv, eqT]
        exact many us vs ds es hu hv a1 b1
      | lst vs => simp only [toD, Option.map_eq_some_iff] at he; obtain ⟨es, b1, rfl⟩ := he; rfl
      | non => cases he; rfl
      | bl _ => cases he; rfl
      | int _ => cases he; rfl
      | str _ => cases he; rfl
      | dct _ _ => exact hv.elim
      | box _ => exact hv.elim
      | scr ns => exact absurd rfl (hs ns)
    | non => cases hd; cases v <;> first | (exact absurd rfl (hs _)) | exact hv.elim | (cases he; rfl) | (simp only [toD, Option.map_eq_some_iff] at he; obtain ⟨es, b1, rfl⟩ := he; rfl)
    | bl _ => cases hd; cases v <;> first | (exact absurd rfl (hs _)) | exact hv.elim | (cases he; rfl) | (simp only [toD, Option.map_eq_some_iff] at he; obtain ⟨es, b1, rfl⟩ := he; rfl)
    | int _ => cases hd; cases v <;> first | (exact absurd rfl (hs _)) | exact hv.elim | (cases he; rfl) | (simp only [toD, Option.map_eq_some_iff] at he; obtain ⟨es, b1, rfl⟩ := he; rfl)
    | str _ => cases hd; cases v <;> first | (exact absurd rfl (hs _)) | exact hv.elim | (cases he; rfl) | (simp only [toD, Option.map_eq_some_iff] at he; obtain ⟨es, b1, rfl⟩ := he; rfl)
theorem flt_scr {n : Nat} {v : U} (h : Flt n v) : ∀ ns, v ≠ .scr ns := fun ns z => by subst z; cases n <;> exact h
theorem eqU_flt {n : Nat} {u v : U} (hn : n ≤ 64) (hu : Flt n u) (hv : Flt n v) : eqU u v = some (eqT u v) := by
  obtain ⟨d, a1, a2, a3⟩ := flt_toD n u hu
  obtain ⟨e, b1, b2, b3⟩ := flt_toD n v hv
  have k := eqv_eqT n u v d e hu a1 b1 (flt_scr hv) hv
  have main : (match toD u, toD v with
    | some d, some e => if (SeqAt.shaped d && SeqAt.shaped e) = true then some (PyData.eqv d e) else none
    | _, _ => none) = some (eqT u v) := by
    rw [a1, b1]
    have s1 : SeqAt.shaped d = true := by unfold SeqAt.shaped; rw [a2, decide_eq_true (show d.depth ≤ 64 by omega)]; rfl
    have s2 : SeqAt.shaped e = true := by unfold SeqAt.shaped; rw [b2, decide_eq_true (show e.depth ≤ 64 by omega)]; rfl
    simp only [s1, s2, Bool.and_self, if_true, k]
  cases u <;> cases v <;> first | exact main | (simp [eqT, eqU])
end QB
/-! QbV: small facts: cells at the end of the row, last places, texts and lists as encoded lists. -/
namespace QB
open PySem L2
@[simp] theorem app_getQ {B0 : Bx} {c : Cell} {r : Bx} : (B0 ++ c :: r)[B0.length]? = some c := by simp
@[simp] theorem app_setQ {B0 : Bx} {c d : Cell} {r : Bx} : (B0 ++ c :: r).set B0.length d = B0 ++ d :: r := by simp [List.set_append]
theorem atI_neg1 {α : Type} (l : List α) : atI l (-1) = l.getLast? := by
  rcases List.eq_nil_or_concat l with rfl | ⟨m, a, rfl⟩
  · rfl
  · rw [List.concat_eq_append, atI_lastQ]; simp
def chr (c : Nat) : U := .str (ofC [c])
def nat (k : Nat) : U := .int (k : Int)
theorem nat_eq (k : Nat) : nat k = .int (k : Int) := rfl
theorem chr_eq (c : Nat) : chr c = .str (ofC [c]) := rfl
@[simp] theorem vu_chr {c : Nat} {B : Bx} : viewU (chr c) B = some (chr c) := rfl
@[simp] theorem vu_nat {c : Nat} {B : Bx} : viewU (nat c) B = some (nat c) := rfl
theorem enumQ {α : Type} (enc : α → U) (es : List α) (i : Nat) : ((es.map enc).mapIdx fun k u => U.tup [.int ((k + i : Nat) : Int), u]) = (es.zipIdx i).map fun p => U.tup [.int (p.2 : Int), enc p.1] := by
  induction es generalizing i with
  | nil => rfl
  | cons e es ih =>
    rw [List.map_cons, List.mapIdx_cons, List.zipIdx_cons, List.map_cons, ← ih (i + 1)]
    simp [Function.comp_def, Nat.add_assoc, Nat.add_comm 1 i]
theorem enumQ0 {α : Type} (enc : α → U) (es : List α) : ((es.map enc).mapIdx fun k u => U.tup [.int ((k : Nat) : Int), u]) = (es.zipIdx 0).map fun p => U.tup [.int (p.2 : Int), enc p.1] := enumQ enc es 0
theorem textU_map (l : List Nat) (j : Nat) : textU (ofC l) (j : Int) = (l.zipIdx j).map fun p => U.tup [.int (p.2 : Int), chr p.1] := by
  rw [← enumQ chr l j]
  unfold textU
  simp only [ofC_cps, mk1_ofC]
  apply List.ext_getElem?
  intro i
  simp only [List.getElem?_mapIdx, List.getElem?_map]
  cases l[i]? with
  | none => rfl
  | some c => simp [chr]; omega
@[simp] theorem e_mEnumT {fs gs : Ar} {E : En} {B : Bx} : mEnumT fs gs E B = (fs E B).bind fun us E1 B1 => (gs E1 B1).bind fun ws E2 B2 =>
  match us, ws with
  | [.str z], [.int j] => if I62 j = true then .ok (textU z j, yes) E2 B2 else .bad
  | _, _ => .bad := (rfl)
end QB
/-! QbW: the same of two trees, and a tree of one's own, as many laws write them. -/
namespace QB
open PySem L2
noncomputable def sameB (g : Fn) : Sm := sSeq (sIf (mTru (m1 (gIsiT ["list", "tuple"]) (mVar 1))) (sSeq (sIf (mOr (toT (m2 gNe (m1 (gIsi "list") (mVar 1)) (m1 (gIsi "list") (mVar 0)))) (toT (m2 gNe (m1 (gIsi "tuple") (mVar 1)) (m1 (gIsi "tuple") (mVar 0))))) (sRet (mC (.bl false))) (sNext)) (sRet (mAndV (m2 gEq (m1 gLen (mVar 0)) (m1 gLen (mVar 1))) (m1 gAll (mLc (mRange1 (mCons (m1 gLen (mVar 1)) (mNil))) (bdN 2) (mYes) (mCall g (mCons (m2 gIx (mVar 0) (mVar 2)) (mCons (m2 gIx (mVar 1) (mVar 2)) (mNil)))) [2]))))) (sNext)) (sSeq (sIf (toT (m2 (gIs false) (mVar 1) (mC .non))) (sRet (m2 (gIs false) (mVar 0) (mC .non))) (sNext)) (sSeq (sIf (mTru (m1 (gIsi "int") (mVar 1))) (sRet (mAndV (m1 (gIsi "int") (mVar 0)) (mAndV (m2 gEq (m1 (gIsi "bool") (mVar 0)) (m1 (gIsi "bool") (mVar 1))) (m2 gEq (mVar 0) (mVar 1))))) (sNext)) (sRet (mAndV (m1 (gIsi "str") (mVar 0)) (m2 gEq (mVar 0) (mVar 1))))))
noncomputable def sameF : Nat → Fn
  | 0 => fun _ _ => .bad
  | n + 1 => runBody 3 2 (sameB (sameF n))
noncomputable def ownB (g : Fn) : Sm := sSeq (sIf (mTru (m1 (gIsi "list") (mVar 0))) (sRet (mLc (mItV (mVar 0)) (bdN 1) (mYes) (mCall g (mCons (mVar 1) (mNil))) [1])) (sNext)) (sSeq (sIf (mTru (m1 (gIsi "tuple") (mVar 0))) (sRet (m1 gTupleOf (mLc (mItV (mVar 0)) (bdN 1) (mYes) (mCall g (mCons (mVar 1) (mNil))) [1]))) (sNext)) (sRet (mVar 0)))
noncomputable def ownF : Nat → Fn
  | 0 => fun _ _ => .bad
  | n + 1 => runBody 2 1 (ownB (ownF n))
/-- a tree at most n deep, without dicts and shared cells, of texts that may be laid -/
def Wf : Nat → U → Prop
  | 0, _ => False
  | n + 1, u => match u with
    | .non | .bl _ | .int _ => True
    | .str x => okS x = true
    | .lst us => us.length ≤ 20000 ∧ ∀ v ∈ us, Wf n v
    | .tup us => us.length ≤ 20000 ∧ ∀ v ∈ us, Wf n v
    | _ => False
theorem Wf.flt : ∀ {n : Nat} {u : U}, Wf n u → Flt n u
  | 0, _, h => h.elim
  | n + 1, u, h => by
    cases u with
    | non => trivial
    | bl _ => trivial
    | int _ => trivial
    | str _ => exact h
    | lst us => exact fun v hv => (h.2 v hv).flt
    | tup us => exact fun v hv => (h.2 v hv).flt
    | dct _ _ => exact h.elim
    | box _ => exact h.elim
    | scr _ => exact h.elim
theorem Wf.mono : ∀ {n m : Nat} {u : U}, Wf n u → n ≤ m → Wf m u
  | 0, _, _, h, _ => h.elim
  | n + 1, 0, _, _, hm => by omega
  | n + 1, m + 1, u, h, hm => by
    cases u with
    | non => trivial
    | bl _ => trivial
    | int _ => trivial
    | str _ => exact h
    | lst us => exact ⟨h.1, fun v hv => (h.2 v hv).mono (by omega)⟩
    | tup us => exact ⟨h.1, fun v hv => (h.2 v hv).mono (by omega)⟩
    | dct _ _ => exact h.elim
    | box _ => exact h.elim
    | scr _ => exact h.elim
def SmT (B : Bx) : Nat → U → U → Prop
  | 0, _, _ => False
  | n + 1, u, d => (∃ x, u = .str x ∧ d = .str x) ∨ (∃ b, u = .bl b ∧ d = .bl b) ∨ (∃ i, u = .int i ∧ d = .int i) ∨ (u = .non ∧ d = .non) ∨
    (∃ us ds, viewU u B = some (.lst us) ∧ d = .lst ds ∧ us.length = ds.length ∧ us.length ≤ 20000 ∧ ∀ (i : Nat) (a b : U), us[i]? = some a → ds[i]? = some b → SmT B n a b) ∨
    (∃ us ds, u = .tup us ∧ d = .tup ds ∧ us.length = ds.length ∧ us.length ≤ 20000 ∧ ∀ (i : Nat) (a b : U), us[i]? = some a → ds[i]? = some b → SmT B n a b)
theorem Wf.sm {B : Bx} : ∀ {n : Nat} {u : U}, Wf n u → SmT B n u u
  | 0, _, h => h.elim
  | n + 1, u, h => by
    cases u with
    | non => exact .inr (.inr (.inr (.inl ⟨rfl, rfl⟩)))
    | bl b => exact .inr (.inl ⟨b, rfl, rfl⟩)
    | int i => exact .inr (.inr (.inl ⟨i, rfl, rfl⟩))
    | str x => exact .inl ⟨x, rfl, rfl⟩
    | lst us => exact .inr (.inr (.inr (.inr (.inl ⟨us, us, rfl, rfl, rfl, h.1, fun i a b ha hb => by
        rw [ha] at hb; cases hb; exact (h.2 a (List.mem_of_getElem? ha)).sm⟩))))
    | tup us => exact .inr (.inr (.inr (.inr (.inr ⟨us, us, rfl, rfl, rfl, h.1, fun i a b ha hb => by
        rw [ha] at hb; cases hb; exact (h.2 a (List.mem_of_getElem? ha)).sm⟩))))
    | dct _ _ => exact h.elim
    | box _ => exact h.elim
    | scr _ => exact h.elim
theorem Wf.smB {B : Bx} {n j : Nat} {us : List U} (h : Wf n (.lst us)) (hj : B[j]? = some (.lst us)) : SmT B n (.box j) (.lst us) := by
  cases n with
  | zero => exact h.elim
  | succ n =>
    exact .inr (.inr (.inr (.inr (.inl ⟨us, us, by simp [hj], rfl, rfl, h.1, fun i a b ha hb => by
        rw [ha] at hb; cases hb; exact (h.2 a (List.mem_of_getElem? ha)).sm⟩))))
theorem same_lc {g : Fn} {B : Bx} {u d : U} {us ds : List U} (hu : viewU u B = some (.lst us) ∨ u = .tup us) (hd : d = .lst ds ∨ d = .tup ds) (hl : us.length = ds.length) (hl2 : us.length ≤ 20000)
    (h : ∀ (i : Nat) (a b : U), us[i]? = some a → ds[i]? = some b → g [a, b] B = .ok (.bl true) B) :
    (mLc (mRange1 (mCons (m1 gLen (mVar 1)) (mNil))) (bdN 2) (mYes) (mCall g (mCons (m2 gIx (mVar 0) (mVar 2)) (mCons (m2 gIx (mVar 1) (mVar 2)) (mNil)))) [2]) [.val u, .val d, .un] B = .ok (.fr (.lst ((List.range ds.length).map fun _ => .bl true))) [.val u, .val d, .un] B := by
  have i1 : I62 (ds.length : Int) = true := i62 (by omega) (by omega)
  have lc := mLc_map nat (fun _ => true) (fun _ => .bl true) (fi := mRange1 (mCons (m1 gLen (mVar 1)) (mNil))) (bd := bdN 2) (t := mYes) (f := mCall g (mCons (m2 gIx (mVar 0) (mVar 2)) (mCons (m2 gIx (mVar 1) (mVar 2)) (mNil)))) (ks := [2]) (xs := List.range ds.length) (E := [.val u, .val d, .un]) (B := B) (E1 := [.val u, .val d, .un]) (B1 := B) (chk := yes)
    (by rcases hd with rfl | rfl <;> simp [i1, intsU_map, nat]) trivial (by simp) (by simp) (by simp; omega) (fun k hk => by
      have hk := List.mem_range.mp hk
      have hk' : k < us.length := by omega
      have g1 := h k us[k] ds[k] (List.getElem?_eq_getElem _) (List.getElem?_eq_getElem _)
      rcases hu with hu | rfl <;> rcases hd with rfl | rfl <;> simp [Tst, Elt, nat, *])
  rw [fil_true] at lc
  exact lc
theorem same_an (n : Nat) : gAll (.lst ((List.range n).map fun _ => .bl true)) = some (.w (.bl true)) := by
  have an := e_all' (l := List.range n) (p := fun _ => true)
  rw [an]; simp
theorem same_ok {B : Bx} : ∀ (n : Nat) (u d : U), SmT B n u d → sameF n [u, d] B = .ok (.bl true) B
  | 0, _, _, h => h.elim
  | n + 1, u, d, h => by
    rcases h with ⟨x, rfl, rfl⟩ | ⟨b, rfl, rfl⟩ | ⟨i, rfl, rfl⟩ | ⟨rfl, rfl⟩ | ⟨us, ds, h1, rfl, h3, h4, h5⟩ | ⟨us, ds, rfl, rfl, h3, h4, h5⟩
    · simp [sameF, runBody, sameB]
    · simp [sameF, runBody, sameB]
    · simp [sameF, runBody, sameB]
    · simp [sameF, runBody, sameB]
    · have lc := same_lc (g := sameF n) (.inl h1) (.inl rfl) h3 h4 fun i a b ha hb => same_ok n a b (h5 i a b ha hb)
      have e3 : ((us.length : Int) == (ds.length : Int)) = true := by rw [beq_iff_eq]; omega
      simp only [sameF]
      refine run_is rfl ?_
      simp only [sameB, List.map_cons, List.map_nil, List.length_cons, List.length_nil, Nat.reduceAdd, Nat.reduceSub, List.replicate_succ, List.replicate_zero, List.cons_append, List.nil_append, Nat.zero_add, Nat.sub_self, List.append_nil]
      refine okP_seqT ?_
      refine okP_ift0 (by simp; done) ?_
      refine okP_seqT ?_
      refine okP_lock fun LQ hLQ => ?_
      simp [h1]
      refine hLQ _ _ _ (then_nx ?_)
      refine okP_lock fun LQ hLQ => ?_
      simp [h1, e3, lc, same_an]
      exact hLQ _ _ _ (then_rt ret_is)
    · have lc := same_lc (g := sameF n) (B := B) (.inr rfl) (.inr rfl) h3 h4 fun i a b ha hb => same_ok n a b (h5 i a b ha hb)
      have e3 : ((us.length : Int) == (ds.length : Int)) = true := by rw [beq_iff_eq]; omega
      simp only [sameF]
      refine run_is rfl ?_
      simp only [sameB, List.map_cons, List.map_nil, List.length_cons, List.length_nil, Nat.reduceAdd, Nat.reduceSub, List.replicate_succ, List.replicate_zero, List.cons_append, List.nil_append, Nat.zero_add, Nat.sub_self, List.append_nil]
      refine okP_seqT ?_
      refine okP_ift0 (by simp; done) ?_
      refine okP_seqT ?_
      refine okP_lock fun LQ hLQ => ?_
      simp
      refine hLQ _ _ _ (then_nx ?_)
      refine okP_lock fun LQ hLQ => ?_
      simp [e3, lc, same_an]
      exact hLQ _ _ _ (then_rt ret_is)
theorem own_ok {B : Bx} : ∀ (n : Nat) (u : U), Wf n u → ownF n [u] B = .ok u B
  | 0, _, h => h.elim
  | n + 1, u, h => by
    have lc : ∀ (u : U) (us : List U), us.length ≤ 20000 → (∀ v ∈ us, Wf n v) → itemsOf u B = some (us, yes) → (mLc (mItV (mVar 0)) (bdN 1) (mYes) (mCall (ownF n) (mCons (mVar 1) (mNil))) [1]) [.val u, .un] B = .ok (.fr (.lst us)) [.val u, .un] B := by
      intro u us hl hw hi
      have lc := mLc_map id (fun _ => true) id (fi := mItV (mVar 0)) (bd := bdN 1) (t := mYes) (f := mCall (ownF n) (mCons (mVar 1) (mNil))) (ks := [1]) (xs := us) (E := [.val u, .un]) (B := B) (E1 := [.val u, .un]) (B1 := B) (chk := yes)
        (by simp [hi]) trivial (by simp) (by simp) (by omega) (fun v hv => by simp [Tst, Elt, own_ok n v (hw v hv)])
      rw [fil_true, List.map_id] at lc
      exact lc
    cases u with
    | non => simp [ownF, runBody, ownB]
    | bl b => simp [ownF, runBody, ownB]
    | int i => simp [ownF, runBody, ownB]
    | str x => simp [ownF, runBody, ownB]
    | lst us =>
      have lc := lc (.lst us) us h.1 h.2 rfl
      simp only [ownF]
      refine run_is rfl ?_
      simp only [ownB, List.map_cons, List.map_nil, List.length_cons, List.length_nil, Nat.reduceAdd, Nat.reduceSub, List.replicate_succ, List.replicate_zero, List.cons_append, List.nil_append, Nat.zero_add, Nat.sub_self, List.append_nil]
      refine okP_seqT ?_
      refine okP_ift0 (by simp; done) ?_
      refine okP_lock fun LQ hLQ => ?_
      simp [lc]
      exact hLQ _ _ _ (then_rt ret_is)
    | tup us =>
      have lc := lc (.tup us) us h.1 h.2 rfl
      simp only [ownF]
      refine run_is rfl ?_
      simp only [ownB, List.map_cons, List.map_nil, List.length_cons, List.length_nil, Nat.reduceAdd, Nat.reduceSub, List.replicate_succ, List.replicate_zero, List.cons_append, List.nil_append, Nat.zero_add, Nat.sub_self, List.append_nil]
      refine okP_seqL fun LQ hLQ => ?_
      simp
      refine hLQ _ _ _ (then_nx ?_)
      clear hLQ LQ
      refine okP_seqT ?_
      refine okP_ift0 (by simp; done) ?_
      refine okP_lock fun LQ hLQ => ?_
      rw [e_sRet, e_m1, lc]
      simp
      exact hLQ _ _ _ (then_rt ret_is)
    | dct _ _ => exact h.elim
    | box _ => exact h.elim
    | scr _ => exact h.elim
theorem eqU_nil {n : Nat} {us : List U} (hn : n + 1 ≤ 64) (h : Flt (n + 1) (.lst us)) : eqU (.lst us) (.lst []) = some us.isEmpty := by
  have f0 : Flt (n + 1) (.lst []) := fun v hv => by cases hv
  rw [eqU_flt hn h f0]
  cases us <;> rfl
theorem flt_nats {n : Nat} {ks : List Nat} : Flt (n + 2) (.lst (ks.map nat)) := by
  intro v hv
  obtain ⟨_, _, rfl⟩ := List.mem_map.mp hv
  trivial
theorem wf_nats {n : Nat} {ks : List Nat} (h : ks.length ≤ 20000) : Wf (n + 2) (.lst (ks.map nat)) := by
  refine ⟨by simpa using h, fun v hv => ?_⟩
  obtain ⟨_, _, rfl⟩ := List.mem_map.mp hv
  trivial
end QB
/-! QbX: sorted of lists, of a list's set. -/
namespace QB
open PySem L2 PyProof.Rows
section
variable {P : Program} {w : World} {A : Around} {E : Value → Shared → Prop} {s : Shared}
/-- an empty set as the class makes it -/
abbrev eSet (w : World) : Obj := { cls := .type "set", dict := none, data := .set #[] 0 (.fresh 0 0 (!w.params.followText "set-order")) }
abbrev inits (w : World) (s : Shared) (ns : List Int) : Value → Shared → Prop := fun r z => r = .none ∧ ∃ g tk c, z = { s with heap := g, toks := tk } ∧ SetR w g s.heap.objs.size (fun j => decide (j ∈ ns)) c ∧ c ≤ ns.length ∧ ∀ b o, s.heap.get? b = some o → g.get? b = some o
set_option maxHeartbeats 3200000 in
theorem setOfList {l : Addr} {its : Array Value} (ns : List Int) {Q : Value → Shared → Prop} (hh : A.handled = none) (hl : s.heap.IsList l its) (hit : IntsAre its.toList ns) (hb : ns.length + 1 < scanBound)
    (q : ∀ (g : Heap) (tk c : Nat), SetR w g s.heap.objs.size (fun j => decide (j ∈ ns)) c → c ≤ ns.length → (∀ b o, s.heap.get? b = some o → g.get? b = some o) → Q (.ref s.heap.objs.size) { s with heap := g, toks := tk }) :
    wpAny (model P w) A (call (.type "set") [.ref l]) Q E s := by
  have len : its.size = ns.length := by have z := IntsAre.length hit; rwa [Array.length_toList] at z
  obtain ⟨c, tl, o1⟩ := F.called_set.mro
  have o2 := F.called_set.made
  have o3 := F.called_set.sub
  refine wpAny_call (codeAny_of_tree (show wpAny _ _ (callAny (.type "set") _) _ _ _ from ?_))
  refine wpAny_pure ⟨Code.quiet_builtin _ (by decide +kernel), codeAny_builtin F.entry_type_call ?_⟩
  rw [Around.under_plain (weight_type_call_type "set" [.ref l] []) rfl]
  have o4 := F.called_set.notType
  have o5 := F.called_set.canCreate
  have o6 := F.typeCall_set_1 (.ref l)
  repeat (any_goals (first | assumption | wp_step))
  refine codeAny_mono (code_set_led1 (.ref l) (E := E) (Q₁ := fun v z => v = .ref s.heap.objs.size ∧ z = { s with heap := s.heap.push (eSet w) }) ⟨rfl, rfl⟩) fun r z hr => ?_
  cases r with
  | error e => exact hr
  | ok fl =>
    cases fl with
    | ret v =>
      obtain ⟨rfl, rfl⟩ := hr
      have at0 : (s.heap.push (eSet w)).get? s.heap.objs.size = some (eSet w) := Heap.get?_push_size _ rfl
      have ty : Shared.TypeIs { s with heap := s.heap.push (eSet w) } (.ref s.heap.objs.size) "set" := ⟨_, at0, rfl⟩
      have o7 := F.called_set.init.lookup
      have o8 := F.called_set.init.bind (.ref s.heap.objs.size)
      repeat (any_goals (first | assumption | wp_step))
      refine codeAny_mono (codeAny_call_builtin (R := wants (inits w s ns) E) F.called_set.init.plain F.entry_set_init (check_set_init_1 ty ?_)) fun r2 z2 hr2 => ?_
      · obtain ⟨⟨oc, od, ot, os⟩, hol, hcl, nl, hdl⟩ := hl
        simp only at hcl hdl
        subst hcl; subst hdl
        have hol2 : (s.heap.push (eSet w)).get? l = some { cls := .type "list", dict := od, data := .seq its nl, slots := os } := Heap.get?_push_of_some _ hol
        have p1 := F.sub_list_set
        have p2 := F.sub_list_frozenset
        have p3 : (Value.type "list" == Value.type "dict") = false := by decide
        have isl : (s.heap.push (eSet w)).IsList l its := ⟨_, hol2, rfl, nl, rfl⟩
        unfold Builtin.«set.__init__» noKeywords Builtin.Frozenset.updateFrom
        generalize hPI : pyIter = PI
        wp_walk
        subst hPI
        refine wpAny_pyIter_list isl (wpAny_bind (wpAny_runValue ?_))
        have lS : l < s.heap.objs.size := Heap.lt_size hol
        have hd3 : A.in1.in1.in1.handled = none := by simp [hh]
        have ne1 : l ≠ (s.heap.push (eSet w)).objs.size := by rw [Heap.size_push]; exact Nat.ne_of_lt (Nat.lt_succ_of_lt lS)
        have ne2 : s.heap.objs.size ∉ [(s.heap.push (eSet w)).objs.size, l] := by
          rw [Heap.size_push]
          intro z
          rcases List.mem_cons.mp z with z | z
          · exact Nat.ne_of_lt (Nat.lt_succ_self _) z
          · exact Nat.ne_of_gt lS (List.mem_singleton.mp z)
        have vals : ∀ (i : Nat) (v : Value), its[i]? = some v → ∃ k t, ns[i]? = some k ∧ v = .int k t := fun i v hv => by
          have hi : i < ns.length := by rw [← len]; exact (Array.getElem?_eq_some_iff.mp hv).1
          obtain ⟨t, e⟩ := IntsAre.int_at hit i v (by rwa [Array.getElem?_toList])
          exact ⟨ns[i], t, List.getElem?_eq_getElem hi, by rw [e, List.getD_eq_getElem?_getD, List.getElem?_eq_getElem hi]; rfl⟩
        refine set_update_ints ((Walks.list hd3 _ l ne1 its).toS) s.heap.objs.size ne2 ns len hb vals (its.size - 0) 0 _ (by omega) (Nat.zero_le _) ⟨⟨_, Heap.get?_push_size _ rfl, rfl, rfl⟩, isl.push _⟩ ?a0 ?a1
        case a0 => exact ⟨0, Nat.le_refl 0, setR_new_at (Heap.get?_push_of_some _ at0)⟩
        case a1 =>
          rintro ⟨g, g2, d2, tk, os2⟩ c2 mv le R
          have e1 : g2 = s.gens := mv.gens
          have e2 : d2 = s.drawn := mv.drawn
          have e3 : os2 = s.os := mv.os
          subst e1; subst e2; subst e3
          show wpAny _ _ _ _ _ _
          refine wpAny_pure (show wpAny _ _ (ret Value.none) _ _ _ from ?_)
          rw [len] at le
          refine wpAny_pure ⟨rfl, g, tk, c2, rfl, R, le, fun b o e => mv.heap b o ?_ (Heap.get?_push_of_some _ (Heap.get?_push_of_some _ e))⟩
          have b0 : b < s.heap.objs.size := Heap.lt_size e
          intro z
          rcases List.mem_cons.mp z with z | z
          · exact Nat.ne_of_lt b0 z
          · have y := List.mem_singleton.mp z
            rw [Heap.size_push] at y
            exact Nat.ne_of_lt (Nat.lt_succ_of_lt b0) y
      · cases r2 with
        | error e => exact hr2
        | ok fl2 =>
          cases fl2 with
          | ret r =>
            obtain ⟨rfl, g, tk, c2, rfl, R, le, kp⟩ := hr2
            repeat (any_goals (first | assumption | wp_step))
            exact q _ _ _ R le kp
          | _ => exact hr2.elim
    | _ => exact hr.elim
end
theorem nodup_le {α : Type} [DecidableEq α] : ∀ {l r : List α}, l.Nodup → (∀ x ∈ l, x ∈ r) → l.length ≤ r.length
  | [], r, _, _ => by simp
  | a :: l, r, hn, h => by
    obtain ⟨h1, h2⟩ := List.nodup_cons.mp hn
    have ha := h a (List.mem_cons_self ..)
    have := nodup_le (l := l) (r := r.erase a) h2 fun x hx => by
      have : x ≠ a := fun z => h1 (z ▸ hx)
      exact (List.mem_erase_of_ne this).mpr (h x (List.mem_cons_of_mem _ hx))
    have e := List.length_erase_of_mem ha
    have hp : 0 < r.length := List.length_pos_of_mem ha
    rw [List.length_cons]
    omega
section
variable {X : Cx}
def rSetOfL (K : PySem.W.Frag) (w : World) : List V → Hp → VK → Prop := fun vs H Q => ∃ (l : Addr) (ns r : List Int), vs = [.ref l] ∧ SqL K H l (ns.map V.int) ∧ ns.length ≤ 4000 ∧ (∀ k ∈ ns, k ∈ r) ∧ ∀ p c, H p = none → c ≤ r.length → Q (.ref p) (upd H p (SetO w p (fun j => decide (j ∈ ns)) c))
theorem cr_setOfL (hc : X.calm = true) : CallR X (.type "set") (rSetOfL X.K X.w) := by
  intro pins s σ H vs us Q I r h
  obtain ⟨l, ns, rr, rfl, hs, hl, hsub, q⟩ := h
  obtain ⟨its, rv, hlist, _⟩ := I.list hs
  rw [Vals.ref1 r]
  have hi := rv.ints
  refine setOfList ns (I.ok.hd hc) hlist.isList hi (by unfold scanBound; omega) fun g tk c R hcl kp => ?_
  have hn : H s.heap.objs.size = none := I.hok.fresh (Nat.le_refl _)
  have le : c ≤ rr.length := by
    obtain ⟨o, es, ep, t, h1, h2, h3, h4, h5, h6, h7, h8, h9, h10⟩ := R
    have : (es.toList.map keyOf).length ≤ rr.length := nodup_le h5 fun x hx => hsub x (by simpa using (h6 x).mpr hx)
    rw [List.length_map, Array.length_toList, h9] at this
    exact this
  have J := I.laid (t' := tk) (fun b o e => kp b o e) (Nat.le_refl _) (setO_new R)
  exact ⟨.ref s.heap.objs.size, _, J, rfl, q _ c hn le⟩
end
end QB
/-! QbY: sorted(..) of ints, sorted(set(..)) of ints. -/
namespace QB
open PySem L2 PyProof.Rows
def sortI (ns : List Int) : List Int := ns.mergeSort fun a b => decide (a ≤ b)
theorem perm_sorted_eq : ∀ {l r : List Int}, l.Perm r → l.Pairwise (· ≤ ·) → r.Pairwise (· ≤ ·) → l = r
  | [], r, p, _, _ => by rw [List.nil_perm.mp p]
  | a :: l, [], p, _, _ => by have := p.length_eq; simp at this
  | a :: l, b :: r, p, h1, h2 => by
    have a1 : b ≤ a := by
      rcases List.mem_cons.mp (p.mem_iff.mp (List.mem_cons_self ..)) with h | h
      · omega
      · exact (List.pairwise_cons.mp h2).1 a h
    have a2 : a ≤ b := by
      rcases List.mem_cons.mp (p.mem_iff.mpr (List.mem_cons_self ..)) with h | h
      · omega
      · exact (List.pairwise_cons.mp h1).1 b h
    have e : a = b := by omega
    subst e
    rw [perm_sorted_eq ((List.perm_cons a).mp p) (List.pairwise_cons.mp h1).2 (List.pairwise_cons.mp h2).2]
theorem sortI_perm (ns : List Int) : (sortI ns).Perm ns := List.mergeSort_perm ..
theorem sortI_sorted (ns : List Int) : (sortI ns).Pairwise (· ≤ ·) := by
  have := List.pairwise_mergeSort (le := fun a b : Int => decide (a ≤ b)) (fun a b c h1 h2 => by simp at *; omega) (fun a b => by simp; omega) ns
  exact this.imp fun h => by simpa using h
theorem sortI_eq {ns r : List Int} (p : r.Perm ns) (h : r.Pairwise (· ≤ ·)) : sortI ns = r := perm_sorted_eq ((sortI_perm ns).trans p.symm) (sortI_sorted ns) h
/-- the members, each once, ascending -/
def sortSI (ns : List Int) : List Int := sortI ns.eraseDups
theorem mem_sortSI {ns : List Int} {k : Int} : k ∈ sortSI ns ↔ k ∈ ns := by
  rw [sortSI, (sortI_perm _).mem_iff, List.mem_eraseDups]
theorem lt_nodup {l : List Int} (h : l.Pairwise (· < ·)) : l.Nodup := h.imp fun h => by omega
theorem nodup_dups : ∀ (n : Nat) (l : List Int), l.length ≤ n → l.eraseDups.Nodup
  | 0, l, h => by
    have : l = [] := List.eq_nil_of_length_eq_zero (by omega)
    subst this; simp
  | n + 1, [], _ => by simp
  | n + 1, a :: l, h => by
    rw [List.eraseDups_cons, List.nodup_cons]
    refine ⟨fun z => ?_, nodup_dups n _ ?_⟩
    · rw [List.mem_eraseDups, List.mem_filter] at z
      simp at z
    · have := List.length_filter_le (fun b => !b == a) l
      rw [List.length_cons] at h
      omega
theorem sortSI_eq {ns r : List Int} (h : r.Pairwise (· < ·)) (m : ∀ k, k ∈ r ↔ k ∈ ns) : sortSI ns = r := by
  refine sortI_eq ?_ (h.imp fun h => by omega)
  refine (List.perm_ext_iff_of_nodup (lt_nodup h) (nodup_dups _ _ (Nat.le_refl _))).mpr fun k => ?_
  rw [m, List.mem_eraseDups]
def intsOf : List U → Option (List Int)
  | [] => some []
  | .int i :: us => (intsOf us).map (i :: ·)
  | _ => none
theorem intsOf_reps {K : PySem.W.Frag} {H : Hp} {Lv : AS} {ρ : List Addr} : ∀ {us : List U} {vs : List V} {ns : List Int}, Reps K H Lv ρ us vs → intsOf us = some ns → vs = ns.map V.int
  | [], vs, ns, h, e => by simp only [Reps] at h; subst h; simp only [intsOf, Option.some.injEq] at e; subst e; rfl
  | u :: us, vs, ns, h, e => by
    simp only [Reps] at h
    obtain ⟨v, r, rfl, h1, h2⟩ := h
    cases u <;> simp only [intsOf] at e <;> try (cases e; done)
    next i =>
      obtain ⟨ms, e1, rfl⟩ := Option.map_eq_some_iff.mp e
      simp only [Rep] at h1
      subst h1
      rw [intsOf_reps h2 e1]
      rfl
theorem intsOf_map : ∀ ns : List Int, intsOf (ns.map .int) = some ns
  | [] => rfl
  | n :: ns => by rw [List.map_cons, intsOf, intsOf_map ns]; rfl
theorem reps_ints {K : PySem.W.Frag} {H : Hp} {Lv : AS} {ρ : List Addr} : ∀ ns : List Int, Reps K H Lv ρ (ns.map .int) (ns.map V.int)
  | [] => Reps.nil
  | n :: ns => Reps.cons (by simp [Rep]) (reps_ints ns)
def gSortedI : U → Option R
  | .lst us => (intsOf us).map fun ns => .fr (.lst ((sortI ns).map .int))
  | .scr ns => some (.fr (.lst ((sortI ns).map .int)))
  | _ => none
def gSortSet : U → Option R
  | .lst us => (intsOf us).bind fun ns => if ns.length ≤ 4000 ∧ (sortSI ns).length < 64 then some (.fr (.lst ((sortSI ns).map .int))) else none
  | _ => none
section
variable {X : Cx} {a : Expr} {fa : Ex} {p p2 q pos : Pos}
theorem call1_sortedI : Call1S X (.builtin "sorted") gSortedI := by
  refine ⟨_, cr_sortedI, fun F ρ E B σ H u1 v1 r3 Q rl t e q => ?_⟩
  have fin : ∀ (ns ns' : List Int) (p : Addr), ns'.Perm ns → ns'.Pairwise (· ≤ ·) → H p = none → r3 = .fr (.lst ((sortI ns).map .int)) → Q (.ref p) (upd H p (.lst (ns'.map V.int))) := by
    intro ns ns' p h1 h2 h3 e3
    rw [← sortI_eq h1 h2]
    subst e3
    exact q _ _ (Aft.fresh rl h3 (reps_ints _))
  unfold gSortedI at e
  split at e
  · next us =>
    obtain ⟨ns, e1, rfl⟩ := Option.map_eq_some_iff.mp e
    obtain ⟨p, vs, rfl, h1, h2⟩ := t
    have := intsOf_reps h2 e1
    subst this
    exact ⟨p, ns, rfl, .inl (.inl h1), fun ns' p' h3 h4 h5 => fin ns ns' p' h3 h4 h5 rfl⟩
  · next ns =>
    cases e
    simp only [Top, Rep] at t
    obtain ⟨p, rfl, h1⟩ := t
    exact ⟨p, ns, rfl, sqL_of h1, fun ns' p' h3 h4 h5 => fin ns ns' p' h3 h4 h5 rfl⟩
  · cases e
theorem sndE_sortSet (hc : X.calm = true) (hm : X.mg "sorted" = none) (hm2 : X.mg "set" = none) (ha : SndE X a fa) (hg : Gl X "sorted" := by rfl) (hg2 : Gl X "set" := by rfl)
    (hs : starEach [a] X.env = (false, eval a X.env) :: starEach [] X.env := by rfl) (hs2 : starEach [.Call (.Name "set" p2) [a] [] q] X.env = (false, eval (.Call (.Name "set" p2) [a] [] q) X.env) :: starEach [] X.env := by rfl) :
    SndE X (.Call (.Name "sorted" p) [.Call (.Name "set" p2) [a] [] q] [] pos) (m1 gSortSet fa) := by
  obtain ⟨ta, pa, ha⟩ := ha
  have p1 := pe_callTy (pos := q) (p := p2) (cr_setOfL hc) hg2 hm2 (by decide +kernel) (pa_cons pa pa_nil hs) (by decide) (by decide) hs
  refine ⟨_, pe_callB (cr_sortedSet hc) hg hm (by decide +kernel) (pa_cons p1 pa_nil hs2) (by decide) (by decide) hs2, m1_ok (r := fun v H Q => rSetOfL X.K X.w [v] H fun u H1 => rSortedSet X.w [u] H1 Q) (fun F ρ E B σ H u1 v1 r3 Q rl t e q => ?_) ha⟩
  unfold gSortSet at e
  split at e
  · next us =>
    obtain ⟨ns, e1, e2⟩ := Option.bind_eq_some_iff.mp e
    split at e2
    · next hl =>
      cases e2
      obtain ⟨p, vs, rfl, h1, h2⟩ := t
      have := intsOf_reps h2 e1
      subst this
      refine ⟨p, ns, sortSI ns, rfl, .inl (.inl h1), hl.1, fun k hk => mem_sortSI.mpr hk, fun p' c hp hcl => ?_⟩
      refine ⟨p', _, c, rfl, upd_same, by omega, fun ns' p2 h3 h4 h5 h6 => ?_⟩
      have e : sortSI ns = ns' := sortSI_eq h3 fun k => by rw [h4]; simp
      rw [← e]
      have g : ∀ q o, H q = some o → (upd H p' (SetO X.w p' (fun j => decide (j ∈ ns)) c)) q = some o := fun q o h => by rw [upd_ne (ne_of_none h hp)]; exact h
      have rl2 := rl.growH g
      have A := Aft.fresh rl2 h6 (reps_ints (sortSI ns))
      refine q _ _ ⟨A.px, A.rel, (grow_stp rl g).trans A.stp, A.le, A.rep⟩
    · cases e2
  · cases e
end
end QB
/-! QbZ: comprehensions without a test; small words. -/
namespace QB
open PySem L2
theorem mLc_all {α : Type} (enc : α → U) (y : α → U) {fi : Iv} {bd : Bd} {f : Ex} {ks : List Nat} {xs : List α} {E : En} {B : Bx} (hi : fi E B = .ok (xs.map enc, yes) E B) (hn : noOwn E ks = true) (hw : wipeE E ks = E) (hl : xs.length ≤ 16777216)
    (h : ∀ x ∈ xs, BdIs (bd (enc x) E) fun E2 => wipeE E2 ks = E ∧ Elt f B (y x) E2) :
    mLc fi bd mYes f ks E B = .ok (.fr (.lst (xs.map y))) E B := by
  have e := mLc_map (t := mYes) enc (fun _ => true) y hi (chk := yes) trivial hn hw hl fun x hx => by
    obtain ⟨E2, e1, e2, e3⟩ := (h x hx).get
    exact BdIs_of e1 ⟨e2, by simp [Tst], fun _ => e3⟩
  rwa [fil_true] at e
theorem mLc_if {α : Type} (enc : α → U) (p : α → Bool) (y : α → U) {fi : Iv} {bd : Bd} {t : Te} {f : Ex} {ks : List Nat} {xs : List α} {E : En} {B : Bx} (hi : fi E B = .ok (xs.map enc, yes) E B) (hn : noOwn E ks = true) (hw : wipeE E ks = E) (hl : xs.length ≤ 16777216)
    (h : ∀ x ∈ xs, BdIs (bd (enc x) E) fun E2 => wipeE E2 ks = E ∧ Tst t B (p x) E2 ∧ (p x = true → Elt f B (y x) E2)) :
    mLc fi bd t f ks E B = .ok (.fr (.lst ((xs.filter p).map y))) E B := mLc_map enc p y hi (chk := yes) trivial hn hw hl h
/-- .. that walks a shared list -/
theorem mLc_ifB {α : Type} (enc : α → U) (p : α → Bool) (y : α → U) {chk : Bx → Prop} {fi : Iv} {bd : Bd} {t : Te} {f : Ex} {ks : List Nat} {xs : List α} {E : En} {B : Bx} (hi : fi E B = .ok (xs.map enc, chk) E B) (hc : chk B) (hn : noOwn E ks = true) (hw : wipeE E ks = E) (hl : xs.length ≤ 16777216)
    (h : ∀ x ∈ xs, BdIs (bd (enc x) E) fun E2 => wipeE E2 ks = E ∧ Tst t B (p x) E2 ∧ (p x = true → Elt f B (y x) E2)) :
    mLc fi bd t f ks E B = .ok (.fr (.lst ((xs.filter p).map y))) E B := mLc_map enc p y hi hc hn hw hl h
/-- a comprehension whose elements are drawn, as an answer -/
theorem lcDraw {α β : Type} (enc : α → U) (out : β → U) {fi : Iv} {bd : Bd} {f : Ex} {ks : List Nat} {xs : List α} {E : En} {B B1 : Bx} (hi : fi E B1 = .ok (xs.map enc, yes) E B) (hn : noOwn E ks = true) (hw : wipeE E ks = E) (hl : xs.length ≤ 16777216) (I : Nat → List β → Bx → Prop) (h : I xs.length [] B)
    (step : ∀ x (n : Nat) (acc : List β) (B : Bx), x ∈ xs → acc.length + (n + 1) = xs.length → I (n + 1) acc B → BdIs (bd (enc x) E) fun E2 => wipeE E2 ks = E ∧ ∃ (w : R) (v : β) (B3 : Bx), f E2 B = .ok w E2 B3 ∧ settle w E2 = some (out v, E2) ∧ I n (acc ++ [v]) B3) :
    ∃ (vs : List β) (B' : Bx), mLc fi bd mYes f ks E B1 = .ok (.fr (.lst (vs.map out))) E B' ∧ vs.length = xs.length ∧ I 0 vs B' := by
  have k := okP_lcM enc (bd := bd) (f := f) (ks := ks) (Q := fun r E' B' => ∃ vs : List β, r = .fr (.lst (vs.map out)) ∧ E' = E ∧ vs.length = xs.length ∧ I 0 vs B') hi hn hw hl
    (fun q acc B' => ∃ vs : List β, acc = vs.map out ∧ vs.length + q.length = xs.length ∧ (∀ x ∈ q, x ∈ xs) ∧ I q.length vs B') ⟨[], rfl, by simp, fun _ h => h, h⟩
    (by
      rintro x q acc B' ⟨vs, rfl, hl, hm, hI⟩
      rw [List.length_cons] at hl hI
      obtain ⟨E2, e1, e2, w, v, B3, e3, e4, e5⟩ := (step x q.length vs B' (hm x (List.mem_cons_self ..)) hl hI).get
      exact BdIs_of e1 ⟨e2, w, out v, B3, e3, e4, vs ++ [v], by simp, by simp; omega, fun y hy => hm y (List.mem_cons_of_mem _ hy), e5⟩)
    (by rintro acc B' ⟨vs, rfl, hl, hm, hI⟩; exact ⟨vs, rfl, rfl, by simpa using hl, hI⟩)
  obtain ⟨r, E', B', e, vs, rfl, rfl, h1, h2⟩ := k.get
  exact ⟨vs, B', e, h1, h2⟩
@[simp] theorem pick10 {a b : U} : pick [1, 0] [a, b] = [b, a] := rfl
@[simp] theorem revS_ofC (l : List Nat) : revS (ofC l) = ofC l.reverse := rfl
theorem G_any {α : Type} {l : List α} {p : α → Bool} : gAny (.lst (l.map fun x => .bl (p x))) = some (.w (.bl (l.any p))) := e_any'
theorem in_nats {n : Nat} {ks : List Nat} : inU (.int (n : Int)) (.lst (ks.map nat)) = some (decide (n ∈ ks)) := by
  have e : ∀ ks : List Nat, flatUs (ks.map nat) = some (ks.map fun (k : Nat) => V.int (k : Int)) := by
    intro ks
    induction ks with
    | nil => rfl
    | cons k ks ih => rw [List.map_cons, flatUs, ih]; rfl
  have e2 : inU (.int (n : Int)) (.lst (ks.map nat)) = (match flatU (.int (n : Int)), (seqOf (.lst (ks.map nat))).bind flatUs with
    | some v, some vs => some (inV v vs)
    | _, _ => none) := rfl
  rw [e2]
  simp only [seqOf, Option.bind_some, e, flatU]
  congr 1
  rw [inV, List.any_map, Bool.eq_iff_iff, List.any_eq_true, decide_eq_true_iff]
  constructor
  · rintro ⟨k, hk, h⟩
    have : (k : Int) = (n : Int) := by simpa [eqV, Function.comp] using h
    have : k = n := by omega
    subst this; exact hk
  · intro h
    exact ⟨n, h, by simp [eqV, Function.comp]⟩
theorem atI_mem {α : Type} {l : List α} {v : Int} (h0 : 0 ≤ v) (h1 : v < l.length) : ∃ c ∈ l, atI l v = some c := by
  have hk : v.toNat < l.length := by omega
  refine ⟨l[v.toNat], List.getElem_mem hk, ?_⟩
  rw [atI_of (k := v.toNat) (by omega), List.getElem?_eq_getElem hk]
theorem join_chr {ls : List Nat} (h : ls.length ≤ 16777216) : gJoin (.str (ofC [])) [.lst (ls.map chr)] = some (.w (.str (ofC ls))) := by
  have e := e_join (ls := ls.map fun c => [c])
  have e2 : ∀ ls : List Nat, (ls.map fun c => [c]).flatten = ls := by
    intro ls
    induction ls with
    | nil => rfl
    | cons c ls ih => rw [List.map_cons, List.flatten_cons, ih]; rfl
  rw [e2, if_pos h] at e
  rw [← e, List.map_map]
  rfl
theorem cutS_len (l : List Nat) (lo hi : Option Int) : ∃ l', cutS (ofC l) lo hi = ofC l' ∧ l'.length ≤ l.length := by
  refine ⟨codes (cutS (ofC l) lo hi), by simp, ?_⟩
  simp [codes, cutS]
  omega
@[simp] theorem app_get1 {B0 : Bx} {c d : Cell} {r : Bx} : (B0 ++ c :: d :: r)[B0.length + 1]? = some d := by
  rw [List.getElem?_append_right (by omega), show B0.length + 1 - B0.length = 1 from by omega]; rfl
@[simp] theorem app_set1 {B0 : Bx} {c d x : Cell} {r : Bx} : (B0 ++ c :: d :: r).set (B0.length + 1) x = B0 ++ c :: x :: r := by simp [List.set_append]
theorem app_get2 {B0 : Bx} {c d x : Cell} {r : Bx} : (B0 ++ c :: d :: x :: r)[B0.length + 2]? = some x := by
  rw [List.getElem?_append_right (by omega), show B0.length + 2 - B0.length = 2 from by omega]; rfl
theorem app_get3 {B0 : Bx} {c d x y : Cell} {r : Bx} : (B0 ++ c :: d :: x :: y :: r)[B0.length + 3]? = some y := by
  rw [List.getElem?_append_right (by omega), show B0.length + 3 - B0.length = 3 from by omega]; rfl
theorem coinQ {B : Bx} {i n : Nat} (many : Int) (h : Purse B i (n + 1)) (h0 : 0 < many := by decide) (hm : many ≤ 1000000000 := by decide) :
    ∃ (v : Int) (B1 : Bx), 0 ≤ v ∧ v < many ∧ coinF [.box i, .int many] B = .ok (.int v) B1 ∧ Purse B1 i n := by
  obtain ⟨v, c, h1, h2, h3, h4⟩ := coin_ok h h0 hm
  exact ⟨v, _, h1, h2, h3, h4⟩
end QB
/-! QbZb: comprehensions whose names stand in use outside. -/
namespace QB
open PySem L2
theorem mLc_gen {α : Type} (enc : α → U) (p : α → Bool) (y : α → U) {fi : Iv} {bd : Bd} {t : Te} {f : Ex} {ks : List Nat} {chk : Bx → Prop} {xs : List α} {E E1 : En} {B B1 : Bx} (hi : fi E B = .ok (xs.map enc, chk) E1 B1) (hc : chk B1) (hn : noOwn E1 ks = true) (hl : xs.length ≤ 16777216)
    (h : ∀ x ∈ xs, BdIs (bd (enc x) (wipeE E1 ks)) fun E2 => wipeE E2 ks = wipeE E1 ks ∧ Tst t B1 (p x) E2 ∧ (p x = true → Elt f B1 (y x) E2)) :
    mLc fi bd t f ks E B = .ok (.fr (.lst ((xs.filter p).map y))) (keepE E1 (wipeE E1 ks) ks) B1 := by
  have key : ∀ (xs : List α) (acc : List U), acc.length + xs.length ≤ 16777216 → (∀ x ∈ xs, BdIs (bd (enc x) (wipeE E1 ks)) fun E2 => wipeE E2 ks = wipeE E1 ks ∧ Tst t B1 (p x) E2 ∧ (p x = true → Elt f B1 (y x) E2)) →
      lcGo bd t f chk ks (xs.map enc) acc (wipeE E1 ks) B1 = .ok (acc ++ (xs.filter p).map y) (wipeE E1 ks) B1 := by
    intro xs
    induction xs with
    | nil => intro acc _ _; simp [lcGo]
    | cons x xs ih =>
      intro acc hl h
      obtain ⟨E2, e1, e2, e3, e4⟩ := (h x (List.mem_cons_self ..)).get
      have hl' : acc.length + (xs.length + 1) ≤ 16777216 := hl
      rw [List.map_cons]
      unfold lcGo
      rw [e1]
      unfold Tst at e3
      simp only [e3, O.bind_ok]
      by_cases hp : p x = true
      · have e5 := e4 hp
        unfold Elt at e5
        rw [if_pos hp]
        cases h1 : f E2 B1 with
        | bad => rw [h1] at e5; exact e5.elim
        | ex _ _ _ => rw [h1] at e5; exact e5.elim
        | ok r E3 B3 =>
          rw [h1] at e5
          obtain ⟨e6, rfl⟩ := e5
          simp only [O.bind_ok, e6]
          rw [if_pos (by omega), e2]
          unfold goOnL
          rw [if_pos hc, ih (acc ++ [y x]) (by simp; omega) (fun v hv => h v (List.mem_cons_of_mem _ hv))]
          simp [hp]
      · rw [if_neg hp, e2]
        unfold goOnL
        rw [if_pos hc, ih acc (by omega) (fun v hv => h v (List.mem_cons_of_mem _ hv))]
        simp [hp]
  unfold mLc
  rw [hi]
  simp only [O.bind_ok]
  rw [if_pos hn, key xs [] (by simpa using hl) h, O.bind_ok]
  simp
theorem mLc_ifW {α : Type} (enc : α → U) (p : α → Bool) (y : α → U) {fi : Iv} {bd : Bd} {t : Te} {f : Ex} {ks : List Nat} {xs : List α} {E : En} {B : Bx} (hi : fi E B = .ok (xs.map enc, yes) E B) (hn : noOwn E ks = true) (hk : keepE E (wipeE E ks) ks = E) (hl : xs.length ≤ 16777216)
    (h : ∀ x ∈ xs, BdIs (bd (enc x) (wipeE E ks)) fun E2 => wipeE E2 ks = wipeE E ks ∧ Tst t B (p x) E2 ∧ (p x = true → Elt f B (y x) E2)) :
    mLc fi bd t f ks E B = .ok (.fr (.lst ((xs.filter p).map y))) E B := by
  have e := mLc_gen enc p y (chk := yes) hi trivial hn hl h
  rw [hk] at e
  exact e
theorem mLc_allW {α : Type} (enc : α → U) (y : α → U) {fi : Iv} {bd : Bd} {f : Ex} {ks : List Nat} {xs : List α} {E : En} {B : Bx} (hi : fi E B = .ok (xs.map enc, yes) E B) (hn : noOwn E ks = true) (hk : keepE E (wipeE E ks) ks = E) (hl : xs.length ≤ 16777216)
    (h : ∀ x ∈ xs, BdIs (bd (enc x) (wipeE E ks)) fun E2 => wipeE E2 ks = wipeE E ks ∧ Elt f B (y x) E2) :
    mLc fi bd mYes f ks E B = .ok (.fr (.lst (xs.map y))) E B := by
  have e := mLc_ifW (t := mYes) enc (fun _ => true) y hi hn hk hl fun x hx => by
    obtain ⟨E2, e1, e2, e3⟩ := (h x hx).get
    exact BdIs_of e1 ⟨e2, by simp [Tst], fun _ => e3⟩
  rwa [fil_true] at e
end QB
/-! printed by gen.py -/
namespace LawW
open PySem L2 QB PyProof.Rows
def topS (i : Nat) : Stmt := PySem.Challenge.pw_quotedback_k24_whole_joined_and_turned_a.main.body.getD i (.Pass ⟨0, 0, 0, 0⟩)
abbrev s_fresh : Stmt := topS 1
abbrev s_takes : Stmt := topS 7
abbrev s_first_places : Stmt := topS 8
abbrev s_next_places : Stmt := topS 9
abbrev s_beginnings : Stmt := topS 10
abbrev s_meets_plainly : Stmt := topS 11
abbrev s_is_sign : Stmt := topS 13
abbrev s_is_range : Stmt := topS 14
abbrev s_is_entry : Stmt := topS 15
abbrev s_is_pattern : Stmt := topS 16
abbrev s_check_patterns : Stmt := topS 17
abbrev s_meets : Stmt := topS 18
abbrev s_heads : Stmt := topS 19
abbrev s_tails : Stmt := topS 20
abbrev s_least_text : Stmt := topS 21
abbrev s__law_purse : Stmt := topS 23
abbrev s__law_coin : Stmt := topS 24
abbrev s__law_same : Stmt := topS 25
abbrev s__law_signs : Stmt := topS 26
abbrev s__law_sign : Stmt := topS 27
abbrev s__law_ranges : Stmt := topS 28
abbrev s__law_entry : Stmt := topS 29
abbrev s__law_takes : Stmt := topS 30
abbrev s__law_lengths : Stmt := topS 31
abbrev s__law_line : Stmt := topS 32
abbrev s__law_bent : Stmt := topS 33
abbrev s__law_are_lengths : Stmt := topS 34
abbrev s__law_joins : Stmt := topS 35
abbrev s__law_least_joins : Stmt := topS 36
abbrev s_law : Stmt := topS 37
abbrev c_SIGNS : Str := "\x0a !\"#$&'()*+,-./0123456789:;<=>?@ABCDEFGHIJKLMNOPQRSTUVWXYZ[\\]^_`abcdefghijklmnopqrstuvwxyz{|}~"
structure BlT (mg : Str → Option Value) : Prop where
  abs_ : mg "abs" = none
  all_ : mg "all" = none
  any_ : mg "any" = none
  bool_ : mg "bool" = none
  enumerate_ : mg "enumerate" = none
  int_ : mg "int" = none
  isinstance : mg "isinstance" = none
  len_ : mg "len" = none
  list_ : mg "list" = none
  max_ : mg "max" = none
  min_ : mg "min" = none
  range_ : mg "range" = none
  set_ : mg "set" = none
  sorted_ : mg "sorted" = none
  str_ : mg "str" = none
  tuple_ : mg "tuple" = none
structure GsT (K : PySem.W.Frag) (mg : Str → Option Value) : Prop where
  SIGNS : ∃ u, mg "SIGNS" = some u ∧ ∃ t, u = Value.str c_SIGNS t
section
variable {P : Program} {w : World} {K : PySem.W.Frag} {mg : Str → Option Value} {base : Heap} {k : Nat}
/-! ### fresh -/
abbrev N_fresh : List Str := ["thing", "part", "key"]
theorem sc_fresh : FnScope ["thing", "part", "key"] ["thing"] (defScope s_fresh) := ⟨rfl, rfl, rfl, by decide +kernel, rfl, by decide +kernel, by decide +kernel⟩
noncomputable def b_fresh : Sm := sSeq (sBad) (sSeq (sBad) (sSeq (sBad) (sBad)))
theorem ok_fresh (Bl : BlT mg) (Gs : GsT K mg) (D : DefAt K mg "fresh" s_fresh) : CalF P w K mg base (k + 1) "fresh" s_fresh ["thing"] (runBody 3 1 (b_fresh)) :=
  calF_of D sc_fresh (fun _ _ _ _ _ _ us hl => match us, hl with | [_], _ => rfl) fun f cdv A outer s H E hr =>
  sndB_cons (sndS_never) (sndB_cons (sndS_never) (sndB_cons (sndS_never) (sndB_one (sndS_never))))
/-! ### takes -/
abbrev N_takes : List Str := ["entry", "sign", "first", "last"]
theorem sc_takes : FnScope ["entry", "sign", "first", "last"] ["entry", "sign"] (defScope s_takes) := ⟨rfl, rfl, rfl, by decide +kernel, rfl, by decide +kernel, by decide +kernel⟩
noncomputable def lc_takes_0 : Ex := mLc (mItV (m2 gIx (mVar 0) (mC (.int 2)))) (bdT (bdCons (bdN 2) (bdCons (bdN 3) (bdNil)))) (mYes) (mChain gLe gLe (mVar 2) (mVar 1) (mVar 3)) [2, 3]
noncomputable def b_takes : Sm := sSeq (sIf (toT (m2 gEq (m2 gIx (mVar 0) (mC (.int 0))) (mC (.str "one")))) (sRet (m2 gEq (m2 gIx (mVar 0) (mC (.int 1))) (mVar 1))) (sNext)) (sSeq (sIf (toT (m2 gEq (m2 gIx (mVar 0) (mC (.int 0))) (mC (.str "of")))) (sRet (m2 gNe (m1 gAny (lc_takes_0)) (m2 gIx (mVar 0) (mC (.int 1))))) (sNext)) (sRet (mC (.bl true))))
theorem ok_takes (Bl : BlT mg) (Gs : GsT K mg) (D : DefAt K mg "takes" s_takes) : CalF P w K mg base (k + 1) "takes" s_takes ["entry", "sign"] (runBody 4 2 (b_takes)) :=
  calF_of D sc_takes (fun _ _ _ _ _ _ us hl => match us, hl with | [_, _], _ => rfl) fun f cdv A outer s H E hr =>
  sndB_cons (sndS_if (sndT_cmp (op2_eq hr.units) (sndE_ix (sndE_var 0) (sndE_int)) (sndE_str)) (sndB_one (sndS_ret (sndE_cmp (op2_eq hr.units) (sndE_ix (sndE_var 0) (sndE_int)) (sndE_var 1)))) (sndB_nil)) (sndB_cons (sndS_if (sndT_cmp (op2_eq hr.units) (sndE_ix (sndE_var 0) (sndE_int)) (sndE_str)) (sndB_one (sndS_ret (sndE_cmp (op2_ne hr.units) (sndE_b1 (call1_any rfl) Bl.any_ (by decide +kernel) (sndE_lc (own := [("first", 2), ("last", 3)]) rfl sc_takes.nd (blkOk_by (by change blkC N_takes (defScope s_takes) _ [("first", 2), ("last", 3)] = true; decide +kernel)) (sndI_val (sndE_ix (sndE_var 0) (sndE_int))) (fun _ _ _ _ _ => sndG_tup rfl (sndGs_cons (sndG_name (k := 2) sc_takes.nd) (sndGs_cons (sndG_name (k := 3) sc_takes.nd) (sndGs_nil))) (n := 2) (bdCons_len (bdCons_len (fun _ _ h => bdNil_len h)))) (fun _ _ _ _ _ => sndTs_nil) (fun _ _ _ _ _ => sndE_chain op2_Le op2_Le (sndE_var 2) (sndE_var 1) (sndE_var 3)))) (sndE_ix (sndE_var 0) (sndE_int))))) (sndB_nil)) (sndB_one (sndS_ret (sndE_bl))))
/-! ### first_places -/
abbrev N_first_places : List Str := ["pattern", "places", "entry"]
theorem sc_first_places : FnScope ["pattern", "places", "entry"] ["pattern"] (defScope s_first_places) := ⟨rfl, rfl, rfl, by decide +kernel, rfl, by decide +kernel, by decide +kernel⟩
noncomputable def lp_first_places_0 : Sm := sExpr (mAppend (mVar 1) (mAndV (m2 gIx (mVar 1) (m1 gNeg (mC (.int 1)))) (m2 gEq (m2 gIx (mVar 2) (mC (.int 0))) (mC (.str "lot")))))
noncomputable def b_first_places : Sm := sSeq (sOwn 1 (mLst (mCons (mC (.bl true)) (mNil)))) (sSeq (sFor (mItV (mVar 0)) (bdN 2) (lp_first_places_0)) (sRet (mVar 1)))
theorem ok_first_places (Bl : BlT mg) (Gs : GsT K mg) (D : DefAt K mg "first_places" s_first_places) : CalF P w K mg base (k + 1) "first_places" s_first_places ["pattern"] (runBody 3 1 (b_first_places)) :=
  calF_of D sc_first_places (fun _ _ _ _ _ _ us hl => match us, hl with | [_], _ => rfl) fun f cdv A outer s H E hr =>
  sndB_cons (sndS_own (i := 1) (sndE_lst (sndA_cons (sndE_bl) (sndA_nil))) sc_first_places.nd) (sndB_cons (sndS_for PassesOwn.never rfl (sndI_val (sndE_var 0)) (sndG_name (k := 2) sc_first_places.nd) (sndB_one (sndS_expr (sndE_append (sndE_var 1) (sndE_and (sndE_ix (sndE_var 1) (sndE_neg (sndE_int))) (sndE_one (sndE_cmp (op2_eq hr.units) (sndE_ix (sndE_var 2) (sndE_int)) (sndE_str)))))))) (sndB_one (sndS_ret (sndE_var 1))))
/-! ### next_places -/
abbrev N_next_places : List Str := ["pattern", "places", "sign", "moved", "at", "entry"]
theorem sc_next_places : FnScope ["pattern", "places", "sign", "moved", "at", "entry"] ["pattern", "places", "sign"] (defScope s_next_places) := ⟨rfl, rfl, rfl, by decide +kernel, rfl, by decide +kernel, by decide +kernel⟩
noncomputable def lp_next_places_0 (g_takes : Fn) : Sm := sSeq (sIf (mAnd (mTru (m2 gIx (mVar 1) (mVar 4))) (mTru (mCall g_takes (mCons (mVar 5) (mCons (mVar 2) (mNil)))))) (sIf (toT (m2 gEq (m2 gIx (mVar 5) (mC (.int 0))) (mC (.str "lot")))) (sStore (mC (.bl true)) (mVar 3) (mVar 4)) (sStore (mC (.bl true)) (mVar 3) (m2 gAdd (mVar 4) (mC (.int 1))))) (sNext)) (sIf (mAnd (mTru (m2 gIx (mVar 3) (mVar 4))) (toT (m2 gEq (m2 gIx (mVar 5) (mC (.int 0))) (mC (.str "lot"))))) (sStore (mC (.bl true)) (mVar 3) (m2 gAdd (mVar 4) (mC (.int 1)))) (sNext))
noncomputable def b_next_places (g_takes : Fn) : Sm := sSeq (sOwn 3 (m2 gMul (mLst (mCons (mC (.bl false)) (mNil))) (m1 gLen (mVar 1)))) (sSeq (sFor (mEnum (mCons (mVar 0) (mNil))) (bdT (bdCons (bdN 4) (bdCons (bdN 5) (bdNil)))) (lp_next_places_0 g_takes)) (sRet (mVar 3)))
theorem ok_next_places (Bl : BlT mg) (Gs : GsT K mg) (D : DefAt K mg "next_places" s_next_places) {g_takes : Fn} (C_takes : CalF P w K mg base k "takes" s_takes ["entry", "sign"] g_takes) : CalF P w K mg base (k + 1) "next_places" s_next_places ["pattern", "places", "sign"] (runBody 6 3 (b_next_places g_takes)) :=
  calF_of D sc_next_places (fun _ _ _ _ _ _ us hl => match us, hl with | [_, _, _], _ => rfl) fun f cdv A outer s H E hr =>
  sndB_cons (sndS_own (i := 3) (sndE_op op2_Mul (sndE_lst (sndA_cons (sndE_bl) (sndA_nil))) (sndE_b1 call1_len Bl.len_ PySem.boot_len (sndE_var 1))) sc_next_places.nd) (sndB_cons (sndS_for PassesOwn.never rfl (sndI_enum Bl.enumerate_ (sndA_cons (sndE_var 0) (sndA_nil))) (sndG_tup rfl (sndGs_cons (sndG_name (k := 4) sc_next_places.nd) (sndGs_cons (sndG_name (k := 5) sc_next_places.nd) (sndGs_nil))) (n := 2) (bdCons_len (bdCons_len (fun _ _ h => bdNil_len h)))) (sndB_cons (sndS_if (sndT_of (sndW_and (sndT_tru (sndE_ix (sndE_var 1) (sndE_var 4))) (sndW_and1 (sndT_tru (sndE_callF C_takes hr (Nat.le_refl _) (sndA_cons (sndE_var 5) (sndA_cons (sndE_var 2) (sndA_nil)))))))) (sndB_one (sndS_if (sndT_cmp (op2_eq hr.units) (sndE_ix (sndE_var 5) (sndE_int)) (sndE_str)) (sndB_one (sndS_store (sndE_bl) (sndE_var 3) (sndE_var 4))) (sndB_one (sndS_store (sndE_bl) (sndE_var 3) (sndE_op op2_Add (sndE_var 4) (sndE_int)))))) (sndB_nil)) (sndB_one (sndS_if (sndT_of (sndW_and (sndT_tru (sndE_ix (sndE_var 3) (sndE_var 4))) (sndW_and1 (sndT_cmp (op2_eq hr.units) (sndE_ix (sndE_var 5) (sndE_int)) (sndE_str))))) (sndB_one (sndS_store (sndE_bl) (sndE_var 3) (sndE_op op2_Add (sndE_var 4) (sndE_int)))) (sndB_nil))))) (sndB_one (sndS_ret (sndE_var 3))))
/-! ### beginnings -/
abbrev N_beginnings : List Str := ["pattern", "text", "places", "lengths", "at", "sign"]
theorem sc_beginnings : FnScope ["pattern", "text", "places", "lengths", "at", "sign"] ["pattern", "text"] (defScope s_beginnings) := ⟨rfl, rfl, rfl, by decide +kernel, rfl, by decide +kernel, by decide +kernel⟩
noncomputable def lp_beginnings_0 (g_next_places : Fn) : Sm := sSeq (sSet 2 (mCall g_next_places (mCons (mVar 0) (mCons (mVar 2) (mCons (mVar 5) (mNil)))))) (sIf (mTru (m2 gIx (mVar 2) (m1 gNeg (mC (.int 1))))) (sExpr (mAppend (mVar 3) (mVar 4))) (sNext))
noncomputable def b_beginnings (g_next_places : Fn) (g_first_places : Fn) : Sm := sSeq (sSet 2 (mCall g_first_places (mCons (mVar 0) (mNil)))) (sSeq (sOwn 3 (mIf (mTru (m2 gIx (mVar 2) (m1 gNeg (mC (.int 1))))) (mLst (mCons (mC (.int 0)) (mNil))) (mLst (mNil)))) (sSeq (sFor (mEnumT (mCons (mVar 1) mNil) (mCons (mC (.int 1)) mNil)) (bdT (bdCons (bdN 4) (bdCons (bdN 5) (bdNil)))) (lp_beginnings_0 g_next_places)) (sRet (mVar 3))))
theorem ok_beginnings (Bl : BlT mg) (Gs : GsT K mg) (D : DefAt K mg "beginnings" s_beginnings) {g_next_places : Fn} (C_next_places : CalF P w K mg base k "next_places" s_next_places ["pattern", "places", "sign"] g_next_places) {g_first_places : Fn} (C_first_places : CalF P w K mg base k "first_places" s_first_places ["pattern"] g_first_places) : CalF P w K mg base (k + 1) "beginnings" s_beginnings ["pattern", "text"] (runBody 6 2 (b_beginnings g_next_places g_first_places)) :=
  calF_of D sc_beginnings (fun _ _ _ _ _ _ us hl => match us, hl with | [_, _], _ => rfl) fun f cdv A outer s H E hr =>
  sndB_cons (sndS_set (i := 2) (sndE_callF C_first_places hr (Nat.le_refl _) (sndA_cons (sndE_var 0) (sndA_nil))) sc_beginnings.nd) (sndB_cons (sndS_own (i := 3) (sndE_if (sndT_tru (sndE_ix (sndE_var 2) (sndE_neg (sndE_int)))) (sndE_lst (sndA_cons (sndE_int) (sndA_nil))) (sndE_lst (sndA_nil))) sc_beginnings.nd) (sndB_cons (sndS_for PassesOwn.never rfl (sndI_enumT Bl.enumerate_ (sndA_cons (sndE_var 1) sndA_nil) (sndK_cons (sndE_int) sndK_nil)) (sndG_tup rfl (sndGs_cons (sndG_name (k := 4) sc_beginnings.nd) (sndGs_cons (sndG_name (k := 5) sc_beginnings.nd) (sndGs_nil))) (n := 2) (bdCons_len (bdCons_len (fun _ _ h => bdNil_len h)))) (sndB_cons (sndS_set (i := 2) (sndE_callF C_next_places hr (Nat.le_refl _) (sndA_cons (sndE_var 0) (sndA_cons (sndE_var 2) (sndA_cons (sndE_var 5) (sndA_nil))))) sc_beginnings.nd) (sndB_one (sndS_if (sndT_tru (sndE_ix (sndE_var 2) (sndE_neg (sndE_int)))) (sndB_one (sndS_expr (sndE_append (sndE_var 3) (sndE_var 4)))) (sndB_nil))))) (sndB_one (sndS_ret (sndE_var 3)))))
/-! ### meets_plainly -/
abbrev N_meets_plainly : List Str := ["pattern", "text", "places", "sign"]
theorem sc_meets_plainly : FnScope ["pattern", "text", "places", "sign"] ["pattern", "text"] (defScope s_meets_plainly) := ⟨rfl, rfl, rfl, by decide +kernel, rfl, by decide +kernel, by decide +kernel⟩
noncomputable def lp_meets_plainly_0 (g_next_places : Fn) : Sm := sSet 2 (mCall g_next_places (mCons (mVar 0) (mCons (mVar 2) (mCons (mVar 3) (mNil)))))
noncomputable def b_meets_plainly (g_next_places : Fn) (g_first_places : Fn) : Sm := sSeq (sSet 2 (mCall g_first_places (mCons (mVar 0) (mNil)))) (sSeq (sFor (mItV (mVar 1)) (bdN 3) (lp_meets_plainly_0 g_next_places)) (sRet (m2 gIx (mVar 2) (m1 gNeg (mC (.int 1))))))
theorem ok_meets_plainly (Bl : BlT mg) (Gs : GsT K mg) (D : DefAt K mg "meets_plainly" s_meets_plainly) {g_next_places : Fn} (C_next_places : CalF P w K mg base k "next_places" s_next_places ["pattern", "places", "sign"] g_next_places) {g_first_places : Fn} (C_first_places : CalF P w K mg base k "first_places" s_first_places ["pattern"] g_first_places) : CalF P w K mg base (k + 1) "meets_plainly" s_meets_plainly ["pattern", "text"] (runBody 4 2 (b_meets_plainly g_next_places g_first_places)) :=
  calF_of D sc_meets_plainly (fun _ _ _ _ _ _ us hl => match us, hl with | [_, _], _ => rfl) fun f cdv A outer s H E hr =>
  sndB_cons (sndS_set (i := 2) (sndE_callF C_first_places hr (Nat.le_refl _) (sndA_cons (sndE_var 0) (sndA_nil))) sc_meets_plainly.nd) (sndB_cons (sndS_for PassesOwn.never rfl (sndI_val (sndE_var 1)) (sndG_name (k := 3) sc_meets_plainly.nd) (sndB_one (sndS_set (i := 2) (sndE_callF C_next_places hr (Nat.le_refl _) (sndA_cons (sndE_var 0) (sndA_cons (sndE_var 2) (sndA_cons (sndE_var 3) (sndA_nil))))) sc_meets_plainly.nd))) (sndB_one (sndS_ret (sndE_ix (sndE_var 2) (sndE_neg (sndE_int))))))
/-! ### is_sign -/
abbrev N_is_sign : List Str := ["thing"]
theorem sc_is_sign : FnScope ["thing"] ["thing"] (defScope s_is_sign) := ⟨rfl, rfl, rfl, by decide +kernel, rfl, by decide +kernel, by decide +kernel⟩
noncomputable def b_is_sign : Sm := sRet (mAndV (m1 (gIsi "str") (mVar 0)) (mAndV (m2 gEq (m1 gLen (mVar 0)) (mC (.int 1))) (m2 (gIn false) (mVar 0) (mC (.str c_SIGNS)))))
theorem ok_is_sign (Bl : BlT mg) (Gs : GsT K mg) (D : DefAt K mg "is_sign" s_is_sign) : CalF P w K mg base (k + 1) "is_sign" s_is_sign ["thing"] (runBody 1 1 (b_is_sign)) :=
  calF_of D sc_is_sign (fun _ _ _ _ _ _ us hl => match us, hl with | [_], _ => rfl) fun f cdv A outer s H E hr =>
  sndB_one (sndS_ret (sndE_and (sndE_isi Bl.isinstance Bl.str_ (by decide +kernel) (sndE_var 0)) (sndE_and (sndE_cmp (op2_eq hr.units) (sndE_b1 call1_len Bl.len_ PySem.boot_len (sndE_var 0)) (sndE_int)) (sndE_one (sndE_cmp op2_in (sndE_var 0) (sndE_gstrE Gs.SIGNS))))))
/-! ### is_range -/
abbrev N_is_range : List Str := ["thing"]
theorem sc_is_range : FnScope ["thing"] ["thing"] (defScope s_is_range) := ⟨rfl, rfl, rfl, by decide +kernel, rfl, by decide +kernel, by decide +kernel⟩
noncomputable def b_is_range (g_is_sign : Fn) : Sm := sSeq (sIf (mOr (mNot (mTru (m1 (gIsi "tuple") (mVar 0)))) (toT (m2 gNe (m1 gLen (mVar 0)) (mC (.int 2))))) (sRet (mC (.bl false))) (sNext)) (sRet (mAndV (mCall g_is_sign (mCons (m2 gIx (mVar 0) (mC (.int 0))) (mNil))) (mAndV (mCall g_is_sign (mCons (m2 gIx (mVar 0) (mC (.int 1))) (mNil))) (m2 gLe (m2 gIx (mVar 0) (mC (.int 0))) (m2 gIx (mVar 0) (mC (.int 1)))))))
theorem ok_is_range (Bl : BlT mg) (Gs : GsT K mg) (D : DefAt K mg "is_range" s_is_range) {g_is_sign : Fn} (C_is_sign : CalF P w K mg base k "is_sign" s_is_sign ["thing"] g_is_sign) : CalF P w K mg base (k + 1) "is_range" s_is_range ["thing"] (runBody 1 1 (b_is_range g_is_sign)) :=
  calF_of D sc_is_range (fun _ _ _ _ _ _ us hl => match us, hl with | [_], _ => rfl) fun f cdv A outer s H E hr =>
  sndB_cons (sndS_if (sndT_of (sndW_or (sndT_not (sndT_tru (sndE_isi Bl.isinstance Bl.tuple_ (by decide +kernel) (sndE_var 0)))) (sndW_or1 (sndT_cmp (op2_ne hr.units) (sndE_b1 call1_len Bl.len_ PySem.boot_len (sndE_var 0)) (sndE_int))))) (sndB_one (sndS_ret (sndE_bl))) (sndB_nil)) (sndB_one (sndS_ret (sndE_and (sndE_callF C_is_sign hr (Nat.le_refl _) (sndA_cons (sndE_ix (sndE_var 0) (sndE_int)) (sndA_nil))) (sndE_and (sndE_callF C_is_sign hr (Nat.le_refl _) (sndA_cons (sndE_ix (sndE_var 0) (sndE_int)) (sndA_nil))) (sndE_one (sndE_cmp op2_Le (sndE_ix (sndE_var 0) (sndE_int)) (sndE_ix (sndE_var 0) (sndE_int))))))))
/-! ### is_entry -/
abbrev N_is_entry : List Str := ["entry", "part"]
theorem sc_is_entry : FnScope ["entry", "part"] ["entry"] (defScope s_is_entry) := ⟨rfl, rfl, rfl, by decide +kernel, rfl, by decide +kernel, by decide +kernel⟩
noncomputable def lc_is_entry_0 (g_is_range : Fn) : Ex := mLc (mItV (m2 gIx (mVar 0) (mC (.int 2)))) (bdN 1) (mYes) (mCall g_is_range (mCons (mVar 1) (mNil))) [1]
noncomputable def b_is_entry (g_is_range : Fn) (g_is_sign : Fn) : Sm := sSeq (sIf (mOr (mNot (mTru (m1 (gIsi "tuple") (mVar 0)))) (toT (m2 gEq (mVar 0) (mTup (mNil))))) (sRet (mC (.bl false))) (sNext)) (sSeq (sIf (toT (m2 (gIn false) (m2 gIx (mVar 0) (mC (.int 0))) (mTup (mCons (mC (.str "any")) (mCons (mC (.str "lot")) (mNil)))))) (sRet (m2 gEq (m1 gLen (mVar 0)) (mC (.int 1)))) (sNext)) (sSeq (sIf (toT (m2 gEq (m2 gIx (mVar 0) (mC (.int 0))) (mC (.str "one")))) (sRet (mAndV (m2 gEq (m1 gLen (mVar 0)) (mC (.int 2))) (mCall g_is_sign (mCons (m2 gIx (mVar 0) (mC (.int 1))) (mNil))))) (sNext)) (sSeq (sIf (mOr (toT (m2 gNe (m2 gIx (mVar 0) (mC (.int 0))) (mC (.str "of")))) (mOr (toT (m2 gNe (m1 gLen (mVar 0)) (mC (.int 3)))) (mNot (mTru (m1 (gIsi "bool") (m2 gIx (mVar 0) (mC (.int 1)))))))) (sRet (mC (.bl false))) (sNext)) (sRet (mAndV (m1 (gIsi "list") (m2 gIx (mVar 0) (mC (.int 2)))) (mAndV (m2 gNe (m2 gIx (mVar 0) (mC (.int 2))) (mLst (mNil))) (m1 gAll (lc_is_entry_0 g_is_range))))))))
theorem ok_is_entry (Bl : BlT mg) (Gs : GsT K mg) (D : DefAt K mg "is_entry" s_is_entry) {g_is_range : Fn} (C_is_range : CalF P w K mg base k "is_range" s_is_range ["thing"] g_is_range) {g_is_sign : Fn} (C_is_sign : CalF P w K mg base k "is_sign" s_is_sign ["thing"] g_is_sign) : CalF P w K mg base (k + 1) "is_entry" s_is_entry ["entry"] (runBody 2 1 (b_is_entry g_is_range g_is_sign)) :=
  calF_of D sc_is_entry (fun _ _ _ _ _ _ us hl => match us, hl with | [_], _ => rfl) fun f cdv A outer s H E hr =>
  sndB_cons (sndS_if (sndT_of (sndW_or (sndT_not (sndT_tru (sndE_isi Bl.isinstance Bl.tuple_ (by decide +kernel) (sndE_var 0)))) (sndW_or1 (sndT_cmp (op2_eq hr.units) (sndE_var 0) (sndE_tup (sndA_nil)))))) (sndB_one (sndS_ret (sndE_bl))) (sndB_nil)) (sndB_cons (sndS_if (sndT_cmp op2_in (sndE_ix (sndE_var 0) (sndE_int)) (sndE_tup (sndA_cons (sndE_str) (sndA_cons (sndE_str) (sndA_nil))))) (sndB_one (sndS_ret (sndE_cmp (op2_eq hr.units) (sndE_b1 call1_len Bl.len_ PySem.boot_len (sndE_var 0)) (sndE_int)))) (sndB_nil)) (sndB_cons (sndS_if (sndT_cmp (op2_eq hr.units) (sndE_ix (sndE_var 0) (sndE_int)) (sndE_str)) (sndB_one (sndS_ret (sndE_and (sndE_cmp (op2_eq hr.units) (sndE_b1 call1_len Bl.len_ PySem.boot_len (sndE_var 0)) (sndE_int)) (sndE_one (sndE_callF C_is_sign hr (Nat.le_refl _) (sndA_cons (sndE_ix (sndE_var 0) (sndE_int)) (sndA_nil))))))) (sndB_nil)) (sndB_cons (sndS_if (sndT_of (sndW_or (sndT_cmp (op2_ne hr.units) (sndE_ix (sndE_var 0) (sndE_int)) (sndE_str)) (sndW_or (sndT_cmp (op2_ne hr.units) (sndE_b1 call1_len Bl.len_ PySem.boot_len (sndE_var 0)) (sndE_int)) (sndW_or1 (sndT_not (sndT_tru (sndE_isi Bl.isinstance Bl.bool_ (by decide +kernel) (sndE_ix (sndE_var 0) (sndE_int))))))))) (sndB_one (sndS_ret (sndE_bl))) (sndB_nil)) (sndB_one (sndS_ret (sndE_and (sndE_isi Bl.isinstance Bl.list_ (by decide +kernel) (sndE_ix (sndE_var 0) (sndE_int))) (sndE_and (sndE_cmp (op2_ne hr.units) (sndE_ix (sndE_var 0) (sndE_int)) (sndE_lst (sndA_nil))) (sndE_one (sndE_b1 (call1_all rfl) Bl.all_ (by decide +kernel) (sndE_lc (own := [("part", 1)]) rfl sc_is_entry.nd (blkOk_by (by change blkC N_is_entry (defScope s_is_entry) _ [("part", 1)] = true; decide +kernel)) (sndI_val (sndE_ix (sndE_var 0) (sndE_int))) (fun _ _ _ _ _ => sndG_name (k := 1) sc_is_entry.nd) (fun _ _ _ _ _ => sndTs_nil) (fun _ _ _ _ _ => sndE_callF C_is_range hr (Nat.le_refl _) (sndA_cons (sndE_var 1) (sndA_nil)))))))))))))
/-! ### is_pattern -/
abbrev N_is_pattern : List Str := ["pattern", "entry"]
theorem sc_is_pattern : FnScope ["pattern", "entry"] ["pattern"] (defScope s_is_pattern) := ⟨rfl, rfl, rfl, by decide +kernel, rfl, by decide +kernel, by decide +kernel⟩
noncomputable def lc_is_pattern_0 (g_is_entry : Fn) : Ex := mLc (mItV (mVar 0)) (bdN 1) (mYes) (mCall g_is_entry (mCons (mVar 1) (mNil))) [1]
noncomputable def b_is_pattern (g_is_entry : Fn) : Sm := sRet (mAndV (m1 (gIsi "list") (mVar 0)) (m1 gAll (lc_is_pattern_0 g_is_entry)))
theorem ok_is_pattern (Bl : BlT mg) (Gs : GsT K mg) (D : DefAt K mg "is_pattern" s_is_pattern) {g_is_entry : Fn} (C_is_entry : CalF P w K mg base k "is_entry" s_is_entry ["entry"] g_is_entry) : CalF P w K mg base (k + 1) "is_pattern" s_is_pattern ["pattern"] (runBody 2 1 (b_is_pattern g_is_entry)) :=
  calF_of D sc_is_pattern (fun _ _ _ _ _ _ us hl => match us, hl with | [_], _ => rfl) fun f cdv A outer s H E hr =>
  sndB_one (sndS_ret (sndE_and (sndE_isi Bl.isinstance Bl.list_ (by decide +kernel) (sndE_var 0)) (sndE_one (sndE_b1 (call1_all rfl) Bl.all_ (by decide +kernel) (sndE_lc (own := [("entry", 1)]) rfl sc_is_pattern.nd (blkOk_by (by change blkC N_is_pattern (defScope s_is_pattern) _ [("entry", 1)] = true; decide +kernel)) (sndI_val (sndE_var 0)) (fun _ _ _ _ _ => sndG_name (k := 1) sc_is_pattern.nd) (fun _ _ _ _ _ => sndTs_nil) (fun _ _ _ _ _ => sndE_callF C_is_entry hr (Nat.le_refl _) (sndA_cons (sndE_var 1) (sndA_nil))))))))
/-! ### check_patterns -/
abbrev N_check_patterns : List Str := ["patterns", "pattern"]
theorem sc_check_patterns : FnScope ["patterns", "pattern"] ["patterns"] (defScope s_check_patterns) := ⟨rfl, rfl, rfl, by decide +kernel, rfl, by decide +kernel, by decide +kernel⟩
noncomputable def lp_check_patterns_0 (g_is_pattern : Fn) : Sm := sIf (mNot (mTru (mCall g_is_pattern (mCons (mVar 1) (mNil))))) (sBad) (sNext)
noncomputable def b_check_patterns (g_is_pattern : Fn) : Sm := sFor (mItV (mVar 0)) (bdN 1) (lp_check_patterns_0 g_is_pattern)
theorem ok_check_patterns (Bl : BlT mg) (Gs : GsT K mg) (D : DefAt K mg "check_patterns" s_check_patterns) {g_is_pattern : Fn} (C_is_pattern : CalF P w K mg base k "is_pattern" s_is_pattern ["pattern"] g_is_pattern) : CalF P w K mg base (k + 1) "check_patterns" s_check_patterns ["patterns"] (runBody 2 1 (b_check_patterns g_is_pattern)) :=
  calF_of D sc_check_patterns (fun _ _ _ _ _ _ us hl => match us, hl with | [_], _ => rfl) fun f cdv A outer s H E hr =>
  sndB_one (sndS_for PassesOwn.never rfl (sndI_val (sndE_var 0)) (sndG_name (k := 1) sc_check_patterns.nd) (sndB_one (sndS_if (sndT_not (sndT_tru (sndE_callF C_is_pattern hr (Nat.le_refl _) (sndA_cons (sndE_var 1) (sndA_nil))))) (sndB_one (sndS_never)) (sndB_nil))))
/-! ### meets -/
abbrev N_meets : List Str := ["pattern", "text"]
theorem sc_meets : FnScope ["pattern", "text"] ["pattern", "text"] (defScope s_meets) := ⟨rfl, rfl, rfl, by decide +kernel, rfl, by decide +kernel, by decide +kernel⟩
noncomputable def b_meets (g_meets_plainly : Fn) (g_check_patterns : Fn) : Sm := sSeq (sExpr (mCall g_check_patterns (mCons (mLst (mCons (mVar 0) (mNil))) (mNil)))) (sRet (mCall g_meets_plainly (mCons (mVar 0) (mCons (mVar 1) (mNil)))))
theorem ok_meets (Bl : BlT mg) (Gs : GsT K mg) (D : DefAt K mg "meets" s_meets) {g_meets_plainly : Fn} (C_meets_plainly : CalF P w K mg base k "meets_plainly" s_meets_plainly ["pattern", "text"] g_meets_plainly) {g_check_patterns : Fn} (C_check_patterns : CalF P w K mg base k "check_patterns" s_check_patterns ["patterns"] g_check_patterns) : CalF P w K mg base (k + 1) "meets" s_meets ["pattern", "text"] (runBody 2 2 (b_meets g_meets_plainly g_check_patterns)) :=
  calF_of D sc_meets (fun _ _ _ _ _ _ us hl => match us, hl with | [_, _], _ => rfl) fun f cdv A outer s H E hr =>
  sndB_cons (sndS_expr (sndE_callF C_check_patterns hr (Nat.le_refl _) (sndA_cons (sndE_lst (sndA_cons (sndE_var 0) (sndA_nil))) (sndA_nil)))) (sndB_one (sndS_ret (sndE_callF C_meets_plainly hr (Nat.le_refl _) (sndA_cons (sndE_var 0) (sndA_cons (sndE_var 1) (sndA_nil))))))
/-! ### heads -/
abbrev N_heads : List Str := ["pattern", "text"]
theorem sc_heads : FnScope ["pattern", "text"] ["pattern", "text"] (defScope s_heads) := ⟨rfl, rfl, rfl, by decide +kernel, rfl, by decide +kernel, by decide +kernel⟩
noncomputable def b_heads (g_beginnings : Fn) (g_check_patterns : Fn) : Sm := sSeq (sExpr (mCall g_check_patterns (mCons (mLst (mCons (mVar 0) (mNil))) (mNil)))) (sRet (mCall g_beginnings (mCons (mVar 0) (mCons (mVar 1) (mNil)))))
theorem ok_heads (Bl : BlT mg) (Gs : GsT K mg) (D : DefAt K mg "heads" s_heads) {g_beginnings : Fn} (C_beginnings : CalF P w K mg base k "beginnings" s_beginnings ["pattern", "text"] g_beginnings) {g_check_patterns : Fn} (C_check_patterns : CalF P w K mg base k "check_patterns" s_check_patterns ["patterns"] g_check_patterns) : CalF P w K mg base (k + 1) "heads" s_heads ["pattern", "text"] (runBody 2 2 (b_heads g_beginnings g_check_patterns)) :=
  calF_of D sc_heads (fun _ _ _ _ _ _ us hl => match us, hl with | [_, _], _ => rfl) fun f cdv A outer s H E hr =>
  sndB_cons (sndS_expr (sndE_callF C_check_patterns hr (Nat.le_refl _) (sndA_cons (sndE_lst (sndA_cons (sndE_var 0) (sndA_nil))) (sndA_nil)))) (sndB_one (sndS_ret (sndE_callF C_beginnings hr (Nat.le_refl _) (sndA_cons (sndE_var 0) (sndA_cons (sndE_var 1) (sndA_nil))))))
/-! ### tails -/
abbrev N_tails : List Str := ["pattern", "text"]
theorem sc_tails : FnScope ["pattern", "text"] ["pattern", "text"] (defScope s_tails) := ⟨rfl, rfl, rfl, by decide +kernel, rfl, by decide +kernel, by decide +kernel⟩
noncomputable def b_tails (g_beginnings : Fn) (g_check_patterns : Fn) : Sm := sSeq (sExpr (mCall g_check_patterns (mCons (mLst (mCons (mVar 0) (mNil))) (mNil)))) (sRet (mCall g_beginnings (mCons (mRevA (mVar 0)) (mCons (mRevA (mVar 1)) (mNil)))))
theorem ok_tails (Bl : BlT mg) (Gs : GsT K mg) (D : DefAt K mg "tails" s_tails) {g_beginnings : Fn} (C_beginnings : CalF P w K mg base k "beginnings" s_beginnings ["pattern", "text"] g_beginnings) {g_check_patterns : Fn} (C_check_patterns : CalF P w K mg base k "check_patterns" s_check_patterns ["patterns"] g_check_patterns) : CalF P w K mg base (k + 1) "tails" s_tails ["pattern", "text"] (runBody 2 2 (b_tails g_beginnings g_check_patterns)) :=
  calF_of D sc_tails (fun _ _ _ _ _ _ us hl => match us, hl with | [_, _], _ => rfl) fun f cdv A outer s H E hr =>
  sndB_cons (sndS_expr (sndE_callF C_check_patterns hr (Nat.le_refl _) (sndA_cons (sndE_lst (sndA_cons (sndE_var 0) (sndA_nil))) (sndA_nil)))) (sndB_one (sndS_ret (sndE_callF C_beginnings hr (Nat.le_refl _) (sndA_cons (sndE_revA (sndE_var 0)) (sndA_cons (sndE_revA (sndE_var 1)) (sndA_nil))))))
/-! ### least_text -/
abbrev N_least_text : List Str := ["pattern", "text", "entry", "signs", "sign"]
theorem sc_least_text : FnScope ["pattern", "text", "entry", "signs", "sign"] ["pattern"] (defScope s_least_text) := ⟨rfl, rfl, rfl, by decide +kernel, rfl, by decide +kernel, by decide +kernel⟩
noncomputable def lc_least_text_0 (g_takes : Fn) : Ex := mLc (mItV (mC (.str c_SIGNS))) (bdN 4) (mTru (mCall g_takes (mCons (mVar 2) (mCons (mVar 4) (mNil))))) (mVar 4) [4]
noncomputable def lp_least_text_0 (g_takes : Fn) : Sm := sIf (toT (m2 gNe (m2 gIx (mVar 2) (mC (.int 0))) (mC (.str "lot")))) (sSeq (sSet 3 (lc_least_text_0 g_takes)) (sSeq (sIf (mNot (mTru (mVar 3))) (sRet (mC .non)) (sNext)) (sAug 1 gIAdd (m2 gIx (mVar 3) (mC (.int 0)))))) (sNext)
noncomputable def b_least_text (g_takes : Fn) (g_check_patterns : Fn) : Sm := sSeq (sExpr (mCall g_check_patterns (mCons (mLst (mCons (mVar 0) (mNil))) (mNil)))) (sSeq (sSet 1 (mC (.str ""))) (sSeq (sFor (mItV (mVar 0)) (bdN 2) (lp_least_text_0 g_takes)) (sRet (mVar 1))))
theorem ok_least_text (Bl : BlT mg) (Gs : GsT K mg) (D : DefAt K mg "least_text" s_least_text) {g_takes : Fn} (C_takes : CalF P w K mg base k "takes" s_takes ["entry", "sign"] g_takes) {g_check_patterns : Fn} (C_check_patterns : CalF P w K mg base k "check_patterns" s_check_patterns ["patterns"] g_check_patterns) : CalF P w K mg base (k + 1) "least_text" s_least_text ["pattern"] (runBody 5 1 (b_least_text g_takes g_check_patterns)) :=
  calF_of D sc_least_text (fun _ _ _ _ _ _ us hl => match us, hl with | [_], _ => rfl) fun f cdv A outer s H E hr =>
  sndB_cons (sndS_expr (sndE_callF C_check_patterns hr (Nat.le_refl _) (sndA_cons (sndE_lst (sndA_cons (sndE_var 0) (sndA_nil))) (sndA_nil)))) (sndB_cons (sndS_set (i := 1) (sndE_str) sc_least_text.nd) (sndB_cons (sndS_for PassesOwn.never rfl (sndI_val (sndE_var 0)) (sndG_name (k := 2) sc_least_text.nd) (sndB_one (sndS_if (sndT_cmp (op2_ne hr.units) (sndE_ix (sndE_var 2) (sndE_int)) (sndE_str)) (sndB_cons (sndS_setLc (k := 3) (own := [("sign", 4)]) rfl sc_least_text.nd (blkOk_by (by change blkC N_least_text (defScope s_least_text) _ [("sign", 4)] = true; decide +kernel)) (sndI_val (sndE_gstrE Gs.SIGNS)) (fun _ _ _ _ _ => sndG_name (k := 4) sc_least_text.nd) (fun _ _ _ _ _ => sndTs_one (sndT_tru (sndE_callF C_takes hr (Nat.le_refl _) (sndA_cons (sndE_var 2) (sndA_cons (sndE_var 4) (sndA_nil)))))) (fun _ _ _ _ _ => sndE_var 4)) (sndB_cons (sndS_if (sndT_not (sndT_tru (sndE_var 3))) (sndB_one (sndS_ret (sndE_non))) (sndB_nil)) (sndB_one (sndS_aug (k := 1) op2_IAdd (sndE_ix (sndE_var 3) (sndE_int)) sc_least_text.nd)))) (sndB_nil)))) (sndB_one (sndS_ret (sndE_var 1)))))
/-! ### _law_purse -/
abbrev N__law_purse : List Str := ["_law_script", "_law_at", "_law_cell"]
theorem sc__law_purse : FnScope ["_law_script", "_law_at", "_law_cell"] ["_law_script", "_law_at"] (defScope s__law_purse) := ⟨rfl, rfl, rfl, by decide +kernel, rfl, by decide +kernel, by decide +kernel⟩
noncomputable def b__law_purse : Sm := sSeq (sSet 2 (mIf (toT (m2 gLt (mVar 1) (m1 gLen (mVar 0)))) (m2 gIx (mVar 0) (mVar 1)) (mC (.int 0)))) (sRet (mBox (mLst (mCons (mB gMax2 (mCons (mC (.int 0)) (mCons (m2 gSub (m1 gAbs (mVar 2)) (m2 (gII cPow fun i j => i ^ j.toNat) (mC (.int 10)) (mC (.int 18)))) (mNil)))) (mCons (m2 (gII cMod (· % ·)) (m1 gInt (m2 gAdd (m2 gAdd (m2 gMul (mVar 2) (mC (.int 2654435761))) (m2 gMul (mVar 1) (mC (.int 40503)))) (mC (.int 977)))) (m2 gAdd (m2 (gII cPow fun i j => i ^ j.toNat) (mC (.int 10)) (mC (.int 24))) (mC (.int 7)))) (mCons (mC (.int 0)) (mNil)))))))
theorem ok__law_purse (Bl : BlT mg) (Gs : GsT K mg) (D : DefAt K mg "_law_purse" s__law_purse) : CalF P w K mg base (k + 1) "_law_purse" s__law_purse ["_law_script", "_law_at"] (runBody 3 2 (b__law_purse)) :=
  calF_of D sc__law_purse (fun _ _ _ _ _ _ us hl => match us, hl with | [_, _], _ => rfl) fun f cdv A outer s H E hr =>
  sndB_cons (sndS_set (i := 2) (sndE_if (sndT_cmp op2_Lt (sndE_var 1) (sndE_b1 call1_len Bl.len_ PySem.boot_len (sndE_var 0))) (sndE_ix (sndE_var 0) (sndE_var 1)) (sndE_int)) sc__law_purse.nd) (sndB_one (sndS_ret (sndE_box (sndE_lst (sndA_cons (sndE_bn (callN_max rfl) Bl.max_ (by decide +kernel) (sndA_cons (sndE_int) (sndA_cons (sndE_op op2_Sub (sndE_b1 call1_abs Bl.abs_ (by decide +kernel) (sndE_var 2)) (sndE_op op2_pow (sndE_int) (sndE_int))) (sndA_nil)))) (sndA_cons (sndE_op op2_mod (sndE_t1 call1_int Bl.int_ (by decide +kernel) (sndE_op op2_Add (sndE_op op2_Add (sndE_op op2_Mul (sndE_var 2) (sndE_int)) (sndE_op op2_Mul (sndE_var 1) (sndE_int))) (sndE_int))) (sndE_op op2_Add (sndE_op op2_pow (sndE_int) (sndE_int)) (sndE_int))) (sndA_cons (sndE_int) (sndA_nil))))))))
/-! ### _law_coin -/
abbrev N__law_coin : List Str := ["_law_purse_here", "_law_many", "_law_coin_here", "_law_stirred"]
theorem sc__law_coin : FnScope ["_law_purse_here", "_law_many", "_law_coin_here", "_law_stirred"] ["_law_purse_here", "_law_many"] (defScope s__law_coin) := ⟨rfl, rfl, rfl, by decide +kernel, rfl, by decide +kernel, by decide +kernel⟩
noncomputable def b__law_coin : Sm := sSeq (sIf (toT (m2 gGt (m2 gIx (mVar 0) (mC (.int 0))) (mC (.int 0)))) (sSeq (sSet 2 (m2 (gII cMod (· % ·)) (m1 gInt (m2 gIx (mVar 0) (mC (.int 0)))) (mVar 1))) (sSeq (sStore (m2 (gII cDiv (· / ·)) (m2 gIx (mVar 0) (mC (.int 0))) (mVar 1)) (mVar 0) (mC (.int 0))) (sRet (mVar 2)))) (sNext)) (sSeq (sStore (m2 gAdd (m2 gIx (mVar 0) (mC (.int 2))) (mC (.int 1))) (mVar 0) (mC (.int 2))) (sSeq (sSet 3 (m2 gAdd (m2 gIx (mVar 0) (mC (.int 1))) (m2 gMul (mC (.int 362437)) (m2 gIx (mVar 0) (mC (.int 2)))))) (sSeq (sSet 3 (m2 (gII cMod (· % ·)) (m1 gInt (m2 gAdd (m2 gMul (mVar 3) (mVar 3)) (m2 gIx (mVar 0) (mC (.int 2))))) (m2 gAdd (m2 (gII cPow fun i j => i ^ j.toNat) (mC (.int 10)) (mC (.int 25))) (mC (.int 13))))) (sSeq (sSet 3 (m2 (gII cMod (· % ·)) (m1 gInt (m2 gAdd (m2 gMul (m2 gMul (mVar 3) (mVar 3)) (mC (.int 5))) (mVar 3))) (m2 gAdd (m2 (gII cPow fun i j => i ^ j.toNat) (mC (.int 10)) (mC (.int 23))) (mC (.int 117))))) (sRet (m2 (gII cMod (· % ·)) (m1 gInt (m2 (gII cDiv (· / ·)) (mVar 3) (mC (.int 1000)))) (mVar 1)))))))
theorem ok__law_coin (Bl : BlT mg) (Gs : GsT K mg) (D : DefAt K mg "_law_coin" s__law_coin) : CalF P w K mg base (k + 1) "_law_coin" s__law_coin ["_law_purse_here", "_law_many"] (runBody 4 2 (b__law_coin)) :=
  calF_of D sc__law_coin (fun _ _ _ _ _ _ us hl => match us, hl with | [_, _], _ => rfl) fun f cdv A outer s H E hr =>
  sndB_cons (sndS_if (sndT_cmp op2_Gt (sndE_ix (sndE_var 0) (sndE_int)) (sndE_int)) (sndB_cons (sndS_set (i := 2) (sndE_op op2_mod (sndE_t1 call1_int Bl.int_ (by decide +kernel) (sndE_ix (sndE_var 0) (sndE_int))) (sndE_var 1)) sc__law_coin.nd) (sndB_cons (sndS_store (sndE_op op2_fdiv (sndE_ix (sndE_var 0) (sndE_int)) (sndE_var 1)) (sndE_var 0) (sndE_int)) (sndB_one (sndS_ret (sndE_var 2))))) (sndB_nil)) (sndB_cons (sndS_store (sndE_op op2_Add (sndE_ix (sndE_var 0) (sndE_int)) (sndE_int)) (sndE_var 0) (sndE_int)) (sndB_cons (sndS_set (i := 3) (sndE_op op2_Add (sndE_ix (sndE_var 0) (sndE_int)) (sndE_op op2_Mul (sndE_int) (sndE_ix (sndE_var 0) (sndE_int)))) sc__law_coin.nd) (sndB_cons (sndS_set (i := 3) (sndE_op op2_mod (sndE_t1 call1_int Bl.int_ (by decide +kernel) (sndE_op op2_Add (sndE_op op2_Mul (sndE_var 3) (sndE_var 3)) (sndE_ix (sndE_var 0) (sndE_int)))) (sndE_op op2_Add (sndE_op op2_pow (sndE_int) (sndE_int)) (sndE_int))) sc__law_coin.nd) (sndB_cons (sndS_set (i := 3) (sndE_op op2_mod (sndE_t1 call1_int Bl.int_ (by decide +kernel) (sndE_op op2_Add (sndE_op op2_Mul (sndE_op op2_Mul (sndE_var 3) (sndE_var 3)) (sndE_int)) (sndE_var 3))) (sndE_op op2_Add (sndE_op op2_pow (sndE_int) (sndE_int)) (sndE_int))) sc__law_coin.nd) (sndB_one (sndS_ret (sndE_op op2_mod (sndE_t1 call1_int Bl.int_ (by decide +kernel) (sndE_op op2_fdiv (sndE_var 3) (sndE_int))) (sndE_var 1))))))))
/-! ### _law_same -/
abbrev N__law_same : List Str := ["_law_found", "_law_due", "_law_k"]
theorem sc__law_same : FnScope ["_law_found", "_law_due", "_law_k"] ["_law_found", "_law_due"] (defScope s__law_same) := ⟨rfl, rfl, rfl, by decide +kernel, rfl, by decide +kernel, by decide +kernel⟩
noncomputable def lc__law_same_0 (g__law_same : Fn) : Ex := mLc (mRange1 (mCons (m1 gLen (mVar 1)) (mNil))) (bdN 2) (mYes) (mCall g__law_same (mCons (m2 gIx (mVar 0) (mVar 2)) (mCons (m2 gIx (mVar 1) (mVar 2)) (mNil)))) [2]
noncomputable def b__law_same (g__law_same : Fn) : Sm := sSeq (sIf (mTru (m1 (gIsiT ["list", "tuple"]) (mVar 1))) (sSeq (sIf (mOr (toT (m2 gNe (m1 (gIsi "list") (mVar 1)) (m1 (gIsi "list") (mVar 0)))) (toT (m2 gNe (m1 (gIsi "tuple") (mVar 1)) (m1 (gIsi "tuple") (mVar 0))))) (sRet (mC (.bl false))) (sNext)) (sRet (mAndV (m2 gEq (m1 gLen (mVar 0)) (m1 gLen (mVar 1))) (m1 gAll (lc__law_same_0 g__law_same))))) (sNext)) (sSeq (sIf (toT (m2 (gIs false) (mVar 1) (mC .non))) (sRet (m2 (gIs false) (mVar 0) (mC .non))) (sNext)) (sSeq (sIf (mTru (m1 (gIsi "int") (mVar 1))) (sRet (mAndV (m1 (gIsi "int") (mVar 0)) (mAndV (m2 gEq (m1 (gIsi "bool") (mVar 0)) (m1 (gIsi "bool") (mVar 1))) (m2 gEq (mVar 0) (mVar 1))))) (sNext)) (sRet (mAndV (m1 (gIsi "str") (mVar 0)) (m2 gEq (mVar 0) (mVar 1))))))
theorem ok__law_same (Bl : BlT mg) (Gs : GsT K mg) (D : DefAt K mg "_law_same" s__law_same) {g__law_same : Fn} (C__law_same : CalF P w K mg base k "_law_same" s__law_same ["_law_found", "_law_due"] g__law_same) : CalF P w K mg base (k + 1) "_law_same" s__law_same ["_law_found", "_law_due"] (runBody 3 2 (b__law_same g__law_same)) :=
  calF_of D sc__law_same (fun _ _ _ _ _ _ us hl => match us, hl with | [_, _], _ => rfl) fun f cdv A outer s H E hr =>
  sndB_cons (sndS_if (sndT_tru (sndE_isiT Bl.isinstance (sndE_var 1) (tyA_cons Bl.list_ (by decide +kernel) (tyA_cons Bl.tuple_ (by decide +kernel) (tyA_nil))))) (sndB_cons (sndS_if (sndT_of (sndW_or (sndT_cmp (op2_ne hr.units) (sndE_isi Bl.isinstance Bl.list_ (by decide +kernel) (sndE_var 1)) (sndE_isi Bl.isinstance Bl.list_ (by decide +kernel) (sndE_var 0))) (sndW_or1 (sndT_cmp (op2_ne hr.units) (sndE_isi Bl.isinstance Bl.tuple_ (by decide +kernel) (sndE_var 1)) (sndE_isi Bl.isinstance Bl.tuple_ (by decide +kernel) (sndE_var 0)))))) (sndB_one (sndS_ret (sndE_bl))) (sndB_nil)) (sndB_one (sndS_ret (sndE_and (sndE_cmp (op2_eq hr.units) (sndE_b1 call1_len Bl.len_ PySem.boot_len (sndE_var 0)) (sndE_b1 call1_len Bl.len_ PySem.boot_len (sndE_var 1))) (sndE_one (sndE_b1 (call1_all rfl) Bl.all_ (by decide +kernel) (sndE_lc (own := [("_law_k", 2)]) rfl sc__law_same.nd (blkOk_by (by change blkC N__law_same (defScope s__law_same) _ [("_law_k", 2)] = true; decide +kernel)) (sndI_range1 Bl.range_ (sndA_cons (sndE_b1 call1_len Bl.len_ PySem.boot_len (sndE_var 1)) (sndA_nil))) (fun _ _ _ _ _ => sndG_name (k := 2) sc__law_same.nd) (fun _ _ _ _ _ => sndTs_nil) (fun _ _ _ _ _ => sndE_callF C__law_same hr (Nat.le_refl _) (sndA_cons (sndE_ix (sndE_var 0) (sndE_var 2)) (sndA_cons (sndE_ix (sndE_var 1) (sndE_var 2)) (sndA_nil))))))))))) (sndB_nil)) (sndB_cons (sndS_if (sndT_cmp op2_is (sndE_var 1) (sndE_non)) (sndB_one (sndS_ret (sndE_cmp op2_is (sndE_var 0) (sndE_non)))) (sndB_nil)) (sndB_cons (sndS_if (sndT_tru (sndE_isi Bl.isinstance Bl.int_ (by decide +kernel) (sndE_var 1))) (sndB_one (sndS_ret (sndE_and (sndE_isi Bl.isinstance Bl.int_ (by decide +kernel) (sndE_var 0)) (sndE_and (sndE_cmp (op2_eq hr.units) (sndE_isi Bl.isinstance Bl.bool_ (by decide +kernel) (sndE_var 0)) (sndE_isi Bl.isinstance Bl.bool_ (by decide +kernel) (sndE_var 1))) (sndE_one (sndE_cmp (op2_eq hr.units) (sndE_var 0) (sndE_var 1))))))) (sndB_nil)) (sndB_one (sndS_ret (sndE_and (sndE_isi Bl.isinstance Bl.str_ (by decide +kernel) (sndE_var 0)) (sndE_one (sndE_cmp (op2_eq hr.units) (sndE_var 0) (sndE_var 1))))))))
/-! ### _law_signs -/
abbrev N__law_signs : List Str := ["_law_early"]
theorem sc__law_signs : FnScope ["_law_early"] [] (defScope s__law_signs) := ⟨rfl, rfl, rfl, by decide +kernel, rfl, by decide +kernel, by decide +kernel⟩
noncomputable def b__law_signs : Sm := sSeq (sSet 0 (mC (.str "\x0a !\"#$&'()*+,-./0123456789:;<=>?@ABCDEFGHIJKLMNOPQRSTUVWXYZ[\\]^_"))) (sRet (m2 gAdd (mVar 0) (mC (.str "`abcdefghijklmnopqrstuvwxyz{|}~"))))
theorem ok__law_signs (Bl : BlT mg) (Gs : GsT K mg) (D : DefAt K mg "_law_signs" s__law_signs) : CalF P w K mg base (k + 1) "_law_signs" s__law_signs [] (runBody 1 0 (b__law_signs)) :=
  calF_of D sc__law_signs (fun _ _ _ _ _ _ us hl => match us, hl with | [], _ => rfl) fun f cdv A outer s H E hr =>
  sndB_cons (sndS_set (i := 0) (sndE_str) sc__law_signs.nd) (sndB_one (sndS_ret (sndE_op op2_Add (sndE_var 0) (sndE_str))))
/-! ### _law_sign -/
abbrev N__law_sign : List Str := ["_law_purse_here", "_law_way"]
theorem sc__law_sign : FnScope ["_law_purse_here", "_law_way"] ["_law_purse_here"] (defScope s__law_sign) := ⟨rfl, rfl, rfl, by decide +kernel, rfl, by decide +kernel, by decide +kernel⟩
noncomputable def b__law_sign (g__law_signs : Fn) (g__law_coin : Fn) : Sm := sSeq (sSet 1 (mCall g__law_coin (mCons (mVar 0) (mCons (mC (.int 3)) (mNil))))) (sSeq (sIf (toT (m2 gLt (mVar 1) (mC (.int 2)))) (sRet (m2 gIx (m2 gIx (mLst (mCons (mC (.str "abc")) (mCons (mC (.str "ab-")) (mNil)))) (mVar 1)) (mCall g__law_coin (mCons (mVar 0) (mCons (mC (.int 3)) (mNil)))))) (sNext)) (sRet (m2 gIx (mCall g__law_signs mNil) (mCall g__law_coin (mCons (mVar 0) (mCons (mC (.int 95)) (mNil)))))))
theorem ok__law_sign (Bl : BlT mg) (Gs : GsT K mg) (D : DefAt K mg "_law_sign" s__law_sign) {g__law_signs : Fn} (C__law_signs : CalF P w K mg base k "_law_signs" s__law_signs [] g__law_signs) {g__law_coin : Fn} (C__law_coin : CalF P w K mg base k "_law_coin" s__law_coin ["_law_purse_here", "_law_many"] g__law_coin) : CalF P w K mg base (k + 1) "_law_sign" s__law_sign ["_law_purse_here"] (runBody 2 1 (b__law_sign g__law_signs g__law_coin)) :=
  calF_of D sc__law_sign (fun _ _ _ _ _ _ us hl => match us, hl with | [_], _ => rfl) fun f cdv A outer s H E hr =>
  sndB_cons (sndS_set (i := 1) (sndE_callF C__law_coin hr (Nat.le_refl _) (sndA_cons (sndE_var 0) (sndA_cons (sndE_int) (sndA_nil)))) sc__law_sign.nd) (sndB_cons (sndS_if (sndT_cmp op2_Lt (sndE_var 1) (sndE_int)) (sndB_one (sndS_ret (sndE_ix (sndE_ix (sndE_lst (sndA_cons (sndE_str) (sndA_cons (sndE_str) (sndA_nil)))) (sndE_var 1)) (sndE_callF C__law_coin hr (Nat.le_refl _) (sndA_cons (sndE_var 0) (sndA_cons (sndE_int) (sndA_nil))))))) (sndB_nil)) (sndB_one (sndS_ret (sndE_ix (sndE_callF0 C__law_signs hr (Nat.le_refl _)) (sndE_callF C__law_coin hr (Nat.le_refl _) (sndA_cons (sndE_var 0) (sndA_cons (sndE_int) (sndA_nil))))))))
/-! ### _law_ranges -/
abbrev N__law_ranges : List Str := ["_law_purse_here", "_law_ranges_here", "_law_turn", "_law_low"]
theorem sc__law_ranges : FnScope ["_law_purse_here", "_law_ranges_here", "_law_turn", "_law_low"] ["_law_purse_here"] (defScope s__law_ranges) := ⟨rfl, rfl, rfl, by decide +kernel, rfl, by decide +kernel, by decide +kernel⟩
noncomputable def lp__law_ranges_0 (g__law_coin : Fn) (g__law_signs : Fn) : Sm := sIf (toT (m2 gEq (mCall g__law_coin (mCons (mVar 0) (mCons (mC (.int 2)) (mNil)))) (mC (.int 0)))) (sSeq (sSet 3 (m2 gAdd (mC (.int 65)) (mCall g__law_coin (mCons (mVar 0) (mCons (mC (.int 3)) (mNil)))))) (sExpr (mAppend (mVar 1) (mTup (mCons (m2 gIx (mCall g__law_signs mNil) (mVar 3)) (mCons (m2 gIx (mCall g__law_signs mNil) (m2 gAdd (mVar 3) (mCall g__law_coin (mCons (mVar 0) (mCons (mC (.int 3)) (mNil)))))) (mNil))))))) (sSeq (sSet 3 (mCall g__law_coin (mCons (mVar 0) (mCons (mC (.int 95)) (mNil))))) (sExpr (mAppend (mVar 1) (mTup (mCons (m2 gIx (mCall g__law_signs mNil) (mVar 3)) (mCons (m2 gIx (mCall g__law_signs mNil) (m2 gAdd (mVar 3) (mCall g__law_coin (mCons (mVar 0) (mCons (m2 gSub (mC (.int 95)) (mVar 3)) (mNil)))))) (mNil)))))))
noncomputable def b__law_ranges (g__law_coin : Fn) (g__law_signs : Fn) : Sm := sSeq (sOwn 1 (mLst (mNil))) (sSeq (sFor (mRange1 (mCons (m2 gAdd (mC (.int 1)) (mCall g__law_coin (mCons (mVar 0) (mCons (mC (.int 3)) (mNil))))) (mNil))) (bdN 2) (lp__law_ranges_0 g__law_coin g__law_signs)) (sRet (mVar 1)))
theorem ok__law_ranges (Bl : BlT mg) (Gs : GsT K mg) (D : DefAt K mg "_law_ranges" s__law_ranges) {g__law_coin : Fn} (C__law_coin : CalF P w K mg base k "_law_coin" s__law_coin ["_law_purse_here", "_law_many"] g__law_coin) {g__law_signs : Fn} (C__law_signs : CalF P w K mg base k "_law_signs" s__law_signs [] g__law_signs) : CalF P w K mg base (k + 1) "_law_ranges" s__law_ranges ["_law_purse_here"] (runBody 4 1 (b__law_ranges g__law_coin g__law_signs)) :=
  calF_of D sc__law_ranges (fun _ _ _ _ _ _ us hl => match us, hl with | [_], _ => rfl) fun f cdv A outer s H E hr =>
  sndB_cons (sndS_own (i := 1) (sndE_lst (sndA_nil)) sc__law_ranges.nd) (sndB_cons (sndS_for PassesOwn.never rfl (sndI_range1 Bl.range_ (sndA_cons (sndE_op op2_Add (sndE_int) (sndE_callF C__law_coin hr (Nat.le_refl _) (sndA_cons (sndE_var 0) (sndA_cons (sndE_int) (sndA_nil))))) (sndA_nil))) (sndG_name (k := 2) sc__law_ranges.nd) (sndB_one (sndS_if (sndT_cmp (op2_eq hr.units) (sndE_callF C__law_coin hr (Nat.le_refl _) (sndA_cons (sndE_var 0) (sndA_cons (sndE_int) (sndA_nil)))) (sndE_int)) (sndB_cons (sndS_set (i := 3) (sndE_op op2_Add (sndE_int) (sndE_callF C__law_coin hr (Nat.le_refl _) (sndA_cons (sndE_var 0) (sndA_cons (sndE_int) (sndA_nil))))) sc__law_ranges.nd) (sndB_one (sndS_expr (sndE_append (sndE_var 1) (sndE_tup (sndA_cons (sndE_ix (sndE_callF0 C__law_signs hr (Nat.le_refl _)) (sndE_var 3)) (sndA_cons (sndE_ix (sndE_callF0 C__law_signs hr (Nat.le_refl _)) (sndE_op op2_Add (sndE_var 3) (sndE_callF C__law_coin hr (Nat.le_refl _) (sndA_cons (sndE_var 0) (sndA_cons (sndE_int) (sndA_nil)))))) (sndA_nil)))))))) (sndB_cons (sndS_set (i := 3) (sndE_callF C__law_coin hr (Nat.le_refl _) (sndA_cons (sndE_var 0) (sndA_cons (sndE_int) (sndA_nil)))) sc__law_ranges.nd) (sndB_one (sndS_expr (sndE_append (sndE_var 1) (sndE_tup (sndA_cons (sndE_ix (sndE_callF0 C__law_signs hr (Nat.le_refl _)) (sndE_var 3)) (sndA_cons (sndE_ix (sndE_callF0 C__law_signs hr (Nat.le_refl _)) (sndE_op op2_Add (sndE_var 3) (sndE_callF C__law_coin hr (Nat.le_refl _) (sndA_cons (sndE_var 0) (sndA_cons (sndE_op op2_Sub (sndE_int) (sndE_var 3)) (sndA_nil)))))) (sndA_nil))))))))))) (sndB_one (sndS_ret (sndE_var 1))))
/-! ### _law_entry -/
abbrev N__law_entry : List Str := ["_law_purse_here", "_law_way"]
theorem sc__law_entry : FnScope ["_law_purse_here", "_law_way"] ["_law_purse_here"] (defScope s__law_entry) := ⟨rfl, rfl, rfl, by decide +kernel, rfl, by decide +kernel, by decide +kernel⟩
noncomputable def b__law_entry (g__law_ranges : Fn) (g__law_sign : Fn) (g__law_coin : Fn) : Sm := sSeq (sSet 1 (mCall g__law_coin (mCons (mVar 0) (mCons (mC (.int 7)) (mNil))))) (sSeq (sIf (toT (m2 gLt (mVar 1) (mC (.int 2)))) (sRet (mTup (mCons (mC (.str "lot")) (mNil)))) (sNext)) (sSeq (sIf (toT (m2 gEq (mVar 1) (mC (.int 2)))) (sRet (mTup (mCons (mC (.str "any")) (mNil)))) (sNext)) (sSeq (sIf (toT (m2 gLt (mVar 1) (mC (.int 5)))) (sRet (mTup (mCons (mC (.str "one")) (mCons (mCall g__law_sign (mCons (mVar 0) (mNil))) (mNil))))) (sNext)) (sRet (mTup (mCons (mC (.str "of")) (mCons (m2 gEq (mVar 1) (mC (.int 5))) (mCons (mCall g__law_ranges (mCons (mVar 0) (mNil))) (mNil)))))))))
theorem ok__law_entry (Bl : BlT mg) (Gs : GsT K mg) (D : DefAt K mg "_law_entry" s__law_entry) {g__law_ranges : Fn} (C__law_ranges : CalF P w K mg base k "_law_ranges" s__law_ranges ["_law_purse_here"] g__law_ranges) {g__law_sign : Fn} (C__law_sign : CalF P w K mg base k "_law_sign" s__law_sign ["_law_purse_here"] g__law_sign) {g__law_coin : Fn} (C__law_coin : CalF P w K mg base k "_law_coin" s__law_coin ["_law_purse_here", "_law_many"] g__law_coin) : CalF P w K mg base (k + 1) "_law_entry" s__law_entry ["_law_purse_here"] (runBody 2 1 (b__law_entry g__law_ranges g__law_sign g__law_coin)) :=
  calF_of D sc__law_entry (fun _ _ _ _ _ _ us hl => match us, hl with | [_], _ => rfl) fun f cdv A outer s H E hr =>
  sndB_cons (sndS_set (i := 1) (sndE_callF C__law_coin hr (Nat.le_refl _) (sndA_cons (sndE_var 0) (sndA_cons (sndE_int) (sndA_nil)))) sc__law_entry.nd) (sndB_cons (sndS_if (sndT_cmp op2_Lt (sndE_var 1) (sndE_int)) (sndB_one (sndS_ret (sndE_tup (sndA_cons (sndE_str) (sndA_nil))))) (sndB_nil)) (sndB_cons (sndS_if (sndT_cmp (op2_eq hr.units) (sndE_var 1) (sndE_int)) (sndB_one (sndS_ret (sndE_tup (sndA_cons (sndE_str) (sndA_nil))))) (sndB_nil)) (sndB_cons (sndS_if (sndT_cmp op2_Lt (sndE_var 1) (sndE_int)) (sndB_one (sndS_ret (sndE_tup (sndA_cons (sndE_str) (sndA_cons (sndE_callF C__law_sign hr (Nat.le_refl _) (sndA_cons (sndE_var 0) (sndA_nil))) (sndA_nil)))))) (sndB_nil)) (sndB_one (sndS_ret (sndE_tup (sndA_cons (sndE_str) (sndA_cons (sndE_cmp (op2_eq hr.units) (sndE_var 1) (sndE_int)) (sndA_cons (sndE_callF C__law_ranges hr (Nat.le_refl _) (sndA_cons (sndE_var 0) (sndA_nil))) (sndA_nil))))))))))
/-! ### _law_takes -/
abbrev N__law_takes : List Str := ["_law_part", "_law_sign_here", "_law_low", "_law_high"]
theorem sc__law_takes : FnScope ["_law_part", "_law_sign_here", "_law_low", "_law_high"] ["_law_part", "_law_sign_here"] (defScope s__law_takes) := ⟨rfl, rfl, rfl, by decide +kernel, rfl, by decide +kernel, by decide +kernel⟩
noncomputable def lc__law_takes_0 : Ex := mLc (mItV (m2 gIx (mVar 0) (mC (.int 2)))) (bdT (bdCons (bdN 2) (bdCons (bdN 3) (bdNil)))) (mAnd (toT (m2 gLe (mVar 2) (mVar 1))) (toT (m2 gLe (mVar 1) (mVar 3)))) (mC (.int 1)) [2, 3]
noncomputable def b__law_takes : Sm := sSeq (sIf (toT (m2 gEq (m2 gIx (mVar 0) (mC (.int 0))) (mC (.str "one")))) (sRet (m2 gEq (m2 gIx (mVar 0) (mC (.int 1))) (mVar 1))) (sNext)) (sSeq (sIf (toT (m2 gEq (m2 gIx (mVar 0) (mC (.int 0))) (mC (.str "of")))) (sRet (m2 gNe (m2 gNe (lc__law_takes_0) (mLst (mNil))) (m2 gIx (mVar 0) (mC (.int 1))))) (sNext)) (sRet (mC (.bl true))))
theorem ok__law_takes (Bl : BlT mg) (Gs : GsT K mg) (D : DefAt K mg "_law_takes" s__law_takes) : CalF P w K mg base (k + 1) "_law_takes" s__law_takes ["_law_part", "_law_sign_here"] (runBody 4 2 (b__law_takes)) :=
  calF_of D sc__law_takes (fun _ _ _ _ _ _ us hl => match us, hl with | [_, _], _ => rfl) fun f cdv A outer s H E hr =>
  sndB_cons (sndS_if (sndT_cmp (op2_eq hr.units) (sndE_ix (sndE_var 0) (sndE_int)) (sndE_str)) (sndB_one (sndS_ret (sndE_cmp (op2_eq hr.units) (sndE_ix (sndE_var 0) (sndE_int)) (sndE_var 1)))) (sndB_nil)) (sndB_cons (sndS_if (sndT_cmp (op2_eq hr.units) (sndE_ix (sndE_var 0) (sndE_int)) (sndE_str)) (sndB_one (sndS_ret (sndE_cmp (op2_ne hr.units) (sndE_cmp (op2_ne hr.units) (sndE_lc (own := [("_law_low", 2), ("_law_high", 3)]) rfl sc__law_takes.nd (blkOk_by (by change blkC N__law_takes (defScope s__law_takes) _ [("_law_low", 2), ("_law_high", 3)] = true; decide +kernel)) (sndI_val (sndE_ix (sndE_var 0) (sndE_int))) (fun _ _ _ _ _ => sndG_tup rfl (sndGs_cons (sndG_name (k := 2) sc__law_takes.nd) (sndGs_cons (sndG_name (k := 3) sc__law_takes.nd) (sndGs_nil))) (n := 2) (bdCons_len (bdCons_len (fun _ _ h => bdNil_len h)))) (fun _ _ _ _ _ => sndTs_one (sndT_of (sndW_and (sndT_cmp op2_Le (sndE_var 2) (sndE_var 1)) (sndW_and1 (sndT_cmp op2_Le (sndE_var 1) (sndE_var 3)))))) (fun _ _ _ _ _ => sndE_int)) (sndE_lst (sndA_nil))) (sndE_ix (sndE_var 0) (sndE_int))))) (sndB_nil)) (sndB_one (sndS_ret (sndE_bl))))
/-! ### _law_lengths -/
abbrev N__law_lengths : List Str := ["_law_row", "_law_line_here", "_law_ends", "_law_part", "_law_at"]
theorem sc__law_lengths : FnScope ["_law_row", "_law_line_here", "_law_ends", "_law_part", "_law_at"] ["_law_row", "_law_line_here"] (defScope s__law_lengths) := ⟨rfl, rfl, rfl, by decide +kernel, rfl, by decide +kernel, by decide +kernel⟩
noncomputable def lc__law_lengths_0 : Ex := mLc (mRange1 (mCons (m2 gAdd (m1 gLen (mVar 1)) (mC (.int 1))) (mNil))) (bdN 4) (mAnd (toT (m2 gNe (mVar 2) (mLst (mNil)))) (toT (m2 gGe (mVar 4) (m2 gIx (mVar 2) (mC (.int 0)))))) (mVar 4) [4]
noncomputable def lc__law_lengths_1 (g__law_takes : Fn) : Ex := mLc (mItV (mVar 2)) (bdN 4) (mAnd (toT (m2 gLt (mVar 4) (m1 gLen (mVar 1)))) (mTru (mCall g__law_takes (mCons (mVar 3) (mCons (m2 gIx (mVar 1) (mVar 4)) (mNil)))))) (m2 gAdd (mVar 4) (mC (.int 1))) [4]
noncomputable def lp__law_lengths_0 (g__law_takes : Fn) : Sm := sIf (toT (m2 gEq (m2 gIx (mVar 3) (mC (.int 0))) (mC (.str "lot")))) (sSet 2 (lc__law_lengths_0)) (sSet 2 (lc__law_lengths_1 g__law_takes))
noncomputable def b__law_lengths (g__law_takes : Fn) : Sm := sSeq (sSet 2 (mLst (mCons (mC (.int 0)) (mNil)))) (sSeq (sFor (mItV (mVar 0)) (bdN 3) (lp__law_lengths_0 g__law_takes)) (sRet (mVar 2)))
theorem ok__law_lengths (Bl : BlT mg) (Gs : GsT K mg) (D : DefAt K mg "_law_lengths" s__law_lengths) {g__law_takes : Fn} (C__law_takes : CalF P w K mg base k "_law_takes" s__law_takes ["_law_part", "_law_sign_here"] g__law_takes) : CalF P w K mg base (k + 1) "_law_lengths" s__law_lengths ["_law_row", "_law_line_here"] (runBody 5 2 (b__law_lengths g__law_takes)) :=
  calF_of D sc__law_lengths (fun _ _ _ _ _ _ us hl => match us, hl with | [_, _], _ => rfl) fun f cdv A outer s H E hr =>
  sndB_cons (sndS_set (i := 2) (sndE_lst (sndA_cons (sndE_int) (sndA_nil))) sc__law_lengths.nd) (sndB_cons (sndS_for PassesOwn.never rfl (sndI_val (sndE_var 0)) (sndG_name (k := 3) sc__law_lengths.nd) (sndB_one (sndS_if (sndT_cmp (op2_eq hr.units) (sndE_ix (sndE_var 3) (sndE_int)) (sndE_str)) (sndB_one (sndS_set (i := 2) (sndE_lc (own := [("_law_at", 4)]) rfl sc__law_lengths.nd (blkOk_by (by change blkC N__law_lengths (defScope s__law_lengths) _ [("_law_at", 4)] = true; decide +kernel)) (sndI_range1 Bl.range_ (sndA_cons (sndE_op op2_Add (sndE_b1 call1_len Bl.len_ PySem.boot_len (sndE_var 1)) (sndE_int)) (sndA_nil))) (fun _ _ _ _ _ => sndG_name (k := 4) sc__law_lengths.nd) (fun _ _ _ _ _ => sndTs_one (sndT_of (sndW_and (sndT_cmp (op2_ne hr.units) (sndE_var 2) (sndE_lst (sndA_nil))) (sndW_and1 (sndT_cmp op2_Ge (sndE_var 4) (sndE_ix (sndE_var 2) (sndE_int))))))) (fun _ _ _ _ _ => sndE_var 4)) sc__law_lengths.nd)) (sndB_one (sndS_set (i := 2) (sndE_lc (own := [("_law_at", 4)]) rfl sc__law_lengths.nd (blkOk_by (by change blkC N__law_lengths (defScope s__law_lengths) _ [("_law_at", 4)] = true; decide +kernel)) (sndI_val (sndE_var 2)) (fun _ _ _ _ _ => sndG_name (k := 4) sc__law_lengths.nd) (fun _ _ _ _ _ => sndTs_one (sndT_of (sndW_and (sndT_cmp op2_Lt (sndE_var 4) (sndE_b1 call1_len Bl.len_ PySem.boot_len (sndE_var 1))) (sndW_and1 (sndT_tru (sndE_callF C__law_takes hr (Nat.le_refl _) (sndA_cons (sndE_var 3) (sndA_cons (sndE_ix (sndE_var 1) (sndE_var 4)) (sndA_nil))))))))) (fun _ _ _ _ _ => sndE_op op2_Add (sndE_var 4) (sndE_int))) sc__law_lengths.nd))))) (sndB_one (sndS_ret (sndE_var 2))))
/-! ### _law_line -/
abbrev N__law_line : List Str := ["_law_purse_here", "_law_row", "_law_line_here", "_law_part", "_law_some", "_law_sign_here", "_law_turn"]
theorem sc__law_line : FnScope ["_law_purse_here", "_law_row", "_law_line_here", "_law_part", "_law_some", "_law_sign_here", "_law_turn"] ["_law_purse_here", "_law_row"] (defScope s__law_line) := ⟨rfl, rfl, rfl, by decide +kernel, rfl, by decide +kernel, by decide +kernel⟩
noncomputable def lc__law_line_0 (g__law_coin : Fn) (g__law_sign : Fn) : Ex := mLc (mRange1 (mCons (mCall g__law_coin (mCons (mVar 0) (mCons (mC (.int 3)) (mNil)))) (mNil))) (bdN 6) (mYes) (mCall g__law_sign (mCons (mVar 0) (mNil))) [6]
noncomputable def lc__law_line_1 (g__law_signs : Fn) (g__law_takes : Fn) : Ex := mLc (mItV (mCall g__law_signs mNil)) (bdN 5) (mTru (mCall g__law_takes (mCons (mVar 3) (mCons (mVar 5) (mNil))))) (mVar 5) [5]
noncomputable def lp__law_line_0 (g__law_coin : Fn) (g__law_sign : Fn) (g__law_signs : Fn) (g__law_takes : Fn) : Sm := sIf (toT (m2 gEq (m2 gIx (mVar 3) (mC (.int 0))) (mC (.str "lot")))) (sSet 2 (m2 gAdd (mVar 2) (mM gJoin (mC (.str "")) (mCons (lc__law_line_0 g__law_coin g__law_sign) mNil)))) (sIf (toT (m2 gEq (m2 gIx (mVar 3) (mC (.int 0))) (mC (.str "one")))) (sSet 2 (m2 gAdd (mVar 2) (m2 gIx (mVar 3) (mC (.int 1))))) (sSeq (sSet 4 (lc__law_line_1 g__law_signs g__law_takes)) (sIf (toT (m2 gNe (mVar 4) (mLst (mNil)))) (sSet 2 (m2 gAdd (mVar 2) (m2 gIx (mVar 4) (mCall g__law_coin (mCons (mVar 0) (mCons (m1 gLen (mVar 4)) (mNil))))))) (sNext))))
noncomputable def b__law_line (g__law_coin : Fn) (g__law_sign : Fn) (g__law_signs : Fn) (g__law_takes : Fn) : Sm := sSeq (sSet 2 (mC (.str ""))) (sSeq (sFor (mItV (mVar 1)) (bdN 3) (lp__law_line_0 g__law_coin g__law_sign g__law_signs g__law_takes)) (sRet (mVar 2)))
theorem ok__law_line (Bl : BlT mg) (Gs : GsT K mg) (D : DefAt K mg "_law_line" s__law_line) {g__law_coin : Fn} (C__law_coin : CalF P w K mg base k "_law_coin" s__law_coin ["_law_purse_here", "_law_many"] g__law_coin) {g__law_sign : Fn} (C__law_sign : CalF P w K mg base k "_law_sign" s__law_sign ["_law_purse_here"] g__law_sign) {g__law_signs : Fn} (C__law_signs : CalF P w K mg base k "_law_signs" s__law_signs [] g__law_signs) {g__law_takes : Fn} (C__law_takes : CalF P w K mg base k "_law_takes" s__law_takes ["_law_part", "_law_sign_here"] g__law_takes) : CalF P w K mg base (k + 1) "_law_line" s__law_line ["_law_purse_here", "_law_row"] (runBody 7 2 (b__law_line g__law_coin g__law_sign g__law_signs g__law_takes)) :=
  calF_of D sc__law_line (fun _ _ _ _ _ _ us hl => match us, hl with | [_, _], _ => rfl) fun f cdv A outer s H E hr =>
  sndB_cons (sndS_set (i := 2) (sndE_str) sc__law_line.nd) (sndB_cons (sndS_for PassesOwn.never rfl (sndI_val (sndE_var 1)) (sndG_name (k := 3) sc__law_line.nd) (sndB_one (sndS_if (sndT_cmp (op2_eq hr.units) (sndE_ix (sndE_var 3) (sndE_int)) (sndE_str)) (sndB_one (sndS_set (i := 2) (sndE_op op2_Add (sndE_var 2) (sndE_m1 PySem.F.slot_str_join PySem.F.type_str_join meth_join (sndE_str) (sndE_lc (own := [("_law_turn", 6)]) rfl sc__law_line.nd (blkOk_by (by change blkC N__law_line (defScope s__law_line) _ [("_law_turn", 6)] = true; decide +kernel)) (sndI_range1 Bl.range_ (sndA_cons (sndE_callF C__law_coin hr (Nat.le_refl _) (sndA_cons (sndE_var 0) (sndA_cons (sndE_int) (sndA_nil)))) (sndA_nil))) (fun _ _ _ _ _ => sndG_name (k := 6) sc__law_line.nd) (fun _ _ _ _ _ => sndTs_nil) (fun _ _ _ _ _ => sndE_callF C__law_sign hr (Nat.le_refl _) (sndA_cons (sndE_var 0) (sndA_nil)))))) sc__law_line.nd)) (sndB_one (sndS_if (sndT_cmp (op2_eq hr.units) (sndE_ix (sndE_var 3) (sndE_int)) (sndE_str)) (sndB_one (sndS_set (i := 2) (sndE_op op2_Add (sndE_var 2) (sndE_ix (sndE_var 3) (sndE_int))) sc__law_line.nd)) (sndB_cons (sndS_setLc (k := 4) (own := [("_law_sign_here", 5)]) rfl sc__law_line.nd (blkOk_by (by change blkC N__law_line (defScope s__law_line) _ [("_law_sign_here", 5)] = true; decide +kernel)) (sndI_val (sndE_callF0 C__law_signs hr (Nat.le_refl _))) (fun _ _ _ _ _ => sndG_name (k := 5) sc__law_line.nd) (fun _ _ _ _ _ => sndTs_one (sndT_tru (sndE_callF C__law_takes hr (Nat.le_refl _) (sndA_cons (sndE_var 3) (sndA_cons (sndE_var 5) (sndA_nil)))))) (fun _ _ _ _ _ => sndE_var 5)) (sndB_one (sndS_if (sndT_cmp (op2_ne hr.units) (sndE_var 4) (sndE_lst (sndA_nil))) (sndB_one (sndS_set (i := 2) (sndE_op op2_Add (sndE_var 2) (sndE_ix (sndE_var 4) (sndE_callF C__law_coin hr (Nat.le_refl _) (sndA_cons (sndE_var 0) (sndA_cons (sndE_b1 call1_len Bl.len_ PySem.boot_len (sndE_var 4)) (sndA_nil)))))) sc__law_line.nd)) (sndB_nil))))))))) (sndB_one (sndS_ret (sndE_var 2))))
/-! ### _law_bent -/
abbrev N__law_bent : List Str := ["_law_purse_here", "_law_line_here", "_law_way", "_law_place"]
theorem sc__law_bent : FnScope ["_law_purse_here", "_law_line_here", "_law_way", "_law_place"] ["_law_purse_here", "_law_line_here"] (defScope s__law_bent) := ⟨rfl, rfl, rfl, by decide +kernel, rfl, by decide +kernel, by decide +kernel⟩
noncomputable def b__law_bent (g__law_sign : Fn) (g__law_coin : Fn) : Sm := sSeq (sSet 2 (mCall g__law_coin (mCons (mVar 0) (mCons (mC (.int 5)) (mNil))))) (sSeq (sSet 3 (mCall g__law_coin (mCons (mVar 0) (mCons (m2 gAdd (m1 gLen (mVar 1)) (mC (.int 1))) (mNil))))) (sSeq (sIf (toT (m2 gLt (mVar 2) (mC (.int 2)))) (sRet (mVar 1)) (sNext)) (sRet (m2 gAdd (m2 gAdd (mSl (mVar 1) mNoPart (mPart (mVar 3))) (m2 gIx (mLst (mCons (mC (.str "")) (mCons (mCall g__law_sign (mCons (mVar 0) (mNil))) (mCons (mCall g__law_sign (mCons (mVar 0) (mNil))) (mNil))))) (m2 gSub (mVar 2) (mC (.int 2))))) (mSl (mVar 1) (mPart (m2 gAdd (mVar 3) (m2 gIx (mLst (mCons (mC (.int 1)) (mCons (mC (.int 0)) (mCons (mC (.int 1)) (mNil))))) (m2 gSub (mVar 2) (mC (.int 2)))))) mNoPart)))))
theorem ok__law_bent (Bl : BlT mg) (Gs : GsT K mg) (D : DefAt K mg "_law_bent" s__law_bent) {g__law_sign : Fn} (C__law_sign : CalF P w K mg base k "_law_sign" s__law_sign ["_law_purse_here"] g__law_sign) {g__law_coin : Fn} (C__law_coin : CalF P w K mg base k "_law_coin" s__law_coin ["_law_purse_here", "_law_many"] g__law_coin) : CalF P w K mg base (k + 1) "_law_bent" s__law_bent ["_law_purse_here", "_law_line_here"] (runBody 4 2 (b__law_bent g__law_sign g__law_coin)) :=
  calF_of D sc__law_bent (fun _ _ _ _ _ _ us hl => match us, hl with | [_, _], _ => rfl) fun f cdv A outer s H E hr =>
  sndB_cons (sndS_set (i := 2) (sndE_callF C__law_coin hr (Nat.le_refl _) (sndA_cons (sndE_var 0) (sndA_cons (sndE_int) (sndA_nil)))) sc__law_bent.nd) (sndB_cons (sndS_set (i := 3) (sndE_callF C__law_coin hr (Nat.le_refl _) (sndA_cons (sndE_var 0) (sndA_cons (sndE_op op2_Add (sndE_b1 call1_len Bl.len_ PySem.boot_len (sndE_var 1)) (sndE_int)) (sndA_nil)))) sc__law_bent.nd) (sndB_cons (sndS_if (sndT_cmp op2_Lt (sndE_var 2) (sndE_int)) (sndB_one (sndS_ret (sndE_var 1))) (sndB_nil)) (sndB_one (sndS_ret (sndE_op op2_Add (sndE_op op2_Add (sndE_sl (sndE_var 1) sndO_none (sndO_some (sndE_var 3))) (sndE_ix (sndE_lst (sndA_cons (sndE_str) (sndA_cons (sndE_callF C__law_sign hr (Nat.le_refl _) (sndA_cons (sndE_var 0) (sndA_nil))) (sndA_cons (sndE_callF C__law_sign hr (Nat.le_refl _) (sndA_cons (sndE_var 0) (sndA_nil))) (sndA_nil))))) (sndE_op op2_Sub (sndE_var 2) (sndE_int)))) (sndE_sl (sndE_var 1) (sndO_some (sndE_op op2_Add (sndE_var 3) (sndE_ix (sndE_lst (sndA_cons (sndE_int) (sndA_cons (sndE_int) (sndA_cons (sndE_int) (sndA_nil))))) (sndE_op op2_Sub (sndE_var 2) (sndE_int))))) sndO_none))))))
/-! ### _law_are_lengths -/
abbrev N__law_are_lengths : List Str := ["_law_found", "_law_line_here", "_law_at"]
theorem sc__law_are_lengths : FnScope ["_law_found", "_law_line_here", "_law_at"] ["_law_found", "_law_line_here"] (defScope s__law_are_lengths) := ⟨rfl, rfl, rfl, by decide +kernel, rfl, by decide +kernel, by decide +kernel⟩
noncomputable def lc__law_are_lengths_0 : Ex := mLc (mRange1 (mCons (m2 gAdd (m1 gLen (mVar 1)) (mC (.int 1))) (mNil))) (bdN 2) (toT (m2 (gIn false) (mVar 2) (mVar 0))) (mVar 2) [2]
noncomputable def lc__law_are_lengths_1 : Ex := mLc (mItV (mVar 0)) (bdN 2) (mOr (mNot (mTru (m1 (gIsi "int") (mVar 2)))) (mTru (m1 (gIsi "bool") (mVar 2)))) (mVar 2) [2]
noncomputable def b__law_are_lengths : Sm := sSeq (sIf (mNot (mTru (m1 (gIsi "list") (mVar 0)))) (sRet (mC (.bl false))) (sNext)) (sSeq (sIf (toT (m2 gNe (lc__law_are_lengths_1) (mLst (mNil)))) (sRet (mC (.bl false))) (sNext)) (sRet (m2 gEq (mVar 0) (lc__law_are_lengths_0))))
theorem ok__law_are_lengths (Bl : BlT mg) (Gs : GsT K mg) (D : DefAt K mg "_law_are_lengths" s__law_are_lengths) : CalF P w K mg base (k + 1) "_law_are_lengths" s__law_are_lengths ["_law_found", "_law_line_here"] (runBody 3 2 (b__law_are_lengths)) :=
  calF_of D sc__law_are_lengths (fun _ _ _ _ _ _ us hl => match us, hl with | [_, _], _ => rfl) fun f cdv A outer s H E hr =>
  sndB_cons (sndS_if (sndT_not (sndT_tru (sndE_isi Bl.isinstance Bl.list_ (by decide +kernel) (sndE_var 0)))) (sndB_one (sndS_ret (sndE_bl))) (sndB_nil)) (sndB_cons (sndS_if (sndT_cmp (op2_ne hr.units) (sndE_lc (own := [("_law_at", 2)]) rfl sc__law_are_lengths.nd (blkOk_by (by change blkC N__law_are_lengths (defScope s__law_are_lengths) _ [("_law_at", 2)] = true; decide +kernel)) (sndI_val (sndE_var 0)) (fun _ _ _ _ _ => sndG_name (k := 2) sc__law_are_lengths.nd) (fun _ _ _ _ _ => sndTs_one (sndT_of (sndW_or (sndT_not (sndT_tru (sndE_isi Bl.isinstance Bl.int_ (by decide +kernel) (sndE_var 2)))) (sndW_or1 (sndT_tru (sndE_isi Bl.isinstance Bl.bool_ (by decide +kernel) (sndE_var 2))))))) (fun _ _ _ _ _ => sndE_var 2)) (sndE_lst (sndA_nil))) (sndB_one (sndS_ret (sndE_bl))) (sndB_nil)) (sndB_one (sndS_ret (sndE_cmp (op2_eq hr.units) (sndE_var 0) (sndE_lc (own := [("_law_at", 2)]) rfl sc__law_are_lengths.nd (blkOk_by (by change blkC N__law_are_lengths (defScope s__law_are_lengths) _ [("_law_at", 2)] = true; decide +kernel)) (sndI_range1 Bl.range_ (sndA_cons (sndE_op op2_Add (sndE_b1 call1_len Bl.len_ PySem.boot_len (sndE_var 1)) (sndE_int)) (sndA_nil))) (fun _ _ _ _ _ => sndG_name (k := 2) sc__law_are_lengths.nd) (fun _ _ _ _ _ => sndTs_one (sndT_cmp op2_in (sndE_var 2) (sndE_var 0))) (fun _ _ _ _ _ => sndE_var 2))))))
/-! ### _law_joins -/
abbrev N__law_joins : List Str := ["_law_ahead", "_law_row", "_law_line_here", "_law_first", "_law_ends", "_law_due", "_law_at", "_law_rest", "_law_whole", "_law_turned", "_law_from_first_on", "_law_more"]
theorem sc__law_joins : FnScope ["_law_ahead", "_law_row", "_law_line_here", "_law_first", "_law_ends", "_law_due", "_law_at", "_law_rest", "_law_whole", "_law_turned", "_law_from_first_on", "_law_more"] ["_law_ahead", "_law_row", "_law_line_here"] (defScope s__law_joins) := ⟨rfl, rfl, rfl, by decide +kernel, rfl, by decide +kernel, by decide +kernel⟩
noncomputable def lc__law_joins_0 : Ex := mLc (mRange1 (mCons (m2 gAdd (m1 gLen (mVar 2)) (mC (.int 1))) (mNil))) (bdN 6) (mAnd (toT (m2 gNe (mVar 3) (mLst (mNil)))) (toT (m2 gGe (mVar 6) (m2 gIx (mVar 3) (mC (.int 0)))))) (mVar 6) [6]
noncomputable def lc__law_joins_1 : Ex := mLc (mItV (mVar 3)) (bdN 6) (toT (m2 (gIn false) (m2 gSub (m1 gLen (mVar 2)) (mVar 6)) (mVar 4))) (mVar 6) [6]
noncomputable def lc__law_joins_2 : Ex := mLc (mItV (mVar 7)) (bdN 11) (mYes) (m2 gAdd (mVar 6) (mVar 11)) [11]
noncomputable def lp__law_joins_0 (g_heads : Fn) (g__law_are_lengths : Fn) : Sm := sSeq (sSet 7 (mCall g_heads (mCons (mVar 1) (mCons (mSl (mVar 2) (mPart (mVar 6)) mNoPart) (mNil))))) (sSeq (sIf (mNot (mTru (mCall g__law_are_lengths (mCons (mVar 7) (mCons (mSl (mVar 2) (mPart (mVar 6)) mNoPart) (mNil)))))) (sRet (mC (.bl false))) (sNext)) (sSet 5 (m2 gAdd (mVar 5) (lc__law_joins_2))))
noncomputable def b__law_joins (g__law_same : Fn) (g_heads : Fn) (g_tails : Fn) (g_meets : Fn) (g__law_are_lengths : Fn) : Sm := sSeq (sSet 3 (mCall g_heads (mCons (mVar 0) (mCons (mVar 2) (mNil))))) (sSeq (sSet 4 (mCall g_tails (mCons (mVar 1) (mCons (mVar 2) (mNil))))) (sSeq (sIf (mOr (mNot (mTru (mCall g__law_are_lengths (mCons (mVar 3) (mCons (mVar 2) (mNil)))))) (mNot (mTru (mCall g__law_are_lengths (mCons (mVar 4) (mCons (mVar 2) (mNil))))))) (sRet (mC (.bl false))) (sNext)) (sSeq (sSet 5 (mLst (mNil))) (sSeq (sFor (mItV (mVar 3)) (bdN 6) (lp__law_joins_0 g_heads g__law_are_lengths)) (sSeq (sIf (mNot (mTru (mCall g__law_same (mCons (mCall g_heads (mCons (m2 gAdd (mVar 0) (mVar 1)) (mCons (mVar 2) (mNil)))) (mCons (m1 gSortSet (mVar 5)) (mNil)))))) (sRet (mC (.bl false))) (sNext)) (sSeq (sSet 8 (m2 gNe (lc__law_joins_1) (mLst (mNil)))) (sSeq (sIf (mNot (mTru (mCall g__law_same (mCons (mCall g_meets (mCons (m2 gAdd (mVar 0) (mVar 1)) (mCons (mVar 2) (mNil)))) (mCons (mVar 8) (mNil)))))) (sRet (mC (.bl false))) (sNext)) (sSeq (sSet 9 (mCall g_tails (mCons (mRevA (m2 gAdd (mVar 0) (mVar 1))) (mCons (mRevA (mVar 2)) (mNil))))) (sSeq (sIf (mNot (mTru (mCall g__law_same (mCons (mVar 9) (mCons (m1 gSortSet (mVar 5)) (mNil)))))) (sRet (mC (.bl false))) (sNext)) (sSeq (sSet 10 (lc__law_joins_0)) (sRet (mCall g__law_same (mCons (mCall g_heads (mCons (m2 gAdd (mVar 0) (mLst (mCons (mTup (mCons (mC (.str "lot")) (mNil))) (mNil)))) (mCons (mVar 2) (mNil)))) (mCons (mVar 10) (mNil)))))))))))))))
theorem ok__law_joins (Bl : BlT mg) (Gs : GsT K mg) (D : DefAt K mg "_law_joins" s__law_joins) {g__law_same : Fn} (C__law_same : CalF P w K mg base k "_law_same" s__law_same ["_law_found", "_law_due"] g__law_same) {g_heads : Fn} (C_heads : CalF P w K mg base k "heads" s_heads ["pattern", "text"] g_heads) {g_tails : Fn} (C_tails : CalF P w K mg base k "tails" s_tails ["pattern", "text"] g_tails) {g_meets : Fn} (C_meets : CalF P w K mg base k "meets" s_meets ["pattern", "text"] g_meets) {g__law_are_lengths : Fn} (C__law_are_lengths : CalF P w K mg base k "_law_are_lengths" s__law_are_lengths ["_law_found", "_law_line_here"] g__law_are_lengths) : CalF P w K mg base (k + 1) "_law_joins" s__law_joins ["_law_ahead", "_law_row", "_law_line_here"] (runBody 12 3 (b__law_joins g__law_same g_heads g_tails g_meets g__law_are_lengths)) :=
  calF_of D sc__law_joins (fun _ _ _ _ _ _ us hl => match us, hl with | [_, _, _], _ => rfl) fun f cdv A outer s H E hr =>
  sndB_cons (sndS_set (i := 3) (sndE_callF C_heads hr (Nat.le_refl _) (sndA_cons (sndE_var 0) (sndA_cons (sndE_var 2) (sndA_nil)))) sc__law_joins.nd) (sndB_cons (sndS_set (i := 4) (sndE_callF C_tails hr (Nat.le_refl _) (sndA_cons (sndE_var 1) (sndA_cons (sndE_var 2) (sndA_nil)))) sc__law_joins.nd) (sndB_cons (sndS_if (sndT_of (sndW_or (sndT_not (sndT_tru (sndE_callF C__law_are_lengths hr (Nat.le_refl _) (sndA_cons (sndE_var 3) (sndA_cons (sndE_var 2) (sndA_nil)))))) (sndW_or1 (sndT_not (sndT_tru (sndE_callF C__law_are_lengths hr (Nat.le_refl _) (sndA_cons (sndE_var 4) (sndA_cons (sndE_var 2) (sndA_nil))))))))) (sndB_one (sndS_ret (sndE_bl))) (sndB_nil)) (sndB_cons (sndS_set (i := 5) (sndE_lst (sndA_nil)) sc__law_joins.nd) (sndB_cons (sndS_for PassesOwn.never rfl (sndI_val (sndE_var 3)) (sndG_name (k := 6) sc__law_joins.nd) (sndB_cons (sndS_set (i := 7) (sndE_callF C_heads hr (Nat.le_refl _) (sndA_cons (sndE_var 1) (sndA_cons (sndE_sl (sndE_var 2) (sndO_some (sndE_var 6)) sndO_none) (sndA_nil)))) sc__law_joins.nd) (sndB_cons (sndS_if (sndT_not (sndT_tru (sndE_callF C__law_are_lengths hr (Nat.le_refl _) (sndA_cons (sndE_var 7) (sndA_cons (sndE_sl (sndE_var 2) (sndO_some (sndE_var 6)) sndO_none) (sndA_nil)))))) (sndB_one (sndS_ret (sndE_bl))) (sndB_nil)) (sndB_one (sndS_set (i := 5) (sndE_op op2_Add (sndE_var 5) (sndE_lc (own := [("_law_more", 11)]) rfl sc__law_joins.nd (blkOk_by (by change blkC N__law_joins (defScope s__law_joins) _ [("_law_more", 11)] = true; decide +kernel)) (sndI_val (sndE_var 7)) (fun _ _ _ _ _ => sndG_name (k := 11) sc__law_joins.nd) (fun _ _ _ _ _ => sndTs_nil) (fun _ _ _ _ _ => sndE_op op2_Add (sndE_var 6) (sndE_var 11)))) sc__law_joins.nd))))) (sndB_cons (sndS_if (sndT_not (sndT_tru (sndE_callF C__law_same hr (Nat.le_refl _) (sndA_cons (sndE_callF C_heads hr (Nat.le_refl _) (sndA_cons (sndE_op op2_Add (sndE_var 0) (sndE_var 1)) (sndA_cons (sndE_var 2) (sndA_nil)))) (sndA_cons (sndE_sortSet rfl Bl.sorted_ Bl.set_ (sndE_var 5)) (sndA_nil)))))) (sndB_one (sndS_ret (sndE_bl))) (sndB_nil)) (sndB_cons (sndS_set (i := 8) (sndE_cmp (op2_ne hr.units) (sndE_lc (own := [("_law_at", 6)]) rfl sc__law_joins.nd (blkOk_by (by change blkC N__law_joins (defScope s__law_joins) _ [("_law_at", 6)] = true; decide +kernel)) (sndI_val (sndE_var 3)) (fun _ _ _ _ _ => sndG_name (k := 6) sc__law_joins.nd) (fun _ _ _ _ _ => sndTs_one (sndT_cmp op2_in (sndE_op op2_Sub (sndE_b1 call1_len Bl.len_ PySem.boot_len (sndE_var 2)) (sndE_var 6)) (sndE_var 4))) (fun _ _ _ _ _ => sndE_var 6)) (sndE_lst (sndA_nil))) sc__law_joins.nd) (sndB_cons (sndS_if (sndT_not (sndT_tru (sndE_callF C__law_same hr (Nat.le_refl _) (sndA_cons (sndE_callF C_meets hr (Nat.le_refl _) (sndA_cons (sndE_op op2_Add (sndE_var 0) (sndE_var 1)) (sndA_cons (sndE_var 2) (sndA_nil)))) (sndA_cons (sndE_var 8) (sndA_nil)))))) (sndB_one (sndS_ret (sndE_bl))) (sndB_nil)) (sndB_cons (sndS_set (i := 9) (sndE_callF C_tails hr (Nat.le_refl _) (sndA_cons (sndE_revA (sndE_op op2_Add (sndE_var 0) (sndE_var 1))) (sndA_cons (sndE_revA (sndE_var 2)) (sndA_nil)))) sc__law_joins.nd) (sndB_cons (sndS_if (sndT_not (sndT_tru (sndE_callF C__law_same hr (Nat.le_refl _) (sndA_cons (sndE_var 9) (sndA_cons (sndE_sortSet rfl Bl.sorted_ Bl.set_ (sndE_var 5)) (sndA_nil)))))) (sndB_one (sndS_ret (sndE_bl))) (sndB_nil)) (sndB_cons (sndS_setLc (k := 10) (own := [("_law_at", 6)]) rfl sc__law_joins.nd (blkOk_by (by change blkC N__law_joins (defScope s__law_joins) _ [("_law_at", 6)] = true; decide +kernel)) (sndI_range1 Bl.range_ (sndA_cons (sndE_op op2_Add (sndE_b1 call1_len Bl.len_ PySem.boot_len (sndE_var 2)) (sndE_int)) (sndA_nil))) (fun _ _ _ _ _ => sndG_name (k := 6) sc__law_joins.nd) (fun _ _ _ _ _ => sndTs_one (sndT_of (sndW_and (sndT_cmp (op2_ne hr.units) (sndE_var 3) (sndE_lst (sndA_nil))) (sndW_and1 (sndT_cmp op2_Ge (sndE_var 6) (sndE_ix (sndE_var 3) (sndE_int))))))) (fun _ _ _ _ _ => sndE_var 6)) (sndB_one (sndS_ret (sndE_callF C__law_same hr (Nat.le_refl _) (sndA_cons (sndE_callF C_heads hr (Nat.le_refl _) (sndA_cons (sndE_op op2_Add (sndE_var 0) (sndE_lst (sndA_cons (sndE_tup (sndA_cons (sndE_str) (sndA_nil))) (sndA_nil)))) (sndA_cons (sndE_var 2) (sndA_nil)))) (sndA_cons (sndE_var 10) (sndA_nil))))))))))))))))
/-! ### _law_least_joins -/
abbrev N__law_least_joins : List Str := ["_law_ahead", "_law_row", "_law_first", "_law_second"]
theorem sc__law_least_joins : FnScope ["_law_ahead", "_law_row", "_law_first", "_law_second"] ["_law_ahead", "_law_row"] (defScope s__law_least_joins) := ⟨rfl, rfl, rfl, by decide +kernel, rfl, by decide +kernel, by decide +kernel⟩
noncomputable def b__law_least_joins (g__law_same : Fn) (g_least_text : Fn) (g_meets : Fn) : Sm := sSeq (sSet 2 (mCall g_least_text (mCons (mVar 0) (mNil)))) (sSeq (sSet 3 (mCall g_least_text (mCons (mVar 1) (mNil)))) (sSeq (sIf (mOr (toT (m2 (gIs false) (mVar 2) (mC .non))) (toT (m2 (gIs false) (mVar 3) (mC .non)))) (sRet (m2 (gIs false) (mCall g_least_text (mCons (m2 gAdd (mVar 0) (mVar 1)) (mNil))) (mC .non))) (sNext)) (sSeq (sIf (mOr (mNot (mTru (m1 (gIsi "str") (mVar 2)))) (mNot (mTru (m1 (gIsi "str") (mVar 3))))) (sRet (mC (.bl false))) (sNext)) (sRet (mAndV (mCall g__law_same (mCons (mCall g_least_text (mCons (m2 gAdd (mVar 0) (mVar 1)) (mNil))) (mCons (m2 gAdd (mVar 2) (mVar 3)) (mNil)))) (m2 (gIs false) (mCall g_meets (mCons (m2 gAdd (mVar 0) (mVar 1)) (mCons (m2 gAdd (mVar 2) (mVar 3)) (mNil)))) (mC (.bl true))))))))
theorem ok__law_least_joins (Bl : BlT mg) (Gs : GsT K mg) (D : DefAt K mg "_law_least_joins" s__law_least_joins) {g__law_same : Fn} (C__law_same : CalF P w K mg base k "_law_same" s__law_same ["_law_found", "_law_due"] g__law_same) {g_least_text : Fn} (C_least_text : CalF P w K mg base k "least_text" s_least_text ["pattern"] g_least_text) {g_meets : Fn} (C_meets : CalF P w K mg base k "meets" s_meets ["pattern", "text"] g_meets) : CalF P w K mg base (k + 1) "_law_least_joins" s__law_least_joins ["_law_ahead", "_law_row"] (runBody 4 2 (b__law_least_joins g__law_same g_least_text g_meets)) :=
  calF_of D sc__law_least_joins (fun _ _ _ _ _ _ us hl => match us, hl with | [_, _], _ => rfl) fun f cdv A outer s H E hr =>
  sndB_cons (sndS_set (i := 2) (sndE_callF C_least_text hr (Nat.le_refl _) (sndA_cons (sndE_var 0) (sndA_nil))) sc__law_least_joins.nd) (sndB_cons (sndS_set (i := 3) (sndE_callF C_least_text hr (Nat.le_refl _) (sndA_cons (sndE_var 1) (sndA_nil))) sc__law_least_joins.nd) (sndB_cons (sndS_if (sndT_of (sndW_or (sndT_cmp op2_is (sndE_var 2) (sndE_non)) (sndW_or1 (sndT_cmp op2_is (sndE_var 3) (sndE_non))))) (sndB_one (sndS_ret (sndE_cmp op2_is (sndE_callF C_least_text hr (Nat.le_refl _) (sndA_cons (sndE_op op2_Add (sndE_var 0) (sndE_var 1)) (sndA_nil))) (sndE_non)))) (sndB_nil)) (sndB_cons (sndS_if (sndT_of (sndW_or (sndT_not (sndT_tru (sndE_isi Bl.isinstance Bl.str_ (by decide +kernel) (sndE_var 2)))) (sndW_or1 (sndT_not (sndT_tru (sndE_isi Bl.isinstance Bl.str_ (by decide +kernel) (sndE_var 3))))))) (sndB_one (sndS_ret (sndE_bl))) (sndB_nil)) (sndB_one (sndS_ret (sndE_and (sndE_callF C__law_same hr (Nat.le_refl _) (sndA_cons (sndE_callF C_least_text hr (Nat.le_refl _) (sndA_cons (sndE_op op2_Add (sndE_var 0) (sndE_var 1)) (sndA_nil))) (sndA_cons (sndE_op op2_Add (sndE_var 2) (sndE_var 3)) (sndA_nil)))) (sndE_one (sndE_cmp op2_is (sndE_callF C_meets hr (Nat.le_refl _) (sndA_cons (sndE_op op2_Add (sndE_var 0) (sndE_var 1)) (sndA_cons (sndE_op op2_Add (sndE_var 2) (sndE_var 3)) (sndA_nil)))) (sndE_bl)))))))))
/-! ### law -/
abbrev N_law : List Str := ["_law_script", "_law_ahead", "_law_at", "_law_purse_here", "_law_row", "_law_line_here", "_law_turn"]
theorem sc_law : FnScope ["_law_script", "_law_ahead", "_law_at", "_law_purse_here", "_law_row", "_law_line_here", "_law_turn"] ["_law_script"] (defScope s_law) := ⟨rfl, rfl, rfl, by decide +kernel, rfl, by decide +kernel, by decide +kernel⟩
noncomputable def lc_law_0 (g__law_coin : Fn) (g__law_entry : Fn) : Ex := mLc (mRange1 (mCons (mCall g__law_coin (mCons (mVar 3) (mCons (mC (.int 5)) (mNil)))) (mNil))) (bdN 6) (mYes) (mCall g__law_entry (mCons (mVar 3) (mNil))) [6]
noncomputable def lp_law_0 (g__law_purse : Fn) (g__law_coin : Fn) (g__law_entry : Fn) (g__law_bent : Fn) (g__law_line : Fn) (g__law_joins : Fn) (g__law_least_joins : Fn) : Sm := sSeq (sSet 3 (mCall g__law_purse (mCons (mVar 0) (mCons (mVar 2) (mNil))))) (sSeq (sSet 4 (lc_law_0 g__law_coin g__law_entry)) (sSeq (sSet 5 (mSl (mCall g__law_bent (mCons (mVar 3) (mCons (mCall g__law_line (mCons (mVar 3) (mCons (m2 gAdd (mVar 1) (mVar 4)) (mNil)))) (mNil)))) mNoPart (mPart (mC (.int 10))))) (sSeq (sIf (mOr (mNot (mTru (mCall g__law_joins (mCons (mVar 1) (mCons (mVar 4) (mCons (mVar 5) (mNil))))))) (mNot (mTru (mCall g__law_least_joins (mCons (mVar 1) (mCons (mVar 4) (mNil))))))) (sRet (mC (.bl false))) (sNext)) (sSet 1 (mVar 4)))))
noncomputable def b_law (g__law_joins : Fn) (g__law_least_joins : Fn) (g__law_bent : Fn) (g__law_line : Fn) (g__law_coin : Fn) (g__law_entry : Fn) (g__law_purse : Fn) : Sm := sSeq (sSet 1 (mLst (mNil))) (sSeq (sFor (mRange1 (mCons (mB gMax2 (mCons (mC (.int 1)) (mCons (mB gMin2 (mCons (mC (.int 40)) (mCons (m1 gLen (mVar 0)) (mNil)))) (mNil)))) (mNil))) (bdN 2) (lp_law_0 g__law_purse g__law_coin g__law_entry g__law_bent g__law_line g__law_joins g__law_least_joins)) (sRet (mC (.bl true))))
theorem ok_law (Bl : BlT mg) (Gs : GsT K mg) (D : DefAt K mg "law" s_law) {g__law_joins : Fn} (C__law_joins : CalF P w K mg base k "_law_joins" s__law_joins ["_law_ahead", "_law_row", "_law_line_here"] g__law_joins) {g__law_least_joins : Fn} (C__law_least_joins : CalF P w K mg base k "_law_least_joins" s__law_least_joins ["_law_ahead", "_law_row"] g__law_least_joins) {g__law_bent : Fn} (C__law_bent : CalF P w K mg base k "_law_bent" s__law_bent ["_law_purse_here", "_law_line_here"] g__law_bent) {g__law_line : Fn} (C__law_line : CalF P w K mg base k "_law_line" s__law_line ["_law_purse_here", "_law_row"] g__law_line) {g__law_coin : Fn} (C__law_coin : CalF P w K mg base k "_law_coin" s__law_coin ["_law_purse_here", "_law_many"] g__law_coin) {g__law_entry : Fn} (C__law_entry : CalF P w K mg base k "_law_entry" s__law_entry ["_law_purse_here"] g__law_entry) {g__law_purse : Fn} (C__law_purse : CalF P w K mg base k "_law_purse" s__law_purse ["_law_script", "_law_at"] g__law_purse) : CalF P w K mg base (k + 1) "law" s_law ["_law_script"] (runBody 7 1 (b_law g__law_joins g__law_least_joins g__law_bent g__law_line g__law_coin g__law_entry g__law_purse)) :=
  calF_of D sc_law (fun _ _ _ _ _ _ us hl => match us, hl with | [_], _ => rfl) fun f cdv A outer s H E hr =>
  sndB_cons (sndS_set (i := 1) (sndE_lst (sndA_nil)) sc_law.nd) (sndB_cons (sndS_for PassesOwn.never rfl (sndI_range1 Bl.range_ (sndA_cons (sndE_bn (callN_max rfl) Bl.max_ (by decide +kernel) (sndA_cons (sndE_int) (sndA_cons (sndE_bn (callN_min rfl) Bl.min_ (by decide +kernel) (sndA_cons (sndE_int) (sndA_cons (sndE_b1 call1_len Bl.len_ PySem.boot_len (sndE_var 0)) (sndA_nil)))) (sndA_nil)))) (sndA_nil))) (sndG_name (k := 2) sc_law.nd) (sndB_cons (sndS_set (i := 3) (sndE_callF C__law_purse hr (Nat.le_refl _) (sndA_cons (sndE_var 0) (sndA_cons (sndE_var 2) (sndA_nil)))) sc_law.nd) (sndB_cons (sndS_setLc (k := 4) (own := [("_law_turn", 6)]) rfl sc_law.nd (blkOk_by (by change blkC N_law (defScope s_law) _ [("_law_turn", 6)] = true; decide +kernel)) (sndI_range1 Bl.range_ (sndA_cons (sndE_callF C__law_coin hr (Nat.le_refl _) (sndA_cons (sndE_var 3) (sndA_cons (sndE_int) (sndA_nil)))) (sndA_nil))) (fun _ _ _ _ _ => sndG_name (k := 6) sc_law.nd) (fun _ _ _ _ _ => sndTs_nil) (fun _ _ _ _ _ => sndE_callF C__law_entry hr (Nat.le_refl _) (sndA_cons (sndE_var 3) (sndA_nil)))) (sndB_cons (sndS_set (i := 5) (sndE_sl (sndE_callF C__law_bent hr (Nat.le_refl _) (sndA_cons (sndE_var 3) (sndA_cons (sndE_callF C__law_line hr (Nat.le_refl _) (sndA_cons (sndE_var 3) (sndA_cons (sndE_op op2_Add (sndE_var 1) (sndE_var 4)) (sndA_nil)))) (sndA_nil)))) sndO_none (sndO_some (sndE_int))) sc_law.nd) (sndB_cons (sndS_if (sndT_of (sndW_or (sndT_not (sndT_tru (sndE_callF C__law_joins hr (Nat.le_refl _) (sndA_cons (sndE_var 1) (sndA_cons (sndE_var 4) (sndA_cons (sndE_var 5) (sndA_nil))))))) (sndW_or1 (sndT_not (sndT_tru (sndE_callF C__law_least_joins hr (Nat.le_refl _) (sndA_cons (sndE_var 1) (sndA_cons (sndE_var 4) (sndA_nil))))))))) (sndB_one (sndS_ret (sndE_bl))) (sndB_nil)) (sndB_one (sndS_set (i := 1) (sndE_var 4) sc_law.nd))))))) (sndB_one (sndS_ret (sndE_bl))))
end
/-! ### the texts as codes -/
@[simp] theorem lit_0 : Str.ofString "quotedback.errors" = ofC [113, 117, 111, 116, 101, 100, 98, 97, 99, 107, 46, 101, 114, 114, 111, 114, 115] := by decide +kernel
@[simp] theorem lit_1 : Str.ofString "\x0a !\"#$&'()*+,-./0123456789:;<=>?@ABCDEFGHIJKLMNOPQRSTUVWXYZ[\\]^_`abcdefghijklmnopqrstuvwxyz{|}~" = ofC [10, 32, 33, 34, 35, 36, 38, 39, 40, 41, 42, 43, 44, 45, 46, 47, 48, 49, 50, 51, 52, 53, 54, 55, 56, 57, 58, 59, 60, 61, 62, 63, 64, 65, 66, 67, 68, 69, 70, 71, 72, 73, 74, 75, 76, 77, 78, 79, 80, 81, 82, 83, 84, 85, 86, 87, 88, 89, 90, 91, 92, 93, 94, 95, 96, 97, 98, 99, 100, 101, 102, 103, 104, 105, 106, 107, 108, 109, 110, 111, 112, 113, 114, 115, 116, 117, 118, 119, 120, 121, 122, 123, 124, 125, 126] := by decide +kernel
@[simp] theorem lit_2 : Str.ofString "quotedback.matching" = ofC [113, 117, 111, 116, 101, 100, 98, 97, 99, 107, 46, 109, 97, 116, 99, 104, 105, 110, 103] := by decide +kernel
@[simp] theorem lit_3 : Str.ofString "quotedback.patterns" = ofC [113, 117, 111, 116, 101, 100, 98, 97, 99, 107, 46, 112, 97, 116, 116, 101, 114, 110, 115] := by decide +kernel
@[simp] theorem lit_4 : Str.ofString "law_quotedback_k24_whole_joined_and_turned_a" = ofC [108, 97, 119, 95, 113, 117, 111, 116, 101, 100, 98, 97, 99, 107, 95, 107, 50, 52, 95, 119, 104, 111, 108, 101, 95, 106, 111, 105, 110, 101, 100, 95, 97, 110, 100, 95, 116, 117, 114, 110, 101, 100, 95, 97] := by decide +kernel
@[simp] theorem lit_5 : Str.ofString "" = ofC [] := by decide +kernel
@[simp] theorem lit_6 : Str.ofString "\x0a !\"#$&'()*+,-./0123456789:;<=>?@ABCDEFGHIJKLMNOPQRSTUVWXYZ[\\]^_" = ofC [10, 32, 33, 34, 35, 36, 38, 39, 40, 41, 42, 43, 44, 45, 46, 47, 48, 49, 50, 51, 52, 53, 54, 55, 56, 57, 58, 59, 60, 61, 62, 63, 64, 65, 66, 67, 68, 69, 70, 71, 72, 73, 74, 75, 76, 77, 78, 79, 80, 81, 82, 83, 84, 85, 86, 87, 88, 89, 90, 91, 92, 93, 94, 95] := by decide +kernel
@[simp] theorem lit_7 : Str.ofString "one" = ofC [111, 110, 101] := by decide +kernel
@[simp] theorem lit_8 : Str.ofString "of" = ofC [111, 102] := by decide +kernel
@[simp] theorem lit_9 : Str.ofString "`abcdefghijklmnopqrstuvwxyz{|}~" = ofC [96, 97, 98, 99, 100, 101, 102, 103, 104, 105, 106, 107, 108, 109, 110, 111, 112, 113, 114, 115, 116, 117, 118, 119, 120, 121, 122, 123, 124, 125, 126] := by decide +kernel
@[simp] theorem lit_10 : Str.ofString "shell error" = ofC [115, 104, 101, 108, 108, 32, 101, 114, 114, 111, 114] := by decide +kernel
@[simp] theorem lit_11 : Str.ofString "any" = ofC [97, 110, 121] := by decide +kernel
@[simp] theorem lit_12 : Str.ofString "lot" = ofC [108, 111, 116] := by decide +kernel
@[simp] theorem lit_13 : Str.ofString "abc" = ofC [97, 98, 99] := by decide +kernel
@[simp] theorem lit_14 : Str.ofString "ab-" = ofC [97, 98, 45] := by decide +kernel
@[simp] theorem lit_SIGNS : c_SIGNS = ofC [10, 32, 33, 34, 35, 36, 38, 39, 40, 41, 42, 43, 44, 45, 46, 47, 48, 49, 50, 51, 52, 53, 54, 55, 56, 57, 58, 59, 60, 61, 62, 63, 64, 65, 66, 67, 68, 69, 70, 71, 72, 73, 74, 75, 76, 77, 78, 79, 80, 81, 82, 83, 84, 85, 86, 87, 88, 89, 90, 91, 92, 93, 94, 95, 96, 97, 98, 99, 100, 101, 102, 103, 104, 105, 106, 107, 108, 109, 110, 111, 112, 113, 114, 115, 116, 117, 118, 119, 120, 121, 122, 123, 124, 125, 126] := by decide +kernel
/-! ### the chain -/
structure DfT (K : PySem.W.Frag) (mg : Str → Option Value) : Prop where
  d__law_same : DefAt K mg "_law_same" s__law_same
  d_takes : DefAt K mg "takes" s_takes
  d_next_places : DefAt K mg "next_places" s_next_places
  d_first_places : DefAt K mg "first_places" s_first_places
  d_beginnings : DefAt K mg "beginnings" s_beginnings
  d_is_sign : DefAt K mg "is_sign" s_is_sign
  d_is_range : DefAt K mg "is_range" s_is_range
  d_is_entry : DefAt K mg "is_entry" s_is_entry
  d_is_pattern : DefAt K mg "is_pattern" s_is_pattern
  d_check_patterns : DefAt K mg "check_patterns" s_check_patterns
  d_heads : DefAt K mg "heads" s_heads
  d_tails : DefAt K mg "tails" s_tails
  d_meets_plainly : DefAt K mg "meets_plainly" s_meets_plainly
  d_meets : DefAt K mg "meets" s_meets
  d__law_are_lengths : DefAt K mg "_law_are_lengths" s__law_are_lengths
  d__law_joins : DefAt K mg "_law_joins" s__law_joins
  d_least_text : DefAt K mg "least_text" s_least_text
  d__law_least_joins : DefAt K mg "_law_least_joins" s__law_least_joins
  d__law_signs : DefAt K mg "_law_signs" s__law_signs
  d__law_coin : DefAt K mg "_law_coin" s__law_coin
  d__law_sign : DefAt K mg "_law_sign" s__law_sign
  d__law_bent : DefAt K mg "_law_bent" s__law_bent
  d__law_takes : DefAt K mg "_law_takes" s__law_takes
  d__law_line : DefAt K mg "_law_line" s__law_line
  d__law_ranges : DefAt K mg "_law_ranges" s__law_ranges
  d__law_entry : DefAt K mg "_law_entry" s__law_entry
  d__law_purse : DefAt K mg "_law_purse" s__law_purse
  d_law : DefAt K mg "law" s_law
section
variable {P : Program} {w : World} {K : PySem.W.Frag} {mg : Str → Option Value} {base : Heap}
noncomputable def G__law_same : Nat → Fn
  | 0 => fun _ _ => .bad
  | n + 1 => runBody 3 2 (b__law_same (G__law_same n))
theorem cal__law_same (Bl : BlT mg) (Gs : GsT K mg) (D : DfT K mg) : ∀ n, CalF P w K mg base (0 + n) "_law_same" s__law_same ["_law_found", "_law_due"] (G__law_same n)
  | 0 => calF_none D.d__law_same (fun _ _ _ _ _ _ us hl => match us, hl with | [_, _], _ => rfl)
  | n + 1 => ok__law_same Bl Gs D.d__law_same (cal__law_same Bl Gs D n)
noncomputable def G_takes : Fn := runBody 4 2 (b_takes)
theorem cal_takes (Bl : BlT mg) (Gs : GsT K mg) (D : DfT K mg) : CalF P w K mg base 1 "takes" s_takes ["entry", "sign"] G_takes := ok_takes Bl Gs D.d_takes (k := 0)
noncomputable def G_next_places : Fn := runBody 6 3 (b_next_places G_takes)
theorem cal_next_places (Bl : BlT mg) (Gs : GsT K mg) (D : DfT K mg) : CalF P w K mg base 2 "next_places" s_next_places ["pattern", "places", "sign"] G_next_places := ok_next_places Bl Gs D.d_next_places ((cal_takes Bl Gs D).mono (by decide))
noncomputable def G_first_places : Fn := runBody 3 1 (b_first_places)
theorem cal_first_places (Bl : BlT mg) (Gs : GsT K mg) (D : DfT K mg) : CalF P w K mg base 1 "first_places" s_first_places ["pattern"] G_first_places := ok_first_places Bl Gs D.d_first_places (k := 0)
noncomputable def G_beginnings : Fn := runBody 6 2 (b_beginnings G_next_places G_first_places)
theorem cal_beginnings (Bl : BlT mg) (Gs : GsT K mg) (D : DfT K mg) : CalF P w K mg base 3 "beginnings" s_beginnings ["pattern", "text"] G_beginnings := ok_beginnings Bl Gs D.d_beginnings ((cal_next_places Bl Gs D).mono (by decide)) ((cal_first_places Bl Gs D).mono (by decide))
noncomputable def G_is_sign : Fn := runBody 1 1 (b_is_sign)
theorem cal_is_sign (Bl : BlT mg) (Gs : GsT K mg) (D : DfT K mg) : CalF P w K mg base 1 "is_sign" s_is_sign ["thing"] G_is_sign := ok_is_sign Bl Gs D.d_is_sign (k := 0)
noncomputable def G_is_range : Fn := runBody 1 1 (b_is_range G_is_sign)
theorem cal_is_range (Bl : BlT mg) (Gs : GsT K mg) (D : DfT K mg) : CalF P w K mg base 2 "is_range" s_is_range ["thing"] G_is_range := ok_is_range Bl Gs D.d_is_range ((cal_is_sign Bl Gs D).mono (by decide))
noncomputable def G_is_entry : Fn := runBody 2 1 (b_is_entry G_is_range G_is_sign)
theorem cal_is_entry (Bl : BlT mg) (Gs : GsT K mg) (D : DfT K mg) : CalF P w K mg base 3 "is_entry" s_is_entry ["entry"] G_is_entry := ok_is_entry Bl Gs D.d_is_entry ((cal_is_range Bl Gs D).mono (by decide)) ((cal_is_sign Bl Gs D).mono (by decide))
noncomputable def G_is_pattern : Fn := runBody 2 1 (b_is_pattern G_is_entry)
theorem cal_is_pattern (Bl : BlT mg) (Gs : GsT K mg) (D : DfT K mg) : CalF P w K mg base 4 "is_pattern" s_is_pattern ["pattern"] G_is_pattern := ok_is_pattern Bl Gs D.d_is_pattern ((cal_is_entry Bl Gs D).mono (by decide))
noncomputable def G_check_patterns : Fn := runBody 2 1 (b_check_patterns G_is_pattern)
theorem cal_check_patterns (Bl : BlT mg) (Gs : GsT K mg) (D : DfT K mg) : CalF P w K mg base 5 "check_patterns" s_check_patterns ["patterns"] G_check_patterns := ok_check_patterns Bl Gs D.d_check_patterns ((cal_is_pattern Bl Gs D).mono (by decide))
noncomputable def G_heads : Fn := runBody 2 2 (b_heads G_beginnings G_check_patterns)
theorem cal_heads (Bl : BlT mg) (Gs : GsT K mg) (D : DfT K mg) : CalF P w K mg base 6 "heads" s_heads ["pattern", "text"] G_heads := ok_heads Bl Gs D.d_heads ((cal_beginnings Bl Gs D).mono (by decide)) ((cal_check_patterns Bl Gs D).mono (by decide))
noncomputable def G_tails : Fn := runBody 2 2 (b_tails G_beginnings G_check_patterns)
theorem cal_tails (Bl : BlT mg) (Gs : GsT K mg) (D : DfT K mg) : CalF P w K mg base 6 "tails" s_tails ["pattern", "text"] G_tails := ok_tails Bl Gs D.d_tails ((cal_beginnings Bl Gs D).mono (by decide)) ((cal_check_patterns Bl Gs D).mono (by decide))
noncomputable def G_meets_plainly : Fn := runBody 4 2 (b_meets_plainly G_next_places G_first_places)
theorem cal_meets_plainly (Bl : BlT mg) (Gs : GsT K mg) (D : DfT K mg) : CalF P w K mg base 3 "meets_plainly" s_meets_plainly ["pattern", "text"] G_meets_plainly := ok_meets_plainly Bl Gs D.d_meets_plainly ((cal_next_places Bl Gs D).mono (by decide)) ((cal_first_places Bl Gs D).mono (by decide))
noncomputable def G_meets : Fn := runBody 2 2 (b_meets G_meets_plainly G_check_patterns)
theorem cal_meets (Bl : BlT mg) (Gs : GsT K mg) (D : DfT K mg) : CalF P w K mg base 6 "meets" s_meets ["pattern", "text"] G_meets := ok_meets Bl Gs D.d_meets ((cal_meets_plainly Bl Gs D).mono (by decide)) ((cal_check_patterns Bl Gs D).mono (by decide))
noncomputable def G__law_are_lengths : Fn := runBody 3 2 (b__law_are_lengths)
theorem cal__law_are_lengths (Bl : BlT mg) (Gs : GsT K mg) (D : DfT K mg) : CalF P w K mg base 1 "_law_are_lengths" s__law_are_lengths ["_law_found", "_law_line_here"] G__law_are_lengths := ok__law_are_lengths Bl Gs D.d__law_are_lengths (k := 0)
noncomputable def G__law_joins : Fn := runBody 12 3 (b__law_joins (G__law_same 6) G_heads G_tails G_meets G__law_are_lengths)
theorem cal__law_joins (Bl : BlT mg) (Gs : GsT K mg) (D : DfT K mg) : CalF P w K mg base 7 "_law_joins" s__law_joins ["_law_ahead", "_law_row", "_law_line_here"] G__law_joins := ok__law_joins Bl Gs D.d__law_joins ((cal__law_same Bl Gs D 6).mono (by decide)) ((cal_heads Bl Gs D).mono (by decide)) ((cal_tails Bl Gs D).mono (by decide)) ((cal_meets Bl Gs D).mono (by decide)) ((cal__law_are_lengths Bl Gs D).mono (by decide))
noncomputable def G_least_text : Fn := runBody 5 1 (b_least_text G_takes G_check_patterns)
theorem cal_least_text (Bl : BlT mg) (Gs : GsT K mg) (D : DfT K mg) : CalF P w K mg base 6 "least_text" s_least_text ["pattern"] G_least_text := ok_least_text Bl Gs D.d_least_text ((cal_takes Bl Gs D).mono (by decide)) ((cal_check_patterns Bl Gs D).mono (by decide))
noncomputable def G__law_least_joins : Fn := runBody 4 2 (b__law_least_joins (G__law_same 6) G_least_text G_meets)
theorem cal__law_least_joins (Bl : BlT mg) (Gs : GsT K mg) (D : DfT K mg) : CalF P w K mg base 7 "_law_least_joins" s__law_least_joins ["_law_ahead", "_law_row"] G__law_least_joins := ok__law_least_joins Bl Gs D.d__law_least_joins ((cal__law_same Bl Gs D 6).mono (by decide)) ((cal_least_text Bl Gs D).mono (by decide)) ((cal_meets Bl Gs D).mono (by decide))
noncomputable def G__law_signs : Fn := runBody 1 0 (b__law_signs)
theorem cal__law_signs (Bl : BlT mg) (Gs : GsT K mg) (D : DfT K mg) : CalF P w K mg base 1 "_law_signs" s__law_signs [] G__law_signs := ok__law_signs Bl Gs D.d__law_signs (k := 0)
noncomputable def G__law_coin : Fn := runBody 4 2 (b__law_coin)
theorem cal__law_coin (Bl : BlT mg) (Gs : GsT K mg) (D : DfT K mg) : CalF P w K mg base 1 "_law_coin" s__law_coin ["_law_purse_here", "_law_many"] G__law_coin := ok__law_coin Bl Gs D.d__law_coin (k := 0)
noncomputable def G__law_sign : Fn := runBody 2 1 (b__law_sign G__law_signs G__law_coin)
theorem cal__law_sign (Bl : BlT mg) (Gs : GsT K mg) (D : DfT K mg) : CalF P w K mg base 2 "_law_sign" s__law_sign ["_law_purse_here"] G__law_sign := ok__law_sign Bl Gs D.d__law_sign ((cal__law_signs Bl Gs D).mono (by decide)) ((cal__law_coin Bl Gs D).mono (by decide))
noncomputable def G__law_bent : Fn := runBody 4 2 (b__law_bent G__law_sign G__law_coin)
theorem cal__law_bent (Bl : BlT mg) (Gs : GsT K mg) (D : DfT K mg) : CalF P w K mg base 3 "_law_bent" s__law_bent ["_law_purse_here", "_law_line_here"] G__law_bent := ok__law_bent Bl Gs D.d__law_bent ((cal__law_sign Bl Gs D).mono (by decide)) ((cal__law_coin Bl Gs D).mono (by decide))
noncomputable def G__law_takes : Fn := runBody 4 2 (b__law_takes)
theorem cal__law_takes (Bl : BlT mg) (Gs : GsT K mg) (D : DfT K mg) : CalF P w K mg base 1 "_law_takes" s__law_takes ["_law_part", "_law_sign_here"] G__law_takes := ok__law_takes Bl Gs D.d__law_takes (k := 0)
noncomputable def G__law_line : Fn := runBody 7 2 (b__law_line G__law_coin G__law_sign G__law_signs G__law_takes)
theorem cal__law_line (Bl : BlT mg) (Gs : GsT K mg) (D : DfT K mg) : CalF P w K mg base 3 "_law_line" s__law_line ["_law_purse_here", "_law_row"] G__law_line := ok__law_line Bl Gs D.d__law_line ((cal__law_coin Bl Gs D).mono (by decide)) ((cal__law_sign Bl Gs D).mono (by decide)) ((cal__law_signs Bl Gs D).mono (by decide)) ((cal__law_takes Bl Gs D).mono (by decide))
noncomputable def G__law_ranges : Fn := runBody 4 1 (b__law_ranges G__law_coin G__law_signs)
theorem cal__law_ranges (Bl : BlT mg) (Gs : GsT K mg) (D : DfT K mg) : CalF P w K mg base 2 "_law_ranges" s__law_ranges ["_law_purse_here"] G__law_ranges := ok__law_ranges Bl Gs D.d__law_ranges ((cal__law_coin Bl Gs D).mono (by decide)) ((cal__law_signs Bl Gs D).mono (by decide))
noncomputable def G__law_entry : Fn := runBody 2 1 (b__law_entry G__law_ranges G__law_sign G__law_coin)
theorem cal__law_entry (Bl : BlT mg) (Gs : GsT K mg) (D : DfT K mg) : CalF P w K mg base 3 "_law_entry" s__law_entry ["_law_purse_here"] G__law_entry := ok__law_entry Bl Gs D.d__law_entry ((cal__law_ranges Bl Gs D).mono (by decide)) ((cal__law_sign Bl Gs D).mono (by decide)) ((cal__law_coin Bl Gs D).mono (by decide))
noncomputable def G__law_purse : Fn := runBody 3 2 (b__law_purse)
theorem cal__law_purse (Bl : BlT mg) (Gs : GsT K mg) (D : DfT K mg) : CalF P w K mg base 1 "_law_purse" s__law_purse ["_law_script", "_law_at"] G__law_purse := ok__law_purse Bl Gs D.d__law_purse (k := 0)
noncomputable def G_law : Fn := runBody 7 1 (b_law G__law_joins G__law_least_joins G__law_bent G__law_line G__law_coin G__law_entry G__law_purse)
theorem cal_law (Bl : BlT mg) (Gs : GsT K mg) (D : DfT K mg) : CalF P w K mg base 8 "law" s_law ["_law_script"] G_law := ok_law Bl Gs D.d_law ((cal__law_joins Bl Gs D).mono (by decide)) ((cal__law_least_joins Bl Gs D).mono (by decide)) ((cal__law_bent Bl Gs D).mono (by decide)) ((cal__law_line Bl Gs D).mono (by decide)) ((cal__law_coin Bl Gs D).mono (by decide)) ((cal__law_entry Bl Gs D).mono (by decide)) ((cal__law_purse Bl Gs D).mono (by decide))
/-! ### the end -/
theorem all_mk {l : PySem.W.OpenLaw} {w : World} {K : PySem.W.Frag} {h : Heap} {mg : Str → Option Value} {fa f0 f1 f2 f3 f4 f5 f6 f7 f8 f9 f10 f11 f12 f13 f14 f15 f16 f17 f18 f19 f20 f21 f22 f23 f24 f25 f26 f27 : Addr} (X : K.In h) (G : h.Ns mainGlobals mg) (hfa : mg "law" = some (.ref fa)) {od0 an0 od1 an1 od2 an2 od3 an3 od4 an4 od5 an5 od6 an6 od7 an7 od8 an8 od9 an9 od10 an10 od11 an11 od12 an12 od13 an13 od14 an14 od15 an15 od16 an16 od17 an17 od18 an18 od19 an19 od20 an20 od21 an21 od22 an22 od23 an23 od24 an24 od25 an25 od26 an26 od27 an27 : Option Addr} {sl0 sl1 sl2 sl3 sl4 sl5 sl6 sl7 sl8 sl9 sl10 sl11 sl12 sl13 sl14 sl15 sl16 sl17 sl18 sl19 sl20 sl21 sl22 sl23 sl24 sl25 sl26 sl27 : Array (Option Value)} {oc0 kV0 dc0 pm0 cd0 ct0 oc1 kV1 dc1 pm1 cd1 ct1 oc2 kV2 dc2 pm2 cd2 ct2 oc3 kV3 dc3 pm3 cd3 ct3 oc4 kV4 dc4 pm4 cd4 ct4 oc5 kV5 dc5 pm5 cd5 ct5 oc6 kV6 dc6 pm6 cd6 ct6 oc7 kV7 dc7 pm7 cd7 ct7 oc8 kV8 dc8 pm8 cd8 ct8 oc9 kV9 dc9 pm9 cd9 ct9 oc10 kV10 dc10 pm10 cd10 ct10 oc11 kV11 dc11 pm11 cd11 ct11 oc12 kV12 dc12 pm12 cd12 ct12 oc13 kV13 dc13 pm13 cd13 ct13 oc14 kV14 dc14 pm14 cd14 ct14 oc15 kV15 dc15 pm15 cd15 ct15 oc16 kV16 dc16 pm16 cd16 ct16 oc17 kV17 dc17 pm17 cd17 ct17 oc18 kV18 dc18 pm18 cd18 ct18 oc19 kV19 dc19 pm19 cd19 ct19 oc20 kV20 dc20 pm20 cd20 ct20 oc21 kV21 dc21 pm21 cd21 ct21 oc22 kV22 dc22 pm22 cd22 ct22 oc23 kV23 dc23 pm23 cd23 ct23 oc24 kV24 dc24 pm24 cd24 ct24 oc25 kV25 dc25 pm25 cd25 ct25 oc26 kV26 dc26 pm26 cd26 ct26 oc27 kV27 dc27 pm27 cd27 ct27 : Value} {t_SIGNS : Tok}
    (a0 : PySem.W.nsIn K mainGlobals "_law_same" = some (some (.ref f0))) (l0 : K.lookup f0 = some ⟨oc0, od0, .func (PySem.W.fnOf "_law_same" "_law_same" (defArgs s__law_same) (defBody s__law_same) (defScope s__law_same) .none kV0 dc0 pm0 an0 cd0 ct0), sl0⟩) (c0 : PySem.W.codeIn K cd0 "_law_same" = true) (k0 : PySem.W.keepIn K (.ref f0) = true)
    (a1 : PySem.W.nsIn K mainGlobals "takes" = some (some (.ref f1))) (l1 : K.lookup f1 = some ⟨oc1, od1, .func (PySem.W.fnOf "takes" "takes" (defArgs s_takes) (defBody s_takes) (defScope s_takes) .none kV1 dc1 pm1 an1 cd1 ct1), sl1⟩) (c1 : PySem.W.codeIn K cd1 "takes" = true) (k1 : PySem.W.keepIn K (.ref f1) = true)
    (a2 : PySem.W.nsIn K mainGlobals "next_places" = some (some (.ref f2))) (l2 : K.lookup f2 = some ⟨oc2, od2, .func (PySem.W.fnOf "next_places" "next_places" (defArgs s_next_places) (defBody s_next_places) (defScope s_next_places) .none kV2 dc2 pm2 an2 cd2 ct2), sl2⟩) (c2 : PySem.W.codeIn K cd2 "next_places" = true) (k2 : PySem.W.keepIn K (.ref f2) = true)
    (a3 : PySem.W.nsIn K mainGlobals "first_places" = some (some (.ref f3))) (l3 : K.lookup f3 = some ⟨oc3, od3, .func (PySem.W.fnOf "first_places" "first_places" (defArgs s_first_places) (defBody s_first_places) (defScope s_first_places) .none kV3 dc3 pm3 an3 cd3 ct3), sl3⟩) (c3 : PySem.W.codeIn K cd3 "first_places" = true) (k3 : PySem.W.keepIn K (.ref f3) = true)
    (a4 : PySem.W.nsIn K mainGlobals "beginnings" = some (some (.ref f4))) (l4 : K.lookup f4 = some ⟨oc4, od4, .func (PySem.W.fnOf "beginnings" "beginnings" (defArgs s_beginnings) (defBody s_beginnings) (defScope s_beginnings) .none kV4 dc4 pm4 an4 cd4 ct4), sl4⟩) (c4 : PySem.W.codeIn K cd4 "beginnings" = true) (k4 : PySem.W.keepIn K (.ref f4) = true)
    (a5 : PySem.W.nsIn K mainGlobals "is_sign" = some (some (.ref f5))) (l5 : K.lookup f5 = some ⟨oc5, od5, .func (PySem.W.fnOf "is_sign" "is_sign" (defArgs s_is_sign) (defBody s_is_sign) (defScope s_is_sign) .none kV5 dc5 pm5 an5 cd5 ct5), sl5⟩) (c5 : PySem.W.codeIn K cd5 "is_sign" = true) (k5 : PySem.W.keepIn K (.ref f5) = true)
    (a6 : PySem.W.nsIn K mainGlobals "is_range" = some (some (.ref f6))) (l6 : K.lookup f6 = some ⟨oc6, od6, .func (PySem.W.fnOf "is_range" "is_range" (defArgs s_is_range) (defBody s_is_range) (defScope s_is_range) .none kV6 dc6 pm6 an6 cd6 ct6), sl6⟩) (c6 : PySem.W.codeIn K cd6 "is_range" = true) (k6 : PySem.W.keepIn K (.ref f6) = true)
    (a7 : PySem.W.nsIn K mainGlobals "is_entry" = some (some (.ref f7))) (l7 : K.lookup f7 = some ⟨oc7, od7, .func (PySem.W.fnOf "is_entry" "is_entry" (defArgs s_is_entry) (defBody s_is_entry) (defScope s_is_entry) .none kV7 dc7 pm7 an7 cd7 ct7), sl7⟩) (c7 : PySem.W.codeIn K cd7 "is_entry" = true) (k7 : PySem.W.keepIn K (.ref f7) = true)
    (a8 : PySem.W.nsIn K mainGlobals "is_pattern" = some (some (.ref f8))) (l8 : K.lookup f8 = some ⟨oc8, od8, .func (PySem.W.fnOf "is_pattern" "is_pattern" (defArgs s_is_pattern) (defBody s_is_pattern) (defScope s_is_pattern) .none kV8 dc8 pm8 an8 cd8 ct8), sl8⟩) (c8 : PySem.W.codeIn K cd8 "is_pattern" = true) (k8 : PySem.W.keepIn K (.ref f8) = true)
    (a9 : PySem.W.nsIn K mainGlobals "check_patterns" = some (some (.ref f9))) (l9 : K.lookup f9 = some ⟨oc9, od9, .func (PySem.W.fnOf "check_patterns" "check_patterns" (defArgs s_check_patterns) (defBody s_check_patterns) (defScope s_check_patterns) .none kV9 dc9 pm9 an9 cd9 ct9), sl9⟩) (c9 : PySem.W.codeIn K cd9 "check_patterns" = true) (k9 : PySem.W.keepIn K (.ref f9) = true)
    (a10 : PySem.W.nsIn K mainGlobals "heads" = some (some (.ref f10))) (l10 : K.lookup f10 = some ⟨oc10, od10, .func (PySem.W.fnOf "heads" "heads" (defArgs s_heads) (defBody s_heads) (defScope s_heads) .none kV10 dc10 pm10 an10 cd10 ct10), sl10⟩) (c10 : PySem.W.codeIn K cd10 "heads" = true) (k10 : PySem.W.keepIn K (.ref f10) = true)
    (a11 : PySem.W.nsIn K mainGlobals "tails" = some (some (.ref f11))) (l11 : K.lookup f11 = some ⟨oc11, od11, .func (PySem.W.fnOf "tails" "tails" (defArgs s_tails) (defBody s_tails) (defScope s_tails) .none kV11 dc11 pm11 an11 cd11 ct11), sl11⟩) (c11 : PySem.W.codeIn K cd11 "tails" = true) (k11 : PySem.W.keepIn K (.ref f11) = true)
    (a12 : PySem.W.nsIn K mainGlobals "meets_plainly" = some (some (.ref f12))) (l12 : K.lookup f12 = some ⟨oc12, od12, .func (PySem.W.fnOf "meets_plainly" "meets_plainly" (defArgs s_meets_plainly) (defBody s_meets_plainly) (defScope s_meets_plainly) .none kV12 dc12 pm12 an12 cd12 ct12), sl12⟩) (c12 : PySem.W.codeIn K cd12 "meets_plainly" = true) (k12 : PySem.W.keepIn K (.ref f12) = true)
    (a13 : PySem.W.nsIn K mainGlobals "meets" = some (some (.ref f13))) (l13 : K.lookup f13 = some ⟨oc13, od13, .func (PySem.W.fnOf "meets" "meets" (defArgs s_meets) (defBody s_meets) (defScope s_meets) .none kV13 dc13 pm13 an13 cd13 ct13), sl13⟩) (c13 : PySem.W.codeIn K cd13 "meets" = true) (k13 : PySem.W.keepIn K (.ref f13) = true)
    (a14 : PySem.W.nsIn K mainGlobals "_law_are_lengths" = some (some (.ref f14))) (l14 : K.lookup f14 = some ⟨oc14, od14, .func (PySem.W.fnOf "_law_are_lengths" "_law_are_lengths" (defArgs s__law_are_lengths) (defBody s__law_are_lengths) (defScope s__law_are_lengths) .none kV14 dc14 pm14 an14 cd14 ct14), sl14⟩) (c14 : PySem.W.codeIn K cd14 "_law_are_lengths" = true) (k14 : PySem.W.keepIn K (.ref f14) = true)
    (a15 : PySem.W.nsIn K mainGlobals "_law_joins" = some (some (.ref f15))) (l15 : K.lookup f15 = some ⟨oc15, od15, .func (PySem.W.fnOf "_law_joins" "_law_joins" (defArgs s__law_joins) (defBody s__law_joins) (defScope s__law_joins) .none kV15 dc15 pm15 an15 cd15 ct15), sl15⟩) (c15 : PySem.W.codeIn K cd15 "_law_joins" = true) (k15 : PySem.W.keepIn K (.ref f15) = true)
    (a16 : PySem.W.nsIn K mainGlobals "least_text" = some (some (.ref f16))) (l16 : K.lookup f16 = some ⟨oc16, od16, .func (PySem.W.fnOf "least_text" "least_text" (defArgs s_least_text) (defBody s_least_text) (defScope s_least_text) .none kV16 dc16 pm16 an16 cd16 ct16), sl16⟩) (c16 : PySem.W.codeIn K cd16 "least_text" = true) (k16 : PySem.W.keepIn K (.ref f16) = true)
    (a17 : PySem.W.nsIn K mainGlobals "_law_least_joins" = some (some (.ref f17))) (l17 : K.lookup f17 = some ⟨oc17, od17, .func (PySem.W.fnOf "_law_least_joins" "_law_least_joins" (defArgs s__law_least_joins) (defBody s__law_least_joins) (defScope s__law_least_joins) .none kV17 dc17 pm17 an17 cd17 ct17), sl17⟩) (c17 : PySem.W.codeIn K cd17 "_law_least_joins" = true) (k17 : PySem.W.keepIn K (.ref f17) = true)
    (a18 : PySem.W.nsIn K mainGlobals "_law_signs" = some (some (.ref f18))) (l18 : K.lookup f18 = some ⟨oc18, od18, .func (PySem.W.fnOf "_law_signs" "_law_signs" (defArgs s__law_signs) (defBody s__law_signs) (defScope s__law_signs) .none kV18 dc18 pm18 an18 cd18 ct18), sl18⟩) (c18 : PySem.W.codeIn K cd18 "_law_signs" = true) (k18 : PySem.W.keepIn K (.ref f18) = true)
    (a19 : PySem.W.nsIn K mainGlobals "_law_coin" = some (some (.ref f19))) (l19 : K.lookup f19 = some ⟨oc19, od19, .func (PySem.W.fnOf "_law_coin" "_law_coin" (defArgs s__law_coin) (defBody s__law_coin) (defScope s__law_coin) .none kV19 dc19 pm19 an19 cd19 ct19), sl19⟩) (c19 : PySem.W.codeIn K cd19 "_law_coin" = true) (k19 : PySem.W.keepIn K (.ref f19) = true)
    (a20 : PySem.W.nsIn K mainGlobals "_law_sign" = some (some (.ref f20))) (l20 : K.lookup f20 = some ⟨oc20, od20, .func (PySem.W.fnOf "_law_sign" "_law_sign" (defArgs s__law_sign) (defBody s__law_sign) (defScope s__law_sign) .none kV20 dc20 pm20 an20 cd20 ct20), sl20⟩) (c20 : PySem.W.codeIn K cd20 "_law_sign" = true) (k20 : PySem.W.keepIn K (.ref f20) = true)
    (a21 : PySem.W.nsIn K mainGlobals "_law_bent" = some (some (.ref f21))) (l21 : K.lookup f21 = some ⟨oc21, od21, .func (PySem.W.fnOf "_law_bent" "_law_bent" (defArgs s__law_bent) (defBody s__law_bent) (defScope s__law_bent) .none kV21 dc21 pm21 an21 cd21 ct21), sl21⟩) (c21 : PySem.W.codeIn K cd21 "_law_bent" = true) (k21 : PySem.W.keepIn K (.ref f21) = true)
    (a22 : PySem.W.nsIn K mainGlobals "_law_takes" = some (some (.ref f22))) (l22 : K.lookup f22 = some ⟨oc22, od22, .func (PySem.W.fnOf "_law_takes" "_law_takes" (defArgs s__law_takes) (defBody s__law_takes) (defScope s__law_takes) .none kV22 dc22 pm22 an22 cd22 ct22), sl22⟩) (c22 : PySem.W.codeIn K cd22 "_law_takes" = true) (k22 : PySem.W.keepIn K (.ref f22) = true)
    (a23 : PySem.W.nsIn K mainGlobals "_law_line" = some (some (.ref f23))) (l23 : K.lookup f23 = some ⟨oc23, od23, .func (PySem.W.fnOf "_law_line" "_law_line" (defArgs s__law_line) (defBody s__law_line) (defScope s__law_line) .none kV23 dc23 pm23 an23 cd23 ct23), sl23⟩) (c23 : PySem.W.codeIn K cd23 "_law_line" = true) (k23 : PySem.W.keepIn K (.ref f23) = true)
    (a24 : PySem.W.nsIn K mainGlobals "_law_ranges" = some (some (.ref f24))) (l24 : K.lookup f24 = some ⟨oc24, od24, .func (PySem.W.fnOf "_law_ranges" "_law_ranges" (defArgs s__law_ranges) (defBody s__law_ranges) (defScope s__law_ranges) .none kV24 dc24 pm24 an24 cd24 ct24), sl24⟩) (c24 : PySem.W.codeIn K cd24 "_law_ranges" = true) (k24 : PySem.W.keepIn K (.ref f24) = true)
    (a25 : PySem.W.nsIn K mainGlobals "_law_entry" = some (some (.ref f25))) (l25 : K.lookup f25 = some ⟨oc25, od25, .func (PySem.W.fnOf "_law_entry" "_law_entry" (defArgs s__law_entry) (defBody s__law_entry) (defScope s__law_entry) .none kV25 dc25 pm25 an25 cd25 ct25), sl25⟩) (c25 : PySem.W.codeIn K cd25 "_law_entry" = true) (k25 : PySem.W.keepIn K (.ref f25) = true)
    (a26 : PySem.W.nsIn K mainGlobals "_law_purse" = some (some (.ref f26))) (l26 : K.lookup f26 = some ⟨oc26, od26, .func (PySem.W.fnOf "_law_purse" "_law_purse" (defArgs s__law_purse) (defBody s__law_purse) (defScope s__law_purse) .none kV26 dc26 pm26 an26 cd26 ct26), sl26⟩) (c26 : PySem.W.codeIn K cd26 "_law_purse" = true) (k26 : PySem.W.keepIn K (.ref f26) = true)
    (a27 : PySem.W.nsIn K mainGlobals "law" = some (some (.ref f27))) (l27 : K.lookup f27 = some ⟨oc27, od27, .func (PySem.W.fnOf "law" "law" (defArgs s_law) (defBody s_law) (defScope s_law) .none kV27 dc27 pm27 an27 cd27 ct27), sl27⟩) (c27 : PySem.W.codeIn K cd27 "law" = true) (k27 : PySem.W.keepIn K (.ref f27) = true)
    (z_abs : PySem.W.nsIn K mainGlobals "abs" = some none)
    (z_all : PySem.W.nsIn K mainGlobals "all" = some none)
    (z_any : PySem.W.nsIn K mainGlobals "any" = some none)
    (z_bool : PySem.W.nsIn K mainGlobals "bool" = some none)
    (z_enumerate : PySem.W.nsIn K mainGlobals "enumerate" = some none)
    (z_int : PySem.W.nsIn K mainGlobals "int" = some none)
    (z_isinstance : PySem.W.nsIn K mainGlobals "isinstance" = some none)
    (z_len : PySem.W.nsIn K mainGlobals "len" = some none)
    (z_list : PySem.W.nsIn K mainGlobals "list" = some none)
    (z_max : PySem.W.nsIn K mainGlobals "max" = some none)
    (z_min : PySem.W.nsIn K mainGlobals "min" = some none)
    (z_range : PySem.W.nsIn K mainGlobals "range" = some none)
    (z_set : PySem.W.nsIn K mainGlobals "set" = some none)
    (z_sorted : PySem.W.nsIn K mainGlobals "sorted" = some none)
    (z_str : PySem.W.nsIn K mainGlobals "str" = some none)
    (z_tuple : PySem.W.nsIn K mainGlobals "tuple" = some none)
    (q_SIGNS : PySem.W.nsIn K mainGlobals "SIGNS" = some (some (Value.str c_SIGNS t_SIGNS))) :
    ∃ fd : FuncData, (∀ (s : Shared) (v : Value), BindsTo s fd ⟨[v], []⟩ [("_law_script", v)]) ∧ ∀ base : Heap, K.In base → base.Ns mainGlobals mg → FnOk l.prog w K mg base CX0 8 fa fd ["_law_script"] (spF K 1 G_law) := by
  have Bl : BlT mg := ⟨PySem.W.mg_none_of X G z_abs, PySem.W.mg_none_of X G z_all, PySem.W.mg_none_of X G z_any, PySem.W.mg_none_of X G z_bool, PySem.W.mg_none_of X G z_enumerate, PySem.W.mg_none_of X G z_int, PySem.W.mg_none_of X G z_isinstance, PySem.W.mg_none_of X G z_len, PySem.W.mg_none_of X G z_list, PySem.W.mg_none_of X G z_max, PySem.W.mg_none_of X G z_min, PySem.W.mg_none_of X G z_range, PySem.W.mg_none_of X G z_set, PySem.W.mg_none_of X G z_sorted, PySem.W.mg_none_of X G z_str, PySem.W.mg_none_of X G z_tuple⟩
  have Gs : GsT K mg := ⟨⟨_, PySem.W.mg_of X G q_SIGNS, _, rfl⟩⟩
  have D : DfT K mg := ⟨⟨_, _, fun_mk (st := s__law_same) l0 c0 k0, PySem.W.mg_of X G a0⟩, ⟨_, _, fun_mk (st := s_takes) l1 c1 k1, PySem.W.mg_of X G a1⟩, ⟨_, _, fun_mk (st := s_next_places) l2 c2 k2, PySem.W.mg_of X G a2⟩, ⟨_, _, fun_mk (st := s_first_places) l3 c3 k3, PySem.W.mg_of X G a3⟩, ⟨_, _, fun_mk (st := s_beginnings) l4 c4 k4, PySem.W.mg_of X G a4⟩, ⟨_, _, fun_mk (st := s_is_sign) l5 c5 k5, PySem.W.mg_of X G a5⟩, ⟨_, _, fun_mk (st := s_is_range) l6 c6 k6, PySem.W.mg_of X G a6⟩, ⟨_, _, fun_mk (st := s_is_entry) l7 c7 k7, PySem.W.mg_of X G a7⟩, ⟨_, _, fun_mk (st := s_is_pattern) l8 c8 k8, PySem.W.mg_of X G a8⟩, ⟨_, _, fun_mk (st := s_check_patterns) l9 c9 k9, PySem.W.mg_of X G a9⟩, ⟨_, _, fun_mk (st := s_heads) l10 c10 k10, PySem.W.mg_of X G a10⟩, ⟨_, _, fun_mk (st := s_tails) l11 c11 k11, PySem.W.mg_of X G a11⟩, ⟨_, _, fun_mk (st := s_meets_plainly) l12 c12 k12, PySem.W.mg_of X G a12⟩, ⟨_, _, fun_mk (st := s_meets) l13 c13 k13, PySem.W.mg_of X G a13⟩, ⟨_, _, fun_mk (st := s__law_are_lengths) l14 c14 k14, PySem.W.mg_of X G a14⟩, ⟨_, _, fun_mk (st := s__law_joins) l15 c15 k15, PySem.W.mg_of X G a15⟩, ⟨_, _, fun_mk (st := s_least_text) l16 c16 k16, PySem.W.mg_of X G a16⟩, ⟨_, _, fun_mk (st := s__law_least_joins) l17 c17 k17, PySem.W.mg_of X G a17⟩, ⟨_, _, fun_mk (st := s__law_signs) l18 c18 k18, PySem.W.mg_of X G a18⟩, ⟨_, _, fun_mk (st := s__law_coin) l19 c19 k19, PySem.W.mg_of X G a19⟩, ⟨_, _, fun_mk (st := s__law_sign) l20 c20 k20, PySem.W.mg_of X G a20⟩, ⟨_, _, fun_mk (st := s__law_bent) l21 c21 k21, PySem.W.mg_of X G a21⟩, ⟨_, _, fun_mk (st := s__law_takes) l22 c22 k22, PySem.W.mg_of X G a22⟩, ⟨_, _, fun_mk (st := s__law_line) l23 c23 k23, PySem.W.mg_of X G a23⟩, ⟨_, _, fun_mk (st := s__law_ranges) l24 c24 k24, PySem.W.mg_of X G a24⟩, ⟨_, _, fun_mk (st := s__law_entry) l25 c25 k25, PySem.W.mg_of X G a25⟩, ⟨_, _, fun_mk (st := s__law_purse) l26 c26 k26, PySem.W.mg_of X G a26⟩, ⟨_, _, fun_mk (st := s_law) l27 c27 k27, PySem.W.mg_of X G a27⟩⟩
  refine ⟨PySem.W.fnOf "law" "law" (defArgs s_law) (defBody s_law) (defScope s_law) .none kV27 dc27 pm27 an27 cd27 ct27, fun s v => .of_eq rfl, fun base _ _ => ?_⟩
  exact calF_end (cal_law (P := l.prog) (w := w) (base := base) Bl Gs D) hfa (fun_mk (st := s_law) l27 c27 k27) (PySem.W.mg_of X G a27)
end
theorem walk (plain : ∀ ns : List Int, ns.length ≤ 63 → ∃ B', G_law [.scr ns] [] = .ok (.bl true) B') {l : PySem.W.OpenLaw} {q : Program} {loose : List Str} {XP : (Str → Option Value) → Heap → Prop} {YP : World → Heap → Prop} {d : DefRec} {K : Params → PySem.W.Frag} (hn : l.most = some 63) (hdf : d.params.defaults = [])
    (hY : ∀ (w : World) (h : Heap), YP w h → (K w.params).In h)
    (F : ∀ (w : World) (mg : Str → Option Value) (fa : Addr) (h : Heap), (K w.params).In h → h.Ns mainGlobals mg → mg d.name = some (.ref fa) →
      ∃ fd : FuncData, (∀ (s : Shared) (u : Value), BindsTo s fd ⟨[u], []⟩ [("_law_script", u)]) ∧ ∀ base : Heap, (K w.params).In base → base.Ns mainGlobals mg → FnOk l.prog w (K w.params) mg base CX0 8 fa fd ["_law_script"] (spF (K w.params) 1 G_law)) :
    PySem.W.WalkO q loose XP YP l.row.toRowW d [] (fun f vs => PySem.call f vs) :=
  L2.walk_of (n := 63) (k := 8) (x := "_law_script") (CX := fun _ => CX0) (sp := fun w => spF (K w.params) 1 G_law) hn (by decide) hdf ⟨rfl, by decide, by decide⟩ hY F (fun _ H a ns hl _ hS => spF_law plain H a ns hl hS) fun _ _ _ _ _ z => z
end LawW
namespace LawW
open PySem L2 QB
abbrev Rg := Nat × Nat
def uR (r : Rg) : U := .tup [.str (ofC [r.1]), .str (ofC [r.2])]
inductive Ent where | lot | any | one (c : Nat) | of (n : Bool) (rs : List Rg)
def Ent.isLot : Ent → Bool
  | .lot => true
  | _ => false
def uE : Ent → U
  | .lot => .tup [.str (ofC [108, 111, 116])]
  | .any => .tup [.str (ofC [97, 110, 121])]
  | .one c => .tup [.str (ofC [111, 110, 101]), .str (ofC [c])]
  | .of n rs => .tup [.str (ofC [111, 102]), .bl n, .lst (rs.map uR)]
def inR (c : Nat) (r : Rg) : Bool := decide (r.1 ≤ c) && decide (c ≤ r.2)
def takes : Ent → Nat → Bool
  | .one d, c => d == c
  | .of n rs, c => (rs.any (inR c)) != n
  | _, _ => true
def RgN (e : Ent) : Prop := match e with | .of _ rs => rs.length ≤ 1000 | _ => True
@[simp] theorem vu_uE {e : Ent} {B : Bx} : viewU (uE e) B = some (uE e) := by cases e <;> rfl
@[simp] theorem vu_uR {r : Rg} {B : Bx} : viewU (uR r) B = some (uR r) := rfl
@[simp] theorem ix_lot0 : gIx (uE .lot) (.int 0) = some (.w (.str (ofC [108, 111, 116]))) := by simp [uE]
@[simp] theorem ix_any0 : gIx (uE .any) (.int 0) = some (.w (.str (ofC [97, 110, 121]))) := by simp [uE]
@[simp] theorem ix_one0 {c : Nat} : gIx (uE (.one c)) (.int 0) = some (.w (.str (ofC [111, 110, 101]))) := by simp [uE]
@[simp] theorem ix_one1 {c : Nat} : gIx (uE (.one c)) (.int 1) = some (.w (.str (ofC [c]))) := by simp [uE]
@[simp] theorem ix_of0 {n : Bool} {rs : List Rg} : gIx (uE (.of n rs)) (.int 0) = some (.w (.str (ofC [111, 102]))) := by simp [uE]
@[simp] theorem ix_of1 {n : Bool} {rs : List Rg} : gIx (uE (.of n rs)) (.int 1) = some (.w (.bl n)) := by simp [uE]
@[simp] theorem ix_of2 {n : Bool} {rs : List Rg} : gIx (uE (.of n rs)) (.int 2) = some (.w (.lst (rs.map uR))) := by simp [uE]
theorem takes_ok (e : Ent) (h : RgN e) (c : Nat) (B : Bx) : G_takes [uE e, .str (ofC [c])] B = .ok (.bl (takes e c)) B := by
  cases e with
  | lot => simp [G_takes, runBody, b_takes, uE, takes]
  | any => simp [G_takes, runBody, b_takes, uE, takes]
  | one d => simp [G_takes, runBody, b_takes, uE, takes]
  | of n rs =>
    have lc : ∀ B, lc_takes_0 [.val (uE (.of n rs)), .val (.str (ofC [c])), .un, .un] B = .ok (.fr (.lst (rs.map fun r => .bl (inR c r)))) [.val (uE (.of n rs)), .val (.str (ofC [c])), .un, .un] B := fun B => by
      refine mLc_all uR (fun r => .bl (inR c r)) (by simp) (by simp) (by simp) (by have : rs.length ≤ 1000 := h; omega) (fun r _ => ?_)
      by_cases h1 : r.1 ≤ c
      · have h1' : ¬ c < r.1 := by omega
        by_cases h2 : c ≤ r.2
        · have h2' : ¬ r.2 < c := by omega
          simp [uR, Elt, inR, h1, h2, h1', h2']
        · have h2' : r.2 < c := by omega
          simp [uR, Elt, inR, h1, h2, h1', h2']
      · have h1' : c < r.1 := by omega
        simp [uR, Elt, inR, h1, h1']
    have an := e_any' (l := rs) (p := inR c)
    simp only [G_takes]
    refine run_is rfl ?_
    simp only [b_takes, List.map_cons, List.map_nil, List.length_cons, List.length_nil, Nat.reduceAdd, Nat.reduceSub, List.replicate_succ, List.replicate_zero, List.cons_append, List.nil_append, Nat.zero_add, Nat.sub_self, List.append_nil]
    refine okP_seqL fun LQ hLQ => ?_
    simp
    refine hLQ _ _ _ (then_nx ?_)
    clear hLQ LQ
    refine okP_seqT ?_
    refine okP_ift0 (by simp; done) ?_
    refine okP_lock fun LQ hLQ => ?_
    simp [lc, an]
    refine hLQ _ _ _ (then_rt (ret_is' (by simp [takes]; cases n <;> simp) rfl))
end LawW
namespace LawW
open PySem L2 QB
def bls (bs : List Bool) : List U := bs.map .bl
/-- the lengths that one tuple more lets by -/
def anyTo (f : Nat → Bool) : Nat → Bool
  | 0 => f 0
  | k + 1 => anyTo f k || f (k + 1)
def step (line : List Nat) (e : Ent) (f : Nat → Bool) : Nat → Bool :=
  if e.isLot then anyTo f else fun k => match k with
    | 0 => false
    | k + 1 => f k && (match line[k]? with | some c => takes e c | none => false)
def stand (e : Ent) (f : Nat → Bool) (k : Nat) : Bool := if e.isLot then anyTo f k else f k
def places (line : List Nat) : List Ent → (Nat → Bool) → Nat → List Bool
  | [], f, k => [f k]
  | e :: es, f, k => stand e f k :: places line es (step line e f) k
def ends (line : List Nat) : List Ent → (Nat → Bool) → (Nat → Bool)
  | [], f => f
  | e :: es, f => ends line es (step line e f)
def at0 : Nat → Bool
  | 0 => true
  | _ => false
theorem places_ne (line : List Nat) : ∀ (es : List Ent) (f : Nat → Bool) (k : Nat), places line es f k ≠ []
  | [], _, _ => by simp [places]
  | _ :: _, _, _ => by simp [places]
theorem places_len (line : List Nat) : ∀ (es : List Ent) (f : Nat → Bool) (k : Nat), (places line es f k).length = es.length + 1
  | [], _, _ => rfl
  | e :: es, f, k => by simp [places, places_len line es]
theorem places_last (line : List Nat) : ∀ (es : List Ent) (f : Nat → Bool) (k : Nat), (places line es f k).getLast? = some (ends line es f k)
  | [], _, _ => rfl
  | e :: es, f, k => by
    rw [places, List.getLast?_cons, places_last line es]
    simp [ends]
def fstP : List Ent → Bool → List Bool
  | [], b => [b]
  | e :: es, b => b :: fstP es (b && e.isLot)
theorem fstP_eq (line : List Nat) : ∀ (es : List Ent) (f : Nat → Bool), fstP es (f 0) = places line es f 0
  | [], f => rfl
  | e :: es, f => by
    rw [fstP, places, ← fstP_eq line es]
    cases h : e.isLot <;> simp [stand, step, anyTo, h]
def nxtP (c : Nat) : List Ent → List Bool → Bool → List Bool
  | e :: es, p :: ps, b => (b || (p && e.isLot)) :: nxtP c es ps (if e.isLot then b || p else p && takes e c)
  | _, _, b => [b]
theorem nxtP_len (c : Nat) : ∀ (es : List Ent) (ps : List Bool) (b : Bool), ps.length = es.length + 1 → (nxtP c es ps b).length = es.length + 1
  | [], _, _, _ => by simp [nxtP]
  | e :: es, [], _, h => by simp at h
  | e :: es, p :: ps, b, h => by simp [nxtP]; exact nxtP_len c es ps _ (by simpa using h)
theorem nxtP_eq {line : List Nat} {k c : Nat} (hc : line[k]? = some c) : ∀ (es : List Ent) (f : Nat → Bool), nxtP c es (places line es f k) (f (k + 1)) = places line es f (k + 1)
  | [], f => by simp [nxtP, places]
  | e :: es, f => by
    rw [places, nxtP, places, ← nxtP_eq hc es]
    cases h : e.isLot with
    | true =>
      simp [stand, step, anyTo, h]
      constructor
      · rw [Bool.or_comm]
      · rw [Bool.or_comm]
    | false => simp [stand, step, h, hc]
theorem lot_eq (e : Ent) : (match e with | .lot => true | _ => false) = e.isLot := by cases e <;> rfl
/-! ### first_places -/
theorem islot_E (e : Ent) : ∃ k : List Nat, gIx (uE e) (.int 0) = some (.w (.str (ofC k))) ∧ (k == [108, 111, 116]) = e.isLot := by
  cases e with
  | lot => exact ⟨[108, 111, 116], by simp [uE], rfl⟩
  | any => exact ⟨[97, 110, 121], by simp [uE], rfl⟩
  | one c => exact ⟨[111, 110, 101], by simp [uE], rfl⟩
  | of n rs => exact ⟨[111, 102], by simp [uE], rfl⟩
theorem fst_snoc : ∀ (es : List Ent) (b : Bool), (fstP es b).length = es.length + 1
  | [], _ => rfl
  | e :: es, b => by simp [fstP, fst_snoc es]
theorem first_places_ok (es : List Ent) (hl : es.length ≤ 10000) (B : Bx) : G_first_places [.lst (es.map uE)] B = .ok (.lst (bls (fstP es true))) B := by
  simp only [G_first_places]
  refine run_is rfl ?_
  simp only [b_first_places, List.map_cons, List.map_nil, List.length_cons, List.length_nil, Nat.reduceAdd, Nat.reduceSub, List.replicate_succ, List.replicate_zero, List.cons_append, List.nil_append, Nat.zero_add, Nat.sub_self, List.append_nil]
  refine okP_seqL fun LQ hLQ => ?_
  simp
  refine hLQ _ _ _ (then_nx ?_)
  clear hLQ LQ
  refine okP_seqT ?_
  refine okP_forM uE (xs := es) (E1 := [.val (.lst (es.map uE)), .own (.lst [.bl true]), .un]) (B1 := B) (by simp)
    (fun r E B' => B' = B ∧ ∃ (acc : List Bool) (b : Bool) (s : Sl), E = [.val (.lst (es.map uE)), .own (.lst (bls (acc ++ [b]))), s] ∧ Free s ∧ acc ++ fstP r b = fstP es true ∧ acc.length + r.length ≤ es.length)
    ⟨rfl, [], true, .un, rfl, free_un, rfl, by simp⟩ ?_ ?_
  · rintro e r E B' ⟨rfl, acc, b, s, rfl, fs, hacc, hlen⟩
    obtain ⟨k, k1, k2⟩ := islot_E e
    rw [List.length_cons] at hlen
    have hx : atI (bls (acc ++ [b])) (-1) = some (.bl b) := by unfold bls; rw [List.map_append, List.map_singleton, L2.atI_last]
    have hln : (bls (acc ++ [b])).length < 16777216 := by simp [bls]; omega
    refine BdIs_of (E := [.val (.lst (es.map uE)), .own (.lst (bls (acc ++ [b]))), .val (uE e)]) (by rcases fs with rfl | ⟨_, rfl⟩ <;> simp) (body_go ?_)
    cases b
    · refine okP_lock fun LQ hLQ => ?_
      simp [lp_first_places_0, k1, k2, hx, hln]
      refine hLQ _ _ _ ?_
      clear hLQ LQ
      refine loop_nx ⟨rfl, acc ++ [false], false, .val (uE e), by simp [bls], free_val, ?_, by simp; omega⟩
      rw [← hacc, fstP]; simp
    · refine okP_lock fun LQ hLQ => ?_
      simp [lp_first_places_0, k1, k2, hx, hln]
      refine hLQ _ _ _ ?_
      clear hLQ LQ
      refine loop_nx ⟨rfl, acc ++ [true], e.isLot, .val (uE e), by simp [bls], free_val, ?_, by simp; omega⟩
      rw [← hacc, fstP]; simp
  · rintro E B' ⟨rfl, acc, b, s, rfl, fs, hacc, hlen⟩
    refine then_nx ?_
    rw [fstP] at hacc
    refine okP_lock fun LQ hLQ => ?_
    simp [hacc]
    exact hLQ _ _ _ ret_is
end LawW
namespace LawW
open PySem L2 QB
theorem enum_map {α : Type} (enc : α → U) (es : List α) (i : Nat) : ((es.map enc).mapIdx fun k u => U.tup [.int ((k + i : Nat) : Int), u]) = (es.zipIdx i).map fun p => U.tup [.int (p.2 : Int), enc p.1] := by
  induction es generalizing i with
  | nil => rfl
  | cons e es ih =>
    rw [List.map_cons, List.mapIdx_cons, List.zipIdx_cons, List.map_cons, ← ih (i + 1)]
    simp [Function.comp_def, Nat.add_assoc, Nat.add_comm 1 i]
theorem enum_map0 {α : Type} (enc : α → U) (es : List α) : ((es.map enc).mapIdx fun k u => U.tup [.int ((k : Nat) : Int), u]) = (es.zipIdx 0).map fun p => U.tup [.int (p.2 : Int), enc p.1] := enum_map enc es 0
def encP (p : Ent × Nat) : U := .tup [.int (p.2 : Int), uE p.1]
theorem next_places_ok (es : List Ent) (hr : ∀ e ∈ es, RgN e) (ps : List Bool) (c : Nat) (hl : es.length ≤ 10000) (hp : ps.length = es.length + 1) (B : Bx) :
    G_next_places [.lst (es.map uE), .lst (bls ps), .str (ofC [c])] B = .ok (.lst (bls (nxtP c es ps false))) B := by
  have r0 : gRep (.lst [.bl false]) (.int ((bls ps).length : Int)) = some (.fr (.lst (List.replicate (es.length + 1) (.bl false)))) := by
    have e1 : (bls ps).length = es.length + 1 := by simp [bls, hp]
    have e2 : I62 ((es.length + 1 : Nat) : Int) = true := i62 (by omega) (by omega)
    have e3 : ∀ n : Nat, (List.replicate n [U.bl false]).flatten = List.replicate n (.bl false) := fun n => by simp
    rw [e1, gRep, Int.toNat_natCast, e3, if_pos ⟨e2, by simp; omega⟩]
  simp only [G_next_places]
  refine run_is rfl ?_
  simp only [b_next_places, List.map_cons, List.map_nil, List.length_cons, List.length_nil, Nat.reduceAdd, Nat.reduceSub, List.replicate_succ, List.replicate_zero, List.cons_append, List.nil_append, Nat.zero_add, Nat.sub_self, List.append_nil]
  refine okP_seqL fun LQ hLQ => ?_
  simp [r0]
  refine hLQ _ _ _ (then_nx ?_)
  clear hLQ LQ
  refine okP_seqT ?_
  refine okP_forM encP (xs := es.zipIdx 0) (E1 := [.val (.lst (es.map uE)), .val (.lst (bls ps)), .val (.str (ofC [c])), .own (.lst (List.replicate (es.length + 1) (.bl false))), .un, .un]) (B1 := B) (by simp [enum_map0, encP])
    (fun q E B' => B' = B ∧ ∃ (r : List Ent) (D : List U) (dn : List Bool) (b : Bool) (pd pr : List Bool) (s1 s2 : Sl), q = r.zipIdx D.length ∧ D = bls dn ∧ (∀ e ∈ r, RgN e) ∧ ps = pd ++ pr ∧ pd.length = D.length ∧ pr.length = r.length + 1 ∧ D.length + r.length = es.length ∧
      E = [.val (.lst (es.map uE)), .val (.lst (bls ps)), .val (.str (ofC [c])), .own (.lst (D ++ .bl b :: List.replicate r.length (.bl false))), s1, s2] ∧ Free s1 ∧ Free s2 ∧ dn ++ nxtP c r pr b = nxtP c es ps false)
    ⟨rfl, es, [], [], false, [], ps, .un, .un, rfl, rfl, hr, rfl, rfl, hp, by simp, rfl, free_un, free_un, rfl⟩ ?_ ?_
  · rintro x q E B' ⟨rfl, r, D, dn, b, pd, pr, s1, s2, eq, hD, hr', hps, hpd, hpr, hlen, rfl, f1, f2, hacc⟩
    cases r with
    | nil => cases eq
    | cons e r =>
      rw [List.zipIdx_cons, List.cons.injEq] at eq
      obtain ⟨rfl, rfl⟩ := eq
      cases pr with
      | nil => simp at hpr
      | cons p pr =>
        obtain ⟨k, k1, k2⟩ := islot_E e
        have tk := takes_ok e (hr' e (List.mem_cons_self ..)) c B'
        have gp : (bls ps)[D.length]? = some (.bl p) := by rw [hps, ← hpd]; simp [bls]
        have rep : List.replicate (e :: r).length (U.bl false) = .bl false :: List.replicate r.length (.bl false) := by simp [List.replicate_succ]
        rw [List.length_cons] at hlen
        rw [rep]
        generalize hR : List.replicate r.length (U.bl false) = R at *
        have hRl : R.length = r.length := by rw [← hR]; simp
        have i1 : ixN (D.length + (R.length + 1 + 1)) (D.length : Int) = some D.length := ixN_of rfl (by omega)
        have i2 : ixN (D.length + (R.length + 1 + 1)) ((D.length : Int) + 1) = some (D.length + 1) := ixN_of (by omega) (by omega)
        have g1 : ∀ x y : U, (D ++ x :: y :: R)[D.length]? = some x := fun x y => by simp
        have t1 : ∀ x y z : U, (D ++ x :: y :: R).set D.length z = D ++ z :: y :: R := fun x y z => by simp
        have t2 : ∀ x y z : U, (D ++ x :: y :: R).set (D.length + 1) z = D ++ x :: z :: R := fun x y z => by simp [List.set_append]
        refine BdIs_of (E := [.val (.lst (es.map uE)), .val (.lst (bls ps)), .val (.str (ofC [c])), .own (.lst (D ++ .bl b :: .bl false :: R)), .val (.int (D.length : Int)), .val (uE e)]) (by rcases f1 with rfl | ⟨_, rfl⟩ <;> rcases f2 with rfl | ⟨_, rfl⟩ <;> simp [encP]) (body_go ?_)
        simp only [lp_next_places_0]
        have fin : ∀ b1 b2 : Bool, b1 = (b || (p && e.isLot)) → b2 = (if e.isLot then b || p else p && takes e c) → (fun (E : En) (B'_1 : Bx) => B'_1 = B' ∧ ∃ (r_1 : List Ent) (D_1 : List U) (dn : List Bool) (b : Bool) (pd pr : List Bool) (s1 s2 : Sl), r.zipIdx (D.length + 1) = r_1.zipIdx D_1.length ∧ D_1 = bls dn ∧ (∀ e ∈ r_1, RgN e) ∧ ps = pd ++ pr ∧ pd.length = D_1.length ∧ pr.length = r_1.length + 1 ∧ D_1.length + r_1.length = es.length ∧
      E = [.val (.lst (es.map uE)), .val (.lst (bls ps)), .val (.str (ofC [c])), .own (.lst (D_1 ++ .bl b :: List.replicate r_1.length (.bl false))), s1, s2] ∧ Free s1 ∧ Free s2 ∧ dn ++ nxtP c r_1 pr b = nxtP c es ps false) [.val (.lst (es.map uE)), .val (.lst (bls ps)), .val (.str (ofC [c])), .own (.lst (D ++ .bl b1 :: .bl b2 :: R)), .val (.int (D.length : Int)), .val (uE e)] B' := by
          rintro b1 b2 h1 h2
          refine ⟨rfl, r, D ++ [.bl b1], dn ++ [b1], b2, pd ++ [p], pr, _, _, by simp, by simp [bls, hD], fun e he => hr' e (List.mem_cons_of_mem _ he), by simp [hps], by simp [hpd], by simpa using hpr, by simp; omega, by simp [hR]; exact ⟨rfl, rfl⟩, free_val, free_val, ?_⟩
          rw [← hacc, nxtP, ← h1, ← h2]; simp
        cases hlot : e.isLot with
        | true =>
          rw [hlot] at k2
          have htk : takes e c = true := by cases e <;> first | rfl | cases hlot
          rw [htk] at tk
          cases p with
          | true =>
            refine okP_seqL fun LQ hLQ => ?_
            simp [gp, tk, k1, k2, i1, t1]
            refine hLQ _ _ _ (then_nx ?_)
            clear hLQ LQ
            refine okP_lock fun LQ hLQ => ?_
            simp [gp, tk, k1, k2, i1, i2, t1, t2, g1]
            refine hLQ _ _ _ ?_
            clear hLQ LQ
            exact loop_nx (fin true true (by simp [hlot]) (by simp [hlot]))
          | false =>
            refine okP_seqL fun LQ hLQ => ?_
            simp [gp, tk, k1, k2, i1, t1]
            refine hLQ _ _ _ (then_nx ?_)
            clear hLQ LQ
            cases b
            · refine okP_lock fun LQ hLQ => ?_
              simp [gp, tk, k1, k2, i1, i2, t1, t2, g1]
              refine hLQ _ _ _ ?_
              clear hLQ LQ
              exact loop_nx (fin false false (by simp) (by simp [hlot]))
            · refine okP_lock fun LQ hLQ => ?_
              simp [gp, tk, k1, k2, i1, i2, t1, t2, g1]
              refine hLQ _ _ _ ?_
              clear hLQ LQ
              exact loop_nx (fin true true (by simp) (by simp [hlot]))
        | false =>
          rw [hlot] at k2
          cases p with
          | true =>
            cases htk : takes e c
            · rw [htk] at tk
              refine okP_seqL fun LQ hLQ => ?_
              simp [gp, tk, k1, k2, i1, i2, t1, t2]
              refine hLQ _ _ _ (then_nx ?_)
              clear hLQ LQ
              cases b
              · refine okP_lock fun LQ hLQ => ?_
                simp [gp, tk, k1, k2, i1, i2, t1, t2, g1]
                refine hLQ _ _ _ ?_
                clear hLQ LQ
                exact loop_nx (fin false false (by simp [hlot]) (by simp [hlot, htk]))
              · refine okP_lock fun LQ hLQ => ?_
                simp [gp, tk, k1, k2, i1, i2, t1, t2, g1]
                refine hLQ _ _ _ ?_
                clear hLQ LQ
                exact loop_nx (fin true false (by simp [hlot]) (by simp [hlot, htk]))
            · rw [htk] at tk
              refine okP_seqL fun LQ hLQ => ?_
              simp [gp, tk, k1, k2, i1, i2, t1, t2]
              refine hLQ _ _ _ (then_nx ?_)
              clear hLQ LQ
              cases b
              · refine okP_lock fun LQ hLQ => ?_
                simp [gp, tk, k1, k2, i1, i2, t1, t2, g1]
                refine hLQ _ _ _ ?_
                clear hLQ LQ
                exact loop_nx (fin false true (by simp [hlot]) (by simp [hlot, htk]))
              · refine okP_lock fun LQ hLQ => ?_
                simp [gp, tk, k1, k2, i1, i2, t1, t2, g1]
                refine hLQ _ _ _ ?_
                clear hLQ LQ
                exact loop_nx (fin true true (by simp [hlot]) (by simp [hlot, htk]))
          | false =>
            refine okP_seqL fun LQ hLQ => ?_
            simp [gp, tk, k1, k2, i1, i2, t1, t2]
            refine hLQ _ _ _ (then_nx ?_)
            clear hLQ LQ
            cases b
            · refine okP_lock fun LQ hLQ => ?_
              simp [gp, tk, k1, k2, i1, i2, t1, t2, g1]
              refine hLQ _ _ _ ?_
              clear hLQ LQ
              exact loop_nx (fin false false (by simp [hlot]) (by simp [hlot]))
            · refine okP_lock fun LQ hLQ => ?_
              simp [gp, tk, k1, k2, i1, i2, t1, t2, g1]
              refine hLQ _ _ _ ?_
              clear hLQ LQ
              exact loop_nx (fin true false (by simp [hlot]) (by simp [hlot]))
  · rintro E B' ⟨rfl, r, D, dn, b, pd, pr, s1, s2, eq, hD, hr', hps, hpd, hpr, hlen, rfl, f1, f2, hacc⟩
    cases r with
    | cons e r => cases eq
    | nil =>
      refine then_nx ?_
      have : D ++ [U.bl b] = bls (nxtP c es ps false) := by rw [← hacc, hD]; simp [bls, nxtP]
      refine okP_lock fun LQ hLQ => ?_
      simp [this]
      refine hLQ _ _ _ ?_
      clear hLQ LQ
      exact ret_is
end LawW
namespace LawW
open PySem L2 QB
def encT (p : Nat × Nat) : U := .tup [.int (p.2 : Int), chr p.1]
def lensTo (line : List Nat) (es : List Ent) (n : Nat) : List Nat := (List.range n).filter (ends line es at0)
theorem lensTo_succ (line : List Nat) (es : List Ent) (n : Nat) : lensTo line es (n + 1) = lensTo line es n ++ (if ends line es at0 n then [n] else []) := by
  unfold lensTo
  rw [List.range_succ, List.filter_append]
  cases h : ends line es at0 n <;> simp [h]
theorem last_bls (line : List Nat) (es : List Ent) (f : Nat → Bool) (k : Nat) : atI (bls (places line es f k)) (-1) = some (.bl (ends line es f k)) := by
  rw [atI_neg1, bls, List.getLast?_map, places_last]; rfl
theorem lens_len (line : List Nat) (es : List Ent) (n : Nat) : (lensTo line es n).length ≤ n := by
  have := List.length_filter_le (ends line es at0) (List.range n)
  simpa [lensTo] using this
theorem beginnings_ok (es : List Ent) (hr : ∀ e ∈ es, RgN e) (line : List Nat) (hl : es.length ≤ 10000) (hl2 : line.length ≤ 10000) (B : Bx) :
    G_beginnings [.lst (es.map uE), .str (ofC line)] B = .ok (.lst ((lensTo line es (line.length + 1)).map nat)) B := by
  have f0 : fstP es true = places line es at0 0 := fstP_eq line es at0
  have fp := first_places_ok es hl B
  rw [f0] at fp
  have l0 := last_bls line es at0 0
  simp only [G_beginnings]
  refine run_is rfl ?_
  simp only [b_beginnings, List.map_cons, List.map_nil, List.length_cons, List.length_nil, Nat.reduceAdd, Nat.reduceSub, List.replicate_succ, List.replicate_zero, List.cons_append, List.nil_append, Nat.zero_add, Nat.sub_self, List.append_nil]
  refine okP_seqL fun LQ hLQ => ?_
  simp [fp]
  refine hLQ _ _ _ (then_nx ?_)
  clear hLQ LQ
  have t1 := textU_map line 1
  refine okP_seqT ?_
  have s1 : ∃ xs, (sOwn 3 (mIf (mTru (m2 gIx (mVar 2) (m1 gNeg (mC (.int 1))))) (mLst (mCons (mC (.int 0)) (mNil))) (mLst (mNil)))) [.val (.lst (es.map uE)), .val (.str (ofC line)), .val (.lst (bls (places line es at0 0))), .un, .un, .un] B =
      .ok .nx [.val (.lst (es.map uE)), .val (.str (ofC line)), .val (.lst (bls (places line es at0 0))), .own (.lst (xs.map nat)), .un, .un] B ∧ xs = lensTo line es 1 := by
    refine ⟨_, ?_, rfl⟩
    have e1 : lensTo line es 1 = if ends line es at0 0 then [0] else [] := by
      rw [lensTo_succ]; simp [lensTo]
    rw [e1]
    cases hb : ends line es at0 0 <;> rw [hb] at l0 <;> simp [l0, nat]
  obtain ⟨xs, s1, hxs⟩ := s1
  rw [s1, OkP_ok]
  refine then_nx ?_
  refine okP_seqT ?_
  refine okP_forM encT (xs := line.zipIdx 1) (E1 := [.val (.lst (es.map uE)), .val (.str (ofC line)), .val (.lst (bls (places line es at0 0))), .own (.lst (xs.map nat)), .un, .un]) (B1 := B) (by
      have := t1
      simp only [Int.natCast_one] at this
      simp [this, encT, i62])
    (fun q E B' => ∃ (k : Nat) (s1 s2 : Sl), B' = B ∧ q = (line.drop k).zipIdx (k + 1) ∧ k ≤ line.length ∧ Free s1 ∧ Free s2 ∧ E = [.val (.lst (es.map uE)), .val (.str (ofC line)), .val (.lst (bls (places line es at0 k))), .own (.lst ((lensTo line es (k + 1)).map nat)), s1, s2])
    ⟨0, .un, .un, rfl, rfl, by omega, free_un, free_un, by rw [hxs]⟩ ?_ ?_
  · rintro x q E B' ⟨k, s1, s2, rfl, eq, hk, f1, f2, rfl⟩
    by_cases hlt : k < line.length
    · rw [List.drop_eq_getElem_cons hlt, List.zipIdx_cons, List.cons.injEq] at eq
      obtain ⟨rfl, rfl⟩ := eq
      have hc : line[k]? = some line[k] := List.getElem?_eq_getElem hlt
      generalize line[k] = c at hc
      have np := next_places_ok es hr (places line es at0 k) c hl (places_len ..) B'
      rw [show (false : Bool) = at0 (k + 1) from rfl, nxtP_eq hc] at np
      have l1 := last_bls line es at0 (k + 1)
      have ll := lens_len line es (k + 1)
      refine BdIs_of (E := [.val (.lst (es.map uE)), .val (.str (ofC line)), .val (.lst (bls (places line es at0 k))), .own (.lst ((lensTo line es (k + 1)).map nat)), .val (nat (k + 1)), .val (chr c)]) (by rcases f1 with rfl | ⟨_, rfl⟩ <;> rcases f2 with rfl | ⟨_, rfl⟩ <;> simp [encT, nat]) (body_go ?_)
      have ss := lensTo_succ line es (k + 1)
      have hln : (lensTo line es (k + 1)).length < 16777216 := by omega
      simp only [lp_beginnings_0]
      refine okP_seqL fun LQ hLQ => ?_
      simp [chr, np]
      refine hLQ _ _ _ (then_nx ?_)
      clear hLQ LQ
      cases hb : ends line es at0 (k + 1)
      · rw [hb] at l1 ss
        refine okP_lock fun LQ hLQ => ?_
        simp [l1]
        refine hLQ _ _ _ ?_
        clear hLQ LQ
        exact loop_nx ⟨k + 1, _, _, rfl, rfl, by omega, free_val, free_val, by rw [ss]; simp; exact ⟨rfl, rfl⟩⟩
      · rw [hb] at l1 ss
        refine okP_lock fun LQ hLQ => ?_
        simp [l1, hln]
        refine hLQ _ _ _ ?_
        clear hLQ LQ
        exact loop_nx ⟨k + 1, _, _, rfl, rfl, by omega, free_val, free_val, by rw [ss]; simp; exact ⟨rfl, rfl⟩⟩
    · rw [List.drop_eq_nil_of_le (by omega)] at eq
      cases eq
  · rintro E B' ⟨k, s1, s2, rfl, eq, hk, f1, f2, rfl⟩
    have : k = line.length := by
      have := congrArg List.length eq
      simp at this
      omega
    subst this
    refine then_nx ?_
    refine okP_lock fun LQ hLQ => ?_
    simp
    exact hLQ _ _ _ ret_is
theorem meets_plainly_ok (es : List Ent) (hr : ∀ e ∈ es, RgN e) (line : List Nat) (hl : es.length ≤ 10000) (B : Bx) :
    G_meets_plainly [.lst (es.map uE), .str (ofC line)] B = .ok (.bl (ends line es at0 line.length)) B := by
  have f0 : fstP es true = places line es at0 0 := fstP_eq line es at0
  have fp := first_places_ok es hl B
  rw [f0] at fp
  simp only [G_meets_plainly]
  refine run_is rfl ?_
  simp only [b_meets_plainly, List.map_cons, List.map_nil, List.length_cons, List.length_nil, Nat.reduceAdd, Nat.reduceSub, List.replicate_succ, List.replicate_zero, List.cons_append, List.nil_append, Nat.zero_add, Nat.sub_self, List.append_nil]
  refine okP_seqL fun LQ hLQ => ?_
  simp [fp]
  refine hLQ _ _ _ (then_nx ?_)
  clear hLQ LQ
  refine okP_seqT ?_
  refine okP_forM chr (xs := line) (E1 := [.val (.lst (es.map uE)), .val (.str (ofC line)), .val (.lst (bls (places line es at0 0))), .un]) (B1 := B) (by simp [chr])
    (fun q E B' => ∃ (k : Nat) (s1 : Sl), B' = B ∧ q = line.drop k ∧ k ≤ line.length ∧ Free s1 ∧ E = [.val (.lst (es.map uE)), .val (.str (ofC line)), .val (.lst (bls (places line es at0 k))), s1])
    ⟨0, .un, rfl, rfl, by omega, free_un, rfl⟩ ?_ ?_
  · rintro x q E B' ⟨k, s1, rfl, eq, hk, f1, rfl⟩
    by_cases hlt : k < line.length
    · rw [List.drop_eq_getElem_cons hlt, List.cons.injEq] at eq
      obtain ⟨rfl, rfl⟩ := eq
      have hc : line[k]? = some line[k] := List.getElem?_eq_getElem hlt
      generalize line[k] = c at hc
      have np := next_places_ok es hr (places line es at0 k) c hl (places_len ..) B'
      rw [show (false : Bool) = at0 (k + 1) from rfl, nxtP_eq hc] at np
      refine BdIs_of (E := [.val (.lst (es.map uE)), .val (.str (ofC line)), .val (.lst (bls (places line es at0 k))), .val (chr c)]) (by rcases f1 with rfl | ⟨_, rfl⟩ <;> simp) (body_go ?_)
      refine okP_lock fun LQ hLQ => ?_
      simp [lp_meets_plainly_0, chr, np]
      refine hLQ _ _ _ ?_
      clear hLQ LQ
      exact loop_nx ⟨k + 1, _, rfl, rfl, by omega, free_val, rfl⟩
    · rw [List.drop_eq_nil_of_le (by omega)] at eq
      cases eq
  · rintro E B' ⟨k, s1, rfl, eq, hk, f1, rfl⟩
    have : k = line.length := by
      have := congrArg List.length eq
      simp at this
      omega
    subst this
    refine then_nx ?_
    refine okP_lock fun LQ hLQ => ?_
    simp [last_bls]
    exact hLQ _ _ _ ret_is
end LawW
namespace LawW
open PySem L2 QB
def sgs : List Nat := 10 :: ((List.range 95).map (· + 32)).filter (· != 37)
theorem lit_S : c_SIGNS = ofC sgs := by rw [lit_SIGNS]; decide +kernel
theorem sgs_lt : ∀ c ∈ sgs, c < 127 := by decide
def EntOk (e : Ent) : Prop := match e with
  | .one c => c ∈ sgs
  | .of _ rs => rs ≠ [] ∧ rs.length ≤ 1000 ∧ ∀ r ∈ rs, r.1 ∈ sgs ∧ r.2 ∈ sgs ∧ r.1 ≤ r.2
  | _ => True
theorem EntOk.rgn {e : Ent} (h : EntOk e) : RgN e := by
  cases e with
  | of n rs => exact h.2.1
  | _ => trivial
theorem okS_sg {c : Nat} (h : c ∈ sgs) : okS (ofC [c]) = true := by
  have : c < 127 := sgs_lt c h
  revert this h
  revert c
  decide +kernel
theorem is_sign_ok {c : Nat} (h : c ∈ sgs) (B : Bx) : G_is_sign [.str (ofC [c])] B = .ok (.bl true) B := by
  have e : inU (.str (ofC [c])) (.str c_SIGNS) = some true := by rw [lit_S, e_in_1, decide_eq_true h]
  have e2 : b_is_sign = sRet (mAndV (m1 (gIsi "str") (mVar 0)) (mAndV (m2 gEq (m1 gLen (mVar 0)) (mC (.int 1))) (m2 (gIn false) (mVar 0) (mC (.str c_SIGNS))))) := rfl
  rw [G_is_sign, e2]
  generalize c_SIGNS = z at e
  simp [runBody, e]
theorem is_range_ok {r : Rg} (h1 : r.1 ∈ sgs) (h2 : r.2 ∈ sgs) (h3 : r.1 ≤ r.2) (B : Bx) : G_is_range [uR r] B = .ok (.bl true) B := by
  have n : ¬ r.2 < r.1 := by omega
  simp [G_is_range, runBody, b_is_range, uR, is_sign_ok h1 B, is_sign_ok h2 B, n]
theorem flt_uR {n : Nat} {r : Rg} (h1 : r.1 ∈ sgs) (h2 : r.2 ∈ sgs) : Flt (n + 2) (uR r) := by
  intro v hv
  rcases List.mem_cons.mp hv with rfl | hv
  · exact okS_sg h1
  · rw [List.mem_singleton] at hv; subst hv; exact okS_sg h2
theorem flt_rs {n : Nat} {rs : List Rg} (h : ∀ r ∈ rs, r.1 ∈ sgs ∧ r.2 ∈ sgs ∧ r.1 ≤ r.2) : Flt (n + 3) (.lst (rs.map uR)) := by
  intro v hv
  obtain ⟨r, hr, rfl⟩ := List.mem_map.mp hv
  exact flt_uR (h r hr).1 (h r hr).2.1
theorem okS_lot : okS (ofC [108, 111, 116]) = true := by decide +kernel
theorem okS_any : okS (ofC [97, 110, 121]) = true := by decide +kernel
theorem okS_one : okS (ofC [111, 110, 101]) = true := by decide +kernel
theorem okS_of : okS (ofC [111, 102]) = true := by decide +kernel
theorem flt_uE {n : Nat} {e : Ent} (h : EntOk e) : Flt (n + 4) (uE e) := by
  cases e with
  | lot => intro v hv; rw [List.mem_singleton] at hv; subst hv; exact okS_lot
  | any => intro v hv; rw [List.mem_singleton] at hv; subst hv; exact okS_any
  | one c =>
    intro v hv
    rcases List.mem_cons.mp hv with rfl | hv
    · exact okS_one
    · rw [List.mem_singleton] at hv; subst hv; exact okS_sg h
  | of b rs =>
    intro v hv
    rcases List.mem_cons.mp hv with rfl | hv
    · exact okS_of
    · rcases List.mem_cons.mp hv with rfl | hv
      · trivial
      · rw [List.mem_singleton] at hv; subst hv; exact flt_rs h.2.2
theorem flt_nil {n : Nat} : Flt (n + 1) (.lst []) := fun v hv => by cases hv
theorem flt_tnil {n : Nat} : Flt (n + 1) (.tup []) := fun v hv => by cases hv
theorem in_1 : inU (.str (ofC [108, 111, 116])) (.tup [.str (ofC [97, 110, 121]), .str (ofC [108, 111, 116])]) = some true := by decide +kernel
theorem in_2 : inU (.str (ofC [97, 110, 121])) (.tup [.str (ofC [97, 110, 121]), .str (ofC [108, 111, 116])]) = some true := by decide +kernel
theorem in_3 : inU (.str (ofC [111, 110, 101])) (.tup [.str (ofC [97, 110, 121]), .str (ofC [108, 111, 116])]) = some false := by decide +kernel
theorem in_4 : inU (.str (ofC [111, 102])) (.tup [.str (ofC [97, 110, 121]), .str (ofC [108, 111, 116])]) = some false := by decide +kernel
theorem uE_ne (e : Ent) (h : EntOk e) : gEqB ([] : Bx) (uE e) (.tup []) = gEqB [] (uE e) (.tup []) := rfl
theorem eq_nilT {e : Ent} (h : EntOk e) : eqU (uE e) (.tup []) = some false := by
  rw [eqU_flt (n := 4) (by decide) (flt_uE h) flt_tnil]
  cases e <;> rfl
@[simp] theorem kind_uE {e : Ent} : kindS (uE e) = some "tuple" := by cases e <;> rfl
theorem is_entry_ok {e : Ent} (h : EntOk e) (B : Bx) : G_is_entry [uE e] B = .ok (.bl true) B := by
  have e0 := eq_nilT h
  cases e with
  | lot => simp [uE] at e0; simp [G_is_entry, runBody, b_is_entry, uE, e0, in_1]
  | any => simp [uE] at e0; simp [G_is_entry, runBody, b_is_entry, uE, e0, in_2]
  | one c => simp [uE] at e0; simp [G_is_entry, runBody, b_is_entry, uE, e0, in_3, is_sign_ok h B]
  | of n rs =>
    obtain ⟨h1, h2, h3⟩ := h
    have lc : ∀ B, lc_is_entry_0 G_is_range [.val (uE (.of n rs)), .un] B = .ok (.fr (.lst (rs.map fun r => .bl true))) [.val (uE (.of n rs)), .un] B := fun B => by
      refine mLc_all uR (fun r => .bl true) (by simp) (by simp) (by simp) (by omega) (fun r hr => ?_)
      have := is_range_ok (h3 r hr).1 (h3 r hr).2.1 (h3 r hr).2.2 B
      simp [Elt, this]
    have an := e_all' (l := rs) (p := fun _ => true)
    have n0 : eqU (.lst (rs.map uR)) (.lst []) = some false := by
      rw [eqU_flt (n := 3) (by decide) (flt_rs h3) flt_nil]
      cases rs with
      | nil => exact absurd rfl h1
      | cons r rs => rfl
    have ln : gLen (uE (.of n rs)) = some (.w (.int 3)) := by simp [uE]
    simp only [G_is_entry]
    refine run_is rfl ?_
    simp only [b_is_entry, List.map_cons, List.map_nil, List.length_cons, List.length_nil, Nat.reduceAdd, Nat.reduceSub, List.replicate_succ, List.replicate_zero, List.cons_append, List.nil_append, Nat.zero_add, Nat.sub_self, List.append_nil]
    refine okP_seqL fun LQ hLQ => ?_
    simp [e0]
    refine hLQ _ _ _ (then_nx ?_)
    clear hLQ LQ
    refine okP_seqL fun LQ hLQ => ?_
    simp [in_4]
    refine hLQ _ _ _ (then_nx ?_)
    clear hLQ LQ
    refine okP_seqL fun LQ hLQ => ?_
    simp
    refine hLQ _ _ _ (then_nx ?_)
    clear hLQ LQ
    refine okP_seqL fun LQ hLQ => ?_
    simp [ln]
    refine hLQ _ _ _ (then_nx ?_)
    clear hLQ LQ
    refine okP_lock fun LQ hLQ => ?_
    simp [n0]
    simp [lc, an]
    exact hLQ _ _ _ (ret_is' (by simp) rfl)
end LawW
namespace LawW
open PySem L2 QB
def RowOk (es : List Ent) : Prop := (∀ e ∈ es, EntOk e) ∧ es.length ≤ 10000
theorem RowOk.rgn {es : List Ent} (h : RowOk es) : ∀ e ∈ es, RgN e := fun e he => (h.1 e he).rgn
theorem RowOk.rev {es : List Ent} (h : RowOk es) : RowOk es.reverse := ⟨fun e he => h.1 e (by simpa using he), by simpa using h.2⟩
theorem is_pattern_ok {es : List Ent} (h : RowOk es) (B : Bx) : G_is_pattern [.lst (es.map uE)] B = .ok (.bl true) B := by
  have lc : ∀ B, lc_is_pattern_0 G_is_entry [.val (.lst (es.map uE)), .un] B = .ok (.fr (.lst (es.map fun r => .bl true))) [.val (.lst (es.map uE)), .un] B := fun B => by
    refine mLc_all uE (fun _ => .bl true) (by simp) (by simp) (by simp) (by have := h.2; omega) (fun e he => ?_)
    have := is_entry_ok (h.1 e he) B
    simp [Elt, this]
  have an := e_all' (l := es) (p := fun _ => true)
  simp only [G_is_pattern]
  refine run_is rfl ?_
  simp only [b_is_pattern, List.map_cons, List.map_nil, List.length_cons, List.length_nil, Nat.reduceAdd, Nat.reduceSub, List.replicate_succ, List.replicate_zero, List.cons_append, List.nil_append, Nat.zero_add, Nat.sub_self, List.append_nil]
  refine okP_lock fun LQ hLQ => ?_
  simp [lc, an]
  exact hLQ _ _ _ (ret_is' (by simp) rfl)
theorem check_ok {es : List Ent} (h : RowOk es) (B : Bx) : G_check_patterns [.lst [.lst (es.map uE)]] B = .ok .non B := by
  simp only [G_check_patterns]
  refine run_is rfl ?_
  simp only [b_check_patterns, List.map_cons, List.map_nil, List.length_cons, List.length_nil, Nat.reduceAdd, Nat.reduceSub, List.replicate_succ, List.replicate_zero, List.cons_append, List.nil_append, Nat.zero_add, Nat.sub_self, List.append_nil]
  refine okP_forM (fun _ : Unit => .lst (es.map uE)) (xs := [()]) (E1 := [.val (.lst [.lst (es.map uE)]), .un]) (B1 := B) (by simp)
    (fun q E B' => B' = B ∧ ∃ s, Free s ∧ E = [.val (.lst [.lst (es.map uE)]), s]) ⟨rfl, .un, free_un, rfl⟩ ?_ ?_
  · rintro x q E B' ⟨rfl, s, fs, rfl⟩
    refine BdIs_of (E := [.val (.lst [.lst (es.map uE)]), .val (.lst (es.map uE))]) (by rcases fs with rfl | ⟨_, rfl⟩ <;> simp) (body_go ?_)
    refine okP_lock fun LQ hLQ => ?_
    simp [lp_check_patterns_0, is_pattern_ok h]
    refine hLQ _ _ _ ?_
    clear hLQ LQ
    exact loop_nx ⟨rfl, _, free_val, rfl⟩
  · rintro E B' ⟨rfl, s, fs, rfl⟩
    exact ret_nx
theorem meets_ok {es : List Ent} (h : RowOk es) (line : List Nat) (B : Bx) : G_meets [.lst (es.map uE), .str (ofC line)] B = .ok (.bl (ends line es at0 line.length)) B := by
  simp only [G_meets]
  refine run_is rfl ?_
  simp only [b_meets, List.map_cons, List.map_nil, List.length_cons, List.length_nil, Nat.reduceAdd, Nat.reduceSub, List.replicate_succ, List.replicate_zero, List.cons_append, List.nil_append, Nat.zero_add, Nat.sub_self, List.append_nil]
  refine okP_seqL fun LQ hLQ => ?_
  simp [check_ok h]
  refine hLQ _ _ _ (then_nx ?_)
  clear hLQ LQ
  refine okP_lock fun LQ hLQ => ?_
  simp [meets_plainly_ok es h.rgn line h.2]
  exact hLQ _ _ _ ret_is
theorem heads_ok {es : List Ent} (h : RowOk es) (line : List Nat) (hl : line.length ≤ 10000) (B : Bx) : G_heads [.lst (es.map uE), .str (ofC line)] B = .ok (.lst ((lensTo line es (line.length + 1)).map nat)) B := by
  simp only [G_heads]
  refine run_is rfl ?_
  simp only [b_heads, List.map_cons, List.map_nil, List.length_cons, List.length_nil, Nat.reduceAdd, Nat.reduceSub, List.replicate_succ, List.replicate_zero, List.cons_append, List.nil_append, Nat.zero_add, Nat.sub_self, List.append_nil]
  refine okP_seqL fun LQ hLQ => ?_
  simp [check_ok h]
  refine hLQ _ _ _ (then_nx ?_)
  clear hLQ LQ
  refine okP_lock fun LQ hLQ => ?_
  simp [beginnings_ok es h.rgn line h.2 hl]
  exact hLQ _ _ _ ret_is
theorem tails_ok {es : List Ent} (h : RowOk es) (line : List Nat) (hl : line.length ≤ 10000) (B : Bx) : G_tails [.lst (es.map uE), .str (ofC line)] B = .ok (.lst ((lensTo line.reverse es.reverse (line.length + 1)).map nat)) B := by
  have b := beginnings_ok es.reverse h.rev.rgn line.reverse h.rev.2 (by simpa using hl) B
  rw [List.length_reverse, List.map_reverse] at b
  simp only [G_tails]
  refine run_is rfl ?_
  simp only [b_tails, List.map_cons, List.map_nil, List.length_cons, List.length_nil, Nat.reduceAdd, Nat.reduceSub, List.replicate_succ, List.replicate_zero, List.cons_append, List.nil_append, Nat.zero_add, Nat.sub_self, List.append_nil]
  refine okP_seqL fun LQ hLQ => ?_
  simp [check_ok h]
  refine hLQ _ _ _ (then_nx ?_)
  clear hLQ LQ
  refine okP_lock fun LQ hLQ => ?_
  simp [mRevA, gRevA, b, show line.length ≤ 16777216 by omega]
  exact hLQ _ _ _ ret_is
/-! ### the law's own walk -/
theorem law_takes_ok (e : Ent) (h : RgN e) (c : Nat) (B : Bx) : G__law_takes [uE e, .str (ofC [c])] B = .ok (.bl (takes e c)) B := by
  cases e with
  | lot => simp [G__law_takes, runBody, b__law_takes, takes]
  | any => simp [G__law_takes, runBody, b__law_takes, takes]
  | one d => simp [G__law_takes, runBody, b__law_takes, takes]
  | of n rs =>
    have lc : ∀ B, lc__law_takes_0 [.val (uE (.of n rs)), .val (.str (ofC [c])), .un, .un] B = .ok (.fr (.lst ((rs.filter (inR c)).map fun _ => .int 1))) [.val (uE (.of n rs)), .val (.str (ofC [c])), .un, .un] B := fun B => by
      refine mLc_if uR (inR c) (fun r => .int 1) (by simp) (by simp) (by simp) (by have : rs.length ≤ 1000 := h; omega) (fun r _ => ?_)
      by_cases h1 : r.1 ≤ c
      · have h1' : ¬ c < r.1 := by omega
        by_cases h2 : c ≤ r.2
        · have h2' : ¬ r.2 < c := by omega
          simp [uR, Tst, Elt, inR, h1, h2, h1', h2']
        · have h2' : r.2 < c := by omega
          simp [uR, Tst, Elt, inR, h1, h2, h1', h2']
      · have h1' : c < r.1 := by omega
        simp [uR, Tst, Elt, inR, h1, h1']
    have f1 : Flt 2 (.lst ((rs.filter (inR c)).map fun _ => .int 1)) := by
      intro v hv
      obtain ⟨_, _, rfl⟩ := List.mem_map.mp hv
      trivial
    have q0 : eqU (.lst ((rs.filter (inR c)).map fun _ => .int 1)) (.lst []) = some (!rs.any (inR c)) := by
      rw [eqU_flt (n := 2) (by decide) f1 flt_nil]
      congr 1
      cases hf : rs.filter (inR c) with
      | nil =>
        have : rs.any (inR c) = false := by
          rw [List.any_eq_false]
          intro r hr
          exact fun z => by have := List.mem_filter.mpr ⟨hr, z⟩; rw [hf] at this; cases this
        rw [this]; rfl
      | cons r q =>
        have : rs.any (inR c) = true := by
          have hm : r ∈ rs.filter (inR c) := by rw [hf]; exact List.mem_cons_self ..
          exact List.any_eq_true.mpr ⟨r, (List.mem_filter.mp hm).1, (List.mem_filter.mp hm).2⟩
        rw [this]; rfl
    simp only [G__law_takes]
    refine run_is rfl ?_
    simp only [b__law_takes, List.map_cons, List.map_nil, List.length_cons, List.length_nil, Nat.reduceAdd, Nat.reduceSub, List.replicate_succ, List.replicate_zero, List.cons_append, List.nil_append, Nat.zero_add, Nat.sub_self, List.append_nil]
    refine okP_seqL fun LQ hLQ => ?_
    simp
    refine hLQ _ _ _ (then_nx ?_)
    clear hLQ LQ
    refine okP_seqT ?_
    refine okP_ift0 (by simp; done) ?_
    refine okP_lock fun LQ hLQ => ?_
    simp [lc, q0]
    refine hLQ _ _ _ (then_rt (ret_is' (by simp [takes]; cases n <;> simp) rfl))
end LawW
namespace LawW
open PySem L2 QB
/-! what a pattern lets by, as a plain saying -/
def One (e : Ent) (a : List Nat) : Prop := if e.isLot then True else ∃ c, a = [c] ∧ takes e c = true
def M : List Ent → List Nat → Prop
  | [], l => l = []
  | e :: es, l => ∃ a b, l = a ++ b ∧ One e a ∧ M es b
theorem M_append : ∀ {es fs : List Ent} {l : List Nat}, M (es ++ fs) l ↔ ∃ a b, l = a ++ b ∧ M es a ∧ M fs b
  | [], fs, l => by
    constructor
    · intro h; exact ⟨[], l, rfl, rfl, h⟩
    · rintro ⟨a, b, rfl, rfl, h⟩; exact h
  | e :: es, fs, l => by
    constructor
    · rintro ⟨a, b, rfl, h1, h2⟩
      obtain ⟨c, d, rfl, h3, h4⟩ := M_append.mp h2
      exact ⟨a ++ c, d, by simp, ⟨a, c, rfl, h1, h3⟩, h4⟩
    · rintro ⟨a, b, rfl, ⟨c, d, rfl, h1, h2⟩, h3⟩
      exact ⟨c, d ++ b, by simp, h1, M_append.mpr ⟨d, b, rfl, h2, h3⟩⟩
theorem M_one {e : Ent} {l : List Nat} : M [e] l ↔ One e l := by
  constructor
  · rintro ⟨a, b, rfl, h1, h2⟩
    have : b = [] := h2
    subst this; simpa using h1
  · intro h; exact ⟨l, [], by simp, h, rfl⟩
theorem One_rev {e : Ent} {l : List Nat} : One e l.reverse ↔ One e l := by
  unfold One
  cases e.isLot with
  | true => simp
  | false =>
    simp only [Bool.false_eq_true, if_false]
    constructor
    · rintro ⟨c, h1, h2⟩
      exact ⟨c, by rw [← List.reverse_reverse l, h1]; rfl, h2⟩
    · rintro ⟨c, rfl, h2⟩; exact ⟨c, rfl, h2⟩
theorem M_rev : ∀ {es : List Ent} {l : List Nat}, M es.reverse l.reverse ↔ M es l
  | [], l => by simp [M]
  | e :: es, l => by
    rw [List.reverse_cons, M_append]
    constructor
    · rintro ⟨a, b, h, h1, h2⟩
      refine ⟨b.reverse, a.reverse, ?_, One_rev.mpr (M_one.mp h2), ?_⟩
      · rw [← List.reverse_append, ← h, List.reverse_reverse]
      · rw [← M_rev, List.reverse_reverse]; exact h1
    · rintro ⟨a, b, rfl, h1, h2⟩
      exact ⟨b.reverse, a.reverse, by simp, M_rev.mpr h2, M_one.mpr (One_rev.mpr h1)⟩
theorem anyTo_iff {f : Nat → Bool} : ∀ {k : Nat}, anyTo f k = true ↔ ∃ j, j ≤ k ∧ f j = true
  | 0 => by simp [anyTo]
  | k + 1 => by
    rw [anyTo, Bool.or_eq_true, anyTo_iff]
    constructor
    · rintro (⟨j, h1, h2⟩ | h)
      · exact ⟨j, by omega, h2⟩
      · exact ⟨k + 1, by omega, h⟩
    · rintro ⟨j, h1, h2⟩
      by_cases e : j = k + 1
      · subst e; exact .inr h2
      · exact .inl ⟨j, by omega, h2⟩
def seg (l : List Nat) (i j : Nat) : List Nat := (l.drop i).take (j - i)
theorem seg_app {l : List Nat} {i j k : Nat} (h1 : i ≤ j) (h2 : j ≤ k) : seg l i k = seg l i j ++ seg l j k := by
  unfold seg
  have e : k - i = (j - i) + (k - j) := by omega
  rw [e, List.take_add, List.drop_drop, show i + (j - i) = j from by omega]
theorem seg_len {l : List Nat} {i j : Nat} (h : j ≤ l.length) : (seg l i j).length = j - i := by
  unfold seg
  rw [List.length_take, List.length_drop]; omega
theorem step_iff {line : List Nat} {e : Ent} {f : Nat → Bool} {j : Nat} (hj : j ≤ line.length) : step line e f j = true ↔ ∃ i, i ≤ j ∧ f i = true ∧ One e (seg line i j) := by
  unfold step One
  cases e.isLot with
  | true => simp [anyTo_iff]
  | false =>
    simp only [Bool.false_eq_true, if_false]
    cases j with
    | zero =>
      simp only [Bool.false_eq_true, false_iff]
      rintro ⟨i, h1, h2, c, h3, h4⟩
      have := seg_len (l := line) (i := i) (j := 0) (by omega)
      rw [h3] at this; simp at this
    | succ k =>
      have hk : k < line.length := by omega
      simp only [List.getElem?_eq_getElem hk, Bool.and_eq_true]
      have hs : seg line k (k + 1) = [line[k]] := by
        unfold seg
        rw [List.drop_eq_getElem_cons hk, show k + 1 - k = 1 from by omega]; rfl
      constructor
      · rintro ⟨h1, h2⟩
        exact ⟨k, by omega, h1, line[k], hs, h2⟩
      · rintro ⟨i, h1, h2, c, h3, h4⟩
        have hl := seg_len (l := line) (i := i) (j := k + 1) (by omega)
        rw [h3] at hl
        have : i = k := by simp at hl; omega
        subst this
        rw [hs] at h3
        cases h3
        exact ⟨h2, h4⟩
theorem ends_M {line : List Nat} : ∀ {es : List Ent} {f : Nat → Bool} {k : Nat}, k ≤ line.length → (ends line es f k = true ↔ ∃ i, i ≤ k ∧ f i = true ∧ M es (seg line i k))
  | [], f, k, hk => by
    constructor
    · intro h; exact ⟨k, by omega, h, by simp [M, seg]⟩
    · rintro ⟨i, h1, h2, h3⟩
      have hl := seg_len (l := line) (i := i) (j := k) hk
      have h3' : seg line i k = [] := h3
      rw [h3'] at hl
      have : i = k := by simp at hl; omega
      subst this; exact h2
  | e :: es, f, k, hk => by
    rw [ends, ends_M hk]
    constructor
    · rintro ⟨j, h1, h2, h3⟩
      obtain ⟨i, h4, h5, h6⟩ := (step_iff (by omega)).mp h2
      exact ⟨i, by omega, h5, seg line i j, seg line j k, seg_app h4 h1, h6, h3⟩
    · rintro ⟨i, h1, h2, a, b, h3, h4, h5⟩
      have hl := seg_len (l := line) (i := i) (j := k) hk
      rw [h3, List.length_append] at hl
      have e1 := seg_app (l := line) (i := i) (j := i + a.length) (k := k) (by omega) (by omega)
      have l1 := seg_len (l := line) (i := i) (j := i + a.length) (by omega)
      rw [h3] at e1
      obtain ⟨e2, e3⟩ := List.append_inj e1 (by omega)
      exact ⟨i + a.length, by omega, (step_iff (by omega)).mpr ⟨i, by omega, h2, by rw [← e2]; exact h4⟩, by rw [← e3]; exact h5⟩
theorem ends_head {line : List Nat} {es : List Ent} {k : Nat} (hk : k ≤ line.length) : ends line es at0 k = true ↔ M es (line.take k) := by
  rw [ends_M hk]
  constructor
  · rintro ⟨i, h1, h2, h3⟩
    cases i with
    | zero => simpa [seg] using h3
    | succ i => cases h2
  · intro h; exact ⟨0, by omega, rfl, by simpa [seg] using h⟩
theorem ends_app {line : List Nat} : ∀ {es fs : List Ent} {f : Nat → Bool}, ends line (es ++ fs) f = ends line fs (ends line es f)
  | [], _, _ => rfl
  | e :: es, fs, f => by rw [List.cons_append, ends, ends_app]; rfl
def lens (n : Nat) (f : Nat → Bool) : List Nat := (List.range (n + 1)).filter f
theorem mem_lens {n : Nat} {f : Nat → Bool} {k : Nat} : k ∈ lens n f ↔ k ≤ n ∧ f k = true := by
  simp [lens, List.mem_filter]; omega
theorem lens_sorted (n : Nat) (f : Nat → Bool) : (lens n f).Pairwise (· < ·) := List.Pairwise.filter _ List.pairwise_lt_range
theorem lens_length (n : Nat) (f : Nat → Bool) : (lens n f).length ≤ n + 1 := by
  have := List.length_filter_le f (List.range (n + 1))
  simpa [lens] using this
theorem lens_head {n : Nat} {f : Nat → Bool} {a : Nat} {r : List Nat} (h : lens n f = a :: r) : ∀ k, k ∈ lens n f → a ≤ k := by
  intro k hk
  have p := lens_sorted n f
  rw [h] at p hk
  rcases List.mem_cons.mp hk with rfl | hk
  · omega
  · have := (List.pairwise_cons.mp p).1 k hk; omega
theorem anyTo_nil {n : Nat} {f : Nat → Bool} (h : lens n f = []) {k : Nat} (hk : k ≤ n) : anyTo f k = false := by
  cases e : anyTo f k with
  | false => rfl
  | true =>
    obtain ⟨j, h1, h2⟩ := anyTo_iff.mp e
    have : j ∈ lens n f := mem_lens.mpr ⟨by omega, h2⟩
    rw [h] at this; cases this
theorem anyTo_cons {n : Nat} {f : Nat → Bool} {a : Nat} {r : List Nat} (h : lens n f = a :: r) {k : Nat} (hk : k ≤ n) : anyTo f k = decide (a ≤ k) := by
  have ha : a ∈ lens n f := by rw [h]; exact List.mem_cons_self ..
  have ha := mem_lens.mp ha
  rw [Bool.eq_iff_iff, anyTo_iff, decide_eq_true_iff]
  constructor
  · rintro ⟨j, h1, h2⟩
    have := lens_head h j (mem_lens.mpr ⟨by omega, h2⟩)
    omega
  · intro hak
    exact ⟨a, hak, ha.2⟩
theorem lens_lot {n : Nat} {f : Nat → Bool} : (List.range (n + 1)).filter (fun k => !(lens n f).isEmpty && decide ((lens n f).headD 0 ≤ k)) = lens n (anyTo f) := by
  unfold lens
  apply List.filter_congr
  intro k hk
  have hk := List.mem_range.mp hk
  have e := @anyTo_cons n f
  have e2 := @anyTo_nil n f
  unfold lens at e e2
  cases h : (List.range (n + 1)).filter f with
  | nil => rw [e2 h (by omega)]; rfl
  | cons a r => rw [e h (by omega)]; simp
end LawW
namespace LawW
open PySem L2 QB
theorem G_same : G__law_same = sameF := by
  funext n
  induction n with
  | zero => rfl
  | succ n ih => rw [G__law_same, sameF, ih]; rfl
theorem G_purse : G__law_purse = purseF := rfl
theorem signs_ok (B : Bx) : G__law_signs [] B = .ok (.str (ofC sgs)) B := by
  simp [G__law_signs, runBody, b__law_signs]
  rfl
theorem coin1 {B : Bx} {i n : Nat} (many : Int) (h : Purse B i (n + 1)) (h0 : 0 < many := by decide) (hm : many ≤ 1000000000 := by decide) :
    ∃ (v : Int) (B1 : Bx), 0 ≤ v ∧ v < many ∧ G__law_coin [.box i, .int many] B = .ok (.int v) B1 ∧ Purse B1 i n := by
  obtain ⟨v, c, h1, h2, h3, h4⟩ := coin_ok h h0 hm
  exact ⟨v, _, h1, h2, h3, h4⟩
theorem sgs_len : sgs.length = 95 := by decide +kernel
theorem few : ∀ c ∈ [97, 98, 99, 45], c ∈ sgs := by decide +kernel
theorem sign_ok {B : Bx} {i n : Nat} (hp : Purse B i (n + 2)) : ∃ u B', G__law_sign [.box i] B = .ok u B' ∧ (∃ c, u = chr c ∧ c ∈ sgs) ∧ Purse B' i n := by
  obtain ⟨v, B1, v0, v1, e1, p1⟩ := coin1 3 hp
  simp only [G__law_sign]
  refine run_p rfl ?_
  simp only [b__law_sign, List.map_cons, List.map_nil, List.length_cons, List.length_nil, Nat.reduceAdd, Nat.reduceSub, List.replicate_succ, List.replicate_zero, List.cons_append, List.nil_append, Nat.zero_add, Nat.sub_self, List.append_nil]
  refine okP_seqL fun LQ hLQ => ?_
  simp [e1]
  refine hLQ _ _ _ (then_nx ?_)
  clear hLQ LQ
  by_cases h : v < 2
  · obtain ⟨w, B2, w0, w1, e2, p2⟩ := coin1 3 p1
    have : v = 0 ∨ v = 1 := by omega
    rcases this with rfl | rfl
    · obtain ⟨c, hc, hx⟩ := atI_mem (l := [97, 98, 99]) w0 w1
      refine okP_seqT ?_
      refine okP_ift0 (by simp; done) ?_
      refine okP_lock fun LQ hLQ => ?_
      simp [e2, hx]
      refine hLQ _ _ _ ?_
      clear hLQ LQ
      exact then_rt (ret_p ⟨⟨c, rfl, few c (by simp at hc ⊢; omega)⟩, p2⟩)
    · obtain ⟨c, hc, hx⟩ := atI_mem (l := [97, 98, 45]) w0 w1
      refine okP_seqT ?_
      refine okP_ift0 (by simp; done) ?_
      refine okP_lock fun LQ hLQ => ?_
      simp [e2, hx]
      refine hLQ _ _ _ ?_
      clear hLQ LQ
      exact then_rt (ret_p ⟨⟨c, rfl, few c (by simp at hc ⊢; omega)⟩, p2⟩)
  · obtain ⟨w, B2, w0, w1, e2, p2⟩ := coin1 95 p1
    obtain ⟨c, hc, hx⟩ := atI_mem (l := sgs) w0 (by rw [sgs_len]; omega)
    refine okP_seqL fun LQ hLQ => ?_
    simp [h]
    refine hLQ _ _ _ (then_nx ?_)
    clear hLQ LQ
    refine okP_lock fun LQ hLQ => ?_
    simp [e2, signs_ok, hx, sgs_len]
    refine hLQ _ _ _ ?_
    clear hLQ LQ
    exact ret_p ⟨⟨c, rfl, hc⟩, p2⟩
def RgOk (r : Rg) : Prop := r.1 ∈ sgs ∧ r.2 ∈ sgs ∧ r.1 ≤ r.2
theorem sgs_sorted : ∀ a : Fin 95, ∀ b : Fin 95, a ≤ b → sgs[a.val]'(by rw [sgs_len]; exact a.2) ≤ sgs[b.val]'(by rw [sgs_len]; exact b.2) := by decide +kernel
theorem sg_at {v : Int} (h0 : 0 ≤ v) (h1 : v < 95) : ∃ c, atI sgs v = some c ∧ c ∈ sgs := by
  obtain ⟨c, h2, h3⟩ := atI_mem (l := sgs) h0 (by rw [sgs_len]; omega)
  exact ⟨c, h3, h2⟩
theorem sg_two {v w : Int} (h0 : 0 ≤ v) (h1 : v ≤ w) (h2 : w < 95) : ∃ c d, atI sgs v = some c ∧ atI sgs w = some d ∧ RgOk (c, d) := by
  have l1 : v.toNat < sgs.length := by rw [sgs_len]; omega
  have l2 : w.toNat < sgs.length := by rw [sgs_len]; omega
  refine ⟨sgs[v.toNat], sgs[w.toNat], ?_, ?_, List.getElem_mem l1, List.getElem_mem l2, sgs_sorted ⟨v.toNat, by omega⟩ ⟨w.toNat, by omega⟩ (by show v.toNat ≤ w.toNat; omega)⟩
  · rw [atI_of (k := v.toNat) (by omega), List.getElem?_eq_getElem l1]
  · rw [atI_of (k := w.toNat) (by omega), List.getElem?_eq_getElem l2]
end LawW
namespace LawW
open PySem L2 QB
theorem ranges_ok {B : Bx} {i n : Nat} (hp : Purse B i (n + 40)) : ∃ u B', G__law_ranges [.box i] B = .ok u B' ∧ (∃ rs : List Rg, u = .lst (rs.map uR) ∧ rs ≠ [] ∧ rs.length ≤ 8 ∧ ∀ r ∈ rs, RgOk r) ∧ Purse B' i n := by
  obtain ⟨w, B2, w0, w1, e2, p2⟩ := coin1 3 hp
  have i1 : I62 (1 + w) = true := i62 (by omega) (by omega)
  simp only [G__law_ranges]
  refine run_p rfl ?_
  simp only [b__law_ranges, List.map_cons, List.map_nil, List.length_cons, List.length_nil, Nat.reduceAdd, Nat.reduceSub, List.replicate_succ, List.replicate_zero, List.cons_append, List.nil_append, Nat.zero_add, Nat.sub_self, List.append_nil]
  refine okP_seqL fun LQ hLQ => ?_
  simp
  refine hLQ _ _ _ (then_nx ?_)
  clear hLQ LQ
  refine okP_seqT ?_
  refine okP_forM nat (xs := List.range (w.toNat + 1)) (E1 := [.val (.box i), .own (.lst []), .un, .un]) (B1 := B2) (by
      have : (1 + w).toNat = w.toNat + 1 := by omega
      simp [e2, i1, intsU_map, nat, this])
    (fun q E B' => ∃ (acc : List Rg) (s1 s2 : Sl), E = [.val (.box i), .own (.lst (acc.map uR)), s1, s2] ∧ Free s1 ∧ Free s2 ∧ acc.length + q.length = w.toNat + 1 ∧ (∀ r ∈ acc, RgOk r) ∧ Purse B' i (n + 4 * q.length))
    ⟨[], .un, .un, rfl, free_un, free_un, by simp, by simp, p2.le (by simp; omega)⟩ ?_ ?_
  · rintro x q E B' ⟨acc, s1, s2, rfl, f1, f2, hl, hr, pu⟩
    rw [List.length_cons] at hl pu
    refine BdIs_of (E := [.val (.box i), .own (.lst (acc.map uR)), .val (nat x), s2]) (by rcases f1 with rfl | ⟨_, rfl⟩ <;> simp) (body_go ?_)
    obtain ⟨a, B3, a0, a1, e3, p3⟩ := coin1 2 (pu.le (by omega : n + 4 * q.length + 3 + 1 ≤ _))
    have hln : acc.length < 16777216 := by omega
    have fin : ∀ (c d : Nat) (lo : Int) (B5 : Bx), RgOk (c, d) → Purse B5 i (n + 4 * q.length) → ∃ (acc_1 : List Rg) (s1 s2 : Sl), [Sl.val (.box i), .own (.lst (acc.map uR ++ [.tup [.str (ofC [c]), .str (ofC [d])]])), .val (nat x), .val (.int lo)] = [.val (.box i), .own (.lst (acc_1.map uR)), s1, s2] ∧ Free s1 ∧ Free s2 ∧ acc_1.length + q.length = w.toNat + 1 ∧ (∀ r ∈ acc_1, RgOk r) ∧ Purse B5 i (n + 4 * q.length) := by
      intro c d lo B5 ho hp5
      refine ⟨acc ++ [(c, d)], .val (nat x), .val (.int lo), by simp [uR], free_val, free_val, by simp; omega, ?_, hp5⟩
      intro r hr'
      rcases List.mem_append.mp hr' with h | h
      · exact hr r h
      · rw [List.mem_singleton] at h; subst h; exact ho
    simp only [lp__law_ranges_0]
    have f2' : s2 = .un ∨ ∃ u, s2 = .val u := f2
    have : a = 0 ∨ a = 1 := by omega
    rcases this with rfl | rfl
    · obtain ⟨d, B5, d0, d1, e5, p5⟩ := coin1 3 p3
      obtain ⟨g, B6, g0, g1, e6, p6⟩ := coin1 3 p5
      obtain ⟨c1, c2, x1, x2, ok⟩ := sg_two (v := 65 + d) (w := 65 + d + g) (by omega) (by omega) (by omega)
      refine okP_ift (E1 := [.val (.box i), .own (.lst (acc.map uR)), .val (nat x), s2]) (B1 := B3) (by simp [e3]) ?_
      rcases f2' with rfl | ⟨_, rfl⟩
      all_goals
        refine okP_seqL fun LQ hLQ => ?_
        simp [e5]
        refine hLQ _ _ _ (then_nx ?_)
        clear hLQ LQ
        refine okP_lock fun LQ hLQ => ?_
        simp [signs_ok, e6, x1, x2, hln, sgs_len]
        refine hLQ _ _ _ ?_
        clear hLQ LQ
        exact loop_nx (fin c1 c2 _ _ ok (p6.le (by omega)))
    · obtain ⟨b, B4, b0, b1, e4, p4⟩ := coin1 95 p3
      obtain ⟨d, B5, d0, d1, e5, p5⟩ := coin1 (95 - b) p4 (by omega) (by omega)
      obtain ⟨c1, c2, x1, x2, ok⟩ := sg_two (v := b) (w := b + d) (by omega) (by omega) (by omega)
      refine okP_iff (E1 := [.val (.box i), .own (.lst (acc.map uR)), .val (nat x), s2]) (B1 := B3) (by simp [e3]) ?_
      rcases f2' with rfl | ⟨_, rfl⟩
      all_goals
        refine okP_seqL fun LQ hLQ => ?_
        simp [e4]
        refine hLQ _ _ _ (then_nx ?_)
        clear hLQ LQ
        refine okP_lock fun LQ hLQ => ?_
        simp [signs_ok, e5, x1, x2, hln, sgs_len]
        refine hLQ _ _ _ ?_
        clear hLQ LQ
        exact loop_nx (fin c1 c2 _ _ ok (p5.le (by omega)))
  · rintro E B' ⟨acc, s1, s2, rfl, f1, f2, hl, hr, pu⟩
    refine then_nx ?_
    refine okP_lock fun LQ hLQ => ?_
    simp
    refine hLQ _ _ _ ?_
    clear hLQ LQ
    exact ret_p ⟨⟨acc, rfl, by intro z; subst z; simp at hl, by simp at hl; omega, hr⟩, pu.le (by simp)⟩
end LawW
namespace LawW
open PySem L2 QB
theorem entry_ok {B : Bx} {i n : Nat} (hp : Purse B i (n + 50)) : ∃ u B', G__law_entry [.box i] B = .ok u B' ∧ (∃ e, u = uE e ∧ EntOk e) ∧ Purse B' i n := by
  obtain ⟨v, B1, v0, v1, e1, p1⟩ := coin1 7 hp
  simp only [G__law_entry]
  refine run_p rfl ?_
  simp only [b__law_entry, List.map_cons, List.map_nil, List.length_cons, List.length_nil, Nat.reduceAdd, Nat.reduceSub, List.replicate_succ, List.replicate_zero, List.cons_append, List.nil_append, Nat.zero_add, Nat.sub_self, List.append_nil]
  refine okP_seqL fun LQ hLQ => ?_
  simp [e1]
  refine hLQ _ _ _ (then_nx ?_)
  clear hLQ LQ
  by_cases h : v < 2
  · refine okP_lock fun LQ hLQ => ?_
    simp [h]
    refine hLQ _ _ _ ?_
    clear hLQ LQ
    exact ret_p ⟨⟨.lot, rfl, trivial⟩, p1.le (by omega)⟩
  refine okP_seqL fun LQ hLQ => ?_
  simp [h]
  refine hLQ _ _ _ (then_nx ?_)
  clear hLQ LQ
  by_cases h2 : v = 2
  · subst h2
    refine okP_lock fun LQ hLQ => ?_
    simp
    refine hLQ _ _ _ ?_
    clear hLQ LQ
    exact ret_p ⟨⟨.any, rfl, trivial⟩, p1.le (by omega)⟩
  have h2b : (v == 2) = false := by simpa using h2
  refine okP_seqL fun LQ hLQ => ?_
  simp [h2b]
  refine hLQ _ _ _ (then_nx ?_)
  clear hLQ LQ
  by_cases h5 : v < 5
  · obtain ⟨u, B2, e2, ⟨c, rfl, hc⟩, p2⟩ := sign_ok (p1.le (by omega : n + 47 + 2 ≤ _))
    refine okP_seqT ?_
    refine okP_ift0 (by simp [h5]; done) ?_
    refine okP_lock fun LQ hLQ => ?_
    simp [e2]
    refine hLQ _ _ _ ?_
    clear hLQ LQ
    exact then_rt (ret_p ⟨⟨.one c, rfl, hc⟩, p2.le (by omega)⟩)
  obtain ⟨u, B2, e2, ⟨rs, rfl, r1, r2, r3⟩, p2⟩ := ranges_ok (p1.le (by omega : n + 9 + 40 ≤ _))
  refine okP_seqL fun LQ hLQ => ?_
  simp [h5]
  refine hLQ _ _ _ (then_nx ?_)
  clear hLQ LQ
  refine okP_lock fun LQ hLQ => ?_
  simp [e2]
  refine hLQ _ _ _ ?_
  clear hLQ LQ
  exact ret_p ⟨⟨.of (v == 5) rs, rfl, r1, by omega, r3⟩, p2.le (by omega)⟩
theorem signs_lc {i n w : Nat} {E : En} {B : Bx} {m : Nat} (hE : E[0]? = some (.val (.box i))) (hw : E[w]? = some .un) (hp : Purse B i (n + 2 * m)) {fi : Iv} {B1 : Bx} (hm : m ≤ 1000)
    (hi : fi E B1 = .ok ((List.range m).map nat, yes) E B) :
    ∃ (ls : List Nat) (B' : Bx), mLc fi (bdN w) mYes (mCall G__law_sign (mCons (mVar 0) (mNil))) [w] E B1 = .ok (.fr (.lst (ls.map chr))) E B' ∧ ls.length = m ∧ Purse B' i n := by
  have hw1 : wipeE E [w] = E := by
    rw [e_wipe1, e_wipe0]
    obtain ⟨hl, e⟩ := List.getElem?_eq_some_iff.mp hw
    rw [← e, List.set_getElem_self]
  have hne : w ≠ 0 := by
    rintro rfl
    rw [hE] at hw; cases hw
  obtain ⟨ls, B', e, h1, h2⟩ := lcDraw nat chr (bd := bdN w) (f := mCall G__law_sign (mCons (mVar 0) (mNil))) (ks := [w]) hi (by simp [hw]) hw1 (by simp; omega) (fun k _ B => Purse B i (n + 2 * k)) (by simpa using hp)
    (fun x k acc B' _ _ pu => by
      obtain ⟨u, B2, e2, ⟨c, rfl, hc⟩, p2⟩ := sign_ok (pu.le (by omega : n + 2 * k + 2 ≤ _))
      refine BdIs_of (E := E.set w (.val (nat x))) (by simp [hw]) ⟨?_, .w (chr c), c, B2, by simp [hE, hne, e2], rfl, p2⟩
      rw [e_wipe1, e_wipe0, List.set_set]
      simpa using hw1)
  exact ⟨ls, B', e, by simpa using h1, h2⟩
theorem line_ok (es : List Ent) (hr : ∀ e ∈ es, EntOk e) (hl : es.length ≤ 1000) {B : Bx} {i n : Nat} (hp : Purse B i (n + 10 * es.length)) : ∃ u B', G__law_line [.box i, .lst (es.map uE)] B = .ok u B' ∧ (∃ l, u = .str (ofC l) ∧ l.length ≤ 2 * es.length) ∧ Purse B' i n := by
  simp only [G__law_line]
  refine run_p rfl ?_
  simp only [b__law_line, List.map_cons, List.map_nil, List.length_cons, List.length_nil, Nat.reduceAdd, Nat.reduceSub, List.replicate_succ, List.replicate_zero, List.cons_append, List.nil_append, Nat.zero_add, Nat.sub_self, List.append_nil]
  refine okP_seqL fun LQ hLQ => ?_
  simp
  refine hLQ _ _ _ (then_nx ?_)
  clear hLQ LQ
  refine okP_seqT ?_
  refine okP_forM uE (xs := es) (E1 := [.val (.box i), .val (.lst (es.map uE)), .val (.str (ofC [])), .un, .un, .un, .un]) (B1 := B) (by simp)
    (fun q E B' => ∃ (l : List Nat) (s1 s2 : Sl), E = [.val (.box i), .val (.lst (es.map uE)), .val (.str (ofC l)), s1, s2, .un, .un] ∧ Free s1 ∧ Free s2 ∧ l.length + 2 * q.length ≤ 2 * es.length ∧ (∀ e ∈ q, EntOk e) ∧ Purse B' i (n + 10 * q.length))
    ⟨[], .un, .un, rfl, free_un, free_un, by simp, hr, hp⟩ ?_ ?_
  · rintro e q E B' ⟨l, s1, s2, rfl, f1, f2, hlen, hr', pu⟩
    rw [List.length_cons] at hlen pu
    obtain ⟨k, k1, k2⟩ := islot_E e
    have hr2 : ∀ e ∈ q, EntOk e := fun x hx => hr' x (List.mem_cons_of_mem _ hx)
    have ok := hr' e (List.mem_cons_self ..)
    refine BdIs_of (E := [.val (.box i), .val (.lst (es.map uE)), .val (.str (ofC l)), .val (uE e), s2, .un, .un]) (by rcases f1 with rfl | ⟨_, rfl⟩ <;> simp) (body_go ?_)
    simp only [lp__law_line_0]
    cases hlot : e.isLot with
    | true =>
      rw [hlot] at k2
      obtain ⟨m, B1, m0, m1, e1, p1⟩ := coin1 3 (pu.le (by omega : n + 10 * q.length + 9 + 1 ≤ _))
      have i1 : I62 m = true := i62 (by omega) (by omega)
      obtain ⟨ls, B2, e2, h2, p2⟩ := signs_lc (i := i) (n := n + 10 * q.length) (w := 6) (E := [.val (.box i), .val (.lst (es.map uE)), .val (.str (ofC l)), .val (uE e), s2, .un, .un]) (B := B1) (m := m.toNat) rfl rfl (p1.le (by omega)) (fi := mRange1 (mCons (mCall G__law_coin (mCons (mVar 0) (mCons (mC (.int 3)) (mNil)))) (mNil))) (B1 := B') (by omega) (by simp [e1, i1, intsU_map, nat])
      have e2 : lc__law_line_0 G__law_coin G__law_sign [.val (.box i), .val (.lst (es.map uE)), .val (.str (ofC l)), .val (uE e), s2, .un, .un] B' = _ := e2
      have hj := join_chr (ls := ls) (by omega)
      have ha : l.length + ls.length ≤ 16777216 := by omega
      refine okP_ift0 (by simp [k1, k2]; done) ?_
      refine okP_lock fun LQ hLQ => ?_
      simp [e2, hj, ha]
      refine hLQ _ _ _ ?_
      clear hLQ LQ
      exact loop_nx ⟨l ++ ls, _, s2, rfl, free_val, f2, by simp; omega, hr2, p2⟩
    | false =>
      rw [hlot] at k2
      refine okP_iff0 (by simp [k1, k2]; done) ?_
      have other : ∀ e, EntOk e → e.isLot = false → (∃ k : List Nat, gIx (uE e) (.int 0) = some (.w (.str (ofC k))) ∧ (k == [111, 110, 101]) = false) → OkP (sIf (toT (m2 gEq (m2 gIx (mVar 3) (mC (.int 0))) (mC (.str "one")))) (sSet 2 (m2 gAdd (mVar 2) (m2 gIx (mVar 3) (mC (.int 1))))) (sSeq (sSet 4 (lc__law_line_1 G__law_signs G__law_takes)) (sIf (toT (m2 gNe (mVar 4) (mLst (mNil)))) (sSet 2 (m2 gAdd (mVar 2) (m2 gIx (mVar 4) (mCall G__law_coin (mCons (mVar 0) (mCons (m1 gLen (mVar 4)) (mNil))))))) (sNext)))
          [.val (.box i), .val (.lst (es.map uE)), .val (.str (ofC l)), .val (uE e), s2, .un, .un] B') (LoopP (Then (sRet (mVar 2)) (RetP fun u B' => (∃ l, u = .str (ofC l) ∧ l.length ≤ 2 * es.length) ∧ Purse B' i n)) fun E B' => ∃ (l : List Nat) (s1 s2 : Sl), E = [.val (.box i), .val (.lst (es.map uE)), .val (.str (ofC l)), s1, s2, .un, .un] ∧ Free s1 ∧ Free s2 ∧ l.length + 2 * q.length ≤ 2 * es.length ∧ (∀ e ∈ q, EntOk e) ∧ Purse B' i (n + 10 * q.length)) := by
        rintro e ok hlot ⟨k, k1, k3⟩
        have lc : lc__law_line_1 G__law_signs G__law_takes [.val (.box i), .val (.lst (es.map uE)), .val (.str (ofC l)), .val (uE e), s2, .un, .un] B' = .ok (.fr (.lst ((sgs.filter (takes e)).map chr))) [.val (.box i), .val (.lst (es.map uE)), .val (.str (ofC l)), .val (uE e), s2, .un, .un] B' := by
          refine mLc_if chr (takes e) chr (by simp [signs_ok, chr]) (by simp) (by simp) (by rw [sgs_len]; omega) (fun c _ => ?_)
          have tk := law_takes_ok e ok.rgn c B'
          cases ht : takes e c <;> rw [ht] at tk <;> simp [Tst, Elt, chr, tk]
        have hm : ∀ c ∈ sgs.filter (takes e), c ∈ sgs := fun c hc => (List.mem_filter.mp hc).1
        have hk95 : (sgs.filter (takes e)).length ≤ 95 := by
          have := List.length_filter_le (takes e) sgs
          rw [sgs_len] at this
          exact this
        generalize sgs.filter (takes e) = ks at lc hm hk95
        have f1 : Flt 2 (.lst (ks.map chr)) := by
          intro v hv
          obtain ⟨c, hc, rfl⟩ := List.mem_map.mp hv
          exact okS_sg (hm c hc)
        have q0 := eqU_nil (n := 1) (by decide) f1
        refine okP_iff0 (by simp [k1, k3]; done) ?_
        refine okP_seqT ?_
        rw [e_sSet, lc]
        have b4 : s2 = .un ∨ ∃ u, s2 = .val u := f2
        refine okP_lock fun LQ hLQ => ?_
        rcases b4 with rfl | ⟨_, rfl⟩ <;> simp <;> refine hLQ _ _ _ (then_nx ?_)
        all_goals
          clear hLQ LQ
          cases ks with
          | nil =>
            simp at q0
            refine okP_lock fun LQ hLQ => ?_
            simp [q0]
            refine hLQ _ _ _ ?_
            clear hLQ LQ
            exact loop_nx ⟨l, _, _, rfl, free_val, free_val, by omega, hr2, pu.le (by omega)⟩
          | cons c ks =>
            simp at q0
            rw [List.length_cons] at hk95
            obtain ⟨v, B2, v0, v1, e2, p2⟩ := coin1 ((ks.length : Int) + 1) (pu.le (by omega : n + 10 * q.length + 9 + 1 ≤ _)) (by omega) (by omega)
            obtain ⟨d, hd, hx⟩ := atI_mem (l := c :: ks) (v := v) v0 (by simp; omega)
            have hx2 : atI (chr c :: ks.map chr) v = some (chr d) := by
              have h3 : v.toNat < (c :: ks).length := by simp; omega
              rw [atI_of (k := v.toNat) (by omega)] at hx ⊢
              rw [← List.map_cons, List.getElem?_map, hx]; rfl
            have ha : l.length + 1 ≤ 16777216 := by omega
            have hadd : gAdd (.str (ofC l)) (chr d) = some (.w (.str (ofC (l ++ [d])))) := by simp [chr, ha]
            refine okP_lock fun LQ hLQ => ?_
            simp [q0, e2, hx2, hadd]
            refine hLQ _ _ _ ?_
            clear hLQ LQ
            exact loop_nx ⟨l ++ [d], _, _, rfl, free_val, free_val, by simp; omega, hr2, p2.le (by omega)⟩
      cases e with
      | lot => cases hlot
      | one c =>
        have ha : l.length + 1 ≤ 16777216 := by omega
        refine okP_lock fun LQ hLQ => ?_
        simp [ha]
        refine hLQ _ _ _ ?_
        clear hLQ LQ
        exact loop_nx ⟨l ++ [c], _, s2, rfl, free_val, f2, by simp; omega, hr2, pu.le (by omega)⟩
      | any => exact other _ ok rfl ⟨_, ix_any0, rfl⟩
      | of b rs => exact other _ ok rfl ⟨_, ix_of0, rfl⟩
  · rintro E B' ⟨l, s1, s2, rfl, f1, f2, hlen, hr', pu⟩
    refine then_nx ?_
    refine okP_lock fun LQ hLQ => ?_
    simp
    refine hLQ _ _ _ ?_
    clear hLQ LQ
    exact ret_p ⟨⟨l, rfl, by simpa using hlen⟩, pu.le (by simp)⟩
theorem bent_ok {l : List Nat} (hl : l.length ≤ 1000) {B : Bx} {i n : Nat} (hp : Purse B i (n + 6)) : ∃ l' B', G__law_bent [.box i, .str (ofC l)] B = .ok (.str (ofC l')) B' ∧ l'.length ≤ 3000 ∧ Purse B' i n := by
  have key : ∃ u B', G__law_bent [.box i, .str (ofC l)] B = .ok u B' ∧ (∃ l', u = .str (ofC l') ∧ l'.length ≤ 3000) ∧ Purse B' i n := by
    obtain ⟨v, B1, v0, v1, e1, p1⟩ := coin1 5 hp
    obtain ⟨w, B2, w0, w1, e2, p2⟩ := coin1 ((l.length : Int) + 1) p1 (by omega) (by omega)
    have hl1 : l.length ≤ 16777216 := by omega
    have hs := fun lo hi => e_sl_s (l := l) (lo := lo) (hi := hi) hl1
    simp only [G__law_bent]
    refine run_p rfl ?_
    simp only [b__law_bent, List.map_cons, List.map_nil, List.length_cons, List.length_nil, Nat.reduceAdd, Nat.reduceSub, List.replicate_succ, List.replicate_zero, List.cons_append, List.nil_append, Nat.zero_add, Nat.sub_self, List.append_nil]
    refine okP_seqL fun LQ hLQ => ?_
    simp [e1]
    refine hLQ _ _ _ (then_nx ?_)
    clear hLQ LQ
    refine okP_seqL fun LQ hLQ => ?_
    simp [e2, hl1]
    refine hLQ _ _ _ (then_nx ?_)
    clear hLQ LQ
    by_cases h : v < 2
    · refine okP_lock fun LQ hLQ => ?_
      simp [h]
      refine hLQ _ _ _ ?_
      clear hLQ LQ
      exact ret_p ⟨⟨l, rfl, by omega⟩, p2.le (by omega)⟩
    refine okP_seqL fun LQ hLQ => ?_
    simp [h]
    refine hLQ _ _ _ (then_nx ?_)
    clear hLQ LQ
    obtain ⟨u3, B3, e3, ⟨c, rfl, hc⟩, p3⟩ := sign_ok p2
    obtain ⟨u4, B4, e4, ⟨d, rfl, hd⟩, p4⟩ := sign_ok (p3.le (by omega : n + 0 + 2 ≤ _) : Purse B3 i (n + 0 + 2))
    obtain ⟨l1, c1, h1⟩ := cutS_len l none (some w)
    have l1a : l1.length ≤ 16777216 := by omega
    have l1b : l1.length + 1 ≤ 16777216 := by omega
    have ac : ∀ c : Nat, gAdd (.str (ofC l1)) (chr c) = some (.w (.str (ofC (l1 ++ [c])))) := fun c => by simp [chr, l1b]
    have hv : v = 2 ∨ v = 3 ∨ v = 4 := by omega
    rcases hv with rfl | rfl | rfl
    · obtain ⟨l2, c2, h2⟩ := cutS_len l (some (w + 1)) none
      have l2a : l1.length + l2.length ≤ 16777216 := by omega
      refine okP_lock fun LQ hLQ => ?_
      simp [hs, c1, c2, e3, e4, l1a, l2a, ac]
      refine hLQ _ _ _ ?_
      clear hLQ LQ
      exact ret_p ⟨⟨l1 ++ l2, rfl, by simp; omega⟩, p4⟩
    · obtain ⟨l2, c2, h2⟩ := cutS_len l (some w) none
      have l2a : l1.length + 1 + l2.length ≤ 16777216 := by omega
      refine okP_lock fun LQ hLQ => ?_
      simp [hs, c1, c2, e3, e4, ac, l2a]
      refine hLQ _ _ _ ?_
      clear hLQ LQ
      exact ret_p ⟨⟨l1 ++ c :: l2, rfl, by simp; omega⟩, p4⟩
    · obtain ⟨l2, c2, h2⟩ := cutS_len l (some (w + 1)) none
      have l2a : l1.length + 1 + l2.length ≤ 16777216 := by omega
      refine okP_lock fun LQ hLQ => ?_
      simp [hs, c1, c2, e3, e4, ac, l2a]
      refine hLQ _ _ _ ?_
      clear hLQ LQ
      exact ret_p ⟨⟨l1 ++ d :: l2, rfl, by simp; omega⟩, p4⟩
  obtain ⟨u, B', e, ⟨l', rfl, h1⟩, h2⟩ := key
  exact ⟨l', B', e, h1, h2⟩
theorem wf_chr {n c : Nat} (h : c ∈ sgs) : Wf (n + 1) (.str (ofC [c])) := okS_sg h
theorem wf_uE {n : Nat} {e : Ent} (h : EntOk e) : Wf (n + 4) (uE e) := by
  cases e with
  | lot => exact ⟨by simp, fun v hv => by rw [List.mem_singleton] at hv; subst hv; exact okS_lot⟩
  | any => exact ⟨by simp, fun v hv => by rw [List.mem_singleton] at hv; subst hv; exact okS_any⟩
  | one c =>
    refine ⟨by simp, fun v hv => ?_⟩
    rcases List.mem_cons.mp hv with rfl | hv
    · exact okS_one
    · rw [List.mem_singleton] at hv; subst hv; exact wf_chr h
  | of b rs =>
    refine ⟨by simp, fun v hv => ?_⟩
    rcases List.mem_cons.mp hv with rfl | hv
    · exact okS_of
    · rcases List.mem_cons.mp hv with rfl | hv
      · trivial
      · rw [List.mem_singleton] at hv; subst hv
        obtain ⟨h1, h2, h3⟩ := h
        refine ⟨by simp; omega, fun v hv => ?_⟩
        obtain ⟨r, hr, rfl⟩ := List.mem_map.mp hv
        refine ⟨by simp, fun v hv => ?_⟩
        rcases List.mem_cons.mp hv with rfl | hv
        · exact wf_chr (h3 r hr).1
        · rw [List.mem_singleton] at hv; subst hv; exact wf_chr (h3 r hr).2.1
theorem wf_row {es : List Ent} (h : RowOk es) : Wf 6 (.lst (es.map uE)) := by
  refine ⟨by simp; have := h.2; omega, fun v hv => ?_⟩
  obtain ⟨e, he, rfl⟩ := List.mem_map.mp hv
  exact (wf_uE (h.1 e he)).mono (by decide : 0 + 4 ≤ 5)
end LawW
namespace LawW
open PySem L2 QB
def leastT : List Ent → Option (List Nat)
  | [] => some []
  | e :: es => if e.isLot then leastT es else match sgs.find? (takes e) with
    | none => none
    | some c => (leastT es).map (c :: ·)
theorem leastT_app : ∀ {es fs : List Ent}, leastT (es ++ fs) = (match leastT es, leastT fs with | some a, some b => some (a ++ b) | _, _ => none)
  | [], fs => by cases h : leastT fs <;> simp [leastT, h]
  | e :: es, fs => by
    have ih := leastT_app (es := es) (fs := fs)
    rw [List.cons_append, leastT, leastT, ih]
    cases e.isLot <;> cases sgs.find? (takes e) <;> cases leastT es <;> cases leastT fs <;> simp
theorem leastT_M : ∀ {es : List Ent} {l : List Nat}, leastT es = some l → M es l ∧ l.length ≤ es.length
  | [], l, h => by cases h; exact ⟨rfl, by simp⟩
  | e :: es, l, h => by
    rw [leastT] at h
    cases he : e.isLot with
    | true =>
      rw [he, if_pos rfl] at h
      obtain ⟨h1, h2⟩ := leastT_M h
      exact ⟨⟨[], l, rfl, by simp [One, he], h1⟩, by simp; omega⟩
    | false =>
      rw [he, if_neg (by decide)] at h
      cases hf : sgs.find? (takes e) with
      | none => rw [hf] at h; cases h
      | some c =>
        rw [hf] at h
        obtain ⟨m, h1, rfl⟩ := Option.map_eq_some_iff.mp h
        obtain ⟨h2, h3⟩ := leastT_M h1
        exact ⟨⟨[c], m, rfl, by simp [One, he]; simpa using List.find?_some hf, h2⟩, by simp; omega⟩
def optS : Option (List Nat) → U
  | none => .non
  | some l => .str (ofC l)
theorem least_text_ok {es : List Ent} (h : RowOk es) (B : Bx) : G_least_text [.lst (es.map uE)] B = .ok (optS (leastT es)) B := by
  simp only [G_least_text]
  refine run_is rfl ?_
  simp only [b_least_text, List.map_cons, List.map_nil, List.length_cons, List.length_nil, Nat.reduceAdd, Nat.reduceSub, List.replicate_succ, List.replicate_zero, List.cons_append, List.nil_append, Nat.zero_add, Nat.sub_self, List.append_nil]
  refine okP_seqL fun LQ hLQ => ?_
  simp [check_ok h]
  refine hLQ _ _ _ (then_nx ?_)
  clear hLQ LQ
  refine okP_seqL fun LQ hLQ => ?_
  simp
  refine hLQ _ _ _ (then_nx ?_)
  clear hLQ LQ
  refine okP_seqT ?_
  have hc : c_SIGNS = ofC sgs := lit_S
  have hl := h.2
  refine okP_forM uE (xs := es) (E1 := [.val (.lst (es.map uE)), .val (.str (ofC [])), .un, .un, .un]) (B1 := B) (by simp)
    (fun q E B' => B' = B ∧ ∃ (l : List Nat) (s1 s2 : Sl), E = [.val (.lst (es.map uE)), .val (.str (ofC l)), s1, s2, .un] ∧ Free s1 ∧ Free s2 ∧ l.length + q.length ≤ es.length ∧ (∀ e ∈ q, EntOk e) ∧ (leastT q).map (l ++ ·) = leastT es)
    ⟨rfl, [], .un, .un, rfl, free_un, free_un, by simp, h.1, by cases leastT es <;> simp⟩ ?_ ?_
  · rintro e q E B' ⟨rfl, l, s1, s2, rfl, f1, f2, hlen, ho, hm⟩
    rw [List.length_cons] at hlen
    refine BdIs_of (E := [.val (.lst (es.map uE)), .val (.str (ofC l)), .val (uE e), s2, .un]) (by rcases f1 with rfl | ⟨_, rfl⟩ <;> simp) (body_go ?_)
    obtain ⟨k, k1, k2⟩ := islot_E e
    have ho2 : ∀ e ∈ q, EntOk e := fun x hx => ho x (List.mem_cons_of_mem _ hx)
    have ok := ho e (List.mem_cons_self ..)
    simp only [lp_least_text_0]
    rw [leastT] at hm
    cases hlot : e.isLot with
    | true =>
      rw [hlot] at k2
      rw [hlot, if_pos rfl] at hm
      refine okP_lock fun LQ hLQ => ?_
      simp [k1, k2]
      refine hLQ _ _ _ ?_
      clear hLQ LQ
      exact loop_nx ⟨rfl, l, .val (uE e), s2, rfl, free_val, f2, by omega, ho2, hm⟩
    | false =>
      rw [hlot] at k2
      rw [hlot, if_neg (by decide)] at hm
      refine okP_ift0 (by simp [k1, k2]; done) ?_
      have lc : lc_least_text_0 G_takes [.val (.lst (es.map uE)), .val (.str (ofC l)), .val (uE e), s2, .un] B' = .ok (.fr (.lst ((sgs.filter (takes e)).map chr))) [.val (.lst (es.map uE)), .val (.str (ofC l)), .val (uE e), s2, .un] B' := by
        unfold lc_least_text_0
        rw [hc]
        refine mLc_if chr (takes e) chr (by simp [chr]) (by simp) (by simp) (by rw [sgs_len]; omega) (fun c _ => ?_)
        have tk := takes_ok e ok.rgn c B'
        cases ht : takes e c <;> rw [ht] at tk <;> simp [Tst, Elt, chr, tk]
      rw [← List.head?_filter] at hm
      generalize sgs.filter (takes e) = ks at lc hm
      have f2' : s2 = .un ∨ ∃ u, s2 = .val u := f2
      refine okP_seqT ?_
      have st : sSet 3 (lc_least_text_0 G_takes) [.val (.lst (es.map uE)), .val (.str (ofC l)), .val (uE e), s2, .un] B' = .ok .nx [.val (.lst (es.map uE)), .val (.str (ofC l)), .val (uE e), .val (.lst (ks.map chr)), .un] B' := by simp [lc]
      rw [st, OkP_ok]
      refine then_nx ?_
      cases ks with
      | nil =>
        refine okP_lock fun LQ hLQ => ?_
        simp
        refine hLQ _ _ _ ?_
        clear hLQ LQ
        exact loop_rt (then_rt (ret_is' (by rw [← hm]; rfl) rfl))
      | cons c ks =>
        have ha : l.length + 1 ≤ 16777216 := by omega
        have hadd : gIAdd (.str (ofC l)) (chr c) = some (.w (.str (ofC (l ++ [c])))) := by simp [chr, ha]
        refine okP_lock fun LQ hLQ => ?_
        simp [hadd]
        refine hLQ _ _ _ ?_
        clear hLQ LQ
        refine loop_nx ⟨rfl, l ++ [c], .val (uE e), .val (.lst ((c :: ks).map chr)), rfl, free_val, free_val, by simp; omega, ho2, ?_⟩
        rw [← hm]
        simp
        cases leastT q <;> simp
  · rintro E B' ⟨rfl, l, s1, s2, rfl, f1, f2, hlen, ho, hm⟩
    refine then_nx ?_
    refine okP_lock fun LQ hLQ => ?_
    simp
    refine hLQ _ _ _ ?_
    clear hLQ LQ
    exact ret_is' (by rw [← hm]; simp [leastT, optS]) rfl
end LawW
namespace LawW
open PySem L2 QB
theorem flt_nats1 {n : Nat} {ks : List Nat} : Flt (n + 2) (.lst (ks.map nat)) := flt_nats
theorem eqT_nats : ∀ {ks rs : List Nat}, eqTs (ks.map nat) (rs.map nat) = decide (ks = rs)
  | [], [] => rfl
  | [], _ :: _ => rfl
  | _ :: _, [] => rfl
  | k :: ks, r :: rs => by
    rw [List.map_cons, List.map_cons, eqTs, eqT_nats]
    by_cases h : k = r
    · subst h; simp [nat, eqT]
    · have : ¬ (k : Int) = r := by omega
      simp [nat, eqT, h, this]
theorem eq_nats {ks rs : List Nat} : eqU (.lst (ks.map nat)) (.lst (rs.map nat)) = some (decide (ks = rs)) := by
  rw [eqU_flt (n := 2) (by decide) flt_nats flt_nats, eqT, eqT_nats]
theorem are_ok {n : Nat} {f : Nat → Bool} {line : List Nat} (hn : n = line.length) (hl : n ≤ 10000) (B : Bx) : G__law_are_lengths [.lst ((lens n f).map nat), .str (ofC line)] B = .ok (.bl true) B := by
  subst hn
  have ll := lens_length line.length f
  have lc0 : lc__law_are_lengths_0 [.val (.lst ((lens line.length f).map nat)), .val (.str (ofC line)), .un] B = .ok (.fr (.lst ((lens line.length f).map nat))) [.val (.lst ((lens line.length f).map nat)), .val (.str (ofC line)), .un] B := by
    have i1 : I62 ((line.length : Int) + 1) = true := i62 (by omega) (by omega)
    have i2 : ((line.length : Int) + 1).toNat = line.length + 1 := by omega
    have e := mLc_if nat (fun k => decide (k ∈ lens line.length f)) nat (fi := mRange1 (mCons (m2 gAdd (m1 gLen (mVar 1)) (mC (.int 1))) (mNil))) (bd := bdN 2) (t := toT (m2 (gIn false) (mVar 2) (mVar 0))) (f := mVar 2) (ks := [2]) (xs := List.range (line.length + 1)) (E := [.val (.lst ((lens line.length f).map nat)), .val (.str (ofC line)), .un]) (B := B)
      (by simp [i1, i2, intsU_map, nat, show line.length ≤ 16777216 by omega]) (by simp) (by simp) (by simp; omega) (fun k _ => by
        have i3 := in_nats (n := k) (ks := lens line.length f)
        by_cases hk : k ∈ lens line.length f <;> simp [Tst, Elt, nat, i3, hk])
    have e2 : (List.range (line.length + 1)).filter (fun k => decide (k ∈ lens line.length f)) = lens line.length f := by
      conv => rhs; unfold lens
      apply List.filter_congr
      intro k hk
      have := List.mem_range.mp hk
      rw [Bool.eq_iff_iff, decide_eq_true_iff, mem_lens]
      exact ⟨fun h => h.2, fun h => ⟨by omega, h⟩⟩
    rw [e2] at e
    exact e
  have lc1 : lc__law_are_lengths_1 [.val (.lst ((lens line.length f).map nat)), .val (.str (ofC line)), .un] B = .ok (.fr (.lst (((lens line.length f).filter fun _ => false).map nat))) [.val (.lst ((lens line.length f).map nat)), .val (.str (ofC line)), .un] B := by
    refine mLc_if nat (fun _ => false) nat (by simp) (by simp) (by simp) (by omega) (fun k _ => ?_)
    simp [Tst, Elt, nat]
  have e0 : ((lens line.length f).filter fun _ => false).map nat = [] := by simp
  rw [e0] at lc1
  have q0 : eqU (.lst []) (.lst []) = some true := by rw [eqU_flt (n := 1) (by decide) flt_nil flt_nil]; rfl
  have q1 := eq_nats (ks := lens line.length f) (rs := lens line.length f)
  simp only [G__law_are_lengths]
  refine run_is rfl ?_
  simp only [b__law_are_lengths, List.map_cons, List.map_nil, List.length_cons, List.length_nil, Nat.reduceAdd, Nat.reduceSub, List.replicate_succ, List.replicate_zero, List.cons_append, List.nil_append, Nat.zero_add, Nat.sub_self, List.append_nil]
  refine okP_seqL fun LQ hLQ => ?_
  simp
  refine hLQ _ _ _ (then_nx ?_)
  clear hLQ LQ
  refine okP_seqL fun LQ hLQ => ?_
  simp [lc1, q0]
  refine hLQ _ _ _ (then_nx ?_)
  clear hLQ LQ
  refine okP_lock fun LQ hLQ => ?_
  simp [lc0, q1]
  refine hLQ _ _ _ ?_
  clear hLQ LQ
  exact ret_is
theorem gss {ns r : List Nat} (h : r.Pairwise (· < ·)) (m : ∀ k, k ∈ r ↔ k ∈ ns) (h1 : ns.length ≤ 4000) (h2 : r.length < 64) : gSortSet (.lst (ns.map nat)) = some (.fr (.lst (r.map nat))) := by
  have e : sortSI (ns.map fun (k : Nat) => (k : Int)) = r.map fun (k : Nat) => (k : Int) := sortSI_eq (List.pairwise_map.mpr (h.imp fun h => by omega)) (fun k => by
    simp only [List.mem_map]
    constructor
    · rintro ⟨a, ha, rfl⟩; exact ⟨a, (m a).mp ha, rfl⟩
    · rintro ⟨a, ha, rfl⟩; exact ⟨a, (m a).mpr ha, rfl⟩)
  have e2 : ∀ l : List Nat, l.map nat = (l.map fun (k : Nat) => (k : Int)).map U.int := fun l => by rw [List.map_map]; rfl
  rw [e2, gSortSet, intsOf_map]
  simp only [Option.bind_some, e]
  rw [if_pos ⟨by simpa using h1, by simpa using h2⟩, ← e2]
/-- what is due, as it is gathered -/
theorem joins_math {line : List Nat} {es fs : List Ent} {n : Nat} : (n ≤ line.length ∧ ends line (es ++ fs) at0 n = true) ↔ ∃ i m, i ≤ line.length ∧ ends line es at0 i = true ∧ m ≤ (line.drop i).length ∧ ends (line.drop i) fs at0 m = true ∧ n = i + m := by
  constructor
  · rintro ⟨h1, h2⟩
    obtain ⟨a, b, h3, h4, h5⟩ := M_append.mp ((ends_head h1).mp h2)
    have hlen : a.length + b.length = n := by rw [← List.length_append, ← h3, List.length_take]; omega
    have ha : a = line.take a.length := by
      have e1 : (line.take n).take a.length = a := by rw [h3]; simp
      rw [List.take_take, Nat.min_eq_left (by omega)] at e1
      exact e1.symm
    have hb : b = (line.drop a.length).take b.length := by
      have e1 : (line.take n).drop a.length = b := by rw [h3]; simp
      rw [List.drop_take] at e1
      rw [show n - a.length = b.length from by omega] at e1
      exact e1.symm
    refine ⟨a.length, b.length, by omega, (ends_head (by omega)).mpr (by rw [← ha]; exact h4), by rw [List.length_drop]; omega, (ends_head (by rw [List.length_drop]; omega)).mpr (by rw [← hb]; exact h5), by omega⟩
  · rintro ⟨i, m, h1, h2, h3, h4, rfl⟩
    rw [List.length_drop] at h3
    refine ⟨by omega, (ends_head (by omega)).mpr ?_⟩
    rw [List.take_add]
    exact M_append.mpr ⟨_, _, rfl, (ends_head h1).mp h2, (ends_head (by rw [List.length_drop]; omega)).mp h4⟩
theorem back_math {line : List Nat} {fs : List Ent} {i : Nat} (hi : i ≤ line.length) : ends line.reverse fs.reverse at0 (line.length - i) = true ↔ M fs (line.drop i) := by
  rw [ends_head (by simp), ← M_rev (l := line.drop i)]
  rw [List.reverse_drop]
theorem whole_math {line : List Nat} {es fs : List Ent} : ends line (es ++ fs) at0 line.length = true ↔ ∃ i, i ≤ line.length ∧ ends line es at0 i = true ∧ ends line.reverse fs.reverse at0 (line.length - i) = true := by
  rw [ends_head (Nat.le_refl _), List.take_length, M_append]
  constructor
  · rintro ⟨a, b, rfl, h1, h2⟩
    have e1 : (a ++ b).take a.length = a := by simp
    have e2 : (a ++ b).drop a.length = b := by simp
    refine ⟨a.length, by simp, (ends_head (by simp)).mpr (by rw [e1]; exact h1), (back_math (by simp)).mpr (by rw [e2]; exact h2)⟩
  · rintro ⟨i, h1, h2, h3⟩
    exact ⟨line.take i, line.drop i, by simp, (ends_head h1).mp h2, (back_math h1).mp h3⟩
theorem RowOk.app {es fs : List Ent} (h : RowOk es) (h2 : RowOk fs) (hl : es.length + fs.length ≤ 10000) : RowOk (es ++ fs) := ⟨fun e he => by
    rcases List.mem_append.mp he with z | z
    · exact h.1 e z
    · exact h2.1 e z, by simpa using hl⟩
theorem heads_lens {es : List Ent} (h : RowOk es) (line : List Nat) (hl : line.length ≤ 10000) (B : Bx) : G_heads [.lst (es.map uE), .str (ofC line)] B = .ok (.lst ((lens line.length (ends line es at0)).map nat)) B := heads_ok h line hl B
theorem tails_lens {es : List Ent} (h : RowOk es) (line : List Nat) (hl : line.length ≤ 10000) (B : Bx) : G_tails [.lst (es.map uE), .str (ofC line)] B = .ok (.lst ((lens line.length (ends line.reverse es.reverse at0)).map nat)) B := tails_ok h line hl B
theorem cutS_from (l : List Nat) (k : Nat) : cutS (ofC l) (some (k : Int)) none = ofC (l.drop k) := by
  apply str_ext
  simp only [codes_ofC]
  simp only [codes, cutS, ofC_cps, ofC_len]
  rw [HT.sIx_nat, HT.sIx_none, drop_min]
  have := List.take_of_length_le (l := l.drop k) (i := l.length - min k l.length) (by rw [List.length_drop]; omega)
  simpa using this
theorem cutS_to (l : List Nat) (k : Nat) : cutS (ofC l) none (some (k : Int)) = ofC (l.take k) := by
  apply str_ext
  simp only [codes_ofC]
  simp only [codes, cutS, ofC_cps, ofC_len]
  rw [HT.sIx_nat, HT.sIx_none, List.drop_zero, Nat.sub_zero]
  by_cases h : k ≤ l.length
  · rw [Nat.min_eq_left h]
  · rw [Nat.min_eq_right (by omega), List.take_of_length_le (Nat.le_refl _), List.take_of_length_le (by omega)]
end LawW
namespace LawW
open PySem L2 QB
theorem joins_ok {es fs : List Ent} (h1 : RowOk es) (h2 : RowOk fs) (hl1 : es.length ≤ 1000) (hl2 : fs.length ≤ 1000) {line : List Nat} (hl : line.length ≤ 10) (B : Bx) : G__law_joins [.lst (es.map uE), .lst (fs.map uE), .str (ofC line)] B = .ok (.bl true) B := by
  have h12 := h1.app h2 (by omega)
  have H1 := heads_lens h1 line (by omega) B
  have T2 := tails_lens h2 line (by omega) B
  have A1 := are_ok (f := ends line es at0) (line := line) rfl (by omega) B
  have A2 := are_ok (f := ends line.reverse fs.reverse at0) (line := line) rfl (by omega) B
  have n1 := lens_length line.length (ends line es at0)
  simp only [G__law_joins, G_same]
  refine run_is rfl ?_
  simp only [b__law_joins, List.map_cons, List.map_nil, List.length_cons, List.length_nil, Nat.reduceAdd, Nat.reduceSub, List.replicate_succ, List.replicate_zero, List.cons_append, List.nil_append, Nat.zero_add, Nat.sub_self, List.append_nil]
  refine okP_seqL fun LQ hLQ => ?_
  simp [H1]
  refine hLQ _ _ _ (then_nx ?_)
  clear hLQ LQ
  refine okP_seqL fun LQ hLQ => ?_
  simp [T2]
  refine hLQ _ _ _ (then_nx ?_)
  clear hLQ LQ
  refine okP_seqL fun LQ hLQ => ?_
  simp [A1, A2]
  refine hLQ _ _ _ (then_nx ?_)
  clear hLQ LQ
  refine okP_seqL fun LQ hLQ => ?_
  simp
  refine hLQ _ _ _ (then_nx ?_)
  clear hLQ LQ
  refine okP_seqT ?_
  have hl9 : line.length ≤ 16777216 := by omega
  refine okP_forM nat (xs := lens line.length (ends line es at0)) (E1 := [.val (.lst (es.map uE)), .val (.lst (fs.map uE)), .val (.str (ofC line)), .val (.lst ((lens line.length (ends line es at0)).map nat)), .val (.lst ((lens line.length (ends line.reverse fs.reverse at0)).map nat)), .val (.lst []), .un, .un, .un, .un, .un, .un]) (B1 := B) (by simp)
    (fun q E B' => B' = B ∧ ∃ (due done : List Nat) (s1 s2 : Sl), E = [.val (.lst (es.map uE)), .val (.lst (fs.map uE)), .val (.str (ofC line)), .val (.lst ((lens line.length (ends line es at0)).map nat)), .val (.lst ((lens line.length (ends line.reverse fs.reverse at0)).map nat)), .val (.lst (due.map nat)), s1, s2, .un, .un, .un, .un] ∧ Free s1 ∧ Free s2 ∧
      done ++ q = lens line.length (ends line es at0) ∧ due.length ≤ 11 * done.length ∧ ∀ n, n ∈ due ↔ ∃ i m, i ∈ done ∧ m ≤ (line.drop i).length ∧ ends (line.drop i) fs at0 m = true ∧ n = i + m)
    ⟨rfl, [], [], .un, .un, rfl, free_un, free_un, rfl, by simp, by simp⟩ ?_ ?_
  · rintro i q E B' ⟨rfl, due, done, s1, s2, rfl, f1, f2, hd, hlen, hm⟩
    have hi : i ≤ line.length := (mem_lens.mp (by rw [← hd]; simp : i ∈ lens line.length (ends line es at0))).1
    have cs : gSl (.str (ofC line)) (some (i : Int)) none = some (.w (.str (ofC (line.drop i)))) := by rw [e_sl_s hl9, cutS_from]
    have hdl : (line.drop i).length ≤ 10 := by rw [List.length_drop]; omega
    have H2 := heads_lens h2 (line.drop i) (by omega) B'
    have A3 := are_ok (f := ends (line.drop i) fs at0) (line := line.drop i) rfl (by omega) B'
    have n2 := lens_length (line.drop i).length (ends (line.drop i) fs at0)
    have mem2 := fun k => mem_lens (n := (line.drop i).length) (f := ends (line.drop i) fs at0) (k := k)
    generalize lens (line.drop i).length (ends (line.drop i) fs at0) = rest at *
    have hdone : done.length ≤ 11 := by
      have := congrArg List.length hd
      simp at this; omega
    have f2' : s2 = .un ∨ ∃ u, s2 = .val u := f2
    refine BdIs_of (E := [.val (.lst (es.map uE)), .val (.lst (fs.map uE)), .val (.str (ofC line)), .val (.lst ((lens line.length (ends line es at0)).map nat)), .val (.lst ((lens line.length (ends line.reverse fs.reverse at0)).map nat)), .val (.lst (due.map nat)), .val (nat i), s2, .un, .un, .un, .un]) (by rcases f1 with rfl | ⟨_, rfl⟩ <;> simp) (body_go ?_)
    simp only [lp__law_joins_0]
    refine okP_seqT ?_
    have st : sSet 7 (mCall G_heads (mCons (mVar 1) (mCons (mSl (mVar 2) (mPart (mVar 6)) mNoPart) (mNil)))) [.val (.lst (es.map uE)), .val (.lst (fs.map uE)), .val (.str (ofC line)), .val (.lst ((lens line.length (ends line es at0)).map nat)), .val (.lst ((lens line.length (ends line.reverse fs.reverse at0)).map nat)), .val (.lst (due.map nat)), .val (nat i), s2, .un, .un, .un, .un] B' = .ok .nx [.val (.lst (es.map uE)), .val (.lst (fs.map uE)), .val (.str (ofC line)), .val (.lst ((lens line.length (ends line es at0)).map nat)), .val (.lst ((lens line.length (ends line.reverse fs.reverse at0)).map nat)), .val (.lst (due.map nat)), .val (nat i), .val (.lst (rest.map nat)), .un, .un, .un, .un] B' := by
      simp [nat_eq, cs, H2]
    rw [st, OkP_ok]
    refine then_nx ?_
    refine okP_seqL fun LQ hLQ => ?_
    simp [nat_eq, cs, A3]
    refine hLQ _ _ _ (then_nx ?_)
    clear hLQ LQ
    have lc : lc__law_joins_2 [.val (.lst (es.map uE)), .val (.lst (fs.map uE)), .val (.str (ofC line)), .val (.lst ((lens line.length (ends line es at0)).map nat)), .val (.lst ((lens line.length (ends line.reverse fs.reverse at0)).map nat)), .val (.lst (due.map nat)), .val (.int (i : Int)), .val (.lst (rest.map nat)), .un, .un, .un, .un] B' = .ok (.fr (.lst (rest.map fun m => nat (i + m)))) [.val (.lst (es.map uE)), .val (.lst (fs.map uE)), .val (.str (ofC line)), .val (.lst ((lens line.length (ends line es at0)).map nat)), .val (.lst ((lens line.length (ends line.reverse fs.reverse at0)).map nat)), .val (.lst (due.map nat)), .val (.int (i : Int)), .val (.lst (rest.map nat)), .un, .un, .un, .un] B' := by
      refine mLc_all nat (fun m => nat (i + m)) (by simp) (by simp) (by simp) (by omega) (fun m _ => ?_)
      simp [Elt, nat_eq]
    have ha : due.length + rest.length ≤ 16777216 := by omega
    refine okP_lock fun LQ hLQ => ?_
    simp [lc, ha]
    refine hLQ _ _ _ ?_
    clear hLQ LQ
    refine loop_nx ⟨rfl, due ++ rest.map (i + ·), done ++ [i], .val (.int (i : Int)), .val (.lst (rest.map nat)), by simp [Function.comp_def], free_val, free_val, by simpa using hd, by simp; omega, fun n => ?_⟩
    rw [List.mem_append, hm, List.mem_map]
    constructor
    · rintro (⟨a, m, ha, hb, hc, rfl⟩ | ⟨m, ha, rfl⟩)
      · exact ⟨a, m, List.mem_append_left _ ha, hb, hc, rfl⟩
      · exact ⟨i, m, List.mem_append_right _ (List.mem_singleton.mpr rfl), ((mem2 m).mp ha).1, ((mem2 m).mp ha).2, rfl⟩
    · rintro ⟨a, m, ha, hb, hc, rfl⟩
      rcases List.mem_append.mp ha with ha | ha
      · exact .inl ⟨a, m, ha, hb, hc, rfl⟩
      · rw [List.mem_singleton] at ha; subst ha
        exact .inr ⟨m, (mem2 m).mpr ⟨hb, hc⟩, rfl⟩
  · rintro E B' ⟨rfl, due, done, s1, s2, rfl, f1, f2, hd, hlen, hm⟩
    refine then_nx ?_
    rw [List.append_nil] at hd
    subst hd
    have mem : ∀ k, k ∈ lens line.length (ends line (es ++ fs) at0) ↔ k ∈ due := fun k => by
      rw [mem_lens, joins_math, hm]
      constructor
      · rintro ⟨i, m, a1, a2, a3, a4, rfl⟩; exact ⟨i, m, mem_lens.mpr ⟨a1, a2⟩, a3, a4, rfl⟩
      · rintro ⟨i, m, a1, a3, a4, rfl⟩; exact ⟨i, m, (mem_lens.mp a1).1, (mem_lens.mp a1).2, a3, a4, rfl⟩
    have n3 := lens_length line.length (ends line (es ++ fs) at0)
    have gs := gss (lens_sorted _ _) mem (by omega) (by omega)
    have H12 := heads_lens h12 line (by omega) B'
    have M12 := meets_ok h12 line B'
    have TR := tails_lens h12.rev line.reverse (by simp; omega) B'
    rw [List.length_reverse, List.reverse_reverse, List.reverse_reverse] at TR
    have sm := fun B => same_ok (B := B) 6 _ _ ((wf_nats (n := 4) (ks := lens line.length (ends line (es ++ fs) at0)) (by omega)).sm)
    have la : es.length + fs.length ≤ 16777216 := by omega
    have ho : lens line.length (ends line (es ++ fs) at0) = lens line.length (ends line (es ++ fs) at0) := rfl
    generalize hgen : lens line.length (ends line (es ++ fs) at0) = both at *
    rw [List.map_append] at H12 M12
    rw [List.map_reverse, List.map_append, List.reverse_append] at TR
    refine okP_seqL fun LQ hLQ => ?_
    simp [la, H12, gs, sm]
    refine hLQ _ _ _ (then_nx ?_)
    clear hLQ LQ
    have w1 := fun n : Nat => in_nats (n := n) (ks := lens line.length (ends line.reverse fs.reverse at0))
    have n1 := lens_length line.length (ends line es at0)
    have lc1 : lc__law_joins_1 [.val (.lst (es.map uE)), .val (.lst (fs.map uE)), .val (.str (ofC line)), .val (.lst ((lens line.length (ends line es at0)).map nat)), .val (.lst ((lens line.length (ends line.reverse fs.reverse at0)).map nat)), .val (.lst (due.map nat)), s1, s2, .un, .un, .un, .un] B' = .ok (.fr (.lst (((lens line.length (ends line es at0)).filter fun k => decide (line.length - k ∈ lens line.length (ends line.reverse fs.reverse at0))).map nat))) [.val (.lst (es.map uE)), .val (.lst (fs.map uE)), .val (.str (ofC line)), .val (.lst ((lens line.length (ends line es at0)).map nat)), .val (.lst ((lens line.length (ends line.reverse fs.reverse at0)).map nat)), .val (.lst (due.map nat)), s1, s2, .un, .un, .un, .un] B' := by
      refine mLc_ifW nat (fun k => decide (line.length - k ∈ lens line.length (ends line.reverse fs.reverse at0))) nat (by simp) (by rcases f1 with rfl | ⟨_, rfl⟩ <;> simp) (by simp) (by omega) (fun k hk => ?_)
      have hk1 := (mem_lens.mp hk).1
      have e1 : (line.length : Int) - (k : Int) = ((line.length - k : Nat) : Int) := by omega
      by_cases hk2 : line.length - k ∈ lens line.length (ends line.reverse fs.reverse at0) <;> simp [Tst, Elt, nat_eq, hl9, e1, w1, hk2]
    have wh : (!((lens line.length (ends line es at0)).filter fun k => decide (line.length - k ∈ lens line.length (ends line.reverse fs.reverse at0))).isEmpty) = ends line (es ++ fs) at0 line.length := by
      rw [Bool.eq_iff_iff, whole_math]
      rw [Bool.not_eq_true', List.isEmpty_eq_false_iff_exists_mem]
      constructor
      · rintro ⟨k, hk⟩
        obtain ⟨a1, a2⟩ := List.mem_filter.mp hk
        have a3 := mem_lens.mp (of_decide_eq_true a2)
        exact ⟨k, (mem_lens.mp a1).1, (mem_lens.mp a1).2, a3.2⟩
      · rintro ⟨k, a1, a2, a3⟩
        exact ⟨k, List.mem_filter.mpr ⟨mem_lens.mpr ⟨a1, a2⟩, decide_eq_true (mem_lens.mpr ⟨by omega, a3⟩)⟩⟩
    generalize ((lens line.length (ends line es at0)).filter fun k => decide (line.length - k ∈ lens line.length (ends line.reverse fs.reverse at0))) = kw at *
    have q1 := eqU_nil (n := 1) (by decide) (flt_nats (n := 0) (ks := kw))
    rw [List.isEmpty_map] at q1
    have sb := fun (b : Bool) B => same_ok (B := B) 6 (.bl b) (.bl b) (.inr (.inl ⟨b, rfl, rfl⟩))
    refine okP_seqL fun LQ hLQ => ?_
    simp [lc1, q1, wh]
    refine hLQ _ _ _ (then_nx ?_)
    clear hLQ LQ
    refine okP_seqL fun LQ hLQ => ?_
    simp [la, M12, sb]
    refine hLQ _ _ _ (then_nx ?_)
    clear hLQ LQ
    refine okP_seqL fun LQ hLQ => ?_
    simp [la, mRevA, gRevA, TR, hl9]
    refine hLQ _ _ _ (then_nx ?_)
    clear hLQ LQ
    refine okP_seqL fun LQ hLQ => ?_
    simp [gs, sm]
    refine hLQ _ _ _ (then_nx ?_)
    clear hLQ LQ
    have lc0 : lc__law_joins_0 [.val (.lst (es.map uE)), .val (.lst (fs.map uE)), .val (.str (ofC line)), .val (.lst ((lens line.length (ends line es at0)).map nat)), .val (.lst ((lens line.length (ends line.reverse fs.reverse at0)).map nat)), .val (.lst (due.map nat)), s1, s2, .val (.bl (ends line (es ++ fs) at0 line.length)), .val (.lst (both.map nat)), .un, .un] B' = .ok (.fr (.lst ((lens line.length (anyTo (ends line es at0))).map nat))) [.val (.lst (es.map uE)), .val (.lst (fs.map uE)), .val (.str (ofC line)), .val (.lst ((lens line.length (ends line es at0)).map nat)), .val (.lst ((lens line.length (ends line.reverse fs.reverse at0)).map nat)), .val (.lst (due.map nat)), s1, s2, .val (.bl (ends line (es ++ fs) at0 line.length)), .val (.lst (both.map nat)), .un, .un] B' := by
      have i1 : I62 ((line.length : Int) + 1) = true := i62 (by omega) (by omega)
      have i2 : ((line.length : Int) + 1).toNat = line.length + 1 := by omega
      have q2 : eqU (.lst ((lens line.length (ends line es at0)).map nat)) (.lst []) = some (lens line.length (ends line es at0)).isEmpty := by
        rw [eqU_nil (n := 1) (by decide) flt_nats]; simp
      rw [← lens_lot]
      refine mLc_ifW nat (fun k => !(lens line.length (ends line es at0)).isEmpty && decide ((lens line.length (ends line es at0)).headD 0 ≤ k)) nat (by simp [i1, i2, intsU_map, nat, hl9]) (by rcases f1 with rfl | ⟨_, rfl⟩ <;> simp) (by simp) (by simp; omega) (fun k _ => ?_)
      cases hc : lens line.length (ends line es at0) with
      | nil => rw [hc] at q2; simp at q2; simp [Tst, Elt, hc, q2]
      | cons a q => rw [hc] at q2; simp [nat] at q2; by_cases hak : a ≤ k <;> simp [Tst, Elt, hc, q2, nat, hak]
    have h13 : RowOk (es ++ [.lot]) := h1.app ⟨fun e he => by rw [List.mem_singleton] at he; subst he; trivial, by simp⟩ (by simp; omega)
    have H13 := heads_lens h13 line (by omega) B'
    have e13 : ends line (es ++ [.lot]) at0 = anyTo (ends line es at0) := by rw [ends_app]; rfl
    rw [e13, List.map_append, show [Ent.lot].map uE = [U.tup [.str (ofC [108, 111, 116])]] from rfl] at H13
    have n4 := lens_length line.length (anyTo (ends line es at0))
    have sm3 := fun B => same_ok (B := B) 6 _ _ ((wf_nats (n := 4) (ks := lens line.length (anyTo (ends line es at0))) (by omega)).sm)
    have la2 : es.length + 1 ≤ 16777216 := by omega
    refine okP_seqL fun LQ hLQ => ?_
    simp [lc0]
    refine hLQ _ _ _ (then_nx ?_)
    clear hLQ LQ
    refine okP_lock fun LQ hLQ => ?_
    simp [la2, H13, sm3]
    refine hLQ _ _ _ ?_
    clear hLQ LQ
    exact ret_is
def isTrueU : U → Bool
  | .bl true => true
  | _ => false
theorem least_joins_ok {es fs : List Ent} (h1 : RowOk es) (h2 : RowOk fs) (hl1 : es.length ≤ 1000) (hl2 : fs.length ≤ 1000) (B : Bx) : G__law_least_joins [.lst (es.map uE), .lst (fs.map uE)] B = .ok (.bl true) B := by
  have h12 := h1.app h2 (by omega)
  have L1 := least_text_ok h1 B
  have L2 := least_text_ok h2 B
  have L3 := least_text_ok h12 B
  rw [List.map_append] at L3
  have la : es.length + fs.length ≤ 16777216 := by omega
  have ap := leastT_app (es := es) (fs := fs)
  simp only [G__law_least_joins, G_same]
  refine run_is rfl ?_
  simp only [b__law_least_joins, List.map_cons, List.map_nil, List.length_cons, List.length_nil, Nat.reduceAdd, Nat.reduceSub, List.replicate_succ, List.replicate_zero, List.cons_append, List.nil_append, Nat.zero_add, Nat.sub_self, List.append_nil]
  refine okP_seqL fun LQ hLQ => ?_
  simp [L1]
  refine hLQ _ _ _ (then_nx ?_)
  clear hLQ LQ
  refine okP_seqL fun LQ hLQ => ?_
  simp [L2]
  refine hLQ _ _ _ (then_nx ?_)
  clear hLQ LQ
  cases e1 : leastT es with
  | none =>
    rw [e1] at ap
    rw [ap] at L3
    simp only [optS]
    refine okP_lock fun LQ hLQ => ?_
    simp [la, L3, optS]
    refine hLQ _ _ _ ?_
    clear hLQ LQ
    exact ret_is
  | some a =>
    cases e2 : leastT fs with
    | none =>
      rw [e1, e2] at ap
      rw [ap] at L3
      simp only [optS]
      refine okP_lock fun LQ hLQ => ?_
      simp [la, L3, optS]
      refine hLQ _ _ _ ?_
      clear hLQ LQ
      exact ret_is
    | some b =>
      rw [e1, e2] at ap
      rw [ap] at L3
      obtain ⟨m1, m2⟩ := leastT_M ap
      have k1 := (leastT_M e1).2
      have k2 := (leastT_M e2).2
      have MT := meets_ok h12 (a ++ b) B
      have e3 : ends (a ++ b) (es ++ fs) at0 (a ++ b).length = true := (ends_head (Nat.le_refl _)).mpr (by rw [List.take_length]; exact m1)
      rw [e3, List.map_append] at MT
      have lb : a.length + b.length ≤ 16777216 := by omega
      have sm := fun B => same_ok (B := B) 6 (.str (ofC (a ++ b))) (.str (ofC (a ++ b))) (.inl ⟨_, rfl, rfl⟩)
      simp only [optS]
      refine okP_seqL fun LQ hLQ => ?_
      simp
      refine hLQ _ _ _ (then_nx ?_)
      clear hLQ LQ
      refine okP_seqL fun LQ hLQ => ?_
      simp
      refine hLQ _ _ _ (then_nx ?_)
      clear hLQ LQ
      refine okP_lock fun LQ hLQ => ?_
      simp [la, lb, L3, optS, sm, MT]
      refine hLQ _ _ _ ?_
      clear hLQ LQ
      exact ret_is
end LawW
namespace LawW
open PySem L2 QB
theorem purse1 {B : Bx} {ns : List Int} {k : Nat} : ∃ c : Cell, G__law_purse [.scr ns, .int (k : Int)] B = .ok (.box B.length) (B ++ [c]) ∧ Purse (B ++ [c]) B.length (2 ^ 39) := purse_ok
theorem plain (ns : List Int) (hns : ns.length ≤ 63) : ∃ B', G_law [.scr ns] [] = .ok (.bl true) B' := by
  have key : ∃ u B', G_law [.scr ns] [] = .ok u B' ∧ u = .bl true := by
    simp only [G_law]
    refine run_p rfl ?_
    simp only [b_law, List.map_cons, List.map_nil, List.length_cons, List.length_nil, Nat.reduceAdd, Nat.reduceSub, List.replicate_succ, List.replicate_zero, List.cons_append, List.nil_append, Nat.zero_add, Nat.sub_self, List.append_nil]
    refine okP_seqL fun LQ hLQ => ?_
    simp
    refine hLQ _ _ _ (then_nx ?_)
    clear hLQ LQ
    refine okP_seqT ?_
    have hm : ∃ m : Nat, m ≤ 40 ∧ (mRange1 (mCons (mB gMax2 (mCons (mC (.int 1)) (mCons (mB gMin2 (mCons (mC (.int 40)) (mCons (m1 gLen (mVar 0)) (mNil)))) (mNil)))) (mNil))) [.val (.scr ns), .val (.lst []), .un, .un, .un, .un, .un] [] = .ok ((List.range m).map nat, yes) [.val (.scr ns), .val (.lst []), .un, .un, .un, .un, .un] [] := by
      generalize hz : (if (if (ns.length : Int) < 40 then (ns.length : Int) else 40) > 1 then (if (ns.length : Int) < 40 then (ns.length : Int) else 40) else 1) = z
      have z0 : 0 ≤ z ∧ z ≤ 40 := by
        rw [← hz]; split <;> (split at * <;> omega)
      refine ⟨z.toNat, by omega, ?_⟩
      have i1 : I62 z = true := i62 (by omega) (by omega)
      have e1 := intsU_map z.toNat
      simp only [e_mRange1, e_mCons, e_mB, e_mNil, e_mC, e_m1, e_mVar]
      simp [hz, i1, e1, nat]
    obtain ⟨m, hm, em⟩ := hm
    refine okP_forM nat (xs := List.range m) (E1 := [.val (.scr ns), .val (.lst []), .un, .un, .un, .un, .un]) (B1 := []) em
      (fun q E B' => ∃ (es : List Ent) (s1 s2 s3 s4 : Sl), E = [.val (.scr ns), .val (.lst (es.map uE)), s1, s2, s3, s4, .un] ∧ Free s1 ∧ Free s2 ∧ Free s3 ∧ Free s4 ∧ es.length ≤ 4 ∧ (∀ e ∈ es, EntOk e))
      ⟨[], .un, .un, .un, .un, rfl, free_un, free_un, free_un, free_un, by simp, by simp⟩ ?_ ?_
    · rintro x q E B' ⟨es, s1, s2, s3, s4, rfl, f1, f2, f3, f4, hl, ho⟩
      refine BdIs_of (E := [.val (.scr ns), .val (.lst (es.map uE)), .val (nat x), s2, s3, s4, .un]) (by rcases f1 with rfl | ⟨_, rfl⟩ <;> simp) (body_go ?_)
      obtain ⟨c, pe, pp⟩ := purse1 (B := B') (ns := ns) (k := x)
      obtain ⟨v, B2, v0, v1, e1, p1⟩ := coin1 5 (pp.le (by decide : 999 + 1 ≤ 2 ^ 39))
      have i1 : I62 v = true := i62 (by omega) (by omega)
      simp only [lp_law_0]
      refine okP_seqT ?_
      have f2' : s2 = .un ∨ ∃ u, s2 = .val u := f2
      have st : (sSet 3 (mCall G__law_purse (mCons (mVar 0) (mCons (mVar 2) mNil)))) [.val (.scr ns), .val (.lst (es.map uE)), .val (nat x), s2, s3, s4, .un] B' = .ok .nx [.val (.scr ns), .val (.lst (es.map uE)), .val (nat x), .val (.box B'.length), s3, s4, .un] (B' ++ [c]) := by simp [nat_eq, pe]
      rw [st, OkP_ok]
      refine then_nx ?_
      obtain ⟨fs, B3, e3, h3, h4⟩ := lcDraw nat uE (bd := bdN 6) (f := mCall G__law_entry (mCons (mVar 3) (mNil))) (ks := [6]) (xs := List.range v.toNat) (E := [.val (.scr ns), .val (.lst (es.map uE)), .val (nat x), .val (.box B'.length), s3, s4, .un]) (B := B2) (fi := mRange1 (mCons (mCall G__law_coin (mCons (mVar 3) (mCons (mC (.int 5)) (mNil)))) (mNil))) (B1 := B' ++ [c])
        (by simp [e1, i1, intsU_map, nat]) (by simp) (by simp) (by simp; omega) (fun k acc B => (∀ e ∈ acc, EntOk e) ∧ Purse B B'.length (500 + 50 * k)) ⟨by simp, p1.le (by simp; omega)⟩
        (fun y k acc B _ _ hI => by
          obtain ⟨ho, pu⟩ := hI
          obtain ⟨u, B4, e2, ⟨e, rfl, he⟩, p2⟩ := entry_ok (pu.le (by omega : 500 + 50 * k + 50 ≤ _))
          refine BdIs_of (E := [.val (.scr ns), .val (.lst (es.map uE)), .val (nat x), .val (.box B'.length), s3, s4, .val (nat y)]) (by simp) ⟨by simp, .w (uE e), e, B4, by simp [e2], rfl, ?_, p2⟩
          intro z hz
          rcases List.mem_append.mp hz with h | h
          · exact ho z h
          · rw [List.mem_singleton] at h; subst h; exact he)
      obtain ⟨ho2, p3⟩ := h4
      simp at h3
      have hfl : fs.length ≤ 4 := by omega
      have lce : lc_law_0 G__law_coin G__law_entry [.val (.scr ns), .val (.lst (es.map uE)), .val (nat x), .val (.box B'.length), s3, s4, .un] (B' ++ [c]) = _ := e3
      refine okP_seqT ?_
      have st : sSet 4 (lc_law_0 G__law_coin G__law_entry) [.val (.scr ns), .val (.lst (es.map uE)), .val (nat x), .val (.box B'.length), s3, s4, .un] (B' ++ [c]) = .ok .nx [.val (.scr ns), .val (.lst (es.map uE)), .val (nat x), .val (.box B'.length), .val (.lst (fs.map uE)), s4, .un] B3 := by simp [lce]
      rw [st, OkP_ok]
      refine then_nx ?_
      have r1 : RowOk es := ⟨ho, by omega⟩
      have r2 : RowOk fs := ⟨ho2, by omega⟩
      have r12 := r1.app r2 (by omega)
      obtain ⟨u1, B5, e5, ⟨l, rfl, hl5⟩, p5⟩ := line_ok (es ++ fs) r12.1 (by simp; omega) (p3.le (by simp; omega : 100 + 10 * (es ++ fs).length ≤ _))
      rw [List.map_append] at e5
      have hl5' : l.length ≤ 1000 := by simp at hl5; omega
      obtain ⟨l2, B6, e6, h6, p6⟩ := bent_ok (l := l) hl5' (p5.le (by decide : 90 + 6 ≤ 100))
      have la : es.length + fs.length ≤ 16777216 := by omega
      have cs : gSl (.str (ofC l2)) none (some 10) = some (.w (.str (ofC (l2.take 10)))) := by
        rw [e_sl_s (by omega)]
        have := cutS_to l2 10
        rw [show ((10 : Nat) : Int) = 10 from rfl] at this
        rw [this]
      refine okP_seqT ?_
      have st : sSet 5 (mSl (mCall G__law_bent (mCons (mVar 3) (mCons (mCall G__law_line (mCons (mVar 3) (mCons (m2 gAdd (mVar 1) (mVar 4)) (mNil)))) (mNil)))) mNoPart (mPart (mC (.int 10)))) [.val (.scr ns), .val (.lst (es.map uE)), .val (nat x), .val (.box B'.length), .val (.lst (fs.map uE)), s4, .un] B3 = .ok .nx [.val (.scr ns), .val (.lst (es.map uE)), .val (nat x), .val (.box B'.length), .val (.lst (fs.map uE)), .val (.str (ofC (l2.take 10))), .un] B6 := by
        simp [la, e5, e6, cs]
      rw [st, OkP_ok]
      refine then_nx ?_
      have jk := joins_ok r1 r2 (by omega) (by omega) (line := l2.take 10) (by simp; omega) B6
      have lk := least_joins_ok r1 r2 (by omega) (by omega) B6
      refine okP_seqL fun LQ hLQ => ?_
      simp [jk, lk]
      refine hLQ _ _ _ (then_nx ?_)
      clear hLQ LQ
      refine okP_lock fun LQ hLQ => ?_
      simp
      refine hLQ _ _ _ ?_
      clear hLQ LQ
      exact loop_nx ⟨fs, _, _, _, _, rfl, free_val, free_val, free_val, free_val, hfl, ho2⟩
    · rintro E B' ⟨es, s1, s2, s3, s4, rfl, f1, f2, f3, f4, hl, ho⟩
      refine then_nx ?_
      refine okP_lock fun LQ hLQ => ?_
      simp
      refine hLQ _ _ _ ?_
      clear hLQ LQ
      exact ret_p rfl
  obtain ⟨u, B', e, rfl⟩ := key
  exact ⟨B', e⟩
end LawW
open PySem PySem.W PyProof.Rows
set_option maxRecDepth 100000 in
set_option maxHeartbeats 0 in
theorem PySem.Challenge.cw_quotedback_k24_whole_joined_and_turned_a_holds : PySem.Challenge.rw_quotedback_k24_whole_joined_and_turned_a.Holds := by
  w_on; o_law; k_head; (case hw => w_witness2)
  k_fill
  refine LawW.walk LawW.plain (l := PySem.Challenge.rw_quotedback_k24_whole_joined_and_turned_a) rfl rfl (fun w h Y => PySem.W.kIn_of Y) ?F
  case F =>
    intro w mg fa h KX G hmg
    refine' LawW.all_mk KX G hmg ?a0 ?l0 ?c0 ?k0 ?a1 ?l1 ?c1 ?k1 ?a2 ?l2 ?c2 ?k2 ?a3 ?l3 ?c3 ?k3 ?a4 ?l4 ?c4 ?k4 ?a5 ?l5 ?c5 ?k5 ?a6 ?l6 ?c6 ?k6 ?a7 ?l7 ?c7 ?k7 ?a8 ?l8 ?c8 ?k8 ?a9 ?l9 ?c9 ?k9 ?a10 ?l10 ?c10 ?k10 ?a11 ?l11 ?c11 ?k11 ?a12 ?l12 ?c12 ?k12 ?a13 ?l13 ?c13 ?k13 ?a14 ?l14 ?c14 ?k14 ?a15 ?l15 ?c15 ?k15 ?a16 ?l16 ?c16 ?k16 ?a17 ?l17 ?c17 ?k17 ?a18 ?l18 ?c18 ?k18 ?a19 ?l19 ?c19 ?k19 ?a20 ?l20 ?c20 ?k20 ?a21 ?l21 ?c21 ?k21 ?a22 ?l22 ?c22 ?k22 ?a23 ?l23 ?c23 ?k23 ?a24 ?l24 ?c24 ?k24 ?a25 ?l25 ?c25 ?k25 ?a26 ?l26 ?c26 ?k26 ?a27 ?l27 ?c27 ?k27 ?z_abs ?z_all ?z_any ?z_bool ?z_enumerate ?z_int ?z_isinstance ?z_len ?z_list ?z_max ?z_min ?z_range ?z_set ?z_sorted ?z_str ?z_tuple ?q_SIGNS
    (case a0 => k_is)
    (case l0 => k_is)
    (case c0 => k_is)
    (case k0 => k_is)
    (case a1 => k_is)
    (case l1 => k_is)
    (case c1 => k_is)
    (case k1 => k_is)
    (case a2 => k_is)
    (case l2 => k_is)
    (case c2 => k_is)
    (case k2 => k_is)
    (case a3 => k_is)
    (case l3 => k_is)
    (case c3 => k_is)
    (case k3 => k_is)
    (case a4 => k_is)
    (case l4 => k_is)
    (case c4 => k_is)
    (case k4 => k_is)
    (case a5 => k_is)
    (case l5 => k_is)
    (case c5 => k_is)
    (case k5 => k_is)
    (case a6 => k_is)
    (case l6 => k_is)
    (case c6 => k_is)
    (case k6 => k_is)
    (case a7 => k_is)
    (case l7 => k_is)
    (case c7 => k_is)
    (case k7 => k_is)
    (case a8 => k_is)
    (case l8 => k_is)
    (case c8 => k_is)
    (case k8 => k_is)
    (case a9 => k_is)
    (case l9 => k_is)
    (case c9 => k_is)
    (case k9 => k_is)
    (case a10 => k_is)
    (case l10 => k_is)
    (case c10 => k_is)
    (case k10 => k_is)
    (case a11 => k_is)
    (case l11 => k_is)
    (case c11 => k_is)
    (case k11 => k_is)
    (case a12 => k_is)
    (case l12 => k_is)
    (case c12 => k_is)
    (case k12 => k_is)
    (case a13 => k_is)
    (case l13 => k_is)
    (case c13 => k_is)
    (case k13 => k_is)
    (case a14 => k_is)
    (case l14 => k_is)
    (case c14 => k_is)
    (case k14 => k_is)
    (case a15 => k_is)
    (case l15 => k_is)
    (case c15 => k_is)
    (case k15 => k_is)
    (case a16 => k_is)
    (case l16 => k_is)
    (case c16 => k_is)
    (case k16 => k_is)
    (case a17 => k_is)
    (case l17 => k_is)
    (case c17 => k_is)
    (case k17 => k_is)
    (case a18 => k_is)
    (case l18 => k_is)
    (case c18 => k_is)
    (case k18 => k_is)
    (case a19 => k_is)
    (case l19 => k_is)
    (case c19 => k_is)
    (case k19 => k_is)
    (case a20 => k_is)
    (case l20 => k_is)
    (case c20 => k_is)
    (case k20 => k_is)
    (case a21 => k_is)
    (case l21 => k_is)
    (case c21 => k_is)
    (case k21 => k_is)
    (case a22 => k_is)
    (case l22 => k_is)
    (case c22 => k_is)
    (case k22 => k_is)
    (case a23 => k_is)
    (case l23 => k_is)
    (case c23 => k_is)
    (case k23 => k_is)
    (case a24 => k_is)
    (case l24 => k_is)
    (case c24 => k_is)
    (case k24 => k_is)
    (case a25 => k_is)
    (case l25 => k_is)
    (case c25 => k_is)
    (case k25 => k_is)
    (case a26 => k_is)
    (case l26 => k_is)
    (case c26 => k_is)
    (case k26 => k_is)
    (case a27 => k_is)
    (case l27 => k_is)
    (case c27 => k_is)
    (case k27 => k_is)
    (case z_abs => k_is)
    (case z_all => k_is)
    (case z_any => k_is)
    (case z_bool => k_is)
    (case z_enumerate => k_is)
    (case z_int => k_is)
    (case z_isinstance => k_is)
    (case z_len => k_is)
    (case z_list => k_is)
    (case z_max => k_is)
    (case z_min => k_is)
    (case z_range => k_is)
    (case z_set => k_is)
    (case z_sorted => k_is)
    (case z_str => k_is)
    (case z_tuple => k_is)
    (case q_SIGNS => k_is)
#print axioms PySem.Challenge.cw_quotedback_k24_whole_joined_and_turned_a_holds
