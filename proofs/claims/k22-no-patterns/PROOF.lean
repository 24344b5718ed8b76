import PyProof.Rows.All
import Wide.All
import OpenK.AllK
import Wide.FinOn
import HandS.Exc
import HandS.ForMost
import HandS.Walk
import HandS.Wide
import HandS.IsInst
import HandS.ExcOwn
import HandS.ExcInit
import HandS.ExcSuper
import HandS.ExcField
import HandS.ExcIs
import HandS.TryOnly
import HandS.WordsExc
import HandS.Style
import HandS.StrMore
import HandS.TupAny
import HandS.TupLe
import HandS.Flow
import HandS.Iter
import KE.GoesEnumKw
import HandS.SortKw
import HandS.SetFor
import HandS.Strs
import HandS.SortInts
import PyProof.RulesMatch
import HandS.Dict
import HandS.More
import HandS.WordsDict
import HandS.Replace
import HandS.Text
import PyProof.RulesMatchSeq
import PyProof.Rows.MatchSeqLen
import KE.KUnpack
import HandS.Rev
import HandS.DictComp
import PyProof.StrLawsLast
import KE.KExcSuper
import HandS.ExcValue
import KE.KDictList
import HandS.Star
import KE.RegKSuper
import KE.RegKIsAll
import PySem.Challenge.RW_quotedback_k22_no_patterns
set_option Elab.async false
set_option linter.all false
set_option maxRecDepth 100000
set_option maxHeartbeats 4000000
/-! QaA: an exception as an object that is tracked. -/
namespace L2
open PySem PySem.Spec PyProof.Rows
/-- an exception of the class cls with the dict d, at a -/
def ExT (cls : Value) (d : Option Addr) (a : Addr) : HO := .ext fun h => ∃ (oe : Obj) (vs : Array Value), h.get? a = some oe ∧ Zc cls d oe ∧ oe.data = .fields vs
theorem exT_ok {P : Program} {w : World} {H : Hp} {h : Heap} {a : Addr} {cls : Value} {d : Option Addr} {oe : Obj} {vs : Array Value} (e : h.get? a = some oe) (z : Zc cls d oe) (dt : oe.data = .fields vs) : ObjOk P w H h a (ExT cls d a) :=
  ⟨⟨oe, vs, e, z, dt⟩, ⟨oe, e⟩, fun _ _ ⟨o, v, q, r⟩ k => ⟨o, v, k o q, r⟩⟩
end L2
/-! QbA: values as trees, boxes, own slots; what stands in the abstract heap for them. -/
namespace QB
open PySem L2

/-- a value: a tree (never changed any more), or a box (a shared thing that may change) -/
inductive U where
  | non | bl (b : Bool) | int (i : Int) | str (x : Str)
  | lst (xs : List U) | tup (xs : List U) | dct (ks : List Key) (vs : List U) | box (i : Nat)
  /-- the script itself: read, never written -/
  | scr (ns : List Int)
  /-- an exception that was caught: its class by name, its value -/
  | exc (cls : Str) (val : U)
  deriving Inhabited
/-- what stands in a box, in a slot of one's own -/
inductive Cell where
  | dead | lst (xs : List U) | dct (ks : List Key) (vs : List U)
def Cell.live : Cell → Bool
  | .dead => false
  | _ => true
def Cell.toU : Cell → U
  | .dead => .non
  | .lst xs => .lst xs
  | .dct ks vs => .dct ks vs
inductive Sl where
  | un | val (u : U) | own (c : Cell)
/-- an expression's result: a value, the slot i, a new thing that nobody else holds -/
inductive R where
  | w (u : U) | s (i : Nat) | fr (c : Cell)
structure Exn where
  cls : Str
  val : U
abbrev En := List Sl
abbrev Bx := List Cell
inductive O (α : Type) where
  | ok (a : α) (E : En) (B : Bx) | ex (c : Exn) (E : En) (B : Bx) | bad
inductive Fo where
  | ok (u : U) (B : Bx) | ex (c : Exn) (B : Bx) | bad
abbrev Fn := List U → Bx → Fo

/-! ### what stands for a value -/
def KL (K : PySem.W.Frag) (a : Addr) (xs : List V) : Prop :=
  ∃ (o : Obj) (its : Array Value) (n : Nat), K.lookup a = some o ∧ o.cls = .type "list" ∧ o.dict = none ∧ o.data = .seq its n ∧ its.size ≤ sizeLine ∧ Vals xs its.toList
def KT (K : PySem.W.Frag) (a : Addr) (xs : List V) : Prop :=
  ∃ (o : Obj) (its : Array Value) (n : Nat), K.lookup a = some o ∧ o.cls = .type "tuple" ∧ o.data = .seq its n ∧ its.size ≤ sizeLine ∧ Vals xs its.toList
abbrev AS := Addr → Prop
mutual
def Rep (K : PySem.W.Frag) (H : Hp) (Lv : AS) (ρ : List Addr) : U → V → Prop
  | .non, v => v = .non
  | .bl b, v => v = .bl b
  | .int i, v => v = .int i
  | .str x, v => v = .str x
  | .lst us, v => ∃ p vs, v = .ref p ∧ (H p = some (.lst vs) ∧ ¬ Lv p) ∧ Reps K H Lv ρ us vs
  | .tup us, v => ∃ p vs, v = .ref p ∧ ((Rd H p (.tup vs) ∧ ¬ Lv p) ∨ KT K p vs) ∧ Reps K H Lv ρ us vs
  | .dct ks us, v => ∃ p kvs, v = .ref p ∧ Rd H p (.dK kvs) ∧ ¬ Lv p ∧ kvs.map (·.1) = ks ∧ Reps K H Lv ρ us (kvs.map (·.2))
  | .box i, v => ∃ p, ρ[i]? = some p ∧ v = .ref p
  | .scr ns, v => ∃ p, v = .ref p ∧ ((Rd H p (.lst (ns.map V.int)) ∧ ¬ Lv p) ∨ KL K p (ns.map V.int))
  | .exc x u, v => ∃ a dx v' C, v = .ref a ∧ PySem.W.nsIn K mainGlobals x = some (some (.ref C)) ∧ H a = some (ExT (.ref C) (some dx) a) ∧ ¬ Lv a ∧ H dx = some (.xd [("value", v')]) ∧ ¬ Lv dx ∧ Rep K H Lv ρ u v'
def Reps (K : PySem.W.Frag) (H : Hp) (Lv : AS) (ρ : List Addr) : List U → List V → Prop
  | [], vs => vs = []
  | u :: us, vs => ∃ v r, vs = v :: r ∧ Rep K H Lv ρ u v ∧ Reps K H Lv ρ us r
end
/-- what is not live stands, and is not live -/
def Hk (h : Option HO) (o : HO) : Prop := h = some o ∨ ∃ od kvs, o = .dK kvs ∧ h = some (.frz od o)
def Stp (H : Hp) (Lv : AS) (H' : Hp) (Lv' : AS) : Prop := ∀ q o, H q = some o → ¬ Lv q → Hk (H' q) o ∧ ¬ Lv' q
theorem Hk.at {h : Option HO} {o : HO} (k : Hk h o) (n : ∀ kvs, o ≠ .dK kvs) : h = some o := by
  rcases k with k | ⟨_, kvs, e, _⟩
  · exact k
  · exact absurd e (n kvs)
section
variable {K : PySem.W.Frag} {H H' H2 : Hp} {Lv Lv' Lv2 : AS} {ρ ρ' : List Addr}
theorem Stp.refl : Stp H Lv H Lv := fun _ _ h n => ⟨.inl h, n⟩
theorem Stp.trans (a : Stp H Lv H' Lv') (b : Stp H' Lv' H2 Lv2) : Stp H Lv H2 Lv2 := fun q o h n => by
  obtain ⟨h1, n1⟩ := a q o h n
  rcases h1 with h1 | ⟨od, kvs, e, h1⟩
  · exact b q o h1 n1
  · obtain ⟨h2, n2⟩ := b q _ h1 n1
    exact ⟨.inr ⟨od, kvs, e, h2.at fun _ z => by cases z⟩, n2⟩
theorem Stp.less (h : ∀ q, Lv' q → Lv q) : Stp H Lv H Lv' := fun q _ e n => ⟨.inl e, fun z => n (h q z)⟩
theorem Stp.rd (s : Stp H Lv H' Lv') {p : Addr} {u : HO} (r : Rd H p u) (n : ¬ Lv p) : Rd H' p u ∧ ¬ Lv' p := by
  rcases r with r | ⟨o, r⟩
  · obtain ⟨h1, n1⟩ := s p _ r n
    rcases h1 with h1 | ⟨od, kvs, e, h1⟩
    · exact ⟨.inl h1, n1⟩
    · exact ⟨.inr ⟨od, h1⟩, n1⟩
  · exact ⟨.inr ⟨o, (s p _ r n).1.at (fun _ z => by cases z)⟩, (s p _ r n).2⟩
theorem px_get {i : Nat} {p : Addr} (e : ρ <+: ρ') (h : ρ[i]? = some p) : ρ'[i]? = some p := by
  obtain ⟨t, rfl⟩ := e
  rw [List.getElem?_append_left (List.getElem?_eq_some_iff.mp h).1]
  exact h
mutual
theorem Rep.mono (s : Stp H Lv H' Lv') (e : ρ <+: ρ') : ∀ (u : U) (v : V), Rep K H Lv ρ u v → Rep K H' Lv' ρ' u v
  | .non, _, h => by simpa [Rep] using h
  | .bl _, _, h => by simpa [Rep] using h
  | .int _, _, h => by simpa [Rep] using h
  | .str _, _, h => by simpa [Rep] using h
  | .lst us, v, h => by
    simp only [Rep] at h ⊢
    obtain ⟨p, vs, rfl, h1, h2⟩ := h
    exact ⟨p, vs, rfl, ⟨(s p _ h1.1 h1.2).1.at (fun _ z => by cases z), (s p _ h1.1 h1.2).2⟩, Reps.mono s e us vs h2⟩
  | .tup us, v, h => by
    simp only [Rep] at h ⊢
    obtain ⟨p, vs, rfl, h1, h2⟩ := h
    refine ⟨p, vs, rfl, ?_, Reps.mono s e us vs h2⟩
    rcases h1 with h1 | h1
    · exact .inl (s.rd h1.1 h1.2)
    · exact .inr h1
  | .dct ks us, v, h => by
    simp only [Rep] at h ⊢
    obtain ⟨p, kvs, rfl, h1, h2, h3, h4⟩ := h
    exact ⟨p, kvs, rfl, (s.rd h1 h2).1, (s.rd h1 h2).2, h3, Reps.mono s e us _ h4⟩
  | .box i, v, h => by
    simp only [Rep] at h ⊢
    obtain ⟨p, h1, h2⟩ := h
    exact ⟨p, px_get e h1, h2⟩
  | .scr ns, v, h => by
    simp only [Rep] at h ⊢
    obtain ⟨p, h1, h2⟩ := h
    refine ⟨p, h1, ?_⟩
    rcases h2 with h2 | h2
    · exact .inl (s.rd h2.1 h2.2)
    · exact .inr h2
  | .exc x u, v, h => by
    simp only [Rep] at h ⊢
    obtain ⟨a, dx, v', C, rfl, h1, h2, h3, h4, h5, h6⟩ := h
    exact ⟨a, dx, v', C, rfl, h1, (s a _ h2 h3).1.at (fun _ z => by unfold ExT at z; cases z), (s a _ h2 h3).2, (s dx _ h4 h5).1.at (fun _ z => by cases z), (s dx _ h4 h5).2, Rep.mono s e u v' h6⟩
theorem Reps.mono (s : Stp H Lv H' Lv') (e : ρ <+: ρ') : ∀ (us : List U) (vs : List V), Reps K H Lv ρ us vs → Reps K H' Lv' ρ' us vs
  | [], _, h => by simpa [Reps] using h
  | u :: us, vs, h => by
    simp only [Reps] at h ⊢
    obtain ⟨v, r, rfl, h1, h2⟩ := h
    exact ⟨v, r, rfl, Rep.mono s e u v h1, Reps.mono s e us r h2⟩
end
theorem Reps.len : ∀ {us : List U} {vs : List V}, Reps K H Lv ρ us vs → us.length = vs.length
  | [], vs, h => by simp only [Reps] at h; subst h; rfl
  | u :: us, vs, h => by
    simp only [Reps] at h
    obtain ⟨v, r, rfl, _, h2⟩ := h
    simp [Reps.len h2]
theorem Reps.get : ∀ {us : List U} {vs : List V} {i : Nat} {u : U}, Reps K H Lv ρ us vs → us[i]? = some u → ∃ v, vs[i]? = some v ∧ Rep K H Lv ρ u v
  | [], vs, i, u, h, e => by simp at e
  | u' :: us, vs, i, u, h, e => by
    simp only [Reps] at h
    obtain ⟨v, r, rfl, h1, h2⟩ := h
    cases i with
    | zero => simp at e; subst e; exact ⟨v, by simp, h1⟩
    | succ i => simpa using Reps.get h2 (by simpa using e)
theorem Reps.getV : ∀ {us : List U} {vs : List V} {i : Nat} {v : V}, Reps K H Lv ρ us vs → vs[i]? = some v → ∃ u, us[i]? = some u ∧ Rep K H Lv ρ u v
  | [], vs, i, v, h, e => by simp only [Reps] at h; subst h; simp at e
  | u' :: us, vs, i, v, h, e => by
    simp only [Reps] at h
    obtain ⟨v', r, rfl, h1, h2⟩ := h
    cases i with
    | zero => simp at e; subst e; exact ⟨u', by simp, h1⟩
    | succ i => simpa using Reps.getV h2 (by simpa using e)
theorem Reps.set : ∀ {us : List U} {vs : List V} {u : U} {v : V} (i : Nat), Reps K H Lv ρ us vs → Rep K H Lv ρ u v → Reps K H Lv ρ (us.set i u) (vs.set i v)
  | [], vs, u, v, i, h, r => by simp only [Reps] at h; subst h; simp [Reps]
  | u' :: us, vs, u, v, i, h, r => by
    simp only [Reps] at h
    obtain ⟨v', t, rfl, h1, h2⟩ := h
    cases i with
    | zero => simp only [List.set_cons_zero, Reps]; exact ⟨v, t, rfl, r, h2⟩
    | succ i => simp only [List.set_cons_succ, Reps]; exact ⟨v', _, rfl, h1, Reps.set i h2 r⟩
theorem Reps.append : ∀ {us us' : List U} {vs vs' : List V}, Reps K H Lv ρ us vs → Reps K H Lv ρ us' vs' → Reps K H Lv ρ (us ++ us') (vs ++ vs')
  | [], _, vs, _, h, r => by simp only [Reps] at h; subst h; exact r
  | u' :: us, us', vs, vs', h, r => by
    simp only [Reps] at h
    obtain ⟨v', t, rfl, h1, h2⟩ := h
    simp only [List.cons_append, Reps]
    exact ⟨v', _, rfl, h1, Reps.append h2 r⟩
theorem Reps.take : ∀ {us : List U} {vs : List V} (n : Nat), Reps K H Lv ρ us vs → Reps K H Lv ρ (us.take n) (vs.take n)
  | [], vs, n, h => by simp only [Reps] at h; subst h; simp [Reps]
  | u' :: us, vs, n, h => by
    simp only [Reps] at h
    obtain ⟨v', t, rfl, h1, h2⟩ := h
    cases n with
    | zero => simp [Reps]
    | succ n => simp only [List.take_succ_cons, Reps]; exact ⟨v', _, rfl, h1, Reps.take n h2⟩
theorem Reps.drop : ∀ {us : List U} {vs : List V} (n : Nat), Reps K H Lv ρ us vs → Reps K H Lv ρ (us.drop n) (vs.drop n)
  | [], vs, n, h => by simp only [Reps] at h; subst h; simp [Reps]
  | u' :: us, vs, n, h => by
    cases n with
    | zero => simpa using h
    | succ n =>
      simp only [Reps] at h
      obtain ⟨v', t, rfl, h1, h2⟩ := h
      simpa using Reps.drop n h2
theorem Reps.one {u : U} {v : V} (h : Rep K H Lv ρ u v) : Reps K H Lv ρ [u] [v] := by simp only [Reps]; exact ⟨v, [], rfl, h, rfl⟩
theorem Reps.nil : Reps K H Lv ρ [] [] := by simp [Reps]
theorem Reps.cons {u : U} {v : V} {us : List U} {vs : List V} (h : Rep K H Lv ρ u v) (r : Reps K H Lv ρ us vs) : Reps K H Lv ρ (u :: us) (v :: vs) := by simp only [Reps]; exact ⟨v, vs, rfl, h, r⟩
theorem Reps.reverse : ∀ {us : List U} {vs : List V}, Reps K H Lv ρ us vs → Reps K H Lv ρ us.reverse vs.reverse
  | [], vs, h => by simp only [Reps] at h; subst h; simp [Reps]
  | u' :: us, vs, h => by
    simp only [Reps] at h
    obtain ⟨v', t, rfl, h1, h2⟩ := h
    simp only [List.reverse_cons]
    exact (Reps.reverse h2).append (Reps.one h1)

/-! ### cells -/
def CellOk (K : PySem.W.Frag) (H : Hp) (Lv : AS) (ρ : List Addr) : Cell → Addr → Prop
  | .dead, _ => True
  | .lst us, p => ∃ vs, H p = some (.lst vs) ∧ Reps K H Lv ρ us vs
  | .dct ks us, p => ∃ kvs, H p = some (.dK kvs) ∧ kvs.map (·.1) = ks ∧ Reps K H Lv ρ us (kvs.map (·.2))
theorem CellOk.mono {c : Cell} {p : Addr} (s : Stp H Lv H' Lv') (e : ρ <+: ρ') (same : H' p = H p) (h : CellOk K H Lv ρ c p) : CellOk K H' Lv' ρ' c p := by
  cases c with
  | dead => trivial
  | lst us => obtain ⟨vs, h1, h2⟩ := h; exact ⟨vs, by rw [same]; exact h1, h2.mono s e⟩
  | dct ks us => obtain ⟨kvs, h1, h2, h3⟩ := h; exact ⟨kvs, by rw [same]; exact h1, h2, h3.mono s e⟩
theorem CellOk.there {c : Cell} {p : Addr} (hl : c.live = true) (h : CellOk K H Lv ρ c p) : ∃ o, H p = some o := by
  cases c with
  | dead => cases hl
  | lst us => obtain ⟨vs, h1, _⟩ := h; exact ⟨_, h1⟩
  | dct ks us => obtain ⟨vs, h1, _⟩ := h; exact ⟨_, h1⟩
/-- a live thing comes to rest -/
theorem CellOk.rep {c : Cell} {p : Addr} (hl : c.live = true) (n : ¬ Lv p) (h : CellOk K H Lv ρ c p) : Rep K H Lv ρ c.toU (.ref p) := by
  cases c with
  | dead => cases hl
  | lst us => obtain ⟨vs, h1, h2⟩ := h; simp only [Cell.toU, Rep]; exact ⟨p, vs, rfl, ⟨h1, n⟩, h2⟩
  | dct ks us => obtain ⟨kvs, h1, h2, h3⟩ := h; simp only [Cell.toU, Rep]; exact ⟨p, kvs, rfl, .inl h1, n, h2, h3⟩
end

/-! ### the state -/
structure Fm where
  Out : AS
  H0 : Hp
  Lv0 : AS
def BLv (ρ : List Addr) (B : Bx) : AS := fun q => ∃ (i : Nat) (c : Cell), B[i]? = some c ∧ c.live = true ∧ ρ[i]? = some q
def SLv (E : En) (σ : L2.St) : AS := fun q => ∃ (i : Nat) (c : Cell), E[i]? = some (.own c) ∧ σ[i]? = some (some (.ref q))
def LvF (F : Fm) (ρ : List Addr) (E : En) (B : Bx) (σ : L2.St) : AS := fun q => F.Out q ∨ BLv ρ B q ∨ SLv E σ q
structure Rel (K : PySem.W.Frag) (F : Fm) (ρ : List Addr) (E : En) (B : Bx) (σ : L2.St) (H : Hp) : Prop where
  elen : E.length = σ.length
  blen : ρ.length = B.length
  val : ∀ (i : Nat) (u : U), E[i]? = some (.val u) → ∃ v, σ[i]? = some (some v) ∧ Rep K H (LvF F ρ E B σ) ρ u v
  own : ∀ (i : Nat) (c : Cell), E[i]? = some (.own c) → c.live = true ∧ ∃ p, σ[i]? = some (some (.ref p)) ∧ CellOk K H (LvF F ρ E B σ) ρ c p ∧ ¬ F.Out p ∧ ¬ BLv ρ B p
  oinj : ∀ (i j : Nat) (c d : Cell) (p : Addr), E[i]? = some (.own c) → E[j]? = some (.own d) → σ[i]? = some (some (.ref p)) → σ[j]? = some (some (.ref p)) → i = j
  box : ∀ (i : Nat) (c : Cell) (p : Addr), B[i]? = some c → c.live = true → ρ[i]? = some p → CellOk K H (LvF F ρ E B σ) ρ c p ∧ ¬ F.Out p
  binj : ∀ (i j : Nat) (c d : Cell) (p : Addr), B[i]? = some c → c.live = true → B[j]? = some d → d.live = true → ρ[i]? = some p → ρ[j]? = some p → i = j
  out : ∀ q, F.Out q → H q = F.H0 q ∧ ∃ o, F.H0 q = some o
  old : Stp F.H0 F.Lv0 H (LvF F ρ E B σ)
  grow : ∀ q o, F.H0 q = some o → ∃ o', H q = some o'
def Fm.add (F : Fm) (p : Addr) (o : Option HO) : Fm := ⟨fun q => F.Out q ∨ q = p, fun q => if q = p then o else F.H0 q, fun q => F.Lv0 q ∨ q = p⟩
/-- p is new to F -/
structure New (F : Fm) (p : Addr) : Prop where
  out : ¬ F.Out p
  h0 : F.H0 p = none
section
variable {K : PySem.W.Frag} {F : Fm} {ρ ρ' : List Addr} {E E' : En} {B B' : Bx} {σ : L2.St} {H H' : Hp} {p : Addr} {o : Option HO}
theorem Rel.lv_there (r : Rel K F ρ E B σ H) : ∀ q, LvF F ρ E B σ q → ∃ o, H q = some o := by
  intro q h
  rcases h with h | ⟨i, c, h1, h2, h3⟩ | ⟨i, c, h1, h2⟩
  · obtain ⟨e, o, ho⟩ := r.out q h
    exact ⟨o, by rw [e]; exact ho⟩
  · exact (r.box i c q h1 h2 h3).1.there h2
  · obtain ⟨hl, p, h3, h4, _⟩ := r.own i c h1
    rw [h3] at h2
    have e : p = q := by simpa using h2
    subst e
    exact h4.there hl
/-- the heap grew -/
theorem grow_stp (r : Rel K F ρ E B σ H) (g : ∀ q o, H q = some o → H' q = some o) : Stp H (LvF F ρ E B σ) H' (LvF F ρ E B σ) := fun q o h n => ⟨.inl (g q o h), n⟩
theorem Rel.growH (r : Rel K F ρ E B σ H) (g : ∀ q o, H q = some o → H' q = some o) : Rel K F ρ E B σ H' := by
  have s := grow_stp r g
  have px : ρ <+: ρ := List.prefix_refl _
  have eqv : ∀ q, LvF F ρ E B σ q → H' q = H q := fun q h => by
    obtain ⟨o, ho⟩ := r.lv_there q h
    rw [ho, g q o ho]
  refine ⟨r.elen, r.blen, fun i u h => ?_, fun i c h => ?_, r.oinj, fun i c q h1 h2 h3 => ?_, r.binj, fun q h => ?_, r.old.trans s, fun q o h => ?_⟩
  · obtain ⟨v, h1, h2⟩ := r.val i u h
    exact ⟨v, h1, h2.mono s px⟩
  · obtain ⟨h1, q, h2, h3, h4⟩ := r.own i c h
    exact ⟨h1, q, h2, h3.mono s px (eqv q (.inr (.inr ⟨i, c, h, h2⟩))), h4⟩
  · obtain ⟨h4, h5⟩ := r.box i c q h1 h2 h3
    exact ⟨h4.mono s px (eqv q (.inr (.inl ⟨i, c, h1, h2, h3⟩))), h5⟩
  · obtain ⟨h1, o, h2⟩ := r.out q h
    exact ⟨by rw [eqv q (.inl h)]; exact h1, o, h2⟩
  · obtain ⟨o', h1⟩ := r.grow q o h
    exact ⟨o', g q o' h1⟩
/-- the live set is changed, what is live stands as it is -/
theorem Rel.lv {F' : Fm} (r : Rel K F ρ E B σ H) (hl : ∀ q o, H q = some o → ¬ LvF F ρ E B σ q → ¬ LvF F' ρ E B σ q)
    (ho : ∀ q, F'.Out q → H q = F'.H0 q ∧ ∃ o, F'.H0 q = some o) (hb : ∀ q, BLv ρ B q → ¬ F'.Out q) (hs : ∀ q, SLv E σ q → ¬ F'.Out q) (old : Stp F'.H0 F'.Lv0 H (LvF F' ρ E B σ)) (grow : ∀ q o, F'.H0 q = some o → ∃ o', H q = some o') : Rel K F' ρ E B σ H := by
  have s : Stp H (LvF F ρ E B σ) H (LvF F' ρ E B σ) := fun q o h n => ⟨.inl h, hl q o h n⟩
  have px : ρ <+: ρ := List.prefix_refl _
  refine ⟨r.elen, r.blen, fun i u h => ?_, fun i c h => ?_, r.oinj, fun i c q h1 h2 h3 => ?_, r.binj, ho, old, grow⟩
  · obtain ⟨v, h1, h2⟩ := r.val i u h
    exact ⟨v, h1, h2.mono s px⟩
  · obtain ⟨h1, q, h2, h3, h4, h5⟩ := r.own i c h
    exact ⟨h1, q, h2, h3.mono s px rfl, hs q ⟨i, c, h, h2⟩, h5⟩
  · obtain ⟨h4, h5⟩ := r.box i c q h1 h2 h3
    exact ⟨h4.mono s px rfl, hb q ⟨i, c, h1, h2, h3⟩⟩
theorem LvF.add_iff {q : Addr} : LvF (F.add p o) ρ E B σ q ↔ LvF F ρ E B σ q ∨ q = p := by
  unfold LvF Fm.add
  constructor
  · rintro ((h | h) | h | h)
    · exact .inl (.inl h)
    · exact .inr h
    · exact .inl (.inr (.inl h))
    · exact .inl (.inr (.inr h))
  · rintro ((h | h | h) | h)
    · exact .inl (.inl h)
    · exact .inr (.inl h)
    · exact .inr (.inr h)
    · exact .inl (.inr h)
/-- the new thing at p is forgotten: it rests -/
theorem Rel.drop (r : Rel K (F.add p o) ρ E B σ H) (n : New F p) : Rel K F ρ E B σ H := by
  refine r.lv (fun q u h z y => z (LvF.add_iff.mpr (.inl y))) (fun q h => ?_) (fun q ⟨i, c, h1, h2, h3⟩ z => (r.box i c q h1 h2 h3).2 (.inl z)) (fun q ⟨i, c, h1, h2⟩ z => ?_) (fun q u h z => ?_) (fun q u h => ?_)
  · have e := r.out q (.inl h)
    have ne : q ≠ p := fun z => n.out (z ▸ h)
    simpa [Fm.add, ne] using e
  · obtain ⟨_, p', h3, _, h4, _⟩ := r.own i c h1
    rw [h3] at h2
    have e : p' = q := by simpa using h2
    subst e
    exact h4 (.inl z)
  · have ne : q ≠ p := fun y => by rw [y, n.h0] at h; cases h
    have := r.old q u (by simp [Fm.add, ne, h]) (fun y => y.elim z ne)
    exact ⟨this.1, fun y => this.2 (LvF.add_iff.mpr (.inl y))⟩
  · have ne : q ≠ p := fun y => by rw [y, n.h0] at h; cases h
    exact r.grow q u (by simp [Fm.add, ne, h])
theorem Rel.notLv (r : Rel K (F.add p o) ρ E B σ H) (n : New F p) : ¬ LvF F ρ E B σ p := by
  rintro (h | ⟨i, c, h1, h2, h3⟩ | ⟨i, c, h1, h2⟩)
  · exact n.out h
  · exact (r.box i c p h1 h2 h3).2 (.inr rfl)
  · obtain ⟨_, p', h3, _, h4, _⟩ := r.own i c h1
    rw [h3] at h2
    have e : p' = p := by simpa using h2
    subst e
    exact h4 (.inr rfl)
theorem Rel.new (r : Rel K F ρ E B σ H) (hp : H p = none) : New F p := by
  refine ⟨fun z => ?_, ?_⟩
  · obtain ⟨e, o, h⟩ := r.out p z
    rw [e, h] at hp; cases hp
  · cases h : F.H0 p with
    | none => rfl
    | some o =>
      obtain ⟨o', h'⟩ := r.grow p o h
      rw [h'] at hp; cases hp
/-- a new thing is laid at p -/
theorem Rel.alloc {ob : HO} (r : Rel K F ρ E B σ H) (hp : H p = none) : Rel K (F.add p (some ob)) ρ E B σ (upd H p ob) := by
  have g : ∀ q o, H q = some o → (upd H p ob) q = some o := fun q o h => by rw [upd_ne (ne_of_none h hp)]; exact h
  have r' := r.growH g
  have nl : ¬ LvF F ρ E B σ p := fun z => by obtain ⟨o, h⟩ := r.lv_there p z; rw [hp] at h; cases h
  have nw := r.new hp
  have key : ∀ q, LvF F ρ E B σ q → q ≠ p := fun q h e => nl (e ▸ h)
  have s : ∀ q o, H q = some o → ¬ LvF F ρ E B σ q → ¬ LvF (F.add p (some ob)) ρ E B σ q := fun q o h n z => by
    rcases LvF.add_iff.mp z with z | z
    · exact n z
    · subst z; rw [hp] at h; cases h
  have stp : Stp H (LvF F ρ E B σ) (upd H p ob) (LvF (F.add p (some ob)) ρ E B σ) := fun q o h n => ⟨.inl (g q o h), s q o h n⟩
  have px : ρ <+: ρ := List.prefix_refl _
  have same : ∀ q, LvF F ρ E B σ q → (upd H p ob) q = H q := fun q h => upd_ne (key q h)
  refine ⟨r.elen, r.blen, fun i u h => ?_, fun i c h => ?_, r.oinj, fun i c q h1 h2 h3 => ?_, r.binj, fun q h => ?_, fun q u h z => ?_, fun q u h => ?_⟩
  · obtain ⟨v, h1, h2⟩ := r.val i u h
    exact ⟨v, h1, h2.mono stp px⟩
  · obtain ⟨h1, q, h2, h3, h4, h5⟩ := r.own i c h
    have lq : LvF F ρ E B σ q := .inr (.inr ⟨i, c, h, h2⟩)
    exact ⟨h1, q, h2, h3.mono stp px (same q lq), fun z => z.elim h4 (key q lq), h5⟩
  · obtain ⟨h4, h5⟩ := r.box i c q h1 h2 h3
    have lq : LvF F ρ E B σ q := .inr (.inl ⟨i, c, h1, h2, h3⟩)
    exact ⟨h4.mono stp px (same q lq), fun z => z.elim h5 (key q lq)⟩
  · rcases h with h | h
    · have ne : q ≠ p := fun z => nw.out (z ▸ h)
      obtain ⟨e, o, ho⟩ := r.out q h
      refine ⟨?_, o, by simp [Fm.add, ne, ho]⟩
      rw [upd_ne ne, e]; simp [Fm.add, ne]
    · subst h
      exact ⟨by rw [upd_same]; simp [Fm.add], ob, by simp [Fm.add]⟩
  · have ne : q ≠ p := fun y => z (.inr y)
    have h' : F.H0 q = some u := by simpa [Fm.add, ne] using h
    exact r.old.trans stp q u h' (fun y => z (.inl y))
  · by_cases e : q = p
    · subst e; exact ⟨ob, upd_same⟩
    · have h' : F.H0 q = some u := by simpa [Fm.add, e] using h
      obtain ⟨o', h1⟩ := r.grow q u h'
      exact ⟨o', g q o' h1⟩
end
end QB
/-! QbB: the judgements, results that come to rest, views. -/
namespace QB
open PySem L2

def Fm.addR (F : Fm) (H : Hp) : R → V → Fm
  | .fr _, .ref p => F.add p (H p)
  | _, _ => F
def IsSet (E : En) (i : Nat) : Prop := (∃ u, E[i]? = some (Sl.val u)) ∨ ∃ c, E[i]? = some (Sl.own c)
def EnLe (E E' : En) : Prop := ∀ i, IsSet E i → IsSet E' i
theorem EnLe.refl {E : En} : EnLe E E := fun _ h => h
theorem EnLe.trans {E E' E2 : En} (a : EnLe E E') (b : EnLe E' E2) : EnLe E E2 := fun i h => b i (a i h)
def RepR (K : PySem.W.Frag) (F : Fm) (H : Hp) (Lv : AS) (ρ : List Addr) (E : En) (σ : L2.St) : R → V → Prop
  | .w u, v => Rep K H Lv ρ u v
  | .s i, v => σ[i]? = some (some v) ∧ IsSet E i
  | .fr c, v => ∃ p, v = .ref p ∧ c.live = true ∧ CellOk K H Lv ρ c p ∧ New F p
structure Aft (K : PySem.W.Frag) (F : Fm) (ρ : List Addr) (E : En) (B : Bx) (σ : L2.St) (H : Hp) (r : R) (ρ' : List Addr) (E' : En) (B' : Bx) (H' : Hp) (v : V) : Prop where
  px : ρ <+: ρ'
  rel : Rel K (F.addR H' r v) ρ' E' B' σ H'
  stp : Stp H (LvF F ρ E B σ) H' (LvF (F.addR H' r v) ρ' E' B' σ)
  le : EnLe E E'
  rep : RepR K F H' (LvF (F.addR H' r v) ρ' E' B' σ) ρ' E' σ r v
structure AftT (K : PySem.W.Frag) (F : Fm) (ρ : List Addr) (E : En) (B : Bx) (σ : L2.St) (H : Hp) (ρ' : List Addr) (E' : En) (B' : Bx) (H' : Hp) : Prop where
  px : ρ <+: ρ'
  rel : Rel K F ρ' E' B' σ H'
  stp : Stp H (LvF F ρ E B σ) H' (LvF F ρ' E' B' σ)
  le : EnLe E E'
/-- what is wished of exceptions; where classes stand -/
structure Xq where
  W : WX
  mg : Str → Option Value
structure Cy extends Cx where
  W : WX
  tk : Takes toCx W
  po : PassesOwn (model toCx.prog toCx.w) toCx.A toCx.env toCx.xe
instance : CoeOut Cy Cx := ⟨Cy.toCx⟩
def Cy.q (X : Cy) : Xq := ⟨X.W, X.mg⟩
/-- the exception c as it flies: its class, its dict of one field -/
def ExcR (K : PySem.W.Frag) (F : Fm) (ρ : List Addr) (E : En) (B : Bx) (σ : L2.St) (H : Hp) (mg : Str → Option Value) (c : Exn) (cls : Value) (d : Option Addr) : Prop :=
  ∃ dx v, PySem.W.nsIn K mainGlobals c.cls = some (some cls) ∧ d = some dx ∧ H dx = some (.xd [("value", v)]) ∧ ¬ LvF F ρ E B σ dx ∧ Rep K H (LvF F ρ E B σ) ρ c.val v
def ExQ (K : PySem.W.Frag) (Y : Xq) (F : Fm) (ρ : List Addr) (c : Exn) (E' : En) (B' : Bx) : Prop :=
  ∀ ρ' σ' H' cls d, ρ <+: ρ' → Rel K F ρ' E' B' σ' H' → ExcR K F ρ' E' B' σ' H' Y.mg c cls d → Y.W cls d σ' H'
def PostE (K : PySem.W.Frag) (Y : Xq) (F : Fm) (ρ : List Addr) (E : En) (B : Bx) (σ : L2.St) (H : Hp) : O R → VK → Prop
  | .ok r E' B', Q => ∀ ρ' H' v, Aft K F ρ E B σ H r ρ' E' B' H' v → Q v H'
  | .ex c E' B', _ => ExQ K Y F ρ c E' B'
  | _, _ => False
def PostT (K : PySem.W.Frag) (Y : Xq) (F : Fm) (ρ : List Addr) (E : En) (B : Bx) (σ : L2.St) (H : Hp) : O Bool → (Bool → Hp → Prop) → Prop
  | .ok b E' B', Q => ∀ ρ' H', AftT K F ρ E B σ H ρ' E' B' H' → Q b H'
  | .ex c E' B', _ => ExQ K Y F ρ c E' B'
  | _, _ => False
abbrev Ex := En → Bx → O R
abbrev Te := En → Bx → O Bool
def SndE (X : Cy) (e : Expr) (f : Ex) : Prop := ∃ t : TE, PE X e t ∧ ∀ F ρ E B σ H Q, Rel X.K F ρ E B σ H → PostE X.K X.q F ρ E B σ H (f E B) Q → t σ H Q
def SndT (X : Cy) (e : Expr) (f : Te) : Prop := ∃ t : TT, PT X e t ∧ ∀ F ρ E B σ H Q, Rel X.K F ρ E B σ H → PostT X.K X.q F ρ E B σ H (f E B) Q → t σ H Q
def SndW (X : Cy) (e : Expr) (f : Te) : Prop := ∃ t : TT, PW X e t ∧ ∀ F ρ E B σ H Q, Rel X.K F ρ E B σ H → PostT X.K X.q F ρ E B σ H (f E B) Q → t σ H Q

/-! ### coming to rest -/
def settle (r : R) (E : En) : Option (U × En) :=
  match r with
  | .w u => some (u, E)
  | .fr c => some (c.toU, E)
  | .s i => match E[i]? with
    | some (.own c) => some (c.toU, E.set i (.val c.toU))
    | some (.val u) => some (u, E)
    | _ => none
section
variable {K : PySem.W.Frag} {F : Fm} {ρ ρ' : List Addr} {E E' : En} {B B' : Bx} {σ : L2.St} {H H' : Hp} {p : Addr} {v : V} {u : U} {r : R}
/-- an own thing in slot i comes to rest -/
theorem Rel.freeze {i : Nat} {c : Cell} (r : Rel K F ρ E B σ H) (h : E[i]? = some (.own c)) :
    Rel K F ρ (E.set i (.val c.toU)) B σ H ∧ Stp H (LvF F ρ E B σ) H (LvF F ρ (E.set i (.val c.toU)) B σ) ∧ EnLe E (E.set i (.val c.toU)) ∧
      ∃ v, σ[i]? = some (some v) ∧ Rep K H (LvF F ρ (E.set i (.val c.toU)) B σ) ρ c.toU v := by
  obtain ⟨hl, p, hp, hc, ho, hb⟩ := r.own i c h
  have hi : i < E.length := (List.getElem?_eq_some_iff.mp h).1
  have px : ρ <+: ρ := List.prefix_refl _
  have ownSet : ∀ (j : Nat) (d : Cell), (E.set i (.val c.toU))[j]? = some (.own d) → E[j]? = some (.own d) ∧ j ≠ i := fun j d e => by
    by_cases hj : i = j
    · subst hj; rw [List.getElem?_set_self hi] at e; cases e
    · rw [List.getElem?_set_ne hj] at e; exact ⟨e, fun z => hj z.symm⟩
  have less : ∀ q, LvF F ρ (E.set i (.val c.toU)) B σ q → LvF F ρ E B σ q := fun q z => by
    rcases z with z | z | ⟨j, d, h1, h2⟩
    · exact .inl z
    · exact .inr (.inl z)
    · exact .inr (.inr ⟨j, d, (ownSet j d h1).1, h2⟩)
  have nl : ¬ LvF F ρ (E.set i (.val c.toU)) B σ p := by
    rintro (z | z | ⟨j, d, h1, h2⟩)
    · exact ho z
    · exact hb z
    · obtain ⟨h3, h4⟩ := ownSet j d h1
      exact h4 (r.oinj j i d c p h3 h h2 hp)
  have s : Stp H (LvF F ρ E B σ) H (LvF F ρ (E.set i (.val c.toU)) B σ) := Stp.less less
  have hrep : Rep K H (LvF F ρ (E.set i (.val c.toU)) B σ) ρ c.toU (.ref p) := (hc.mono s px rfl).rep hl nl
  refine ⟨⟨by rw [List.length_set]; exact r.elen, r.blen, fun j u e => ?_, fun j d e => ?_, fun j k d f q e1 e2 e3 e4 => ?_, fun j d q e1 e2 e3 => ?_, r.binj, r.out, r.old.trans s, r.grow⟩, s, fun j hj => ?_, .ref p, hp, hrep⟩
  · by_cases hj : i = j
    · subst hj; rw [List.getElem?_set_self hi] at e; cases e; exact ⟨_, hp, hrep⟩
    · rw [List.getElem?_set_ne hj] at e
      obtain ⟨w, h1, h2⟩ := r.val j u e
      exact ⟨w, h1, h2.mono s px⟩
  · obtain ⟨h1, h2, q, h3, h4, h5⟩ := And.intro (ownSet j d e) (r.own j d (ownSet j d e).1)
    exact ⟨h2, q, h3, h4.mono s px rfl, h5⟩
  · exact r.oinj j k d f q (ownSet j d e1).1 (ownSet k f e2).1 e3 e4
  · obtain ⟨h4, h5⟩ := r.box j d q e1 e2 e3
    exact ⟨h4.mono s px rfl, h5⟩
  · by_cases e : i = j
    · subst e; exact .inl ⟨_, List.getElem?_set_self hi⟩
    · unfold IsSet; rw [List.getElem?_set_ne e]; exact hj
theorem settle_ok {E' : En} (rl : Rel K (F.addR H r v) ρ E B σ H) (rr : RepR K F H (LvF (F.addR H r v) ρ E B σ) ρ E σ r v) (h : settle r E = some (u, E')) :
    Rel K F ρ E' B σ H ∧ Stp H (LvF (F.addR H r v) ρ E B σ) H (LvF F ρ E' B σ) ∧ EnLe E E' ∧ Rep K H (LvF F ρ E' B σ) ρ u v := by
  cases r with
  | w x =>
    simp only [settle, Option.some.injEq, Prod.mk.injEq] at h
    obtain ⟨rfl, rfl⟩ := h
    exact ⟨rl, Stp.refl, EnLe.refl, rr⟩
  | fr c =>
    simp only [settle, Option.some.injEq, Prod.mk.injEq] at h
    obtain ⟨rfl, rfl⟩ := h
    obtain ⟨p, rfl, hl, hc, hn⟩ := rr
    have r2 := Rel.drop rl hn
    have s : Stp H (LvF (F.addR H (.fr c) (.ref p)) ρ E B σ) H (LvF F ρ E B σ) := Stp.less fun q z => LvF.add_iff.mpr (.inl z)
    exact ⟨r2, s, EnLe.refl, (hc.mono s (List.prefix_refl _) rfl).rep hl (Rel.notLv rl hn)⟩
  | s i =>
    simp only [settle] at h
    split at h
    · next c hc =>
      cases h
      obtain ⟨h1, h2, h3, w, h4, h5⟩ := Rel.freeze (show Rel K F ρ E B σ H from rl) hc
      have e : w = v := by
        have := rr.1
        rw [h4] at this
        simpa using this
      subst e
      exact ⟨h1, h2, h3, h5⟩
    · next x hx =>
      cases h
      obtain ⟨w, h4, h5⟩ := (show Rel K F ρ E B σ H from rl).val i _ hx
      have e : w = v := by
        have := rr.1
        rw [h4] at this
        simpa using this
      subst e
      exact ⟨rl, Stp.refl, EnLe.refl, h5⟩
    · cases h

/-! ### views: what a value holds right now -/
def Cell.view : Cell → Option U
  | .dead => none
  | .lst xs => some (.lst xs)
  | .dct ks vs => some (.dct ks vs)
def viewU (u : U) (B : Bx) : Option U :=
  match u with
  | .box i => (B[i]?).bind Cell.view
  | u => some u
def view (r : R) (E : En) (B : Bx) : Option U :=
  match r with
  | .w u => viewU u B
  | .fr c => c.view
  | .s i => match E[i]? with
    | some (.own c) => c.view
    | some (.val u) => viewU u B
    | _ => none
/-- v holds u right now -/
def Top (K : PySem.W.Frag) (H : Hp) (Lv : AS) (ρ : List Addr) : U → V → Prop
  | .lst us, v => ∃ p vs, v = .ref p ∧ H p = some (.lst vs) ∧ Reps K H Lv ρ us vs
  | .tup us, v => ∃ p vs, v = .ref p ∧ ((Rd H p (.tup vs) ∧ ¬ Lv p) ∨ KT K p vs) ∧ Reps K H Lv ρ us vs
  | .dct ks us, v => ∃ p kvs, v = .ref p ∧ Rd H p (.dK kvs) ∧ kvs.map (·.1) = ks ∧ Reps K H Lv ρ us (kvs.map (·.2))
  | .box _, _ => False
  | u, v => Rep K H Lv ρ u v
theorem sqL_of {Lv : AS} {p : Addr} {vs : List V} (h : (Rd H p (.lst vs) ∧ ¬ Lv p) ∨ KL K p vs) : SqL K H p vs := by
  rcases h with h | h
  · exact .inl h.1
  · exact .inr h
theorem sqT_of {Lv : AS} {p : Addr} {vs : List V} (h : (Rd H p (.tup vs) ∧ ¬ Lv p) ∨ KT K p vs) : SqT K H p vs := by
  rcases h with h | h
  · exact .inl h.1
  · exact .inr h
theorem Rep.top {Lv : AS} (h : Rep K H Lv ρ u v) (hb : ∀ i, u ≠ .box i) : Top K H Lv ρ u v := by
  cases u with
  | lst us =>
    simp only [Rep] at h
    obtain ⟨p, vs, e, h1, h2⟩ := h
    exact ⟨p, vs, e, h1.1, h2⟩
  | tup us =>
    simp only [Rep] at h
    obtain ⟨p, vs, e, h1, h2⟩ := h
    exact ⟨p, vs, e, h1, h2⟩
  | dct ks us =>
    simp only [Rep] at h
    obtain ⟨p, kvs, e, h1, _, h2⟩ := h
    exact ⟨p, kvs, e, h1, h2⟩
  | box i => exact absurd rfl (hb i)
  | non => exact h
  | bl _ => exact h
  | int _ => exact h
  | str _ => exact h
  | scr _ => exact h
  | exc _ _ => exact h
theorem CellOk.top {Lv : AS} {c : Cell} (hc : CellOk K H Lv ρ c p) (h : c.view = some u) : Top K H Lv ρ u (.ref p) := by
  cases c with
  | dead => cases h
  | lst us => cases h; obtain ⟨vs, h1, h2⟩ := hc; exact ⟨p, vs, rfl, h1, h2⟩
  | dct ks us => cases h; obtain ⟨kvs, h1, h2, h3⟩ := hc; exact ⟨p, kvs, rfl, .inl h1, h2, h3⟩
theorem viewU_top (rl : Rel K F ρ E B σ H) {Lv : AS} (hL : Lv = LvF F ρ E B σ) {w : U} (h : Rep K H Lv ρ w v) (e : viewU w B = some u) : Top K H Lv ρ u v := by
  subst hL
  by_cases hb : ∃ i, w = .box i
  · obtain ⟨i, rfl⟩ := hb
    simp only [viewU] at e
    simp only [Rep] at h
    obtain ⟨p, hp, rfl⟩ := h
    cases hB : B[i]? with
    | none => rw [hB] at e; cases e
    | some c =>
      rw [hB] at e
      have e' : c.view = some u := e
      have hl : c.live = true := by cases c <;> first | rfl | cases e'
      exact (rl.box i c p hB hl hp).1.top e'
  · have e' : w = u := by
      cases w <;> first | (exact absurd ⟨_, rfl⟩ hb) | (simp only [viewU, Option.some.injEq] at e; exact e)
    subst e'
    exact h.top fun i z => hb ⟨i, z⟩
theorem view_top (rl : Rel K (F.addR H r v) ρ E B σ H) (rr : RepR K F H (LvF (F.addR H r v) ρ E B σ) ρ E σ r v) (h : view r E B = some u) : Top K H (LvF (F.addR H r v) ρ E B σ) ρ u v := by
  cases r with
  | w x => exact viewU_top rl rfl rr h
  | fr c => obtain ⟨p, rfl, hl, hc, hn⟩ := rr; exact hc.top h
  | s i =>
    simp only [view] at h
    split at h
    · next c hc =>
      obtain ⟨hl, p, h1, h2, _⟩ := (show Rel K F ρ E B σ H from rl).own i c hc
      have e : v = .ref p := by
        have := rr.1
        rw [h1] at this
        simpa using this.symm
      subst e
      exact h2.top h
    · next x hx =>
      obtain ⟨w, h4, h5⟩ := (show Rel K F ρ E B σ H from rl).val i _ hx
      have e : w = v := by
        have := rr.1
        rw [h4] at this
        simpa using this
      subst e
      exact viewU_top (show Rel K F ρ E B σ H from rl) rfl h5 h
    · cases h
theorem Top.mono {Lv Lv' : AS} (s : Stp H Lv H Lv') (h : Top K H Lv ρ u v) : Top K H Lv' ρ u v := by
  have px : ρ <+: ρ := List.prefix_refl _
  cases u with
  | lst us => obtain ⟨p, vs, e, h1, h2⟩ := h; exact ⟨p, vs, e, h1, h2.mono s px⟩
  | tup us => exact (show Top K H Lv' ρ (.tup us) v by have := Rep.mono s px (.tup us) v (by simp only [Rep]; exact h); simp only [Rep] at this; exact this)
  | dct ks us => obtain ⟨p, kvs, e, h1, h2, h3⟩ := h; exact ⟨p, kvs, e, h1, h2, h3.mono s px⟩
  | box i => exact h.elim
  | non => exact h
  | bl _ => exact h
  | int _ => exact h
  | str _ => exact h
  | scr _ => exact Rep.mono s px _ _ h
  | exc _ _ => exact Rep.mono s px _ _ h
/-! ### letting go of a result -/
theorem addR_lv {q : Addr} (h : LvF F ρ E B σ q) : LvF (F.addR H r v) ρ E B σ q := by
  cases r with
  | fr c =>
    cases v <;> first | exact h | exact LvF.add_iff.mpr (.inl h)
  | w _ => exact h
  | s _ => exact h
theorem Aft.letgo (a : Aft K F ρ E B σ H r ρ' E' B' H' v) : AftT K F ρ E B σ H ρ' E' B' H' := by
  have rl : Rel K F ρ' E' B' σ H' := by
    have r0 := a.rel
    cases r with
    | w _ => exact r0
    | s _ => exact r0
    | fr c =>
      have rr := a.rep
      obtain ⟨p, rfl, _, _, hn⟩ := rr
      exact Rel.drop r0 hn
  exact ⟨a.px, rl, a.stp.trans (Stp.less fun q z => addR_lv z), a.le⟩
theorem Aft.top (a : Aft K F ρ E B σ H r ρ' E' B' H' v) (h : view r E' B' = some u) : Top K H' (LvF F ρ' E' B' σ) ρ' u v :=
  (view_top a.rel a.rep h).mono (Stp.less fun q z => addR_lv z)
theorem ExQ.px {Y : Xq} {c : Exn} (h : ExQ K Y F ρ c E' B') (e : ρ <+: ρ') : ExQ K Y F ρ' c E' B' := fun ρ2 σ' H' cls d px rl x => h ρ2 σ' H' cls d (e.trans px) rl x
theorem ExQ.drop {Y : Xq} {c : Exn} {E2 : En} {B2 : Bx} {o : Option HO} (h : ExQ K Y F ρ c E2 B2) (n : New F p) : ExQ K Y (F.add p o) ρ c E2 B2 := fun ρ2 σ' H' cls d px rl x => by
  obtain ⟨dx, w, h1, h2, h3, h4, h5⟩ := x
  exact h ρ2 σ' H' cls d px (Rel.drop rl n) ⟨dx, w, h1, h2, h3, fun z => h4 (LvF.add_iff.mpr (.inl z)), Rep.mono (Stp.less fun q z => LvF.add_iff.mpr (.inl z)) (List.prefix_refl _) _ _ h5⟩
theorem Aft.exq {Y : Xq} {c : Exn} {E2 : En} {B2 : Bx} (a : Aft K F ρ E B σ H r ρ' E' B' H' v) (h : ExQ K Y F ρ c E2 B2) : ExQ K Y (F.addR H' r v) ρ' c E2 B2 := by
  have h1 := h.px a.px
  cases r with
  | w _ => exact h1
  | s _ => exact h1
  | fr _ =>
    obtain ⟨p, rfl, _, _, hn⟩ := a.rep
    exact h1.drop hn
theorem AftT.exq {Y : Xq} {c : Exn} {E2 : En} {B2 : Bx} (a : AftT K F ρ E B σ H ρ' E' B' H') (h : ExQ K Y F ρ c E2 B2) : ExQ K Y F ρ' c E2 B2 := h.px a.px
theorem AftT.refl (rl : Rel K F ρ E B σ H) : AftT K F ρ E B σ H ρ E B H := ⟨List.prefix_refl _, rl, Stp.refl, EnLe.refl⟩
theorem AftT.trans {ρ2 : List Addr} {E2 : En} {B2 : Bx} {H2 : Hp} (a : AftT K F ρ E B σ H ρ' E' B' H') (b : AftT K F ρ' E' B' σ H' ρ2 E2 B2 H2) : AftT K F ρ E B σ H ρ2 E2 B2 H2 :=
  ⟨a.px.trans b.px, b.rel, a.stp.trans b.stp, a.le.trans b.le⟩
theorem AftT.then {ρ2 : List Addr} {E2 : En} {B2 : Bx} {H2 : Hp} (a : AftT K F ρ E B σ H ρ' E' B' H') (b : Aft K F ρ' E' B' σ H' r ρ2 E2 B2 H2 v) : Aft K F ρ E B σ H r ρ2 E2 B2 H2 v :=
  ⟨a.px.trans b.px, b.rel, a.stp.trans b.stp, a.le.trans b.le, b.rep⟩
/-- a first result behind a second one -/
theorem Aft.carry {r1 : R} {v1 : V} {ρ1 ρ2 : List Addr} {E1 E2 : En} {B1 B2 : Bx} {H1 H2 : Hp} (a : Aft K F ρ E B σ H r1 ρ1 E1 B1 H1 v1) (b : AftT K (F.addR H1 r1 v1) ρ1 E1 B1 σ H1 ρ2 E2 B2 H2) :
    Aft K F ρ E B σ H r1 ρ2 E2 B2 H2 v1 := by
  have same : F.addR H2 r1 v1 = F.addR H1 r1 v1 := by
    cases r1 with
    | w _ => rfl
    | s _ => rfl
    | fr c =>
      obtain ⟨p, rfl, _, _, _⟩ := a.rep
      have := (b.rel.out p (.inr rfl)).1
      simp only [Fm.addR, Fm.add, if_pos] at this ⊢
      rw [this]
  refine ⟨a.px.trans b.px, by rw [same]; exact b.rel, by rw [same]; exact a.stp.trans b.stp, a.le.trans b.le, ?_⟩
  rw [same]
  have rr := a.rep
  cases r1 with
  | w x => exact Rep.mono b.stp b.px x v1 rr
  | s i => exact ⟨rr.1, b.le i rr.2⟩
  | fr c =>
    obtain ⟨p, rfl, hl, hc, hn⟩ := rr
    refine ⟨p, rfl, hl, hc.mono b.stp b.px ?_, hn⟩
    have := (b.rel.out p (.inr rfl)).1
    simpa [Fm.addR, Fm.add] using this
/-! ### results of plain operations -/
theorem Aft.val {x : U} (rl : Rel K F ρ E B σ H) (h : Rep K H (LvF F ρ E B σ) ρ x v) : Aft K F ρ E B σ H (.w x) ρ E B H v := ⟨List.prefix_refl _, rl, Stp.refl, EnLe.refl, h⟩
theorem Aft.fresh {us : List U} {vs : List V} (rl : Rel K F ρ E B σ H) (hp : H p = none) (h : Reps K H (LvF F ρ E B σ) ρ us vs) : Aft K F ρ E B σ H (.fr (.lst us)) ρ E B (upd H p (.lst vs)) (.ref p) := by
  have e : F.addR (upd H p (.lst vs)) (.fr (.lst us)) (.ref p) = F.add p (some (.lst vs)) := by simp only [Fm.addR, upd_same]
  have r2 := rl.alloc (ob := .lst vs) hp
  have nl : ∀ q o, H q = some o → ¬ LvF F ρ E B σ q → ¬ LvF (F.add p (some (.lst vs))) ρ E B σ q := fun q o h n z => by
    rcases LvF.add_iff.mp z with z | z
    · exact n z
    · subst z; rw [hp] at h; cases h
  have s : Stp H (LvF F ρ E B σ) (upd H p (.lst vs)) (LvF (F.add p (some (.lst vs))) ρ E B σ) := fun q o h n => ⟨.inl (by rw [upd_ne (ne_of_none h hp)]; exact h), nl q o h n⟩
  refine ⟨List.prefix_refl _, by rw [e]; exact r2, by rw [e]; exact s, EnLe.refl, ?_⟩
  rw [e]
  exact ⟨p, rfl, rfl, ⟨vs, upd_same, h.mono s (List.prefix_refl _)⟩, rl.new hp⟩
theorem Aft.freshD {ks : List Key} {us : List U} {kvs : List (Key × V)} (rl : Rel K F ρ E B σ H) (hp : H p = none) (hk : kvs.map (·.1) = ks) (h : Reps K H (LvF F ρ E B σ) ρ us (kvs.map (·.2))) : Aft K F ρ E B σ H (.fr (.dct ks us)) ρ E B (upd H p (.dK kvs)) (.ref p) := by
  have e : F.addR (upd H p (.dK kvs)) (.fr (.dct ks us)) (.ref p) = F.add p (some (.dK kvs)) := by simp only [Fm.addR, upd_same]
  have r2 := rl.alloc (ob := .dK kvs) hp
  have nl : ∀ q o, H q = some o → ¬ LvF F ρ E B σ q → ¬ LvF (F.add p (some (.dK kvs))) ρ E B σ q := fun q o h n z => by
    rcases LvF.add_iff.mp z with z | z
    · exact n z
    · subst z; rw [hp] at h; cases h
  have s : Stp H (LvF F ρ E B σ) (upd H p (.dK kvs)) (LvF (F.add p (some (.dK kvs))) ρ E B σ) := fun q o h n => ⟨.inl (by rw [upd_ne (ne_of_none h hp)]; exact h), nl q o h n⟩
  refine ⟨List.prefix_refl _, by rw [e]; exact r2, by rw [e]; exact s, EnLe.refl, ?_⟩
  rw [e]
  exact ⟨p, rfl, rfl, ⟨kvs, upd_same, hk, h.mono s (List.prefix_refl _)⟩, rl.new hp⟩
theorem Aft.tuple {us : List U} {vs : List V} (rl : Rel K F ρ E B σ H) (hp : H p = none) (h : Reps K H (LvF F ρ E B σ) ρ us vs) : Aft K F ρ E B σ H (.w (.tup us)) ρ E B (upd H p (.tup vs)) (.ref p) := by
  have g : ∀ q o, H q = some o → (upd H p (.tup vs)) q = some o := fun q o h => by rw [upd_ne (ne_of_none h hp)]; exact h
  have r2 := rl.growH g
  have s := grow_stp rl g
  refine ⟨List.prefix_refl _, r2, s, EnLe.refl, ?_⟩
  show Rep K _ _ _ (.tup us) _
  simp only [Rep]
  exact ⟨p, vs, rfl, .inl ⟨.inl upd_same, fun z => by obtain ⟨o, h⟩ := rl.lv_there p z; rw [hp] at h; cases h⟩, h.mono s (List.prefix_refl _)⟩
end
end QB
/-! QbC: expressions. -/
namespace QB
open PySem L2

def O.bind {α β : Type} (o : O α) (k : α → En → Bx → O β) : O β :=
  match o with
  | .ok a E B => k a E B
  | .ex c E B => .ex c E B
  | .bad => .bad
@[simp] theorem O.bind_ok {α β : Type} {a : α} {E : En} {B : Bx} {k : α → En → Bx → O β} : (O.ok a E B).bind k = k a E B := rfl
@[simp] theorem O.bind_bad {α β : Type} {k : α → En → Bx → O β} : (O.bad : O α).bind k = .bad := rfl
@[simp] theorem O.bind_ex {α β : Type} {c : Exn} {E : En} {B : Bx} {k : α → En → Bx → O β} : (O.ex c E B).bind k = .ex c E B := rfl

/-- .. where no exception may come (a comprehension's block) -/
def O.bindN {α β : Type} (o : O α) (k : α → En → Bx → O β) : O β :=
  match o with
  | .ok a E B => k a E B
  | _ => .bad
@[simp] theorem O.bindN_ok {α β : Type} {a : α} {E : En} {B : Bx} {k : α → En → Bx → O β} : (O.ok a E B).bindN k = k a E B := rfl
@[simp] theorem O.bindN_bad {α β : Type} {k : α → En → Bx → O β} : (O.bad : O α).bindN k = .bad := rfl
@[simp] theorem O.bindN_ex {α β : Type} {c : Exn} {E : En} {B : Bx} {k : α → En → Bx → O β} : (O.ex c E B : O α).bindN k = .bad := rfl

def mVar (i : Nat) : Ex := fun E B =>
  match E[i]? with
  | some (.val u) => .ok (.w u) E B
  | some (.own _) => .ok (.s i) E B
  | _ => .bad
def mC (u : U) : Ex := fun E B => .ok (.w u) E B
def m2 (g : U → U → Option R) (fa fb : Ex) : Ex := fun E B =>
  (fa E B).bind fun r1 E1 B1 => (fb E1 B1).bind fun r2 E2 B2 =>
    match view r1 E2 B2, view r2 E2 B2 with
    | some u1, some u2 => match g u1 u2 with
      | some r => .ok r E2 B2
      | none => .bad
    | _, _ => .bad
def m1 (g : U → Option R) (fa : Ex) : Ex := fun E B =>
  (fa E B).bind fun r1 E1 B1 =>
    match view r1 E1 B1 with
    | some u1 => match g u1 with
      | some r => .ok r E1 B1
      | none => .bad
    | none => .bad
/-- a result as a test -/
def toT (f : Ex) : Te := fun E B => (f E B).bind fun r E1 B1 =>
  match r with
  | .w (.bl b) => .ok b E1 B1
  | _ => .bad
def truU : U → Option Bool
  | .non => some false
  | .bl b => some b
  | .int i => some (i != 0)
  | .str y => if y.length ≤ 16777216 then some ((y.length : Int) != 0) else none
  | .lst us => some (!us.isEmpty)
  | .tup us => some (!us.isEmpty)
  | .dct _ _ => none
  | .box _ => none
  | .exc _ _ => none
  | .scr ns => some (!ns.isEmpty)
def mTru (f : Ex) : Te := fun E B => (f E B).bind fun r E1 B1 =>
  match view r E1 B1 with
  | some u => match truU u with
    | some b => .ok b E1 B1
    | none => .bad
  | none => .bad
def mAnd (f g : Te) : Te := fun E B => (f E B).bind fun b E1 B1 => if b = true then g E1 B1 else .ok false E1 B1
def mOr (f g : Te) : Te := fun E B => (f E B).bind fun b E1 B1 => if b = true then .ok true E1 B1 else g E1 B1
def mNot (f : Te) : Te := fun E B => (f E B).bind fun b E1 B1 => .ok (!b) E1 B1
def mAndV (f g : Ex) : Ex := fun E B => (toT f E B).bind fun b E1 B1 => if b = true then g E1 B1 else .ok (.w (.bl false)) E1 B1
def mOrV (f g : Ex) : Ex := fun E B => (toT f E B).bind fun b E1 B1 => if b = true then .ok (.w (.bl true)) E1 B1 else g E1 B1
def mNotV (f : Ex) : Ex := fun E B => (toT f E B).bind fun b E1 B1 => .ok (.w (.bl (!b))) E1 B1
def mIf (t : Te) (f g : Ex) : Ex := fun E B => (t E B).bind fun b E1 B1 => if b = true then f E1 B1 else g E1 B1
/-- a new thing becomes a box -/
def mBox (f : Ex) : Ex := fun E B => (f E B).bind fun r E1 B1 =>
  match r with
  | .fr c => .ok (.w (.box B1.length)) E1 (B1 ++ [c])
  | _ => .bad

section
variable {X : Cy} {a b c e : Expr} {es : List Expr} {fa fb : Ex} {ft fu : Te} {pos p : Pos} {x : Str}

theorem AftT.thenT {K : PySem.W.Frag} {F : Fm} {ρ ρ' ρ2 : List Addr} {E E' E2 : En} {B B' B2 : Bx} {σ : L2.St} {H H' H2 : Hp} (a : AftT K F ρ E B σ H ρ' E' B' H') (b : AftT K F ρ' E' B' σ H' ρ2 E2 B2 H2) : AftT K F ρ E B σ H ρ2 E2 B2 H2 := a.trans b

theorem sndE_var (i : Nat) (hN : X.N[i]? = some x := by rfl) (hv : Vis X.env.scope x := by first | exact Or.inl rfl | exact Or.inr (Or.inl rfl) | exact Or.inr (Or.inr rfl)) (hd : (x == ("__debug__" : Str)) = false := by decide)
    (hcd : (x == ("__classdict__" : Str)) = false := by decide) : SndE X (.Name x pos) (mVar i) := by
  refine ⟨_, pe_var hN hv hd hcd, fun F ρ E B σ H Q rl h => ?_⟩
  simp only [mVar] at h
  split at h
  · next u hu =>
    obtain ⟨v, h1, h2⟩ := rl.val i u hu
    exact ⟨v, h1, h ρ H v (Aft.val rl h2)⟩
  · next c hc =>
    obtain ⟨_, q, h1, _⟩ := rl.own i c hc
    exact ⟨_, h1, h ρ H _ ⟨List.prefix_refl _, rl, Stp.refl, EnLe.refl, h1, .inr ⟨c, hc⟩⟩⟩
  · exact h.elim
theorem sndE_int {i j} : SndE X (.Constant (.int i) j pos) (mC (.int i)) := ⟨_, pe_int, fun F ρ E B σ H Q rl h => h ρ H _ (Aft.val rl (by simp [Rep]))⟩
theorem sndE_bl {i j} : SndE X (.Constant (.bool i) j pos) (mC (.bl i)) := ⟨_, pe_bl, fun F ρ E B σ H Q rl h => h ρ H _ (Aft.val rl (by simp [Rep]))⟩
theorem sndE_str {i j} : SndE X (.Constant (.str i) j pos) (mC (.str i)) := ⟨_, pe_str, fun F ρ E B σ H Q rl h => h ρ H _ (Aft.val rl (by simp [Rep]))⟩
theorem sndE_non {j} : SndE X (.Constant .none j pos) (mC .non) := ⟨_, pe_non, fun F ρ E B σ H Q rl h => h ρ H _ (Aft.val rl (by simp [Rep]))⟩
/-- a text of the module's top -/
theorem sndE_gstr {u : Value} {z : Str} (hm : X.mg x = some u) (hu : ∃ t, u = Value.str z t) (hg : Gl X x := by rfl) (hd : (x == ("__debug__" : Str)) = false := by decide) : SndE X (.Name x pos) (mC (.str z)) :=
  ⟨_, pe_glob (v := .str z) hg hm hu hd, fun F ρ E B σ H Q rl h => h ρ H _ (Aft.val rl (by simp [Rep]))⟩
/-- a thing of the module's top that stands for a tree whatever the heap is -/
theorem sndE_gtree {p : Addr} {u : U} (hm : X.mg x = some (.ref p)) (hu : ∀ H Lv ρ, Rep X.K H Lv ρ u (.ref p)) (hg : Gl X x := by rfl) (hd : (x == ("__debug__" : Str)) = false := by decide) : SndE X (.Name x pos) (mC u) :=
  ⟨_, pe_glob (v := .ref p) hg hm rfl hd, fun F ρ E B σ H Q rl h => h ρ H _ (Aft.val rl (hu _ _ _))⟩

/-! ### operators -/
def Op2S (X : Cy) (op : Value → Value → Sem Value) (g : U → U → Option R) : Prop :=
  ∃ r : R2, OpR X op r ∧ ∀ F ρ E B σ H u1 u2 v1 v2 r3 Q, Rel X.K F ρ E B σ H → Top X.K H (LvF F ρ E B σ) ρ u1 v1 → Top X.K H (LvF F ρ E B σ) ρ u2 v2 → g u1 u2 = some r3 →
    (∀ H' v, Aft X.K F ρ E B σ H r3 ρ E B H' v → Q v H') → r v1 v2 H Q
theorem Op2S.or {op : Value → Value → Sem Value} {g g' : U → U → Option R} (h : Op2S X op g) (h' : Op2S X op g') : Op2S X op (fun a b => (g a b).or (g' a b)) := by
  obtain ⟨r, h1, h2⟩ := h
  obtain ⟨r', h1', h2'⟩ := h'
  refine ⟨_, h1.or h1', fun F ρ E B σ H u1 u2 v1 v2 r3 Q rl t1 t2 e q => ?_⟩
  cases hg : g u1 u2 with
  | some y =>
    simp only [hg, Option.some_or, Option.some.injEq] at e
    subst e
    exact .inl (h2 F ρ E B σ H u1 u2 v1 v2 _ Q rl t1 t2 hg q)
  | none =>
    simp only [hg, Option.none_or] at e
    exact .inr (h2' F ρ E B σ H u1 u2 v1 v2 _ Q rl t1 t2 e q)
theorem m2_ok {f : Value → Value → Sem Value} {g : U → U → Option R} {r : R2} {ta tb : TE}
    (ho : ∀ F ρ E B σ H u1 u2 v1 v2 r3 Q, Rel X.K F ρ E B σ H → Top X.K H (LvF F ρ E B σ) ρ u1 v1 → Top X.K H (LvF F ρ E B σ) ρ u2 v2 → g u1 u2 = some r3 → (∀ H' v, Aft X.K F ρ E B σ H r3 ρ E B H' v → Q v H') → r v1 v2 H Q)
    (ha : ∀ F ρ E B σ H Q, Rel X.K F ρ E B σ H → PostE X.K X.q F ρ E B σ H (fa E B) Q → ta σ H Q) (hb : ∀ F ρ E B σ H Q, Rel X.K F ρ E B σ H → PostE X.K X.q F ρ E B σ H (fb E B) Q → tb σ H Q) :
    ∀ F ρ E B σ H Q, Rel X.K F ρ E B σ H → PostE X.K X.q F ρ E B σ H (m2 g fa fb E B) Q → tOp r ta tb σ H Q := by
  intro F ρ E B σ H Q rl h
  refine ha F ρ E B σ H _ rl ?_
  simp only [m2] at h
  cases h1 : fa E B with
  | bad => rw [h1] at h; exact h
  | ex c E' B' => rw [h1] at h ; first | exact h | exact Aft.exq (by assumption) h | exact AftT.exq (by assumption) h | exact Aft.exq (by assumption) (Aft.exq (by assumption) h) | exact AftT.exq (by assumption) (Aft.exq (by assumption) h)
  | ok r1 E1 B1 =>
    rw [h1] at h
    intro ρ1 H1 v1 A1
    refine hb _ ρ1 E1 B1 σ H1 _ A1.rel ?_
    simp only [O.bind_ok] at h
    cases h2 : fb E1 B1 with
    | bad => rw [h2] at h; exact h
    | ex c E' B' => rw [h2] at h ; first | exact h | exact Aft.exq (by assumption) h | exact AftT.exq (by assumption) h | exact Aft.exq (by assumption) (Aft.exq (by assumption) h) | exact AftT.exq (by assumption) (Aft.exq (by assumption) h)
    | ok r2 E2 B2 =>
      rw [h2] at h
      simp only [O.bind_ok] at h
      intro ρ2 H2 v2 A2
      have A2' := A2.letgo
      have A1' := A1.carry A2'
      have T1 := A1'.letgo
      split at h
      · next u1 u2 e1 e2 =>
        split at h
        · next r3 eg =>
          have t1 := A1'.top e1
          have t2 : Top X.K H2 (LvF F ρ2 E2 B2 σ) ρ2 u2 v2 := (A2.top e2).mono (Stp.less fun q z => addR_lv z)
          exact ho F ρ2 E2 B2 σ H2 u1 u2 v1 v2 r3 Q T1.rel t1 t2 eg fun H' v A3 => h ρ2 H' v (T1.then A3)
        · exact h.elim
      · exact h.elim
theorem sndE_op {op : Operator} {g : U → U → Option R} (ho : Op2S X (binaryOp op) g) (ha : SndE X a fa) (hb : SndE X b fb) : SndE X (.BinOp a op b pos) (m2 g fa fb) := by
  obtain ⟨r, hr, ho⟩ := ho
  obtain ⟨ta, pa, ha⟩ := ha
  obtain ⟨tb, pb, hb⟩ := hb
  exact ⟨_, pe_op hr pa pb, m2_ok (f := binaryOp op) ho ha hb⟩
theorem sndE_cmp {op : CmpOp} {g : U → U → Option R} (ho : Op2S X (compareOp op) g) (ha : SndE X a fa) (hb : SndE X b fb) (hm : behindInMarks op b = false := by first | rfl | exact nomark _) : SndE X (.Compare a [op] [b] pos) (m2 g fa fb) := by
  obtain ⟨r, hr, ho⟩ := ho
  obtain ⟨ta, pa, ha⟩ := ha
  obtain ⟨tb, pb, hb⟩ := hb
  exact ⟨_, pe_cmpR hr pa pb hm, m2_ok (f := compareOp op) ho ha hb⟩
/-- a test by a value that is a truth -/
theorem toT_ok {t : TE} (h : ∀ F ρ E B σ H Q, Rel X.K F ρ E B σ H → PostE X.K X.q F ρ E B σ H (fa E B) Q → t σ H Q) :
    ∀ F ρ E B σ H Q, Rel X.K F ρ E B σ H → PostT X.K X.q F ρ E B σ H (toT fa E B) Q → tTest t σ H Q := by
  intro F ρ E B σ H Q rl q
  refine h F ρ E B σ H _ rl ?_
  simp only [toT] at q
  cases h1 : fa E B with
  | bad => rw [h1] at q; exact q
  | ex c E' B' => rw [h1] at q ; first | exact q | exact Aft.exq (by assumption) q | exact AftT.exq (by assumption) q | exact Aft.exq (by assumption) (Aft.exq (by assumption) q) | exact AftT.exq (by assumption) (Aft.exq (by assumption) q)
  | ok r1 E1 B1 =>
    rw [h1] at q
    intro ρ1 H1 v1 A1
    simp only [O.bind_ok] at q
    split at q
    · next r b =>
      have rr := A1.rep
      simp only [RepR, Rep] at rr
      exact ⟨b, rr, q ρ1 H1 A1.letgo⟩
    · exact q.elim
theorem sndT_cmp {op : CmpOp} {g : U → U → Option R} (ho : Op2S X (compareOp op) g) (ha : SndE X a fa) (hb : SndE X b fb) (hm : behindInMarks op b = false := by first | rfl | exact nomark _) : SndT X (.Compare a [op] [b] pos) (toT (m2 g fa fb)) := by
  obtain ⟨r, hr, ho⟩ := ho
  obtain ⟨ta, pa, ha⟩ := ha
  obtain ⟨tb, pb, hb⟩ := hb
  exact ⟨_, pt_cmpR hr pa pb hm, toT_ok (m2_ok (f := compareOp op) ho ha hb)⟩
/-- truth of a value -/
theorem tru_top {K : PySem.W.Frag} {H : Hp} {Lv : AS} {ρ : List Addr} {u : U} {v : V} {k : Bool} (t : Top K H Lv ρ u v) (h : truU u = some k) : TruV K v H k := by
  cases u with
  | non => simp only [Top, Rep] at t; subst t; simp only [truU, Option.some.injEq] at h; exact h.symm
  | bl b => simp only [Top, Rep] at t; subst t; simp only [truU, Option.some.injEq] at h; exact h.symm
  | int i => simp only [Top, Rep] at t; subst t; simp only [truU, Option.some.injEq] at h; exact h.symm
  | str y =>
    simp only [Top, Rep] at t; subst t; simp only [truU] at h
    split at h
    · next hl => cases h; exact ⟨by rw [sizeLine_eq]; exact hl, rfl⟩
    · cases h
  | lst us =>
    obtain ⟨p, vs, rfl, h1, h2⟩ := t
    simp only [truU, Option.some.injEq] at h
    refine .inl ⟨vs, .inl (.inl h1), ?_⟩
    rw [← h]
    have := h2.len
    cases us <;> cases vs <;> simp_all
  | tup us =>
    obtain ⟨p, vs, rfl, h1, h2⟩ := t
    simp only [truU, Option.some.injEq] at h
    refine .inr (.inl ⟨vs, sqT_of h1, ?_⟩)
    rw [← h]
    have := h2.len
    cases us <;> cases vs <;> simp_all
  | dct ks us => simp [truU] at h
  | exc x u => simp [truU] at h
  | box i => exact t.elim
  | scr ns =>
    simp only [Top, Rep] at t
    obtain ⟨p, rfl, h1⟩ := t
    simp only [truU, Option.some.injEq] at h
    refine .inl ⟨_, sqL_of h1, ?_⟩
    rw [← h]
    cases ns <;> simp
theorem sndT_tru (ha : SndE X a fa) (he : ∀ whole, isTrue a X.env whole = (do let v ← whole; standAt a.pos; holding [v] (truthy v)) := by intro _; rfl) : SndT X a (mTru fa) := by
  obtain ⟨ta, pa, ha⟩ := ha
  refine ⟨_, pt_truth pa he, fun F ρ E B σ H Q rl q => ?_⟩
  refine ha F ρ E B σ H _ rl ?_
  simp only [mTru] at q
  cases h1 : fa E B with
  | bad => rw [h1] at q; exact q
  | ex c E' B' => rw [h1] at q ; first | exact q | exact Aft.exq (by assumption) q | exact AftT.exq (by assumption) q | exact Aft.exq (by assumption) (Aft.exq (by assumption) q) | exact AftT.exq (by assumption) (Aft.exq (by assumption) q)
  | ok r1 E1 B1 =>
    rw [h1] at q
    intro ρ1 H1 v1 A1
    simp only [O.bind_ok] at q
    split at q
    · next u e =>
      split at q
      · next k ek => exact ⟨k, tru_top (A1.top e) ek, q ρ1 H1 A1.letgo⟩
      · exact q.elim
    · exact q.elim
/-! ### and, or, not -/
theorem sndT_of (h : SndW X e ft) : SndT X e ft := by
  obtain ⟨t, h1, h2⟩ := h
  exact ⟨t, h1.pt, h2⟩
theorem sndW_and1 (h : SndT X a ft) : SndW X (.BoolOp .And [a] pos) ft := by
  obtain ⟨t, h1, h2⟩ := h
  exact ⟨t, pw_and1 h1, h2⟩
theorem sndW_or1 (h : SndT X a ft) : SndW X (.BoolOp .Or [a] pos) ft := by
  obtain ⟨t, h1, h2⟩ := h
  exact ⟨t, pw_or1 h1, h2⟩
theorem sndW_and {rest : List Expr} (ha : SndT X a ft) (hb : SndW X (.BoolOp .And (b :: rest) pos) fu) : SndW X (.BoolOp .And (a :: b :: rest) pos) (mAnd ft fu) := by
  obtain ⟨t, p1, ha⟩ := ha
  obtain ⟨u, p2, hb⟩ := hb
  refine ⟨_, pw_and p1 p2, fun F ρ E B σ H Q rl q => ?_⟩
  refine ha F ρ E B σ H _ rl ?_
  simp only [mAnd] at q
  cases h1 : ft E B with
  | bad => rw [h1] at q; exact q
  | ex c E' B' => rw [h1] at q ; first | exact q | exact Aft.exq (by assumption) q | exact AftT.exq (by assumption) q | exact Aft.exq (by assumption) (Aft.exq (by assumption) q) | exact AftT.exq (by assumption) (Aft.exq (by assumption) q)
  | ok b1 E1 B1 =>
    rw [h1] at q
    intro ρ1 H1 A1
    cases b1 with
    | true =>
      simp only [O.bind_ok, if_true] at q ⊢
      refine hb F ρ1 E1 B1 σ H1 _ A1.rel ?_
      cases h2 : fu E1 B1 with
      | bad => rw [h2] at q; exact q
      | ex c E' B' => rw [h2] at q ; first | exact q | exact Aft.exq (by assumption) q | exact AftT.exq (by assumption) q | exact Aft.exq (by assumption) (Aft.exq (by assumption) q) | exact AftT.exq (by assumption) (Aft.exq (by assumption) q)
      | ok b2 E2 B2 => rw [h2] at q; exact fun ρ2 H2 A2 => q ρ2 H2 (A1.trans A2)
    | false =>
      simp only [O.bind_ok, Bool.false_eq_true, if_false] at q ⊢
      exact q ρ1 H1 A1
theorem sndW_or {rest : List Expr} (ha : SndT X a ft) (hb : SndW X (.BoolOp .Or (b :: rest) pos) fu) : SndW X (.BoolOp .Or (a :: b :: rest) pos) (mOr ft fu) := by
  obtain ⟨t, p1, ha⟩ := ha
  obtain ⟨u, p2, hb⟩ := hb
  refine ⟨_, pw_or p1 p2, fun F ρ E B σ H Q rl q => ?_⟩
  refine ha F ρ E B σ H _ rl ?_
  simp only [mOr] at q
  cases h1 : ft E B with
  | bad => rw [h1] at q; exact q
  | ex c E' B' => rw [h1] at q ; first | exact q | exact Aft.exq (by assumption) q | exact AftT.exq (by assumption) q | exact Aft.exq (by assumption) (Aft.exq (by assumption) q) | exact AftT.exq (by assumption) (Aft.exq (by assumption) q)
  | ok b1 E1 B1 =>
    rw [h1] at q
    intro ρ1 H1 A1
    cases b1 with
    | false =>
      simp only [O.bind_ok, Bool.false_eq_true, if_false] at q ⊢
      refine hb F ρ1 E1 B1 σ H1 _ A1.rel ?_
      cases h2 : fu E1 B1 with
      | bad => rw [h2] at q; exact q
      | ex c E' B' => rw [h2] at q ; first | exact q | exact Aft.exq (by assumption) q | exact AftT.exq (by assumption) q | exact Aft.exq (by assumption) (Aft.exq (by assumption) q) | exact AftT.exq (by assumption) (Aft.exq (by assumption) q)
      | ok b2 E2 B2 => rw [h2] at q; exact fun ρ2 H2 A2 => q ρ2 H2 (A1.trans A2)
    | true =>
      simp only [O.bind_ok, if_true] at q ⊢
      exact q ρ1 H1 A1
theorem sndT_not (ha : SndT X a ft) : SndT X (.UnaryOp .Not a pos) (mNot ft) := by
  obtain ⟨t, p1, ha⟩ := ha
  refine ⟨_, pt_not p1, fun F ρ E B σ H Q rl q => ?_⟩
  refine ha F ρ E B σ H _ rl ?_
  simp only [mNot] at q
  cases h1 : ft E B with
  | bad => rw [h1] at q; exact q
  | ex c E' B' => rw [h1] at q ; first | exact q | exact Aft.exq (by assumption) q | exact AftT.exq (by assumption) q | exact Aft.exq (by assumption) (Aft.exq (by assumption) q) | exact AftT.exq (by assumption) (Aft.exq (by assumption) q)
  | ok b1 E1 B1 => rw [h1] at q; exact fun ρ1 H1 A1 => q ρ1 H1 A1
/-- .. as values -/
theorem toB_ok {t : TE} (h : ∀ F ρ E B σ H Q, Rel X.K F ρ E B σ H → PostE X.K X.q F ρ E B σ H (fa E B) Q → t σ H Q) {F : Fm} {ρ : List Addr} {E : En} {B : Bx} {σ : L2.St} {H : Hp} (rl : Rel X.K F ρ E B σ H)
    {Q : VK} (q : match toT fa E B with | .ok b E1 B1 => ∀ ρ1 H1, AftT X.K F ρ E B σ H ρ1 E1 B1 H1 → Q (.bl b) H1 | .ex c E' B' => ExQ X.K X.q F ρ c E' B' | .bad => False) : t σ H Q := by
  refine h F ρ E B σ H _ rl ?_
  simp only [toT] at q
  cases h1 : fa E B with
  | bad => rw [h1] at q; exact q
  | ex c E' B' => rw [h1] at q ; first | exact q | exact Aft.exq (by assumption) q | exact AftT.exq (by assumption) q | exact Aft.exq (by assumption) (Aft.exq (by assumption) q) | exact AftT.exq (by assumption) (Aft.exq (by assumption) q)
  | ok r1 E1 B1 =>
    rw [h1] at q
    intro ρ1 H1 v1 A1
    simp only [O.bind_ok] at q
    cases r1 with
    | w u =>
      cases u with
      | bl b =>
        have rr := A1.rep
        simp only [RepR, Rep] at rr
        rw [rr]
        exact q ρ1 H1 A1.letgo
      | _ => exact q.elim
    | _ => exact q.elim
theorem sndE_one {op} (h : SndE X a fa) : SndE X (.BoolOp op [a] pos) fa := by
  obtain ⟨t, h1, h2⟩ := h
  exact ⟨t, pe_one h1, h2⟩
theorem postE_then {K : PySem.W.Frag} {F : Fm} {ρ ρ1 : List Addr} {E E1 : En} {B B1 : Bx} {σ : L2.St} {H H1 : Hp} {Q : VK} {o : O R} (A : AftT K F ρ E B σ H ρ1 E1 B1 H1) (q : PostE K Y F ρ E B σ H o Q) : PostE K Y F ρ1 E1 B1 σ H1 o Q := by
  cases o with
  | bad => exact q
  | ex _ _ _ => exact ExQ.px q A.px
  | ok r E2 B2 => exact fun ρ2 H2 v A2 => q ρ2 H2 v (A.then A2)
theorem sndE_and {rest : List Expr} (ha : SndE X a fa) (hb : SndE X (.BoolOp .And (b :: rest) pos) fb) : SndE X (.BoolOp .And (a :: b :: rest) pos) (mAndV fa fb) := by
  obtain ⟨t, p1, ha⟩ := ha
  obtain ⟨u, p2, hb⟩ := hb
  refine ⟨_, pe_and p1 p2, fun F ρ E B σ H Q rl q => ?_⟩
  refine toB_ok ha rl ?_
  simp only [mAndV] at q
  cases h1 : toT fa E B with
  | bad => rw [h1] at q; exact q
  | ex c E' B' => rw [h1] at q ; first | exact q | exact Aft.exq (by assumption) q | exact AftT.exq (by assumption) q | exact Aft.exq (by assumption) (Aft.exq (by assumption) q) | exact AftT.exq (by assumption) (Aft.exq (by assumption) q)
  | ok b1 E1 B1 =>
    rw [h1] at q
    intro ρ1 H1 A1
    refine ⟨b1, rfl, ?_⟩
    cases b1 with
    | true =>
      simp only [O.bind_ok, if_true] at q ⊢
      exact hb F ρ1 E1 B1 σ H1 Q A1.rel (postE_then A1 q)
    | false =>
      simp only [O.bind_ok, Bool.false_eq_true, if_false] at q ⊢
      exact q ρ1 H1 _ (A1.then (Aft.val A1.rel (by simp [Rep])))
theorem sndE_or {rest : List Expr} (ha : SndE X a fa) (hb : SndE X (.BoolOp .Or (b :: rest) pos) fb) : SndE X (.BoolOp .Or (a :: b :: rest) pos) (mOrV fa fb) := by
  obtain ⟨t, p1, ha⟩ := ha
  obtain ⟨u, p2, hb⟩ := hb
  refine ⟨_, pe_or p1 p2, fun F ρ E B σ H Q rl q => ?_⟩
  refine toB_ok ha rl ?_
  simp only [mOrV] at q
  cases h1 : toT fa E B with
  | bad => rw [h1] at q; exact q
  | ex c E' B' => rw [h1] at q ; first | exact q | exact Aft.exq (by assumption) q | exact AftT.exq (by assumption) q | exact Aft.exq (by assumption) (Aft.exq (by assumption) q) | exact AftT.exq (by assumption) (Aft.exq (by assumption) q)
  | ok b1 E1 B1 =>
    rw [h1] at q
    intro ρ1 H1 A1
    refine ⟨b1, rfl, ?_⟩
    cases b1 with
    | false =>
      simp only [O.bind_ok, Bool.false_eq_true, if_false] at q ⊢
      exact hb F ρ1 E1 B1 σ H1 Q A1.rel (postE_then A1 q)
    | true =>
      simp only [O.bind_ok, if_true] at q ⊢
      exact q ρ1 H1 _ (A1.then (Aft.val A1.rel (by simp [Rep])))
theorem sndE_not (ha : SndE X a fa) : SndE X (.UnaryOp .Not a pos) (mNotV fa) := by
  obtain ⟨t, p1, ha⟩ := ha
  refine ⟨_, pe_not p1, fun F ρ E B σ H Q rl q => ?_⟩
  refine toB_ok ha rl ?_
  simp only [mNotV] at q
  cases h1 : toT fa E B with
  | bad => rw [h1] at q; exact q
  | ex c E' B' => rw [h1] at q ; first | exact q | exact Aft.exq (by assumption) q | exact AftT.exq (by assumption) q | exact Aft.exq (by assumption) (Aft.exq (by assumption) q) | exact AftT.exq (by assumption) (Aft.exq (by assumption) q)
  | ok b1 E1 B1 =>
    rw [h1] at q
    intro ρ1 H1 A1
    exact ⟨b1, rfl, q ρ1 H1 _ (A1.then (Aft.val A1.rel (by simp [Rep])))⟩
theorem sndE_if (ht : SndT X c ft) (ha : SndE X a fa) (hb : SndE X b fb) : SndE X (.IfExp c a b pos) (mIf ft fa fb) := by
  obtain ⟨t, p1, ht⟩ := ht
  obtain ⟨u, p2, ha⟩ := ha
  obtain ⟨u', p3, hb⟩ := hb
  refine ⟨_, pe_ifExp p1 p2 p3, fun F ρ E B σ H Q rl q => ?_⟩
  refine ht F ρ E B σ H _ rl ?_
  simp only [mIf] at q
  cases h1 : ft E B with
  | bad => rw [h1] at q; exact q
  | ex c E' B' => rw [h1] at q ; first | exact q | exact Aft.exq (by assumption) q | exact AftT.exq (by assumption) q | exact Aft.exq (by assumption) (Aft.exq (by assumption) q) | exact AftT.exq (by assumption) (Aft.exq (by assumption) q)
  | ok b1 E1 B1 =>
    rw [h1] at q
    intro ρ1 H1 A1
    cases b1 with
    | true =>
      simp only [O.bind_ok, if_true] at q ⊢
      exact ha F ρ1 E1 B1 σ H1 Q A1.rel (postE_then A1 q)
    | false =>
      simp only [O.bind_ok, Bool.false_eq_true, if_false] at q ⊢
      exact hb F ρ1 E1 B1 σ H1 Q A1.rel (postE_then A1 q)
/-! ### boxes -/
theorem Rel.push {K : PySem.W.Frag} {F : Fm} {ρ : List Addr} {E : En} {B : Bx} {σ : L2.St} {H : Hp} {p : Addr} {o : Option HO} {c : Cell} (r : Rel K (F.add p o) ρ E B σ H) (n : New F p) (hl : c.live = true) (hc : CellOk K H (LvF (F.add p o) ρ E B σ) ρ c p) :
    Rel K F (ρ ++ [p]) E (B ++ [c]) σ H ∧ (∀ q, LvF F (ρ ++ [p]) E (B ++ [c]) σ q ↔ LvF (F.add p o) ρ E B σ q) := by
  have bl := r.blen
  have blv : ∀ q, BLv (ρ ++ [p]) (B ++ [c]) q ↔ BLv ρ B q ∨ q = p := fun q => by
    constructor
    · rintro ⟨i, d, h1, h2, h3⟩
      by_cases hi : i < B.length
      · rw [List.getElem?_append_left hi] at h1
        rw [List.getElem?_append_left (by omega)] at h3
        exact .inl ⟨i, d, h1, h2, h3⟩
      · have hi2 : i = B.length := by
          have := (List.getElem?_eq_some_iff.mp h1).1
          simp at this; omega
        subst hi2
        rw [List.getElem?_append_right (by omega)] at h3
        simp [bl] at h3
        exact .inr h3.symm
    · rintro (⟨i, d, h1, h2, h3⟩ | rfl)
      · exact ⟨i, d, by rw [List.getElem?_append_left (List.getElem?_eq_some_iff.mp h1).1]; exact h1, h2, by rw [List.getElem?_append_left (List.getElem?_eq_some_iff.mp h3).1]; exact h3⟩
      · exact ⟨B.length, c, by simp, hl, by rw [← bl]; simp⟩
  have lv : ∀ q, LvF F (ρ ++ [p]) E (B ++ [c]) σ q ↔ LvF (F.add p o) ρ E B σ q := fun q => by
    rw [LvF.add_iff]
    unfold LvF
    rw [blv]
    constructor
    · rintro (h | (h | h) | h)
      · exact .inl (.inl h)
      · exact .inl (.inr (.inl h))
      · exact .inr h
      · exact .inl (.inr (.inr h))
    · rintro ((h | h | h) | h)
      · exact .inl h
      · exact .inr (.inl (.inl h))
      · exact .inr (.inr h)
      · exact .inr (.inl (.inr h))
  have s : Stp H (LvF (F.add p o) ρ E B σ) H (LvF F (ρ ++ [p]) E (B ++ [c]) σ) := Stp.less fun q z => (lv q).mp z
  have px : ρ <+: ρ ++ [p] := List.prefix_append _ _
  have nbp := Rel.notLv r n
  refine ⟨⟨r.elen, by simp [bl], fun i u h => ?_, fun i d h => ?_, r.oinj, fun i d q h1 h2 h3 => ?_, fun i j d d' q h1 h2 h3 h4 h5 h6 => ?_, fun q h => ?_, fun q u h z => ?_, fun q u h => ?_⟩, lv⟩
  · obtain ⟨v, h1, h2⟩ := r.val i u h
    exact ⟨v, h1, h2.mono s px⟩
  · obtain ⟨h1, q, h2, h3, h4, h5⟩ := r.own i d h
    exact ⟨h1, q, h2, h3.mono s px rfl, fun z => h4 (.inl z), fun z => ((blv q).mp z).elim h5 fun e => h4 (.inr e)⟩
  · by_cases hi : i < B.length
    · rw [List.getElem?_append_left hi] at h1
      rw [List.getElem?_append_left (by omega)] at h3
      obtain ⟨h4, h5⟩ := r.box i d q h1 h2 h3
      exact ⟨h4.mono s px rfl, fun z => h5 (.inl z)⟩
    · have hi2 : i = B.length := by
        have := (List.getElem?_eq_some_iff.mp h1).1
        simp at this; omega
      subst hi2
      rw [List.getElem?_append_right (by omega)] at h3
      simp [bl] at h3
      rw [List.getElem?_append_right (by omega)] at h1
      simp at h1
      subst h3 h1
      exact ⟨hc.mono s px rfl, n.out⟩
  · have key : ∀ (i : Nat) (d : Cell), (B ++ [c])[i]? = some d → (ρ ++ [p])[i]? = some q → d.live = true → (i < B.length ∧ B[i]? = some d ∧ ρ[i]? = some q ∧ q ≠ p) ∨ (i = B.length ∧ q = p) := fun i d h1 h3 h2 => by
      by_cases hi : i < B.length
      · rw [List.getElem?_append_left hi] at h1
        rw [List.getElem?_append_left (by omega)] at h3
        exact .inl ⟨hi, h1, h3, fun e => (r.box i d q h1 h2 h3).2 (.inr e)⟩
      · have hi2 : i = B.length := by
          have := (List.getElem?_eq_some_iff.mp h1).1
          simp at this; omega
        subst hi2
        rw [List.getElem?_append_right (by omega)] at h3
        simp [bl] at h3
        exact .inr ⟨rfl, h3.symm⟩
    rcases key i d h1 h5 h2 with ⟨_, a1, a2, a3⟩ | ⟨a1, a2⟩ <;> rcases key j d' h3 h6 h4 with ⟨_, b1, b2, b3⟩ | ⟨b1, b2⟩
    · exact r.binj i j d d' q a1 h2 b1 h4 a2 b2
    · exact absurd b2 a3
    · exact absurd a2 b3
    · omega
  · have ne : q ≠ p := fun z => n.out (z ▸ h)
    have e := r.out q (.inl h)
    simpa [Fm.add, ne] using e
  · have ne : q ≠ p := fun y => by rw [y, n.h0] at h; cases h
    have := r.old q u (by simp [Fm.add, ne, h]) (fun y => y.elim z ne)
    exact ⟨this.1, fun y => this.2 ((lv q).mp y)⟩
  · have ne : q ≠ p := fun y => by rw [y, n.h0] at h; cases h
    exact r.grow q u (by simp [Fm.add, ne, h])
theorem sndE_box (ha : SndE X a fa) : SndE X a (mBox fa) := by
  obtain ⟨t, p1, ha⟩ := ha
  refine ⟨t, p1, fun F ρ E B σ H Q rl q => ?_⟩
  refine ha F ρ E B σ H _ rl ?_
  simp only [mBox] at q
  cases h1 : fa E B with
  | bad => rw [h1] at q; exact q
  | ex c E' B' => rw [h1] at q ; first | exact q | exact Aft.exq (by assumption) q | exact AftT.exq (by assumption) q | exact Aft.exq (by assumption) (Aft.exq (by assumption) q) | exact AftT.exq (by assumption) (Aft.exq (by assumption) q)
  | ok r1 E1 B1 =>
    rw [h1] at q
    intro ρ1 H1 v1 A1
    simp only [O.bind_ok] at q
    cases r1 with
    | w u => exact q.elim
    | s i => exact q.elim
    | fr c =>
      have rr := A1.rep
      obtain ⟨p, rfl, hl, hc, hn⟩ := rr
      have r0 := A1.rel
      obtain ⟨r2, lv⟩ := Rel.push (o := H1 p) r0 hn hl hc
      have bl := r0.blen
      refine q (ρ1 ++ [p]) H1 (.ref p) ⟨A1.px.trans (List.prefix_append _ _), r2, A1.stp.trans (Stp.less fun y z => (lv y).mp z), A1.le, ?_⟩
      simp only [RepR, Rep]
      exact ⟨p, by rw [← bl]; simp, rfl⟩
end
end QB
/-! QbD: the operators by values, == , in, is. -/
namespace QB
open PySem L2
section
variable {K : PySem.W.Frag} {H : Hp} {Lv : AS} {ρ : List Addr} {v : V}
theorem top_int {i : Int} (t : Top K H Lv ρ (.int i) v) : v = .int i := by simpa [Top, Rep] using t
theorem top_bl {i : Bool} (t : Top K H Lv ρ (.bl i) v) : v = .bl i := by simpa [Top, Rep] using t
theorem top_str {i : Str} (t : Top K H Lv ρ (.str i) v) : v = .str i := by simpa [Top, Rep] using t
theorem top_non (t : Top K H Lv ρ .non v) : v = .non := by simpa [Top, Rep] using t
end
section
variable {X : Cy}
def gII (C : Int → Int → Bool) (g : Int → Int → Int) : U → U → Option R
  | .int i, .int j => if C i j = true then some (.w (.int (g i j))) else none
  | _, _ => none
def gIB (g : Int → Int → Bool) : U → U → Option R
  | .int i, .int j => some (.w (.bl (g i j)))
  | _, _ => none
def gSB (g : Str → Str → Bool) : U → U → Option R
  | .str i, .str j => some (.w (.bl (g i j)))
  | _, _ => none
theorem op2_II {op : Value → Value → Sem Value} {P : Int → Int → Prop} {C : Int → Int → Bool} {g : Int → Int → Int} (h : OpR X op (rI P fun i j => .int (g i j))) (hc : ∀ i j, C i j = true → P i j) : Op2S X op (gII C g) := by
  refine ⟨_, h, fun F ρ E B σ H u1 u2 v1 v2 r3 Q rl t1 t2 e q => ?_⟩
  unfold gII at e
  split at e
  · next i j =>
    split at e
    · next c =>
      cases e
      exact ⟨i, j, top_int t1, top_int t2, hc i j c, q H _ (Aft.val rl (by simp [Rep]))⟩
    · cases e
  · cases e
theorem op2_II0 {op : Value → Value → Sem Value} {g : Int → Int → Int} (h : OpR X op (rI0 fun i j => .int (g i j))) : Op2S X op (gII (fun _ _ => true) g) := by
  refine ⟨_, h, fun F ρ E B σ H u1 u2 v1 v2 r3 Q rl t1 t2 e q => ?_⟩
  unfold gII at e
  split at e
  · next i j =>
    cases e
    exact ⟨i, j, top_int t1, top_int t2, q H _ (Aft.val rl (by simp [Rep]))⟩
  · cases e
theorem op2_IB {op : Value → Value → Sem Value} {g : Int → Int → Bool} (h : OpR X op (rI0 fun i j => .bl (g i j))) : Op2S X op (gIB g) := by
  refine ⟨_, h, fun F ρ E B σ H u1 u2 v1 v2 r3 Q rl t1 t2 e q => ?_⟩
  unfold gIB at e
  split at e
  · next i j =>
    cases e
    exact ⟨i, j, top_int t1, top_int t2, q H _ (Aft.val rl (by simp [Rep]))⟩
  · cases e
theorem op2_SB {op : Value → Value → Sem Value} {g : Str → Str → Bool} (h : OpR X op (fun x y H Q => ∃ i j, x = .str i ∧ y = .str j ∧ Q (.bl (g i j)) H)) : Op2S X op (gSB g) := by
  refine ⟨_, h, fun F ρ E B σ H u1 u2 v1 v2 r3 Q rl t1 t2 e q => ?_⟩
  unfold gSB at e
  split at e
  · next i j =>
    cases e
    exact ⟨i, j, top_str t1, top_str t2, q H _ (Aft.val rl (by simp [Rep]))⟩
  · cases e
def gCatS : U → U → Option R
  | .str i, .str j => if i.length + j.length ≤ 16777216 then some (.w (.str (i ++ j))) else none
  | _, _ => none
def gCatL : U → U → Option R
  | .lst i, .lst j => if i.length + j.length ≤ 16777216 then some (.fr (.lst (i ++ j))) else none
  | _, _ => none
def gCatT : U → U → Option R
  | .tup i, .tup j => if i.length + j.length ≤ 16777216 then some (.w (.tup (i ++ j))) else none
  | _, _ => none
/-- small enough: read off the number's own form, so that no check counts up to the bound -/
def within (n : Nat) : Int → Bool
  | .ofNat k => Nat.ble k n
  | .negSucc k => Nat.ble k n
theorem within_iff {n : Nat} {i : Int} : within n i = true ↔ -(n : Int) - 1 ≤ i ∧ i ≤ n := by
  cases i with
  | ofNat k =>
    show Nat.ble k n = true ↔ _
    rw [Nat.ble_eq]
    show k ≤ n ↔ -(n : Int) - 1 ≤ (k : Int) ∧ (k : Int) ≤ n
    omega
  | negSucc k =>
    show Nat.ble k n = true ↔ _
    rw [Nat.ble_eq]
    omega
def I62 : Int → Bool := within 4611686018427387903
theorem i62_iff {j : Int} : I62 j = true ↔ (-(2 ^ 62) ≤ j ∧ j < 2 ^ 62) := by
  unfold I62
  rw [within_iff]
  omega
theorem i62 {j : Int} (h : -1000000000 ≤ j) (h2 : j ≤ 1000000000) : I62 j = true := i62_iff.mpr (by omega)
def gRep : U → U → Option R
  | .lst i, .int k => if I62 k = true ∧ i.length * k.toNat ≤ 16777216 then some (.fr (.lst (List.replicate k.toNat i).flatten)) else none
  | _, _ => none
theorem op2_catS : Op2S X (binaryOp .Add) gCatS := by
  refine ⟨_, op_add_str, fun F ρ E B σ H u1 u2 v1 v2 r3 Q rl t1 t2 e q => ?_⟩
  unfold gCatS at e
  split at e
  · next i j =>
    split at e
    · next c =>
      cases e
      exact ⟨i, j, top_str t1, top_str t2, by rw [sizeLine_eq]; exact c, q H _ (Aft.val rl (by simp [Rep]))⟩
    · cases e
  · cases e
theorem op2_icatS : Op2S X (inplaceOp .Add) gCatS := by
  refine ⟨_, iop_add_str, fun F ρ E B σ H u1 u2 v1 v2 r3 Q rl t1 t2 e q => ?_⟩
  unfold gCatS at e
  split at e
  · next i j =>
    split at e
    · next c =>
      cases e
      exact ⟨i, j, top_str t1, top_str t2, by rw [sizeLine_eq]; exact c, q H _ (Aft.val rl (by simp [Rep]))⟩
    · cases e
  · cases e
theorem op2_catL : Op2S X (binaryOp .Add) gCatL := by
  refine ⟨_, op_cat, fun F ρ E B σ H u1 u2 v1 v2 r3 Q rl t1 t2 e q => ?_⟩
  unfold gCatL at e
  split at e
  · next i j =>
    split at e
    · next c =>
      cases e
      obtain ⟨p1, xs, rfl, h1, r1⟩ := t1
      obtain ⟨p2, ys, rfl, h2, r2⟩ := t2
      refine ⟨p1, p2, xs, ys, rfl, rfl, h1, h2, by rw [sizeLine_eq, ← r1.len, ← r2.len]; exact c, fun p hp => q _ _ (Aft.fresh rl hp (r1.append r2))⟩
    · cases e
  · cases e
theorem op2_catT : Op2S X (binaryOp .Add) gCatT := by
  refine ⟨_, op_catA, fun F ρ E B σ H u1 u2 v1 v2 r3 Q rl t1 t2 e q => ?_⟩
  unfold gCatT at e
  split at e
  · next i j =>
    split at e
    · next c =>
      cases e
      obtain ⟨p1, xs, rfl, h1, r1⟩ := t1
      obtain ⟨p2, ys, rfl, h2, r2⟩ := t2
      have s1 : SqT X.K H p1 xs := sqT_of h1
      have s2 : SqT X.K H p2 ys := sqT_of h2
      refine ⟨p1, p2, xs, ys, rfl, rfl, s1, s2, by rw [sizeLine_eq, ← r1.len, ← r2.len]; exact c, fun e => ?_, fun e1 e2 => ?_, fun e1 e2 p hp => q _ _ (Aft.tuple rl hp (r1.append r2))⟩
      · have : i = [] := by have := r1.len; rw [e] at this; simpa using this
        subst this
        exact q _ _ (Aft.val rl (by simp only [List.nil_append, Rep]; exact ⟨p2, ys, rfl, h2, r2⟩))
      · have : j = [] := by have := r2.len; rw [e2] at this; simpa using this
        subst this
        exact q _ _ (Aft.val rl (by simp only [List.append_nil, Rep]; exact ⟨p1, xs, rfl, h1, r1⟩))
    · cases e
  · cases e
theorem op2_rep : Op2S X (binaryOp .Mult) gRep := by
  refine ⟨_, op_rep, fun F ρ E B σ H u1 u2 v1 v2 r3 Q rl t1 t2 e q => ?_⟩
  unfold gRep at e
  split at e
  · next i k =>
    split at e
    · next c =>
      cases e
      obtain ⟨p1, xs, rfl, h1, r1⟩ := t1
      have hr : ∀ n : Nat, Reps X.K H (LvF F ρ E B σ) ρ (List.replicate n i).flatten (List.replicate n xs).flatten := by
        intro n
        induction n with
        | zero => simp [Reps]
        | succ n ih => rw [List.replicate_succ, List.replicate_succ, List.flatten_cons, List.flatten_cons]; exact r1.append ih
      have cc := i62_iff.mp c.1
      refine ⟨p1, k, xs, rfl, top_int t2, h1, by omega, by omega, by rw [sizeLine_eq, ← r1.len]; exact c.2, fun p hp => q _ _ (Aft.fresh rl hp (hr _))⟩
    · cases e
  · cases e
/-! ### ints -/
def cMul (i j : Int) : Bool := within 9223372036854775807 i || (within 9223372036854775807 j || decide (i.natAbs.log2 + j.natAbs.log2 < 1000000))
theorem cMul_iff {i j : Int} : cMul i j = true ↔ (-9223372036854775808 ≤ i ∧ i ≤ 9223372036854775807) ∨ (-9223372036854775808 ≤ j ∧ j ≤ 9223372036854775807) ∨ i.natAbs.log2 + j.natAbs.log2 < 1000000 := by
  unfold cMul
  rw [Bool.or_eq_true, Bool.or_eq_true, within_iff, within_iff, decide_eq_true_iff]
  exact Iff.rfl
def cDiv (_ j : Int) : Bool := within 1500000000000000000000000000000000000000000000000000000000000 j && decide (0 < j)
theorem cDiv_iff {i j : Int} : cDiv i j = true ↔ (-1500000000000000000000000000000000000000000000000000000000000 - 1 ≤ j ∧ j ≤ 1500000000000000000000000000000000000000000000000000000000000) ∧ 0 < j := by
  unfold cDiv
  rw [Bool.and_eq_true, within_iff, decide_eq_true_iff]
  exact Iff.rfl
def cMod (_ j : Int) : Bool := decide (0 < j)
def cPow (i j : Int) : Bool := within 1000000 j && (decide (0 ≤ j) && within 9223372036854775807 i)
theorem cPow_iff {i j : Int} : cPow i j = true ↔ (-1000001 ≤ j ∧ j ≤ 1000000) ∧ 0 ≤ j ∧ (-9223372036854775808 ≤ i ∧ i ≤ 9223372036854775807) := by
  unfold cPow
  rw [Bool.and_eq_true, Bool.and_eq_true, within_iff, decide_eq_true_iff, within_iff]
  exact Iff.rfl
theorem op_mulA : OpR X (binaryOp .Mult) (rI (fun i j => CMul i j ∨ CMulW i j) fun i j => .int (i * j)) := by
  intro pins s σ H x y v u Q I rx ry h
  obtain ⟨i, j, h1, h2, h3 | h3, q⟩ := h
  · exact op_mul pins s σ H x y v u Q I rx ry ⟨i, j, h1, h2, h3, q⟩
  · exact op_mulW pins s σ H x y v u Q I rx ry ⟨i, j, h1, h2, h3, q⟩
theorem op2_add : Op2S X (binaryOp .Add) (gII (fun _ _ => true) (· + ·)) := op2_II0 op_add
theorem op2_sub : Op2S X (binaryOp .Sub) (gII (fun _ _ => true) (· - ·)) := op2_II0 op_sub
theorem op2_iadd : Op2S X (inplaceOp .Add) (gII (fun _ _ => true) (· + ·)) := op2_II0 iop_add
theorem op2_isub : Op2S X (inplaceOp .Sub) (gII (fun _ _ => true) (· - ·)) := op2_II0 iop_sub
theorem op2_mul : Op2S X (binaryOp .Mult) (gII cMul (· * ·)) := op2_II op_mulA fun i j h => by
  rcases cMul_iff.mp h with h | h | h
  · exact .inl (.inl (by omega))
  · exact .inl (.inr (by omega))
  · exact .inr h
theorem op2_fdiv : Op2S X (binaryOp .FloorDiv) (gII cDiv (· / ·)) := op2_II op_fdivW fun i j h => by
  obtain ⟨⟨_, h2⟩, h1⟩ := cDiv_iff.mp h
  refine ⟨h1, ?_⟩
  have h3 : j.natAbs < 2 ^ 200 := by
    have h4 : (j.natAbs : Int) < 2 ^ 200 := by omega
    exact_mod_cast h4
  have h5 : j.natAbs.log2 < 200 := (Nat.log2_lt (by omega)).mpr h3
  omega
theorem op2_mod : Op2S X (binaryOp .Mod) (gII cMod (· % ·)) := op2_II op_mod fun i j h => of_decide_eq_true h
theorem op2_pow : Op2S X (binaryOp .Pow) (gII cPow fun i j => i ^ j.toNat) := op2_II op_pow fun i j h => (show 0 ≤ j ∧ j ≤ 1000000 ∧ i.natAbs < 2 ^ 64 from by have := cPow_iff.mp h; omega)
theorem op2_ltI : Op2S X (compareOp .Lt) (gIB fun i j => decide (i < j)) := op2_IB op_lt
theorem op2_leI : Op2S X (compareOp .LtE) (gIB fun i j => decide (i ≤ j)) := op2_IB op_le
theorem op2_gtI : Op2S X (compareOp .Gt) (gIB fun i j => decide (j < i)) := op2_IB op_gt
theorem op2_geI : Op2S X (compareOp .GtE) (gIB fun i j => decide (j ≤ i)) := op2_IB op_ge
theorem op2_ltS : Op2S X (compareOp .Lt) (gSB fun i j => decide (i.cps.toList < j.cps.toList)) := op2_SB op_lt_str
theorem op2_leS : Op2S X (compareOp .LtE) (gSB fun i j => !decide (j.cps.toList < i.cps.toList)) := op2_SB op_le_str
theorem op2_gtS : Op2S X (compareOp .Gt) (gSB fun i j => decide (j.cps.toList < i.cps.toList)) := op2_SB op_gt_str
theorem op2_geS : Op2S X (compareOp .GtE) (gSB fun i j => !decide (i.cps.toList < j.cps.toList)) := op2_SB op_ge_str
/-! ### == -/
mutual
def toD : U → Option PyData
  | .non => some .none
  | .bl b => some (.bool b)
  | .int i => some (.int i)
  | .str x => some (.str x)
  | .lst us => (toDs us).map .list
  | .tup us => (toDs us).map .tuple
  | .dct _ _ => none
  | .box _ => none
  | .exc _ _ => none
  | .scr ns => some (.list (ns.map .int))
def toDs : List U → Option (List PyData)
  | [] => some []
  | u :: us => match toD u, toDs us with
    | some d, some ds => some (d :: ds)
    | _, _ => none
end
section
variable {K : PySem.W.Frag} {H : Hp} {Lv : AS} {ρ : List Addr}
theorem dp_ints (ns : List Int) : DpAll K H (ns.map V.int) (ns.map .int) := by
  induction ns with
  | nil => exact .nil
  | cons n r ih => exact .cons (.int n) ih
mutual
theorem Rep.dp : ∀ (u : U) (v : V) (d : PyData), Rep K H Lv ρ u v → toD u = some d → Dp K H v d
  | .non, v, d, h, e => by simp only [Rep] at h; subst h; simp only [toD, Option.some.injEq] at e; subst e; exact .non
  | .bl b, v, d, h, e => by simp only [Rep] at h; subst h; simp only [toD, Option.some.injEq] at e; subst e; exact .bl b
  | .int i, v, d, h, e => by simp only [Rep] at h; subst h; simp only [toD, Option.some.injEq] at e; subst e; exact .int i
  | .str x, v, d, h, e => by simp only [Rep] at h; subst h; simp only [toD, Option.some.injEq] at e; subst e; exact .str x
  | .lst us, v, d, h, e => by
    simp only [Rep] at h
    obtain ⟨p, vs, rfl, ⟨h1, _⟩, h2⟩ := h
    simp only [toD, Option.map_eq_some_iff] at e
    obtain ⟨ds, e1, rfl⟩ := e
    exact .lst (.inl (.inl h1)) (Reps.dp us vs ds h2 e1)
  | .tup us, v, d, h, e => by
    simp only [Rep] at h
    obtain ⟨p, vs, rfl, h1, h2⟩ := h
    simp only [toD, Option.map_eq_some_iff] at e
    obtain ⟨ds, e1, rfl⟩ := e
    refine .tup ?_ (Reps.dp us vs ds h2 e1)
    rcases h1 with h1 | h1
    · exact .inl h1.1
    · exact .inr h1
  | .dct _ _, _, _, _, e => by simp [toD] at e
  | .box _, _, _, _, e => by simp [toD] at e
  | .exc _ _, _, _, _, e => by simp [toD] at e
  | .scr ns, v, d, h, e => by
    simp only [Rep] at h
    obtain ⟨p, rfl, h1⟩ := h
    simp only [toD, Option.some.injEq] at e
    subst e
    exact .lst (sqL_of h1) (dp_ints ns)
theorem Reps.dp : ∀ (us : List U) (vs : List V) (ds : List PyData), Reps K H Lv ρ us vs → toDs us = some ds → DpAll K H vs ds
  | [], vs, ds, h, e => by simp only [Reps] at h; subst h; simp only [toDs, Option.some.injEq] at e; subst e; exact .nil
  | u :: us, vs, ds, h, e => by
    simp only [Reps] at h
    obtain ⟨v, r, rfl, h1, h2⟩ := h
    simp only [toDs] at e
    split at e
    · next d ds' e1 e2 => cases e; exact .cons (Rep.dp u v d h1 e1) (Reps.dp us r ds' h2 e2)
    · cases e
end
theorem Top.dp {u : U} {v : V} {d : PyData} (t : Top K H Lv ρ u v) (e : toD u = some d) : Dp K H v d := by
  cases u with
  | lst us =>
    obtain ⟨p, vs, rfl, h1, h2⟩ := t
    simp only [toD, Option.map_eq_some_iff] at e
    obtain ⟨ds, e1, rfl⟩ := e
    exact .lst (.inl (.inl h1)) (Reps.dp us vs ds h2 e1)
  | tup us =>
    obtain ⟨p, vs, rfl, h1, h2⟩ := t
    simp only [toD, Option.map_eq_some_iff] at e
    obtain ⟨ds, e1, rfl⟩ := e
    exact .tup (sqT_of h1) (Reps.dp us vs ds h2 e1)
  | dct _ _ => simp [toD] at e
  | exc _ _ => simp [toD] at e
  | box i => exact t.elim
  | non => exact Rep.dp _ _ _ t e
  | bl _ => exact Rep.dp _ _ _ t e
  | int _ => exact Rep.dp _ _ _ t e
  | str _ => exact Rep.dp _ _ _ t e
  | scr _ => exact Rep.dp _ _ _ t e
end
/-- texts alone need no look at their signs -/
def eqU (a b : U) : Option Bool :=
  match a, b with
  | .str x, .str y => some (x == y)
  | .int x, .int y => some (x == y)
  | .str _, .int _ => some false
  | .int _, .str _ => some false
  | .non, .str _ => some false
  | .str _, .non => some false
  | a, b => match toD a, toD b with
    | some d, some e => if (SeqAt.shaped d && SeqAt.shaped e) = true then some (PyData.eqv d e) else none
    | _, _ => none
def gEq (a b : U) : Option R := (eqU a b).map fun k => .w (.bl k)
def gNe (a b : U) : Option R := (eqU a b).map fun k => .w (.bl (!k))
theorem op2_eq (hu : X.A.units + 64 < cLine) : Op2S X (compareOp .Eq) gEq := by
  refine ⟨_, op_eq.or (op_eqD hu), fun F ρ E B σ H u1 u2 v1 v2 r3 Q rl t1 t2 e q => ?_⟩
  simp only [gEq, Option.map_eq_some_iff] at e
  obtain ⟨k, e, rfl⟩ := e
  have fin : Q (.bl k) H := q H _ (Aft.val rl (by simp [Rep]))
  unfold eqU at e
  split at e
  · next x y => cases e; rw [top_str t1, top_str t2]; exact .inl ⟨rfl, by rw [dec_str]; exact fin⟩
  · next x y => cases e; rw [top_int t1, top_int t2]; exact .inl ⟨rfl, by rw [dec_int]; exact fin⟩
  · next x y => cases e; rw [top_str t1, top_int t2]; exact .inl ⟨rfl, by simpa using fin⟩
  · next x y => cases e; rw [top_int t1, top_str t2]; exact .inl ⟨rfl, by simpa using fin⟩
  · next x => cases e; rw [top_non t1, top_str t2]; exact .inl ⟨rfl, by simpa using fin⟩
  · next x => cases e; rw [top_str t1, top_non t2]; exact .inl ⟨rfl, by simpa using fin⟩
  · split at e
    · next d d' e1 e2 =>
      split at e
      · next hs =>
        cases e
        simp only [Bool.and_eq_true] at hs
        exact .inr ⟨d, d', t1.dp e1, t2.dp e2, hs.1, hs.2, fin⟩
      · cases e
    · cases e
theorem op2_ne (hu : X.A.units + 64 < cLine) : Op2S X (compareOp .NotEq) gNe := by
  refine ⟨_, op_ne.or (op_neD hu), fun F ρ E B σ H u1 u2 v1 v2 r3 Q rl t1 t2 e q => ?_⟩
  simp only [gNe, Option.map_eq_some_iff] at e
  obtain ⟨k, e, rfl⟩ := e
  have fin : Q (.bl (!k)) H := q H _ (Aft.val rl (by simp [Rep]))
  unfold eqU at e
  split at e
  · next x y => cases e; rw [top_str t1, top_str t2]; exact .inl ⟨rfl, by rw [dec_str]; exact fin⟩
  · next x y => cases e; rw [top_int t1, top_int t2]; exact .inl ⟨rfl, by rw [dec_int]; exact fin⟩
  · next x y => cases e; rw [top_str t1, top_int t2]; exact .inl ⟨rfl, by simpa using fin⟩
  · next x y => cases e; rw [top_int t1, top_str t2]; exact .inl ⟨rfl, by simpa using fin⟩
  · next x => cases e; rw [top_non t1, top_str t2]; exact .inl ⟨rfl, by simpa using fin⟩
  · next x => cases e; rw [top_str t1, top_non t2]; exact .inl ⟨rfl, by simpa using fin⟩
  · split at e
    · next d d' e1 e2 =>
      split at e
      · next hs =>
        cases e
        simp only [Bool.and_eq_true] at hs
        exact .inr ⟨d, d', t1.dp e1, t2.dp e2, hs.1, hs.2, fin⟩
      · cases e
    · cases e
/-! ### is -/
def isNon : U → Bool
  | .non => true
  | _ => false
def gIs (neg : Bool) : U → U → Option R
  | a, .non => some (.w (.bl (if neg then !isNon a else isNon a)))
  | .bl a, .bl b => some (.w (.bl (if neg then !decide (a = b) else decide (a = b))))
  | _, _ => none
theorem isNon_top {K : PySem.W.Frag} {H : Hp} {Lv : AS} {ρ : List Addr} {u : U} {v : V} (t : Top K H Lv ρ u v) : decide (v = .non) = isNon u := by
  cases u with
  | non => rw [top_non t]; rfl
  | bl _ => rw [top_bl t]; rfl
  | int _ => rw [top_int t]; rfl
  | str _ => rw [top_str t]; rfl
  | lst _ => obtain ⟨p, vs, rfl, _⟩ := t; rfl
  | tup _ => obtain ⟨p, vs, rfl, _⟩ := t; rfl
  | dct _ _ => obtain ⟨p, vs, rfl, _⟩ := t; rfl
  | exc _ _ => simp only [Top, Rep] at t; obtain ⟨p, _, _, _, rfl, _⟩ := t; rfl
  | box _ => exact t.elim
  | scr _ => simp only [Top, Rep] at t; obtain ⟨p, rfl, _⟩ := t; rfl
theorem op2_is : Op2S X (compareOp .Is) (gIs false) := by
  refine ⟨_, op_isN.or op_is_bl, fun F ρ E B σ H u1 u2 v1 v2 r3 Q rl t1 t2 e q => ?_⟩
  unfold gIs at e
  split at e
  · cases e
    refine .inl ⟨top_non t2, ?_⟩
    rw [isNon_top t1]
    exact q H _ (Aft.val rl (by simp [Rep]))
  · next a b =>
    cases e
    exact .inr ⟨a, b, top_bl t1, top_bl t2, q H _ (Aft.val rl (by simp [Rep]))⟩
  · cases e
theorem op2_isnot : Op2S X (compareOp .IsNot) (gIs true) := by
  refine ⟨_, op_notN.or op_isnot_bl, fun F ρ E B σ H u1 u2 v1 v2 r3 Q rl t1 t2 e q => ?_⟩
  unfold gIs at e
  split at e
  · cases e
    refine .inl ⟨top_non t2, ?_⟩
    rw [isNon_top t1]
    exact q H _ (Aft.val rl (by simp [Rep]))
  · next a b =>
    cases e
    exact .inr ⟨a, b, top_bl t1, top_bl t2, q H _ (Aft.val rl (by simp [Rep]))⟩
  · cases e
/-! ### in -/
def flatU : U → Option V
  | .non => some .non
  | .bl b => some (.bl b)
  | .int i => some (.int i)
  | .str x => some (.str x)
  | _ => none
theorem flatU_top {K : PySem.W.Frag} {H : Hp} {Lv : AS} {ρ : List Addr} {u : U} {v x : V} (t : Top K H Lv ρ u v) (e : flatU u = some x) : v = x ∧ flatV v = true := by
  cases u <;> simp only [flatU, Option.some.injEq] at e <;> first | (cases e; done) | skip
  · rw [top_non t]; exact ⟨e, rfl⟩
  · rw [top_bl t]; exact ⟨e, rfl⟩
  · rw [top_int t]; exact ⟨e, rfl⟩
  · rw [top_str t]; exact ⟨e, rfl⟩
theorem flatU_rep {K : PySem.W.Frag} {H : Hp} {Lv : AS} {ρ : List Addr} {u : U} {v x : V} (t : Rep K H Lv ρ u v) (e : flatU u = some x) : v = x ∧ flatV v = true :=
  flatU_top (t.top fun i z => by subst z; cases e) e
def flatUs : List U → Option (List V)
  | [] => some []
  | u :: us => match flatU u, flatUs us with
    | some v, some vs => some (v :: vs)
    | _, _ => none
theorem flatUs_reps {K : PySem.W.Frag} {H : Hp} {Lv : AS} {ρ : List Addr} : ∀ {us : List U} {vs xs : List V}, Reps K H Lv ρ us vs → flatUs us = some xs → vs = xs ∧ vs.all flatV = true
  | [], vs, xs, h, e => by simp only [Reps] at h; subst h; simp only [flatUs, Option.some.injEq] at e; exact ⟨e, rfl⟩
  | u :: us, vs, xs, h, e => by
    simp only [Reps] at h
    obtain ⟨v, r, rfl, h1, h2⟩ := h
    simp only [flatUs] at e
    split at e
    · next a b e1 e2 =>
      cases e
      obtain ⟨h3, h4⟩ := flatU_rep h1 e1
      obtain ⟨h5, h6⟩ := flatUs_reps h2 e2
      exact ⟨by rw [h3, h5], by simp [h4, h6]⟩
    · cases e
def inStr (a z : Str) : Bool := if a.cps.size = 1 then decide (a.cps.getD 0 0 ∈ z.cps.toList) else !(Builtin.Str.occurrences z a 0 z.length 1).isEmpty
def seqOf : U → Option (List U)
  | .lst us => some us
  | .tup us => some us
  | _ => none
def inU (a b : U) : Option Bool :=
  match a, b with
  | .str x, .str z => some (inStr x z)
  | a, b => match flatU a, (seqOf b).bind flatUs with
    | some v, some vs => some (inV v vs)
    | _, _ => none
def gIn (neg : Bool) (a b : U) : Option R := (inU a b).map fun k => .w (.bl (if neg then !k else k))
theorem str_one {a : Str} (h : a.cps.size = 1) : a = ⟨#[a.cps.getD 0 0]⟩ := by
  obtain ⟨cs⟩ := a
  obtain ⟨l⟩ := cs
  match l, h with
  | [c], _ => rfl
theorem op2_in : Op2S X (compareOp .In) (gIn false) := by
  refine ⟨_, (op_in_sign.or op_in_str).or op_in_seq, fun F ρ E B σ H u1 u2 v1 v2 r3 Q rl t1 t2 e q => ?_⟩
  simp only [gIn, Option.map_eq_some_iff] at e
  obtain ⟨k, e, rfl⟩ := e
  have fin : Q (.bl k) H := q H _ (Aft.val rl (by simp [Rep]))
  unfold inU at e
  split at e
  · next x z =>
    cases e
    unfold inStr at fin
    split at fin
    · next h1 => exact .inl (.inl ⟨x.cps.getD 0 0, z, by rw [top_str t1, ← str_one h1], top_str t2, fin⟩)
    · exact .inl (.inr ⟨x, z, top_str t1, top_str t2, fin⟩)
  · split at e
    · next v vs e1 e2 =>
      cases e
      simp only [Option.bind_eq_some_iff] at e2
      obtain ⟨us, e2, e3⟩ := e2
      obtain ⟨h1, h2⟩ := flatU_top t1 e1
      subst h1
      cases u2 <;> simp only [seqOf, Option.some.injEq] at e2 <;> first | (cases e2; done) | skip
      · subst e2
        obtain ⟨p, ws, rfl, h3, h4⟩ := t2
        obtain ⟨h5, h6⟩ := flatUs_reps h4 e3
        subst h5
        exact .inr ⟨p, ws, rfl, .inl (.inl (.inl h3)), h2, h6, fin⟩
      · subst e2
        obtain ⟨p, ws, rfl, h3, h4⟩ := t2
        obtain ⟨h5, h6⟩ := flatUs_reps h4 e3
        subst h5
        exact .inr ⟨p, ws, rfl, .inr (sqT_of h3), h2, h6, fin⟩
    · cases e
theorem op2_notin : Op2S X (compareOp .NotIn) (gIn true) := by
  refine ⟨_, (op_notIn_sign.or op_notin_str).or op_notIn_seq, fun F ρ E B σ H u1 u2 v1 v2 r3 Q rl t1 t2 e q => ?_⟩
  simp only [gIn, Option.map_eq_some_iff] at e
  obtain ⟨k, e, rfl⟩ := e
  have fin : Q (.bl (!k)) H := q H _ (Aft.val rl (by simp [Rep]))
  unfold inU at e
  split at e
  · next x z =>
    cases e
    unfold inStr at fin
    split at fin
    · next h1 => exact .inl (.inl ⟨x.cps.getD 0 0, z, by rw [top_str t1, ← str_one h1], top_str t2, fin⟩)
    · exact .inl (.inr ⟨x, z, top_str t1, top_str t2, fin⟩)
  · split at e
    · next v vs e1 e2 =>
      cases e
      simp only [Option.bind_eq_some_iff] at e2
      obtain ⟨us, e2, e3⟩ := e2
      obtain ⟨h1, h2⟩ := flatU_top t1 e1
      subst h1
      cases u2 <;> simp only [seqOf, Option.some.injEq] at e2 <;> first | (cases e2; done) | skip
      · subst e2
        obtain ⟨p, ws, rfl, h3, h4⟩ := t2
        obtain ⟨h5, h6⟩ := flatUs_reps h4 e3
        subst h5
        exact .inr ⟨p, ws, rfl, .inl (.inl (.inl h3)), h2, h6, fin⟩
      · subst e2
        obtain ⟨p, ws, rfl, h3, h4⟩ := t2
        obtain ⟨h5, h6⟩ := flatUs_reps h4 e3
        subst h5
        exact .inr ⟨p, ws, rfl, .inr (sqT_of h3), h2, h6, fin⟩
    · cases e
end
end QB
/-! QbE: arguments, built-ins, displays, subscripts, calls. -/
namespace QB
open PySem L2
section
variable {X : Cy} {a b c e : Expr} {es : List Expr} {fa fb : Ex} {pos p p2 p3 cpos apos : Pos} {x : Str}

/-! ### a plain step on one value -/
theorem m1_ok {g : U → Option R} {r : V → Hp → VK → Prop} {ta : TE}
    (ho : ∀ F ρ E B σ H u1 v1 r3 Q, Rel X.K F ρ E B σ H → Top X.K H (LvF F ρ E B σ) ρ u1 v1 → g u1 = some r3 → (∀ H' v, Aft X.K F ρ E B σ H r3 ρ E B H' v → Q v H') → r v1 H Q)
    (ha : ∀ F ρ E B σ H Q, Rel X.K F ρ E B σ H → PostE X.K X.q F ρ E B σ H (fa E B) Q → ta σ H Q) :
    ∀ F ρ E B σ H Q, Rel X.K F ρ E B σ H → PostE X.K X.q F ρ E B σ H (m1 g fa E B) Q → ta σ H (fun v H1 => r v H1 Q) := by
  intro F ρ E B σ H Q rl h
  refine ha F ρ E B σ H _ rl ?_
  simp only [m1] at h
  cases h1 : fa E B with
  | bad => rw [h1] at h; exact h
  | ex c E' B' => rw [h1] at h ; first | exact h | exact Aft.exq (by assumption) h | exact AftT.exq (by assumption) h | exact Aft.exq (by assumption) (Aft.exq (by assumption) h) | exact AftT.exq (by assumption) (Aft.exq (by assumption) h) | exact AftT.exq (AftA.t (by assumption)) h | exact ExQ.px h (Aft.px (by assumption)) | exact ExQ.px h (List.IsPrefix.trans (AftT.px (by assumption)) (Aft.px (by assumption))) | exact Aft.exq (by assumption) (AftT.exq (by assumption) h) | exact Aft.exq (by assumption) (Aft.exq (by assumption) (AftT.exq (by assumption) h))
  | ok r1 E1 B1 =>
    rw [h1] at h
    intro ρ1 H1 v1 A1
    simp only [O.bind_ok] at h
    split at h
    · next u1 e1 =>
      split at h
      · next r3 eg =>
        have T1 := A1.letgo
        exact ho F ρ1 E1 B1 σ H1 u1 v1 r3 Q T1.rel (A1.top e1) eg fun H' v A3 => h ρ1 H' v (T1.then A3)
      · exact h.elim
    · exact h.elim
theorem sndE_un {op : UnaryOp} {r : V → Hp → VK → Prop} {g : U → Option R} (hr : UnR X (unaryOp op) r)
    (ho : ∀ F ρ E B σ H u1 v1 r3 Q, Rel X.K F ρ E B σ H → Top X.K H (LvF F ρ E B σ) ρ u1 v1 → g u1 = some r3 → (∀ H' v, Aft X.K F ρ E B σ H r3 ρ E B H' v → Q v H') → r v1 H Q)
    (ha : SndE X a fa) : SndE X (.UnaryOp op a pos) (m1 g fa) := by
  obtain ⟨ta, pa, ha⟩ := ha
  exact ⟨_, pe_un hr pa, m1_ok (r := r) ho ha⟩
def gNeg : U → Option R
  | .int i => some (.w (.int (-i)))
  | _ => none
theorem sndE_neg (ha : SndE X a fa) : SndE X (.UnaryOp .USub a pos) (m1 gNeg fa) := by
  refine sndE_un un_neg (fun F ρ E B σ H u1 v1 r3 Q rl t e q => ?_) ha
  unfold gNeg at e
  split at e
  · next i => cases e; exact ⟨i, top_int t, q H _ (Aft.val rl (by simp [Rep]))⟩
  · cases e

/-! ### built-ins of one argument -/
def Call1S (X : Cy) (f : Value) (g : U → Option R) : Prop :=
  ∃ r, CallR X f r ∧ ∀ F ρ E B σ H u1 v1 r3 Q, Rel X.K F ρ E B σ H → Top X.K H (LvF F ρ E B σ) ρ u1 v1 → g u1 = some r3 → (∀ H' v, Aft X.K F ρ E B σ H r3 ρ E B H' v → Q v H') → r [v1] H Q
theorem sndE_b1 {id : String} {g : U → Option R} (hc : Call1S X (.builtin id) g) (hm : X.mg x = none) (hv : bootBuiltins x = some (.builtin id)) (ha : SndE X a fa) (hg : Gl X x := by rfl) (hn : x ≠ "__name__" := by decide) (hdb : (x == ("__debug__" : Str)) = false := by decide) (hs : starEach [a] X.env = (false, eval a X.env) :: starEach [] X.env := by rfl) : SndE X (.Call (.Name x p) [a] [] pos) (m1 g fa) := by
  obtain ⟨r, hr, ho⟩ := hc
  obtain ⟨ta, pa, ha⟩ := ha
  exact ⟨_, pe_callB hr hg hm hv (pa_cons pa pa_nil hs) hn hdb hs, m1_ok (r := fun v H Q => r [v] H Q) ho ha⟩
theorem sndE_t1 {T : String} {g : U → Option R} (hc : Call1S X (.type T) g) (hm : X.mg x = none) (hv : bootBuiltins x = some (.type T)) (ha : SndE X a fa) (hg : Gl X x := by rfl) (hn : x ≠ "__name__" := by decide) (hdb : (x == ("__debug__" : Str)) = false := by decide) (hs : starEach [a] X.env = (false, eval a X.env) :: starEach [] X.env := by rfl) : SndE X (.Call (.Name x p) [a] [] pos) (m1 g fa) := by
  obtain ⟨r, hr, ho⟩ := hc
  obtain ⟨ta, pa, ha⟩ := ha
  exact ⟨_, pe_callTy hr hg hm hv (pa_cons pa pa_nil hs) hn hdb hs, m1_ok (r := fun v H Q => r [v] H Q) ho ha⟩
def gLen : U → Option R
  | .str y => if y.length ≤ 16777216 then some (.w (.int y.length)) else none
  | .lst us => some (.w (.int us.length))
  | .tup us => some (.w (.int us.length))
  | .scr ns => some (.w (.int ns.length))
  | _ => none
theorem call1_len : Call1S X (.builtin "len") gLen := by
  refine ⟨_, call_len, fun F ρ E B σ H u1 v1 r3 Q rl t e q => ?_⟩
  have fin : ∀ n : Nat, r3 = .w (.int n) → Q (.int n) H := fun n h => q H _ (by subst h; exact Aft.val rl (by simp [Rep]))
  unfold gLen at e
  split at e
  · next y =>
    split at e
    · next hl => cases e; exact ⟨_, y.length, rfl, by rw [top_str t]; exact ⟨by rw [sizeLine_eq]; exact hl, rfl⟩, fin _ rfl⟩
    · cases e
  · next us =>
    cases e
    obtain ⟨p, vs, rfl, h1, h2⟩ := t
    exact ⟨_, us.length, rfl, .inl ⟨vs, .inl (.inl h1), h2.len⟩, fin _ rfl⟩
  · next us =>
    cases e
    obtain ⟨p, vs, rfl, h1, h2⟩ := t
    exact ⟨_, us.length, rfl, .inr ⟨vs, sqT_of h1, h2.len⟩, fin _ rfl⟩
  · next ns =>
    cases e
    simp only [Top, Rep] at t
    obtain ⟨p, rfl, h1⟩ := t
    exact ⟨_, ns.length, rfl, .inl ⟨_, sqL_of h1, by simp⟩, fin _ rfl⟩
  · cases e
def gAbs : U → Option R
  | .int i => some (.w (.int (if i < 0 then -i else i)))
  | _ => none
theorem call1_abs : Call1S X (.builtin "abs") gAbs := by
  refine ⟨_, call_abs, fun F ρ E B σ H u1 v1 r3 Q rl t e q => ?_⟩
  unfold gAbs at e
  split at e
  · next i => cases e; exact ⟨i, by rw [top_int t], q H _ (Aft.val rl (by simp [Rep]))⟩
  · cases e
def gInt : U → Option R
  | .int i => some (.w (.int i))
  | .bl b => some (.w (.int (if b then 1 else 0)))
  | _ => none
theorem call1_int : Call1S X (.type "int") gInt := by
  refine ⟨_, call_int1, fun F ρ E B σ H u1 v1 r3 Q rl t e q => ?_⟩
  unfold gInt at e
  split at e
  · next i => cases e; exact .inl ⟨i, by rw [top_int t], q H _ (Aft.val rl (by simp [Rep]))⟩
  · next i => cases e; exact .inr ⟨i, by rw [top_bl t], q H _ (Aft.val rl (by simp [Rep]))⟩
  · cases e
def gStrI : U → Option R
  | .int i => if i.natAbs < 10 ^ 100 then some (.w (.str (toString i : String))) else none
  | _ => none
theorem call1_strI : Call1S X (.type "str") gStrI := by
  refine ⟨_, call_str_int, fun F ρ E B σ H u1 v1 r3 Q rl t e q => ?_⟩
  unfold gStrI at e
  split at e
  · next i =>
    split at e
    · next hl =>
      cases e
      have h3 : i.natAbs < 2 ^ 400 := Nat.lt_trans hl (by decide)
      have h5 : i.natAbs.log2 < 1920 := by
        by_cases z : i.natAbs = 0
        · rw [z]; decide
        · have := (Nat.log2_lt z).mpr h3; omega
      exact ⟨i, by rw [top_int t], h5, q H _ (Aft.val rl (by simp [Rep]))⟩
    · cases e
  · cases e
def gListOf : U → Option R
  | .lst us => some (.fr (.lst us))
  | .tup us => some (.fr (.lst us))
  | _ => none
theorem call1_list : Call1S X (.type "list") gListOf := by
  refine ⟨_, call_list_of, fun F ρ E B σ H u1 v1 r3 Q rl t e q => ?_⟩
  unfold gListOf at e
  split at e
  · next us =>
    cases e
    obtain ⟨p, vs, rfl, h1, h2⟩ := t
    exact ⟨p, vs, rfl, .inl (.inl (.inl h1)), fun l hl => q _ _ (Aft.fresh rl hl h2)⟩
  · next us =>
    cases e
    obtain ⟨p, vs, rfl, h1, h2⟩ := t
    exact ⟨p, vs, rfl, .inr (sqT_of h1), fun l hl => q _ _ (Aft.fresh rl hl h2)⟩
  · cases e
def gTupleOf : U → Option R
  | .lst us => some (.w (.tup us))
  | .tup us => some (.w (.tup us))
  | _ => none
theorem call1_tuple : Call1S X (.type "tuple") gTupleOf := by
  refine ⟨_, call_tuple_of, fun F ρ E B σ H u1 v1 r3 Q rl t e q => ?_⟩
  unfold gTupleOf at e
  split at e
  · next us =>
    cases e
    obtain ⟨p, vs, rfl, h1, h2⟩ := t
    exact ⟨p, vs, rfl, .inl ⟨.inl (.inl h1), fun l hl => q _ _ (Aft.tuple rl hl h2)⟩⟩
  · next us =>
    cases e
    have t' := t
    obtain ⟨p, vs, rfl, h1, h2⟩ := t
    exact ⟨p, vs, rfl, .inr ⟨sqT_of h1, q _ _ (Aft.val rl (by simp only [Rep]; exact t'))⟩⟩
  · cases e
def blsOf : List U → Option (List Bool)
  | [] => some []
  | .bl b :: us => (blsOf us).map (b :: ·)
  | _ => none
theorem blsOf_reps {K : PySem.W.Frag} {H : Hp} {Lv : AS} {ρ : List Addr} : ∀ {us : List U} {vs : List V} {bs : List Bool}, Reps K H Lv ρ us vs → blsOf us = some bs → vs = bs.map V.bl
  | [], vs, bs, h, e => by simp only [Reps] at h; subst h; simp only [blsOf, Option.some.injEq] at e; subst e; rfl
  | u :: us, vs, bs, h, e => by
    simp only [Reps] at h
    obtain ⟨v, r, rfl, h1, h2⟩ := h
    cases u <;> simp only [blsOf, Option.map_eq_some_iff] at e <;> first | (cases e; done) | skip
    obtain ⟨cs, e1, rfl⟩ := e
    simp only [Rep] at h1
    rw [h1, blsOf_reps h2 e1]; rfl
def gAny : U → Option R
  | .lst us => (blsOf us).map fun bs => .w (.bl (bs.any id))
  | _ => none
def gAll : U → Option R
  | .lst us => (blsOf us).map fun bs => .w (.bl (bs.all id))
  | _ => none
theorem call1_any (hc : X.calm = true) : Call1S X (.builtin "any") gAny := by
  refine ⟨_, cr_any hc, fun F ρ E B σ H u1 v1 r3 Q rl t e q => ?_⟩
  unfold gAny at e
  split at e
  · next us =>
    simp only [Option.map_eq_some_iff] at e
    obtain ⟨bs, e1, rfl⟩ := e
    obtain ⟨p, vs, rfl, h1, h2⟩ := t
    exact ⟨p, bs, rfl, .inl (.inl (by rw [h1, blsOf_reps h2 e1])), q H _ (Aft.val rl (by simp [Rep]))⟩
  · cases e
theorem call1_all (hc : X.calm = true) : Call1S X (.builtin "all") gAll := by
  refine ⟨_, cr_all hc, fun F ρ E B σ H u1 v1 r3 Q rl t e q => ?_⟩
  unfold gAll at e
  split at e
  · next us =>
    simp only [Option.map_eq_some_iff] at e
    obtain ⟨bs, e1, rfl⟩ := e
    obtain ⟨p, vs, rfl, h1, h2⟩ := t
    exact ⟨p, bs, rfl, .inl (.inl (by rw [h1, blsOf_reps h2 e1])), q H _ (Aft.val rl (by simp [Rep]))⟩
  · cases e

/-! ### isinstance -/
def kindS : U → Option String
  | .non => some "NoneType"
  | .bl _ => some "bool"
  | .int _ => some "int"
  | .str _ => some "str"
  | .lst _ => some "list"
  | .tup _ => some "tuple"
  | .dct _ _ => some "dict"
  | .scr _ => some "list"
  | .box _ => none
  | .exc _ _ => none
theorem kind_top {K : PySem.W.Frag} {H : Hp} {Lv : AS} {ρ : List Addr} {u : U} {v : V} {s : String} (t : Top K H Lv ρ u v) (e : kindS u = some s) : TyX K H v (.type s) := by
  cases u with
  | non => cases e; rw [top_non t]; exact .base .non
  | bl _ => cases e; rw [top_bl t]; exact .base (.bl _)
  | int _ => cases e; rw [top_int t]; exact .base (.int _)
  | str _ => cases e; rw [top_str t]; exact .base (.str _)
  | lst _ => cases e; obtain ⟨p, vs, rfl, h1, _⟩ := t; exact .base (.lst h1)
  | tup _ =>
    cases e
    obtain ⟨p, vs, rfl, h1, _⟩ := t
    rcases h1 with ⟨h1 | ⟨o, h1⟩, _⟩ | ⟨o, its, n, h1, h2, _⟩
    · exact .base (.tup h1)
    · exact .fTuple h1
    · exact .kTuple h1 h2
  | dct _ _ =>
    cases e
    obtain ⟨p, vs, rfl, h1 | ⟨o, h1⟩, _⟩ := t
    · exact .base (.dK h1)
    · exact .fDict h1
  | box _ => cases e
  | exc _ _ => cases e
  | scr _ =>
    cases e
    simp only [Top, Rep] at t
    obtain ⟨p, rfl, ⟨h1 | ⟨o, h1⟩, _⟩ | ⟨o, its, n, h1, h2, _⟩⟩ := t
    · exact .base (.lst h1)
    · exact .base (.frz h1)
    · exact .kList h1 h2
def gIsi (T : String) (u : U) : Option R := (kindS u).bind fun s => (kitB s T).map fun k => .w (.bl k)
def isAny (s : String) (Ts : List String) : Option Bool :=
  match Ts with
  | [] => some false
  | T :: Ts => (kitB s T).bind fun k => (isAny s Ts).map fun k' => k || k'
def gIsiT (Ts : List String) (u : U) : Option R := (kindS u).bind fun s => (isAny s Ts).map fun k => .w (.bl k)
theorem sndE_isi {T : String} {tx : Str} (hm : X.mg "isinstance" = none) (hmT : X.mg tx = none) (hvT : bootBuiltins tx = some (.type T)) (ha : SndE X a fa) (hg : Gl X "isinstance" := by rfl) (hgT : Gl X tx := by rfl) (hn : tx ≠ "__name__" := by decide) (hdb : (tx == ("__debug__" : Str)) = false := by decide)
    (hvI : bootBuiltins "isinstance" = some (.builtin "isinstance") := by decide +kernel) (hs : starEach [a, .Name tx p2] X.env = (false, eval a X.env) :: starEach [.Name tx p2] X.env := by rfl) : SndE X (.Call (.Name "isinstance" p) [a, .Name tx p2] [] pos) (m1 (gIsi T) fa) := by
  obtain ⟨ta, pa, ha⟩ := ha
  refine ⟨_, pe_callB call_isi hg hm hvI (pa_cons pa (pa_cons (pe_bltn (v := .ty T) hgT hmT hvT rfl hn hdb) pa_nil) hs) (by decide) (by decide) hs, ?_⟩
  refine m1_ok (r := fun v H Q => rIsi X.K [v, .ty T] H Q) (fun F ρ E B σ H u1 v1 r3 Q rl t e q => ?_) ha
  simp only [gIsi, Option.bind_eq_some_iff, Option.map_eq_some_iff] at e
  obtain ⟨s, e1, k, e2, rfl⟩ := e
  exact ⟨v1, .ty T, .type s, .type T, k, rfl, .ty T, kind_top t e1, kit_ty e2, q H _ (Aft.val rl (by simp [Rep]))⟩

/-! ### subscripts -/
def gIx : U → U → Option R
  | .lst us, .int i => (atI us i).map .w
  | .tup us, .int i => (atI us i).map .w
  | .str z, .int i => if z.length ≤ 16777216 then (atI z.cps.toList i).map fun c => .w (.str ⟨#[c]⟩) else none
  | .scr ns, .int i => (atI ns i).map fun n => .w (.int n)
  | _, _ => none
theorem atI_reps {K : PySem.W.Frag} {H : Hp} {Lv : AS} {ρ : List Addr} {us : List U} {vs : List V} {i : Int} {u : U} (h : Reps K H Lv ρ us vs) (e : atI us i = some u) : ∃ v, atI vs i = some v ∧ Rep K H Lv ρ u v := by
  unfold atI at e ⊢
  simp only [Option.bind_eq_some_iff] at e ⊢
  obtain ⟨j, e1, e2⟩ := e
  obtain ⟨v, h1, h2⟩ := h.get e2
  exact ⟨v, ⟨j, by rw [← h.len]; exact e1, h1⟩, h2⟩
theorem sndE_ix (ha : SndE X a fa) (hb : SndE X b fb) (hs : PlainIx b := by intro _ _; rfl) : SndE X (.Subscript a b pos) (m2 gIx fa fb) := by
  obtain ⟨ta, pa, ha⟩ := ha
  obtain ⟨tb, pb, hb⟩ := hb
  refine ⟨_, pe_ix ix_seq pa pb hs, m2_ok (f := fun _ _ => pure Value.none) (fun F ρ E B σ H u1 u2 v1 v2 r3 Q rl t1 t2 e q => ?_) ha hb⟩
  unfold gIx at e
  split at e
  · next us i =>
    simp only [Option.map_eq_some_iff] at e
    obtain ⟨w, e1, rfl⟩ := e
    obtain ⟨p, vs, rfl, h1, h2⟩ := t1
    obtain ⟨v, h3, h4⟩ := atI_reps h2 e1
    exact .inl ⟨p, vs, i, v, rfl, top_int t2, .inl (.inl h1), h3, q H _ (Aft.val rl h4)⟩
  · next us i =>
    simp only [Option.map_eq_some_iff] at e
    obtain ⟨w, e1, rfl⟩ := e
    obtain ⟨p, vs, rfl, h1, h2⟩ := t1
    obtain ⟨v, h3, h4⟩ := atI_reps h2 e1
    exact .inr (.inl ⟨p, vs, i, v, rfl, top_int t2, sqT_of h1, h3, q H _ (Aft.val rl h4)⟩)
  · next z i =>
    split at e
    · next hl =>
      simp only [Option.map_eq_some_iff] at e
      obtain ⟨c, e1, rfl⟩ := e
      exact .inr (.inr ⟨z, i, c, top_str t1, top_int t2, by rw [sizeLine_eq]; exact hl, e1, q H _ (Aft.val rl (by simp [Rep]))⟩)
    · cases e
  · next ns i =>
    simp only [Option.map_eq_some_iff] at e
    obtain ⟨n, e1, rfl⟩ := e
    simp only [Top, Rep] at t1
    obtain ⟨p, rfl, h1⟩ := t1
    refine .inl ⟨p, _, i, .int n, rfl, top_int t2, sqL_of h1, ?_, q H _ (Aft.val rl (by simp [Rep]))⟩
    unfold atI at e1 ⊢
    simp only [Option.bind_eq_some_iff] at e1 ⊢
    obtain ⟨j, e2, e3⟩ := e1
    exact ⟨j, by simpa using e2, by simp [e3]⟩
  · cases e

/-! ### slices -/
/-- a part of a slice -/
def SndO (X : Cy) (o : Option Expr) (f : En → Bx → O (Option Int)) : Prop :=
  ∃ t : TO, PO X o t ∧ ∀ F ρ E B σ H (Q : Option Int → Hp → Prop), Rel X.K F ρ E B σ H → (match f E B with | .ok i E' B' => ∀ ρ' H', AftT X.K F ρ E B σ H ρ' E' B' H' → Q i H' | .ex c E' B' => ExQ X.K X.q F ρ c E' B' | .bad => False) → t σ H Q
def mNoPart : En → Bx → O (Option Int) := fun E B => .ok none E B
def mPart (f : Ex) : En → Bx → O (Option Int) := fun E B => (f E B).bind fun r E1 B1 =>
  match r with
  | .w (.int i) => .ok (some i) E1 B1
  | _ => .bad
theorem sndO_none : SndO X none mNoPart := ⟨_, po_none, fun F ρ E B σ H Q rl h => h ρ H (AftT.refl rl)⟩
theorem sndO_some (ha : SndE X a fa) : SndO X (some a) (mPart fa) := by
  obtain ⟨ta, pa, ha⟩ := ha
  refine ⟨_, po_some pa, fun F ρ E B σ H Q rl h => ?_⟩
  refine ha F ρ E B σ H _ rl ?_
  simp only [mPart] at h
  cases h1 : fa E B with
  | bad => rw [h1] at h; exact h
  | ex c E' B' => rw [h1] at h ; first | exact h | exact Aft.exq (by assumption) h | exact AftT.exq (by assumption) h | exact Aft.exq (by assumption) (Aft.exq (by assumption) h) | exact AftT.exq (by assumption) (Aft.exq (by assumption) h) | exact AftT.exq (AftA.t (by assumption)) h | exact ExQ.px h (Aft.px (by assumption)) | exact ExQ.px h (List.IsPrefix.trans (AftT.px (by assumption)) (Aft.px (by assumption))) | exact Aft.exq (by assumption) (AftT.exq (by assumption) h) | exact Aft.exq (by assumption) (Aft.exq (by assumption) (AftT.exq (by assumption) h))
  | ok r1 E1 B1 =>
    rw [h1] at h
    intro ρ1 H1 v1 A1
    simp only [O.bind_ok] at h
    cases r1 with
    | w u =>
      cases u with
      | int i =>
        have rr := A1.rep
        simp only [RepR, Rep] at rr
        exact ⟨i, rr, h ρ1 H1 A1.letgo⟩
      | _ => exact h.elim
    | _ => exact h.elim
def cutU (us : List U) (lo hi : Option Int) : List U := (us.drop (HT.sIx us.length 0 lo)).take (HT.sIx us.length us.length hi - HT.sIx us.length 0 lo)
def gSl (u : U) (lo hi : Option Int) : Option R :=
  match u with
  | .lst us => some (.fr (.lst (cutU us lo hi)))
  | .tup us => some (.w (.tup (cutU us lo hi)))
  | .str z => if z.length ≤ 16777216 then some (.w (.str (cutS z lo hi))) else none
  | _ => none
def mSl (fa : Ex) (fl fh : En → Bx → O (Option Int)) : Ex := fun E B =>
  (fa E B).bind fun r E1 B1 => (fl E1 B1).bind fun lo E2 B2 => (fh E2 B2).bind fun hi E3 B3 =>
    match view r E3 B3 with
    | some u => match gSl u lo hi with
      | some r => .ok r E3 B3
      | none => .bad
    | none => .bad
theorem cutU_reps {K : PySem.W.Frag} {H : Hp} {Lv : AS} {ρ : List Addr} {us : List U} {vs : List V} {lo hi : Option Int} (h : Reps K H Lv ρ us vs) : Reps K H Lv ρ (cutU us lo hi) (cutV vs lo hi) := by
  unfold cutU cutV
  rw [h.len]
  exact (h.drop _).take _
theorem cutV_all {us : List V} {lo hi : Option Int} (h : HT.sIx us.length 0 lo = 0 ∧ HT.sIx us.length us.length hi = us.length) : cutV us lo hi = us := by
  unfold cutV
  rw [h.1, h.2]
  simp
theorem sndE_sl {lo hi : Option Expr} {fl fh : En → Bx → O (Option Int)} (ha : SndE X a fa) (hl : SndO X lo fl) (hh : SndO X hi fh) : SndE X (.Subscript a (.Slice lo hi none p2) pos) (mSl fa fl fh) := by
  obtain ⟨ta, pa, ha⟩ := ha
  obtain ⟨tl, pl, hl⟩ := hl
  obtain ⟨th, ph, hh⟩ := hh
  refine ⟨_, pe_slice ((sl_list.or sl_tupA).or sl_str) pa pl ph, fun F ρ E B σ H Q rl h => ?_⟩
  refine ha F ρ E B σ H _ rl ?_
  simp only [mSl] at h
  cases h1 : fa E B with
  | bad => rw [h1] at h; exact h
  | ex c E' B' => rw [h1] at h ; first | exact h | exact Aft.exq (by assumption) h | exact AftT.exq (by assumption) h | exact Aft.exq (by assumption) (Aft.exq (by assumption) h) | exact AftT.exq (by assumption) (Aft.exq (by assumption) h) | exact AftT.exq (AftA.t (by assumption)) h | exact ExQ.px h (Aft.px (by assumption)) | exact ExQ.px h (List.IsPrefix.trans (AftT.px (by assumption)) (Aft.px (by assumption))) | exact Aft.exq (by assumption) (AftT.exq (by assumption) h) | exact Aft.exq (by assumption) (Aft.exq (by assumption) (AftT.exq (by assumption) h))
  | ok r1 E1 B1 =>
    rw [h1] at h
    intro ρ1 H1 v1 A1
    simp only [O.bind_ok] at h
    refine hl _ ρ1 E1 B1 σ H1 _ A1.rel ?_
    cases h2 : fl E1 B1 with
    | bad => rw [h2] at h; exact h
    | ex c E' B' => rw [h2] at h ; first | exact h | exact Aft.exq (by assumption) h | exact AftT.exq (by assumption) h | exact Aft.exq (by assumption) (Aft.exq (by assumption) h) | exact AftT.exq (by assumption) (Aft.exq (by assumption) h) | exact AftT.exq (AftA.t (by assumption)) h | exact ExQ.px h (Aft.px (by assumption)) | exact ExQ.px h (List.IsPrefix.trans (AftT.px (by assumption)) (Aft.px (by assumption))) | exact Aft.exq (by assumption) (AftT.exq (by assumption) h) | exact Aft.exq (by assumption) (Aft.exq (by assumption) (AftT.exq (by assumption) h))
    | ok lo E2 B2 =>
      rw [h2] at h
      simp only [O.bind_ok] at h
      intro ρ2 H2 A2
      have A12 := A1.carry A2
      refine hh _ ρ2 E2 B2 σ H2 _ A12.rel ?_
      cases h3 : fh E2 B2 with
      | bad => rw [h3] at h; exact h
      | ex c E' B' => rw [h3] at h ; first | exact h | exact Aft.exq (by assumption) h | exact AftT.exq (by assumption) h | exact Aft.exq (by assumption) (Aft.exq (by assumption) h) | exact AftT.exq (by assumption) (Aft.exq (by assumption) h) | exact AftT.exq (AftA.t (by assumption)) h | exact ExQ.px h (Aft.px (by assumption)) | exact ExQ.px h (List.IsPrefix.trans (AftT.px (by assumption)) (Aft.px (by assumption))) | exact Aft.exq (by assumption) (AftT.exq (by assumption) h) | exact Aft.exq (by assumption) (Aft.exq (by assumption) (AftT.exq (by assumption) h))
      | ok hi E3 B3 =>
        rw [h3] at h
        simp only [O.bind_ok] at h
        intro ρ3 H3 A3
        have A13 := A12.carry A3
        have T1 := A13.letgo
        split at h
        · next u1 e1 =>
          have t1 := A13.top e1
          split at h
          · next r3 eg =>
            have fin : ∀ H' v, Aft X.K F ρ3 E3 B3 σ H3 r3 ρ3 E3 B3 H' v → Q v H' := fun H' v A4 => h ρ3 H' v (T1.then A4)
            unfold gSl at eg
            split at eg
            · next us =>
              cases eg
              obtain ⟨p, vs, rfl, k1, k2⟩ := t1
              exact .inl (.inl ⟨p, vs, rfl, .inl (.inl k1), fun q hq => fin _ _ (Aft.fresh T1.rel hq (cutU_reps k2))⟩)
            · next us =>
              cases eg
              obtain ⟨p, vs, rfl, k1, k2⟩ := t1
              refine .inl (.inr ⟨p, vs, rfl, sqT_of k1, fun z => fin _ _ (Aft.val T1.rel ?_), fun z q hq => fin _ _ (Aft.tuple T1.rel hq (cutU_reps k2))⟩)
              simp only [Rep]
              refine ⟨p, vs, rfl, k1, ?_⟩
              have := cutU_reps (lo := lo) (hi := hi) k2
              rw [cutV_all z] at this
              exact this
            · next z =>
              split at eg
              · next hz =>
                cases eg
                exact .inr ⟨z, top_str t1, by rw [sizeLine_eq]; exact hz, fin _ _ (Aft.val T1.rel (by simp [Rep]))⟩
              · cases eg
            · cases eg
          · exact h.elim
        · exact h.elim

/-! ### arguments, each at rest -/
structure AftA (K : PySem.W.Frag) (F : Fm) (ρ : List Addr) (E : En) (B : Bx) (σ : L2.St) (H : Hp) (us : List U) (ρ' : List Addr) (E' : En) (B' : Bx) (H' : Hp) (vs : List V) : Prop where
  t : AftT K F ρ E B σ H ρ' E' B' H'
  reps : Reps K H' (LvF F ρ' E' B' σ) ρ' us vs
abbrev Ar := En → Bx → O (List U)
def PostA (K : PySem.W.Frag) (Y : Xq) (F : Fm) (ρ : List Addr) (E : En) (B : Bx) (σ : L2.St) (H : Hp) : O (List U) → (List V → Hp → Prop) → Prop
  | .ok us E' B', Q => ∀ ρ' H' vs, AftA K F ρ E B σ H us ρ' E' B' H' vs → Q vs H'
  | .ex c E' B', _ => ExQ K Y F ρ c E' B'
  | _, _ => False
def SndA (X : Cy) (es : List Expr) (f : Ar) : Prop := ∃ t : TA, PA X es t ∧ ∀ F ρ E B σ H Q, Rel X.K F ρ E B σ H → PostA X.K X.q F ρ E B σ H (f E B) Q → t σ H Q
def mNil : Ar := fun E B => .ok [] E B
def mCons (f : Ex) (fs : Ar) : Ar := fun E B => (f E B).bind fun r E1 B1 =>
  match settle r E1 with
  | some (u, E2) => (fs E2 B1).bind fun us E3 B3 => .ok (u :: us) E3 B3
  | none => .bad
theorem sndA_nil : SndA X [] mNil := ⟨_, pa_nil, fun F ρ E B σ H Q rl h => h ρ H [] ⟨AftT.refl rl, Reps.nil⟩⟩
/-- a result at rest -/
theorem Aft.settled {K : PySem.W.Frag} {F : Fm} {ρ ρ' : List Addr} {E E' E2 : En} {B B' : Bx} {σ : L2.St} {H H' : Hp} {r : R} {v : V} {u : U} (A : Aft K F ρ E B σ H r ρ' E' B' H' v) (h : settle r E' = some (u, E2)) :
    AftT K F ρ E B σ H ρ' E2 B' H' ∧ Rep K H' (LvF F ρ' E2 B' σ) ρ' u v := by
  obtain ⟨h1, h2, h3, h4⟩ := settle_ok A.rel A.rep h
  exact ⟨⟨A.px, h1, A.stp.trans h2, A.le.trans h3⟩, h4⟩
theorem sndA_cons {fs : Ar} (ha : SndE X e fa) (hr : SndA X es fs) (hs : starEach (e :: es) X.env = (false, eval e X.env) :: starEach es X.env := by rfl) : SndA X (e :: es) (mCons fa fs) := by
  obtain ⟨ta, pa, ha⟩ := ha
  obtain ⟨tr, pr, hr⟩ := hr
  refine ⟨_, pa_cons pa pr hs, fun F ρ E B σ H Q rl h => ?_⟩
  refine ha F ρ E B σ H _ rl ?_
  simp only [mCons] at h
  cases h1 : fa E B with
  | bad => rw [h1] at h; exact h
  | ex c E' B' => rw [h1] at h ; first | exact h | exact Aft.exq (by assumption) h | exact AftT.exq (by assumption) h | exact Aft.exq (by assumption) (Aft.exq (by assumption) h) | exact AftT.exq (by assumption) (Aft.exq (by assumption) h) | exact AftT.exq (AftA.t (by assumption)) h | exact ExQ.px h (Aft.px (by assumption)) | exact ExQ.px h (List.IsPrefix.trans (AftT.px (by assumption)) (Aft.px (by assumption))) | exact Aft.exq (by assumption) (AftT.exq (by assumption) h) | exact Aft.exq (by assumption) (Aft.exq (by assumption) (AftT.exq (by assumption) h))
  | ok r1 E1 B1 =>
    rw [h1] at h
    intro ρ1 H1 v1 A1
    simp only [O.bind_ok] at h
    split at h
    · next u E2 es =>
      obtain ⟨T1, R1⟩ := A1.settled es
      refine hr F ρ1 E2 B1 σ H1 _ T1.rel ?_
      cases h2 : fs E2 B1 with
      | bad => rw [h2] at h; exact h
      | ex c E' B' => rw [h2] at h ; first | exact h | exact Aft.exq (by assumption) h | exact AftT.exq (by assumption) h | exact Aft.exq (by assumption) (Aft.exq (by assumption) h) | exact AftT.exq (by assumption) (Aft.exq (by assumption) h) | exact AftT.exq (AftA.t (by assumption)) h | exact ExQ.px h (Aft.px (by assumption)) | exact ExQ.px h (List.IsPrefix.trans (AftT.px (by assumption)) (Aft.px (by assumption))) | exact Aft.exq (by assumption) (AftT.exq (by assumption) h) | exact Aft.exq (by assumption) (Aft.exq (by assumption) (AftT.exq (by assumption) h))
      | ok us E3 B3 =>
        rw [h2] at h
        simp only [O.bind_ok] at h
        intro ρ3 H3 vs A3
        exact h ρ3 H3 (v1 :: vs) ⟨T1.trans A3.t, Reps.cons (Rep.mono A3.t.stp A3.t.px _ _ R1) A3.reps⟩
    · exact h.elim
/-! ### displays -/
def mTup (fs : Ar) : Ex := fun E B => (fs E B).bind fun us E1 B1 => if us.length ≤ 16777216 then .ok (.w (.tup us)) E1 B1 else .bad
def mLst (fs : Ar) : Ex := fun E B => (fs E B).bind fun us E1 B1 => if us.length ≤ 16777216 then .ok (.fr (.lst us)) E1 B1 else .bad
theorem sndE_tup {fs : Ar} {k} (h : SndA X es fs) : SndE X (.Tuple es k pos) (mTup fs) := by
  obtain ⟨t, p1, h⟩ := h
  refine ⟨_, pe_tup p1, fun F ρ E B σ H Q rl q => ?_⟩
  refine h F ρ E B σ H _ rl ?_
  simp only [mTup] at q
  cases h1 : fs E B with
  | bad => rw [h1] at q; exact q
  | ex c E' B' => rw [h1] at q ; first | exact q | exact Aft.exq (by assumption) q | exact AftT.exq (by assumption) q | exact Aft.exq (by assumption) (Aft.exq (by assumption) q) | exact AftT.exq (by assumption) (Aft.exq (by assumption) q) | exact AftT.exq (AftA.t (by assumption)) q | exact ExQ.px q (Aft.px (by assumption)) | exact ExQ.px q (List.IsPrefix.trans (AftT.px (by assumption)) (Aft.px (by assumption))) | exact Aft.exq (by assumption) (AftT.exq (by assumption) q) | exact Aft.exq (by assumption) (Aft.exq (by assumption) (AftT.exq (by assumption) q))
  | ok us E1 B1 =>
    rw [h1] at q
    intro ρ1 H1 vs A1
    simp only [O.bind_ok] at q
    split at q
    · next hl => exact ⟨by rw [sizeLine_eq, ← A1.reps.len]; exact hl, fun p hp => q ρ1 _ _ (A1.t.then (Aft.tuple A1.t.rel hp A1.reps))⟩
    · exact q.elim
theorem sndE_lst {fs : Ar} (h : SndA X es fs) : SndE X (.List es pos) (mLst fs) := by
  obtain ⟨t, p1, h⟩ := h
  refine ⟨_, pe_lst p1, fun F ρ E B σ H Q rl q => ?_⟩
  refine h F ρ E B σ H _ rl ?_
  simp only [mLst] at q
  cases h1 : fs E B with
  | bad => rw [h1] at q; exact q
  | ex c E' B' => rw [h1] at q ; first | exact q | exact Aft.exq (by assumption) q | exact AftT.exq (by assumption) q | exact Aft.exq (by assumption) (Aft.exq (by assumption) q) | exact AftT.exq (by assumption) (Aft.exq (by assumption) q) | exact AftT.exq (AftA.t (by assumption)) q | exact ExQ.px q (Aft.px (by assumption)) | exact ExQ.px q (List.IsPrefix.trans (AftT.px (by assumption)) (Aft.px (by assumption))) | exact Aft.exq (by assumption) (AftT.exq (by assumption) q) | exact Aft.exq (by assumption) (Aft.exq (by assumption) (AftT.exq (by assumption) q))
  | ok us E1 B1 =>
    rw [h1] at q
    intro ρ1 H1 vs A1
    simp only [O.bind_ok] at q
    split at q
    · next hl => exact ⟨by rw [sizeLine_eq, ← A1.reps.len]; exact hl, fun p hp => q ρ1 _ _ (A1.t.then (Aft.fresh A1.t.rel hp A1.reps))⟩
    · exact q.elim
/-! ### built-ins of several arguments at rest -/
def mB (g : List U → Option R) (fs : Ar) : Ex := fun E B => (fs E B).bind fun us E1 B1 =>
  match g us with
  | some r => .ok r E1 B1
  | none => .bad
def CallNS (X : Cy) (f : Value) (g : List U → Option R) : Prop :=
  ∃ r, CallR X f r ∧ ∀ F ρ E B σ H us vs r3 Q, Rel X.K F ρ E B σ H → Reps X.K H (LvF F ρ E B σ) ρ us vs → g us = some r3 → (∀ H' v, Aft X.K F ρ E B σ H r3 ρ E B H' v → Q v H') → r vs H Q
theorem sndE_bn {id : String} {g : List U → Option R} {fs : Ar} (hc : CallNS X (.builtin id) g) (hm : X.mg x = none) (hv : bootBuiltins x = some (.builtin id)) (ha : SndA X (e :: es) fs) (hg : Gl X x := by rfl) (hn : x ≠ "__name__" := by decide) (hdb : (x == ("__debug__" : Str)) = false := by decide)
    (hs : starEach (e :: es) X.env = (false, eval e X.env) :: starEach es X.env := by rfl) (hpl : (backTo pos (starEach es X.env)).any (·.1) = false := by rfl) : SndE X (.Call (.Name x p) (e :: es) [] pos) (mB g fs) := by
  obtain ⟨r, hr, ho⟩ := hc
  obtain ⟨ta, pa, ha⟩ := ha
  refine ⟨_, pe_callB hr hg hm hv pa hn hdb hs hpl, fun F ρ E B σ H Q rl q => ?_⟩
  refine ha F ρ E B σ H _ rl ?_
  simp only [mB] at q
  cases h1 : fs E B with
  | bad => rw [h1] at q; exact q
  | ex c E' B' => rw [h1] at q ; first | exact q | exact Aft.exq (by assumption) q | exact AftT.exq (by assumption) q | exact Aft.exq (by assumption) (Aft.exq (by assumption) q) | exact AftT.exq (by assumption) (Aft.exq (by assumption) q) | exact AftT.exq (AftA.t (by assumption)) q | exact ExQ.px q (Aft.px (by assumption)) | exact ExQ.px q (List.IsPrefix.trans (AftT.px (by assumption)) (Aft.px (by assumption))) | exact Aft.exq (by assumption) (AftT.exq (by assumption) q) | exact Aft.exq (by assumption) (Aft.exq (by assumption) (AftT.exq (by assumption) q))
  | ok us E1 B1 =>
    rw [h1] at q
    intro ρ1 H1 vs A1
    simp only [O.bind_ok] at q
    split at q
    · next r3 eg => exact ho F ρ1 E1 B1 σ H1 us vs r3 Q A1.t.rel A1.reps eg fun H' v A3 => q ρ1 H' v (A1.t.then A3)
    · exact q.elim
def gMax2 : List U → Option R
  | [.int i, .int j] => some (.w (.int (if j > i then j else i)))
  | _ => none
def gMin2 : List U → Option R
  | [.int i, .int j] => some (.w (.int (if j < i then j else i)))
  | _ => none
theorem callN_max (hc : X.calm = true) : CallNS X (.builtin "max") gMax2 := by
  refine ⟨_, call_max2 hc, fun F ρ E B σ H us vs r3 Q rl t e q => ?_⟩
  unfold gMax2 at e
  split at e
  · next i j =>
    cases e
    simp only [Reps, Rep] at t
    obtain ⟨v, r, rfl, rfl, w, r2, rfl, rfl, rfl⟩ := t
    exact ⟨i, j, rfl, q H _ (Aft.val rl (by simp [Rep]))⟩
  · cases e
theorem callN_min (hc : X.calm = true) : CallNS X (.builtin "min") gMin2 := by
  refine ⟨_, call_min2 hc, fun F ρ E B σ H us vs r3 Q rl t e q => ?_⟩
  unfold gMin2 at e
  split at e
  · next i j =>
    cases e
    simp only [Reps, Rep] at t
    obtain ⟨v, r, rfl, rfl, w, r2, rfl, rfl, rfl⟩ := t
    exact ⟨i, j, rfl, q H _ (Aft.val rl (by simp [Rep]))⟩
  · cases e
/-! ### methods of texts -/
def mM (g : U → List U → Option R) (fo : Ex) (fs : Ar) : Ex := fun E B => (fo E B).bind fun r E1 B1 =>
  match r with
  | .w (.str z) => (fs E1 B1).bind fun us E2 B2 => match g (.str z) us with
    | some r => .ok r E2 B2
    | none => .bad
  | _ => .bad
def MethS (X : Cy) (id : String) (g : U → List U → Option R) : Prop :=
  ∃ r, MtR X id r ∧ ∀ F ρ E B σ H (z : Str) us vs r3 Q, Rel X.K F ρ E B σ H → Reps X.K H (LvF F ρ E B σ) ρ us vs → g (.str z) us = some r3 → (∀ H' v, Aft X.K F ρ E B σ H r3 ρ E B H' v → Q v H') → r (.str z) vs H Q
end
end QB
/-! QbF: writing, calls of defs, statements, defs. -/
namespace QB
open PySem L2
section
variable {K : PySem.W.Frag} {F : Fm} {ρ ρ' : List Addr} {E E' : En} {B B' : Bx} {σ : L2.St} {H H' : Hp} {p : Addr} {v : V} {u : U} {o : Option HO}
theorem Rel.setVal {i : Nat} (r : Rel K F ρ E B σ H) (hi : i < E.length) (h : Rep K H (LvF F ρ E B σ) ρ u v) : Rel K F ρ (E.set i (.val u)) B (σ.set i (some v)) H := by
  have px : ρ <+: ρ := List.prefix_refl _
  have hi2 : i < σ.length := by rw [← r.elen]; exact hi
  have ownSet : ∀ (j : Nat) (d : Cell), (E.set i (.val u))[j]? = some (.own d) → E[j]? = some (.own d) ∧ (σ.set i (some v))[j]? = σ[j]? := fun j d e => by
    by_cases hj : i = j
    · subst hj; rw [List.getElem?_set_self hi] at e; cases e
    · rw [List.getElem?_set_ne hj] at e; exact ⟨e, List.getElem?_set_ne hj⟩
  have less : ∀ q, LvF F ρ (E.set i (.val u)) B (σ.set i (some v)) q → LvF F ρ E B σ q := fun q z => by
    rcases z with z | z | ⟨j, d, h1, h2⟩
    · exact .inl z
    · exact .inr (.inl z)
    · obtain ⟨h3, h4⟩ := ownSet j d h1
      exact .inr (.inr ⟨j, d, h3, by rw [← h4]; exact h2⟩)
  have s : Stp H (LvF F ρ E B σ) H (LvF F ρ (E.set i (.val u)) B (σ.set i (some v))) := Stp.less less
  refine ⟨by rw [List.length_set, List.length_set]; exact r.elen, r.blen, fun j w e => ?_, fun j d e => ?_, fun j k d f q e1 e2 e3 e4 => ?_, fun j d q e1 e2 e3 => ?_, r.binj, r.out, r.old.trans s, r.grow⟩
  · by_cases hj : i = j
    · subst hj; rw [List.getElem?_set_self hi] at e; cases e; exact ⟨v, List.getElem?_set_self hi2, h.mono s px⟩
    · rw [List.getElem?_set_ne hj] at e
      obtain ⟨w', h1, h2⟩ := r.val j w e
      exact ⟨w', by rw [List.getElem?_set_ne hj]; exact h1, h2.mono s px⟩
  · obtain ⟨h1, h2⟩ := ownSet j d e
    obtain ⟨h3, q, h4, h5, h6⟩ := r.own j d h1
    exact ⟨h3, q, by rw [h2]; exact h4, h5.mono s px rfl, h6⟩
  · obtain ⟨a1, a2⟩ := ownSet j d e1
    obtain ⟨b1, b2⟩ := ownSet k f e2
    exact r.oinj j k d f q a1 b1 (by rw [← a2]; exact e3) (by rw [← b2]; exact e4)
  · obtain ⟨h4, h5⟩ := r.box j d q e1 e2 e3
    exact ⟨h4.mono s px rfl, h5⟩
theorem Rel.setOwn {i : Nat} {c : Cell} (r : Rel K (F.add p o) ρ E B σ H) (n : New F p) (hi : i < E.length) (hl : c.live = true) (h : CellOk K H (LvF (F.add p o) ρ E B σ) ρ c p) : Rel K F ρ (E.set i (.own c)) B (σ.set i (some (.ref p))) H := by
  have px : ρ <+: ρ := List.prefix_refl _
  have hi2 : i < σ.length := by rw [← r.elen]; exact hi
  have ownSet : ∀ (j : Nat) (d : Cell), i ≠ j → (E.set i (.own c))[j]? = some (.own d) → E[j]? = some (.own d) ∧ (σ.set i (some (.ref p)))[j]? = σ[j]? := fun j d hj e => by
    rw [List.getElem?_set_ne hj] at e; exact ⟨e, List.getElem?_set_ne hj⟩
  have less : ∀ q, LvF F ρ (E.set i (.own c)) B (σ.set i (some (.ref p))) q → LvF (F.add p o) ρ E B σ q := fun q z => by
    rw [LvF.add_iff]
    rcases z with z | z | ⟨j, d, h1, h2⟩
    · exact .inl (.inl z)
    · exact .inl (.inr (.inl z))
    · by_cases hj : i = j
      · subst hj
        rw [List.getElem?_set_self hi2] at h2
        exact .inr (by simpa using h2.symm)
      · obtain ⟨h3, h4⟩ := ownSet j d hj h1
        exact .inl (.inr (.inr ⟨j, d, h3, by rw [← h4]; exact h2⟩))
  have s : Stp H (LvF (F.add p o) ρ E B σ) H (LvF F ρ (E.set i (.own c)) B (σ.set i (some (.ref p)))) := Stp.less less
  have notB : ¬ BLv ρ B p := fun ⟨j, d, h1, h2, h3⟩ => (r.box j d p h1 h2 h3).2 (.inr rfl)
  have nes : ∀ (j : Nat) (d : Cell) (q : Addr), E[j]? = some (.own d) → σ[j]? = some (some (.ref q)) → q ≠ p := fun j d q e1 e2 e => by
    obtain ⟨_, p', h3, _, h4, _⟩ := r.own j d e1
    rw [h3] at e2
    have : p' = q := by simpa using e2
    subst this
    exact h4 (.inr e)
  refine ⟨by rw [List.length_set, List.length_set]; exact r.elen, r.blen, fun j w e => ?_, fun j d e => ?_, fun j k d f q e1 e2 e3 e4 => ?_, fun j d q e1 e2 e3 => ?_, r.binj, fun q h => ?_, fun q u h z => ?_, fun q u h => ?_⟩
  · by_cases hj : i = j
    · subst hj; rw [List.getElem?_set_self hi] at e; cases e
    · rw [List.getElem?_set_ne hj] at e
      obtain ⟨w', h1, h2⟩ := r.val j w e
      exact ⟨w', by rw [List.getElem?_set_ne hj]; exact h1, h2.mono s px⟩
  · by_cases hj : i = j
    · subst hj; rw [List.getElem?_set_self hi] at e; cases e
      exact ⟨hl, p, List.getElem?_set_self hi2, h.mono s px rfl, n.out, notB⟩
    · obtain ⟨h1, h2⟩ := ownSet j d hj e
      obtain ⟨h3, q, h4, h5, h6, h7⟩ := r.own j d h1
      exact ⟨h3, q, by rw [h2]; exact h4, h5.mono s px rfl, fun z => h6 (.inl z), h7⟩
  · by_cases hj : i = j <;> by_cases hk : i = k
    · omega
    · subst hj
      obtain ⟨b1, b2⟩ := ownSet k f hk e2
      rw [List.getElem?_set_self hi2] at e3
      have : p = q := by simpa using e3
      subst this
      exact absurd rfl (nes k f p b1 (by rw [← b2]; exact e4))
    · subst hk
      obtain ⟨b1, b2⟩ := ownSet j d hj e1
      rw [List.getElem?_set_self hi2] at e4
      have : p = q := by simpa using e4
      subst this
      exact absurd rfl (nes j d p b1 (by rw [← b2]; exact e3))
    · obtain ⟨a1, a2⟩ := ownSet j d hj e1
      obtain ⟨b1, b2⟩ := ownSet k f hk e2
      exact r.oinj j k d f q a1 b1 (by rw [← a2]; exact e3) (by rw [← b2]; exact e4)
  · obtain ⟨h4, h5⟩ := r.box j d q e1 e2 e3
    exact ⟨h4.mono s px rfl, fun z => h5 (.inl z)⟩
  · have ne : q ≠ p := fun z => n.out (z ▸ h)
    have e := r.out q (.inl h)
    simpa [Fm.add, ne] using e
  · have ne : q ≠ p := fun y => by rw [y, n.h0] at h; cases h
    have := r.old q u (by simp [Fm.add, ne, h]) (fun y => y.elim z ne)
    exact ⟨this.1, fun y => this.2 (less q y)⟩
  · have ne : q ≠ p := fun y => by rw [y, n.h0] at h; cases h
    exact r.grow q u (by simp [Fm.add, ne, h])
/-! ### writing -/
def cellOf (r : R) (E : En) (B : Bx) : Option Cell :=
  match r with
  | .s i => match E[i]? with
    | some (.own c) => some c
    | some (.val (.box j)) => B[j]?
    | _ => none
  | .w (.box j) => B[j]?
  | _ => none
def put (r : R) (E : En) (B : Bx) (c : Cell) : En × Bx :=
  match r with
  | .s i => match E[i]? with
    | some (.own _) => (E.set i (.own c), B)
    | some (.val (.box j)) => (E, B.set j c)
    | _ => (E, B)
  | .w (.box j) => (E, B.set j c)
  | _ => (E, B)
/-- the cell at p, live, gets another content -/
theorem Rel.wrS {i : Nat} {c c' : Cell} {ob : HO} (r : Rel K F ρ E B σ H) (he : E[i]? = some (.own c)) (hσ : σ[i]? = some (some (.ref p))) (hl' : c'.live = true)
    (hc : Stp H (LvF F ρ E B σ) (upd H p ob) (LvF F ρ (E.set i (.own c')) B σ) → CellOk K (upd H p ob) (LvF F ρ (E.set i (.own c')) B σ) ρ c' p) :
    Rel K F ρ (E.set i (.own c')) B σ (upd H p ob) ∧ Stp H (LvF F ρ E B σ) (upd H p ob) (LvF F ρ (E.set i (.own c')) B σ) ∧ EnLe E (E.set i (.own c')) := by
  have px : ρ <+: ρ := List.prefix_refl _
  have hi : i < E.length := (List.getElem?_eq_some_iff.mp he).1
  obtain ⟨_, p', hp', _, nO, nB⟩ := r.own i c he
  rw [hσ] at hp'
  have e : p' = p := by simpa using hp'.symm
  subst e
  have lv : ∀ q, LvF F ρ (E.set i (.own c')) B σ q → LvF F ρ E B σ q := fun q z => by
    rcases z with z | z | ⟨j, d, h1, h2⟩
    · exact .inl z
    · exact .inr (.inl z)
    · by_cases hj : i = j
      · subst hj; exact .inr (.inr ⟨i, c, he, h2⟩)
      · rw [List.getElem?_set_ne hj] at h1; exact .inr (.inr ⟨j, d, h1, h2⟩)
  have lp : LvF F ρ E B σ p' := .inr (.inr ⟨i, c, he, hσ⟩)
  have s : Stp H (LvF F ρ E B σ) (upd H p' ob) (LvF F ρ (E.set i (.own c')) B σ) := fun q x h n => ⟨.inl (by rw [upd_ne (by rintro rfl; exact n lp)]; exact h), fun z => n (lv q z)⟩
  refine ⟨⟨by rw [List.length_set]; exact r.elen, r.blen, fun j w e => ?_, fun j d e => ?_, fun j k d f q e1 e2 e3 e4 => ?_, fun j d q e1 e2 e3 => ?_, r.binj, fun q h => ?_, r.old.trans s, fun q x h => ?_⟩, s, fun j hj => ?_⟩
  · by_cases hj : i = j
    · subst hj; rw [List.getElem?_set_self hi] at e; cases e
    · rw [List.getElem?_set_ne hj] at e
      obtain ⟨w', h1, h2⟩ := r.val j w e
      exact ⟨w', h1, h2.mono s px⟩
  · by_cases hj : i = j
    · subst hj; rw [List.getElem?_set_self hi] at e; cases e
      exact ⟨hl', p', hσ, hc s, nO, nB⟩
    · rw [List.getElem?_set_ne hj] at e
      obtain ⟨h3, q, h4, h5, h6, h7⟩ := r.own j d e
      have ne : q ≠ p' := fun z => by subst z; exact hj (r.oinj i j c d q he e hσ h4)
      exact ⟨h3, q, h4, h5.mono s px (upd_ne ne), h6, h7⟩
  · have key : ∀ (j : Nat) (d : Cell), (E.set i (.own c'))[j]? = some (.own d) → ∃ d', E[j]? = some (.own d') := fun j d e => by
      by_cases hj : i = j
      · subst hj; exact ⟨c, he⟩
      · rw [List.getElem?_set_ne hj] at e; exact ⟨d, e⟩
    obtain ⟨d1, a1⟩ := key j d e1
    obtain ⟨d2, a2⟩ := key k f e2
    exact r.oinj j k d1 d2 q a1 a2 e3 e4
  · obtain ⟨h4, h5⟩ := r.box j d q e1 e2 e3
    have ne : q ≠ p' := fun z => nB (z ▸ ⟨j, d, e1, e2, e3⟩)
    exact ⟨h4.mono s px (upd_ne ne), h5⟩
  · have ne : q ≠ p' := fun z => nO (z ▸ h)
    rw [upd_ne ne]; exact r.out q h
  · obtain ⟨o', h1⟩ := r.grow q x h
    by_cases ne : q = p'
    · subst ne; exact ⟨ob, upd_same⟩
    · exact ⟨o', by rw [upd_ne ne]; exact h1⟩
  · by_cases hj' : i = j
    · subst hj'; exact .inr ⟨c', List.getElem?_set_self hi⟩
    · unfold IsSet; rw [List.getElem?_set_ne hj']; exact hj
theorem Rel.wrB {i : Nat} {c c' : Cell} {ob : HO} (r : Rel K F ρ E B σ H) (hb : B[i]? = some c) (hl : c.live = true) (hρ : ρ[i]? = some p) (hl' : c'.live = true)
    (hc : Stp H (LvF F ρ E B σ) (upd H p ob) (LvF F ρ E (B.set i c') σ) → CellOk K (upd H p ob) (LvF F ρ E (B.set i c') σ) ρ c' p) :
    Rel K F ρ E (B.set i c') σ (upd H p ob) ∧ Stp H (LvF F ρ E B σ) (upd H p ob) (LvF F ρ E (B.set i c') σ) := by
  have px : ρ <+: ρ := List.prefix_refl _
  have hi : i < B.length := (List.getElem?_eq_some_iff.mp hb).1
  obtain ⟨_, nO⟩ := r.box i c p hb hl hρ
  have key : ∀ (j : Nat) (d : Cell), (B.set i c')[j]? = some d → d.live = true → ∃ d', B[j]? = some d' ∧ d'.live = true := fun j d e hd => by
    by_cases hj : i = j
    · subst hj; exact ⟨c, hb, hl⟩
    · rw [List.getElem?_set_ne hj] at e; exact ⟨d, e, hd⟩
  have lv : ∀ q, LvF F ρ E (B.set i c') σ q → LvF F ρ E B σ q := fun q z => by
    rcases z with z | ⟨j, d, h1, h2, h3⟩ | z
    · exact .inl z
    · obtain ⟨d', h4, h5⟩ := key j d h1 h2
      exact .inr (.inl ⟨j, d', h4, h5, h3⟩)
    · exact .inr (.inr z)
  have blv : ∀ q, BLv ρ (B.set i c') q → BLv ρ B q := fun q ⟨j, d, h1, h2, h3⟩ => by
    obtain ⟨d', h4, h5⟩ := key j d h1 h2
    exact ⟨j, d', h4, h5, h3⟩
  have lb : BLv ρ B p := ⟨i, c, hb, hl, hρ⟩
  have lp : LvF F ρ E B σ p := .inr (.inl lb)
  have s : Stp H (LvF F ρ E B σ) (upd H p ob) (LvF F ρ E (B.set i c') σ) := fun q x h n => ⟨.inl (by rw [upd_ne (by rintro rfl; exact n lp)]; exact h), fun z => n (lv q z)⟩
  refine ⟨⟨r.elen, by rw [List.length_set]; exact r.blen, fun j w e => ?_, fun j d e => ?_, r.oinj, fun j d q e1 e2 e3 => ?_, fun j k d f q e1 e2 e3 e4 e5 e6 => ?_, fun q h => ?_, r.old.trans s, fun q x h => ?_⟩, s⟩
  · obtain ⟨w', h1, h2⟩ := r.val j w e
    exact ⟨w', h1, h2.mono s px⟩
  · obtain ⟨h3, q, h4, h5, h6, h7⟩ := r.own j d e
    have ne : q ≠ p := fun z => h7 (z ▸ lb)
    exact ⟨h3, q, h4, h5.mono s px (upd_ne ne), h6, fun z => h7 (blv q z)⟩
  · by_cases hj : i = j
    · subst hj
      rw [List.getElem?_set_self hi] at e1; cases e1
      rw [hρ] at e3; cases e3
      exact ⟨hc s, nO⟩
    · rw [List.getElem?_set_ne hj] at e1
      obtain ⟨h4, h5⟩ := r.box j d q e1 e2 e3
      have ne : q ≠ p := fun z => by subst z; exact hj (r.binj i j c d q hb hl e1 e2 hρ e3)
      exact ⟨h4.mono s px (upd_ne ne), h5⟩
  · obtain ⟨d1, a1, a2⟩ := key j d e1 e2
    obtain ⟨d2, a3, a4⟩ := key k f e3 e4
    exact r.binj j k d1 d2 q a1 a2 a3 a4 e5 e6
  · have ne : q ≠ p := fun z => nO (z ▸ h)
    rw [upd_ne ne]; exact r.out q h
  · obtain ⟨o', h1⟩ := r.grow q x h
    by_cases ne : q = p
    · subst ne; exact ⟨ob, upd_same⟩
    · exact ⟨o', by rw [upd_ne ne]; exact h1⟩
/-- what a changeable thing is, and how it is changed -/
theorem wr_ok {r : R} {c c' : Cell} {ob : HO} (rl : Rel K F ρ E B σ H) (hnf : ∀ d, r ≠ .fr d) (rr : RepR K F H (LvF F ρ E B σ) ρ E σ r v) (hc : cellOf r E B = some c) (hl : c.live = true) (hl' : c'.live = true) :
    ∃ p, v = .ref p ∧ CellOk K H (LvF F ρ E B σ) ρ c p ∧
      ∀ ob, (∀ Lv', Stp H (LvF F ρ E B σ) (upd H p ob) Lv' → CellOk K (upd H p ob) Lv' ρ c' p) → AftT K F ρ E B σ H ρ (put r E B c').1 (put r E B c').2 (upd H p ob) := by
  have px : ρ <+: ρ := List.prefix_refl _
  have boxed : ∀ j, B[j]? = some c → Rep K H (LvF F ρ E B σ) ρ (.box j) v → ∃ p, v = .ref p ∧ CellOk K H (LvF F ρ E B σ) ρ c p ∧
      ∀ ob, (∀ Lv', Stp H (LvF F ρ E B σ) (upd H p ob) Lv' → CellOk K (upd H p ob) Lv' ρ c' p) → AftT K F ρ E B σ H ρ E (B.set j c') (upd H p ob) := fun j hB hr => by
    simp only [Rep] at hr
    obtain ⟨p, hp, rfl⟩ := hr
    refine ⟨p, rfl, (rl.box j c p hB hl hp).1, fun ob h => ?_⟩
    obtain ⟨h1, h2⟩ := rl.wrB (ob := ob) hB hl hp hl' (h _)
    exact ⟨px, h1, h2, EnLe.refl⟩
  cases r with
  | fr d => exact absurd rfl (hnf d)
  | w x =>
    cases x with
    | box j => exact boxed j hc rr
    | _ => cases hc
  | s i =>
    simp only [cellOf] at hc
    simp only [put]
    split at hc
    · next d hd =>
      cases hc
      obtain ⟨_, p, h1, h2, _⟩ := rl.own i c hd
      have e : v = .ref p := by
        have := rr.1
        rw [h1] at this
        simpa using this.symm
      subst e
      refine ⟨p, rfl, h2, fun ob h => ?_⟩
      obtain ⟨h3, h4, h5⟩ := rl.wrS (ob := ob) hd h1 hl' (h _)
      exact ⟨px, h3, h4, h5⟩
    · next j hj =>
      obtain ⟨w, h4, h5⟩ := rl.val i _ hj
      have e : w = v := by
        have := rr.1
        rw [h4] at this
        simpa using this
      subst e
      exact boxed j hc h5
    · cases hc
end

/-! ### calls of defs -/
def OB (Out : AS) (ρ : List Addr) (B : Bx) : AS := fun q => Out q ∨ BLv ρ B q
structure BRel (K : PySem.W.Frag) (Out : AS) (ρ : List Addr) (B : Bx) (H : Hp) : Prop where
  blen : ρ.length = B.length
  box : ∀ (i : Nat) (c : Cell) (p : Addr), B[i]? = some c → c.live = true → ρ[i]? = some p → CellOk K H (OB Out ρ B) ρ c p ∧ ¬ Out p
  binj : ∀ (i j : Nat) (c d : Cell) (p : Addr), B[i]? = some c → c.live = true → B[j]? = some d → d.live = true → ρ[i]? = some p → ρ[j]? = some p → i = j
  out : ∀ q, Out q → ∃ o, H q = some o
structure BAft (K : PySem.W.Frag) (Out : AS) (ρ : List Addr) (B : Bx) (H : Hp) (u : U) (ρ' : List Addr) (B' : Bx) (H' : Hp) (v : V) : Prop where
  px : ρ <+: ρ'
  rel : BRel K Out ρ' B' H'
  same : ∀ q, Out q → H' q = H q
  stp : Stp H (OB Out ρ B) H' (OB Out ρ' B')
  grow : ∀ q o, H q = some o → ∃ o', H' q = some o'
  rep : Rep K H' (OB Out ρ' B') ρ' u v
/-- the promise: the def does what the function g says -/
def spF (K : PySem.W.Frag) (mg : Str → Option Value) (n : Nat) (g : Fn) : Sp := fun vs H Q Ek => ∃ Out ρ B us, us.length = n ∧ BRel K Out ρ B H ∧ Reps K H (OB Out ρ B) ρ us vs ∧
  match g us B with
  | .ok u B' => ∀ ρ' H' v, BAft K Out ρ B H u ρ' B' H' v → Q v H'
  | .ex c B' => ∀ ρ' H' cls dx v, BAft K Out ρ B H c.val ρ' B' H' v → PySem.W.nsIn K mainGlobals c.cls = some (some cls) → H' dx = some (.xd [("value", v)]) → ¬ OB Out ρ' B' dx → Ek cls (some dx) H'
  | .bad => False
theorem spF_len {K : PySem.W.Frag} {mg : Str → Option Value} {n : Nat} {g : Fn} : ∀ vs H Q E, spF K mg n g vs H Q E → vs.length = n := fun vs H Q E ⟨Out, ρ, B, us, h1, _, h3, _⟩ => by rw [← h3.len]; exact h1
/-- where g says more -/
def FLe (g g' : Fn) : Prop := ∀ us B, g' us B ≠ .bad → g us B = g' us B
theorem spF_imp {K : PySem.W.Frag} {mg : Str → Option Value} {n : Nat} {g g' : Fn} (h : ∀ us B, us.length = n → g' us B ≠ .bad → g us B = g' us B) : ∀ vs H Q E, spF K mg n g' vs H Q E → spF K mg n g vs H Q E := fun vs H Q E ⟨Out, ρ, B, us, h1, h2, h3, h4⟩ =>
  ⟨Out, ρ, B, us, h1, h2, h3, by
    cases e : g' us B with
    | bad => rw [e] at h4; exact h4.elim
    | ex c B' =>
      rw [h us B h1 (by rw [e]; intro z; cases z), e]
      rw [e] at h4
      exact h4
    | ok u B' =>
      rw [h us B h1 (by rw [e]; intro z; cases z), e]
      rw [e] at h4
      exact h4⟩
section
variable {K : PySem.W.Frag} {F : Fm} {ρ ρ' : List Addr} {E E' : En} {B B' : Bx} {σ : L2.St} {H H' : Hp} {p : Addr} {v : V} {u : U} {o : Option HO}
abbrev outOf (F : Fm) (E : En) (σ : L2.St) : AS := fun q => F.Out q ∨ SLv E σ q
theorem ob_iff {q : Addr} : OB (outOf F E σ) ρ B q ↔ LvF F ρ E B σ q := by
  unfold OB LvF outOf
  constructor
  · rintro ((h | h) | h)
    · exact .inl h
    · exact .inr (.inr h)
    · exact .inr (.inl h)
  · rintro (h | h | h)
    · exact .inl (.inl h)
    · exact .inr h
    · exact .inl (.inr h)
theorem ob_eq : OB (outOf F E σ) ρ B = LvF F ρ E B σ := funext fun _ => propext ob_iff
theorem Rel.brel (r : Rel K F ρ E B σ H) : BRel K (outOf F E σ) ρ B H := by
  refine ⟨r.blen, fun i c p h1 h2 h3 => ?_, r.binj, fun q h => r.lv_there q (ob_iff.mp (.inl h))⟩
  obtain ⟨h4, h5⟩ := r.box i c p h1 h2 h3
  rw [ob_eq]
  refine ⟨h4, fun z => z.elim h5 fun ⟨j, d, e1, e2⟩ => ?_⟩
  obtain ⟨_, p', e3, _, _, e4⟩ := r.own j d e1
  rw [e3] at e2
  have : p' = p := by simpa using e2
  subst this
  exact e4 ⟨i, c, h1, h2, h3⟩
theorem Rel.back {v : V} (r : Rel K F ρ E B σ H) (a : BAft K (outOf F E σ) ρ B H u ρ' B' H' v) : Aft K F ρ E B σ H (.w u) ρ' E B' H' v := by
  have s : Stp H (LvF F ρ E B σ) H' (LvF F ρ' E B' σ) := by have := a.stp; rw [ob_eq, ob_eq] at this; exact this
  have rp : Rep K H' (LvF F ρ' E B' σ) ρ' u v := by have := a.rep; rw [ob_eq] at this; exact this
  refine ⟨a.px, ⟨r.elen, a.rel.blen, fun i w h => ?_, fun i c h => ?_, r.oinj, fun i c q h1 h2 h3 => ?_, a.rel.binj, fun q h => ?_, r.old.trans s, fun q x h => ?_⟩, s, EnLe.refl, rp⟩
  · obtain ⟨w', h1, h2⟩ := r.val i w h
    exact ⟨w', h1, h2.mono s a.px⟩
  · obtain ⟨h1, q, h2, h3, h4, h5⟩ := r.own i c h
    have oq : outOf F E σ q := .inr ⟨i, c, h, h2⟩
    exact ⟨h1, q, h2, h3.mono s a.px (a.same q oq), h4, fun ⟨j, d, e1, e2, e3⟩ => (a.rel.box j d q e1 e2 e3).2 oq⟩
  · have := a.rel.box i c q h1 h2 h3
    rw [ob_eq] at this
    exact ⟨this.1, fun z => this.2 (.inl z)⟩
  · rw [a.same q (.inl h)]; exact r.out q h
  · obtain ⟨o', h1⟩ := r.grow q x h
    exact a.grow q o' h1
end
def mCall (g : Fn) (fs : Ar) : Ex := fun E B => (fs E B).bind fun us E1 B1 =>
  match g us B1 with
  | .ok u B2 => .ok (.w u) E1 B2
  | .ex c B2 => .ex c E1 B2
  | .bad => .bad
section
variable {X : Cy} {a b c e : Expr} {es : List Expr} {fa fb : Ex} {fs : Ar} {pos p p2 p3 cpos apos : Pos} {x : Str} {k : Nat} {f : Addr} {fd : FuncData} {ps : List Str} {g : Fn}
theorem ob_not {F : Fm} {ρ : List Addr} {E : En} {B : Bx} {σ : L2.St} {q : Addr} (h : ¬ OB (outOf F E σ) ρ B q) : ¬ LvF F ρ E B σ q := fun z => h (ob_iff.mpr z)
theorem call_reads {sp : Sp} {t : TA} (hsp : sp = spF X.K X.mg ps.length g) (ha : ∀ F ρ E B σ H Q, Rel X.K F ρ E B σ H → PostA X.K X.q F ρ E B σ H (fs E B) Q → t σ H Q) (hlen : ∀ us B, us.length ≠ ps.length → g us B = .bad) :
    ∀ F ρ E B σ H Q, Rel X.K F ρ E B σ H → PostE X.K X.q F ρ E B σ H (mCall g fs E B) Q → tCallS sp (WE X.W) t σ H Q := by
  subst hsp
  intro F ρ E B σ H Q rl q
  refine ha F ρ E B σ H _ rl ?_
  simp only [mCall] at q
  cases h1 : fs E B with
  | bad => rw [h1] at q; exact q
  | ex c E' B' => rw [h1] at q; exact q
  | ok us E1 B1 =>
    rw [h1] at q
    intro ρ1 H1 vs A1
    simp only [O.bind_ok] at q
    have hl : us.length = ps.length := by
      by_cases z : us.length = ps.length
      · exact z
      · rw [hlen us B1 z] at q; exact q.elim
    refine ⟨outOf F E1 σ, ρ1, B1, us, hl, A1.t.rel.brel, by rw [ob_eq]; exact A1.reps, ?_⟩
    cases h2 : g us B1 with
    | bad => rw [h2] at q; exact q.elim
    | ex c B2 =>
      rw [h2] at q
      intro ρ2 H2 cls dx v A2 e1 e2 e3
      have A3 := A1.t.rel.back A2
      exact q ρ2 σ H2 cls (some dx) (A1.t.px.trans A3.px) A3.rel ⟨dx, v, e1, rfl, e2, ob_not e3, A3.rep⟩
    | ok u B2 =>
      rw [h2] at q
      exact fun ρ2 H2 v A2 => q ρ2 H2 v (A1.t.then (A1.t.rel.back A2))
theorem sndE_call (Fk : FnOk X.prog X.w X.K X.mg X.base (L2.CX X.prog X.w) k f fd ps (spF X.K X.mg ps.length g)) (hr : Room k X.A) (hm : X.mg x = some (.ref f)) (hk : PySem.W.keepIn X.K (.ref f) = true) (hb : Binds X.K fd ps []) (hlen : ∀ us B, us.length ≠ ps.length → g us B = .bad) (ha : SndA X (e :: es) fs)
    (hg : Gl X x := by rfl) (hdb : (x == ("__debug__" : Str)) = false := by decide) (hs : starEach (e :: es) X.env = (false, eval e X.env) :: starEach es X.env := by rfl) (hpl : (backTo pos (starEach es X.env)).any (·.1) = false := by rfl) : SndE X (.Call (.Name x p) (e :: es) [] pos) (mCall g fs) := by
  obtain ⟨t, p1, ha⟩ := ha
  exact ⟨_, pe_callS Fk hr hg hm hk hb (fun σ => passAt X.tk σ) p1 hdb hs hpl, call_reads rfl ha hlen⟩
theorem sndE_call0 (Fk : FnOk X.prog X.w X.K X.mg X.base (L2.CX X.prog X.w) k f fd [] (spF X.K X.mg 0 g)) (hr : Room k X.A) (hm : X.mg x = some (.ref f)) (hk : PySem.W.keepIn X.K (.ref f) = true) (hb : Binds X.K fd [] []) (hlen : ∀ us B, us.length ≠ 0 → g us B = .bad)
    (hg : Gl X x := by rfl) (hdb : (x == ("__debug__" : Str)) = false := by decide) : SndE X (.Call (.Name x p) [] [] pos) (mCall g mNil) := by
  refine ⟨tCallS (spF X.K X.mg 0 g) (WE X.W) (fun σ H Q => Q [] H), ⟨fun pins s σ H Q I h => ?_⟩, call_reads (X := X) (ps := []) (fs := mNil) rfl (fun F ρ E B σ H Q rl h => h ρ H [] ⟨AftT.refl rl, Reps.nil⟩) hlen⟩
  refine wpAny_Call_Name_kw (ld_glob I hg hm ?_ hdb)
  exact PySem.W.callWith_K0 I.kIn hk (run_fnS (us := []) (E := WE X.W) Fk hr hb (passAt X.tk σ) I .nil h)
end

/-! ### statements -/
inductive Fl where
  | nx | rt (u : U) | bk | ct
abbrev Sm := En → Bx → O Fl
def PostS (K : PySem.W.Frag) (Y : Xq) (F : Fm) (ρ : List Addr) (o : O Fl) (D : Ends) : Prop :=
  match o with
  | .ok .nx E' B' => ∀ ρ' σ' H', ρ <+: ρ' → Rel K F ρ' E' B' σ' H' → D.nx σ' H'
  | .ok .bk E' B' => ∀ ρ' σ' H', ρ <+: ρ' → Rel K F ρ' E' B' σ' H' → D.bk σ' H'
  | .ok .ct E' B' => ∀ ρ' σ' H', ρ <+: ρ' → Rel K F ρ' E' B' σ' H' → D.ct σ' H'
  | .ok (.rt u) E' B' => ∀ ρ' σ' H' v, ρ <+: ρ' → Rel K F ρ' E' B' σ' H' → Rep K H' (LvF F ρ' E' B' σ') ρ' u v → D.rt v H'
  | .ex c E' B' => ExQ K Y F ρ c E' B'
  | .bad => False
def SndS (X : Cy) (st : Stmt) (f : Sm) : Prop := ∃ t : TS, PS X st t ∧ ∀ F ρ E B σ H D, Rel X.K F ρ E B σ H → PostS X.K X.q F ρ (f E B) D → t D σ H
def SndB (X : Cy) (sts : List Stmt) (f : Sm) : Prop := ∃ t : TS, PSs X sts t ∧ ∀ F ρ E B σ H D, Rel X.K F ρ E B σ H → PostS X.K X.q F ρ (f E B) D → t D σ H
def sNext : Sm := fun E B => .ok .nx E B
def sBreak : Sm := fun E B => .ok .bk E B
def sCont : Sm := fun E B => .ok .ct E B
def sBad : Sm := fun _ _ => .bad
def sSeq (f g : Sm) : Sm := fun E B => (f E B).bind fun fl E1 B1 =>
  match fl with
  | .nx => g E1 B1
  | fl => .ok fl E1 B1
def sSet (i : Nat) (f : Ex) : Sm := fun E B => (f E B).bind fun r E1 B1 =>
  match settle r E1 with
  | some (u, E2) => if i < E2.length then .ok .nx (E2.set i (.val u)) B1 else .bad
  | none => .bad
def sOwn (i : Nat) (f : Ex) : Sm := fun E B => (f E B).bind fun r E1 B1 =>
  match r with
  | .fr c => if i < E1.length then .ok .nx (E1.set i (.own c)) B1 else .bad
  | _ => .bad
def sExpr (f : Ex) : Sm := fun E B => (f E B).bind fun _ E1 B1 => .ok .nx E1 B1
def sRet (f : Ex) : Sm := fun E B => (f E B).bind fun r E1 B1 =>
  match settle r E1 with
  | some (u, E2) => .ok (.rt u) E2 B1
  | none => .bad
def sRetN : Sm := fun E B => .ok (.rt .non) E B
def sIf (c : Te) (f g : Sm) : Sm := fun E B => (c E B).bind fun b E1 B1 => if b = true then f E1 B1 else g E1 B1
theorem PostS.px {K : PySem.W.Frag} {F : Fm} {ρ ρ' : List Addr} {o : O Fl} {D : Ends} (h : PostS K Y F ρ o D) (e : ρ <+: ρ') : PostS K Y F ρ' o D := by
  cases o with
  | bad => exact h
  | ex _ _ _ => exact ExQ.px h e
  | ok fl E B =>
    cases fl with
    | nx => exact fun ρ2 σ H x => h ρ2 σ H (e.trans x)
    | bk => exact fun ρ2 σ H x => h ρ2 σ H (e.trans x)
    | ct => exact fun ρ2 σ H x => h ρ2 σ H (e.trans x)
    | rt u => exact fun ρ2 σ H v x => h ρ2 σ H v (e.trans x)
section
variable {X : Cy} {a b c e : Expr} {es : List Expr} {fa fb : Ex} {ft : Te} {f g : Sm} {pos p p2 p3 cpos apos : Pos} {x : Str} {st : Stmt} {rest sts : List Stmt}
theorem sndB_nil : SndB X [] sNext := ⟨_, pss_nil, fun F ρ E B σ H D rl h => h ρ σ H (List.prefix_refl _) rl⟩
theorem sndB_one (h : SndS X st f) : SndB X [st] f := by
  obtain ⟨t, p1, h⟩ := h
  exact ⟨t, pss_one p1, h⟩
theorem sndB_cons (h : SndS X st f) (hr : SndB X rest g) : SndB X (st :: rest) (sSeq f g) := by
  obtain ⟨t, p1, h⟩ := h
  obtain ⟨u, p2, hr⟩ := hr
  refine ⟨_, pss_cons p1 p2, fun F ρ E B σ H D rl q => ?_⟩
  refine h F ρ E B σ H _ rl ?_
  simp only [sSeq] at q
  cases h1 : f E B with
  | bad => rw [h1] at q; exact q
  | ex c E' B' => rw [h1] at q ; first | exact q | exact Aft.exq (by assumption) q | exact AftT.exq (by assumption) q | exact Aft.exq (by assumption) (Aft.exq (by assumption) q) | exact AftT.exq (by assumption) (Aft.exq (by assumption) q) | exact AftT.exq (AftA.t (by assumption)) q | exact ExQ.px q (Aft.px (by assumption)) | exact ExQ.px q (List.IsPrefix.trans (AftT.px (by assumption)) (Aft.px (by assumption))) | exact Aft.exq (by assumption) (AftT.exq (by assumption) q) | exact Aft.exq (by assumption) (Aft.exq (by assumption) (AftT.exq (by assumption) q))
  | ok fl E1 B1 =>
    rw [h1] at q
    simp only [O.bind_ok] at q
    cases fl with
    | nx => exact fun ρ1 σ1 H1 px r1 => hr F ρ1 E1 B1 σ1 H1 D r1 (q.px px)
    | bk => exact q
    | ct => exact q
    | rt u => exact q
theorem sndS_pass : SndS X (.Pass pos) sNext := ⟨_, ps_pass, fun F ρ E B σ H D rl h => h ρ σ H (List.prefix_refl _) rl⟩
theorem sndS_break : SndS X (.Break pos) sBreak := ⟨_, ps_break, fun F ρ E B σ H D rl h => h ρ σ H (List.prefix_refl _) rl⟩
theorem sndS_continue : SndS X (.Continue pos) sCont := ⟨_, ps_continue, fun F ρ E B σ H D rl h => h ρ σ H (List.prefix_refl _) rl⟩
theorem sndS_never : SndS X st sBad := ⟨_, ps_never, fun F ρ E B σ H D rl h => h.elim⟩
theorem sndB_never : SndB X sts sBad := ⟨_, pss_never, fun F ρ E B σ H D rl h => h.elim⟩
theorem sndS_if {bs cs : List Stmt} (ht : SndT X c ft) (hf : SndB X bs f) (hg : SndB X cs g) : SndS X (.If c bs cs pos) (sIf ft f g) := by
  obtain ⟨t, p1, ht⟩ := ht
  obtain ⟨u, p2, hf⟩ := hf
  obtain ⟨u', p3, hg⟩ := hg
  refine ⟨_, ps_if p1 p2 p3, fun F ρ E B σ H D rl q => ?_⟩
  refine ht F ρ E B σ H _ rl ?_
  simp only [sIf] at q
  cases h1 : ft E B with
  | bad => rw [h1] at q; exact q
  | ex c E' B' => rw [h1] at q ; first | exact q | exact Aft.exq (by assumption) q | exact AftT.exq (by assumption) q | exact Aft.exq (by assumption) (Aft.exq (by assumption) q) | exact AftT.exq (by assumption) (Aft.exq (by assumption) q) | exact AftT.exq (AftA.t (by assumption)) q | exact ExQ.px q (Aft.px (by assumption)) | exact ExQ.px q (List.IsPrefix.trans (AftT.px (by assumption)) (Aft.px (by assumption))) | exact Aft.exq (by assumption) (AftT.exq (by assumption) q) | exact Aft.exq (by assumption) (Aft.exq (by assumption) (AftT.exq (by assumption) q))
  | ok b1 E1 B1 =>
    rw [h1] at q
    intro ρ1 H1 A1
    cases b1 with
    | true =>
      simp only [O.bind_ok, if_true] at q ⊢
      exact hf F ρ1 E1 B1 σ H1 D A1.rel (q.px A1.px)
    | false =>
      simp only [O.bind_ok, Bool.false_eq_true, if_false] at q ⊢
      exact hg F ρ1 E1 B1 σ H1 D A1.rel (q.px A1.px)
theorem set_reads {i : Nat} {t : TE} (ha : ∀ F ρ E B σ H Q, Rel X.K F ρ E B σ H → PostE X.K X.q F ρ E B σ H (fa E B) Q → t σ H Q) : ∀ F ρ E B σ H D, Rel X.K F ρ E B σ H → PostS X.K X.q F ρ (sSet i fa E B) D → tAsg t (gName i) D σ H := by
  intro F ρ E B σ H D rl q
  refine ha F ρ E B σ H _ rl ?_
  simp only [sSet] at q
  cases h1 : fa E B with
  | bad => rw [h1] at q; exact q
  | ex c E' B' => rw [h1] at q ; first | exact q | exact Aft.exq (by assumption) q | exact AftT.exq (by assumption) q | exact Aft.exq (by assumption) (Aft.exq (by assumption) q) | exact AftT.exq (by assumption) (Aft.exq (by assumption) q) | exact AftT.exq (AftA.t (by assumption)) q | exact ExQ.px q (Aft.px (by assumption)) | exact ExQ.px q (List.IsPrefix.trans (AftT.px (by assumption)) (Aft.px (by assumption))) | exact Aft.exq (by assumption) (AftT.exq (by assumption) q) | exact Aft.exq (by assumption) (Aft.exq (by assumption) (AftT.exq (by assumption) q))
  | ok r1 E1 B1 =>
    rw [h1] at q
    intro ρ1 H1 v1 A1
    simp only [O.bind_ok] at q
    split at q
    · next u E2 es =>
      split at q
      · next hi =>
        obtain ⟨T1, R1⟩ := A1.settled es
        exact q ρ1 _ H1 T1.px (T1.rel.setVal hi R1)
      · exact q.elim
    · exact q.elim
theorem own_reads {i : Nat} {t : TE} (ha : ∀ F ρ E B σ H Q, Rel X.K F ρ E B σ H → PostE X.K X.q F ρ E B σ H (fa E B) Q → t σ H Q) : ∀ F ρ E B σ H D, Rel X.K F ρ E B σ H → PostS X.K X.q F ρ (sOwn i fa E B) D → tAsg t (gName i) D σ H := by
  intro F ρ E B σ H D rl q
  refine ha F ρ E B σ H _ rl ?_
  simp only [sOwn] at q
  cases h1 : fa E B with
  | bad => rw [h1] at q; exact q
  | ex c E' B' => rw [h1] at q ; first | exact q | exact Aft.exq (by assumption) q | exact AftT.exq (by assumption) q | exact Aft.exq (by assumption) (Aft.exq (by assumption) q) | exact AftT.exq (by assumption) (Aft.exq (by assumption) q) | exact AftT.exq (AftA.t (by assumption)) q | exact ExQ.px q (Aft.px (by assumption)) | exact ExQ.px q (List.IsPrefix.trans (AftT.px (by assumption)) (Aft.px (by assumption))) | exact Aft.exq (by assumption) (AftT.exq (by assumption) q) | exact Aft.exq (by assumption) (Aft.exq (by assumption) (AftT.exq (by assumption) q))
  | ok r1 E1 B1 =>
    rw [h1] at q
    intro ρ1 H1 v1 A1
    simp only [O.bind_ok] at q
    cases r1 with
    | w _ => exact q.elim
    | s _ => exact q.elim
    | fr c =>
      simp only at q
      split at q
      · next hi =>
        obtain ⟨p, rfl, hl, hc, hn⟩ := A1.rep
        exact q ρ1 _ H1 A1.px (Rel.setOwn (o := H1 p) A1.rel hn hi hl hc)
      · exact q.elim
theorem sndS_set {i : Nat} (ha : SndE X a fa) (hN : X.N.Nodup) (hi : X.N[i]? = some x := by rfl) (hx : Loc X.env.scope x := by first | exact Or.inl rfl | exact Or.inr rfl) (hs : swapsWith a (some (.Name x p)) pos.line X.env = pure false := by rfl)
    (hf : X.fn x = true ∨ X.env.scope.names.lookup x = some .local := by first | exact .inl rfl | exact .inr rfl | assumption) : SndS X (.Assign [.Name x p] a pos) (sSet i fa) := by
  obtain ⟨t, p1, ha⟩ := ha
  exact ⟨_, ps_set hN hi hx p1 hs hf, set_reads ha⟩
theorem sndS_own {i : Nat} (ha : SndE X a fa) (hN : X.N.Nodup) (hi : X.N[i]? = some x := by rfl) (hx : Loc X.env.scope x := by first | exact Or.inl rfl | exact Or.inr rfl) (hs : swapsWith a (some (.Name x p)) pos.line X.env = pure false := by rfl)
    (hf : X.fn x = true ∨ X.env.scope.names.lookup x = some .local := by first | exact .inl rfl | exact .inr rfl | assumption) : SndS X (.Assign [.Name x p] a pos) (sOwn i fa) := by
  obtain ⟨t, p1, ha⟩ := ha
  exact ⟨_, ps_set hN hi hx p1 hs hf, own_reads ha⟩
theorem sndS_expr (ha : SndE X a fa) (hs : swapsWith a none pos.line X.env = pure false := by rfl) : SndS X (.Expr a pos) (sExpr fa) := by
  obtain ⟨t, p1, ha⟩ := ha
  refine ⟨_, ps_expr p1 hs, fun F ρ E B σ H D rl q => ?_⟩
  refine ha F ρ E B σ H _ rl ?_
  simp only [sExpr] at q
  cases h1 : fa E B with
  | bad => rw [h1] at q; exact q
  | ex c E' B' => rw [h1] at q ; first | exact q | exact Aft.exq (by assumption) q | exact AftT.exq (by assumption) q | exact Aft.exq (by assumption) (Aft.exq (by assumption) q) | exact AftT.exq (by assumption) (Aft.exq (by assumption) q) | exact AftT.exq (AftA.t (by assumption)) q | exact ExQ.px q (Aft.px (by assumption)) | exact ExQ.px q (List.IsPrefix.trans (AftT.px (by assumption)) (Aft.px (by assumption))) | exact Aft.exq (by assumption) (AftT.exq (by assumption) q) | exact Aft.exq (by assumption) (Aft.exq (by assumption) (AftT.exq (by assumption) q))
  | ok r1 E1 B1 => rw [h1] at q; exact fun ρ1 H1 v1 A1 => q ρ1 σ H1 A1.px A1.letgo.rel
theorem sndS_ret (ha : SndE X a fa) : SndS X (.Return (some a) pos) (sRet fa) := by
  obtain ⟨t, p1, ha⟩ := ha
  refine ⟨_, ps_ret p1, fun F ρ E B σ H D rl q => ?_⟩
  refine ha F ρ E B σ H _ rl ?_
  simp only [sRet] at q
  cases h1 : fa E B with
  | bad => rw [h1] at q; exact q
  | ex c E' B' => rw [h1] at q ; first | exact q | exact Aft.exq (by assumption) q | exact AftT.exq (by assumption) q | exact Aft.exq (by assumption) (Aft.exq (by assumption) q) | exact AftT.exq (by assumption) (Aft.exq (by assumption) q) | exact AftT.exq (AftA.t (by assumption)) q | exact ExQ.px q (Aft.px (by assumption)) | exact ExQ.px q (List.IsPrefix.trans (AftT.px (by assumption)) (Aft.px (by assumption))) | exact Aft.exq (by assumption) (AftT.exq (by assumption) q) | exact Aft.exq (by assumption) (Aft.exq (by assumption) (AftT.exq (by assumption) q))
  | ok r1 E1 B1 =>
    rw [h1] at q
    intro ρ1 H1 v1 A1
    simp only [O.bind_ok] at q
    split at q
    · next u E2 es =>
      obtain ⟨T1, R1⟩ := A1.settled es
      exact q ρ1 σ H1 v1 T1.px T1.rel R1
    · exact q.elim
theorem sndS_retN : SndS X (.Return none pos) sRetN := ⟨_, ps_retN, fun F ρ E B σ H D rl h => h ρ σ H .non (List.prefix_refl _) rl (by simp [Rep])⟩
end

/-! ### a def by its body -/
def runBody (N n : Nat) (f : Sm) : Fn := fun us B =>
  if us.length = n then
    match f (us.map .val ++ List.replicate (N - us.length) .un) B with
    | .ok (.rt u) _ B' => .ok u B'
    | .ok .nx _ B' => .ok .non B'
    | .ex c _ B' => .ex c B'
    | _ => .bad
  else .bad
theorem runBody_len {N n : Nat} {f : Sm} : ∀ us B, us.length ≠ n → runBody N n f us B = .bad := fun us B h => by unfold runBody; rw [if_neg h]
section
variable {P : Program} {w : World} {K : PySem.W.Frag} {mg : Str → Option Value} {base : Heap}
theorem rel_start {Out : AS} {ρ : List Addr} {B : Bx} {H : Hp} {us : List U} {vs : List V} {N : List Str} (b : BRel K Out ρ B H) (h : Reps K H (OB Out ρ B) ρ us vs) :
    Rel K ⟨Out, H, OB Out ρ B⟩ ρ (us.map .val ++ List.replicate (N.length - us.length) .un) B (L2.start N vs) H := by
  have hl := h.len
  have ev : ∀ (i : Nat) (s : Sl), (us.map Sl.val ++ List.replicate (N.length - us.length) Sl.un)[i]? = some s → s = .un ∨ ∃ u, us[i]? = some u ∧ s = .val u := fun i s e => by
    by_cases hi : i < us.length
    · rw [List.getElem?_append_left (by simpa using hi), List.getElem?_map] at e
      cases q : us[i]? with
      | none => rw [q] at e; cases e
      | some u => rw [q] at e; cases e; exact .inr ⟨u, rfl, rfl⟩
    · rw [List.getElem?_append_right (by simpa using hi)] at e
      exact .inl (List.mem_replicate.mp (List.mem_of_getElem? e)).2
  have nos : ∀ q, ¬ SLv (us.map Sl.val ++ List.replicate (N.length - us.length) Sl.un) (L2.start N vs) q := fun q ⟨i, c, h1, _⟩ => by
    rcases ev i _ h1 with z | ⟨u, _, z⟩ <;> cases z
  have lv : LvF ⟨Out, H, OB Out ρ B⟩ ρ (us.map .val ++ List.replicate (N.length - us.length) .un) B (L2.start N vs) = OB Out ρ B := funext fun q => propext ⟨fun z => by
    rcases z with z | z | z
    · exact .inl z
    · exact .inr z
    · exact absurd z (nos q), fun z => by
    rcases z with z | z
    · exact .inl z
    · exact .inr (.inl z)⟩
  refine ⟨by simp [L2.start, hl], b.blen, fun i u e => ?_, fun i c e => ?_, fun i j c d q e1 e2 e3 e4 => ?_, fun i c q h1 h2 h3 => ?_, b.binj, fun q h => ⟨rfl, b.out q h⟩, by rw [lv]; exact Stp.refl, fun q o h => ⟨o, h⟩⟩
  · rw [lv]
    rcases ev i _ e with z | ⟨u', h1, z⟩
    · cases z
    · cases z
      obtain ⟨v, h2, h3⟩ := h.get h1
      have hi : i < vs.length := (List.getElem?_eq_some_iff.mp h2).1
      exact ⟨v, by unfold L2.start; rw [List.getElem?_append_left (by simpa using hi), List.getElem?_map, h2]; rfl, h3⟩
  · rcases ev i _ e with z | ⟨u, _, z⟩ <;> cases z
  · rcases ev i _ e1 with z | ⟨u, _, z⟩ <;> cases z
  · rw [lv]; exact b.box i c q h1 h2 h3
theorem rel_end {Out : AS} {ρ ρ' : List Addr} {B B' : Bx} {E' : En} {σ' : L2.St} {H H' : Hp} {u : U} {v : V} (px : ρ <+: ρ') (r : Rel K ⟨Out, H, OB Out ρ B⟩ ρ' E' B' σ' H') (h : Rep K H' (LvF ⟨Out, H, OB Out ρ B⟩ ρ' E' B' σ') ρ' u v) : BAft K Out ρ B H u ρ' B' H' v := by
  have less : ∀ q, OB Out ρ' B' q → LvF ⟨Out, H, OB Out ρ B⟩ ρ' E' B' σ' q := fun q z => by
    rcases z with z | z
    · exact .inl z
    · exact .inr (.inl z)
  have s : Stp H' (LvF ⟨Out, H, OB Out ρ B⟩ ρ' E' B' σ') H' (OB Out ρ' B') := Stp.less less
  have px' : ρ' <+: ρ' := List.prefix_refl _
  refine ⟨px, ⟨r.blen, fun i c p h1 h2 h3 => ?_, r.binj, fun q h => ?_⟩, fun q h => (r.out q h).1, r.old.trans s, r.grow, h.mono s px'⟩
  · obtain ⟨h4, h5⟩ := r.box i c p h1 h2 h3
    exact ⟨h4.mono s px' rfl, h5⟩
  · obtain ⟨h1, o, h2⟩ := r.out q h
    exact ⟨o, by rw [h1]; exact h2⟩
/-- a def's context: what leaves it is wished by its caller -/
abbrev defY (P : Program) (w : World) (K : PySem.W.Frag) (mg : Str → Option Value) (base : Heap) (N : List Str) (qual : Str) (scope : Scope) (f : Addr) (cd : Value) (A : Around) (outer : List Env) (s : Shared) (H : Hp) (E : XK) : Cy :=
  ⟨cxOf (L2.CX P w) P w K mg base N qual scope f cd A outer s H E, fun cls d _ H' => E cls d H', takes_of rfl rfl rfl rfl, passes_of rfl⟩
theorem fn_body {x qual : Str} {st : Stmt} {f : Addr} {fd : FuncData} {N ps : List Str} {k : Nat} {body : Sm} (Fu : Fun K x qual st f fd) (S : FnScope N ps (defScope st))
    (h : ∀ (cdv : Value) (A : Around) (outer : List Env) (s : Shared) (H : Hp) (E : XK), Room k (A.deeper (PyProof.Rows.envOfC qual (defScope st) s.heap.objs.size f cdv)) →
      SndB (defY P w K mg base N qual (defScope st) f cdv A outer s H E) (defBody st) body) : FnOk P w K mg base (L2.CX P w) (k + 1) f fd ps (spF K mg ps.length (runBody N.length ps.length body)) := by
  refine Fu.okX S spF_len fun cdv A outer s H vs Q E hr hsp => ?_
  obtain ⟨t, p1, ht⟩ := h cdv A outer s H E hr
  refine ⟨t, p1, ?_⟩
  obtain ⟨Out, ρ, B, us, hl, hb, hrs, q⟩ := hsp
  refine ht ⟨Out, H, OB Out ρ B⟩ ρ (us.map Sl.val ++ List.replicate (N.length - us.length) Sl.un) B (L2.start N vs) H _ (rel_start (N := N) hb hrs) ?_
  unfold runBody at q
  rw [if_pos hl] at q
  cases h1 : body (us.map .val ++ List.replicate (N.length - us.length) .un) B with
  | bad => rw [h1] at q; exact q.elim
  | ex c E' B' =>
    rw [h1] at q
    intro ρ' σ' H' cls d px r x
    obtain ⟨dx, v, e1, rfl, e2, e3, e4⟩ := x
    exact q ρ' H' cls dx v (rel_end px r e4) e1 e2 fun z => e3 (by rcases z with z | z; exact .inl z; exact .inr (.inl z))
  | ok fl E' B' =>
    rw [h1] at q
    cases fl with
    | nx => exact fun ρ' σ' H' px r => q ρ' H' .non (rel_end px r (by simp [Rep]))
    | rt u => exact fun ρ' σ' H' v px r hr => q ρ' H' v (rel_end px r hr)
    | bk => exact q.elim
    | ct => exact q.elim
end
end QB
/-! QbG: methods, stores, loops. -/
namespace QB
open PySem L2
section
variable {X : Cy} {a b c e o i : Expr} {es : List Expr} {fa fb fo fe fi : Ex} {fs : Ar} {pos p p2 p3 cpos apos pos' : Pos} {x name : Str}

/-! ### methods of texts -/
theorem mM_reads {id : String} {g : U → List U → Option R} {r : V → List V → Hp → VK → Prop} {to : TE} {t : TA}
    (hm : ∀ F ρ E B σ H (z : Str) us vs r3 Q, Rel X.K F ρ E B σ H → Reps X.K H (LvF F ρ E B σ) ρ us vs → g (.str z) us = some r3 → (∀ H' v, Aft X.K F ρ E B σ H r3 ρ E B H' v → Q v H') → r (.str z) vs H Q)
    (ho : ∀ F ρ E B σ H Q, Rel X.K F ρ E B σ H → PostE X.K X.q F ρ E B σ H (fo E B) Q → to σ H Q) (ha : ∀ F ρ E B σ H Q, Rel X.K F ρ E B σ H → PostA X.K X.q F ρ E B σ H (fs E B) Q → t σ H Q) :
    ∀ F ρ E B σ H Q, Rel X.K F ρ E B σ H → PostE X.K X.q F ρ E B σ H (mM g fo fs E B) Q → to σ H fun x H1 => (∃ z, x = .str z) ∧ t σ H1 fun xs H2 => r x xs H2 Q := by
  intro F ρ E B σ H Q rl q
  refine ho F ρ E B σ H _ rl ?_
  simp only [mM] at q
  cases h1 : fo E B with
  | bad => rw [h1] at q; exact q
  | ex c E' B' => rw [h1] at q ; first | exact q | exact Aft.exq (by assumption) q | exact AftT.exq (by assumption) q | exact Aft.exq (by assumption) (Aft.exq (by assumption) q) | exact AftT.exq (by assumption) (Aft.exq (by assumption) q) | exact AftT.exq (AftA.t (by assumption)) q | exact ExQ.px q (Aft.px (by assumption)) | exact ExQ.px q (List.IsPrefix.trans (AftT.px (by assumption)) (Aft.px (by assumption))) | exact Aft.exq (by assumption) (AftT.exq (by assumption) q) | exact Aft.exq (by assumption) (Aft.exq (by assumption) (AftT.exq (by assumption) q))
  | ok r1 E1 B1 =>
    rw [h1] at q
    intro ρ1 H1 v1 A1
    simp only [O.bind_ok] at q
    split at q
    · next r' z =>
      have rr := A1.rep
      simp only [RepR, Rep] at rr
      subst rr
      have T1 := A1.letgo
      refine ⟨⟨z, rfl⟩, ha F ρ1 E1 B1 σ H1 _ T1.rel ?_⟩
      cases h2 : fs E1 B1 with
      | bad => rw [h2] at q; exact q
      | ex c E' B' => rw [h2] at q ; first | exact q | exact Aft.exq (by assumption) q | exact AftT.exq (by assumption) q | exact Aft.exq (by assumption) (Aft.exq (by assumption) q) | exact AftT.exq (by assumption) (Aft.exq (by assumption) q) | exact AftT.exq (AftA.t (by assumption)) q | exact ExQ.px q (Aft.px (by assumption)) | exact ExQ.px q (List.IsPrefix.trans (AftT.px (by assumption)) (Aft.px (by assumption))) | exact Aft.exq (by assumption) (AftT.exq (by assumption) q) | exact Aft.exq (by assumption) (Aft.exq (by assumption) (AftT.exq (by assumption) q))
      | ok us E2 B2 =>
        rw [h2] at q
        intro ρ2 H2 vs A2
        simp only [O.bind_ok] at q
        split at q
        · next r3 eg => exact hm F ρ2 E2 B2 σ H2 z us vs r3 Q A2.t.rel A2.reps eg fun H' v A3 => q ρ2 H' v ((T1.trans A2.t).then A3)
        · exact q.elim
    · exact q.elim
theorem sndE_m1 {id : String} {g : U → List U → Option R} (slot : Slot "str" name id) (ty : typeOf (.builtin id) = pure (.type "method_descriptor")) (hm : MethS X id g) (ho : SndE X o fo) (ha : SndE X e fe)
    (hs : starEach [e] X.env = [(false, eval e X.env)] := by rfl) (hb : attributeBase o name X.env (eval o X.env) = eval o X.env := by rfl) (hl : (apos.endLine == pos.line) = true := by rfl) : SndE X (.Call (.Attribute o name apos) [e] [] pos) (mM g fo (mCons fe mNil)) := by
  obtain ⟨r, hr, hm⟩ := hm
  obtain ⟨to, po, ho⟩ := ho
  have ⟨te, pe, he⟩ := ha
  obtain ⟨t, pt, ht⟩ := sndA_cons ha sndA_nil hs
  refine ⟨_, pe_m1 slot ty hr po pe hs hb hl, fun F ρ E B σ H Q rl q => ?_⟩
  -- one argument: the list reading and the single one say the same
  have key : ∀ F ρ E B σ H Q, Rel X.K F ρ E B σ H → PostA X.K X.q F ρ E B σ H (mCons fe mNil E B) Q → (fun σ H Q => te σ H fun y H2 => Q [y] H2 : TA) σ H Q := by
    intro F ρ E B σ H Q rl q
    refine he F ρ E B σ H _ rl ?_
    simp only [mCons] at q
    cases h1 : fe E B with
    | bad => rw [h1] at q; exact q
    | ex c E' B' => rw [h1] at q ; first | exact q | exact Aft.exq (by assumption) q | exact AftT.exq (by assumption) q | exact Aft.exq (by assumption) (Aft.exq (by assumption) q) | exact AftT.exq (by assumption) (Aft.exq (by assumption) q) | exact AftT.exq (AftA.t (by assumption)) q | exact ExQ.px q (Aft.px (by assumption)) | exact ExQ.px q (List.IsPrefix.trans (AftT.px (by assumption)) (Aft.px (by assumption))) | exact Aft.exq (by assumption) (AftT.exq (by assumption) q) | exact Aft.exq (by assumption) (Aft.exq (by assumption) (AftT.exq (by assumption) q))
    | ok r1 E1 B1 =>
      rw [h1] at q
      intro ρ1 H1 v1 A1
      simp only [O.bind_ok] at q
      split at q
      · next u E2 es =>
        obtain ⟨T1, R1⟩ := A1.settled es
        exact q ρ1 H1 [v1] ⟨T1, Reps.one R1⟩
      · exact q.elim
  have := mM_reads (id := id) (r := r) (to := to) hm ho key F ρ E B σ H Q rl q
  exact this
theorem sndE_m0 {id : String} {g : U → List U → Option R} (slot : Slot "str" name id) (ty : typeOf (.builtin id) = pure (.type "method_descriptor")) (hm : MethS X id g) (ho : SndE X o fo)
    (hb : attributeBase o name X.env (eval o X.env) = eval o X.env := by rfl) (hl : (apos.endLine == pos.line) = true := by rfl) : SndE X (.Call (.Attribute o name apos) [] [] pos) (mM g fo mNil) := by
  obtain ⟨r, hr, hm⟩ := hm
  obtain ⟨to, po, ho⟩ := ho
  refine ⟨_, pe_m0 slot ty hr po hb hl, fun F ρ E B σ H Q rl q => ?_⟩
  exact mM_reads (id := id) (r := r) (to := to) (fs := mNil) (t := fun _ H Q => Q [] H) hm ho (fun F ρ E B σ H Q rl h => h ρ H [] ⟨AftT.refl rl, Reps.nil⟩) F ρ E B σ H Q rl q
theorem sndE_mn {id : String} {g : U → List U → Option R} (pa : PlainAttrs "str") (slot : Slot "str" name id) (ty : typeOf (.builtin id) = pure (.type "method_descriptor")) (hm : MethS X id g) (ho : SndE X o fo) (ha : SndA X (e :: es) fs)
    (hb : attributeBase o name X.env (eval o X.env) = eval o X.env := by rfl) (h3 : (((backTo cpos (starEach (e :: es) X.env)).all fun x => !x.1) && (backToKw cpos (keywordEach [] X.env)).all (·.1.isSome) && decide ((e :: es).length + ([] : List Keyword).length + (if ([] : List Keyword).isEmpty = true then 0 else 1) < 30)) = true := by rfl)
    (hl : (apos.endLine == cpos.line) = true := by rfl) (hs : starEach (e :: es) X.env = (false, eval e X.env) :: starEach es X.env := by rfl) (hpl : (backTo cpos (starEach es X.env)).any (·.1) = false := by rfl) : SndE X (.Call (.Attribute o name apos) (e :: es) [] cpos) (mM g fo fs) := by
  obtain ⟨r, hr, hm⟩ := hm
  obtain ⟨to, po, ho⟩ := ho
  obtain ⟨t, pt, ht⟩ := ha
  refine ⟨_, pe_bm pa slot ty hr po pt hb h3 hl hs hpl, fun F ρ E B σ H Q rl q => ?_⟩
  have := mM_reads (id := id) (r := r) (to := to) hm ho ht F ρ E B σ H (fun v H2 => Q v H2) rl q
  refine (?_ : to σ H fun x H1 => tyV X.K "str" x H1 ∧ t σ H1 fun xs H2 => r x xs H2 Q)
  refine ho F ρ E B σ H _ rl ?_
  simp only [mM] at q
  cases h1 : fo E B with
  | bad => rw [h1] at q; exact q
  | ex c E' B' => rw [h1] at q ; first | exact q | exact Aft.exq (by assumption) q | exact AftT.exq (by assumption) q | exact Aft.exq (by assumption) (Aft.exq (by assumption) q) | exact AftT.exq (by assumption) (Aft.exq (by assumption) q) | exact AftT.exq (AftA.t (by assumption)) q | exact ExQ.px q (Aft.px (by assumption)) | exact ExQ.px q (List.IsPrefix.trans (AftT.px (by assumption)) (Aft.px (by assumption))) | exact Aft.exq (by assumption) (AftT.exq (by assumption) q) | exact Aft.exq (by assumption) (Aft.exq (by assumption) (AftT.exq (by assumption) q))
  | ok r1 E1 B1 =>
    rw [h1] at q
    intro ρ1 H1 v1 A1
    simp only [O.bind_ok] at q
    split at q
    · next r' z =>
      have rr := A1.rep
      simp only [RepR, Rep] at rr
      subst rr
      have T1 := A1.letgo
      refine ⟨rfl, ht F ρ1 E1 B1 σ H1 _ T1.rel ?_⟩
      cases h2 : fs E1 B1 with
      | bad => rw [h2] at q; exact q
      | ex c E' B' => rw [h2] at q ; first | exact q | exact Aft.exq (by assumption) q | exact AftT.exq (by assumption) q | exact Aft.exq (by assumption) (Aft.exq (by assumption) q) | exact AftT.exq (by assumption) (Aft.exq (by assumption) q) | exact AftT.exq (AftA.t (by assumption)) q | exact ExQ.px q (Aft.px (by assumption)) | exact ExQ.px q (List.IsPrefix.trans (AftT.px (by assumption)) (Aft.px (by assumption))) | exact Aft.exq (by assumption) (AftT.exq (by assumption) q) | exact Aft.exq (by assumption) (Aft.exq (by assumption) (AftT.exq (by assumption) q))
      | ok us E2 B2 =>
        rw [h2] at q
        intro ρ2 H2 vs A2
        simp only [O.bind_ok] at q
        split at q
        · next r3 eg => exact hm F ρ2 E2 B2 σ H2 z us vs r3 Q A2.t.rel A2.reps eg fun H' v A3 => q ρ2 H' v ((T1.trans A2.t).then A3)
        · exact q.elim
    · exact q.elim
def strsOf : List U → Option (List Str)
  | [] => some []
  | .str b :: us => (strsOf us).map (b :: ·)
  | _ => none
theorem strsOf_reps {K : PySem.W.Frag} {H : Hp} {Lv : AS} {ρ : List Addr} : ∀ {us : List U} {vs : List V} {bs : List Str}, Reps K H Lv ρ us vs → strsOf us = some bs → vs = bs.map V.str
  | [], vs, bs, h, e => by simp only [Reps] at h; subst h; simp only [strsOf, Option.some.injEq] at e; subst e; rfl
  | u :: us, vs, bs, h, e => by
    simp only [Reps] at h
    obtain ⟨v, r, rfl, h1, h2⟩ := h
    cases u <;> simp only [strsOf, Option.map_eq_some_iff] at e <;> first | (cases e; done) | skip
    obtain ⟨cs, e1, rfl⟩ := e
    simp only [Rep] at h1
    rw [h1, strsOf_reps h2 e1]; rfl
def gJoin : U → List U → Option R
  | .str a, [.lst us] => match strsOf us with
    | some ys => if (ys.map (·.length)).sum + ys.length * a.length ≤ 16777216 then some (.w (.str (Txt.join a ys))) else none
    | none => none
  | _, _ => none
theorem meth_join : MethS X "str.join" gJoin := by
  refine ⟨_, mt_join, fun F ρ E B σ H z us vs r3 Q rl rs e q => ?_⟩
  unfold gJoin at e
  split at e
  · next a ws hz =>
    injection hz with hz
    subst hz
    split at e
    · next ys ey =>
      split at e
      · next hl =>
        cases e
        simp only [Reps, Rep] at rs
        obtain ⟨v, r, rfl, ⟨p, xs, rfl, ⟨h1, _⟩, h2⟩, rfl⟩ := rs
        exact ⟨_, p, ys, rfl, rfl, .inl (.inl (.inl (by rw [h1, strsOf_reps h2 ey]))), hl, q H _ (Aft.val rl (by simp [Rep]))⟩
      · cases e
    · cases e
  · cases e
def gFind3 : U → List U → Option R
  | .str a, [.str b, .int i] => some (.w (.int (Txt.find3 a b i)))
  | _, _ => none
theorem meth_find3 : MethS X "str.find" gFind3 := by
  refine ⟨_, mt_find3, fun F ρ E B σ H z us vs r3 Q rl rs e q => ?_⟩
  unfold gFind3 at e
  split at e
  · next a b i hz =>
    injection hz with hz
    subst hz
    cases e
    simp only [Reps, Rep] at rs
    obtain ⟨v, r, rfl, rfl, w, r2, rfl, rfl, rfl⟩ := rs
    exact ⟨_, b, i, rfl, rfl, q H _ (Aft.val rl (by simp [Rep]))⟩
  · cases e
def gPartition : U → List U → Option R
  | .str a, [.str b] => if (b.length == 0) = false ∧ a.length ≤ 16777216 then some (.w (.tup [.str (Txt.partition a b).1, .str (Txt.partition a b).2.1, .str (Txt.partition a b).2.2])) else none
  | _, _ => none
theorem meth_partition : MethS X "str.partition" gPartition := by
  refine ⟨_, mt_partition, fun F ρ E B σ H z us vs r3 Q rl rs e q => ?_⟩
  unfold gPartition at e
  split at e
  · next a b hz =>
    injection hz with hz
    subst hz
    split at e
    · next hc =>
      cases e
      simp only [Reps, Rep] at rs
      obtain ⟨v, r, rfl, rfl, rfl⟩ := rs
      exact ⟨_, b, rfl, rfl, hc.1, by rw [sizeLine_eq]; exact hc.2, fun p hp => q _ _ (Aft.tuple rl hp (by simp [Reps, Rep]))⟩
    · cases e
  · cases e

/-! ### lists that change -/
def mAppend (fo fe : Ex) : Ex := fun E B => (fo E B).bind fun r E1 B1 =>
  match cellOf r E1 B1 with
  | some (.lst _) => (mCons fe mNil E1 B1).bind fun us E2 B2 =>
    match us, cellOf r E2 B2 with
    | [u], some (.lst xs) => if xs.length < 16777216 then .ok (.w .non) (put r E2 B2 (.lst (xs ++ [u]))).1 (put r E2 B2 (.lst (xs ++ [u]))).2 else .bad
    | _, _ => .bad
  | _ => .bad
theorem cellOf_nfr {r : R} {E : En} {B : Bx} {c : Cell} (h : cellOf r E B = some c) : ∀ d, r ≠ .fr d := fun d z => by subst z; cases h
theorem addR_nfr {F : Fm} {H : Hp} {r : R} {v : V} (h : ∀ d, r ≠ .fr d) : F.addR H r v = F := by
  cases r with
  | fr d => exact absurd rfl (h d)
  | w _ => rfl
  | s _ => rfl
theorem sndE_append (ho : SndE X o fo) (ha : SndE X e fe) (hb : attributeBase o "append" X.env (eval o X.env) = eval o X.env := by rfl)
    (h3 : (((backTo cpos (starEach [e] X.env)).all fun x => !x.1) && (backToKw cpos (keywordEach [] X.env)).all (·.1.isSome) && decide ([e].length + ([] : List Keyword).length + (if ([] : List Keyword).isEmpty = true then 0 else 1) < 30)) = true := by rfl)
    (hl : (apos.endLine == cpos.line) = true := by rfl) (hs : starEach [e] X.env = (false, eval e X.env) :: starEach [] X.env := by rfl) : SndE X (.Call (.Attribute o "append" apos) [e] [] cpos) (mAppend fo fe) := by
  obtain ⟨to, po, ho⟩ := ho
  obtain ⟨t, pt, ht⟩ := sndA_cons ha sndA_nil hs
  refine ⟨_, pe_bm PySem.F.plainAttrs_list PySem.F.slot_list_append PySem.F.type_list_append mt_append po pt hb h3 hl hs, fun F ρ E B σ H Q rl q => ?_⟩
  refine ho F ρ E B σ H _ rl ?_
  simp only [mAppend] at q
  cases h1 : fo E B with
  | bad => rw [h1] at q; exact q
  | ex c E' B' => rw [h1] at q ; first | exact q | exact Aft.exq (by assumption) q | exact AftT.exq (by assumption) q | exact Aft.exq (by assumption) (Aft.exq (by assumption) q) | exact AftT.exq (by assumption) (Aft.exq (by assumption) q) | exact AftT.exq (AftA.t (by assumption)) q | exact ExQ.px q (Aft.px (by assumption)) | exact ExQ.px q (List.IsPrefix.trans (AftT.px (by assumption)) (Aft.px (by assumption))) | exact Aft.exq (by assumption) (AftT.exq (by assumption) q) | exact Aft.exq (by assumption) (Aft.exq (by assumption) (AftT.exq (by assumption) q))
  | ok r1 E1 B1 =>
    rw [h1] at q
    intro ρ1 H1 v1 A1
    simp only [O.bind_ok] at q
    split at q
    · next xs0 hc0 =>
      have nf := cellOf_nfr hc0
      have ae : F.addR H1 r1 v1 = F := addR_nfr nf
      have rel1 : Rel X.K F ρ1 E1 B1 σ H1 := by have := A1.rel; rw [ae] at this; exact this
      have rep1 : RepR X.K F H1 (LvF F ρ1 E1 B1 σ) ρ1 E1 σ r1 v1 := by have := A1.rep; rw [ae] at this; exact this
      obtain ⟨p0, e0, c0, _⟩ := wr_ok (c' := .lst xs0) (ob := .lst []) rel1 nf rep1 hc0 rfl rfl
      obtain ⟨vs0, hv0, _⟩ := c0
      subst e0
      refine ⟨.inl ⟨rfl, vs0, .inl (.inl hv0)⟩, ?_⟩
      refine ht F ρ1 E1 B1 σ H1 _ rel1 ?_
      cases h2 : mCons fe mNil E1 B1 with
      | bad => rw [h2] at q; exact q
      | ex c E' B' => rw [h2] at q ; first | exact q | exact Aft.exq (by assumption) q | exact AftT.exq (by assumption) q | exact Aft.exq (by assumption) (Aft.exq (by assumption) q) | exact AftT.exq (by assumption) (Aft.exq (by assumption) q) | exact AftT.exq (AftA.t (by assumption)) q | exact ExQ.px q (Aft.px (by assumption)) | exact ExQ.px q (List.IsPrefix.trans (AftT.px (by assumption)) (Aft.px (by assumption))) | exact Aft.exq (by assumption) (AftT.exq (by assumption) q) | exact Aft.exq (by assumption) (Aft.exq (by assumption) (AftT.exq (by assumption) q))
      | ok us E2 B2 =>
        rw [h2] at q
        intro ρ2 H2 vs A2
        simp only [O.bind_ok] at q
        split at q
        · next u xs hc =>
          split at q
          · next hlen =>
            have A12 : Aft X.K F ρ E B σ H r1 ρ2 E2 B2 H2 (.ref p0) := A1.carry (by rw [ae]; exact A2.t)
            have ae2 : F.addR H2 r1 (.ref p0) = F := addR_nfr nf
            have rel2 : Rel X.K F ρ2 E2 B2 σ H2 := by have := A12.rel; rw [ae2] at this; exact this
            have rep2 : RepR X.K F H2 (LvF F ρ2 E2 B2 σ) ρ2 E2 σ r1 (.ref p0) := by have := A12.rep; rw [ae2] at this; exact this
            have R2 := A2.reps
            simp only [Reps] at R2
            obtain ⟨v, rr, rfl, hru, rfl⟩ := R2
            obtain ⟨p, ep, cp, wr⟩ := wr_ok (c' := .lst (xs ++ [u])) (ob := .lst []) rel2 nf rep2 hc rfl rfl
            have e' : p0 = p := by injection ep
            subst e'
            obtain ⟨ws, hw, hr⟩ := cp
            have T := wr (.lst (ws ++ [v])) fun Lv' s => ⟨ws ++ [v], upd_same, (hr.mono s (List.prefix_refl _)).append (Reps.one (Rep.mono s (List.prefix_refl _) _ _ hru))⟩
            refine ⟨p0, ws, v, rfl, rfl, hw, by rw [sizeLine_eq, ← hr.len]; exact hlen, ?_⟩
            exact q ρ2 _ _ ((A12.letgo.trans T).then (Aft.val T.rel (by simp [Rep])))
          · exact q.elim
        · exact q.elim
    · exact q.elim
/-- o[i] = e, o a list -/
def sStore (fe fo fi : Ex) : Sm := fun E B => (fe E B).bind fun r0 E0 B0 =>
  match settle r0 E0 with
  | none => .bad
  | some (u, E0') => (fo E0' B0).bind fun r E1 B1 => (fi E1 B1).bind fun ri E2 B2 =>
    match ri, cellOf r E2 B2 with
    | .w (.int k), some (.lst xs) => match ixN xs.length k with
      | some j => .ok .nx (put r E2 B2 (.lst (xs.set j u))).1 (put r E2 B2 (.lst (xs.set j u))).2
      | none => .bad
    | _, _ => .bad
theorem sndS_store (he : SndE X e fe) (ho : SndE X o fo) (hi : SndE X i fi) (hs : swapsWithSole [.Subscript o i p] e pos.line X.env = pure false := by rfl) (hw : swappedStores [.Subscript o i p] e X.env = pure none := by rfl)
    (h1 : (assignEach [.Subscript o i p] X.env).map (·.2) = [assign (.Subscript o i p) X.env] := by rfl)
    (hA : ∀ v, assign (.Subscript o i p) X.env v = (do
      let ov ← holding [v] (eval o X.env)
      let iv ← holding [v, ov] (eval i X.env)
      standAt p
      holding [v, ov, iv] (setItem ov iv v)
      release [v, ov, iv] []) := by intro _; rfl) : SndS X (.Assign [.Subscript o i p] e pos) (sStore fe fo fi) := by
  obtain ⟨te, pe, he⟩ := he
  obtain ⟨to, po, ho⟩ := ho
  obtain ⟨ti, pi, hi⟩ := hi
  refine ⟨_, ps_asg pe (pg_sub po pi set_list hA) hs hw h1, fun F ρ E B σ H D rl q => ?_⟩
  refine he F ρ E B σ H _ rl ?_
  simp only [sStore] at q
  cases h1 : fe E B with
  | bad => rw [h1] at q; exact q
  | ex c E' B' => rw [h1] at q ; first | exact q | exact Aft.exq (by assumption) q | exact AftT.exq (by assumption) q | exact Aft.exq (by assumption) (Aft.exq (by assumption) q) | exact AftT.exq (by assumption) (Aft.exq (by assumption) q) | exact AftT.exq (AftA.t (by assumption)) q | exact ExQ.px q (Aft.px (by assumption)) | exact ExQ.px q (List.IsPrefix.trans (AftT.px (by assumption)) (Aft.px (by assumption))) | exact Aft.exq (by assumption) (AftT.exq (by assumption) q) | exact Aft.exq (by assumption) (Aft.exq (by assumption) (AftT.exq (by assumption) q))
  | ok r0 E0 B0 =>
    rw [h1] at q
    intro ρ0 H0 v0 A0
    simp only [O.bind_ok] at q
    split at q
    · exact q.elim
    · next u E0' es =>
      obtain ⟨T0, R0⟩ := A0.settled es
      refine ho F ρ0 E0' B0 σ H0 _ T0.rel ?_
      cases h2 : fo E0' B0 with
      | bad => rw [h2] at q; exact q
      | ex c E' B' => rw [h2] at q ; first | exact q | exact Aft.exq (by assumption) q | exact AftT.exq (by assumption) q | exact Aft.exq (by assumption) (Aft.exq (by assumption) q) | exact AftT.exq (by assumption) (Aft.exq (by assumption) q) | exact AftT.exq (AftA.t (by assumption)) q | exact ExQ.px q (Aft.px (by assumption)) | exact ExQ.px q (List.IsPrefix.trans (AftT.px (by assumption)) (Aft.px (by assumption))) | exact Aft.exq (by assumption) (AftT.exq (by assumption) q) | exact Aft.exq (by assumption) (Aft.exq (by assumption) (AftT.exq (by assumption) q))
      | ok r E1 B1 =>
        rw [h2] at q
        intro ρ1 H1 v1 A1
        simp only [O.bind_ok] at q
        refine hi _ ρ1 E1 B1 σ H1 _ A1.rel ?_
        cases h3 : fi E1 B1 with
        | bad => rw [h3] at q; exact q
        | ex c E' B' => rw [h3] at q ; first | exact q | exact Aft.exq (by assumption) q | exact AftT.exq (by assumption) q | exact Aft.exq (by assumption) (Aft.exq (by assumption) q) | exact AftT.exq (by assumption) (Aft.exq (by assumption) q) | exact AftT.exq (AftA.t (by assumption)) q | exact ExQ.px q (Aft.px (by assumption)) | exact ExQ.px q (List.IsPrefix.trans (AftT.px (by assumption)) (Aft.px (by assumption))) | exact Aft.exq (by assumption) (AftT.exq (by assumption) q) | exact Aft.exq (by assumption) (Aft.exq (by assumption) (AftT.exq (by assumption) q))
        | ok ri E2 B2 =>
          rw [h3] at q
          intro ρ2 H2 v2 A2
          simp only [O.bind_ok] at q
          split at q
          · next r' k xs hc =>
            split at q
            · next j hj =>
              have nf := cellOf_nfr hc
              have A2' := A2.letgo
              have A12 := A1.carry A2'
              have ae2 : F.addR H2 r v1 = F := addR_nfr nf
              have rel2 : Rel X.K F ρ2 E2 B2 σ H2 := by have := A12.rel; rw [ae2] at this; exact this
              have rep2 : RepR X.K F H2 (LvF F ρ2 E2 B2 σ) ρ2 E2 σ r v1 := by have := A12.rep; rw [ae2] at this; exact this
              have rr := A2.rep
              simp only [RepR, Rep] at rr
              subst rr
              have hru : Rep X.K H2 (LvF F ρ2 E2 B2 σ) ρ2 u v0 := Rep.mono A12.letgo.stp A12.px _ _ R0
              obtain ⟨pp, ep, cp, wr⟩ := wr_ok (c' := .lst (xs.set j u)) (ob := .lst []) rel2 nf rep2 hc rfl rfl
              obtain ⟨ws, hw, hr⟩ := cp
              have T := wr (.lst (ws.set j v0)) fun Lv' s => ⟨ws.set j v0, upd_same, Reps.set j (hr.mono s (List.prefix_refl _)) (Rep.mono s (List.prefix_refl _) _ _ hru)⟩
              refine ⟨pp, ws, k, j, ep, rfl, hw, by rw [← hr.len]; exact hj, ?_⟩
              exact q ρ2 σ _ ((T0.trans A12.letgo).px) T.rel
            · exact q.elim
          · exact q.elim
/-! ### name op= e -/
def sAug (k : Nat) (g : U → U → Option R) (fe : Ex) : Sm := fun E B =>
  match E[k]? with
  | some (.val u1) => match flatU u1 with
    | some _ => (fe E B).bind fun r E1 B1 => match view r E1 B1 with
      | some u2 => match g u1 u2 with
        | some (.w z) => if k < E1.length then .ok .nx (E1.set k (.val z)) B1 else .bad
        | _ => .bad
      | none => .bad
    | none => .bad
  | _ => .bad
theorem sndS_aug {k : Nat} {op : Operator} {g : U → U → Option R} (ho : Op2S X (inplaceOp op) g) (he : SndE X e fe) (hN : X.N.Nodup) (hi : X.N[k]? = some x := by rfl) (hx : Loc X.env.scope x := by first | exact Or.inl rfl | exact Or.inr rfl)
    (hf : X.fn x = true ∨ X.env.scope.names.lookup x = some .local := by first | exact .inl rfl | exact .inr rfl | assumption) : SndS X (.AugAssign (.Name x p) op e pos) (sAug k g fe) := by
  obtain ⟨r, hr, ho⟩ := ho
  obtain ⟨te, pe, he⟩ := he
  refine ⟨_, ps_aug hN hi hx pe (ti := r) (fun pins s σ H x y v u Q I r1 r2 h => hr pins s σ H x y v u Q I r1 r2 h) hf, fun F ρ E B σ H D rl q => ?_⟩
  simp only [sAug] at q
  split at q
  · next u1 hu =>
    split at q
    · next fv hfl =>
      obtain ⟨v1, h1, h2⟩ := rl.val k u1 hu
      refine ⟨v1, h1, he F ρ E B σ H _ rl ?_⟩
      cases h3 : fe E B with
      | bad => rw [h3] at q; exact q
      | ex c E' B' => rw [h3] at q ; first | exact q | exact Aft.exq (by assumption) q | exact AftT.exq (by assumption) q | exact Aft.exq (by assumption) (Aft.exq (by assumption) q) | exact AftT.exq (by assumption) (Aft.exq (by assumption) q) | exact AftT.exq (AftA.t (by assumption)) q | exact ExQ.px q (Aft.px (by assumption)) | exact ExQ.px q (List.IsPrefix.trans (AftT.px (by assumption)) (Aft.px (by assumption))) | exact Aft.exq (by assumption) (AftT.exq (by assumption) q) | exact Aft.exq (by assumption) (Aft.exq (by assumption) (AftT.exq (by assumption) q))
      | ok r1 E1 B1 =>
        rw [h3] at q
        intro ρ1 H1 v2 A1
        simp only [O.bind_ok] at q
        split at q
        · next u2 e2 =>
          split at q
          · next z eg =>
            split at q
            · next hk =>
              have T1 := A1.letgo
              have r1' : Rep X.K H1 (LvF F ρ1 E1 B1 σ) ρ1 u1 v1 := Rep.mono T1.stp T1.px _ _ h2
              refine ho F ρ1 E1 B1 σ H1 u1 u2 v1 v2 _ _ T1.rel (r1'.top fun i zz => by subst zz; cases hfl) (A1.top e2) eg fun H' v A3 => ?_
              have rep3 : Rep X.K H' (LvF F ρ1 E1 B1 σ) ρ1 z v := A3.rep
              exact q ρ1 _ H' (T1.px.trans A3.px) (Rel.setVal (show Rel X.K F ρ1 E1 B1 σ H' from A3.rel) hk rep3)
            · exact q.elim
          · exact q.elim
        · exact q.elim
    · exact q.elim
  · exact q.elim
/-! ### targets -/
def SameBut (ks : List Nat) (σ σ' : L2.St) : Prop := σ'.length = σ.length ∧ ∀ j, j ∉ ks → σ'[j]? = σ[j]?
abbrev Bd := U → En → Option En
def SndG (X : Cy) (tg : Expr) (ks : List Nat) (bd : Bd) : Prop := ∃ g : TG, PG X tg g ∧ ∀ F ρ E B σ H u v (Q : L2.St → Hp → Prop), Rel X.K F ρ E B σ H → Rep X.K H (LvF F ρ E B σ) ρ u v →
  (match bd u E with
    | some E' => ∀ σ', Rel X.K F ρ E' B σ' H → SameBut ks σ σ' → (∀ q, LvF F ρ E' B σ' q → LvF F ρ E B σ q) → EnLe E E' → Q σ' H
    | none => False) → g v σ H Q
def bdN (k : Nat) : Bd := fun u E => match E[k]? with
  | some (.own _) => none
  | some _ => some (E.set k (.val u))
  | none => none
theorem setVal_lv {K : PySem.W.Frag} {F : Fm} {ρ : List Addr} {E : En} {B : Bx} {σ : L2.St} {H : Hp} {k : Nat} {u : U} {v : V} (r : Rel K F ρ E B σ H) (hk : k < E.length) : ∀ q, LvF F ρ (E.set k (.val u)) B (σ.set k (some v)) q → LvF F ρ E B σ q := fun q z => by
  rcases z with z | z | ⟨j, d, h1, h2⟩
  · exact .inl z
  · exact .inr (.inl z)
  · by_cases hj : k = j
    · subst hj; rw [List.getElem?_set_self hk] at h1; cases h1
    · rw [List.getElem?_set_ne hj] at h1 h2; exact .inr (.inr ⟨j, d, h1, h2⟩)
theorem sndG_name {k : Nat} (hN : X.N.Nodup) (hi : X.N[k]? = some x := by rfl) (hx : Loc X.env.scope x := by first | exact Or.inl rfl | exact Or.inr rfl) (hf : X.fn x = true ∨ X.env.scope.names.lookup x = some .local := by first | exact .inl rfl | exact .inr rfl | assumption) : SndG X (.Name x p) [k] (bdN k) := by
  refine ⟨_, pg_name hN hi hx hf, fun F ρ E B σ H u v Q rl h q => ?_⟩
  simp only [bdN] at q
  have fin : ∀ E', E' = E.set k (Sl.val u) → k < E.length → (∀ σ', Rel X.K F ρ E' B σ' H → SameBut [k] σ σ' → (∀ q, LvF F ρ E' B σ' q → LvF F ρ E B σ q) → EnLe E E' → Q σ' H) → gName k v σ H Q := fun E' e hk q => by
    subst e
    exact q _ (rl.setVal hk h) ⟨List.length_set, fun j hj => List.getElem?_set_ne (by simpa [eq_comm] using hj)⟩ (setVal_lv rl hk) fun j hj => by
      by_cases e : k = j
      · subst e; exact .inl ⟨u, List.getElem?_set_self hk⟩
      · unfold IsSet; rw [List.getElem?_set_ne e]; exact hj
  cases hE : E[k]? with
  | none => rw [hE] at q; exact q.elim
  | some s =>
    have hk : k < E.length := (List.getElem?_eq_some_iff.mp hE).1
    rw [hE] at q
    cases s with
    | own c => exact q.elim
    | un => exact fin _ rfl hk q
    | val w => exact fin _ rfl hk q
abbrev Bds := List U → En → Option En
def SndGs (X : Cy) (tgs : List Expr) (ks : List Nat) (bd : Bds) : Prop := ∃ g : TGs, PGs X tgs g ∧ ∀ F ρ E B σ H us vs (Q : L2.St → Hp → Prop), Rel X.K F ρ E B σ H → Reps X.K H (LvF F ρ E B σ) ρ us vs →
  (match bd us E with
    | some E' => ∀ σ', Rel X.K F ρ E' B σ' H → SameBut ks σ σ' → (∀ q, LvF F ρ E' B σ' q → LvF F ρ E B σ q) → EnLe E E' → Q σ' H
    | none => False) → g vs σ H Q
def bdNil : Bds := fun us E => match us with
  | [] => some E
  | _ => none
def bdCons (b : Bd) (bs : Bds) : Bds := fun us E => match us with
  | u :: r => (b u E).bind fun E1 => bs r E1
  | [] => none
theorem sndGs_nil : SndGs X [] [] bdNil := by
  refine ⟨_, pgs_nil, fun F ρ E B σ H us vs Q rl h q => ?_⟩
  cases us with
  | nil => simp only [Reps] at h; subst h; exact ⟨rfl, q σ rl ⟨rfl, fun _ _ => rfl⟩ (fun _ z => z) EnLe.refl⟩
  | cons u us => exact q.elim
theorem sndGs_cons {tg : Expr} {tgs : List Expr} {ks ls : List Nat} {b1 : Bd} {bs : Bds} (h1 : SndG X tg ks b1) (h2 : SndGs X tgs ls bs) (hs : (assignEach (tg :: tgs) X.env).map (·.2) = assign tg X.env :: (assignEach tgs X.env).map (·.2) := by rfl) : SndGs X (tg :: tgs) (ks ++ ls) (bdCons b1 bs) := by
  obtain ⟨g, p1, h1⟩ := h1
  obtain ⟨g2, p2, h2⟩ := h2
  refine ⟨_, pgs_cons p1 p2 hs, fun F ρ E B σ H us vs Q rl h q => ?_⟩
  cases us with
  | nil => exact q.elim
  | cons u us =>
    simp only [Reps] at h
    obtain ⟨v, r, rfl, hv, hr⟩ := h
    refine ⟨v, r, rfl, h1 F ρ E B σ H u v _ rl hv ?_⟩
    simp only [bdCons] at q
    cases e1 : b1 u E with
    | none => rw [e1] at q; exact q.elim
    | some E1 =>
      rw [e1] at q
      intro σ1 rl1 sb1 lv1 le1
      refine h2 F ρ E1 B σ1 H us r _ rl1 (hr.mono (Stp.less lv1) (List.prefix_refl _)) ?_
      simp only [Option.bind_some] at q
      cases e2 : bs us E1 with
      | none => rw [e2] at q; exact q.elim
      | some E2 =>
        rw [e2] at q
        intro σ2 rl2 sb2 lv2 le2
        refine q σ2 rl2 ⟨sb2.1.trans sb1.1, fun j hj => ?_⟩ (fun z hz => lv1 z (lv2 z hz)) (le1.trans le2)
        rw [sb2.2 j (fun z => hj (List.mem_append_right _ z)), sb1.2 j (fun z => hj (List.mem_append_left _ z))]
def bdT (bs : Bds) : Bd := fun u E => match u with
  | .tup us => bs us E
  | _ => none
theorem sndG_tup {tgs : List Expr} {k n : Nat} {ks : List Nat} {bs : Bds} (hc : X.calm = true) (h : SndGs X tgs ks bs) (hbl : ∀ us E, us.length ≠ n → bs us E = none) (hn : (assignEach tgs X.env).length = n := by rfl) (hst : (assignEach tgs X.env).findIdx? (·.1) = none := by rfl) : SndG X (.Tuple tgs k pos) ks (bdT bs) := by
  obtain ⟨g, p1, h⟩ := h
  refine ⟨_, pg_tup hc p1 hn hst, fun F ρ E B σ H u v Q rl hr q => ?_⟩
  cases u with
  | tup us =>
    simp only [Rep] at hr
    obtain ⟨pp, vs, rfl, h1, h2⟩ := hr
    simp only [bdT] at q
    refine ⟨pp, vs, rfl, sqT_of h1, ?_, h F ρ E B σ H us vs Q rl h2 q⟩
    rw [← h2.len]
    by_cases z : us.length = n
    · exact z
    · rw [hbl us E z] at q; exact q.elim
  | _ => exact q.elim
theorem bdNil_len {us : List U} {E : En} (h : us.length ≠ 0) : bdNil us E = none := by cases us <;> simp_all [bdNil]
theorem bdCons_len {b1 : Bd} {bs : Bds} {n : Nat} (h : ∀ us E, us.length ≠ n → bs us E = none) : ∀ us E, us.length ≠ n + 1 → bdCons b1 bs us E = none := fun us E hl => by
  cases us with
  | nil => rfl
  | cons u us =>
    simp only [bdCons]
    cases b1 u E with
    | none => rfl
    | some E1 => exact h us E1 (fun z => hl (by simp [z]))
end
end QB
/-! QbH: while, for, comprehensions. -/
namespace QB
open PySem L2
open Classical in
/-- only where the walked thing is as it was -/
noncomputable def goOn (chk : Bx → Prop) (f : Sm) : Sm := fun E B => if chk B then f E B else .bad
theorem goOn_yes {chk : Bx → Prop} {f : Sm} {E : En} {B : Bx} (h : chk B) : goOn chk f E B = f E B := by unfold goOn; exact if_pos h
theorem goOn_post {K : PySem.W.Frag} {F : Fm} {ρ : List Addr} {chk : Bx → Prop} {f : Sm} {E : En} {B : Bx} {D : Ends} (h : PostS K Y F ρ (goOn chk f E B) D) : chk B ∧ PostS K Y F ρ (f E B) D := by
  unfold goOn at h
  split at h
  · next c => exact ⟨c, h⟩
  · exact h.elim
@[simp] theorem goOn_true {f : Sm} {E : En} {B : Bx} : goOn (fun _ => True) f E B = f E B := goOn_yes trivial
/-- one turn for each item -/
noncomputable def forGo (bd : Bd) (body : Sm) (chk : Bx → Prop) : List U → Sm
  | [] => fun E B => .ok .nx E B
  | u :: us => fun E B => match bd u E with
    | none => .bad
    | some E1 => (body E1 B).bind fun fl E2 B2 => match fl with
      | .bk => .ok .nx E2 B2
      | .rt v => .ok (.rt v) E2 B2
      | _ => goOn chk (forGo bd body chk us) E2 B2
abbrev Iv := En → Bx → O (List U × (Bx → Prop))
noncomputable def sFor (fi : Iv) (bd : Bd) (body : Sm) : Sm := fun E B => (fi E B).bind fun w E1 B1 => forGo bd body w.2 w.1 E1 B1
def whileN : Nat → Te → Sm → Sm
  | 0, _, _ => fun _ _ => .bad
  | n + 1, c, b => fun E B => (c E B).bind fun k E1 B1 => if k = true then (b E1 B1).bind fun fl E2 B2 => match fl with
      | .bk => .ok .nx E2 B2
      | .rt v => .ok (.rt v) E2 B2
      | _ => whileN n c b E2 B2
    else .ok .nx E1 B1
def whileFuel : Nat := 1000000000000
def sWhile (c : Te) (b : Sm) : Sm := whileN whileFuel c b
/-- what is walked: the items, as they come -/
structure WalkU (K : PySem.W.Frag) (J : It) (us : List U) (chk : Bx → Prop) (G : Hp → AS → List Addr → Prop) : Prop where
  keep : ∀ H Lv ρ H' Lv' ρ' (B' : Bx), G H Lv ρ → Stp H Lv H' Lv' → ρ <+: ρ' → (∀ (i : Nat) (c : Cell) (p : Addr), B'[i]? = some c → c.live = true → ρ'[i]? = some p → CellOk K H' Lv' ρ' c p) → chk B' → G H' Lv' ρ'
  go : ∀ H Lv ρ i, G H Lv ρ → i < us.length → J.go i H
  stop : ∀ H Lv ρ, G H Lv ρ → J.stop us.length H
  yld : ∀ H Lv ρ i u x H', G H Lv ρ → us[i]? = some u → J.yld i H x H' → (∀ q, Lv q → ∃ o, H q = some o) → (∀ q o, H q = some o → H' q = some o) ∧ Rep K H' Lv ρ u x
def SndI (X : Cy) (tg iter : Expr) (fi : Iv) : Prop := ∃ wi : TI, PI X tg iter wi ∧ ∀ F ρ E B σ H (Rk : It → Hp → Prop), Rel X.K F ρ E B σ H →
  (match fi E B with
    | .ok w E' B' => ∀ ρ' H' J G, AftT X.K F ρ E B σ H ρ' E' B' H' → WalkU X.K J w.1 w.2 G → G H' (LvF F ρ' E' B' σ) ρ' → w.2 B' → Rk J H'
    | .ex c E' B' => ExQ X.K X.q F ρ c E' B'
    | .bad => False) → wi σ H Rk
section
variable {X : Cy} {a b c e i tg iter elt : Expr} {es ifs : List Expr} {fa fb fe : Ex} {ft : Te} {f g body : Sm} {fi : Iv} {fs : Ar} {bd : Bd} {ks : List Nat} {pos p p2 p3 cpos apos pos' : Pos} {x name : Str} {sts : List Stmt}
theorem Rel.boxes {K : PySem.W.Frag} {F : Fm} {ρ : List Addr} {E : En} {B : Bx} {σ : L2.St} {H : Hp} (r : Rel K F ρ E B σ H) : ∀ (i : Nat) (c : Cell) (p : Addr), B[i]? = some c → c.live = true → ρ[i]? = some p → CellOk K H (LvF F ρ E B σ) ρ c p := fun i c p h1 h2 h3 => (r.box i c p h1 h2 h3).1
theorem Rel.rebase {K : PySem.W.Frag} {F : Fm} {ρ : List Addr} {E : En} {B : Bx} {σ : L2.St} {H : Hp} (r : Rel K F ρ E B σ H) : Rel K ⟨F.Out, H, LvF F ρ E B σ⟩ ρ E B σ H :=
  ⟨r.elen, r.blen, r.val, r.own, r.oinj, r.box, r.binj, fun q h => ⟨rfl, r.lv_there q (.inl h)⟩, Stp.refl, fun q o h => ⟨o, h⟩⟩
theorem Rel.unbase {K : PySem.W.Frag} {F : Fm} {ρ ρ' : List Addr} {E E' : En} {B B' : Bx} {σ σ' : L2.St} {H H' : Hp} (r : Rel K F ρ E B σ H) (r' : Rel K ⟨F.Out, H, LvF F ρ E B σ⟩ ρ' E' B' σ' H') :
    Rel K F ρ' E' B' σ' H' ∧ Stp H (LvF F ρ E B σ) H' (LvF F ρ' E' B' σ') := by
  have s : Stp H (LvF F ρ E B σ) H' (LvF F ρ' E' B' σ') := r'.old
  refine ⟨⟨r'.elen, r'.blen, r'.val, r'.own, r'.oinj, r'.box, r'.binj, fun q h => ?_, r.old.trans s, fun q o h => ?_⟩, s⟩
  · rw [(r'.out q h).1]; exact r.out q h
  · obtain ⟨o', h1⟩ := r.grow q o h
    exact r'.grow q o' h1
theorem sndS_while {c : Expr} (hc : SndT X c ft) (hb : SndB X sts body) : SndS X (.While c sts [] pos) (sWhile ft body) := by
  obtain ⟨tc, pc, hc⟩ := hc
  obtain ⟨tb, pb, hb⟩ := hb
  refine ⟨_, ps_while X.po pc pb, fun F ρ E B σ H D rl q => ?_⟩
  refine ⟨fun m σ' H' => ∃ ρ' E' B', ρ <+: ρ' ∧ Rel X.K F ρ' E' B' σ' H' ∧ PostS X.K X.q F ρ' (whileN m ft body E' B') D, ⟨whileFuel, ρ, E, B, List.prefix_refl _, rl, q⟩, ?_⟩
  rintro m σ1 H1 ⟨ρ1, E1, B1, px1, rl1, q1⟩
  cases m with
  | zero => exact q1.elim
  | succ m =>
    refine hc F ρ1 E1 B1 σ1 H1 _ rl1 ?_
    simp only [whileN] at q1
    cases h1 : ft E1 B1 with
    | bad => rw [h1] at q1; exact q1
    | ex c E' B' => rw [h1] at q1 ; first | exact q1 | exact Aft.exq (by assumption) q1 | exact AftT.exq (by assumption) q1 | exact Aft.exq (by assumption) (Aft.exq (by assumption) q1) | exact AftT.exq (by assumption) (Aft.exq (by assumption) q1) | exact AftT.exq (AftA.t (by assumption)) q1 | exact ExQ.px q1 (Aft.px (by assumption)) | exact ExQ.px q1 (List.IsPrefix.trans (AftT.px (by assumption)) (Aft.px (by assumption))) | exact Aft.exq (by assumption) (AftT.exq (by assumption) q1) | exact Aft.exq (by assumption) (Aft.exq (by assumption) (AftT.exq (by assumption) q1))
    | ok k E2 B2 =>
      rw [h1] at q1
      intro ρ2 H2 A2
      cases k with
      | false =>
        simp only [O.bind_ok, Bool.false_eq_true, if_false] at q1 ⊢
        exact q1 ρ2 σ1 H2 A2.px A2.rel
      | true =>
        simp only [O.bind_ok, if_true] at q1 ⊢
        refine ⟨fun σ' H' => ∃ ρ' E' B', ρ <+: ρ' ∧ Rel X.K F ρ' E' B' σ' H' ∧ PostS X.K X.q F ρ' (whileN m ft body E' B') D, fun σ' H' n => ⟨m, by omega, n⟩, ?_⟩
        refine hb F ρ2 E2 B2 σ1 H2 _ A2.rel ?_
        have q2 := PostS.px q1 A2.px
        cases h2 : body E2 B2 with
        | bad => rw [h2] at q2; exact q2
        | ex c E' B' => rw [h2] at q2 ; first | exact q2 | exact Aft.exq (by assumption) q2 | exact AftT.exq (by assumption) q2 | exact Aft.exq (by assumption) (Aft.exq (by assumption) q2) | exact AftT.exq (by assumption) (Aft.exq (by assumption) q2) | exact AftT.exq (AftA.t (by assumption)) q2 | exact ExQ.px q2 (Aft.px (by assumption)) | exact ExQ.px q2 (List.IsPrefix.trans (AftT.px (by assumption)) (Aft.px (by assumption))) | exact Aft.exq (by assumption) (AftT.exq (by assumption) q2) | exact Aft.exq (by assumption) (Aft.exq (by assumption) (AftT.exq (by assumption) q2))
        | ok fl E3 B3 =>
          rw [h2] at q2
          simp only [O.bind_ok] at q2
          cases fl with
          | nx => exact fun ρ3 σ3 H3 px3 rl3 => ⟨ρ3, E3, B3, (px1.trans A2.px).trans px3, rl3, q2.px px3⟩
          | ct => exact fun ρ3 σ3 H3 px3 rl3 => ⟨ρ3, E3, B3, (px1.trans A2.px).trans px3, rl3, q2.px px3⟩
          | bk => exact q2
          | rt u => exact q2
theorem sndS_for (hcalm : X.calm = true) (hi : SndI X tg iter fi) (hg : SndG X tg ks bd) (hb : SndB X sts body) (hs : ∀ x, foldedSetIterable iter X.env x = pure x := by intro _; rfl) : SndS X (.For tg iter sts [] pos) (sFor fi bd body) := by
  obtain ⟨wi, pi, hi⟩ := hi
  obtain ⟨g, pg, hg⟩ := hg
  obtain ⟨tb, pb, hb⟩ := hb
  refine ⟨_, ps_for X.po hcalm pi pg pb hs, fun F ρ E B σ H D rl q => ?_⟩
  refine hi F ρ E B σ H _ rl ?_
  simp only [sFor] at q
  cases h1 : fi E B with
  | bad => rw [h1] at q; exact q
  | ex c E' B' => rw [h1] at q ; first | exact q | exact Aft.exq (by assumption) q | exact AftT.exq (by assumption) q | exact Aft.exq (by assumption) (Aft.exq (by assumption) q) | exact AftT.exq (by assumption) (Aft.exq (by assumption) q) | exact AftT.exq (AftA.t (by assumption)) q | exact ExQ.px q (Aft.px (by assumption)) | exact ExQ.px q (List.IsPrefix.trans (AftT.px (by assumption)) (Aft.px (by assumption))) | exact Aft.exq (by assumption) (AftT.exq (by assumption) q) | exact Aft.exq (by assumption) (Aft.exq (by assumption) (AftT.exq (by assumption) q))
  | ok w E1 B1 =>
    rw [h1] at q
    obtain ⟨us, chk⟩ := w
    simp only [O.bind_ok] at q
    intro ρ1 H1 J G A1 W G1 C1
    refine ⟨fun i m σ' H' => m = us.length - i ∧ i ≤ us.length ∧ ∃ ρ' E' B', ρ <+: ρ' ∧ Rel X.K F ρ' E' B' σ' H' ∧ G H' (LvF F ρ' E' B' σ') ρ' ∧ PostS X.K X.q F ρ' (forGo bd body chk (us.drop i) E' B') D,
      ⟨us.length, by simp, Nat.zero_le _, ρ1, E1, B1, A1.px, A1.rel, G1, by simpa using q.px A1.px⟩, ?_⟩
    rintro i m σ2 H2 ⟨rfl, hil, ρ2, E2, B2, px2, rl2, G2, q2⟩
    by_cases hlt : i < us.length
    · refine .inr ⟨W.go _ _ _ _ G2 hlt, fun σ' H' => (us.length - (i + 1) = us.length - (i + 1) ∧ i + 1 ≤ us.length ∧ ∃ ρ' E' B', ρ <+: ρ' ∧ Rel X.K F ρ' E' B' σ' H' ∧ G H' (LvF F ρ' E' B' σ') ρ' ∧ PostS X.K X.q F ρ' (forGo bd body chk (us.drop (i + 1)) E' B') D),
        fun σ' H' n => ⟨us.length - (i + 1), by omega, n⟩, fun y H' hy => ?_⟩
      have hu : us[i]? = some us[i] := List.getElem?_eq_getElem hlt
      obtain ⟨gr, rp⟩ := W.yld _ _ _ i us[i] y H' G2 hu hy rl2.lv_there
      have rl3 := rl2.growH gr
      rw [List.drop_eq_getElem_cons hlt] at q2
      simp only [forGo] at q2
      refine hg F ρ2 E2 B2 σ2 H' us[i] y _ rl3 rp ?_
      cases h2 : bd us[i] E2 with
      | none => rw [h2] at q2; exact q2.elim
      | some E3 =>
        rw [h2] at q2
        intro σ3 rl4 sb lv3 _
        have s23 : Stp H2 (LvF F ρ2 E2 B2 σ2) H' (LvF F ρ2 E3 B2 σ3) := (grow_stp rl2 gr).trans (Stp.less lv3)
        refine hb _ ρ2 E3 B2 σ3 H' _ rl4.rebase ?_
        cases h3 : body E3 B2 with
        | bad => simp only [h3] at q2; exact q2
        | ex c E' B' =>
          simp only [h3] at q2
          exact fun ρ5 σ5 H5 cls d px5 rl5 x => q2 ρ5 σ5 H5 cls d px5 (rl4.unbase rl5).1 x
        | ok fl E4 B4 =>
          simp only [h3, O.bind_ok] at q2
          have next : PostS X.K X.q F ρ2 (goOn chk (forGo bd body chk (us.drop (i + 1))) E4 B4) D → ∀ ρ5 σ5 H5, ρ2 <+: ρ5 → Rel X.K ⟨F.Out, H', LvF F ρ2 E3 B2 σ3⟩ ρ5 E4 B4 σ5 H5 →
              us.length - (i + 1) = us.length - (i + 1) ∧ i + 1 ≤ us.length ∧ ∃ ρ' E' B', ρ <+: ρ' ∧ Rel X.K F ρ' E' B' σ5 H5 ∧ G H5 (LvF F ρ' E' B' σ5) ρ' ∧ PostS X.K X.q F ρ' (forGo bd body chk (us.drop (i + 1)) E' B') D := fun q5 ρ5 σ5 H5 px5 rl5 => by
            obtain ⟨hck, q6⟩ := goOn_post q5
            obtain ⟨rl6, s5⟩ := rl4.unbase rl5
            exact ⟨rfl, hlt, ρ5, E4, B4, px2.trans px5, rl6, W.keep _ _ _ _ _ _ B4 G2 (s23.trans s5) px5 rl6.boxes hck, q6.px px5⟩
          cases fl with
          | nx => exact next q2
          | ct => exact next q2
          | bk => exact fun ρ5 σ5 H5 px5 rl5 => q2 ρ5 σ5 H5 px5 (rl4.unbase rl5).1
          | rt u => exact fun ρ5 σ5 H5 v5 px5 rl5 rp5 => q2 ρ5 σ5 H5 v5 px5 (rl4.unbase rl5).1 rp5
    · have e : i = us.length := by omega
      subst e
      rw [List.drop_length] at q2
      exact .inl ⟨W.stop _ _ _ G2, q2 ρ2 σ2 H2 (List.prefix_refl _) rl2⟩
end
end QB
/-! QbI: what is walked; list comprehensions. -/
namespace QB
open PySem L2
/-! ### what is walked -/
def yes : Bx → Prop := fun _ => True
@[simp] theorem goOn_Yes {f : Sm} {E : En} {B : Bx} : goOn yes f E B = f E B := goOn_yes trivial
def itemsOf (u : U) (B : Bx) : Option (List U × (Bx → Prop)) :=
  match u with
  | .lst us => some (us, yes)
  | .tup us => some (us, yes)
  | .str z => some (z.cps.toList.map (fun c => .str ⟨#[c]⟩), yes)
  | .scr ns => some (ns.map .int, yes)
  | .box j => match B[j]? with
    | some (.lst us) => some (us, fun B' => B'[j]? = some (.lst us))
    | _ => none
  | _ => none
def mItV (f : Ex) : Iv := fun E B => (f E B).bind fun r E1 B1 =>
  match settle r E1 with
  | some (u, E2) => match itemsOf u B1 with
    | some w => .ok w E2 B1
    | none => .bad
  | none => .bad
def intsU (lo : Int) (n : Nat) : List U := (List.range n).map fun k => .int (lo + (k : Nat))
def mRange1 (fs : Ar) : Iv := fun E B => (fs E B).bind fun us E1 B1 =>
  match us with
  | [.int j] => if I62 j = true then .ok (intsU 0 j.toNat, yes) E1 B1 else .bad
  | _ => .bad
def mRange2 (fs : Ar) : Iv := fun E B => (fs E B).bind fun us E1 B1 =>
  match us with
  | [.int i, .int j] => if I62 i = true ∧ I62 j = true then .ok (intsU i (j - i).toNat, yes) E1 B1 else .bad
  | _ => .bad
def mEnum (fs : Ar) : Iv := fun E B => (fs E B).bind fun us E1 B1 =>
  match us with
  | [.lst ws] => .ok (ws.mapIdx fun k u => .tup [.int (k : Nat), u], yes) E1 B1
  | _ => .bad
section
variable {X : Cy} {a b c e i tg iter elt : Expr} {es ifs : List Expr} {fa fb fe : Ex} {ft : Te} {f g body : Sm} {fi : Iv} {fs : Ar} {bd : Bd} {ks : List Nat} {pos p p2 p3 cpos apos pos' tpos : Pos} {x name : Str} {sts : List Stmt}
section
variable {K : PySem.W.Frag}
theorem walkU_list {q : Addr} {us : List U} : WalkU K (Itl K q) us yes (fun H Lv ρ => Rep K H Lv ρ (.lst us) (.ref q)) := by
  have un : ∀ {H Lv ρ}, Rep K H Lv ρ (.lst us) (.ref q) → ∃ vs, SqL K H q vs ∧ Reps K H Lv ρ us vs := fun {H Lv ρ} h => by
    simp only [Rep] at h
    obtain ⟨p, vs, e, h1, h2⟩ := h
    cases e
    exact ⟨vs, .inl (.inl h1.1), h2⟩
  refine ⟨fun H Lv ρ H' Lv' ρ' B' g s px _ _ => Rep.mono s px _ _ g, fun H Lv ρ i g hi => ?_, fun H Lv ρ g => ?_, fun H Lv ρ i u x H' g hu hy _ => ?_⟩
  · obtain ⟨vs, h1, h2⟩ := un g
    obtain ⟨v, h3, _⟩ := h2.get (List.getElem?_eq_getElem hi)
    exact ⟨vs, v, h1, h3⟩
  · obtain ⟨vs, h1, h2⟩ := un g
    exact ⟨vs, h1, by rw [h2.len]; exact Nat.le_refl _⟩
  · obtain ⟨vs, h1, h2⟩ := un g
    obtain ⟨rfl, hy⟩ := hy
    obtain ⟨v, h3, h4⟩ := h2.get hu
    have := hy vs h1
    rw [h3] at this
    cases this
    exact ⟨fun _ _ z => z, h4⟩
theorem walkU_box {q : Addr} {us : List U} {j : Nat} : WalkU K (Itl K q) us (fun B' => B'[j]? = some (.lst us)) (fun H Lv ρ => ρ[j]? = some q ∧ ∃ vs, H q = some (.lst vs) ∧ Reps K H Lv ρ us vs) := by
  refine ⟨fun H Lv ρ H' Lv' ρ' B' g s px hb hc => ?_, fun H Lv ρ i g hi => ?_, fun H Lv ρ g => ?_, fun H Lv ρ i u x H' g hu hy _ => ?_⟩
  · have h := px_get px g.1
    exact ⟨h, hb j _ q hc rfl h⟩
  · obtain ⟨_, vs, h1, h2⟩ := g
    obtain ⟨v, h3, _⟩ := h2.get (List.getElem?_eq_getElem hi)
    exact ⟨vs, v, .inl (.inl h1), h3⟩
  · obtain ⟨_, vs, h1, h2⟩ := g
    exact ⟨vs, .inl (.inl h1), by rw [h2.len]; exact Nat.le_refl _⟩
  · obtain ⟨_, vs, h1, h2⟩ := g
    obtain ⟨rfl, hy⟩ := hy
    obtain ⟨v, h3, h4⟩ := h2.get hu
    have := hy vs (.inl (.inl h1))
    rw [h3] at this
    cases this
    exact ⟨fun _ _ z => z, h4⟩
theorem walkU_tup {q : Addr} {us : List U} : WalkU K (Itt K q) us yes (fun H Lv ρ => Rep K H Lv ρ (.tup us) (.ref q)) := by
  have un : ∀ {H Lv ρ}, Rep K H Lv ρ (.tup us) (.ref q) → ∃ vs, SqT K H q vs ∧ Reps K H Lv ρ us vs := fun {H Lv ρ} h => by
    simp only [Rep] at h
    obtain ⟨p, vs, e, h1, h2⟩ := h
    cases e
    exact ⟨vs, sqT_of h1, h2⟩
  refine ⟨fun H Lv ρ H' Lv' ρ' B' g s px _ _ => Rep.mono s px _ _ g, fun H Lv ρ i g hi => ?_, fun H Lv ρ g => ?_, fun H Lv ρ i u x H' g hu hy _ => ?_⟩
  · obtain ⟨vs, h1, h2⟩ := un g
    obtain ⟨v, h3, _⟩ := h2.get (List.getElem?_eq_getElem hi)
    exact ⟨vs, v, h1, h3⟩
  · obtain ⟨vs, h1, h2⟩ := un g
    exact ⟨vs, h1, by rw [h2.len]; exact Nat.le_refl _⟩
  · obtain ⟨vs, h1, h2⟩ := un g
    obtain ⟨rfl, hy⟩ := hy
    obtain ⟨v, h3, h4⟩ := h2.get hu
    have := hy vs h1
    rw [h3] at this
    cases this
    exact ⟨fun _ _ z => z, h4⟩
theorem walkU_scr {q : Addr} {ns : List Int} : WalkU K (Itl K q) (ns.map .int) yes (fun H Lv ρ => Rep K H Lv ρ (.scr ns) (.ref q)) := by
  have un : ∀ {H Lv ρ}, Rep K H Lv ρ (.scr ns) (.ref q) → SqL K H q (ns.map V.int) := fun {H Lv ρ} h => by
    simp only [Rep] at h
    obtain ⟨p, e, h1⟩ := h
    cases e
    exact sqL_of h1
  refine ⟨fun H Lv ρ H' Lv' ρ' B' g s px _ _ => Rep.mono s px _ _ g, fun H Lv ρ i g hi => ?_, fun H Lv ρ g => ?_, fun H Lv ρ i u x H' g hu hy _ => ?_⟩
  · have hi' : i < ns.length := by simpa using hi
    exact ⟨_, .int ns[i], un g, by simp [hi']⟩
  · exact ⟨_, un g, by simp⟩
  · obtain ⟨rfl, hy⟩ := hy
    have h1 := hy _ (un g)
    simp only [List.getElem?_map, Option.map_eq_some_iff] at hu h1
    obtain ⟨n, h2, rfl⟩ := hu
    obtain ⟨m, h3, rfl⟩ := h1
    rw [h2] at h3
    cases h3
    exact ⟨fun _ _ z => z, by simp [Rep]⟩
theorem walkU_str {z : Str} : WalkU K (Its z) (z.cps.toList.map (fun c => .str ⟨#[c]⟩)) yes (fun _ _ _ => True) := by
  refine ⟨fun _ _ _ _ _ _ _ _ _ _ _ _ => trivial, fun H Lv ρ i g hi => ?_, fun H Lv ρ g => ?_, fun H Lv ρ i u x H' g hu hy _ => ?_⟩
  · simpa [Its] using hi
  · simp [Its]
  · obtain ⟨rfl, c, h1, rfl⟩ := hy
    simp only [List.getElem?_map, Option.map_eq_some_iff] at hu
    obtain ⟨n, h2, rfl⟩ := hu
    have : n = c := by
      rw [Array.getElem?_toList] at h2
      rw [h1] at h2
      exact (Option.some.inj h2).symm
    subst this
    exact ⟨fun _ _ z => z, by simp [Rep]⟩
theorem walkU_range {lo : Int} {n : Nat} : WalkU K (Itr lo n) (intsU lo n) yes (fun _ _ _ => True) := by
  refine ⟨fun _ _ _ _ _ _ _ _ _ _ _ _ => trivial, fun H Lv ρ i g hi => ?_, fun H Lv ρ g => ?_, fun H Lv ρ i u x H' g hu hy _ => ?_⟩
  · simpa [Itr, intsU] using hi
  · simp [Itr, intsU]
  · obtain ⟨rfl, rfl⟩ := hy
    unfold intsU at hu
    simp only [List.getElem?_map, Option.map_eq_some_iff] at hu
    obtain ⟨k, h2, rfl⟩ := hu
    have : k = i := by
      have := (List.getElem?_eq_some_iff.mp h2).2
      simpa using this.symm
    subst this
    exact ⟨fun _ _ z => z, by simp [Rep]⟩
theorem walkU_enum {q : Addr} {us : List U} : WalkU K (Ite K q) (us.mapIdx fun k u => .tup [.int (k : Nat), u]) yes (fun H Lv ρ => Rep K H Lv ρ (.lst us) (.ref q)) := by
  have un : ∀ {H Lv ρ}, Rep K H Lv ρ (.lst us) (.ref q) → ∃ vs, SqL K H q vs ∧ Reps K H Lv ρ us vs := fun {H Lv ρ} h => by
    simp only [Rep] at h
    obtain ⟨p, vs, e, h1, h2⟩ := h
    cases e
    exact ⟨vs, .inl (.inl h1.1), h2⟩
  refine ⟨fun H Lv ρ H' Lv' ρ' B' g s px _ _ => Rep.mono s px _ _ g, fun H Lv ρ i g hi => ?_, fun H Lv ρ g => ?_, fun H Lv ρ i u x H' g hu hy hlv => ?_⟩
  · obtain ⟨vs, h1, h2⟩ := un g
    have hi' : i < us.length := by simpa using hi
    obtain ⟨v, h3, _⟩ := h2.get (List.getElem?_eq_getElem hi')
    exact ⟨vs, v, h1, h3⟩
  · obtain ⟨vs, h1, h2⟩ := un g
    exact ⟨vs, h1, by rw [← h2.len]; simp⟩
  · obtain ⟨vs, h1, h2⟩ := un g
    obtain ⟨T, y, rfl, hT, rfl, hy⟩ := hy
    simp only [List.getElem?_mapIdx, Option.map_eq_some_iff] at hu
    obtain ⟨w, h3, rfl⟩ := hu
    obtain ⟨v, h4, h5⟩ := h2.get h3
    have hvy := hy vs h1
    rw [h4] at hvy
    have hvy' : v = y := Option.some.inj hvy
    subst hvy'
    have gr : ∀ q o, H q = some o → (upd H T (.tup [.int (i : Nat), v])) q = some o := fun q o h => by rw [upd_ne (ne_of_none h hT)]; exact h
    refine ⟨gr, ?_⟩
    have s : Stp H Lv (upd H T (.tup [.int (i : Nat), v])) Lv := fun q o h n => ⟨.inl (gr q o h), n⟩
    have nl : ¬ Lv T := fun z => by obtain ⟨o, ho⟩ := hlv T z; rw [hT] at ho; cases ho
    simp only [Rep]
    refine ⟨T, _, rfl, .inl ⟨.inl upd_same, nl⟩, ?_⟩
    simp only [Reps]
    exact ⟨_, _, rfl, by simp [Rep], v, _, rfl, Rep.mono s (List.prefix_refl _) _ _ h5, rfl⟩
end
theorem PI.or {w1 w2 : TI} (h1 : PI X tg iter w1) (h2 : PI X tg iter w2) : PI X tg iter (fun σ H R => w1 σ H R ∨ w2 σ H R) :=
  ⟨fun pins s σ H R I h => by
    rcases h with h | h
    · exact h1.run pins s σ H R I h
    · exact h2.run pins s σ H R I h⟩
theorem sndI_val (ha : SndE X a fa) : SndI X tg a (mItV fa) := by
  obtain ⟨ta, pa, ha⟩ := ha
  refine ⟨_, PI.or (PI.or (pi_list pa) (pi_tup pa)) (pi_str pa), fun F ρ E B σ H Rk rl q => ?_⟩
  simp only [mItV] at q
  cases h1 : fa E B with
  | bad => rw [h1] at q; exact q.elim
  | ex c E' B' => rw [h1] at q; exact .inl (.inl (ha F ρ E B σ H _ rl (by rw [h1]; exact q)))
  | ok r1 E1 B1 =>
    rw [h1] at q
    simp only [O.bind_ok] at q
    cases hs : settle r1 E1 with
    | none => rw [hs] at q; exact q.elim
    | some y =>
      obtain ⟨u, E2⟩ := y
      rw [hs] at q
      simp only at q
      cases hi : itemsOf u B1 with
      | none => rw [hi] at q; exact q.elim
      | some w =>
        rw [hi] at q
        simp only at q
        have go : ∀ {Qv : VK}, (∀ ρ1 H1 v1, AftT X.K F ρ E B σ H ρ1 E2 B1 H1 → Rep X.K H1 (LvF F ρ1 E2 B1 σ) ρ1 u v1 → Qv v1 H1) → ta σ H Qv := fun {Qv} k => by
          refine ha F ρ E B σ H _ rl ?_
          rw [h1]
          intro ρ1 H1 v1 A1
          obtain ⟨T1, R1⟩ := A1.settled hs
          exact k ρ1 H1 v1 T1 R1
        cases u with
        | lst us =>
          cases hi
          refine .inl (.inl (go fun ρ1 H1 v1 T1 R1 => ?_))
          have R2 := R1
          simp only [Rep] at R2
          obtain ⟨pp, vs, rfl, k1, k2⟩ := R2
          exact ⟨pp, rfl, ⟨vs, .inl (.inl k1.1)⟩, q ρ1 H1 _ _ T1 walkU_list R1 trivial⟩
        | tup us =>
          cases hi
          refine .inl (.inr (go fun ρ1 H1 v1 T1 R1 => ?_))
          have R2 := R1
          simp only [Rep] at R2
          obtain ⟨pp, vs, rfl, k1, k2⟩ := R2
          exact ⟨pp, rfl, ⟨vs, sqT_of k1⟩, q ρ1 H1 _ _ T1 walkU_tup R1 trivial⟩
        | str z =>
          cases hi
          refine .inr (go fun ρ1 H1 v1 T1 R1 => ?_)
          simp only [Rep] at R1
          exact ⟨z, R1, q ρ1 H1 _ _ T1 walkU_str trivial trivial⟩
        | scr ns =>
          cases hi
          refine .inl (.inl (go fun ρ1 H1 v1 T1 R1 => ?_))
          have R2 := R1
          simp only [Rep] at R2
          obtain ⟨pp, rfl, k1⟩ := R2
          exact ⟨pp, rfl, ⟨_, sqL_of k1⟩, q ρ1 H1 _ _ T1 walkU_scr R1 trivial⟩
        | box j =>
          simp only [itemsOf] at hi
          split at hi
          · next us hB =>
            cases hi
            refine .inl (.inl (go fun ρ1 H1 v1 T1 R1 => ?_))
            simp only [Rep] at R1
            obtain ⟨pp, k1, rfl⟩ := R1
            have c1 := (T1.rel.box j _ pp hB rfl k1).1
            have c2 := c1
            obtain ⟨vs, k2, k3⟩ := c2
            exact ⟨pp, rfl, ⟨vs, .inl (.inl k2)⟩, q ρ1 H1 _ _ T1 walkU_box ⟨k1, c1⟩ hB⟩
          · cases hi
        | non => cases hi
        | bl _ => cases hi
        | int _ => cases hi
        | dct _ _ => cases hi
        | exc _ _ => cases hi
theorem sndI_range1 (hm : X.mg "range" = none) (ha : SndA X [a] fs) (hg : Gl X "range" := by rfl) (hs : starEach [a] X.env = [(false, eval a X.env)] := by rfl) : SndI X tg (.Call (.Name "range" p) [a] [] pos) (mRange1 fs) := by
  obtain ⟨ta, pa, ha⟩ := ha
  refine ⟨_, pi_range1 hg hm pa hs, fun F ρ E B σ H Rk rl q => ?_⟩
  simp only [mRange1] at q
  cases h1 : fs E B with
  | bad => rw [h1] at q; exact q.elim
  | ex c E' B' => rw [h1] at q; exact ha F ρ E B σ H _ rl (by rw [h1]; exact q)
  | ok us E1 B1 =>
    rw [h1] at q
    simp only [O.bind_ok] at q
    revert q
    generalize hw : (match us with | [.int j] => if I62 j = true then O.ok (intsU 0 j.toNat, yes) E1 B1 else .bad | _ => .bad) = oo
    intro q
    cases oo with
    | bad => exact q.elim
    | ex c E' B' => exact absurd hw (by (repeat' split) <;> (intro z; cases z))
    | ok w E' B' =>
      exact (by
        split at hw
        · next j =>
          split at hw
          · next hj =>
            cases hw
            refine ha F ρ E B σ H _ rl ?_
            rw [h1]
            intro ρ1 H1 vs A1
            have R := A1.reps
            simp only [Reps, Rep] at R
            obtain ⟨v, r, rfl, rfl, rfl⟩ := R
            exact ⟨j, rfl, (i62_iff.mp hj).1, (i62_iff.mp hj).2, q ρ1 H1 _ _ A1.t walkU_range trivial trivial⟩
          · cases hw
        · cases hw)
theorem sndI_range2 (hm : X.mg "range" = none) (ha : SndA X [a, b] fs) (hg : Gl X "range" := by rfl) (hs : starEach [a, b] X.env = [(false, eval a X.env), (false, eval b X.env)] := by rfl) (hs2 : starEach [b] X.env = [(false, eval b X.env)] := by rfl) : SndI X tg (.Call (.Name "range" p) [a, b] [] pos) (mRange2 fs) := by
  obtain ⟨ta, pa, ha⟩ := ha
  refine ⟨_, pi_range2 hg hm pa hs hs2, fun F ρ E B σ H Rk rl q => ?_⟩
  simp only [mRange2] at q
  cases h1 : fs E B with
  | bad => rw [h1] at q; exact q.elim
  | ex c E' B' => rw [h1] at q; exact ha F ρ E B σ H _ rl (by rw [h1]; exact q)
  | ok us E1 B1 =>
    rw [h1] at q
    simp only [O.bind_ok] at q
    revert q
    generalize hw : (match us with | [.int i, .int j] => if I62 i = true ∧ I62 j = true then O.ok (intsU i (j - i).toNat, yes) E1 B1 else .bad | _ => .bad) = oo
    intro q
    cases oo with
    | bad => exact q.elim
    | ex c E' B' => exact absurd hw (by (repeat' split) <;> (intro z; cases z))
    | ok w E' B' =>
      exact (by
        split at hw
        · next i j =>
          split at hw
          · next hj =>
            cases hw
            refine ha F ρ E B σ H _ rl ?_
            rw [h1]
            intro ρ1 H1 vs A1
            have R := A1.reps
            simp only [Reps, Rep] at R
            obtain ⟨v, r, rfl, rfl, v2, r2, rfl, rfl, rfl⟩ := R
            exact ⟨i, j, rfl, ⟨(i62_iff.mp hj.1).1, (i62_iff.mp hj.1).2, i62_iff.mp hj.2⟩, q ρ1 H1 _ _ A1.t walkU_range trivial trivial⟩
          · cases hw
        · cases hw)
theorem sndI_enum {elts : List Expr} {kk : Nat} (hm : X.mg "enumerate" = none) (ha : SndA X [a] fs) (hg : Gl X "enumerate" := by rfl) (hs : starEach [a] X.env = [(false, eval a X.env)] := by rfl) : SndI X (.Tuple elts kk tpos) (.Call (.Name "enumerate" p) [a] [] pos) (mEnum fs) := by
  obtain ⟨ta, pa, ha⟩ := ha
  refine ⟨_, pi_enum hg hm pa hs, fun F ρ E B σ H Rk rl q => ?_⟩
  simp only [mEnum] at q
  cases h1 : fs E B with
  | bad => rw [h1] at q; exact q.elim
  | ex c E' B' => rw [h1] at q; exact ha F ρ E B σ H _ rl (by rw [h1]; exact q)
  | ok us E1 B1 =>
    rw [h1] at q
    simp only [O.bind_ok] at q
    revert q
    generalize hw : (match us with | [.lst ws] => O.ok (ws.mapIdx fun k u => U.tup [U.int (k : Nat), u], yes) E1 B1 | _ => O.bad) = oo
    intro q
    cases oo with
    | bad => exact q.elim
    | ex c E' B' => exact absurd hw (by (repeat' split) <;> (intro z; cases z))
    | ok w E' B' =>
      exact (by
        split at hw
        · next ws =>
          cases hw
          refine ha F ρ E B σ H _ rl ?_
          rw [h1]
          intro ρ1 H1 vs A1
          have R := A1.reps
          simp only [Reps] at R
          obtain ⟨v, r, rfl, R1, rfl⟩ := R
          have R2 := R1
          simp only [Rep] at R2
          obtain ⟨pp, xs, rfl, k1, k2⟩ := R2
          exact ⟨pp, xs, rfl, .inl (.inl k1.1), q ρ1 H1 _ _ A1.t walkU_enum R1 trivial⟩
        · cases hw)
end
end QB
/-! QbJ: list comprehensions. -/
namespace QB
open PySem L2
def wipeE (E : En) : List Nat → En
  | [] => E
  | v :: vs => (wipeE E vs).set v .un
/-- the slots ks as they were in E1 -/
def keepE (E1 E : En) : List Nat → En
  | [] => E
  | v :: vs => match E1[v]? with
    | some s => (keepE E1 E vs).set v s
    | none => keepE E1 E vs
def noOwn (E1 : En) : List Nat → Bool
  | [] => true
  | v :: vs => match E1[v]? with
    | some (.own _) => false
    | none => false
    | _ => noOwn E1 vs
open Classical in
noncomputable def goOnL (chk : Bx → Prop) (f : Ar) : Ar := fun E B => if chk B then f E B else .bad
theorem goOnL_yes {chk : Bx → Prop} {f : Ar} {E : En} {B : Bx} (h : chk B) : goOnL chk f E B = f E B := by unfold goOnL; exact if_pos h
@[simp] theorem goOnL_Yes {f : Ar} {E : En} {B : Bx} : goOnL yes f E B = f E B := goOnL_yes trivial
noncomputable def lcGo (bd : Bd) (t : Te) (f : Ex) (chk : Bx → Prop) (ks : List Nat) : List U → List U → Ar
  | [], acc => fun E B => .ok acc E B
  | u :: us, acc => fun E B => match bd u E with
    | none => .bad
    | some E1 => (t E1 B).bindN fun b E2 B2 => if b = true then (f E2 B2).bindN fun r E3 B3 => match settle r E3 with
        | some (y, E4) => if acc.length < 16777216 then goOnL chk (lcGo bd t f chk ks us (acc ++ [y])) (wipeE E4 ks) B3 else .bad
        | none => .bad
      else goOnL chk (lcGo bd t f chk ks us acc) (wipeE E2 ks) B2
noncomputable def mLc (fi : Iv) (bd : Bd) (t : Te) (f : Ex) (ks : List Nat) : Ex := fun E B => (fi E B).bind fun w E1 B1 =>
  if noOwn E1 ks = true then (lcGo bd t f w.2 ks w.1 [] (wipeE E1 ks) B1).bind fun acc E2 B2 => .ok (.fr (.lst acc)) (keepE E1 E2 ks) B2 else .bad
def mYes : Te := fun E B => .ok true E B

section
variable {K : PySem.W.Frag} {F : Fm} {ρ ρ' : List Addr} {E E1 E' : En} {B B1 B' : Bx} {σ : L2.St} {H H' : Hp} {ks : List Nat}
theorem wipeE_len : ∀ ks : List Nat, (wipeE E ks).length = E.length
  | [] => rfl
  | v :: vs => by unfold wipeE; rw [List.length_set, wipeE_len vs]
theorem wipeE_get : ∀ {ks : List Nat} {j : Nat}, j ∉ ks → (wipeE E ks)[j]? = E[j]?
  | [], j, _ => rfl
  | v :: vs, j, h => by
    unfold wipeE
    rw [List.getElem?_set_ne (fun e => h (by simp [e]))]
    exact wipeE_get fun z => h (List.mem_cons_of_mem _ z)
theorem wipeE_in : ∀ {ks : List Nat} {j : Nat} {s : Sl}, j ∈ ks → (wipeE E ks)[j]? = some s → s = .un
  | v :: vs, j, s, h, e => by
    unfold wipeE at e
    by_cases hj : v = j
    · subst hj
      have hl : v < (wipeE E vs).length := by have := (List.getElem?_eq_some_iff.mp e).1; simpa using this
      rw [List.getElem?_set_self hl] at e
      exact (Option.some.inj e).symm
    · rw [List.getElem?_set_ne hj] at e
      rcases List.mem_cons.mp h with z | z
      · exact absurd z.symm hj
      · exact wipeE_in z e
theorem wipe_get : ∀ {ks : List Nat} {j : Nat}, j ∉ ks → (wipe σ ks)[j]? = σ[j]?
  | [], j, _ => rfl
  | v :: vs, j, h => by
    unfold wipe
    rw [List.getElem?_set_ne (fun e => h (by simp [e]))]
    exact wipe_get fun z => h (List.mem_cons_of_mem _ z)
theorem wipe_same {σ' : L2.St} (h : SameBut ks σ σ') (hk : ∀ k ∈ ks, k < σ.length) : wipe σ' ks = wipe (wipe σ ks) ks := by
  apply List.ext_getElem?
  intro j
  by_cases hj : j ∈ ks
  · have key : ∀ {τ : L2.St} {ls : List Nat}, j ∈ ls → j < τ.length → (wipe τ ls)[j]? = some none := by
      intro τ ls
      induction ls with
      | nil => intro h; cases h
      | cons v vs ih =>
        intro h hl
        unfold wipe
        by_cases hv : v = j
        · subst hv; exact List.getElem?_set_self (by rw [wipe_length]; exact hl)
        · rw [List.getElem?_set_ne hv]
          rcases List.mem_cons.mp h with z | z
          · exact absurd z.symm hv
          · exact ih z hl
    rw [key hj (by rw [h.1]; exact hk j hj), key hj (by rw [wipe_length]; exact hk j hj)]
  · rw [wipe_get hj, h.2 j hj, wipe_get hj, wipe_get hj]
theorem wipe_idem (hk : ∀ k ∈ ks, k < σ.length) : wipe (wipe σ ks) ks = wipe σ ks := (wipe_same (σ := σ) (σ' := σ) ⟨rfl, fun _ _ => rfl⟩ hk).symm
/-- the block's own names are forgotten -/
theorem Rel.wipes (r : Rel K F ρ E B σ H) : Rel K F ρ (wipeE E ks) B (wipe σ ks) H ∧ (∀ q, LvF F ρ (wipeE E ks) B (wipe σ ks) q → LvF F ρ E B σ q) := by
  have px : ρ <+: ρ := List.prefix_refl _
  have ownSet : ∀ (j : Nat) (d : Cell), (wipeE E ks)[j]? = some (.own d) → E[j]? = some (.own d) ∧ (wipe σ ks)[j]? = σ[j]? := fun j d e => by
    by_cases hj : j ∈ ks
    · cases wipeE_in hj e
    · rw [wipeE_get hj] at e; exact ⟨e, wipe_get hj⟩
  have less : ∀ q, LvF F ρ (wipeE E ks) B (wipe σ ks) q → LvF F ρ E B σ q := fun q z => by
    rcases z with z | z | ⟨j, d, h1, h2⟩
    · exact .inl z
    · exact .inr (.inl z)
    · obtain ⟨h3, h4⟩ := ownSet j d h1
      exact .inr (.inr ⟨j, d, h3, by rw [← h4]; exact h2⟩)
  have s := Stp.less (H := H) less
  refine ⟨⟨by rw [wipeE_len, wipe_length]; exact r.elen, r.blen, fun j w e => ?_, fun j d e => ?_, fun j k d f q e1 e2 e3 e4 => ?_, fun j d q e1 e2 e3 => ?_, r.binj, r.out, r.old.trans s, r.grow⟩, less⟩
  · by_cases hj : j ∈ ks
    · cases wipeE_in hj e
    · rw [wipeE_get hj] at e
      obtain ⟨w', h1, h2⟩ := r.val j w e
      exact ⟨w', by rw [wipe_get hj]; exact h1, h2.mono s px⟩
  · obtain ⟨h1, h2⟩ := ownSet j d e
    obtain ⟨h3, q, h4, h5, h6⟩ := r.own j d h1
    exact ⟨h3, q, by rw [h2]; exact h4, h5.mono s px rfl, h6⟩
  · obtain ⟨a1, a2⟩ := ownSet j d e1
    obtain ⟨b1, b2⟩ := ownSet k f e2
    exact r.oinj j k d f q a1 b1 (by rw [← a2]; exact e3) (by rw [← b2]; exact e4)
  · obtain ⟨h4, h5⟩ := r.box j d q e1 e2 e3
    exact ⟨h4.mono s px rfl, h5⟩
theorem EnLe.wipe (h : EnLe E E') : EnLe (wipeE E ks) (wipeE E' ks) := fun i hi => by
  by_cases hj : i ∈ ks
  · rcases hi with ⟨u, e⟩ | ⟨c, e⟩ <;> cases wipeE_in hj e
  · unfold IsSet at hi ⊢
    rw [wipeE_get hj] at hi ⊢
    exact h i hi
theorem wipeE_idem : wipeE (wipeE E ks) ks = wipeE E ks := by
  apply List.ext_getElem?
  intro j
  by_cases hj : j ∈ ks
  · by_cases hl : j < E.length
    · have h1 : ∃ s, (wipeE (wipeE E ks) ks)[j]? = some s := ⟨_, List.getElem?_eq_getElem (by rw [wipeE_len, wipeE_len]; exact hl)⟩
      have h2 : ∃ s, (wipeE E ks)[j]? = some s := ⟨_, List.getElem?_eq_getElem (by rw [wipeE_len]; exact hl)⟩
      obtain ⟨s1, h1⟩ := h1
      obtain ⟨s2, h2⟩ := h2
      rw [h1, h2, wipeE_in hj h1, wipeE_in hj h2]
    · rw [List.getElem?_eq_none (by rw [wipeE_len, wipeE_len]; omega), List.getElem?_eq_none (by rw [wipeE_len]; omega)]
  · rw [wipeE_get hj]
theorem keepE_len : ∀ ks : List Nat, (keepE E1 E ks).length = E.length
  | [] => rfl
  | v :: vs => by
    unfold keepE
    split
    · rw [List.length_set, keepE_len vs]
    · exact keepE_len vs
theorem keepE_get : ∀ {ks : List Nat} {j : Nat}, j ∉ ks → (keepE E1 E ks)[j]? = E[j]?
  | [], j, _ => rfl
  | v :: vs, j, h => by
    unfold keepE
    split
    · rw [List.getElem?_set_ne (fun e => h (by simp [e]))]
      exact keepE_get fun z => h (List.mem_cons_of_mem _ z)
    · exact keepE_get fun z => h (List.mem_cons_of_mem _ z)
theorem keepE_in : ∀ {ks : List Nat} {j : Nat} {s : Sl}, j ∈ ks → noOwn E1 ks = true → (keepE E1 E ks)[j]? = some s → E1[j]? = some s ∧ ∀ c, s ≠ .own c
  | v :: vs, j, s, h, hn, e => by
    unfold keepE at e
    unfold noOwn at hn
    cases hv : E1[v]? with
    | none => rw [hv] at hn; cases hn
    | some sv =>
      rw [hv] at e hn
      have hn' : noOwn E1 vs = true ∧ ∀ c, sv ≠ .own c := by
        cases sv with
        | own c => cases hn
        | un => exact ⟨hn, fun c z => by cases z⟩
        | val u => exact ⟨hn, fun c z => by cases z⟩
      by_cases hj : v = j
      · subst hj
        have hl : v < (keepE E1 E vs).length := by have := (List.getElem?_eq_some_iff.mp e).1; simpa using this
        simp only at e
        rw [List.getElem?_set_self hl] at e
        cases e
        exact ⟨hv, hn'.2⟩
      · simp only at e
        rw [List.getElem?_set_ne hj] at e
        rcases List.mem_cons.mp h with z | z
        · exact absurd z.symm hj
        · exact keepE_in z hn'.1 e
/-- behind the block the slots are as they were -/
theorem Rel.restore {ρ1 : List Addr} {H1 : Hp} {F1 : Fm} (r1 : Rel K F1 ρ1 E1 B1 σ H1) (r : Rel K F ρ E B (wipe σ ks) H) (s1 : Stp H1 (LvF F1 ρ1 E1 B1 σ) H (LvF F ρ E B (wipe σ ks))) (px1 : ρ1 <+: ρ) (hn : noOwn E1 ks = true) :
    Rel K F ρ (keepE E1 E ks) B σ H ∧ (∀ q, LvF F ρ (keepE E1 E ks) B σ q → LvF F ρ E B (wipe σ ks) q) := by
  have px : ρ <+: ρ := List.prefix_refl _
  have ownSet : ∀ (j : Nat) (d : Cell), (keepE E1 E ks)[j]? = some (.own d) → E[j]? = some (.own d) ∧ σ[j]? = (wipe σ ks)[j]? := fun j d e => by
    by_cases hj : j ∈ ks
    · exact absurd rfl ((keepE_in hj hn e).2 d)
    · rw [keepE_get hj] at e; exact ⟨e, (wipe_get hj).symm⟩
  have less : ∀ q, LvF F ρ (keepE E1 E ks) B σ q → LvF F ρ E B (wipe σ ks) q := fun q z => by
    rcases z with z | z | ⟨j, d, h1, h2⟩
    · exact .inl z
    · exact .inr (.inl z)
    · obtain ⟨h3, h4⟩ := ownSet j d h1
      exact .inr (.inr ⟨j, d, h3, by rw [← h4]; exact h2⟩)
  have s := Stp.less (H := H) less
  refine ⟨⟨by rw [keepE_len, r.elen, wipe_length], r.blen, fun j w e => ?_, fun j d e => ?_, fun j k d f q e1 e2 e3 e4 => ?_, fun j d q e1 e2 e3 => ?_, r.binj, r.out, r.old.trans s, r.grow⟩, less⟩
  · by_cases hj : j ∈ ks
    · obtain ⟨w', h1, h2⟩ := r1.val j w (keepE_in hj hn e).1
      exact ⟨w', h1, h2.mono (s1.trans s) px1⟩
    · rw [keepE_get hj] at e
      obtain ⟨w', h1, h2⟩ := r.val j w e
      exact ⟨w', by rw [← h1, wipe_get hj], h2.mono s px⟩
  · obtain ⟨h1, h2⟩ := ownSet j d e
    obtain ⟨h3, q, h4, h5, h6⟩ := r.own j d h1
    exact ⟨h3, q, by rw [h2]; exact h4, h5.mono s px rfl, h6⟩
  · obtain ⟨a1, a2⟩ := ownSet j d e1
    obtain ⟨b1, b2⟩ := ownSet k f e2
    exact r.oinj j k d f q a1 b1 (by rw [← a2]; exact e3) (by rw [← b2]; exact e4)
  · obtain ⟨h4, h5⟩ := r.box j d q e1 e2 e3
    exact ⟨h4.mono s px rfl, h5⟩
/-- a new thing gets another content -/
theorem Rel.reown {D : Addr} {o : Option HO} {ob : HO} (r : Rel K (F.add D o) ρ E B σ H) (n : New F D) :
    Rel K (F.add D (some ob)) ρ E B σ (upd H D ob) ∧ Stp H (LvF (F.add D o) ρ E B σ) (upd H D ob) (LvF (F.add D (some ob)) ρ E B σ) := by
  have px : ρ <+: ρ := List.prefix_refl _
  have nl := Rel.notLv r n
  have s : Stp H (LvF (F.add D o) ρ E B σ) (upd H D ob) (LvF (F.add D (some ob)) ρ E B σ) := fun q x h z => by
    have ne : q ≠ D := fun y => z (LvF.add_iff.mpr (.inr y))
    exact ⟨.inl (by rw [upd_ne ne]; exact h), z⟩
  have neB : ∀ (i : Nat) (c : Cell) (q : Addr), B[i]? = some c → c.live = true → ρ[i]? = some q → q ≠ D := fun i c q h1 h2 h3 e => (r.box i c q h1 h2 h3).2 (.inr e)
  refine ⟨⟨r.elen, r.blen, fun j w e => ?_, fun j d e => ?_, r.oinj, fun j d q e1 e2 e3 => ?_, r.binj, fun q h => ?_, fun q x h z => ?_, fun q x h => ?_⟩, s⟩
  · obtain ⟨w', h1, h2⟩ := r.val j w e
    exact ⟨w', h1, h2.mono s px⟩
  · obtain ⟨h3, q, h4, h5, h6, h7⟩ := r.own j d e
    have ne : q ≠ D := fun y => h6 (.inr y)
    exact ⟨h3, q, h4, h5.mono s px (upd_ne ne), h6, h7⟩
  · obtain ⟨h4, h5⟩ := r.box j d q e1 e2 e3
    exact ⟨h4.mono s px (upd_ne (neB j d q e1 e2 e3)), h5⟩
  · by_cases ne : q = D
    · subst ne; exact ⟨by rw [upd_same]; simp [Fm.add], ob, by simp [Fm.add]⟩
    · have := r.out q h
      rw [upd_ne ne]
      simpa [Fm.add, ne] using this
  · have ne : q ≠ D := fun y => z (.inr y)
    exact r.old.trans s q x (by simpa [Fm.add, ne] using h) z
  · by_cases ne : q = D
    · subst ne; exact ⟨ob, upd_same⟩
    · obtain ⟨o', h1⟩ := r.grow q x (by simpa [Fm.add, ne] using h)
      exact ⟨o', by rw [upd_ne ne]; exact h1⟩
end
/-! ### uniform readings -/
def uE (K : PySem.W.Frag) (Y : Xq) (f : Ex) : TE := fun σ H Q => ∃ F ρ E B, Rel K F ρ E B σ H ∧ PostE K Y F ρ E B σ H (f E B) Q
def uT (K : PySem.W.Frag) (Y : Xq) (f : Te) : TT := fun σ H Q => ∃ F ρ E B, Rel K F ρ E B σ H ∧ PostT K Y F ρ E B σ H (f E B) Q
def uG (K : PySem.W.Frag) (ks : List Nat) (bd : Bd) : TG := fun v σ H Q => ∃ F ρ E B u, Rel K F ρ E B σ H ∧ Rep K H (LvF F ρ E B σ) ρ u v ∧
  (match bd u E with
    | some E' => ∀ σ', Rel K F ρ E' B σ' H → SameBut ks σ σ' → (∀ q, LvF F ρ E' B σ' q → LvF F ρ E B σ q) → EnLe E E' → Q σ' H
    | none => False)
section
variable {X : Cy} {a b c e i tg iter elt : Expr} {es ifs : List Expr} {fa fb fe : Ex} {ft : Te} {fi : Iv} {bd : Bd} {ks : List Nat} {pos spos py : Pos} {y : Str} {scope : Scope} {own : List (Str × Nat)}
theorem SndE.u (h : SndE X e fa) : PE X e (uE X.K X.q fa) := by
  obtain ⟨t, p, h⟩ := h
  exact ⟨fun pins s σ H Q I ⟨F, ρ, E, B, rl, q⟩ => p.run pins s σ H Q I (h F ρ E B σ H Q rl q)⟩
theorem SndT.u (h : SndT X e ft) : PT X e (uT X.K X.q ft) := by
  obtain ⟨t, p, h⟩ := h
  exact ⟨fun pins s σ H Q I ⟨F, ρ, E, B, rl, q⟩ => p.run pins s σ H Q I (h F ρ E B σ H Q rl q)⟩
theorem SndG.u (h : SndG X tg ks bd) : PG X tg (uG X.K ks bd) := by
  obtain ⟨t, p, h⟩ := h
  exact ⟨fun pins s σ H v u Q I r ⟨F, ρ, E, B, w, rl, rr, q⟩ => p.run pins s σ H v u Q I r (h F ρ E B σ H w v Q rl rr q)⟩
/-- the tests of a comprehension -/
def SndTs (X : Cy) (ifs : List Expr) (f : Te) : Prop := PTs X ifs (uT X.K X.q f)
theorem sndTs_nil : SndTs X [] mYes := ⟨fun pins s σ H Q I ⟨F, ρ, E, B, rl, q⟩ => pts_nil.run pins s σ H Q I (q ρ H (AftT.refl rl))⟩
theorem sndTs_one (h : SndT X c ft) : SndTs X [c] ft := pts_one h.u
/-- within a comprehension's block nothing is wished of exceptions -/
def bq (X : Cy) : Xq := ⟨fun _ _ _ _ => False, X.mg⟩
theorem lcGo_nex {bd : Bd} {t : Te} {f : Ex} {chk : Bx → Prop} {ks : List Nat} {c : Exn} {E' : En} {B' : Bx} : ∀ us acc E B, lcGo bd t f chk ks us acc E B ≠ .ex c E' B'
  | [], acc, E, B => by intro z; simp [lcGo] at z
  | u :: us, acc, E, B => by
    have gn : ∀ (acc : List U) (E : En) (B : Bx), goOnL chk (lcGo bd t f chk ks us acc) E B ≠ .ex c E' B' := fun acc E B => by
      unfold goOnL
      split
      · exact lcGo_nex us acc E B
      · intro z; cases z
    intro z
    unfold lcGo at z
    cases h1 : bd u E with
    | none => simp only [h1] at z; cases z
    | some E1 =>
      simp only [h1] at z
      cases h2 : t E1 B with
      | bad => simp only [h2, O.bindN_bad] at z; cases z
      | ex _ _ _ => simp only [h2, O.bindN_ex] at z; cases z
      | ok b E2 B2 =>
        simp only [h2, O.bindN_ok] at z
        by_cases hb : b = true
        · rw [if_pos hb] at z
          cases h3 : f E2 B2 with
          | bad => simp only [h3, O.bindN_bad] at z; cases z
          | ex _ _ _ => simp only [h3, O.bindN_ex] at z; cases z
          | ok r E3 B3 =>
            simp only [h3, O.bindN_ok] at z
            cases h4 : settle r E3 with
            | none => simp only [h4] at z; cases z
            | some w =>
              simp only [h4] at z
              split at z
              · exact gn _ _ _ z
              · cases z
        · rw [if_neg hb] at z; exact gn _ _ _ z
def PostL (o : O (List U)) (k : List U → En → Bx → Prop) : Prop :=
  match o with
  | .ok a E B => k a E B
  | _ => False
structure Fin (K : PySem.W.Frag) (F : Fm) (ρ1 : List Addr) (E1 : En) (B1 : Bx) (σ : L2.St) (H1 : Hp) (D : Addr) (ks : List Nat) (acc : List U) (E : En) (B : Bx) (ρ : List Addr) (H : Hp) (vacc : List V) : Prop where
  px : ρ1 <+: ρ
  rel : Rel K (F.add D (some (.lst vacc))) ρ E B (wipe σ ks) H
  stp : Stp H1 (LvF F ρ1 E1 B1 σ) H (LvF (F.add D (some (.lst vacc))) ρ E B (wipe σ ks))
  le : EnLe (wipeE E1 ks) E
  at_ : H D = some (.lst vacc)
  reps : Reps K H (LvF (F.add D (some (.lst vacc))) ρ E B (wipe σ ks)) ρ acc vacc
theorem lc_reads {ta : TI} (hi : ∀ F ρ E B σ H (Rk : It → Hp → Prop), Rel X.K F ρ E B σ H → (match fi E B with
      | .ok w E' B' => ∀ ρ' H' J G, AftT X.K F ρ E B σ H ρ' E' B' H' → WalkU X.K J w.1 w.2 G → G H' (LvF F ρ' E' B' σ) ρ' → w.2 B' → Rk J H'
      | .ex c E' B' => ExQ X.K X.q F ρ c E' B'
      | .bad => False) → ta σ H Rk) :
    ∀ F ρ E B σ H Q, Rel X.K F ρ E B σ H → PostE X.K X.q F ρ E B σ H (mLc fi bd ft fe ks E B) Q → tLc ta (uG X.K ks bd) (uT X.K (bq X) ft) (uE X.K (bq X) fe) ks σ H Q := by
  intro F ρ E B σ H Q rl q
  refine hi F ρ E B σ H _ rl ?_
  simp only [mLc] at q
  cases h1 : fi E B with
  | bad => rw [h1] at q; exact q
  | ex c E' B' => rw [h1] at q ; first | exact q | exact Aft.exq (by assumption) q | exact AftT.exq (by assumption) q | exact Aft.exq (by assumption) (Aft.exq (by assumption) q) | exact AftT.exq (by assumption) (Aft.exq (by assumption) q) | exact AftT.exq (AftA.t (by assumption)) q | exact ExQ.px q (Aft.px (by assumption)) | exact ExQ.px q (List.IsPrefix.trans (AftT.px (by assumption)) (Aft.px (by assumption))) | exact Aft.exq (by assumption) (AftT.exq (by assumption) q) | exact Aft.exq (by assumption) (Aft.exq (by assumption) (AftT.exq (by assumption) q))
  | ok w E1 B1 =>
    rw [h1] at q
    obtain ⟨us, chk⟩ := w
    simp only [O.bind_ok] at q
    intro ρ1 H1 J G A1 W G1 C1 D hD
    have hn : noOwn E1 ks = true := by
      by_cases z : noOwn E1 ks = true
      · exact z
      · rw [if_neg z] at q; exact q.elim
    rw [if_pos hn] at q
    have nw : New F D := A1.rel.new hD
    -- the slots lie within the frame
    have hks : ∀ k ∈ ks, k < σ.length := fun k hkm => by
      have hE : ∀ (ls : List Nat), noOwn E1 ls = true → ∀ k ∈ ls, k < E1.length := by
        intro ls
        induction ls with
        | nil => intro _ k z; cases z
        | cons v vs ih =>
          intro hn k hk
          unfold noOwn at hn
          cases hv : E1[v]? with
          | none => rw [hv] at hn; cases hn
          | some sv =>
            rw [hv] at hn
            have hn' : noOwn E1 vs = true := by cases sv <;> first | exact hn | cases hn
            rcases List.mem_cons.mp hk with z | z
            · subst z; exact (List.getElem?_eq_some_iff.mp hv).1
            · exact ih hn' k z
      have := hE ks hn k hkm
      rw [A1.rel.elen] at this
      exact this
    have qpost : PostL (lcGo bd ft fe chk ks us [] (wipeE E1 ks) B1) (fun accf Ef Bf => ∀ ρf Hf vf, Fin X.K F ρ1 E1 B1 σ H1 D ks accf Ef Bf ρf Hf vf → Q (.ref D) Hf) := by
      cases h2 : lcGo bd ft fe chk ks us [] (wipeE E1 ks) B1 with
      | bad => rw [h2] at q; exact q
      | ex c E' B' => exact absurd h2 (lcGo_nex _ _ _ _)
      | ok accf Ef Bf =>
        rw [h2] at q
        simp only [O.bind_ok] at q
        intro ρf Hf vf fin
        obtain ⟨r2, lv2⟩ := Rel.restore A1.rel fin.rel fin.stp fin.px hn
        have ea : F.addR Hf (.fr (.lst accf)) (.ref D) = F.add D (some (.lst vf)) := by simp only [Fm.addR, fin.at_]
        have s2 := Stp.less (H := Hf) lv2
        refine q ρf Hf (.ref D) ⟨A1.px.trans fin.px, by rw [ea]; exact r2, by rw [ea]; exact A1.stp.trans (fin.stp.trans s2), A1.le.trans fun j hj => ?_, ?_⟩
        · by_cases hjk : j ∈ ks
          · have hjl : j < E1.length := by rcases hj with ⟨u, e⟩ | ⟨c, e⟩ <;> exact (List.getElem?_eq_some_iff.mp e).1
            have hfl : j < (keepE E1 Ef ks).length := by
              rw [keepE_len, fin.rel.elen, wipe_length, ← A1.rel.elen]; exact hjl
            have hs := keepE_in hjk hn (List.getElem?_eq_getElem hfl)
            unfold IsSet at hj ⊢
            rw [List.getElem?_eq_getElem hfl, ← hs.1]
            exact hj
          · have h3 : IsSet (wipeE E1 ks) j := by unfold IsSet at hj ⊢; rw [wipeE_get hjk]; exact hj
            have h4 := fin.le j h3
            unfold IsSet at h4 ⊢
            rw [keepE_get hjk]
            exact h4
        · rw [ea]
          exact ⟨D, rfl, rfl, ⟨vf, fin.at_, fin.reps.mono s2 (List.prefix_refl _)⟩, nw⟩
    -- the loop
    refine ⟨fun i m Hc => m = us.length - i ∧ i ≤ us.length ∧ ∃ ρc Ec Bc acc vacc, Fin X.K F ρ1 E1 B1 σ H1 D ks acc Ec Bc ρc Hc vacc ∧ G Hc (LvF (F.add D (some (.lst vacc))) ρc Ec Bc (wipe σ ks)) ρc ∧ wipeE Ec ks = Ec ∧
      PostL (lcGo bd ft fe chk ks (us.drop i) acc Ec Bc) (fun accf Ef Bf => ∀ ρf Hf vf, Fin X.K F ρ1 E1 B1 σ H1 D ks accf Ef Bf ρf Hf vf → Q (.ref D) Hf), ⟨us.length, by simp, Nat.zero_le _, ρ1, wipeE E1 ks, B1, [], [], ?_, ?_, wipeE_idem, by simpa using qpost⟩, ?_⟩
    · obtain ⟨r2, lv2⟩ := (A1.rel.alloc (ob := .lst []) hD).wipes (ks := ks)
      have sa : Stp H1 (LvF F ρ1 E1 B1 σ) (upd H1 D (.lst [])) (LvF (F.add D (some (.lst []))) ρ1 E1 B1 σ) := fun q o h n => ⟨.inl (by rw [upd_ne (ne_of_none h hD)]; exact h), fun z => by
        rcases LvF.add_iff.mp z with z | z
        · exact n z
        · subst z; rw [hD] at h; cases h⟩
      exact ⟨List.prefix_refl _, r2, sa.trans (Stp.less lv2), EnLe.refl, upd_same, Reps.nil⟩
    · obtain ⟨r2, lv2⟩ := (A1.rel.alloc (ob := .lst []) hD).wipes (ks := ks)
      have sa : Stp H1 (LvF F ρ1 E1 B1 σ) (upd H1 D (.lst [])) (LvF (F.add D (some (.lst []))) ρ1 E1 B1 σ) := fun q o h n => ⟨.inl (by rw [upd_ne (ne_of_none h hD)]; exact h), fun z => by
        rcases LvF.add_iff.mp z with z | z
        · exact n z
        · subst z; rw [hD] at h; cases h⟩
      exact W.keep _ _ _ _ _ _ B1 G1 (sa.trans (Stp.less lv2)) (List.prefix_refl _) r2.boxes C1
    · rintro i m Hc ⟨rfl, hil, ρc, Ec, Bc, acc, vacc, fin, Gc, hwe, qc⟩
      by_cases hlt : i < us.length
      · refine .inr ⟨W.go _ _ _ _ Gc hlt, fun H' => (i + 1 ≤ us.length ∧ ∃ ρc Ec Bc acc vacc, Fin X.K F ρ1 E1 B1 σ H1 D ks acc Ec Bc ρc H' vacc ∧ G H' (LvF (F.add D (some (.lst vacc))) ρc Ec Bc (wipe σ ks)) ρc ∧ wipeE Ec ks = Ec ∧
          PostL (lcGo bd ft fe chk ks (us.drop (i + 1)) acc Ec Bc) (fun accf Ef Bf => ∀ ρf Hf vf, Fin X.K F ρ1 E1 B1 σ H1 D ks accf Ef Bf ρf Hf vf → Q (.ref D) Hf)), fun H' n => ⟨us.length - (i + 1), by omega, rfl, n⟩, fun x H' hy => ?_⟩
        have hu : us[i]? = some us[i] := List.getElem?_eq_getElem hlt
        obtain ⟨gr, rp⟩ := W.yld _ _ _ i us[i] x H' Gc hu hy fin.rel.lv_there
        have rl3 := fin.rel.growH gr
        have sg := grow_stp fin.rel gr
        rw [List.drop_eq_getElem_cons hlt] at qc
        simp only [lcGo] at qc
        refine ⟨F.add D (some (.lst vacc)), ρc, Ec, Bc, us[i], rl3, rp, ?_⟩
        cases h3 : bd us[i] Ec with
        | none => simp only [h3] at qc; exact (qc : False).elim
        | some E2 =>
          simp only [h3] at qc
          intro σ2 rl4 sb lv4 le4
          have hw2 : wipe σ2 ks = wipe σ ks := by
            have := wipe_same sb (fun k hkm => by rw [wipe_length]; exact hks k hkm)
            rw [this, wipe_idem (by intro k hkm; rw [wipe_length]; exact hks k hkm), wipe_idem hks]
          have s0 : Stp Hc (LvF (F.add D (some (.lst vacc))) ρc Ec Bc (wipe σ ks)) H' (LvF (F.add D (some (.lst vacc))) ρc E2 Bc σ2) := sg.trans (Stp.less lv4)
          have done : ∀ (ρn : List Addr) (En : En) (Bn : Bx) (Hn : Hp) (vn : List V) (accn : List U), ρc <+: ρn → Rel X.K (F.add D (some (.lst vn))) ρn En Bn σ2 Hn → Stp H' (LvF (F.add D (some (.lst vacc))) ρc E2 Bc σ2) Hn (LvF (F.add D (some (.lst vn))) ρn En Bn σ2) → EnLe E2 En → Hn D = some (.lst vn) →
              Reps X.K Hn (LvF (F.add D (some (.lst vn))) ρn En Bn σ2) ρn accn vn → PostL (goOnL chk (lcGo bd ft fe chk ks (us.drop (i + 1)) accn) (wipeE En ks) Bn) (fun accf Ef Bf => ∀ ρf Hf vf, Fin X.K F ρ1 E1 B1 σ H1 D ks accf Ef Bf ρf Hf vf → Q (.ref D) Hf) →
              (i + 1 ≤ us.length ∧ ∃ ρc Ec Bc acc vacc, Fin X.K F ρ1 E1 B1 σ H1 D ks acc Ec Bc ρc Hn vacc ∧ G Hn (LvF (F.add D (some (.lst vacc))) ρc Ec Bc (wipe σ ks)) ρc ∧ wipeE Ec ks = Ec ∧
                PostL (lcGo bd ft fe chk ks (us.drop (i + 1)) acc Ec Bc) (fun accf Ef Bf => ∀ ρf Hf vf, Fin X.K F ρ1 E1 B1 σ H1 D ks accf Ef Bf ρf Hf vf → Q (.ref D) Hf)) := fun ρn En Bn Hn vn accn pxn rln sn len atn repn qn => by
            obtain ⟨rw', lvw⟩ := rln.wipes (ks := ks)
            rw [hw2] at rw' lvw
            have sw := Stp.less (H := Hn) lvw
            have hck : chk Bn := by
              by_cases z : chk Bn
              · exact z
              · unfold goOnL at qn; rw [if_neg z] at qn; exact qn.elim
            rw [goOnL_yes hck] at qn
            have stot := (s0.trans sn).trans sw
            have le5 : EnLe (wipeE E1 ks) (wipeE En ks) := by
              have h0 := fin.le.trans (le4.trans len)
              have h1 := h0.wipe (ks := ks)
              rw [wipeE_idem] at h1
              exact h1
            exact ⟨hlt, ρn, wipeE En ks, Bn, accn, vn, ⟨fin.px.trans pxn, rw', fin.stp.trans stot, le5, atn, repn.mono sw (List.prefix_refl _)⟩, W.keep _ _ _ _ _ _ Bn Gc stot pxn rw'.boxes hck, wipeE_idem, qn⟩
          refine ⟨hw2, F.add D (some (.lst vacc)), ρc, E2, Bc, rl4, ?_⟩
          cases h4 : ft E2 Bc with
          | bad => simp only [h4] at qc; exact qc
          | ex c E' B' => simp only [h4, O.bindN_ex] at qc; exact (qc : False).elim
          | ok b E3 B3 =>
            simp only [h4, O.bindN_ok] at qc
            intro ρ3 H3 A3
            have at3 : H3 D = some (.lst vacc) := by have := (A3.rel.out D (.inr rfl)).1; simpa [Fm.add] using this
            cases b with
            | false =>
              simp only [Bool.false_eq_true, if_false] at qc ⊢
              exact done ρ3 E3 B3 H3 vacc acc A3.px A3.rel A3.stp A3.le at3 (fin.reps.mono (s0.trans A3.stp) A3.px) qc
            | true =>
              simp only [if_true] at qc ⊢
              refine ⟨F.add D (some (.lst vacc)), ρ3, E3, B3, A3.rel, ?_⟩
              cases h5 : fe E3 B3 with
              | bad => rw [h5] at qc; exact qc
              | ex c E' B' => rw [h5] at qc; exact (qc : False).elim
              | ok r E4 B4 =>
                rw [h5] at qc
                simp only [O.bindN_ok] at qc
                intro ρ4 H4 v4 A4
                cases h6 : settle r E4 with
                | none => rw [h6] at qc; exact qc.elim
                | some yE =>
                  obtain ⟨y, E5⟩ := yE
                  rw [h6] at qc
                  simp only at qc
                  by_cases hl : acc.length < 16777216
                  · rw [if_pos hl] at qc
                    obtain ⟨T4, R4⟩ := A4.settled h6
                    have at4 : H4 D = some (.lst vacc) := by have := (T4.rel.out D (.inr rfl)).1; simpa [Fm.add] using this
                    obtain ⟨r5, s5⟩ := T4.rel.reown (ob := .lst (vacc ++ [v4])) nw
                    refine ⟨vacc, at4, by rw [sizeLine_eq, ← fin.reps.len]; exact hl, ?_⟩
                    exact done ρ4 E5 B4 _ (vacc ++ [v4]) (acc ++ [y]) (A3.px.trans T4.px) r5 ((A3.stp.trans T4.stp).trans s5) (A3.le.trans T4.le) upd_same
                      ((fin.reps.mono (((s0.trans A3.stp).trans T4.stp).trans s5) (A3.px.trans T4.px)).append (Reps.one (Rep.mono s5 (List.prefix_refl _) _ _ R4))) qc
                  · rw [if_neg hl] at qc; exact qc.elim
      · have e : i = us.length := by omega
        subst e
        rw [List.drop_length] at qc
        exact .inl ⟨W.stop _ _ _ Gc, qc ρc Hc vacc fin⟩
end
end QB
/-! QbK: comprehensions as expressions and statements; more operations; the law's end. -/
namespace QB
open PySem L2
/-- a comprehension's block -/
abbrev Cy.blk (X : Cy) (s : Shared) (H : Hp) (scope : Scope) (cenv : Env) (fp : List Addr) : Cy := ⟨X.toCx.blk s H scope cenv fp, fun _ _ _ _ => False, takes0, PassesOwn.never⟩
section
variable {X : Cy} {a b c e i o tg iter elt : Expr} {es ifs : List Expr} {fa fb fe fo : Ex} {ft : Te} {fi : Iv} {fs : Ar} {bd : Bd} {ks : List Nat} {pos spos py p p1 p2 p3 cpos apos : Pos} {x y name : Str} {scope : Scope} {own : List (Str × Nat)}
theorem sndE_lc (hc : X.calm = true) (hN : X.N.Nodup) (ok : BlkOk X.N X.env.scope scope own) (hi : SndI X tg iter fi)
    (hg : ∀ (s : Shared) (H : Hp) (C : Addr) (cl : List (Str × Addr)) (fp : List Addr), SndG (X.blk s H scope (compEnvC scope cl C X.env) fp) tg (own.map (·.2)) bd)
    (ht : ∀ (s : Shared) (H : Hp) (C : Addr) (cl : List (Str × Addr)) (fp : List Addr), SndTs (X.blk s H scope (compEnvC scope cl C X.env) fp) ifs ft)
    (he : ∀ (s : Shared) (H : Hp) (C : Addr) (cl : List (Str × Addr)) (fp : List Addr), SndE (X.blk s H scope (compEnvC scope cl C X.env) fp) elt fe)
    (hs : ∀ x, foldedSetIterable iter X.env x = pure x := by intro _; rfl) : SndE X (.ListComp elt [⟨tg, iter, ifs, 0⟩] scope pos) (mLc fi bd ft fe (own.map (·.2))) := by
  obtain ⟨wi, pi, hi⟩ := hi
  exact ⟨_, pe_lc (g := uG X.K (own.map (·.2)) bd) (tt := uT X.K (bq X) ft) (te := uE X.K (bq X) fe) hc hN pi ok (fun s H C cl fp => (hg s H C cl fp).u) (fun s H C cl fp => ht s H C cl fp) (fun s H C cl fp => (he s H C cl fp).u) hs, lc_reads hi⟩
theorem sndS_setLc {k : Nat} (hc : X.calm = true) (hN : X.N.Nodup) (ok : BlkOk X.N X.env.scope scope own) (hi : SndI X tg iter fi)
    (hg : ∀ (s : Shared) (H : Hp) (C : Addr) (cl : List (Str × Addr)) (fp : List Addr), SndG (X.blk s H scope (compEnvC scope cl C X.env) fp) tg (own.map (·.2)) bd)
    (ht : ∀ (s : Shared) (H : Hp) (C : Addr) (cl : List (Str × Addr)) (fp : List Addr), SndTs (X.blk s H scope (compEnvC scope cl C X.env) fp) ifs ft)
    (he : ∀ (s : Shared) (H : Hp) (C : Addr) (cl : List (Str × Addr)) (fp : List Addr), SndE (X.blk s H scope (compEnvC scope cl C X.env) fp) elt fe)
    (hy : X.N[k]? = some y := by rfl) (hyl : X.env.scope.names.lookup y = some .local := by rfl) (hsw : swapsWith (.ListComp elt [⟨tg, iter, ifs, 0⟩] scope pos) (some (.Name y py)) spos.line X.env = pure true := by exact sw_true rfl rfl rfl (by decide +kernel))
    (hs : ∀ x, foldedSetIterable iter X.env x = pure x := by intro _; rfl) : SndS X (.Assign [.Name y py] (.ListComp elt [⟨tg, iter, ifs, 0⟩] scope pos) spos) (sSet k (mLc fi bd ft fe (own.map (·.2)))) := by
  obtain ⟨wi, pi, hi⟩ := hi
  exact ⟨_, ps_setLc (g := uG X.K (own.map (·.2)) bd) (tt := uT X.K (bq X) ft) (te := uE X.K (bq X) fe) hc hN hy hyl hsw pi ok (fun s H C cl fp => (hg s H C cl fp).u) (fun s H C cl fp => ht s H C cl fp) (fun s H C cl fp => (he s H C cl fp).u) hs, set_reads (lc_reads hi)⟩
theorem sndS_ownLc {k : Nat} (hc : X.calm = true) (hN : X.N.Nodup) (ok : BlkOk X.N X.env.scope scope own) (hi : SndI X tg iter fi)
    (hg : ∀ (s : Shared) (H : Hp) (C : Addr) (cl : List (Str × Addr)) (fp : List Addr), SndG (X.blk s H scope (compEnvC scope cl C X.env) fp) tg (own.map (·.2)) bd)
    (ht : ∀ (s : Shared) (H : Hp) (C : Addr) (cl : List (Str × Addr)) (fp : List Addr), SndTs (X.blk s H scope (compEnvC scope cl C X.env) fp) ifs ft)
    (he : ∀ (s : Shared) (H : Hp) (C : Addr) (cl : List (Str × Addr)) (fp : List Addr), SndE (X.blk s H scope (compEnvC scope cl C X.env) fp) elt fe)
    (hy : X.N[k]? = some y := by rfl) (hyl : X.env.scope.names.lookup y = some .local := by rfl) (hsw : swapsWith (.ListComp elt [⟨tg, iter, ifs, 0⟩] scope pos) (some (.Name y py)) spos.line X.env = pure true := by exact sw_true rfl rfl rfl (by decide +kernel))
    (hs : ∀ x, foldedSetIterable iter X.env x = pure x := by intro _; rfl) : SndS X (.Assign [.Name y py] (.ListComp elt [⟨tg, iter, ifs, 0⟩] scope pos) spos) (sOwn k (mLc fi bd ft fe (own.map (·.2)))) := by
  obtain ⟨wi, pi, hi⟩ := hi
  exact ⟨_, ps_setLc (g := uG X.K (own.map (·.2)) bd) (tt := uT X.K (bq X) ft) (te := uE X.K (bq X) fe) hc hN hy hyl hsw pi ok (fun s H C cl fp => (hg s H C cl fp).u) (fun s H C cl fp => ht s H C cl fp) (fun s H C cl fp => (he s H C cl fp).u) hs, own_reads (lc_reads hi)⟩
/-! ### isinstance against a tuple of types -/
theorem kitAny_of {K : PySem.W.Frag} {s : String} : ∀ {Ts : List String} {k : Bool}, isAny s Ts = some k → PySem.W.kitAny K (.type s) (Ts.map Value.type) = some k := by
  intro Ts
  induction Ts with
  | nil => intro k h; simp only [isAny, Option.some.injEq] at h; subst h; rfl
  | cons T Ts ih =>
    intro k h
    simp only [isAny, Option.bind_eq_some_iff, Option.map_eq_some_iff] at h
    obtain ⟨k1, h1, k2, h2, rfl⟩ := h
    have e1 : PySem.W.kitOne K (.type s) (.type T) = some k1 := kit_ty h1
    have e2 := ih h2
    simp only [List.map_cons, PySem.W.kitAny, e1, e2]
    cases k1 <;> rfl
/-! ### [::-1] of lists -/
def mRevL (fa : Ex) : Ex := m1 (fun u => match u with | .lst us => some (.fr (.lst us.reverse)) | _ => none) fa
theorem sndE_revL {k : Nat} (ha : SndE X a fa) : SndE X (.Subscript a (.Slice none none (some (.UnaryOp .USub (.Constant (.int 1) k p1) p2)) p3) pos) (mRevL fa) := by
  obtain ⟨ta, pa, ha⟩ := ha
  refine ⟨_, pe_revL pa, m1_ok (r := fun v H Q => ∃ a xs, v = .ref a ∧ SqL X.K H a xs ∧ ∀ p, H p = none → Q (.ref p) (upd H p (.lst xs.reverse))) (fun F ρ E B σ H u1 v1 r3 Q rl t e q => ?_) ha⟩
  split at e
  · next us =>
    cases e
    obtain ⟨p, vs, rfl, h1, h2⟩ := t
    exact ⟨p, vs, rfl, .inl (.inl h1), fun p hp => q _ _ (Aft.fresh rl hp h2.reverse)⟩
  · cases e
end
/-! ### the law's end -/
/-- the law's own promise: nothing is raised -/
def spL (K : PySem.W.Frag) (n : Nat) (g : Fn) : Sp := fun vs H Q _ => ∃ Out ρ B us, us.length = n ∧ BRel K Out ρ B H ∧ Reps K H (OB Out ρ B) ρ us vs ∧
  match g us B with
  | .ok u B' => ∀ ρ' H' v, BAft K Out ρ B H u ρ' B' H' v → Q v H'
  | _ => False
theorem spL_spF {K : PySem.W.Frag} {mg : Str → Option Value} {n : Nat} {g : Fn} : ∀ vs H Q E, spL K n g vs H Q E → spF K mg n g vs H Q E := fun vs H Q E ⟨Out, ρ, B, us, h1, h2, h3, h4⟩ =>
  ⟨Out, ρ, B, us, h1, h2, h3, by
    cases e : g us B with
    | bad => rw [e] at h4; exact h4.elim
    | ex c B' => rw [e] at h4; exact h4.elim
    | ok u B' => rw [e] at h4; exact h4⟩
theorem spF_law {K : PySem.W.Frag} {g : Fn} (h : ∀ ns : List Int, ns.length ≤ 63 → ∃ B', g [.scr ns] [] = .ok (.bl true) B') :
    ∀ (H : Hp) (a : Addr) (ns : List Int), ns.length ≤ 63 → SqL K H a (ns.map V.int) → spL K 1 g [.ref a] H (fun v _ => v = .bl true) fun _ _ _ => False := by
  intro H a ns hl hS
  obtain ⟨B', e⟩ := h ns hl
  refine ⟨fun _ => False, [], [], [.scr ns], rfl, ⟨rfl, fun i c p h => by simp at h, fun i j c d p h => by simp at h, fun q z => z.elim⟩, Reps.one ?_, ?_⟩
  · simp only [Rep]
    refine ⟨a, rfl, ?_⟩
    rcases hS with hS | hS
    · exact .inl ⟨hS, fun z => by rcases z with z | ⟨i, c, z, _⟩; exact z; simp at z⟩
    · exact .inr hS
  · rw [e]
    intro ρ' H' v A
    have := A.rep
    simpa [Rep] using this
end QB
/-! QbL: defs as the generator calls them; joined operators; chains; keywords. -/
namespace QB
open PySem L2 PyProof.Rows
/-- a def of the text that keeps its promise -/
structure CalF (P : Program) (w : World) (K : PySem.W.Frag) (mg : Str → Option Value) (base : Heap) (k : Nat) (x : Str) (st : Stmt) (ps : List Str) (g : Fn) : Prop where
  ex : ∃ f fd, FnOk P w K mg base (L2.CX P w) k f fd ps (spF K mg ps.length g) ∧ mg x = some (.ref f) ∧ Fun K x x st f fd ∧ Binds K fd ps []
  len : ∀ us B, us.length ≠ ps.length → g us B = .bad
/-- where the def stands -/
structure DefAt (K : PySem.W.Frag) (mg : Str → Option Value) (x : Str) (st : Stmt) : Prop where
  ex : ∃ f fd, Fun K x x st f fd ∧ mg x = some (.ref f)
section
variable {P : Program} {w : World} {K : PySem.W.Frag} {mg : Str → Option Value} {base : Heap} {k j : Nat} {x : Str} {st : Stmt} {ps : List Str} {g g' : Fn}
theorem CalF.mono (C : CalF P w K mg base j x st ps g) (h : j ≤ k) : CalF P w K mg base k x st ps g := by
  obtain ⟨⟨f, fd, h1, h2⟩, h3⟩ := C
  exact ⟨⟨f, fd, h1.mono h, h2⟩, h3⟩
theorem CalF.to (C : CalF P w K mg base k x st ps g) (h : ∀ us B, us.length = ps.length → g' us B ≠ .bad → g us B = g' us B) (hl : ∀ us B, us.length ≠ ps.length → g' us B = .bad) : CalF P w K mg base k x st ps g' := by
  obtain ⟨⟨f, fd, h1, h2⟩, h3⟩ := C
  exact ⟨⟨f, fd, h1.imp (spF_imp h), h2⟩, hl⟩
theorem calF_of {N : List Str} {body : Sm} (D : DefAt K mg x st) (S : FnScope N ps (defScope st))
    (hb : ∀ (kV doc pm : Value) (an : Option Addr) (cdv ct : Value) (us : List Value), us.length = ps.length → bindArgs (PySem.W.fnOf x x (defArgs st) (defBody st) (defScope st) .none kV doc pm an cdv ct) ⟨us, []⟩ = pure (ps.zip us))
    (h : ∀ (f : Addr) (cdv : Value) (A : Around) (outer : List Env) (s : Shared) (H : Hp) (E : XK), Room k (A.deeper (PyProof.Rows.envOfC x (defScope st) s.heap.objs.size f cdv)) →
      SndB (defY P w K mg base N x (defScope st) f cdv A outer s H E) (defBody st) body) : CalF P w K mg base (k + 1) x st ps (runBody N.length ps.length body) := by
  obtain ⟨f, fd, hF, hm⟩ := D.ex
  exact ⟨⟨f, fd, fn_body hF S (fun cdv A outer s H E hr => h f cdv A outer s H E hr), hm, hF, hF.binds hb⟩, runBody_len⟩
theorem calF_zero : CalF P w K mg base 0 x st ps (fun _ _ => .bad) → True := fun _ => trivial
/-- nothing is promised at level 0 -/
theorem calF_none (D : DefAt K mg x st) (hb : ∀ (kV doc pm : Value) (an : Option Addr) (cdv ct : Value) (us : List Value), us.length = ps.length → bindArgs (PySem.W.fnOf x x (defArgs st) (defBody st) (defScope st) .none kV doc pm an cdv ct) ⟨us, []⟩ = pure (ps.zip us)) :
    CalF P w K mg base k x st ps (fun _ _ => .bad) := by
  obtain ⟨f, fd, hF, hm⟩ := D.ex
  have no : ∀ vs H Q E, ¬ spF K mg ps.length (fun _ _ => Fo.bad) vs H Q E := fun vs H Q E ⟨_, _, _, _, _, _, _, z⟩ => z
  exact ⟨⟨f, fd, ⟨fun vs H Q E h => absurd h (no vs H Q E), fun A outer s H args us vs Q E _ _ _ _ h => absurd h (no vs H Q E)⟩, hm, hF, hF.binds hb⟩, fun _ _ _ => rfl⟩
end
section
variable {X : Cy} {a b c e : Expr} {es : List Expr} {fa fb fc : Ex} {fs : Ar} {pos p p2 p3 : Pos} {x : Str} {k j : Nat} {st : Stmt} {ps : List Str} {g : Fn}
theorem sndE_callF (C : CalF X.prog X.w X.K X.mg X.base k x st ps g) (hr : Room j X.A) (hk : k ≤ j) (ha : SndA X (e :: es) fs) (hg : Gl X x := by rfl) (hdb : (x == ("__debug__" : Str)) = false := by decide)
    (hs : starEach (e :: es) X.env = (false, eval e X.env) :: starEach es X.env := by rfl) (hpl : (backTo pos (starEach es X.env)).any (·.1) = false := by rfl) : SndE X (.Call (.Name x p) (e :: es) [] pos) (mCall g fs) := by
  obtain ⟨⟨f, fd, h1, h2, h3, h4⟩, hl⟩ := C
  exact sndE_call h1 (hr.mono hk) h2 h3.kp h4 hl ha hg hdb hs hpl
theorem sndE_callF0 (C : CalF X.prog X.w X.K X.mg X.base k x st [] g) (hr : Room j X.A) (hk : k ≤ j) (hg : Gl X x := by rfl) (hdb : (x == ("__debug__" : Str)) = false := by decide) : SndE X (.Call (.Name x p) [] [] pos) (mCall g mNil) := by
  obtain ⟨⟨f, fd, h1, h2, h3, h4⟩, hl⟩ := C
  exact sndE_call0 h1 (hr.mono hk) h2 h3.kp h4 hl hg hdb
/-! ### keywords alone -/
abbrev Perm2 := List Nat
/-- the values of the keywords, put in the parameters' order -/
def pick {α : Type} (ix : List Nat) (ws : List α) : List α := ix.filterMap fun i => ws[i]?
structure KwOk (K : PySem.W.Frag) (st : Stmt) (x : Str) (ps ks : List Str) (ix : List Nat) : Prop where
  b : ∀ (kV doc pm : Value) (an : Option Addr) (cdv ct : Value) (ws : List Value), (pick ix ws).length = ps.length → bindArgs (PySem.W.fnOf x x (defArgs st) (defBody st) (defScope st) .none kV doc pm an cdv ct) ⟨[], ks.zip ws⟩ = pure (ps.zip (pick ix ws))
theorem pick_vals {ix : List Nat} {zs : List V} {ws : List Value} (h : Vals zs ws) : Vals (pick ix zs) (pick ix ws) := by
  induction ix with
  | nil => exact .nil
  | cons i ix ih =>
    unfold pick at ih ⊢
    rw [List.filterMap_cons, List.filterMap_cons]
    cases e : zs[i]? with
    | none => rw [h.none_of e]; exact ih
    | some v =>
      obtain ⟨u, h1, h2⟩ := h.get e
      rw [h1]
      exact .cons h2 ih
theorem pick_reps {K : PySem.W.Frag} {H : Hp} {Lv : AS} {ρ : List Addr} {ix : List Nat} {us : List U} {vs : List V} (h : Reps K H Lv ρ us vs) : Reps K H Lv ρ (pick ix us) (pick ix vs) := by
  induction ix with
  | nil => exact Reps.nil
  | cons i ix ih =>
    unfold pick at ih ⊢
    rw [List.filterMap_cons, List.filterMap_cons]
    cases e : us[i]? with
    | none =>
      have : vs[i]? = none := by
        rw [List.getElem?_eq_none_iff] at e ⊢
        rw [← h.len]; exact e
      rw [this]; exact ih
    | some u =>
      obtain ⟨v, h1, h2⟩ := h.get e
      rw [h1]
      exact Reps.cons h2 ih
def SndK (X : Cy) (kws : List Keyword) (f : Ar) : Prop := ∃ t : TA, PK X kws t ∧ ∀ F ρ E B σ H Q, Rel X.K F ρ E B σ H → PostA X.K X.q F ρ E B σ H (f E B) Q → t σ H Q
theorem sndK_nil : SndK X [] mNil := ⟨_, pk_nil, fun F ρ E B σ H Q rl h => h ρ H [] ⟨AftT.refl rl, Reps.nil⟩⟩
theorem sndK_cons {kws : List Keyword} {nm : Option Str} (ha : SndE X e fa) (hr : SndK X kws fs) : SndK X (⟨nm, e, p⟩ :: kws) (mCons fa fs) := by
  obtain ⟨ta, pa, ha⟩ := ha
  obtain ⟨tr, pr, hr⟩ := hr
  refine ⟨_, pk_cons pa pr, fun F ρ E B σ H Q rl h => ?_⟩
  refine ha F ρ E B σ H _ rl ?_
  simp only [mCons] at h
  cases h1 : fa E B with
  | bad => rw [h1] at h; exact h
  | ex c E' B' => rw [h1] at h ; first | exact h | exact Aft.exq (by assumption) h | exact AftT.exq (by assumption) h | exact Aft.exq (by assumption) (Aft.exq (by assumption) h) | exact AftT.exq (by assumption) (Aft.exq (by assumption) h) | exact AftT.exq (AftA.t (by assumption)) h | exact ExQ.px h (Aft.px (by assumption)) | exact ExQ.px h (List.IsPrefix.trans (AftT.px (by assumption)) (Aft.px (by assumption))) | exact Aft.exq (by assumption) (AftT.exq (by assumption) h) | exact Aft.exq (by assumption) (Aft.exq (by assumption) (AftT.exq (by assumption) h))
  | ok r1 E1 B1 =>
    rw [h1] at h
    intro ρ1 H1 v1 A1
    simp only [O.bind_ok] at h
    split at h
    · next u E2 es =>
      obtain ⟨T1, R1⟩ := A1.settled es
      refine hr F ρ1 E2 B1 σ H1 _ T1.rel ?_
      cases h2 : fs E2 B1 with
      | bad => rw [h2] at h; exact h
      | ex c E' B' => rw [h2] at h ; first | exact h | exact Aft.exq (by assumption) h | exact AftT.exq (by assumption) h | exact Aft.exq (by assumption) (Aft.exq (by assumption) h) | exact AftT.exq (by assumption) (Aft.exq (by assumption) h) | exact AftT.exq (AftA.t (by assumption)) h | exact ExQ.px h (Aft.px (by assumption)) | exact ExQ.px h (List.IsPrefix.trans (AftT.px (by assumption)) (Aft.px (by assumption))) | exact Aft.exq (by assumption) (AftT.exq (by assumption) h) | exact Aft.exq (by assumption) (Aft.exq (by assumption) (AftT.exq (by assumption) h))
      | ok us E3 B3 =>
        rw [h2] at h
        simp only [O.bind_ok] at h
        intro ρ3 H3 vs A3
        exact h ρ3 H3 (v1 :: vs) ⟨T1.trans A3.t, Reps.cons (Rep.mono A3.t.stp A3.t.px _ _ R1) A3.reps⟩
    · exact h.elim
theorem run_fnkS {X : Cx} {cx : CXT} {n : Nat} {fa : Addr} {dat : FuncData} {qs ks : List Str} {wish : Sp} {Ek : XK} {ga : List Value → List Value → List Value} {gv : List V → List V → List V} {pins : List (Addr × Obj)} {σ : L2.St} {H : Hp} {s : Shared} {Q : VK} {us ws : List Value} {vs zs : List V}
    (ok : FnOk X.prog X.w X.K X.mg X.base cx n fa dat qs wish) (room : Room n X.A) (kb : KBinds X.K dat qs ks ga gv) (out : PassesAt cx X σ Ek) (I : Inv X pins σ H s) (r1 : Vals vs us) (r2 : Vals zs ws) (h : wish (gv vs zs) H Q Ek) :
    wpAny (model X.prog X.w) X.A (call (.ref fa) us (ks.zip ws)) (EP X pins σ Q) X.xe s := by
  have rel := kb.rel r1 r2
  have len : (ga us ws).length = qs.length := rel.length.symm.trans (ok.len _ _ _ _ h)
  have go := ok.run X.A X.stack s H ⟨us, ks.zip ws⟩ (ga us ws) (gv vs zs) Q Ek room I.env0 (kb.to s us ws I.kIn len) rel h
  refine wpAny_call (codeAny_mono go fun res s' hres => ?_)
  rcases res with e | fl
  · exact out pins H s e s' I hres
  · cases fl <;> first | exact I.after hres | exact (hres : False).elim
def mCallK (g : Fn) (ix : List Nat) (fs : Ar) : Ex := mCall (fun us B => g (pick ix us) B) fs
theorem sndE_callK {kws : List Keyword} {ks : List Str} {ix : List Nat} (C : CalF X.prog X.w X.K X.mg X.base k x st ps g) (hr : Room j X.A) (hk : k ≤ j) (kw : KwOk X.K st x ps ks ix) (hps : ps ≠ []) (ha : SndK X kws fs) (hg : Gl X x := by rfl)
    (hall : (backToKw pos (keywordEach kws X.env)).all (·.1.isSome) = true := by rfl) (hks : (backToKw pos (keywordEach kws X.env)).filterMap (·.1) = ks := by rfl)
    (hdb : (x == ("__debug__" : Str)) = false := by decide) (hpl : ((backTo pos (starEach [] X.env)).any (·.1) || (backToKw pos (keywordEach kws X.env)).any (·.1.isNone)) = false := by rfl) : SndE X (.Call (.Name x p) [] kws pos) (mCallK g ix fs) := by
  obtain ⟨⟨f, fd, h1, h2, h3, h4⟩, hl⟩ := C
  obtain ⟨tk, pk, hk2⟩ := ha
  have kb : KBinds X.K fd ps ks (fun us ws => match us with | [] => pick ix ws | _ => []) (fun us zs => match us with | [] => pick ix zs | _ => []) := by
    obtain ⟨oc, od, kV, doc, pm, an, cdv, ct, osl, rfl, lk, hcd⟩ := h3.ex
    refine ⟨fun s us ws _ hlen => ?_, fun {vs us zs ws} r1 r2 => ?_⟩
    · cases us with
      | nil => exact .of_eq (kw.b kV doc pm an cdv ct ws hlen)
      | cons u us =>
        exact absurd (by cases ps <;> simp_all) hps
    · cases r1 with
      | nil => exact pick_vals r2
      | cons _ _ => exact .nil
  refine ⟨fun σ H Q => tk σ H fun zs H2 => spF X.K X.mg ps.length g (pick ix zs) H2 Q (WE X.W σ), ⟨fun pins s σ H Q I h => ?_⟩, fun F ρ E B σ H Q rl q => ?_⟩
  · refine wpAny_Call_Name_kw (ld_glob I hg h2 ?_ hdb)
    refine PySem.W.callWith_KW0 (h₀ := X.base) I.ok.mod.kin h3.kp hall (thn (pk.run pos pins s σ H _ I h) fun ws s2 ⟨zs, H2, I2, rz, q2⟩ => ⟨I2.kIn, ?_⟩) hpl
    rw [hks]
    exact run_fnkS (vs := []) (us := []) h1 (hr.mono hk) kb (passAt X.tk σ) I2 .nil rz q2
  · refine hk2 F ρ E B σ H _ rl ?_
    simp only [mCallK, mCall] at q
    cases e1 : fs E B with
    | bad => rw [e1] at q; exact q
    | ex c E' B' => rw [e1] at q ; first | exact q | exact Aft.exq (by assumption) q | exact AftT.exq (by assumption) q | exact Aft.exq (by assumption) (Aft.exq (by assumption) q) | exact AftT.exq (by assumption) (Aft.exq (by assumption) q) | exact AftT.exq (AftA.t (by assumption)) q | exact ExQ.px q (Aft.px (by assumption)) | exact ExQ.px q (List.IsPrefix.trans (AftT.px (by assumption)) (Aft.px (by assumption))) | exact Aft.exq (by assumption) (AftT.exq (by assumption) q) | exact Aft.exq (by assumption) (Aft.exq (by assumption) (AftT.exq (by assumption) q))
    | ok us E1 B1 =>
      rw [e1] at q
      intro ρ1 H1 vs A1
      simp only [O.bind_ok] at q
      have hlen : (pick ix us).length = ps.length := by
        by_cases z : (pick ix us).length = ps.length
        · exact z
        · rw [hl _ B1 z] at q; exact q.elim
      refine ⟨outOf F E1 σ, ρ1, B1, pick ix us, hlen, A1.t.rel.brel, by rw [ob_eq]; exact pick_reps A1.reps, ?_⟩
      cases e2 : g (pick ix us) B1 with
      | bad => rw [e2] at q; exact q.elim
      | ex c B2 =>
        rw [e2] at q
        intro ρ2 H2 cls dx v A2 f1 f2 f3
        have A3 := A1.t.rel.back A2
        exact q ρ2 σ H2 cls (some dx) (A1.t.px.trans A3.px) A3.rel ⟨dx, v, f1, rfl, f2, ob_not f3, A3.rep⟩
      | ok u B2 =>
        rw [e2] at q
        exact fun ρ2 H2 v A2 => q ρ2 H2 v (A1.t.then (A1.t.rel.back A2))
/-! ### joined operators -/
def gAdd (a b : U) : Option R := (gII (fun _ _ => true) (· + ·) a b).or ((gCatS a b).or ((gCatL a b).or (gCatT a b)))
def gSub : U → U → Option R := gII (fun _ _ => true) (· - ·)
def gMul (a b : U) : Option R := (gII cMul (· * ·) a b).or (gRep a b)
def gLt (a b : U) : Option R := (gIB (fun i j => decide (i < j)) a b).or (gSB (fun i j => decide (i.cps.toList < j.cps.toList)) a b)
def gLe (a b : U) : Option R := (gIB (fun i j => decide (i ≤ j)) a b).or (gSB (fun i j => !decide (j.cps.toList < i.cps.toList)) a b)
def gGt (a b : U) : Option R := (gIB (fun i j => decide (j < i)) a b).or (gSB (fun i j => decide (j.cps.toList < i.cps.toList)) a b)
def gGe (a b : U) : Option R := (gIB (fun i j => decide (j ≤ i)) a b).or (gSB (fun i j => !decide (i.cps.toList < j.cps.toList)) a b)
theorem op2_Add : Op2S X (binaryOp .Add) gAdd := op2_add.or (op2_catS.or (op2_catL.or op2_catT))
theorem op2_Sub : Op2S X (binaryOp .Sub) gSub := op2_sub
theorem op2_Mul : Op2S X (binaryOp .Mult) gMul := op2_mul.or op2_rep
theorem op2_Lt : Op2S X (compareOp .Lt) gLt := op2_ltI.or op2_ltS
theorem op2_Le : Op2S X (compareOp .LtE) gLe := op2_leI.or op2_leS
theorem op2_Gt : Op2S X (compareOp .Gt) gGt := op2_gtI.or op2_gtS
theorem op2_Ge : Op2S X (compareOp .GtE) gGe := op2_geI.or op2_geS
def gIAdd (a b : U) : Option R := (gII (fun _ _ => true) (· + ·) a b).or (gCatS a b)
theorem op2_IAdd : Op2S X (inplaceOp .Add) gIAdd := op2_iadd.or op2_icatS
theorem op2_ISub : Op2S X (inplaceOp .Sub) gSub := op2_isub
/-! ### a < b < c -/
def mChain (g1 g2 : U → U → Option R) (fa fb fc : Ex) : Ex := fun E B =>
  (fa E B).bind fun r1 E1 B1 => (fb E1 B1).bind fun r2 E2 B2 =>
    match view r1 E2 B2, view r2 E2 B2 with
    | some u1, some u2 => match flatU u2, g1 u1 u2 with
      | some _, some (.w (.bl true)) => (fc E2 B2).bind fun r3 E3 B3 => match view r3 E3 B3 with
        | some u3 => match g2 u2 u3 with
          | some r => .ok r E3 B3
          | none => .bad
        | none => .bad
      | some _, some (.w (.bl false)) => .ok (.w (.bl false)) E2 B2
      | _, _ => .bad
    | _, _ => .bad
theorem flat_keep {K : PySem.W.Frag} {H H' : Hp} {Lv Lv' : AS} {ρ ρ' : List Addr} {u : U} {v w : V} (t : Top K H Lv ρ u v) (e : flatU u = some w) : Top K H' Lv' ρ' u v := by
  cases u <;> simp only [flatU, Option.some.injEq] at e <;> first | (cases e; done) | skip
  · rw [top_non t]; simp [Top, Rep]
  · rw [top_bl t]; simp [Top, Rep]
  · rw [top_int t]; simp [Top, Rep]
  · rw [top_str t]; simp [Top, Rep]
theorem chain_reads {r r' : R2} {g1 g2 : U → U → Option R} {ta tb tc : TE}
    (ho : ∀ F ρ E B σ H u1 u2 v1 v2 r3 Q, Rel X.K F ρ E B σ H → Top X.K H (LvF F ρ E B σ) ρ u1 v1 → Top X.K H (LvF F ρ E B σ) ρ u2 v2 → g1 u1 u2 = some r3 → (∀ H' v, Aft X.K F ρ E B σ H r3 ρ E B H' v → Q v H') → r v1 v2 H Q)
    (ho' : ∀ F ρ E B σ H u1 u2 v1 v2 r3 Q, Rel X.K F ρ E B σ H → Top X.K H (LvF F ρ E B σ) ρ u1 v1 → Top X.K H (LvF F ρ E B σ) ρ u2 v2 → g2 u1 u2 = some r3 → (∀ H' v, Aft X.K F ρ E B σ H r3 ρ E B H' v → Q v H') → r' v1 v2 H Q)
    (ha : ∀ F ρ E B σ H Q, Rel X.K F ρ E B σ H → PostE X.K X.q F ρ E B σ H (fa E B) Q → ta σ H Q) (hb : ∀ F ρ E B σ H Q, Rel X.K F ρ E B σ H → PostE X.K X.q F ρ E B σ H (fb E B) Q → tb σ H Q) (hc : ∀ F ρ E B σ H Q, Rel X.K F ρ E B σ H → PostE X.K X.q F ρ E B σ H (fc E B) Q → tc σ H Q) :
    ∀ F ρ E B σ H Q, Rel X.K F ρ E B σ H → PostE X.K X.q F ρ E B σ H (mChain g1 g2 fa fb fc E B) Q → tChain r r' ta tb tc σ H Q := by
  intro F ρ E B σ H Q rl h
  refine ha F ρ E B σ H _ rl ?_
  simp only [mChain] at h
  cases e1 : fa E B with
  | bad => rw [e1] at h; exact h
  | ex c E' B' => rw [e1] at h ; first | exact h | exact Aft.exq (by assumption) h | exact AftT.exq (by assumption) h | exact Aft.exq (by assumption) (Aft.exq (by assumption) h) | exact AftT.exq (by assumption) (Aft.exq (by assumption) h) | exact AftT.exq (AftA.t (by assumption)) h | exact ExQ.px h (Aft.px (by assumption)) | exact ExQ.px h (List.IsPrefix.trans (AftT.px (by assumption)) (Aft.px (by assumption))) | exact Aft.exq (by assumption) (AftT.exq (by assumption) h) | exact Aft.exq (by assumption) (Aft.exq (by assumption) (AftT.exq (by assumption) h))
  | ok r1 E1 B1 =>
    rw [e1] at h
    intro ρ1 H1 v1 A1
    refine hb _ ρ1 E1 B1 σ H1 _ A1.rel ?_
    simp only [O.bind_ok] at h
    cases e2 : fb E1 B1 with
    | bad => rw [e2] at h; exact h
    | ex c E' B' => rw [e2] at h ; first | exact h | exact Aft.exq (by assumption) h | exact AftT.exq (by assumption) h | exact Aft.exq (by assumption) (Aft.exq (by assumption) h) | exact AftT.exq (by assumption) (Aft.exq (by assumption) h) | exact AftT.exq (AftA.t (by assumption)) h | exact ExQ.px h (Aft.px (by assumption)) | exact ExQ.px h (List.IsPrefix.trans (AftT.px (by assumption)) (Aft.px (by assumption))) | exact Aft.exq (by assumption) (AftT.exq (by assumption) h) | exact Aft.exq (by assumption) (Aft.exq (by assumption) (AftT.exq (by assumption) h))
    | ok r2 E2 B2 =>
      rw [e2] at h
      simp only [O.bind_ok] at h
      intro ρ2 H2 v2 A2
      have A1' := A1.carry A2.letgo
      have T1 := A1'.letgo
      split at h
      · next u1 u2 f1 f2 =>
        have t1 := A1'.top f1
        have t2 : Top X.K H2 (LvF F ρ2 E2 B2 σ) ρ2 u2 v2 := (A2.top f2).mono (Stp.less fun q z => addR_lv z)
        split at h
        · next w hfl eg =>
          refine ho F ρ2 E2 B2 σ H2 u1 u2 v1 v2 _ _ T1.rel t1 t2 eg fun H' v A3 => ?_
          have rr := A3.rep
          simp only [RepR, Rep] at rr
          subst rr
          have T3 := T1.trans A3.letgo
          refine ⟨true, rfl, ?_⟩
          rw [if_pos rfl]
          refine hc F ρ2 E2 B2 σ H' _ T3.rel ?_
          cases e3 : fc E2 B2 with
          | bad => rw [e3] at h; exact h
          | ex c E' B' => rw [e3] at h ; first | exact h | exact Aft.exq (by assumption) h | exact AftT.exq (by assumption) h | exact Aft.exq (by assumption) (Aft.exq (by assumption) h) | exact AftT.exq (by assumption) (Aft.exq (by assumption) h) | exact AftT.exq (AftA.t (by assumption)) h | exact ExQ.px h (Aft.px (by assumption)) | exact ExQ.px h (List.IsPrefix.trans (AftT.px (by assumption)) (Aft.px (by assumption))) | exact Aft.exq (by assumption) (AftT.exq (by assumption) h) | exact Aft.exq (by assumption) (Aft.exq (by assumption) (AftT.exq (by assumption) h))
          | ok r3 E3 B3 =>
            rw [e3] at h
            simp only [O.bind_ok] at h
            intro ρ3 H3 v3 A4
            split at h
            · next u3 f3 =>
              split at h
              · next r5 eg2 =>
                have T4 := A4.letgo
                exact ho' F ρ3 E3 B3 σ H3 u2 u3 v2 v3 r5 Q T4.rel (flat_keep t2 hfl) (A4.top f3) eg2 fun H5 v5 A5 => h ρ3 H5 v5 ((T3.trans T4).then A5)
              · exact h.elim
            · exact h.elim
        · next w hfl eg =>
          refine ho F ρ2 E2 B2 σ H2 u1 u2 v1 v2 _ _ T1.rel t1 t2 eg fun H' v A3 => ?_
          have rr := A3.rep
          simp only [RepR, Rep] at rr
          subst rr
          have T3 := T1.trans A3.letgo
          refine ⟨false, rfl, ?_⟩
          rw [if_neg Bool.false_ne_true]
          exact h ρ2 H' _ (T3.then (Aft.val T3.rel (by simp [Rep])))
        · exact h.elim
      · exact h.elim
theorem sndE_chain {op op' : CmpOp} {g1 g2 : U → U → Option R} (ho : Op2S X (compareOp op) g1) (ho' : Op2S X (compareOp op') g2) (ha : SndE X a fa) (hb : SndE X b fb) (hc : SndE X c fc)
    (hm : lastMarks [op, op'] [b, c] = false := by rfl) : SndE X (.Compare a [op, op'] [b, c] pos) (mChain g1 g2 fa fb fc) := by
  obtain ⟨r, hr, ho⟩ := ho
  obtain ⟨r', hr', ho'⟩ := ho'
  obtain ⟨ta, pa, ha⟩ := ha
  obtain ⟨tb, pb, hb⟩ := hb
  obtain ⟨tc, pc, hc⟩ := hc
  exact ⟨_, pe_chain hr hr' pa pb pc hm, chain_reads ho ho' ha hb hc⟩
theorem sndT_chain {op op' : CmpOp} {g1 g2 : U → U → Option R} (ho : Op2S X (compareOp op) g1) (ho' : Op2S X (compareOp op') g2) (ha : SndE X a fa) (hb : SndE X b fb) (hc : SndE X c fc)
    (hm : lastMarks [op, op'] [b, c] = false := by rfl) : SndT X (.Compare a [op, op'] [b, c] pos) (toT (mChain g1 g2 fa fb fc)) := by
  obtain ⟨r, hr, ho⟩ := ho
  obtain ⟨r', hr', ho'⟩ := ho'
  obtain ⟨ta, pa, ha⟩ := ha
  obtain ⟨tb, pb, hb⟩ := hb
  obtain ⟨tc, pc, hc⟩ := hc
  exact ⟨_, pt_chain hr hr' pa pb pc hm, toT_ok (chain_reads ho ho' ha hb hc)⟩
end
end QB
/-! QbM: constants of the top, isinstance of several, dicts of texts, targets, the walrus. -/
namespace QB
open PySem L2
section
variable {X : Cy} {a b c e i o : Expr} {es : List Expr} {fa fb fc : Ex} {ft : Te} {f g : Sm} {fs : Ar} {bd : Bd} {ks : List Nat} {pos p p2 p3 tpos : Pos} {x : Str} {sts sts' : List Stmt}
theorem sndE_gstrE {z : Str} (h : ∃ u, X.mg x = some u ∧ ∃ t, u = Value.str z t) (hg : Gl X x := by rfl) (hd : (x == ("__debug__" : Str)) = false := by decide) : SndE X (.Name x pos) (mC (.str z)) := by
  obtain ⟨u, h1, h2⟩ := h
  exact sndE_gstr h1 h2 hg hd
/-! ### isinstance against a written tuple -/
structure TyA (X : Cy) (es : List Expr) (Ts : List String) : Prop where
  pa : PA X es (fun σ H Q => Q (Ts.map V.ty) H)
theorem tyA_nil : TyA X [] [] := ⟨⟨fun pos pins s σ H Q I h => pa_nil.run pos pins s σ H Q I h⟩⟩
theorem tyA_cons {T : String} {Ts : List String} (hm : X.mg x = none) (hv : bootBuiltins x = some (.type T)) (hr : TyA X es Ts) (hg : Gl X x := by rfl) (hn : x ≠ "__name__" := by decide) (hdb : (x == ("__debug__" : Str)) = false := by decide)
    (hs : starEach (.Name x p :: es) X.env = (false, eval (.Name x p) X.env) :: starEach es X.env := by rfl) : TyA X (.Name x p :: es) (T :: Ts) :=
  ⟨⟨fun pos pins s σ H Q I h => (pa_cons (pe_bltn (v := .ty T) hg hm hv rfl hn hdb) hr.pa hs).run pos pins s σ H Q I h⟩⟩
theorem tyVals : ∀ Ts : List String, Paired ClsV (Ts.map V.ty) (Ts.map Value.type)
  | [] => .nil
  | T :: Ts => .cons (.ty T) (tyVals Ts)
theorem sndE_isiT {Ts : List String} {k} (hm : X.mg "isinstance" = none) (ha : SndE X a fa) (ht : TyA X es Ts) (hg : Gl X "isinstance" := by rfl) (hlen : Ts.length ≤ 1000 := by decide)
    (hs : starEach [a, .Tuple es k p2] X.env = (false, eval a X.env) :: starEach [.Tuple es k p2] X.env := by rfl) (hvI : bootBuiltins "isinstance" = some (.builtin "isinstance") := by decide +kernel) :
    SndE X (.Call (.Name "isinstance" p) [a, .Tuple es k p2] [] pos) (m1 (gIsiT Ts) fa) := by
  obtain ⟨ta, pa, ha⟩ := ha
  refine ⟨_, pe_callB call_isiT hg hm hvI (pa_cons pa (pa_cons (pe_tup ht.pa) pa_nil) hs) (by decide) (by decide) hs, ?_⟩
  refine m1_ok (r := fun v H Q => (Ts.map V.ty).length ≤ sizeLine ∧ ∀ q, H q = none → rIsiT X.K [v, .ref q] (upd H q (.tup (Ts.map V.ty))) Q) (fun F ρ E B σ H u1 v1 r3 Q rl t e q => ?_) ha
  refine ⟨by rw [List.length_map, sizeLine_eq]; omega, fun q' hq => ?_⟩
  simp only [gIsiT, Option.bind_eq_some_iff, Option.map_eq_some_iff] at e
  obtain ⟨s, e1, k', e2, rfl⟩ := e
  have gr : ∀ z o, H z = some o → (upd H q' (.tup (Ts.map V.ty))) z = some o := fun z o h => by rw [upd_ne (ne_of_none h hq)]; exact h
  have rl2 := rl.growH gr
  have st := grow_stp rl gr
  have ty : TyX X.K (upd H q' (.tup (Ts.map V.ty))) v1 (.type s) := by
    have t2 : Top X.K (upd H q' (.tup (Ts.map V.ty))) (LvF F ρ E B σ) ρ u1 v1 := by
      cases u1 with
      | lst us => obtain ⟨pp, vs, e0, h1, h2⟩ := t; exact ⟨pp, vs, e0, gr _ _ h1, h2.mono st (List.prefix_refl _)⟩
      | tup us => exact (show Top _ _ _ _ (.tup us) _ by have := Rep.mono st (List.prefix_refl _) (.tup us) v1 (by simp only [Rep]; exact t); simp only [Rep] at this; exact this)
      | dct ks us => obtain ⟨pp, kvs, e0, h1, h2, h3⟩ := t; exact ⟨pp, kvs, e0, h1.imp (gr _ _) fun ⟨o, z⟩ => ⟨o, gr _ _ z⟩, h2, h3.mono st (List.prefix_refl _)⟩
      | box _ => exact t.elim
      | exc _ _ => exact Rep.mono st (List.prefix_refl _) _ _ t
      | non => exact t
      | bl _ => exact t
      | int _ => exact t
      | str _ => exact t
      | scr _ => exact Rep.mono st (List.prefix_refl _) _ _ t
    exact kind_top t2 e1
  exact ⟨v1, q', Ts.map V.ty, .type s, Ts.map Value.type, k', rfl, upd_same, tyVals Ts, ty, kitAny_of e2, q _ _ ⟨List.prefix_refl _, rl2, st, EnLe.refl, by simp [RepR, Rep]⟩⟩
/-! ### several targets at once -/
def sAsg (fe : Ex) (bd : Bd) : Sm := fun E B => (fe E B).bind fun r E1 B1 =>
  match settle r E1 with
  | some (u, E2) => match bd u E2 with
    | some E3 => .ok .nx E3 B1
    | none => .bad
  | none => .bad
theorem sndS_asg {tg : Expr} (he : SndE X e fa) (hg : SndG X tg ks bd) (hs : swapsWithSole [tg] e pos.line X.env = pure false := by rfl) (hw : swappedStores [tg] e X.env = pure none := by rfl) (h1 : (assignEach [tg] X.env).map (·.2) = [assign tg X.env] := by rfl) : SndS X (.Assign [tg] e pos) (sAsg fa bd) := by
  obtain ⟨te, pe, he⟩ := he
  obtain ⟨g, pg, hg⟩ := hg
  refine ⟨_, ps_asg pe pg hs hw h1, fun F ρ E B σ H D rl q => ?_⟩
  refine he F ρ E B σ H _ rl ?_
  simp only [sAsg] at q
  cases h1 : fa E B with
  | bad => rw [h1] at q; exact q
  | ex c E' B' => rw [h1] at q ; first | exact q | exact Aft.exq (by assumption) q | exact AftT.exq (by assumption) q | exact Aft.exq (by assumption) (Aft.exq (by assumption) q) | exact AftT.exq (by assumption) (Aft.exq (by assumption) q) | exact AftT.exq (AftA.t (by assumption)) q | exact ExQ.px q (Aft.px (by assumption)) | exact ExQ.px q (List.IsPrefix.trans (AftT.px (by assumption)) (Aft.px (by assumption))) | exact Aft.exq (by assumption) (AftT.exq (by assumption) q) | exact Aft.exq (by assumption) (Aft.exq (by assumption) (AftT.exq (by assumption) q))
  | ok r E1 B1 =>
    rw [h1] at q
    intro ρ1 H1 v1 A1
    simp only [O.bind_ok] at q
    split at q
    · next u E2 es =>
      obtain ⟨T1, R1⟩ := A1.settled es
      refine hg F ρ1 E2 B1 σ H1 u v1 _ T1.rel R1 ?_
      cases h2 : bd u E2 with
      | none => rw [h2] at q; exact q.elim
      | some E3 =>
        rw [h2] at q
        exact fun σ' rl' _ _ _ => q ρ1 σ' H1 T1.px rl'
    · exact q.elim
/-! ### dicts of written texts -/
structure DPs (X : Cy) (keys : List (Option Expr)) (values : List Expr) (ps : List (Str × Str)) : Prop where
  ex : ∃ trs, (∀ pos, PPs X pos keys values trs) ∧ ∀ σ H (Q : List (V × V) → Hp → Prop), Q (ps.map fun q => (V.str q.1, V.str q.2)) H → tPairs trs σ H Q
theorem dps_nil : DPs X [] [] [] := ⟨[], fun _ => pps_nil, fun _ _ _ q => q⟩
theorem dps_cons {k v : Str} {i j : Nat} {p1 p2 : Pos} {keys : List (Option Expr)} {values : List Expr} {ps : List (Str × Str)} (h : DPs X keys values ps) : DPs X (some (.Constant (.str k) i p1) :: keys) (.Constant (.str v) j p2 :: values) ((k, v) :: ps) := by
  obtain ⟨trs, h1, h2⟩ := h
  exact ⟨_, fun pos => pps_cons pe_str pe_str (h1 pos), fun σ H Q q => h2 σ H _ q⟩
def dK (ps : List (Str × Str)) : List (Key × V) := ps.map fun q => (Sum.inr q.1, V.str q.2)
def mDctS (ps : List (Str × Str)) : Ex := fun E B => .ok (.fr (.dct (ps.map fun q => Sum.inr q.1) (ps.map fun q => .str q.2))) E B
theorem sndE_dctS {keys : List (Option Expr)} {values : List Expr} {ps : List (Str × Str)} (h : DPs X keys values ps) (hall : keys.all (·.isSome) = true := by rfl) (hl : keys.length = values.length := by rfl) (h0 : keys ≠ [] := by intro z; cases z) (h15 : keys.length ≤ 15 := by decide)
    (hp : ps.length ≤ 15 := by decide) (hm : mergeK [] (dK ps) = dK ps := by decide +kernel) : SndE X (.Dict keys values pos) (mDctS ps) := by
  obtain ⟨trs, h1, h2⟩ := h.ex
  refine ⟨_, pe_disp (h1 pos) hall hl h0 h15, fun F ρ E B σ H Q rl q => fun pp hpp => ?_⟩
  refine h2 σ _ _ ⟨upd_same, dK ps, by simp [dK, kV, Function.comp_def], by simpa [dK] using hp, ?_⟩
  rw [upd_upd, hm]
  refine q ρ _ _ (Aft.freshD rl hpp (by simp [dK, Function.comp_def]) ?_)
  have hr : ∀ (qs : List (Str × Str)), Reps X.K H (LvF F ρ E B σ) ρ (qs.map fun q => .str q.2) ((dK qs).map (·.2)) := by
    intro qs
    induction qs with
    | nil => simp [dK, Reps]
    | cons q qs ih => exact Reps.cons (by simp [Rep]) ih
  exact hr ps
def lookU (ks : List Key) (us : List U) (k : Key) : Option U := match ks, us with
  | k' :: ks, u :: us => if k' = k then some u else lookU ks us k
  | _, _ => none
theorem lookU_ok {K : PySem.W.Frag} {H : Hp} {Lv : AS} {ρ : List Addr} {k : Key} {u : U} : ∀ {us : List U} {kvs : List (Key × V)}, Reps K H Lv ρ us (kvs.map (·.2)) → lookU (kvs.map (·.1)) us k = some u → ∃ v, valV kvs k = some v ∧ Rep K H Lv ρ u v
  | us, [], h, e => by cases us <;> simp [lookU] at e
  | [], kv :: kvs, h, e => by simp [lookU] at e
  | w :: us, kv :: kvs, h, e => by
    simp only [List.map_cons, Reps] at h
    obtain ⟨v, r, hv, h1, h2⟩ := h
    cases hv
    simp only [List.map_cons, lookU] at e
    by_cases hk : kv.1 = k
    · rw [if_pos hk] at e
      cases e
      exact ⟨kv.2, by simp [valV, List.find?, hk], h1⟩
    · rw [if_neg hk] at e
      obtain ⟨v, h3, h4⟩ := lookU_ok h2 e
      refine ⟨v, ?_, h4⟩
      unfold valV at h3 ⊢
      rw [List.find?_cons_of_neg (by simpa using hk)]
      exact h3
theorem DGet_kR {H : Hp} {a : Addr} {kvs : List (Key × V)} {k : Key} (e : Rd H a (.dK kvs)) : DGet H a (kV k) (valV kvs k) := .inl ⟨kvs, k, e, rfl, rfl⟩
def gDIx : U → U → Option R
  | .dct ks us, .str z => (lookU ks us (.inr z)).map .w
  | .dct ks us, .int z => (lookU ks us (.inl z)).map .w
  | _, _ => none
theorem sndE_dix (hu : X.A.units + 1 < cLine) (ha : SndE X a fa) (hb : SndE X b fb) (hs : NoSl b := by intro _ _; rfl) : SndE X (.Subscript a b pos) (m2 gDIx fa fb) := by
  obtain ⟨ta, pa, ha⟩ := ha
  obtain ⟨tb, pb, hb⟩ := hb
  refine ⟨_, pe_dget hu pa pb hs, m2_ok (f := fun _ _ => pure Value.none) (r := fun x y H Q => ∃ a v, x = .ref a ∧ DGet H a y (some v) ∧ Q v H) (fun F ρ E B σ H u1 u2 v1 v2 r3 Q rl t1 t2 e q => ?_) ha hb⟩
  unfold gDIx at e
  split at e
  · next ks us z =>
    simp only [Option.map_eq_some_iff] at e
    obtain ⟨u, e1, rfl⟩ := e
    obtain ⟨pp, kvs, rfl, h1, rfl, h2⟩ := t1
    obtain ⟨v, h3, h4⟩ := lookU_ok h2 e1
    have := DGet_kR (k := Sum.inr z) h1
    rw [h3] at this
    exact ⟨pp, v, rfl, by rw [top_str t2]; exact this, q H _ (Aft.val rl h4)⟩
  · next ks us z =>
    simp only [Option.map_eq_some_iff] at e
    obtain ⟨u, e1, rfl⟩ := e
    obtain ⟨pp, kvs, rfl, h1, rfl, h2⟩ := t1
    obtain ⟨v, h3, h4⟩ := lookU_ok h2 e1
    have := DGet_kR (k := Sum.inl z) h1
    rw [h3] at this
    exact ⟨pp, v, rfl, by rw [top_int t2]; exact this, q H _ (Aft.val rl h4)⟩
  · cases e
/-! ### if a and (x := e) op b -/
abbrev Tw := En → Bx → O Bool
def SndTw (X : Cy) (e : Expr) (f : Tw) : Prop := ∃ t : TTw, PTw X e t ∧ ∀ F ρ E B σ H (Q : Bool → L2.St → Hp → Prop), Rel X.K F ρ E B σ H →
  (match f E B with
    | .ok b E' B' => ∀ ρ' σ' H', ρ <+: ρ' → Rel X.K F ρ' E' B' σ' H' → Q b σ' H'
    | .ex c E' B' => ExQ X.K X.q F ρ c E' B'
    | .bad => False) → t σ H Q
def wCmpN (i : Nat) (g : U → U → Option R) (fa fb : Ex) : Tw := fun E B => (fa E B).bind fun r E1 B1 =>
  match settle r E1 with
  | some (u, E2) => if i < E2.length then (fb (E2.set i (.val u)) B1).bind fun r2 E3 B3 => match viewU u B3, view r2 E3 B3 with
      | some u1, some u2 => match g u1 u2 with
        | some (.w (.bl b)) => .ok b E3 B3
        | _ => .bad
      | _, _ => .bad
    else .bad
  | none => .bad
theorem sndTw_cmpN {i : Nat} {op : CmpOp} {g : U → U → Option R} (ho : Op2S X (compareOp op) g) (ha : SndE X a fa) (hb : SndE X b fb) (hN : X.N.Nodup) (hi : X.N[i]? = some x := by rfl) (hx : Loc X.env.scope x := by first | exact Or.inl rfl | exact Or.inr rfl)
    (hf : X.fn x = true ∨ X.env.scope.names.lookup x = some .local := by first | exact .inl rfl | exact .inr rfl | assumption) (hm : behindInMarks op b = false := by first | rfl | exact nomark _) : SndTw X (.Compare (.NamedExpr (.Name x p) a p2) [op] [b] pos) (wCmpN i g fa fb) := by
  obtain ⟨r, hr, ho⟩ := ho
  obtain ⟨ta, pa, ha⟩ := ha
  obtain ⟨tb, pb, hb⟩ := hb
  refine ⟨_, ptw_cmp hr (pew_named hN hi hx (pew_of pa) hf) pb hm, fun F ρ E B σ H Q rl q => ?_⟩
  refine ha F ρ E B σ H _ rl ?_
  simp only [wCmpN] at q
  cases h1 : fa E B with
  | bad => rw [h1] at q; exact q
  | ex c E' B' => rw [h1] at q ; first | exact q | exact Aft.exq (by assumption) q | exact AftT.exq (by assumption) q | exact Aft.exq (by assumption) (Aft.exq (by assumption) q) | exact AftT.exq (by assumption) (Aft.exq (by assumption) q) | exact AftT.exq (AftA.t (by assumption)) q | exact ExQ.px q (Aft.px (by assumption)) | exact ExQ.px q (List.IsPrefix.trans (AftT.px (by assumption)) (Aft.px (by assumption))) | exact Aft.exq (by assumption) (AftT.exq (by assumption) q) | exact Aft.exq (by assumption) (Aft.exq (by assumption) (AftT.exq (by assumption) q))
  | ok r1 E1 B1 =>
    rw [h1] at q
    intro ρ1 H1 v1 A1
    simp only [O.bind_ok] at q
    cases h2 : settle r1 E1 with
    | none => rw [h2] at q; exact q.elim
    | some w =>
      obtain ⟨u, E2⟩ := w
      rw [h2] at q
      simp only at q
      by_cases hl : i < E2.length
      · rw [if_pos hl] at q
        obtain ⟨T1, R1⟩ := A1.settled h2
        have rl2 := T1.rel.setVal hl R1
        refine hb F ρ1 _ B1 _ H1 _ rl2 ?_
        cases h3 : fb (E2.set i (.val u)) B1 with
        | bad => rw [h3] at q; exact q
        | ex c E' B' => rw [h3] at q ; first | exact q | exact Aft.exq (by assumption) q | exact AftT.exq (by assumption) q | exact Aft.exq (by assumption) (Aft.exq (by assumption) q) | exact AftT.exq (by assumption) (Aft.exq (by assumption) q) | exact AftT.exq (AftA.t (by assumption)) q | exact ExQ.px q (Aft.px (by assumption)) | exact ExQ.px q (List.IsPrefix.trans (AftT.px (by assumption)) (Aft.px (by assumption))) | exact Aft.exq (by assumption) (AftT.exq (by assumption) q) | exact Aft.exq (by assumption) (Aft.exq (by assumption) (AftT.exq (by assumption) q))
        | ok r2 E3 B3 =>
          rw [h3] at q
          simp only [O.bind_ok] at q
          intro ρ3 H3 v3 A3
          have T3 := A3.letgo
          have R3 : Rep X.K H3 (LvF F ρ3 E3 B3 (σ.set i (some v1))) ρ3 u v1 := Rep.mono T3.stp T3.px _ _ (Rep.mono (Stp.less (setVal_lv T1.rel hl)) (List.prefix_refl _) _ _ R1)
          cases f1 : viewU u B3 with
          | none => rw [f1] at q; exact q.elim
          | some u1 =>
            cases f2 : view r2 E3 B3 with
            | none => rw [f1, f2] at q; exact q.elim
            | some u2 =>
              rw [f1, f2] at q
              simp only at q
              have t1 := viewU_top T3.rel rfl R3 f1
              have t2 := A3.top f2
              cases eg : g u1 u2 with
              | none => rw [eg] at q; exact q.elim
              | some r3 =>
                rw [eg] at q
                cases r3 with
                | s _ => exact q.elim
                | fr _ => exact q.elim
                | w u3 =>
                  cases u3 with
                  | bl b =>
                    simp only at q
                    refine ho F ρ3 E3 B3 _ H3 u1 u2 v1 v3 _ _ T3.rel t1 t2 eg fun H' v A4 => ?_
                    have rr := A4.rep
                    simp only [RepR, Rep] at rr
                    subst rr
                    exact ⟨b, rfl, q ρ3 _ H' (T1.px.trans T3.px) A4.letgo.rel⟩
                  | _ => exact q.elim
      · rw [if_neg hl] at q; exact q.elim
def wAnd (f : Te) (g : Tw) : Tw := fun E B => (f E B).bind fun b E1 B1 => if b = true then g E1 B1 else .ok false E1 B1
def wAndT (c : TT) (t : TTw) : TTw := fun σ H Q => c σ H fun b H1 => if b = true then t σ H1 Q else Q false σ H1
open PyProof.Rows in
theorem ptw_and {tc : TT} {t : TTw} (ha : PT X a tc) (hb : PTw X b t) : PTw X (.BoolOp .And [a, b] pos) (wAndT tc t) := by
  refine ⟨fun pins s σ H Q I h => ?_⟩
  refine isTrue_and (thn (ha.run pins s σ H _ I h) fun k s1 ⟨H1, I1, q1⟩ => ?_)
  cases k with
  | true => exact isTrue_and (thn (hb.run pins s1 σ H1 Q I1 q1) fun k2 s2 e2 => by
      cases k2 with
      | true => exact isTrue_and_nil e2
      | false => exact e2)
  | false => exact ⟨σ, H1, I1, q1⟩
theorem sndTw_and {fw : Tw} (ha : SndT X a ft) (hb : SndTw X b fw) : SndTw X (.BoolOp .And [a, b] pos) (wAnd ft fw) := by
  obtain ⟨tc, pc, ha⟩ := ha
  obtain ⟨t, pb, hb⟩ := hb
  refine ⟨_, ptw_and pc pb, fun F ρ E B σ H Q rl q => ?_⟩
  refine ha F ρ E B σ H _ rl ?_
  simp only [wAnd] at q
  cases h1 : ft E B with
  | bad => rw [h1] at q; exact q
  | ex c E' B' => rw [h1] at q ; first | exact q | exact Aft.exq (by assumption) q | exact AftT.exq (by assumption) q | exact Aft.exq (by assumption) (Aft.exq (by assumption) q) | exact AftT.exq (by assumption) (Aft.exq (by assumption) q) | exact AftT.exq (AftA.t (by assumption)) q | exact ExQ.px q (Aft.px (by assumption)) | exact ExQ.px q (List.IsPrefix.trans (AftT.px (by assumption)) (Aft.px (by assumption))) | exact Aft.exq (by assumption) (AftT.exq (by assumption) q) | exact Aft.exq (by assumption) (Aft.exq (by assumption) (AftT.exq (by assumption) q))
  | ok k E1 B1 =>
    rw [h1] at q
    intro ρ1 H1 A1
    cases k with
    | true =>
      simp only [O.bind_ok, if_true] at q ⊢
      refine hb F ρ1 E1 B1 σ H1 Q A1.rel ?_
      cases h2 : fw E1 B1 with
      | bad => rw [h2] at q; exact q
      | ex c E' B' => rw [h2] at q ; first | exact q | exact Aft.exq (by assumption) q | exact AftT.exq (by assumption) q | exact Aft.exq (by assumption) (Aft.exq (by assumption) q) | exact AftT.exq (by assumption) (Aft.exq (by assumption) q) | exact AftT.exq (AftA.t (by assumption)) q | exact ExQ.px q (Aft.px (by assumption)) | exact ExQ.px q (List.IsPrefix.trans (AftT.px (by assumption)) (Aft.px (by assumption))) | exact Aft.exq (by assumption) (AftT.exq (by assumption) q) | exact Aft.exq (by assumption) (Aft.exq (by assumption) (AftT.exq (by assumption) q))
      | ok k2 E2 B2 => rw [h2] at q; exact fun ρ2 σ2 H2 px r2 => q ρ2 σ2 H2 (A1.px.trans px) r2
    | false =>
      simp only [O.bind_ok, Bool.false_eq_true, if_false] at q ⊢
      exact q ρ1 σ H1 A1.px A1.rel
def sIfW (c : Tw) (f g : Sm) : Sm := fun E B => (c E B).bind fun b E1 B1 => if b = true then f E1 B1 else g E1 B1
theorem sndS_ifW {fw : Tw} (hc : SndTw X c fw) (hf : SndB X sts f) (hg : SndB X sts' g) : SndS X (.If c sts sts' pos) (sIfW fw f g) := by
  obtain ⟨t, p1, hc⟩ := hc
  obtain ⟨u, p2, hf⟩ := hf
  obtain ⟨u', p3, hg⟩ := hg
  refine ⟨_, ps_ifW p1 p2 p3, fun F ρ E B σ H D rl q => ?_⟩
  refine hc F ρ E B σ H _ rl ?_
  simp only [sIfW] at q
  cases h1 : fw E B with
  | bad => rw [h1] at q; exact q
  | ex c E' B' => rw [h1] at q ; first | exact q | exact Aft.exq (by assumption) q | exact AftT.exq (by assumption) q | exact Aft.exq (by assumption) (Aft.exq (by assumption) q) | exact AftT.exq (by assumption) (Aft.exq (by assumption) q) | exact AftT.exq (AftA.t (by assumption)) q | exact ExQ.px q (Aft.px (by assumption)) | exact ExQ.px q (List.IsPrefix.trans (AftT.px (by assumption)) (Aft.px (by assumption))) | exact Aft.exq (by assumption) (AftT.exq (by assumption) q) | exact Aft.exq (by assumption) (Aft.exq (by assumption) (AftT.exq (by assumption) q))
  | ok b1 E1 B1 =>
    rw [h1] at q
    intro ρ1 σ1 H1 px r1
    cases b1 with
    | true =>
      simp only [O.bind_ok, if_true] at q ⊢
      exact hf F ρ1 E1 B1 σ1 H1 D r1 (q.px px)
    | false =>
      simp only [O.bind_ok, Bool.false_eq_true, if_false] at q ⊢
      exact hg F ρ1 E1 B1 σ1 H1 D r1 (q.px px)
end
end QB
/-! QbN: reading the derived functions: equations for simp, loops by an invariant, texts as codes. -/
namespace QB
open PySem L2
theorem calF_end {P : Program} {w : World} {K : PySem.W.Frag} {mg : Str → Option Value} {base : Heap} {k : Nat} {x : Str} {st : Stmt} {ps : List Str} {g : Fn} {fa f : Addr} {fd : FuncData}
    (C : CalF P w K mg base k x st ps g) (hfa : mg x = some (.ref fa)) (F : Fun K x x st f fd) (hm : mg x = some (.ref f)) : FnOk P w K mg base (L2.CX P w) k fa fd ps (spF K mg ps.length g) := by
  obtain ⟨⟨f', fd', h1, h2, h3, h4⟩, hl⟩ := C
  have e1 := hm.symm.trans h2
  have e2 := hfa.symm.trans h2
  cases e1
  cases e2
  obtain ⟨_, _, _, _, _, _, _, _, _, _, l1, _⟩ := h3.ex
  obtain ⟨_, _, _, _, _, _, _, _, _, _, l2, _⟩ := F.ex
  have e3 := l1.symm.trans l2
  cases e3
  exact h1
/-! ### texts -/
theorem lit_beq (a b : String) : (Str.ofString a == Str.ofString b) = (a == b) := by
  rw [Str.ofString_eq_toList, Str.ofString_eq_toList]
  have inj : ∀ {l m : List Char}, l.map Char.toNat = m.map Char.toNat → l = m := by
    intro l
    induction l with
    | nil => intro m h; cases m with
      | nil => rfl
      | cons _ _ => cases h
    | cons c l ih => intro m h; cases m with
      | nil => cases h
      | cons d m =>
        simp only [List.map_cons, List.cons.injEq] at h
        rw [ih h.2, Char.toNat_inj.mp h.1]
  by_cases h : a = b
  · subst h; simp
  · have : ¬ (Str.mk (a.toList.map Char.toNat).toArray = Str.mk (b.toList.map Char.toNat).toArray) := by
      intro z
      simp only [Str.mk.injEq, Array.mk.injEq] at z
      exact h (String.ext (inj z))
    rw [beq_eq_false_iff_ne.mpr this, beq_eq_false_iff_ne.mpr h]
def codes (x : Str) : List Nat := x.cps.toList
def ofC (l : List Nat) : Str := ⟨l.toArray⟩
@[simp] theorem codes_ofC (l : List Nat) : codes (ofC l) = l := rfl
@[simp] theorem ofC_codes (x : Str) : ofC (codes x) = x := rfl
theorem str_ext {x y : Str} (h : codes x = codes y) : x = y := by rw [← ofC_codes x, ← ofC_codes y, h]
@[simp] theorem ofC_inj {l m : List Nat} : ofC l = ofC m ↔ l = m := ⟨fun h => by have := congrArg codes h; simpa using this, fun h => by rw [h]⟩
@[simp] theorem ofC_len (l : List Nat) : (ofC l).length = l.length := by simp [ofC, Str.length]
@[simp] theorem ofC_beq (l m : List Nat) : (ofC l == ofC m) = (l == m) := by
  by_cases h : l = m
  · subst h; simp
  · rw [beq_eq_false_iff_ne.mpr h, beq_eq_false_iff_ne.mpr (by simpa using h)]
@[simp] theorem ofC_app (l m : List Nat) : ofC l ++ ofC m = ofC (l ++ m) := by
  show Str.append _ _ = _
  simp [Str.append, ofC]
theorem ofS (s : String) : Str.ofString s = ofC (s.toList.map Char.toNat) := Str.ofString_eq_toList s
theorem mk_ofC (l : List Nat) : (⟨l.toArray⟩ : Str) = ofC l := rfl
@[simp] theorem mk1_ofC (c : Nat) : (⟨#[c]⟩ : Str) = ofC [c] := rfl
@[simp] theorem ofC_cps (l : List Nat) : (ofC l).cps.toList = l := rfl
/-! ### places -/
theorem atI_nat' {α : Type} (us : List α) (k : Nat) : atI us (k : Int) = us[k]? := by
  unfold atI ixN
  rw [if_pos (by omega)]
  by_cases h : k < us.length
  · rw [if_pos (by omega)]; simp
  · rw [if_neg (by omega), Option.bind_none, List.getElem?_eq_none (by omega)]
theorem atI_of {α : Type} {us : List α} {i : Int} {k : Nat} (h : i = (k : Int)) : atI us i = us[k]? := by rw [h, atI_nat']
@[simp] theorem atI_0 {α : Type} (us : List α) : atI us 0 = us[0]? := atI_of (k := 0) rfl
@[simp] theorem atI_1 {α : Type} (us : List α) : atI us 1 = us[1]? := atI_of (k := 1) rfl
@[simp] theorem atI_2 {α : Type} (us : List α) : atI us 2 = us[2]? := atI_of (k := 2) rfl
@[simp] theorem atI_3 {α : Type} (us : List α) : atI us 3 = us[3]? := atI_of (k := 3) rfl
@[simp] theorem atI_k {α : Type} (us : List α) (k : Nat) : atI us (k : Int) = us[k]? := atI_nat' us k
@[simp] theorem atI_k1 {α : Type} (us : List α) (k : Nat) : atI us ((k : Int) + 1) = us[k + 1]? := atI_of (by omega)
@[simp] theorem atI_k2 {α : Type} (us : List α) (k : Nat) : atI us ((k : Int) + 2) = us[k + 2]? := atI_of (by omega)
theorem ixN_of {n : Nat} {i : Int} {k : Nat} (h : i = (k : Int)) (hk : k < n) : ixN n i = some k := by
  unfold ixN
  rw [if_pos (by omega), if_pos (by omega), h, Int.toNat_natCast]
theorem cutU_nat {us : List U} {i j : Int} {a b : Nat} (h1 : i = (a : Int)) (h2 : j = (b : Int)) (hb : b ≤ us.length) (hab : a ≤ b) : cutU us (some i) (some j) = (us.drop a).take (b - a) := by
  unfold cutU
  rw [h1, h2, HT.sIx_nat, HT.sIx_nat, Nat.min_eq_left hb, Nat.min_eq_left (Nat.le_trans hab hb)]
theorem drop_min {α : Type} (us : List α) (a : Nat) : us.drop (min a us.length) = us.drop a := by
  by_cases h : a ≤ us.length
  · rw [Nat.min_eq_left h]
  · rw [Nat.min_eq_right (by omega), List.drop_eq_nil_of_le (Nat.le_refl _), List.drop_eq_nil_of_le (by omega)]
theorem take_min2 {α : Type} (us : List α) (a b : Nat) : (us.drop a).take (min b us.length - min a us.length) = (us.drop a).take (b - a) := by
  by_cases h : a ≤ us.length
  · rw [Nat.min_eq_left h]
    by_cases h2 : b ≤ us.length
    · rw [Nat.min_eq_left h2]
    · rw [Nat.min_eq_right (by omega), List.take_of_length_le (by rw [List.length_drop]; omega), List.take_of_length_le (by rw [List.length_drop]; omega)]
  · rw [List.drop_eq_nil_of_le (by omega)]; simp
theorem cutU_ij {us : List U} {i j : Int} {a b : Nat} (h1 : i = (a : Int)) (h2 : j = (b : Int)) : cutU us (some i) (some j) = (us.drop a).take (b - a) := by
  unfold cutU
  rw [h1, h2, HT.sIx_nat, HT.sIx_nat, drop_min, take_min2]
theorem cutU_i {us : List U} {i : Int} {a : Nat} (h1 : i = (a : Int)) : cutU us (some i) none = us.drop a := by
  unfold cutU
  rw [h1, HT.sIx_nat, HT.sIx_none, drop_min]
  have := take_min2 us a us.length
  rw [Nat.min_self] at this
  rw [this, List.take_of_length_le (by rw [List.length_drop]; omega)]
theorem cutU_j {us : List U} {j : Int} {b : Nat} (h2 : j = (b : Int)) : cutU us none (some j) = us.take b := by
  unfold cutU
  rw [h2, HT.sIx_nat, HT.sIx_none, List.drop_zero, Nat.sub_zero]
  by_cases h : b ≤ us.length
  · rw [Nat.min_eq_left h]
  · rw [Nat.min_eq_right (by omega), List.take_of_length_le (Nat.le_refl _), List.take_of_length_le (by omega)]
/-! ### outcomes -/
def OkP {α : Type} (o : O α) (Q : α → En → Bx → Prop) : Prop := match o with
  | .ok a E B => Q a E B
  | _ => False
@[simp] theorem OkP_ok {α : Type} {a : α} {E : En} {B : Bx} {Q : α → En → Bx → Prop} : OkP (.ok a E B) Q ↔ Q a E B := Iff.rfl
theorem OkP.bind {α β : Type} {o : O α} {k : α → En → Bx → O β} {Q : β → En → Bx → Prop} (h : OkP o fun a E B => OkP (k a E B) Q) : OkP (o.bind k) Q := by
  cases o with
  | ok a E B => exact h
  | ex c E B => exact h.elim
  | bad => exact h.elim
theorem OkP.bindN {α β : Type} {o : O α} {k : α → En → Bx → O β} {Q : β → En → Bx → Prop} (h : OkP o fun a E B => OkP (k a E B) Q) : OkP (o.bindN k) Q := by
  cases o with
  | ok a E B => exact h
  | ex c E B => exact h.elim
  | bad => exact h.elim
theorem OkP.ofBind {α β : Type} {o : O α} {k : α → En → Bx → O β} {Q : β → En → Bx → Prop} (h : OkP (o.bind k) Q) : OkP o fun a E B => OkP (k a E B) Q := by
  cases o with
  | ok a E B => exact h
  | ex c E B => exact h.elim
  | bad => exact h.elim
theorem OkP.mono {α : Type} {o : O α} {Q Q' : α → En → Bx → Prop} (h : OkP o Q) (i : ∀ a E B, Q a E B → Q' a E B) : OkP o Q' := by
  cases o with
  | ok a E B => exact i _ _ _ h
  | ex c E B => exact h.elim
  | bad => exact h.elim
theorem OkP.get {α : Type} {o : O α} {Q : α → En → Bx → Prop} (h : OkP o Q) : ∃ a E B, o = .ok a E B ∧ Q a E B := by
  cases o with
  | ok a E B => exact ⟨a, E, B, rfl, h⟩
  | ex c E B => exact h.elim
  | bad => exact h.elim
theorem okP_seq {f g : Sm} {E : En} {B : Bx} {Q : Fl → En → Bx → Prop} (h : OkP (f E B) fun fl E1 B1 => match fl with | .nx => OkP (g E1 B1) Q | fl => Q fl E1 B1) : OkP (sSeq f g E B) Q := by
  unfold sSeq
  refine OkP.bind (h.mono fun fl E1 B1 q => ?_)
  cases fl <;> exact q
/-- what a body answers, as a def's outcome -/
theorem run_ok {N n : Nat} {f : Sm} {us : List U} {B : Bx} {Q : U → Bx → Prop} (hl : us.length = n) (h : OkP (f (us.map .val ++ List.replicate (N - us.length) .un) B) fun fl _ B' => match fl with | .rt u => Q u B' | .nx => Q .non B' | _ => False) : ∃ u B', runBody N n f us B = .ok u B' ∧ Q u B' := by
  unfold runBody
  rw [if_pos hl]
  obtain ⟨fl, E', B', e, q⟩ := h.get
  rw [e]
  cases fl with
  | rt u => exact ⟨u, B', rfl, q⟩
  | nx => exact ⟨.non, B', rfl, q⟩
  | bk => exact q.elim
  | ct => exact q.elim
/-- a while by an invariant and a number that falls -/
theorem okP_while {c : Te} {b : Sm} {Q : Fl → En → Bx → Prop} (I : Nat → En → Bx → Prop)
    (step : ∀ n E B, I n E B → OkP (c E B) fun k E1 B1 => if k = true then OkP (b E1 B1) fun fl E2 B2 => match fl with
      | .bk => Q .nx E2 B2
      | .rt v => Q (.rt v) E2 B2
      | _ => ∃ m, m < n ∧ I m E2 B2
      else Q .nx E1 B1) {E : En} {B : Bx} {n : Nat} (h : I n E B) (hn : n < whileFuel) : OkP (sWhile c b E B) Q := by
  have go : ∀ N n E B, n < N → I n E B → OkP (whileN N c b E B) Q := by
    intro N
    induction N with
    | zero => intro n E B h; omega
    | succ N ih =>
      intro n E B hN hI
      unfold whileN
      refine OkP.bind ((step n E B hI).mono fun k E1 B1 q => ?_)
      by_cases hk : k = true
      · rw [if_pos hk] at q ⊢
        refine OkP.bind (q.mono fun fl E2 B2 q2 => ?_)
        cases fl with
        | bk => exact q2
        | rt v => exact q2
        | nx => obtain ⟨m, hm, h2⟩ := q2; exact ih m E2 B2 (by omega) h2
        | ct => obtain ⟨m, hm, h2⟩ := q2; exact ih m E2 B2 (by omega) h2
      · rw [if_neg hk] at q ⊢
        exact q
  exact go whileFuel n E B hn h
/-- a for over things that cannot change under it -/
theorem okP_forGo {bd : Bd} {b : Sm} {Q : Fl → En → Bx → Prop} (I : List U → En → Bx → Prop) (step : ∀ u us E B, I (u :: us) E B → ∃ E1, bd u E = some E1 ∧ OkP (b E1 B) fun fl E2 B2 => match fl with
      | .bk => Q .nx E2 B2
      | .rt v => Q (.rt v) E2 B2
      | _ => I us E2 B2) (last : ∀ E B, I [] E B → Q .nx E B) : ∀ us E B, I us E B → OkP (forGo bd b yes us E B) Q
  | [], E, B, h => last E B h
  | u :: us, E, B, h => by
    obtain ⟨E1, e, q⟩ := step u us E B h
    unfold forGo
    rw [e]
    refine OkP.bind (q.mono fun fl E2 B2 q2 => ?_)
    cases fl with
    | bk => exact q2
    | rt v => exact q2
    | nx => simp only [goOn_Yes]; exact okP_forGo I step last us E2 B2 q2
    | ct => simp only [goOn_Yes]; exact okP_forGo I step last us E2 B2 q2
theorem okP_for {fi : Iv} {bd : Bd} {b : Sm} {us : List U} {E E1 : En} {B B1 : Bx} {Q : Fl → En → Bx → Prop} (hi : fi E B = .ok (us, yes) E1 B1) (I : List U → En → Bx → Prop) (h : I us E1 B1) (step : ∀ u us E B, I (u :: us) E B → ∃ E1, bd u E = some E1 ∧ OkP (b E1 B) fun fl E2 B2 => match fl with
      | .bk => Q .nx E2 B2
      | .rt v => Q (.rt v) E2 B2
      | _ => I us E2 B2) (last : ∀ E B, I [] E B → Q .nx E B) : OkP (sFor fi bd b E B) Q := by
  unfold sFor
  rw [hi]
  exact okP_forGo I step last us E1 B1 h
/-- a for over a shared list that its body leaves alone -/
theorem okP_forB {fi : Iv} {bd : Bd} {b : Sm} {us : List U} {j : Nat} {E E1 : En} {B B1 : Bx} {Q : Fl → En → Bx → Prop} (hi : fi E B = .ok (us, fun B' => B'[j]? = some (.lst ws)) E1 B1) (I : List U → En → Bx → Prop) (h : I us E1 B1) (step : ∀ u us E B, I (u :: us) E B → ∃ E1, bd u E = some E1 ∧ OkP (b E1 B) fun fl E2 B2 => match fl with
      | .bk => Q .nx E2 B2
      | .rt v => Q (.rt v) E2 B2
      | _ => B2[j]? = some (.lst ws) ∧ I us E2 B2) (last : ∀ E B, I [] E B → Q .nx E B) : OkP (sFor fi bd b E B) Q := by
  have go : ∀ us E B, I us E B → OkP (forGo bd b (fun B' => B'[j]? = some (.lst ws)) us E B) Q := by
    intro us
    induction us with
    | nil => intro E B h; exact last E B h
    | cons u us ih =>
      intro E B h
      obtain ⟨E1, e, q⟩ := step u us E B h
      unfold forGo
      rw [e]
      refine OkP.bind (q.mono fun fl E2 B2 q2 => ?_)
      cases fl with
      | bk => exact q2
      | rt v => exact q2
      | nx => simp only [goOn, if_pos q2.1]; exact ih E2 B2 q2.2
      | ct => simp only [goOn, if_pos q2.1]; exact ih E2 B2 q2.2
  unfold sFor
  rw [hi]
  exact go us E1 B1 h
/-- a list comprehension whose parts change nothing -/
theorem lc_pure {bd : Bd} {t : Te} {f : Ex} {ks : List Nat} {chk : Bx → Prop} {E : En} {B : Bx} {p : U → Bool} {y : U → U} (hc : chk B) : ∀ (us acc : List U), (∀ u ∈ us, ∃ E1, bd u E = some E1 ∧ wipeE E1 ks = E ∧ t E1 B = .ok (p u) E1 B ∧ (p u = true → ∃ r, f E1 B = .ok r E1 B ∧ settle r E1 = some (y u, E1))) → acc.length + us.length ≤ 16777216 → lcGo bd t f chk ks us acc E B = .ok (acc ++ (us.filter p).map y) E B
  | [], acc, _, _ => by simp [lcGo]
  | u :: us, acc, h, hl => by
    obtain ⟨E1, e1, e2, e3, e4⟩ := h u (List.mem_cons_self ..)
    have hl' : acc.length + (us.length + 1) ≤ 16777216 := hl
    unfold lcGo
    rw [e1]
    simp only [e3, O.bindN_ok]
    by_cases hp : p u = true
    · obtain ⟨r, e5, e6⟩ := e4 hp
      rw [if_pos hp, e5]
      simp only [O.bindN_ok, e6]
      rw [if_pos (by omega), e2]
      unfold goOnL
      rw [if_pos hc, lc_pure hc us (acc ++ [y u]) (fun v hv => h v (List.mem_cons_of_mem _ hv)) (by simp; omega)]
      simp [hp]
    · rw [if_neg hp, e2]
      unfold goOnL
      rw [if_pos hc, lc_pure hc us acc (fun v hv => h v (List.mem_cons_of_mem _ hv)) (by omega)]
      simp [hp]
theorem mLc_pure {fi : Iv} {bd : Bd} {t : Te} {f : Ex} {ks : List Nat} {chk : Bx → Prop} {E E1 : En} {B B1 : Bx} {us : List U} (p : U → Bool) (y : U → U) (hi : fi E B = .ok (us, chk) E1 B1) (hn : noOwn E1 ks = true) (hc : chk B1) (hl : us.length ≤ 16777216)
    (h : ∀ u ∈ us, ∃ E2, bd u (wipeE E1 ks) = some E2 ∧ wipeE E2 ks = wipeE E1 ks ∧ t E2 B1 = .ok (p u) E2 B1 ∧ (p u = true → ∃ r, f E2 B1 = .ok r E2 B1 ∧ settle r E2 = some (y u, E2))) :
    mLc fi bd t f ks E B = .ok (.fr (.lst ((us.filter p).map y))) (keepE E1 (wipeE E1 ks) ks) B1 := by
  unfold mLc
  rw [hi]
  simp only [O.bind_ok]
  rw [if_pos hn, lc_pure hc us [] h (by simpa using hl)]
  simp
end QB
/-! QbO: the layer's words as equations for simp. -/
namespace QB
open PySem L2
section
variable {E : En} {B : Bx} {f g : Ex} {s t : Sm} {c d : Te} {fs : Ar} {u : U} {i j : Nat}
@[simp] theorem e_mVar : mVar i E B = match E[i]? with
  | some (.val u) => .ok (.w u) E B
  | some (.own _) => .ok (.s i) E B
  | _ => .bad := (rfl)
@[simp] theorem e_mC : mC u E B = .ok (.w u) E B := (rfl)
@[simp] theorem e_m2 {h : U → U → Option R} : m2 h f g E B = (f E B).bind fun r1 E1 B1 => (g E1 B1).bind fun r2 E2 B2 =>
    match view r1 E2 B2, view r2 E2 B2 with
    | some u1, some u2 => match h u1 u2 with
      | some r => .ok r E2 B2
      | none => .bad
    | _, _ => .bad := (rfl)
@[simp] theorem e_m1 {h : U → Option R} : m1 h f E B = (f E B).bind fun r1 E1 B1 =>
    match view r1 E1 B1 with
    | some u1 => match h u1 with
      | some r => .ok r E1 B1
      | none => .bad
    | none => .bad := (rfl)
@[simp] theorem e_toT : toT f E B = (f E B).bind fun r E1 B1 =>
  match r with
  | .w (.bl b) => .ok b E1 B1
  | _ => .bad := (rfl)
@[simp] theorem e_mTru : mTru f E B = (f E B).bind fun r E1 B1 =>
  match view r E1 B1 with
  | some u => match truU u with
    | some b => .ok b E1 B1
    | none => .bad
  | none => .bad := (rfl)
@[simp] theorem e_mAnd : mAnd c d E B = (c E B).bind fun b E1 B1 => if b = true then d E1 B1 else .ok false E1 B1 := (rfl)
@[simp] theorem e_mOr : mOr c d E B = (c E B).bind fun b E1 B1 => if b = true then .ok true E1 B1 else d E1 B1 := (rfl)
@[simp] theorem e_mNot : mNot c E B = (c E B).bind fun b E1 B1 => .ok (!b) E1 B1 := (rfl)
@[simp] theorem e_mAndV : mAndV f g E B = (toT f E B).bind fun b E1 B1 => if b = true then g E1 B1 else .ok (.w (.bl false)) E1 B1 := (rfl)
@[simp] theorem e_mOrV : mOrV f g E B = (toT f E B).bind fun b E1 B1 => if b = true then .ok (.w (.bl true)) E1 B1 else g E1 B1 := (rfl)
@[simp] theorem e_mNotV : mNotV f E B = (toT f E B).bind fun b E1 B1 => .ok (.w (.bl (!b))) E1 B1 := (rfl)
@[simp] theorem e_mIf : mIf c f g E B = (c E B).bind fun b E1 B1 => if b = true then f E1 B1 else g E1 B1 := (rfl)
@[simp] theorem e_mBox : mBox f E B = (f E B).bind fun r E1 B1 =>
  match r with
  | .fr c => .ok (.w (.box B1.length)) E1 (B1 ++ [c])
  | _ => .bad := (rfl)
@[simp] theorem e_mNoPart : mNoPart E B = .ok none E B := (rfl)
@[simp] theorem e_mPart : mPart f E B = (f E B).bind fun r E1 B1 =>
  match r with
  | .w (.int i) => .ok (some i) E1 B1
  | _ => .bad := (rfl)
@[simp] theorem e_mSl {fl fh : En → Bx → O (Option Int)} : mSl f fl fh E B =
  (f E B).bind fun r E1 B1 => (fl E1 B1).bind fun lo E2 B2 => (fh E2 B2).bind fun hi E3 B3 =>
    match view r E3 B3 with
    | some u => match gSl u lo hi with
      | some r => .ok r E3 B3
      | none => .bad
    | none => .bad := (rfl)
@[simp] theorem e_mNil : mNil E B = .ok [] E B := (rfl)
@[simp] theorem e_mCons : mCons f fs E B = (f E B).bind fun r E1 B1 =>
  match settle r E1 with
  | some (u, E2) => (fs E2 B1).bind fun us E3 B3 => .ok (u :: us) E3 B3
  | none => .bad := (rfl)
@[simp] theorem e_mTup : mTup fs E B = (fs E B).bind fun us E1 B1 => if us.length ≤ 16777216 then .ok (.w (.tup us)) E1 B1 else .bad := (rfl)
@[simp] theorem e_mLst : mLst fs E B = (fs E B).bind fun us E1 B1 => if us.length ≤ 16777216 then .ok (.fr (.lst us)) E1 B1 else .bad := (rfl)
@[simp] theorem e_mB {h : List U → Option R} : mB h fs E B = (fs E B).bind fun us E1 B1 =>
  match h us with
  | some r => .ok r E1 B1
  | none => .bad := (rfl)
@[simp] theorem e_mM {h : U → List U → Option R} : mM h f fs E B = (f E B).bind fun r E1 B1 =>
  match r with
  | .w (.str z) => (fs E1 B1).bind fun us E2 B2 => match h (.str z) us with
    | some r => .ok r E2 B2
    | none => .bad
  | _ => .bad := (rfl)
@[simp] theorem e_mCall {h : Fn} : mCall h fs E B = (fs E B).bind fun us E1 B1 =>
  match h us B1 with
  | .ok u B2 => .ok (.w u) E1 B2
  | .ex c B2 => .ex c E1 B2
  | .bad => .bad := (rfl)
@[simp] theorem e_mCallK {h : Fn} {ix : List Nat} : mCallK h ix fs E B = (fs E B).bind fun us E1 B1 =>
  match h (pick ix us) B1 with
  | .ok u B2 => .ok (.w u) E1 B2
  | .ex c B2 => .ex c E1 B2
  | .bad => .bad := (rfl)
@[simp] theorem e_pick1 {a : U} : pick [0] [a] = [a] := (rfl)
@[simp] theorem e_mAppend : mAppend f g E B = (f E B).bind fun r E1 B1 =>
  match cellOf r E1 B1 with
  | some (.lst _) => (mCons g mNil E1 B1).bind fun us E2 B2 =>
    match us, cellOf r E2 B2 with
    | [u], some (.lst xs) => if xs.length < 16777216 then .ok (.w .non) (put r E2 B2 (.lst (xs ++ [u]))).1 (put r E2 B2 (.lst (xs ++ [u]))).2 else .bad
    | _, _ => .bad
  | _ => .bad := (rfl)
@[simp] theorem e_sStore {h : Ex} : sStore f g h E B = (f E B).bind fun r0 E0 B0 =>
  match settle r0 E0 with
  | none => .bad
  | some (u, E0') => (g E0' B0).bind fun r E1 B1 => (h E1 B1).bind fun ri E2 B2 =>
    match ri, cellOf r E2 B2 with
    | .w (.int k), some (.lst xs) => match ixN xs.length k with
      | some j => .ok .nx (put r E2 B2 (.lst (xs.set j u))).1 (put r E2 B2 (.lst (xs.set j u))).2
      | none => .bad
    | _, _ => .bad := (rfl)
@[simp] theorem e_sNext : sNext E B = .ok .nx E B := (rfl)
@[simp] theorem e_sBreak : sBreak E B = .ok .bk E B := (rfl)
@[simp] theorem e_sCont : sCont E B = .ok .ct E B := (rfl)
@[simp] theorem e_sBad : sBad E B = .bad := (rfl)
@[simp] theorem e_sSeq : sSeq s t E B = (s E B).bind fun fl E1 B1 =>
  match fl with
  | .nx => t E1 B1
  | fl => .ok fl E1 B1 := (rfl)
@[simp] theorem e_sSet : sSet i f E B = (f E B).bind fun r E1 B1 =>
  match settle r E1 with
  | some (u, E2) => if i < E2.length then .ok .nx (E2.set i (.val u)) B1 else .bad
  | none => .bad := (rfl)
@[simp] theorem e_sOwn : sOwn i f E B = (f E B).bind fun r E1 B1 =>
  match r with
  | .fr c => if i < E1.length then .ok .nx (E1.set i (.own c)) B1 else .bad
  | _ => .bad := (rfl)
@[simp] theorem e_sExpr : sExpr f E B = (f E B).bind fun _ E1 B1 => .ok .nx E1 B1 := (rfl)
@[simp] theorem e_sRet : sRet f E B = (f E B).bind fun r E1 B1 =>
  match settle r E1 with
  | some (u, E2) => .ok (.rt u) E2 B1
  | none => .bad := (rfl)
@[simp] theorem e_sRetN : sRetN E B = .ok (.rt .non) E B := (rfl)
@[simp] theorem e_sIf : sIf c s t E B = (c E B).bind fun b E1 B1 => if b = true then s E1 B1 else t E1 B1 := (rfl)
@[simp] theorem e_sAug {h : U → U → Option R} : sAug i h f E B =
  match E[i]? with
  | some (.val u1) => match flatU u1 with
    | some _ => (f E B).bind fun r E1 B1 => match view r E1 B1 with
      | some u2 => match h u1 u2 with
        | some (.w z) => if i < E1.length then .ok .nx (E1.set i (.val z)) B1 else .bad
        | _ => .bad
      | none => .bad
    | none => .bad
  | _ => .bad := (rfl)
@[simp] theorem e_mChain {h k : U → U → Option R} {l : Ex} : mChain h k f g l E B =
  (f E B).bind fun r1 E1 B1 => (g E1 B1).bind fun r2 E2 B2 =>
    match view r1 E2 B2, view r2 E2 B2 with
    | some u1, some u2 => match flatU u2, h u1 u2 with
      | some _, some (.w (.bl true)) => (l E2 B2).bind fun r3 E3 B3 => match view r3 E3 B3 with
        | some u3 => match k u2 u3 with
          | some r => .ok r E3 B3
          | none => .bad
        | none => .bad
      | some _, some (.w (.bl false)) => .ok (.w (.bl false)) E2 B2
      | _, _ => .bad
    | _, _ => .bad := (rfl)
@[simp] theorem e_wCmpN {h : U → U → Option R} : wCmpN i h f g E B = (f E B).bind fun r E1 B1 =>
  match settle r E1 with
  | some (u, E2) => if i < E2.length then (g (E2.set i (.val u)) B1).bind fun r2 E3 B3 => match viewU u B3, view r2 E3 B3 with
      | some u1, some u2 => match h u1 u2 with
        | some (.w (.bl b)) => .ok b E3 B3
        | _ => .bad
      | _, _ => .bad
    else .bad
  | none => .bad := (rfl)
@[simp] theorem e_wAnd {h : Tw} : wAnd c h E B = (c E B).bind fun b E1 B1 => if b = true then h E1 B1 else .ok false E1 B1 := (rfl)
@[simp] theorem e_sIfW {h : Tw} : sIfW h s t E B = (h E B).bind fun b E1 B1 => if b = true then s E1 B1 else t E1 B1 := (rfl)
@[simp] theorem e_mYes : mYes E B = .ok true E B := (rfl)
@[simp] theorem e_mItV : mItV f E B = (f E B).bind fun r E1 B1 =>
  match settle r E1 with
  | some (u, E2) => match itemsOf u B1 with
    | some w => .ok w E2 B1
    | none => .bad
  | none => .bad := (rfl)
@[simp] theorem e_mRange1 : mRange1 fs E B = (fs E B).bind fun us E1 B1 =>
  match us with
  | [.int j] => if I62 j = true then .ok (intsU 0 j.toNat, yes) E1 B1 else .bad
  | _ => .bad := (rfl)
@[simp] theorem e_mRange2 : mRange2 fs E B = (fs E B).bind fun us E1 B1 =>
  match us with
  | [.int i, .int j] => if I62 i = true ∧ I62 j = true then .ok (intsU i (j - i).toNat, yes) E1 B1 else .bad
  | _ => .bad := (rfl)
@[simp] theorem e_mEnum : mEnum fs E B = (fs E B).bind fun us E1 B1 =>
  match us with
  | [.lst ws] => .ok (ws.mapIdx fun k u => .tup [.int (k : Nat), u], yes) E1 B1
  | _ => .bad := (rfl)
@[simp] theorem e_items_lst {us : List U} : itemsOf (.lst us) B = some (us, yes) := (rfl)
@[simp] theorem e_items_tup {us : List U} : itemsOf (.tup us) B = some (us, yes) := (rfl)
@[simp] theorem e_items_str {l : List Nat} : itemsOf (.str (ofC l)) B = some (l.map (fun c => .str (ofC [c])), yes) := (rfl)
@[simp] theorem e_items_scr {ns : List Int} : itemsOf (.scr ns) B = some (ns.map .int, yes) := (rfl)
theorem e_items_box {us : List U} (h : B[j]? = some (.lst us)) : itemsOf (.box j) B = some (us, fun B' => B'[j]? = some (.lst us)) := by
  simp only [itemsOf, h]
/-! ### views -/
@[simp] theorem e_view_w : view (.w u) E B = viewU u B := (rfl)
@[simp] theorem e_view_fr {k : Cell} : view (.fr k) E B = k.view := (rfl)
@[simp] theorem e_view_s : view (.s i) E B = match E[i]? with
    | some (.own c) => c.view
    | some (.val u) => viewU u B
    | _ => none := (rfl)
@[simp] theorem e_cv_lst {us : List U} : Cell.view (.lst us) = some (.lst us) := (rfl)
@[simp] theorem e_cv_dct {ks : List Key} {us : List U} : Cell.view (.dct ks us) = some (.dct ks us) := (rfl)
@[simp] theorem e_vu_non : viewU .non B = some .non := (rfl)
@[simp] theorem e_vu_bl {b : Bool} : viewU (.bl b) B = some (.bl b) := (rfl)
@[simp] theorem e_vu_int {k : Int} : viewU (.int k) B = some (.int k) := (rfl)
@[simp] theorem e_vu_str {x : Str} : viewU (.str x) B = some (.str x) := (rfl)
@[simp] theorem e_vu_lst {us : List U} : viewU (.lst us) B = some (.lst us) := (rfl)
@[simp] theorem e_vu_tup {us : List U} : viewU (.tup us) B = some (.tup us) := (rfl)
@[simp] theorem e_vu_dct {ks : List Key} {us : List U} : viewU (.dct ks us) B = some (.dct ks us) := (rfl)
@[simp] theorem e_vu_scr {ns : List Int} : viewU (.scr ns) B = some (.scr ns) := (rfl)
@[simp] theorem e_vu_box : viewU (.box j) B = (B[j]?).bind Cell.view := (rfl)
@[simp] theorem e_settle_w : settle (.w u) E = some (u, E) := (rfl)
@[simp] theorem e_settle_fr {k : Cell} : settle (.fr k) E = some (k.toU, E) := (rfl)
@[simp] theorem e_settle_s : settle (.s i) E = match E[i]? with
    | some (.own c) => some (c.toU, E.set i (.val c.toU))
    | some (.val u) => some (u, E)
    | _ => none := (rfl)
@[simp] theorem e_toU_lst {us : List U} : Cell.toU (.lst us) = .lst us := (rfl)
@[simp] theorem e_toU_dct {ks : List Key} {us : List U} : Cell.toU (.dct ks us) = .dct ks us := (rfl)
@[simp] theorem e_cellOf_box : cellOf (.w (.box j)) E B = B[j]? := (rfl)
@[simp] theorem e_cellOf_s : cellOf (.s i) E B = match E[i]? with
    | some (.own c) => some c
    | some (.val (.box j)) => B[j]?
    | _ => none := (rfl)
@[simp] theorem e_put_box {k : Cell} : put (.w (.box j)) E B k = (E, B.set j k) := (rfl)
@[simp] theorem e_put_s {k : Cell} : put (.s i) E B k = match E[i]? with
    | some (.own _) => (E.set i (.own k), B)
    | some (.val (.box j)) => (E, B.set j k)
    | _ => (E, B) := (rfl)
@[simp] theorem e_bdN {k : Nat} : bdN k u E = match E[k]? with
  | some (.own _) => none
  | some _ => some (E.set k (.val u))
  | none => none := (rfl)
@[simp] theorem e_bdT {bs : Bds} {us : List U} : bdT bs (.tup us) E = bs us E := (rfl)
@[simp] theorem e_bdCons {b : Bd} {bs : Bds} {us : List U} : bdCons b bs (u :: us) E = (b u E).bind fun E1 => bs us E1 := (rfl)
@[simp] theorem e_bdNil : bdNil [] E = some E := (rfl)
@[simp] theorem e_wipe0 : wipeE E [] = E := (rfl)
@[simp] theorem e_wipe1 {v : Nat} {vs : List Nat} : wipeE E (v :: vs) = (wipeE E vs).set v .un := (rfl)
@[simp] theorem e_keep0 {E1 : En} : keepE E1 E [] = E := (rfl)
@[simp] theorem e_keep1 {E1 : En} {v : Nat} {vs : List Nat} : keepE E1 E (v :: vs) = match E1[v]? with
    | some s => (keepE E1 E vs).set v s
    | none => keepE E1 E vs := (rfl)
@[simp] theorem e_noOwn0 : noOwn E [] = true := (rfl)
@[simp] theorem e_noOwn1 {v : Nat} {vs : List Nat} : noOwn E (v :: vs) = match E[v]? with
    | some (.own _) => false
    | none => false
    | _ => noOwn E vs := (rfl)
/-! ### what is said of values -/
@[simp] theorem e_tru_bl {b : Bool} : truU (.bl b) = some b := (rfl)
@[simp] theorem e_tru_non : truU .non = some false := (rfl)
@[simp] theorem e_tru_int {k : Int} : truU (.int k) = some (k != 0) := (rfl)
@[simp] theorem e_tru_lst {us : List U} : truU (.lst us) = some (!us.isEmpty) := (rfl)
@[simp] theorem e_tru_tup {us : List U} : truU (.tup us) = some (!us.isEmpty) := (rfl)
@[simp] theorem e_tru_scr {ns : List Int} : truU (.scr ns) = some (!ns.isEmpty) := (rfl)
@[simp] theorem e_tru_str {l : List Nat} : truU (.str (ofC l)) = if l.length ≤ 16777216 then some ((l.length : Int) != 0) else none := (rfl)
@[simp] theorem e_gII {C : Int → Int → Bool} {h : Int → Int → Int} {a b : Int} : gII C h (.int a) (.int b) = if C a b = true then some (.w (.int (h a b))) else none := (rfl)
@[simp] theorem e_add_ii {a b : Int} : gAdd (.int a) (.int b) = some (.w (.int (a + b))) := (rfl)
@[simp] theorem e_add_ss {a b : Str} : gAdd (.str a) (.str b) = if a.length + b.length ≤ 16777216 then some (.w (.str (a ++ b))) else none := by
  simp [gAdd, gII, gCatS, gCatL, gCatT]
@[simp] theorem e_add_ll {a b : List U} : gAdd (.lst a) (.lst b) = if a.length + b.length ≤ 16777216 then some (.fr (.lst (a ++ b))) else none := by
  simp [gAdd, gII, gCatS, gCatL, gCatT]
@[simp] theorem e_add_tt {a b : List U} : gAdd (.tup a) (.tup b) = if a.length + b.length ≤ 16777216 then some (.w (.tup (a ++ b))) else none := by
  simp [gAdd, gII, gCatS, gCatL, gCatT]
@[simp] theorem e_iadd_ii {a b : Int} : gIAdd (.int a) (.int b) = some (.w (.int (a + b))) := (rfl)
@[simp] theorem e_iadd_ss {a b : Str} : gIAdd (.str a) (.str b) = if a.length + b.length ≤ 16777216 then some (.w (.str (a ++ b))) else none := by
  simp [gIAdd, gII, gCatS]
@[simp] theorem e_sub {a b : Int} : gSub (.int a) (.int b) = some (.w (.int (a - b))) := (rfl)
@[simp] theorem e_mul {a b : Int} : gMul (.int a) (.int b) = if cMul a b = true then some (.w (.int (a * b))) else none := by
  simp [gMul, gII, gRep]
@[simp] theorem e_mulL {a : List U} {b : Int} : gMul (.lst a) (.int b) = gRep (.lst a) (.int b) := (rfl)
@[simp] theorem e_lt_ii {a b : Int} : gLt (.int a) (.int b) = some (.w (.bl (decide (a < b)))) := (rfl)
@[simp] theorem e_le_ii {a b : Int} : gLe (.int a) (.int b) = some (.w (.bl (decide (a ≤ b)))) := (rfl)
@[simp] theorem e_gt_ii {a b : Int} : gGt (.int a) (.int b) = some (.w (.bl (decide (b < a)))) := (rfl)
@[simp] theorem e_ge_ii {a b : Int} : gGe (.int a) (.int b) = some (.w (.bl (decide (b ≤ a)))) := (rfl)
@[simp] theorem e_lt_ss {a b : List Nat} : gLt (.str (ofC a)) (.str (ofC b)) = some (.w (.bl (decide (a < b)))) := (rfl)
@[simp] theorem e_le_ss {a b : List Nat} : gLe (.str (ofC a)) (.str (ofC b)) = some (.w (.bl (!decide (b < a)))) := (rfl)
@[simp] theorem e_gt_ss {a b : List Nat} : gGt (.str (ofC a)) (.str (ofC b)) = some (.w (.bl (decide (b < a)))) := (rfl)
@[simp] theorem e_ge_ss {a b : List Nat} : gGe (.str (ofC a)) (.str (ofC b)) = some (.w (.bl (!decide (a < b)))) := (rfl)
@[simp] theorem e_len_lst {us : List U} : gLen (.lst us) = some (.w (.int us.length)) := (rfl)
@[simp] theorem e_len_tup {us : List U} : gLen (.tup us) = some (.w (.int us.length)) := (rfl)
@[simp] theorem e_len_scr {ns : List Int} : gLen (.scr ns) = some (.w (.int ns.length)) := (rfl)
@[simp] theorem e_len_str {l : List Nat} : gLen (.str (ofC l)) = if l.length ≤ 16777216 then some (.w (.int l.length)) else none := (rfl)
@[simp] theorem e_abs {a : Int} : gAbs (.int a) = some (.w (.int (if a < 0 then -a else a))) := (rfl)
@[simp] theorem e_neg {a : Int} : gNeg (.int a) = some (.w (.int (-a))) := (rfl)
@[simp] theorem e_int_i {a : Int} : gInt (.int a) = some (.w (.int a)) := (rfl)
@[simp] theorem e_int_b {b : Bool} : gInt (.bl b) = some (.w (.int (if b then 1 else 0))) := (rfl)
@[simp] theorem e_lo_l {us : List U} : gListOf (.lst us) = some (.fr (.lst us)) := (rfl)
@[simp] theorem e_lo_t {us : List U} : gListOf (.tup us) = some (.fr (.lst us)) := (rfl)
@[simp] theorem e_to_l {us : List U} : gTupleOf (.lst us) = some (.w (.tup us)) := (rfl)
@[simp] theorem e_to_t {us : List U} : gTupleOf (.tup us) = some (.w (.tup us)) := (rfl)
theorem blsOf_map : ∀ bs : List Bool, blsOf (bs.map .bl) = some bs
  | [] => rfl
  | b :: bs => by simp [blsOf, blsOf_map bs]
@[simp] theorem e_any {bs : List Bool} : gAny (.lst (bs.map .bl)) = some (.w (.bl (bs.any id))) := by simp [gAny, blsOf_map]
@[simp] theorem e_all {bs : List Bool} : gAll (.lst (bs.map .bl)) = some (.w (.bl (bs.all id))) := by simp [gAll, blsOf_map]
theorem e_any' {α : Type} {l : List α} {p : α → Bool} : gAny (.lst (l.map fun x => .bl (p x))) = some (.w (.bl (l.any p))) := by
  have h : (l.map fun x => U.bl (p x)) = (l.map p).map .bl := by simp [Function.comp_def]
  rw [h, e_any]; simp [List.any_map]
theorem e_all' {α : Type} {l : List α} {p : α → Bool} : gAll (.lst (l.map fun x => .bl (p x))) = some (.w (.bl (l.all p))) := by
  have h : (l.map fun x => U.bl (p x)) = (l.map p).map .bl := by simp [Function.comp_def]
  rw [h, e_all]; simp [List.all_map]
@[simp] theorem e_max2 {a b : Int} : gMax2 [.int a, .int b] = some (.w (.int (if b > a then b else a))) := (rfl)
@[simp] theorem e_min2 {a b : Int} : gMin2 [.int a, .int b] = some (.w (.int (if b < a then b else a))) := (rfl)
@[simp] theorem e_ix_l {us : List U} {k : Int} : gIx (.lst us) (.int k) = (atI us k).map .w := (rfl)
@[simp] theorem e_ix_t {us : List U} {k : Int} : gIx (.tup us) (.int k) = (atI us k).map .w := (rfl)
@[simp] theorem e_ix_s {l : List Nat} {k : Int} : gIx (.str (ofC l)) (.int k) = if l.length ≤ 16777216 then (atI l k).map fun c => .w (.str (ofC [c])) else none := (rfl)
@[simp] theorem e_ix_scr {ns : List Int} {k : Int} : gIx (.scr ns) (.int k) = (atI ns k).map fun n => .w (.int n) := (rfl)
@[simp] theorem e_sl_l {us : List U} {lo hi : Option Int} : gSl (.lst us) lo hi = some (.fr (.lst (cutU us lo hi))) := (rfl)
@[simp] theorem e_sl_t {us : List U} {lo hi : Option Int} : gSl (.tup us) lo hi = some (.w (.tup (cutU us lo hi))) := (rfl)
@[simp] theorem e_eq {a b : U} : gEq a b = (eqU a b).map fun k => .w (.bl k) := (rfl)
@[simp] theorem e_ne {a b : U} : gNe a b = (eqU a b).map fun k => .w (.bl (!k)) := (rfl)
@[simp] theorem e_eq_ss {x y : Str} : eqU (.str x) (.str y) = some (x == y) := (rfl)
@[simp] theorem e_eq_ii {x y : Int} : eqU (.int x) (.int y) = some (x == y) := (rfl)
@[simp] theorem e_eq_ns {y : Str} : eqU .non (.str y) = some false := (rfl)
@[simp] theorem e_eq_sn {y : Str} : eqU (.str y) .non = some false := (rfl)
@[simp] theorem e_eq_si {x : Str} {y : Int} : eqU (.str x) (.int y) = some false := (rfl)
@[simp] theorem e_eq_is {x : Str} {y : Int} : eqU (.int y) (.str x) = some false := (rfl)
@[simp] theorem e_eq_bb {x y : Bool} : eqU (.bl x) (.bl y) = some (x == y) := by cases x <;> cases y <;> decide +kernel
theorem eqU_self {u : U} {d : PyData} (h : toD u = some d) (hs : SeqAt.shaped d = true) (hu : ∀ x, u ≠ .str x) : eqU u u = some true := by
  have e : (match toD u, toD u with
    | some d, some e => if (SeqAt.shaped d && SeqAt.shaped e) = true then some (PyData.eqv d e) else none
    | _, _ => none) = some true := by
    rw [h]
    simp only [hs, Bool.and_self, if_true]
    rw [SeqAt.eqv_refl d (SeqAt.canLay_of_shaped hs)]
  cases u with
  | str x => exact absurd rfl (hu x)
  | int x => simp
  | _ => exact e
@[simp] theorem e_is_non {b : Bool} {a : U} : gIs b a .non = some (.w (.bl (if b then !isNon a else isNon a))) := by cases a <;> rfl
@[simp] theorem e_is_bb {n : Bool} {a b : Bool} : gIs n (.bl a) (.bl b) = some (.w (.bl (if n then !decide (a = b) else decide (a = b)))) := (rfl)
@[simp] theorem e_isNon_non : isNon .non = true := (rfl)
@[simp] theorem e_isNon_int {k : Int} : isNon (.int k) = false := (rfl)
@[simp] theorem e_isNon_str {x : Str} : isNon (.str x) = false := (rfl)
@[simp] theorem e_isNon_bl {b : Bool} : isNon (.bl b) = false := (rfl)
@[simp] theorem e_isNon_lst {us : List U} : isNon (.lst us) = false := (rfl)
@[simp] theorem e_isNon_tup {us : List U} : isNon (.tup us) = false := (rfl)
@[simp] theorem e_isNon_box : isNon (.box j) = false := (rfl)
@[simp] theorem e_gIn {n : Bool} {a b : U} : gIn n a b = (inU a b).map fun k => .w (.bl (if n then !k else k)) := (rfl)
@[simp] theorem e_in_1 {k : Nat} {l : List Nat} : inU (.str (ofC [k])) (.str (ofC l)) = some (decide (k ∈ l)) := by
  show some (inStr _ _) = _
  unfold inStr
  rw [if_pos (by rfl)]
  rfl
@[simp] theorem e_flat_str {x : Str} : flatU (.str x) = some (.str x) := (rfl)
@[simp] theorem e_flat_int {k : Int} : flatU (.int k) = some (.int k) := (rfl)
@[simp] theorem e_flat_bl {b : Bool} : flatU (.bl b) = some (.bl b) := (rfl)
@[simp] theorem e_flat_non : flatU .non = some .non := (rfl)
/-! ### kinds -/
@[simp] theorem e_isi {T : String} : gIsi T u = (kindS u).bind fun s => (kitB s T).map fun k => .w (.bl k) := (rfl)
@[simp] theorem e_isiT {Ts : List String} : gIsiT Ts u = (kindS u).bind fun s => (isAny s Ts).map fun k => .w (.bl k) := (rfl)
@[simp] theorem e_isAny0 {s : String} : isAny s [] = some false := (rfl)
@[simp] theorem e_isAny1 {s T : String} {Ts : List String} : isAny s (T :: Ts) = (kitB s T).bind fun k => (isAny s Ts).map fun k' => k || k' := (rfl)
@[simp] theorem e_kind_non : kindS .non = some "NoneType" := (rfl)
@[simp] theorem e_kind_bl {b : Bool} : kindS (.bl b) = some "bool" := (rfl)
@[simp] theorem e_kind_int {k : Int} : kindS (.int k) = some "int" := (rfl)
@[simp] theorem e_kind_str {x : Str} : kindS (.str x) = some "str" := (rfl)
@[simp] theorem e_kind_lst {us : List U} : kindS (.lst us) = some "list" := (rfl)
@[simp] theorem e_kind_tup {us : List U} : kindS (.tup us) = some "tuple" := (rfl)
@[simp] theorem e_kind_dct {ks : List Key} {us : List U} : kindS (.dct ks us) = some "dict" := (rfl)
@[simp] theorem e_kind_scr {ns : List Int} : kindS (.scr ns) = some "list" := (rfl)
@[simp] theorem e_cMod {a b : Int} : cMod a b = decide (0 < b) := (rfl)
theorem cMul_l {a b : Int} (h : -9223372036854775808 ≤ a) (h2 : a ≤ 9223372036854775807) : cMul a b = true := cMul_iff.mpr (.inl ⟨h, h2⟩)
theorem cMul_r {a b : Int} (h : -9223372036854775808 ≤ b) (h2 : b ≤ 9223372036854775807) : cMul a b = true := cMul_iff.mpr (.inr (.inl ⟨h, h2⟩))
theorem cMul_b {a b : Int} (h : a.natAbs.log2 + b.natAbs.log2 < 1000000) : cMul a b = true := cMul_iff.mpr (.inr (.inr h))
theorem cDiv_p {a b : Int} (h : 0 < b) (h2 : b ≤ 1500000000000000000000000000000000000000000000000000000000000) : cDiv a b = true := cDiv_iff.mpr ⟨by omega, h⟩
theorem cPow_p {a b : Int} (h : 0 ≤ b) (h2 : b ≤ 1000000) (h3 : -9223372036854775808 ≤ a) (h4 : a ≤ 9223372036854775807) : cPow a b = true := cPow_iff.mpr ⟨by omega, h, h3, h4⟩
/-- written numbers -/
@[simp] theorem cMul_lit {a : Int} {k : Nat} (h : Nat.ble k 9223372036854775807 = true := by rfl) : cMul a (no_index (OfNat.ofNat k)) = true := by
  refine cMul_r (by have : (OfNat.ofNat k : Int) = (k : Int) := rfl; omega) (by
    have e : (OfNat.ofNat k : Int) = (k : Int) := rfl
    have := Nat.le_of_ble_eq_true h
    omega)
end
@[simp] theorem kit_NoneType_bool : kitB "NoneType" "bool" = some false := by decide +kernel
@[simp] theorem kit_NoneType_int : kitB "NoneType" "int" = some false := by decide +kernel
@[simp] theorem kit_NoneType_str : kitB "NoneType" "str" = some false := by decide +kernel
@[simp] theorem kit_NoneType_list : kitB "NoneType" "list" = some false := by decide +kernel
@[simp] theorem kit_NoneType_tuple : kitB "NoneType" "tuple" = some false := by decide +kernel
@[simp] theorem kit_NoneType_dict : kitB "NoneType" "dict" = some false := by decide +kernel
@[simp] theorem kit_bool_bool : kitB "bool" "bool" = some true := by decide +kernel
@[simp] theorem kit_bool_int : kitB "bool" "int" = some true := by decide +kernel
@[simp] theorem kit_bool_str : kitB "bool" "str" = some false := by decide +kernel
@[simp] theorem kit_bool_list : kitB "bool" "list" = some false := by decide +kernel
@[simp] theorem kit_bool_tuple : kitB "bool" "tuple" = some false := by decide +kernel
@[simp] theorem kit_bool_dict : kitB "bool" "dict" = some false := by decide +kernel
@[simp] theorem kit_int_bool : kitB "int" "bool" = some false := by decide +kernel
@[simp] theorem kit_int_int : kitB "int" "int" = some true := by decide +kernel
@[simp] theorem kit_int_str : kitB "int" "str" = some false := by decide +kernel
@[simp] theorem kit_int_list : kitB "int" "list" = some false := by decide +kernel
@[simp] theorem kit_int_tuple : kitB "int" "tuple" = some false := by decide +kernel
@[simp] theorem kit_int_dict : kitB "int" "dict" = some false := by decide +kernel
@[simp] theorem kit_str_bool : kitB "str" "bool" = some false := by decide +kernel
@[simp] theorem kit_str_int : kitB "str" "int" = some false := by decide +kernel
@[simp] theorem kit_str_str : kitB "str" "str" = some true := by decide +kernel
@[simp] theorem kit_str_list : kitB "str" "list" = some false := by decide +kernel
@[simp] theorem kit_str_tuple : kitB "str" "tuple" = some false := by decide +kernel
@[simp] theorem kit_str_dict : kitB "str" "dict" = some false := by decide +kernel
@[simp] theorem kit_list_bool : kitB "list" "bool" = some false := by decide +kernel
@[simp] theorem kit_list_int : kitB "list" "int" = some false := by decide +kernel
@[simp] theorem kit_list_str : kitB "list" "str" = some false := by decide +kernel
@[simp] theorem kit_list_list : kitB "list" "list" = some true := by decide +kernel
@[simp] theorem kit_list_tuple : kitB "list" "tuple" = some false := by decide +kernel
@[simp] theorem kit_list_dict : kitB "list" "dict" = some false := by decide +kernel
@[simp] theorem kit_tuple_bool : kitB "tuple" "bool" = some false := by decide +kernel
@[simp] theorem kit_tuple_int : kitB "tuple" "int" = some false := by decide +kernel
@[simp] theorem kit_tuple_str : kitB "tuple" "str" = some false := by decide +kernel
@[simp] theorem kit_tuple_list : kitB "tuple" "list" = some false := by decide +kernel
@[simp] theorem kit_tuple_tuple : kitB "tuple" "tuple" = some true := by decide +kernel
@[simp] theorem kit_tuple_dict : kitB "tuple" "dict" = some false := by decide +kernel
@[simp] theorem kit_dict_bool : kitB "dict" "bool" = some false := by decide +kernel
@[simp] theorem kit_dict_int : kitB "dict" "int" = some false := by decide +kernel
@[simp] theorem kit_dict_str : kitB "dict" "str" = some false := by decide +kernel
@[simp] theorem kit_dict_list : kitB "dict" "list" = some false := by decide +kernel
@[simp] theorem kit_dict_tuple : kitB "dict" "tuple" = some false := by decide +kernel
@[simp] theorem kit_dict_dict : kitB "dict" "dict" = some true := by decide +kernel
end QB
/-! QbP: the purse and its coins, alike in every law. -/
namespace QB
open PySem L2
def purseB : Sm := sSeq (sSet 2 (mIf (toT (m2 gLt (mVar 1) (m1 gLen (mVar 0)))) (m2 gIx (mVar 0) (mVar 1)) (mC (.int 0)))) (sRet (mBox (mLst (mCons (mB gMax2 (mCons (mC (.int 0)) (mCons (m2 gSub (m1 gAbs (mVar 2)) (m2 (gII cPow fun i j => i ^ j.toNat) (mC (.int 10)) (mC (.int 18)))) (mNil)))) (mCons (m2 (gII cMod (· % ·)) (m1 gInt (m2 gAdd (m2 gAdd (m2 gMul (mVar 2) (mC (.int 2654435761))) (m2 gMul (mVar 1) (mC (.int 40503)))) (mC (.int 977)))) (m2 gAdd (m2 (gII cPow fun i j => i ^ j.toNat) (mC (.int 10)) (mC (.int 24))) (mC (.int 7)))) (mCons (mC (.int 0)) (mNil)))))))
def coinB : Sm := sSeq (sIf (toT (m2 gGt (m2 gIx (mVar 0) (mC (.int 0))) (mC (.int 0)))) (sSeq (sSet 2 (m2 (gII cMod (· % ·)) (m1 gInt (m2 gIx (mVar 0) (mC (.int 0)))) (mVar 1))) (sSeq (sStore (m2 (gII cDiv (· / ·)) (m2 gIx (mVar 0) (mC (.int 0))) (mVar 1)) (mVar 0) (mC (.int 0))) (sRet (mVar 2)))) (sNext)) (sSeq (sStore (m2 gAdd (m2 gIx (mVar 0) (mC (.int 2))) (mC (.int 1))) (mVar 0) (mC (.int 2))) (sSeq (sSet 3 (m2 gAdd (m2 gIx (mVar 0) (mC (.int 1))) (m2 gMul (mC (.int 362437)) (m2 gIx (mVar 0) (mC (.int 2)))))) (sSeq (sSet 3 (m2 (gII cMod (· % ·)) (m1 gInt (m2 gAdd (m2 gMul (mVar 3) (mVar 3)) (m2 gIx (mVar 0) (mC (.int 2))))) (m2 gAdd (m2 (gII cPow fun i j => i ^ j.toNat) (mC (.int 10)) (mC (.int 25))) (mC (.int 13))))) (sSeq (sSet 3 (m2 (gII cMod (· % ·)) (m1 gInt (m2 gAdd (m2 gMul (m2 gMul (mVar 3) (mVar 3)) (mC (.int 5))) (mVar 3))) (m2 gAdd (m2 (gII cPow fun i j => i ^ j.toNat) (mC (.int 10)) (mC (.int 23))) (mC (.int 117))))) (sRet (m2 (gII cMod (· % ·)) (m1 gInt (m2 (gII cDiv (· / ·)) (mVar 3) (mC (.int 1000)))) (mVar 1)))))))
theorem run_rt {N n : Nat} {f : Sm} {us : List U} {u : U} {B B' : Bx} {E' : En} (hl : us.length = n) (h : f (us.map .val ++ List.replicate (N - us.length) .un) B = .ok (.rt u) E' B') : runBody N n f us B = .ok u B' := by
  unfold runBody
  rw [if_pos hl, h]
theorem run_nx {N n : Nat} {f : Sm} {us : List U} {B B' : Bx} {E' : En} (hl : us.length = n) (h : f (us.map .val ++ List.replicate (N - us.length) .un) B = .ok .nx E' B') : runBody N n f us B = .ok .non B' := by
  unfold runBody
  rw [if_pos hl, h]
theorem seq_nx {s t : Sm} {E E1 : En} {B B1 : Bx} (h : s E B = .ok .nx E1 B1) : sSeq s t E B = t E1 B1 := by
  unfold sSeq
  rw [h, O.bind_ok]
theorem seq_rt {s t : Sm} {E E1 : En} {B B1 : Bx} {u : U} (h : s E B = .ok (.rt u) E1 B1) : sSeq s t E B = .ok (.rt u) E1 B1 := by
  unfold sSeq
  rw [h, O.bind_ok]
/-- the i-th shared cell is a purse from which n coins can still be taken -/
def Purse (B : Bx) (i n : Nat) : Prop := ∃ a b t : Int, B[i]? = some (.lst [.int a, .int b, .int t]) ∧ 0 ≤ b ∧ b < 10 ^ 25 ∧ 0 ≤ t ∧ t + n ≤ 2 ^ 40
theorem Purse.lt {B : Bx} {i n : Nat} (h : Purse B i n) : i < B.length := by
  obtain ⟨a, b, t, h, _⟩ := h
  exact (List.getElem?_eq_some_iff.mp h).1
theorem Purse.le {B : Bx} {i n m : Nat} (h : Purse B i n) (hm : m ≤ n) : Purse B i m := by
  obtain ⟨a, b, t, h, h1, h2, h3, h4⟩ := h
  exact ⟨a, b, t, h, h1, h2, h3, by omega⟩
theorem Purse.set {B : Bx} {i j n : Nat} {c : Cell} (h : Purse B i n) (hj : j ≠ i) : Purse (B.set j c) i n := by
  obtain ⟨a, b, t, h, h1⟩ := h
  exact ⟨a, b, t, by rw [List.getElem?_set_ne hj]; exact h, h1⟩
theorem Purse.app {B C : Bx} {i n : Nat} (h : Purse B i n) : Purse (B ++ C) i n := by
  have := h.lt
  obtain ⟨a, b, t, h, h1⟩ := h
  exact ⟨a, b, t, by rw [List.getElem?_append_left this]; exact h, h1⟩
def coinF : Fn := runBody 4 2 coinB
def purseF : Fn := runBody 3 2 purseB
theorem ix3_0 : ixN 3 0 = some 0 := rfl
theorem ix3_2 : ixN 3 2 = some 2 := rfl
theorem coin_ok {B : Bx} {i n : Nat} {many : Int} (h : Purse B i (n + 1)) (h0 : 0 < many := by decide) (hm : many ≤ 1000000000 := by decide) :
    ∃ (v : Int) (c : Cell), 0 ≤ v ∧ v < many ∧ coinF [.box i, .int many] B = .ok (.int v) (B.set i c) ∧ Purse (B.set i c) i n := by
  have hi := h.lt
  obtain ⟨a, b, t, h, h1, h2, h3, h4⟩ := h
  by_cases ha : 0 < a
  · refine ⟨a % many, .lst [.int (a / many), .int b, .int t], Int.emod_nonneg _ (by omega), Int.emod_lt_of_pos _ h0, ?_, _, _, _, List.getElem?_set_self hi, h1, h2, h3, by omega⟩
    have d0 : cDiv a many = true := cDiv_p h0 (by omega)
    simp [coinF, runBody, coinB, h, ha, h0, d0, ix3_0]
  · have m1 : -(2 ^ 64) < t + 1 ∧ t + 1 < 2 ^ 64 := by omega
    have q0 : ∀ x y : Int, 0 < y → 0 ≤ x % y ∧ x % y < y := fun x y hy => ⟨Int.emod_nonneg _ (by omega), Int.emod_lt_of_pos _ hy⟩
    have l0 : ∀ x y : Int, 0 ≤ x → x < 10 ^ 40 → 0 ≤ y → y < 10 ^ 40 → x.natAbs.log2 + y.natAbs.log2 < 1000000 := by
      intro x y a1 a2 a3 a4
      have u1 : x.natAbs.log2 < 200 := by
        rcases Nat.eq_zero_or_pos x.natAbs with z | z
        · rw [z]; decide
        · rw [Nat.log2_lt (by omega)]
          have : x.natAbs < 10 ^ 40 := by omega
          exact Nat.lt_trans this (by decide)
      have u2 : y.natAbs.log2 < 200 := by
        rcases Nat.eq_zero_or_pos y.natAbs with z | z
        · rw [z]; decide
        · rw [Nat.log2_lt (by omega)]
          have : y.natAbs < 10 ^ 40 := by omega
          exact Nat.lt_trans this (by decide)
      omega
    have s0 : 0 ≤ b + 362437 * (t + 1) ∧ b + 362437 * (t + 1) < 10 ^ 40 := by omega
    generalize e0 : b + 362437 * (t + 1) = x0 at s0
    have c0 := l0 x0 x0 s0.1 s0.2 s0.1 s0.2
    have s1 := q0 (x0 * x0 + (t + 1)) (10 ^ 25 + 13) (by decide)
    generalize e1 : (x0 * x0 + (t + 1)) % (10 ^ 25 + 13) = x1 at s1
    have c1 := l0 x1 x1 s1.1 (by omega) s1.1 (by omega)
    have s2 := q0 (x1 * x1 * 5 + x1) (10 ^ 23 + 117) (by decide)
    generalize e2 : (x1 * x1 * 5 + x1) % (10 ^ 23 + 117) = x2 at s2
    refine ⟨x2 / 1000 % many, .lst [.int a, .int b, .int (t + 1)], Int.emod_nonneg _ (by omega), Int.emod_lt_of_pos _ h0, ?_, _, _, _, List.getElem?_set_self hi, h1, h2, by omega, by omega⟩
    have e1' : (x0 * x0 + (t + 1)) % 10000000000000000000000013 = x1 := e1
    have e2' : (x1 * x1 * 5 + x1) % 100000000000000000000117 = x2 := e2
    have gs : ∀ c : Cell, (B.set i c)[i]? = some c := fun c => List.getElem?_set_self hi
    have k1 : cMul 362437 (t + 1) = true := cMul_l (by decide) (by decide)
    have k2 : cMul x0 x0 = true := cMul_b c0
    have k3 : cMul x1 x1 = true := cMul_b c1
    have k4 : cMul (x1 * x1) 5 = true := cMul_r (by decide) (by decide)
    have k5 : cPow 10 25 = true := by decide
    have k6 : cPow 10 23 = true := by decide
    have k7 : cDiv x2 1000 = true := cDiv_p (by decide) (by decide)
    simp [coinF, runBody, coinB, h, ha, h0, ix3_2, gs, e0, e1', e2', k1, k2, k3, k4, k5, k6, k7]
def px (z : Int) : Int := if 0 < (if z < 0 then -z else z) - 1000000000000000000 then (if z < 0 then -z else z) - 1000000000000000000 else 0
theorem purse_1 (z : Int) {E : En} {B : Bx} (h : E[2]? = some (.val (.int z))) : (mB gMax2 (mCons (mC (.int 0)) (mCons (m2 gSub (m1 gAbs (mVar 2)) (m2 (gII cPow fun i j => i ^ j.toNat) (mC (.int 10)) (mC (.int 18)))) (mNil)))) E B = .ok (.w (.int (px z))) E B := by
  have k5 : cPow 10 18 = true := by decide
  simp [px, h, k5]
theorem purse_2 (z : Int) (k : Int) {E : En} {B : Bx} (h : E[2]? = some (.val (.int z))) (h1 : E[1]? = some (.val (.int k))) : (m2 (gII cMod (· % ·)) (m1 gInt (m2 gAdd (m2 gAdd (m2 gMul (mVar 2) (mC (.int 2654435761))) (m2 gMul (mVar 1) (mC (.int 40503)))) (mC (.int 977)))) (m2 gAdd (m2 (gII cPow fun i j => i ^ j.toNat) (mC (.int 10)) (mC (.int 24))) (mC (.int 7)))) E B = .ok (.w (.int ((z * 2654435761 + k * 40503 + 977) % 1000000000000000000000007))) E B := by
  have k1 : cMul z 2654435761 = true := cMul_r (by decide) (by decide)
  have k2 : cMul k 40503 = true := cMul_r (by decide) (by decide)
  have k5 : cPow 10 24 = true := by decide
  simp [h, h1, k1, k2, k5]
theorem mB_eq {g : List U → Option R} {fs : Ar} {E : En} {B : Bx} : mB g fs E B = (fs E B).bind fun us E1 B1 =>
  match g us with
  | some r => .ok r E1 B1
  | none => .bad := rfl
theorem purse_3 (z k : Int) {u : U} {B : Bx} : ∃ a b : Int, 0 ≤ b ∧ b < 10 ^ 25 ∧ (sRet (mBox (mLst (mCons (mB gMax2 (mCons (mC (.int 0)) (mCons (m2 gSub (m1 gAbs (mVar 2)) (m2 (gII cPow fun i j => i ^ j.toNat) (mC (.int 10)) (mC (.int 18)))) (mNil)))) (mCons (m2 (gII cMod (· % ·)) (m1 gInt (m2 gAdd (m2 gAdd (m2 gMul (mVar 2) (mC (.int 2654435761))) (m2 gMul (mVar 1) (mC (.int 40503)))) (mC (.int 977)))) (m2 gAdd (m2 (gII cPow fun i j => i ^ j.toNat) (mC (.int 10)) (mC (.int 24))) (mC (.int 7)))) (mCons (mC (.int 0)) (mNil)))))))
    [.val u, .val (.int k), .val (.int z)] B = .ok (.rt (.box B.length)) [.val u, .val (.int k), .val (.int z)] (B ++ [.lst [.int a, .int b, .int 0]]) := by
  have q := Int.emod_nonneg (z * 2654435761 + k * 40503 + 977) (show (1000000000000000000000007 : Int) ≠ 0 by decide)
  have q2 := Int.emod_lt_of_pos (z * 2654435761 + k * 40503 + 977) (show (0 : Int) < 1000000000000000000000007 by decide)
  refine ⟨px z, (z * 2654435761 + k * 40503 + 977) % 1000000000000000000000007, q, by omega, ?_⟩
  have h1 := purse_1 z (E := [.val u, .val (.int k), .val (.int z)]) (B := B) rfl
  have h2 := purse_2 z k (E := [.val u, .val (.int k), .val (.int z)]) (B := B) rfl rfl
  simp only [e_sRet, e_mBox, e_mLst, e_mCons (f := mB _ _), h1, O.bind_ok, e_settle_w]
  rw [e_mCons, h2]
  simp
theorem purse_ok {B : Bx} {ns : List Int} {k : Nat} : ∃ c : Cell, purseF [.scr ns, .int k] B = .ok (.box B.length) (B ++ [c]) ∧ Purse (B ++ [c]) B.length (2 ^ 39) := by
  have s1 : ∃ z : Int, (sSet 2 (mIf (toT (m2 gLt (mVar 1) (m1 gLen (mVar 0)))) (m2 gIx (mVar 0) (mVar 1)) (mC (.int 0)))) [.val (.scr ns), .val (.int k), .un] B = .ok .nx [.val (.scr ns), .val (.int k), .val (.int z)] B := by
    by_cases hk : k < ns.length
    · refine ⟨ns[k], ?_⟩
      have hk' : (k : Int) < ns.length := by omega
      simp [hk, hk']
    · refine ⟨0, ?_⟩
      have hk' : ¬ (k : Int) < ns.length := by omega
      simp [hk, hk']
  obtain ⟨z, s1⟩ := s1
  obtain ⟨a, b, h1, h2, s2⟩ := purse_3 z k (u := .scr ns) (B := B)
  refine ⟨.lst [.int a, .int b, .int 0], ?_, a, b, 0, by simp, h1, h2, by omega, by omega⟩
  refine run_rt rfl (E' := [.val (.scr ns), .val (.int k), .val (.int z)]) ?_
  exact (seq_nx s1).trans s2
end QB
/-! QbQ: texts: joined, cut, sought in. -/
namespace QB
open PySem L2
open PySem.StrLaws (occBody occ_eq subAt_one)
theorem sjoin0 : ∀ ls : List (List Nat), Str.join (ofC []) (ls.map ofC) = ofC ls.flatten
  | [] => rfl
  | [l] => by simp [Str.join]
  | l :: m :: r => by
    have ih := sjoin0 (m :: r)
    simp only [List.map_cons, Str.join] at ih ⊢
    rw [ih]
    simp
theorem join0 (ls : List (List Nat)) : Txt.join (ofC []) (ls.map ofC) = ofC ls.flatten := by
  show Builtin.Str.glued _ _ = _
  rw [StrLaws.glued_eq_join, sjoin0]
theorem strsOf_map : ∀ ls : List (List Nat), strsOf (ls.map fun l => .str (ofC l)) = some (ls.map ofC)
  | [] => rfl
  | l :: ls => by simp [strsOf, strsOf_map ls]
theorem e_join {ls : List (List Nat)} : gJoin (.str (ofC [])) [.lst (ls.map fun l => .str (ofC l))] = if ls.flatten.length ≤ 16777216 then some (.w (.str (ofC ls.flatten))) else none := by
  have e : (List.map (fun x => x.length) (ls.map ofC)).sum = ls.flatten.length := by
    simp [List.length_flatten, Function.comp_def]
  simp only [gJoin, strsOf_map, join0, ofC_len, List.length_nil, Nat.mul_zero, Nat.add_zero, e]
theorem cutS_ij {l : List Nat} {i j : Int} {a b : Nat} (h1 : i = (a : Int)) (h2 : j = (b : Int)) : cutS (ofC l) (some i) (some j) = ofC ((l.drop a).take (b - a)) := by
  unfold cutS
  rw [h1, h2, ofC_len, ofC_cps, HT.sIx_nat, HT.sIx_nat, drop_min, take_min2]
  rfl
theorem e_sl_s {l : List Nat} {lo hi : Option Int} (h : l.length ≤ 16777216) : gSl (.str (ofC l)) lo hi = some (.w (.str (cutS (ofC l) lo hi))) := by
  show (if (ofC l).length ≤ 16777216 then _ else _) = _
  rw [ofC_len, if_pos h]
/-- the first place of a sign, counted on from i -/
def idx (c : Nat) : List Nat → Nat → Option Nat
  | [], _ => none
  | a :: r, i => if a = c then some i else idx c r (i + 1)
theorem occ_stays (s sub : Str) (hi : Nat) : ∀ (l : List Nat) (st : Array Nat × Nat), st.fst.size = 1 → (forIn l st (occBody s sub hi 1)).run.fst = st.fst
  | [], st, h => rfl
  | a :: l, st, h => by
    rw [List.forIn_cons]
    unfold occBody
    rw [if_neg (fun z => by have := z.1.1.1; omega)]
    exact occ_stays s sub hi l _ h
theorem occ_go (l : List Nat) (c : Nat) : ∀ (n i free : Nat), i + n = l.length + 1 → free ≤ i →
    (forIn (List.range' i n) ((#[] : Array Nat), free) (occBody (ofC l) ⟨#[c]⟩ l.length 1)).run.fst.toList = (idx c (l.drop i) i).toList
  | 0, i, free, h, hf => by
    rw [List.drop_eq_nil_of_le (by omega)]
    rfl
  | n + 1, i, free, h, hf => by
    rw [List.range'_succ, List.forIn_cons]
    have key := subAt_one (ofC l) c i
    rw [ofC_len, ofC_cps] at key
    by_cases hc : l[i]? = some c
    · have k2 := key.mpr hc
      have hlt : i < l.length := (List.getElem?_eq_some_iff.mp hc).1
      have e : (occBody (ofC l) ⟨#[c]⟩ l.length 1 i ((#[] : Array Nat), free)) = pure (ForInStep.yield ((#[] : Array Nat).push i, i + (⟨#[c]⟩ : Str).length)) := by
        unfold occBody
        rw [if_pos ⟨⟨⟨by simp, hf⟩, k2.1⟩, k2.2⟩]
      rw [e]
      show (forIn (List.range' (i + 1) n) ((#[] : Array Nat).push i, i + (⟨#[c]⟩ : Str).length) (occBody (ofC l) ⟨#[c]⟩ l.length 1)).run.fst.toList = _
      rw [occ_stays _ _ _ _ _ (by simp), List.drop_eq_getElem_cons hlt, idx, if_pos ((List.getElem?_eq_some_iff.mp hc).2)]
      simp
    · have e : (occBody (ofC l) ⟨#[c]⟩ l.length 1 i ((#[] : Array Nat), free)) = pure (ForInStep.yield ((#[] : Array Nat), free)) := by
        unfold occBody
        rw [if_neg (fun z => hc (key.mp ⟨z.1.2, z.2⟩))]
      rw [e]
      show (forIn (List.range' (i + 1) n) ((#[] : Array Nat), free) (occBody (ofC l) ⟨#[c]⟩ l.length 1)).run.fst.toList = _
      rw [occ_go l c n (i + 1) free (by omega) (by omega)]
      by_cases hlt : i < l.length
      · rw [List.drop_eq_getElem_cons hlt, idx, if_neg (fun z => hc (by rw [List.getElem?_eq_getElem hlt, z]))]
      · rw [List.drop_eq_nil_of_le (by omega : l.length ≤ i), List.drop_eq_nil_of_le (by omega)]; rfl
theorem occ_one (l : List Nat) (c k : Nat) : Builtin.Str.occurrences (ofC l) (ofC [c]) k l.length 1 = (idx c (l.drop k) k).toList := by
  rw [occ_eq]
  by_cases h : k ≤ l.length
  · exact occ_go l c (l.length + 1 - k) k k (by omega) (Nat.le_refl _)
  · rw [show l.length + 1 - k = 0 from by omega, List.drop_eq_nil_of_le (by omega)]
    rfl
def optI : Option Nat → Int
  | some k => k
  | none => -1
theorem find3_one (l : List Nat) (c : Nat) {i : Int} {k : Nat} (h : i = (k : Int)) : Txt.find3 (ofC l) (ofC [c]) i = optI (idx c (l.drop k) k) := by
  unfold Txt.find3
  have e : PySem.fromIndex (ofC l).length i = k := by
    unfold PySem.fromIndex
    rw [h, if_neg (by omega)]
    omega
  rw [e, ofC_len, occ_one]
  cases idx c (l.drop k) k <;> rfl
end QB
/-! QbR: == and != of trees that hold shared lists. -/
namespace QB
open PySem L2
def mapO (f : U → Option PyData) : List U → Option (List PyData)
  | [] => some []
  | u :: us => match f u, mapO f us with
    | some d, some ds => some (d :: ds)
    | _, _ => none
def toDB (B : Bx) : Nat → U → Option PyData
  | 0 => fun _ => none
  | n + 1 => fun u => match u with
    | .non => some .none
    | .bl b => some (.bool b)
    | .int i => some (.int i)
    | .str x => some (.str x)
    | .lst us => (mapO (toDB B n) us).map .list
    | .tup us => (mapO (toDB B n) us).map .tuple
    | .box i => match B[i]? with
      | some (.lst us) => (mapO (toDB B n) us).map .list
      | _ => none
    | _ => none
theorem mapO_dp {K : PySem.W.Frag} {H : Hp} {Lv : AS} {ρ : List Addr} {f : U → Option PyData} (hf : ∀ u v d, Rep K H Lv ρ u v → f u = some d → Dp K H v d) : ∀ (us : List U) (vs : List V) (ds : List PyData), Reps K H Lv ρ us vs → mapO f us = some ds → DpAll K H vs ds
  | [], vs, ds, h, e => by
    simp only [Reps] at h
    subst h
    simp only [mapO, Option.some.injEq] at e
    subst e
    exact .nil
  | u :: us, vs, ds, h, e => by
    simp only [Reps] at h
    obtain ⟨v, r, rfl, h1, h2⟩ := h
    simp only [mapO] at e
    split at e
    · next d ds' e1 e2 =>
      cases e
      exact .cons (hf u v d h1 e1) (mapO_dp hf us r ds' h2 e2)
    · cases e
theorem toDB_dp {K : PySem.W.Frag} {F : Fm} {ρ : List Addr} {E : En} {B : Bx} {σ : L2.St} {H : Hp} (rl : Rel K F ρ E B σ H) : ∀ (n : Nat) (u : U) (v : V) (d : PyData), Rep K H (LvF F ρ E B σ) ρ u v → toDB B n u = some d → Dp K H v d
  | 0, u, v, d, h, e => by simp [toDB] at e
  | n + 1, u, v, d, h, e => by
    have ih := mapO_dp (toDB_dp rl n)
    cases u with
    | non => exact Rep.dp _ _ _ h (by simpa [toDB, toD] using e)
    | bl b => exact Rep.dp _ _ _ h (by simpa [toDB, toD] using e)
    | int i => exact Rep.dp _ _ _ h (by simpa [toDB, toD] using e)
    | str x => exact Rep.dp _ _ _ h (by simpa [toDB, toD] using e)
    | lst us =>
      simp only [Rep] at h
      obtain ⟨p, vs, rfl, ⟨h1, _⟩, h2⟩ := h
      simp only [toDB, Option.map_eq_some_iff] at e
      obtain ⟨ds, e1, rfl⟩ := e
      exact .lst (.inl (.inl h1)) (ih us vs ds h2 e1)
    | tup us =>
      simp only [Rep] at h
      obtain ⟨p, vs, rfl, h1, h2⟩ := h
      simp only [toDB, Option.map_eq_some_iff] at e
      obtain ⟨ds, e1, rfl⟩ := e
      exact .tup (sqT_of h1) (ih us vs ds h2 e1)
    | box i =>
      simp only [Rep] at h
      obtain ⟨p, hp, rfl⟩ := h
      simp only [toDB] at e
      split at e
      · next us hb =>
        simp only [Option.map_eq_some_iff] at e
        obtain ⟨ds, e1, rfl⟩ := e
        obtain ⟨⟨vs, h1, h2⟩, _⟩ := rl.box i _ p hb rfl hp
        exact .lst (.inl (.inl h1)) (ih us vs ds h2 e1)
      · cases e
    | dct _ _ => simp [toDB] at e
    | exc _ _ => simp [toDB] at e
    | scr _ => simp [toDB] at e
theorem toDB_top {K : PySem.W.Frag} {F : Fm} {ρ : List Addr} {E : En} {B : Bx} {σ : L2.St} {H : Hp} (rl : Rel K F ρ E B σ H) {n : Nat} {u : U} {v : V} {d : PyData} (t : Top K H (LvF F ρ E B σ) ρ u v) (e : toDB B n u = some d) : Dp K H v d := by
  cases n with
  | zero => simp [toDB] at e
  | succ n =>
    have ih := mapO_dp (toDB_dp rl n)
    cases u with
    | lst us =>
      obtain ⟨p, vs, rfl, h1, h2⟩ := t
      simp only [toDB, Option.map_eq_some_iff] at e
      obtain ⟨ds, e1, rfl⟩ := e
      exact .lst (.inl (.inl h1)) (ih us vs ds h2 e1)
    | tup us =>
      obtain ⟨p, vs, rfl, h1, h2⟩ := t
      simp only [toDB, Option.map_eq_some_iff] at e
      obtain ⟨ds, e1, rfl⟩ := e
      exact .tup (sqT_of h1) (ih us vs ds h2 e1)
    | box i => exact t.elim
    | non => exact toDB_dp rl (n + 1) _ _ _ t e
    | bl _ => exact toDB_dp rl (n + 1) _ _ _ t e
    | int _ => exact toDB_dp rl (n + 1) _ _ _ t e
    | str _ => exact toDB_dp rl (n + 1) _ _ _ t e
    | dct _ _ => simp [toDB] at e
    | exc _ _ => simp [toDB] at e
    | scr _ => simp [toDB] at e
def eqB (B : Bx) (a b : U) : Option Bool := match toDB B 8 a, toDB B 8 b with
  | some d, some e => if (SeqAt.shaped d && SeqAt.shaped e) = true then some (PyData.eqv d e) else none
  | _, _ => none
def gEqB (B : Bx) (a b : U) : Option R := (eqB B a b).map fun k => .w (.bl k)
def gNeB (B : Bx) (a b : U) : Option R := (eqB B a b).map fun k => .w (.bl (!k))
def Op2SB (X : Cy) (op : Value → Value → Sem Value) (g : Bx → U → U → Option R) : Prop :=
  ∃ r : R2, OpR X op r ∧ ∀ F ρ E B σ H u1 u2 v1 v2 r3 Q, Rel X.K F ρ E B σ H → Top X.K H (LvF F ρ E B σ) ρ u1 v1 → Top X.K H (LvF F ρ E B σ) ρ u2 v2 → g B u1 u2 = some r3 →
    (∀ H' v, Aft X.K F ρ E B σ H r3 ρ E B H' v → Q v H') → r v1 v2 H Q
def m2B (g : Bx → U → U → Option R) (fa fb : Ex) : Ex := fun E B =>
  (fa E B).bind fun r1 E1 B1 => (fb E1 B1).bind fun r2 E2 B2 =>
    match view r1 E2 B2, view r2 E2 B2 with
    | some u1, some u2 => match g B2 u1 u2 with
      | some r => .ok r E2 B2
      | none => .bad
    | _, _ => .bad
section
variable {X : Cy} {a b : Expr} {fa fb : Ex} {pos : Pos}
theorem op2B_eq (hu : X.A.units + 64 < cLine) : Op2SB X (compareOp .Eq) gEqB := by
  refine ⟨_, op_eqD hu, fun F ρ E B σ H u1 u2 v1 v2 r3 Q rl t1 t2 e q => ?_⟩
  simp only [gEqB, Option.map_eq_some_iff] at e
  obtain ⟨k, e, rfl⟩ := e
  have fin : Q (.bl k) H := q H _ (Aft.val rl (by simp [Rep]))
  unfold eqB at e
  split at e
  · next d d' e1 e2 =>
    split at e
    · next hs =>
      cases e
      simp only [Bool.and_eq_true] at hs
      exact ⟨d, d', toDB_top rl t1 e1, toDB_top rl t2 e2, hs.1, hs.2, fin⟩
    · cases e
  · cases e
theorem op2B_ne (hu : X.A.units + 64 < cLine) : Op2SB X (compareOp .NotEq) gNeB := by
  refine ⟨_, op_neD hu, fun F ρ E B σ H u1 u2 v1 v2 r3 Q rl t1 t2 e q => ?_⟩
  simp only [gNeB, Option.map_eq_some_iff] at e
  obtain ⟨k, e, rfl⟩ := e
  have fin : Q (.bl (!k)) H := q H _ (Aft.val rl (by simp [Rep]))
  unfold eqB at e
  split at e
  · next d d' e1 e2 =>
    split at e
    · next hs =>
      cases e
      simp only [Bool.and_eq_true] at hs
      exact ⟨d, d', toDB_top rl t1 e1, toDB_top rl t2 e2, hs.1, hs.2, fin⟩
    · cases e
  · cases e
theorem m2B_ok {g : Bx → U → U → Option R} {r : R2} {ta tb : TE}
    (ho : ∀ F ρ E B σ H u1 u2 v1 v2 r3 Q, Rel X.K F ρ E B σ H → Top X.K H (LvF F ρ E B σ) ρ u1 v1 → Top X.K H (LvF F ρ E B σ) ρ u2 v2 → g B u1 u2 = some r3 → (∀ H' v, Aft X.K F ρ E B σ H r3 ρ E B H' v → Q v H') → r v1 v2 H Q)
    (ha : ∀ F ρ E B σ H Q, Rel X.K F ρ E B σ H → PostE X.K X.q F ρ E B σ H (fa E B) Q → ta σ H Q) (hb : ∀ F ρ E B σ H Q, Rel X.K F ρ E B σ H → PostE X.K X.q F ρ E B σ H (fb E B) Q → tb σ H Q) :
    ∀ F ρ E B σ H Q, Rel X.K F ρ E B σ H → PostE X.K X.q F ρ E B σ H (m2B g fa fb E B) Q → tOp r ta tb σ H Q := by
  intro F ρ E B σ H Q rl h
  refine ha F ρ E B σ H _ rl ?_
  simp only [m2B] at h
  cases h1 : fa E B with
  | bad => rw [h1] at h; exact h
  | ex c E' B' => rw [h1] at h ; first | exact h | exact Aft.exq (by assumption) h | exact AftT.exq (by assumption) h | exact Aft.exq (by assumption) (Aft.exq (by assumption) h) | exact AftT.exq (by assumption) (Aft.exq (by assumption) h) | exact AftT.exq (AftA.t (by assumption)) h | exact ExQ.px h (Aft.px (by assumption)) | exact ExQ.px h (List.IsPrefix.trans (AftT.px (by assumption)) (Aft.px (by assumption))) | exact Aft.exq (by assumption) (AftT.exq (by assumption) h) | exact Aft.exq (by assumption) (Aft.exq (by assumption) (AftT.exq (by assumption) h))
  | ok r1 E1 B1 =>
    rw [h1] at h
    intro ρ1 H1 v1 A1
    refine hb _ ρ1 E1 B1 σ H1 _ A1.rel ?_
    simp only [O.bind_ok] at h
    cases h2 : fb E1 B1 with
    | bad => rw [h2] at h; exact h
    | ex c E' B' => rw [h2] at h ; first | exact h | exact Aft.exq (by assumption) h | exact AftT.exq (by assumption) h | exact Aft.exq (by assumption) (Aft.exq (by assumption) h) | exact AftT.exq (by assumption) (Aft.exq (by assumption) h) | exact AftT.exq (AftA.t (by assumption)) h | exact ExQ.px h (Aft.px (by assumption)) | exact ExQ.px h (List.IsPrefix.trans (AftT.px (by assumption)) (Aft.px (by assumption))) | exact Aft.exq (by assumption) (AftT.exq (by assumption) h) | exact Aft.exq (by assumption) (Aft.exq (by assumption) (AftT.exq (by assumption) h))
    | ok r2 E2 B2 =>
      rw [h2] at h
      simp only [O.bind_ok] at h
      intro ρ2 H2 v2 A2
      have A2' := A2.letgo
      have A1' := A1.carry A2'
      have T1 := A1'.letgo
      split at h
      · next u1 u2 e1 e2 =>
        split at h
        · next r3 eg =>
          have t1 := A1'.top e1
          have t2 : Top X.K H2 (LvF F ρ2 E2 B2 σ) ρ2 u2 v2 := (A2.top e2).mono (Stp.less fun q z => addR_lv z)
          exact ho F ρ2 E2 B2 σ H2 u1 u2 v1 v2 r3 Q T1.rel t1 t2 eg fun H' v A3 => h ρ2 H' v (T1.then A3)
        · exact h.elim
      · exact h.elim
theorem sndE_cmpB {op : CmpOp} {g : Bx → U → U → Option R} (ho : Op2SB X (compareOp op) g) (ha : SndE X a fa) (hb : SndE X b fb) (hm : behindInMarks op b = false := by first | rfl | exact nomark _) : SndE X (.Compare a [op] [b] pos) (m2B g fa fb) := by
  obtain ⟨r, hr, ho⟩ := ho
  obtain ⟨ta, pa, ha⟩ := ha
  obtain ⟨tb, pb, hb⟩ := hb
  exact ⟨_, pe_cmpR hr pa pb hm, m2B_ok ho ha hb⟩
theorem sndT_cmpB {op : CmpOp} {g : Bx → U → U → Option R} (ho : Op2SB X (compareOp op) g) (ha : SndE X a fa) (hb : SndE X b fb) (hm : behindInMarks op b = false := by first | rfl | exact nomark _) : SndT X (.Compare a [op] [b] pos) (toT (m2B g fa fb)) := by
  obtain ⟨r, hr, ho⟩ := ho
  obtain ⟨ta, pa, ha⟩ := ha
  obtain ⟨tb, pb, hb⟩ := hb
  exact ⟨_, pt_cmpR hr pa pb hm, toT_ok (m2B_ok ho ha hb)⟩
end
section
variable {E : En} {B : Bx} {f g : Ex}
@[simp] theorem e_m2B {h : Bx → U → U → Option R} : m2B h f g E B = (f E B).bind fun r1 E1 B1 => (g E1 B1).bind fun r2 E2 B2 =>
    match view r1 E2 B2, view r2 E2 B2 with
    | some u1, some u2 => match h B2 u1 u2 with
      | some r => .ok r E2 B2
      | none => .bad
    | _, _ => .bad := (rfl)
end
end QB
/-! QbS: enumerate(text, start=j); turned lists and texts; comprehensions with a deed in them. -/
namespace QB
open PySem L2 PyProof.Rows
theorem callTy_kw {M : Model} {A : Around} {E : Value → Shared → Prop} {s : Shared} {pos : Pos} {T : String} {ar : List (Bool × Sem Value)} {kw : List (Option Str × Sem Value)} {Q : Value → Shared → Prop}
    (h1 : ar.any (·.1) = false) (h2 : kw.any (·.1.isNone) = false) (h : wpAny M A (evalArgs (.type T) true ar kw) (fun z s1 => wpAny M A (call (.type T) z.pos z.kw) Q E s1) E s) : wpAny M A (callWith pos (.type T) [] ar kw) Q E s := by
  unfold callWith
  refine wpAny_bind (wpAny_holding (wpAny_mono h (fun z s1 q => wpAny_bind (wpAny_standAt ?_)) fun _ _ q => q))
  simp only [h1, h2, Bool.or_false]
  refine wpAny_bind (wpAny_pure (wpAny_bind (wpAny_mono q (fun r s2 q2 => ?_) fun _ _ q => q)))
  exact wpAny_bind (wpAny_holding (wpAny_point (wpAny_pure q2)))
/-- the signs of a text with their numbers, from j on, each in a new pair -/
def Itt (z : Str) (j : Int) : It :=
  ⟨fun i _ => i < z.cps.size, fun i H v H' => ∃ T c, v = .ref T ∧ H T = none ∧ z.cps[i]? = some c ∧ H' = upd H T (.tup [.int (j + (i : Nat)), .str ⟨#[c]⟩]), fun i _ => i = z.cps.size⟩
theorem turn_text {P : Program} {w : World} {K : PySem.W.Frag} {elts : List Expr} {kk : Nat} {tpos : Pos} (z : Str) (tok : Tok) (j : Int) (e it : Addr) :
    Turn P w K (.Tuple elts kk tpos) (Itt z j) [e, it] e (fun i h => (∃ old, IsEnum h e it (j + (i : Nat)) old) ∧ h.IsStrIter it (strIterType z) z tok i ∧ e ≠ it) where
  mem := List.mem_cons_self ..
  obj := fun i h ⟨⟨old, he⟩, ⟨o, ho, hc, hd⟩, _⟩ b hb => by
    rcases List.mem_cons.mp hb with y | y
    · subst y; exact ⟨_, he, fun v q => nomatch q⟩
    · rw [List.mem_singleton] at y; subst y; exact ⟨o, ho, fun v q => by rw [hd] at q; cases q⟩
  keep := fun i h h' ⟨⟨old, he⟩, ⟨o, ho, r⟩, hne⟩ k => ⟨⟨old, k e (List.mem_cons_self ..) _ he⟩, ⟨o, k it (by simp) o ho, r⟩, hne⟩
  item := by
    intro X hP hw hK hc i pins s σ H E I hf ⟨⟨old, he⟩, hit, hne⟩ hg
    subst hP hw hK
    have ea := Heap.lt_size he
    have ia : it < s.heap.objs.size := by obtain ⟨_, q, _⟩ := hit; exact Heap.lt_size q
    have D := Draws.text (prog := X.prog) (w := X.w) (A := X.A.in1) (I.ok.hd hc) it z tok
    refine wpAny_pyNext_enum_itemC D he hit hg hne (by simpa using hne) fun x h1 tk ⟨c, u, ec, ex⟩ ho hit1 hT hsz hk => ?_
    subst ex
    refine ⟨_, rfl, wpAny_letOwnedTupleGo_enum (s := { s with heap := h1, toks := tk + 1 }) ho fun h2 he2 sb => ?_⟩
    have T2 : h2.get? s.heap.objs.size = some { cls := .type "tuple", data := .seq #[.int (j + (i : Nat)) tk, .str ⟨#[c]⟩ u] } := (sb.2 _ (Nat.ne_of_gt ea)).trans hT
    have ob : ObjOk X.prog X.w (upd H s.heap.objs.size (.tup [.int (j + (i : Nat)), .str ⟨#[c]⟩])) h2 s.heap.objs.size (.tup [.int (j + (i : Nat)), .str ⟨#[c]⟩]) :=
      ⟨by show 2 ≤ sizeLine; decide, [.int (j + (i : Nat)) tk, .str ⟨#[c]⟩ u], .cons ⟨_, rfl⟩ (.cons ⟨_, rfl⟩ .nil), ⟨_, T2, rfl, _, rfl⟩⟩
    have I2 : Inv X pins σ (upd H s.heap.objs.size (.tup [.int (j + (i : Nat)), .str ⟨#[c]⟩])) { s with heap := h2, toks := tk + 1 } :=
      I.turnedNew (ch := [e, it]) (fun b o hb q => (sb.2 b (fun y => hb (by simp [y]))).trans (hk b o (fun y => hb (by simp [y])) (fun y => hb (by simp [y])) q)) hf (Nat.le_refl _) ob
    refine ⟨.ref s.heap.objs.size, _, I2, rfl, ⟨_, c, rfl, I.hok.fresh (Nat.le_refl _), ec, rfl⟩, ⟨⟨.str ⟨#[c]⟩ u, ?_⟩, ?_, hne⟩, fun b hb => ?_⟩
    · have e1 : j + ((i + 1 : Nat) : Int) = j + (i : Int) + 1 := by omega
      rw [e1]; exact he2
    · obtain ⟨o, q, r⟩ := hit1
      exact ⟨o, (sb.2 it (Ne.symm hne)).trans q, r⟩
    · have lt : b < s.heap.objs.size := by
        rcases List.mem_cons.mp hb with y | y
        · subst y; exact ea
        · rw [List.mem_singleton] at y; subst y; exact ia
      rw [upd_ne (Nat.ne_of_lt lt)]
      exact (hf b hb).1
  done := by
    intro X hP hw hK hc i pins s σ H E I hf ⟨⟨old, he⟩, hit, hne⟩ hg
    subst hP hw hK
    have D := Draws.text (prog := X.prog) (w := X.w) (A := X.A.in1) (I.ok.hd hc) it z tok
    obtain ⟨f0, f1, f2, f3, f4, f5⟩ := hf it (by simp)
    have hi : i = z.cps.size := hg
    subst hi
    exact wpAny_pyNext_enum_endD D he hit fun h1 eb => ⟨rfl, I.turned (t' := s.toks) (fun b o hb q => eb b o hb q) f0 f1 f3 f4 f5⟩
  self := fun A i s Q E ⟨⟨_, he⟩, _⟩ h => wpAny_pyIter_enum he h
def iText (ta tk : TA) (Bd : Str → Int → Prop) : TI := fun σ H R => ta σ H fun vs H1 => tk σ H1 fun zs H2 => ∃ z j, vs = [.str z] ∧ zs = [.int j] ∧ -(2 ^ 62) ≤ j ∧ j < 2 ^ 62 ∧ R (Itt z j) H2
section
variable {X : Cy} {a b : Expr} {fs gs : Ar} {pos p p2 tpos : Pos}
theorem pi_textFrom {ta tk : TA} {elts : List Expr} {kk : Nat} {kws : List Keyword} (hg : Gl X "enumerate") (hm : X.mg "enumerate" = none) (ha : PA X [a] ta) (hk : PK X kws tk) (hs : starEach [a] X.env = [(false, eval a X.env)] := by rfl)
    (hs2 : backTo pos (starEach [a] X.env) = (false, eval a X.env) :: backTo pos (starEach [] X.env) := by rfl) (h1 : (backTo pos (starEach [a] X.env)).any (·.1) = false := by rfl)
    (hall : (backToKw pos (keywordEach kws X.env)).all (·.1.isSome) = true := by rfl) (h2 : (backToKw pos (keywordEach kws X.env)).any (·.1.isNone) = false := by rfl) (hks : (backToKw pos (keywordEach kws X.env)).filterMap (·.1) = [Str.ofString "start"] := by rfl) :
    PI X (.Tuple elts kk tpos) (.Call (.Name "enumerate" p) [a] kws pos) (iText ta tk fun _ _ => True) := by
  refine ⟨fun pins s σ H R I h => ?_⟩
  refine wpAny_Call_Name_kw (ld_blt I hg hm boot_enumerate ?_)
  refine callTy_kw h1 h2 (evalArgs_kw2 hall (thn (ha.run pos pins s σ H _ I h) fun us s1 ⟨vs, H1, I1, r1, q1⟩ => thn (hk.run pos pins s1 σ H1 _ I1 q1) fun ws s2 ⟨zs, H2, I2, r2, q2⟩ => ?_) hs)
  rw [hks]
  obtain ⟨z, j, rfl, rfl, b1, b2, q⟩ := q2
  cases r1 with
  | cons r rr =>
    cases rr
    obtain ⟨t, rfl⟩ := r
    cases r2 with
    | cons r' rr' =>
      cases rr'
      obtain ⟨t', rfl⟩ := r'
      refine enum_begins_start (begins_text z t) trivial (by omega) (by omega) fun h' he hit hsz hkp => wpAny_pyIter_enum he ?_
      have I3 : Inv X pins σ H2 { s2 with heap := h' } := I2.kept (t' := s2.toks) hkp
      refine ⟨s2.heap.objs.size + 1, [s2.heap.objs.size + 1, s2.heap.objs.size], _, Itt z j, H2, rfl, I3, turn_text z t j (s2.heap.objs.size + 1) s2.heap.objs.size, ⟨⟨.none, ?_⟩, ⟨_, hit, rfl, rfl⟩, Nat.succ_ne_self _⟩, fun b hb => ?_, q⟩
      · have e0 : j + ((0 : Nat) : Int) = j := by omega
        rw [e0]; exact he
      · have lb : s2.heap.objs.size ≤ b := by
          rcases List.mem_cons.mp hb with y | y
          · subst y; exact Nat.le_succ _
          · rw [List.mem_singleton] at y; subst y; exact Nat.le_refl _
        exact I2.fpOk lb (I2.hok.fresh lb)
def textU (z : Str) (j : Int) : List U := z.cps.toList.mapIdx fun k c => .tup [.int (j + (k : Nat)), .str ⟨#[c]⟩]
theorem walkU_text {K : PySem.W.Frag} {z : Str} {j : Int} : WalkU K (Itt z j) (textU z j) yes (fun _ _ _ => True) := by
  have len : (textU z j).length = z.cps.size := by simp [textU]
  refine ⟨fun _ _ _ _ _ _ _ _ _ _ _ _ => trivial, fun H Lv ρ i _ hi => by rw [len] at hi; exact hi, fun H Lv ρ _ => len, fun H Lv ρ i u x H' _ hu hy hlv => ?_⟩
  obtain ⟨T, c, rfl, hT, hc, rfl⟩ := hy
  have gr : ∀ q o, H q = some o → (upd H T (.tup [.int (j + (i : Nat)), .str ⟨#[c]⟩])) q = some o := fun q o h => by rw [upd_ne (ne_of_none h hT)]; exact h
  refine ⟨gr, ?_⟩
  have e : u = .tup [.int (j + (i : Nat)), .str ⟨#[c]⟩] := by
    simp only [textU, List.getElem?_mapIdx, Option.map_eq_some_iff] at hu
    obtain ⟨d, h1, rfl⟩ := hu
    rw [Array.getElem?_toList, hc] at h1
    cases h1
    rfl
  subst e
  simp only [Rep]
  refine ⟨T, _, rfl, .inl ⟨.inl upd_same, fun z => ?_⟩, Reps.cons (by simp [Rep]) (Reps.one (by simp [Rep]))⟩
  obtain ⟨o, ho⟩ := hlv T z
  rw [hT] at ho
  cases ho
def mEnumT (fs gs : Ar) : Iv := fun E B => (fs E B).bind fun us E1 B1 => (gs E1 B1).bind fun ws E2 B2 =>
  match us, ws with
  | [.str z], [.int j] => if I62 j = true then .ok (textU z j, yes) E2 B2 else .bad
  | _, _ => .bad
theorem sndI_enumT {elts : List Expr} {kk : Nat} {kws : List Keyword} (hm : X.mg "enumerate" = none) (ha : SndA X [a] fs) (hk : SndK X kws gs) (hg : Gl X "enumerate" := by rfl) (hs : starEach [a] X.env = [(false, eval a X.env)] := by rfl)
    (hs2 : backTo pos (starEach [a] X.env) = (false, eval a X.env) :: backTo pos (starEach [] X.env) := by rfl) (h1 : (backTo pos (starEach [a] X.env)).any (·.1) = false := by rfl)
    (hall : (backToKw pos (keywordEach kws X.env)).all (·.1.isSome) = true := by rfl) (h2 : (backToKw pos (keywordEach kws X.env)).any (·.1.isNone) = false := by rfl) (hks : (backToKw pos (keywordEach kws X.env)).filterMap (·.1) = [Str.ofString "start"] := by rfl) :
    SndI X (.Tuple elts kk tpos) (.Call (.Name "enumerate" p) [a] kws pos) (mEnumT fs gs) := by
  obtain ⟨ta, pa, ha⟩ := ha
  obtain ⟨tk, pk, hk⟩ := hk
  refine ⟨_, pi_textFrom hg hm pa pk hs hs2 h1 hall h2 hks, fun F ρ E B σ H Rk rl q => ?_⟩
  refine ha F ρ E B σ H _ rl ?_
  simp only [mEnumT] at q
  cases h1 : fs E B with
  | bad => rw [h1] at q; exact q.elim
  | ex c E' B' => rw [h1] at q; exact q
  | ok us E1 B1 =>
    rw [h1] at q
    simp only [O.bind_ok] at q
    intro ρ1 H1 vs A1
    refine hk F ρ1 E1 B1 σ H1 _ A1.t.rel ?_
    cases h2 : gs E1 B1 with
    | bad => rw [h2] at q; exact q.elim
    | ex c E' B' => rw [h2] at q ; first | exact q | exact Aft.exq (by assumption) q | exact AftT.exq (by assumption) q | exact Aft.exq (by assumption) (Aft.exq (by assumption) q) | exact AftT.exq (by assumption) (Aft.exq (by assumption) q) | exact AftT.exq (AftA.t (by assumption)) q | exact ExQ.px q (Aft.px (by assumption)) | exact ExQ.px q (List.IsPrefix.trans (AftT.px (by assumption)) (Aft.px (by assumption))) | exact Aft.exq (by assumption) (AftT.exq (by assumption) q) | exact Aft.exq (by assumption) (Aft.exq (by assumption) (AftT.exq (by assumption) q))
    | ok ws E2 B2 =>
      rw [h2] at q
      simp only [O.bind_ok] at q
      intro ρ2 H2 zs A2
      have R1 := A1.reps
      have R2 := A2.reps
      revert q
      generalize hw : (match us, ws with | [.str z], [.int j] => if I62 j = true then O.ok (textU z j, yes) E2 B2 else .bad | _, _ => .bad) = oo
      intro q
      cases oo with
      | bad => exact q.elim
      | ex c E' B' => exact absurd hw (by (repeat' split) <;> (intro z; cases z))
      | ok w E' B' =>
        exact (by
          split at hw
          · next z j =>
            split at hw
            · next hj =>
              cases hw
              simp only [Reps, Rep] at R1 R2
              obtain ⟨v, r, rfl, rfl, rfl⟩ := R1
              obtain ⟨v2, r2, rfl, rfl, rfl⟩ := R2
              have b := i62_iff.mp hj
              exact ⟨z, j, rfl, rfl, b.1, b.2, q ρ2 H2 _ _ (A1.t.trans A2.t) walkU_text trivial trivial⟩
            · cases hw
          · cases hw)
end
/-- a list comprehension with a deed in it, by an invariant over what is left and what is gathered -/
theorem okP_lcGo {bd : Bd} {t : Te} {f : Ex} {ks : List Nat} (I : List U → List U → En → Bx → Prop) (step : ∀ u us acc E B, I (u :: us) acc E B → ∃ E1, bd u E = some E1 ∧ OkP (t E1 B) fun b E2 B2 =>
      if b = true then OkP (f E2 B2) fun r E3 B3 => ∃ y E4, settle r E3 = some (y, E4) ∧ acc.length < 16777216 ∧ I us (acc ++ [y]) (wipeE E4 ks) B3 else I us acc (wipeE E2 ks) B2) :
    ∀ us acc E B, I us acc E B → OkP (lcGo bd t f yes ks us acc E B) fun acc' E' B' => I [] acc' E' B'
  | [], acc, E, B, h => h
  | u :: us, acc, E, B, h => by
    obtain ⟨E1, e, q⟩ := step u us acc E B h
    unfold lcGo
    rw [e]
    refine OkP.bindN (q.mono fun b E2 B2 q2 => ?_)
    by_cases hb : b = true
    · rw [if_pos hb] at q2 ⊢
      refine OkP.bindN (q2.mono fun r E3 B3 ⟨y, E4, e4, hl, q3⟩ => ?_)
      rw [e4]
      simp only
      rw [if_pos hl]
      unfold goOnL
      rw [if_pos (show yes _ from trivial)]
      exact okP_lcGo I step us _ _ _ q3
    · rw [if_neg hb] at q2 ⊢
      unfold goOnL
      rw [if_pos (show yes _ from trivial)]
      exact okP_lcGo I step us _ _ _ q2
theorem okP_lc {fi : Iv} {bd : Bd} {t : Te} {f : Ex} {ks : List Nat} {us : List U} {E E1 : En} {B B1 : Bx} {Q : R → En → Bx → Prop} (hi : fi E B = .ok (us, yes) E1 B1) (hn : noOwn E1 ks = true) (I : List U → List U → En → Bx → Prop) (h : I us [] (wipeE E1 ks) B1)
    (step : ∀ u us acc E B, I (u :: us) acc E B → ∃ E1, bd u E = some E1 ∧ OkP (t E1 B) fun b E2 B2 =>
      if b = true then OkP (f E2 B2) fun r E3 B3 => ∃ y E4, settle r E3 = some (y, E4) ∧ acc.length < 16777216 ∧ I us (acc ++ [y]) (wipeE E4 ks) B3 else I us acc (wipeE E2 ks) B2)
    (last : ∀ acc E B, I [] acc E B → Q (.fr (.lst acc)) (keepE E1 E ks) B) : OkP (mLc fi bd t f ks E B) Q := by
  unfold mLc
  rw [hi]
  simp only [O.bind_ok]
  rw [if_pos hn]
  exact OkP.bind ((okP_lcGo I step us [] _ _ h).mono fun acc E2 B2 q => last acc E2 B2 q)
end QB
/-! QbT: texts and lists turned about. -/
namespace QB
open PySem L2 PyProof.Rows
def revS (z : Str) : Str := ⟨z.cps.toList.reverse.toArray⟩
theorem picked_back (z : Str) : (Builtin.Str.strSliceIndices none none (-1) z.length).filterMap (z.cps[·]?) = z.cps.toList.reverse := by
  rw [picked_rev, filterMap_get, List.map_map]
  · apply List.ext_getElem?
    intro i
    by_cases h : i < z.length
    · have h2 : i < z.cps.toList.length := by rw [Array.length_toList]; exact h
      rw [List.getElem?_map, List.getElem?_range h, List.getElem?_reverse h2]
      have h3 : z.length - 1 - i < z.cps.size := by show z.cps.size - 1 - i < z.cps.size; have : i < z.cps.size := h; omega
      simp only [Option.map_some, Function.comp, Array.length_toList]
      rw [Array.getD_eq_getD_getElem?, Array.getElem?_toList]
      show some ((z.cps[z.cps.size - 1 - i]?).getD 0) = z.cps[z.cps.size - 1 - i]?
      have h4 : z.cps.size - 1 - i < z.cps.size := h3
      rw [Array.getElem?_eq_getElem h4]; rfl
    · have h2 : ¬ i < z.cps.toList.length := by rw [Array.length_toList]; exact h
      rw [List.getElem?_eq_none (by simp; omega), List.getElem?_eq_none (by rw [List.length_reverse]; exact Nat.le_of_not_lt h2)]
  · intro i hi
    obtain ⟨k, hk, rfl⟩ := List.mem_map.mp hi
    have hk' : k < z.length := List.mem_range.mp hk
    show z.length - 1 - k < z.length
    omega
section
variable {X : Cy} {e : Expr} {te : TE} {k : Nat} {p1 p2 p3 pos : Pos}
def tRevS (te : TE) : TE := fun σ H Q => te σ H fun x H1 => ∃ z, x = .str z ∧ z.length ≤ sizeLine ∧ Q (.str (revS z)) H1
theorem pe_revS (he : PE X e te) : PE X (.Subscript e (.Slice none none (some (.UnaryOp .USub (.Constant (.int 1) k p1) p2)) p3) pos) (tRevS te) := by
  refine ⟨fun pins s σ H Q I h => Subscript_ (thn (he.run pins s σ H _ I h) fun v s1 ⟨x, H1, I1, r1, z, ex, hz, q⟩ => ?_)⟩
  subst ex
  obtain ⟨t, rfl⟩ := r1
  have st : PO X (some (.UnaryOp .USub (.Constant (.int 1) k p1) p2)) (tPart (tUn (rU fun i => .int (-i)) (tC (.int 1)))) := po_some (pe_un un_neg pe_int)
  refine wpAny_Slice (thn (po_none.run pins s1 σ H1 (fun o K2 => o = none ∧ K2 = H1) I1 ⟨rfl, rfl⟩) fun vl s2 ⟨l, H2, I2, pl, el, e2⟩ => thn (po_none.run pins s2 σ H2 (fun o K3 => o = none ∧ K3 = H2) I2 ⟨rfl, rfl⟩) fun vu s3 ⟨u, H3, I3, pu, eu, e3⟩ =>
    thn (st.run pins s3 σ H3 (fun o K4 => o = some (-1) ∧ K4 = H3) I3 ⟨1, rfl, -1, rfl, rfl, rfl⟩) fun vs s4 ⟨o, H4, I4, ps, eo, e4⟩ => ?_)
  subst el e2 eu e3 eo e4
  have I5 : Inv X pins σ H4 { s4 with heap := s4.heap.push { cls := .type "slice", data := .fields #[vl, vu, vs] } } := I4.kept (t' := s4.toks) fun b ob y => Heap.get?_push_of_some _ y
  obtain ⟨l', rfl, el⟩ := IsPart.raw pl
  obtain ⟨u', rfl, eu⟩ := IsPart.raw pu
  obtain ⟨w', rfl, ew⟩ := IsPart.raw ps
  show wpAny (model X.prog X.w) X.A (subscriptTail e (.Slice none none (some (.UnaryOp .USub (.Constant (.int 1) k p1) p2)) p3) (.str z t) (.ref s4.heap.objs.size)) (EP X pins σ Q) X.xe { s4 with heap := s4.heap.push { cls := .type "slice", data := .fields #[partValue l', partValue u', partValue w'] } }
  refine tail_any (ops := [.str z t, .ref s4.heap.objs.size]) (typeIs_str _ _ _) (PySem.F.slot_str_getitem.lookup) ?_ (by with_unfolding_all rfl)
  refine wpAny_getItem_str_slice (l := l') (u := u') (st := w') ⟨_, Heap.get?_push_size _ rfl, rfl, rfl⟩ (by rw [ew]; rfl) ?_
  show Made.post (if ((w'.map (·.1)).getD 1 == 1 && (Builtin.Str.strSliceIndices (l'.map (·.1)) (u'.map (·.1)) ((w'.map (·.1)).getD 1) z.length).length == z.length) = true then Made.val (.str z t)
    else Made.str ⟨((Builtin.Str.strSliceIndices (l'.map (·.1)) (u'.map (·.1)) ((w'.map (·.1)).getD 1) z.length).filterMap (z.cps[·]?)).toArray⟩) (EP X pins σ Q) _
  rw [el, eu, ew]
  have c : ¬ (((some (-1 : Int)).getD 1 == 1 && (Builtin.Str.strSliceIndices none none ((some (-1 : Int)).getD 1) z.length).length == z.length) = true) := by
    have : ((some (-1 : Int)).getD 1 == 1) = false := rfl
    rw [this]; simp
  rw [if_neg c]
  show Made.post (Made.str ⟨((Builtin.Str.strSliceIndices none none (-1) z.length).filterMap (z.cps[·]?)).toArray⟩) (EP X pins σ Q) _
  rw [picked_back]
  refine ⟨?_, .str _, _, I5.tok _, ⟨_, rfl⟩, q⟩
  show (revS z).length ≤ sizeLine
  have : (revS z).length = z.length := by simp [revS, Str.length]
  rw [this]; exact hz
def gRevA : U → Option R
  | .lst us => some (.fr (.lst us.reverse))
  | .str z => if z.length ≤ 16777216 then some (.w (.str (revS z))) else none
  | _ => none
def mRevA (fa : Ex) : Ex := m1 gRevA fa
theorem peOr {a : Expr} {t1 t2 : TE} (h1 : PE X a t1) (h2 : PE X a t2) : PE X a (fun σ H Q => t1 σ H Q ∨ t2 σ H Q) :=
  ⟨fun pins s σ H Q I h => h.elim (h1.run pins s σ H Q I) (h2.run pins s σ H Q I)⟩
def gRevL1 : U → Option R
  | .lst us => some (.fr (.lst us.reverse))
  | _ => none
def gRevS1 : U → Option R
  | .str z => if z.length ≤ 16777216 then some (.w (.str (revS z))) else none
  | _ => none
theorem sndE_revA {a : Expr} {fa : Ex} (ha : SndE X a fa) : SndE X (.Subscript a (.Slice none none (some (.UnaryOp .USub (.Constant (.int 1) k p1) p2)) p3) pos) (mRevA fa) := by
  obtain ⟨ta, pa, ha⟩ := ha
  refine ⟨_, peOr (pe_revL pa) (pe_revS pa), fun F ρ E B σ H Q rl q => ?_⟩
  have hL := m1_ok (g := gRevL1) (r := fun v H Q => ∃ a xs, v = .ref a ∧ SqL X.K H a xs ∧ ∀ p, H p = none → Q (.ref p) (upd H p (.lst xs.reverse))) (fun F ρ E B σ H u1 v1 r3 Q rl t e q => by
    cases u1 <;> simp only [gRevL1, reduceCtorEq, Option.some.injEq] at e
    next us =>
      subst e
      obtain ⟨p, vs, rfl, h1, h2⟩ := t
      exact ⟨p, vs, rfl, .inl (.inl h1), fun p' hp => q _ _ (Aft.fresh rl hp h2.reverse)⟩) ha F ρ E B σ H Q rl
  have hS := m1_ok (g := gRevS1) (r := fun v H Q => ∃ z, v = .str z ∧ z.length ≤ sizeLine ∧ Q (.str (revS z)) H) (fun F ρ E B σ H u1 v1 r3 Q rl t e q => by
    cases u1 <;> simp only [gRevS1, reduceCtorEq] at e
    next z =>
      split at e
      · next hz =>
        cases e
        exact ⟨z, top_str t, by rw [sizeLine_eq]; exact hz, q H _ (Aft.val rl (by simp [Rep]))⟩
      · cases e) ha F ρ E B σ H Q rl
  simp only [mRevA, m1] at q
  simp only [m1] at hL hS
  cases h1 : fa E B with
  | bad => rw [h1] at q; exact q.elim
  | ex c E' B' => rw [h1] at q hL; exact .inl (hL q)
  | ok r E1 B1 =>
    rw [h1] at q hL hS
    simp only [O.bind_ok] at q hL hS
    cases h2 : view r E1 B1 with
    | none => rw [h2] at q; exact q.elim
    | some u =>
      rw [h2] at q hL hS
      cases u with
      | lst us => exact .inl (hL q)
      | str z => exact .inr (hS q)
      | _ => exact q.elim
end
end QB
/-! QbU: stepping through bodies: locked continuations, loops and comprehensions over encoded lists, == by trees. -/
namespace QB
open PySem L2
/-- what follows, not to be looked into -/
def Then (g : Sm) (Q : Fl → En → Bx → Prop) : Fl → En → Bx → Prop := fun fl E B => match fl with | .nx => OkP (g E B) Q | fl => Q fl E B
theorem then_nx {g : Sm} {Q : Fl → En → Bx → Prop} {E : En} {B : Bx} (h : OkP (g E B) Q) : Then g Q .nx E B := h
theorem then_rt {g : Sm} {Q : Fl → En → Bx → Prop} {E : En} {B : Bx} {u : U} (h : Q (.rt u) E B) : Then g Q (.rt u) E B := h
theorem then_bk {g : Sm} {Q : Fl → En → Bx → Prop} {E : En} {B : Bx} (h : Q .bk E B) : Then g Q .bk E B := h
theorem then_ct {g : Sm} {Q : Fl → En → Bx → Prop} {E : En} {B : Bx} (h : Q .ct E B) : Then g Q .ct E B := h
theorem okP_seqT {f g : Sm} {E : En} {B : Bx} {Q : Fl → En → Bx → Prop} (h : OkP (f E B) (Then g Q)) : OkP (sSeq f g E B) Q :=
  okP_seq (h.mono fun fl E1 B1 q => by cases fl <;> exact q)
theorem okP_lock {α : Type} {o : O α} {Q : α → En → Bx → Prop} (h : ∀ LQ : α → En → Bx → Prop, (∀ a E B, Q a E B → LQ a E B) → OkP o LQ) : OkP o Q := h Q fun _ _ _ q => q
theorem okP_seqL {f g : Sm} {E : En} {B : Bx} {Q : Fl → En → Bx → Prop} (h : ∀ LQ : Fl → En → Bx → Prop, (∀ a E B, Then g Q a E B → LQ a E B) → OkP (f E B) LQ) : OkP (sSeq f g E B) Q := okP_seqT (okP_lock h)
theorem okP_ift {c : Te} {f g : Sm} {E E1 : En} {B B1 : Bx} {Q : Fl → En → Bx → Prop} (hc : c E B = .ok true E1 B1) (h : OkP (f E1 B1) Q) : OkP (sIf c f g E B) Q := by
  unfold sIf; rw [hc]; exact h
theorem okP_iff {c : Te} {f g : Sm} {E E1 : En} {B B1 : Bx} {Q : Fl → En → Bx → Prop} (hc : c E B = .ok false E1 B1) (h : OkP (g E1 B1) Q) : OkP (sIf c f g E B) Q := by
  unfold sIf; rw [hc]; exact h
theorem okP_ift0 {c : Te} {f g : Sm} {E : En} {B : Bx} {Q : Fl → En → Bx → Prop} (hc : c E B = .ok true E B) (h : OkP (f E B) Q) : OkP (sIf c f g E B) Q := okP_ift hc h
theorem okP_iff0 {c : Te} {f g : Sm} {E : En} {B : Bx} {Q : Fl → En → Bx → Prop} (hc : c E B = .ok false E B) (h : OkP (g E B) Q) : OkP (sIf c f g E B) Q := okP_iff hc h
/-- a test whose outcome is open -/
theorem okP_ifb {c : Te} {f g : Sm} {E E1 : En} {B B1 : Bx} {Q : Fl → En → Bx → Prop} {b : Bool} (hc : c E B = .ok b E1 B1) (h : b = true → OkP (f E1 B1) Q) (h2 : b = false → OkP (g E1 B1) Q) : OkP (sIf c f g E B) Q := by
  cases b
  · exact okP_iff hc (h2 rfl)
  · exact okP_ift hc (h rfl)
/-! ### what a def answers -/
def RetIs (u : U) (B1 : Bx) : Fl → En → Bx → Prop := fun fl _ B' => match fl with | .rt v => v = u ∧ B' = B1 | .nx => U.non = u ∧ B' = B1 | _ => False
theorem ret_is {u : U} {B : Bx} {E : En} : RetIs u B (.rt u) E B := ⟨rfl, rfl⟩
theorem ret_is' {u v : U} {B B' : Bx} {E : En} (h : v = u) (h2 : B' = B) : RetIs u B (.rt v) E B' := ⟨h, h2⟩
theorem ret_nx {B : Bx} {E : En} : RetIs .non B .nx E B := ⟨rfl, rfl⟩
theorem ret_nx' {B B' : Bx} {E : En} (h : B' = B) : RetIs .non B .nx E B' := ⟨rfl, h⟩
theorem run_is {N n : Nat} {f : Sm} {us : List U} {B B1 : Bx} {u : U} (hl : us.length = n) (h : OkP (f (us.map .val ++ List.replicate (N - us.length) .un) B) (RetIs u B1)) : runBody N n f us B = .ok u B1 := by
  obtain ⟨v, B', e, rfl, rfl⟩ := run_ok (N := N) (n := n) (f := f) (us := us) (B := B) (Q := fun v B' => v = u ∧ B' = B1) hl (h.mono fun fl E B' q => by cases fl <;> exact q)
  exact e
def RetP (Q : U → Bx → Prop) : Fl → En → Bx → Prop := fun fl _ B' => match fl with | .rt v => Q v B' | .nx => Q .non B' | _ => False
theorem ret_p {Q : U → Bx → Prop} {u : U} {B : Bx} {E : En} (h : Q u B) : RetP Q (.rt u) E B := h
theorem ret_pn {Q : U → Bx → Prop} {B : Bx} {E : En} (h : Q .non B) : RetP Q .nx E B := h
theorem run_p {N n : Nat} {f : Sm} {us : List U} {B : Bx} {Q : U → Bx → Prop} (hl : us.length = n) (h : OkP (f (us.map .val ++ List.replicate (N - us.length) .un) B) (RetP Q)) : ∃ u B1, runBody N n f us B = .ok u B1 ∧ Q u B1 :=
  run_ok hl (h.mono fun fl E B' q => by cases fl <;> exact q)
/-! ### loops over encoded lists -/
def LoopP (Q : Fl → En → Bx → Prop) (J : En → Bx → Prop) : Fl → En → Bx → Prop := fun fl E B => match fl with | .bk => Q .nx E B | .rt v => Q (.rt v) E B | _ => J E B
theorem loop_nx {Q : Fl → En → Bx → Prop} {J : En → Bx → Prop} {E : En} {B : Bx} (h : J E B) : LoopP Q J .nx E B := h
theorem loop_ct {Q : Fl → En → Bx → Prop} {J : En → Bx → Prop} {E : En} {B : Bx} (h : J E B) : LoopP Q J .ct E B := h
theorem loop_bk {Q : Fl → En → Bx → Prop} {J : En → Bx → Prop} {E : En} {B : Bx} (h : Q .nx E B) : LoopP Q J .bk E B := h
theorem loop_rt {Q : Fl → En → Bx → Prop} {J : En → Bx → Prop} {E : En} {B : Bx} {u : U} (h : Q (.rt u) E B) : LoopP Q J (.rt u) E B := h
def BdIs (o : Option En) (P : En → Prop) : Prop := match o with | some E => P E | none => False
@[simp] theorem bdIs_some {E : En} {P : En → Prop} : BdIs (some E) P = P E := rfl
theorem BdIs.get {o : Option En} {P : En → Prop} (h : BdIs o P) : ∃ E, o = some E ∧ P E := by
  cases o with
  | none => exact h.elim
  | some E => exact ⟨E, rfl, h⟩
theorem BdIs_of {o : Option En} {E : En} {P : En → Prop} (h : o = some E) (p : P E) : BdIs o P := by rw [h]; exact p
/-- a slot that holds nothing of its own -/
def Free (s : Sl) : Prop := s = .un ∨ ∃ u, s = .val u
theorem free_un : Free .un := .inl rfl
theorem free_val {u : U} : Free (.val u) := .inr ⟨u, rfl⟩
theorem bdN_free {k : Nat} {u : U} {E : En} {s : Sl} (h : E[k]? = some s) (f : Free s) : bdN k u E = some (E.set k (.val u)) := by
  rcases f with rfl | ⟨_, rfl⟩ <;> simp [h]
theorem atI_lastQ {α : Type} (l : List α) (a : α) : atI (l ++ [a]) (-1) = some a := by
  unfold atI ixN
  have e : (l ++ [a]).length = l.length + 1 := by simp
  rw [if_neg (by omega), e, if_pos (by omega), show ((-1 + ((l.length + 1 : Nat) : Int))).toNat = l.length from by omega]
  simp
@[simp] theorem lt_1 {a b : Nat} : ([a] < [b]) ↔ a < b := by
  rw [List.cons_lt_cons_iff]
  constructor
  · rintro (h | ⟨_, h⟩)
    · exact h
    · exact absurd h (List.lt_irrefl _)
  · exact .inl
theorem fil_true {α : Type} (l : List α) : l.filter (fun _ => true) = l := List.filter_eq_self.mpr (fun _ _ => rfl)
theorem intsU_cons {lo : Int} {n : Nat} : intsU lo (n + 1) = .int lo :: intsU (lo + 1) n := by
  unfold intsU
  rw [List.range_succ_eq_map]
  simp only [List.map_cons, List.map_map, List.cons.injEq]
  refine ⟨by simp, ?_⟩
  apply List.map_congr_left
  intro a _
  simp [Function.comp]
  omega
/-- the places of a range as an encoded list -/
theorem intsU_map (n : Nat) : intsU 0 n = (List.range n).map fun (k : Nat) => U.int (k : Int) := by
  unfold intsU
  apply List.map_congr_left
  intro a _
  simp
theorem intsU_map' (lo n : Nat) : intsU (lo : Int) n = (List.range' lo n).map fun (k : Nat) => U.int (k : Int) := by
  unfold intsU
  rw [List.range'_eq_map_range, List.map_map]
  apply List.map_congr_left
  intro a _
  simp
def Body (b : Sm) (B : Bx) (Q : Fl → En → Bx → Prop) (E : En) : Prop := OkP (b E B) Q
theorem body_go {b : Sm} {B : Bx} {Q : Fl → En → Bx → Prop} {E : En} (h : OkP (b E B) Q) : Body b B Q E := h
theorem okP_forM {α : Type} (enc : α → U) {fi : Iv} {bd : Bd} {b : Sm} {xs : List α} {E E1 : En} {B B1 : Bx} {Q : Fl → En → Bx → Prop} (hi : fi E B = .ok (xs.map enc, yes) E1 B1) (I : List α → En → Bx → Prop) (h : I xs E1 B1)
    (step : ∀ x r E B, I (x :: r) E B → BdIs (bd (enc x) E) (Body b B (LoopP Q (I r)))) (last : ∀ E B, I [] E B → Q .nx E B) : OkP (sFor fi bd b E B) Q := by
  refine okP_for hi (fun us E B => ∃ r, us = r.map enc ∧ I r E B) ⟨xs, rfl, h⟩ ?_ ?_
  · rintro u us E B ⟨r, e, hI⟩
    cases r with
    | nil => cases e
    | cons x r =>
      rw [List.map_cons, List.cons.injEq] at e
      obtain ⟨rfl, rfl⟩ := e
      obtain ⟨E2, e2, q⟩ := (step x r E B hI).get
      refine ⟨E2, e2, OkP.mono q fun fl E3 B3 q3 => ?_⟩
      cases fl with
      | nx => exact ⟨r, rfl, q3⟩
      | ct => exact ⟨r, rfl, q3⟩
      | bk => exact q3
      | rt v => exact q3
  · rintro E B ⟨r, e, hI⟩
    cases r with
    | nil => exact last E B hI
    | cons x r => cases e
def WhileP (Q : Fl → En → Bx → Prop) (I : Nat → En → Bx → Prop) (n : Nat) : Fl → En → Bx → Prop := fun fl E B => match fl with | .bk => Q .nx E B | .rt v => Q (.rt v) E B | _ => ∃ m, m < n ∧ I m E B
theorem while_nx {Q : Fl → En → Bx → Prop} {I : Nat → En → Bx → Prop} {n : Nat} {E : En} {B : Bx} (m : Nat) (hm : m < n) (h : I m E B) : WhileP Q I n .nx E B := ⟨m, hm, h⟩
theorem while_ct {Q : Fl → En → Bx → Prop} {I : Nat → En → Bx → Prop} {n : Nat} {E : En} {B : Bx} (m : Nat) (hm : m < n) (h : I m E B) : WhileP Q I n .ct E B := ⟨m, hm, h⟩
theorem while_bk {Q : Fl → En → Bx → Prop} {I : Nat → En → Bx → Prop} {n : Nat} {E : En} {B : Bx} (h : Q .nx E B) : WhileP Q I n .bk E B := h
theorem while_rt {Q : Fl → En → Bx → Prop} {I : Nat → En → Bx → Prop} {n : Nat} {E : En} {B : Bx} {u : U} (h : Q (.rt u) E B) : WhileP Q I n (.rt u) E B := h
theorem okP_whileM {c : Te} {b : Sm} {Q : Fl → En → Bx → Prop} (I : Nat → En → Bx → Prop)
    (step : ∀ n E B, I n E B → ∃ k E1 B1, c E B = .ok k E1 B1 ∧ (k = true → OkP (b E1 B1) (WhileP Q I n)) ∧ (k = false → Q .nx E1 B1)) {E : En} {B : Bx} {n : Nat} (h : I n E B) (hn : n < whileFuel) : OkP (sWhile c b E B) Q := by
  refine okP_while I (fun n E B hI => ?_) h hn
  obtain ⟨k, E1, B1, e, h1, h2⟩ := step n E B hI
  rw [e, OkP_ok]
  cases k with
  | false => rw [if_neg (by decide)]; exact h2 rfl
  | true =>
    rw [if_pos rfl]
    refine (h1 rfl).mono fun fl E2 B2 q => ?_
    cases fl <;> exact q
/-! ### comprehensions over encoded lists -/
def Elt (f : Ex) (B : Bx) (u : U) (E : En) : Prop := match f E B with
  | .ok r E1 B1 => settle r E1 = some (u, E) ∧ B1 = B
  | _ => False
def Tst (t : Te) (B : Bx) (b : Bool) (E : En) : Prop := t E B = .ok b E B
theorem keepE_self : ∀ (ks : List Nat) (E : En), keepE E E ks = E
  | [], E => rfl
  | k :: ks, E => by
    rw [e_keep1, keepE_self ks E]
    cases h : E[k]? with
    | none => rfl
    | some s =>
      obtain ⟨hl, e⟩ := List.getElem?_eq_some_iff.mp h
      simp only
      rw [← e, List.set_getElem_self]
theorem mLc_map {α : Type} (enc : α → U) (p : α → Bool) (y : α → U) {fi : Iv} {bd : Bd} {t : Te} {f : Ex} {ks : List Nat} {chk : Bx → Prop} {xs : List α} {E E1 : En} {B B1 : Bx} (hi : fi E B = .ok (xs.map enc, chk) E1 B1) (hc : chk B1) (hn : noOwn E1 ks = true) (hw : wipeE E1 ks = E1) (hl : xs.length ≤ 16777216)
    (h : ∀ x ∈ xs, BdIs (bd (enc x) E1) fun E2 => wipeE E2 ks = E1 ∧ Tst t B1 (p x) E2 ∧ (p x = true → Elt f B1 (y x) E2)) :
    mLc fi bd t f ks E B = .ok (.fr (.lst ((xs.filter p).map y))) E1 B1 := by
  have key : ∀ (xs : List α) (acc : List U), acc.length + xs.length ≤ 16777216 → (∀ x ∈ xs, BdIs (bd (enc x) E1) fun E2 => wipeE E2 ks = E1 ∧ Tst t B1 (p x) E2 ∧ (p x = true → Elt f B1 (y x) E2)) →
      lcGo bd t f chk ks (xs.map enc) acc E1 B1 = .ok (acc ++ (xs.filter p).map y) E1 B1 := by
    intro xs
    induction xs with
    | nil => intro acc _ _; simp [lcGo]
    | cons x xs ih =>
      intro acc hl h
      obtain ⟨E2, e1, e2, e3, e4⟩ := (h x (List.mem_cons_self ..)).get
      have hl' : acc.length + (xs.length + 1) ≤ 16777216 := hl
      rw [List.map_cons]
      unfold lcGo
      rw [e1]
      unfold Tst at e3
      simp only [e3, O.bindN_ok]
      by_cases hp : p x = true
      · have e5 := e4 hp
        unfold Elt at e5
        rw [if_pos hp]
        cases h1 : f E2 B1 with
        | bad => rw [h1] at e5; exact e5.elim
        | ex _ _ _ => rw [h1] at e5; exact e5.elim
        | ok r E3 B3 =>
          rw [h1] at e5
          obtain ⟨e6, rfl⟩ := e5
          simp only [O.bindN_ok, e6]
          rw [if_pos (by omega), e2]
          unfold goOnL
          rw [if_pos hc, ih (acc ++ [y x]) (by simp; omega) (fun v hv => h v (List.mem_cons_of_mem _ hv))]
          simp [hp]
      · rw [if_neg hp, e2]
        unfold goOnL
        rw [if_pos hc, ih acc (by omega) (fun v hv => h v (List.mem_cons_of_mem _ hv))]
        simp [hp]
  unfold mLc
  rw [hi]
  simp only [O.bind_ok]
  rw [if_pos hn, hw, key xs [] (by simpa using hl) h, O.bind_ok, keepE_self]
  simp
def LcP (Q : R → En → Bx → Prop) : R → En → Bx → Prop := Q
/-- a comprehension whose elements are drawn: an invariant of what is gathered -/
theorem okP_lcM {α : Type} (enc : α → U) {fi : Iv} {bd : Bd} {f : Ex} {ks : List Nat} {xs : List α} {E E1 : En} {B B1 : Bx} {Q : R → En → Bx → Prop} (hi : fi E B = .ok (xs.map enc, yes) E1 B1) (hn : noOwn E1 ks = true) (hw : wipeE E1 ks = E1) (hl : xs.length ≤ 16777216) (I : List α → List U → Bx → Prop) (h : I xs [] B1)
    (step : ∀ x r acc B, I (x :: r) acc B → BdIs (bd (enc x) E1) fun E2 => wipeE E2 ks = E1 ∧ ∃ w u B3, f E2 B = .ok w E2 B3 ∧ settle w E2 = some (u, E2) ∧ I r (acc ++ [u]) B3)
    (last : ∀ acc B, I [] acc B → Q (.fr (.lst acc)) E1 B) : OkP (mLc fi bd mYes f ks E B) Q := by
  refine okP_lc hi hn (fun us acc E B => ∃ r, us = r.map enc ∧ acc.length + r.length ≤ 16777216 ∧ E = E1 ∧ I r acc B) ⟨xs, rfl, by simpa using hl, hw, h⟩ ?_ ?_
  · rintro u us acc E B ⟨r, e, hl, rfl, hI⟩
    cases r with
    | nil => cases e
    | cons x r =>
      rw [List.map_cons, List.cons.injEq] at e
      obtain ⟨rfl, rfl⟩ := e
      rw [List.length_cons] at hl
      obtain ⟨E2, e2, q1, w, u, B3, q2, q3, q4⟩ := (step x r acc B hI).get
      refine ⟨E2, e2, ?_⟩
      rw [e_mYes, OkP_ok, if_pos rfl, q2, OkP_ok]
      exact ⟨u, E2, q3, by omega, r, rfl, by simp; omega, q1, q4⟩
  · rintro acc E B ⟨r, e, hl, rfl, hI⟩
    cases r with
    | nil => rw [keepE_self]; exact last acc B hI
    | cons x r => cases e
/-! ### == by trees -/
mutual
def eqT : U → U → Bool
  | .non, .non => true
  | .bl a, .bl b => a == b
  | .bl a, .int j => (if a then 1 else 0) == j
  | .int i, .bl b => i == (if b then 1 else 0)
  | .int i, .int j => i == j
  | .str x, .str y => x == y
  | .lst xs, .lst ys => eqTs xs ys
  | .tup xs, .tup ys => eqTs xs ys
  | _, _ => false
def eqTs : List U → List U → Bool
  | [], [] => true
  | x :: xs, y :: ys => eqT x y && eqTs xs ys
  | _, _ => false
end
def okS (x : Str) : Bool := PyData.canLay0 (.str x)
/-- a tree without dicts and boxes at most n deep -/
def Flt : Nat → U → Prop
  | 0, _ => False
  | n + 1, u => match u with
    | .non | .bl _ | .int _ => True
    | .str x => okS x = true
    | .lst us => ∀ v ∈ us, Flt n v
    | .tup us => ∀ v ∈ us, Flt n v
    | _ => False
theorem flt_toD : ∀ (n : Nat) (u : U), Flt n u → ∃ d, toD u = some d ∧ d.canLay0 = true ∧ d.depth ≤ n
  | 0, _, h => h.elim
  | n + 1, u, h => by
    have many : ∀ us : List U, (∀ v ∈ us, Flt n v) → ∃ ds, toDs us = some ds ∧ PyData.canLayAll0 ds = true ∧ PyData.depthAll ds ≤ n := by
      intro us
      induction us with
      | nil => intro _; exact ⟨[], rfl, rfl, by simp [PyData.depthAll]⟩
      | cons v us ih =>
        intro h
        obtain ⟨ds, e1, e2, e3⟩ := ih fun w hw => h w (List.mem_cons_of_mem _ hw)
        obtain ⟨d, f1, f2, f3⟩ := flt_toD n v (h v (List.mem_cons_self ..))
        refine ⟨d :: ds, by simp [toDs, f1, e1], by simp [PyData.canLayAll0, f2, e2], by simp only [PyData.depthAll]; omega⟩
    cases u with
    | non => exact ⟨_, rfl, rfl, by simp [PyData.depth]⟩
    | bl b => exact ⟨_, rfl, rfl, by simp [PyData.depth]⟩
    | int i => exact ⟨_, rfl, rfl, by simp [PyData.depth]⟩
    | str x => exact ⟨_, rfl, h, by simp [PyData.depth]⟩
    | lst us => obtain ⟨ds, e1, e2, e3⟩ := many us h; exact ⟨.list ds, by simp [toD, e1], by simpa [PyData.canLay0] using e2, by simp only [PyData.depth]; omega⟩
    | tup us => obtain ⟨ds, e1, e2, e3⟩ := many us h; exact ⟨.tuple ds, by simp [toD, e1], by simpa [PyData.canLay0] using e2, by simp only [PyData.depth]; omega⟩
    | dct _ _ => exact h.elim
    | box _ => exact h.elim
    | exc _ _ => exact h.elim
    | scr _ => exact h.elim
theorem eqv_eqT : ∀ (n : Nat) (u v : U) (d e : PyData), Flt n u → toD u = some d → toD v = some e → (∀ ns, v ≠ .scr ns) → Flt n v → PyData.eqv d e = eqT u v
  | 0, _, _, _, _, h, _, _, _, _ => h.elim
  | n + 1, u, v, d, e, hu, hd, he, hs, hv => by
    have many : ∀ (us vs : List U) (ds es : List PyData), (∀ w ∈ us, Flt n w) → (∀ w ∈ vs, Flt n w) → toDs us = some ds → toDs vs = some es → PyData.eqvAll ds es = eqTs us vs := by
      intro us
      induction us with
      | nil =>
        intro vs ds es _ _ h1 h2
        cases h1
        cases vs with
        | nil => cases h2; rfl
        | cons v vs =>
          simp only [toDs] at h2
          split at h2
          · cases h2; rfl
          · cases h2
      | cons u us ih =>
        intro vs ds es hu hv h1 h2
        simp only [toDs] at h1
        split at h1
        · next d ds' a1 a2 =>
          cases h1
          cases vs with
          | nil => cases h2; rfl
          | cons v vs =>
            simp only [toDs] at h2
            split at h2
            · next e es' b1 b2 =>
              cases h2
              rw [PyData.eqvAll, eqTs, ih vs ds' es' (fun w hw => hu w (List.mem_cons_of_mem _ hw)) (fun w hw => hv w (List.mem_cons_of_mem _ hw)) a2 b2,
                eqv_eqT n u v d e (hu u (List.mem_cons_self ..)) a1 b1 (fun ns z => by
                  have := hv v (List.mem_cons_self ..)
                  rw [z] at this
                  cases n <;> exact this) (hv v (List.mem_cons_self ..))]
            · cases h2
        · cases h1
    cases u with
    | dct _ _ => exact hu.elim
    | box _ => exact hu.elim
    | exc _ _ => exact hu.elim
    | scr _ => exact hu.elim
    | lst us =>
      simp only [toD, Option.map_eq_some_iff] at hd
      obtain ⟨ds, a1, rfl⟩ := hd
      cases v with
      | lst vs =>
        simp only [toD, Option.map_eq_some_iff] at he
        obtain ⟨es, b1, rfl⟩ := he
        rw [PyData.eqv, eqT]
        exact many us vs ds es hu hv a1 b1
      | tup vs => simp only [toD, Option.map_eq_some_iff] at he; obtain ⟨es, b1, rfl⟩ := he; rfl
      | non => cases he; rfl
      | bl _ => cases he; rfl
      | int _ => cases he; rfl
      | str _ => cases he; rfl
      | dct _ _ => exact hv.elim
      | box _ => exact hv.elim
      | exc _ _ => exact hv.elim
      | scr ns => exact absurd rfl (hs ns)
    | tup us =>
      simp only [toD, Option.map_eq_some_iff] at hd
      obtain ⟨ds, a1, rfl⟩ := hd
      cases v with
      | tup vs =>
        simp only [toD, Option.map_eq_some_iff] at he
        obtain ⟨es, b1, rfl⟩ := he
        rw [PyData.eqv, eqT]
        exact many us vs ds es hu hv a1 b1
      | lst vs => simp only [toD, Option.map_eq_some_iff] at he; obtain ⟨es, b1, rfl⟩ := he; rfl
      | non => cases he; rfl
      | bl _ => cases he; rfl
      | int _ => cases he; rfl
      | str _ => cases he; rfl
      | dct _ _ => exact hv.elim
      | box _ => exact hv.elim
      | exc _ _ => exact hv.elim
      | scr ns => exact absurd rfl (hs ns)
    | non => cases hd; cases v <;> first | (exact absurd rfl (hs _)) | exact hv.elim | (cases he; rfl) | (simp only [toD, Option.map_eq_some_iff] at he; obtain ⟨es, b1, rfl⟩ := he; rfl)
    | bl _ => cases hd; cases v <;> first | (exact absurd rfl (hs _)) | exact hv.elim | (cases he; rfl) | (simp only [toD, Option.map_eq_some_iff] at he; obtain ⟨es, b1, rfl⟩ := he; rfl)
    | int _ => cases hd; cases v <;> first | (exact absurd rfl (hs _)) | exact hv.elim | (cases he; rfl) | (simp only [toD, Option.map_eq_some_iff] at he; obtain ⟨es, b1, rfl⟩ := he; rfl)
    | str _ => cases hd; cases v <;> first | (exact absurd rfl (hs _)) | exact hv.elim | (cases he; rfl) | (simp only [toD, Option.map_eq_some_iff] at he; obtain ⟨es, b1, rfl⟩ := he; rfl)
theorem flt_scr {n : Nat} {v : U} (h : Flt n v) : ∀ ns, v ≠ .scr ns := fun ns z => by subst z; cases n <;> exact h
theorem eqU_flt {n : Nat} {u v : U} (hn : n ≤ 64) (hu : Flt n u) (hv : Flt n v) : eqU u v = some (eqT u v) := by
  obtain ⟨d, a1, a2, a3⟩ := flt_toD n u hu
  obtain ⟨e, b1, b2, b3⟩ := flt_toD n v hv
  have k := eqv_eqT n u v d e hu a1 b1 (flt_scr hv) hv
  have main : (match toD u, toD v with
    | some d, some e => if (SeqAt.shaped d && SeqAt.shaped e) = true then some (PyData.eqv d e) else none
    | _, _ => none) = some (eqT u v) := by
    rw [a1, b1]
    have s1 : SeqAt.shaped d = true := by unfold SeqAt.shaped; rw [a2, decide_eq_true (show d.depth ≤ 64 by omega)]; rfl
    have s2 : SeqAt.shaped e = true := by unfold SeqAt.shaped; rw [b2, decide_eq_true (show e.depth ≤ 64 by omega)]; rfl
    simp only [s1, s2, Bool.and_self, if_true, k]
  cases u <;> cases v <;> first | exact main | (simp [eqT, eqU])
end QB
/-! QbV: small facts: cells at the end of the row, last places, texts and lists as encoded lists. -/
namespace QB
open PySem L2
@[simp] theorem app_getQ {B0 : Bx} {c : Cell} {r : Bx} : (B0 ++ c :: r)[B0.length]? = some c := by simp
@[simp] theorem app_setQ {B0 : Bx} {c d : Cell} {r : Bx} : (B0 ++ c :: r).set B0.length d = B0 ++ d :: r := by simp [List.set_append]
theorem atI_neg1 {α : Type} (l : List α) : atI l (-1) = l.getLast? := by
  rcases List.eq_nil_or_concat l with rfl | ⟨m, a, rfl⟩
  · rfl
  · rw [List.concat_eq_append, atI_lastQ]; simp
def chr (c : Nat) : U := .str (ofC [c])
def nat (k : Nat) : U := .int (k : Int)
theorem nat_eq (k : Nat) : nat k = .int (k : Int) := rfl
theorem chr_eq (c : Nat) : chr c = .str (ofC [c]) := rfl
@[simp] theorem vu_chr {c : Nat} {B : Bx} : viewU (chr c) B = some (chr c) := rfl
@[simp] theorem vu_nat {c : Nat} {B : Bx} : viewU (nat c) B = some (nat c) := rfl
theorem enumQ {α : Type} (enc : α → U) (es : List α) (i : Nat) : ((es.map enc).mapIdx fun k u => U.tup [.int ((k + i : Nat) : Int), u]) = (es.zipIdx i).map fun p => U.tup [.int (p.2 : Int), enc p.1] := by
  induction es generalizing i with
  | nil => rfl
  | cons e es ih =>
    rw [List.map_cons, List.mapIdx_cons, List.zipIdx_cons, List.map_cons, ← ih (i + 1)]
    simp [Function.comp_def, Nat.add_assoc, Nat.add_comm 1 i]
theorem enumQ0 {α : Type} (enc : α → U) (es : List α) : ((es.map enc).mapIdx fun k u => U.tup [.int ((k : Nat) : Int), u]) = (es.zipIdx 0).map fun p => U.tup [.int (p.2 : Int), enc p.1] := enumQ enc es 0
theorem textU_map (l : List Nat) (j : Nat) : textU (ofC l) (j : Int) = (l.zipIdx j).map fun p => U.tup [.int (p.2 : Int), chr p.1] := by
  rw [← enumQ chr l j]
  unfold textU
  simp only [ofC_cps, mk1_ofC]
  apply List.ext_getElem?
  intro i
  simp only [List.getElem?_mapIdx, List.getElem?_map]
  cases l[i]? with
  | none => rfl
  | some c => simp [chr]; omega
@[simp] theorem e_mEnumT {fs gs : Ar} {E : En} {B : Bx} : mEnumT fs gs E B = (fs E B).bind fun us E1 B1 => (gs E1 B1).bind fun ws E2 B2 =>
  match us, ws with
  | [.str z], [.int j] => if I62 j = true then .ok (textU z j, yes) E2 B2 else .bad
  | _, _ => .bad := (rfl)
end QB
/-! QbW: the same of two trees, and a tree of one's own, as many laws write them. -/
namespace QB
open PySem L2
noncomputable def sameB (g : Fn) : Sm := sSeq (sIf (mTru (m1 (gIsiT ["list", "tuple"]) (mVar 1))) (sSeq (sIf (mOr (toT (m2 gNe (m1 (gIsi "list") (mVar 1)) (m1 (gIsi "list") (mVar 0)))) (toT (m2 gNe (m1 (gIsi "tuple") (mVar 1)) (m1 (gIsi "tuple") (mVar 0))))) (sRet (mC (.bl false))) (sNext)) (sRet (mAndV (m2 gEq (m1 gLen (mVar 0)) (m1 gLen (mVar 1))) (m1 gAll (mLc (mRange1 (mCons (m1 gLen (mVar 1)) (mNil))) (bdN 2) (mYes) (mCall g (mCons (m2 gIx (mVar 0) (mVar 2)) (mCons (m2 gIx (mVar 1) (mVar 2)) (mNil)))) [2]))))) (sNext)) (sSeq (sIf (toT (m2 (gIs false) (mVar 1) (mC .non))) (sRet (m2 (gIs false) (mVar 0) (mC .non))) (sNext)) (sSeq (sIf (mTru (m1 (gIsi "int") (mVar 1))) (sRet (mAndV (m1 (gIsi "int") (mVar 0)) (mAndV (m2 gEq (m1 (gIsi "bool") (mVar 0)) (m1 (gIsi "bool") (mVar 1))) (m2 gEq (mVar 0) (mVar 1))))) (sNext)) (sRet (mAndV (m1 (gIsi "str") (mVar 0)) (m2 gEq (mVar 0) (mVar 1))))))
noncomputable def sameF : Nat → Fn
  | 0 => fun _ _ => .bad
  | n + 1 => runBody 3 2 (sameB (sameF n))
noncomputable def ownB (g : Fn) : Sm := sSeq (sIf (mTru (m1 (gIsi "list") (mVar 0))) (sRet (mLc (mItV (mVar 0)) (bdN 1) (mYes) (mCall g (mCons (mVar 1) (mNil))) [1])) (sNext)) (sSeq (sIf (mTru (m1 (gIsi "tuple") (mVar 0))) (sRet (m1 gTupleOf (mLc (mItV (mVar 0)) (bdN 1) (mYes) (mCall g (mCons (mVar 1) (mNil))) [1]))) (sNext)) (sRet (mVar 0)))
noncomputable def ownF : Nat → Fn
  | 0 => fun _ _ => .bad
  | n + 1 => runBody 2 1 (ownB (ownF n))
/-- a tree at most n deep, without dicts and shared cells, of texts that may be laid -/
def Wf : Nat → U → Prop
  | 0, _ => False
  | n + 1, u => match u with
    | .non | .bl _ | .int _ => True
    | .str x => okS x = true
    | .lst us => us.length ≤ 20000 ∧ ∀ v ∈ us, Wf n v
    | .tup us => us.length ≤ 20000 ∧ ∀ v ∈ us, Wf n v
    | _ => False
theorem Wf.flt : ∀ {n : Nat} {u : U}, Wf n u → Flt n u
  | 0, _, h => h.elim
  | n + 1, u, h => by
    cases u with
    | non => trivial
    | bl _ => trivial
    | int _ => trivial
    | str _ => exact h
    | lst us => exact fun v hv => (h.2 v hv).flt
    | tup us => exact fun v hv => (h.2 v hv).flt
    | dct _ _ => exact h.elim
    | box _ => exact h.elim
    | exc _ _ => exact h.elim
    | scr _ => exact h.elim
theorem Wf.mono : ∀ {n m : Nat} {u : U}, Wf n u → n ≤ m → Wf m u
  | 0, _, _, h, _ => h.elim
  | n + 1, 0, _, _, hm => by omega
  | n + 1, m + 1, u, h, hm => by
    cases u with
    | non => trivial
    | bl _ => trivial
    | int _ => trivial
    | str _ => exact h
    | lst us => exact ⟨h.1, fun v hv => (h.2 v hv).mono (by omega)⟩
    | tup us => exact ⟨h.1, fun v hv => (h.2 v hv).mono (by omega)⟩
    | dct _ _ => exact h.elim
    | box _ => exact h.elim
    | exc _ _ => exact h.elim
    | scr _ => exact h.elim
def SmT (B : Bx) : Nat → U → U → Prop
  | 0, _, _ => False
  | n + 1, u, d => (∃ x, u = .str x ∧ d = .str x) ∨ (∃ b, u = .bl b ∧ d = .bl b) ∨ (∃ i, u = .int i ∧ d = .int i) ∨ (u = .non ∧ d = .non) ∨
    (∃ us ds, viewU u B = some (.lst us) ∧ d = .lst ds ∧ us.length = ds.length ∧ us.length ≤ 20000 ∧ ∀ (i : Nat) (a b : U), us[i]? = some a → ds[i]? = some b → SmT B n a b) ∨
    (∃ us ds, u = .tup us ∧ d = .tup ds ∧ us.length = ds.length ∧ us.length ≤ 20000 ∧ ∀ (i : Nat) (a b : U), us[i]? = some a → ds[i]? = some b → SmT B n a b)
theorem Wf.sm {B : Bx} : ∀ {n : Nat} {u : U}, Wf n u → SmT B n u u
  | 0, _, h => h.elim
  | n + 1, u, h => by
    cases u with
    | non => exact .inr (.inr (.inr (.inl ⟨rfl, rfl⟩)))
    | bl b => exact .inr (.inl ⟨b, rfl, rfl⟩)
    | int i => exact .inr (.inr (.inl ⟨i, rfl, rfl⟩))
    | str x => exact .inl ⟨x, rfl, rfl⟩
    | lst us => exact .inr (.inr (.inr (.inr (.inl ⟨us, us, rfl, rfl, rfl, h.1, fun i a b ha hb => by
        rw [ha] at hb; cases hb; exact (h.2 a (List.mem_of_getElem? ha)).sm⟩))))
    | tup us => exact .inr (.inr (.inr (.inr (.inr ⟨us, us, rfl, rfl, rfl, h.1, fun i a b ha hb => by
        rw [ha] at hb; cases hb; exact (h.2 a (List.mem_of_getElem? ha)).sm⟩))))
    | dct _ _ => exact h.elim
    | box _ => exact h.elim
    | exc _ _ => exact h.elim
    | scr _ => exact h.elim
theorem Wf.smB {B : Bx} {n j : Nat} {us : List U} (h : Wf n (.lst us)) (hj : B[j]? = some (.lst us)) : SmT B n (.box j) (.lst us) := by
  cases n with
  | zero => exact h.elim
  | succ n =>
    exact .inr (.inr (.inr (.inr (.inl ⟨us, us, by simp [hj], rfl, rfl, h.1, fun i a b ha hb => by
        rw [ha] at hb; cases hb; exact (h.2 a (List.mem_of_getElem? ha)).sm⟩))))
theorem same_lc {g : Fn} {B : Bx} {u d : U} {us ds : List U} (hu : viewU u B = some (.lst us) ∨ u = .tup us) (hd : d = .lst ds ∨ d = .tup ds) (hl : us.length = ds.length) (hl2 : us.length ≤ 20000)
    (h : ∀ (i : Nat) (a b : U), us[i]? = some a → ds[i]? = some b → g [a, b] B = .ok (.bl true) B) :
    (mLc (mRange1 (mCons (m1 gLen (mVar 1)) (mNil))) (bdN 2) (mYes) (mCall g (mCons (m2 gIx (mVar 0) (mVar 2)) (mCons (m2 gIx (mVar 1) (mVar 2)) (mNil)))) [2]) [.val u, .val d, .un] B = .ok (.fr (.lst ((List.range ds.length).map fun _ => .bl true))) [.val u, .val d, .un] B := by
  have i1 : I62 (ds.length : Int) = true := i62 (by omega) (by omega)
  have lc := mLc_map nat (fun _ => true) (fun _ => .bl true) (fi := mRange1 (mCons (m1 gLen (mVar 1)) (mNil))) (bd := bdN 2) (t := mYes) (f := mCall g (mCons (m2 gIx (mVar 0) (mVar 2)) (mCons (m2 gIx (mVar 1) (mVar 2)) (mNil)))) (ks := [2]) (xs := List.range ds.length) (E := [.val u, .val d, .un]) (B := B) (E1 := [.val u, .val d, .un]) (B1 := B) (chk := yes)
    (by rcases hd with rfl | rfl <;> simp [i1, intsU_map, nat]) trivial (by simp) (by simp) (by simp; omega) (fun k hk => by
      have hk := List.mem_range.mp hk
      have hk' : k < us.length := by omega
      have g1 := h k us[k] ds[k] (List.getElem?_eq_getElem _) (List.getElem?_eq_getElem _)
      rcases hu with hu | rfl <;> rcases hd with rfl | rfl <;> simp [Tst, Elt, nat, *])
  rw [fil_true] at lc
  exact lc
theorem same_an (n : Nat) : gAll (.lst ((List.range n).map fun _ => .bl true)) = some (.w (.bl true)) := by
  have an := e_all' (l := List.range n) (p := fun _ => true)
  rw [an]; simp
theorem same_ok {B : Bx} : ∀ (n : Nat) (u d : U), SmT B n u d → sameF n [u, d] B = .ok (.bl true) B
  | 0, _, _, h => h.elim
  | n + 1, u, d, h => by
    rcases h with ⟨x, rfl, rfl⟩ | ⟨b, rfl, rfl⟩ | ⟨i, rfl, rfl⟩ | ⟨rfl, rfl⟩ | ⟨us, ds, h1, rfl, h3, h4, h5⟩ | ⟨us, ds, rfl, rfl, h3, h4, h5⟩
    · simp [sameF, runBody, sameB]
    · simp [sameF, runBody, sameB]
    · simp [sameF, runBody, sameB]
    · simp [sameF, runBody, sameB]
    · have lc := same_lc (g := sameF n) (.inl h1) (.inl rfl) h3 h4 fun i a b ha hb => same_ok n a b (h5 i a b ha hb)
      have e3 : ((us.length : Int) == (ds.length : Int)) = true := by rw [beq_iff_eq]; omega
      simp only [sameF]
      refine run_is rfl ?_
      simp only [sameB, List.map_cons, List.map_nil, List.length_cons, List.length_nil, Nat.reduceAdd, Nat.reduceSub, List.replicate_succ, List.replicate_zero, List.cons_append, List.nil_append, Nat.zero_add, Nat.sub_self, List.append_nil]
      refine okP_seqT ?_
      refine okP_ift0 (by simp; done) ?_
      refine okP_seqT ?_
      refine okP_lock fun LQ hLQ => ?_
      simp [h1]
      refine hLQ _ _ _ (then_nx ?_)
      refine okP_lock fun LQ hLQ => ?_
      simp [h1, e3, lc, same_an]
      first | exact hLQ _ _ _ (then_rt ret_is) | exact hLQ _ _ _ (then_rt (ret_is' (by simp [h1, e3, lc, same_an]) rfl))
    · have lc := same_lc (g := sameF n) (B := B) (.inr rfl) (.inr rfl) h3 h4 fun i a b ha hb => same_ok n a b (h5 i a b ha hb)
      have e3 : ((us.length : Int) == (ds.length : Int)) = true := by rw [beq_iff_eq]; omega
      simp only [sameF]
      refine run_is rfl ?_
      simp only [sameB, List.map_cons, List.map_nil, List.length_cons, List.length_nil, Nat.reduceAdd, Nat.reduceSub, List.replicate_succ, List.replicate_zero, List.cons_append, List.nil_append, Nat.zero_add, Nat.sub_self, List.append_nil]
      refine okP_seqT ?_
      refine okP_ift0 (by simp; done) ?_
      refine okP_seqT ?_
      refine okP_lock fun LQ hLQ => ?_
      simp
      refine hLQ _ _ _ (then_nx ?_)
      refine okP_lock fun LQ hLQ => ?_
      simp [e3, lc, same_an]
      first | exact hLQ _ _ _ (then_rt ret_is) | exact hLQ _ _ _ (then_rt (ret_is' (by simp [e3, lc, same_an]) rfl))
theorem own_ok {B : Bx} : ∀ (n : Nat) (u : U), Wf n u → ownF n [u] B = .ok u B
  | 0, _, h => h.elim
  | n + 1, u, h => by
    have lc : ∀ (u : U) (us : List U), us.length ≤ 20000 → (∀ v ∈ us, Wf n v) → itemsOf u B = some (us, yes) → (mLc (mItV (mVar 0)) (bdN 1) (mYes) (mCall (ownF n) (mCons (mVar 1) (mNil))) [1]) [.val u, .un] B = .ok (.fr (.lst us)) [.val u, .un] B := by
      intro u us hl hw hi
      have lc := mLc_map id (fun _ => true) id (fi := mItV (mVar 0)) (bd := bdN 1) (t := mYes) (f := mCall (ownF n) (mCons (mVar 1) (mNil))) (ks := [1]) (xs := us) (E := [.val u, .un]) (B := B) (E1 := [.val u, .un]) (B1 := B) (chk := yes)
        (by simp [hi]) trivial (by simp) (by simp) (by omega) (fun v hv => by simp [Tst, Elt, own_ok n v (hw v hv)])
      rw [fil_true, List.map_id] at lc
      exact lc
    cases u with
    | non => simp [ownF, runBody, ownB]
    | bl b => simp [ownF, runBody, ownB]
    | int i => simp [ownF, runBody, ownB]
    | str x => simp [ownF, runBody, ownB]
    | lst us =>
      have lc := lc (.lst us) us h.1 h.2 rfl
      simp only [ownF]
      refine run_is rfl ?_
      simp only [ownB, List.map_cons, List.map_nil, List.length_cons, List.length_nil, Nat.reduceAdd, Nat.reduceSub, List.replicate_succ, List.replicate_zero, List.cons_append, List.nil_append, Nat.zero_add, Nat.sub_self, List.append_nil]
      refine okP_seqT ?_
      refine okP_ift0 (by simp; done) ?_
      refine okP_lock fun LQ hLQ => ?_
      simp [lc]
      first | exact hLQ _ _ _ (then_rt ret_is) | exact hLQ _ _ _ (then_rt (ret_is' (by simp [lc]) rfl))
    | tup us =>
      have lc := lc (.tup us) us h.1 h.2 rfl
      simp only [ownF]
      refine run_is rfl ?_
      simp only [ownB, List.map_cons, List.map_nil, List.length_cons, List.length_nil, Nat.reduceAdd, Nat.reduceSub, List.replicate_succ, List.replicate_zero, List.cons_append, List.nil_append, Nat.zero_add, Nat.sub_self, List.append_nil]
      refine okP_seqL fun LQ hLQ => ?_
      simp
      refine hLQ _ _ _ (then_nx ?_)
      clear hLQ LQ
      refine okP_seqT ?_
      refine okP_ift0 (by simp; done) ?_
      refine okP_lock fun LQ hLQ => ?_
      rw [e_sRet, e_m1, lc]
      simp
      exact hLQ _ _ _ (then_rt ret_is)
    | dct _ _ => exact h.elim
    | box _ => exact h.elim
    | exc _ _ => exact h.elim
    | scr _ => exact h.elim
theorem eqU_nil {n : Nat} {us : List U} (hn : n + 1 ≤ 64) (h : Flt (n + 1) (.lst us)) : eqU (.lst us) (.lst []) = some us.isEmpty := by
  have f0 : Flt (n + 1) (.lst []) := fun v hv => by cases hv
  rw [eqU_flt hn h f0]
  cases us <;> rfl
theorem flt_nats {n : Nat} {ks : List Nat} : Flt (n + 2) (.lst (ks.map nat)) := by
  intro v hv
  obtain ⟨_, _, rfl⟩ := List.mem_map.mp hv
  trivial
theorem wf_nats {n : Nat} {ks : List Nat} (h : ks.length ≤ 20000) : Wf (n + 2) (.lst (ks.map nat)) := by
  refine ⟨by simpa using h, fun v hv => ?_⟩
  obtain ⟨_, _, rfl⟩ := List.mem_map.mp hv
  trivial
end QB
/-! QbX: sorted of lists, of a list's set. -/
namespace QB
open PySem L2 PyProof.Rows
section
variable {P : Program} {w : World} {A : Around} {E : Value → Shared → Prop} {s : Shared}
/-- an empty set as the class makes it -/
abbrev eSet (w : World) : Obj := { cls := .type "set", dict := none, data := .set #[] 0 (.fresh 0 0 (!w.params.followText "set-order")) }
abbrev inits (w : World) (s : Shared) (ns : List Int) : Value → Shared → Prop := fun r z => r = .none ∧ ∃ g tk c, z = { s with heap := g, toks := tk } ∧ SetR w g s.heap.objs.size (fun j => decide (j ∈ ns)) c ∧ c ≤ ns.length ∧ ∀ b o, s.heap.get? b = some o → g.get? b = some o
set_option maxHeartbeats 3200000 in
theorem setOfList {l : Addr} {its : Array Value} (ns : List Int) {Q : Value → Shared → Prop} (hh : A.handled = none) (hl : s.heap.IsList l its) (hit : IntsAre its.toList ns) (hb : ns.length + 1 < scanBound)
    (q : ∀ (g : Heap) (tk c : Nat), SetR w g s.heap.objs.size (fun j => decide (j ∈ ns)) c → c ≤ ns.length → (∀ b o, s.heap.get? b = some o → g.get? b = some o) → Q (.ref s.heap.objs.size) { s with heap := g, toks := tk }) :
    wpAny (model P w) A (call (.type "set") [.ref l]) Q E s := by
  have len : its.size = ns.length := by have z := IntsAre.length hit; rwa [Array.length_toList] at z
  obtain ⟨c, tl, o1⟩ := F.called_set.mro
  have o2 := F.called_set.made
  have o3 := F.called_set.sub
  refine wpAny_call (codeAny_of_tree (show wpAny _ _ (callAny (.type "set") _) _ _ _ from ?_))
  refine wpAny_pure ⟨Code.quiet_builtin _ (by decide +kernel), codeAny_builtin F.entry_type_call ?_⟩
  rw [Around.under_plain (weight_type_call_type "set" [.ref l] []) rfl]
  have o4 := F.called_set.notType
  have o5 := F.called_set.canCreate
  have o6 := F.typeCall_set_1 (.ref l)
  repeat (any_goals (first | assumption | wp_step))
  refine codeAny_mono (code_set_led1 (.ref l) (E := E) (Q₁ := fun v z => v = .ref s.heap.objs.size ∧ z = { s with heap := s.heap.push (eSet w) }) ⟨rfl, rfl⟩) fun r z hr => ?_
  cases r with
  | error e => exact hr
  | ok fl =>
    cases fl with
    | ret v =>
      obtain ⟨rfl, rfl⟩ := hr
      have at0 : (s.heap.push (eSet w)).get? s.heap.objs.size = some (eSet w) := Heap.get?_push_size _ rfl
      have ty : Shared.TypeIs { s with heap := s.heap.push (eSet w) } (.ref s.heap.objs.size) "set" := ⟨_, at0, rfl⟩
      have o7 := F.called_set.init.lookup
      have o8 := F.called_set.init.bind (.ref s.heap.objs.size)
      repeat (any_goals (first | assumption | wp_step))
      refine codeAny_mono (codeAny_call_builtin (R := wants (inits w s ns) E) F.called_set.init.plain F.entry_set_init (check_set_init_1 ty ?_)) fun r2 z2 hr2 => ?_
      · obtain ⟨⟨oc, od, ot, os⟩, hol, hcl, nl, hdl⟩ := hl
        simp only at hcl hdl
        subst hcl; subst hdl
        have hol2 : (s.heap.push (eSet w)).get? l = some { cls := .type "list", dict := od, data := .seq its nl, slots := os } := Heap.get?_push_of_some _ hol
        have p1 := F.sub_list_set
        have p2 := F.sub_list_frozenset
        have p3 : (Value.type "list" == Value.type "dict") = false := by decide
        have isl : (s.heap.push (eSet w)).IsList l its := ⟨_, hol2, rfl, nl, rfl⟩
        unfold Builtin.«set.__init__» noKeywords Builtin.Frozenset.updateFrom
        generalize hPI : pyIter = PI
        wp_walk
        subst hPI
        refine wpAny_pyIter_list isl (wpAny_bind (wpAny_runValue ?_))
        have lS : l < s.heap.objs.size := Heap.lt_size hol
        have hd3 : A.in1.in1.in1.handled = none := by simp [hh]
        have ne1 : l ≠ (s.heap.push (eSet w)).objs.size := by rw [Heap.size_push]; exact Nat.ne_of_lt (Nat.lt_succ_of_lt lS)
        have ne2 : s.heap.objs.size ∉ [(s.heap.push (eSet w)).objs.size, l] := by
          rw [Heap.size_push]
          intro z
          rcases List.mem_cons.mp z with z | z
          · exact Nat.ne_of_lt (Nat.lt_succ_self _) z
          · exact Nat.ne_of_gt lS (List.mem_singleton.mp z)
        have vals : ∀ (i : Nat) (v : Value), its[i]? = some v → ∃ k t, ns[i]? = some k ∧ v = .int k t := fun i v hv => by
          have hi : i < ns.length := by rw [← len]; exact (Array.getElem?_eq_some_iff.mp hv).1
          obtain ⟨t, e⟩ := IntsAre.int_at hit i v (by rwa [Array.getElem?_toList])
          exact ⟨ns[i], t, List.getElem?_eq_getElem hi, by rw [e, List.getD_eq_getElem?_getD, List.getElem?_eq_getElem hi]; rfl⟩
        refine set_update_ints ((Walks.list hd3 _ l ne1 its).toS) s.heap.objs.size ne2 ns len hb vals (its.size - 0) 0 _ (by omega) (Nat.zero_le _) ⟨⟨_, Heap.get?_push_size _ rfl, rfl, rfl⟩, isl.push _⟩ ?a0 ?a1
        case a0 => exact ⟨0, Nat.le_refl 0, setR_new_at (Heap.get?_push_of_some _ at0)⟩
        case a1 =>
          rintro ⟨g, g2, d2, tk, os2⟩ c2 mv le R
          have e1 : g2 = s.gens := mv.gens
          have e2 : d2 = s.drawn := mv.drawn
          have e3 : os2 = s.os := mv.os
          subst e1; subst e2; subst e3
          show wpAny _ _ _ _ _ _
          refine wpAny_pure (show wpAny _ _ (ret Value.none) _ _ _ from ?_)
          rw [len] at le
          refine wpAny_pure ⟨rfl, g, tk, c2, rfl, R, le, fun b o e => mv.heap b o ?_ (Heap.get?_push_of_some _ (Heap.get?_push_of_some _ e))⟩
          have b0 : b < s.heap.objs.size := Heap.lt_size e
          intro z
          rcases List.mem_cons.mp z with z | z
          · exact Nat.ne_of_lt b0 z
          · have y := List.mem_singleton.mp z
            rw [Heap.size_push] at y
            exact Nat.ne_of_lt (Nat.lt_succ_of_lt b0) y
      · cases r2 with
        | error e => exact hr2
        | ok fl2 =>
          cases fl2 with
          | ret r =>
            obtain ⟨rfl, g, tk, c2, rfl, R, le, kp⟩ := hr2
            repeat (any_goals (first | assumption | wp_step))
            exact q _ _ _ R le kp
          | _ => exact hr2.elim
    | _ => exact hr.elim
end
theorem nodup_le {α : Type} [DecidableEq α] : ∀ {l r : List α}, l.Nodup → (∀ x ∈ l, x ∈ r) → l.length ≤ r.length
  | [], r, _, _ => by simp
  | a :: l, r, hn, h => by
    obtain ⟨h1, h2⟩ := List.nodup_cons.mp hn
    have ha := h a (List.mem_cons_self ..)
    have := nodup_le (l := l) (r := r.erase a) h2 fun x hx => by
      have : x ≠ a := fun z => h1 (z ▸ hx)
      exact (List.mem_erase_of_ne this).mpr (h x (List.mem_cons_of_mem _ hx))
    have e := List.length_erase_of_mem ha
    have hp : 0 < r.length := List.length_pos_of_mem ha
    rw [List.length_cons]
    omega
section
variable {X : Cy}
def rSetOfL (K : PySem.W.Frag) (w : World) : List V → Hp → VK → Prop := fun vs H Q => ∃ (l : Addr) (ns r : List Int), vs = [.ref l] ∧ SqL K H l (ns.map V.int) ∧ ns.length ≤ 4000 ∧ (∀ k ∈ ns, k ∈ r) ∧ ∀ p c, H p = none → c ≤ r.length → Q (.ref p) (upd H p (SetO w p (fun j => decide (j ∈ ns)) c))
theorem cr_setOfL (hc : X.calm = true) : CallR X (.type "set") (rSetOfL X.K X.w) := by
  intro pins s σ H vs us Q I r h
  obtain ⟨l, ns, rr, rfl, hs, hl, hsub, q⟩ := h
  obtain ⟨its, rv, hlist, _⟩ := I.list hs
  rw [Vals.ref1 r]
  have hi := rv.ints
  refine setOfList ns (I.ok.hd hc) hlist.isList hi (by unfold scanBound; omega) fun g tk c R hcl kp => ?_
  have hn : H s.heap.objs.size = none := I.hok.fresh (Nat.le_refl _)
  have le : c ≤ rr.length := by
    obtain ⟨o, es, ep, t, h1, h2, h3, h4, h5, h6, h7, h8, h9, h10⟩ := R
    have : (es.toList.map keyOf).length ≤ rr.length := nodup_le h5 fun x hx => hsub x (by simpa using (h6 x).mpr hx)
    rw [List.length_map, Array.length_toList, h9] at this
    exact this
  have J := I.laid (t' := tk) (fun b o e => kp b o e) (Nat.le_refl _) (setO_new R)
  exact ⟨.ref s.heap.objs.size, _, J, rfl, q _ c hn le⟩
end
end QB
/-! QbY: sorted(..) of ints, sorted(set(..)) of ints. -/
namespace QB
open PySem L2 PyProof.Rows
def sortI (ns : List Int) : List Int := ns.mergeSort fun a b => decide (a ≤ b)
theorem perm_sorted_eq : ∀ {l r : List Int}, l.Perm r → l.Pairwise (· ≤ ·) → r.Pairwise (· ≤ ·) → l = r
  | [], r, p, _, _ => by rw [List.nil_perm.mp p]
  | a :: l, [], p, _, _ => by have := p.length_eq; simp at this
  | a :: l, b :: r, p, h1, h2 => by
    have a1 : b ≤ a := by
      rcases List.mem_cons.mp (p.mem_iff.mp (List.mem_cons_self ..)) with h | h
      · omega
      · exact (List.pairwise_cons.mp h2).1 a h
    have a2 : a ≤ b := by
      rcases List.mem_cons.mp (p.mem_iff.mpr (List.mem_cons_self ..)) with h | h
      · omega
      · exact (List.pairwise_cons.mp h1).1 b h
    have e : a = b := by omega
    subst e
    rw [perm_sorted_eq ((List.perm_cons a).mp p) (List.pairwise_cons.mp h1).2 (List.pairwise_cons.mp h2).2]
theorem sortI_perm (ns : List Int) : (sortI ns).Perm ns := List.mergeSort_perm ..
theorem sortI_sorted (ns : List Int) : (sortI ns).Pairwise (· ≤ ·) := by
  have := List.pairwise_mergeSort (le := fun a b : Int => decide (a ≤ b)) (fun a b c h1 h2 => by simp at *; omega) (fun a b => by simp; omega) ns
  exact this.imp fun h => by simpa using h
theorem sortI_eq {ns r : List Int} (p : r.Perm ns) (h : r.Pairwise (· ≤ ·)) : sortI ns = r := perm_sorted_eq ((sortI_perm ns).trans p.symm) (sortI_sorted ns) h
/-- the members, each once, ascending -/
def sortSI (ns : List Int) : List Int := sortI ns.eraseDups
theorem mem_sortSI {ns : List Int} {k : Int} : k ∈ sortSI ns ↔ k ∈ ns := by
  rw [sortSI, (sortI_perm _).mem_iff, List.mem_eraseDups]
theorem lt_nodup {l : List Int} (h : l.Pairwise (· < ·)) : l.Nodup := h.imp fun h => by omega
theorem nodup_dups : ∀ (n : Nat) (l : List Int), l.length ≤ n → l.eraseDups.Nodup
  | 0, l, h => by
    have : l = [] := List.eq_nil_of_length_eq_zero (by omega)
    subst this; simp
  | n + 1, [], _ => by simp
  | n + 1, a :: l, h => by
    rw [List.eraseDups_cons, List.nodup_cons]
    refine ⟨fun z => ?_, nodup_dups n _ ?_⟩
    · rw [List.mem_eraseDups, List.mem_filter] at z
      simp at z
    · have := List.length_filter_le (fun b => !b == a) l
      rw [List.length_cons] at h
      omega
theorem sortSI_eq {ns r : List Int} (h : r.Pairwise (· < ·)) (m : ∀ k, k ∈ r ↔ k ∈ ns) : sortSI ns = r := by
  refine sortI_eq ?_ (h.imp fun h => by omega)
  refine (List.perm_ext_iff_of_nodup (lt_nodup h) (nodup_dups _ _ (Nat.le_refl _))).mpr fun k => ?_
  rw [m, List.mem_eraseDups]
def intsOf : List U → Option (List Int)
  | [] => some []
  | .int i :: us => (intsOf us).map (i :: ·)
  | _ => none
theorem intsOf_reps {K : PySem.W.Frag} {H : Hp} {Lv : AS} {ρ : List Addr} : ∀ {us : List U} {vs : List V} {ns : List Int}, Reps K H Lv ρ us vs → intsOf us = some ns → vs = ns.map V.int
  | [], vs, ns, h, e => by simp only [Reps] at h; subst h; simp only [intsOf, Option.some.injEq] at e; subst e; rfl
  | u :: us, vs, ns, h, e => by
    simp only [Reps] at h
    obtain ⟨v, r, rfl, h1, h2⟩ := h
    cases u <;> simp only [intsOf] at e <;> try (cases e; done)
    next i =>
      obtain ⟨ms, e1, rfl⟩ := Option.map_eq_some_iff.mp e
      simp only [Rep] at h1
      subst h1
      rw [intsOf_reps h2 e1]
      rfl
theorem intsOf_map : ∀ ns : List Int, intsOf (ns.map .int) = some ns
  | [] => rfl
  | n :: ns => by rw [List.map_cons, intsOf, intsOf_map ns]; rfl
theorem reps_ints {K : PySem.W.Frag} {H : Hp} {Lv : AS} {ρ : List Addr} : ∀ ns : List Int, Reps K H Lv ρ (ns.map .int) (ns.map V.int)
  | [] => Reps.nil
  | n :: ns => Reps.cons (by simp [Rep]) (reps_ints ns)
def gSortedI : U → Option R
  | .lst us => (intsOf us).map fun ns => .fr (.lst ((sortI ns).map .int))
  | .scr ns => some (.fr (.lst ((sortI ns).map .int)))
  | _ => none
def gSortSet : U → Option R
  | .lst us => (intsOf us).bind fun ns => if ns.length ≤ 4000 ∧ (sortSI ns).length < 64 then some (.fr (.lst ((sortSI ns).map .int))) else none
  | _ => none
section
variable {X : Cy} {a : Expr} {fa : Ex} {p p2 q pos : Pos}
theorem call1_sortedI : Call1S X (.builtin "sorted") gSortedI := by
  refine ⟨_, cr_sortedI, fun F ρ E B σ H u1 v1 r3 Q rl t e q => ?_⟩
  have fin : ∀ (ns ns' : List Int) (p : Addr), ns'.Perm ns → ns'.Pairwise (· ≤ ·) → H p = none → r3 = .fr (.lst ((sortI ns).map .int)) → Q (.ref p) (upd H p (.lst (ns'.map V.int))) := by
    intro ns ns' p h1 h2 h3 e3
    rw [← sortI_eq h1 h2]
    subst e3
    exact q _ _ (Aft.fresh rl h3 (reps_ints _))
  unfold gSortedI at e
  split at e
  · next us =>
    obtain ⟨ns, e1, rfl⟩ := Option.map_eq_some_iff.mp e
    obtain ⟨p, vs, rfl, h1, h2⟩ := t
    have := intsOf_reps h2 e1
    subst this
    exact ⟨p, ns, rfl, .inl (.inl h1), fun ns' p' h3 h4 h5 => fin ns ns' p' h3 h4 h5 rfl⟩
  · next ns =>
    cases e
    simp only [Top, Rep] at t
    obtain ⟨p, rfl, h1⟩ := t
    exact ⟨p, ns, rfl, sqL_of h1, fun ns' p' h3 h4 h5 => fin ns ns' p' h3 h4 h5 rfl⟩
  · cases e
theorem sndE_sortSet (hc : X.calm = true) (hm : X.mg "sorted" = none) (hm2 : X.mg "set" = none) (ha : SndE X a fa) (hg : Gl X "sorted" := by rfl) (hg2 : Gl X "set" := by rfl)
    (hs : starEach [a] X.env = (false, eval a X.env) :: starEach [] X.env := by rfl) (hs2 : starEach [.Call (.Name "set" p2) [a] [] q] X.env = (false, eval (.Call (.Name "set" p2) [a] [] q) X.env) :: starEach [] X.env := by rfl) :
    SndE X (.Call (.Name "sorted" p) [.Call (.Name "set" p2) [a] [] q] [] pos) (m1 gSortSet fa) := by
  obtain ⟨ta, pa, ha⟩ := ha
  have p1 := pe_callTy (pos := q) (p := p2) (cr_setOfL hc) hg2 hm2 (by decide +kernel) (pa_cons pa pa_nil hs) (by decide) (by decide) hs
  refine ⟨_, pe_callB (cr_sortedSet hc) hg hm (by decide +kernel) (pa_cons p1 pa_nil hs2) (by decide) (by decide) hs2, m1_ok (r := fun v H Q => rSetOfL X.K X.w [v] H fun u H1 => rSortedSet X.w [u] H1 Q) (fun F ρ E B σ H u1 v1 r3 Q rl t e q => ?_) ha⟩
  unfold gSortSet at e
  split at e
  · next us =>
    obtain ⟨ns, e1, e2⟩ := Option.bind_eq_some_iff.mp e
    split at e2
    · next hl =>
      cases e2
      obtain ⟨p, vs, rfl, h1, h2⟩ := t
      have := intsOf_reps h2 e1
      subst this
      refine ⟨p, ns, sortSI ns, rfl, .inl (.inl h1), hl.1, fun k hk => mem_sortSI.mpr hk, fun p' c hp hcl => ?_⟩
      refine ⟨p', _, c, rfl, upd_same, by omega, fun ns' p2 h3 h4 h5 h6 => ?_⟩
      have e : sortSI ns = ns' := sortSI_eq h3 fun k => by rw [h4]; simp
      rw [← e]
      have g : ∀ q o, H q = some o → (upd H p' (SetO X.w p' (fun j => decide (j ∈ ns)) c)) q = some o := fun q o h => by rw [upd_ne (ne_of_none h hp)]; exact h
      have rl2 := rl.growH g
      have A := Aft.fresh rl2 h6 (reps_ints (sortSI ns))
      refine q _ _ ⟨A.px, A.rel, (grow_stp rl g).trans A.stp, A.le, A.rep⟩
    · cases e2
  · cases e
end
end QB
/-! QbZ: comprehensions without a test; small words. -/
namespace QB
open PySem L2
theorem mLc_all {α : Type} (enc : α → U) (y : α → U) {fi : Iv} {bd : Bd} {f : Ex} {ks : List Nat} {xs : List α} {E : En} {B : Bx} (hi : fi E B = .ok (xs.map enc, yes) E B) (hn : noOwn E ks = true) (hw : wipeE E ks = E) (hl : xs.length ≤ 16777216)
    (h : ∀ x ∈ xs, BdIs (bd (enc x) E) fun E2 => wipeE E2 ks = E ∧ Elt f B (y x) E2) :
    mLc fi bd mYes f ks E B = .ok (.fr (.lst (xs.map y))) E B := by
  have e := mLc_map (t := mYes) enc (fun _ => true) y hi (chk := yes) trivial hn hw hl fun x hx => by
    obtain ⟨E2, e1, e2, e3⟩ := (h x hx).get
    exact BdIs_of e1 ⟨e2, by simp [Tst], fun _ => e3⟩
  rwa [fil_true] at e
theorem mLc_if {α : Type} (enc : α → U) (p : α → Bool) (y : α → U) {fi : Iv} {bd : Bd} {t : Te} {f : Ex} {ks : List Nat} {xs : List α} {E : En} {B : Bx} (hi : fi E B = .ok (xs.map enc, yes) E B) (hn : noOwn E ks = true) (hw : wipeE E ks = E) (hl : xs.length ≤ 16777216)
    (h : ∀ x ∈ xs, BdIs (bd (enc x) E) fun E2 => wipeE E2 ks = E ∧ Tst t B (p x) E2 ∧ (p x = true → Elt f B (y x) E2)) :
    mLc fi bd t f ks E B = .ok (.fr (.lst ((xs.filter p).map y))) E B := mLc_map enc p y hi (chk := yes) trivial hn hw hl h
/-- .. that walks a shared list -/
theorem mLc_ifB {α : Type} (enc : α → U) (p : α → Bool) (y : α → U) {chk : Bx → Prop} {fi : Iv} {bd : Bd} {t : Te} {f : Ex} {ks : List Nat} {xs : List α} {E : En} {B : Bx} (hi : fi E B = .ok (xs.map enc, chk) E B) (hc : chk B) (hn : noOwn E ks = true) (hw : wipeE E ks = E) (hl : xs.length ≤ 16777216)
    (h : ∀ x ∈ xs, BdIs (bd (enc x) E) fun E2 => wipeE E2 ks = E ∧ Tst t B (p x) E2 ∧ (p x = true → Elt f B (y x) E2)) :
    mLc fi bd t f ks E B = .ok (.fr (.lst ((xs.filter p).map y))) E B := mLc_map enc p y hi hc hn hw hl h
/-- a comprehension whose elements are drawn, as an answer -/
theorem lcDraw {α β : Type} (enc : α → U) (out : β → U) {fi : Iv} {bd : Bd} {f : Ex} {ks : List Nat} {xs : List α} {E : En} {B B1 : Bx} (hi : fi E B1 = .ok (xs.map enc, yes) E B) (hn : noOwn E ks = true) (hw : wipeE E ks = E) (hl : xs.length ≤ 16777216) (I : Nat → List β → Bx → Prop) (h : I xs.length [] B)
    (step : ∀ x (n : Nat) (acc : List β) (B : Bx), x ∈ xs → acc.length + (n + 1) = xs.length → I (n + 1) acc B → BdIs (bd (enc x) E) fun E2 => wipeE E2 ks = E ∧ ∃ (w : R) (v : β) (B3 : Bx), f E2 B = .ok w E2 B3 ∧ settle w E2 = some (out v, E2) ∧ I n (acc ++ [v]) B3) :
    ∃ (vs : List β) (B' : Bx), mLc fi bd mYes f ks E B1 = .ok (.fr (.lst (vs.map out))) E B' ∧ vs.length = xs.length ∧ I 0 vs B' := by
  have k := okP_lcM enc (bd := bd) (f := f) (ks := ks) (Q := fun r E' B' => ∃ vs : List β, r = .fr (.lst (vs.map out)) ∧ E' = E ∧ vs.length = xs.length ∧ I 0 vs B') hi hn hw hl
    (fun q acc B' => ∃ vs : List β, acc = vs.map out ∧ vs.length + q.length = xs.length ∧ (∀ x ∈ q, x ∈ xs) ∧ I q.length vs B') ⟨[], rfl, by simp, fun _ h => h, h⟩
    (by
      rintro x q acc B' ⟨vs, rfl, hl, hm, hI⟩
      rw [List.length_cons] at hl hI
      obtain ⟨E2, e1, e2, w, v, B3, e3, e4, e5⟩ := (step x q.length vs B' (hm x (List.mem_cons_self ..)) hl hI).get
      exact BdIs_of e1 ⟨e2, w, out v, B3, e3, e4, vs ++ [v], by simp, by simp; omega, fun y hy => hm y (List.mem_cons_of_mem _ hy), e5⟩)
    (by rintro acc B' ⟨vs, rfl, hl, hm, hI⟩; exact ⟨vs, rfl, rfl, by simpa using hl, hI⟩)
  obtain ⟨r, E', B', e, vs, rfl, rfl, h1, h2⟩ := k.get
  exact ⟨vs, B', e, h1, h2⟩
@[simp] theorem pick10 {a b : U} : pick [1, 0] [a, b] = [b, a] := rfl
@[simp] theorem revS_ofC (l : List Nat) : revS (ofC l) = ofC l.reverse := rfl
theorem G_any {α : Type} {l : List α} {p : α → Bool} : gAny (.lst (l.map fun x => .bl (p x))) = some (.w (.bl (l.any p))) := e_any'
theorem in_nats {n : Nat} {ks : List Nat} : inU (.int (n : Int)) (.lst (ks.map nat)) = some (decide (n ∈ ks)) := by
  have e : ∀ ks : List Nat, flatUs (ks.map nat) = some (ks.map fun (k : Nat) => V.int (k : Int)) := by
    intro ks
    induction ks with
    | nil => rfl
    | cons k ks ih => rw [List.map_cons, flatUs, ih]; rfl
  have e2 : inU (.int (n : Int)) (.lst (ks.map nat)) = (match flatU (.int (n : Int)), (seqOf (.lst (ks.map nat))).bind flatUs with
    | some v, some vs => some (inV v vs)
    | _, _ => none) := rfl
  rw [e2]
  simp only [seqOf, Option.bind_some, e, flatU]
  congr 1
  rw [inV, List.any_map, Bool.eq_iff_iff, List.any_eq_true, decide_eq_true_iff]
  constructor
  · rintro ⟨k, hk, h⟩
    have : (k : Int) = (n : Int) := by simpa [eqV, Function.comp] using h
    have : k = n := by omega
    subst this; exact hk
  · intro h
    exact ⟨n, h, by simp [eqV, Function.comp]⟩
theorem atI_mem {α : Type} {l : List α} {v : Int} (h0 : 0 ≤ v) (h1 : v < l.length) : ∃ c ∈ l, atI l v = some c := by
  have hk : v.toNat < l.length := by omega
  refine ⟨l[v.toNat], List.getElem_mem hk, ?_⟩
  rw [atI_of (k := v.toNat) (by omega), List.getElem?_eq_getElem hk]
theorem join_chr {ls : List Nat} (h : ls.length ≤ 16777216) : gJoin (.str (ofC [])) [.lst (ls.map chr)] = some (.w (.str (ofC ls))) := by
  have e := e_join (ls := ls.map fun c => [c])
  have e2 : ∀ ls : List Nat, (ls.map fun c => [c]).flatten = ls := by
    intro ls
    induction ls with
    | nil => rfl
    | cons c ls ih => rw [List.map_cons, List.flatten_cons, ih]; rfl
  rw [e2, if_pos h] at e
  rw [← e, List.map_map]
  rfl
theorem cutS_len (l : List Nat) (lo hi : Option Int) : ∃ l', cutS (ofC l) lo hi = ofC l' ∧ l'.length ≤ l.length := by
  refine ⟨codes (cutS (ofC l) lo hi), by simp, ?_⟩
  simp [codes, cutS]
  omega
@[simp] theorem app_get1 {B0 : Bx} {c d : Cell} {r : Bx} : (B0 ++ c :: d :: r)[B0.length + 1]? = some d := by
  rw [List.getElem?_append_right (by omega), show B0.length + 1 - B0.length = 1 from by omega]; rfl
@[simp] theorem app_set1 {B0 : Bx} {c d x : Cell} {r : Bx} : (B0 ++ c :: d :: r).set (B0.length + 1) x = B0 ++ c :: x :: r := by simp [List.set_append]
theorem app_get2 {B0 : Bx} {c d x : Cell} {r : Bx} : (B0 ++ c :: d :: x :: r)[B0.length + 2]? = some x := by
  rw [List.getElem?_append_right (by omega), show B0.length + 2 - B0.length = 2 from by omega]; rfl
theorem app_get3 {B0 : Bx} {c d x y : Cell} {r : Bx} : (B0 ++ c :: d :: x :: y :: r)[B0.length + 3]? = some y := by
  rw [List.getElem?_append_right (by omega), show B0.length + 3 - B0.length = 3 from by omega]; rfl
theorem coinQ {B : Bx} {i n : Nat} (many : Int) (h : Purse B i (n + 1)) (h0 : 0 < many := by decide) (hm : many ≤ 1000000000 := by decide) :
    ∃ (v : Int) (B1 : Bx), 0 ≤ v ∧ v < many ∧ coinF [.box i, .int many] B = .ok (.int v) B1 ∧ Purse B1 i n := by
  obtain ⟨v, c, h1, h2, h3, h4⟩ := coin_ok h h0 hm
  exact ⟨v, _, h1, h2, h3, h4⟩
end QB
/-! QbZb: comprehensions whose names stand in use outside. -/
namespace QB
open PySem L2
theorem mLc_gen {α : Type} (enc : α → U) (p : α → Bool) (y : α → U) {fi : Iv} {bd : Bd} {t : Te} {f : Ex} {ks : List Nat} {chk : Bx → Prop} {xs : List α} {E E1 : En} {B B1 : Bx} (hi : fi E B = .ok (xs.map enc, chk) E1 B1) (hc : chk B1) (hn : noOwn E1 ks = true) (hl : xs.length ≤ 16777216)
    (h : ∀ x ∈ xs, BdIs (bd (enc x) (wipeE E1 ks)) fun E2 => wipeE E2 ks = wipeE E1 ks ∧ Tst t B1 (p x) E2 ∧ (p x = true → Elt f B1 (y x) E2)) :
    mLc fi bd t f ks E B = .ok (.fr (.lst ((xs.filter p).map y))) (keepE E1 (wipeE E1 ks) ks) B1 := by
  have key : ∀ (xs : List α) (acc : List U), acc.length + xs.length ≤ 16777216 → (∀ x ∈ xs, BdIs (bd (enc x) (wipeE E1 ks)) fun E2 => wipeE E2 ks = wipeE E1 ks ∧ Tst t B1 (p x) E2 ∧ (p x = true → Elt f B1 (y x) E2)) →
      lcGo bd t f chk ks (xs.map enc) acc (wipeE E1 ks) B1 = .ok (acc ++ (xs.filter p).map y) (wipeE E1 ks) B1 := by
    intro xs
    induction xs with
    | nil => intro acc _ _; simp [lcGo]
    | cons x xs ih =>
      intro acc hl h
      obtain ⟨E2, e1, e2, e3, e4⟩ := (h x (List.mem_cons_self ..)).get
      have hl' : acc.length + (xs.length + 1) ≤ 16777216 := hl
      rw [List.map_cons]
      unfold lcGo
      rw [e1]
      unfold Tst at e3
      simp only [e3, O.bindN_ok]
      by_cases hp : p x = true
      · have e5 := e4 hp
        unfold Elt at e5
        rw [if_pos hp]
        cases h1 : f E2 B1 with
        | bad => rw [h1] at e5; exact e5.elim
        | ex _ _ _ => rw [h1] at e5; exact e5.elim
        | ok r E3 B3 =>
          rw [h1] at e5
          obtain ⟨e6, rfl⟩ := e5
          simp only [O.bindN_ok, e6]
          rw [if_pos (by omega), e2]
          unfold goOnL
          rw [if_pos hc, ih (acc ++ [y x]) (by simp; omega) (fun v hv => h v (List.mem_cons_of_mem _ hv))]
          simp [hp]
      · rw [if_neg hp, e2]
        unfold goOnL
        rw [if_pos hc, ih acc (by omega) (fun v hv => h v (List.mem_cons_of_mem _ hv))]
        simp [hp]
  unfold mLc
  rw [hi]
  simp only [O.bind_ok]
  rw [if_pos hn, key xs [] (by simpa using hl) h, O.bind_ok]
  simp
theorem mLc_ifW {α : Type} (enc : α → U) (p : α → Bool) (y : α → U) {fi : Iv} {bd : Bd} {t : Te} {f : Ex} {ks : List Nat} {xs : List α} {E : En} {B : Bx} (hi : fi E B = .ok (xs.map enc, yes) E B) (hn : noOwn E ks = true) (hk : keepE E (wipeE E ks) ks = E) (hl : xs.length ≤ 16777216)
    (h : ∀ x ∈ xs, BdIs (bd (enc x) (wipeE E ks)) fun E2 => wipeE E2 ks = wipeE E ks ∧ Tst t B (p x) E2 ∧ (p x = true → Elt f B (y x) E2)) :
    mLc fi bd t f ks E B = .ok (.fr (.lst ((xs.filter p).map y))) E B := by
  have e := mLc_gen enc p y (chk := yes) hi trivial hn hl h
  rw [hk] at e
  exact e
theorem mLc_allW {α : Type} (enc : α → U) (y : α → U) {fi : Iv} {bd : Bd} {f : Ex} {ks : List Nat} {xs : List α} {E : En} {B : Bx} (hi : fi E B = .ok (xs.map enc, yes) E B) (hn : noOwn E ks = true) (hk : keepE E (wipeE E ks) ks = E) (hl : xs.length ≤ 16777216)
    (h : ∀ x ∈ xs, BdIs (bd (enc x) (wipeE E ks)) fun E2 => wipeE E2 ks = wipeE E ks ∧ Elt f B (y x) E2) :
    mLc fi bd mYes f ks E B = .ok (.fr (.lst (xs.map y))) E B := by
  have e := mLc_ifW (t := mYes) enc (fun _ => true) y hi hn hk hl fun x hx => by
    obtain ⟨E2, e1, e2, e3⟩ := (h x hx).get
    exact BdIs_of e1 ⟨e2, by simp [Tst], fun _ => e3⟩
  rwa [fil_true] at e
end QB
/-! QcA: match statements over texts. -/
namespace QB
open PySem L2
/-- the texts of a case: none is the last resort -/
abbrev Kc := Option (List Str)
def ValsIs : List Pattern → List Str → Prop
  | [], [] => True
  | p :: ps, k :: ks => (∃ j q pos, p = Pattern.MatchValue (.Constant (.str k) j q) pos) ∧ ValsIs ps ks
  | _, _ => False
def PatIs (p : Pattern) : Kc → Prop
  | none => ∃ pos, p = .MatchAs none none pos
  | some ks => (∃ k j q pos, p = .MatchValue (.Constant (.str k) j q) pos ∧ ks = [k]) ∨
      (∃ ps pos, p = .MatchOr ps pos ∧ ValsIs ps ks)
section
variable {X : Cy} {pins : List (Addr × Obj)} {σ : L2.St} {H : Hp} {s : Shared}
theorem matchVal {k z : Str} {j : Nat} {q pos : Pos} {u : Value} {Q : Option (List (Str × Value)) → Shared → Prop} (I : L2.Inv X pins σ H s) (r : RelV (.str z) u) (h : ∀ s', L2.Inv X pins σ H s' → Q (if z == k then some [] else none) s') :
    wpAny (model X.prog X.w) X.A (matchPattern (.MatchValue (.Constant (.str k) j q) pos) X.env u) Q X.xe s := by
  refine wpAny_matchPattern_Value ((pe_str (X := X)).run pins s σ H (fun v H1 => v = .str k ∧ H1 = H) I ⟨rfl, rfl⟩ |> fun w => thn w fun a s1 ⟨v, H1, I1, r1, e1, e2⟩ => ?_)
  subst e1 e2
  refine thn (op_eq (X := X) pins s1 σ H1 (.str z) (.str k) u a (fun v H2 => v = .bl (z == k) ∧ H2 = H1) I1 r r1 ⟨rfl, ?_, rfl⟩) fun c s2 ⟨v, H2, I2, r2, e3, e4⟩ => ?_
  · rw [dec_str]
  · subst e3 e4
    cases r2
    refine wpAny_truthy_bool ?_
    have := h _ I2
    cases hb : (z == k) <;> simp only [hb] at this ⊢ <;> exact this
theorem matchOrs {z : Str} {u : Value} (r : RelV (.str z) u) : ∀ (ps : List Pattern) (ks : List Str), ValsIs ps ks → ∀ {Q : Option (List (Str × Value)) → Shared → Prop} {s : Shared}, L2.Inv X pins σ H s →
    (∀ s', L2.Inv X pins σ H s' → Q (if ks.any (fun k => z == k) then some [] else none) s') → wpAny (model X.prog X.w) X.A (matchFirst ps X.env u) Q X.xe s
  | [], [], _, Q, s, I, h => wpAny_matchFirst_nil (h s I)
  | p :: ps, k :: ks, h2, Q, s, I, h => by
    obtain ⟨⟨j, q, pos, rfl⟩, hr⟩ := h2
    refine wpAny_matchFirst_cons (matchVal (Q := fun r s1 => match r with
          | some bs => Q (some bs) s1
          | none => wpAny (model X.prog X.w) X.A (matchFirst ps X.env u) Q X.xe s1) I r fun s1 I1 => ?_)
    cases hb : (z == k) with
    | true =>
      have := h s1 I1
      rw [List.any_cons, hb] at this
      exact this
    | false =>
      refine matchOrs r ps ks hr I1 fun s2 I2 => ?_
      have := h s2 I2
      rw [List.any_cons, hb, Bool.false_or] at this
      exact this
  | [], _ :: _, h2, Q, s, I, h => h2.elim
  | _ :: _, [], h2, Q, s, I, h => h2.elim
theorem names_vals : ∀ (ps : List Pattern) (ks : List Str), ValsIs ps ks → namesOfAll (ps.take 1) = []
  | [], _, _ => rfl
  | p :: ps, [], h => h.elim
  | p :: ps, k :: ks, h => by
    obtain ⟨⟨j, q, pos, rfl⟩, _⟩ := h
    rfl
def hitK (z : Str) : Kc → Bool
  | none => true
  | some ks => ks.any fun k => z == k
theorem matchPat {p : Pattern} {kc : Kc} (hp : PatIs p kc) {z : Str} {u : Value} {Q : Option (List (Str × Value)) → Shared → Prop} (I : L2.Inv X pins σ H s) (r : RelV (.str z) u) (h : ∀ s', L2.Inv X pins σ H s' → Q (if hitK z kc then some [] else none) s') :
    wpAny (model X.prog X.w) X.A (matchPattern p X.env u) Q X.xe s := by
  cases kc with
  | none =>
    obtain ⟨pos, rfl⟩ := hp
    exact wpAny_matchPattern_Capture (h s I)
  | some ks =>
    rcases hp with ⟨k, j, q, pos, rfl, rfl⟩ | ⟨ps, pos, rfl, h2⟩
    · refine matchVal I r fun s1 I1 => ?_
      have := h s1 I1
      simp only [hitK, List.any_cons, List.any_nil, Bool.or_false] at this
      exact this
    · refine wpAny_matchPattern_Or (matchOrs r ps ks h2 I fun s1 I1 => ?_)
      have := h s1 I1
      simp only [hitK] at this
      rw [names_vals ps ks h2]
      cases hb : ks.any (fun k => z == k) <;> simp only [hb] at this ⊢ <;> exact this
end
inductive PCs (X : Cy) : List MatchCase → List (Kc × TS) → Prop where
  | nil : PCs X [] []
  | cons {p : Pattern} {kc : Kc} {body : List Stmt} {t : TS} {r : List MatchCase} {l : List (Kc × TS)} : PatIs p kc → PSs X body t → PCs X r l → PCs X (⟨p, none, body⟩ :: r) ((kc, t) :: l)
def goK : List (Kc × TS) → Str → TS
  | [], _ => fun D σ H => D.nx σ H
  | (kc, t) :: l, z => fun D σ H => if hitK z kc = true then t D σ H else goK l z D σ H
section
variable {X : Cy} {pins : List (Addr × Obj)} {σ : L2.St} {H : Hp} {s : Shared} {pos : Pos}
theorem cases_run {z : Str} {u : Value} (r : RelV (.str z) u) : ∀ {cs : List MatchCase} {l : List (Kc × TS)}, PCs X cs l → ∀ (first : Bool) (D : Ends) {s : Shared}, L2.Inv X pins σ H s → goK l z D σ H → wpAny (model X.prog X.w) X.A (matchCases cs X.env u first) (SP X pins D) X.xe s
  | [], _, h, first, D, s, I, q => by
    cases h
    exact wpAny_matchCases_nil ⟨σ, H, I, q⟩
  | _ :: _, _, h, first, D, s, I, q => by
    cases h with
    | cons hp hb hr =>
      refine wpAny_matchCases_cons (matchPat hp I r fun s1 I1 => ?_)
      unfold goK at q
      split at q
      · next hk =>
        simp only [hk, if_true]
        exact wpAny_assignInOrder_none (hb.run pins s1 σ H D I1 q)
      · next hk =>
        simp only [hk, if_false]
        exact cases_run r hr false D I1 q
def tMatch (t : TE) (l : List (Kc × TS)) : TS := fun D σ H => t σ H fun v H1 => ∃ z, v = .str z ∧ goK l z D σ H1
theorem ps_match {e : Expr} {cs : List MatchCase} {t : TE} {l : List (Kc × TS)} (he : PE X e t) (hc : PCs X cs l) : PS X (.Match e cs pos) (tMatch t l) := by
  refine ⟨fun pins s σ H D I h => ?_⟩
  refine wpAny_Match (thn (he.run pins s σ H _ I h) fun u s1 ⟨v, H1, I1, r, z, e1, q⟩ => ?_)
  subst e1
  exact cases_run r hc true D I1 q
end
/-! ### as a judgement -/
def goM : List (Kc × Sm) → Str → Sm
  | [], _ => fun E B => .ok .nx E B
  | (kc, f) :: l, z => fun E B => if hitK z kc = true then f E B else goM l z E B
def sMatch (fe : Ex) (l : List (Kc × Sm)) : Sm := fun E B => (fe E B).bind fun r E1 B1 =>
  match view r E1 B1 with
  | some (.str z) => goM l z E1 B1
  | _ => .bad
inductive SndCs (X : Cy) : List MatchCase → List (Kc × Sm) → Prop where
  | nil : SndCs X [] []
  | cons {p : Pattern} {kc : Kc} {body : List Stmt} {f : Sm} {r : List MatchCase} {l : List (Kc × Sm)} : PatIs p kc → SndB X body f → SndCs X r l → SndCs X (⟨p, none, body⟩ :: r) ((kc, f) :: l)
theorem sndCs_t {X : Cy} : ∀ {cs : List MatchCase} {l : List (Kc × Sm)}, SndCs X cs l → ∃ l', PCs X cs l' ∧ ∀ z F ρ E B σ H D, Rel X.K F ρ E B σ H → PostS X.K X.q F ρ (goM l z E B) D → goK l' z D σ H
  | [], _, h => by
    cases h
    exact ⟨[], .nil, fun z F ρ E B σ H D rl q => q ρ σ H (List.prefix_refl _) rl⟩
  | _ :: _, _, h => by
    cases h with
    | cons hp hb hr =>
      obtain ⟨l', h1, h2⟩ := sndCs_t hr
      obtain ⟨t, p1, hb⟩ := hb
      refine ⟨_, .cons hp p1 h1, fun z F ρ E B σ H D rl q => ?_⟩
      unfold goM at q
      unfold goK
      split
      · next hk => rw [if_pos hk] at q; exact hb F ρ E B σ H D rl q
      · next hk => rw [if_neg hk] at q; exact h2 z F ρ E B σ H D rl q
theorem sndS_match {X : Cy} {e : Expr} {fe : Ex} {cs : List MatchCase} {l : List (Kc × Sm)} {pos : Pos} (he : SndE X e fe) (hc : SndCs X cs l) : SndS X (.Match e cs pos) (sMatch fe l) := by
  obtain ⟨t, p1, he⟩ := he
  obtain ⟨l', h1, h2⟩ := sndCs_t hc
  refine ⟨_, ps_match p1 h1, fun F ρ E B σ H D rl q => ?_⟩
  refine he F ρ E B σ H _ rl ?_
  simp only [sMatch] at q
  cases h3 : fe E B with
  | bad => rw [h3] at q; exact q
  | ex c E' B' => rw [h3] at q ; first | exact q | exact Aft.exq (by assumption) q | exact AftT.exq (by assumption) q | exact Aft.exq (by assumption) (Aft.exq (by assumption) q) | exact AftT.exq (by assumption) (Aft.exq (by assumption) q) | exact AftT.exq (AftA.t (by assumption)) q | exact ExQ.px q (Aft.px (by assumption)) | exact ExQ.px q (List.IsPrefix.trans (AftT.px (by assumption)) (Aft.px (by assumption))) | exact Aft.exq (by assumption) (AftT.exq (by assumption) q) | exact Aft.exq (by assumption) (Aft.exq (by assumption) (AftT.exq (by assumption) q))
  | ok r1 E1 B1 =>
    rw [h3] at q
    intro ρ1 H1 v1 A1
    simp only [O.bind_ok] at q
    split at q
    · next z e1 =>
      have t1 := A1.top e1
      exact ⟨z, top_str t1, h2 z F ρ1 E1 B1 σ H1 D A1.letgo.rel (q.px A1.px)⟩
    · exact q.elim
@[simp] theorem e_sMatch {fe : Ex} {l : List (Kc × Sm)} {E : En} {B : Bx} : sMatch fe l E B = (fe E B).bind fun r E1 B1 =>
  match view r E1 B1 with
  | some (.str z) => goM l z E1 B1
  | _ => .bad := (rfl)
@[simp] theorem e_goM0 {z : Str} {E : En} {B : Bx} : goM [] z E B = .ok .nx E B := (rfl)
@[simp] theorem e_goM1 {kc : Kc} {f : Sm} {l : List (Kc × Sm)} {z : Str} {E : En} {B : Bx} : goM ((kc, f) :: l) z E B = if hitK z kc = true then f E B else goM l z E B := (rfl)
@[simp] theorem e_hit0 {z : Str} : hitK z none = true := (rfl)
@[simp] theorem e_hit1 {z : Str} {ks : List Str} : hitK z (some ks) = ks.any fun k => z == k := (rfl)
end QB
/-! QcB: tuples of the module's top. -/
namespace QB
open PySem L2
mutual
inductive KU (K : PySem.W.Frag) : U → Value → Prop where
  | non : KU K .non .none
  | bl (b : Bool) : KU K (.bl b) (.bool b)
  | int (i : Int) (t : Tok) : KU K (.int i) (.int i t)
  | str (x : Str) (t : Tok) : KU K (.str x) (.str x t)
  | tup {us : List U} {vs : List Value} {p : Addr} {d : Option Addr} {n : Nat} {sl : Array (Option Value)} : K.lookup p = some ⟨.type "tuple", d, .seq vs.toArray n, sl⟩ → KUs K us vs → (h : Nat.ble vs.length 1000 = true := by rfl) → KU K (.tup us) (.ref p)
inductive KUs (K : PySem.W.Frag) : List U → List Value → Prop where
  | nil : KUs K [] []
  | cons {u : U} {v : Value} {us : List U} {vs : List Value} : KU K u v → KUs K us vs → KUs K (u :: us) (v :: vs)
end
section
variable {K : PySem.W.Frag}
mutual
theorem KU.val : ∀ {u : U} {v : Value}, KU K u v → ∃ x : V, RelV x v ∧ ∀ H Lv ρ, Rep K H Lv ρ u x
  | _, _, .non => ⟨.non, rfl, fun _ _ _ => by simp [Rep]⟩
  | _, _, .bl b => ⟨.bl b, rfl, fun _ _ _ => by simp [Rep]⟩
  | _, _, .int i t => ⟨.int i, ⟨t, rfl⟩, fun _ _ _ => by simp [Rep]⟩
  | _, _, .str x t => ⟨.str x, ⟨t, rfl⟩, fun _ _ _ => by simp [Rep]⟩
  | _, _, .tup (vs := vs) (p := p) h hs hb => by
    obtain ⟨xs, h1, h2⟩ := hs.vals
    refine ⟨.ref p, rfl, fun H Lv ρ => ?_⟩
    simp only [Rep]
    refine ⟨p, xs, rfl, .inr ⟨_, vs.toArray, _, h, rfl, rfl, ?_, by simpa using h1⟩, h2 H Lv ρ⟩
    have := Nat.le_of_ble_eq_true hb
    rw [List.size_toArray, sizeLine_eq]; omega
theorem KUs.vals : ∀ {us : List U} {vs : List Value}, KUs K us vs → ∃ xs : List V, Vals xs vs ∧ ∀ H Lv ρ, Reps K H Lv ρ us xs
  | _, _, .nil => ⟨[], .nil, fun _ _ _ => Reps.nil⟩
  | _, _, .cons h hs => by
    obtain ⟨x, h1, h2⟩ := h.val
    obtain ⟨xs, h3, h4⟩ := hs.vals
    exact ⟨x :: xs, .cons h1 h3, fun H Lv ρ => Reps.cons (h2 H Lv ρ) (h4 H Lv ρ)⟩
end
end
theorem KU.ref {K : PySem.W.Frag} {u : U} {p : Addr} (h : KU K u (.ref p)) : ∀ H Lv ρ, Rep K H Lv ρ u (.ref p) := by
  obtain ⟨x, h1, h2⟩ := h.val
  have : x = .ref p := by
    cases x with
    | ref q => exact congrArg V.ref (by have e : Value.ref q = Value.ref p := h1.symm; cases e; rfl)
    | non => cases h1
    | bl _ => cases h1
    | int _ => obtain ⟨t, z⟩ := h1; cases z
    | str _ => obtain ⟨t, z⟩ := h1; cases z
    | _ => first | (cases h1; done) | (obtain ⟨t, z⟩ := h1; cases z)
  subst this
  exact h2
theorem sndE_gtreeE {X : Cy} {x : Str} {u : U} {pos : Pos} (h : ∃ p, X.mg x = some (.ref p) ∧ KU X.K u (.ref p)) (hg : Gl X x := by rfl) (hd : (x == ("__debug__" : Str)) = false := by decide) : SndE X (.Name x pos) (mC u) := by
  obtain ⟨p, h1, h2⟩ := h
  exact sndE_gtree h1 h2.ref hg hd
end QB
/-! QcC: a comprehension's list as a shared thing. -/
namespace QB
open PySem L2
section
variable {X : Cy} {a b c e i o tg iter elt : Expr} {es ifs : List Expr} {fa fb fe fo : Ex} {ft : Te} {fi : Iv} {fs : Ar} {bd : Bd} {ks : List Nat} {pos spos py p p1 p2 p3 cpos apos : Pos} {x y name : Str} {scope : Scope} {own : List (Str × Nat)}
theorem box_reads {t : TE} (ha : ∀ F ρ E B σ H Q, Rel X.K F ρ E B σ H → PostE X.K X.q F ρ E B σ H (fa E B) Q → t σ H Q) : ∀ F ρ E B σ H Q, Rel X.K F ρ E B σ H → PostE X.K X.q F ρ E B σ H (mBox fa E B) Q → t σ H Q := by
  intro F ρ E B σ H Q rl q
  refine ha F ρ E B σ H _ rl ?_
  simp only [mBox] at q
  cases h1 : fa E B with
  | bad => rw [h1] at q; exact q
  | ex c E' B' => rw [h1] at q ; first | exact q | exact Aft.exq (by assumption) q | exact AftT.exq (by assumption) q | exact Aft.exq (by assumption) (Aft.exq (by assumption) q) | exact AftT.exq (by assumption) (Aft.exq (by assumption) q) | exact AftT.exq (AftA.t (by assumption)) q | exact ExQ.px q (Aft.px (by assumption)) | exact ExQ.px q (List.IsPrefix.trans (AftT.px (by assumption)) (Aft.px (by assumption))) | exact Aft.exq (by assumption) (AftT.exq (by assumption) q) | exact Aft.exq (by assumption) (Aft.exq (by assumption) (AftT.exq (by assumption) q))
  | ok r1 E1 B1 =>
    rw [h1] at q
    intro ρ1 H1 v1 A1
    simp only [O.bind_ok] at q
    cases r1 with
    | w u => exact q.elim
    | s i => exact q.elim
    | fr c =>
      have rr := A1.rep
      obtain ⟨p, rfl, hl, hc, hn⟩ := rr
      have r0 := A1.rel
      obtain ⟨r2, lv⟩ := Rel.push (o := H1 p) r0 hn hl hc
      have bl := r0.blen
      refine q (ρ1 ++ [p]) H1 (.ref p) ⟨A1.px.trans (List.prefix_append _ _), r2, A1.stp.trans (Stp.less fun y z => (lv y).mp z), A1.le, ?_⟩
      simp only [RepR, Rep]
      exact ⟨p, by rw [← bl]; simp, rfl⟩
theorem sndS_boxLc {k : Nat} (hc : X.calm = true) (hN : X.N.Nodup) (ok : BlkOk X.N X.env.scope scope own) (hi : SndI X tg iter fi)
    (hg : ∀ (s : Shared) (H : Hp) (C : Addr) (cl : List (Str × Addr)) (fp : List Addr), SndG (X.blk s H scope (compEnvC scope cl C X.env) fp) tg (own.map (·.2)) bd)
    (ht : ∀ (s : Shared) (H : Hp) (C : Addr) (cl : List (Str × Addr)) (fp : List Addr), SndTs (X.blk s H scope (compEnvC scope cl C X.env) fp) ifs ft)
    (he : ∀ (s : Shared) (H : Hp) (C : Addr) (cl : List (Str × Addr)) (fp : List Addr), SndE (X.blk s H scope (compEnvC scope cl C X.env) fp) elt fe)
    (hy : X.N[k]? = some y := by rfl) (hyl : X.env.scope.names.lookup y = some .local := by rfl) (hsw : swapsWith (.ListComp elt [⟨tg, iter, ifs, 0⟩] scope pos) (some (.Name y py)) spos.line X.env = pure true := by exact sw_true rfl rfl rfl (by decide +kernel))
    (hs : ∀ x, foldedSetIterable iter X.env x = pure x := by intro _; rfl) : SndS X (.Assign [.Name y py] (.ListComp elt [⟨tg, iter, ifs, 0⟩] scope pos) spos) (sSet k (mBox (mLc fi bd ft fe (own.map (·.2))))) := by
  obtain ⟨wi, pi, hi⟩ := hi
  exact ⟨_, ps_setLc (g := uG X.K (own.map (·.2)) bd) (tt := uT X.K (bq X) ft) (te := uE X.K (bq X) fe) hc hN hy hyl hsw pi ok (fun s H C cl fp => (hg s H C cl fp).u) (fun s H C cl fp => ht s H C cl fp) (fun s H C cl fp => (he s H C cl fp).u) hs, set_reads (box_reads (lc_reads hi))⟩
end
end QB
/-! QcD: the state and its draws, alike in many laws. -/
namespace QB
open PySem L2
noncomputable def drawB : Sm := sSeq (sSet 2 (m2 (gII cMod (· % ·)) (m1 gInt (m2 gIx (mVar 0) (mC (.int 1)))) (m1 gLen (m2 gIx (mVar 0) (mC (.int 0)))))) (sSeq (sStore (m2 gAdd (m2 gIx (mVar 0) (mC (.int 1))) (mC (.int 1))) (mVar 0) (mC (.int 1))) (sSeq (sSet 3 (m2 gIx (m2 gIx (mVar 0) (mC (.int 0))) (mVar 2))) (sSeq (sIf (toT (m2 gGe (mVar 3) (m2 (gII cPow fun i j => i ^ j.toNat) (mC (.int 10)) (mC (.int 18))))) (sSeq (sSet 4 (m2 gIx (mVar 0) (mC (.int 0)))) (sSeq (sStore (m2 (gII cDiv (· / ·)) (mVar 3) (mVar 1)) (mVar 4) (mVar 2)) (sRet (m2 (gII cMod (· % ·)) (m1 gInt (mVar 3)) (mVar 1))))) (sNext)) (sSeq (sSet 5 (m2 (gII cMod (· % ·)) (m1 gInt (m2 gAdd (m2 gAdd (m2 gMul (mVar 3) (mC (.int 48271))) (m2 gMul (m2 gIx (mVar 0) (mC (.int 1))) (mC (.int 69621)))) (mC (.int 17)))) (mC (.int 2147483647)))) (sSeq (sSet 6 (m2 (gII cMod (· % ·)) (m1 gInt (m2 gAdd (m2 gMul (mVar 5) (mVar 5)) (m2 gMul (m2 gIx (mVar 0) (mC (.int 1))) (mC (.int 40692))))) (mC (.int 2147483629)))) (sSeq (sSet 7 (m2 (gII cMod (· % ·)) (m1 gInt (m2 gAdd (m2 gMul (mVar 6) (mC (.int 48611))) (mVar 5))) (mC (.int 2147483587)))) (sRet (m2 (gII cMod (· % ·)) (m1 gInt (m2 (gII cDiv (· / ·)) (mVar 7) (mC (.int 16)))) (mVar 1)))))))))
noncomputable def drawF : Fn := runBody 8 2 drawB
noncomputable def stateLc : Ex := mLc (mItV (mVar 0)) (bdN 2) (mYes) (m2 gAdd (m2 gMul (mC (.int 2)) (m1 gAbs (mVar 2))) (m1 gInt (m2 gLt (mVar 2) (mC (.int 0))))) [2]
noncomputable def stateB : Sm := sSeq (sSet 1 (mBox (stateLc))) (sSeq (sIf (toT (m2 gEq (mVar 1) (mLst (mNil)))) (sSet 1 (mBox (mLst (mCons (mC (.int 0)) (mNil))))) (sNext)) (sRet (mBox (mLst (mCons (mVar 1) (mCons (mC (.int 0)) (mCons (mC (.int 14)) (mCons (mC (.int 34)) (mNil)))))))))
noncomputable def stateF : Fn := runBody 3 1 stateB
/-- the state i with its rests j, two numbers of its own, and n draws that may still come -/
structure Draw (B : Bx) (i j : Nat) (p q : Int) (n : Nat) : Prop where
  ex : ∃ (ws : List Int) (c : Int), B[i]? = some (.lst [.box j, .int c, .int p, .int q]) ∧ B[j]? = some (.lst (ws.map .int)) ∧ ws ≠ [] ∧ ws.length ≤ 1000 ∧ (∀ w ∈ ws, 0 ≤ w) ∧ 0 ≤ c ∧ c + n ≤ 2 ^ 40
  ne : j ≠ i
theorem Draw.le {B : Bx} {i j : Nat} {p q : Int} {n m : Nat} (h : Draw B i j p q n) (hm : m ≤ n) : Draw B i j p q m := by
  obtain ⟨⟨ws, c, h1, h2, h3, h4, h5, h6, h7⟩, ne⟩ := h
  exact ⟨⟨ws, c, h1, h2, h3, h4, h5, h6, by omega⟩, ne⟩
theorem Draw.app {B C : Bx} {i j : Nat} {p q : Int} {n : Nat} (h : Draw B i j p q n) : Draw (B ++ C) i j p q n := by
  obtain ⟨⟨ws, c, h1, h2, h3⟩, ne⟩ := h
  exact ⟨⟨ws, c, by rw [List.getElem?_append_left (List.getElem?_eq_some_iff.mp h1).1]; exact h1, by rw [List.getElem?_append_left (List.getElem?_eq_some_iff.mp h2).1]; exact h2, h3⟩, ne⟩
theorem ix4_1 : ixN 4 1 = some 1 := rfl
/-- what stands elsewhere stands -/
def Else (B B' : Bx) (i j : Nat) : Prop := B'.length = B.length ∧ ∀ k, k ≠ i → k ≠ j → B'[k]? = B[k]?
theorem Else.refl {B : Bx} {i j : Nat} : Else B B i j := ⟨rfl, fun _ _ _ => rfl⟩
theorem Else.trans {B B' B2 : Bx} {i j : Nat} (a : Else B B' i j) (b : Else B' B2 i j) : Else B B2 i j := ⟨b.1.trans a.1, fun k h1 h2 => (b.2 k h1 h2).trans (a.2 k h1 h2)⟩
theorem modI {a b : Int} (h : 0 < b) : 0 ≤ a % b ∧ a % b < b := ⟨Int.emod_nonneg _ (by omega), Int.emod_lt_of_pos _ h⟩
theorem draw_ok {B : Bx} {i j : Nat} {p q : Int} {n : Nat} {many : Int} (h : Draw B i j p q (n + 1)) (h0 : 0 < many := by decide) (hm : many ≤ 10 ^ 40 := by decide) :
    ∃ (v : Int) (B' : Bx), 0 ≤ v ∧ v < many ∧ drawF [.box i, .int many] B = .ok (.int v) B' ∧ Draw B' i j p q n ∧ Else B B' i j := by
  obtain ⟨⟨ws, c, h1, h2, h3, h4, h5, h6, h7⟩, ne⟩ := h
  have hi : i < B.length := (List.getElem?_eq_some_iff.mp h1).1
  have hj : j < B.length := (List.getElem?_eq_some_iff.mp h2).1
  have hl : 0 < ws.length := List.length_pos_iff.mpr h3
  have a0 := modI (a := c) (b := (ws.length : Int)) (by omega)
  generalize ha : c % (ws.length : Int) = a at a0
  have hat : a.toNat < ws.length := by omega
  have ea : a = ((a.toNat : Nat) : Int) := by omega
  have hw : ws[a.toNat]? = some ws[a.toNat] := List.getElem?_eq_getElem hat
  have hw0 := h5 ws[a.toNat] (List.getElem_mem hat)
  generalize ws[a.toNat] = w at hw hw0
  have ax : atI (ws.map U.int) a = some (.int w) := by rw [ea, atI_k, List.getElem?_map, hw]; rfl
  have gj : (B.set i (.lst [.box j, .int (c + 1), .int p, .int q]))[j]? = some (.lst (ws.map .int)) := by rw [List.getElem?_set_ne (Ne.symm ne)]; exact h2
  have gi : (B.set i (.lst [.box j, .int (c + 1), .int p, .int q]))[i]? = some (.lst [.box j, .int (c + 1), .int p, .int q]) := List.getElem?_set_self hi
  have lnz : decide (0 < (ws.length : Int)) = true := by simpa using hl
  have e18 : cPow 10 18 = true := by decide
  have start : ∀ {Q : Fl → En → Bx → Prop}, OkP ((sSeq (sIf (toT (m2 gGe (mVar 3) (m2 (gII cPow fun i j => i ^ j.toNat) (mC (.int 10)) (mC (.int 18))))) (sSeq (sSet 4 (m2 gIx (mVar 0) (mC (.int 0)))) (sSeq (sStore (m2 (gII cDiv (· / ·)) (mVar 3) (mVar 1)) (mVar 4) (mVar 2)) (sRet (m2 (gII cMod (· % ·)) (m1 gInt (mVar 3)) (mVar 1))))) (sNext)) (sSeq (sSet 5 (m2 (gII cMod (· % ·)) (m1 gInt (m2 gAdd (m2 gAdd (m2 gMul (mVar 3) (mC (.int 48271))) (m2 gMul (m2 gIx (mVar 0) (mC (.int 1))) (mC (.int 69621)))) (mC (.int 17)))) (mC (.int 2147483647)))) (sSeq (sSet 6 (m2 (gII cMod (· % ·)) (m1 gInt (m2 gAdd (m2 gMul (mVar 5) (mVar 5)) (m2 gMul (m2 gIx (mVar 0) (mC (.int 1))) (mC (.int 40692))))) (mC (.int 2147483629)))) (sSeq (sSet 7 (m2 (gII cMod (· % ·)) (m1 gInt (m2 gAdd (m2 gMul (mVar 6) (mC (.int 48611))) (mVar 5))) (mC (.int 2147483587)))) (sRet (m2 (gII cMod (· % ·)) (m1 gInt (m2 (gII cDiv (· / ·)) (mVar 7) (mC (.int 16)))) (mVar 1)))))))
      [.val (.box i), .val (.int many), .val (.int a), .val (.int w), .un, .un, .un, .un] (B.set i (.lst [.box j, .int (c + 1), .int p, .int q]))) Q →
      OkP (drawB [.val (.box i), .val (.int many), .un, .un, .un, .un, .un, .un] B) Q := by
    intro Q h
    unfold drawB
    refine okP_seqL fun LQ hLQ => ?_
    simp [h1, h2, ha, hl]
    refine hLQ _ _ _ (then_nx ?_)
    clear hLQ LQ
    refine okP_seqL fun LQ hLQ => ?_
    simp [h1, ix4_1]
    refine hLQ _ _ _ (then_nx ?_)
    clear hLQ LQ
    refine okP_seqL fun LQ hLQ => ?_
    simp [gi, gj, ax]
    refine hLQ _ _ _ (then_nx ?_)
    clear hLQ LQ
    exact h
  by_cases hb : 10 ^ 18 ≤ w
  · have d0 : cDiv w many = true := cDiv_p h0 (by omega)
    have iw : ixN ws.length a = some a.toNat := ixN_of ea hat
    have hb' : decide ((1000000000000000000 : Int) ≤ w) = true := decide_eq_true hb
    have d1 : cMod w many = true := decide_eq_true h0
    have r := modI (a := w) h0
    refine ⟨w % many, (B.set i (.lst [.box j, .int (c + 1), .int p, .int q])).set j (.lst ((ws.set a.toNat (w / many)).map .int)), r.1, r.2, ?_, ⟨⟨ws.set a.toNat (w / many), c + 1, ?_, ?_, ?_, by simpa using h4, ?_, by omega, by omega⟩, ne⟩, by simp, fun k k1 k2 => ?_⟩
    · simp only [drawF]
      refine run_is rfl (start ?_)
      refine okP_seqT ?_
      refine okP_ift0 (by simp [e18, hb']) ?_
      refine okP_lock fun LQ hLQ => ?_
      simp [gi, gj, d0, iw, h0]
      exact hLQ _ _ _ (then_rt (ret_is' rfl (by rw [List.map_set])))
    · rw [List.getElem?_set_ne ne]; exact gi
    · exact List.getElem?_set_self (by simpa using hj)
    · intro z; apply h3; exact List.eq_nil_of_length_eq_zero (by have := congrArg List.length z; simpa using this)
    · intro x hx
      rcases List.mem_or_eq_of_mem_set hx with hx | rfl
      · exact h5 x hx
      · exact Int.ediv_nonneg hw0 (by omega)
    · rw [List.getElem?_set_ne (Ne.symm k2), List.getElem?_set_ne (Ne.symm k1)]
  · have hb' : decide ((1000000000000000000 : Int) ≤ w) = false := decide_eq_false hb
    have c1 : cMul (c + 1) 69621 = true := cMul_r (by decide) (by decide)
    have c2 : cMul (c + 1) 40692 = true := cMul_r (by decide) (by decide)
    have c3 : cMul w 48271 = true := cMul_r (by decide) (by decide)
    have b1 := modI (a := w * 48271 + (c + 1) * 69621 + 17) (b := 2147483647) (by decide)
    generalize e1 : (w * 48271 + (c + 1) * 69621 + 17) % 2147483647 = x1 at b1
    have c4 : cMul x1 x1 = true := cMul_l (by omega) (by omega)
    have b2 := modI (a := x1 * x1 + (c + 1) * 40692) (b := 2147483629) (by decide)
    generalize e2 : (x1 * x1 + (c + 1) * 40692) % 2147483629 = x2 at b2
    have c5 : cMul x2 48611 = true := cMul_r (by decide) (by decide)
    generalize e3 : (x2 * 48611 + x1) % 2147483587 = x3
    have d0 : cDiv x3 16 = true := cDiv_p (by decide) (by decide)
    have r := modI (a := x3 / 16) h0
    refine ⟨x3 / 16 % many, B.set i (.lst [.box j, .int (c + 1), .int p, .int q]), r.1, r.2, ?_, ⟨⟨ws, c + 1, gi, gj, h3, h4, h5, by omega, by omega⟩, ne⟩, by simp, fun k k1 k2 => ?_⟩
    · simp only [drawF]
      refine run_is rfl (start ?_)
      refine okP_seqT ?_
      refine okP_iff0 (by simp [e18, hb']) ?_
      refine okP_lock fun LQ hLQ => ?_
      simp only [e_sNext, OkP_ok]
      refine hLQ _ _ _ (then_nx ?_)
      refine okP_seqL fun LQ hLQ => ?_
      simp [gi, c1, c3, e1]
      refine hLQ _ _ _ (then_nx ?_)
      clear hLQ LQ
      refine okP_seqL fun LQ hLQ => ?_
      simp [gi, c2, c4, e2]
      refine hLQ _ _ _ (then_nx ?_)
      clear hLQ LQ
      refine okP_seqL fun LQ hLQ => ?_
      simp [c5, e3]
      refine hLQ _ _ _ (then_nx ?_)
      clear hLQ LQ
      refine okP_lock fun LQ hLQ => ?_
      simp [d0, h0]
      exact hLQ _ _ _ ret_is
    · rw [List.getElem?_set_ne (Ne.symm k1)]
theorem state_ok {B : Bx} {ns : List Int} (hn : ns.length ≤ 63) : ∃ (C : Bx) (i j : Nat), stateF [.scr ns] B = .ok (.box i) (B ++ C) ∧ Draw (B ++ C) i j 14 34 (2 ^ 39) ∧ B.length ≤ i ∧ B.length ≤ j := by
  let f : Int → Int := fun n => 2 * (if n < 0 then -n else n) + (if n < 0 then 1 else 0)
  have hf : ∀ n, 0 ≤ f n := by intro n; simp only [f]; split <;> omega
  have lc : stateLc [.val (.scr ns), .un, .un] B = .ok (.fr (.lst (ns.map fun n => .int (f n)))) [.val (.scr ns), .un, .un] B := by
    refine mLc_all U.int (fun n => .int (f n)) (by simp) (by simp) (by simp) (by omega) (fun n _ => ?_)
    have c1 : ∀ z : Int, cMul 2 z = true := fun z => cMul_l (by decide) (by decide)
    by_cases h : n < 0 <;> simp [Elt, f, h, c1]
  have e1 : (ns.map fun n => U.int (f n)) = (ns.map f).map .int := by rw [List.map_map]; rfl
  rw [e1] at lc
  have fl : Flt 2 (.lst ((ns.map f).map .int)) := by
    intro v hv
    obtain ⟨_, _, rfl⟩ := List.mem_map.mp hv
    trivial
  have q0 := eqU_nil (n := 1) (by decide) fl
  have hws : ∀ w ∈ ns.map f, 0 ≤ w := by intro w hw; obtain ⟨n, _, rfl⟩ := List.mem_map.mp hw; exact hf n
  have hwl : (ns.map f).length ≤ 63 := by simpa using hn
  generalize ns.map f = ws at lc q0 hws hwl
  cases ws with
  | nil =>
    refine ⟨[.lst [], .lst [.int 0], .lst [.box (B.length + 1), .int 0, .int 14, .int 34]], B.length + 2, B.length + 1, ?_, ⟨⟨[0], 0, app_get2, app_get1, by simp, by simp, by simp, by omega, by omega⟩, by omega⟩, by omega, by omega⟩
    simp only [stateF]
    refine run_is rfl ?_
    simp only [stateB, List.map_cons, List.map_nil, List.length_cons, List.length_nil, Nat.reduceAdd, Nat.reduceSub, List.replicate_succ, List.replicate_zero, List.cons_append, List.nil_append, Nat.zero_add, Nat.sub_self, List.append_nil]
    simp at q0 lc
    refine okP_seqL fun LQ hLQ => ?_
    simp [lc]
    refine hLQ _ _ _ (then_nx ?_)
    clear hLQ LQ
    refine okP_seqL fun LQ hLQ => ?_
    simp [q0]
    refine hLQ _ _ _ (then_nx ?_)
    clear hLQ LQ
    refine okP_lock fun LQ hLQ => ?_
    simp
    refine hLQ _ _ _ ?_
    clear hLQ LQ
    exact ret_is
  | cons w ws =>
    refine ⟨[.lst ((w :: ws).map .int), .lst [.box B.length, .int 0, .int 14, .int 34]], B.length + 1, B.length, ?_, ⟨⟨w :: ws, 0, app_get1, app_getQ, by simp, by omega, hws, by omega, by omega⟩, by omega⟩, by omega, by omega⟩
    simp only [stateF]
    refine run_is rfl ?_
    simp only [stateB, List.map_cons, List.map_nil, List.length_cons, List.length_nil, Nat.reduceAdd, Nat.reduceSub, List.replicate_succ, List.replicate_zero, List.cons_append, List.nil_append, Nat.zero_add, Nat.sub_self, List.append_nil]
    simp at q0 lc
    refine okP_seqL fun LQ hLQ => ?_
    simp [lc]
    refine hLQ _ _ _ (then_nx ?_)
    clear hLQ LQ
    refine okP_seqL fun LQ hLQ => ?_
    simp [q0]
    refine hLQ _ _ _ (then_nx ?_)
    clear hLQ LQ
    refine okP_lock fun LQ hLQ => ?_
    simp
    refine hLQ _ _ _ ?_
    clear hLQ LQ
    exact ret_is
end QB
/-! QcE: texts cut at a sign, texts of given signs. -/
namespace QB
open PySem L2
theorem span_ne {c : Nat} : ∀ l : List Nat, c ∈ l → ∃ post, l = l.takeWhile (· != c) ++ c :: post ∧ c ∉ l.takeWhile (· != c) ∧ (l.dropWhile (· != c)).drop 1 = post
  | [], h => by cases h
  | a :: l, h => by
    by_cases e : a = c
    · subst e
      refine ⟨l, ?_, ?_, ?_⟩ <;> simp
    · rcases List.mem_cons.mp h with h | h
      · exact absurd h.symm e
      · obtain ⟨post, h1, h2, h3⟩ := span_ne l h
        have e' : (a != c) = true := by simpa using e
        refine ⟨post, ?_, ?_, ?_⟩
        · rw [List.takeWhile_cons, e', if_pos rfl, List.cons_append, ← h1]
        · rw [List.takeWhile_cons, e', if_pos rfl, List.mem_cons]
          rintro (z | z)
          · exact e z.symm
          · exact h2 z
        · rw [List.dropWhile_cons, e', if_pos rfl]; exact h3
theorem tw_all {c : Nat} : ∀ l : List Nat, c ∉ l → l.takeWhile (· != c) = l
  | [], _ => rfl
  | a :: l, h => by
    rw [List.mem_cons] at h
    have e' : (a != c) = true := by simp; exact fun z => h (.inl z.symm)
    rw [List.takeWhile_cons, e', if_pos rfl, tw_all l fun z => h (.inr z)]
theorem dw_all {c : Nat} : ∀ l : List Nat, c ∉ l → l.dropWhile (· != c) = []
  | [], _ => rfl
  | a :: l, h => by
    rw [List.mem_cons] at h
    have e' : (a != c) = true := by simp; exact fun z => h (.inl z.symm)
    rw [List.dropWhile_cons, e', if_pos rfl, dw_all l fun z => h (.inr z)]
def sepOf (c : Nat) (l : List Nat) : List Nat := if c ∈ l then [c] else []
theorem part_eq {l : List Nat} {c : Nat} (h : l.length ≤ 16777216) : gPartition (.str (ofC l)) [.str (ofC [c])] = some (.w (.tup [.str (ofC (l.takeWhile (· != c))), .str (ofC (sepOf c l)), .str (ofC ((l.dropWhile (· != c)).drop 1))])) := by
  have e : Txt.partition (ofC l) (ofC [c]) = (ofC (l.takeWhile (· != c)), ofC (sepOf c l), ofC ((l.dropWhile (· != c)).drop 1)) := by
    by_cases hm : c ∈ l
    · obtain ⟨post, h1, h2, h3⟩ := span_ne l hm
      have k := TL.partition_app (y := ofC [c]) (s := c) (S := []) rfl (a := ofC (l.takeWhile (· != c))) (b := ofC post) h2
      rw [ofC_app, ofC_app, List.append_assoc, List.singleton_append, ← h1] at k
      rw [k, h3, sepOf, if_pos hm]
    · have k := TL.partition_none (y := ofC [c]) (s := c) (S := []) rfl (a := ofC l) hm
      rw [k, tw_all l hm, dw_all l hm, sepOf, if_neg hm]
      rfl
  show (if _ then _ else _) = _
  rw [e]
  simp [h]
theorem tw_len (p : Nat → Bool) (l : List Nat) : (l.takeWhile p).length ≤ l.length := by
  have := (List.takeWhile_sublist p (l := l)).length_le
  exact this
end QB
/-! QcF: in over rows of texts, == against the empty, texts made of given signs. -/
namespace QB
open PySem L2
theorem inT_eq (a : Str) (us : List U) : inU (.str a) (.tup us) = (flatUs us).map (inV (.str a)) := by
  show (match flatU (.str a), (seqOf (.tup us)).bind flatUs with | some v, some vs => some (inV v vs) | _, _ => none) = _
  simp only [seqOf, Option.bind_some, flatU]
  cases flatUs us <;> rfl
theorem inL_eq (a : Str) (us : List U) : inU (.str a) (.lst us) = (flatUs us).map (inV (.str a)) := by
  show (match flatU (.str a), (seqOf (.lst us)).bind flatUs with | some v, some vs => some (inV v vs) | _, _ => none) = _
  simp only [seqOf, Option.bind_some, flatU]
  cases flatUs us <;> rfl
theorem inF_cons (a b : Str) (us : List U) : (flatUs (.str b :: us)).map (inV (.str a)) = ((flatUs us).map (inV (.str a))).map fun r => (b == a) || r := by
  rw [flatUs]
  cases flatUs us <;> simp [flatU, inV, eqV]
@[simp] theorem inT_nil {a : Str} : inU (.str a) (.tup []) = some false := rfl
@[simp] theorem inL_nil {a : Str} : inU (.str a) (.lst []) = some false := rfl
@[simp] theorem inT_cons {a b : Str} {us : List U} : inU (.str a) (.tup (.str b :: us)) = (inU (.str a) (.tup us)).map fun r => (b == a) || r := by
  rw [inT_eq, inT_eq, inF_cons]
@[simp] theorem inL_cons {a b : Str} {us : List U} : inU (.str a) (.lst (.str b :: us)) = (inU (.str a) (.lst us)).map fun r => (b == a) || r := by
  rw [inL_eq, inL_eq, inF_cons]
theorem eqU_tnil {n : Nat} {us : List U} (hn : n + 1 ≤ 64) (h : Flt (n + 1) (.tup us)) : eqU (.tup us) (.tup []) = some us.isEmpty := by
  have f0 : Flt (n + 1) (.tup []) := fun v hv => by cases hv
  rw [eqU_flt hn h f0]
  cases us <;> rfl
theorem okS_of {l : List Nat} (h : ∀ c ∈ l, c < 1114112) : okS (ofC l) = true := by
  show (ofC l).cps.all (fun c => decide (c < 1114112)) = true
  rw [Array.all_eq_true_iff_forall_mem]
  intro x hx
  have hx' : x ∈ l := by simpa [ofC] using hx
  exact decide_eq_true (h x hx')
theorem all_contains {l s : List Nat} : (l.all fun c => decide (c ∈ s)) = true ↔ ∀ c ∈ l, c ∈ s := by simp
end QB
/-! QdA: dicts by texts and numbers: new, membership, store, get, len, list, sorted, from pairs. -/
namespace QB
open PySem L2
def keyU : U → Option Key
  | .str z => some (.inr z)
  | .int i => some (.inl i)
  | _ => none
def uKey : Key → U
  | .inr z => .str z
  | .inl i => .int i
theorem keyU_top {K : PySem.W.Frag} {H : Hp} {Lv : AS} {ρ : List Addr} {u : U} {v : V} {k : Key} (t : Top K H Lv ρ u v) (h : keyU u = some k) : v = kV k := by
  cases u <;> simp only [keyU, Option.some.injEq] at h <;> first | (cases h; done) | skip
  · subst h; exact top_int t
  · subst h; exact top_str t
theorem keyU_rep {K : PySem.W.Frag} {H : Hp} {Lv : AS} {ρ : List Addr} {u : U} {v : V} {k : Key} (t : Rep K H Lv ρ u v) (h : keyU u = some k) : v = kV k := by
  cases u <;> simp only [keyU, Option.some.injEq] at h <;> first | (cases h; done) | skip
  · subst h; simpa [Rep, kV] using t
  · subst h; simpa [Rep, kV] using t
theorem uKey_rep {K : PySem.W.Frag} {H : Hp} {Lv : AS} {ρ : List Addr} : ∀ k : Key, Rep K H Lv ρ (uKey k) (kV k)
  | .inl i => by simp [uKey, Rep, kV]
  | .inr z => by simp [uKey, Rep, kV]
theorem uKeys_reps {K : PySem.W.Frag} {H : Hp} {Lv : AS} {ρ : List Addr} : ∀ ks : List Key, Reps K H Lv ρ (ks.map uKey) (ks.map kV)
  | [] => Reps.nil
  | k :: ks => Reps.cons (uKey_rep k) (uKeys_reps ks)
@[simp] theorem keyU_uKey (k : Key) : keyU (uKey k) = some k := by cases k <;> rfl
def hasK (ks : List Key) (k : Key) : Bool := ks.any fun k' => decide (k' = k)
theorem hasK_iff {ks : List Key} {k : Key} : hasK ks k = true ↔ k ∈ ks := by
  unfold hasK
  rw [List.any_eq_true]
  constructor
  · rintro ⟨p, hp, e⟩; rw [← of_decide_eq_true e]; exact hp
  · intro hp; exact ⟨k, hp, decide_eq_true rfl⟩
theorem valV_mem {kvs : List (Key × V)} {k : Key} : (valV kvs k).isSome = hasK (kvs.map (·.1)) k := by
  rw [← valV_any, hasK, List.any_map]; rfl
section
variable {X : Cy} {a b c e o i f : Expr} {es : List Expr} {fa fb fo fe fi ff : Ex} {fs : Ar} {pos p p2 p3 cpos apos pos' : Pos} {x name : Str}
def mDct0 : Ex := fun E B => .ok (.fr (.dct [] [])) E B
theorem sndE_dct0 : SndE X (.Dict [] [] pos) mDct0 :=
  ⟨_, pe_dnewK, fun F ρ E B σ H Q rl h p hp => h ρ _ _ (Aft.freshD (kvs := []) rl hp rfl Reps.nil)⟩
/-! ### k in d -/
def gDIn (neg : Bool) (a b : U) : Option R :=
  match b with
  | .dct ks _ => (keyU a).map fun k => .w (.bl (if neg then !hasK ks k else hasK ks k))
  | _ => none
theorem op2_din (hu : X.A.units + 1 < cLine) : Op2S X (compareOp .In) (gDIn false) := by
  refine ⟨fun y x H Q => ∃ a o, x = .ref a ∧ DGet H a y o ∧ Q (.bl o.isSome) H, fun pins s σ H x y v u Q I r1 r2 h => ?_, fun F ρ E B σ H u1 u2 v1 v2 r3 Q rl t1 t2 e q => ?_⟩
  · obtain ⟨a, o, rfl, g, q⟩ := h
    obtain rfl : u = Value.ref a := r2
    exact d_in hu I g r1 fun s3 I3 => ⟨.bl o.isSome, H, I3, rfl, q⟩
  · cases u2 <;> first | (cases e; done) | skip
    simp only [gDIn, Option.map_eq_some_iff] at e
    obtain ⟨k, e1, rfl⟩ := e
    obtain ⟨pp, kvs, rfl, h1, rfl, h2⟩ := t2
    have hk := keyU_top t1 e1
    subst hk
    exact ⟨pp, _, rfl, DGet_kR h1, q H _ (by rw [valV_mem]; exact Aft.val rl (by simp [Rep]))⟩
theorem op2_dnotin (hu : X.A.units + 1 < cLine) : Op2S X (compareOp .NotIn) (gDIn true) := by
  refine ⟨fun y x H Q => ∃ a o, x = .ref a ∧ DGet H a y o ∧ Q (.bl (!o.isSome)) H, fun pins s σ H x y v u Q I r1 r2 h => ?_, fun F ρ E B σ H u1 u2 v1 v2 r3 Q rl t1 t2 e q => ?_⟩
  · obtain ⟨a, o, rfl, g, q⟩ := h
    obtain rfl : u = Value.ref a := r2
    exact d_notIn hu I g r1 fun s3 I3 => ⟨.bl (!o.isSome), H, I3, rfl, q⟩
  · cases u2 <;> first | (cases e; done) | skip
    simp only [gDIn, Option.map_eq_some_iff] at e
    obtain ⟨k, e1, rfl⟩ := e
    obtain ⟨pp, kvs, rfl, h1, rfl, h2⟩ := t2
    have hk := keyU_top t1 e1
    subst hk
    exact ⟨pp, _, rfl, DGet_kR h1, q H _ (by rw [valV_mem]; exact Aft.val rl (by simp [Rep]))⟩
/-! ### built-ins -/
def gLenD : U → Option R
  | .dct ks _ => some (.w (.int ks.length))
  | _ => none
theorem call1_lenD : Call1S X (.builtin "len") gLenD := by
  refine ⟨fun xs H Q => ∃ a kvs, xs = [V.ref a] ∧ Rd H a (.dK kvs) ∧ Q (.int kvs.length) H, fun pins s σ H xs us Q I r h => ?_, fun F ρ E B σ H u1 v1 r3 Q rl t e q => ?_⟩
  · obtain ⟨a, kvs, rfl, ha, q⟩ := h
    obtain ⟨u, rfl, ru⟩ := vals1 r
    cases ru
    exact d_len I ha fun t s' I' => ⟨.int kvs.length, H, I', ⟨t, rfl⟩, q⟩
  cases u1 <;> first | (cases e; done) | skip
  cases e
  obtain ⟨pp, kvs, rfl, h1, rfl, h2⟩ := t
  exact ⟨pp, kvs, rfl, h1, q H _ (Aft.val rl (by simp [Rep]))⟩
def gListD : U → Option R
  | .dct ks _ => some (.fr (.lst (ks.map uKey)))
  | _ => none
theorem call1_listD (hc : X.calm = true) : Call1S X (.type "list") gListD := by
  refine ⟨_, call_listD hc, fun F ρ E B σ H u1 v1 r3 Q rl t e q => ?_⟩
  cases u1 <;> first | (cases e; done) | skip
  cases e
  obtain ⟨pp, kvs, rfl, h1, rfl, h2⟩ := t
  refine ⟨pp, kvs, rfl, h1, fun l hl => q _ _ (Aft.fresh rl hl ?_)⟩
  have := uKeys_reps (K := X.K) (H := H) (Lv := LvF F ρ E B σ) (ρ := ρ) (kvs.map (·.1))
  simpa [List.map_map, Function.comp_def] using this
def gDictD : U → Option R
  | .dct ks us => some (.fr (.dct ks us))
  | _ => none
theorem call1_dictD : Call1S X (.type "dict") gDictD := by
  refine ⟨_, call_dictD, fun F ρ E B σ H u1 v1 r3 Q rl t e q => ?_⟩
  cases u1 <;> first | (cases e; done) | skip
  cases e
  obtain ⟨pp, kvs, rfl, h1, rfl, h2⟩ := t
  exact ⟨pp, kvs, rfl, h1, fun l hl => q _ _ (Aft.freshD rl hl rfl h2)⟩
/-- pairs of keys and values -/
def pairsU : List U → Option (List (Key × U))
  | [] => some []
  | .tup [ku, u] :: r => match keyU ku, pairsU r with
    | some k, some ps => some ((k, u) :: ps)
    | _, _ => none
  | _ => none
def gDictP : U → Option R
  | .lst us => match pairsU us with
    | some ps => if (ps.map (·.1)).Nodup ∧ ps.length ≤ 16777216 then some (.fr (.dct (ps.map (·.1)) (ps.map (·.2)))) else none
    | none => none
  | _ => none
theorem merge_nodup : ∀ (kvs acc : List (Key × V)), ((acc ++ kvs).map (·.1)).Nodup → mergeK acc kvs = acc ++ kvs
  | [], acc, h => by simp [mergeK]
  | kv :: kvs, acc, h => by
    have hn : valV acc kv.1 = none := by
      cases z : valV acc kv.1 with
      | none => rfl
      | some v =>
        have m := valV_in z
        rw [List.map_append, List.nodup_append] at h
        exact absurd rfl (h.2.2 kv.1 m kv.1 (by simp))
    show mergeK (putK acc kv.1 kv.2) kvs = _
    rw [putK_new kv.2 hn, merge_nodup kvs (acc ++ [(kv.1, kv.2)]) (by simpa using h)]
    simp
theorem pairs_reps {K : PySem.W.Frag} {H : Hp} {Lv : AS} {ρ : List Addr} : ∀ {us : List U} {vs : List V} {ps : List (Key × U)}, Reps K H Lv ρ us vs → pairsU us = some ps →
    ∃ (as : List Addr) (kvs : List (Key × V)), vs = as.map V.ref ∧ Paired (fun p kv => SqT K H p [kV kv.1, kv.2]) as kvs ∧ kvs.map (·.1) = ps.map (·.1) ∧ Reps K H Lv ρ (ps.map (·.2)) (kvs.map (·.2)) ∧ kvs.length = ps.length
  | [], vs, ps, h, e => by
    simp only [Reps] at h; subst h
    simp only [pairsU, Option.some.injEq] at e; subst e
    exact ⟨[], [], rfl, .nil, rfl, Reps.nil, rfl⟩
  | u :: us, vs, ps, h, e => by
    simp only [Reps] at h
    obtain ⟨v, r, rfl, h1, h2⟩ := h
    unfold pairsU at e
    split at e
    · next hh => cases hh
    · next ku w r' hh =>
      injection hh with hh1 hh2
      subst hh1 hh2
      split at e
      · next k ps' ek eps =>
        cases e
        obtain ⟨as, kvs, rfl, q1, q2, q3, q4⟩ := pairs_reps h2 eps
        simp only [Rep] at h1
        obtain ⟨p, ws, rfl, hp, hr⟩ := h1
        simp only [Reps] at hr
        obtain ⟨kv, r2, rfl, hk, v2, r3, rfl, hv, rfl⟩ := hr
        have := keyU_rep hk ek
        subst this
        exact ⟨p :: as, (k, v2) :: kvs, rfl, .cons (sqT_of hp) q1, by simp [q2], by simpa using Reps.cons hv q3, by simp [q4]⟩
      · cases e
    · cases e
theorem call1_dictP (hc : X.calm = true) : Call1S X (.type "dict") gDictP := by
  refine ⟨_, call_dictP hc, fun F ρ E B σ H u1 v1 r3 Q rl t e q => ?_⟩
  cases u1 <;> first | (cases e; done) | skip
  next us =>
  simp only [gDictP] at e
  split at e
  · next ps eps =>
    split at e
    · next hn =>
      cases e
      obtain ⟨pp, vs, rfl, h1, h2⟩ := t
      obtain ⟨as, kvs, rfl, q1, q2, q3, q4⟩ := pairs_reps h2 eps
      refine ⟨pp, as, kvs, rfl, .inl (.inl h1), q1, fun l hl => ?_⟩
      rw [merge_nodup kvs [] (by simpa [q2] using hn.1), List.nil_append]
      exact q _ _ (Aft.freshD rl hl q2 q3)
    · cases e
  · cases e
end
end QB
/-! QdB: d[k] = v, d.get, sorted(d), displays. -/
namespace QB
open PySem L2
def putKs (ks : List Key) (k : Key) : List Key := if hasK ks k = true then ks else ks ++ [k]
def putVs (ks : List Key) (us : List U) (k : Key) (u : U) : List U := if hasK ks k = true then List.zipWith (fun k' u' => if k' = k then u else u') ks us else us ++ [u]
theorem put_keys {kvs : List (Key × V)} {k : Key} {v : V} : (putK kvs k v).map (·.1) = putKs (kvs.map (·.1)) k := by
  unfold putK putKs
  rw [valV_any, valV_mem]
  split
  · rw [List.map_map]
    refine List.map_congr_left fun kv _ => ?_
    simp only [Function.comp]
    split <;> rfl
  · simp
theorem put_vals {K : PySem.W.Frag} {H : Hp} {Lv : AS} {ρ : List Addr} {k : Key} {u : U} {v : V} (hv : Rep K H Lv ρ u v) {us : List U} {kvs : List (Key × V)} (h : Reps K H Lv ρ us (kvs.map (·.2))) :
    Reps K H Lv ρ (putVs (kvs.map (·.1)) us k u) ((putK kvs k v).map (·.2)) := by
  unfold putK putVs
  rw [valV_any, valV_mem]
  split
  · next hx =>
    clear hx
    induction kvs generalizing us with
    | nil => cases us with
      | nil => exact Reps.nil
      | cons a b => simp [Reps] at h
    | cons kv kvs ih =>
      cases us with
      | nil => simp [Reps] at h
      | cons w us =>
        simp only [List.map_cons, Reps] at h
        obtain ⟨x, r, hx, h1, h2⟩ := h
        cases hx
        simp only [List.map_cons, List.zipWith_cons_cons, Reps]
        refine ⟨_, _, rfl, ?_, ih h2⟩
        split
        · exact hv
        · exact h1
  · rw [List.map_append]
    exact h.append (Reps.one (v := v) hv)
section
variable {X : Cy} {a b c e o i f : Expr} {es : List Expr} {fa fb fo fe fi ff : Ex} {fs : Ar} {pos p p2 p3 cpos apos pos' : Pos} {x name : Str}
/-- o[i] = e, o a dict -/
def sDSt (fe fo fi : Ex) : Sm := fun E B => (fe E B).bind fun r0 E0 B0 =>
  match settle r0 E0 with
  | none => .bad
  | some (u, E0') => (fo E0' B0).bind fun r E1 B1 => (fi E1 B1).bind fun ri E2 B2 =>
    match ri, cellOf r E2 B2 with
    | .w ku, some (.dct ks us) => match keyU ku with
      | some k => if ks.length < 16777216 then .ok .nx (put r E2 B2 (.dct (putKs ks k) (putVs ks us k u))).1 (put r E2 B2 (.dct (putKs ks k) (putVs ks us k u))).2 else .bad
      | none => .bad
    | _, _ => .bad
theorem sndS_dst (hu : X.A.units + 1 < cLine) (he : SndE X e fe) (ho : SndE X o fo) (hi : SndE X i fi) (hs : swapsWith e (some (.Subscript o i pos')) pos.line X.env = pure false := by rfl) :
    SndS X (.Assign [.Subscript o i pos'] e pos) (sDSt fe fo fi) := by
  obtain ⟨te, pe, he⟩ := he
  obtain ⟨to, po, ho⟩ := ho
  obtain ⟨ti, pi, hi⟩ := hi
  refine ⟨_, ps_dput hu po pi pe hs, fun F ρ E B σ H D rl q => ?_⟩
  refine he F ρ E B σ H _ rl ?_
  simp only [sDSt] at q
  cases h1 : fe E B with
  | bad => rw [h1] at q; exact q
  | ex c E' B' => rw [h1] at q ; first | exact q | exact Aft.exq (by assumption) q | exact AftT.exq (by assumption) q | exact Aft.exq (by assumption) (Aft.exq (by assumption) q) | exact AftT.exq (by assumption) (Aft.exq (by assumption) q) | exact AftT.exq (AftA.t (by assumption)) q | exact ExQ.px q (Aft.px (by assumption)) | exact ExQ.px q (List.IsPrefix.trans (AftT.px (by assumption)) (Aft.px (by assumption))) | exact Aft.exq (by assumption) (AftT.exq (by assumption) q) | exact Aft.exq (by assumption) (Aft.exq (by assumption) (AftT.exq (by assumption) q))
  | ok r0 E0 B0 =>
    rw [h1] at q
    intro ρ0 H0 v0 A0
    simp only [O.bind_ok] at q
    split at q
    · exact q.elim
    · next u E0' es =>
      obtain ⟨T0, R0⟩ := A0.settled es
      refine ho F ρ0 E0' B0 σ H0 _ T0.rel ?_
      cases h2 : fo E0' B0 with
      | bad => rw [h2] at q; exact q
      | ex c E' B' => rw [h2] at q ; first | exact q | exact Aft.exq (by assumption) q | exact AftT.exq (by assumption) q | exact Aft.exq (by assumption) (Aft.exq (by assumption) q) | exact AftT.exq (by assumption) (Aft.exq (by assumption) q) | exact AftT.exq (AftA.t (by assumption)) q | exact ExQ.px q (Aft.px (by assumption)) | exact ExQ.px q (List.IsPrefix.trans (AftT.px (by assumption)) (Aft.px (by assumption))) | exact Aft.exq (by assumption) (AftT.exq (by assumption) q) | exact Aft.exq (by assumption) (Aft.exq (by assumption) (AftT.exq (by assumption) q))
      | ok r E1 B1 =>
        rw [h2] at q
        intro ρ1 H1 v1 A1
        simp only [O.bind_ok] at q
        refine hi _ ρ1 E1 B1 σ H1 _ A1.rel ?_
        cases h3 : fi E1 B1 with
        | bad => rw [h3] at q; exact q
        | ex c E' B' => rw [h3] at q ; first | exact q | exact Aft.exq (by assumption) q | exact AftT.exq (by assumption) q | exact Aft.exq (by assumption) (Aft.exq (by assumption) q) | exact AftT.exq (by assumption) (Aft.exq (by assumption) q) | exact AftT.exq (AftA.t (by assumption)) q | exact ExQ.px q (Aft.px (by assumption)) | exact ExQ.px q (List.IsPrefix.trans (AftT.px (by assumption)) (Aft.px (by assumption))) | exact Aft.exq (by assumption) (AftT.exq (by assumption) q) | exact Aft.exq (by assumption) (Aft.exq (by assumption) (AftT.exq (by assumption) q))
        | ok ri E2 B2 =>
          rw [h3] at q
          intro ρ2 H2 v2 A2
          simp only [O.bind_ok] at q
          split at q
          · next r' ku ks us hc =>
            split at q
            · next k hk =>
              split at q
              · next hl =>
                have nf := cellOf_nfr hc
                have A2' := A2.letgo
                have A12 := A1.carry A2'
                have ae2 : F.addR H2 r v1 = F := addR_nfr nf
                have rel2 : Rel X.K F ρ2 E2 B2 σ H2 := by have := A12.rel; rw [ae2] at this; exact this
                have rep2 : RepR X.K F H2 (LvF F ρ2 E2 B2 σ) ρ2 E2 σ r v1 := by have := A12.rep; rw [ae2] at this; exact this
                have rr := A2.rep
                simp only [RepR] at rr
                have ek := keyU_rep rr hk
                subst ek
                have hru : Rep X.K H2 (LvF F ρ2 E2 B2 σ) ρ2 u v0 := Rep.mono A12.letgo.stp A12.px _ _ R0
                obtain ⟨pp, ep, cp, wr⟩ := wr_ok (c' := .dct (putKs ks k) (putVs ks us k u)) (ob := .lst []) rel2 nf rep2 hc rfl rfl
                obtain ⟨kvs, hw, rfl, hr⟩ := cp
                have T := wr (.dK (putK kvs k v0)) fun Lv' s => ⟨putK kvs k v0, upd_same, put_keys, put_vals (Rep.mono s (List.prefix_refl _) _ _ hru) (hr.mono s (List.prefix_refl _))⟩
                refine ⟨pp, _, ep, DPut.k hw (by rw [sizeLine_eq]; simpa using hl), ?_⟩
                exact q ρ2 σ _ ((T0.trans A12.letgo).px) T.rel
              · exact q.elim
            · exact q.elim
          · exact q.elim
end
end QB
/-! QdC: sorted(..) of texts, sorted(d). -/
namespace QB
open PySem L2 PyProof.Rows PySem.Spec
abbrev leS (a b : Str) : Prop := a.cps.toList ≤ b.cps.toList
theorem leS_trans {a b c : Str} (h : leS a b) (g : leS b c) : leS a c := List.le_trans h g
theorem leS_total (a b : Str) : leS a b ∨ leS b a := List.le_total _ _
theorem leS_anti {a b : Str} (h : leS a b) (g : leS b a) : a = b := by
  have : a.cps.toList = b.cps.toList := List.le_antisymm h g
  cases a; cases b
  simp only [Str.mk.injEq]
  exact Array.toList_inj.mp this
theorem leS_refl (a : Str) : leS a a := List.le_refl _
theorem rising_le {p x : Str} (h : (!Spec.ltCps x.cps.toList p.cps.toList) = true) : leS p x := by
  rw [ltCps_eq] at h
  simpa using h
theorem pw_rising : ∀ {p : Str} {l : List Str}, risingS p l = true → (p :: l).Pairwise leS
  | p, [], _ => by simp
  | p, x :: r, h => by
    simp only [risingS, Bool.and_eq_true] at h
    have h1 := rising_le h.1
    have h2 := pw_rising h.2
    refine List.pairwise_cons.mpr ⟨fun y hy => ?_, h2⟩
    rcases List.mem_cons.mp hy with rfl | hy
    · exact h1
    · exact leS_trans h1 ((List.pairwise_cons.mp h2).1 y hy)
theorem pw_sorted : ∀ {l : List Str}, sortedS l = true → l.Pairwise leS
  | [], _ => .nil
  | x :: r, h => pw_rising h
theorem permS_eq : ∀ {l r : List Str}, l.Perm r → l.Pairwise leS → r.Pairwise leS → l = r
  | [], r, p, _, _ => by rw [List.nil_perm.mp p]
  | a :: l, [], p, _, _ => by have := p.length_eq; simp at this
  | a :: l, b :: r, p, h1, h2 => by
    have a1 : leS b a := by
      rcases List.mem_cons.mp (p.mem_iff.mp (List.mem_cons_self ..)) with h | h
      · rw [h]; exact leS_refl _
      · exact (List.pairwise_cons.mp h2).1 a h
    have a2 : leS a b := by
      rcases List.mem_cons.mp (p.mem_iff.mpr (List.mem_cons_self ..)) with h | h
      · rw [h]; exact leS_refl _
      · exact (List.pairwise_cons.mp h1).1 b h
    have e : a = b := leS_anti a2 a1
    subst e
    rw [permS_eq ((List.perm_cons a).mp p) (List.pairwise_cons.mp h1).2 (List.pairwise_cons.mp h2).2]
def sortS (l : List Str) : List Str := l.mergeSort fun a b => decide (leS a b)
theorem sortS_perm (l : List Str) : (sortS l).Perm l := List.mergeSort_perm ..
theorem sortS_pw (l : List Str) : (sortS l).Pairwise leS := by
  have := List.pairwise_mergeSort (le := fun a b : Str => decide (leS a b)) (fun a b c h1 h2 => by simp only [decide_eq_true_eq] at *; exact leS_trans h1 h2) (fun a b => by
    rcases leS_total a b with h | h <;> simp [h]) l
  exact this.imp fun h => by simpa using h
theorem sortS_eq {l r : List Str} (p : r.Perm l) (h : r.Pairwise leS) : sortS l = r := permS_eq ((sortS_perm l).trans p.symm) (sortS_pw l) h
theorem mem_sortS {l : List Str} {a : Str} : a ∈ sortS l ↔ a ∈ l := (sortS_perm l).mem_iff
theorem len_sortS {l : List Str} : (sortS l).length = l.length := (sortS_perm l).length_eq
theorem sortS_sorted {l ys : List Str} (p : ys.Perm l) (h : sortedS ys = true) : ys = sortS l := (sortS_eq p (pw_sorted h)).symm
def txtKs : List Key → Option (List Str)
  | [] => some []
  | .inr z :: r => (txtKs r).map (z :: ·)
  | .inl _ :: _ => none
theorem txtKs_eq : ∀ {ks : List Key} {zs : List Str}, txtKs ks = some zs → ks = zs.map Sum.inr
  | [], zs, h => by simp only [txtKs, Option.some.injEq] at h; subst h; rfl
  | .inr z :: r, zs, h => by
    simp only [txtKs, Option.map_eq_some_iff] at h
    obtain ⟨w, h1, rfl⟩ := h
    rw [txtKs_eq h1]; rfl
  | .inl _ :: _, zs, h => by simp [txtKs] at h
@[simp] theorem txtKs_map : ∀ zs : List Str, txtKs (zs.map Sum.inr) = some zs
  | [] => rfl
  | z :: r => by simp [txtKs, txtKs_map r]
theorem strs_reps {K : PySem.W.Frag} {H : Hp} {Lv : AS} {ρ : List Addr} : ∀ zs : List Str, Reps K H Lv ρ (zs.map U.str) (zs.map V.str)
  | [] => Reps.nil
  | z :: zs => Reps.cons (by simp [Rep]) (strs_reps zs)
def gSortD : U → Option R
  | .dct ks _ => match txtKs ks with
    | some zs => if zs.length < 64 then some (.fr (.lst ((sortS zs).map .str))) else none
    | none => none
  | _ => none
section
variable {X : Cy}
theorem call1_sortD (hc : X.calm = true) : Call1S X (.builtin "sorted") gSortD := by
  refine ⟨_, call_sortedD hc, fun F ρ E B σ H u1 v1 r3 Q rl t e q => ?_⟩
  cases u1 <;> first | (cases e; done) | skip
  simp only [gSortD] at e
  split at e
  · next zs ez =>
    split at e
    · next hl =>
      cases e
      obtain ⟨pp, kvs, rfl, h1, h2, h3⟩ := t
      refine ⟨pp, kvs, zs, rfl, h1, by rw [h2]; exact txtKs_eq ez, hl, fun ys p hp hs hn => ?_⟩
      rw [sortS_sorted hp hs]
      exact q _ _ (Aft.fresh rl hn (strs_reps _))
    · cases e
  · cases e
end
end QB
/-! QdD: walks over a resting dict: it is locked on the way and stays so. -/
namespace QB
open PySem L2
/-- a dict that an expression gives is locked -/
def tLkD (td : TE) : TE := fun σ H Q => td σ H fun x H1 => ∃ d kvs, x = .ref d ∧ ((H1 d = some (.dK kvs) ∧ ∀ o, Q x (upd H1 d (.frz o (.dK kvs)))) ∨ ∃ o, H1 d = some (.frz o (.dK kvs)) ∧ Q x H1)
theorem pe_lkD {X : Cy} {e : Expr} {td : TE} (he : PE X e td) : PE X e (tLkD td) := by
  refine ⟨fun pins s σ H Q I h => thn (he.run pins s σ H _ I h) fun u s1 ⟨x, H1, I1, rx, d, kvs, ex, q⟩ => ?_⟩
  rcases q with ⟨hd, q⟩ | ⟨o, hd, q⟩
  · obtain ⟨od, I2⟩ := I1.lock hd trivial
    exact ⟨x, _, I2, rx, q od⟩
  · exact ⟨x, H1, I1, rx, q⟩
section
variable {K : PySem.W.Frag} {F : Fm} {ρ : List Addr} {E : En} {B : Bx} {σ : L2.St} {H : Hp} {d : Addr} {kvs : List (Key × V)} {o : Obj}
theorem lk_stp {Lv : AS} (hd : H d = some (.dK kvs)) : Stp H Lv (upd H d (.frz o (.dK kvs))) Lv := fun q x h n => by
  by_cases e : q = d
  · subst e
    rw [hd] at h
    cases h
    exact ⟨.inr ⟨o, kvs, rfl, upd_same⟩, n⟩
  · exact ⟨.inl (by rw [upd_ne e]; exact h), n⟩
theorem Rel.lkD (r : Rel K F ρ E B σ H) (hd : H d = some (.dK kvs)) (nl : ¬ LvF F ρ E B σ d) : Rel K F ρ E B σ (upd H d (.frz o (.dK kvs))) := by
  have s : Stp H (LvF F ρ E B σ) (upd H d (.frz o (.dK kvs))) (LvF F ρ E B σ) := lk_stp hd
  have px : ρ <+: ρ := List.prefix_refl _
  have eqv : ∀ q, LvF F ρ E B σ q → (upd H d (.frz o (.dK kvs))) q = H q := fun q h => upd_ne (fun e => nl (e ▸ h))
  refine ⟨r.elen, r.blen, fun i u h => ?_, fun i c h => ?_, r.oinj, fun i c q h1 h2 h3 => ?_, r.binj, fun q h => ?_, r.old.trans s, fun q x h => ?_⟩
  · obtain ⟨v, h1, h2⟩ := r.val i u h
    exact ⟨v, h1, h2.mono s px⟩
  · obtain ⟨h1, q, h2, h3, h4⟩ := r.own i c h
    exact ⟨h1, q, h2, h3.mono s px (eqv q (.inr (.inr ⟨i, c, h, h2⟩))), h4⟩
  · obtain ⟨h4, h5⟩ := r.box i c q h1 h2 h3
    exact ⟨h4.mono s px (eqv q (.inr (.inl ⟨i, c, h1, h2, h3⟩))), h5⟩
  · obtain ⟨h1, x, h2⟩ := r.out q h
    exact ⟨by rw [eqv q (.inl h)]; exact h1, x, h2⟩
  · obtain ⟨x', h1⟩ := r.grow q x h
    by_cases e : q = d
    · subst e; exact ⟨_, upd_same⟩
    · exact ⟨x', by rw [upd_ne e]; exact h1⟩
def itemsD (ks : List Key) (us : List U) : List U := List.zipWith (fun k u => .tup [uKey k, u]) ks us
abbrev GD (K : PySem.W.Frag) (d : Addr) (o : Obj) (kvs : List (Key × V)) (us : List U) : Hp → AS → List Addr → Prop := fun H Lv ρ => H d = some (.frz o (.dK kvs)) ∧ ¬ Lv d ∧ Reps K H Lv ρ us (kvs.map (·.2))
theorem gd_keep {us : List U} {H H' : Hp} {Lv Lv' : AS} {ρ ρ' : List Addr} (g : GD K d o kvs us H Lv ρ) (s : Stp H Lv H' Lv') (px : ρ <+: ρ') : GD K d o kvs us H' Lv' ρ' :=
  ⟨(s d _ g.1 g.2.1).1.at (fun _ z => by cases z), (s d _ g.1 g.2.1).2, g.2.2.mono s px⟩
theorem walkU_keys {us : List U} : WalkU K (Itk d o kvs) ((kvs.map (·.1)).map uKey) yes (GD K d o kvs us) := by
  refine ⟨fun H Lv ρ H' Lv' ρ' B' g s px _ _ => gd_keep g s px, fun H Lv ρ i g hi => ⟨g.1, by simpa using hi⟩, fun H Lv ρ g => ⟨g.1, by simp⟩, fun H Lv ρ i u x H' g hu hy _ => ?_⟩
  obtain ⟨rfl, k, v, hk, rfl⟩ := hy
  refine ⟨fun _ _ z => z, ?_⟩
  simp only [List.getElem?_map, hk, Option.map_some, Option.some.injEq] at hu
  subst hu
  exact uKey_rep k
theorem walkU_vals {us : List U} : WalkU K (Itd d o kvs) us yes (GD K d o kvs us) := by
  refine ⟨fun H Lv ρ H' Lv' ρ' B' g s px _ _ => gd_keep g s px, fun H Lv ρ i g hi => ⟨g.1, by have := g.2.2.len; simp at this; omega⟩, fun H Lv ρ g => ⟨g.1, by have := g.2.2.len; simp at this; omega⟩, fun H Lv ρ i u x H' g hu hy _ => ?_⟩
  obtain ⟨rfl, k, hk⟩ := hy
  refine ⟨fun _ _ z => z, ?_⟩
  obtain ⟨v, h1, h2⟩ := g.2.2.get hu
  simp only [List.getElem?_map, hk, Option.map_some, Option.some.injEq] at h1
  subst h1
  exact h2
theorem walkU_items {us : List U} (hl : us.length = kvs.length) : WalkU K (Iti d o kvs) (itemsD (kvs.map (·.1)) us) yes (GD K d o kvs us) := by
  refine ⟨fun H Lv ρ H' Lv' ρ' B' g s px _ _ => gd_keep g s px, fun H Lv ρ i g hi => ⟨g.1, by simp [itemsD] at hi; omega⟩, fun H Lv ρ g => ⟨g.1, by simp [itemsD]; omega⟩, fun H Lv ρ i u x H' g hu hy lv => ?_⟩
  obtain ⟨T, k, v, hk, rfl, hT, rfl⟩ := hy
  have gr : ∀ q o, H q = some o → (upd H T (.tup [kV k, v])) q = some o := fun q o h => by rw [upd_ne (ne_of_none h hT)]; exact h
  have nT : ¬ Lv T := fun z => by obtain ⟨o, h⟩ := lv T z; rw [hT] at h; cases h
  have s : Stp H Lv (upd H T (.tup [kV k, v])) Lv := fun q o h n => ⟨.inl (gr q o h), n⟩
  refine ⟨gr, ?_⟩
  unfold itemsD at hu
  rw [List.getElem?_zipWith] at hu
  cases hu2 : us[i]? with
  | none => rw [hu2] at hu; simp [hk] at hu
  | some w =>
    rw [hu2, List.getElem?_map, hk] at hu
    simp only [Option.map_some, Option.some.injEq] at hu
    subst hu
    obtain ⟨v', h1, h2⟩ := g.2.2.get hu2
    simp only [List.getElem?_map, hk, Option.map_some, Option.some.injEq] at h1
    subst h1
    simp only [Rep]
    exact ⟨T, _, rfl, .inl ⟨.inl upd_same, nT⟩, Reps.cons (uKey_rep k) (Reps.one (h2.mono s (List.prefix_refl _)))⟩
end
def mItD (g : List Key → List U → List U) (f : Ex) : Iv := fun E B => (f E B).bind fun r E1 B1 =>
  match settle r E1 with
  | some (.dct ks us, E2) => .ok (g ks us, yes) E2 B1
  | _ => .bad
def keysD (ks : List Key) (_ : List U) : List U := ks.map uKey
def valsD (_ : List Key) (us : List U) : List U := us
section
variable {X : Cy} {a b c e i tg iter elt : Expr} {fa fb fe : Ex} {pos p p2 p3 cpos apos pos' tpos : Pos}
/-- the common part: what is locked is walked -/
theorem itD_reads {g : List Key → List U → List U} {J : Addr → Obj → List (Key × V) → It} (hJ : ∀ {K : PySem.W.Frag} {d : Addr} {o : Obj} {kvs : List (Key × V)} {us : List U}, us.length = kvs.length → WalkU K (J d o kvs) (g (kvs.map (·.1)) us) yes (GD K d o kvs us))
    {ta : TE} (ha : ∀ F ρ E B σ H Q, Rel X.K F ρ E B σ H → PostE X.K X.q F ρ E B σ H (fa E B) Q → ta σ H Q) :
    ∀ F ρ E B σ H (Rk : It → Hp → Prop), Rel X.K F ρ E B σ H →
    (match mItD g fa E B with
      | .ok w E' B' => ∀ ρ' H' J G, AftT X.K F ρ E B σ H ρ' E' B' H' → WalkU X.K J w.1 w.2 G → G H' (LvF F ρ' E' B' σ) ρ' → w.2 B' → Rk J H'
      | .ex c E' B' => ExQ X.K X.q F ρ c E' B'
      | .bad => False) → ∀ Q' : VK, (∀ d o kvs H1, H1 d = some (.frz o (.dK kvs)) → Rk (J d o kvs) H1 → Q' (.ref d) H1) → tLkD ta σ H Q' := by
  intro F ρ E B σ H Rk rl q Q' hQ
  refine ha F ρ E B σ H _ rl ?_
  simp only [mItD] at q
  cases h1 : fa E B with
  | bad => rw [h1] at q; exact q
  | ex c E' B' => rw [h1] at q ; first | exact q | exact Aft.exq (by assumption) q | exact AftT.exq (by assumption) q | exact Aft.exq (by assumption) (Aft.exq (by assumption) q) | exact AftT.exq (by assumption) (Aft.exq (by assumption) q) | exact AftT.exq (AftA.t (by assumption)) q | exact ExQ.px q (Aft.px (by assumption)) | exact ExQ.px q (List.IsPrefix.trans (AftT.px (by assumption)) (Aft.px (by assumption))) | exact Aft.exq (by assumption) (AftT.exq (by assumption) q) | exact Aft.exq (by assumption) (Aft.exq (by assumption) (AftT.exq (by assumption) q))
  | ok r1 E1 B1 =>
    rw [h1] at q
    intro ρ1 H1 v1 A1
    simp only [O.bind_ok] at q
    split at q
    · next w E' B' hw =>
      split at hw
      · next ks us E2 es =>
        cases hw
        obtain ⟨T1, R1⟩ := A1.settled es
        have R1' := R1
        simp only [Rep] at R1'
        obtain ⟨d, kvs, rfl, hd, nl, rfl, hr⟩ := R1'
        have hl : us.length = kvs.length := by have := hr.len; simpa using this
        refine ⟨d, kvs, rfl, ?_⟩
        rcases hd with hd | ⟨o, hd⟩
        · refine .inl ⟨hd, fun o => hQ d o kvs _ upd_same ?_⟩
          exact q ρ1 _ _ _ ⟨T1.px, T1.rel.lkD hd nl, T1.stp.trans (lk_stp hd), T1.le⟩ (hJ hl) ⟨upd_same, nl, hr.mono (lk_stp hd) (List.prefix_refl _)⟩ trivial
        · exact .inr ⟨o, hd, hQ d o kvs _ hd (q ρ1 _ _ _ T1 (hJ hl) ⟨hd, nl, hr⟩ trivial)⟩
      · cases hw
    · next hw => split at hw <;> cases hw
    · exact q.elim
theorem sndI_keys (ha : SndE X a fa) : SndI X tg a (mItD keysD fa) := by
  obtain ⟨ta, pa, ha⟩ := ha
  refine ⟨_, pi_keys (pe_lkD pa), fun F ρ E B σ H Rk rl q => ?_⟩
  exact itD_reads (g := keysD) (J := fun d o kvs => Itk d o kvs) (fun hl => walkU_keys) ha F ρ E B σ H Rk rl q _ fun d o kvs H1 h1 h2 => ⟨d, o, rfl, .inl ⟨kvs, h1, h2⟩⟩
theorem sndI_vals (ha : SndE X a fa) (hb : attributeBase a "values" X.env (eval a X.env) = eval a X.env := by rfl) (hl : (apos.endLine == cpos.line) = true := by rfl) : SndI X tg (.Call (.Attribute a "values" apos) [] [] cpos) (mItD valsD fa) := by
  obtain ⟨ta, pa, ha⟩ := ha
  refine ⟨_, pi_values (pe_lkD pa) hb hl, fun F ρ E B σ H Rk rl q => ?_⟩
  exact itD_reads (g := valsD) (J := fun d o kvs => Itd d o kvs) (fun hl => walkU_vals) ha F ρ E B σ H Rk rl q _ fun d o kvs H1 h1 h2 => ⟨d, o, kvs, rfl, h1, h2⟩
theorem sndI_items {elts : List Expr} {kk : Nat} (ha : SndE X a fa) (hb : attributeBase a "items" X.env (eval a X.env) = eval a X.env := by rfl) (hl : (apos.endLine == cpos.line) = true := by rfl) : SndI X (.Tuple elts kk tpos) (.Call (.Attribute a "items" apos) [] [] cpos) (mItD itemsD fa) := by
  obtain ⟨ta, pa, ha⟩ := ha
  refine ⟨_, pi_items (pe_lkD pa) hb hl, fun F ρ E B σ H Rk rl q => ?_⟩
  exact itD_reads (g := itemsD) (J := fun d o kvs => Iti d o kvs) (fun hl => walkU_items hl) ha F ρ E B σ H Rk rl q _ fun d o kvs H1 h1 h2 => ⟨d, o, kvs, rfl, h1, h2⟩
end
end QB
/-! QdE: split, startswith, index of texts; int(text). -/
namespace QB
open PySem L2
section
variable {X : Cy} {a b c e o : Expr} {es : List Expr} {fa fb fo fe : Ex} {pos p apos cpos : Pos}
def gSplit : U → List U → Option R
  | .str a, [.str b] => if (b.length == 0) = false ∧ a.length + 2 ≤ 16777216 then some (.fr (.lst ((Txt.split a b).map .str))) else none
  | _, _ => none
theorem meth_split : MethS X "str.split" gSplit := by
  refine ⟨_, mt_split, fun F ρ E B σ H z us vs r3 Q rl rs e q => ?_⟩
  unfold gSplit at e
  split at e
  · next a b hz =>
    injection hz with hz
    subst hz
    split at e
    · next hc =>
      cases e
      simp only [Reps, Rep] at rs
      obtain ⟨v, r, rfl, rfl, rfl⟩ := rs
      exact ⟨_, b, rfl, rfl, hc.1, by rw [sizeLine_eq]; exact hc.2, fun p hp => q _ _ (Aft.fresh rl hp (strs_reps _))⟩
    · cases e
  · cases e
def gStarts : U → List U → Option R
  | .str a, [.str b] => some (.w (.bl (Txt.startswith a b)))
  | _, _ => none
theorem meth_startswith : MethS X "str.startswith" gStarts := by
  refine ⟨_, mt_startswith, fun F ρ E B σ H z us vs r3 Q rl rs e q => ?_⟩
  unfold gStarts at e
  split at e
  · next a b hz =>
    injection hz with hz
    subst hz
    cases e
    simp only [Reps, Rep] at rs
    obtain ⟨v, r, rfl, rfl, rfl⟩ := rs
    exact ⟨_, b, rfl, rfl, q H _ (Aft.val rl (by simp [Rep]))⟩
  · cases e
def gEnds : U → List U → Option R
  | .str a, [.str b] => some (.w (.bl (Txt.endswith a b)))
  | _, _ => none
theorem meth_endswith : MethS X "str.endswith" gEnds := by
  refine ⟨_, mt_endswith, fun F ρ E B σ H z us vs r3 Q rl rs e q => ?_⟩
  unfold gEnds at e
  split at e
  · next a b hz =>
    injection hz with hz
    subst hz
    cases e
    simp only [Reps, Rep] at rs
    obtain ⟨v, r, rfl, rfl, rfl⟩ := rs
    exact ⟨_, b, rfl, rfl, q H _ (Aft.val rl (by simp [Rep]))⟩
  · cases e
/-- text.index(text) where it is found -/
def gSIndex : U → List U → Option R
  | .str a, [.str b] => match Builtin.Str.occurrences a b 0 a.length 1 with
    | i :: _ => some (.w (.int (i : Nat)))
    | [] => none
  | _, _ => none
theorem meth_sindex : MethS X "str.index" gSIndex := by
  refine ⟨_, mt_sindex, fun F ρ E B σ H z us vs r3 Q rl rs e q => ?_⟩
  unfold gSIndex at e
  split at e
  · next a b hz =>
    injection hz with hz
    subst hz
    split at e
    · next i rest hi =>
      cases e
      simp only [Reps, Rep] at rs
      obtain ⟨v, r, rfl, rfl, rfl⟩ := rs
      exact ⟨_, b, i, rest, rfl, rfl, hi, q H _ (Aft.val rl (by simp [Rep]))⟩
    · cases e
  · cases e
def gIntS : U → Option R
  | .str a => match PySem.intText? a with
    | some n => if a.length ≤ 640 then some (.w (.int n)) else none
    | none => none
  | _ => none
theorem call1_intS : Call1S X (.type "int") gIntS := by
  refine ⟨_, call_int_str, fun F ρ E B σ H u1 v1 r3 Q rl t e q => ?_⟩
  unfold gIntS at e
  split at e
  · next a =>
    split at e
    · next n hn =>
      split at e
      · next hl => cases e; exact ⟨a, n, by rw [top_str t], hn, hl, q H _ (Aft.val rl (by simp [Rep]))⟩
      · cases e
    · cases e
  · cases e
end
end QB
/-! QdF: match over a list by its length: case [a, b]: .. -/
namespace QB
open PySem L2 PyProof.Rows
def CapsIs : List Pattern → List Str → Prop
  | [], [] => True
  | p :: ps, n :: ns => (∃ pos, p = Pattern.MatchAs none (some n) pos) ∧ CapsIs ps ns
  | _, _ => False
theorem caps_len : ∀ {ps : List Pattern} {ns : List Str}, CapsIs ps ns → ps.length = ns.length
  | [], [], _ => rfl
  | _ :: _, _ :: _, h => by simp [caps_len h.2]
  | [], _ :: _, h => h.elim
  | _ :: _, [], h => h.elim
theorem caps_star : ∀ {ps : List Pattern} {ns : List Str}, CapsIs ps ns → ps.findIdx? (·.isStar) = none
  | [], [], _ => rfl
  | _ :: _, _ :: _, h => by
    obtain ⟨⟨pos, rfl⟩, h2⟩ := h
    rw [List.findIdx?_cons, caps_star h2]; rfl
  | [], _ :: _, h => h.elim
  | _ :: _, [], h => h.elim
theorem caps_wild {ps : List Pattern} {n : Str} {ns : List Str} (h : CapsIs ps (n :: ns)) : (ps.all fun p => p.isWildcard || (p.isStar && p.names.isEmpty)) = false := by
  cases ps with
  | nil => exact h.elim
  | cons p ps =>
    obtain ⟨⟨pos, rfl⟩, h2⟩ := h
    simp [Pattern.isWildcard, Pattern.isStar]
def setAll : List Nat → List V → L2.St → L2.St
  | i :: is, v :: vs, σ => setAll is vs (σ.set i (some v))
  | _, _, σ => σ
def bdAll : List Nat → List U → En → Option En
  | [], [], E => some E
  | i :: is, u :: us, E => (bdN i u E).bind (bdAll is us)
  | _, _, _ => none
inductive CapsOk (X : Cx) : List Str → List Nat → Prop where
  | nil : CapsOk X [] []
  | cons {n : Str} {i : Nat} {ns : List Str} {is : List Nat} (hi : X.N[i]? = some n) (hx : Loc X.env.scope n) (hf : X.fn n = true ∨ X.env.scope.names.lookup n = some .local) : CapsOk X ns is → CapsOk X (n :: ns) (i :: is)
section
variable {X : Cx} {pins : List (Addr × Obj)} {σ : L2.St} {H : Hp} {s : Shared} {E : Value → Shared → Prop}
theorem each_run : ∀ {ps : List Pattern} {ns : List Str} {us : List Value} {Q : Option (List (Str × Value)) → Shared → Prop} {s : Shared}, CapsIs ps ns → us.length = ns.length → Q (some (ns.zip us)) s → wpAny (model X.prog X.w) X.A (matchEach ps X.env us) Q E s
  | [], [], us, Q, s, _, hl, h => by
    cases us with
    | nil => exact wpAny_matchEach_nil h
    | cons _ _ => simp at hl
  | p :: ps, n :: ns, us, Q, s, hc, hl, h => by
    cases us with
    | nil => simp at hl
    | cons u us =>
      obtain ⟨⟨pos, rfl⟩, h2⟩ := hc
      refine wpAny_matchEach_cons (wpAny_matchPattern_Capture ?_)
      exact each_run h2 (by simpa using hl) (by simpa using h)
  | [], _ :: _, _, _, _, hc, _, _ => hc.elim
  | _ :: _, [], _, _, _, hc, _, _ => hc.elim
theorem binds_run (hN : X.N.Nodup) : ∀ {ns : List Str} {is : List Nat} {us : List Value} {vs : List V} {σ : L2.St} {s : Shared} {Q : Unit → Shared → Prop}, CapsOk X ns is → Vals vs us → L2.Inv X pins σ H s → us.length = ns.length → (∀ s', L2.Inv X pins (setAll is vs σ) H s' → Q () s') →
    wpAny (model X.prog X.w) X.A (assignInOrder ((ns.zip us).map fun (n, _) => bindName X.env n) ((ns.zip us).map (·.2))) Q E s
  | [], _, us, vs, σ, s, Q, hc, r, I, hl, h => by
    cases hc
    cases us with
    | nil => cases r; exact wpAny_assignInOrder_none (h s I)
    | cons _ _ => simp at hl
  | n :: ns, _, us, vs, σ, s, Q, hc, r, I, hl, h => by
    cases hc with
    | cons hi hx hf hr =>
      cases us with
      | nil => simp at hl
      | cons u us =>
        cases r with
        | cons r1 r2 =>
          refine wpAny_assignInOrder_more (wpAny_bindName (store_ok I hN hi hx r1 (fun s' I' => ?_) hf))
          exact binds_run hN hr r2 I' (by simpa using hl) h
inductive PLs (X : Cx) : List MatchCase → List (List Nat × TS) → Prop where
  | nil : PLs X [] []
  | cons {ps : List Pattern} {n : Str} {ns : List Str} {is : List Nat} {ppos : Pos} {body : List Stmt} {t : TS} {r : List MatchCase} {l : List (List Nat × TS)} : CapsIs ps (n :: ns) → CapsOk X (n :: ns) is → PSs X body t → PLs X r l → PLs X (⟨.MatchSequence ps ppos, none, body⟩ :: r) ((is, t) :: l)
theorem capsOk_len : ∀ {ns : List Str} {is : List Nat}, CapsOk X ns is → ns.length = is.length
  | _, _, .nil => rfl
  | _, _, .cons _ _ _ h => by simp [capsOk_len h]
def goL : List (List Nat × TS) → List V → TS
  | [], _ => fun D σ H => D.nx σ H
  | (is, t) :: l, xs => fun D σ H => if xs.length = is.length then t D (setAll is xs σ) H else goL l xs D σ H
theorem listcases_run (hcalm : X.calm = true) (hN : X.N.Nodup) {a : Addr} {xs : List V} (hq : SqL X.K H a xs) : ∀ {cs : List MatchCase} {l : List (List Nat × TS)}, PLs X cs l → ∀ (first : Bool) (D : Ends) {s : Shared}, L2.Inv X pins σ H s → goL l xs D σ H → wpAny (model X.prog X.w) X.A (matchCases cs X.env (.ref a) first) (SP X pins D) X.xe s
  | [], _, h, first, D, s, I, q => by
    cases h
    exact wpAny_matchCases_nil ⟨σ, H, I, q⟩
  | _ :: _, _, h, first, D, s, I, q => by
    cases h with
    | @cons ps n ns is ppos body t r l hp hc hb hr =>
      obtain ⟨its, rv, pl, hz⟩ := I.list hq
      have hsz : its.toArray.size = xs.length := by rw [List.size_toArray]; exact rv.length.symm
      have hfit : (its.toArray.size : Int) < 2 ^ 63 := by
        have : its.toArray.size ≤ 16777216 := by rw [hsz]; first | exact hz | (rw [← sizeLine_eq]; exact hz) | (have := rv.length; simp only [sizeLine_eq] at hz; omega)
        omega
      unfold goL at q
      by_cases hlen : xs.length = is.length
      · rw [if_pos hlen] at q
        have hpl : its.toArray.size = ps.length := by rw [hsz, hlen, caps_len hp, capsOk_len hc]
        refine wpAny_matchCases_cons (matchSeq_list_hit pl.isList hfit hpl ?_ (caps_star hp) (caps_wild hp))
        rw [← hpl]
        refine PySem.W.kun_itemsOf (I.ok.hd hcalm) pl.isList fun h' hx => ?_
        have I1 : L2.Inv X pins σ H { s with toks := s.toks + 1 + 1, heap := h' } := (I.tok _).kept (t' := s.toks + 1 + 1) fun b o e => hx b o (Nat.ne_of_lt (Heap.lt_size e)) e
        refine each_run hp (by rw [List.toList_toArray, ← caps_len hp, ← hpl, List.size_toArray]) ?_
        refine binds_run hN hc (by simpa using rv) I1 (by rw [List.toList_toArray, ← caps_len hp, ← hpl, List.size_toArray]) fun s' I2 => ?_
        exact hb.run pins s' _ H D I2 q
      · rw [if_neg hlen] at q
        refine wpAny_matchCases_cons (matchSeq_list_miss pl.isList hfit (by rw [hsz, caps_len hp, capsOk_len hc]; exact hlen) ?_ (caps_star hp) (caps_wild hp))
        exact listcases_run hcalm hN hq hr false D (I.tok _) q
def tMatchL (K : PySem.W.Frag) (t : TE) (l : List (List Nat × TS)) : TS := fun D σ H => t σ H fun v H1 => ∃ a xs, v = .ref a ∧ SqL K H1 a xs ∧ goL l xs D σ H1
theorem ps_matchL {e : Expr} {cs : List MatchCase} {t : TE} {l : List (List Nat × TS)} {pos : Pos} (hcalm : X.calm = true) (hN : X.N.Nodup) (he : PE X e t) (hc : PLs X cs l) : PS X (.Match e cs pos) (tMatchL X.K t l) := by
  refine ⟨fun pins s σ H D I h => ?_⟩
  refine wpAny_Match (thn (he.run pins s σ H _ I h) fun u s1 ⟨v, H1, I1, r, a, xs, e1, e2, q⟩ => ?_)
  subst e1
  obtain rfl : u = Value.ref a := r
  exact listcases_run hcalm hN e2 hc true D I1 q
end
/-! ### as a judgement -/
theorem bdN_ok {K : PySem.W.Frag} {F : Fm} {ρ : List Addr} {E E' : En} {B : Bx} {σ : L2.St} {H : Hp} {k : Nat} {u : U} {v : V} (rl : Rel K F ρ E B σ H) (hr : Rep K H (LvF F ρ E B σ) ρ u v) (h : bdN k u E = some E') :
    Rel K F ρ E' B (σ.set k (some v)) H ∧ ∀ q, LvF F ρ E' B (σ.set k (some v)) q → LvF F ρ E B σ q := by
  unfold bdN at h
  cases hE : E[k]? with
  | none => rw [hE] at h; cases h
  | some s =>
    have hk : k < E.length := (List.getElem?_eq_some_iff.mp hE).1
    rw [hE] at h
    cases s with
    | own c => cases h
    | un => cases h; exact ⟨rl.setVal hk hr, setVal_lv rl hk⟩
    | val w => cases h; exact ⟨rl.setVal hk hr, setVal_lv rl hk⟩
theorem bdAll_ok {K : PySem.W.Frag} {F : Fm} {ρ : List Addr} {B : Bx} {H : Hp} : ∀ {is : List Nat} {us : List U} {vs : List V} {E E' : En} {σ : L2.St}, Rel K F ρ E B σ H → Reps K H (LvF F ρ E B σ) ρ us vs → bdAll is us E = some E' → Rel K F ρ E' B (setAll is vs σ) H ∧ vs.length = is.length
  | [], [], vs, E, E', σ, rl, rs, h => by
    simp only [Reps] at rs
    subst rs
    simp only [bdAll, Option.some.injEq] at h
    subst h
    exact ⟨rl, rfl⟩
  | i :: is, u :: us, vs, E, E', σ, rl, rs, h => by
    simp only [Reps] at rs
    obtain ⟨v, r, rfl, h1, h2⟩ := rs
    simp only [bdAll, Option.bind_eq_some_iff] at h
    obtain ⟨E1, e1, e2⟩ := h
    obtain ⟨rl1, lv⟩ := bdN_ok rl h1 e1
    obtain ⟨rl2, hl⟩ := bdAll_ok rl1 (h2.mono (Stp.less lv) (List.prefix_refl _)) e2
    exact ⟨rl2, by simp [hl]⟩
  | [], _ :: _, _, _, _, _, _, _, h => by simp [bdAll] at h
  | _ :: _, [], _, _, _, _, _, _, h => by simp [bdAll] at h
def goLs : List (List Nat × Sm) → List U → Sm
  | [], _ => fun E B => .ok .nx E B
  | (is, f) :: l, us => fun E B => if us.length = is.length then (match bdAll is us E with
      | some E' => f E' B
      | none => .bad) else goLs l us E B
/-- match fe: case [..]: f .. -/
def sMatchL (fe : Ex) (l : List (List Nat × Sm)) : Sm := fun E B => (fe E B).bind fun r E1 B1 =>
  match settle r E1 with
  | some (.lst us, E2) => goLs l us E2 B1
  | _ => .bad
inductive SndLs (X : Cy) : List MatchCase → List (List Nat × Sm) → Prop where
  | nil : SndLs X [] []
  | cons {ps : List Pattern} {n : Str} {ns : List Str} {is : List Nat} {ppos : Pos} {body : List Stmt} {f : Sm} {r : List MatchCase} {l : List (List Nat × Sm)} : CapsIs ps (n :: ns) → CapsOk X (n :: ns) is → SndB X body f → SndLs X r l → SndLs X (⟨.MatchSequence ps ppos, none, body⟩ :: r) ((is, f) :: l)
theorem sndLs_t {X : Cy} : ∀ {cs : List MatchCase} {l : List (List Nat × Sm)}, SndLs X cs l → ∃ l', PLs X cs l' ∧ ∀ us vs F ρ E B σ H D, Rel X.K F ρ E B σ H → Reps X.K H (LvF F ρ E B σ) ρ us vs → PostS X.K X.q F ρ (goLs l us E B) D → goL l' vs D σ H
  | [], _, h => by
    cases h
    exact ⟨[], .nil, fun us vs F ρ E B σ H D rl rs q => q ρ σ H (List.prefix_refl _) rl⟩
  | _ :: _, _, h => by
    cases h with
    | cons hp hc hb hr =>
      obtain ⟨l', h1, h2⟩ := sndLs_t hr
      obtain ⟨t, p1, hb⟩ := hb
      refine ⟨_, .cons hp hc p1 h1, fun us vs F ρ E B σ H D rl rs q => ?_⟩
      unfold goLs at q
      unfold goL
      rw [← rs.len]
      split
      · next hk =>
        rw [if_pos hk] at q
        split at q
        · next E' hE => exact hb F ρ E' B _ H D (bdAll_ok rl rs hE).1 q
        · exact q.elim
      · next hk => rw [if_neg hk] at q; exact h2 us vs F ρ E B σ H D rl rs q
theorem sndS_matchL {X : Cy} {e : Expr} {fe : Ex} {cs : List MatchCase} {l : List (List Nat × Sm)} {pos : Pos} (hcalm : X.calm = true) (hN : X.N.Nodup) (he : SndE X e fe) (hc : SndLs X cs l) : SndS X (.Match e cs pos) (sMatchL fe l) := by
  obtain ⟨t, p1, he⟩ := he
  obtain ⟨l', h1, h2⟩ := sndLs_t hc
  refine ⟨_, ps_matchL hcalm hN p1 h1, fun F ρ E B σ H D rl q => ?_⟩
  refine he F ρ E B σ H _ rl ?_
  simp only [sMatchL] at q
  cases h3 : fe E B with
  | bad => rw [h3] at q; exact q
  | ex c E' B' => rw [h3] at q; exact q
  | ok r1 E1 B1 =>
    rw [h3] at q
    intro ρ1 H1 v1 A1
    simp only [O.bind_ok] at q
    split at q
    · next us E2 es =>
      obtain ⟨T1, R1⟩ := A1.settled es
      have R1' := R1
      simp only [Rep] at R1'
      obtain ⟨pp, vs, rfl, hq, hr⟩ := R1'
      exact ⟨pp, vs, rfl, .inl (.inl hq.1), h2 us vs F ρ1 E2 B1 σ H1 D T1.rel hr (q.px T1.px)⟩
    · exact q.elim
@[simp] theorem e_sMatchL {fe : Ex} {l : List (List Nat × Sm)} {E : En} {B : Bx} : sMatchL fe l E B = (fe E B).bind fun r E1 B1 =>
  match settle r E1 with
  | some (.lst us, E2) => goLs l us E2 B1
  | _ => .bad := (rfl)
@[simp] theorem e_goLs0 {us : List U} {E : En} {B : Bx} : goLs [] us E B = .ok .nx E B := (rfl)
@[simp] theorem e_goLs1 {is : List Nat} {f : Sm} {l : List (List Nat × Sm)} {us : List U} {E : En} {B : Bx} : goLs ((is, f) :: l) us E B = if us.length = is.length then (match bdAll is us E with
      | some E' => f E' B
      | none => .bad) else goLs l us E B := (rfl)
@[simp] theorem e_bdAll0 {E : En} : bdAll [] [] E = some E := (rfl)
@[simp] theorem e_bdAll1 {i : Nat} {is : List Nat} {u : U} {us : List U} {E : En} : bdAll (i :: is) (u :: us) E = (bdN i u E).bind (bdAll is us) := (rfl)
end QB
/-! QdG: for x in reversed(..); tuples of numbers and texts in order. -/
namespace QB
open PySem L2 RT
def mRevI (f : Ex) : Iv := fun E B => (f E B).bind fun r E1 B1 =>
  match settle r E1 with
  | some (.lst us, E2) => .ok (us.reverse, yes) E2 B1
  | _ => .bad
section
variable {X : Cy} {a b c e i tg iter elt : Expr} {fa fb fe : Ex} {pos p p2 p3 cpos apos pos' tpos : Pos}
theorem rev_at {α : Type} {l : List α} {i : Nat} {x : α} (h : l.reverse[i]? = some x) : i < l.length ∧ l[l.length - 1 - i]? = some x := by
  have hi : i < l.length := by
    have := (List.getElem?_eq_some_iff.mp h).1
    simpa using this
  rw [List.getElem?_reverse hi] at h
  exact ⟨hi, h⟩
theorem walkU_rev {K : PySem.W.Frag} {q : Addr} {us : List U} : WalkU K (Itv K q us.length) us.reverse yes (fun H Lv ρ => Rep K H Lv ρ (.lst us) (.ref q)) := by
  have un : ∀ {H Lv ρ}, Rep K H Lv ρ (.lst us) (.ref q) → ∃ vs, SqL K H q vs ∧ Reps K H Lv ρ us vs := fun {H Lv ρ} h => by
    simp only [Rep] at h
    obtain ⟨p, vs, e, h1, h2⟩ := h
    cases e
    exact ⟨vs, .inl (.inl h1.1), h2⟩
  refine ⟨fun H Lv ρ H' Lv' ρ' B' g s px _ _ => Rep.mono s px _ _ g, fun H Lv ρ i g hi => ?_, fun H Lv ρ g => ?_, fun H Lv ρ i u x H' g hu hy _ => ?_⟩
  · obtain ⟨vs, h1, h2⟩ := un g
    have hi' : i < us.length := by simpa using hi
    obtain ⟨v, h3, _⟩ := h2.get (List.getElem?_eq_getElem (show us.length - 1 - i < us.length by omega))
    exact ⟨hi', vs, v, h1, h3⟩
  · exact (by simp : us.length ≤ us.reverse.length)
  · obtain ⟨vs, h1, h2⟩ := un g
    obtain ⟨rfl, hy⟩ := hy
    obtain ⟨_, hu2⟩ := rev_at hu
    obtain ⟨v, h3, h4⟩ := h2.get hu2
    have := hy vs h1
    rw [h3] at this
    cases this
    exact ⟨fun _ _ z => z, h4⟩
theorem sndI_rev (hm : X.mg "reversed" = none) (ha : SndE X a fa) (hg : Gl X "reversed" := by rfl) (hs : starEach [a] X.env = (false, eval a X.env) :: starEach [] X.env := by rfl) : SndI X tg (.Call (.Name "reversed" p) [a] [] pos) (mRevI fa) := by
  obtain ⟨ta, pa, ha⟩ := ha
  refine ⟨_, pi_revA hg hm pa hs, fun F ρ E B σ H Rk rl q => ?_⟩
  refine ha F ρ E B σ H _ rl ?_
  simp only [mRevI] at q
  cases h1 : fa E B with
  | bad => rw [h1] at q; exact q
  | ex c E' B' => rw [h1] at q; exact q
  | ok r1 E1 B1 =>
    rw [h1] at q
    intro ρ1 H1 v1 A1
    simp only [O.bind_ok] at q
    cases hs2 : settle r1 E1 with
    | none => rw [hs2] at q; exact q.elim
    | some uE =>
      obtain ⟨u, E2⟩ := uE
      rw [hs2] at q
      cases u with
      | lst us =>
        obtain ⟨T1, R1⟩ := A1.settled hs2
        have R1' := R1
        simp only [Rep] at R1'
        obtain ⟨pp, vs, rfl, hq, hr⟩ := R1'
        refine ⟨pp, vs, rfl, .inl ⟨.inl (.inl hq.1), ?_⟩⟩
        rw [← hr.len]
        exact q ρ1 H1 _ _ T1 walkU_rev R1 trivial
      | _ => exact q.elim
@[simp] theorem e_mRevI {E : En} {B : Bx} : mRevI fa E B = (fa E B).bind fun r E1 B1 =>
  match settle r E1 with
  | some (.lst us, E2) => .ok (us.reverse, yes) E2 B1
  | _ => .bad := (rfl)
/-! ### tuples of numbers and texts -/
/-- the order's signs -/
inductive Ord where
  | lt | le | gt | ge
def Ord.op : Ord → CmpOp
  | .lt => .Lt
  | .le => .LtE
  | .gt => .Gt
  | .ge => .GtE
def Ord.onI : Ord → Int → Int → Bool
  | .lt, i, j => decide (i < j)
  | .le, i, j => decide (i ≤ j)
  | .gt, i, j => decide (j < i)
  | .ge, i, j => decide (j ≤ i)
def Ord.onS : Ord → Str → Str → Bool
  | .lt, x, y => decide (x.cps.toList < y.cps.toList)
  | .le, x, y => !decide (y.cps.toList < x.cps.toList)
  | .gt, x, y => decide (y.cps.toList < x.cps.toList)
  | .ge, x, y => !decide (x.cps.toList < y.cps.toList)
/-- alike, and in order, of two parts of one kind -/
def pairO (o : Ord) : U → U → Option (Bool × Bool)
  | .int i, .int j => some (i == j, o.onI i j)
  | .str x, .str y => some (x == y, o.onS x y)
  | _, _ => none
def lexO (o : Ord) (z : Bool) : List U → List U → Option Bool
  | a :: as, b :: bs => match pairO o a b, lexO o z as bs with
    | some (e, r), some k => some (if e = true then k else r)
    | _, _ => none
  | _, _ => some z
def Ord.onN : Ord → Nat → Nat → Bool
  | .lt, i, j => decide (i < j)
  | .le, i, j => decide (i ≤ j)
  | .gt, i, j => decide (i > j)
  | .ge, i, j => decide (i ≥ j)
def gTupO (o : Ord) (a b : U) : Option R :=
  match a, b with
  | .tup us, .tup ws => (lexO o (o.onN us.length ws.length) us ws).map fun k => .w (.bl k)
  | _, _ => none
end
def pairV (o : Ord) : V → V → Option (Bool × Bool)
  | .int i, .int j => some (i == j, o.onI i j)
  | .str x, .str y => some (x == y, o.onS x y)
  | _, _ => none
def lexV (o : Ord) (z : Bool) : List V → List V → Option Bool
  | a :: as, b :: bs => match pairV o a b, lexV o z as bs with
    | some (e, r), some k => some (if e = true then k else r)
    | _, _ => none
  | _, _ => some z
def atP (o : Ord) (xs ys : List V) (j : Nat) : Bool × Bool := match xs[j]?, ys[j]? with
  | some x, some y => (pairV o x y).getD (false, false)
  | _, _ => (false, false)
theorem lexV_at (o : Ord) (z : Bool) (xs ys : List V) : ∀ (m i : Nat) (k : Bool), min xs.length ys.length - i = m → lexV o z (xs.drop i) (ys.drop i) = some k → Ob.lexAt (fun j => (atP o xs ys j).1) (fun j => (atP o xs ys j).2) z i m = k
  | 0, i, k, hm, h => by
    rw [Ob.lexAt_zero]
    have : xs.drop i = [] ∨ ys.drop i = [] := by
      rcases Nat.le_total xs.length ys.length with h1 | h1
      · left; exact List.drop_eq_nil_of_le (by omega)
      · right; exact List.drop_eq_nil_of_le (by omega)
    rcases this with e | e
    · rw [e] at h; simpa [lexV] using h
    · rw [e] at h
      cases hx : xs.drop i <;> rw [hx] at h <;> simpa [lexV] using h
  | m + 1, i, k, hm, h => by
    have hx : i < xs.length := by omega
    have hy : i < ys.length := by omega
    rw [List.drop_eq_getElem_cons hx, List.drop_eq_getElem_cons hy] at h
    rw [Ob.lexAt_succ]
    unfold lexV at h
    cases hp : pairV o xs[i] ys[i] with
    | none => simp [hp] at h
    | some p =>
      obtain ⟨e, r⟩ := p
      cases hl : lexV o z (xs.drop (i + 1)) (ys.drop (i + 1)) with
      | none => simp [hp, hl] at h
      | some k' =>
        simp only [hp, hl, Option.some.injEq] at h
        have hat : atP o xs ys i = (e, r) := by
          unfold atP
          rw [List.getElem?_eq_getElem hx, List.getElem?_eq_getElem hy]
          simp [hp]
        simp only [hat]
        rw [lexV_at o z xs ys m (i + 1) k' (by omega) hl]
        exact h
theorem lexV_pair {o : Ord} {z : Bool} : ∀ {xs ys : List V} {k : Bool} {j : Nat} {x y : V}, lexV o z xs ys = some k → xs[j]? = some x → ys[j]? = some y → ∃ p, pairV o x y = some p
  | [], ys, k, j, x, y, h, h1, h2 => by simp at h1
  | _ :: _, [], k, j, x, y, h, h1, h2 => by simp at h2
  | a :: as, b :: bs, k, j, x, y, h, h1, h2 => by
    unfold lexV at h
    cases hp : pairV o a b with
    | none => simp [hp] at h
    | some p =>
      cases hl : lexV o z as bs with
      | none => simp [hp, hl] at h
      | some k' =>
        cases j with
        | zero => simp at h1 h2; subst h1 h2; exact ⟨p, hp⟩
        | succ j => exact lexV_pair hl (by simpa using h1) (by simpa using h2)
theorem rc_int (o : Ord) {A : Around} {s : Shared} (a b : Int) (t u : Tok) : Ob.RcOp o.op A s (.int a t) (.int b u) (o.onI a b) := by
  cases o
  · exact Ob.RcOp.lt_int a b t u
  · exact Ob.RcOp.le_int a b t u
  · exact Ob.RcOp.gt_int a b t u
  · exact Ob.RcOp.ge_int a b t u
theorem rc_str (o : Ord) {A : Around} {s : Shared} (a b : Str) (t u : Tok) : Ob.RcOp o.op A s (.str a t) (.str b u) (o.onS a b) := by
  cases o
  · exact fun _ _ _ _ h => PyProof.Rows.lt_str h
  · exact fun _ _ _ _ h => PySem.P.le_str h
  · exact fun _ _ _ _ h => PySem.P.gt_str h
  · exact fun _ _ _ _ h => PySem.P.ge_str h
theorem tup_run (o : Ord) {A : Around} {s : Shared} {l b : Addr} {items items2 : Array Value} {e r : Nat → Bool} (hl : s.heap.IsTuple l items) (hb : s.heap.IsTuple b items2) (hu : A.units < cLine)
    (he : ∀ j (h1 : j < items.size) (h2 : j < items2.size), SeqAt.EqAt A.in1 s items[j] items2[j] (e j))
    (hr : ∀ j (h1 : j < items.size) (h2 : j < items2.size), e j = false → Ob.RcOp o.op A.in1 s items[j] items2[j] (r j)) :
    Ob.RcOp o.op A s (.ref l) (.ref b) (Ob.lexAt e r (o.onN items.size items2.size) 0 (min items.size items2.size)) := by
  cases o
  · exact Ob.RcOp.tuples_lt hl hb hu he hr
  · exact Ob.RcOp.tuples_le hl hb hu he hr
  · exact Ob.RcOp.tuples_gt hl hb hu he hr
  · exact Ob.RcOp.tuples_ge hl hb hu he hr
def rTupO (K : PySem.W.Frag) (o : Ord) : R2 := fun x y H Q => ∃ a b xs ys k, x = .ref a ∧ y = .ref b ∧ SqT K H a xs ∧ SqT K H b ys ∧ lexV o (o.onN xs.length ys.length) xs ys = some k ∧ Q (.bl k) H
theorem op_tupO {X : Cx} (o : Ord) (hu : X.A.units < cLine) : OpR X (compareOp o.op) (rTupO X.K o) := by
  intro pins s σ H x y v u Q I rx ry h
  obtain ⟨a, b, xs, ys, k, rfl, rfl, ha, hb, hk, q⟩ := h
  cases rx
  cases ry
  obtain ⟨its, r1, p1, _⟩ := I.tuple ha
  obtain ⟨its2, r2, p2, _⟩ := I.tuple hb
  have e1 : its.toArray.size = xs.length := by rw [List.size_toArray]; exact r1.length.symm
  have e2 : its2.toArray.size = ys.length := by rw [List.size_toArray]; exact r2.length.symm
  have parts : ∀ j (h1 : j < its.toArray.size) (h2 : j < its2.toArray.size), ∃ p, atP o xs ys j = p ∧ SeqAt.EqAt X.A.in1 s its.toArray[j] its2.toArray[j] p.1 ∧ Ob.RcOp o.op X.A.in1 s its.toArray[j] its2.toArray[j] p.2 := fun j h1 h2 => by
    have hx : j < xs.length := by omega
    have hy : j < ys.length := by omega
    obtain ⟨p, hp⟩ := lexV_pair hk (List.getElem?_eq_getElem hx) (List.getElem?_eq_getElem hy)
    have hat : atP o xs ys j = p := by
      unfold atP
      rw [List.getElem?_eq_getElem hx, List.getElem?_eq_getElem hy]
      simp [hp]
    obtain ⟨w1, g1, q1⟩ := r1.get (List.getElem?_eq_getElem hx)
    obtain ⟨w2, g2, q2⟩ := r2.get (List.getElem?_eq_getElem hy)
    have f1 : its.toArray[j] = w1 := by
      have := (List.getElem?_eq_some_iff.mp g1).2
      simpa using this
    have f2 : its2.toArray[j] = w2 := by
      have := (List.getElem?_eq_some_iff.mp g2).2
      simpa using this
    rw [f1, f2]
    refine ⟨p, hat, ?_⟩
    revert hp q1 q2
    generalize xs[j] = x
    generalize ys[j] = y
    intro hp q1 q2
    cases x <;> cases y <;> simp only [pairV, Option.some.injEq] at hp <;> first | (cases hp; done) | skip
    · subst hp
      obtain ⟨t, rfl⟩ := q1
      obtain ⟨t', rfl⟩ := q2
      exact ⟨SeqAt.EqAt.int_int _ _ _ _, rc_int o _ _ _ _⟩
    · subst hp
      obtain ⟨t, rfl⟩ := q1
      obtain ⟨t', rfl⟩ := q2
      exact ⟨SeqAt.EqAt.str_str _ _ _ _, rc_str o _ _ _ _⟩
  have R := tup_run o (A := X.A) (s := s) (e := fun j => (atP o xs ys j).1) (r := fun j => (atP o xs ys j).2) p1 p2 hu (fun j h1 h2 => by obtain ⟨p, g1, g2, g3⟩ := parts j h1 h2; simp only [g1]; exact g2)
    (fun j h1 h2 _ => by obtain ⟨p, g1, g2, g3⟩ := parts j h1 h2; simp only [g1]; exact g3)
  rw [e1, e2, lexV_at o _ xs ys _ 0 k (by omega) (by simpa using hk)] at R
  have z : wpAny (model X.prog X.w) X.A (compareOp o.op (.ref a) (.ref b)) (EP X pins σ Q) X.xe s := by
    have := R X.prog X.w X.xe (EP X pins σ Q) ⟨.bl _, H, I, rfl, q⟩
    cases o <;> exact this
  exact z
theorem pairO_V {K : PySem.W.Frag} {H : Hp} {Lv : AS} {ρ : List Addr} {o : Ord} {u w : U} {x y : V} {p : Bool × Bool} (h1 : Rep K H Lv ρ u x) (h2 : Rep K H Lv ρ w y) (h : pairO o u w = some p) : pairV o x y = some p := by
  cases u <;> cases w <;> simp only [pairO, Option.some.injEq] at h <;> first | (cases h; done) | skip
  · simp only [Rep] at h1 h2; subst h1 h2 h; rfl
  · simp only [Rep] at h1 h2; subst h1 h2 h; rfl
theorem lexO_V {K : PySem.W.Frag} {H : Hp} {Lv : AS} {ρ : List Addr} {o : Ord} {z : Bool} : ∀ {us ws : List U} {xs ys : List V} {k : Bool}, Reps K H Lv ρ us xs → Reps K H Lv ρ ws ys → lexO o z us ws = some k → lexV o z xs ys = some k
  | [], ws, xs, ys, k, h1, h2, h => by simp only [Reps] at h1; subst h1; simpa [lexO, lexV] using h
  | u :: us, [], xs, ys, k, h1, h2, h => by
    simp only [Reps] at h1 h2
    obtain ⟨x, r, rfl, _⟩ := h1
    subst h2
    simpa [lexO, lexV] using h
  | u :: us, w :: ws, xs, ys, k, h1, h2, h => by
    simp only [Reps] at h1 h2
    obtain ⟨x, r, rfl, a1, a2⟩ := h1
    obtain ⟨y, r2, rfl, b1, b2⟩ := h2
    unfold lexO at h
    cases hp : pairO o u w with
    | none => simp [hp] at h
    | some p =>
      cases hl : lexO o z us ws with
      | none => simp [hp, hl] at h
      | some k' =>
        obtain ⟨e, rr⟩ := p
        simp only [hp, hl, Option.some.injEq] at h
        unfold lexV
        rw [pairO_V a1 b1 hp, lexO_V a2 b2 hl]
        simp [h]
theorem op2_tupO {X : Cy} (o : Ord) (hu : X.A.units < cLine) : Op2S X (compareOp o.op) (gTupO o) := by
  refine ⟨_, op_tupO o hu, fun F ρ E B σ H u1 u2 v1 v2 r3 Q rl t1 t2 e q => ?_⟩
  cases u1 <;> first | (cases e; done) | skip
  cases u2 <;> first | (cases e; done) | skip
  simp only [gTupO, Option.map_eq_some_iff] at e
  obtain ⟨k, e1, rfl⟩ := e
  obtain ⟨p1, xs, rfl, h1, h2⟩ := t1
  obtain ⟨p2, ys, rfl, h3, h4⟩ := t2
  exact ⟨p1, p2, xs, ys, k, rfl, rfl, sqT_of h1, sqT_of h3, by rw [← h2.len, ← h4.len]; exact lexO_V h2 h4 e1, q H _ (Aft.val rl (by simp [Rep]))⟩
end QB
/-! QdH: list.index; the new words as equations. -/
namespace QB
open PySem L2
def gLIdx (a y : U) : Option R :=
  match a with
  | .lst us => match flatU y, flatUs us with
    | some v, some vs => (vs.findIdx? fun z => eqV z v).map fun j => .w (.int (j : Nat))
    | _, _ => none
  | _ => none
def mLIdx (fo fe : Ex) : Ex := fun E B => (fo E B).bind fun r E1 B1 =>
  match view r E1 B1 with
  | some (.lst _) => (mCons fe mNil E1 B1).bind fun us E2 B2 =>
    match us, view r E2 B2 with
    | [u], some a => match gLIdx a u with
      | some r3 => .ok r3 E2 B2
      | none => .bad
    | _, _ => .bad
  | _ => .bad
section
variable {X : Cy} {a b c e o i : Expr} {fa fb fo fe : Ex} {pos p apos cpos : Pos}
theorem sndE_lindex (ho : SndE X o fo) (ha : SndE X e fe) (hb : attributeBase o "index" X.env (eval o X.env) = eval o X.env := by rfl)
    (h3 : (((backTo cpos (starEach [e] X.env)).all fun x => !x.1) && (backToKw cpos (keywordEach [] X.env)).all (·.1.isSome) && decide ([e].length + ([] : List Keyword).length + (if ([] : List Keyword).isEmpty = true then 0 else 1) < 30)) = true := by rfl)
    (hl : (apos.endLine == cpos.line) = true := by rfl) (hs : starEach [e] X.env = (false, eval e X.env) :: starEach [] X.env := by rfl) : SndE X (.Call (.Attribute o "index" apos) [e] [] cpos) (mLIdx fo fe) := by
  obtain ⟨to, po, ho⟩ := ho
  obtain ⟨t, pt, ht⟩ := sndA_cons ha sndA_nil hs
  refine ⟨_, pe_bm PySem.F.plainAttrs_list PySem.F.slot_list_index PySem.F.type_list_index mt_index po pt hb h3 hl hs, fun F ρ E B σ H Q rl q => ?_⟩
  refine ho F ρ E B σ H _ rl ?_
  simp only [mLIdx] at q
  cases h1 : fo E B with
  | bad => rw [h1] at q; exact q
  | ex c E' B' => rw [h1] at q; exact q
  | ok r1 E1 B1 =>
    rw [h1] at q
    intro ρ1 H1 v1 A1
    simp only [O.bind_ok] at q
    split at q
    · next xs0 hv0 =>
      obtain ⟨p0, vs0, rfl, hp0, _⟩ := A1.top hv0
      refine ⟨.inl ⟨rfl, vs0, .inl (.inl hp0)⟩, ?_⟩
      refine ht _ ρ1 E1 B1 σ H1 _ A1.rel ?_
      cases h2 : mCons fe mNil E1 B1 with
      | bad => rw [h2] at q; exact q
      | ex c E' B' => rw [h2] at q; exact Aft.exq A1 q
      | ok us E2 B2 =>
        rw [h2] at q
        intro ρ2 H2 vs A2
        simp only [O.bind_ok] at q
        have A12 := A1.carry A2.t
        have T := A12.letgo
        split at q
        · next u a hv =>
          split at q
          · next r3 hg =>
            have R2 := A2.reps
            simp only [Reps] at R2
            obtain ⟨v, rr, rfl, hru, rfl⟩ := R2
            have t0 := A12.top hv
            cases a <;> first | (cases hg; done) | skip
            next ws =>
            obtain ⟨pp, xs, ep, hxs, hrs⟩ := t0
            simp only [gLIdx] at hg
            split at hg
            · next fv fvs e1 e2 =>
              simp only [Option.map_eq_some_iff] at hg
              obtain ⟨j, hj, rfl⟩ := hg
              have hru' : Top X.K H2 (LvF (F.addR H1 r1 (.ref p0)) ρ2 E2 B2 σ) ρ2 u v := hru.top fun i z => by subst z; cases e1
              obtain ⟨g1, g2⟩ := flatU_top hru' e1
              obtain ⟨g3, g4⟩ := flatUs_reps hrs e2
              subst g1 g3
              obtain ⟨hlt, hz, hno⟩ := List.findIdx?_eq_some_iff_getElem.mp hj
              refine ⟨pp, xs, v, j, xs[j], ep, rfl, .inl (.inl hxs), g2, g4, List.getElem?_eq_getElem hlt, hz, fun m z' hm hz' => ?_, ?_⟩
              · have hml : m < xs.length := by omega
                rw [List.getElem?_eq_getElem hml] at hz'
                cases hz'
                have := hno m hm
                simpa using this
              · exact q ρ2 _ _ (T.then (Aft.val T.rel (by simp [Rep])))
            · cases hg
          · exact q.elim
        · exact q.elim
    · exact q.elim
end
end QB
/-! QdI: a box that comes to rest. -/
namespace QB
open PySem L2
section
variable {K : PySem.W.Frag} {F : Fm} {ρ : List Addr} {E : En} {B : Bx} {σ : L2.St} {H : Hp} {p : Addr} {j : Nat} {c : Cell}
theorem Rel.melt (r : Rel K F ρ E B σ H) (h : B[j]? = some c) (hl : c.live = true) (hp : ρ[j]? = some p) :
    Rel K F ρ E (B.set j .dead) σ H ∧ (∀ q, LvF F ρ E (B.set j .dead) σ q → LvF F ρ E B σ q) ∧ Rep K H (LvF F ρ E (B.set j .dead) σ) ρ c.toU (.ref p) := by
  obtain ⟨hc, ho⟩ := r.box j c p h hl hp
  have hj : j < B.length := (List.getElem?_eq_some_iff.mp h).1
  have px : ρ <+: ρ := List.prefix_refl _
  have stay : ∀ (i : Nat) (d : Cell), (B.set j .dead)[i]? = some d → d.live = true → B[i]? = some d ∧ i ≠ j := fun i d e hd => by
    by_cases hi : j = i
    · subst hi; rw [List.getElem?_set_self hj] at e; cases e; cases hd
    · rw [List.getElem?_set_ne hi] at e; exact ⟨e, fun z => hi z.symm⟩
  have lessB : ∀ q, BLv ρ (B.set j .dead) q → BLv ρ B q := fun q ⟨i, d, h1, h2, h3⟩ => ⟨i, d, (stay i d h1 h2).1, h2, h3⟩
  have less : ∀ q, LvF F ρ E (B.set j .dead) σ q → LvF F ρ E B σ q := fun q z => by
    rcases z with z | z | z
    · exact .inl z
    · exact .inr (.inl (lessB q z))
    · exact .inr (.inr z)
  have nl : ¬ LvF F ρ E (B.set j .dead) σ p := by
    rintro (z | ⟨i, d, h1, h2, h3⟩ | ⟨i, d, h1, h2⟩)
    · exact ho z
    · obtain ⟨h4, h5⟩ := stay i d h1 h2
      exact h5 (r.binj i j d c p h4 h2 h hl h3 hp)
    · obtain ⟨_, q, h3, _, _, h5⟩ := r.own i d h1
      rw [h3] at h2
      have e : q = p := by simpa using h2
      subst e
      exact h5 ⟨j, c, h, hl, hp⟩
  have s : Stp H (LvF F ρ E B σ) H (LvF F ρ E (B.set j .dead) σ) := Stp.less less
  refine ⟨⟨r.elen, by rw [List.length_set]; exact r.blen, fun i u e => ?_, fun i d e => ?_, r.oinj, fun i d q e1 e2 e3 => ?_, fun i k d f q e1 e2 e3 e4 e5 e6 => ?_, r.out, r.old.trans s, r.grow⟩, less, (hc.mono s px rfl).rep hl nl⟩
  · obtain ⟨v, h1, h2⟩ := r.val i u e
    exact ⟨v, h1, h2.mono s px⟩
  · obtain ⟨h1, q, h2, h3, h4, h5⟩ := r.own i d e
    exact ⟨h1, q, h2, h3.mono s px rfl, h4, fun z => h5 (lessB q z)⟩
  · obtain ⟨h4, h5⟩ := r.box i d q (stay i d e1 e2).1 e2 e3
    exact ⟨h4.mono s px rfl, h5⟩
  · exact r.binj i k d f q (stay i d e1 e2).1 e2 (stay k f e3 e4).1 e4 e5 e6
end
/-- a box that nobody changes any more becomes a tree -/
def mMelt (f : Ex) : Ex := fun E B => (f E B).bind fun r E1 B1 =>
  match r with
  | .w (.box j) => match B1[j]? with
    | some c => if c.live = true then .ok (.w c.toU) E1 (B1.set j .dead) else .bad
    | none => .bad
  | _ => .bad
section
variable {X : Cy} {a : Expr} {fa : Ex}
theorem sndE_melt (ha : SndE X a fa) : SndE X a (mMelt fa) := by
  obtain ⟨t, p1, ha⟩ := ha
  refine ⟨t, p1, fun F ρ E B σ H Q rl q => ?_⟩
  refine ha F ρ E B σ H _ rl ?_
  simp only [mMelt] at q
  cases h1 : fa E B with
  | bad => rw [h1] at q; exact q
  | ex c E' B' => rw [h1] at q; exact q
  | ok r1 E1 B1 =>
    rw [h1] at q
    intro ρ1 H1 v1 A1
    simp only [O.bind_ok] at q
    split at q
    · next r' j =>
      split at q
      · next c hc =>
        split at q
        · next hl =>
          have rr := A1.rep
          simp only [RepR, Rep] at rr
          obtain ⟨pp, hp, rfl⟩ := rr
          have r0 : Rel X.K F ρ1 E1 B1 σ H1 := A1.rel
          obtain ⟨r2, less, rp⟩ := Rel.melt r0 hc hl hp
          exact q ρ1 H1 _ ⟨A1.px, r2, A1.stp.trans (Stp.less less), A1.le, rp⟩
        · exact q.elim
      · exact q.elim
    · exact q.elim
end
theorem hu0_of {k : Nat} {A : Around} (hr : Room k A) : A.units < cLine := by have := hr.units; omega
/-! ### the new words as equations -/
section
variable {E : En} {B : Bx} {fa fb fo fe fi : Ex}
@[simp] theorem e_mMelt : mMelt fa E B = (fa E B).bind fun r E1 B1 =>
  match r with
  | .w (.box j) => match B1[j]? with
    | some c => if c.live = true then .ok (.w c.toU) E1 (B1.set j .dead) else .bad
    | none => .bad
  | _ => .bad := (rfl)
@[simp] theorem e_mDct0 : mDct0 E B = .ok (.fr (.dct [] [])) E B := (rfl)
@[simp] theorem e_sDSt : sDSt fe fo fi E B = (fe E B).bind fun r0 E0 B0 =>
  match settle r0 E0 with
  | none => .bad
  | some (u, E0') => (fo E0' B0).bind fun r E1 B1 => (fi E1 B1).bind fun ri E2 B2 =>
    match ri, cellOf r E2 B2 with
    | .w ku, some (.dct ks us) => match keyU ku with
      | some k => if ks.length < 16777216 then .ok .nx (put r E2 B2 (.dct (putKs ks k) (putVs ks us k u))).1 (put r E2 B2 (.dct (putKs ks k) (putVs ks us k u))).2 else .bad
      | none => .bad
    | _, _ => .bad := (rfl)
@[simp] theorem e_mItD {g : List Key → List U → List U} : mItD g fa E B = (fa E B).bind fun r E1 B1 =>
  match settle r E1 with
  | some (.dct ks us, E2) => .ok (g ks us, yes) E2 B1
  | _ => .bad := (rfl)
@[simp] theorem e_mLIdx : mLIdx fo fe E B = (fo E B).bind fun r E1 B1 =>
  match view r E1 B1 with
  | some (.lst _) => (mCons fe mNil E1 B1).bind fun us E2 B2 =>
    match us, view r E2 B2 with
    | [u], some a => match gLIdx a u with
      | some r3 => .ok r3 E2 B2
      | none => .bad
    | _, _ => .bad
  | _ => .bad := (rfl)
end
end QB
/-! QdJ: texts split and joined at one sign. -/
namespace QB
open PySem L2 PySem.StrLaws PySem.Builtin.Str
def consH (p : List Nat) : List (List Nat) → List (List Nat)
  | q :: r => (p ++ q) :: r
  | [] => [p]
def splitC (c : Nat) : List Nat → List (List Nat)
  | [] => [[]]
  | x :: r => if x = c then [] :: splitC c r else consH [x] (splitC c r)
def posC (c : Nat) : List Nat → Nat → List Nat
  | [], _ => []
  | x :: r, k => if x = c then k :: posC c r (k + 1) else posC c r (k + 1)
theorem consH_app (p q : List Nat) (s : List (List Nat)) : consH p (consH q s) = consH (p ++ q) s := by
  cases s <;> simp [consH]
theorem consH_nil (s : List (List Nat)) (h : s ≠ []) : consH [] s = s := by
  cases s with
  | nil => exact absurd rfl h
  | cons _ _ => rfl
theorem consH_ne (p : List Nat) (s : List (List Nat)) : consH p s ≠ [] := by cases s <;> simp [consH]
theorem splitC_ne (c : Nat) : ∀ l, splitC c l ≠ []
  | [] => by simp [splitC]
  | x :: r => by
    unfold splitC
    split
    · simp
    · exact consH_ne _ _
theorem occ_all (l : List Nat) (c : Nat) : ∀ (n i free : Nat) (acc : Array Nat), i + n = l.length + 1 → free ≤ i → acc.size ≤ i →
    (forIn (List.range' i n) (acc, free) (occBody (ofC l) ⟨#[c]⟩ l.length (l.length + 1))).run.fst.toList = acc.toList ++ posC c (l.drop i) i
  | 0, i, free, acc, h, hf, ha => by
    rw [List.drop_eq_nil_of_le (by omega)]
    simp [posC]
  | n + 1, i, free, acc, h, hf, ha => by
    rw [List.range'_succ, List.forIn_cons]
    have key := subAt_one (ofC l) c i
    rw [ofC_len, ofC_cps] at key
    by_cases hc : l[i]? = some c
    · have k2 := key.mpr hc
      have hlt : i < l.length := (List.getElem?_eq_some_iff.mp hc).1
      have e : (occBody (ofC l) ⟨#[c]⟩ l.length (l.length + 1) i (acc, free)) = pure (ForInStep.yield (acc.push i, i + (⟨#[c]⟩ : Str).length)) := by
        unfold occBody
        rw [if_pos ⟨⟨⟨by simp; omega, hf⟩, k2.1⟩, k2.2⟩]
      rw [e]
      show (forIn (List.range' (i + 1) n) (acc.push i, i + (⟨#[c]⟩ : Str).length) (occBody (ofC l) ⟨#[c]⟩ l.length (l.length + 1))).run.fst.toList = _
      rw [occ_all l c n (i + 1) _ _ (by omega) (by simp [Str.length]) (by simp; omega), List.drop_eq_getElem_cons hlt, posC, if_pos ((List.getElem?_eq_some_iff.mp hc).2)]
      simp
    · have e : (occBody (ofC l) ⟨#[c]⟩ l.length (l.length + 1) i (acc, free)) = pure (ForInStep.yield (acc, free)) := by
        unfold occBody
        rw [if_neg (fun z => hc (key.mp ⟨z.1.2, z.2⟩))]
      rw [e]
      show (forIn (List.range' (i + 1) n) (acc, free) (occBody (ofC l) ⟨#[c]⟩ l.length (l.length + 1))).run.fst.toList = _
      rw [occ_all l c n (i + 1) free acc (by omega) (by omega) (by omega)]
      by_cases hlt : i < l.length
      · rw [List.drop_eq_getElem_cons hlt, posC, if_neg (fun z => hc (by rw [List.getElem?_eq_getElem hlt, z]))]
      · rw [List.drop_eq_nil_of_le (by omega : l.length ≤ i), List.drop_eq_nil_of_le (by omega)]; rfl
theorem occ_pos (l : List Nat) (c : Nat) : Builtin.Str.occurrences (ofC l) (ofC [c]) 0 l.length (l.length + 1) = posC c l 0 := by
  rw [occ_eq]
  have := occ_all l c (l.length + 1) 0 0 #[] (by omega) (Nat.le_refl _) (by simp)
  simpa using this
theorem sub_ofC (l : List Nat) (i j : Nat) : strSub (ofC l) i j = ofC ((l.drop i).take (j - i)) := by
  apply str_ext
  show (strSub (ofC l) i j).cps.toList = _
  rw [strSub_toList]; rfl
theorem parts_eq (l : List Nat) (c : Nat) : ∀ (n k a : Nat), k + n = l.length → a ≤ k →
    partsFrom (ofC l) 1 a (posC c (l.drop k) k) = (consH ((l.drop a).take (k - a)) (splitC c (l.drop k))).map ofC
  | 0, k, a, h, ha => by
    rw [List.drop_eq_nil_of_le (by omega)]
    simp only [posC, partsFrom, splitC, consH, List.map_cons, List.map_nil, List.append_nil]
    rw [sub_ofC, ofC_len, show l.length = k by omega]
  | n + 1, k, a, h, ha => by
    have hlt : k < l.length := by omega
    rw [List.drop_eq_getElem_cons hlt, posC, splitC]
    have step : (l.drop a).take (k + 1 - a) = (l.drop a).take (k - a) ++ [l[k]] := by
      rw [show k + 1 - a = (k - a) + 1 by omega, List.take_succ]
      congr 1
      rw [List.getElem?_drop, show a + (k - a) = k by omega, List.getElem?_eq_getElem hlt]
      rfl
    by_cases hc : l[k] = c
    · rw [if_pos hc, if_pos hc, partsFrom, parts_eq l c n (k + 1) (k + 1) (by omega) (Nat.le_refl _), sub_ofC]
      rw [Nat.sub_self, List.take_zero, consH_nil _ (splitC_ne _ _)]
      simp [consH]
    · rw [if_neg hc, if_neg hc, parts_eq l c n (k + 1) a (by omega) (by omega), step, consH_app]
theorem kind_ge (x : Str) : 1 ≤ Builtin.Str.strKind x := by unfold Builtin.Str.strKind; split <;> (try split) <;> omega
theorem split_one (l : List Nat) (c : Nat) (hc : c < 256) : Txt.split (ofC l) (ofC [c]) = (splitC c l).map ofC := by
  have p := parts_eq l c l.length 0 0 (by omega) (Nat.le_refl _)
  simp only [List.drop_zero, Nat.sub_self, List.take_zero] at p
  rw [consH_nil _ (splitC_ne _ _)] at p
  have k1 : Builtin.Str.strKind (ofC [c]) = 1 := by
    have : (ofC [c]).cps.all (· < 256) = true := by
      rw [← Array.all_toList]
      show ([c].all fun x => decide (x < 256)) = true
      simpa using hc
    unfold Builtin.Str.strKind
    rw [if_pos this]
  unfold Txt.split
  by_cases h0 : l = []
  · subst h0
    rw [if_pos (by simp)]
    rfl
  · have h1 : 1 ≤ l.length := by cases l with
      | nil => exact absurd rfl h0
      | cons _ _ => simp
    have := kind_ge (ofC l)
    have hk : ¬ (decide ((ofC l).length < (ofC [c]).length) || decide (Builtin.Str.strKind (ofC l) < Builtin.Str.strKind (ofC [c]))) = true := by
      rw [k1, ofC_len, ofC_len, Bool.or_eq_true, decide_eq_true_eq, decide_eq_true_eq]
      simp only [List.length_cons, List.length_nil]
      omega
    rw [if_neg hk, ofC_len, occ_pos]
    by_cases h2 : (posC c l 0).isEmpty = true
    · rw [if_pos h2, ← p, List.isEmpty_iff.mp h2, partsFrom, sub_ofC]
      simp
    · rw [if_neg h2, partsBetween_eq, ofC_len]
      exact p
/-! ### laws of splitC -/
theorem splitC_app (c : Nat) : ∀ a b : List Nat, splitC c (a ++ c :: b) = splitC c a ++ splitC c b
  | [], b => by simp [splitC]
  | x :: a, b => by
    rw [List.cons_append, splitC, splitC, splitC_app c a b]
    by_cases h : x = c
    · rw [if_pos h, if_pos h]; rfl
    · rw [if_neg h, if_neg h]
      cases hs : splitC c a with
      | nil => exact absurd hs (splitC_ne _ _)
      | cons p q => rfl
theorem splitC_no (c : Nat) : ∀ l : List Nat, c ∉ l → splitC c l = [l]
  | [], _ => rfl
  | x :: l, h => by
    rw [splitC, if_neg (fun e => h (by rw [e]; exact List.mem_cons_self ..)), splitC_no c l (fun z => h (List.mem_cons_of_mem _ z))]
    rfl
def weigh (ls : List (List Nat)) : Nat := (ls.map List.length).sum + ls.length
theorem weigh_consH (p : List Nat) (s : List (List Nat)) (h : s ≠ []) : weigh (consH p s) = p.length + weigh s := by
  cases s with
  | nil => exact absurd rfl h
  | cons q r => simp [weigh, consH]; omega
theorem splitC_weigh (c : Nat) : ∀ l : List Nat, weigh (splitC c l) = l.length + 1
  | [] => rfl
  | x :: l => by
    rw [splitC]
    split
    · have := splitC_weigh c l
      simp only [weigh, List.map_cons, List.sum_cons, List.length_cons, List.length_nil] at this ⊢
      omega
    · rw [weigh_consH _ _ (splitC_ne _ _), splitC_weigh c l]; simp; omega
theorem splitC_len (c : Nat) (l : List Nat) : (splitC c l).length ≤ l.length + 1 := by
  have := splitC_weigh c l
  unfold weigh at this
  omega
def joinC (sep : List Nat) : List (List Nat) → List Nat
  | [] => []
  | [l] => l
  | l :: m :: r => l ++ sep ++ joinC sep (m :: r)
theorem sjoinC (sep : List Nat) : ∀ ls : List (List Nat), Str.join (ofC sep) (ls.map ofC) = ofC (joinC sep ls)
  | [] => rfl
  | [l] => by simp [Str.join, joinC]
  | l :: m :: r => by
    have ih := sjoinC sep (m :: r)
    simp only [List.map_cons, Str.join, joinC] at ih ⊢
    rw [ih]
    simp
theorem e_joinC {sep : List Nat} {ls : List (List Nat)} (h : (ls.map List.length).sum + ls.length * sep.length ≤ 16777216) : gJoin (.str (ofC sep)) [.lst (ls.map fun l => .str (ofC l))] = some (.w (.str (ofC (joinC sep ls)))) := by
  have e : (List.map (fun x => x.length) (ls.map ofC)).sum = (ls.map List.length).sum := by
    simp [Function.comp_def]
  have e2 : Txt.join (ofC sep) (ls.map ofC) = ofC (joinC sep ls) := by
    show Builtin.Str.glued _ _ = _
    rw [StrLaws.glued_eq_join, sjoinC]
  simp only [gJoin, strsOf_map, e2, e, List.length_map, ofC_len]
  rw [if_pos h]
theorem joinC_len (sep : List Nat) : ∀ ls : List (List Nat), (joinC sep ls).length ≤ (ls.map List.length).sum + ls.length * sep.length
  | [] => by simp [joinC]
  | [l] => by simp [joinC]
  | l :: m :: r => by
    have ih := joinC_len sep (m :: r)
    simp only [joinC, List.map_cons, List.sum_cons, List.length_cons, List.length_append, Nat.add_mul, Nat.one_mul] at ih ⊢
    omega
theorem e_splitC {l : List Nat} {c : Nat} (hc : c < 256) (h : l.length + 2 ≤ 16777216) : gSplit (.str (ofC l)) [.str (ofC [c])] = some (.fr (.lst ((splitC c l).map fun p => .str (ofC p)))) := by
  unfold gSplit
  simp only
  rw [if_pos ⟨by simp, by simpa using h⟩, split_one l c hc]
  simp [Function.comp_def]
/-! ### a slice of the script -/
section
variable {X : Cy} {a : Expr} {fa : Ex} {pos p2 : Pos}
def gSlS (u : U) (lo hi : Option Int) : Option R :=
  match u with
  | .scr ns => some (.fr (.lst (cutU (ns.map U.int) lo hi)))
  | _ => none
def mSlS (fa : Ex) (fl fh : En → Bx → O (Option Int)) : Ex := fun E B =>
  (fa E B).bind fun r E1 B1 => (fl E1 B1).bind fun lo E2 B2 => (fh E2 B2).bind fun hi E3 B3 =>
    match view r E3 B3 with
    | some u => match gSlS u lo hi with
      | some r => .ok r E3 B3
      | none => .bad
    | none => .bad
theorem ints_reps {K : PySem.W.Frag} {H : Hp} {Lv : AS} {ρ : List Addr} : ∀ ns : List Int, Reps K H Lv ρ (ns.map U.int) (ns.map V.int)
  | [] => Reps.nil
  | n :: ns => Reps.cons (by simp [Rep]) (ints_reps ns)
theorem sndE_slS {lo hi : Option Expr} {fl fh : En → Bx → O (Option Int)} (ha : SndE X a fa) (hl : SndO X lo fl) (hh : SndO X hi fh) : SndE X (.Subscript a (.Slice lo hi none p2) pos) (mSlS fa fl fh) := by
  obtain ⟨ta, pa, ha⟩ := ha
  obtain ⟨tl, pl, hl⟩ := hl
  obtain ⟨th, ph, hh⟩ := hh
  refine ⟨_, pe_slice ((sl_list.or sl_tupA).or sl_str) pa pl ph, fun F ρ E B σ H Q rl h => ?_⟩
  refine ha F ρ E B σ H _ rl ?_
  simp only [mSlS] at h
  cases h1 : fa E B with
  | bad => rw [h1] at h; exact h
  | ex c E' B' => rw [h1] at h ; first | exact h | exact Aft.exq (by assumption) h | exact AftT.exq (by assumption) h | exact Aft.exq (by assumption) (Aft.exq (by assumption) h) | exact AftT.exq (by assumption) (Aft.exq (by assumption) h) | exact AftT.exq (AftA.t (by assumption)) h | exact ExQ.px h (Aft.px (by assumption)) | exact ExQ.px h (List.IsPrefix.trans (AftT.px (by assumption)) (Aft.px (by assumption))) | exact Aft.exq (by assumption) (AftT.exq (by assumption) h) | exact Aft.exq (by assumption) (Aft.exq (by assumption) (AftT.exq (by assumption) h))
  | ok r1 E1 B1 =>
    rw [h1] at h
    intro ρ1 H1 v1 A1
    simp only [O.bind_ok] at h
    refine hl _ ρ1 E1 B1 σ H1 _ A1.rel ?_
    cases h2 : fl E1 B1 with
    | bad => rw [h2] at h; exact h
    | ex c E' B' => rw [h2] at h ; first | exact h | exact Aft.exq (by assumption) h | exact AftT.exq (by assumption) h | exact Aft.exq (by assumption) (Aft.exq (by assumption) h) | exact AftT.exq (by assumption) (Aft.exq (by assumption) h) | exact AftT.exq (AftA.t (by assumption)) h | exact ExQ.px h (Aft.px (by assumption)) | exact ExQ.px h (List.IsPrefix.trans (AftT.px (by assumption)) (Aft.px (by assumption))) | exact Aft.exq (by assumption) (AftT.exq (by assumption) h) | exact Aft.exq (by assumption) (Aft.exq (by assumption) (AftT.exq (by assumption) h))
    | ok lo E2 B2 =>
      rw [h2] at h
      simp only [O.bind_ok] at h
      intro ρ2 H2 A2
      have A12 := A1.carry A2
      refine hh _ ρ2 E2 B2 σ H2 _ A12.rel ?_
      cases h3 : fh E2 B2 with
      | bad => rw [h3] at h; exact h
      | ex c E' B' => rw [h3] at h ; first | exact h | exact Aft.exq (by assumption) h | exact AftT.exq (by assumption) h | exact Aft.exq (by assumption) (Aft.exq (by assumption) h) | exact AftT.exq (by assumption) (Aft.exq (by assumption) h) | exact AftT.exq (AftA.t (by assumption)) h | exact ExQ.px h (Aft.px (by assumption)) | exact ExQ.px h (List.IsPrefix.trans (AftT.px (by assumption)) (Aft.px (by assumption))) | exact Aft.exq (by assumption) (AftT.exq (by assumption) h) | exact Aft.exq (by assumption) (Aft.exq (by assumption) (AftT.exq (by assumption) h))
      | ok hi E3 B3 =>
        rw [h3] at h
        simp only [O.bind_ok] at h
        intro ρ3 H3 A3
        have A13 := A12.carry A3
        have T1 := A13.letgo
        split at h
        · next u1 e1 =>
          have t1 := A13.top e1
          split at h
          · next r3 eg =>
            have fin : ∀ H' v, Aft X.K F ρ3 E3 B3 σ H3 r3 ρ3 E3 B3 H' v → Q v H' := fun H' v A4 => h ρ3 H' v (T1.then A4)
            unfold gSlS at eg
            split at eg
            · next ns =>
              cases eg
              simp only [Top, Rep] at t1
              obtain ⟨p, rfl, k1⟩ := t1
              exact .inl (.inl ⟨p, _, rfl, sqL_of k1, fun q hq => fin _ _ (Aft.fresh T1.rel hq (cutU_reps (ints_reps ns)))⟩)
            · cases eg
          · exact h.elim
        · exact h.elim

theorem gSlS_to {ns : List Int} {j : Int} {b : Nat} (h : j = (b : Int)) : gSlS (.scr ns) none (some j) = some (.fr (.lst ((ns.take b).map U.int))) := by
  unfold gSlS
  simp only
  rw [cutU_j h, List.map_take]
theorem gSlS_from {ns : List Int} {j : Int} {b : Nat} (h : j = (b : Int)) : gSlS (.scr ns) (some j) none = some (.fr (.lst ((ns.drop b).map U.int))) := by
  unfold gSlS
  simp only
  rw [cutU_i h, List.map_drop]
@[simp] theorem e_mSlS {fl fh : En → Bx → O (Option Int)} {E : En} {B : Bx} : mSlS fa fl fh E B = (fa E B).bind fun r E1 B1 => (fl E1 B1).bind fun lo E2 B2 => (fh E2 B2).bind fun hi E3 B3 =>
    match view r E3 B3 with
    | some u => match gSlS u lo hi with
      | some r => .ok r E3 B3
      | none => .bad
    | none => .bad := (rfl)
end
end QB
/-! QdK: d != {}; rpartition; calls with values and keywords. -/
namespace L2
open PySem PySem.Builtin.Str
section
variable {X : Cx}
def rNeD0 : R2 := fun x y H Q => ∃ a b ks, x = .ref a ∧ y = .ref b ∧ Rd H a (.dK ks) ∧ Rd H b (.dK []) ∧ Q (.bl (!ks.isEmpty)) H
theorem op_neD0 (hu : X.A.units < cLine) : OpR X (compareOp .NotEq) rNeD0 := by
  intro pins s σ H x y v u Q I rx ry h
  obtain ⟨a, b, ks, rfl, rfl, ea, eb, q⟩ := h
  obtain rfl : v = Value.ref a := rx
  obtain rfl : u = Value.ref b := ry
  obtain ⟨_, ya, va, ra, da⟩ := dk_rd I.hok ea
  obtain ⟨_, yb, vb, rb, db⟩ := dk_rd I.hok eb
  cases rb
  have hva : va.length = ks.length := ra.length.symm
  refine PySem.W.keq_ne (knd := mixKind X.prog X.w) (r := true) ya yb da db hu (fun hl => ?_) (fin_bl I q ?_)
  · have hl : va.length = 0 := hl
    have : va = [] := List.eq_nil_of_length_eq_zero hl
    subst this
    exact .nil
  · cases ks with
    | nil => rw [List.length_eq_zero_iff.mp hva]; rfl
    | cons k ks =>
      cases va with
      | nil => cases hva
      | cons _ _ => simp
/-- x.rpartition(sep) -/
theorem mt_rpartition : MtR X "str.rpartition" (fun x xs H Q => ∃ a b, x = .str a ∧ xs = [.str b] ∧ (b.length == 0) = false ∧ a.length ≤ sizeLine ∧
    ∀ p, H p = none → Q (.ref p) (upd H p (.tup [.str (Txt.rpartition a b).1, .str (Txt.rpartition a b).2.1, .str (Txt.rpartition a b).2.2]))) := by
  intro pins s σ H x xs v us Q I rx rs h
  obtain ⟨a, b, rfl, rfl, hb, hz, h⟩ := h
  obtain ⟨t, rfl⟩ := rx
  cases rs with
  | cons r1 rs =>
    cases rs
    obtain ⟨u, rfl⟩ := r1
    refine call_meets F.slot_str_rpartition (typeIs_str _ _ _) F.entry_str_rpartition (F.args_str_rpartition_2 _ _) (meets_str_rpartition a b t u hb hz) ?_
    unfold Txt.rpartition at h
    revert h
    cases Builtin.Str.lastOccurrence a b 0 a.length with
    | none => intro h; exact laid_parts I h
    | some i => intro h; exact laid_parts I h
end
end L2
namespace QB
open PySem L2 PySem.StrLaws PySem.Builtin.Str
section
variable {X : Cy} {e : Expr} {es : List Expr} {fs fk : Ar} {pos p : Pos} {x : Str} {k j : Nat} {st : Stmt} {ps : List Str} {g : Fn}
def gDNe0 (a b : U) : Option R :=
  match a, b with
  | .dct ks _, .dct [] _ => some (.w (.bl (!ks.isEmpty)))
  | _, _ => none
theorem op2_dne0 (hu : X.A.units < cLine) : Op2S X (compareOp .NotEq) gDNe0 := by
  refine ⟨_, op_neD0 hu, fun F ρ E B σ H u1 u2 v1 v2 r3 Q rl t1 t2 e q => ?_⟩
  unfold gDNe0 at e
  split at e
  · next ks us us2 =>
    cases e
    obtain ⟨p1, kvs, rfl, h1, h2, h3⟩ := t1
    obtain ⟨p2, kvs2, rfl, h4, h5, h6⟩ := t2
    have : kvs2 = [] := by cases kvs2 <;> simp at h5 ⊢
    subst this
    refine ⟨p1, p2, kvs, rfl, rfl, h1, h4, ?_⟩
    have e2 : ks.isEmpty = kvs.isEmpty := by rw [← h2]; cases kvs <;> rfl
    rw [← e2]
    exact q H _ (Aft.val rl (by simp [Rep]))
  · cases e
def gRPart : U → List U → Option R
  | .str a, [.str b] => if (b.length == 0) = false ∧ a.length ≤ 16777216 then some (.w (.tup [.str (Txt.rpartition a b).1, .str (Txt.rpartition a b).2.1, .str (Txt.rpartition a b).2.2])) else none
  | _, _ => none
theorem meth_rpartition : MethS X "str.rpartition" gRPart := by
  refine ⟨_, mt_rpartition, fun F ρ E B σ H z us vs r3 Q rl rs e q => ?_⟩
  unfold gRPart at e
  split at e
  · next a b hz =>
    injection hz with hz
    subst hz
    split at e
    · next hc =>
      cases e
      simp only [Reps, Rep] at rs
      obtain ⟨v, r, rfl, rfl, rfl⟩ := rs
      exact ⟨_, b, rfl, rfl, hc.1, by rw [sizeLine_eq]; exact hc.2, fun p hp => q _ _ (Aft.tuple rl hp (by simp [Reps, Rep]))⟩
    · cases e
  · cases e
/-! ### calls with values and keywords -/
structure KwOkP (K : PySem.W.Frag) (st : Stmt) (x : Str) (ps ks : List Str) (n : Nat) (ix : List Nat) : Prop where
  b : ∀ (kV doc pm : Value) (an : Option Addr) (cdv ct : Value) (us ws : List Value), us.length = n → (pick ix (us ++ ws)).length = ps.length → bindArgs (PySem.W.fnOf x x (defArgs st) (defBody st) (defScope st) .none kV doc pm an cdv ct) ⟨us, ks.zip ws⟩ = pure (ps.zip (pick ix (us ++ ws)))
def mCallPK (g : Fn) (n : Nat) (ix : List Nat) (fs fk : Ar) : Ex := fun E B => (fs E B).bind fun us E1 B1 => (fk E1 B1).bind fun ws E2 B2 =>
  if us.length = n then
    match g (pick ix (us ++ ws)) B2 with
    | .ok u B3 => .ok (.w u) E2 B3
    | .ex c B3 => .ex c E2 B3
    | .bad => .bad
  else .bad
theorem valsApp {us us' : List V} {vs vs' : List Value} (h : Vals us vs) (h2 : Vals us' vs') : Vals (us ++ us') (vs ++ vs') := by
  induction h with
  | nil => exact h2
  | cons a _ ih => exact .cons a ih
theorem sndE_callPK {kws : List Keyword} {ks : List Str} {n : Nat} {ix : List Nat} (C : CalF X.prog X.w X.K X.mg X.base k x st ps g) (hr : Room j X.A) (hk : k ≤ j) (kw : KwOkP X.K st x ps ks n ix) (hps : ps ≠ []) (hp : SndA X (e :: es) fs) (ha : SndK X kws fk) (hg : Gl X x := by rfl)
    (hall : (backToKw pos (keywordEach kws X.env)).all (·.1.isSome) = true := by rfl) (hks : (backToKw pos (keywordEach kws X.env)).filterMap (·.1) = ks := by rfl)
    (hdb : (x == ("__debug__" : Str)) = false := by decide) (hpl : ((backTo pos (starEach (e :: es) X.env)).any (·.1) || (backToKw pos (keywordEach kws X.env)).any (·.1.isNone)) = false := by rfl)
    (he : starEach (e :: es) X.env = (false, eval e X.env) :: starEach es X.env := by rfl) : SndE X (.Call (.Name x p) (e :: es) kws pos) (mCallPK g n ix fs fk) := by
  obtain ⟨⟨f, fd, h1, h2, h3, h4⟩, hl⟩ := C
  obtain ⟨tp, pp, hp2⟩ := hp
  obtain ⟨tk, pk, hk2⟩ := ha
  have kb : KBinds X.K fd ps ks (fun us ws => if us.length = n then pick ix (us ++ ws) else []) (fun us zs => if us.length = n then pick ix (us ++ zs) else []) := by
    obtain ⟨oc, od, kV, doc, pm, an, cdv, ct, osl, rfl, lk, hcd⟩ := h3.ex
    refine ⟨fun s us ws _ hlen => ?_, fun {vs us zs ws} r1 r2 => ?_⟩
    · by_cases hn : us.length = n
      · simp only [if_pos hn] at hlen ⊢
        exact .of_eq (kw.b kV doc pm an cdv ct us ws hn hlen)
      · simp only [if_neg hn] at hlen
        exact absurd (by cases ps <;> simp_all) hps
    · have hl2 : vs.length = us.length := r1.length
      by_cases hn : us.length = n
      · have hn2 : vs.length = n := by rw [hl2]; exact hn
        simp only [if_pos hn, if_pos hn2]
        exact pick_vals (valsApp r1 r2)
      · have hn2 : ¬ vs.length = n := by rw [hl2]; exact hn
        simp only [if_neg hn, if_neg hn2]
        exact .nil
  refine ⟨fun σ H Q => tp σ H fun xs H1 => tk σ H1 fun zs H2 => spF X.K X.mg ps.length g (if xs.length = n then pick ix (xs ++ zs) else []) H2 Q (WE X.W σ), ⟨fun pins s σ H Q I h => ?_⟩, fun F ρ E B σ H Q rl q => ?_⟩
  · refine wpAny_Call_Name_kw (ld_glob I hg h2 ?_ hdb)
    refine PySem.W.callWith_KW (h₀ := X.base) I.ok.mod.kin h3.kp hall (thn (pp.run pos pins s σ H _ I h) fun us s1 ⟨xs, H1, I1, r1, q1⟩ => thn (pk.run pos pins s1 σ H1 _ I1 q1) fun ws s2 ⟨zs, H2, I2, rz, q2⟩ => ⟨I2.kIn, ?_⟩) hpl he
    rw [hks, List.nil_append]
    exact run_fnkS h1 (hr.mono hk) kb (passAt X.tk σ) I2 r1 rz q2
  · refine hp2 F ρ E B σ H _ rl ?_
    simp only [mCallPK] at q
    cases e1 : fs E B with
    | bad => rw [e1] at q; exact q
    | ex c E' B' => rw [e1] at q; exact q
    | ok us E1 B1 =>
      rw [e1] at q
      intro ρ1 H1 vs A1
      simp only [O.bind_ok] at q
      refine hk2 F ρ1 E1 B1 σ H1 _ A1.t.rel ?_
      cases e3 : fk E1 B1 with
      | bad => rw [e3] at q; exact q
      | ex c E' B' => rw [e3] at q ; first | exact q | exact Aft.exq (by assumption) q | exact AftT.exq (by assumption) q | exact Aft.exq (by assumption) (Aft.exq (by assumption) q) | exact AftT.exq (by assumption) (Aft.exq (by assumption) q) | exact AftT.exq (AftA.t (by assumption)) q | exact ExQ.px q (Aft.px (by assumption)) | exact ExQ.px q (List.IsPrefix.trans (AftT.px (by assumption)) (Aft.px (by assumption))) | exact Aft.exq (by assumption) (AftT.exq (by assumption) q) | exact Aft.exq (by assumption) (Aft.exq (by assumption) (AftT.exq (by assumption) q))
      | ok ws E2 B2 =>
        rw [e3] at q
        intro ρ2 H2 zs A2
        simp only [O.bind_ok] at q
        have reps : Reps X.K H2 (LvF F ρ2 E2 B2 σ) ρ2 (us ++ ws) (vs ++ zs) := Reps.append (Reps.mono A2.t.stp A2.t.px _ _ A1.reps) A2.reps
        have tt := A1.t.trans A2.t
        by_cases hn : us.length = n
        · rw [if_pos hn] at q
          have hn2 : vs.length = n := by rw [← A1.reps.len]; exact hn
          rw [if_pos hn2]
          have hlen : (pick ix (us ++ ws)).length = ps.length := by
            by_cases z : (pick ix (us ++ ws)).length = ps.length
            · exact z
            · rw [hl _ B2 z] at q; exact q.elim
          refine ⟨outOf F E2 σ, ρ2, B2, pick ix (us ++ ws), hlen, tt.rel.brel, by rw [ob_eq]; exact pick_reps reps, ?_⟩
          cases e2 : g (pick ix (us ++ ws)) B2 with
          | bad => rw [e2] at q; exact q.elim
          | ex c B3 =>
            rw [e2] at q
            intro ρ3 H3 cls dx v A3 f1 f2 f3
            have A4 := tt.rel.back A3
            exact q ρ3 σ H3 cls (some dx) (tt.px.trans A4.px) A4.rel ⟨dx, v, f1, rfl, f2, ob_not f3, A4.rep⟩
          | ok u B3 =>
            rw [e2] at q
            exact fun ρ3 H3 v A3 => q ρ3 H3 v (tt.then (tt.rel.back A3))
        · rw [if_neg hn] at q
          exact q.elim
@[simp] theorem e_mCallPK {n : Nat} {ix : List Nat} {E : En} {B : Bx} : mCallPK g n ix fs fk E B = (fs E B).bind fun us E1 B1 => (fk E1 B1).bind fun ws E2 B2 =>
  if us.length = n then
    match g (pick ix (us ++ ws)) B2 with
    | .ok u B3 => .ok (.w u) E2 B3
    | .ex c B3 => .ex c E2 B3
    | .bad => .bad
  else .bad := (rfl)
@[simp] theorem pick01 {a b : U} : pick [0, 1] [a, b] = [a, b] := rfl
@[simp] theorem pick012 {a b c : U} : pick [0, 1, 2] [a, b, c] = [a, b, c] := rfl
end
end QB
/-! QeA: an own exception whose __init__ says super().__init__(text) and then self.value = value. -/
namespace L2
open PySem PySem.Spec PyProof.Rows PySem.W PySem.Calls PySem.HandSPX
/-- what the written part says of the class C below the class D whose __init__ it is -/
structure SupC (K : PySem.W.Frag) (C D : Addr) : Prop where
  sub : PySem.W.mroIn K C (.ref D) = some true
  sup : ks_superIn K C D "__init__" = some (some (.builtin "ValueError.__init__"))
  isV : PySem.W.subIn K (.ref C) (.type "ValueError") = some true
def sEnv (qual : Str) (scope : Scope) (L f : Addr) (cd : Value) (cc : Addr) : Env := envX qual scope L f cd [("__class__", cc)]
def cxS (CX : CXT) (P : Program) (w : World) (K : PySem.W.Frag) (mg : Str → Option Value) (base : Heap) (N : List Str) (qual : Str) (scope : Scope) (f : Addr) (cd : Value) (cc : Addr) (A : Around) (outer : List Env) (s : Shared) (H : Hp) (E : XK) : Cx where
  prog := P
  w := w
  K := K
  mg := mg
  base := base
  A := A.deeper (sEnv qual scope s.heap.objs.size f cd cc)
  N := N
  s_0 := s
  H_0 := H
  env := sEnv qual scope s.heap.objs.size f cd cc
  outer := outer
  stack := sEnv qual scope s.heap.objs.size f cd cc :: outer
  ex := []
  calm := true
  fn := fun _ => false
  pn := []
  xe := fun e s' => wpAny (model P w) (A.deeper (sEnv qual scope s.heap.objs.size f cd cc)) (leaving (sEnv qual scope s.heap.objs.size f cd cc) e) (fun _ s'' => CX outer H s E e s'') (fun e' s'' => CX outer H s E e' s'') s'
section
variable {X : Cx} {pins : List (Addr × Obj)} {σ : St} {H : Hp} {s : Shared} {E : Value → Shared → Prop}
/-- super().__init__ bound to the exception, called -/
theorem call_mw {C u a : Addr} {us : List Value} {Q : Value → Shared → Prop} (T : OexC X.K C) (I : Inv X pins σ H s) (e : H a = some (exo a C none)) (hu : s.heap.get? u = some (kxs_mw "ValueError.__init__" a)) (hl : us.length ≤ sizeLine) (h : ∀ s', Inv X pins σ H s' → Q .none s') :
    wpAny (model X.prog X.w) X.A (call (.ref u) us) Q E s := by
  obtain ⟨nm, q, N, bs, bm, sn, sub, ab, col, dd, k0, k1, k2, k3, k5, hC, hbm⟩ := T.cls
  obtain ⟨t1, ho⟩ := exo_at I.hok e
  have hCC := I.kIn _ _ hC
  obtain ⟨hh, g, d, tk, os⟩ := s
  refine wpAny_call (codeAny_of_tree ?_)
  show wpAny _ X.A.in1 (callAny (.ref u) ⟨us, []⟩) _ _ _
  simp only [callAny]
  refine wpAny_bind (wpAny_load hu ?_)
  simp only [kxs_mw, show (Value.type "method-wrapper" == Value.type "method" || Value.type "method-wrapper" == Value.type "builtin_function_or_method" || Value.type "method-wrapper" == Value.type "method-wrapper") = true by decide, if_true]
  refine KFB.if_so (by decide) ?_
  refine wpAny_bind (check_bound_init F.excBase_ValueError.toExcCallFacts hCC ho rfl ?_)
  refine wpAny_bind (wpAny_pure (wpAny_pure ?_))
  refine ⟨plainId_quiet F.excBase_ValueError.init.plain _, codeAny_builtin F.excBase_ValueError.initEntry ?_⟩
  refine exc_init_tree (cls := .ref C) (t0 := t1) (dv := none) (c2 := .none) (c3 := .none) (b4 := .bool false) ho hl fun h' k hx _ => ?_
  have J := I.write (t' := tk) (x := a) (e := a) (o := exo a C none) (by rw [e]; exact True.intro) (.inl rfl) k ⟨_, hx⟩ (exo_ok hx)
  have eu : upd H a (exo a C none) = H := by
    funext b
    by_cases hb : b = a
    · rw [hb, upd_same, e]
    · rw [upd_ne hb]
  rw [eu] at J
  exact h _ J
/-- the statement super().__init__(text) -/
theorem super_at {C D a f cc cda : Addr} {qual : Str} {scope : Scope} {body : List Stmt} {p0 p1 p2 p3 p4 : Pos} {e1 : Expr} {es : List Expr} {ta : TA} {fd : FuncData} {ar : Arg} {vs : Array Value} {file : Str} {tf : Tok} {oc ccl cl : Value} {od cdd cld : Option Addr} {osl ccs csl : Array (Option Value)} {cdD : ClassData} {pl : Sem Bool}
    (henv : X.env = sEnv qual scope X.env.locals f (.ref cda) cc) (T : OexC X.K C) (S : SupC X.K C D) (I : Inv X [] σ H s) (ea : H a = some (exo a C none))
    (hf : X.K.lookup f = some ⟨oc, od, .func fd, osl⟩) (hp : (fd.params.posonlyargs ++ fd.params.args).head? = some ar) (hself : wpAny (model X.prog X.w) X.A (loadName X.env ar.arg) (fun v s' => v = .ref a ∧ s' = s) X.xe s)
    (hcode : X.K.lookup cda = some ⟨ccl, cdd, .fields vs, ccs⟩) (hvs : vs[2]? = some (.str file tf)) (hfile : ((X.prog.main.file : Str) == file) = true)
    (hcell : X.K.lookup cc = some ⟨cl, cld, .cell (some (.ref D)), csl⟩) (hD : clsIn X.K D = some cdD) (hsuper : X.mg "super" = none) (hop : nsIn X.K cStatics "thirdparty.any" = some none)
    (hks : scope.names.lookup ("super" : Str) = some .globalImplicit) (hkc : scope.names.lookup ("__class__" : Str) = some .free) (hk : scope.kind = .function)
    (htop : (X.prog.main.scope.names.lookup ("super" : Str)).isSome = false) (ha : PA X (e1 :: es) ta) (hta : ∀ Q : List V → Hp → Prop, (∀ vs, vs.length ≤ 1000 → Q vs H) → ta σ H Q)
    (hstar : starEach (e1 :: es) X.env = (false, eval e1 X.env) :: starEach es X.env) (hpl : (backTo p3 (starEach es X.env)).any (·.1) = false)
    (hcall : eval (.Call (.Attribute (.Call (.Name "super" p0) [] [] p1) "__init__" p2) (e1 :: es) [] p3) X.env = (do
      let ov ← attributeBase (.Call (.Name "super" p0) [] [] p1) "__init__" X.env (eval (.Call (.Name "super" p0) [] [] p1) X.env)
      standAt p2.atName
      let (f, first) ← holding [ov] (getMethod ov "__init__" pl)
      callWith p3 f first (backTo p3 (starEach (e1 :: es) X.env)) []))
    {Q : Flow → Shared → Prop} (h : ∀ s', Inv X [] σ H s' → Q .next s') :
    _root_.PySem.wpAt (model X.prog X.w) X.A (.func body X.env) (exec (.Expr (.Call (.Attribute (.Call (.Name "super" p0) [] [] p1) "__init__" p2) (e1 :: es) [] p3) p4) X.env) Q X.xe s := by
  have KX := I.kIn
  obtain ⟨t1, hoa⟩ := exo_at I.hok ea
  obtain ⟨oD, hD1, hD2⟩ : ∃ oD, s.heap.get? D = some oD ∧ oD.data = .cls cdD := by
    unfold clsIn at hD
    split at hD
    · rename_i c d cd' sl ho
      cases hD
      exact ⟨_, KX _ _ ho, rfl⟩
    · cases hD
  refine ks_wpAt_Expr_any (ks_wpAt_MethodCall ?_ hcall) I.quiet
  have k1 : X.env.kindOf "super" = some .globalImplicit := by rw [henv]; exact hks
  have k2 : X.env.kindOf "__class__" = some .free := by rw [henv]; exact hkc
  have k3 : X.env.func = some f := by rw [henv]; rfl
  have k4 : X.env.code = .ref cda := by rw [henv]; rfl
  have k5 : X.env.cells.lookup ("__class__" : Str) = some cc := by rw [henv]; rfl
  refine ks_wpAt_super_base (fd := fd) (ar := ar) (vs := vs) (file := file) (tf := tf) k1 k2 rfl k3 (KX _ _ hf) rfl hp k4 (KX _ _ hcode) rfl hvs hfile htop ?_
  obtain ⟨mb, b1, b2⟩ := I.mod.blt
  refine ks_loadName_global I.ok.kind k1 (Calls.loadGlobal_builtin (by rw [I.ok.glob]; exact I.mod.glob.keeps I.bk) hsuper (by rw [I.ok.blt]; exact b1.keeps I.bk) ((b2 _ (by decide +kernel)).trans (by decide +kernel)) ⟨rfl, ?_⟩)
  refine wpAny_loadName_free I.ok.kind k2 k5 ⟨_, KX _ _ hcell, rfl⟩ ?_
  refine wpAny_mono hself (fun v s' hv => ?_) fun _ _ z => z
  obtain ⟨rfl, rfl⟩ := hv
  refine ks_wpAny_isType_cls hD1 hD2 ⟨rfl, ?_⟩
  obtain ⟨hh, g, d, tk, os⟩ := s'
  refine ks_wpAny_call_super hD1 hD2 hoa rfl (fun c z => by cases z) (looks_mroIn KX S.sub) (fun h' e k => ?_)
  have I2 : Inv X [] σ H ⟨h', g, d, tk, os⟩ := I.kept (t' := tk) k
  have KX2 := I2.kIn
  obtain ⟨t2, hoa2⟩ := exo_at I2.hok ea
  have InA : InstAt h' a ({ cls := .ref C, dict := none, data := .fields #[.ref t2, .none, .none, .none, .bool false, .none] } : Obj) C none := ⟨hoa2, rfl, rfl, trivial⟩
  have hI : Looks (model X.prog X.w) h' (isInstance (.ref a) (.type "ValueError")) true := InA.type.andThen (looks_subIn KX2 S.isV)
  obtain ⟨cd, hc⟩ : ∃ cd, clsIn X.K C = some cd := by
    have := S.sup
    unfold ks_superIn at this
    cases hcc : clsIn X.K C with
    | none => rw [hcc] at this; cases this
    | some cd => exact ⟨cd, rfl⟩
  have hm := S.sup
  unfold ks_superIn at hm
  rw [hc] at hm
  refine kxs_getMethod kxs_ValueError e (looks_opaque KX2 hop) (l₀ := cd.mro) ?_ rfl KX2 hm hI (ks_ne KX2 InA hc) (by decide) ?_
  · exact fun A Q E s k q => wpAny_bind ((looks_clsIn KX2 hc) A _ E s k (wpAny_pure q))
  · show wpAny _ _ (callWith p3 (.ref h'.objs.size) [] (backTo p3 (starEach (e1 :: es) X.env)) []) _ _ ⟨h'.push (kxs_mw "ValueError.__init__" a), g, d, tk + 1, os⟩
    have I3 : Inv X [] σ H ⟨h'.push (kxs_mw "ValueError.__init__" a), g, d, tk + 1, os⟩ := I2.kept (t' := tk + 1) (fun b o e => Heap.get?_push_of_some _ e)
    have hu : (h'.push (kxs_mw "ValueError.__init__" a)).get? h'.objs.size = some (kxs_mw "ValueError.__init__" a) := Heap.get?_push_at rfl rfl
    have I4 : Inv X [(h'.objs.size, kxs_mw "ValueError.__init__" a)] σ H ⟨h'.push (kxs_mw "ValueError.__init__" a), g, d, tk + 1, os⟩ := I3.pins_of fun p hp => by
      rw [List.mem_singleton] at hp
      subst hp
      exact ⟨hu, I2.hok.fresh (Nat.le_refl _), fun z => by have := I2.lt; rw [← z] at this; exact absurd this (Nat.lt_irrefl _), I2.nofs (Nat.le_refl _), fun v z => by cases z⟩
    rw [hstar]
    refine kxs_callWith (i := "ValueError.__init__") (x := a) (by show (false || (backTo p3 (starEach es X.env)).any (·.1)) = false; rw [hpl]; rfl) ?_
    refine evalArgs_plain (thn ((hstar ▸ ha.run p3) [(h'.objs.size, kxs_mw "ValueError.__init__" a)] _ σ H _ I4 (hta (fun vs H1 => vs.length ≤ 1000 ∧ H1 = H) fun vs hv => ⟨hv, rfl⟩)) fun us s1 ⟨xs, H1, I5, r1, hx, hH⟩ => ?_)
    subst hH
    have hu2 := (I5.pin _ (List.mem_append_right _ (List.mem_singleton.mpr rfl))).1
    have hlen : us.length ≤ sizeLine := by
      rw [← Paired.length r1, sizeLine_eq]
      omega
    refine ⟨hu2, ?_⟩
    refine call_mw T I5 ea hu2 hlen fun s' J => ?_
    exact h s' (J.pins_of fun p hp => by cases hp)
end
end L2
/-! QeB: that __init__ as a def that keeps its promise. -/
namespace L2
open PySem PySem.Spec PyProof.Rows PySem.W PySem.Calls PySem.HandSPX
/-- what it promises -/
def spI (K : PySem.W.Frag) (D : Addr) : Sp := fun vs H Q _ => ∃ (a C : Addr) (v : V), vs = [.ref a, v] ∧ OexC K C ∧ SupC K C D ∧ PySem.W.findIn K (.ref C) "value" = some none ∧ H a = some (exo a C none) ∧
  ∀ dx, H dx = none → dx ≠ a → Q .non (upd (upd H dx (exd dx [("value", v)])) a (exo a C (some dx)))
abbrev bodyI (p0 p1 p2 p3 p4 q1 q2 q3 q4 q5 : Pos) (z : Str) (j : Nat) : List Stmt :=
  [.Expr (.Call (.Attribute (.Call (.Name "super" p0) [] [] p1) "__init__" p2) [.Constant (.str z) j q5] [] p3) p4, .Assign [.Attribute (.Name "self" q1) "value" q2] (.Name "value" q3) q4]
structure ScI (scope : Scope) : Prop where
  k : scope.kind = .function
  co : scope.isCoroutine = false
  gen : scope.isGenerator = false
  n1 : scope.names.lookup ("self" : Str) = some .local
  n2 : scope.names.lookup ("value" : Str) = some .local
  n3 : scope.names.lookup ("__class__" : Str) = some .free
  n4 : scope.names.lookup ("super" : Str) = some .globalImplicit
  nc : ∀ x ∈ scope.names, x.2 ≠ .cell
  nf : ∀ x : Str, scope.names.lookup x = some .free → x = "__class__"
theorem fnI_ok {P : Program} {w : World} {K : PySem.W.Frag} {mg : Str → Option Value} {base : Heap} {k : Nat} {f cc cda D : Addr} {name qual : Str} {params : Arguments} {scope : Scope} {dV kV doc pm ct oc ccl cl : Value} {an od cdd cld : Option Addr} {osl ccs csl : Array (Option Value)}
    {p0 p1 p2 p3 p4 q1 q2 q3 q4 q5 : Pos} {z : Str} {j : Nat} {ar : Arg} {vs : Array Value} {file : Str} {tf : Tok} {cdD : ClassData}
    (lk : K.lookup f = some ⟨oc, od, .func (ksFn name qual params (bodyI p0 p1 p2 p3 p4 q1 q2 q3 q4 q5 z j) scope dV kV doc pm an (.ref cda) ct cc), osl⟩) (hcd : PySem.W.codeIn K (.ref cda) qual = true) (S : ScI scope)
    (hp : (params.posonlyargs ++ params.args).head? = some ar) (har : ar.arg = "self")
    (hcode : K.lookup cda = some ⟨ccl, cdd, .fields vs, ccs⟩) (hvs : vs[2]? = some (.str file tf)) (hfile : ((P.main.file : Str) == file) = true)
    (hcell : K.lookup cc = some ⟨cl, cld, .cell (some (.ref D)), csl⟩) (hD : clsIn K D = some cdD) (hsuper : mg "super" = none) (hop : nsIn K cStatics "thirdparty.any" = some none)
    (htop : (P.main.scope.names.lookup ("super" : Str)).isSome = false) {pl : Sem Bool}
    (hcall : ∀ env : Env, eval (.Call (.Attribute (.Call (.Name "super" p0) [] [] p1) "__init__" p2) [.Constant (.str z) j q5] [] p3) env = (do
      let ov ← attributeBase (.Call (.Name "super" p0) [] [] p1) "__init__" env (eval (.Call (.Name "super" p0) [] [] p1) env)
      standAt p2.atName
      let (f, first) ← holding [ov] (getMethod ov "__init__" pl)
      callWith p3 f first (backTo p3 (starEach [.Constant (.str z) j q5] env)) []))
    (hstore : ∀ env : Env, swapsWith (.Name "value" q3) (some (.Attribute (.Name "self" q1) "value" q2)) q4.line env = pure false) :
    FnOk P w K mg base (L2.CX P w) (k + 1) f (ksFn name qual params (bodyI p0 p1 p2 p3 p4 q1 q2 q3 q4 q5 z j) scope dV kV doc pm an (.ref cda) ct cc) ["self", "value"] (spI K D) := by
  refine ⟨fun vs H Q E ⟨a, C, v, e, _⟩ => by rw [e]; rfl, fun A outer s H args us vs' Q E hr e0 hb r hsp => ?_⟩
  obtain ⟨a, C, v, rfl, T, SC, hno, ea, q⟩ := hsp
  have KX : K.In s.heap := e0.mod.kin.keeps fun b o e => (e0.bs b o e).1
  have lim : s.heap.NoLimit := e0.mod.nolimit.keeps fun b o e => (e0.bs b o e).1
  cases r with
  | cons r1 r =>
  rename_i u1 us
  cases r with
  | cons r2 r =>
  rename_i u2 us
  cases r
  obtain rfl : u1 = Value.ref a := r1
  refine ks_codeAny_call_defAt (fd := ksFn name qual params (bodyI p0 p1 p2 p3 p4 q1 q2 q3 q4 q5 z j) scope dV kV doc pm an (.ref cda) ct cc) (body := bodyI p0 p1 p2 p3 p4 q1 q2 q3 q4 q5 z j) (binds := (["self", "value"] : List Str).zip [Value.ref a, u2]) hr.depth (KX _ _ lk) rfl lim (PySem.W.codeRec_of KX hcd) rfl hb S.nc ?_ ?_ S.co S.gen S.k
  · intro x hx
    simp only [List.zip_cons_cons, List.zip_nil_left, List.mem_cons, List.not_mem_nil, or_false] at hx
    rcases hx with rfl | rfl
    · exact S.n1
    · exact S.n2
  · intro h1 hns hk
    have I : Inv (cxS (L2.CX P w) P w K mg base ["self", "value"] qual scope f (.ref cda) cc A outer s H E) [] [some (.ref a), some v] H { s with heap := h1, toks := s.toks + ((["self", "value"] : List Str).zip [Value.ref a, u2]).length } := by
      refine ⟨⟨e0.mod, S.k, rfl, rfl, Nat.le_refl _, fun x y c h1 h2 => ?_, fun x hx => ?_, fun x c h _ => (by cases h), fun _ => hr.hd, Around.frames_deeper e0.frames, .inr ⟨rfl, rfl⟩, fun b z => (by cases z), e0.bs, e0.bsz, fun b _ _ z => (by cases z), fun b z => (by cases z), e0.funs, e0.frf⟩,
        rfl, e0.bare, Un.kept hk, ⟨_, hns, fun i x v' h1 h2 h3 => ?_⟩, fun x c h => ?_, e0.hok.fresh (Nat.le_refl _), fun x c h => ?_, fun p hp => (by cases hp), e0.hok.kept hk, rfl⟩
      · have ex : x = ("__class__" : Str) := by
          by_cases e : x = ("__class__" : Str)
          · exact e
          · have h1' : List.lookup x [(("__class__" : Str), cc)] = some c := h1
            rw [List.lookup_cons, show (x == ("__class__" : Str)) = false from by simpa using e] at h1'
            cases h1'
        have ey : y = ("__class__" : Str) := by
          by_cases e : y = ("__class__" : Str)
          · exact e
          · have h2' : List.lookup y [(("__class__" : Str), cc)] = some c := h2
            rw [List.lookup_cons, show (y == ("__class__" : Str)) = false from by simpa using e] at h2'
            cases h2'
        rw [ex, ey]
      · have hx : scope.names.lookup x = some .cell ∨ scope.names.lookup x = some .free := hx
        rcases hx with hx | hx
        · exact absurd rfl (S.nc _ (PySem.mem_of_lookup hx))
        · rw [S.nf x hx]
          exact ⟨cc, rfl⟩
      · match i, h1, h2 with
        | 0, h1, h2 =>
          cases h1; cases h2
          exact ⟨_, rfl, .inl ⟨S.n1, rfl⟩⟩
        | 1, h1, h2 =>
          cases h1; cases h2
          exact ⟨_, r2, .inl ⟨S.n2, rfl⟩⟩
        | i + 2, h1, h2 =>
          have h1 : ((["self", "value"] : List Str))[i + 2]? = some x := h1
          simp at h1
      · have hc : c = cc := by
          by_cases e : x = ("__class__" : Str)
          · subst e
            have h' : some cc = some c := h
            cases h'; rfl
          · have h' : List.lookup x [(("__class__" : Str), cc)] = some c := h
            rw [List.lookup_cons, show (x == ("__class__" : Str)) = false from by simpa using e] at h'
            cases h'
        subst hc
        exact ⟨_, _, hk _ _ (KX _ _ hcell), rfl⟩
      · have hc : c = cc := by
          by_cases e : x = ("__class__" : Str)
          · subst e
            have h' : some cc = some c := h
            cases h'; rfl
          · have h' : List.lookup x [(("__class__" : Str), cc)] = some c := h
            rw [List.lookup_cons, show (x == ("__class__" : Str)) = false from by simpa using e] at h'
            cases h'
        subst hc
        exact (e0.bs _ _ (e0.mod.kin _ _ hcell)).2
    have XE : (cxS (L2.CX P w) P w K mg base ["self", "value"] qual scope f (.ref cda) cc A outer s H E).env = sEnv qual scope (cxS (L2.CX P w) P w K mg base ["self", "value"] qual scope f (.ref cda) cc A outer s H E).env.locals f (.ref cda) cc := rfl
    have hself : wpAny (model P w) (cxS (L2.CX P w) P w K mg base ["self", "value"] qual scope f (.ref cda) cc A outer s H E).A (loadName (cxS (L2.CX P w) P w K mg base ["self", "value"] qual scope f (.ref cda) cc A outer s H E).env ar.arg) (fun v s' => v = .ref a ∧ s' = { s with heap := h1, toks := s.toks + ((["self", "value"] : List Str).zip [Value.ref a, u2]).length }) (cxS (L2.CX P w) P w K mg base ["self", "value"] qual scope f (.ref cda) cc A outer s H E).xe { s with heap := h1, toks := s.toks + ((["self", "value"] : List Str).zip [Value.ref a, u2]).length } := by
      rw [har]
      exact wpAny_loadName_local S.k S.n1 hns rfl ⟨rfl, rfl⟩
    refine ks_wpAt_execs_cons (super_at (X := cxS (L2.CX P w) P w K mg base ["self", "value"] qual scope f (.ref cda) cc A outer s H E) (C := C) (a := a) (D := D) (f := f) (cc := cc) (cda := cda) (fd := ksFn name qual params (bodyI p0 p1 p2 p3 p4 q1 q2 q3 q4 q5 z j) scope dV kV doc pm an (.ref cda) ct cc) XE T SC I ea lk hp hself hcode hvs hfile hcell hD hsuper hop S.n4 S.n3 S.k htop (pa_cons pe_str pa_nil) (fun Q h => h [.str z] (by simp)) rfl rfl (hcall _) fun s2 I2 => ?_)
    refine wpAt_of_wpAny ?_
    have st := ps_ost (X := cxS (L2.CX P w) P w K mg base ["self", "value"] qual scope f (.ref cda) cc A outer s H E) (f := "value") (p' := q2) (pos := q4) (pe_var (i := 0) (x := "self") (pos := q1) rfl (.inl S.n1)) (pe_var (i := 1) (x := "value") (pos := q3) rfl (.inl S.n2)) (hstore _)
    have run := (pss_cons st pss_nil).run [] s2 [some (.ref a), some v] H { nx := fun _ H' => Q .non H', rt := Q } I2 ⟨v, rfl, .ref a, rfl, a, C, rfl, T, hno, .inl ⟨ea, fun dx h1 h2 => q dx h1 h2⟩⟩
    refine wpAny_mono run (fun fl s' hs => ?_) fun e s' hs => hs
    cases fl with
    | ret u =>
      obtain ⟨v', σ', H', J, rv, q'⟩ := hs
      exact ⟨v', H', J.os, J.bare, J.base, J.hok, rv, q'⟩
    | next =>
      obtain ⟨σ', H', J, q'⟩ := hs
      exact ⟨.non, H', J.os, J.bare, J.base, J.hok, rfl, q'⟩
    | brk =>
      obtain ⟨_, _, _, q'⟩ := hs
      exact False.elim q'
    | cont =>
      obtain ⟨_, _, _, q'⟩ := hs
      exact False.elim q'
end L2
/-! QeC: raise C(e). -/
namespace QB
open PySem L2
/-- what the written part says of an own exception: C its class, D the class with __init__ at fI -/
structure ExcK (P : Program) (w : World) (K : PySem.W.Frag) (mg : Str → Option Value) (base : Heap) (k : Nat) (x : Str) : Prop where
  ex : ∃ (C D fI : Addr) (fd : FuncData), mg x = some (.ref C) ∧ PySem.W.nsIn K mainGlobals x = some (some (.ref C)) ∧ OexC K C ∧ SupC K C D ∧ PySem.W.findIn K (.ref C) "value" = some none ∧ PySem.W.findIn K (.ref C) "__init__" = some (some (.ref fI)) ∧
    PySem.W.typeIn K (.ref fI) = some (.type "function") ∧ FnOk P w K mg base (L2.CX P w) k fI fd ["self", "value"] (spI K D) ∧ Binds K fd ["self", "value"] []
def sRaise (x : Str) (fa : Ex) : Sm := fun E B => (fa E B).bind fun r E1 B1 =>
  match settle r E1 with
  | some (u, E2) => .ex ⟨x, u⟩ E2 B1
  | none => .bad
section
variable {X : Cy} {a : Expr} {fa : Ex} {pos p pos' : Pos} {x : Str} {j k : Nat}
theorem passF {X : Cx} : Passes (L2.CX X.prog X.w) X (fun _ _ _ => False) := fun pins σ H s e s' I h => by
  obtain ⟨_, _, _, _, _, _, _, _, _, _, _, _, _, _, _, _, z⟩ := h
theorem sndS_raise (C : ExcK X.prog X.w X.K X.mg X.base k x) (hr : Room j X.A) (hk : k + 1 ≤ j) (hc : X.calm = true) (ha : SndE X a fa) (hg : Gl X x := by rfl) (hdb : (x == ("__debug__" : Str)) = false := by decide)
    (he : starEach [a] X.env = (false, eval a X.env) :: starEach [] X.env := by rfl) (hpl : (backTo pos (starEach [] X.env)).any (·.1) = false := by rfl) :
    SndS X (.Raise (some (.Call (.Name x p) [a] [] pos)) none pos') (sRaise x fa) := by
  obtain ⟨C0, D, fI, fd, hm, hns, T, S, hno, iC, tI, F1, hb⟩ := C.ex
  obtain ⟨t, pa, ha⟩ := ha
  refine ⟨_, ps_raise hc X.tk (pmk_oex (ds := []) (dvs := []) T iC tI F1 (hr.mono hk) hb .nil passF hg hm (pa_cons pa pa_nil he) hdb he hpl), fun F ρ E B σ H D' rl q => ?_⟩
  refine ha F ρ E B σ H _ rl ?_
  simp only [sRaise] at q
  cases h1 : fa E B with
  | bad => rw [h1] at q; exact q
  | ex c E' B' => rw [h1] at q; exact q
  | ok r1 E1 B1 =>
    rw [h1] at q
    intro ρ1 H1 v1 A1
    simp only [O.bind_ok] at q
    split at q
    · next u E2 es =>
      obtain ⟨T1, R1⟩ := A1.settled es
      refine ⟨by simp, fun a ha0 => ⟨a, C0, v1, rfl, T, S, hno, upd_same, fun dx h1 h2 => ?_⟩⟩
      rw [upd_ne h2] at h1
      refine ⟨rfl, dx, [("value", v1)], upd_same, by rw [upd_ne h2, upd_same], h1, ?_⟩
      have eH : upd (del (upd (upd (upd H1 a (exo a C0 none)) dx (exd dx [("value", v1)])) a (exo a C0 (some dx))) a) dx (.xd [("value", v1)]) = upd H1 dx (.xd [("value", v1)]) := by
        funext b
        by_cases hb : b = dx
        · rw [hb, upd_same, upd_same]
        · rw [upd_ne hb, upd_ne hb]
          by_cases hba : b = a
          · rw [hba, del_same, ha0]
          · rw [del_ne hba, upd_ne hba, upd_ne hb, upd_ne hba]
      rw [eH]
      have g : ∀ q o, H1 q = some o → (upd H1 dx (.xd [("value", v1)])) q = some o := fun q o h => by rw [upd_ne (ne_of_none h h1)]; exact h
      have r2 := T1.rel.growH g
      have s := grow_stp T1.rel g
      have nl : ¬ LvF F ρ1 E2 B1 σ dx := fun z => by obtain ⟨o, h⟩ := T1.rel.lv_there dx z; rw [h1] at h; cases h
      exact q ρ1 σ _ (.ref C0) (some dx) T1.px r2 ⟨dx, v1, hns, rfl, upd_same, nl, Rep.mono s (List.prefix_refl _) _ _ R1⟩
    · exact q.elim
end
end QB
/-! QeD: try .. except C as n: .., the caught exception tracked as a value. -/
namespace L2
open PySem PySem.Spec PyProof.Rows
/-- the context of an except suite, nothing pinned -/
abbrev Cx.sus (X : Cx) (a : Addr) (pn : List (Addr × Obj)) : Cx := { X with A := X.A.mark (some (.ref a)), calm := false, pn := pn, xe := fun _ _ => False }
section
variable {X : Cx} {pins : List (Addr × Obj)} {σ : St} {H : Hp} {s : Shared}
theorem Cx.Ok.sus (ok : X.Ok) (a : Addr) (pn : List (Addr × Obj)) : (X.sus a pn).Ok :=
  ⟨ok.mod, ok.kind, ok.glob, ok.blt, ok.above, ok.inj, ok.has, ok.cab, (fun z => absurd (show false = true from z) Bool.false_ne_true), ok.frames, ok.stk, ok.exf, ok.bs, ok.bsz, ok.noex, ok.exfs, ok.funs, ok.frf⟩
theorem Inv.sus (I : Inv X pins σ H s) (a : Addr) : Inv (X.sus a (X.pn ++ pins)) [] σ H s :=
  ⟨I.ok.sus _ _, I.os, I.bare, I.base, I.loc, I.cell, I.free, I.freeC, fun p hp => by rw [List.append_nil] at hp; exact I.pin p hp, I.hok, I.len⟩
theorem Inv.unsus {a : Addr} {pn' : List (Addr × Obj)} (I : Inv (X.sus a (X.pn ++ pins)) pn' σ H s) (ok : X.Ok) : Inv X pins σ H s :=
  ⟨ok, I.os, I.bare, I.base, I.loc, I.cell, I.free, I.freeC, fun p hp => I.pin p (List.mem_append_left _ hp), I.hok, I.len⟩
/-- an object that is new since the entry is tracked from here on -/
theorem Inv.track {a : Addr} {oe : Obj} {vs : Array Value} {cls : Value} {d : Option Addr} (I : Inv X pins σ H s) (ha : s.heap.get? a = some oe) (hd : oe.data = .fields vs) (hz : Zc cls d oe) (na : H a = none) (n0 : X.s_0.heap.get? a = none) (nL : a ≠ X.env.locals) (np : ∀ p ∈ X.pn ++ pins, p.1 ≠ a) :
    Inv X pins σ (upd H a (ExT cls d a)) s := by
  have new : ObjOk X.prog X.w (upd H a (ExT cls d a)) s.heap a (ExT cls d a) := exT_ok ha hz hd
  refine ⟨I.ok, I.os, I.bare, ⟨I.base.keep, I.base.slot, fun b o q n hx => ?_, I.base.there, fun b xs q => ?_, fun b o u q => ?_, fun b ps q => ?_⟩, I.loc, I.cell, ?_, fun x c e => ?_, fun p hp => ?_, HOk.laidN I.hok (fun _ _ z => z) na new, I.len⟩
  · rw [upd_ne (fun z => by rw [z, n0] at q; cases q)]
    exact I.base.free b o q n hx
  · have q2 := I.base.tups b xs q
    rw [upd_ne (fun z => by rw [z, na] at q2; cases q2)]; exact q2
  · have q2 := I.base.frzs b o u q
    rw [upd_ne (fun z => by rw [z, na] at q2; cases q2)]; exact q2
  · obtain ⟨more, q2⟩ := I.base.tbls b ps q
    exact ⟨more, by rw [upd_ne (fun z => by rw [z, na] at q2; cases q2)]; exact q2⟩
  · rw [upd_ne (Ne.symm nL)]; exact I.free
  · obtain ⟨v, hc⟩ := I.cell x c e
    have : c ≠ a := fun z => by
      obtain ⟨o, q1, q2⟩ := hc
      rw [z, ha] at q1
      cases q1
      rw [hd] at q2
      cases q2
    rw [upd_ne this]; exact I.freeC x c e
  · have := I.pin p hp
    exact ⟨this.1, by rw [upd_ne (np p hp)]; exact this.2.1, this.2.2⟩
end
/-- what the clause 'except x as n' wishes of an exception of the body: it is tracked, slot i is n's -/
def wVal (K : PySem.W.Frag) (c : Value) (i : Nat) (ts : TS) (Wout : WX) (D : Ends) : WX := fun cls d σ H =>
  ∃ b, PySem.W.exmOne K cls c = some b ∧ (b = true → ∀ a, H a = none → ts { nx := fun σ' H' => D.nx (σ'.set i none) H', rt := D.rt, bk := fun σ' H' => D.bk (σ'.set i none) H', ct := fun σ' H' => D.ct (σ'.set i none) H' } (σ.set i (some (.ref a))) (upd H a (ExT cls d a))) ∧
    (b = false → Wout cls d σ H)
section
variable {X : Cx} {x n : Str} {c : Value} {i : Nat} {body suite : List Stmt} {b₀ : Stmt} {np pos pos' : Pos} {tb : WX → TS} {ts : TS} {Wout : WX}
theorem ps_try_val (hx : X.ex = []) (hs : X.stack = X.env :: X.outer) (hf : X.env.frame = some X.env.locals) (hN : X.N.Nodup) (hi : X.N[i]? = some n) (hln : X.env.kindOf n = some .local) (hc : Names X x c) (tk : Takes X Wout)
    (hb : ∀ (W : WX) (pn : List (Addr × Obj)) (xe : Value → Shared → Prop), Takes (X.tr pn xe) W → PassesOwn (model X.prog X.w) X.A X.env xe → PSs (X.tr pn xe) body (tb W))
    (hsu : ∀ (a : Addr) (pn : List (Addr × Obj)), PSs (X.sus a pn) (b₀ :: suite) ts) :
    PS X (.Try body [.ExceptHandler (some (.Name x np)) (some n) (b₀ :: suite) pos'] [] [] pos) (fun D σ H => tb (wVal X.K c i ts Wout D) D σ H) := by
  refine ⟨fun pins s σ H D I h => ?_⟩
  have ok := I.ok
  have hfr : X.A.frames = some (X.env :: X.outer) := by rw [ok.frames, hs]
  have hloc : Loc X.env.scope n := .inl hln
  refine wpAny_Try_except ?_
  refine wpAny_mono ((hb (wVal X.K c i ts Wout D) (X.pn ++ pins) (fun e s₁ => wpAny (model X.prog X.w) X.A (noteFrame e X.env) (fun _ s₂ => wpAny (model X.prog X.w) X.A (setFlight e none) (fun _ s₃ =>
    wpAny (model X.prog X.w) X.A (handleBy e X.env [.ExceptHandler (some (.Name x np)) (some n) (b₀ :: suite) pos']) (SP X pins D) X.xe s₃) X.xe s₂) X.xe s₁) (fun u s' xx => ?_) PassesOwn.looking).run [] s σ H D (I.toTry _) h) (fun f s1 hsp => ?_) (fun e s1 he => he)
  · -- the catch
    obtain ⟨a, B, sI, pins', σ', H', cls, d, rfl, J', nb, up, sky, na, os, ag, b, hb1, hyes, hno⟩ := xx
    have J : Inv X pins σ' H' sI := J'.ofTry ok
    have sky' : Sky B (X.env :: X.outer) a (Zc cls d) X.env.locals s'.heap := by rw [← hs]; exact sky
    show wpAny (model X.prog X.w) X.A (noteFrame (.ref a) X.env) _ _ _
    refine Sky.land Zc.steady hfr hf sky' fun h3 fl3 up3 => ?_
    have J3 : Inv X pins σ' H' { s' with heap := h3 } := J.landed nb fl3.1 (up.trans up3) os ag
    obtain ⟨oe3, vs3, he3, hz3, hd3⟩ := fl3.there
    have notFr : ∀ {h : Heap} {o : Obj} {vs : Array Value}, h.FunFrames B (X.env :: X.outer) → h.get? a = some o → o.data = .fields vs → a ∉ frs (X.env :: X.outer) := fun {h o vs} ff e dd hm => by
      obtain ⟨_, o', e', hnf⟩ := ff.mem hm
      rw [e] at e'; cases e'
      exact hnf _ dd
    have nfr := notFr fl3.2.2.1 he3 hd3
    have nL : a ≠ X.env.locals := fun z => nfr (List.mem_filterMap.mpr ⟨X.env, List.mem_cons_self, by rw [hf, z]⟩)
    have nF : a ∉ X.fs := fun hm => by
      obtain ⟨e, he, q⟩ := List.mem_filterMap.mp hm
      exact nfr (List.mem_filterMap.mpr ⟨e, List.mem_cons_of_mem _ he, q⟩)
    have S3 := J3.suite he3 hd3 na nL nF
    refine wpAny_handleBy_cons (codeAny_handlers_test ?_) (by intro q; cases q)
    have LT : PySem.W.Looks (model X.prog X.w) h3 (typeOf (.ref a)) cls := fun A Q E s k q => wpAny_typeOf_ref (k _ _ he3) (by rw [hz3.1]; exact q)
    have LM := PySem.W.exm_one (M := model X.prog X.w) (J3.kIn) LT hb1
    have test : ∀ {Q : Value → Shared → Prop} {E : Value → Shared → Prop}, Q c { s' with heap := h3 } → wpAny (model X.prog X.w) (X.A.mark (some (.ref a))) (eval (.Name x np) X.env) Q E { s' with heap := h3 } := fun {Q E} q => by
      obtain ⟨hg, hdbg, hm | ⟨hm, hv, hnn⟩⟩ := hc
      · exact ld_glob (X := X.suite a ((a, oe3) :: (X.pn ++ pins))) S3 hg hm q hdbg
      · exact ld_blt (X := X.suite a ((a, oe3) :: (X.pn ++ pins))) S3 hg hm hv q hnn hdbg
    refine test (LM.here ?_)
    cases b with
    | true =>
      refine codeAny_handlers_suite_as ?_
      refine HandSPX.lands_againZ fl3 fun h4 fl4 up4 => ?_
      have J4 : Inv X pins σ' H' { s' with heap := h4 } := J.landed nb fl4.1 ((up.trans up3).trans up4) os ag
      obtain ⟨oe4, vs4, he4, hz4, hd4⟩ := fl4.there
      have notS : sI.heap.get? a = none := by
        cases z : sI.heap.get? a with
        | none => rfl
        | some o =>
          have z2 := nb a o z (by rw [hs]; exact nfr)
          rw [fl3.2.1] at z2
          cases z2
      have n0 : X.s_0.heap.get? a = none := by
        cases z : X.s_0.heap.get? a with
        | none => rfl
        | some o =>
          obtain ⟨o', z2⟩ := J.base.there a o z (by rw [hx]; exact fun m => by cases m)
          rw [notS] at z2
          cases z2
      have np : ∀ p ∈ X.pn ++ pins, p.1 ≠ a := fun p hp z => by
        have := (J.pin p hp).1
        rw [z, notS] at this
        cases this
      have T4 := J4.track he4 hd4 hz4 na n0 nL np
      have S4 := T4.sus a
      refine store_ok (X := X.sus a (X.pn ++ pins)) (v := .ref a) S4 hN hi hloc rfl (fun s5 S5 => ?_) (.inr hln)
      refine wpAny_mono ((hsu a (X.pn ++ pins)).run [] s5 _ _ _ S5 (hyes rfl a na)) (fun f s6 hsp => ?_) (fun _ _ z => False.elim z)
      have end_ : ∀ {σ6 : St} {H6 : Hp} {Q : Shared → Prop}, Inv (X.sus a (X.pn ++ pins)) [] σ6 H6 s6 → (∀ s7, Inv X pins (σ6.set i none) H6 s7 → Q s7) →
          wpAny (model X.prog X.w) X.A (do bindName X.env n .none; unbindBehindTheSuite X.env n pos') (fun _ s7 => Q s7) X.xe s6 := fun {σ6 H6 Q} S6 hq => gone_ok (S6.unsus ok) hN hi hln hq
      cases f with
      | next =>
        obtain ⟨σ6, H6, S6, q6⟩ := hsp
        exact end_ S6 fun s7 J7 => ⟨_, _, J7, q6⟩
      | brk =>
        obtain ⟨σ6, H6, S6, q6⟩ := hsp
        exact end_ S6 fun s7 J7 => ⟨_, _, J7, q6⟩
      | cont =>
        obtain ⟨σ6, H6, S6, q6⟩ := hsp
        exact end_ S6 fun s7 J7 => ⟨_, _, J7, q6⟩
      | ret u =>
        obtain ⟨v6, σ6, H6, S6, r6, q6⟩ := hsp
        exact end_ S6 fun s7 J7 => ⟨_, _, _, J7, r6, q6⟩
    | false =>
      show wpAny _ X.A (handleBy (.ref a) X.env []) _ _ _
      refine wpAny_handleBy_nil ?_
      obtain ⟨k1, k2, k3, oe, vs, T, oT, ts', he, hz, hd, h1, hr⟩ := id fl3
      unfold PySem.passOn
      refine wpAny_bind (wpAny_field he hd h1 ?_)
      rw [if_neg (show ¬ ((Value.ref T == Value.none) = true) from by simp)]
      have fin : wpAny (model X.prog X.w) X.A (setFlight (.ref a) X.env.frame) (fun _ s4 => wpAny (model X.prog X.w) X.A (throw (.ref a) : Sem Flow) (SP X pins D) X.xe s4) X.xe { s' with heap := h3 } := by
        rw [hf]
        refine HandSPX.setFlight_upZ fl3 fun h4 hh4 up4 => wpAny_throw (tk _ _ ?_)
        exact ⟨a, B, sI, pins, σ', H', cls, d, rfl, J, nb, (up.trans up3).trans up4, .inr (.inr (by rw [hs]; exact hh4)), na, os, ag, hno rfl⟩
      first
        | exact wpAny_bind (wpAny_pure (wpAny_bind fin))
        | exact wpAny_bind fin
  · cases f with
    | next =>
      obtain ⟨σ', H', J', q⟩ := hsp
      exact wpAny_execs_nil ⟨σ', H', J'.ofTry ok, q⟩
    | brk =>
      obtain ⟨σ', H', J', q⟩ := hsp
      exact ⟨σ', H', J'.ofTry ok, q⟩
    | cont =>
      obtain ⟨σ', H', J', q⟩ := hsp
      exact ⟨σ', H', J'.ofTry ok, q⟩
    | ret u =>
      obtain ⟨v, σ', H', J', r, q⟩ := hsp
      exact ⟨v, σ', H', J'.ofTry ok, r, q⟩
end
/-- the same for a clause without a name -/
def wNam (K : PySem.W.Frag) (c : Value) (ts : TS) (Wout : WX) (D : Ends) : WX := fun cls d σ H =>
  ∃ b, PySem.W.exmOne K cls c = some b ∧ (b = true → ts D σ H) ∧ (b = false → Wout cls d σ H)
section
variable {X : Cx} {x : Str} {c : Value} {body suite : List Stmt} {b₀ : Stmt} {np pos pos' : Pos} {tb : WX → TS} {ts : TS} {Wout : WX}
theorem ps_try_nam (hs : X.stack = X.env :: X.outer) (hf : X.env.frame = some X.env.locals) (hc : Names X x c) (tk : Takes X Wout)
    (hb : ∀ (W : WX) (pn : List (Addr × Obj)) (xe : Value → Shared → Prop), Takes (X.tr pn xe) W → PassesOwn (model X.prog X.w) X.A X.env xe → PSs (X.tr pn xe) body (tb W))
    (hsu : ∀ (a : Addr) (pn : List (Addr × Obj)), PSs (X.sus a pn) (b₀ :: suite) ts) :
    PS X (.Try body [.ExceptHandler (some (.Name x np)) none (b₀ :: suite) pos'] [] [] pos) (fun D σ H => tb (wNam X.K c ts Wout D) D σ H) := by
  refine ⟨fun pins s σ H D I h => ?_⟩
  have ok := I.ok
  have hfr : X.A.frames = some (X.env :: X.outer) := by rw [ok.frames, hs]
  refine wpAny_Try_except ?_
  refine wpAny_mono ((hb (wNam X.K c ts Wout D) (X.pn ++ pins) (fun e s₁ => wpAny (model X.prog X.w) X.A (noteFrame e X.env) (fun _ s₂ => wpAny (model X.prog X.w) X.A (setFlight e none) (fun _ s₃ =>
    wpAny (model X.prog X.w) X.A (handleBy e X.env [.ExceptHandler (some (.Name x np)) none (b₀ :: suite) pos']) (SP X pins D) X.xe s₃) X.xe s₂) X.xe s₁) (fun u s' xx => ?_) PassesOwn.looking).run [] s σ H D (I.toTry _) h) (fun f s1 hsp => ?_) (fun e s1 he => he)
  · -- the catch
    obtain ⟨a, B, sI, pins', σ', H', cls, d, rfl, J', nb, up, sky, na, os, ag, b, hb1, hyes, hno⟩ := xx
    have J : Inv X pins σ' H' sI := J'.ofTry ok
    have sky' : Sky B (X.env :: X.outer) a (Zc cls d) X.env.locals s'.heap := by rw [← hs]; exact sky
    show wpAny (model X.prog X.w) X.A (noteFrame (.ref a) X.env) _ _ _
    refine Sky.land Zc.steady hfr hf sky' fun h3 fl3 up3 => ?_
    have J3 : Inv X pins σ' H' { s' with heap := h3 } := J.landed nb fl3.1 (up.trans up3) os ag
    obtain ⟨oe3, vs3, he3, hz3, hd3⟩ := fl3.there
    have notFr : ∀ {h : Heap} {o : Obj} {vs : Array Value}, h.FunFrames B (X.env :: X.outer) → h.get? a = some o → o.data = .fields vs → a ∉ frs (X.env :: X.outer) := fun {h o vs} ff e dd hm => by
      obtain ⟨_, o', e', hnf⟩ := ff.mem hm
      rw [e] at e'; cases e'
      exact hnf _ dd
    have nfr := notFr fl3.2.2.1 he3 hd3
    have nL : a ≠ X.env.locals := fun z => nfr (List.mem_filterMap.mpr ⟨X.env, List.mem_cons_self, by rw [hf, z]⟩)
    have nF : a ∉ X.fs := fun hm => by
      obtain ⟨e, he, q⟩ := List.mem_filterMap.mp hm
      exact nfr (List.mem_filterMap.mpr ⟨e, List.mem_cons_of_mem _ he, q⟩)
    have S3 := J3.suite he3 hd3 na nL nF
    refine wpAny_handleBy_cons (codeAny_handlers_test ?_) (by intro q; cases q)
    have LT : PySem.W.Looks (model X.prog X.w) h3 (typeOf (.ref a)) cls := fun A Q E s k q => wpAny_typeOf_ref (k _ _ he3) (by rw [hz3.1]; exact q)
    have LM := PySem.W.exm_one (M := model X.prog X.w) (J3.kIn) LT hb1
    have test : ∀ {Q : Value → Shared → Prop} {E : Value → Shared → Prop}, Q c { s' with heap := h3 } → wpAny (model X.prog X.w) (X.A.mark (some (.ref a))) (eval (.Name x np) X.env) Q E { s' with heap := h3 } := fun {Q E} q => by
      obtain ⟨hg, hdbg, hm | ⟨hm, hv, hnn⟩⟩ := hc
      · exact ld_glob (X := X.suite a ((a, oe3) :: (X.pn ++ pins))) S3 hg hm q hdbg
      · exact ld_blt (X := X.suite a ((a, oe3) :: (X.pn ++ pins))) S3 hg hm hv q hnn hdbg
    refine test (LM.here ?_)
    cases b with
    | true =>
      refine codeAny_handlers_suite ?_
      refine HandSPX.lands_againZ fl3 fun h4 fl4 up4 => ?_
      have J4 : Inv X pins σ' H' { s' with heap := h4 } := J.landed nb fl4.1 ((up.trans up3).trans up4) os ag
      obtain ⟨oe4, vs4, he4, hz4, hd4⟩ := fl4.there
      have S4 := J4.sus a
      refine wpAny_mono ((hsu a (X.pn ++ pins)).run [] _ _ H' _ S4 (hyes rfl)) (fun f s6 hsp => ?_) (fun _ _ z => False.elim z)
      cases f with
      | next =>
        obtain ⟨σ6, H6, S6, q6⟩ := hsp
        exact ⟨_, _, S6.unsus ok, q6⟩
      | brk =>
        obtain ⟨σ6, H6, S6, q6⟩ := hsp
        exact ⟨_, _, S6.unsus ok, q6⟩
      | cont =>
        obtain ⟨σ6, H6, S6, q6⟩ := hsp
        exact ⟨_, _, S6.unsus ok, q6⟩
      | ret u =>
        obtain ⟨v6, σ6, H6, S6, r6, q6⟩ := hsp
        exact ⟨_, _, _, S6.unsus ok, r6, q6⟩
    | false =>
      show wpAny _ X.A (handleBy (.ref a) X.env []) _ _ _
      refine wpAny_handleBy_nil ?_
      obtain ⟨k1, k2, k3, oe, vs, T, oT, ts', he, hz, hd, h1, hr⟩ := id fl3
      unfold PySem.passOn
      refine wpAny_bind (wpAny_field he hd h1 ?_)
      rw [if_neg (show ¬ ((Value.ref T == Value.none) = true) from by simp)]
      have fin : wpAny (model X.prog X.w) X.A (setFlight (.ref a) X.env.frame) (fun _ s4 => wpAny (model X.prog X.w) X.A (throw (.ref a) : Sem Flow) (SP X pins D) X.xe s4) X.xe { s' with heap := h3 } := by
        rw [hf]
        refine HandSPX.setFlight_upZ fl3 fun h4 hh4 up4 => wpAny_throw (tk _ _ ?_)
        exact ⟨a, B, sI, pins, σ', H', cls, d, rfl, J, nb, (up.trans up3).trans up4, .inr (.inr (by rw [hs]; exact hh4)), na, os, ag, hno rfl⟩
      first
        | exact wpAny_bind (wpAny_pure (wpAny_bind fin))
        | exact wpAny_bind fin
  · cases f with
    | next =>
      obtain ⟨σ', H', J', q⟩ := hsp
      exact wpAny_execs_nil ⟨σ', H', J'.ofTry ok, q⟩
    | brk =>
      obtain ⟨σ', H', J', q⟩ := hsp
      exact ⟨σ', H', J'.ofTry ok, q⟩
    | cont =>
      obtain ⟨σ', H', J', q⟩ := hsp
      exact ⟨σ', H', J'.ofTry ok, q⟩
    | ret u =>
      obtain ⟨v, σ', H', J', r, q⟩ := hsp
      exact ⟨v, σ', H', J'.ofTry ok, r, q⟩
end
end L2
/-! QeE: try .. except C as n: .. -/
namespace QB
open PySem L2
def uS (K : PySem.W.Frag) (Y : Xq) (f : Sm) : TS := fun D σ H => ∃ F ρ E B, Rel K F ρ E B σ H ∧ PostS K Y F ρ (f E B) D
section
variable {X : Cy} {sts : List Stmt} {f g : Sm}
theorem SndB.u (h : SndB X sts f) : PSs X sts (uS X.K X.q f) := by
  obtain ⟨t, p, h⟩ := h
  exact ⟨fun pins s σ H D I ⟨F, ρ, E, B, rl, q⟩ => p.run pins s σ H D I (h F ρ E B σ H D rl q)⟩
abbrev noW : WX := fun _ _ _ _ => False
theorem takes_noW {X : Cx} : Takes X noW := fun _ _ ⟨_, _, _, _, _, _, _, _, _, _, _, _, _, _, _, _, w⟩ => w.elim
/-- the context of a try's body -/
abbrev Cy.trB (X : Cy) (pn : List (Addr × Obj)) (xe : Value → Shared → Prop) (W : WX) (tk : Takes (X.toCx.tr pn xe) W) (po : PassesOwn (model X.prog X.w) X.A X.env xe) : Cy := ⟨X.toCx.tr pn xe, W, tk, po⟩
/-- the context of its suite: nothing may be raised -/
abbrev Cy.suB (X : Cy) (a : Addr) (pn : List (Addr × Obj)) : Cy := ⟨X.toCx.sus a pn, noW, takes_noW, PassesOwn.never⟩
/-- which classes a clause takes -/
structure Subs (K : PySem.W.Frag) (c : Value) (sub : Str → Option Bool) : Prop where
  ok : ∀ x b, sub x = some b → ∃ C, PySem.W.nsIn K mainGlobals x = some (some (.ref C)) ∧ PySem.W.exmOne K (.ref C) c = some b
def sTry (sub : Str → Option Bool) (i : Nat) (f g : Sm) : Sm := fun E B =>
  match f E B with
  | .ex c E1 B1 => match sub c.cls with
    | some true => if i < E1.length then (match g (E1.set i (.val (.exc c.cls c.val))) B1 with
      | .ok (.rt u) E2 B2 => .ok (.rt u) E2 B2
      | .ok fl E2 B2 => .ok fl (E2.set i .un) B2
      | _ => .bad) else .bad
    | some false => .ex c E1 B1
    | none => .bad
  | o => o
def sTryN (sub : Str → Option Bool) (f g : Sm) : Sm := fun E B =>
  match f E B with
  | .ex c E1 B1 => match sub c.cls with
    | some true => (match g E1 B1 with
      | .ok fl E2 B2 => .ok fl E2 B2
      | _ => .bad)
    | some false => .ex c E1 B1
    | none => .bad
  | o => o
theorem postS_q {K : PySem.W.Frag} {Y Y' : Xq} {F : Fm} {ρ : List Addr} {fl : Fl} {E' : En} {B' : Bx} {D : Ends} (h : PostS K Y F ρ (.ok fl E' B') D) : PostS K Y' F ρ (.ok fl E' B') D := by
  cases fl <;> exact h
theorem caught_ok {K : PySem.W.Frag} {F : Fm} {ρ : List Addr} {E : En} {B : Bx} {σ : L2.St} {H : Hp} {mg : Str → Option Value} {c : Exn} {C : Addr} {d : Option Addr} {a : Addr} {i : Nat} (hi : i < E.length)
    (r : Rel K F ρ E B σ H) (x : ExcR K F ρ E B σ H mg c (.ref C) d) (ha : H a = none) :
    Rel K F ρ (E.set i (.val (.exc c.cls c.val))) B (σ.set i (some (.ref a))) (upd H a (ExT (.ref C) d a)) := by
  obtain ⟨dx, v, e1, rfl, e2, e3, e4⟩ := x
  have g : ∀ q o, H q = some o → (upd H a (ExT (.ref C) (some dx) a)) q = some o := fun q o h => by rw [upd_ne (ne_of_none h ha)]; exact h
  have r2 := r.growH g
  have s := grow_stp r g
  have na : ¬ LvF F ρ E B σ a := fun z => by obtain ⟨o, h⟩ := r.lv_there a z; rw [ha] at h; cases h
  refine r2.setVal hi ?_
  simp only [Rep]
  exact ⟨a, dx, v, C, rfl, e1, upd_same, na, g _ _ e2, e3, e4.mono s (List.prefix_refl _)⟩
theorem sndS_try {x n : Str} {c : Value} {i : Nat} {body suite : List Stmt} {b₀ : Stmt} {np pos pos' : Pos} {sub : Str → Option Bool} (hsub : Subs X.K c sub) (hc : Names X.toCx x c) (hN : X.N.Nodup)
    (hb : ∀ pn xe W tk po, SndB (X.trB pn xe W tk po) body f) (hsu : ∀ a pn, SndB (X.suB a pn) (b₀ :: suite) g)
    (hx : X.ex = [] := by rfl) (hs : X.stack = X.env :: X.outer := by rfl) (hf : X.env.frame = some X.env.locals := by rfl) (hi : X.N[i]? = some n := by rfl) (hln : X.env.kindOf n = some .local := by rfl) :
    SndS X (.Try body [.ExceptHandler (some (.Name x np)) (some n) (b₀ :: suite) pos'] [] [] pos) (sTry sub i f g) := by
  refine ⟨_, ps_try_val (tb := fun W => uS X.K ⟨W, X.mg⟩ f) (ts := uS X.K ⟨noW, X.mg⟩ g) (Wout := X.W) hx hs hf hN hi hln hc X.tk (fun W pn xe tk po => (hb pn xe W tk po).u) (fun a pn => (hsu a pn).u), fun F ρ E B σ H D rl q => ?_⟩
  refine ⟨F, ρ, E, B, rl, ?_⟩
  simp only [sTry] at q
  cases h1 : f E B with
  | bad => rw [h1] at q; exact q
  | ok fl E1 B1 => rw [h1] at q; exact postS_q q
  | ex e E1 B1 =>
    rw [h1] at q
    intro ρ1 σ1 H1 cls d px r1 xr
    dsimp only at q
    cases hs1 : sub e.cls with
    | none => rw [hs1] at q; exact q.elim
    | some b =>
      rw [hs1] at q
      obtain ⟨C, n1, n2⟩ := hsub.ok _ _ hs1
      have hC : cls = .ref C := by
        obtain ⟨dx, v, e1, _⟩ := xr
        rw [n1] at e1
        cases e1; rfl
      subst hC
      refine ⟨b, n2, fun hb => ?_, fun hb => ?_⟩
      · subst hb
        intro a ha
        dsimp only at q
        split at q
        · next hi1 =>
          have r2 := caught_ok hi1 r1 xr ha
          refine ⟨F, ρ1, _, B1, r2, ?_⟩
          cases h2 : g (E1.set i (.val (.exc e.cls e.val))) B1 with
          | bad => rw [h2] at q; exact q.elim
          | ex e2 E2 B2 => rw [h2] at q; exact q.elim
          | ok fl E2 B2 =>
            rw [h2] at q
            cases fl with
            | rt u => exact fun ρ' σ' H' v p r rr => q ρ' σ' H' v (px.trans p) r rr
            | nx => exact fun ρ' σ' H' p r => q ρ' _ H' (px.trans p) (r.wipes (ks := [i])).1
            | bk => exact fun ρ' σ' H' p r => q ρ' _ H' (px.trans p) (r.wipes (ks := [i])).1
            | ct => exact fun ρ' σ' H' p r => q ρ' _ H' (px.trans p) (r.wipes (ks := [i])).1
        · exact q.elim
      · subst hb
        exact q ρ1 σ1 H1 _ d px r1 xr
theorem sndS_tryN {x : Str} {c : Value} {body suite : List Stmt} {b₀ : Stmt} {np pos pos' : Pos} {sub : Str → Option Bool} (hsub : Subs X.K c sub) (hc : Names X.toCx x c)
    (hb : ∀ pn xe W tk po, SndB (X.trB pn xe W tk po) body f) (hsu : ∀ a pn, SndB (X.suB a pn) (b₀ :: suite) g)
    (hs : X.stack = X.env :: X.outer := by rfl) (hf : X.env.frame = some X.env.locals := by rfl) :
    SndS X (.Try body [.ExceptHandler (some (.Name x np)) none (b₀ :: suite) pos'] [] [] pos) (sTryN sub f g) := by
  refine ⟨_, ps_try_nam (tb := fun W => uS X.K ⟨W, X.mg⟩ f) (ts := uS X.K ⟨noW, X.mg⟩ g) (Wout := X.W) hs hf hc X.tk (fun W pn xe tk po => (hb pn xe W tk po).u) (fun a pn => (hsu a pn).u), fun F ρ E B σ H D rl q => ?_⟩
  refine ⟨F, ρ, E, B, rl, ?_⟩
  simp only [sTryN] at q
  cases h1 : f E B with
  | bad => rw [h1] at q; exact q
  | ok fl E1 B1 => rw [h1] at q; exact postS_q q
  | ex e E1 B1 =>
    rw [h1] at q
    intro ρ1 σ1 H1 cls d px r1 xr
    dsimp only at q
    cases hs1 : sub e.cls with
    | none => rw [hs1] at q; exact q.elim
    | some b =>
      rw [hs1] at q
      obtain ⟨C, n1, n2⟩ := hsub.ok _ _ hs1
      have hC : cls = .ref C := by
        obtain ⟨dx, v, e1, _⟩ := xr
        rw [n1] at e1
        cases e1; rfl
      subst hC
      refine ⟨b, n2, fun hb => ?_, fun hb => ?_⟩
      · subst hb
        dsimp only at q
        refine ⟨F, ρ1, _, B1, r1, ?_⟩
        cases h2 : g E1 B1 with
        | bad => rw [h2] at q; exact q.elim
        | ex e2 E2 B2 => rw [h2] at q; exact q.elim
        | ok fl E2 B2 =>
          rw [h2] at q
          cases fl with
          | rt u => exact fun ρ' σ' H' v p r rr => q ρ' σ' H' v (px.trans p) r rr
          | nx => exact fun ρ' σ' H' p r => q ρ' _ H' (px.trans p) r
          | bk => exact fun ρ' σ' H' p r => q ρ' _ H' (px.trans p) r
          | ct => exact fun ρ' σ' H' p r => q ρ' _ H' (px.trans p) r
      · subst hb
        exact q ρ1 σ1 H1 _ d px r1 xr
end
end QB
/-! QeF: a caught exception as a value: its field, isinstance of it. -/
namespace L2
open PySem PySem.Spec PyProof.Rows
section
variable {X : Cx} {e : Expr} {te : TE} {pos : Pos} {n : Str}
def tXv (K : PySem.W.Frag) (n : Str) (te : TE) : TE := fun σ H Q => te σ H fun x H1 => ∃ (a C dx : Addr) (fs : List (Str × V)) (v : V), x = .ref a ∧ H1 a = some (ExT (.ref C) (some dx) a) ∧ XfC K C ∧ PySem.W.findIn K (.ref C) n = some none ∧
  H1 dx = some (.xd fs) ∧ fs.lookup n = some v ∧ Q v H1
/-- where a tracked exception stands, and its dict -/
theorem ext_at {pins : List (Addr × Obj)} {σ : St} {H : Hp} {s : Shared} {a C dx : Addr} {fs : List (Str × V)} (I : Inv X pins σ H s) (ha : H a = some (ExT (.ref C) (some dx) a)) (hd : H dx = some (.xd fs)) :
    ∃ oe od, PySem.W.InstAt s.heap a oe C (some od) ∧ ∀ n v, fs.lookup n = some v → ∃ u, PySem.W.lookIn n od = some (some u) ∧ RelV v u := by
  obtain ⟨⟨oe, vs, h1, h2, h3⟩, _⟩ := I.hok a _ ha
  have hx : ObjOk X.prog X.w H s.heap dx (.xd fs) := I.hok dx _ hd
  obtain ⟨mA, hns, hr⟩ := hx
  obtain ⟨od, ho, hl⟩ := lookIn_ns hns
  refine ⟨oe, od, ⟨h1, h2.1, by unfold PySem.W.notCls; rw [h3] <;> rfl, by rw [h2.2]; exact ho⟩, fun n v l => ?_⟩
  obtain ⟨u, hu, ru⟩ := RelO.some_of (v := v) (o := mA n) (by rw [← l]; exact hr n)
  exact ⟨u, by rw [hl, hu], ru⟩
theorem pe_exv (he : PE X e te) (hb : attributeBase e n X.env (eval e X.env) = eval e X.env := by rfl) : PE X (.Attribute e n pos) (tXv X.K n te) := by
  refine ⟨fun pins s σ H Q I h => attr_of hb (thn (he.run pins s σ H _ I h) fun u s1 hh => ?_)⟩
  obtain ⟨x, H1, I1, rx, a, C, dx, fs, v, rfl, ha, T, hno, hd, l, q⟩ := hh
  obtain rfl : u = Value.ref a := rx
  obtain ⟨oe, od, J, look⟩ := ext_at I1 ha hd
  obtain ⟨w, hu, ru⟩ := look n v l
  exact HandSPX.exc_get I1.kIn J T.ga T.gg T.exC (PySem.W.findObj_own T.hdC hno rfl hu) (handed_of ru) ⟨v, H1, I1.tok _, ru, q⟩
end
/-! ### isinstance -/
open PySem.W PySem.Calls in
theorem find_class {K : PySem.W.Frag} {D : Addr} (C : ExcC K D) (od : Option Obj) : findObj K D od "__class__" = some (.bind (.builtin "getset_descriptor.__get__") (.builtin "object.__class__")) := by
  obtain ⟨cd, hc, _⟩ := any_some C.hd
  unfold findObj
  rw [hc, Option.bind_some, C.ha, Option.bind_some]
  simp [C.hn, C.ht]
open PySem.W PySem.Calls in
/-- __class__ of such an object, by its own __getattribute__ -/
theorem get_class {prog : Program} {w : World} {A : Around} {E : Value → Shared → Prop} {s : Shared} {K : PySem.W.Frag} {x D : Addr} {ox : Obj} {od : Option Obj} {Q : Option Value → Shared → Prop} (C : ExcC K D) (X : K.In s.heap)
    (I : InstAt s.heap x ox D od) (h : Q (some (.ref D)) { s with toks := s.toks + 1 }) : wpAny (model prog w) A (getAttr? (.ref x) "__class__") Q E s := by
  obtain ⟨hp, g, d, t, os⟩ := s
  have ty := I.type (M := model prog w)
  have ga := looks_findIn (M := model prog w) X C.hg
  have gg := looks_findIn (M := model prog w) X C.hk
  have fd := looks_find (M := model prog w) X I (find_class C od)
  have sub : Looks (model prog w) hp (isInstance (.ref x) (.type "BaseException")) true := ty.andThen (looks_subIn X C.hs)
  have no : (Value.builtin "BaseException.__getattribute__" == Value.builtin "object.__getattribute__") = false := by decide +kernel
  unfold getAttr? getAttrBy? getAttrBy
  refine wpAny_bind (wpAny_mkText (wpAny_bind (wpAny_attempt (wpAny_holding (wpAny_bind (ty.at (wpAny_bind (ga.at ?_))))))))
  show wpAny _ _ (if (onTheHeap (Value.ref D) && Value.builtin "BaseException.__getattribute__" == Value.builtin "object.__getattribute__") = true then _ else _) _ _ _
  rw [no, Bool.and_false, if_neg Bool.false_ne_true]
  unfold getAttrByItsOwn hookBefore
  refine wpAny_bind ?_
  rw [if_pos (show onTheHeap (Value.ref D) = true from rfl)]
  refine gg.at (wpAny_bind (wpAny_attempt (wpAny_holding ?_)))
  unfold callGetattribute
  rw [Bool.false_and, if_neg Bool.false_ne_true]
  unfold boundAndCalled
  rw [PySem.F.excAttr_ValueError.ga.bind (.ref x)]
  refine wpAny_bind (wpAny_pure ?_)
  show wpAny _ _ (call (.builtin "BaseException.__getattribute__") [.ref x, .str "__class__" t]) _ _ _
  refine wpAny_call (codeAny_call_builtin PySem.F.excAttr_ValueError.ga.plain PySem.F.entry_bexc_ga ?_)
  refine @check_slot (model prog w) _ _ ⟨hp, g, d, t + 1, os⟩ "BaseException.__getattribute__" "BaseException" "__getattribute__" (.ref x) [.str "__class__" t] [] _ (by decide +kernel) (by decide +kernel) sub (PySem.F.args_bexc_ga (.ref x) (.str "__class__" t)) ?_
  unfold Builtin.«object.__getattribute__»
  refine wpAny_bind (wpAny_of_eq (a := ((Value.ref x : Value), [Value.str "__class__" t])) (by first | rfl | (simp only [slotArgs]; rfl)) ?_)
  refine wpAny_bind (wpAny_pure (wpAny_bind (ty.at (wpAny_bind (fd.at ?_)))))
  show wpAny _ _ (holding [Value.builtin "object.__class__"] (call (.builtin "getset_descriptor.__get__") [.builtin "object.__class__", .ref x, .ref D]) >>= ret) _ _ _
  refine wpAny_bind (wpAny_holding (wpAny_call (class_get (s := ⟨hp, g, d, t + 1, os⟩) (ox := ox) (od := od) X I C.hm ?_)))
  refine wpAny_pure ?_
  show wpAny _ _ (handedOut (.ref D)) _ _ _
  rw [handedOut_of (v := .ref D) rfl]
  first
    | exact wpAny_pure (wpAny_pure h)
    | exact wpAny_pure h
    | exact wpAny_pure (wpAny_bind (wpAny_pure (wpAny_pure h)))
open PySem.W PySem.Calls in
theorem kitx_ext {K : PySem.W.Frag} {x D : Addr} {ox : Obj} {od : Option Obj} (C : ExcC K D) : KitX K (.ref x) (.ref D) (fun h => InstAt h x ox D od) where
  ty := fun _ _ _ I => I.type
  it := fun _ h X _ => by
    obtain ⟨cd, hc, _⟩ := any_some C.hd
    unfold clsIn at hc
    split at hc
    · next ho =>
      intro A' Q' E' s' k q
      unfold isType loadHead
      exact wpAny_bind (wpAny_loadPart (k _ _ (X _ _ ho)) (wpAny_pure q))
    · cases hc
  ne := (handS_kitx_exc (x := x) (ox := ox) C.hg C.hk C.hs C.hd C.ha C.hn C.ht C.hm).ne
  ca := fun X I k => get_class C X I k
def rIsX (K : PySem.W.Frag) : List V → Hp → VK → Prop := fun xs H Q => ∃ (v c : V) (cv : Value) (b : Bool), xs = [v, c] ∧ ClsV c cv ∧
  ((∃ t, TyX K H v t ∧ PySem.W.kitOne K t cv = some b) ∨ (∃ (a D dx : Addr) (fs : List (Str × V)), v = .ref a ∧ H a = some (ExT (.ref D) (some dx) a) ∧ H dx = some (.xd fs) ∧ ExcC K D ∧ PySem.W.kitOne K (.ref D) cv = some b)) ∧ Q (.bl b) H
theorem call_isX {X : Cx} : CallR X (.builtin "isinstance") (rIsX X.K) := by
  intro pins s σ H xs us Q I r h
  obtain ⟨v, c, cv, b, rfl, k, e, q⟩ := h
  rcases e with ⟨t, ty, e⟩ | ⟨a, D, dx, fs, rfl, ha, hd, C, e⟩
  · exact call_isi pins s σ H _ us Q I r ⟨v, c, t, cv, b, rfl, k, ty, e, q⟩
  · obtain ⟨u1, u2, rfl, r1, r2⟩ := vals2 r
    obtain rfl := k.eq r2
    obtain rfl : u1 = Value.ref a := r1
    obtain ⟨oe, od, J, _⟩ := ext_at I ha hd
    exact PySem.W.kia_one (kitx_ext C) I.kIn J e (fun z => nomatch z) fun tk => ⟨.bl b, H, I.tok tk, rfl, q⟩
end L2
namespace QB
open PySem L2
/-- what a class of the program says, whose instances are looked at -/
structure ExcV (K : PySem.W.Frag) (x : Str) : Prop where
  ok : ∃ C, PySem.W.nsIn K mainGlobals x = some (some (.ref C)) ∧ XfC K C ∧ PySem.W.findIn K (.ref C) "value" = some none ∧ ExcC K C
def gVal (ks : List Str) : U → Option R
  | .exc x u => if x ∈ ks then some (.w u) else none
  | _ => none
def gIsX (sub : Str → Option Bool) (kinds : List String) : U → Option R
  | .exc x _ => (sub x).map fun b => .w (.bl b)
  | u => (kindS u).bind fun s => if s ∈ kinds then some (.w (.bl false)) else none
/-- what isinstance(_, cv) says of the classes by name, and of what kinds it says no -/
structure IsX (K : PySem.W.Frag) (cv : Value) (sub : Str → Option Bool) (kinds : List String) : Prop where
  exc : ∀ x b, sub x = some b → ∃ C, PySem.W.nsIn K mainGlobals x = some (some (.ref C)) ∧ ExcC K C ∧ PySem.W.kitOne K (.ref C) cv = some b
  kind : ∀ s ∈ kinds, PySem.W.kitOne K (.type s) cv = some false
theorem exc_top {K : PySem.W.Frag} {H : Hp} {Lv : AS} {ρ : List Addr} {x : Str} {u : U} {v : V} (t : Top K H Lv ρ (.exc x u) v) : ∃ a dx v' C, v = .ref a ∧ PySem.W.nsIn K mainGlobals x = some (some (.ref C)) ∧ H a = some (ExT (.ref C) (some dx) a) ∧ ¬ Lv a ∧ H dx = some (.xd [("value", v')]) ∧ ¬ Lv dx ∧ Rep K H Lv ρ u v' := by
  simp only [Top, Rep] at t
  exact t
section
variable {X : Cy} {a : Expr} {fa : Ex} {pos p p2 apos : Pos}
theorem sndE_val {ks : List Str} (hv : ∀ x ∈ ks, ExcV X.K x) (ha : SndE X a fa) (hb : attributeBase a "value" X.env (eval a X.env) = eval a X.env := by rfl) : SndE X (.Attribute a "value" apos) (m1 (gVal ks) fa) := by
  obtain ⟨ta, pa, ha⟩ := ha
  refine ⟨_, pe_exv pa hb, ?_⟩
  refine m1_ok (r := fun v H Q => ∃ (a C dx : Addr) (fs : List (Str × V)) (v' : V), v = .ref a ∧ H a = some (ExT (.ref C) (some dx) a) ∧ XfC X.K C ∧ PySem.W.findIn X.K (.ref C) "value" = some none ∧ H dx = some (.xd fs) ∧ fs.lookup ("value" : Str) = some v' ∧ Q v' H) (fun F ρ E B σ H u1 v1 r3 Q rl t e q => ?_) ha
  cases u1 <;> try (simp only [gVal] at e; cases e; done)
  next x u =>
    simp only [gVal] at e
    split at e
    · next hx =>
      cases e
      obtain ⟨a, dx, v', C, rfl, h1, h2, h3, h4, h5, h6⟩ := exc_top t
      obtain ⟨C', k1, k2, k3, _⟩ := (hv x hx).ok
      rw [h1] at k1
      cases k1
      exact ⟨a, C, dx, _, v', rfl, h2, k2, k3, h4, rfl, q H _ (Aft.val rl h6)⟩
    · cases e
theorem sndE_isX {c : V} {cv : Value} {tx : Str} {sub : Str → Option Bool} {kinds : List String} (hm : X.mg "isinstance" = none) (ha : SndE X a fa) (hc : PE X (.Name tx p2) (tC c)) (hk : ClsV c cv) (hi : IsX X.K cv sub kinds) (hg : Gl X "isinstance" := by rfl)
    (hvI : bootBuiltins "isinstance" = some (.builtin "isinstance") := by decide +kernel) (hs : starEach [a, .Name tx p2] X.env = (false, eval a X.env) :: starEach [.Name tx p2] X.env := by rfl) : SndE X (.Call (.Name "isinstance" p) [a, .Name tx p2] [] pos) (m1 (gIsX sub kinds) fa) := by
  obtain ⟨ta, pa, ha⟩ := ha
  refine ⟨_, pe_callB call_isX hg hm hvI (pa_cons pa (pa_cons hc pa_nil) hs) (by decide) (by decide) hs, ?_⟩
  refine m1_ok (r := fun v H Q => rIsX X.K [v, c] H Q) (fun F ρ E B σ H u1 v1 r3 Q rl t e q => ?_) ha
  have other : ∀ s, kindS u1 = some s → (if s ∈ kinds then some (R.w (.bl false)) else none) = some r3 → rIsX X.K [v1, c] H Q := fun s e1 e2 => by
    split at e2
    · next hs =>
      cases e2
      exact ⟨v1, c, cv, false, rfl, hk, .inl ⟨_, kind_top t e1, hi.kind s hs⟩, q H _ (Aft.val rl (by simp [Rep]))⟩
    · cases e2
  cases u1 with
  | exc x u =>
    simp only [gIsX, Option.map_eq_some_iff] at e
    obtain ⟨b, e1, rfl⟩ := e
    obtain ⟨a, dx, v', C, rfl, h1, h2, h3, h4, h5, h6⟩ := exc_top t
    obtain ⟨C', k1, k2, k3⟩ := hi.exc x b e1
    rw [h1] at k1
    cases k1
    exact ⟨_, c, cv, b, rfl, hk, .inr ⟨a, C, dx, _, rfl, h2, h4, k2, k3⟩, q H _ (Aft.val rl (by simp [Rep]))⟩
  | _ =>
    simp only [gIsX, Option.bind_eq_some_iff] at e
    obtain ⟨s, e1, e2⟩ := e
    exact other s e1 e2
end
end QB
/-! QeG: classes by name: tables of what a clause takes, of what isinstance says. -/
namespace QB
open PySem L2
def ifS (y : Str) (b : Bool) (f : Str → Option Bool) : Str → Option Bool := fun x => if x = y then some b else f x
def noS : Str → Option Bool := fun _ => none
theorem subs_nil {K : PySem.W.Frag} {c : Value} : Subs K c noS := ⟨fun x b e => by cases e⟩
theorem subs_cons {K : PySem.W.Frag} {c : Value} {y : Str} {b : Bool} {f : Str → Option Bool} {C : Addr} (e : PySem.W.nsIn K mainGlobals y = some (some (.ref C))) (h : PySem.W.exmOne K (.ref C) c = some b) (r : Subs K c f) : Subs K c (ifS y b f) :=
  ⟨fun x b' z => by
    unfold ifS at z
    split at z
    · next hx => subst hx; cases z; exact ⟨C, e, h⟩
    · exact r.ok x b' z⟩
theorem isX_nil {K : PySem.W.Frag} {cv : Value} : IsX K cv noS [] := ⟨fun x b e => (by cases e), fun s h => (by cases h)⟩
theorem isX_cons {K : PySem.W.Frag} {cv : Value} {y : Str} {b : Bool} {f : Str → Option Bool} {kinds : List String} {C : Addr} (e : PySem.W.nsIn K mainGlobals y = some (some (.ref C))) (v : ExcC K C) (h : PySem.W.kitOne K (.ref C) cv = some b) (r : IsX K cv f kinds) : IsX K cv (ifS y b f) kinds :=
  ⟨fun x b' z => (by
    unfold ifS at z
    split at z
    · next hx => subst hx; cases z; exact ⟨C, e, v, h⟩
    · exact r.exc x b' z), r.kind⟩
theorem isX_kind {K : PySem.W.Frag} {cv : Value} {f : Str → Option Bool} {kinds : List String} {s : String} (h : PySem.W.kitOne K (.type s) cv = some false) (r : IsX K cv f kinds) : IsX K cv f (s :: kinds) :=
  ⟨r.exc, fun t ht => (by
    rcases List.mem_cons.mp ht with rfl | z
    · exact h
    · exact r.kind t z)⟩
/-- the class of a clause -/
structure HanK (K : PySem.W.Frag) (mg : Str → Option Value) (x : Str) (sub : Str → Option Bool) : Prop where
  ok : ∃ C, mg x = some (.ref C) ∧ Subs K (.ref C) sub
structure IsK (K : PySem.W.Frag) (mg : Str → Option Value) (x : Str) (sub : Str → Option Bool) (kinds : List String) : Prop where
  ok : ∃ C, mg x = some (.ref C) ∧ IsX K (.ref C) sub kinds
theorem excV_of {K : PySem.W.Frag} {x : Str} {C : Addr} (e : PySem.W.nsIn K mainGlobals x = some (some (.ref C))) (v : PySem.W.findIn K (.ref C) "value" = some none) (c : ExcC K C) : ExcV K x :=
  ⟨C, e, ⟨c.hg, c.hk, c.hs, c.hd⟩, v, c⟩
section
variable {X : Cy} {a : Expr} {fa : Ex} {f g : Sm} {pos pos' np p p2 : Pos} {x n tx : Str} {body suite : List Stmt} {b₀ : Stmt} {i : Nat} {sub : Str → Option Bool} {kinds : List String}
theorem sndS_tryK (h : HanK X.K X.mg x sub) (hN : X.N.Nodup)
    (hb : ∀ pn xe W tk po, SndB (X.trB pn xe W tk po) body f) (hsu : ∀ a pn, SndB (X.suB a pn) (b₀ :: suite) g) (hg : Gl X.toCx x := by rfl) (hd : (x == ("__debug__" : Str)) = false := by decide)
    (hx : X.ex = [] := by rfl) (hs : X.stack = X.env :: X.outer := by rfl) (hf : X.env.frame = some X.env.locals := by rfl) (hi : X.N[i]? = some n := by rfl) (hln : X.env.kindOf n = some .local := by rfl) :
    SndS X (.Try body [.ExceptHandler (some (.Name x np)) (some n) (b₀ :: suite) pos'] [] [] pos) (sTry sub i f g) := by
  obtain ⟨C, hm, hsub⟩ := h.ok
  exact sndS_try hsub ⟨hg, hd, .inl hm⟩ hN hb hsu hx hs hf hi hln
theorem sndS_tryNK (h : HanK X.K X.mg x sub)
    (hb : ∀ pn xe W tk po, SndB (X.trB pn xe W tk po) body f) (hsu : ∀ a pn, SndB (X.suB a pn) (b₀ :: suite) g) (hg : Gl X.toCx x := by rfl) (hd : (x == ("__debug__" : Str)) = false := by decide)
    (hs : X.stack = X.env :: X.outer := by rfl) (hf : X.env.frame = some X.env.locals := by rfl) :
    SndS X (.Try body [.ExceptHandler (some (.Name x np)) none (b₀ :: suite) pos'] [] [] pos) (sTryN sub f g) := by
  obtain ⟨C, hm, hsub⟩ := h.ok
  exact sndS_tryN hsub ⟨hg, hd, .inl hm⟩ hb hsu hs hf
theorem sndE_isK (hm : X.mg "isinstance" = none) (h : IsK X.K X.mg tx sub kinds) (ha : SndE X a fa) (hg : Gl X "isinstance" := by rfl) (hgT : Gl X tx := by rfl) (hdb : (tx == ("__debug__" : Str)) = false := by decide)
    (hvI : bootBuiltins "isinstance" = some (.builtin "isinstance") := by decide +kernel) (hs : starEach [a, .Name tx p2] X.env = (false, eval a X.env) :: starEach [.Name tx p2] X.env := by rfl) : SndE X (.Call (.Name "isinstance" p) [a, .Name tx p2] [] pos) (m1 (gIsX sub kinds) fa) := by
  obtain ⟨C, hmT, hi⟩ := h.ok
  exact sndE_isX (c := .ref C) hm ha (pe_glob hgT hmT (show RelV (.ref C) (.ref C) from rfl) hdb) (.own C) hi hg hvI hs
theorem sndE_isB {T : String} (hm : X.mg "isinstance" = none) (hmT : X.mg tx = none) (h : IsX X.K (.type T) sub kinds) (ha : SndE X a fa) (hvT : bootBuiltins tx = some (.type T) := by decide +kernel) (hg : Gl X "isinstance" := by rfl) (hgT : Gl X tx := by rfl) (hn : tx ≠ "__name__" := by decide) (hdb : (tx == ("__debug__" : Str)) = false := by decide)
    (hvI : bootBuiltins "isinstance" = some (.builtin "isinstance") := by decide +kernel) (hs : starEach [a, .Name tx p2] X.env = (false, eval a X.env) :: starEach [.Name tx p2] X.env := by rfl) : SndE X (.Call (.Name "isinstance" p) [a, .Name tx p2] [] pos) (m1 (gIsX sub kinds) fa) :=
  sndE_isX (c := .ty T) hm ha (pe_bltn (v := .ty T) hgT hmT hvT rfl hn hdb) (.ty T) h hg hvI hs
end
/-! ### what these words compute, as equations -/
section
variable {E E1 E2 : En} {B B1 B2 : Bx} {f g : Sm} {sub : Str → Option Bool} {x y : Str} {b : Bool} {u : U} {i : Nat} {fa : Ex}
@[simp] theorem e_ifS_eq : ifS y b sub y = some b := by unfold ifS; rw [if_pos rfl]
theorem e_ifS_ne (h : x ≠ y) : ifS y b sub x = sub x := by unfold ifS; rw [if_neg h]
theorem e_sRaise : sRaise x fa E B = (fa E B).bind fun r E1 B1 => match settle r E1 with
  | some (u, E2) => .ex ⟨x, u⟩ E2 B1
  | none => .bad := (rfl)
theorem try_ok {fl : Fl} (h : f E B = .ok fl E1 B1) : sTry sub i f g E B = .ok fl E1 B1 := by unfold sTry; rw [h]
theorem try_ex {c : Exn} {fl : Fl} (h : f E B = .ex c E1 B1) (hs : sub c.cls = some true) (hi : i < E1.length) (hg : g (E1.set i (.val (.exc c.cls c.val))) B1 = .ok fl E2 B2) (hf : ∀ u, fl ≠ .rt u) : sTry sub i f g E B = .ok fl (E2.set i .un) B2 := by
  unfold sTry
  rw [h]
  dsimp only
  rw [hs]
  dsimp only
  rw [if_pos hi, hg]
  cases fl with
  | rt u => exact absurd rfl (hf u)
  | _ => rfl
theorem try_exR {c : Exn} (h : f E B = .ex c E1 B1) (hs : sub c.cls = some true) (hi : i < E1.length) (hg : g (E1.set i (.val (.exc c.cls c.val))) B1 = .ok (.rt u) E2 B2) : sTry sub i f g E B = .ok (.rt u) E2 B2 := by
  unfold sTry
  rw [h]
  dsimp only
  rw [hs]
  dsimp only
  rw [if_pos hi, hg]
theorem tryN_ok {fl : Fl} (h : f E B = .ok fl E1 B1) : sTryN sub f g E B = .ok fl E1 B1 := by unfold sTryN; rw [h]
theorem tryN_ex {c : Exn} {fl : Fl} (h : f E B = .ex c E1 B1) (hs : sub c.cls = some true) (hg : g E1 B1 = .ok fl E2 B2) : sTryN sub f g E B = .ok fl E2 B2 := by
  unfold sTryN
  rw [h]
  dsimp only
  rw [hs]
  dsimp only
  rw [hg]
@[simp] theorem gVal_exc {ks : List Str} : gVal ks (.exc x u) = if x ∈ ks then some (.w u) else none := (rfl)
@[simp] theorem gIsX_exc {kinds : List String} : gIsX sub kinds (.exc x u) = (sub x).map fun b => .w (.bl b) := (rfl)
@[simp] theorem gIsX_non {kinds : List String} : gIsX sub kinds .non = if "NoneType" ∈ kinds then some (.w (.bl false)) else none := (rfl)
end
end QB
/-! QeH: comprehensions over two. -/
namespace QB
open PySem L2
/-- a walk, by steps on the list under way -/
noncomputable def lcLoop (st : U → List U → Ar) (chk : Bx → Prop) (ks : List Nat) : List U → List U → Ar
  | [], acc => fun E B => .ok acc E B
  | u :: us, acc => fun E B => (st u acc E B).bindN fun acc' E' B' => goOnL chk (lcLoop st chk ks us acc') (wipeE E' ks) B'
/-- one element of the inner walk -/
def stE (bd : Bd) (t : Te) (f : Ex) : U → List U → Ar := fun u acc E B => match bd u E with
  | none => .bad
  | some E1 => (t E1 B).bindN fun b E2 B2 => if b = true then (f E2 B2).bindN fun r E3 B3 => match settle r E3 with
      | some (y, E4) => if acc.length < 16777216 then .ok (acc ++ [y]) E4 B3 else .bad
      | none => .bad
    else .ok acc E2 B2
/-- one element of the outer walk -/
noncomputable def stW (bd : Bd) (t : Te) (fi : Iv) (st : U → List U → Ar) (ks : List Nat) : U → List U → Ar := fun u acc E B => match bd u E with
  | none => .bad
  | some E1 => (t E1 B).bindN fun b E2 B2 => if b = true then (fi E2 B2).bindN fun w E3 B3 => lcLoop st w.2 ks w.1 acc (wipeE E3 ks) B3
    else .ok acc E2 B2
noncomputable def mLc2 (fi : Iv) (bd : Bd) (t : Te) (ks : List Nat) (fi1 : Iv) (bd1 : Bd) (t1 : Te) (f : Ex) (ks1 : List Nat) : Ex := fun E B => (fi E B).bind fun w E1 B1 =>
  if noOwn E1 ks = true then (lcLoop (stW bd t fi1 (stE bd1 t1 f) ks1) w.2 ks w.1 [] (wipeE E1 ks) B1).bindN fun acc E2 B2 => .ok (.fr (.lst acc)) (keepE E1 E2 ks) B2 else .bad
section
variable {K : PySem.W.Frag} {F0 F : Fm} {ρ1 : List Addr} {E1 : En} {B1 : Bx} {σ : L2.St} {H1 : Hp} {D : Addr} {ks : List Nat}
/-- the state within a walk, as it stands to the walk's beginning -/
structure FinL (K : PySem.W.Frag) (F0 F : Fm) (ρ1 : List Addr) (E1 : En) (B1 : Bx) (σ : L2.St) (H1 : Hp) (D : Addr) (ks : List Nat) (acc : List U) (E : En) (B : Bx) (ρ : List Addr) (H : Hp) (vacc : List V) : Prop where
  px : ρ1 <+: ρ
  rel : Rel K (F.add D (some (.lst vacc))) ρ E B (wipe σ ks) H
  stp : Stp H1 (LvF F0 ρ1 E1 B1 σ) H (LvF (F.add D (some (.lst vacc))) ρ E B (wipe σ ks))
  le : EnLe (wipeE E1 ks) E
  at_ : H D = some (.lst vacc)
  reps : Reps K H (LvF (F.add D (some (.lst vacc))) ρ E B (wipe σ ks)) ρ acc vacc
/-- what a step must do -/
def StepOk (K : PySem.W.Frag) (F : Fm) (σ : L2.St) (D : Addr) (ks : List Nat) (st : U → List U → Ar) (STEP : V → Hp → (Hp → Prop) → Prop) : Prop :=
  ∀ u acc E B ρ vacc H x (Nx : Hp → Prop), Rel K (F.add D (some (.lst vacc))) ρ E B (wipe σ ks) H → Rep K H (LvF (F.add D (some (.lst vacc))) ρ E B (wipe σ ks)) ρ u x → H D = some (.lst vacc) →
    Reps K H (LvF (F.add D (some (.lst vacc))) ρ E B (wipe σ ks)) ρ acc vacc → wipeE E ks = E →
    PostL (st u acc E B) (fun acc' E' B' => ∀ ρ' σ' vacc' H', ρ <+: ρ' → Rel K (F.add D (some (.lst vacc'))) ρ' E' B' σ' H' → wipe σ' ks = wipe σ ks →
      Stp H (LvF (F.add D (some (.lst vacc))) ρ E B (wipe σ ks)) H' (LvF (F.add D (some (.lst vacc'))) ρ' E' B' σ') → EnLe E E' → H' D = some (.lst vacc') → Reps K H' (LvF (F.add D (some (.lst vacc'))) ρ' E' B' σ') ρ' acc' vacc' → Nx H') →
    STEP x H Nx
theorem loopL {J : It} {us : List U} {chk : Bx → Prop} {G : Hp → AS → List Addr → Prop} (W : WalkU K J us chk G) {st : U → List U → Ar} {STEP : V → Hp → (Hp → Prop) → Prop} {R : Hp → Prop} (hstep : StepOk K F σ D ks st STEP)
    {E0 : En} {B0 : Bx} {ρ0 : List Addr} {H0 : Hp} {acc0 : List U} {vacc0 : List V} (fin0 : FinL K F0 F ρ1 E1 B1 σ H1 D ks acc0 E0 B0 ρ0 H0 vacc0) (G0 : G H0 (LvF (F.add D (some (.lst vacc0))) ρ0 E0 B0 (wipe σ ks)) ρ0) (hw0 : wipeE E0 ks = E0)
    (q : PostL (lcLoop st chk ks us acc0 E0 B0) (fun acc E B => ∀ ρ H vacc, FinL K F0 F ρ1 E1 B1 σ H1 D ks acc E B ρ H vacc → R H)) :
    ∃ T : Nat → Nat → Hp → Prop, (∃ m, T 0 m H0) ∧ ∀ i m H, T i m H → (J.stop i H ∧ R H) ∨ (J.go i H ∧ ∃ Nx : Hp → Prop, (∀ H', Nx H' → ∃ m', m' < m ∧ T (i + 1) m' H') ∧ ∀ x H', J.yld i H x H' → STEP x H' Nx) := by
  refine ⟨fun i m H => m = us.length - i ∧ i ≤ us.length ∧ ∃ ρc Ec Bc acc vacc, FinL K F0 F ρ1 E1 B1 σ H1 D ks acc Ec Bc ρc H vacc ∧ G H (LvF (F.add D (some (.lst vacc))) ρc Ec Bc (wipe σ ks)) ρc ∧ wipeE Ec ks = Ec ∧
      PostL (lcLoop st chk ks (us.drop i) acc Ec Bc) (fun acc E B => ∀ ρ H vacc, FinL K F0 F ρ1 E1 B1 σ H1 D ks acc E B ρ H vacc → R H), ⟨us.length, by simp, Nat.zero_le _, ρ0, E0, B0, acc0, vacc0, fin0, G0, hw0, by simpa using q⟩, ?_⟩
  rintro i m Hc ⟨rfl, hil, ρc, Ec, Bc, acc, vacc, fin, Gc, hwe, qc⟩
  by_cases hlt : i < us.length
  · refine .inr ⟨W.go _ _ _ _ Gc hlt, fun H => (i + 1 ≤ us.length ∧ ∃ ρc Ec Bc acc vacc, FinL K F0 F ρ1 E1 B1 σ H1 D ks acc Ec Bc ρc H vacc ∧ G H (LvF (F.add D (some (.lst vacc))) ρc Ec Bc (wipe σ ks)) ρc ∧ wipeE Ec ks = Ec ∧
      PostL (lcLoop st chk ks (us.drop (i + 1)) acc Ec Bc) (fun acc E B => ∀ ρ H vacc, FinL K F0 F ρ1 E1 B1 σ H1 D ks acc E B ρ H vacc → R H)), fun H' n => ⟨us.length - (i + 1), by omega, rfl, n⟩, fun x H' hy => ?_⟩
    have hu : us[i]? = some us[i] := List.getElem?_eq_getElem hlt
    obtain ⟨gr, rp⟩ := W.yld _ _ _ i us[i] x H' Gc hu hy fin.rel.lv_there
    have rl3 := fin.rel.growH gr
    have sg := grow_stp fin.rel gr
    rw [List.drop_eq_getElem_cons hlt] at qc
    simp only [lcLoop] at qc
    refine hstep us[i] acc Ec Bc ρc vacc H' x _ rl3 rp (gr _ _ fin.at_) (fin.reps.mono sg (List.prefix_refl _)) hwe ?_
    cases h1 : st us[i] acc Ec Bc with
    | bad => rw [h1] at qc; exact qc
    | ex c E' B' => rw [h1] at qc; exact (qc : False).elim
    | ok acc' E' B' =>
      rw [h1] at qc
      simp only [O.bindN_ok] at qc
      intro ρn σn vn Hn pxn rln hwn sn len atn repn
      obtain ⟨rw', lvw⟩ := rln.wipes (ks := ks)
      rw [hwn] at rw' lvw
      have sw := Stp.less (H := Hn) lvw
      have hck : chk B' := by
        by_cases z : chk B'
        · exact z
        · unfold goOnL at qc; rw [if_neg z] at qc; exact qc.elim
      rw [goOnL_yes hck] at qc
      have stot := (sg.trans sn).trans sw
      have le5 : EnLe (wipeE E1 ks) (wipeE E' ks) := by
        have h1 := (fin.le.trans len).wipe (ks := ks)
        rw [wipeE_idem] at h1
        exact h1
      exact ⟨hlt, ρn, wipeE E' ks, B', acc', vn, ⟨fin.px.trans pxn, rw', fin.stp.trans stot, le5, atn, repn.mono sw (List.prefix_refl _)⟩, W.keep _ _ _ _ _ _ B' Gc stot pxn rw'.boxes hck, wipeE_idem, qc⟩
  · have e : i = us.length := by omega
    subst e
    rw [List.drop_length] at qc
    exact .inl ⟨W.stop _ _ _ Gc, qc ρc Hc vacc fin⟩
theorem wipe_in : ∀ {ls : List Nat} {j : Nat} {τ : L2.St}, j ∈ ls → j < τ.length → (wipe τ ls)[j]? = some none
  | [], _, _, h, _ => by cases h
  | v :: vs, j, τ, h, hl => by
    unfold wipe
    by_cases e : v = j
    · subst e; rw [List.getElem?_set_self (by rw [wipe_length]; exact hl)]
    · rw [List.getElem?_set_ne e]
      rcases List.mem_cons.mp h with z | z
      · exact absurd z.symm e
      · exact wipe_in z hl
theorem wipe_sub : ∀ {ks1 : List Nat} {σ : L2.St}, (∀ k ∈ ks1, k ∈ ks) → wipe (wipe σ ks1) ks = wipe σ ks := by
  intro ks1 σ h
  refine List.ext_getElem? fun j => ?_
  by_cases hj : j ∈ ks
  · by_cases hl : j < σ.length
    · rw [wipe_in hj (by rw [wipe_length]; exact hl), wipe_in hj hl]
    · rw [List.getElem?_eq_none (by rw [wipe_length, wipe_length]; omega), List.getElem?_eq_none (by rw [wipe_length]; omega)]
  · rw [wipe_get hj, wipe_get hj, wipe_get (fun z => hj (h j z))]
def uI (K : PySem.W.Frag) (Y : Xq) (fi : Iv) : TI := fun σ H Rk => ∃ F ρ E B, Rel K F ρ E B σ H ∧
  (match fi E B with
    | .ok w E' B' => ∀ ρ' H' J G, AftT K F ρ E B σ H ρ' E' B' H' → WalkU K J w.1 w.2 G → G H' (LvF F ρ' E' B' σ) ρ' → w.2 B' → Rk J H'
    | .ex c E' B' => ExQ K Y F ρ c E' B'
    | .bad => False)
theorem SndI.u {X : Cy} {tg iter : Expr} {fi : Iv} (h : SndI X tg iter fi) : PI X tg iter (uI X.K X.q fi) := by
  obtain ⟨t, p, h⟩ := h
  exact ⟨fun pins s σ H Rk I ⟨F, ρ, E, B, rl, q⟩ => p.run pins s σ H Rk I (h F ρ E B σ H Rk rl q)⟩
variable {Y : Xq} {bd bd1 : Bd} {t t1 : Te} {f : Ex} {fi1 : Iv} {ks1 : List Nat}
theorem stE_ok (hks : ∀ k ∈ ks, k < σ.length) (nw : New F D) : StepOk K F σ D ks (stE bd t f) (fun x H Nx => uG K ks bd x (wipe σ ks) H fun σ3 H5 => wipe σ3 ks = wipe σ ks ∧ uT K Y t σ3 H5 fun b H6 =>
    if b = true then uE K Y f σ3 H6 fun y H7 => ∃ acc, H7 D = some (.lst acc) ∧ acc.length < sizeLine ∧ Nx (upd H7 D (.lst (acc ++ [y]))) else Nx H6) := by
  intro u acc E B ρ vacc H x Nx rl rp at_ reps hwe q
  refine ⟨F.add D (some (.lst vacc)), ρ, E, B, u, rl, rp, ?_⟩
  simp only [stE] at q
  cases h3 : bd u E with
  | none => simp only [h3] at q; exact (q : False).elim
  | some E2 =>
    simp only [h3] at q
    intro σ2 rl4 sb lv4 le4
    have hw2 : wipe σ2 ks = wipe σ ks := by
      have := wipe_same sb (fun k hkm => by rw [wipe_length]; exact hks k hkm)
      rw [this, wipe_idem (by intro k hkm; rw [wipe_length]; exact hks k hkm), wipe_idem hks]
    have s0 : Stp H (LvF (F.add D (some (.lst vacc))) ρ E B (wipe σ ks)) H (LvF (F.add D (some (.lst vacc))) ρ E2 B σ2) := Stp.less lv4
    refine ⟨hw2, F.add D (some (.lst vacc)), ρ, E2, B, rl4, ?_⟩
    cases h4 : t E2 B with
    | bad => simp only [h4] at q; exact q
    | ex c E' B' => simp only [h4, O.bindN_ex] at q; exact (q : False).elim
    | ok b E3 B3 =>
      simp only [h4, O.bindN_ok] at q
      intro ρ3 H3 A3
      have at3 : H3 D = some (.lst vacc) := by have := (A3.rel.out D (.inr rfl)).1; simpa [Fm.add] using this
      cases b with
      | false =>
        simp only [Bool.false_eq_true, if_false] at q ⊢
        exact q ρ3 σ2 vacc H3 A3.px A3.rel hw2 (s0.trans A3.stp) (le4.trans A3.le) at3 (reps.mono (s0.trans A3.stp) A3.px)
      | true =>
        simp only [if_true] at q ⊢
        refine ⟨F.add D (some (.lst vacc)), ρ3, E3, B3, A3.rel, ?_⟩
        cases h5 : f E3 B3 with
        | bad => rw [h5] at q; exact q
        | ex c E' B' => rw [h5] at q; exact (q : False).elim
        | ok r E4 B4 =>
          rw [h5] at q
          simp only [O.bindN_ok] at q
          intro ρ4 H4 v4 A4
          cases h6 : settle r E4 with
          | none => rw [h6] at q; exact (q : False).elim
          | some yE =>
            obtain ⟨y, E5⟩ := yE
            rw [h6] at q
            simp only at q
            by_cases hl : acc.length < 16777216
            · rw [if_pos hl] at q
              obtain ⟨T4, R4⟩ := A4.settled h6
              have at4 : H4 D = some (.lst vacc) := by have := (T4.rel.out D (.inr rfl)).1; simpa [Fm.add] using this
              obtain ⟨r5, s5⟩ := T4.rel.reown (ob := .lst (vacc ++ [v4])) nw
              have sall := (((s0.trans A3.stp).trans T4.stp).trans s5)
              exact ⟨vacc, at4, by rw [sizeLine_eq, ← reps.len]; exact hl, q ρ4 σ2 (vacc ++ [v4]) _ (A3.px.trans T4.px) r5 hw2 sall (le4.trans (A3.le.trans T4.le)) upd_same
                ((reps.mono sall (A3.px.trans T4.px)).append (Reps.one (Rep.mono s5 (List.prefix_refl _) _ _ R4)))⟩
            · rw [if_neg hl] at q; exact (q : False).elim
theorem stW_ok {st : U → List U → Ar} {STEP : L2.St → V → Hp → (Hp → Prop) → Prop} (hks : ∀ k ∈ ks, k < σ.length) (hk1 : ∀ k ∈ ks1, k ∈ ks)
    (hst : ∀ σ2 : L2.St, σ2.length = σ.length → StepOk K F σ2 D ks1 st (STEP σ2)) :
    StepOk K F σ D ks (stW bd t fi1 st ks1) (fun x H Nx => uG K ks bd x (wipe σ ks) H fun σ2 H2 => wipe σ2 ks = wipe σ ks ∧ uT K Y t σ2 H2 fun b H3 =>
      if b = true then uI K Y fi1 σ2 H3 fun J1 H4 => ∃ W1 : Nat → Nat → Hp → Prop, (∃ m, W1 0 m H4) ∧ ∀ j k H, W1 j k H →
        (J1.stop j H ∧ Nx H) ∨ (J1.go j H ∧ ∃ Nx1 : Hp → Prop, (∀ H', Nx1 H' → ∃ k', k' < k ∧ W1 (j + 1) k' H') ∧ ∀ x H', J1.yld j H x H' → STEP σ2 x H' Nx1)
      else Nx H3) := by
  intro u acc E B ρ vacc H x Nx rl rp at_ reps hwe q
  refine ⟨F.add D (some (.lst vacc)), ρ, E, B, u, rl, rp, ?_⟩
  simp only [stW] at q
  cases h3 : bd u E with
  | none => simp only [h3] at q; exact (q : False).elim
  | some E2 =>
    simp only [h3] at q
    intro σ2 rl4 sb lv4 le4
    have hw2 : wipe σ2 ks = wipe σ ks := by
      have := wipe_same sb (fun k hkm => by rw [wipe_length]; exact hks k hkm)
      rw [this, wipe_idem (by intro k hkm; rw [wipe_length]; exact hks k hkm), wipe_idem hks]
    have hl2 : σ2.length = σ.length := by rw [sb.1, wipe_length]
    have s0 : Stp H (LvF (F.add D (some (.lst vacc))) ρ E B (wipe σ ks)) H (LvF (F.add D (some (.lst vacc))) ρ E2 B σ2) := Stp.less lv4
    refine ⟨hw2, F.add D (some (.lst vacc)), ρ, E2, B, rl4, ?_⟩
    cases h4 : t E2 B with
    | bad => simp only [h4] at q; exact q
    | ex c E' B' => simp only [h4, O.bindN_ex] at q; exact (q : False).elim
    | ok b E3 B3 =>
      simp only [h4, O.bindN_ok] at q
      intro ρ3 H3 A3
      have at3 : H3 D = some (.lst vacc) := by have := (A3.rel.out D (.inr rfl)).1; simpa [Fm.add] using this
      cases b with
      | false =>
        simp only [Bool.false_eq_true, if_false] at q ⊢
        exact q ρ3 σ2 vacc H3 A3.px A3.rel hw2 (s0.trans A3.stp) (le4.trans A3.le) at3 (reps.mono (s0.trans A3.stp) A3.px)
      | true =>
        simp only [if_true] at q ⊢
        refine ⟨F.add D (some (.lst vacc)), ρ3, E3, B3, A3.rel, ?_⟩
        cases h5 : fi1 E3 B3 with
        | bad => rw [h5] at q; exact q
        | ex c E' B' => rw [h5] at q; exact (q : False).elim
        | ok w E4 B4 =>
          rw [h5] at q
          simp only [O.bindN_ok] at q
          intro ρ4 H4 J1 G1 A4 W1 g1 c1
          have at4 : H4 D = some (.lst vacc) := by have := (A4.rel.out D (.inr rfl)).1; simpa [Fm.add] using this
          have sall := (s0.trans A3.stp).trans A4.stp
          obtain ⟨r5, lv5⟩ := A4.rel.wipes (ks := ks1)
          have s5 := Stp.less (H := H4) lv5
          refine loopL W1 (hst σ2 hl2) (F0 := F.add D (some (.lst vacc))) (E1 := E4) (B1 := B4) (ρ1 := ρ4) (H1 := H4) (E0 := wipeE E4 ks1) (B0 := B4) (ρ0 := ρ4) (acc0 := acc) (vacc0 := vacc)
            ⟨List.prefix_refl _, r5, s5, EnLe.refl, at4, reps.mono (sall.trans s5) (A3.px.trans A4.px)⟩ (W1.keep _ _ _ _ _ _ B4 g1 s5 (List.prefix_refl _) r5.boxes c1) wipeE_idem ?_
          cases h6 : lcLoop st w.2 ks1 w.1 acc (wipeE E4 ks1) B4 with
          | bad => rw [h6] at q; exact q
          | ex c E' B' => rw [h6] at q; exact (q : False).elim
          | ok accf Ef Bf =>
            rw [h6] at q
            intro ρf Hf vf fin
            refine q ρf (wipe σ2 ks1) vf Hf (A3.px.trans (A4.px.trans fin.px)) fin.rel ?_ (sall.trans fin.stp) (fun j hj => ?_) fin.at_ fin.reps
            · have : wipe (wipe σ2 ks1) ks = wipe σ2 ks := wipe_sub hk1
              rw [this, hw2]
            · have hjk : j ∉ ks := fun hm => by
                rcases hj with ⟨u, e⟩ | ⟨c, e⟩ <;>
                · rw [← hwe] at e
                  have := wipeE_in hm e
                  cases this
              have h7 := (le4.trans (A3.le.trans A4.le)) j hj
              have h8 : IsSet (wipeE E4 ks1) j := by unfold IsSet at h7 ⊢; rw [wipeE_get (fun z => hjk (hk1 j z))]; exact h7
              exact fin.le j h8
end
section
variable {X : Cy} {fi fi1 : Iv} {bd bd1 : Bd} {t t1 : Te} {f : Ex} {ks ks1 : List Nat} {tg tg1 iter iter1 elt : Expr} {ifs ifs1 : List Expr} {scope : Scope} {own : List (Str × Nat)} {pos : Pos}
theorem lc2_reads {ta : TI} (hk1 : ∀ k ∈ ks1, k ∈ ks) (hi : ∀ F ρ E B σ H (Rk : It → Hp → Prop), Rel X.K F ρ E B σ H → (match fi E B with
      | .ok w E' B' => ∀ ρ' H' J G, AftT X.K F ρ E B σ H ρ' E' B' H' → WalkU X.K J w.1 w.2 G → G H' (LvF F ρ' E' B' σ) ρ' → w.2 B' → Rk J H'
      | .ex c E' B' => ExQ X.K X.q F ρ c E' B'
      | .bad => False) → ta σ H Rk) :
    ∀ F ρ E B σ H Q, Rel X.K F ρ E B σ H → PostE X.K X.q F ρ E B σ H (mLc2 fi bd t ks fi1 bd1 t1 f ks1 E B) Q → tLc2 ta (uG X.K ks bd) (uT X.K (bq X) t) (uI X.K (bq X) fi1) (uG X.K ks1 bd1) (uT X.K (bq X) t1) (uE X.K (bq X) f) ks ks1 σ H Q := by
  intro F ρ E B σ H Q rl q
  refine hi F ρ E B σ H _ rl ?_
  simp only [mLc2] at q
  cases h1 : fi E B with
  | bad => rw [h1] at q; exact q
  | ex c E' B' => rw [h1] at q; exact q
  | ok w E1 B1 =>
    rw [h1] at q
    obtain ⟨us, chk⟩ := w
    simp only [O.bind_ok] at q
    intro ρ1 H1 J G A1 W G1 C1 D hD
    have hn : noOwn E1 ks = true := by
      by_cases z : noOwn E1 ks = true
      · exact z
      · rw [if_neg z] at q; exact q.elim
    rw [if_pos hn] at q
    have nw : New F D := A1.rel.new hD
    have hks : ∀ k ∈ ks, k < σ.length := fun k hkm => by
      have hE : ∀ (ls : List Nat), noOwn E1 ls = true → ∀ k ∈ ls, k < E1.length := by
        intro ls
        induction ls with
        | nil => intro _ k z; cases z
        | cons v vs ih =>
          intro hn k hk
          unfold noOwn at hn
          cases hv : E1[v]? with
          | none => rw [hv] at hn; cases hn
          | some sv =>
            rw [hv] at hn
            have hn' : noOwn E1 vs = true := by cases sv <;> first | exact hn | cases hn
            rcases List.mem_cons.mp hk with z | z
            · subst z; exact (List.getElem?_eq_some_iff.mp hv).1
            · exact ih hn' k z
      have := hE ks hn k hkm
      rw [A1.rel.elen] at this
      exact this
    obtain ⟨r2, lv2⟩ := (A1.rel.alloc (ob := .lst []) hD).wipes (ks := ks)
    have sa : Stp H1 (LvF F ρ1 E1 B1 σ) (upd H1 D (.lst [])) (LvF (F.add D (some (.lst []))) ρ1 E1 B1 σ) := fun q o h n => ⟨.inl (by rw [upd_ne (ne_of_none h hD)]; exact h), fun z => by
      rcases LvF.add_iff.mp z with z | z
      · exact n z
      · subst z; rw [hD] at h; cases h⟩
    have s2 := sa.trans (Stp.less lv2)
    refine loopL W (stW_ok (Y := bq X) (t := t) hks hk1 fun σ2 hl => stE_ok (Y := bq X) (t := t1) (f := f) (bd := bd1) (fun k hk => by rw [hl]; exact hks k (hk1 k hk)) nw) (F0 := F) (E1 := E1) (B1 := B1) (ρ1 := ρ1) (H1 := H1) (E0 := wipeE E1 ks) (B0 := B1) (ρ0 := ρ1) (acc0 := []) (vacc0 := [])
      ⟨List.prefix_refl _, r2, s2, EnLe.refl, upd_same, Reps.nil⟩ (W.keep _ _ _ _ _ _ B1 G1 s2 (List.prefix_refl _) r2.boxes C1) wipeE_idem ?_
    cases h2 : lcLoop (stW bd t fi1 (stE bd1 t1 f) ks1) chk ks us [] (wipeE E1 ks) B1 with
    | bad => rw [h2] at q; exact q
    | ex c E' B' => rw [h2] at q; exact (q : False).elim
    | ok accf Ef Bf =>
      rw [h2] at q
      simp only [O.bindN_ok] at q
      intro ρf Hf vf fin
      obtain ⟨r2, lv2⟩ := Rel.restore A1.rel fin.rel fin.stp fin.px hn
      have ea : F.addR Hf (.fr (.lst accf)) (.ref D) = F.add D (some (.lst vf)) := by simp only [Fm.addR, fin.at_]
      have s2 := Stp.less (H := Hf) lv2
      refine q ρf Hf (.ref D) ⟨A1.px.trans fin.px, by rw [ea]; exact r2, by rw [ea]; exact A1.stp.trans (fin.stp.trans s2), A1.le.trans fun j hj => ?_, ?_⟩
      · by_cases hjk : j ∈ ks
        · have hjl : j < E1.length := by rcases hj with ⟨u, e⟩ | ⟨c, e⟩ <;> exact (List.getElem?_eq_some_iff.mp e).1
          have hfl : j < (keepE E1 Ef ks).length := by
            rw [keepE_len, fin.rel.elen, wipe_length, ← A1.rel.elen]; exact hjl
          have hs := keepE_in hjk hn (List.getElem?_eq_getElem hfl)
          unfold IsSet at hj ⊢
          rw [List.getElem?_eq_getElem hfl, ← hs.1]
          exact hj
        · have h3 : IsSet (wipeE E1 ks) j := by unfold IsSet at hj ⊢; rw [wipeE_get hjk]; exact hj
          have h4 := fin.le j h3
          unfold IsSet at h4 ⊢
          rw [keepE_get hjk]
          exact h4
      · rw [ea]
        exact ⟨D, rfl, rfl, ⟨vf, fin.at_, fin.reps.mono s2 (List.prefix_refl _)⟩, nw⟩
theorem SndG.more {ks' : List Nat} (h : SndG X tg ks bd) (hk : ∀ k ∈ ks, k ∈ ks') : SndG X tg ks' bd := by
  obtain ⟨g, p, h⟩ := h
  refine ⟨g, p, fun F ρ E B σ H u v Q rl rr q => h F ρ E B σ H u v Q rl rr ?_⟩
  cases e : bd u E with
  | none => rw [e] at q; exact q
  | some E' =>
    rw [e] at q
    exact fun σ' r sb l1 l2 => q σ' r ⟨sb.1, fun j hj => sb.2 j fun z => hj (hk j z)⟩ l1 l2
theorem sndE_lc2 (hc : X.calm = true) (hN : X.N.Nodup) (ok : BlkOk X.N X.env.scope scope own) (hk1 : ∀ k ∈ ks1, k ∈ own.map (·.2)) (hi : SndI X tg iter fi)
    (hg : ∀ (s : Shared) (H : Hp) (C : Addr) (cl : List (Str × Addr)) (fp : List Addr), SndG (X.blk s H scope (compEnvC scope cl C X.env) fp) tg (own.map (·.2)) bd)
    (ht : ∀ (s : Shared) (H : Hp) (C : Addr) (cl : List (Str × Addr)) (fp : List Addr), SndTs (X.blk s H scope (compEnvC scope cl C X.env) fp) ifs t)
    (hi1 : ∀ (s : Shared) (H : Hp) (C : Addr) (cl : List (Str × Addr)) (fp : List Addr), SndI (X.blk s H scope (compEnvC scope cl C X.env) fp) tg1 iter1 fi1)
    (hg1 : ∀ (s : Shared) (H : Hp) (C : Addr) (cl : List (Str × Addr)) (fp : List Addr), SndG (X.blk s H scope (compEnvC scope cl C X.env) fp) tg1 ks1 bd1)
    (ht1 : ∀ (s : Shared) (H : Hp) (C : Addr) (cl : List (Str × Addr)) (fp : List Addr), SndTs (X.blk s H scope (compEnvC scope cl C X.env) fp) ifs1 t1)
    (he : ∀ (s : Shared) (H : Hp) (C : Addr) (cl : List (Str × Addr)) (fp : List Addr), SndE (X.blk s H scope (compEnvC scope cl C X.env) fp) elt f)
    (hs : ∀ x, foldedSetIterable iter X.env x = pure x := by intro _; rfl) (hs1 : ∀ env x, foldedSetIterable iter1 env x = pure x := by intro _ _; rfl) :
    SndE X (.ListComp elt [⟨tg, iter, ifs, 0⟩, ⟨tg1, iter1, ifs1, 0⟩] scope pos) (mLc2 fi bd t (own.map (·.2)) fi1 bd1 t1 f ks1) := by
  obtain ⟨wi, pi, hi⟩ := hi
  exact ⟨_, pe_lc2 (g := uG X.K (own.map (·.2)) bd) (tt := uT X.K (bq X) t) (wi1 := uI X.K (bq X) fi1) (g1 := uG X.K ks1 bd1) (tt1 := uT X.K (bq X) t1) (te := uE X.K (bq X) f) hc hN pi ok hk1
    (fun s H C cl fp => (hg s H C cl fp).u) (fun s H C cl fp => ht s H C cl fp) (fun s H C cl fp => (hi1 s H C cl fp).u) (fun s H C cl fp => (hg1 s H C cl fp).u) (fun s H C cl fp => ht1 s H C cl fp) (fun s H C cl fp => (he s H C cl fp).u) hs hs1, lc2_reads hk1 hi⟩
theorem sndS_setLc2 {k : Nat} {y : Str} {py spos : Pos} (hc : X.calm = true) (hN : X.N.Nodup) (ok : BlkOk X.N X.env.scope scope own) (hk1 : ∀ k ∈ ks1, k ∈ own.map (·.2)) (hi : SndI X tg iter fi)
    (hg : ∀ (s : Shared) (H : Hp) (C : Addr) (cl : List (Str × Addr)) (fp : List Addr), SndG (X.blk s H scope (compEnvC scope cl C X.env) fp) tg (own.map (·.2)) bd)
    (ht : ∀ (s : Shared) (H : Hp) (C : Addr) (cl : List (Str × Addr)) (fp : List Addr), SndTs (X.blk s H scope (compEnvC scope cl C X.env) fp) ifs t)
    (hi1 : ∀ (s : Shared) (H : Hp) (C : Addr) (cl : List (Str × Addr)) (fp : List Addr), SndI (X.blk s H scope (compEnvC scope cl C X.env) fp) tg1 iter1 fi1)
    (hg1 : ∀ (s : Shared) (H : Hp) (C : Addr) (cl : List (Str × Addr)) (fp : List Addr), SndG (X.blk s H scope (compEnvC scope cl C X.env) fp) tg1 ks1 bd1)
    (ht1 : ∀ (s : Shared) (H : Hp) (C : Addr) (cl : List (Str × Addr)) (fp : List Addr), SndTs (X.blk s H scope (compEnvC scope cl C X.env) fp) ifs1 t1)
    (he : ∀ (s : Shared) (H : Hp) (C : Addr) (cl : List (Str × Addr)) (fp : List Addr), SndE (X.blk s H scope (compEnvC scope cl C X.env) fp) elt f)
    (hy : X.N[k]? = some y := by rfl) (hyl : X.env.scope.names.lookup y = some .local := by rfl) (hsw : swapsWith (.ListComp elt [⟨tg, iter, ifs, 0⟩, ⟨tg1, iter1, ifs1, 0⟩] scope pos) (some (.Name y py)) spos.line X.env = pure true := by exact sw_true rfl rfl rfl (by decide +kernel))
    (hs : ∀ x, foldedSetIterable iter X.env x = pure x := by intro _; rfl) (hs1 : ∀ env x, foldedSetIterable iter1 env x = pure x := by intro _ _; rfl) :
    SndS X (.Assign [.Name y py] (.ListComp elt [⟨tg, iter, ifs, 0⟩, ⟨tg1, iter1, ifs1, 0⟩] scope pos) spos) (sSet k (mLc2 fi bd t (own.map (·.2)) fi1 bd1 t1 f ks1)) := by
  obtain ⟨wi, pi, hi⟩ := hi
  exact ⟨_, ps_setLc2 (g := uG X.K (own.map (·.2)) bd) (tt := uT X.K (bq X) t) (wi1 := uI X.K (bq X) fi1) (g1 := uG X.K ks1 bd1) (tt1 := uT X.K (bq X) t1) (te := uE X.K (bq X) f) hc hN hy hyl hsw pi ok hk1
    (fun s H C cl fp => (hg s H C cl fp).u) (fun s H C cl fp => ht s H C cl fp) (fun s H C cl fp => (hi1 s H C cl fp).u) (fun s H C cl fp => (hg1 s H C cl fp).u) (fun s H C cl fp => ht1 s H C cl fp) (fun s H C cl fp => (he s H C cl fp).u) hs hs1, set_reads (lc2_reads hk1 hi)⟩
theorem sndS_ownLc2 {k : Nat} {y : Str} {py spos : Pos} (hc : X.calm = true) (hN : X.N.Nodup) (ok : BlkOk X.N X.env.scope scope own) (hk1 : ∀ k ∈ ks1, k ∈ own.map (·.2)) (hi : SndI X tg iter fi)
    (hg : ∀ (s : Shared) (H : Hp) (C : Addr) (cl : List (Str × Addr)) (fp : List Addr), SndG (X.blk s H scope (compEnvC scope cl C X.env) fp) tg (own.map (·.2)) bd)
    (ht : ∀ (s : Shared) (H : Hp) (C : Addr) (cl : List (Str × Addr)) (fp : List Addr), SndTs (X.blk s H scope (compEnvC scope cl C X.env) fp) ifs t)
    (hi1 : ∀ (s : Shared) (H : Hp) (C : Addr) (cl : List (Str × Addr)) (fp : List Addr), SndI (X.blk s H scope (compEnvC scope cl C X.env) fp) tg1 iter1 fi1)
    (hg1 : ∀ (s : Shared) (H : Hp) (C : Addr) (cl : List (Str × Addr)) (fp : List Addr), SndG (X.blk s H scope (compEnvC scope cl C X.env) fp) tg1 ks1 bd1)
    (ht1 : ∀ (s : Shared) (H : Hp) (C : Addr) (cl : List (Str × Addr)) (fp : List Addr), SndTs (X.blk s H scope (compEnvC scope cl C X.env) fp) ifs1 t1)
    (he : ∀ (s : Shared) (H : Hp) (C : Addr) (cl : List (Str × Addr)) (fp : List Addr), SndE (X.blk s H scope (compEnvC scope cl C X.env) fp) elt f)
    (hy : X.N[k]? = some y := by rfl) (hyl : X.env.scope.names.lookup y = some .local := by rfl) (hsw : swapsWith (.ListComp elt [⟨tg, iter, ifs, 0⟩, ⟨tg1, iter1, ifs1, 0⟩] scope pos) (some (.Name y py)) spos.line X.env = pure true := by exact sw_true rfl rfl rfl (by decide +kernel))
    (hs : ∀ x, foldedSetIterable iter X.env x = pure x := by intro _; rfl) (hs1 : ∀ env x, foldedSetIterable iter1 env x = pure x := by intro _ _; rfl) :
    SndS X (.Assign [.Name y py] (.ListComp elt [⟨tg, iter, ifs, 0⟩, ⟨tg1, iter1, ifs1, 0⟩] scope pos) spos) (sOwn k (mLc2 fi bd t (own.map (·.2)) fi1 bd1 t1 f ks1)) := by
  obtain ⟨wi, pi, hi⟩ := hi
  exact ⟨_, ps_setLc2 (g := uG X.K (own.map (·.2)) bd) (tt := uT X.K (bq X) t) (wi1 := uI X.K (bq X) fi1) (g1 := uG X.K ks1 bd1) (tt1 := uT X.K (bq X) t1) (te := uE X.K (bq X) f) hc hN hy hyl hsw pi ok hk1
    (fun s H C cl fp => (hg s H C cl fp).u) (fun s H C cl fp => ht s H C cl fp) (fun s H C cl fp => (hi1 s H C cl fp).u) (fun s H C cl fp => (hg1 s H C cl fp).u) (fun s H C cl fp => ht1 s H C cl fp) (fun s H C cl fp => (he s H C cl fp).u) hs hs1, own_reads (lc2_reads hk1 hi)⟩
end
end QB
/-! QeI: starred elements of displays and calls: a list, a tuple, a dict's keys. -/
namespace L2
open PySem PySem.Spec PyProof.Rows PySem.W
section
variable {prog : Program} {w : World} {A : Around} {E : Value → Shared → Prop} {s : Shared} {T : String} {r d : Addr} {n : Nat} {P : Nat → Value → Prop} {OK : Heap → Prop}
/-- what a source of items yields, gathered -/
theorem collect_src {Q : List Value → Shared → Prop} (K : KdlSrc prog w T r d n P OK) (hh : A.handled = none) (hok : OK s.heap) (hn : n ≤ sizeLine)
    (hQ : ∀ h' tk acc, (∀ b o, s.heap.get? b = some o → h'.get? b = some o) → ItemsOf P acc n → Q acc.toList { s with heap := h', toks := tk }) : wpAny (model prog w) A (collect (.ref r)) Q E s := by
  unfold collect
  refine wpAny_bind (wpAny_runValue (codeAny_builtin F.entry_proto_collect ?_))
  rw [Around.under_plainId F.plain_proto_collect _]
  show wpAny _ A.in1 (newList [] >>= fun l => again (.builtin "list.__iadd__" ⟨[l, .ref r], []⟩)) _ _ s
  refine wpAny_bind (wpAny_newObj_type ?_)
  refine wpAny_pure ⟨plainId_quiet F.plain_list_iadd _, codeAny_builtin F.entry_list_iadd ?_⟩
  rw [Around.under_plainId F.plain_list_iadd _]
  have hS : (s.heap.push { cls := .type "list", data := .seq ([] : List Value).toArray }).get? s.heap.objs.size = some { cls := .type "list", data := .seq #[] 0 } := Heap.get?_push_size _ rfl
  have hlt := K.there _ hok
  show wpAny _ A.in1 (Builtin.List.listExtendWith (.ref s.heap.objs.size) (.ref r) (.ref s.heap.objs.size)) _ _ _
  have fin : ∀ (h' : Heap) (tk : Nat) (acc : Array Value) (c : Nat), (∀ b o, b ≠ s.heap.objs.size → (s.heap.push { cls := .type "list", data := .seq ([] : List Value).toArray }).get? b = some o → h'.get? b = some o) → h'.get? s.heap.objs.size = some { cls := .type "list", dict := none, data := .seq acc c, slots := #[] } → ItemsOf P acc n →
      wpAny (model prog w) A (match Value.ref s.heap.objs.size with
        | Value.ref a => do
          match (← load a).data with
            | Data.seq xs _ => pure xs.toList
            | _ => unsupported "internal:collect"
        | _ => unsupported "internal:collect") Q E { s with heap := h', toks := tk } := fun h' tk acc c hk hS' hacc => by
    show wpAny _ A (load s.heap.objs.size >>= _) _ _ _
    refine wpAny_bind (wpAny_load hS' ?_)
    exact wpAny_pure (hQ h' tk acc (fun b o e => hk b o (Nat.ne_of_lt (Heap.lt_size e)) (Heap.get?_push_of_some _ e)) hacc)
  refine wpAny_mono (kdl_extend (A := A) (R := fun r s' => ∃ (h' : Heap) (tk : Nat) (acc : Array Value) (c : Nat), r = .ok (.ret (.ref s.heap.objs.size)) ∧ s' = { s with heap := h', toks := tk } ∧ (∀ b o, b ≠ s.heap.objs.size → (s.heap.push { cls := .type "list", data := .seq ([] : List Value).toArray }).get? b = some o → h'.get? b = some o) ∧ h'.get? s.heap.objs.size = some { cls := .type "list", dict := none, data := .seq acc c, slots := #[] } ∧ ItemsOf P acc n)
    K hh (s := { s with heap := s.heap.push { cls := .type "list", data := .seq ([] : List Value).toArray } }) (K.keep _ _ hok fun b _ o e => Heap.get?_push_of_some _ e) s.heap.objs.size (Nat.ne_of_gt hlt.1) (Nat.ne_of_gt hlt.2) (.ref s.heap.objs.size) 0 hS (fun h' tk acc' c' hk hS' hacc => ⟨h', tk, acc', c', rfl, rfl, hk, hS', hacc⟩) hn) (fun fn s' h => ?_) (fun e s' h => ?_)
  · cases fn with
    | done f =>
      obtain ⟨h', tk, acc, c, e, rfl, h1, h2, h3⟩ := h
      cases e
      exact fin h' tk acc c h1 h2 h3
    | again c' => exact ⟨h.1, codeAny_mono h.2 fun r s'' hr => by obtain ⟨h', tk, acc, c, rfl, rfl, h1, h2, h3⟩ := hr; exact fin h' tk acc c h1 h2 h3⟩
  · obtain ⟨_, _, _, _, e, _⟩ := h; cases e
end
section
variable {X : Cx} {pins : List (Addr × Obj)} {σ : St} {H : Hp} {s : Shared} {e : Expr} {es : List Expr} {te : TE} {t : TA} {p : Pos}
theorem star_dct {a : Addr} {kvs : List (Key × V)} {E : Value → Shared → Prop} {Q : List Value → Shared → Prop} (hc : X.calm = true) (I : Inv X pins σ H s) (h : Rd H a (.dK kvs)) (hQ : ∀ us s', Inv X pins σ H s' → Vals (kvs.map fun kv => kV kv.1) us → Q us s') : StarOf (model X.prog X.w) X.A E (.ref a) Q s := by
  obtain ⟨z, lo, vs, rel, dd⟩ := dk_rd I.hok h
  obtain ⟨ep, hat⟩ := dd.dictAt
  have ek : (kvs.map fun kv => kV kv.1) = vs.map fun p => kV p.1 := by
    have e := congrArg (List.map kV) rel.keys
    rw [List.map_map, List.map_map] at e
    exact e
  have K := kdl_dict (knd := mixKind X.prog X.w) (kvs := vs) (ep := ep) lo
  have c : wpAny (model X.prog X.w) X.A (collect (.ref a)) Q E s := by
    refine collect_src K (I.ok.hd hc) hat (by rw [← rel.length]; exact z) fun h' tk acc hk hacc => ?_
    refine hQ _ _ (I.kept (t' := tk) hk) ?_
    rw [ek]
    exact keys_at (by rw [Array.length_toList]; exact hacc.1) fun j v e => hacc.2 j v (by rw [← Array.getElem?_toList]; exact e)
  unfold StarOf notIterableAtAll
  exact wpAny_bind (wpAny_specialOf (K.type s hat) PySem.F.slot_dict_iter.lookup (wpAny_pure ⟨rfl, c⟩))
def tStarD (te : TE) (t : TA) : TA := fun σ H Q => te σ H fun x H1 => ∃ p kvs, x = V.ref p ∧ Rd H1 p (.dK kvs) ∧ t σ H1 fun ys H2 => Q ((kvs.map fun kv => kV kv.1) ++ ys) H2
theorem pa_starD (hc : X.calm = true) (he : PE X e te) (hr : PA X es t) (hs : starEach (.Starred e p :: es) X.env = (true, eval e X.env) :: starEach es X.env := by rfl) : PA X (.Starred e p :: es) (tStarD te t) := by
  refine ⟨fun pos pins s σ H Q I h => items_star (thn (he.run pins s σ H _ I h) fun v s1 ⟨y, H1, I1, ry, a, kvs, ey, hx, q⟩ => ?_) hs⟩
  subst ey
  obtain rfl : v = Value.ref a := ry
  refine star_dct hc I1 hx fun us s2 I2 rv => ?_
  exact thn (hr.run pos pins s2 σ H1 _ I2 q) fun ws s3 ⟨vs, H3, I3, r3, q3⟩ => ⟨_, H3, I3, rv.append r3, q3⟩
end
end L2

namespace QB
open PySem L2 StX
def starU : U → Option (List U)
  | .lst us => some us
  | .tup us => some us
  | _ => none
def mStar (f : Ex) (fs : Ar) : Ar := fun E B => (f E B).bind fun r E1 B1 =>
  match settle r E1 with
  | some (u, E2) => match starU u with
    | some ws => (fs E2 B1).bind fun us E3 B3 => .ok (ws ++ us) E3 B3
    | none => .bad
  | none => .bad
def starD : U → Option (List U)
  | .dct ks _ => some (ks.map uKey)
  | _ => none
def mStarD (f : Ex) (fs : Ar) : Ar := fun E B => (f E B).bind fun r E1 B1 =>
  match settle r E1 with
  | some (u, E2) => match starD u with
    | some ws => (fs E2 B1).bind fun us E3 B3 => .ok (ws ++ us) E3 B3
    | none => .bad
  | none => .bad
section
variable {X : Cy} {e : Expr} {es : List Expr} {fa : Ex} {fs : Ar} {p : Pos}
theorem sndA_star (ha : SndE X e fa) (hr : SndA X es fs) (hs : starEach (.Starred e p :: es) X.env = (true, eval e X.env) :: starEach es X.env := by rfl) : SndA X (.Starred e p :: es) (mStar fa fs) := by
  obtain ⟨ta, pa, ha⟩ := ha
  obtain ⟨tr, pr, hr⟩ := hr
  refine ⟨_, StX.pa_star pa pr hs, fun F ρ E B σ H Q rl h => ?_⟩
  refine ha F ρ E B σ H _ rl ?_
  simp only [mStar] at h
  cases h1 : fa E B with
  | bad => rw [h1] at h; exact h
  | ex c E' B' => rw [h1] at h; exact h
  | ok r1 E1 B1 =>
    rw [h1] at h
    intro ρ1 H1 v1 A1
    simp only [O.bind_ok] at h
    split at h
    · next u E2 es =>
      obtain ⟨T1, R1⟩ := A1.settled es
      split at h
      · next ws hw =>
        have key : ∃ q xs, v1 = V.ref q ∧ (SqT X.K H1 q xs ∨ SqL X.K H1 q xs) ∧ Reps X.K H1 (LvF F ρ1 E2 B1 σ) ρ1 ws xs := by
          cases u with
          | lst us =>
            cases hw
            simp only [Rep] at R1
            obtain ⟨q, xs, rfl, ⟨k1, _⟩, k2⟩ := R1
            exact ⟨q, xs, rfl, .inr (.inl (.inl k1)), k2⟩
          | tup us =>
            cases hw
            simp only [Rep] at R1
            obtain ⟨q, xs, rfl, k1, k2⟩ := R1
            exact ⟨q, xs, rfl, .inl (sqT_of k1), k2⟩
          | _ => cases hw
        obtain ⟨q, xs, rfl, k1, k2⟩ := key
        refine ⟨q, xs, rfl, k1, hr F ρ1 E2 B1 σ H1 _ T1.rel ?_⟩
        cases h2 : fs E2 B1 with
        | bad => rw [h2] at h; exact h
        | ex c E' B' => rw [h2] at h; exact AftT.exq T1 h
        | ok us E3 B3 =>
          rw [h2] at h
          simp only [O.bind_ok] at h
          intro ρ3 H3 vs A3
          exact h ρ3 H3 (xs ++ vs) ⟨T1.trans A3.t, (k2.mono A3.t.stp A3.t.px).append A3.reps⟩
      · exact h.elim
    · exact h.elim
theorem sndA_starD (hc : X.calm = true) (ha : SndE X e fa) (hr : SndA X es fs) (hs : starEach (.Starred e p :: es) X.env = (true, eval e X.env) :: starEach es X.env := by rfl) : SndA X (.Starred e p :: es) (mStarD fa fs) := by
  obtain ⟨ta, pa, ha⟩ := ha
  obtain ⟨tr, pr, hr⟩ := hr
  refine ⟨_, pa_starD hc pa pr hs, fun F ρ E B σ H Q rl h => ?_⟩
  refine ha F ρ E B σ H _ rl ?_
  simp only [mStarD] at h
  cases h1 : fa E B with
  | bad => rw [h1] at h; exact h
  | ex c E' B' => rw [h1] at h; exact h
  | ok r1 E1 B1 =>
    rw [h1] at h
    intro ρ1 H1 v1 A1
    simp only [O.bind_ok] at h
    split at h
    · next u E2 es =>
      obtain ⟨T1, R1⟩ := A1.settled es
      split at h
      · next ws hw =>
        cases u <;> first | (cases hw; done) | skip
        cases hw
        simp only [Rep] at R1
        obtain ⟨q, kvs, rfl, k1, _, rfl, k2⟩ := R1
        refine ⟨q, kvs, rfl, k1, hr F ρ1 E2 B1 σ H1 _ T1.rel ?_⟩
        cases h2 : fs E2 B1 with
        | bad => rw [h2] at h; exact h
        | ex c E' B' => rw [h2] at h; exact AftT.exq T1 h
        | ok us E3 B3 =>
          rw [h2] at h
          simp only [O.bind_ok] at h
          intro ρ3 H3 vs A3
          have k3 := uKeys_reps (K := X.K) (H := H3) (Lv := LvF F ρ3 E3 B3 σ) (ρ := ρ3) (kvs.map (·.1))
          refine h ρ3 H3 _ ⟨T1.trans A3.t, Reps.append (by simpa [List.map_map, Function.comp_def] using k3) A3.reps⟩
      · exact h.elim
    · exact h.elim
end
@[simp] theorem e_mStar {fa : Ex} {fs : Ar} {E : En} {B : Bx} : mStar fa fs E B = (fa E B).bind fun r E1 B1 =>
  match settle r E1 with
  | some (u, E2) => match starU u with
    | some ws => (fs E2 B1).bind fun us E3 B3 => .ok (ws ++ us) E3 B3
    | none => .bad
  | none => .bad := (rfl)
@[simp] theorem e_mStarD {fa : Ex} {fs : Ar} {E : En} {B : Bx} : mStarD fa fs E B = (fa E B).bind fun r E1 B1 =>
  match settle r E1 with
  | some (u, E2) => match starD u with
    | some ws => (fs E2 B1).bind fun us E3 B3 => .ok (ws ++ us) E3 B3
    | none => .bad
  | none => .bad := (rfl)
@[simp] theorem e_starU_lst {us : List U} : starU (.lst us) = some us := (rfl)
@[simp] theorem e_starU_tup {us : List U} : starU (.tup us) = some us := (rfl)
@[simp] theorem e_starD_dct {ks : List Key} {us : List U} : starD (.dct ks us) = some (ks.map uKey) := (rfl)
@[simp] theorem e_view_exc {x : Str} {u : U} {B : Bx} : viewU (.exc x u) B = some (.exc x u) := (rfl)
end QB
/-! printed by gen.py -/
namespace LawW
open PySem L2 QB PyProof.Rows
def topS (i : Nat) : Stmt := PySem.Challenge.pw_quotedback_k22_no_patterns.main.body.getD i (.Pass ⟨0, 0, 0, 0⟩)
abbrev s_fresh : Stmt := topS 1
abbrev s_takes : Stmt := topS 8
abbrev s_beginnings : Stmt := topS 11
abbrev s_meets_plainly : Stmt := topS 12
abbrev s_all_of : Stmt := topS 18
abbrev s_is_sign : Stmt := topS 21
abbrev s_is_range : Stmt := topS 22
abbrev s_is_entry : Stmt := topS 23
abbrev s_is_pattern : Stmt := topS 24
abbrev s_check_patterns : Stmt := topS 25
abbrev s_meets : Stmt := topS 26
abbrev s_heads : Stmt := topS 27
abbrev s_tails : Stmt := topS 28
abbrev s_least_text : Stmt := topS 29
abbrev s_first_apart : Stmt := topS 30
abbrev s_same : Stmt := topS 31
abbrev s_within : Stmt := topS 32
abbrev s_common : Stmt := topS 33
abbrev s_never_met : Stmt := topS 34
abbrev s_unmet : Stmt := topS 35
abbrev s_least_entry : Stmt := topS 37
abbrev s_shown_least : Stmt := topS 38
abbrev s__law_purse : Stmt := topS 40
abbrev s__law_coin : Stmt := topS 41
abbrev s__law_same : Stmt := topS 42
abbrev s__law_own : Stmt := topS 43
abbrev s__law_signs : Stmt := topS 44
abbrev s__law_sign : Stmt := topS 45
abbrev s__law_ranges : Stmt := topS 46
abbrev s__law_entry : Stmt := topS 47
abbrev s__law_odd : Stmt := topS 48
abbrev s__law_row : Stmt := topS 49
abbrev s__law_spoil : Stmt := topS 50
abbrev s__law_asked_one : Stmt := topS 51
abbrev s__law_asked_two : Stmt := topS 52
abbrev s__law_asked_arms : Stmt := topS 53
abbrev s__law_is_refusal : Stmt := topS 54
abbrev s__law_arms_hold : Stmt := topS 55
abbrev s_law : Stmt := topS 56
abbrev c_SIGNS : Str := "\x0a !\"#$&'()*+,-./0123456789:;<=>?@ABCDEFGHIJKLMNOPQRSTUVWXYZ[\\]^_`abcdefghijklmnopqrstuvwxyz{|}~"
structure BlT (mg : Str → Option Value) : Prop where
  ValueError_ : mg "ValueError" = none
  abs_ : mg "abs" = none
  all_ : mg "all" = none
  any_ : mg "any" = none
  bool_ : mg "bool" = none
  dict_ : mg "dict" = none
  enumerate_ : mg "enumerate" = none
  int_ : mg "int" = none
  isinstance : mg "isinstance" = none
  len_ : mg "len" = none
  list_ : mg "list" = none
  max_ : mg "max" = none
  min_ : mg "min" = none
  range_ : mg "range" = none
  str_ : mg "str" = none
  super_ : mg "super" = none
  tuple_ : mg "tuple" = none
  zip_ : mg "zip" = none
structure GsT (K : PySem.W.Frag) (mg : Str → Option Value) : Prop where
  SIGNS : ∃ u, mg "SIGNS" = some u ∧ ∃ t, u = Value.str c_SIGNS t
abbrev exNames : List Str := ["InvalidPattern"]
abbrev exKinds : List String := ["NoneType"]
def sub_ShellError : Str → Option Bool := (ifS "InvalidPattern" true noS)
def sub_InvalidPattern : Str → Option Bool := (ifS "InvalidPattern" true noS)
def sub_ValueError : Str → Option Bool := (ifS "InvalidPattern" true noS)
def sub_InvalidTree : Str → Option Bool := (ifS "InvalidPattern" false noS)
structure KlT (P : Program) (w : World) (K : PySem.W.Frag) (mg : Str → Option Value) (base : Heap) : Prop where
  e_InvalidPattern : ExcK P w K mg base 1 "InvalidPattern"
  h_ShellError : HanK K mg "ShellError" sub_ShellError
  i_InvalidPattern : IsK K mg "InvalidPattern" sub_InvalidPattern exKinds
  i_ValueError : IsX K (.type "ValueError") sub_ValueError exKinds
  i_InvalidTree : IsK K mg "InvalidTree" sub_InvalidTree exKinds
  vs : ∀ x ∈ exNames, ExcV K x
section
variable {P : Program} {w : World} {K : PySem.W.Frag} {mg : Str → Option Value} {base : Heap} {k : Nat}
/-! ### _law_same -/
abbrev N__law_same : List Str := ["_law_found", "_law_due", "_law_k"]
theorem sc__law_same : FnScope ["_law_found", "_law_due", "_law_k"] ["_law_found", "_law_due"] (defScope s__law_same) := ⟨rfl, rfl, rfl, by decide +kernel, rfl, by decide +kernel, by decide +kernel⟩
noncomputable def lc__law_same_0 (g__law_same : Fn) : Ex := mLc (mRange1 (mCons (m1 gLen (mVar 1)) (mNil))) (bdN 2) (mYes) (mCall g__law_same (mCons (m2 gIx (mVar 0) (mVar 2)) (mCons (m2 gIx (mVar 1) (mVar 2)) (mNil)))) [2]
noncomputable def b__law_same (g__law_same : Fn) : Sm := sSeq (sIf (mTru (m1 (gIsiT ["list", "tuple"]) (mVar 1))) (sSeq (sIf (mOr (toT (m2 gNe (m1 (gIsi "list") (mVar 1)) (m1 (gIsi "list") (mVar 0)))) (toT (m2 gNe (m1 (gIsi "tuple") (mVar 1)) (m1 (gIsi "tuple") (mVar 0))))) (sRet (mC (.bl false))) (sNext)) (sRet (mAndV (m2 gEq (m1 gLen (mVar 0)) (m1 gLen (mVar 1))) (m1 gAll (lc__law_same_0 g__law_same))))) (sNext)) (sSeq (sIf (toT (m2 (gIs false) (mVar 1) (mC .non))) (sRet (m2 (gIs false) (mVar 0) (mC .non))) (sNext)) (sSeq (sIf (mTru (m1 (gIsi "int") (mVar 1))) (sRet (mAndV (m1 (gIsi "int") (mVar 0)) (mAndV (m2 gEq (m1 (gIsi "bool") (mVar 0)) (m1 (gIsi "bool") (mVar 1))) (m2 gEq (mVar 0) (mVar 1))))) (sNext)) (sRet (mAndV (m1 (gIsi "str") (mVar 0)) (m2 gEq (mVar 0) (mVar 1))))))
theorem ok__law_same (Bl : BlT mg) (Gs : GsT K mg) (Kl : KlT P w K mg base) (D : DefAt K mg "_law_same" s__law_same) {g__law_same : Fn} (C__law_same : CalF P w K mg base k "_law_same" s__law_same ["_law_found", "_law_due"] g__law_same) : CalF P w K mg base (k + 1) "_law_same" s__law_same ["_law_found", "_law_due"] (runBody 3 2 (b__law_same g__law_same)) :=
  calF_of D sc__law_same (fun _ _ _ _ _ _ us hl => match us, hl with | [_, _], _ => rfl) fun f cdv A outer s H E hr =>
  sndB_cons (sndS_if (sndT_tru (sndE_isiT Bl.isinstance (sndE_var 1) (tyA_cons Bl.list_ (by decide +kernel) (tyA_cons Bl.tuple_ (by decide +kernel) (tyA_nil))))) (sndB_cons (sndS_if (sndT_of (sndW_or (sndT_cmp (op2_ne hr.units) (sndE_isi Bl.isinstance Bl.list_ (by decide +kernel) (sndE_var 1)) (sndE_isi Bl.isinstance Bl.list_ (by decide +kernel) (sndE_var 0))) (sndW_or1 (sndT_cmp (op2_ne hr.units) (sndE_isi Bl.isinstance Bl.tuple_ (by decide +kernel) (sndE_var 1)) (sndE_isi Bl.isinstance Bl.tuple_ (by decide +kernel) (sndE_var 0)))))) (sndB_one (sndS_ret (sndE_bl))) (sndB_nil)) (sndB_one (sndS_ret (sndE_and (sndE_cmp (op2_eq hr.units) (sndE_b1 call1_len Bl.len_ PySem.boot_len (sndE_var 0)) (sndE_b1 call1_len Bl.len_ PySem.boot_len (sndE_var 1))) (sndE_one (sndE_b1 (call1_all rfl) Bl.all_ (by decide +kernel) (sndE_lc (own := [("_law_k", 2)]) rfl sc__law_same.nd (blkOk_by (by change blkC N__law_same (defScope s__law_same) _ [("_law_k", 2)] = true; decide +kernel)) (sndI_range1 Bl.range_ (sndA_cons (sndE_b1 call1_len Bl.len_ PySem.boot_len (sndE_var 1)) (sndA_nil))) (fun _ _ _ _ _ => sndG_name (k := 2) sc__law_same.nd) (fun _ _ _ _ _ => sndTs_nil) (fun _ _ _ _ _ => sndE_callF C__law_same hr (Nat.le_refl _) (sndA_cons (sndE_ix (sndE_var 0) (sndE_var 2)) (sndA_cons (sndE_ix (sndE_var 1) (sndE_var 2)) (sndA_nil))))))))))) (sndB_nil)) (sndB_cons (sndS_if (sndT_cmp op2_is (sndE_var 1) (sndE_non)) (sndB_one (sndS_ret (sndE_cmp op2_is (sndE_var 0) (sndE_non)))) (sndB_nil)) (sndB_cons (sndS_if (sndT_tru (sndE_isi Bl.isinstance Bl.int_ (by decide +kernel) (sndE_var 1))) (sndB_one (sndS_ret (sndE_and (sndE_isi Bl.isinstance Bl.int_ (by decide +kernel) (sndE_var 0)) (sndE_and (sndE_cmp (op2_eq hr.units) (sndE_isi Bl.isinstance Bl.bool_ (by decide +kernel) (sndE_var 0)) (sndE_isi Bl.isinstance Bl.bool_ (by decide +kernel) (sndE_var 1))) (sndE_one (sndE_cmp (op2_eq hr.units) (sndE_var 0) (sndE_var 1))))))) (sndB_nil)) (sndB_one (sndS_ret (sndE_and (sndE_isi Bl.isinstance Bl.str_ (by decide +kernel) (sndE_var 0)) (sndE_one (sndE_cmp (op2_eq hr.units) (sndE_var 0) (sndE_var 1))))))))
/-! ### _law_spoil -/
abbrev N__law_spoil : List Str := ["_law_thing", "_law_part"]
theorem sc__law_spoil : FnScope ["_law_thing", "_law_part"] ["_law_thing"] (defScope s__law_spoil) := ⟨rfl, rfl, rfl, by decide +kernel, rfl, by decide +kernel, by decide +kernel⟩
noncomputable def lp__law_spoil_0 (g__law_spoil : Fn) : Sm := sExpr (mCall g__law_spoil (mCons (mVar 1) (mNil)))
noncomputable def b__law_spoil (g__law_spoil : Fn) : Sm := sSeq (sIf (mTru (m1 (gIsiT ["list", "tuple"]) (mVar 0))) (sFor (mItV (m1 gListOf (mVar 0))) (bdN 1) (lp__law_spoil_0 g__law_spoil)) (sNext)) (sIf (mTru (m1 (gIsi "list") (mVar 0))) (sExpr (mAppend (mVar 0) (mTup (mCons (mC (.str "any")) (mNil))))) (sNext))
theorem ok__law_spoil (Bl : BlT mg) (Gs : GsT K mg) (Kl : KlT P w K mg base) (D : DefAt K mg "_law_spoil" s__law_spoil) {g__law_spoil : Fn} (C__law_spoil : CalF P w K mg base k "_law_spoil" s__law_spoil ["_law_thing"] g__law_spoil) : CalF P w K mg base (k + 1) "_law_spoil" s__law_spoil ["_law_thing"] (runBody 2 1 (b__law_spoil g__law_spoil)) :=
  calF_of D sc__law_spoil (fun _ _ _ _ _ _ us hl => match us, hl with | [_], _ => rfl) fun f cdv A outer s H E hr =>
  sndB_cons (sndS_if (sndT_tru (sndE_isiT Bl.isinstance (sndE_var 0) (tyA_cons Bl.list_ (by decide +kernel) (tyA_cons Bl.tuple_ (by decide +kernel) (tyA_nil))))) (sndB_one (sndS_for rfl (sndI_val (sndE_t1 call1_list Bl.list_ (by decide +kernel) (sndE_var 0))) (sndG_name (k := 1) sc__law_spoil.nd) (sndB_one (sndS_expr (sndE_callF C__law_spoil hr (Nat.le_refl _) (sndA_cons (sndE_var 1) (sndA_nil))))))) (sndB_nil)) (sndB_one (sndS_if (sndT_tru (sndE_isi Bl.isinstance Bl.list_ (by decide +kernel) (sndE_var 0))) (sndB_one (sndS_expr (sndE_append (sndE_var 0) (sndE_tup (sndA_cons (sndE_str) (sndA_nil)))))) (sndB_nil)))
/-! ### _law_is_refusal -/
abbrev N__law_is_refusal : List Str := ["_law_caught", "_law_due", "_law_passed", "_law_kept"]
theorem sc__law_is_refusal : FnScope ["_law_caught", "_law_due", "_law_passed", "_law_kept"] ["_law_caught", "_law_due", "_law_passed"] (defScope s__law_is_refusal) := ⟨rfl, rfl, rfl, by decide +kernel, rfl, by decide +kernel, by decide +kernel⟩
noncomputable def b__law_is_refusal (g__law_same : Fn) (g__law_spoil : Fn) : Sm := sSeq (sIf (mOr (mNot (mTru (m1 (gIsX sub_InvalidPattern exKinds) (mVar 0)))) (mOr (mNot (mTru (m1 (gIsX sub_ValueError exKinds) (mVar 0)))) (mTru (m1 (gIsX sub_InvalidTree exKinds) (mVar 0))))) (sRet (mC (.bl false))) (sNext)) (sSeq (sSet 3 (m1 (gVal exNames) (mVar 0))) (sSeq (sIf (mNot (mTru (mCall g__law_same (mCons (mVar 3) (mCons (mVar 1) (mNil)))))) (sRet (mC (.bl false))) (sNext)) (sSeq (sExpr (mCall g__law_spoil (mCons (mVar 2) (mNil)))) (sRet (mCall g__law_same (mCons (mVar 3) (mCons (mVar 1) (mNil))))))))
theorem ok__law_is_refusal (Bl : BlT mg) (Gs : GsT K mg) (Kl : KlT P w K mg base) (D : DefAt K mg "_law_is_refusal" s__law_is_refusal) {g__law_same : Fn} (C__law_same : CalF P w K mg base k "_law_same" s__law_same ["_law_found", "_law_due"] g__law_same) {g__law_spoil : Fn} (C__law_spoil : CalF P w K mg base k "_law_spoil" s__law_spoil ["_law_thing"] g__law_spoil) : CalF P w K mg base (k + 1) "_law_is_refusal" s__law_is_refusal ["_law_caught", "_law_due", "_law_passed"] (runBody 4 3 (b__law_is_refusal g__law_same g__law_spoil)) :=
  calF_of D sc__law_is_refusal (fun _ _ _ _ _ _ us hl => match us, hl with | [_, _, _], _ => rfl) fun f cdv A outer s H E hr =>
  sndB_cons (sndS_if (sndT_of (sndW_or (sndT_not (sndT_tru (sndE_isK Bl.isinstance Kl.i_InvalidPattern (sndE_var 0)))) (sndW_or (sndT_not (sndT_tru (sndE_isB Bl.isinstance Bl.ValueError_ Kl.i_ValueError (sndE_var 0)))) (sndW_or1 (sndT_tru (sndE_isK Bl.isinstance Kl.i_InvalidTree (sndE_var 0))))))) (sndB_one (sndS_ret (sndE_bl))) (sndB_nil)) (sndB_cons (sndS_set (i := 3) (sndE_val Kl.vs (sndE_var 0)) sc__law_is_refusal.nd) (sndB_cons (sndS_if (sndT_not (sndT_tru (sndE_callF C__law_same hr (Nat.le_refl _) (sndA_cons (sndE_var 3) (sndA_cons (sndE_var 1) (sndA_nil)))))) (sndB_one (sndS_ret (sndE_bl))) (sndB_nil)) (sndB_cons (sndS_expr (sndE_callF C__law_spoil hr (Nat.le_refl _) (sndA_cons (sndE_var 2) (sndA_nil)))) (sndB_one (sndS_ret (sndE_callF C__law_same hr (Nat.le_refl _) (sndA_cons (sndE_var 3) (sndA_cons (sndE_var 1) (sndA_nil)))))))))
/-! ### fresh -/
abbrev N_fresh : List Str := ["thing", "part", "key"]
theorem sc_fresh : FnScope ["thing", "part", "key"] ["thing"] (defScope s_fresh) := ⟨rfl, rfl, rfl, by decide +kernel, rfl, by decide +kernel, by decide +kernel⟩
noncomputable def lc_fresh_0 (g_fresh : Fn) : Ex := mLc (mItV (mVar 0)) (bdN 1) (mYes) (mCall g_fresh (mCons (mVar 1) (mNil))) [1]
noncomputable def lc_fresh_1 (g_fresh : Fn) : Ex := mLc (mItV (mVar 0)) (bdN 1) (mYes) (mCall g_fresh (mCons (mVar 1) (mNil))) [1]
noncomputable def b_fresh (g_fresh : Fn) : Sm := sSeq (sIf (mTru (m1 (gIsi "list") (mVar 0))) (sRet (lc_fresh_1 g_fresh)) (sNext)) (sSeq (sIf (mTru (m1 (gIsi "tuple") (mVar 0))) (sRet (m1 gTupleOf (lc_fresh_0 g_fresh))) (sNext)) (sSeq (sIf (mTru (m1 (gIsi "dict") (mVar 0))) (sBad) (sNext)) (sRet (mVar 0))))
theorem ok_fresh (Bl : BlT mg) (Gs : GsT K mg) (Kl : KlT P w K mg base) (D : DefAt K mg "fresh" s_fresh) {g_fresh : Fn} (C_fresh : CalF P w K mg base k "fresh" s_fresh ["thing"] g_fresh) : CalF P w K mg base (k + 1) "fresh" s_fresh ["thing"] (runBody 3 1 (b_fresh g_fresh)) :=
  calF_of D sc_fresh (fun _ _ _ _ _ _ us hl => match us, hl with | [_], _ => rfl) fun f cdv A outer s H E hr =>
  sndB_cons (sndS_if (sndT_tru (sndE_isi Bl.isinstance Bl.list_ (by decide +kernel) (sndE_var 0))) (sndB_one (sndS_ret (sndE_lc (own := [("part", 1)]) rfl sc_fresh.nd (blkOk_by (by change blkC N_fresh (defScope s_fresh) _ [("part", 1)] = true; decide +kernel)) (sndI_val (sndE_var 0)) (fun _ _ _ _ _ => sndG_name (k := 1) sc_fresh.nd) (fun _ _ _ _ _ => sndTs_nil) (fun _ _ _ _ _ => sndE_callF C_fresh hr (Nat.le_refl _) (sndA_cons (sndE_var 1) (sndA_nil)))))) (sndB_nil)) (sndB_cons (sndS_if (sndT_tru (sndE_isi Bl.isinstance Bl.tuple_ (by decide +kernel) (sndE_var 0))) (sndB_one (sndS_ret (sndE_t1 call1_tuple Bl.tuple_ (by decide +kernel) (sndE_lc (own := [("part", 1)]) rfl sc_fresh.nd (blkOk_by (by change blkC N_fresh (defScope s_fresh) _ [("part", 1)] = true; decide +kernel)) (sndI_val (sndE_var 0)) (fun _ _ _ _ _ => sndG_name (k := 1) sc_fresh.nd) (fun _ _ _ _ _ => sndTs_nil) (fun _ _ _ _ _ => sndE_callF C_fresh hr (Nat.le_refl _) (sndA_cons (sndE_var 1) (sndA_nil))))))) (sndB_nil)) (sndB_cons (sndS_if (sndT_tru (sndE_isi Bl.isinstance Bl.dict_ (by decide +kernel) (sndE_var 0))) (sndB_one (sndS_never)) (sndB_nil)) (sndB_one (sndS_ret (sndE_var 0)))))
/-! ### is_sign -/
abbrev N_is_sign : List Str := ["thing"]
theorem sc_is_sign : FnScope ["thing"] ["thing"] (defScope s_is_sign) := ⟨rfl, rfl, rfl, by decide +kernel, rfl, by decide +kernel, by decide +kernel⟩
noncomputable def b_is_sign : Sm := sRet (mAndV (m1 (gIsi "str") (mVar 0)) (mAndV (m2 gEq (m1 gLen (mVar 0)) (mC (.int 1))) (m2 (gIn false) (mVar 0) (mC (.str c_SIGNS)))))
theorem ok_is_sign (Bl : BlT mg) (Gs : GsT K mg) (Kl : KlT P w K mg base) (D : DefAt K mg "is_sign" s_is_sign) : CalF P w K mg base (k + 1) "is_sign" s_is_sign ["thing"] (runBody 1 1 (b_is_sign)) :=
  calF_of D sc_is_sign (fun _ _ _ _ _ _ us hl => match us, hl with | [_], _ => rfl) fun f cdv A outer s H E hr =>
  sndB_one (sndS_ret (sndE_and (sndE_isi Bl.isinstance Bl.str_ (by decide +kernel) (sndE_var 0)) (sndE_and (sndE_cmp (op2_eq hr.units) (sndE_b1 call1_len Bl.len_ PySem.boot_len (sndE_var 0)) (sndE_int)) (sndE_one (sndE_cmp op2_in (sndE_var 0) (sndE_gstrE Gs.SIGNS))))))
/-! ### is_range -/
abbrev N_is_range : List Str := ["thing"]
theorem sc_is_range : FnScope ["thing"] ["thing"] (defScope s_is_range) := ⟨rfl, rfl, rfl, by decide +kernel, rfl, by decide +kernel, by decide +kernel⟩
noncomputable def b_is_range (g_is_sign : Fn) : Sm := sSeq (sIf (mOr (mNot (mTru (m1 (gIsi "tuple") (mVar 0)))) (toT (m2 gNe (m1 gLen (mVar 0)) (mC (.int 2))))) (sRet (mC (.bl false))) (sNext)) (sRet (mAndV (mCall g_is_sign (mCons (m2 gIx (mVar 0) (mC (.int 0))) (mNil))) (mAndV (mCall g_is_sign (mCons (m2 gIx (mVar 0) (mC (.int 1))) (mNil))) (m2 gLe (m2 gIx (mVar 0) (mC (.int 0))) (m2 gIx (mVar 0) (mC (.int 1)))))))
theorem ok_is_range (Bl : BlT mg) (Gs : GsT K mg) (Kl : KlT P w K mg base) (D : DefAt K mg "is_range" s_is_range) {g_is_sign : Fn} (C_is_sign : CalF P w K mg base k "is_sign" s_is_sign ["thing"] g_is_sign) : CalF P w K mg base (k + 1) "is_range" s_is_range ["thing"] (runBody 1 1 (b_is_range g_is_sign)) :=
  calF_of D sc_is_range (fun _ _ _ _ _ _ us hl => match us, hl with | [_], _ => rfl) fun f cdv A outer s H E hr =>
  sndB_cons (sndS_if (sndT_of (sndW_or (sndT_not (sndT_tru (sndE_isi Bl.isinstance Bl.tuple_ (by decide +kernel) (sndE_var 0)))) (sndW_or1 (sndT_cmp (op2_ne hr.units) (sndE_b1 call1_len Bl.len_ PySem.boot_len (sndE_var 0)) (sndE_int))))) (sndB_one (sndS_ret (sndE_bl))) (sndB_nil)) (sndB_one (sndS_ret (sndE_and (sndE_callF C_is_sign hr (Nat.le_refl _) (sndA_cons (sndE_ix (sndE_var 0) (sndE_int)) (sndA_nil))) (sndE_and (sndE_callF C_is_sign hr (Nat.le_refl _) (sndA_cons (sndE_ix (sndE_var 0) (sndE_int)) (sndA_nil))) (sndE_one (sndE_cmp op2_Le (sndE_ix (sndE_var 0) (sndE_int)) (sndE_ix (sndE_var 0) (sndE_int))))))))
/-! ### is_entry -/
abbrev N_is_entry : List Str := ["entry", "part"]
theorem sc_is_entry : FnScope ["entry", "part"] ["entry"] (defScope s_is_entry) := ⟨rfl, rfl, rfl, by decide +kernel, rfl, by decide +kernel, by decide +kernel⟩
noncomputable def lc_is_entry_0 (g_is_range : Fn) : Ex := mLc (mItV (m2 gIx (mVar 0) (mC (.int 2)))) (bdN 1) (mYes) (mCall g_is_range (mCons (mVar 1) (mNil))) [1]
noncomputable def b_is_entry (g_is_range : Fn) (g_is_sign : Fn) : Sm := sSeq (sIf (mOr (mNot (mTru (m1 (gIsi "tuple") (mVar 0)))) (toT (m2B gEqB (mVar 0) (mTup (mNil))))) (sRet (mC (.bl false))) (sNext)) (sSeq (sIf (toT (m2 (gIn false) (m2 gIx (mVar 0) (mC (.int 0))) (mTup (mCons (mC (.str "any")) (mCons (mC (.str "lot")) (mNil)))))) (sRet (m2 gEq (m1 gLen (mVar 0)) (mC (.int 1)))) (sNext)) (sSeq (sIf (toT (m2 gEq (m2 gIx (mVar 0) (mC (.int 0))) (mC (.str "one")))) (sRet (mAndV (m2 gEq (m1 gLen (mVar 0)) (mC (.int 2))) (mCall g_is_sign (mCons (m2 gIx (mVar 0) (mC (.int 1))) (mNil))))) (sNext)) (sSeq (sIf (mOr (toT (m2 gNe (m2 gIx (mVar 0) (mC (.int 0))) (mC (.str "of")))) (mOr (toT (m2 gNe (m1 gLen (mVar 0)) (mC (.int 3)))) (mNot (mTru (m1 (gIsi "bool") (m2 gIx (mVar 0) (mC (.int 1)))))))) (sRet (mC (.bl false))) (sNext)) (sRet (mAndV (m1 (gIsi "list") (m2 gIx (mVar 0) (mC (.int 2)))) (mAndV (m2B gNeB (m2 gIx (mVar 0) (mC (.int 2))) (mLst (mNil))) (m1 gAll (lc_is_entry_0 g_is_range))))))))
theorem ok_is_entry (Bl : BlT mg) (Gs : GsT K mg) (Kl : KlT P w K mg base) (D : DefAt K mg "is_entry" s_is_entry) {g_is_range : Fn} (C_is_range : CalF P w K mg base k "is_range" s_is_range ["thing"] g_is_range) {g_is_sign : Fn} (C_is_sign : CalF P w K mg base k "is_sign" s_is_sign ["thing"] g_is_sign) : CalF P w K mg base (k + 1) "is_entry" s_is_entry ["entry"] (runBody 2 1 (b_is_entry g_is_range g_is_sign)) :=
  calF_of D sc_is_entry (fun _ _ _ _ _ _ us hl => match us, hl with | [_], _ => rfl) fun f cdv A outer s H E hr =>
  sndB_cons (sndS_if (sndT_of (sndW_or (sndT_not (sndT_tru (sndE_isi Bl.isinstance Bl.tuple_ (by decide +kernel) (sndE_var 0)))) (sndW_or1 (sndT_cmpB (op2B_eq hr.units) (sndE_var 0) (sndE_tup (sndA_nil)))))) (sndB_one (sndS_ret (sndE_bl))) (sndB_nil)) (sndB_cons (sndS_if (sndT_cmp op2_in (sndE_ix (sndE_var 0) (sndE_int)) (sndE_tup (sndA_cons (sndE_str) (sndA_cons (sndE_str) (sndA_nil))))) (sndB_one (sndS_ret (sndE_cmp (op2_eq hr.units) (sndE_b1 call1_len Bl.len_ PySem.boot_len (sndE_var 0)) (sndE_int)))) (sndB_nil)) (sndB_cons (sndS_if (sndT_cmp (op2_eq hr.units) (sndE_ix (sndE_var 0) (sndE_int)) (sndE_str)) (sndB_one (sndS_ret (sndE_and (sndE_cmp (op2_eq hr.units) (sndE_b1 call1_len Bl.len_ PySem.boot_len (sndE_var 0)) (sndE_int)) (sndE_one (sndE_callF C_is_sign hr (Nat.le_refl _) (sndA_cons (sndE_ix (sndE_var 0) (sndE_int)) (sndA_nil))))))) (sndB_nil)) (sndB_cons (sndS_if (sndT_of (sndW_or (sndT_cmp (op2_ne hr.units) (sndE_ix (sndE_var 0) (sndE_int)) (sndE_str)) (sndW_or (sndT_cmp (op2_ne hr.units) (sndE_b1 call1_len Bl.len_ PySem.boot_len (sndE_var 0)) (sndE_int)) (sndW_or1 (sndT_not (sndT_tru (sndE_isi Bl.isinstance Bl.bool_ (by decide +kernel) (sndE_ix (sndE_var 0) (sndE_int))))))))) (sndB_one (sndS_ret (sndE_bl))) (sndB_nil)) (sndB_one (sndS_ret (sndE_and (sndE_isi Bl.isinstance Bl.list_ (by decide +kernel) (sndE_ix (sndE_var 0) (sndE_int))) (sndE_and (sndE_cmpB (op2B_ne hr.units) (sndE_ix (sndE_var 0) (sndE_int)) (sndE_lst (sndA_nil))) (sndE_one (sndE_b1 (call1_all rfl) Bl.all_ (by decide +kernel) (sndE_lc (own := [("part", 1)]) rfl sc_is_entry.nd (blkOk_by (by change blkC N_is_entry (defScope s_is_entry) _ [("part", 1)] = true; decide +kernel)) (sndI_val (sndE_ix (sndE_var 0) (sndE_int))) (fun _ _ _ _ _ => sndG_name (k := 1) sc_is_entry.nd) (fun _ _ _ _ _ => sndTs_nil) (fun _ _ _ _ _ => sndE_callF C_is_range hr (Nat.le_refl _) (sndA_cons (sndE_var 1) (sndA_nil)))))))))))))
/-! ### is_pattern -/
abbrev N_is_pattern : List Str := ["pattern", "entry"]
theorem sc_is_pattern : FnScope ["pattern", "entry"] ["pattern"] (defScope s_is_pattern) := ⟨rfl, rfl, rfl, by decide +kernel, rfl, by decide +kernel, by decide +kernel⟩
noncomputable def lc_is_pattern_0 (g_is_entry : Fn) : Ex := mLc (mItV (mVar 0)) (bdN 1) (mYes) (mCall g_is_entry (mCons (mVar 1) (mNil))) [1]
noncomputable def b_is_pattern (g_is_entry : Fn) : Sm := sRet (mAndV (m1 (gIsi "list") (mVar 0)) (m1 gAll (lc_is_pattern_0 g_is_entry)))
theorem ok_is_pattern (Bl : BlT mg) (Gs : GsT K mg) (Kl : KlT P w K mg base) (D : DefAt K mg "is_pattern" s_is_pattern) {g_is_entry : Fn} (C_is_entry : CalF P w K mg base k "is_entry" s_is_entry ["entry"] g_is_entry) : CalF P w K mg base (k + 1) "is_pattern" s_is_pattern ["pattern"] (runBody 2 1 (b_is_pattern g_is_entry)) :=
  calF_of D sc_is_pattern (fun _ _ _ _ _ _ us hl => match us, hl with | [_], _ => rfl) fun f cdv A outer s H E hr =>
  sndB_one (sndS_ret (sndE_and (sndE_isi Bl.isinstance Bl.list_ (by decide +kernel) (sndE_var 0)) (sndE_one (sndE_b1 (call1_all rfl) Bl.all_ (by decide +kernel) (sndE_lc (own := [("entry", 1)]) rfl sc_is_pattern.nd (blkOk_by (by change blkC N_is_pattern (defScope s_is_pattern) _ [("entry", 1)] = true; decide +kernel)) (sndI_val (sndE_var 0)) (fun _ _ _ _ _ => sndG_name (k := 1) sc_is_pattern.nd) (fun _ _ _ _ _ => sndTs_nil) (fun _ _ _ _ _ => sndE_callF C_is_entry hr (Nat.le_refl _) (sndA_cons (sndE_var 1) (sndA_nil))))))))
/-! ### check_patterns -/
abbrev N_check_patterns : List Str := ["patterns", "pattern"]
theorem sc_check_patterns : FnScope ["patterns", "pattern"] ["patterns"] (defScope s_check_patterns) := ⟨rfl, rfl, rfl, by decide +kernel, rfl, by decide +kernel, by decide +kernel⟩
noncomputable def lp_check_patterns_0 (g_is_pattern : Fn) (g_fresh : Fn) : Sm := sIf (mNot (mTru (mCall g_is_pattern (mCons (mVar 1) (mNil))))) (sRaise "InvalidPattern" (mCall g_fresh (mCons (mVar 1) (mNil)))) (sNext)
noncomputable def b_check_patterns (g_fresh : Fn) (g_is_pattern : Fn) : Sm := sFor (mItV (mVar 0)) (bdN 1) (lp_check_patterns_0 g_is_pattern g_fresh)
theorem ok_check_patterns (Bl : BlT mg) (Gs : GsT K mg) (Kl : KlT P w K mg base) (hk2 : 2 ≤ k) (D : DefAt K mg "check_patterns" s_check_patterns) {g_fresh : Fn} (C_fresh : CalF P w K mg base k "fresh" s_fresh ["thing"] g_fresh) {g_is_pattern : Fn} (C_is_pattern : CalF P w K mg base k "is_pattern" s_is_pattern ["pattern"] g_is_pattern) : CalF P w K mg base (k + 1) "check_patterns" s_check_patterns ["patterns"] (runBody 2 1 (b_check_patterns g_fresh g_is_pattern)) :=
  calF_of D sc_check_patterns (fun _ _ _ _ _ _ us hl => match us, hl with | [_], _ => rfl) fun f cdv A outer s H E hr =>
  sndB_one (sndS_for rfl (sndI_val (sndE_var 0)) (sndG_name (k := 1) sc_check_patterns.nd) (sndB_one (sndS_if (sndT_not (sndT_tru (sndE_callF C_is_pattern hr (Nat.le_refl _) (sndA_cons (sndE_var 1) (sndA_nil))))) (sndB_one (sndS_raise Kl.e_InvalidPattern hr hk2 rfl (sndE_callF C_fresh hr (Nat.le_refl _) (sndA_cons (sndE_var 1) (sndA_nil))))) (sndB_nil))))
/-! ### all_of -/
abbrev N_all_of : List Str := ["arms", "arm", "pattern"]
theorem sc_all_of : FnScope ["arms", "arm", "pattern"] ["arms"] (defScope s_all_of) := ⟨rfl, rfl, rfl, by decide +kernel, rfl, by decide +kernel, by decide +kernel⟩
noncomputable def lc_all_of_0 : Ex := mLc2 (mItV (mVar 0)) (bdN 1) (mYes) [1, 2] (mItV (mVar 1)) (bdN 2) (mYes) (mVar 2) [2]
noncomputable def b_all_of : Sm := sRet (lc_all_of_0)
theorem ok_all_of (Bl : BlT mg) (Gs : GsT K mg) (Kl : KlT P w K mg base) (D : DefAt K mg "all_of" s_all_of) : CalF P w K mg base (k + 1) "all_of" s_all_of ["arms"] (runBody 3 1 (b_all_of)) :=
  calF_of D sc_all_of (fun _ _ _ _ _ _ us hl => match us, hl with | [_], _ => rfl) fun f cdv A outer s H E hr =>
  sndB_one (sndS_ret (sndE_lc2 (own := [("arm", 1), ("pattern", 2)]) (ks1 := [2]) rfl sc_all_of.nd (blkOk_by (by change blkC N_all_of (defScope s_all_of) _ [("arm", 1), ("pattern", 2)] = true; decide +kernel)) (by decide) (sndI_val (sndE_var 0)) (fun _ _ _ _ _ => (sndG_name (k := 1) sc_all_of.nd).more (by decide)) (fun _ _ _ _ _ => sndTs_nil) (fun _ _ _ _ _ => sndI_val (sndE_var 1)) (fun _ _ _ _ _ => sndG_name (k := 2) sc_all_of.nd) (fun _ _ _ _ _ => sndTs_nil) (fun _ _ _ _ _ => sndE_var 2)))
/-! ### never_met -/
abbrev N_never_met : List Str := ["arms", "patterns", "come_to", "answers", "index"]
theorem sc_never_met : FnScope ["arms", "patterns", "come_to", "answers", "index"] ["arms"] (defScope s_never_met) := ⟨rfl, rfl, rfl, by decide +kernel, rfl, by decide +kernel, by decide +kernel⟩
noncomputable def b_never_met (g_check_patterns : Fn) (g_all_of : Fn) : Sm := sSeq (sSet 1 (mCall g_all_of (mCons (mVar 0) (mNil)))) (sSeq (sExpr (mCall g_check_patterns (mCons (mVar 1) (mNil)))) (sSeq (sBad) (sBad)))
theorem ok_never_met (Bl : BlT mg) (Gs : GsT K mg) (Kl : KlT P w K mg base) (D : DefAt K mg "never_met" s_never_met) {g_check_patterns : Fn} (C_check_patterns : CalF P w K mg base k "check_patterns" s_check_patterns ["patterns"] g_check_patterns) {g_all_of : Fn} (C_all_of : CalF P w K mg base k "all_of" s_all_of ["arms"] g_all_of) : CalF P w K mg base (k + 1) "never_met" s_never_met ["arms"] (runBody 5 1 (b_never_met g_check_patterns g_all_of)) :=
  calF_of D sc_never_met (fun _ _ _ _ _ _ us hl => match us, hl with | [_], _ => rfl) fun f cdv A outer s H E hr =>
  sndB_cons (sndS_set (i := 1) (sndE_callF C_all_of hr (Nat.le_refl _) (sndA_cons (sndE_var 0) (sndA_nil))) sc_never_met.nd) (sndB_cons (sndS_expr (sndE_callF C_check_patterns hr (Nat.le_refl _) (sndA_cons (sndE_var 1) (sndA_nil)))) (sndB_cons (sndS_never) (sndB_one (sndS_never))))
/-! ### unmet -/
abbrev N_unmet : List Str := ["arms", "patterns"]
theorem sc_unmet : FnScope ["arms", "patterns"] ["arms"] (defScope s_unmet) := ⟨rfl, rfl, rfl, by decide +kernel, rfl, by decide +kernel, by decide +kernel⟩
noncomputable def b_unmet (g_check_patterns : Fn) (g_all_of : Fn) : Sm := sSeq (sSet 1 (mCall g_all_of (mCons (mVar 0) (mNil)))) (sSeq (sExpr (mCall g_check_patterns (mCons (mVar 1) (mNil)))) (sBad))
theorem ok_unmet (Bl : BlT mg) (Gs : GsT K mg) (Kl : KlT P w K mg base) (D : DefAt K mg "unmet" s_unmet) {g_check_patterns : Fn} (C_check_patterns : CalF P w K mg base k "check_patterns" s_check_patterns ["patterns"] g_check_patterns) {g_all_of : Fn} (C_all_of : CalF P w K mg base k "all_of" s_all_of ["arms"] g_all_of) : CalF P w K mg base (k + 1) "unmet" s_unmet ["arms"] (runBody 2 1 (b_unmet g_check_patterns g_all_of)) :=
  calF_of D sc_unmet (fun _ _ _ _ _ _ us hl => match us, hl with | [_], _ => rfl) fun f cdv A outer s H E hr =>
  sndB_cons (sndS_set (i := 1) (sndE_callF C_all_of hr (Nat.le_refl _) (sndA_cons (sndE_var 0) (sndA_nil))) sc_unmet.nd) (sndB_cons (sndS_expr (sndE_callF C_check_patterns hr (Nat.le_refl _) (sndA_cons (sndE_var 1) (sndA_nil)))) (sndB_one (sndS_never)))
/-! ### _law_asked_arms -/
abbrev N__law_asked_arms : List Str := ["_law_way", "_law_cases", "_law_caught", "e"]
theorem sc__law_asked_arms : FnScope ["_law_way", "_law_cases", "_law_caught", "e"] ["_law_way", "_law_cases"] (defScope s__law_asked_arms) := ⟨rfl, rfl, rfl, by decide +kernel, rfl, by decide +kernel, by decide +kernel⟩
noncomputable def tb__law_asked_arms_0 (g_never_met : Fn) (g_unmet : Fn) : Sm := sIf (toT (m2 gEq (mVar 0) (mC (.int 0)))) (sExpr (mCall g_never_met (mCons (mVar 1) (mNil)))) (sExpr (mCall g_unmet (mCons (mVar 1) (mNil))))
noncomputable def ts__law_asked_arms_0 : Sm := sSet 2 (mVar 3)
noncomputable def b__law_asked_arms (g_never_met : Fn) (g_unmet : Fn) : Sm := sSeq (sSet 2 (mC .non)) (sSeq (sTry sub_ShellError 3 (tb__law_asked_arms_0 g_never_met g_unmet) (ts__law_asked_arms_0)) (sRet (mVar 2)))
theorem ok__law_asked_arms (Bl : BlT mg) (Gs : GsT K mg) (Kl : KlT P w K mg base) (D : DefAt K mg "_law_asked_arms" s__law_asked_arms) {g_never_met : Fn} (C_never_met : CalF P w K mg base k "never_met" s_never_met ["arms"] g_never_met) {g_unmet : Fn} (C_unmet : CalF P w K mg base k "unmet" s_unmet ["arms"] g_unmet) : CalF P w K mg base (k + 1) "_law_asked_arms" s__law_asked_arms ["_law_way", "_law_cases"] (runBody 4 2 (b__law_asked_arms g_never_met g_unmet)) :=
  calF_of D sc__law_asked_arms (fun _ _ _ _ _ _ us hl => match us, hl with | [_, _], _ => rfl) fun f cdv A outer s H E hr =>
  sndB_cons (sndS_set (i := 2) (sndE_non) sc__law_asked_arms.nd) (sndB_cons (sndS_tryK (i := 3) Kl.h_ShellError sc__law_asked_arms.nd (fun _ _ _ _ _ => sndB_one (sndS_if (sndT_cmp (op2_eq hr.units) (sndE_var 0) (sndE_int)) (sndB_one (sndS_expr (sndE_callF C_never_met hr (Nat.le_refl _) (sndA_cons (sndE_var 1) (sndA_nil))))) (sndB_one (sndS_expr (sndE_callF C_unmet hr (Nat.le_refl _) (sndA_cons (sndE_var 1) (sndA_nil))))))) (fun _ _ => sndB_one (sndS_set (i := 2) (sndE_var 3) sc__law_asked_arms.nd))) (sndB_one (sndS_ret (sndE_var 2))))
/-! ### _law_coin -/
abbrev N__law_coin : List Str := ["_law_purse_here", "_law_many", "_law_coin_here", "_law_stirred"]
theorem sc__law_coin : FnScope ["_law_purse_here", "_law_many", "_law_coin_here", "_law_stirred"] ["_law_purse_here", "_law_many"] (defScope s__law_coin) := ⟨rfl, rfl, rfl, by decide +kernel, rfl, by decide +kernel, by decide +kernel⟩
noncomputable def b__law_coin : Sm := sSeq (sIf (toT (m2 gGt (m2 gIx (mVar 0) (mC (.int 0))) (mC (.int 0)))) (sSeq (sSet 2 (m2 (gII cMod (· % ·)) (m1 gInt (m2 gIx (mVar 0) (mC (.int 0)))) (mVar 1))) (sSeq (sStore (m2 (gII cDiv (· / ·)) (m2 gIx (mVar 0) (mC (.int 0))) (mVar 1)) (mVar 0) (mC (.int 0))) (sRet (mVar 2)))) (sNext)) (sSeq (sStore (m2 gAdd (m2 gIx (mVar 0) (mC (.int 2))) (mC (.int 1))) (mVar 0) (mC (.int 2))) (sSeq (sSet 3 (m2 gAdd (m2 gIx (mVar 0) (mC (.int 1))) (m2 gMul (mC (.int 362437)) (m2 gIx (mVar 0) (mC (.int 2)))))) (sSeq (sSet 3 (m2 (gII cMod (· % ·)) (m1 gInt (m2 gAdd (m2 gMul (mVar 3) (mVar 3)) (m2 gIx (mVar 0) (mC (.int 2))))) (m2 gAdd (m2 (gII cPow fun i j => i ^ j.toNat) (mC (.int 10)) (mC (.int 25))) (mC (.int 13))))) (sSeq (sSet 3 (m2 (gII cMod (· % ·)) (m1 gInt (m2 gAdd (m2 gMul (m2 gMul (mVar 3) (mVar 3)) (mC (.int 5))) (mVar 3))) (m2 gAdd (m2 (gII cPow fun i j => i ^ j.toNat) (mC (.int 10)) (mC (.int 23))) (mC (.int 117))))) (sRet (m2 (gII cMod (· % ·)) (m1 gInt (m2 (gII cDiv (· / ·)) (mVar 3) (mC (.int 1000)))) (mVar 1)))))))
theorem ok__law_coin (Bl : BlT mg) (Gs : GsT K mg) (Kl : KlT P w K mg base) (D : DefAt K mg "_law_coin" s__law_coin) : CalF P w K mg base (k + 1) "_law_coin" s__law_coin ["_law_purse_here", "_law_many"] (runBody 4 2 (b__law_coin)) :=
  calF_of D sc__law_coin (fun _ _ _ _ _ _ us hl => match us, hl with | [_, _], _ => rfl) fun f cdv A outer s H E hr =>
  sndB_cons (sndS_if (sndT_cmp op2_Gt (sndE_ix (sndE_var 0) (sndE_int)) (sndE_int)) (sndB_cons (sndS_set (i := 2) (sndE_op op2_mod (sndE_t1 call1_int Bl.int_ (by decide +kernel) (sndE_ix (sndE_var 0) (sndE_int))) (sndE_var 1)) sc__law_coin.nd) (sndB_cons (sndS_store (sndE_op op2_fdiv (sndE_ix (sndE_var 0) (sndE_int)) (sndE_var 1)) (sndE_var 0) (sndE_int)) (sndB_one (sndS_ret (sndE_var 2))))) (sndB_nil)) (sndB_cons (sndS_store (sndE_op op2_Add (sndE_ix (sndE_var 0) (sndE_int)) (sndE_int)) (sndE_var 0) (sndE_int)) (sndB_cons (sndS_set (i := 3) (sndE_op op2_Add (sndE_ix (sndE_var 0) (sndE_int)) (sndE_op op2_Mul (sndE_int) (sndE_ix (sndE_var 0) (sndE_int)))) sc__law_coin.nd) (sndB_cons (sndS_set (i := 3) (sndE_op op2_mod (sndE_t1 call1_int Bl.int_ (by decide +kernel) (sndE_op op2_Add (sndE_op op2_Mul (sndE_var 3) (sndE_var 3)) (sndE_ix (sndE_var 0) (sndE_int)))) (sndE_op op2_Add (sndE_op op2_pow (sndE_int) (sndE_int)) (sndE_int))) sc__law_coin.nd) (sndB_cons (sndS_set (i := 3) (sndE_op op2_mod (sndE_t1 call1_int Bl.int_ (by decide +kernel) (sndE_op op2_Add (sndE_op op2_Mul (sndE_op op2_Mul (sndE_var 3) (sndE_var 3)) (sndE_int)) (sndE_var 3))) (sndE_op op2_Add (sndE_op op2_pow (sndE_int) (sndE_int)) (sndE_int))) sc__law_coin.nd) (sndB_one (sndS_ret (sndE_op op2_mod (sndE_t1 call1_int Bl.int_ (by decide +kernel) (sndE_op op2_fdiv (sndE_var 3) (sndE_int))) (sndE_var 1))))))))
/-! ### _law_own -/
abbrev N__law_own : List Str := ["_law_thing", "_law_part"]
theorem sc__law_own : FnScope ["_law_thing", "_law_part"] ["_law_thing"] (defScope s__law_own) := ⟨rfl, rfl, rfl, by decide +kernel, rfl, by decide +kernel, by decide +kernel⟩
noncomputable def lc__law_own_0 (g__law_own : Fn) : Ex := mLc (mItV (mVar 0)) (bdN 1) (mYes) (mCall g__law_own (mCons (mVar 1) (mNil))) [1]
noncomputable def lc__law_own_1 (g__law_own : Fn) : Ex := mLc (mItV (mVar 0)) (bdN 1) (mYes) (mCall g__law_own (mCons (mVar 1) (mNil))) [1]
noncomputable def b__law_own (g__law_own : Fn) : Sm := sSeq (sIf (mTru (m1 (gIsi "list") (mVar 0))) (sRet (mBox (lc__law_own_1 g__law_own))) (sNext)) (sSeq (sIf (mTru (m1 (gIsi "tuple") (mVar 0))) (sRet (m1 gTupleOf (lc__law_own_0 g__law_own))) (sNext)) (sRet (mVar 0)))
theorem ok__law_own (Bl : BlT mg) (Gs : GsT K mg) (Kl : KlT P w K mg base) (D : DefAt K mg "_law_own" s__law_own) {g__law_own : Fn} (C__law_own : CalF P w K mg base k "_law_own" s__law_own ["_law_thing"] g__law_own) : CalF P w K mg base (k + 1) "_law_own" s__law_own ["_law_thing"] (runBody 2 1 (b__law_own g__law_own)) :=
  calF_of D sc__law_own (fun _ _ _ _ _ _ us hl => match us, hl with | [_], _ => rfl) fun f cdv A outer s H E hr =>
  sndB_cons (sndS_if (sndT_tru (sndE_isi Bl.isinstance Bl.list_ (by decide +kernel) (sndE_var 0))) (sndB_one (sndS_ret (sndE_box (sndE_lc (own := [("_law_part", 1)]) rfl sc__law_own.nd (blkOk_by (by change blkC N__law_own (defScope s__law_own) _ [("_law_part", 1)] = true; decide +kernel)) (sndI_val (sndE_var 0)) (fun _ _ _ _ _ => sndG_name (k := 1) sc__law_own.nd) (fun _ _ _ _ _ => sndTs_nil) (fun _ _ _ _ _ => sndE_callF C__law_own hr (Nat.le_refl _) (sndA_cons (sndE_var 1) (sndA_nil))))))) (sndB_nil)) (sndB_cons (sndS_if (sndT_tru (sndE_isi Bl.isinstance Bl.tuple_ (by decide +kernel) (sndE_var 0))) (sndB_one (sndS_ret (sndE_t1 call1_tuple Bl.tuple_ (by decide +kernel) (sndE_lc (own := [("_law_part", 1)]) rfl sc__law_own.nd (blkOk_by (by change blkC N__law_own (defScope s__law_own) _ [("_law_part", 1)] = true; decide +kernel)) (sndI_val (sndE_var 0)) (fun _ _ _ _ _ => sndG_name (k := 1) sc__law_own.nd) (fun _ _ _ _ _ => sndTs_nil) (fun _ _ _ _ _ => sndE_callF C__law_own hr (Nat.le_refl _) (sndA_cons (sndE_var 1) (sndA_nil))))))) (sndB_nil)) (sndB_one (sndS_ret (sndE_var 0))))
/-! ### _law_signs -/
abbrev N__law_signs : List Str := ["_law_early"]
theorem sc__law_signs : FnScope ["_law_early"] [] (defScope s__law_signs) := ⟨rfl, rfl, rfl, by decide +kernel, rfl, by decide +kernel, by decide +kernel⟩
noncomputable def b__law_signs : Sm := sSeq (sSet 0 (mC (.str "\x0a !\"#$&'()*+,-./0123456789:;<=>?@ABCDEFGHIJKLMNOPQRSTUVWXYZ[\\]^_"))) (sRet (m2 gAdd (mVar 0) (mC (.str "`abcdefghijklmnopqrstuvwxyz{|}~"))))
theorem ok__law_signs (Bl : BlT mg) (Gs : GsT K mg) (Kl : KlT P w K mg base) (D : DefAt K mg "_law_signs" s__law_signs) : CalF P w K mg base (k + 1) "_law_signs" s__law_signs [] (runBody 1 0 (b__law_signs)) :=
  calF_of D sc__law_signs (fun _ _ _ _ _ _ us hl => match us, hl with | [], _ => rfl) fun f cdv A outer s H E hr =>
  sndB_cons (sndS_set (i := 0) (sndE_str) sc__law_signs.nd) (sndB_one (sndS_ret (sndE_op op2_Add (sndE_var 0) (sndE_str))))
/-! ### _law_ranges -/
abbrev N__law_ranges : List Str := ["_law_purse_here", "_law_ranges_here", "_law_turn", "_law_low"]
theorem sc__law_ranges : FnScope ["_law_purse_here", "_law_ranges_here", "_law_turn", "_law_low"] ["_law_purse_here"] (defScope s__law_ranges) := ⟨rfl, rfl, rfl, by decide +kernel, rfl, by decide +kernel, by decide +kernel⟩
noncomputable def lp__law_ranges_0 (g__law_coin : Fn) (g__law_signs : Fn) : Sm := sIf (toT (m2 gEq (mCall g__law_coin (mCons (mVar 0) (mCons (mC (.int 2)) (mNil)))) (mC (.int 0)))) (sSeq (sSet 3 (m2 gAdd (mC (.int 65)) (mCall g__law_coin (mCons (mVar 0) (mCons (mC (.int 3)) (mNil)))))) (sExpr (mAppend (mVar 1) (mTup (mCons (m2 gIx (mCall g__law_signs mNil) (mVar 3)) (mCons (m2 gIx (mCall g__law_signs mNil) (m2 gAdd (mVar 3) (mCall g__law_coin (mCons (mVar 0) (mCons (mC (.int 3)) (mNil)))))) (mNil))))))) (sSeq (sSet 3 (mCall g__law_coin (mCons (mVar 0) (mCons (mC (.int 95)) (mNil))))) (sExpr (mAppend (mVar 1) (mTup (mCons (m2 gIx (mCall g__law_signs mNil) (mVar 3)) (mCons (m2 gIx (mCall g__law_signs mNil) (m2 gAdd (mVar 3) (mCall g__law_coin (mCons (mVar 0) (mCons (m2 gSub (mC (.int 95)) (mVar 3)) (mNil)))))) (mNil)))))))
noncomputable def b__law_ranges (g__law_coin : Fn) (g__law_signs : Fn) : Sm := sSeq (sOwn 1 (mLst (mNil))) (sSeq (sFor (mRange1 (mCons (m2 gAdd (mC (.int 1)) (mCall g__law_coin (mCons (mVar 0) (mCons (m2 gIx (mLst (mCons (mC (.int 3)) (mCons (mC (.int 3)) (mCons (mC (.int 8)) (mNil))))) (mCall g__law_coin (mCons (mVar 0) (mCons (mC (.int 3)) (mNil))))) (mNil))))) (mNil))) (bdN 2) (lp__law_ranges_0 g__law_coin g__law_signs)) (sRet (mVar 1)))
theorem ok__law_ranges (Bl : BlT mg) (Gs : GsT K mg) (Kl : KlT P w K mg base) (D : DefAt K mg "_law_ranges" s__law_ranges) {g__law_coin : Fn} (C__law_coin : CalF P w K mg base k "_law_coin" s__law_coin ["_law_purse_here", "_law_many"] g__law_coin) {g__law_signs : Fn} (C__law_signs : CalF P w K mg base k "_law_signs" s__law_signs [] g__law_signs) : CalF P w K mg base (k + 1) "_law_ranges" s__law_ranges ["_law_purse_here"] (runBody 4 1 (b__law_ranges g__law_coin g__law_signs)) :=
  calF_of D sc__law_ranges (fun _ _ _ _ _ _ us hl => match us, hl with | [_], _ => rfl) fun f cdv A outer s H E hr =>
  sndB_cons (sndS_own (i := 1) (sndE_lst (sndA_nil)) sc__law_ranges.nd) (sndB_cons (sndS_for rfl (sndI_range1 Bl.range_ (sndA_cons (sndE_op op2_Add (sndE_int) (sndE_callF C__law_coin hr (Nat.le_refl _) (sndA_cons (sndE_var 0) (sndA_cons (sndE_ix (sndE_lst (sndA_cons (sndE_int) (sndA_cons (sndE_int) (sndA_cons (sndE_int) (sndA_nil))))) (sndE_callF C__law_coin hr (Nat.le_refl _) (sndA_cons (sndE_var 0) (sndA_cons (sndE_int) (sndA_nil))))) (sndA_nil))))) (sndA_nil))) (sndG_name (k := 2) sc__law_ranges.nd) (sndB_one (sndS_if (sndT_cmp (op2_eq hr.units) (sndE_callF C__law_coin hr (Nat.le_refl _) (sndA_cons (sndE_var 0) (sndA_cons (sndE_int) (sndA_nil)))) (sndE_int)) (sndB_cons (sndS_set (i := 3) (sndE_op op2_Add (sndE_int) (sndE_callF C__law_coin hr (Nat.le_refl _) (sndA_cons (sndE_var 0) (sndA_cons (sndE_int) (sndA_nil))))) sc__law_ranges.nd) (sndB_one (sndS_expr (sndE_append (sndE_var 1) (sndE_tup (sndA_cons (sndE_ix (sndE_callF0 C__law_signs hr (Nat.le_refl _)) (sndE_var 3)) (sndA_cons (sndE_ix (sndE_callF0 C__law_signs hr (Nat.le_refl _)) (sndE_op op2_Add (sndE_var 3) (sndE_callF C__law_coin hr (Nat.le_refl _) (sndA_cons (sndE_var 0) (sndA_cons (sndE_int) (sndA_nil)))))) (sndA_nil)))))))) (sndB_cons (sndS_set (i := 3) (sndE_callF C__law_coin hr (Nat.le_refl _) (sndA_cons (sndE_var 0) (sndA_cons (sndE_int) (sndA_nil)))) sc__law_ranges.nd) (sndB_one (sndS_expr (sndE_append (sndE_var 1) (sndE_tup (sndA_cons (sndE_ix (sndE_callF0 C__law_signs hr (Nat.le_refl _)) (sndE_var 3)) (sndA_cons (sndE_ix (sndE_callF0 C__law_signs hr (Nat.le_refl _)) (sndE_op op2_Add (sndE_var 3) (sndE_callF C__law_coin hr (Nat.le_refl _) (sndA_cons (sndE_var 0) (sndA_cons (sndE_op op2_Sub (sndE_int) (sndE_var 3)) (sndA_nil)))))) (sndA_nil))))))))))) (sndB_one (sndS_ret (sndE_var 1))))
/-! ### _law_odd -/
abbrev N__law_odd : List Str := ["_law_purse_here", "_law_high", "_law_low", "_law_bad", "_law_odd_here", "_law_ranges_here", "_law_place"]
theorem sc__law_odd : FnScope ["_law_purse_here", "_law_high", "_law_low", "_law_bad", "_law_odd_here", "_law_ranges_here", "_law_place"] ["_law_purse_here"] (defScope s__law_odd) := ⟨rfl, rfl, rfl, by decide +kernel, rfl, by decide +kernel, by decide +kernel⟩
noncomputable def b__law_odd (g__law_coin : Fn) (g__law_ranges : Fn) (g__law_signs : Fn) : Sm := sSeq (sSet 1 (m2 gAdd (mC (.int 1)) (mCall g__law_coin (mCons (mVar 0) (mCons (mC (.int 94)) (mNil)))))) (sSeq (sSet 2 (mCall g__law_coin (mCons (mVar 0) (mCons (mVar 1) (mNil))))) (sSeq (sSet 3 (mLst (mCons (mTup (mCons (m2 gIx (mCall g__law_signs mNil) (mVar 1)) (mCons (m2 gIx (mCall g__law_signs mNil) (mVar 2)) (mNil)))) (mCons (mTup (mCons (mC (.str "a")) (mNil))) (mCons (mTup (mCons (mC (.str "a")) (mCons (mC (.str "b")) (mCons (mC (.str "c")) (mNil))))) (mCons (mTup (mCons (mC (.str "")) (mCons (mC (.str "a")) (mNil)))) (mCons (mTup (mCons (mC (.str "a")) (mCons (mC (.str "bc")) (mNil)))) (mCons (mTup (mNil)) (mCons (mTup (mCons (mC (.str "a")) (mCons (mC (.str "")) (mNil)))) (mNil)))))))))) (sSeq (sSet 3 (m2 gIx (mVar 3) (mCall g__law_coin (mCons (mVar 0) (mCons (mC (.int 7)) (mNil)))))) (sSeq (sSet 4 (mLst (mCons (mTup (mCons (mC (.str "one")) (mCons (mC (.str "")) (mNil)))) (mCons (mTup (mCons (mC (.str "one")) (mCons (mC (.str "ab")) (mNil)))) (mCons (mTup (mCons (mC (.str "one")) (mNil))) (mCons (mTup (mCons (mC (.str "one")) (mCons (mC (.str "a")) (mCons (mC (.str "b")) (mNil))))) (mCons (mTup (mCons (mC (.str "any")) (mCons (mC (.str "a")) (mNil)))) (mCons (mTup (mCons (mC (.str "lot")) (mCons (mC (.str "*")) (mNil)))) (mCons (mTup (mCons (mC (.str "some")) (mNil))) (mCons (mTup (mCons (mC (.str "")) (mNil))) (mNil))))))))))) (sSeq (sSet 4 (m2 gAdd (mVar 4) (mLst (mCons (mTup (mCons (mC (.str "ones")) (mCons (mC (.str "a")) (mNil)))) (mCons (mTup (mCons (mC (.str "of")) (mCons (mC (.bl false)) (mCons (mLst (mNil)) (mNil))))) (mCons (mTup (mCons (mC (.str "of")) (mCons (mC (.bl true)) (mCons (mLst (mNil)) (mNil))))) (mCons (mTup (mCons (mC (.str "of")) (mCons (mC (.bl true)) (mNil)))) (mCons (mTup (mCons (mC (.str "of")) (mCons (mC (.bl false)) (mCons (mLst (mCons (mTup (mCons (mC (.str "a")) (mCons (mC (.str "b")) (mNil)))) (mNil))) (mCons (mC (.str "c")) (mNil)))))) (mCons (mTup (mNil)) (mNil)))))))))) (sSeq (sIf (toT (m2 gEq (mCall g__law_coin (mCons (mVar 0) (mCons (mC (.int 3)) (mNil)))) (mC (.int 0)))) (sRet (m2 gIx (mVar 4) (mCall g__law_coin (mCons (mVar 0) (mCons (mC (.int 14)) (mNil)))))) (sNext)) (sSeq (sSet 5 (mCall g__law_ranges (mCons (mVar 0) (mNil)))) (sSeq (sSet 6 (mCall g__law_coin (mCons (mVar 0) (mCons (m2 gAdd (m1 gLen (mVar 5)) (mC (.int 1))) (mNil))))) (sRet (mTup (mCons (mC (.str "of")) (mCons (m2 gEq (mCall g__law_coin (mCons (mVar 0) (mCons (mC (.int 2)) (mNil)))) (mC (.int 0))) (mCons (m2 gAdd (m2 gAdd (mSl (mVar 5) mNoPart (mPart (mVar 6))) (mLst (mCons (mVar 3) (mNil)))) (mSl (mVar 5) (mPart (mVar 6)) mNoPart)) (mNil))))))))))))))
theorem ok__law_odd (Bl : BlT mg) (Gs : GsT K mg) (Kl : KlT P w K mg base) (D : DefAt K mg "_law_odd" s__law_odd) {g__law_coin : Fn} (C__law_coin : CalF P w K mg base k "_law_coin" s__law_coin ["_law_purse_here", "_law_many"] g__law_coin) {g__law_ranges : Fn} (C__law_ranges : CalF P w K mg base k "_law_ranges" s__law_ranges ["_law_purse_here"] g__law_ranges) {g__law_signs : Fn} (C__law_signs : CalF P w K mg base k "_law_signs" s__law_signs [] g__law_signs) : CalF P w K mg base (k + 1) "_law_odd" s__law_odd ["_law_purse_here"] (runBody 7 1 (b__law_odd g__law_coin g__law_ranges g__law_signs)) :=
  calF_of D sc__law_odd (fun _ _ _ _ _ _ us hl => match us, hl with | [_], _ => rfl) fun f cdv A outer s H E hr =>
  sndB_cons (sndS_set (i := 1) (sndE_op op2_Add (sndE_int) (sndE_callF C__law_coin hr (Nat.le_refl _) (sndA_cons (sndE_var 0) (sndA_cons (sndE_int) (sndA_nil))))) sc__law_odd.nd) (sndB_cons (sndS_set (i := 2) (sndE_callF C__law_coin hr (Nat.le_refl _) (sndA_cons (sndE_var 0) (sndA_cons (sndE_var 1) (sndA_nil)))) sc__law_odd.nd) (sndB_cons (sndS_set (i := 3) (sndE_lst (sndA_cons (sndE_tup (sndA_cons (sndE_ix (sndE_callF0 C__law_signs hr (Nat.le_refl _)) (sndE_var 1)) (sndA_cons (sndE_ix (sndE_callF0 C__law_signs hr (Nat.le_refl _)) (sndE_var 2)) (sndA_nil)))) (sndA_cons (sndE_tup (sndA_cons (sndE_str) (sndA_nil))) (sndA_cons (sndE_tup (sndA_cons (sndE_str) (sndA_cons (sndE_str) (sndA_cons (sndE_str) (sndA_nil))))) (sndA_cons (sndE_tup (sndA_cons (sndE_str) (sndA_cons (sndE_str) (sndA_nil)))) (sndA_cons (sndE_tup (sndA_cons (sndE_str) (sndA_cons (sndE_str) (sndA_nil)))) (sndA_cons (sndE_tup (sndA_nil)) (sndA_cons (sndE_tup (sndA_cons (sndE_str) (sndA_cons (sndE_str) (sndA_nil)))) (sndA_nil))))))))) sc__law_odd.nd) (sndB_cons (sndS_set (i := 3) (sndE_ix (sndE_var 3) (sndE_callF C__law_coin hr (Nat.le_refl _) (sndA_cons (sndE_var 0) (sndA_cons (sndE_int) (sndA_nil))))) sc__law_odd.nd) (sndB_cons (sndS_set (i := 4) (sndE_lst (sndA_cons (sndE_tup (sndA_cons (sndE_str) (sndA_cons (sndE_str) (sndA_nil)))) (sndA_cons (sndE_tup (sndA_cons (sndE_str) (sndA_cons (sndE_str) (sndA_nil)))) (sndA_cons (sndE_tup (sndA_cons (sndE_str) (sndA_nil))) (sndA_cons (sndE_tup (sndA_cons (sndE_str) (sndA_cons (sndE_str) (sndA_cons (sndE_str) (sndA_nil))))) (sndA_cons (sndE_tup (sndA_cons (sndE_str) (sndA_cons (sndE_str) (sndA_nil)))) (sndA_cons (sndE_tup (sndA_cons (sndE_str) (sndA_cons (sndE_str) (sndA_nil)))) (sndA_cons (sndE_tup (sndA_cons (sndE_str) (sndA_nil))) (sndA_cons (sndE_tup (sndA_cons (sndE_str) (sndA_nil))) (sndA_nil)))))))))) sc__law_odd.nd) (sndB_cons (sndS_set (i := 4) (sndE_op op2_Add (sndE_var 4) (sndE_lst (sndA_cons (sndE_tup (sndA_cons (sndE_str) (sndA_cons (sndE_str) (sndA_nil)))) (sndA_cons (sndE_tup (sndA_cons (sndE_str) (sndA_cons (sndE_bl) (sndA_cons (sndE_lst (sndA_nil)) (sndA_nil))))) (sndA_cons (sndE_tup (sndA_cons (sndE_str) (sndA_cons (sndE_bl) (sndA_cons (sndE_lst (sndA_nil)) (sndA_nil))))) (sndA_cons (sndE_tup (sndA_cons (sndE_str) (sndA_cons (sndE_bl) (sndA_nil)))) (sndA_cons (sndE_tup (sndA_cons (sndE_str) (sndA_cons (sndE_bl) (sndA_cons (sndE_lst (sndA_cons (sndE_tup (sndA_cons (sndE_str) (sndA_cons (sndE_str) (sndA_nil)))) (sndA_nil))) (sndA_cons (sndE_str) (sndA_nil)))))) (sndA_cons (sndE_tup (sndA_nil)) (sndA_nil))))))))) sc__law_odd.nd) (sndB_cons (sndS_if (sndT_cmp (op2_eq hr.units) (sndE_callF C__law_coin hr (Nat.le_refl _) (sndA_cons (sndE_var 0) (sndA_cons (sndE_int) (sndA_nil)))) (sndE_int)) (sndB_one (sndS_ret (sndE_ix (sndE_var 4) (sndE_callF C__law_coin hr (Nat.le_refl _) (sndA_cons (sndE_var 0) (sndA_cons (sndE_int) (sndA_nil))))))) (sndB_nil)) (sndB_cons (sndS_set (i := 5) (sndE_callF C__law_ranges hr (Nat.le_refl _) (sndA_cons (sndE_var 0) (sndA_nil))) sc__law_odd.nd) (sndB_cons (sndS_set (i := 6) (sndE_callF C__law_coin hr (Nat.le_refl _) (sndA_cons (sndE_var 0) (sndA_cons (sndE_op op2_Add (sndE_b1 call1_len Bl.len_ PySem.boot_len (sndE_var 5)) (sndE_int)) (sndA_nil)))) sc__law_odd.nd) (sndB_one (sndS_ret (sndE_tup (sndA_cons (sndE_str) (sndA_cons (sndE_cmp (op2_eq hr.units) (sndE_callF C__law_coin hr (Nat.le_refl _) (sndA_cons (sndE_var 0) (sndA_cons (sndE_int) (sndA_nil)))) (sndE_int)) (sndA_cons (sndE_op op2_Add (sndE_op op2_Add (sndE_sl (sndE_var 5) sndO_none (sndO_some (sndE_var 6))) (sndE_lst (sndA_cons (sndE_var 3) (sndA_nil)))) (sndE_sl (sndE_var 5) (sndO_some (sndE_var 6)) sndO_none)) (sndA_nil)))))))))))))))
/-! ### _law_sign -/
abbrev N__law_sign : List Str := ["_law_purse_here", "_law_way"]
theorem sc__law_sign : FnScope ["_law_purse_here", "_law_way"] ["_law_purse_here"] (defScope s__law_sign) := ⟨rfl, rfl, rfl, by decide +kernel, rfl, by decide +kernel, by decide +kernel⟩
noncomputable def b__law_sign (g__law_signs : Fn) (g__law_coin : Fn) : Sm := sSeq (sSet 1 (mCall g__law_coin (mCons (mVar 0) (mCons (mC (.int 3)) (mNil))))) (sSeq (sIf (toT (m2 gLt (mVar 1) (mC (.int 2)))) (sRet (m2 gIx (m2 gIx (mLst (mCons (mC (.str "abc")) (mCons (mC (.str "ab-")) (mNil)))) (mVar 1)) (mCall g__law_coin (mCons (mVar 0) (mCons (mC (.int 3)) (mNil)))))) (sNext)) (sRet (m2 gIx (mCall g__law_signs mNil) (mCall g__law_coin (mCons (mVar 0) (mCons (mC (.int 95)) (mNil)))))))
theorem ok__law_sign (Bl : BlT mg) (Gs : GsT K mg) (Kl : KlT P w K mg base) (D : DefAt K mg "_law_sign" s__law_sign) {g__law_signs : Fn} (C__law_signs : CalF P w K mg base k "_law_signs" s__law_signs [] g__law_signs) {g__law_coin : Fn} (C__law_coin : CalF P w K mg base k "_law_coin" s__law_coin ["_law_purse_here", "_law_many"] g__law_coin) : CalF P w K mg base (k + 1) "_law_sign" s__law_sign ["_law_purse_here"] (runBody 2 1 (b__law_sign g__law_signs g__law_coin)) :=
  calF_of D sc__law_sign (fun _ _ _ _ _ _ us hl => match us, hl with | [_], _ => rfl) fun f cdv A outer s H E hr =>
  sndB_cons (sndS_set (i := 1) (sndE_callF C__law_coin hr (Nat.le_refl _) (sndA_cons (sndE_var 0) (sndA_cons (sndE_int) (sndA_nil)))) sc__law_sign.nd) (sndB_cons (sndS_if (sndT_cmp op2_Lt (sndE_var 1) (sndE_int)) (sndB_one (sndS_ret (sndE_ix (sndE_ix (sndE_lst (sndA_cons (sndE_str) (sndA_cons (sndE_str) (sndA_nil)))) (sndE_var 1)) (sndE_callF C__law_coin hr (Nat.le_refl _) (sndA_cons (sndE_var 0) (sndA_cons (sndE_int) (sndA_nil))))))) (sndB_nil)) (sndB_one (sndS_ret (sndE_ix (sndE_callF0 C__law_signs hr (Nat.le_refl _)) (sndE_callF C__law_coin hr (Nat.le_refl _) (sndA_cons (sndE_var 0) (sndA_cons (sndE_int) (sndA_nil))))))))
/-! ### _law_entry -/
abbrev N__law_entry : List Str := ["_law_purse_here", "_law_way"]
theorem sc__law_entry : FnScope ["_law_purse_here", "_law_way"] ["_law_purse_here"] (defScope s__law_entry) := ⟨rfl, rfl, rfl, by decide +kernel, rfl, by decide +kernel, by decide +kernel⟩
noncomputable def b__law_entry (g__law_ranges : Fn) (g__law_sign : Fn) (g__law_coin : Fn) : Sm := sSeq (sSet 1 (mCall g__law_coin (mCons (mVar 0) (mCons (mC (.int 7)) (mNil))))) (sSeq (sIf (toT (m2 gLt (mVar 1) (mC (.int 2)))) (sRet (mTup (mCons (mC (.str "lot")) (mNil)))) (sNext)) (sSeq (sIf (toT (m2 gEq (mVar 1) (mC (.int 2)))) (sRet (mTup (mCons (mC (.str "any")) (mNil)))) (sNext)) (sSeq (sIf (toT (m2 gLt (mVar 1) (mC (.int 5)))) (sRet (mTup (mCons (mC (.str "one")) (mCons (mCall g__law_sign (mCons (mVar 0) (mNil))) (mNil))))) (sNext)) (sRet (mTup (mCons (mC (.str "of")) (mCons (m2 gEq (mVar 1) (mC (.int 5))) (mCons (mCall g__law_ranges (mCons (mVar 0) (mNil))) (mNil)))))))))
theorem ok__law_entry (Bl : BlT mg) (Gs : GsT K mg) (Kl : KlT P w K mg base) (D : DefAt K mg "_law_entry" s__law_entry) {g__law_ranges : Fn} (C__law_ranges : CalF P w K mg base k "_law_ranges" s__law_ranges ["_law_purse_here"] g__law_ranges) {g__law_sign : Fn} (C__law_sign : CalF P w K mg base k "_law_sign" s__law_sign ["_law_purse_here"] g__law_sign) {g__law_coin : Fn} (C__law_coin : CalF P w K mg base k "_law_coin" s__law_coin ["_law_purse_here", "_law_many"] g__law_coin) : CalF P w K mg base (k + 1) "_law_entry" s__law_entry ["_law_purse_here"] (runBody 2 1 (b__law_entry g__law_ranges g__law_sign g__law_coin)) :=
  calF_of D sc__law_entry (fun _ _ _ _ _ _ us hl => match us, hl with | [_], _ => rfl) fun f cdv A outer s H E hr =>
  sndB_cons (sndS_set (i := 1) (sndE_callF C__law_coin hr (Nat.le_refl _) (sndA_cons (sndE_var 0) (sndA_cons (sndE_int) (sndA_nil)))) sc__law_entry.nd) (sndB_cons (sndS_if (sndT_cmp op2_Lt (sndE_var 1) (sndE_int)) (sndB_one (sndS_ret (sndE_tup (sndA_cons (sndE_str) (sndA_nil))))) (sndB_nil)) (sndB_cons (sndS_if (sndT_cmp (op2_eq hr.units) (sndE_var 1) (sndE_int)) (sndB_one (sndS_ret (sndE_tup (sndA_cons (sndE_str) (sndA_nil))))) (sndB_nil)) (sndB_cons (sndS_if (sndT_cmp op2_Lt (sndE_var 1) (sndE_int)) (sndB_one (sndS_ret (sndE_tup (sndA_cons (sndE_str) (sndA_cons (sndE_callF C__law_sign hr (Nat.le_refl _) (sndA_cons (sndE_var 0) (sndA_nil))) (sndA_nil)))))) (sndB_nil)) (sndB_one (sndS_ret (sndE_tup (sndA_cons (sndE_str) (sndA_cons (sndE_cmp (op2_eq hr.units) (sndE_var 1) (sndE_int)) (sndA_cons (sndE_callF C__law_ranges hr (Nat.le_refl _) (sndA_cons (sndE_var 0) (sndA_nil))) (sndA_nil))))))))))
/-! ### _law_row -/
abbrev N__law_row : List Str := ["_law_purse_here", "_law_bad", "_law_most", "_law_row_here", "_law_place", "_law_turn"]
theorem sc__law_row : FnScope ["_law_purse_here", "_law_bad", "_law_most", "_law_row_here", "_law_place", "_law_turn"] ["_law_purse_here", "_law_bad", "_law_most"] (defScope s__law_row) := ⟨rfl, rfl, rfl, by decide +kernel, rfl, by decide +kernel, by decide +kernel⟩
noncomputable def lc__law_row_0 (g__law_coin : Fn) (g__law_entry : Fn) : Ex := mLc (mRange1 (mCons (mCall g__law_coin (mCons (mVar 0) (mCons (m2 gAdd (mVar 2) (mC (.int 1))) (mNil)))) (mNil))) (bdN 5) (mYes) (mCall g__law_entry (mCons (mVar 0) (mNil))) [5]
noncomputable def b__law_row (g__law_odd : Fn) (g__law_coin : Fn) (g__law_entry : Fn) : Sm := sSeq (sSet 3 (lc__law_row_0 g__law_coin g__law_entry)) (sSeq (sIf (mNot (mTru (mVar 1))) (sRet (mVar 3)) (sNext)) (sSeq (sSet 4 (mCall g__law_coin (mCons (mVar 0) (mCons (m2 gAdd (m1 gLen (mVar 3)) (mC (.int 1))) (mNil))))) (sRet (m2 gAdd (m2 gAdd (mSl (mVar 3) mNoPart (mPart (mVar 4))) (mLst (mCons (mCall g__law_odd (mCons (mVar 0) (mNil))) (mNil)))) (mSl (mVar 3) (mPart (mVar 4)) mNoPart)))))
theorem ok__law_row (Bl : BlT mg) (Gs : GsT K mg) (Kl : KlT P w K mg base) (D : DefAt K mg "_law_row" s__law_row) {g__law_odd : Fn} (C__law_odd : CalF P w K mg base k "_law_odd" s__law_odd ["_law_purse_here"] g__law_odd) {g__law_coin : Fn} (C__law_coin : CalF P w K mg base k "_law_coin" s__law_coin ["_law_purse_here", "_law_many"] g__law_coin) {g__law_entry : Fn} (C__law_entry : CalF P w K mg base k "_law_entry" s__law_entry ["_law_purse_here"] g__law_entry) : CalF P w K mg base (k + 1) "_law_row" s__law_row ["_law_purse_here", "_law_bad", "_law_most"] (runBody 6 3 (b__law_row g__law_odd g__law_coin g__law_entry)) :=
  calF_of D sc__law_row (fun _ _ _ _ _ _ us hl => match us, hl with | [_, _, _], _ => rfl) fun f cdv A outer s H E hr =>
  sndB_cons (sndS_setLc (k := 3) (own := [("_law_turn", 5)]) rfl sc__law_row.nd (blkOk_by (by change blkC N__law_row (defScope s__law_row) _ [("_law_turn", 5)] = true; decide +kernel)) (sndI_range1 Bl.range_ (sndA_cons (sndE_callF C__law_coin hr (Nat.le_refl _) (sndA_cons (sndE_var 0) (sndA_cons (sndE_op op2_Add (sndE_var 2) (sndE_int)) (sndA_nil)))) (sndA_nil))) (fun _ _ _ _ _ => sndG_name (k := 5) sc__law_row.nd) (fun _ _ _ _ _ => sndTs_nil) (fun _ _ _ _ _ => sndE_callF C__law_entry hr (Nat.le_refl _) (sndA_cons (sndE_var 0) (sndA_nil)))) (sndB_cons (sndS_if (sndT_not (sndT_tru (sndE_var 1))) (sndB_one (sndS_ret (sndE_var 3))) (sndB_nil)) (sndB_cons (sndS_set (i := 4) (sndE_callF C__law_coin hr (Nat.le_refl _) (sndA_cons (sndE_var 0) (sndA_cons (sndE_op op2_Add (sndE_b1 call1_len Bl.len_ PySem.boot_len (sndE_var 3)) (sndE_int)) (sndA_nil)))) sc__law_row.nd) (sndB_one (sndS_ret (sndE_op op2_Add (sndE_op op2_Add (sndE_sl (sndE_var 3) sndO_none (sndO_some (sndE_var 4))) (sndE_lst (sndA_cons (sndE_callF C__law_odd hr (Nat.le_refl _) (sndA_cons (sndE_var 0) (sndA_nil))) (sndA_nil)))) (sndE_sl (sndE_var 3) (sndO_some (sndE_var 4)) sndO_none))))))
/-! ### _law_arms_hold -/
abbrev N__law_arms_hold : List Str := ["_law_purse_here", "_law_bad", "_law_worse", "_law_long", "_law_tops", "_law_rows", "_law_cut", "_law_cases", "_law_passed", "_law_caught", "_law_k", "_law_row_here"]
theorem sc__law_arms_hold : FnScope ["_law_purse_here", "_law_bad", "_law_worse", "_law_long", "_law_tops", "_law_rows", "_law_cut", "_law_cases", "_law_passed", "_law_caught", "_law_k", "_law_row_here"] ["_law_purse_here"] (defScope s__law_arms_hold) := ⟨rfl, rfl, rfl, by decide +kernel, rfl, by decide +kernel, by decide +kernel⟩
noncomputable def lc__law_arms_hold_0 : Ex := mLc (mItV (mVar 5)) (bdN 11) (mYes) (mLst (mCons (mVar 11) (mNil))) [11]
noncomputable def lc__law_arms_hold_1 (g__law_coin : Fn) (g__law_row : Fn) : Ex := mLc (mRange1 (mCons (m2 gAdd (m2 gAdd (mVar 1) (mC (.int 1))) (mCall g__law_coin (mCons (mVar 0) (mCons (mC (.int 2)) (mNil))))) (mNil))) (bdN 10) (mYes) (mCall g__law_row (mCons (mVar 0) (mCons (m2 (gIn false) (mVar 10) (mLst (mCons (mVar 1) (mCons (mVar 2) (mNil))))) (mCons (m2 gIx (mVar 4) (mVar 10)) (mNil))))) [10]
noncomputable def lc__law_arms_hold_2 : Ex := mLc (mRange1 (mCons (mC (.int 4)) (mNil))) (bdN 10) (mYes) (mIf (toT (m2 gLt (mVar 3) (mC (.int 4)))) (m2 gIx (mLst (mCons (mC (.int 1)) (mCons (mC (.int 7)) (mNil)))) (m1 gInt (m2 gEq (mVar 10) (mVar 3)))) (mC (.int 3))) [10]
noncomputable def b__law_arms_hold (g__law_is_refusal : Fn) (g__law_asked_arms : Fn) (g__law_coin : Fn) (g__law_own : Fn) (g__law_row : Fn) : Sm := sSeq (sSet 1 (mCall g__law_coin (mCons (mVar 0) (mCons (mC (.int 3)) (mNil))))) (sSeq (sSet 2 (mCall g__law_coin (mCons (mVar 0) (mCons (mC (.int 3)) (mNil))))) (sSeq (sSet 3 (mCall g__law_coin (mCons (mVar 0) (mCons (mC (.int 6)) (mNil))))) (sSeq (sSet 4 (lc__law_arms_hold_2)) (sSeq (sSet 5 (lc__law_arms_hold_1 g__law_coin g__law_row)) (sSeq (sSet 6 (mCall g__law_coin (mCons (mVar 0) (mCons (m2 gAdd (m1 gLen (mVar 5)) (mC (.int 1))) (mNil))))) (sSeq (sSet 7 (mLst (mCons (mSl (mVar 5) mNoPart (mPart (mVar 6))) (mCons (mSl (mVar 5) (mPart (mVar 6)) mNoPart) (mNil))))) (sSeq (sIf (toT (m2 gEq (mCall g__law_coin (mCons (mVar 0) (mCons (mC (.int 3)) (mNil)))) (mC (.int 0)))) (sSet 7 (m2 gAdd (mLst (mCons (mLst (mNil)) (mNil))) (lc__law_arms_hold_0))) (sNext)) (sSeq (sSet 8 (mCall g__law_own (mCons (mVar 7) (mNil)))) (sSeq (sSet 9 (mCall g__law_asked_arms (mCons (mCall g__law_coin (mCons (mVar 0) (mCons (mC (.int 2)) (mNil)))) (mCons (mVar 8) (mNil))))) (sRet (mCall g__law_is_refusal (mCons (mVar 9) (mCons (m2 gIx (mVar 5) (mB gMin2 (mCons (mVar 1) (mCons (mVar 2) (mNil))))) (mCons (mVar 8) (mNil)))))))))))))))
theorem ok__law_arms_hold (Bl : BlT mg) (Gs : GsT K mg) (Kl : KlT P w K mg base) (D : DefAt K mg "_law_arms_hold" s__law_arms_hold) {g__law_is_refusal : Fn} (C__law_is_refusal : CalF P w K mg base k "_law_is_refusal" s__law_is_refusal ["_law_caught", "_law_due", "_law_passed"] g__law_is_refusal) {g__law_asked_arms : Fn} (C__law_asked_arms : CalF P w K mg base k "_law_asked_arms" s__law_asked_arms ["_law_way", "_law_cases"] g__law_asked_arms) {g__law_coin : Fn} (C__law_coin : CalF P w K mg base k "_law_coin" s__law_coin ["_law_purse_here", "_law_many"] g__law_coin) {g__law_own : Fn} (C__law_own : CalF P w K mg base k "_law_own" s__law_own ["_law_thing"] g__law_own) {g__law_row : Fn} (C__law_row : CalF P w K mg base k "_law_row" s__law_row ["_law_purse_here", "_law_bad", "_law_most"] g__law_row) : CalF P w K mg base (k + 1) "_law_arms_hold" s__law_arms_hold ["_law_purse_here"] (runBody 12 1 (b__law_arms_hold g__law_is_refusal g__law_asked_arms g__law_coin g__law_own g__law_row)) :=
  calF_of D sc__law_arms_hold (fun _ _ _ _ _ _ us hl => match us, hl with | [_], _ => rfl) fun f cdv A outer s H E hr =>
  sndB_cons (sndS_set (i := 1) (sndE_callF C__law_coin hr (Nat.le_refl _) (sndA_cons (sndE_var 0) (sndA_cons (sndE_int) (sndA_nil)))) sc__law_arms_hold.nd) (sndB_cons (sndS_set (i := 2) (sndE_callF C__law_coin hr (Nat.le_refl _) (sndA_cons (sndE_var 0) (sndA_cons (sndE_int) (sndA_nil)))) sc__law_arms_hold.nd) (sndB_cons (sndS_set (i := 3) (sndE_callF C__law_coin hr (Nat.le_refl _) (sndA_cons (sndE_var 0) (sndA_cons (sndE_int) (sndA_nil)))) sc__law_arms_hold.nd) (sndB_cons (sndS_set (i := 4) (sndE_lc (own := [("_law_k", 10)]) rfl sc__law_arms_hold.nd (blkOk_by (by change blkC N__law_arms_hold (defScope s__law_arms_hold) _ [("_law_k", 10)] = true; decide +kernel)) (sndI_range1 Bl.range_ (sndA_cons (sndE_int) (sndA_nil))) (fun _ _ _ _ _ => sndG_name (k := 10) sc__law_arms_hold.nd) (fun _ _ _ _ _ => sndTs_nil) (fun _ _ _ _ _ => sndE_if (sndT_cmp op2_Lt (sndE_var 3) (sndE_int)) (sndE_ix (sndE_lst (sndA_cons (sndE_int) (sndA_cons (sndE_int) (sndA_nil)))) (sndE_t1 call1_int Bl.int_ (by decide +kernel) (sndE_cmp (op2_eq hr.units) (sndE_var 10) (sndE_var 3)))) (sndE_int))) sc__law_arms_hold.nd) (sndB_cons (sndS_setLc (k := 5) (own := [("_law_k", 10)]) rfl sc__law_arms_hold.nd (blkOk_by (by change blkC N__law_arms_hold (defScope s__law_arms_hold) _ [("_law_k", 10)] = true; decide +kernel)) (sndI_range1 Bl.range_ (sndA_cons (sndE_op op2_Add (sndE_op op2_Add (sndE_var 1) (sndE_int)) (sndE_callF C__law_coin hr (Nat.le_refl _) (sndA_cons (sndE_var 0) (sndA_cons (sndE_int) (sndA_nil))))) (sndA_nil))) (fun _ _ _ _ _ => sndG_name (k := 10) sc__law_arms_hold.nd) (fun _ _ _ _ _ => sndTs_nil) (fun _ _ _ _ _ => sndE_callF C__law_row hr (Nat.le_refl _) (sndA_cons (sndE_var 0) (sndA_cons (sndE_cmp op2_in (sndE_var 10) (sndE_lst (sndA_cons (sndE_var 1) (sndA_cons (sndE_var 2) (sndA_nil))))) (sndA_cons (sndE_ix (sndE_var 4) (sndE_var 10)) (sndA_nil)))))) (sndB_cons (sndS_set (i := 6) (sndE_callF C__law_coin hr (Nat.le_refl _) (sndA_cons (sndE_var 0) (sndA_cons (sndE_op op2_Add (sndE_b1 call1_len Bl.len_ PySem.boot_len (sndE_var 5)) (sndE_int)) (sndA_nil)))) sc__law_arms_hold.nd) (sndB_cons (sndS_set (i := 7) (sndE_lst (sndA_cons (sndE_sl (sndE_var 5) sndO_none (sndO_some (sndE_var 6))) (sndA_cons (sndE_sl (sndE_var 5) (sndO_some (sndE_var 6)) sndO_none) (sndA_nil)))) sc__law_arms_hold.nd) (sndB_cons (sndS_if (sndT_cmp (op2_eq hr.units) (sndE_callF C__law_coin hr (Nat.le_refl _) (sndA_cons (sndE_var 0) (sndA_cons (sndE_int) (sndA_nil)))) (sndE_int)) (sndB_one (sndS_set (i := 7) (sndE_op op2_Add (sndE_lst (sndA_cons (sndE_lst (sndA_nil)) (sndA_nil))) (sndE_lc (own := [("_law_row_here", 11)]) rfl sc__law_arms_hold.nd (blkOk_by (by change blkC N__law_arms_hold (defScope s__law_arms_hold) _ [("_law_row_here", 11)] = true; decide +kernel)) (sndI_val (sndE_var 5)) (fun _ _ _ _ _ => sndG_name (k := 11) sc__law_arms_hold.nd) (fun _ _ _ _ _ => sndTs_nil) (fun _ _ _ _ _ => sndE_lst (sndA_cons (sndE_var 11) (sndA_nil))))) sc__law_arms_hold.nd)) (sndB_nil)) (sndB_cons (sndS_set (i := 8) (sndE_callF C__law_own hr (Nat.le_refl _) (sndA_cons (sndE_var 7) (sndA_nil))) sc__law_arms_hold.nd) (sndB_cons (sndS_set (i := 9) (sndE_callF C__law_asked_arms hr (Nat.le_refl _) (sndA_cons (sndE_callF C__law_coin hr (Nat.le_refl _) (sndA_cons (sndE_var 0) (sndA_cons (sndE_int) (sndA_nil)))) (sndA_cons (sndE_var 8) (sndA_nil)))) sc__law_arms_hold.nd) (sndB_one (sndS_ret (sndE_callF C__law_is_refusal hr (Nat.le_refl _) (sndA_cons (sndE_var 9) (sndA_cons (sndE_ix (sndE_var 5) (sndE_bn (callN_min rfl) Bl.min_ (by decide +kernel) (sndA_cons (sndE_var 1) (sndA_cons (sndE_var 2) (sndA_nil))))) (sndA_cons (sndE_var 8) (sndA_nil))))))))))))))))
/-! ### first_apart -/
abbrev N_first_apart : List Str := ["one", "other"]
theorem sc_first_apart : FnScope ["one", "other"] ["one", "other"] (defScope s_first_apart) := ⟨rfl, rfl, rfl, by decide +kernel, rfl, by decide +kernel, by decide +kernel⟩
noncomputable def b_first_apart (g_check_patterns : Fn) : Sm := sSeq (sExpr (mCall g_check_patterns (mCons (mLst (mCons (mVar 0) (mCons (mVar 1) (mNil)))) (mNil)))) (sBad)
theorem ok_first_apart (Bl : BlT mg) (Gs : GsT K mg) (Kl : KlT P w K mg base) (D : DefAt K mg "first_apart" s_first_apart) {g_check_patterns : Fn} (C_check_patterns : CalF P w K mg base k "check_patterns" s_check_patterns ["patterns"] g_check_patterns) : CalF P w K mg base (k + 1) "first_apart" s_first_apart ["one", "other"] (runBody 2 2 (b_first_apart g_check_patterns)) :=
  calF_of D sc_first_apart (fun _ _ _ _ _ _ us hl => match us, hl with | [_, _], _ => rfl) fun f cdv A outer s H E hr =>
  sndB_cons (sndS_expr (sndE_callF C_check_patterns hr (Nat.le_refl _) (sndA_cons (sndE_lst (sndA_cons (sndE_var 0) (sndA_cons (sndE_var 1) (sndA_nil)))) (sndA_nil)))) (sndB_one (sndS_never))
/-! ### same -/
abbrev N_same : List Str := ["one", "other"]
theorem sc_same : FnScope ["one", "other"] ["one", "other"] (defScope s_same) := ⟨rfl, rfl, rfl, by decide +kernel, rfl, by decide +kernel, by decide +kernel⟩
noncomputable def b_same (g_first_apart : Fn) : Sm := sRet (m2 (gIs false) (mCall g_first_apart (mCons (mVar 0) (mCons (mVar 1) (mNil)))) (mC .non))
theorem ok_same (Bl : BlT mg) (Gs : GsT K mg) (Kl : KlT P w K mg base) (D : DefAt K mg "same" s_same) {g_first_apart : Fn} (C_first_apart : CalF P w K mg base k "first_apart" s_first_apart ["one", "other"] g_first_apart) : CalF P w K mg base (k + 1) "same" s_same ["one", "other"] (runBody 2 2 (b_same g_first_apart)) :=
  calF_of D sc_same (fun _ _ _ _ _ _ us hl => match us, hl with | [_, _], _ => rfl) fun f cdv A outer s H E hr =>
  sndB_one (sndS_ret (sndE_cmp op2_is (sndE_callF C_first_apart hr (Nat.le_refl _) (sndA_cons (sndE_var 0) (sndA_cons (sndE_var 1) (sndA_nil)))) (sndE_non)))
/-! ### within -/
abbrev N_within : List Str := ["one", "other"]
theorem sc_within : FnScope ["one", "other"] ["one", "other"] (defScope s_within) := ⟨rfl, rfl, rfl, by decide +kernel, rfl, by decide +kernel, by decide +kernel⟩
noncomputable def b_within (g_check_patterns : Fn) : Sm := sSeq (sExpr (mCall g_check_patterns (mCons (mLst (mCons (mVar 0) (mCons (mVar 1) (mNil)))) (mNil)))) (sBad)
theorem ok_within (Bl : BlT mg) (Gs : GsT K mg) (Kl : KlT P w K mg base) (D : DefAt K mg "within" s_within) {g_check_patterns : Fn} (C_check_patterns : CalF P w K mg base k "check_patterns" s_check_patterns ["patterns"] g_check_patterns) : CalF P w K mg base (k + 1) "within" s_within ["one", "other"] (runBody 2 2 (b_within g_check_patterns)) :=
  calF_of D sc_within (fun _ _ _ _ _ _ us hl => match us, hl with | [_, _], _ => rfl) fun f cdv A outer s H E hr =>
  sndB_cons (sndS_expr (sndE_callF C_check_patterns hr (Nat.le_refl _) (sndA_cons (sndE_lst (sndA_cons (sndE_var 0) (sndA_cons (sndE_var 1) (sndA_nil)))) (sndA_nil)))) (sndB_one (sndS_never))
/-! ### common -/
abbrev N_common : List Str := ["one", "other"]
theorem sc_common : FnScope ["one", "other"] ["one", "other"] (defScope s_common) := ⟨rfl, rfl, rfl, by decide +kernel, rfl, by decide +kernel, by decide +kernel⟩
noncomputable def b_common (g_check_patterns : Fn) : Sm := sSeq (sExpr (mCall g_check_patterns (mCons (mLst (mCons (mVar 0) (mCons (mVar 1) (mNil)))) (mNil)))) (sBad)
theorem ok_common (Bl : BlT mg) (Gs : GsT K mg) (Kl : KlT P w K mg base) (D : DefAt K mg "common" s_common) {g_check_patterns : Fn} (C_check_patterns : CalF P w K mg base k "check_patterns" s_check_patterns ["patterns"] g_check_patterns) : CalF P w K mg base (k + 1) "common" s_common ["one", "other"] (runBody 2 2 (b_common g_check_patterns)) :=
  calF_of D sc_common (fun _ _ _ _ _ _ us hl => match us, hl with | [_, _], _ => rfl) fun f cdv A outer s H E hr =>
  sndB_cons (sndS_expr (sndE_callF C_check_patterns hr (Nat.le_refl _) (sndA_cons (sndE_lst (sndA_cons (sndE_var 0) (sndA_cons (sndE_var 1) (sndA_nil)))) (sndA_nil)))) (sndB_one (sndS_never))
/-! ### _law_asked_two -/
abbrev N__law_asked_two : List Str := ["_law_way", "_law_left", "_law_right", "_law_caught", "e"]
theorem sc__law_asked_two : FnScope ["_law_way", "_law_left", "_law_right", "_law_caught", "e"] ["_law_way", "_law_left", "_law_right"] (defScope s__law_asked_two) := ⟨rfl, rfl, rfl, by decide +kernel, rfl, by decide +kernel, by decide +kernel⟩
noncomputable def tb__law_asked_two_0 (g_same : Fn) (g_within : Fn) (g_first_apart : Fn) (g_common : Fn) : Sm := sIf (toT (m2 gEq (mVar 0) (mC (.int 0)))) (sExpr (mCall g_same (mCons (mVar 1) (mCons (mVar 2) (mNil))))) (sIf (toT (m2 gEq (mVar 0) (mC (.int 1)))) (sExpr (mCall g_within (mCons (mVar 1) (mCons (mVar 2) (mNil))))) (sIf (toT (m2 gEq (mVar 0) (mC (.int 2)))) (sExpr (mCall g_first_apart (mCons (mVar 1) (mCons (mVar 2) (mNil))))) (sExpr (mCall g_common (mCons (mVar 1) (mCons (mVar 2) (mNil)))))))
noncomputable def ts__law_asked_two_0 : Sm := sSet 3 (mVar 4)
noncomputable def b__law_asked_two (g_same : Fn) (g_within : Fn) (g_first_apart : Fn) (g_common : Fn) : Sm := sSeq (sSet 3 (mC .non)) (sSeq (sTry sub_ShellError 4 (tb__law_asked_two_0 g_same g_within g_first_apart g_common) (ts__law_asked_two_0)) (sRet (mVar 3)))
theorem ok__law_asked_two (Bl : BlT mg) (Gs : GsT K mg) (Kl : KlT P w K mg base) (D : DefAt K mg "_law_asked_two" s__law_asked_two) {g_same : Fn} (C_same : CalF P w K mg base k "same" s_same ["one", "other"] g_same) {g_within : Fn} (C_within : CalF P w K mg base k "within" s_within ["one", "other"] g_within) {g_first_apart : Fn} (C_first_apart : CalF P w K mg base k "first_apart" s_first_apart ["one", "other"] g_first_apart) {g_common : Fn} (C_common : CalF P w K mg base k "common" s_common ["one", "other"] g_common) : CalF P w K mg base (k + 1) "_law_asked_two" s__law_asked_two ["_law_way", "_law_left", "_law_right"] (runBody 5 3 (b__law_asked_two g_same g_within g_first_apart g_common)) :=
  calF_of D sc__law_asked_two (fun _ _ _ _ _ _ us hl => match us, hl with | [_, _, _], _ => rfl) fun f cdv A outer s H E hr =>
  sndB_cons (sndS_set (i := 3) (sndE_non) sc__law_asked_two.nd) (sndB_cons (sndS_tryK (i := 4) Kl.h_ShellError sc__law_asked_two.nd (fun _ _ _ _ _ => sndB_one (sndS_if (sndT_cmp (op2_eq hr.units) (sndE_var 0) (sndE_int)) (sndB_one (sndS_expr (sndE_callF C_same hr (Nat.le_refl _) (sndA_cons (sndE_var 1) (sndA_cons (sndE_var 2) (sndA_nil)))))) (sndB_one (sndS_if (sndT_cmp (op2_eq hr.units) (sndE_var 0) (sndE_int)) (sndB_one (sndS_expr (sndE_callF C_within hr (Nat.le_refl _) (sndA_cons (sndE_var 1) (sndA_cons (sndE_var 2) (sndA_nil)))))) (sndB_one (sndS_if (sndT_cmp (op2_eq hr.units) (sndE_var 0) (sndE_int)) (sndB_one (sndS_expr (sndE_callF C_first_apart hr (Nat.le_refl _) (sndA_cons (sndE_var 1) (sndA_cons (sndE_var 2) (sndA_nil)))))) (sndB_one (sndS_expr (sndE_callF C_common hr (Nat.le_refl _) (sndA_cons (sndE_var 1) (sndA_cons (sndE_var 2) (sndA_nil)))))))))))) (fun _ _ => sndB_one (sndS_set (i := 3) (sndE_var 4) sc__law_asked_two.nd))) (sndB_one (sndS_ret (sndE_var 3))))
/-! ### meets_plainly -/
abbrev N_meets_plainly : List Str := ["pattern", "text", "places", "sign"]
theorem sc_meets_plainly : FnScope ["pattern", "text", "places", "sign"] ["pattern", "text"] (defScope s_meets_plainly) := ⟨rfl, rfl, rfl, by decide +kernel, rfl, by decide +kernel, by decide +kernel⟩
noncomputable def b_meets_plainly : Sm := sBad
theorem ok_meets_plainly (Bl : BlT mg) (Gs : GsT K mg) (Kl : KlT P w K mg base) (D : DefAt K mg "meets_plainly" s_meets_plainly) : CalF P w K mg base (k + 1) "meets_plainly" s_meets_plainly ["pattern", "text"] (runBody 4 2 (b_meets_plainly)) :=
  calF_of D sc_meets_plainly (fun _ _ _ _ _ _ us hl => match us, hl with | [_, _], _ => rfl) fun f cdv A outer s H E hr =>
  sndB_never
/-! ### meets -/
abbrev N_meets : List Str := ["pattern", "text"]
theorem sc_meets : FnScope ["pattern", "text"] ["pattern", "text"] (defScope s_meets) := ⟨rfl, rfl, rfl, by decide +kernel, rfl, by decide +kernel, by decide +kernel⟩
noncomputable def b_meets (g_meets_plainly : Fn) (g_check_patterns : Fn) : Sm := sSeq (sExpr (mCall g_check_patterns (mCons (mLst (mCons (mVar 0) (mNil))) (mNil)))) (sRet (mCall g_meets_plainly (mCons (mVar 0) (mCons (mVar 1) (mNil)))))
theorem ok_meets (Bl : BlT mg) (Gs : GsT K mg) (Kl : KlT P w K mg base) (D : DefAt K mg "meets" s_meets) {g_meets_plainly : Fn} (C_meets_plainly : CalF P w K mg base k "meets_plainly" s_meets_plainly ["pattern", "text"] g_meets_plainly) {g_check_patterns : Fn} (C_check_patterns : CalF P w K mg base k "check_patterns" s_check_patterns ["patterns"] g_check_patterns) : CalF P w K mg base (k + 1) "meets" s_meets ["pattern", "text"] (runBody 2 2 (b_meets g_meets_plainly g_check_patterns)) :=
  calF_of D sc_meets (fun _ _ _ _ _ _ us hl => match us, hl with | [_, _], _ => rfl) fun f cdv A outer s H E hr =>
  sndB_cons (sndS_expr (sndE_callF C_check_patterns hr (Nat.le_refl _) (sndA_cons (sndE_lst (sndA_cons (sndE_var 0) (sndA_nil))) (sndA_nil)))) (sndB_one (sndS_ret (sndE_callF C_meets_plainly hr (Nat.le_refl _) (sndA_cons (sndE_var 0) (sndA_cons (sndE_var 1) (sndA_nil))))))
/-! ### beginnings -/
abbrev N_beginnings : List Str := ["pattern", "text", "places", "lengths", "at", "sign"]
theorem sc_beginnings : FnScope ["pattern", "text", "places", "lengths", "at", "sign"] ["pattern", "text"] (defScope s_beginnings) := ⟨rfl, rfl, rfl, by decide +kernel, rfl, by decide +kernel, by decide +kernel⟩
noncomputable def b_beginnings : Sm := sBad
theorem ok_beginnings (Bl : BlT mg) (Gs : GsT K mg) (Kl : KlT P w K mg base) (D : DefAt K mg "beginnings" s_beginnings) : CalF P w K mg base (k + 1) "beginnings" s_beginnings ["pattern", "text"] (runBody 6 2 (b_beginnings)) :=
  calF_of D sc_beginnings (fun _ _ _ _ _ _ us hl => match us, hl with | [_, _], _ => rfl) fun f cdv A outer s H E hr =>
  sndB_never
/-! ### heads -/
abbrev N_heads : List Str := ["pattern", "text"]
theorem sc_heads : FnScope ["pattern", "text"] ["pattern", "text"] (defScope s_heads) := ⟨rfl, rfl, rfl, by decide +kernel, rfl, by decide +kernel, by decide +kernel⟩
noncomputable def b_heads (g_beginnings : Fn) (g_check_patterns : Fn) : Sm := sSeq (sExpr (mCall g_check_patterns (mCons (mLst (mCons (mVar 0) (mNil))) (mNil)))) (sRet (mCall g_beginnings (mCons (mVar 0) (mCons (mVar 1) (mNil)))))
theorem ok_heads (Bl : BlT mg) (Gs : GsT K mg) (Kl : KlT P w K mg base) (D : DefAt K mg "heads" s_heads) {g_beginnings : Fn} (C_beginnings : CalF P w K mg base k "beginnings" s_beginnings ["pattern", "text"] g_beginnings) {g_check_patterns : Fn} (C_check_patterns : CalF P w K mg base k "check_patterns" s_check_patterns ["patterns"] g_check_patterns) : CalF P w K mg base (k + 1) "heads" s_heads ["pattern", "text"] (runBody 2 2 (b_heads g_beginnings g_check_patterns)) :=
  calF_of D sc_heads (fun _ _ _ _ _ _ us hl => match us, hl with | [_, _], _ => rfl) fun f cdv A outer s H E hr =>
  sndB_cons (sndS_expr (sndE_callF C_check_patterns hr (Nat.le_refl _) (sndA_cons (sndE_lst (sndA_cons (sndE_var 0) (sndA_nil))) (sndA_nil)))) (sndB_one (sndS_ret (sndE_callF C_beginnings hr (Nat.le_refl _) (sndA_cons (sndE_var 0) (sndA_cons (sndE_var 1) (sndA_nil))))))
/-! ### tails -/
abbrev N_tails : List Str := ["pattern", "text"]
theorem sc_tails : FnScope ["pattern", "text"] ["pattern", "text"] (defScope s_tails) := ⟨rfl, rfl, rfl, by decide +kernel, rfl, by decide +kernel, by decide +kernel⟩
noncomputable def b_tails (g_beginnings : Fn) (g_check_patterns : Fn) : Sm := sSeq (sExpr (mCall g_check_patterns (mCons (mLst (mCons (mVar 0) (mNil))) (mNil)))) (sRet (mCall g_beginnings (mCons (mRevA (mVar 0)) (mCons (mRevA (mVar 1)) (mNil)))))
theorem ok_tails (Bl : BlT mg) (Gs : GsT K mg) (Kl : KlT P w K mg base) (D : DefAt K mg "tails" s_tails) {g_beginnings : Fn} (C_beginnings : CalF P w K mg base k "beginnings" s_beginnings ["pattern", "text"] g_beginnings) {g_check_patterns : Fn} (C_check_patterns : CalF P w K mg base k "check_patterns" s_check_patterns ["patterns"] g_check_patterns) : CalF P w K mg base (k + 1) "tails" s_tails ["pattern", "text"] (runBody 2 2 (b_tails g_beginnings g_check_patterns)) :=
  calF_of D sc_tails (fun _ _ _ _ _ _ us hl => match us, hl with | [_, _], _ => rfl) fun f cdv A outer s H E hr =>
  sndB_cons (sndS_expr (sndE_callF C_check_patterns hr (Nat.le_refl _) (sndA_cons (sndE_lst (sndA_cons (sndE_var 0) (sndA_nil))) (sndA_nil)))) (sndB_one (sndS_ret (sndE_callF C_beginnings hr (Nat.le_refl _) (sndA_cons (sndE_revA (sndE_var 0)) (sndA_cons (sndE_revA (sndE_var 1)) (sndA_nil))))))
/-! ### takes -/
abbrev N_takes : List Str := ["entry", "sign", "first", "last"]
theorem sc_takes : FnScope ["entry", "sign", "first", "last"] ["entry", "sign"] (defScope s_takes) := ⟨rfl, rfl, rfl, by decide +kernel, rfl, by decide +kernel, by decide +kernel⟩
noncomputable def lc_takes_0 : Ex := mLc (mItV (m2 gIx (mVar 0) (mC (.int 2)))) (bdT (bdCons (bdN 2) (bdCons (bdN 3) (bdNil)))) (mYes) (mChain gLe gLe (mVar 2) (mVar 1) (mVar 3)) [2, 3]
noncomputable def b_takes : Sm := sSeq (sIf (toT (m2 gEq (m2 gIx (mVar 0) (mC (.int 0))) (mC (.str "one")))) (sRet (m2 gEq (m2 gIx (mVar 0) (mC (.int 1))) (mVar 1))) (sNext)) (sSeq (sIf (toT (m2 gEq (m2 gIx (mVar 0) (mC (.int 0))) (mC (.str "of")))) (sRet (m2 gNe (m1 gAny (lc_takes_0)) (m2 gIx (mVar 0) (mC (.int 1))))) (sNext)) (sRet (mC (.bl true))))
theorem ok_takes (Bl : BlT mg) (Gs : GsT K mg) (Kl : KlT P w K mg base) (D : DefAt K mg "takes" s_takes) : CalF P w K mg base (k + 1) "takes" s_takes ["entry", "sign"] (runBody 4 2 (b_takes)) :=
  calF_of D sc_takes (fun _ _ _ _ _ _ us hl => match us, hl with | [_, _], _ => rfl) fun f cdv A outer s H E hr =>
  sndB_cons (sndS_if (sndT_cmp (op2_eq hr.units) (sndE_ix (sndE_var 0) (sndE_int)) (sndE_str)) (sndB_one (sndS_ret (sndE_cmp (op2_eq hr.units) (sndE_ix (sndE_var 0) (sndE_int)) (sndE_var 1)))) (sndB_nil)) (sndB_cons (sndS_if (sndT_cmp (op2_eq hr.units) (sndE_ix (sndE_var 0) (sndE_int)) (sndE_str)) (sndB_one (sndS_ret (sndE_cmp (op2_ne hr.units) (sndE_b1 (call1_any rfl) Bl.any_ (by decide +kernel) (sndE_lc (own := [("first", 2), ("last", 3)]) rfl sc_takes.nd (blkOk_by (by change blkC N_takes (defScope s_takes) _ [("first", 2), ("last", 3)] = true; decide +kernel)) (sndI_val (sndE_ix (sndE_var 0) (sndE_int))) (fun _ _ _ _ _ => sndG_tup rfl (sndGs_cons (sndG_name (k := 2) sc_takes.nd) (sndGs_cons (sndG_name (k := 3) sc_takes.nd) (sndGs_nil))) (n := 2) (bdCons_len (bdCons_len (fun _ _ h => bdNil_len h)))) (fun _ _ _ _ _ => sndTs_nil) (fun _ _ _ _ _ => sndE_chain op2_Le op2_Le (sndE_var 2) (sndE_var 1) (sndE_var 3)))) (sndE_ix (sndE_var 0) (sndE_int))))) (sndB_nil)) (sndB_one (sndS_ret (sndE_bl))))
/-! ### least_text -/
abbrev N_least_text : List Str := ["pattern", "text", "entry", "signs", "sign"]
theorem sc_least_text : FnScope ["pattern", "text", "entry", "signs", "sign"] ["pattern"] (defScope s_least_text) := ⟨rfl, rfl, rfl, by decide +kernel, rfl, by decide +kernel, by decide +kernel⟩
noncomputable def lc_least_text_0 (g_takes : Fn) : Ex := mLc (mItV (mC (.str c_SIGNS))) (bdN 4) (mTru (mCall g_takes (mCons (mVar 2) (mCons (mVar 4) (mNil))))) (mVar 4) [4]
noncomputable def lp_least_text_0 (g_takes : Fn) : Sm := sIf (toT (m2 gNe (m2 gIx (mVar 2) (mC (.int 0))) (mC (.str "lot")))) (sSeq (sSet 3 (lc_least_text_0 g_takes)) (sSeq (sIf (mNot (mTru (mVar 3))) (sRet (mC .non)) (sNext)) (sAug 1 gIAdd (m2 gIx (mVar 3) (mC (.int 0)))))) (sNext)
noncomputable def b_least_text (g_takes : Fn) (g_check_patterns : Fn) : Sm := sSeq (sExpr (mCall g_check_patterns (mCons (mLst (mCons (mVar 0) (mNil))) (mNil)))) (sSeq (sSet 1 (mC (.str ""))) (sSeq (sFor (mItV (mVar 0)) (bdN 2) (lp_least_text_0 g_takes)) (sRet (mVar 1))))
theorem ok_least_text (Bl : BlT mg) (Gs : GsT K mg) (Kl : KlT P w K mg base) (D : DefAt K mg "least_text" s_least_text) {g_takes : Fn} (C_takes : CalF P w K mg base k "takes" s_takes ["entry", "sign"] g_takes) {g_check_patterns : Fn} (C_check_patterns : CalF P w K mg base k "check_patterns" s_check_patterns ["patterns"] g_check_patterns) : CalF P w K mg base (k + 1) "least_text" s_least_text ["pattern"] (runBody 5 1 (b_least_text g_takes g_check_patterns)) :=
  calF_of D sc_least_text (fun _ _ _ _ _ _ us hl => match us, hl with | [_], _ => rfl) fun f cdv A outer s H E hr =>
  sndB_cons (sndS_expr (sndE_callF C_check_patterns hr (Nat.le_refl _) (sndA_cons (sndE_lst (sndA_cons (sndE_var 0) (sndA_nil))) (sndA_nil)))) (sndB_cons (sndS_set (i := 1) (sndE_str) sc_least_text.nd) (sndB_cons (sndS_for rfl (sndI_val (sndE_var 0)) (sndG_name (k := 2) sc_least_text.nd) (sndB_one (sndS_if (sndT_cmp (op2_ne hr.units) (sndE_ix (sndE_var 2) (sndE_int)) (sndE_str)) (sndB_cons (sndS_setLc (k := 3) (own := [("sign", 4)]) rfl sc_least_text.nd (blkOk_by (by change blkC N_least_text (defScope s_least_text) _ [("sign", 4)] = true; decide +kernel)) (sndI_val (sndE_gstrE Gs.SIGNS)) (fun _ _ _ _ _ => sndG_name (k := 4) sc_least_text.nd) (fun _ _ _ _ _ => sndTs_one (sndT_tru (sndE_callF C_takes hr (Nat.le_refl _) (sndA_cons (sndE_var 2) (sndA_cons (sndE_var 4) (sndA_nil)))))) (fun _ _ _ _ _ => sndE_var 4)) (sndB_cons (sndS_if (sndT_not (sndT_tru (sndE_var 3))) (sndB_one (sndS_ret (sndE_non))) (sndB_nil)) (sndB_one (sndS_aug (k := 1) op2_IAdd (sndE_ix (sndE_var 3) (sndE_int)) sc_least_text.nd)))) (sndB_nil)))) (sndB_one (sndS_ret (sndE_var 1)))))
/-! ### least_entry -/
abbrev N_least_entry : List Str := ["entry", "truths", "inside", "outside", "sign", "truth"]
theorem sc_least_entry : FnScope ["entry", "truths", "inside", "outside", "sign", "truth"] ["entry"] (defScope s_least_entry) := ⟨rfl, rfl, rfl, by decide +kernel, rfl, by decide +kernel, by decide +kernel⟩
noncomputable def b_least_entry : Sm := sBad
theorem ok_least_entry (Bl : BlT mg) (Gs : GsT K mg) (Kl : KlT P w K mg base) (D : DefAt K mg "least_entry" s_least_entry) : CalF P w K mg base (k + 1) "least_entry" s_least_entry ["entry"] (runBody 6 1 (b_least_entry)) :=
  calF_of D sc_least_entry (fun _ _ _ _ _ _ us hl => match us, hl with | [_], _ => rfl) fun f cdv A outer s H E hr =>
  sndB_never
/-! ### shown_least -/
abbrev N_shown_least : List Str := ["pattern", "shown", "lot_behind", "entry"]
theorem sc_shown_least : FnScope ["pattern", "shown", "lot_behind", "entry"] ["pattern"] (defScope s_shown_least) := ⟨rfl, rfl, rfl, by decide +kernel, rfl, by decide +kernel, by decide +kernel⟩
noncomputable def lp_shown_least_0 (g_least_entry : Fn) : Sm := sSeq (sSet 3 (mCall g_least_entry (mCons (mVar 3) (mNil)))) (sSeq (sIf (toT (m2 gEq (m2 gIx (mVar 3) (mC (.int 0))) (mC (.str "lot")))) (sSeq (sSet 2 (mC (.bl true))) (sCont)) (sNext)) (sSeq (sIf (mAnd (toT (m2 gNe (m2 gIx (mVar 3) (mC (.int 0))) (mC (.str "any")))) (mTru (mVar 2))) (sSeq (sExpr (mAppend (mVar 1) (mTup (mCons (mC (.str "lot")) (mNil))))) (sSet 2 (mC (.bl false)))) (sNext)) (sExpr (mAppend (mVar 1) (mVar 3)))))
noncomputable def b_shown_least (g_least_entry : Fn) (g_check_patterns : Fn) : Sm := sSeq (sExpr (mCall g_check_patterns (mCons (mLst (mCons (mVar 0) (mNil))) (mNil)))) (sSeq (sOwn 1 (mLst (mNil))) (sSeq (sSet 2 (mC (.bl false))) (sSeq (sFor (mItV (mVar 0)) (bdN 3) (lp_shown_least_0 g_least_entry)) (sSeq (sIf (mTru (mVar 2)) (sExpr (mAppend (mVar 1) (mTup (mCons (mC (.str "lot")) (mNil))))) (sNext)) (sRet (mVar 1))))))
theorem ok_shown_least (Bl : BlT mg) (Gs : GsT K mg) (Kl : KlT P w K mg base) (D : DefAt K mg "shown_least" s_shown_least) {g_least_entry : Fn} (C_least_entry : CalF P w K mg base k "least_entry" s_least_entry ["entry"] g_least_entry) {g_check_patterns : Fn} (C_check_patterns : CalF P w K mg base k "check_patterns" s_check_patterns ["patterns"] g_check_patterns) : CalF P w K mg base (k + 1) "shown_least" s_shown_least ["pattern"] (runBody 4 1 (b_shown_least g_least_entry g_check_patterns)) :=
  calF_of D sc_shown_least (fun _ _ _ _ _ _ us hl => match us, hl with | [_], _ => rfl) fun f cdv A outer s H E hr =>
  sndB_cons (sndS_expr (sndE_callF C_check_patterns hr (Nat.le_refl _) (sndA_cons (sndE_lst (sndA_cons (sndE_var 0) (sndA_nil))) (sndA_nil)))) (sndB_cons (sndS_own (i := 1) (sndE_lst (sndA_nil)) sc_shown_least.nd) (sndB_cons (sndS_set (i := 2) (sndE_bl) sc_shown_least.nd) (sndB_cons (sndS_for rfl (sndI_val (sndE_var 0)) (sndG_name (k := 3) sc_shown_least.nd) (sndB_cons (sndS_set (i := 3) (sndE_callF C_least_entry hr (Nat.le_refl _) (sndA_cons (sndE_var 3) (sndA_nil))) sc_shown_least.nd) (sndB_cons (sndS_if (sndT_cmp (op2_eq hr.units) (sndE_ix (sndE_var 3) (sndE_int)) (sndE_str)) (sndB_cons (sndS_set (i := 2) (sndE_bl) sc_shown_least.nd) (sndB_one (sndS_continue))) (sndB_nil)) (sndB_cons (sndS_if (sndT_of (sndW_and (sndT_cmp (op2_ne hr.units) (sndE_ix (sndE_var 3) (sndE_int)) (sndE_str)) (sndW_and1 (sndT_tru (sndE_var 2))))) (sndB_cons (sndS_expr (sndE_append (sndE_var 1) (sndE_tup (sndA_cons (sndE_str) (sndA_nil))))) (sndB_one (sndS_set (i := 2) (sndE_bl) sc_shown_least.nd))) (sndB_nil)) (sndB_one (sndS_expr (sndE_append (sndE_var 1) (sndE_var 3)))))))) (sndB_cons (sndS_if (sndT_tru (sndE_var 2)) (sndB_one (sndS_expr (sndE_append (sndE_var 1) (sndE_tup (sndA_cons (sndE_str) (sndA_nil)))))) (sndB_nil)) (sndB_one (sndS_ret (sndE_var 1)))))))
/-! ### _law_asked_one -/
abbrev N__law_asked_one : List Str := ["_law_way", "_law_row_here", "_law_caught", "e"]
theorem sc__law_asked_one : FnScope ["_law_way", "_law_row_here", "_law_caught", "e"] ["_law_way", "_law_row_here"] (defScope s__law_asked_one) := ⟨rfl, rfl, rfl, by decide +kernel, rfl, by decide +kernel, by decide +kernel⟩
noncomputable def tb__law_asked_one_0 (g_meets : Fn) (g_heads : Fn) (g_tails : Fn) (g_least_text : Fn) (g_shown_least : Fn) : Sm := sIf (toT (m2 gEq (mVar 0) (mC (.int 0)))) (sExpr (mCall g_meets (mCons (mVar 1) (mCons (mC (.str "a")) (mNil))))) (sIf (toT (m2 gEq (mVar 0) (mC (.int 1)))) (sExpr (mCall g_heads (mCons (mVar 1) (mCons (mC (.str "")) (mNil))))) (sIf (toT (m2 gEq (mVar 0) (mC (.int 2)))) (sExpr (mCall g_tails (mCons (mVar 1) (mCons (mC (.str "ab")) (mNil))))) (sIf (toT (m2 gEq (mVar 0) (mC (.int 3)))) (sExpr (mCall g_least_text (mCons (mVar 1) (mNil)))) (sExpr (mCall g_shown_least (mCons (mVar 1) (mNil)))))))
noncomputable def ts__law_asked_one_0 : Sm := sSet 2 (mVar 3)
noncomputable def b__law_asked_one (g_meets : Fn) (g_heads : Fn) (g_tails : Fn) (g_least_text : Fn) (g_shown_least : Fn) : Sm := sSeq (sSet 2 (mC .non)) (sSeq (sTry sub_ShellError 3 (tb__law_asked_one_0 g_meets g_heads g_tails g_least_text g_shown_least) (ts__law_asked_one_0)) (sRet (mVar 2)))
theorem ok__law_asked_one (Bl : BlT mg) (Gs : GsT K mg) (Kl : KlT P w K mg base) (D : DefAt K mg "_law_asked_one" s__law_asked_one) {g_meets : Fn} (C_meets : CalF P w K mg base k "meets" s_meets ["pattern", "text"] g_meets) {g_heads : Fn} (C_heads : CalF P w K mg base k "heads" s_heads ["pattern", "text"] g_heads) {g_tails : Fn} (C_tails : CalF P w K mg base k "tails" s_tails ["pattern", "text"] g_tails) {g_least_text : Fn} (C_least_text : CalF P w K mg base k "least_text" s_least_text ["pattern"] g_least_text) {g_shown_least : Fn} (C_shown_least : CalF P w K mg base k "shown_least" s_shown_least ["pattern"] g_shown_least) : CalF P w K mg base (k + 1) "_law_asked_one" s__law_asked_one ["_law_way", "_law_row_here"] (runBody 4 2 (b__law_asked_one g_meets g_heads g_tails g_least_text g_shown_least)) :=
  calF_of D sc__law_asked_one (fun _ _ _ _ _ _ us hl => match us, hl with | [_, _], _ => rfl) fun f cdv A outer s H E hr =>
  sndB_cons (sndS_set (i := 2) (sndE_non) sc__law_asked_one.nd) (sndB_cons (sndS_tryK (i := 3) Kl.h_ShellError sc__law_asked_one.nd (fun _ _ _ _ _ => sndB_one (sndS_if (sndT_cmp (op2_eq hr.units) (sndE_var 0) (sndE_int)) (sndB_one (sndS_expr (sndE_callF C_meets hr (Nat.le_refl _) (sndA_cons (sndE_var 1) (sndA_cons (sndE_str) (sndA_nil)))))) (sndB_one (sndS_if (sndT_cmp (op2_eq hr.units) (sndE_var 0) (sndE_int)) (sndB_one (sndS_expr (sndE_callF C_heads hr (Nat.le_refl _) (sndA_cons (sndE_var 1) (sndA_cons (sndE_str) (sndA_nil)))))) (sndB_one (sndS_if (sndT_cmp (op2_eq hr.units) (sndE_var 0) (sndE_int)) (sndB_one (sndS_expr (sndE_callF C_tails hr (Nat.le_refl _) (sndA_cons (sndE_var 1) (sndA_cons (sndE_str) (sndA_nil)))))) (sndB_one (sndS_if (sndT_cmp (op2_eq hr.units) (sndE_var 0) (sndE_int)) (sndB_one (sndS_expr (sndE_callF C_least_text hr (Nat.le_refl _) (sndA_cons (sndE_var 1) (sndA_nil))))) (sndB_one (sndS_expr (sndE_callF C_shown_least hr (Nat.le_refl _) (sndA_cons (sndE_var 1) (sndA_nil))))))))))))) (fun _ _ => sndB_one (sndS_set (i := 2) (sndE_var 3) sc__law_asked_one.nd))) (sndB_one (sndS_ret (sndE_var 2))))
/-! ### _law_purse -/
abbrev N__law_purse : List Str := ["_law_script", "_law_at", "_law_cell"]
theorem sc__law_purse : FnScope ["_law_script", "_law_at", "_law_cell"] ["_law_script", "_law_at"] (defScope s__law_purse) := ⟨rfl, rfl, rfl, by decide +kernel, rfl, by decide +kernel, by decide +kernel⟩
noncomputable def b__law_purse : Sm := sSeq (sSet 2 (mIf (toT (m2 gLt (mVar 1) (m1 gLen (mVar 0)))) (m2 gIx (mVar 0) (mVar 1)) (mC (.int 0)))) (sRet (mBox (mLst (mCons (mB gMax2 (mCons (mC (.int 0)) (mCons (m2 gSub (m1 gAbs (mVar 2)) (m2 (gII cPow fun i j => i ^ j.toNat) (mC (.int 10)) (mC (.int 18)))) (mNil)))) (mCons (m2 (gII cMod (· % ·)) (m1 gInt (m2 gAdd (m2 gAdd (m2 gMul (mVar 2) (mC (.int 2654435761))) (m2 gMul (mVar 1) (mC (.int 40503)))) (mC (.int 977)))) (m2 gAdd (m2 (gII cPow fun i j => i ^ j.toNat) (mC (.int 10)) (mC (.int 24))) (mC (.int 7)))) (mCons (mC (.int 0)) (mNil)))))))
theorem ok__law_purse (Bl : BlT mg) (Gs : GsT K mg) (Kl : KlT P w K mg base) (D : DefAt K mg "_law_purse" s__law_purse) : CalF P w K mg base (k + 1) "_law_purse" s__law_purse ["_law_script", "_law_at"] (runBody 3 2 (b__law_purse)) :=
  calF_of D sc__law_purse (fun _ _ _ _ _ _ us hl => match us, hl with | [_, _], _ => rfl) fun f cdv A outer s H E hr =>
  sndB_cons (sndS_set (i := 2) (sndE_if (sndT_cmp op2_Lt (sndE_var 1) (sndE_b1 call1_len Bl.len_ PySem.boot_len (sndE_var 0))) (sndE_ix (sndE_var 0) (sndE_var 1)) (sndE_int)) sc__law_purse.nd) (sndB_one (sndS_ret (sndE_box (sndE_lst (sndA_cons (sndE_bn (callN_max rfl) Bl.max_ (by decide +kernel) (sndA_cons (sndE_int) (sndA_cons (sndE_op op2_Sub (sndE_b1 call1_abs Bl.abs_ (by decide +kernel) (sndE_var 2)) (sndE_op op2_pow (sndE_int) (sndE_int))) (sndA_nil)))) (sndA_cons (sndE_op op2_mod (sndE_t1 call1_int Bl.int_ (by decide +kernel) (sndE_op op2_Add (sndE_op op2_Add (sndE_op op2_Mul (sndE_var 2) (sndE_int)) (sndE_op op2_Mul (sndE_var 1) (sndE_int))) (sndE_int))) (sndE_op op2_Add (sndE_op op2_pow (sndE_int) (sndE_int)) (sndE_int))) (sndA_cons (sndE_int) (sndA_nil))))))))
/-! ### law -/
abbrev N_law : List Str := ["_law_script", "_law_at", "_law_purse_here", "_law_ways", "_law_bad", "_law_most", "_law_left", "_law_right", "_law_wrong", "_law_passed"]
theorem sc_law : FnScope ["_law_script", "_law_at", "_law_purse_here", "_law_ways", "_law_bad", "_law_most", "_law_left", "_law_right", "_law_wrong", "_law_passed"] ["_law_script"] (defScope s_law) := ⟨rfl, rfl, rfl, by decide +kernel, rfl, by decide +kernel, by decide +kernel⟩
noncomputable def lp_law_0 (g__law_purse : Fn) (g__law_coin : Fn) (g__law_row : Fn) (g__law_same : Fn) (g_is_pattern : Fn) (g__law_own : Fn) (g__law_is_refusal : Fn) (g__law_asked_one : Fn) (g__law_asked_two : Fn) (g__law_arms_hold : Fn) : Sm := sSeq (sSet 2 (mCall g__law_purse (mCons (mVar 0) (mCons (mVar 1) (mNil))))) (sSeq (sSet 3 (mLst (mCons (mCall g__law_coin (mCons (mVar 2) (mCons (mC (.int 5)) (mNil)))) (mCons (mCall g__law_coin (mCons (mVar 2) (mCons (mC (.int 4)) (mNil)))) (mNil))))) (sSeq (sSet 4 (mCall g__law_coin (mCons (mVar 2) (mCons (mC (.int 3)) (mNil))))) (sSeq (sSet 5 (m2 gIx (mLst (mCons (mC (.int 3)) (mCons (mC (.int 7)) (mNil)))) (mCall g__law_coin (mCons (mVar 2) (mCons (mC (.int 2)) (mNil)))))) (sSeq (sSet 6 (mCall g__law_row (mCons (mVar 2) (mCons (m2 gNe (mVar 4) (mC (.int 1))) (mCons (mVar 5) (mNil)))))) (sSeq (sSet 7 (mCall g__law_row (mCons (mVar 2) (mCons (m2 gNe (mVar 4) (mC (.int 0))) (mCons (mVar 5) (mNil)))))) (sSeq (sIf (mNot (mTru (mCall g__law_same (mCons (mCall g_is_pattern (mCons (mCall g__law_own (mCons (mVar 6) (mNil))) (mNil))) (mCons (m2 gEq (mVar 4) (mC (.int 1))) (mNil)))))) (sRet (mC (.bl false))) (sNext)) (sSeq (sIf (mNot (mTru (mCall g__law_same (mCons (mCall g_is_pattern (mCons (mCall g__law_own (mCons (mVar 7) (mNil))) (mNil))) (mCons (m2 gEq (mVar 4) (mC (.int 0))) (mNil)))))) (sRet (mC (.bl false))) (sNext)) (sSeq (sSet 8 (m2 gIx (mLst (mCons (mVar 6) (mCons (mVar 7) (mNil)))) (m1 gInt (m2 gEq (mVar 4) (mC (.int 1)))))) (sSeq (sSet 9 (mCall g__law_own (mCons (mVar 8) (mNil)))) (sSeq (sIf (mNot (mTru (mCall g__law_is_refusal (mCons (mCall g__law_asked_one (mCons (m2 gIx (mVar 3) (mC (.int 0))) (mCons (mVar 9) (mNil)))) (mCons (mVar 8) (mCons (mVar 9) (mNil))))))) (sRet (mC (.bl false))) (sNext)) (sSeq (sSet 9 (mBox (mLst (mCons (mCall g__law_own (mCons (mVar 6) (mNil))) (mCons (mCall g__law_own (mCons (mVar 7) (mNil))) (mNil)))))) (sSeq (sIf (mNot (mTru (mCall g__law_is_refusal (mCons (mCall g__law_asked_two (mCons (m2 gIx (mVar 3) (mC (.int 1))) (mCons (m2 gIx (mVar 9) (mC (.int 0))) (mCons (m2 gIx (mVar 9) (mC (.int 1))) (mNil))))) (mCons (mVar 8) (mCons (mVar 9) (mNil))))))) (sRet (mC (.bl false))) (sNext)) (sIf (mNot (mTru (mCall g__law_arms_hold (mCons (mVar 2) (mNil))))) (sRet (mC (.bl false))) (sNext))))))))))))))
noncomputable def b_law (g__law_arms_hold : Fn) (g__law_is_refusal : Fn) (g__law_asked_two : Fn) (g__law_own : Fn) (g__law_asked_one : Fn) (g__law_same : Fn) (g_is_pattern : Fn) (g__law_row : Fn) (g__law_coin : Fn) (g__law_purse : Fn) : Sm := sSeq (sFor (mRange1 (mCons (mB gMax2 (mCons (mC (.int 1)) (mCons (mB gMin2 (mCons (mC (.int 40)) (mCons (m1 gLen (mVar 0)) (mNil)))) (mNil)))) (mNil))) (bdN 1) (lp_law_0 g__law_purse g__law_coin g__law_row g__law_same g_is_pattern g__law_own g__law_is_refusal g__law_asked_one g__law_asked_two g__law_arms_hold)) (sRet (mC (.bl true)))
theorem ok_law (Bl : BlT mg) (Gs : GsT K mg) (Kl : KlT P w K mg base) (D : DefAt K mg "law" s_law) {g__law_arms_hold : Fn} (C__law_arms_hold : CalF P w K mg base k "_law_arms_hold" s__law_arms_hold ["_law_purse_here"] g__law_arms_hold) {g__law_is_refusal : Fn} (C__law_is_refusal : CalF P w K mg base k "_law_is_refusal" s__law_is_refusal ["_law_caught", "_law_due", "_law_passed"] g__law_is_refusal) {g__law_asked_two : Fn} (C__law_asked_two : CalF P w K mg base k "_law_asked_two" s__law_asked_two ["_law_way", "_law_left", "_law_right"] g__law_asked_two) {g__law_own : Fn} (C__law_own : CalF P w K mg base k "_law_own" s__law_own ["_law_thing"] g__law_own) {g__law_asked_one : Fn} (C__law_asked_one : CalF P w K mg base k "_law_asked_one" s__law_asked_one ["_law_way", "_law_row_here"] g__law_asked_one) {g__law_same : Fn} (C__law_same : CalF P w K mg base k "_law_same" s__law_same ["_law_found", "_law_due"] g__law_same) {g_is_pattern : Fn} (C_is_pattern : CalF P w K mg base k "is_pattern" s_is_pattern ["pattern"] g_is_pattern) {g__law_row : Fn} (C__law_row : CalF P w K mg base k "_law_row" s__law_row ["_law_purse_here", "_law_bad", "_law_most"] g__law_row) {g__law_coin : Fn} (C__law_coin : CalF P w K mg base k "_law_coin" s__law_coin ["_law_purse_here", "_law_many"] g__law_coin) {g__law_purse : Fn} (C__law_purse : CalF P w K mg base k "_law_purse" s__law_purse ["_law_script", "_law_at"] g__law_purse) : CalF P w K mg base (k + 1) "law" s_law ["_law_script"] (runBody 10 1 (b_law g__law_arms_hold g__law_is_refusal g__law_asked_two g__law_own g__law_asked_one g__law_same g_is_pattern g__law_row g__law_coin g__law_purse)) :=
  calF_of D sc_law (fun _ _ _ _ _ _ us hl => match us, hl with | [_], _ => rfl) fun f cdv A outer s H E hr =>
  sndB_cons (sndS_for rfl (sndI_range1 Bl.range_ (sndA_cons (sndE_bn (callN_max rfl) Bl.max_ (by decide +kernel) (sndA_cons (sndE_int) (sndA_cons (sndE_bn (callN_min rfl) Bl.min_ (by decide +kernel) (sndA_cons (sndE_int) (sndA_cons (sndE_b1 call1_len Bl.len_ PySem.boot_len (sndE_var 0)) (sndA_nil)))) (sndA_nil)))) (sndA_nil))) (sndG_name (k := 1) sc_law.nd) (sndB_cons (sndS_set (i := 2) (sndE_callF C__law_purse hr (Nat.le_refl _) (sndA_cons (sndE_var 0) (sndA_cons (sndE_var 1) (sndA_nil)))) sc_law.nd) (sndB_cons (sndS_set (i := 3) (sndE_lst (sndA_cons (sndE_callF C__law_coin hr (Nat.le_refl _) (sndA_cons (sndE_var 2) (sndA_cons (sndE_int) (sndA_nil)))) (sndA_cons (sndE_callF C__law_coin hr (Nat.le_refl _) (sndA_cons (sndE_var 2) (sndA_cons (sndE_int) (sndA_nil)))) (sndA_nil)))) sc_law.nd) (sndB_cons (sndS_set (i := 4) (sndE_callF C__law_coin hr (Nat.le_refl _) (sndA_cons (sndE_var 2) (sndA_cons (sndE_int) (sndA_nil)))) sc_law.nd) (sndB_cons (sndS_set (i := 5) (sndE_ix (sndE_lst (sndA_cons (sndE_int) (sndA_cons (sndE_int) (sndA_nil)))) (sndE_callF C__law_coin hr (Nat.le_refl _) (sndA_cons (sndE_var 2) (sndA_cons (sndE_int) (sndA_nil))))) sc_law.nd) (sndB_cons (sndS_set (i := 6) (sndE_callF C__law_row hr (Nat.le_refl _) (sndA_cons (sndE_var 2) (sndA_cons (sndE_cmp (op2_ne hr.units) (sndE_var 4) (sndE_int)) (sndA_cons (sndE_var 5) (sndA_nil))))) sc_law.nd) (sndB_cons (sndS_set (i := 7) (sndE_callF C__law_row hr (Nat.le_refl _) (sndA_cons (sndE_var 2) (sndA_cons (sndE_cmp (op2_ne hr.units) (sndE_var 4) (sndE_int)) (sndA_cons (sndE_var 5) (sndA_nil))))) sc_law.nd) (sndB_cons (sndS_if (sndT_not (sndT_tru (sndE_callF C__law_same hr (Nat.le_refl _) (sndA_cons (sndE_callF C_is_pattern hr (Nat.le_refl _) (sndA_cons (sndE_callF C__law_own hr (Nat.le_refl _) (sndA_cons (sndE_var 6) (sndA_nil))) (sndA_nil))) (sndA_cons (sndE_cmp (op2_eq hr.units) (sndE_var 4) (sndE_int)) (sndA_nil)))))) (sndB_one (sndS_ret (sndE_bl))) (sndB_nil)) (sndB_cons (sndS_if (sndT_not (sndT_tru (sndE_callF C__law_same hr (Nat.le_refl _) (sndA_cons (sndE_callF C_is_pattern hr (Nat.le_refl _) (sndA_cons (sndE_callF C__law_own hr (Nat.le_refl _) (sndA_cons (sndE_var 7) (sndA_nil))) (sndA_nil))) (sndA_cons (sndE_cmp (op2_eq hr.units) (sndE_var 4) (sndE_int)) (sndA_nil)))))) (sndB_one (sndS_ret (sndE_bl))) (sndB_nil)) (sndB_cons (sndS_set (i := 8) (sndE_ix (sndE_lst (sndA_cons (sndE_var 6) (sndA_cons (sndE_var 7) (sndA_nil)))) (sndE_t1 call1_int Bl.int_ (by decide +kernel) (sndE_cmp (op2_eq hr.units) (sndE_var 4) (sndE_int)))) sc_law.nd) (sndB_cons (sndS_set (i := 9) (sndE_callF C__law_own hr (Nat.le_refl _) (sndA_cons (sndE_var 8) (sndA_nil))) sc_law.nd) (sndB_cons (sndS_if (sndT_not (sndT_tru (sndE_callF C__law_is_refusal hr (Nat.le_refl _) (sndA_cons (sndE_callF C__law_asked_one hr (Nat.le_refl _) (sndA_cons (sndE_ix (sndE_var 3) (sndE_int)) (sndA_cons (sndE_var 9) (sndA_nil)))) (sndA_cons (sndE_var 8) (sndA_cons (sndE_var 9) (sndA_nil))))))) (sndB_one (sndS_ret (sndE_bl))) (sndB_nil)) (sndB_cons (sndS_set (i := 9) (sndE_box (sndE_lst (sndA_cons (sndE_callF C__law_own hr (Nat.le_refl _) (sndA_cons (sndE_var 6) (sndA_nil))) (sndA_cons (sndE_callF C__law_own hr (Nat.le_refl _) (sndA_cons (sndE_var 7) (sndA_nil))) (sndA_nil))))) sc_law.nd) (sndB_cons (sndS_if (sndT_not (sndT_tru (sndE_callF C__law_is_refusal hr (Nat.le_refl _) (sndA_cons (sndE_callF C__law_asked_two hr (Nat.le_refl _) (sndA_cons (sndE_ix (sndE_var 3) (sndE_int)) (sndA_cons (sndE_ix (sndE_var 9) (sndE_int)) (sndA_cons (sndE_ix (sndE_var 9) (sndE_int)) (sndA_nil))))) (sndA_cons (sndE_var 8) (sndA_cons (sndE_var 9) (sndA_nil))))))) (sndB_one (sndS_ret (sndE_bl))) (sndB_nil)) (sndB_one (sndS_if (sndT_not (sndT_tru (sndE_callF C__law_arms_hold hr (Nat.le_refl _) (sndA_cons (sndE_var 2) (sndA_nil))))) (sndB_one (sndS_ret (sndE_bl))) (sndB_nil))))))))))))))))) (sndB_one (sndS_ret (sndE_bl)))
end
def initS (s : Stmt) (j : Nat) : Stmt := match s with
  | .ClassDef _ _ _ body _ _ _ _ _ _ _ => body.getD j (.Pass ⟨0, 0, 0, 0⟩)
  | s => s
abbrev s_init : Stmt := initS (topS 3) 0
theorem sc_init : ScI (defScope s_init) := ⟨rfl, rfl, rfl, rfl, rfl, rfl, rfl, by decide +kernel, fun x h => (by decide +kernel : ∀ p ∈ (defScope s_init).names, p.2 = .free → p.1 = "__class__") _ (PySem.mem_of_lookup h) rfl⟩
abbrev qInit : Str := "ShellError.__init__"
abbrev fdInit (kV doc pm : Value) (an : Option Addr) (cda : Addr) (ct : Value) (cc : Addr) : FuncData := PySem.W.ksFn "__init__" qInit (defArgs s_init) (defBody s_init) (defScope s_init) .none kV doc pm an (.ref cda) ct cc
theorem init_ok {P : Program} {w : World} {K : PySem.W.Frag} {mg : Str → Option Value} {base : Heap} {f cc cda D : Addr} {kV doc pm ct oc ccl cl : Value} {an od cdd cld : Option Addr} {osl ccs csl : Array (Option Value)} {vs : Array Value} {file : Str} {tf : Tok} {cdD : ClassData}
    (lk : K.lookup f = some ⟨oc, od, .func (fdInit kV doc pm an cda ct cc), osl⟩) (hcd : PySem.W.codeIn K (.ref cda) qInit = true) (hcode : K.lookup cda = some ⟨ccl, cdd, .fields vs, ccs⟩) (hvs : vs[2]? = some (.str file tf)) (hfile : ((P.main.file : Str) == file) = true)
    (hcell : K.lookup cc = some ⟨cl, cld, .cell (some (.ref D)), csl⟩) (hD : PySem.W.clsIn K D = some cdD) (hsuper : mg "super" = none) (hop : PySem.W.nsIn K cStatics "thirdparty.any" = some none) (htop : (P.main.scope.names.lookup ("super" : Str)).isSome = false) :
    FnOk P w K mg base (L2.CX P w) 1 f (fdInit kV doc pm an cda ct cc) ["self", "value"] (spI K D) :=
  fnI_ok (k := 0) lk hcd sc_init rfl rfl hcode hvs hfile hcell hD hsuper hop htop (fun _ => rfl) (fun _ => rfl)
theorem init_binds {K : PySem.W.Frag} {cc cda : Addr} {kV doc pm ct : Value} {an : Option Addr} : Binds K (fdInit kV doc pm an cda ct cc) ["self", "value"] [] := Binds.all fun us hl => match us, hl with | [_, _], _ => rfl
/-! ### the texts as codes -/
@[simp] theorem lit_0 : Str.ofString "" = ofC [] := by decide +kernel
@[simp] theorem lit_1 : Str.ofString "\x0a !\"#$&'()*+,-./0123456789:;<=>?@ABCDEFGHIJKLMNOPQRSTUVWXYZ[\\]^_" = ofC [10, 32, 33, 34, 35, 36, 38, 39, 40, 41, 42, 43, 44, 45, 46, 47, 48, 49, 50, 51, 52, 53, 54, 55, 56, 57, 58, 59, 60, 61, 62, 63, 64, 65, 66, 67, 68, 69, 70, 71, 72, 73, 74, 75, 76, 77, 78, 79, 80, 81, 82, 83, 84, 85, 86, 87, 88, 89, 90, 91, 92, 93, 94, 95] := by decide +kernel
@[simp] theorem lit_2 : Str.ofString "one" = ofC [111, 110, 101] := by decide +kernel
@[simp] theorem lit_3 : Str.ofString "of" = ofC [111, 102] := by decide +kernel
@[simp] theorem lit_4 : Str.ofString "`abcdefghijklmnopqrstuvwxyz{|}~" = ofC [96, 97, 98, 99, 100, 101, 102, 103, 104, 105, 106, 107, 108, 109, 110, 111, 112, 113, 114, 115, 116, 117, 118, 119, 120, 121, 122, 123, 124, 125, 126] := by decide +kernel
@[simp] theorem lit_5 : Str.ofString "any" = ofC [97, 110, 121] := by decide +kernel
@[simp] theorem lit_6 : Str.ofString "lot" = ofC [108, 111, 116] := by decide +kernel
@[simp] theorem lit_7 : Str.ofString "a" = ofC [97] := by decide +kernel
@[simp] theorem lit_8 : Str.ofString "b" = ofC [98] := by decide +kernel
@[simp] theorem lit_9 : Str.ofString "c" = ofC [99] := by decide +kernel
@[simp] theorem lit_10 : Str.ofString "bc" = ofC [98, 99] := by decide +kernel
@[simp] theorem lit_11 : Str.ofString "ab" = ofC [97, 98] := by decide +kernel
@[simp] theorem lit_12 : Str.ofString "*" = ofC [42] := by decide +kernel
@[simp] theorem lit_13 : Str.ofString "some" = ofC [115, 111, 109, 101] := by decide +kernel
@[simp] theorem lit_14 : Str.ofString "ones" = ofC [111, 110, 101, 115] := by decide +kernel
@[simp] theorem lit_15 : Str.ofString "abc" = ofC [97, 98, 99] := by decide +kernel
@[simp] theorem lit_16 : Str.ofString "ab-" = ofC [97, 98, 45] := by decide +kernel
theorem lit_SIGNS : c_SIGNS = ofC [10, 32, 33, 34, 35, 36, 38, 39, 40, 41, 42, 43, 44, 45, 46, 47, 48, 49, 50, 51, 52, 53, 54, 55, 56, 57, 58, 59, 60, 61, 62, 63, 64, 65, 66, 67, 68, 69, 70, 71, 72, 73, 74, 75, 76, 77, 78, 79, 80, 81, 82, 83, 84, 85, 86, 87, 88, 89, 90, 91, 92, 93, 94, 95, 96, 97, 98, 99, 100, 101, 102, 103, 104, 105, 106, 107, 108, 109, 110, 111, 112, 113, 114, 115, 116, 117, 118, 119, 120, 121, 122, 123, 124, 125, 126] := by decide +kernel
/-! ### the chain -/
structure DfT (K : PySem.W.Frag) (mg : Str → Option Value) : Prop where
  d__law_same : DefAt K mg "_law_same" s__law_same
  d__law_spoil : DefAt K mg "_law_spoil" s__law_spoil
  d__law_is_refusal : DefAt K mg "_law_is_refusal" s__law_is_refusal
  d_fresh : DefAt K mg "fresh" s_fresh
  d_is_sign : DefAt K mg "is_sign" s_is_sign
  d_is_range : DefAt K mg "is_range" s_is_range
  d_is_entry : DefAt K mg "is_entry" s_is_entry
  d_is_pattern : DefAt K mg "is_pattern" s_is_pattern
  d_check_patterns : DefAt K mg "check_patterns" s_check_patterns
  d_all_of : DefAt K mg "all_of" s_all_of
  d_never_met : DefAt K mg "never_met" s_never_met
  d_unmet : DefAt K mg "unmet" s_unmet
  d__law_asked_arms : DefAt K mg "_law_asked_arms" s__law_asked_arms
  d__law_coin : DefAt K mg "_law_coin" s__law_coin
  d__law_own : DefAt K mg "_law_own" s__law_own
  d__law_signs : DefAt K mg "_law_signs" s__law_signs
  d__law_ranges : DefAt K mg "_law_ranges" s__law_ranges
  d__law_odd : DefAt K mg "_law_odd" s__law_odd
  d__law_sign : DefAt K mg "_law_sign" s__law_sign
  d__law_entry : DefAt K mg "_law_entry" s__law_entry
  d__law_row : DefAt K mg "_law_row" s__law_row
  d__law_arms_hold : DefAt K mg "_law_arms_hold" s__law_arms_hold
  d_first_apart : DefAt K mg "first_apart" s_first_apart
  d_same : DefAt K mg "same" s_same
  d_within : DefAt K mg "within" s_within
  d_common : DefAt K mg "common" s_common
  d__law_asked_two : DefAt K mg "_law_asked_two" s__law_asked_two
  d_meets_plainly : DefAt K mg "meets_plainly" s_meets_plainly
  d_meets : DefAt K mg "meets" s_meets
  d_beginnings : DefAt K mg "beginnings" s_beginnings
  d_heads : DefAt K mg "heads" s_heads
  d_tails : DefAt K mg "tails" s_tails
  d_takes : DefAt K mg "takes" s_takes
  d_least_text : DefAt K mg "least_text" s_least_text
  d_least_entry : DefAt K mg "least_entry" s_least_entry
  d_shown_least : DefAt K mg "shown_least" s_shown_least
  d__law_asked_one : DefAt K mg "_law_asked_one" s__law_asked_one
  d__law_purse : DefAt K mg "_law_purse" s__law_purse
  d_law : DefAt K mg "law" s_law
section
variable {P : Program} {w : World} {K : PySem.W.Frag} {mg : Str → Option Value} {base : Heap}
noncomputable def G__law_same : Nat → Fn
  | 0 => fun _ _ => .bad
  | n + 1 => runBody 3 2 (b__law_same (G__law_same n))
theorem cals__law_same (Bl : BlT mg) (Gs : GsT K mg) (Kl : KlT P w K mg base) (D : DfT K mg) : ∀ n, CalF P w K mg base (0 + n) "_law_same" s__law_same ["_law_found", "_law_due"] (G__law_same n)
  | 0 => (calF_none D.d__law_same (fun _ _ _ _ _ _ us hl => match us, hl with | [_, _], _ => rfl))
  | n + 1 => by
    obtain c__law_same := cals__law_same Bl Gs Kl D n
    exact (ok__law_same Bl Gs Kl D.d__law_same c__law_same)
theorem cal__law_same (Bl : BlT mg) (Gs : GsT K mg) (Kl : KlT P w K mg base) (D : DfT K mg) (n : Nat) : CalF P w K mg base (0 + n) "_law_same" s__law_same ["_law_found", "_law_due"] (G__law_same n) := cals__law_same Bl Gs Kl D n
noncomputable def G__law_spoil : Nat → Fn
  | 0 => fun _ _ => .bad
  | n + 1 => runBody 2 1 (b__law_spoil (G__law_spoil n))
theorem cals__law_spoil (Bl : BlT mg) (Gs : GsT K mg) (Kl : KlT P w K mg base) (D : DfT K mg) : ∀ n, CalF P w K mg base (0 + n) "_law_spoil" s__law_spoil ["_law_thing"] (G__law_spoil n)
  | 0 => (calF_none D.d__law_spoil (fun _ _ _ _ _ _ us hl => match us, hl with | [_], _ => rfl))
  | n + 1 => by
    obtain c__law_spoil := cals__law_spoil Bl Gs Kl D n
    exact (ok__law_spoil Bl Gs Kl D.d__law_spoil c__law_spoil)
theorem cal__law_spoil (Bl : BlT mg) (Gs : GsT K mg) (Kl : KlT P w K mg base) (D : DfT K mg) (n : Nat) : CalF P w K mg base (0 + n) "_law_spoil" s__law_spoil ["_law_thing"] (G__law_spoil n) := cals__law_spoil Bl Gs Kl D n
noncomputable def G__law_is_refusal : Fn := runBody 4 3 (b__law_is_refusal (G__law_same 6) (G__law_spoil 8))
theorem cal__law_is_refusal (Bl : BlT mg) (Gs : GsT K mg) (Kl : KlT P w K mg base) (D : DfT K mg) : CalF P w K mg base 9 "_law_is_refusal" s__law_is_refusal ["_law_caught", "_law_due", "_law_passed"] G__law_is_refusal := ok__law_is_refusal (k := 8) Bl Gs Kl D.d__law_is_refusal ((cal__law_same Bl Gs Kl D 6).mono (by decide)) ((cal__law_spoil Bl Gs Kl D 8).mono (by decide))
noncomputable def G_fresh : Nat → Fn
  | 0 => fun _ _ => .bad
  | n + 1 => runBody 3 1 (b_fresh (G_fresh n))
theorem cals_fresh (Bl : BlT mg) (Gs : GsT K mg) (Kl : KlT P w K mg base) (D : DfT K mg) : ∀ n, CalF P w K mg base (0 + n) "fresh" s_fresh ["thing"] (G_fresh n)
  | 0 => (calF_none D.d_fresh (fun _ _ _ _ _ _ us hl => match us, hl with | [_], _ => rfl))
  | n + 1 => by
    obtain c_fresh := cals_fresh Bl Gs Kl D n
    exact (ok_fresh Bl Gs Kl D.d_fresh c_fresh)
theorem cal_fresh (Bl : BlT mg) (Gs : GsT K mg) (Kl : KlT P w K mg base) (D : DfT K mg) (n : Nat) : CalF P w K mg base (0 + n) "fresh" s_fresh ["thing"] (G_fresh n) := cals_fresh Bl Gs Kl D n
noncomputable def G_is_sign : Fn := runBody 1 1 (b_is_sign)
theorem cal_is_sign (Bl : BlT mg) (Gs : GsT K mg) (Kl : KlT P w K mg base) (D : DfT K mg) : CalF P w K mg base 1 "is_sign" s_is_sign ["thing"] G_is_sign := ok_is_sign (k := 0) Bl Gs Kl D.d_is_sign
noncomputable def G_is_range : Fn := runBody 1 1 (b_is_range G_is_sign)
theorem cal_is_range (Bl : BlT mg) (Gs : GsT K mg) (Kl : KlT P w K mg base) (D : DfT K mg) : CalF P w K mg base 2 "is_range" s_is_range ["thing"] G_is_range := ok_is_range (k := 1) Bl Gs Kl D.d_is_range ((cal_is_sign Bl Gs Kl D).mono (by decide))
noncomputable def G_is_entry : Fn := runBody 2 1 (b_is_entry G_is_range G_is_sign)
theorem cal_is_entry (Bl : BlT mg) (Gs : GsT K mg) (Kl : KlT P w K mg base) (D : DfT K mg) : CalF P w K mg base 3 "is_entry" s_is_entry ["entry"] G_is_entry := ok_is_entry (k := 2) Bl Gs Kl D.d_is_entry ((cal_is_range Bl Gs Kl D).mono (by decide)) ((cal_is_sign Bl Gs Kl D).mono (by decide))
noncomputable def G_is_pattern : Fn := runBody 2 1 (b_is_pattern G_is_entry)
theorem cal_is_pattern (Bl : BlT mg) (Gs : GsT K mg) (Kl : KlT P w K mg base) (D : DfT K mg) : CalF P w K mg base 4 "is_pattern" s_is_pattern ["pattern"] G_is_pattern := ok_is_pattern (k := 3) Bl Gs Kl D.d_is_pattern ((cal_is_entry Bl Gs Kl D).mono (by decide))
noncomputable def G_check_patterns : Fn := runBody 2 1 (b_check_patterns (G_fresh 6) G_is_pattern)
theorem cal_check_patterns (Bl : BlT mg) (Gs : GsT K mg) (Kl : KlT P w K mg base) (D : DfT K mg) : CalF P w K mg base 7 "check_patterns" s_check_patterns ["patterns"] G_check_patterns := ok_check_patterns (k := 6) Bl Gs Kl (by decide) D.d_check_patterns ((cal_fresh Bl Gs Kl D 6).mono (by decide)) ((cal_is_pattern Bl Gs Kl D).mono (by decide))
noncomputable def G_all_of : Fn := runBody 3 1 (b_all_of)
theorem cal_all_of (Bl : BlT mg) (Gs : GsT K mg) (Kl : KlT P w K mg base) (D : DfT K mg) : CalF P w K mg base 1 "all_of" s_all_of ["arms"] G_all_of := ok_all_of (k := 0) Bl Gs Kl D.d_all_of
noncomputable def G_never_met : Fn := runBody 5 1 (b_never_met G_check_patterns G_all_of)
theorem cal_never_met (Bl : BlT mg) (Gs : GsT K mg) (Kl : KlT P w K mg base) (D : DfT K mg) : CalF P w K mg base 8 "never_met" s_never_met ["arms"] G_never_met := ok_never_met (k := 7) Bl Gs Kl D.d_never_met ((cal_check_patterns Bl Gs Kl D).mono (by decide)) ((cal_all_of Bl Gs Kl D).mono (by decide))
noncomputable def G_unmet : Fn := runBody 2 1 (b_unmet G_check_patterns G_all_of)
theorem cal_unmet (Bl : BlT mg) (Gs : GsT K mg) (Kl : KlT P w K mg base) (D : DfT K mg) : CalF P w K mg base 8 "unmet" s_unmet ["arms"] G_unmet := ok_unmet (k := 7) Bl Gs Kl D.d_unmet ((cal_check_patterns Bl Gs Kl D).mono (by decide)) ((cal_all_of Bl Gs Kl D).mono (by decide))
noncomputable def G__law_asked_arms : Fn := runBody 4 2 (b__law_asked_arms G_never_met G_unmet)
theorem cal__law_asked_arms (Bl : BlT mg) (Gs : GsT K mg) (Kl : KlT P w K mg base) (D : DfT K mg) : CalF P w K mg base 9 "_law_asked_arms" s__law_asked_arms ["_law_way", "_law_cases"] G__law_asked_arms := ok__law_asked_arms (k := 8) Bl Gs Kl D.d__law_asked_arms ((cal_never_met Bl Gs Kl D).mono (by decide)) ((cal_unmet Bl Gs Kl D).mono (by decide))
noncomputable def G__law_coin : Fn := runBody 4 2 (b__law_coin)
theorem cal__law_coin (Bl : BlT mg) (Gs : GsT K mg) (Kl : KlT P w K mg base) (D : DfT K mg) : CalF P w K mg base 1 "_law_coin" s__law_coin ["_law_purse_here", "_law_many"] G__law_coin := ok__law_coin (k := 0) Bl Gs Kl D.d__law_coin
noncomputable def G__law_own : Nat → Fn
  | 0 => fun _ _ => .bad
  | n + 1 => runBody 2 1 (b__law_own (G__law_own n))
theorem cals__law_own (Bl : BlT mg) (Gs : GsT K mg) (Kl : KlT P w K mg base) (D : DfT K mg) : ∀ n, CalF P w K mg base (0 + n) "_law_own" s__law_own ["_law_thing"] (G__law_own n)
  | 0 => (calF_none D.d__law_own (fun _ _ _ _ _ _ us hl => match us, hl with | [_], _ => rfl))
  | n + 1 => by
    obtain c__law_own := cals__law_own Bl Gs Kl D n
    exact (ok__law_own Bl Gs Kl D.d__law_own c__law_own)
theorem cal__law_own (Bl : BlT mg) (Gs : GsT K mg) (Kl : KlT P w K mg base) (D : DfT K mg) (n : Nat) : CalF P w K mg base (0 + n) "_law_own" s__law_own ["_law_thing"] (G__law_own n) := cals__law_own Bl Gs Kl D n
noncomputable def G__law_signs : Fn := runBody 1 0 (b__law_signs)
theorem cal__law_signs (Bl : BlT mg) (Gs : GsT K mg) (Kl : KlT P w K mg base) (D : DfT K mg) : CalF P w K mg base 1 "_law_signs" s__law_signs [] G__law_signs := ok__law_signs (k := 0) Bl Gs Kl D.d__law_signs
noncomputable def G__law_ranges : Fn := runBody 4 1 (b__law_ranges G__law_coin G__law_signs)
theorem cal__law_ranges (Bl : BlT mg) (Gs : GsT K mg) (Kl : KlT P w K mg base) (D : DfT K mg) : CalF P w K mg base 2 "_law_ranges" s__law_ranges ["_law_purse_here"] G__law_ranges := ok__law_ranges (k := 1) Bl Gs Kl D.d__law_ranges ((cal__law_coin Bl Gs Kl D).mono (by decide)) ((cal__law_signs Bl Gs Kl D).mono (by decide))
noncomputable def G__law_odd : Fn := runBody 7 1 (b__law_odd G__law_coin G__law_ranges G__law_signs)
theorem cal__law_odd (Bl : BlT mg) (Gs : GsT K mg) (Kl : KlT P w K mg base) (D : DfT K mg) : CalF P w K mg base 3 "_law_odd" s__law_odd ["_law_purse_here"] G__law_odd := ok__law_odd (k := 2) Bl Gs Kl D.d__law_odd ((cal__law_coin Bl Gs Kl D).mono (by decide)) ((cal__law_ranges Bl Gs Kl D).mono (by decide)) ((cal__law_signs Bl Gs Kl D).mono (by decide))
noncomputable def G__law_sign : Fn := runBody 2 1 (b__law_sign G__law_signs G__law_coin)
theorem cal__law_sign (Bl : BlT mg) (Gs : GsT K mg) (Kl : KlT P w K mg base) (D : DfT K mg) : CalF P w K mg base 2 "_law_sign" s__law_sign ["_law_purse_here"] G__law_sign := ok__law_sign (k := 1) Bl Gs Kl D.d__law_sign ((cal__law_signs Bl Gs Kl D).mono (by decide)) ((cal__law_coin Bl Gs Kl D).mono (by decide))
noncomputable def G__law_entry : Fn := runBody 2 1 (b__law_entry G__law_ranges G__law_sign G__law_coin)
theorem cal__law_entry (Bl : BlT mg) (Gs : GsT K mg) (Kl : KlT P w K mg base) (D : DfT K mg) : CalF P w K mg base 3 "_law_entry" s__law_entry ["_law_purse_here"] G__law_entry := ok__law_entry (k := 2) Bl Gs Kl D.d__law_entry ((cal__law_ranges Bl Gs Kl D).mono (by decide)) ((cal__law_sign Bl Gs Kl D).mono (by decide)) ((cal__law_coin Bl Gs Kl D).mono (by decide))
noncomputable def G__law_row : Fn := runBody 6 3 (b__law_row G__law_odd G__law_coin G__law_entry)
theorem cal__law_row (Bl : BlT mg) (Gs : GsT K mg) (Kl : KlT P w K mg base) (D : DfT K mg) : CalF P w K mg base 4 "_law_row" s__law_row ["_law_purse_here", "_law_bad", "_law_most"] G__law_row := ok__law_row (k := 3) Bl Gs Kl D.d__law_row ((cal__law_odd Bl Gs Kl D).mono (by decide)) ((cal__law_coin Bl Gs Kl D).mono (by decide)) ((cal__law_entry Bl Gs Kl D).mono (by decide))
noncomputable def G__law_arms_hold : Fn := runBody 12 1 (b__law_arms_hold G__law_is_refusal G__law_asked_arms G__law_coin (G__law_own 8) G__law_row)
theorem cal__law_arms_hold (Bl : BlT mg) (Gs : GsT K mg) (Kl : KlT P w K mg base) (D : DfT K mg) : CalF P w K mg base 10 "_law_arms_hold" s__law_arms_hold ["_law_purse_here"] G__law_arms_hold := ok__law_arms_hold (k := 9) Bl Gs Kl D.d__law_arms_hold ((cal__law_is_refusal Bl Gs Kl D).mono (by decide)) ((cal__law_asked_arms Bl Gs Kl D).mono (by decide)) ((cal__law_coin Bl Gs Kl D).mono (by decide)) ((cal__law_own Bl Gs Kl D 8).mono (by decide)) ((cal__law_row Bl Gs Kl D).mono (by decide))
noncomputable def G_first_apart : Fn := runBody 2 2 (b_first_apart G_check_patterns)
theorem cal_first_apart (Bl : BlT mg) (Gs : GsT K mg) (Kl : KlT P w K mg base) (D : DfT K mg) : CalF P w K mg base 8 "first_apart" s_first_apart ["one", "other"] G_first_apart := ok_first_apart (k := 7) Bl Gs Kl D.d_first_apart ((cal_check_patterns Bl Gs Kl D).mono (by decide))
noncomputable def G_same : Fn := runBody 2 2 (b_same G_first_apart)
theorem cal_same (Bl : BlT mg) (Gs : GsT K mg) (Kl : KlT P w K mg base) (D : DfT K mg) : CalF P w K mg base 9 "same" s_same ["one", "other"] G_same := ok_same (k := 8) Bl Gs Kl D.d_same ((cal_first_apart Bl Gs Kl D).mono (by decide))
noncomputable def G_within : Fn := runBody 2 2 (b_within G_check_patterns)
theorem cal_within (Bl : BlT mg) (Gs : GsT K mg) (Kl : KlT P w K mg base) (D : DfT K mg) : CalF P w K mg base 8 "within" s_within ["one", "other"] G_within := ok_within (k := 7) Bl Gs Kl D.d_within ((cal_check_patterns Bl Gs Kl D).mono (by decide))
noncomputable def G_common : Fn := runBody 2 2 (b_common G_check_patterns)
theorem cal_common (Bl : BlT mg) (Gs : GsT K mg) (Kl : KlT P w K mg base) (D : DfT K mg) : CalF P w K mg base 8 "common" s_common ["one", "other"] G_common := ok_common (k := 7) Bl Gs Kl D.d_common ((cal_check_patterns Bl Gs Kl D).mono (by decide))
noncomputable def G__law_asked_two : Fn := runBody 5 3 (b__law_asked_two G_same G_within G_first_apart G_common)
theorem cal__law_asked_two (Bl : BlT mg) (Gs : GsT K mg) (Kl : KlT P w K mg base) (D : DfT K mg) : CalF P w K mg base 10 "_law_asked_two" s__law_asked_two ["_law_way", "_law_left", "_law_right"] G__law_asked_two := ok__law_asked_two (k := 9) Bl Gs Kl D.d__law_asked_two ((cal_same Bl Gs Kl D).mono (by decide)) ((cal_within Bl Gs Kl D).mono (by decide)) ((cal_first_apart Bl Gs Kl D).mono (by decide)) ((cal_common Bl Gs Kl D).mono (by decide))
noncomputable def G_meets_plainly : Fn := runBody 4 2 (b_meets_plainly)
theorem cal_meets_plainly (Bl : BlT mg) (Gs : GsT K mg) (Kl : KlT P w K mg base) (D : DfT K mg) : CalF P w K mg base 1 "meets_plainly" s_meets_plainly ["pattern", "text"] G_meets_plainly := ok_meets_plainly (k := 0) Bl Gs Kl D.d_meets_plainly
noncomputable def G_meets : Fn := runBody 2 2 (b_meets G_meets_plainly G_check_patterns)
theorem cal_meets (Bl : BlT mg) (Gs : GsT K mg) (Kl : KlT P w K mg base) (D : DfT K mg) : CalF P w K mg base 8 "meets" s_meets ["pattern", "text"] G_meets := ok_meets (k := 7) Bl Gs Kl D.d_meets ((cal_meets_plainly Bl Gs Kl D).mono (by decide)) ((cal_check_patterns Bl Gs Kl D).mono (by decide))
noncomputable def G_beginnings : Fn := runBody 6 2 (b_beginnings)
theorem cal_beginnings (Bl : BlT mg) (Gs : GsT K mg) (Kl : KlT P w K mg base) (D : DfT K mg) : CalF P w K mg base 1 "beginnings" s_beginnings ["pattern", "text"] G_beginnings := ok_beginnings (k := 0) Bl Gs Kl D.d_beginnings
noncomputable def G_heads : Fn := runBody 2 2 (b_heads G_beginnings G_check_patterns)
theorem cal_heads (Bl : BlT mg) (Gs : GsT K mg) (Kl : KlT P w K mg base) (D : DfT K mg) : CalF P w K mg base 8 "heads" s_heads ["pattern", "text"] G_heads := ok_heads (k := 7) Bl Gs Kl D.d_heads ((cal_beginnings Bl Gs Kl D).mono (by decide)) ((cal_check_patterns Bl Gs Kl D).mono (by decide))
noncomputable def G_tails : Fn := runBody 2 2 (b_tails G_beginnings G_check_patterns)
theorem cal_tails (Bl : BlT mg) (Gs : GsT K mg) (Kl : KlT P w K mg base) (D : DfT K mg) : CalF P w K mg base 8 "tails" s_tails ["pattern", "text"] G_tails := ok_tails (k := 7) Bl Gs Kl D.d_tails ((cal_beginnings Bl Gs Kl D).mono (by decide)) ((cal_check_patterns Bl Gs Kl D).mono (by decide))
noncomputable def G_takes : Fn := runBody 4 2 (b_takes)
theorem cal_takes (Bl : BlT mg) (Gs : GsT K mg) (Kl : KlT P w K mg base) (D : DfT K mg) : CalF P w K mg base 1 "takes" s_takes ["entry", "sign"] G_takes := ok_takes (k := 0) Bl Gs Kl D.d_takes
noncomputable def G_least_text : Fn := runBody 5 1 (b_least_text G_takes G_check_patterns)
theorem cal_least_text (Bl : BlT mg) (Gs : GsT K mg) (Kl : KlT P w K mg base) (D : DfT K mg) : CalF P w K mg base 8 "least_text" s_least_text ["pattern"] G_least_text := ok_least_text (k := 7) Bl Gs Kl D.d_least_text ((cal_takes Bl Gs Kl D).mono (by decide)) ((cal_check_patterns Bl Gs Kl D).mono (by decide))
noncomputable def G_least_entry : Fn := runBody 6 1 (b_least_entry)
theorem cal_least_entry (Bl : BlT mg) (Gs : GsT K mg) (Kl : KlT P w K mg base) (D : DfT K mg) : CalF P w K mg base 1 "least_entry" s_least_entry ["entry"] G_least_entry := ok_least_entry (k := 0) Bl Gs Kl D.d_least_entry
noncomputable def G_shown_least : Fn := runBody 4 1 (b_shown_least G_least_entry G_check_patterns)
theorem cal_shown_least (Bl : BlT mg) (Gs : GsT K mg) (Kl : KlT P w K mg base) (D : DfT K mg) : CalF P w K mg base 8 "shown_least" s_shown_least ["pattern"] G_shown_least := ok_shown_least (k := 7) Bl Gs Kl D.d_shown_least ((cal_least_entry Bl Gs Kl D).mono (by decide)) ((cal_check_patterns Bl Gs Kl D).mono (by decide))
noncomputable def G__law_asked_one : Fn := runBody 4 2 (b__law_asked_one G_meets G_heads G_tails G_least_text G_shown_least)
theorem cal__law_asked_one (Bl : BlT mg) (Gs : GsT K mg) (Kl : KlT P w K mg base) (D : DfT K mg) : CalF P w K mg base 9 "_law_asked_one" s__law_asked_one ["_law_way", "_law_row_here"] G__law_asked_one := ok__law_asked_one (k := 8) Bl Gs Kl D.d__law_asked_one ((cal_meets Bl Gs Kl D).mono (by decide)) ((cal_heads Bl Gs Kl D).mono (by decide)) ((cal_tails Bl Gs Kl D).mono (by decide)) ((cal_least_text Bl Gs Kl D).mono (by decide)) ((cal_shown_least Bl Gs Kl D).mono (by decide))
noncomputable def G__law_purse : Fn := runBody 3 2 (b__law_purse)
theorem cal__law_purse (Bl : BlT mg) (Gs : GsT K mg) (Kl : KlT P w K mg base) (D : DfT K mg) : CalF P w K mg base 1 "_law_purse" s__law_purse ["_law_script", "_law_at"] G__law_purse := ok__law_purse (k := 0) Bl Gs Kl D.d__law_purse
noncomputable def G_law : Fn := runBody 10 1 (b_law G__law_arms_hold G__law_is_refusal G__law_asked_two (G__law_own 8) G__law_asked_one (G__law_same 6) G_is_pattern G__law_row G__law_coin G__law_purse)
theorem cal_law (Bl : BlT mg) (Gs : GsT K mg) (Kl : KlT P w K mg base) (D : DfT K mg) : CalF P w K mg base 11 "law" s_law ["_law_script"] G_law := ok_law (k := 10) Bl Gs Kl D.d_law ((cal__law_arms_hold Bl Gs Kl D).mono (by decide)) ((cal__law_is_refusal Bl Gs Kl D).mono (by decide)) ((cal__law_asked_two Bl Gs Kl D).mono (by decide)) ((cal__law_own Bl Gs Kl D 8).mono (by decide)) ((cal__law_asked_one Bl Gs Kl D).mono (by decide)) ((cal__law_same Bl Gs Kl D 6).mono (by decide)) ((cal_is_pattern Bl Gs Kl D).mono (by decide)) ((cal__law_row Bl Gs Kl D).mono (by decide)) ((cal__law_coin Bl Gs Kl D).mono (by decide)) ((cal__law_purse Bl Gs Kl D).mono (by decide))
/-! ### the end -/
theorem all_mk {l : PySem.W.OpenLaw} {w : World} {K : PySem.W.Frag} {h : Heap} {mg : Str → Option Value} {fa f0 f1 f2 f3 f4 f5 f6 f7 f8 f9 f10 f11 f12 f13 f14 f15 f16 f17 f18 f19 f20 f21 f22 f23 f24 f25 f26 f27 f28 f29 f30 f31 f32 f33 f34 f35 f36 f37 f38 : Addr} (X : K.In h) (G : h.Ns mainGlobals mg) (hfa : mg "law" = some (.ref fa)) {od0 an0 od1 an1 od2 an2 od3 an3 od4 an4 od5 an5 od6 an6 od7 an7 od8 an8 od9 an9 od10 an10 od11 an11 od12 an12 od13 an13 od14 an14 od15 an15 od16 an16 od17 an17 od18 an18 od19 an19 od20 an20 od21 an21 od22 an22 od23 an23 od24 an24 od25 an25 od26 an26 od27 an27 od28 an28 od29 an29 od30 an30 od31 an31 od32 an32 od33 an33 od34 an34 od35 an35 od36 an36 od37 an37 od38 an38 : Option Addr} {sl0 sl1 sl2 sl3 sl4 sl5 sl6 sl7 sl8 sl9 sl10 sl11 sl12 sl13 sl14 sl15 sl16 sl17 sl18 sl19 sl20 sl21 sl22 sl23 sl24 sl25 sl26 sl27 sl28 sl29 sl30 sl31 sl32 sl33 sl34 sl35 sl36 sl37 sl38 : Array (Option Value)} {oc0 kV0 dc0 pm0 cd0 ct0 oc1 kV1 dc1 pm1 cd1 ct1 oc2 kV2 dc2 pm2 cd2 ct2 oc3 kV3 dc3 pm3 cd3 ct3 oc4 kV4 dc4 pm4 cd4 ct4 oc5 kV5 dc5 pm5 cd5 ct5 oc6 kV6 dc6 pm6 cd6 ct6 oc7 kV7 dc7 pm7 cd7 ct7 oc8 kV8 dc8 pm8 cd8 ct8 oc9 kV9 dc9 pm9 cd9 ct9 oc10 kV10 dc10 pm10 cd10 ct10 oc11 kV11 dc11 pm11 cd11 ct11 oc12 kV12 dc12 pm12 cd12 ct12 oc13 kV13 dc13 pm13 cd13 ct13 oc14 kV14 dc14 pm14 cd14 ct14 oc15 kV15 dc15 pm15 cd15 ct15 oc16 kV16 dc16 pm16 cd16 ct16 oc17 kV17 dc17 pm17 cd17 ct17 oc18 kV18 dc18 pm18 cd18 ct18 oc19 kV19 dc19 pm19 cd19 ct19 oc20 kV20 dc20 pm20 cd20 ct20 oc21 kV21 dc21 pm21 cd21 ct21 oc22 kV22 dc22 pm22 cd22 ct22 oc23 kV23 dc23 pm23 cd23 ct23 oc24 kV24 dc24 pm24 cd24 ct24 oc25 kV25 dc25 pm25 cd25 ct25 oc26 kV26 dc26 pm26 cd26 ct26 oc27 kV27 dc27 pm27 cd27 ct27 oc28 kV28 dc28 pm28 cd28 ct28 oc29 kV29 dc29 pm29 cd29 ct29 oc30 kV30 dc30 pm30 cd30 ct30 oc31 kV31 dc31 pm31 cd31 ct31 oc32 kV32 dc32 pm32 cd32 ct32 oc33 kV33 dc33 pm33 cd33 ct33 oc34 kV34 dc34 pm34 cd34 ct34 oc35 kV35 dc35 pm35 cd35 ct35 oc36 kV36 dc36 pm36 cd36 ct36 oc37 kV37 dc37 pm37 cd37 ct37 oc38 kV38 dc38 pm38 cd38 ct38 : Value} {t_SIGNS : Tok} {C_InvalidPattern C_ShellError C_InvalidTree : Addr} {fI iD icc icda : Addr} {ikV idoc ipm ict ioc iccl icl : Value} {ian iod icdd icld : Option Addr} {iosl iccs icsl : Array (Option Value)} {ivs : Array Value} {ifile : Str} {itf : Tok} {icdD : PySem.ClassData} {nm_InvalidPattern qn_InvalidPattern : Str} {N_InvalidPattern : Addr} {bs_InvalidPattern bm_InvalidPattern sb_InvalidPattern : List Value} {sn_InvalidPattern : List Str} {ab_InvalidPattern : Bool} {col_InvalidPattern : Option Bool} {dd_InvalidPattern : Option Addr} {k0_InvalidPattern k1_InvalidPattern k2_InvalidPattern k3_InvalidPattern k5_InvalidPattern : Option Value}
    (a0 : PySem.W.nsIn K mainGlobals "_law_same" = some (some (.ref f0))) (l0 : K.lookup f0 = some ⟨oc0, od0, .func (PySem.W.fnOf "_law_same" "_law_same" (defArgs s__law_same) (defBody s__law_same) (defScope s__law_same) .none kV0 dc0 pm0 an0 cd0 ct0), sl0⟩) (c0 : PySem.W.codeIn K cd0 "_law_same" = true) (k0 : PySem.W.keepIn K (.ref f0) = true)
    (a1 : PySem.W.nsIn K mainGlobals "_law_spoil" = some (some (.ref f1))) (l1 : K.lookup f1 = some ⟨oc1, od1, .func (PySem.W.fnOf "_law_spoil" "_law_spoil" (defArgs s__law_spoil) (defBody s__law_spoil) (defScope s__law_spoil) .none kV1 dc1 pm1 an1 cd1 ct1), sl1⟩) (c1 : PySem.W.codeIn K cd1 "_law_spoil" = true) (k1 : PySem.W.keepIn K (.ref f1) = true)
    (a2 : PySem.W.nsIn K mainGlobals "_law_is_refusal" = some (some (.ref f2))) (l2 : K.lookup f2 = some ⟨oc2, od2, .func (PySem.W.fnOf "_law_is_refusal" "_law_is_refusal" (defArgs s__law_is_refusal) (defBody s__law_is_refusal) (defScope s__law_is_refusal) .none kV2 dc2 pm2 an2 cd2 ct2), sl2⟩) (c2 : PySem.W.codeIn K cd2 "_law_is_refusal" = true) (k2 : PySem.W.keepIn K (.ref f2) = true)
    (a3 : PySem.W.nsIn K mainGlobals "fresh" = some (some (.ref f3))) (l3 : K.lookup f3 = some ⟨oc3, od3, .func (PySem.W.fnOf "fresh" "fresh" (defArgs s_fresh) (defBody s_fresh) (defScope s_fresh) .none kV3 dc3 pm3 an3 cd3 ct3), sl3⟩) (c3 : PySem.W.codeIn K cd3 "fresh" = true) (k3 : PySem.W.keepIn K (.ref f3) = true)
    (a4 : PySem.W.nsIn K mainGlobals "is_sign" = some (some (.ref f4))) (l4 : K.lookup f4 = some ⟨oc4, od4, .func (PySem.W.fnOf "is_sign" "is_sign" (defArgs s_is_sign) (defBody s_is_sign) (defScope s_is_sign) .none kV4 dc4 pm4 an4 cd4 ct4), sl4⟩) (c4 : PySem.W.codeIn K cd4 "is_sign" = true) (k4 : PySem.W.keepIn K (.ref f4) = true)
    (a5 : PySem.W.nsIn K mainGlobals "is_range" = some (some (.ref f5))) (l5 : K.lookup f5 = some ⟨oc5, od5, .func (PySem.W.fnOf "is_range" "is_range" (defArgs s_is_range) (defBody s_is_range) (defScope s_is_range) .none kV5 dc5 pm5 an5 cd5 ct5), sl5⟩) (c5 : PySem.W.codeIn K cd5 "is_range" = true) (k5 : PySem.W.keepIn K (.ref f5) = true)
    (a6 : PySem.W.nsIn K mainGlobals "is_entry" = some (some (.ref f6))) (l6 : K.lookup f6 = some ⟨oc6, od6, .func (PySem.W.fnOf "is_entry" "is_entry" (defArgs s_is_entry) (defBody s_is_entry) (defScope s_is_entry) .none kV6 dc6 pm6 an6 cd6 ct6), sl6⟩) (c6 : PySem.W.codeIn K cd6 "is_entry" = true) (k6 : PySem.W.keepIn K (.ref f6) = true)
    (a7 : PySem.W.nsIn K mainGlobals "is_pattern" = some (some (.ref f7))) (l7 : K.lookup f7 = some ⟨oc7, od7, .func (PySem.W.fnOf "is_pattern" "is_pattern" (defArgs s_is_pattern) (defBody s_is_pattern) (defScope s_is_pattern) .none kV7 dc7 pm7 an7 cd7 ct7), sl7⟩) (c7 : PySem.W.codeIn K cd7 "is_pattern" = true) (k7 : PySem.W.keepIn K (.ref f7) = true)
    (a8 : PySem.W.nsIn K mainGlobals "check_patterns" = some (some (.ref f8))) (l8 : K.lookup f8 = some ⟨oc8, od8, .func (PySem.W.fnOf "check_patterns" "check_patterns" (defArgs s_check_patterns) (defBody s_check_patterns) (defScope s_check_patterns) .none kV8 dc8 pm8 an8 cd8 ct8), sl8⟩) (c8 : PySem.W.codeIn K cd8 "check_patterns" = true) (k8 : PySem.W.keepIn K (.ref f8) = true)
    (a9 : PySem.W.nsIn K mainGlobals "all_of" = some (some (.ref f9))) (l9 : K.lookup f9 = some ⟨oc9, od9, .func (PySem.W.fnOf "all_of" "all_of" (defArgs s_all_of) (defBody s_all_of) (defScope s_all_of) .none kV9 dc9 pm9 an9 cd9 ct9), sl9⟩) (c9 : PySem.W.codeIn K cd9 "all_of" = true) (k9 : PySem.W.keepIn K (.ref f9) = true)
    (a10 : PySem.W.nsIn K mainGlobals "never_met" = some (some (.ref f10))) (l10 : K.lookup f10 = some ⟨oc10, od10, .func (PySem.W.fnOf "never_met" "never_met" (defArgs s_never_met) (defBody s_never_met) (defScope s_never_met) .none kV10 dc10 pm10 an10 cd10 ct10), sl10⟩) (c10 : PySem.W.codeIn K cd10 "never_met" = true) (k10 : PySem.W.keepIn K (.ref f10) = true)
    (a11 : PySem.W.nsIn K mainGlobals "unmet" = some (some (.ref f11))) (l11 : K.lookup f11 = some ⟨oc11, od11, .func (PySem.W.fnOf "unmet" "unmet" (defArgs s_unmet) (defBody s_unmet) (defScope s_unmet) .none kV11 dc11 pm11 an11 cd11 ct11), sl11⟩) (c11 : PySem.W.codeIn K cd11 "unmet" = true) (k11 : PySem.W.keepIn K (.ref f11) = true)
    (a12 : PySem.W.nsIn K mainGlobals "_law_asked_arms" = some (some (.ref f12))) (l12 : K.lookup f12 = some ⟨oc12, od12, .func (PySem.W.fnOf "_law_asked_arms" "_law_asked_arms" (defArgs s__law_asked_arms) (defBody s__law_asked_arms) (defScope s__law_asked_arms) .none kV12 dc12 pm12 an12 cd12 ct12), sl12⟩) (c12 : PySem.W.codeIn K cd12 "_law_asked_arms" = true) (k12 : PySem.W.keepIn K (.ref f12) = true)
    (a13 : PySem.W.nsIn K mainGlobals "_law_coin" = some (some (.ref f13))) (l13 : K.lookup f13 = some ⟨oc13, od13, .func (PySem.W.fnOf "_law_coin" "_law_coin" (defArgs s__law_coin) (defBody s__law_coin) (defScope s__law_coin) .none kV13 dc13 pm13 an13 cd13 ct13), sl13⟩) (c13 : PySem.W.codeIn K cd13 "_law_coin" = true) (k13 : PySem.W.keepIn K (.ref f13) = true)
    (a14 : PySem.W.nsIn K mainGlobals "_law_own" = some (some (.ref f14))) (l14 : K.lookup f14 = some ⟨oc14, od14, .func (PySem.W.fnOf "_law_own" "_law_own" (defArgs s__law_own) (defBody s__law_own) (defScope s__law_own) .none kV14 dc14 pm14 an14 cd14 ct14), sl14⟩) (c14 : PySem.W.codeIn K cd14 "_law_own" = true) (k14 : PySem.W.keepIn K (.ref f14) = true)
    (a15 : PySem.W.nsIn K mainGlobals "_law_signs" = some (some (.ref f15))) (l15 : K.lookup f15 = some ⟨oc15, od15, .func (PySem.W.fnOf "_law_signs" "_law_signs" (defArgs s__law_signs) (defBody s__law_signs) (defScope s__law_signs) .none kV15 dc15 pm15 an15 cd15 ct15), sl15⟩) (c15 : PySem.W.codeIn K cd15 "_law_signs" = true) (k15 : PySem.W.keepIn K (.ref f15) = true)
    (a16 : PySem.W.nsIn K mainGlobals "_law_ranges" = some (some (.ref f16))) (l16 : K.lookup f16 = some ⟨oc16, od16, .func (PySem.W.fnOf "_law_ranges" "_law_ranges" (defArgs s__law_ranges) (defBody s__law_ranges) (defScope s__law_ranges) .none kV16 dc16 pm16 an16 cd16 ct16), sl16⟩) (c16 : PySem.W.codeIn K cd16 "_law_ranges" = true) (k16 : PySem.W.keepIn K (.ref f16) = true)
    (a17 : PySem.W.nsIn K mainGlobals "_law_odd" = some (some (.ref f17))) (l17 : K.lookup f17 = some ⟨oc17, od17, .func (PySem.W.fnOf "_law_odd" "_law_odd" (defArgs s__law_odd) (defBody s__law_odd) (defScope s__law_odd) .none kV17 dc17 pm17 an17 cd17 ct17), sl17⟩) (c17 : PySem.W.codeIn K cd17 "_law_odd" = true) (k17 : PySem.W.keepIn K (.ref f17) = true)
    (a18 : PySem.W.nsIn K mainGlobals "_law_sign" = some (some (.ref f18))) (l18 : K.lookup f18 = some ⟨oc18, od18, .func (PySem.W.fnOf "_law_sign" "_law_sign" (defArgs s__law_sign) (defBody s__law_sign) (defScope s__law_sign) .none kV18 dc18 pm18 an18 cd18 ct18), sl18⟩) (c18 : PySem.W.codeIn K cd18 "_law_sign" = true) (k18 : PySem.W.keepIn K (.ref f18) = true)
    (a19 : PySem.W.nsIn K mainGlobals "_law_entry" = some (some (.ref f19))) (l19 : K.lookup f19 = some ⟨oc19, od19, .func (PySem.W.fnOf "_law_entry" "_law_entry" (defArgs s__law_entry) (defBody s__law_entry) (defScope s__law_entry) .none kV19 dc19 pm19 an19 cd19 ct19), sl19⟩) (c19 : PySem.W.codeIn K cd19 "_law_entry" = true) (k19 : PySem.W.keepIn K (.ref f19) = true)
    (a20 : PySem.W.nsIn K mainGlobals "_law_row" = some (some (.ref f20))) (l20 : K.lookup f20 = some ⟨oc20, od20, .func (PySem.W.fnOf "_law_row" "_law_row" (defArgs s__law_row) (defBody s__law_row) (defScope s__law_row) .none kV20 dc20 pm20 an20 cd20 ct20), sl20⟩) (c20 : PySem.W.codeIn K cd20 "_law_row" = true) (k20 : PySem.W.keepIn K (.ref f20) = true)
    (a21 : PySem.W.nsIn K mainGlobals "_law_arms_hold" = some (some (.ref f21))) (l21 : K.lookup f21 = some ⟨oc21, od21, .func (PySem.W.fnOf "_law_arms_hold" "_law_arms_hold" (defArgs s__law_arms_hold) (defBody s__law_arms_hold) (defScope s__law_arms_hold) .none kV21 dc21 pm21 an21 cd21 ct21), sl21⟩) (c21 : PySem.W.codeIn K cd21 "_law_arms_hold" = true) (k21 : PySem.W.keepIn K (.ref f21) = true)
    (a22 : PySem.W.nsIn K mainGlobals "first_apart" = some (some (.ref f22))) (l22 : K.lookup f22 = some ⟨oc22, od22, .func (PySem.W.fnOf "first_apart" "first_apart" (defArgs s_first_apart) (defBody s_first_apart) (defScope s_first_apart) .none kV22 dc22 pm22 an22 cd22 ct22), sl22⟩) (c22 : PySem.W.codeIn K cd22 "first_apart" = true) (k22 : PySem.W.keepIn K (.ref f22) = true)
    (a23 : PySem.W.nsIn K mainGlobals "same" = some (some (.ref f23))) (l23 : K.lookup f23 = some ⟨oc23, od23, .func (PySem.W.fnOf "same" "same" (defArgs s_same) (defBody s_same) (defScope s_same) .none kV23 dc23 pm23 an23 cd23 ct23), sl23⟩) (c23 : PySem.W.codeIn K cd23 "same" = true) (k23 : PySem.W.keepIn K (.ref f23) = true)
    (a24 : PySem.W.nsIn K mainGlobals "within" = some (some (.ref f24))) (l24 : K.lookup f24 = some ⟨oc24, od24, .func (PySem.W.fnOf "within" "within" (defArgs s_within) (defBody s_within) (defScope s_within) .none kV24 dc24 pm24 an24 cd24 ct24), sl24⟩) (c24 : PySem.W.codeIn K cd24 "within" = true) (k24 : PySem.W.keepIn K (.ref f24) = true)
    (a25 : PySem.W.nsIn K mainGlobals "common" = some (some (.ref f25))) (l25 : K.lookup f25 = some ⟨oc25, od25, .func (PySem.W.fnOf "common" "common" (defArgs s_common) (defBody s_common) (defScope s_common) .none kV25 dc25 pm25 an25 cd25 ct25), sl25⟩) (c25 : PySem.W.codeIn K cd25 "common" = true) (k25 : PySem.W.keepIn K (.ref f25) = true)
    (a26 : PySem.W.nsIn K mainGlobals "_law_asked_two" = some (some (.ref f26))) (l26 : K.lookup f26 = some ⟨oc26, od26, .func (PySem.W.fnOf "_law_asked_two" "_law_asked_two" (defArgs s__law_asked_two) (defBody s__law_asked_two) (defScope s__law_asked_two) .none kV26 dc26 pm26 an26 cd26 ct26), sl26⟩) (c26 : PySem.W.codeIn K cd26 "_law_asked_two" = true) (k26 : PySem.W.keepIn K (.ref f26) = true)
    (a27 : PySem.W.nsIn K mainGlobals "meets_plainly" = some (some (.ref f27))) (l27 : K.lookup f27 = some ⟨oc27, od27, .func (PySem.W.fnOf "meets_plainly" "meets_plainly" (defArgs s_meets_plainly) (defBody s_meets_plainly) (defScope s_meets_plainly) .none kV27 dc27 pm27 an27 cd27 ct27), sl27⟩) (c27 : PySem.W.codeIn K cd27 "meets_plainly" = true) (k27 : PySem.W.keepIn K (.ref f27) = true)
    (a28 : PySem.W.nsIn K mainGlobals "meets" = some (some (.ref f28))) (l28 : K.lookup f28 = some ⟨oc28, od28, .func (PySem.W.fnOf "meets" "meets" (defArgs s_meets) (defBody s_meets) (defScope s_meets) .none kV28 dc28 pm28 an28 cd28 ct28), sl28⟩) (c28 : PySem.W.codeIn K cd28 "meets" = true) (k28 : PySem.W.keepIn K (.ref f28) = true)
    (a29 : PySem.W.nsIn K mainGlobals "beginnings" = some (some (.ref f29))) (l29 : K.lookup f29 = some ⟨oc29, od29, .func (PySem.W.fnOf "beginnings" "beginnings" (defArgs s_beginnings) (defBody s_beginnings) (defScope s_beginnings) .none kV29 dc29 pm29 an29 cd29 ct29), sl29⟩) (c29 : PySem.W.codeIn K cd29 "beginnings" = true) (k29 : PySem.W.keepIn K (.ref f29) = true)
    (a30 : PySem.W.nsIn K mainGlobals "heads" = some (some (.ref f30))) (l30 : K.lookup f30 = some ⟨oc30, od30, .func (PySem.W.fnOf "heads" "heads" (defArgs s_heads) (defBody s_heads) (defScope s_heads) .none kV30 dc30 pm30 an30 cd30 ct30), sl30⟩) (c30 : PySem.W.codeIn K cd30 "heads" = true) (k30 : PySem.W.keepIn K (.ref f30) = true)
    (a31 : PySem.W.nsIn K mainGlobals "tails" = some (some (.ref f31))) (l31 : K.lookup f31 = some ⟨oc31, od31, .func (PySem.W.fnOf "tails" "tails" (defArgs s_tails) (defBody s_tails) (defScope s_tails) .none kV31 dc31 pm31 an31 cd31 ct31), sl31⟩) (c31 : PySem.W.codeIn K cd31 "tails" = true) (k31 : PySem.W.keepIn K (.ref f31) = true)
    (a32 : PySem.W.nsIn K mainGlobals "takes" = some (some (.ref f32))) (l32 : K.lookup f32 = some ⟨oc32, od32, .func (PySem.W.fnOf "takes" "takes" (defArgs s_takes) (defBody s_takes) (defScope s_takes) .none kV32 dc32 pm32 an32 cd32 ct32), sl32⟩) (c32 : PySem.W.codeIn K cd32 "takes" = true) (k32 : PySem.W.keepIn K (.ref f32) = true)
    (a33 : PySem.W.nsIn K mainGlobals "least_text" = some (some (.ref f33))) (l33 : K.lookup f33 = some ⟨oc33, od33, .func (PySem.W.fnOf "least_text" "least_text" (defArgs s_least_text) (defBody s_least_text) (defScope s_least_text) .none kV33 dc33 pm33 an33 cd33 ct33), sl33⟩) (c33 : PySem.W.codeIn K cd33 "least_text" = true) (k33 : PySem.W.keepIn K (.ref f33) = true)
    (a34 : PySem.W.nsIn K mainGlobals "least_entry" = some (some (.ref f34))) (l34 : K.lookup f34 = some ⟨oc34, od34, .func (PySem.W.fnOf "least_entry" "least_entry" (defArgs s_least_entry) (defBody s_least_entry) (defScope s_least_entry) .none kV34 dc34 pm34 an34 cd34 ct34), sl34⟩) (c34 : PySem.W.codeIn K cd34 "least_entry" = true) (k34 : PySem.W.keepIn K (.ref f34) = true)
    (a35 : PySem.W.nsIn K mainGlobals "shown_least" = some (some (.ref f35))) (l35 : K.lookup f35 = some ⟨oc35, od35, .func (PySem.W.fnOf "shown_least" "shown_least" (defArgs s_shown_least) (defBody s_shown_least) (defScope s_shown_least) .none kV35 dc35 pm35 an35 cd35 ct35), sl35⟩) (c35 : PySem.W.codeIn K cd35 "shown_least" = true) (k35 : PySem.W.keepIn K (.ref f35) = true)
    (a36 : PySem.W.nsIn K mainGlobals "_law_asked_one" = some (some (.ref f36))) (l36 : K.lookup f36 = some ⟨oc36, od36, .func (PySem.W.fnOf "_law_asked_one" "_law_asked_one" (defArgs s__law_asked_one) (defBody s__law_asked_one) (defScope s__law_asked_one) .none kV36 dc36 pm36 an36 cd36 ct36), sl36⟩) (c36 : PySem.W.codeIn K cd36 "_law_asked_one" = true) (k36 : PySem.W.keepIn K (.ref f36) = true)
    (a37 : PySem.W.nsIn K mainGlobals "_law_purse" = some (some (.ref f37))) (l37 : K.lookup f37 = some ⟨oc37, od37, .func (PySem.W.fnOf "_law_purse" "_law_purse" (defArgs s__law_purse) (defBody s__law_purse) (defScope s__law_purse) .none kV37 dc37 pm37 an37 cd37 ct37), sl37⟩) (c37 : PySem.W.codeIn K cd37 "_law_purse" = true) (k37 : PySem.W.keepIn K (.ref f37) = true)
    (a38 : PySem.W.nsIn K mainGlobals "law" = some (some (.ref f38))) (l38 : K.lookup f38 = some ⟨oc38, od38, .func (PySem.W.fnOf "law" "law" (defArgs s_law) (defBody s_law) (defScope s_law) .none kV38 dc38 pm38 an38 cd38 ct38), sl38⟩) (c38 : PySem.W.codeIn K cd38 "law" = true) (k38 : PySem.W.keepIn K (.ref f38) = true)
    (z_ValueError : PySem.W.nsIn K mainGlobals "ValueError" = some none)
    (z_abs : PySem.W.nsIn K mainGlobals "abs" = some none)
    (z_all : PySem.W.nsIn K mainGlobals "all" = some none)
    (z_any : PySem.W.nsIn K mainGlobals "any" = some none)
    (z_bool : PySem.W.nsIn K mainGlobals "bool" = some none)
    (z_dict : PySem.W.nsIn K mainGlobals "dict" = some none)
    (z_enumerate : PySem.W.nsIn K mainGlobals "enumerate" = some none)
    (z_int : PySem.W.nsIn K mainGlobals "int" = some none)
    (z_isinstance : PySem.W.nsIn K mainGlobals "isinstance" = some none)
    (z_len : PySem.W.nsIn K mainGlobals "len" = some none)
    (z_list : PySem.W.nsIn K mainGlobals "list" = some none)
    (z_max : PySem.W.nsIn K mainGlobals "max" = some none)
    (z_min : PySem.W.nsIn K mainGlobals "min" = some none)
    (z_range : PySem.W.nsIn K mainGlobals "range" = some none)
    (z_str : PySem.W.nsIn K mainGlobals "str" = some none)
    (z_super : PySem.W.nsIn K mainGlobals "super" = some none)
    (z_tuple : PySem.W.nsIn K mainGlobals "tuple" = some none)
    (z_zip : PySem.W.nsIn K mainGlobals "zip" = some none)
    (q_SIGNS : PySem.W.nsIn K mainGlobals "SIGNS" = some (some (Value.str c_SIGNS t_SIGNS)))
    (e_InvalidPattern : PySem.W.nsIn K mainGlobals "InvalidPattern" = some (some (.ref C_InvalidPattern)))
    (e_ShellError : PySem.W.nsIn K mainGlobals "ShellError" = some (some (.ref C_ShellError)))
    (e_InvalidTree : PySem.W.nsIn K mainGlobals "InvalidTree" = some (some (.ref C_InvalidTree)))
    (i_find : PySem.W.findIn K (.ref C_InvalidPattern) "__init__" = some (some (.ref fI)))
    (i_type : PySem.W.typeIn K (.ref fI) = some (.type "function"))
    (i_lk : K.lookup fI = some ⟨ioc, iod, .func (fdInit ikV idoc ipm ian icda ict icc), iosl⟩)
    (i_cd : PySem.W.codeIn K (.ref icda) qInit = true)
    (i_code : K.lookup icda = some ⟨iccl, icdd, .fields ivs, iccs⟩)
    (i_vs : ivs[2]? = some (.str ifile itf))
    (i_file : ((l.prog.main.file : Str) == ifile) = true)
    (i_cell : K.lookup icc = some ⟨icl, icld, .cell (some (.ref iD)), icsl⟩)
    (i_D : PySem.W.clsIn K iD = some icdD)
    (i_op : PySem.W.nsIn K cStatics "thirdparty.any" = some none)
    (i_top : (l.prog.main.scope.names.lookup ("super" : Str)).isSome = false)
    (n_get : PySem.W.specialIn K (.builtin "object.__class__") "__get__" = some (some (.builtin "getset_descriptor.__get__")))
    (n_takes : PySem.W.takesIn K (.builtin "object.__class__") = some true)
    (t_InvalidPattern : PySem.W.typeIn K (.ref C_InvalidPattern) = some (.type "type"))
    (hd_InvalidPattern : PySem.W.hasDictIn K C_InvalidPattern = true)
    (b_InvalidPattern : PySem.W.subIn K (.ref C_InvalidPattern) (.type "BaseException") = some true)
    (t_ShellError : PySem.W.typeIn K (.ref C_ShellError) = some (.type "type"))
    (hd_ShellError : PySem.W.hasDictIn K C_ShellError = true)
    (b_ShellError : PySem.W.subIn K (.ref C_ShellError) (.type "BaseException") = some true)
    (t_InvalidTree : PySem.W.typeIn K (.ref C_InvalidTree) = some (.type "type"))
    (hd_InvalidTree : PySem.W.hasDictIn K C_InvalidTree = true)
    (b_InvalidTree : PySem.W.subIn K (.ref C_InvalidTree) (.type "BaseException") = some true)
    (o1_InvalidPattern : K.lookup C_InvalidPattern = some (PySem.excClassObj nm_InvalidPattern qn_InvalidPattern C_InvalidPattern N_InvalidPattern bs_InvalidPattern bm_InvalidPattern true sn_InvalidPattern sb_InvalidPattern ab_InvalidPattern col_InvalidPattern dd_InvalidPattern k0_InvalidPattern k1_InvalidPattern k2_InvalidPattern k3_InvalidPattern k5_InvalidPattern "ValueError.__new__"))
    (o2_InvalidPattern : PySem.HandSPX.refsVE bm_InvalidPattern = true)
    (o3_InvalidPattern : PySem.W.findIn K (.ref C_InvalidPattern) "__setattr__" = some (some (.builtin "object.__setattr__")))
    (o6_InvalidPattern : PySem.W.keepIn K (.ref C_InvalidPattern) = true)
    (s1_InvalidPattern : PySem.W.mroIn K C_InvalidPattern (.ref iD) = some true)
    (s2_InvalidPattern : PySem.W.ks_superIn K C_InvalidPattern iD "__init__" = some (some (.builtin "ValueError.__init__")))
    (s3_InvalidPattern : PySem.W.subIn K (.ref C_InvalidPattern) (.type "ValueError") = some true)
    (v1_InvalidPattern : PySem.W.findIn K (.ref C_InvalidPattern) "value" = some none)
    (g1_InvalidPattern : PySem.W.findIn K (.ref C_InvalidPattern) "__getattribute__" = some (some (.builtin "BaseException.__getattribute__")))
    (g2_InvalidPattern : PySem.W.findIn K (.ref C_InvalidPattern) "__getattr__" = some none)
    (g3_InvalidPattern : PySem.W.findIn K (.ref C_InvalidPattern) "__class__" = some (some (.builtin "object.__class__")))
    (g4_InvalidPattern : PySem.W.mroIn K C_InvalidPattern (.type "object") = some true)
    (u_InvalidPattern_ShellError : PySem.W.subIn K (.ref C_InvalidPattern) (.ref C_ShellError) = some true)
    (w_InvalidPattern_InvalidPattern : PySem.W.kitOne K (.ref C_InvalidPattern) (.ref C_InvalidPattern) = some true)
    (wn_NoneType_InvalidPattern : PySem.W.kitOne K (.type "NoneType") (.ref C_InvalidPattern) = some false)
    (w_InvalidPattern_ValueError : PySem.W.kitOne K (.ref C_InvalidPattern) (.type "ValueError") = some true)
    (wn_NoneType_ValueError : PySem.W.kitOne K (.type "NoneType") (.type "ValueError") = some false)
    (w_InvalidPattern_InvalidTree : PySem.W.kitOne K (.ref C_InvalidPattern) (.ref C_InvalidTree) = some false)
    (wn_NoneType_InvalidTree : PySem.W.kitOne K (.type "NoneType") (.ref C_InvalidTree) = some false) :
    ∃ fd : FuncData, (∀ (s : Shared) (v : Value), BindsTo s fd ⟨[v], []⟩ [("_law_script", v)]) ∧ ∀ base : Heap, K.In base → base.Ns mainGlobals mg → FnOk l.prog w K mg base (L2.CX l.prog w) 11 fa fd ["_law_script"] (spL K 1 G_law) := by
  have Bl : BlT mg := ⟨PySem.W.mg_none_of X G z_ValueError, PySem.W.mg_none_of X G z_abs, PySem.W.mg_none_of X G z_all, PySem.W.mg_none_of X G z_any, PySem.W.mg_none_of X G z_bool, PySem.W.mg_none_of X G z_dict, PySem.W.mg_none_of X G z_enumerate, PySem.W.mg_none_of X G z_int, PySem.W.mg_none_of X G z_isinstance, PySem.W.mg_none_of X G z_len, PySem.W.mg_none_of X G z_list, PySem.W.mg_none_of X G z_max, PySem.W.mg_none_of X G z_min, PySem.W.mg_none_of X G z_range, PySem.W.mg_none_of X G z_str, PySem.W.mg_none_of X G z_super, PySem.W.mg_none_of X G z_tuple, PySem.W.mg_none_of X G z_zip⟩
  have Gs : GsT K mg := ⟨⟨_, PySem.W.mg_of X G q_SIGNS, _, rfl⟩⟩
  have Kl : ∀ base : Heap, KlT l.prog w K mg base := fun base => ⟨⟨⟨C_InvalidPattern, iD, fI, _, PySem.W.mg_of X G e_InvalidPattern, e_InvalidPattern, ⟨⟨_, _, _, _, _, _, _, _, _, _, _, _, _, _, _, o1_InvalidPattern, o2_InvalidPattern⟩, o3_InvalidPattern, b_InvalidPattern, t_InvalidPattern, o6_InvalidPattern⟩, ⟨s1_InvalidPattern, s2_InvalidPattern, s3_InvalidPattern⟩, v1_InvalidPattern, i_find, i_type, init_ok i_lk i_cd i_code i_vs i_file i_cell i_D (PySem.W.mg_none_of X G z_super) i_op i_top, init_binds⟩⟩, ⟨C_ShellError, PySem.W.mg_of X G e_ShellError, (subs_cons e_InvalidPattern (PySem.W.exm_ref b_ShellError hd_ShellError t_ShellError u_InvalidPattern_ShellError) subs_nil)⟩, ⟨C_InvalidPattern, PySem.W.mg_of X G e_InvalidPattern, (isX_cons e_InvalidPattern ⟨g1_InvalidPattern, g2_InvalidPattern, b_InvalidPattern, hd_InvalidPattern, g3_InvalidPattern, n_get, n_takes, g4_InvalidPattern⟩ w_InvalidPattern_InvalidPattern (isX_kind wn_NoneType_InvalidPattern isX_nil))⟩, (isX_cons e_InvalidPattern ⟨g1_InvalidPattern, g2_InvalidPattern, b_InvalidPattern, hd_InvalidPattern, g3_InvalidPattern, n_get, n_takes, g4_InvalidPattern⟩ w_InvalidPattern_ValueError (isX_kind wn_NoneType_ValueError isX_nil)), ⟨C_InvalidTree, PySem.W.mg_of X G e_InvalidTree, (isX_cons e_InvalidPattern ⟨g1_InvalidPattern, g2_InvalidPattern, b_InvalidPattern, hd_InvalidPattern, g3_InvalidPattern, n_get, n_takes, g4_InvalidPattern⟩ w_InvalidPattern_InvalidTree (isX_kind wn_NoneType_InvalidTree isX_nil))⟩, (List.forall_mem_cons.mpr ⟨excV_of e_InvalidPattern v1_InvalidPattern ⟨g1_InvalidPattern, g2_InvalidPattern, b_InvalidPattern, hd_InvalidPattern, g3_InvalidPattern, n_get, n_takes, g4_InvalidPattern⟩, (fun _ h => nomatch h)⟩)⟩
  have D : DfT K mg := ⟨⟨_, _, fun_mk (st := s__law_same) l0 c0 k0, PySem.W.mg_of X G a0⟩, ⟨_, _, fun_mk (st := s__law_spoil) l1 c1 k1, PySem.W.mg_of X G a1⟩, ⟨_, _, fun_mk (st := s__law_is_refusal) l2 c2 k2, PySem.W.mg_of X G a2⟩, ⟨_, _, fun_mk (st := s_fresh) l3 c3 k3, PySem.W.mg_of X G a3⟩, ⟨_, _, fun_mk (st := s_is_sign) l4 c4 k4, PySem.W.mg_of X G a4⟩, ⟨_, _, fun_mk (st := s_is_range) l5 c5 k5, PySem.W.mg_of X G a5⟩, ⟨_, _, fun_mk (st := s_is_entry) l6 c6 k6, PySem.W.mg_of X G a6⟩, ⟨_, _, fun_mk (st := s_is_pattern) l7 c7 k7, PySem.W.mg_of X G a7⟩, ⟨_, _, fun_mk (st := s_check_patterns) l8 c8 k8, PySem.W.mg_of X G a8⟩, ⟨_, _, fun_mk (st := s_all_of) l9 c9 k9, PySem.W.mg_of X G a9⟩, ⟨_, _, fun_mk (st := s_never_met) l10 c10 k10, PySem.W.mg_of X G a10⟩, ⟨_, _, fun_mk (st := s_unmet) l11 c11 k11, PySem.W.mg_of X G a11⟩, ⟨_, _, fun_mk (st := s__law_asked_arms) l12 c12 k12, PySem.W.mg_of X G a12⟩, ⟨_, _, fun_mk (st := s__law_coin) l13 c13 k13, PySem.W.mg_of X G a13⟩, ⟨_, _, fun_mk (st := s__law_own) l14 c14 k14, PySem.W.mg_of X G a14⟩, ⟨_, _, fun_mk (st := s__law_signs) l15 c15 k15, PySem.W.mg_of X G a15⟩, ⟨_, _, fun_mk (st := s__law_ranges) l16 c16 k16, PySem.W.mg_of X G a16⟩, ⟨_, _, fun_mk (st := s__law_odd) l17 c17 k17, PySem.W.mg_of X G a17⟩, ⟨_, _, fun_mk (st := s__law_sign) l18 c18 k18, PySem.W.mg_of X G a18⟩, ⟨_, _, fun_mk (st := s__law_entry) l19 c19 k19, PySem.W.mg_of X G a19⟩, ⟨_, _, fun_mk (st := s__law_row) l20 c20 k20, PySem.W.mg_of X G a20⟩, ⟨_, _, fun_mk (st := s__law_arms_hold) l21 c21 k21, PySem.W.mg_of X G a21⟩, ⟨_, _, fun_mk (st := s_first_apart) l22 c22 k22, PySem.W.mg_of X G a22⟩, ⟨_, _, fun_mk (st := s_same) l23 c23 k23, PySem.W.mg_of X G a23⟩, ⟨_, _, fun_mk (st := s_within) l24 c24 k24, PySem.W.mg_of X G a24⟩, ⟨_, _, fun_mk (st := s_common) l25 c25 k25, PySem.W.mg_of X G a25⟩, ⟨_, _, fun_mk (st := s__law_asked_two) l26 c26 k26, PySem.W.mg_of X G a26⟩, ⟨_, _, fun_mk (st := s_meets_plainly) l27 c27 k27, PySem.W.mg_of X G a27⟩, ⟨_, _, fun_mk (st := s_meets) l28 c28 k28, PySem.W.mg_of X G a28⟩, ⟨_, _, fun_mk (st := s_beginnings) l29 c29 k29, PySem.W.mg_of X G a29⟩, ⟨_, _, fun_mk (st := s_heads) l30 c30 k30, PySem.W.mg_of X G a30⟩, ⟨_, _, fun_mk (st := s_tails) l31 c31 k31, PySem.W.mg_of X G a31⟩, ⟨_, _, fun_mk (st := s_takes) l32 c32 k32, PySem.W.mg_of X G a32⟩, ⟨_, _, fun_mk (st := s_least_text) l33 c33 k33, PySem.W.mg_of X G a33⟩, ⟨_, _, fun_mk (st := s_least_entry) l34 c34 k34, PySem.W.mg_of X G a34⟩, ⟨_, _, fun_mk (st := s_shown_least) l35 c35 k35, PySem.W.mg_of X G a35⟩, ⟨_, _, fun_mk (st := s__law_asked_one) l36 c36 k36, PySem.W.mg_of X G a36⟩, ⟨_, _, fun_mk (st := s__law_purse) l37 c37 k37, PySem.W.mg_of X G a37⟩, ⟨_, _, fun_mk (st := s_law) l38 c38 k38, PySem.W.mg_of X G a38⟩⟩
  refine ⟨PySem.W.fnOf "law" "law" (defArgs s_law) (defBody s_law) (defScope s_law) .none kV38 dc38 pm38 an38 cd38 ct38, fun s v => .of_eq rfl, fun base _ _ => ?_⟩
  refine FnOk.imp ?_ (spL_spF (mg := mg))
  exact calF_end (cal_law (P := l.prog) (w := w) (base := base) Bl Gs (Kl base) D) hfa (fun_mk (st := s_law) l38 c38 k38) (PySem.W.mg_of X G a38)
end
theorem walk (plain : ∀ ns : List Int, ns.length ≤ 63 → ∃ B', G_law [.scr ns] [] = .ok (.bl true) B') {l : PySem.W.OpenLaw} {q : Program} {loose : List Str} {XP : (Str → Option Value) → Heap → Prop} {YP : World → Heap → Prop} {d : DefRec} {K : Params → PySem.W.Frag} (hn : l.most = some 63) (hdf : d.params.defaults = [])
    (hY : ∀ (w : World) (h : Heap), YP w h → (K w.params).In h)
    (F : ∀ (w : World) (mg : Str → Option Value) (fa : Addr) (h : Heap), (K w.params).In h → h.Ns mainGlobals mg → mg d.name = some (.ref fa) →
      ∃ fd : FuncData, (∀ (s : Shared) (u : Value), BindsTo s fd ⟨[u], []⟩ [("_law_script", u)]) ∧ ∀ base : Heap, (K w.params).In base → base.Ns mainGlobals mg → FnOk l.prog w (K w.params) mg base (L2.CX l.prog w) 11 fa fd ["_law_script"] (spL (K w.params) 1 G_law)) :
    PySem.W.WalkO q loose XP YP l.row.toRowW d [] (fun f vs => PySem.call f vs) :=
  L2.walk_of (n := 63) (k := 11) (x := "_law_script") (CX := fun w => L2.CX l.prog w) (sp := fun w => spL (K w.params) 1 G_law) hn (by decide) hdf ⟨rfl, by decide, by decide⟩ hY F (fun _ H a ns hl _ hS => spF_law plain H a ns hl hS) fun _ _ _ _ _ z => by obtain ⟨_, _, _, _, _, _, _, _, _, _, _, _, y⟩ := z; exact y
end LawW
/-! S22a: a tree whose lists are cells of its own. -/
namespace LawW
open PySem L2 QB
mutual
/-- u is the tree d, its lists as cells a, .., b - 1 -/
def Ow (B : Bx) : U → Nat → Nat → U → Prop
  | .non, a, b, u => u = .non ∧ a = b
  | .bl x, a, b, u => u = .bl x ∧ a = b
  | .int x, a, b, u => u = .int x ∧ a = b
  | .str x, a, b, u => u = .str x ∧ a = b
  | .tup ds, a, b, u => ∃ us, u = .tup us ∧ Ows B ds a b us
  | .lst ds, a, b, u => ∃ us j, u = .box j ∧ b = j + 1 ∧ B[j]? = some (.lst us) ∧ Ows B ds a j us
  | .dct _ _, _, _, _ => False
  | .box _, _, _, _ => False
  | .scr _, _, _, _ => False
  | .exc _ _, _, _, _ => False
def Ows (B : Bx) : List U → Nat → Nat → List U → Prop
  | [], a, b, us => us = [] ∧ a = b
  | d :: ds, a, b, us => ∃ u r c, us = u :: r ∧ Ow B d a c u ∧ Ows B ds c b r
end
mutual
theorem Ow.le {B : Bx} : ∀ (d : U) {a b : Nat} {u : U}, Ow B d a b u → a ≤ b
  | .non, _, _, _, h => by rw [Ow] at h; exact Nat.le_of_eq h.2
  | .bl _, _, _, _, h => by rw [Ow] at h; exact Nat.le_of_eq h.2
  | .int _, _, _, _, h => by rw [Ow] at h; exact Nat.le_of_eq h.2
  | .str _, _, _, _, h => by rw [Ow] at h; exact Nat.le_of_eq h.2
  | .tup ds, _, _, _, h => by rw [Ow] at h; obtain ⟨us, _, h⟩ := h; exact Ows.le ds h
  | .lst ds, _, _, _, h => by rw [Ow] at h; obtain ⟨us, j, _, rfl, _, h⟩ := h; exact Nat.le_succ_of_le (Ows.le ds h)
  | .dct _ _, _, _, _, h => by rw [Ow] at h; exact h.elim
  | .box _, _, _, _, h => by rw [Ow] at h; exact h.elim
  | .scr _, _, _, _, h => by rw [Ow] at h; exact h.elim
  | .exc _ _, _, _, _, h => by rw [Ow] at h; exact h.elim
theorem Ows.le {B : Bx} : ∀ (ds : List U) {a b : Nat} {us : List U}, Ows B ds a b us → a ≤ b
  | [], _, _, _, h => by rw [Ows] at h; exact Nat.le_of_eq h.2
  | d :: ds, _, _, _, h => by rw [Ows] at h; obtain ⟨u, r, c, _, h1, h2⟩ := h; exact Nat.le_trans (Ow.le d h1) (Ows.le ds h2)
end
mutual
theorem Ow.frame {B B' : Bx} : ∀ (d : U) {a b : Nat} {u : U}, Ow B d a b u → (∀ j, a ≤ j → j < b → B'[j]? = B[j]?) → Ow B' d a b u
  | .non, _, _, _, h, _ => by rw [Ow] at h ⊢; exact h
  | .bl _, _, _, _, h, _ => by rw [Ow] at h ⊢; exact h
  | .int _, _, _, _, h, _ => by rw [Ow] at h ⊢; exact h
  | .str _, _, _, _, h, _ => by rw [Ow] at h ⊢; exact h
  | .tup ds, _, _, _, h, g => by rw [Ow] at h ⊢; obtain ⟨us, e, h⟩ := h; exact ⟨us, e, Ows.frame ds h g⟩
  | .lst ds, _, _, _, h, g => by
    rw [Ow] at h ⊢
    obtain ⟨us, j, e, rfl, h1, h⟩ := h
    exact ⟨us, j, e, rfl, by rw [g j (Ows.le ds h) (Nat.lt_succ_self _)]; exact h1, Ows.frame ds h fun k h1 h2 => g k h1 (Nat.lt_succ_of_lt h2)⟩
  | .dct _ _, _, _, _, h, _ => by rw [Ow] at h; exact h.elim
  | .box _, _, _, _, h, _ => by rw [Ow] at h; exact h.elim
  | .scr _, _, _, _, h, _ => by rw [Ow] at h; exact h.elim
  | .exc _ _, _, _, _, h, _ => by rw [Ow] at h; exact h.elim
theorem Ows.frame {B B' : Bx} : ∀ (ds : List U) {a b : Nat} {us : List U}, Ows B ds a b us → (∀ j, a ≤ j → j < b → B'[j]? = B[j]?) → Ows B' ds a b us
  | [], _, _, _, h, _ => by rw [Ows] at h ⊢; exact h
  | d :: ds, _, _, _, h, g => by
    rw [Ows] at h ⊢
    obtain ⟨u, r, c, e, h1, h2⟩ := h
    have l1 := Ow.le d h1
    have l2 := Ows.le ds h2
    exact ⟨u, r, c, e, Ow.frame d h1 fun j x y => g j x (by omega), Ows.frame ds h2 fun j x y => g j (by omega) y⟩
end
theorem Ows.snoc {B : Bx} : ∀ {ds : List U} {a c b : Nat} {us : List U} {d u : U}, Ows B ds a c us → Ow B d c b u → Ows B (ds ++ [d]) a b (us ++ [u])
  | [], a, c, b, us, d, u, h, g => by
    rw [Ows] at h
    obtain ⟨rfl, rfl⟩ := h
    show Ows B [d] a b [u]
    rw [Ows]
    exact ⟨u, [], b, rfl, g, by rw [Ows]; exact ⟨rfl, rfl⟩⟩
  | e :: ds, a, c, b, us, d, u, h, g => by
    rw [Ows] at h
    obtain ⟨v, r, k, rfl, h1, h2⟩ := h
    show Ows B (e :: (ds ++ [d])) a b (v :: (r ++ [u]))
    rw [Ows]
    exact ⟨v, r ++ [u], k, rfl, h1, Ows.snoc h2 g⟩
theorem Ows.len {B : Bx} : ∀ {ds : List U} {a b : Nat} {us : List U}, Ows B ds a b us → us.length = ds.length
  | [], _, _, _, h => by rw [Ows] at h; rw [h.1]
  | d :: ds, _, _, _, h => by rw [Ows] at h; obtain ⟨u, r, c, rfl, _, h2⟩ := h; rw [List.length_cons, List.length_cons, Ows.len h2]
theorem Ow.app {B X : Bx} {d : U} {a b : Nat} {u : U} (h : Ow B d a b u) (hb : b ≤ B.length) : Ow (B ++ X) d a b u := Ow.frame d h fun j _ h2 => List.getElem?_append_left (by omega)
theorem Ows.app {B X : Bx} {ds : List U} {a b : Nat} {us : List U} (h : Ows B ds a b us) (hb : b ≤ B.length) : Ows (B ++ X) ds a b us := Ows.frame ds h fun j _ h2 => List.getElem?_append_left (by omega)
theorem own_lc {g : Fn} {E : En} {ds : List U} {fi : Iv} {B : Bx} (hi : fi E B = .ok (ds, yes) E B) (hw : E[1]? = some .un) (hl : ds.length ≤ 20000) (hg : ∀ d ∈ ds, ∀ B, ∃ u X, g [d] B = .ok u (B ++ X) ∧ Ow (B ++ X) d B.length (B ++ X).length u) :
    ∃ us X, mLc fi (bdN 1) mYes (mCall g (mCons (mVar 1) mNil)) [1] E B = .ok (.fr (.lst us)) E (B ++ X) ∧ Ows (B ++ X) ds B.length (B ++ X).length us := by
  have hl1 : 1 < E.length := (List.getElem?_eq_some_iff.mp hw).1
  have wE : ∀ s, (E.set 1 s).set 1 .un = E := fun s => by
    rw [List.set_set]
    refine List.ext_getElem? fun j => ?_
    by_cases hj : 1 = j
    · subst hj; rw [List.getElem?_set_self hl1, hw]
    · rw [List.getElem?_set_ne hj]
  have w0 : E.set 1 .un = E := by have := wE .un; rwa [List.set_set] at this
  have k := okP_lcM (id : U → U) (bd := bdN 1) (f := mCall g (mCons (mVar 1) mNil)) (ks := [1]) (xs := ds) (E := E) (E1 := E) (B := B) (B1 := B) (Q := fun r E' B' => ∃ us X, r = .fr (.lst us) ∧ E' = E ∧ B' = B ++ X ∧ Ows B' ds B.length B'.length us) (show fi E B = .ok (ds.map id, yes) E B by rw [List.map_id]; exact hi) (by simp [noOwn, hw]) (by simp [w0]) (by omega)
    (fun q acc B' => ∃ X pre, B' = B ++ X ∧ ds = pre ++ q ∧ Ows B' pre B.length B'.length acc) ⟨[], [], by simp, rfl, by rw [Ows]; exact ⟨rfl, rfl⟩⟩
    (by
      rintro x q acc B' ⟨X, pre, rfl, e, ho⟩
      obtain ⟨u, Y, g1, g2⟩ := hg x (by rw [e]; simp) (B ++ X)
      refine BdIs_of (E := E.set 1 (.val x)) (by show bdN 1 x E = _; unfold bdN; rw [hw]) ⟨by simp [wE], .w u, u, B ++ X ++ Y, ?_, rfl, X ++ Y, pre ++ [x], by simp, by simp [e], (ho.app (Nat.le_refl _)).snoc g2⟩
      simp [hl1, g1])
    (by
      rintro acc B' ⟨X, pre, rfl, e, ho⟩
      rw [List.append_nil] at e
      subst e
      exact ⟨acc, X, rfl, rfl, rfl, ho⟩)
  obtain ⟨r, E', B', e, us, X, rfl, rfl, rfl, h⟩ := k.get
  exact ⟨us, X, e, h⟩
theorem own_ok : ∀ (n : Nat) (d : U), Wf n d → ∀ B, ∃ u X, G__law_own n [d] B = .ok u (B ++ X) ∧ Ow (B ++ X) d B.length (B ++ X).length u
  | 0, _, h, _ => h.elim
  | n + 1, d, h, B => by
    have atom : ∀ (d : U), (∀ B, G__law_own (n + 1) [d] B = .ok d B) → (∀ B a, Ow B d a a d) → ∃ u X, G__law_own (n + 1) [d] B = .ok u (B ++ X) ∧ Ow (B ++ X) d B.length (B ++ X).length u := fun d h1 h2 =>
      ⟨d, [], by rw [List.append_nil]; exact h1 B, by rw [List.append_nil]; exact h2 B _⟩
    cases d with
    | non => exact atom _ (fun B => by simp [G__law_own, runBody, b__law_own]) fun B a => by rw [Ow]; exact ⟨rfl, rfl⟩
    | bl x => exact atom _ (fun B => by simp [G__law_own, runBody, b__law_own]) fun B a => by rw [Ow]; exact ⟨rfl, rfl⟩
    | int x => exact atom _ (fun B => by simp [G__law_own, runBody, b__law_own]) fun B a => by rw [Ow]; exact ⟨rfl, rfl⟩
    | str x => exact atom _ (fun B => by simp [G__law_own, runBody, b__law_own]) fun B a => by rw [Ow]; exact ⟨rfl, rfl⟩
    | lst ds =>
      obtain ⟨us, X, e, ho⟩ := own_lc (g := G__law_own n) (E := [.val (.lst ds), .un]) (ds := ds) (fi := mItV (mVar 0)) (B := B) (by simp) rfl h.1 fun d hd => own_ok n d (h.2 d hd)
      have e2 : lc__law_own_1 (G__law_own n) [.val (.lst ds), .un] B = _ := e
      refine ⟨.box (B ++ X).length, X ++ [.lst us], by simp [G__law_own, runBody, b__law_own, e2], ?_⟩
      rw [Ow]
      refine ⟨us, (B ++ X).length, rfl, by simp; omega, by rw [← List.append_assoc]; simp, ?_⟩
      rw [← List.append_assoc]
      exact ho.app (Nat.le_refl _)
    | tup ds =>
      obtain ⟨us, X, e, ho⟩ := own_lc (g := G__law_own n) (E := [.val (.tup ds), .un]) (ds := ds) (fi := mItV (mVar 0)) (B := B) (by simp) rfl h.1 fun d hd => own_ok n d (h.2 d hd)
      have e2 : lc__law_own_0 (G__law_own n) [.val (.tup ds), .un] B = _ := e
      refine ⟨.tup us, X, by simp [G__law_own, runBody, b__law_own, e2], ?_⟩
      rw [Ow]
      exact ⟨us, rfl, ho⟩
    | dct _ _ => exact h.elim
    | box _ => exact h.elim
    | scr _ => exact h.elim
    | exc _ _ => exact h.elim
end LawW
/-! S22b: spoiled, put anew. -/
namespace LawW
open PySem L2 QB
/-- what a spoiling may do to the cells -/
def Kept (B B' : Bx) (a b : Nat) : Prop := B'.length = B.length ∧ ∀ j, (j < a ∨ b ≤ j) → B'[j]? = B[j]?
theorem Kept.refl {B : Bx} {a b : Nat} : Kept B B a b := ⟨rfl, fun _ _ => rfl⟩
theorem Kept.trans {B B' B'' : Bx} {a b : Nat} (h : Kept B B' a b) (g : Kept B' B'' a b) : Kept B B'' a b := ⟨g.1.trans h.1, fun j hj => (g.2 j hj).trans (h.2 j hj)⟩
theorem Kept.wide {B B' : Bx} {a b c d : Nat} (h : Kept B B' a b) (h1 : c ≤ a) (h2 : b ≤ d) : Kept B B' c d := ⟨h.1, fun j hj => h.2 j (by omega)⟩
theorem spoil_for {g : Fn} {u : U} {ds : List U} {us : List U} {B : Bx} {a b : Nat} {fi : Iv} {Q : Fl → En → Bx → Prop} (hi : fi [.val u, .un] B = .ok (us, yes) [.val u, .un] B) (ho : Ows B ds a b us) (hb : b ≤ B.length)
    (hg : ∀ d ∈ ds, ∀ B a b v, Ow B d a b v → b ≤ B.length → ∃ B', g [v] B = .ok .non B' ∧ Kept B B' a b)
    (q : ∀ s B', Free s → Kept B B' a b → Q .nx [.val u, s] B') : OkP (sFor fi (bdN 1) (sExpr (mCall g (mCons (mVar 1) mNil))) [.val u, .un] B) Q := by
  refine okP_forM (id : U → U) (xs := us) (E1 := [.val u, .un]) (B1 := B) (by rw [List.map_id]; exact hi)
    (fun r E B' => ∃ (s : Sl) (ds' : List U) (c : Nat), E = [.val u, s] ∧ Free s ∧ a ≤ c ∧ (∀ d ∈ ds', d ∈ ds) ∧ Ows B' ds' c b r ∧ Kept B B' a b) ⟨.un, ds, a, rfl, free_un, Nat.le_refl _, fun _ h => h, ho, Kept.refl⟩ ?_ ?_
  · rintro x r E B' ⟨s, ds', c, rfl, fs, hc, hm, ho, kp⟩
    cases ds' with
    | nil => rw [Ows] at ho; cases ho.1
    | cons d ds' =>
      rw [Ows] at ho
      obtain ⟨v, r', k, e, h1, h2⟩ := ho
      cases e
      have l1 := Ow.le d h1
      have l2 := Ows.le ds' h2
      obtain ⟨B2, g1, g2⟩ := hg d (hm d (List.mem_cons_self ..)) B' c k x h1 (by rw [kp.1]; omega)
      refine BdIs_of (E := [.val u, .val x]) (by rcases fs with rfl | ⟨_, rfl⟩ <;> simp) (body_go ?_)
      refine okP_lock fun LQ hLQ => ?_
      simp [g1]
      exact hLQ _ _ _ (loop_nx ⟨.val x, ds', k, rfl, free_val, by omega, fun d hd => hm d (List.mem_cons_of_mem _ hd), Ows.frame ds' h2 fun j x y => g2.2 j (.inr x), kp.trans (g2.wide hc l2)⟩)
  · rintro E B' ⟨s, ds', c, rfl, fs, _, _, _, kp⟩
    exact q s B' fs kp
theorem spoil_ok : ∀ (n : Nat) (d : U), Wf n d → ∀ B a b u, Ow B d a b u → b ≤ B.length → ∃ B', G__law_spoil n [u] B = .ok .non B' ∧ Kept B B' a b
  | 0, _, h, _, _, _, _, _, _ => h.elim
  | n + 1, d, h, B, a, b, u, ho, hb => by
    have fin : (∃ v B', G__law_spoil (n + 1) [u] B = .ok v B' ∧ v = .non ∧ Kept B B' a b) → ∃ B', G__law_spoil (n + 1) [u] B = .ok .non B' ∧ Kept B B' a b := fun ⟨v, B', e, h1, h2⟩ => ⟨B', by rw [e, h1], h2⟩
    have atom : G__law_spoil (n + 1) [u] B = .ok .non B → ∃ B', G__law_spoil (n + 1) [u] B = .ok .non B' ∧ Kept B B' a b := fun e => ⟨B, e, Kept.refl⟩
    cases d with
    | non => rw [Ow] at ho; obtain ⟨rfl, rfl⟩ := ho; exact atom (by simp [G__law_spoil, runBody, b__law_spoil])
    | bl x => rw [Ow] at ho; obtain ⟨rfl, rfl⟩ := ho; exact atom (by simp [G__law_spoil, runBody, b__law_spoil])
    | int x => rw [Ow] at ho; obtain ⟨rfl, rfl⟩ := ho; exact atom (by simp [G__law_spoil, runBody, b__law_spoil])
    | str x => rw [Ow] at ho; obtain ⟨rfl, rfl⟩ := ho; exact atom (by simp [G__law_spoil, runBody, b__law_spoil])
    | tup ds =>
      rw [Ow] at ho
      obtain ⟨us, rfl, ho⟩ := ho
      refine fin ?_
      simp only [G__law_spoil]
      refine run_p rfl ?_
      simp only [b__law_spoil, List.map_cons, List.map_nil, List.length_cons, List.length_nil, Nat.reduceAdd, Nat.reduceSub, List.replicate_succ, List.replicate_zero, List.cons_append, List.nil_append, Nat.zero_add, Nat.sub_self, List.append_nil]
      refine okP_seqT ?_
      refine okP_ift0 (by simp; done) ?_
      simp only [lp__law_spoil_0]
      refine spoil_for (us := us) (by simp) ho hb (fun d hd B a b v h1 h2 => spoil_ok n d (h.2 d hd) B a b v h1 h2) fun s B' fs kp => ?_
      refine then_nx ?_
      refine okP_lock fun LQ hLQ => ?_
      simp
      exact hLQ _ _ _ (ret_pn ⟨rfl, kp⟩)
    | lst ds =>
      rw [Ow] at ho
      obtain ⟨us, j, rfl, rfl, hj, ho⟩ := ho
      have la := Ows.le ds ho
      have hul : us.length < 16777216 := by rw [ho.len]; have := h.1; omega
      refine fin ?_
      simp only [G__law_spoil]
      refine run_p rfl ?_
      simp only [b__law_spoil, List.map_cons, List.map_nil, List.length_cons, List.length_nil, Nat.reduceAdd, Nat.reduceSub, List.replicate_succ, List.replicate_zero, List.cons_append, List.nil_append, Nat.zero_add, Nat.sub_self, List.append_nil]
      refine okP_seqT ?_
      refine okP_ift0 (by simp [hj]; done) ?_
      simp only [lp__law_spoil_0]
      refine spoil_for (us := us) (by simp [hj]) ho (by omega) (fun d hd B a b v h1 h2 => spoil_ok n d (h.2 d hd) B a b v h1 h2) fun s B' fs kp => ?_
      have hj2 : B'[j]? = some (.lst us) := by rw [kp.2 j (.inr (Nat.le_refl _)), hj]
      have hjl : j < B'.length := (List.getElem?_eq_some_iff.mp hj2).1
      refine then_nx ?_
      refine okP_lock fun LQ hLQ => ?_
      simp [hj2, hul]
      refine hLQ _ _ _ (ret_pn ⟨rfl, by simp [kp.1], fun k hk => ?_⟩)
      rw [List.getElem?_set_ne (by omega)]
      exact kp.2 k (by omega)
    | dct _ _ => exact h.elim
    | box _ => exact h.elim
    | scr _ => exact h.elim
    | exc _ _ => exact h.elim
theorem fresh_lc {g : Fn} {E : En} {ds us : List U} {fi : Iv} {B : Bx} {chk : Bx → Prop} (hi : fi E B = .ok (us, chk) E B) (hc : chk B) (hw : E[1]? = some .un) (hl : us.length ≤ 20000) (hd : us.length = ds.length) (hg : ∀ (i : Nat) (u d : U), us[i]? = some u → ds[i]? = some d → g [u] B = .ok d B) :
    mLc fi (bdN 1) mYes (mCall g (mCons (mVar 1) mNil)) [1] E B = .ok (.fr (.lst ds)) E B := by
  have hl1 : 1 < E.length := (List.getElem?_eq_some_iff.mp hw).1
  have wE : ∀ s, (E.set 1 s).set 1 .un = E := fun s => by
    rw [List.set_set]
    refine List.ext_getElem? fun j => ?_
    by_cases hj : 1 = j
    · subst hj; rw [List.getElem?_set_self hl1, hw]
    · rw [List.getElem?_set_ne hj]
  have w0 : E.set 1 .un = E := by have := wE .un; rwa [List.set_set] at this
  have eu : (us.zip ds).map (fun p : U × U => p.1) = us := List.map_fst_zip (by omega)
  have ed : (us.zip ds).map (fun p : U × U => p.2) = ds := List.map_snd_zip (by omega)
  have k := mLc_ifB (fun p : U × U => p.1) (fun _ => true) (fun p : U × U => p.2) (bd := bdN 1) (t := mYes) (f := mCall g (mCons (mVar 1) mNil)) (ks := [1]) (xs := us.zip ds) (E := E) (B := B) (chk := chk) (fi := fi) (by rw [eu]; exact hi) hc (by simp [noOwn, hw]) (by simp [w0]) (by rw [List.length_zip]; omega)
    (fun p hp => by
      obtain ⟨i, hi⟩ := List.mem_iff_getElem?.mp hp
      obtain ⟨h1, h2⟩ := List.getElem?_zip_eq_some.mp hi
      refine BdIs_of (E := E.set 1 (.val p.1)) (by show bdN 1 p.1 E = _; unfold bdN; rw [hw]) ⟨by simp [wE], by simp [Tst], fun _ => ?_⟩
      simp [Elt, hl1, hg i p.1 p.2 h1 h2])
  rw [fil_true] at k
  rw [ed] at k
  exact k
theorem Ows.at {B : Bx} : ∀ {ds : List U} {a b : Nat} {us : List U}, Ows B ds a b us → ∀ (i : Nat) (u d : U), us[i]? = some u → ds[i]? = some d → ∃ x y, Ow B d x y u
  | [], _, _, _, h, i, u, d, h1, h2 => by simp at h2
  | e :: ds, _, _, _, h, i, u, d, h1, h2 => by
    rw [Ows] at h
    obtain ⟨v, r, c, rfl, g1, g2⟩ := h
    cases i with
    | zero => simp at h1 h2; subst h1 h2; exact ⟨_, _, g1⟩
    | succ i => exact Ows.at g2 i u d (by simpa using h1) (by simpa using h2)
theorem fresh_ok : ∀ (n : Nat) (d : U), Wf n d → ∀ B a b u, Ow B d a b u → G_fresh n [u] B = .ok d B
  | 0, _, h, _, _, _, _, _ => h.elim
  | n + 1, d, h, B, a, b, u, ho => by
    cases d with
    | non => rw [Ow] at ho; obtain ⟨rfl, rfl⟩ := ho; simp [G_fresh, runBody, b_fresh]
    | bl x => rw [Ow] at ho; obtain ⟨rfl, rfl⟩ := ho; simp [G_fresh, runBody, b_fresh]
    | int x => rw [Ow] at ho; obtain ⟨rfl, rfl⟩ := ho; simp [G_fresh, runBody, b_fresh]
    | str x => rw [Ow] at ho; obtain ⟨rfl, rfl⟩ := ho; simp [G_fresh, runBody, b_fresh]
    | tup ds =>
      rw [Ow] at ho
      obtain ⟨us, rfl, ho⟩ := ho
      have e := fresh_lc (g := G_fresh n) (E := [.val (.tup us), .un, .un]) (us := us) (ds := ds) (fi := mItV (mVar 0)) (B := B) (chk := yes) (by simp) trivial rfl (by rw [ho.len]; exact h.1) ho.len fun i u d h1 h2 => by
        obtain ⟨x, y, k⟩ := ho.at i u d h1 h2
        exact fresh_ok n d (h.2 d (List.mem_of_getElem? h2)) B x y u k
      have e2 : lc_fresh_0 (G_fresh n) [.val (.tup us), .un, .un] B = _ := e
      simp [G_fresh, runBody, b_fresh, e2]
    | lst ds =>
      rw [Ow] at ho
      obtain ⟨us, j, rfl, rfl, hj, ho⟩ := ho
      have e := fresh_lc (g := G_fresh n) (E := [.val (.box j), .un, .un]) (us := us) (ds := ds) (fi := mItV (mVar 0)) (B := B) (chk := fun B' => B'[j]? = some (.lst us)) (by simp [e_items_box hj]) hj rfl (by rw [ho.len]; exact h.1) ho.len fun i u d h1 h2 => by
        obtain ⟨x, y, k⟩ := ho.at i u d h1 h2
        exact fresh_ok n d (h.2 d (List.mem_of_getElem? h2)) B x y u k
      have e2 : lc_fresh_1 (G_fresh n) [.val (.box j), .un, .un] B = _ := e
      simp [G_fresh, runBody, b_fresh, e2, hj]
    | dct _ _ => exact h.elim
    | box _ => exact h.elim
    | scr _ => exact h.elim
    | exc _ _ => exact h.elim
end LawW
/-! S22c: == of trees in cells; entries. -/
namespace LawW
open PySem L2 QB
theorem toDB_ow {B : Bx} : ∀ (n m : Nat) (d : U) {a b : Nat} {u : U}, Flt n d → n ≤ m → Ow B d a b u → toDB B m u = toD d
  | 0, _, _, _, _, _, h, _, _ => h.elim
  | n + 1, 0, _, _, _, _, _, h, _ => by omega
  | n + 1, m + 1, d, a, b, u, h, hm, ho => by
    have many : ∀ (ds : List U) (a b : Nat) (us : List U), (∀ v ∈ ds, Flt n v) → Ows B ds a b us → mapO (toDB B m) us = toDs ds := by
      intro ds
      induction ds with
      | nil => intro a b us _ h; rw [Ows] at h; rw [h.1]; rfl
      | cons d ds ih =>
        intro a b us hf h
        rw [Ows] at h
        obtain ⟨v, r, c, rfl, h1, h2⟩ := h
        simp only [mapO, toDs]
        rw [toDB_ow n m d (hf d (List.mem_cons_self ..)) (by omega) h1, ih c b r (fun v hv => hf v (List.mem_cons_of_mem _ hv)) h2]
        all_goals (cases toD d <;> cases toDs ds <;> rfl)
    cases d with
    | non => rw [Ow] at ho; obtain ⟨rfl, rfl⟩ := ho; rfl
    | bl x => rw [Ow] at ho; obtain ⟨rfl, rfl⟩ := ho; rfl
    | int x => rw [Ow] at ho; obtain ⟨rfl, rfl⟩ := ho; rfl
    | str x => rw [Ow] at ho; obtain ⟨rfl, rfl⟩ := ho; rfl
    | tup ds => rw [Ow] at ho; obtain ⟨us, rfl, ho⟩ := ho; simp only [toDB, toD]; rw [many ds a b us h ho]
    | lst ds => rw [Ow] at ho; obtain ⟨us, j, rfl, rfl, hj, ho⟩ := ho; simp only [toDB, toD, hj]; rw [many ds a j us h ho]
    | dct _ _ => exact h.elim
    | box _ => exact h.elim
    | scr _ => exact h.elim
    | exc _ _ => exact h.elim
theorem toDB_flt {B : Bx} : ∀ (n m : Nat) (d : U), Flt n d → n ≤ m → toDB B m d = toD d
  | 0, _, _, h, _ => h.elim
  | n + 1, 0, _, _, h => by omega
  | n + 1, m + 1, d, h, hm => by
    have many : ∀ (ds : List U), (∀ v ∈ ds, Flt n v) → mapO (toDB B m) ds = toDs ds := by
      intro ds
      induction ds with
      | nil => intro _; rfl
      | cons d ds ih =>
        intro hf
        simp only [mapO, toDs]
        rw [toDB_flt n m d (hf d (List.mem_cons_self ..)) (by omega), ih (fun v hv => hf v (List.mem_cons_of_mem _ hv))]
        all_goals (cases toD d <;> cases toDs ds <;> rfl)
    cases d with
    | non => rfl
    | bl x => rfl
    | int x => rfl
    | str x => rfl
    | tup ds => simp only [toDB, toD]; rw [many ds h]
    | lst ds => simp only [toDB, toD]; rw [many ds h]
    | dct _ _ => exact h.elim
    | box _ => exact h.elim
    | scr _ => exact h.elim
    | exc _ _ => exact h.elim
theorem eqB_ow {B : Bx} {n : Nat} (hn : n ≤ 8) {d e u : U} {a b : Nat} (h1 : Flt n d) (ho : Ow B d a b u) (h2 : Flt n e) : eqB B u e = some (eqT d e) := by
  obtain ⟨x, a1, a2, a3⟩ := flt_toD n d h1
  obtain ⟨y, b1, b2, b3⟩ := flt_toD n e h2
  have s1 : SeqAt.shaped x = true := by unfold SeqAt.shaped; rw [a2, decide_eq_true (show x.depth ≤ 64 by omega)]; rfl
  have s2 : SeqAt.shaped y = true := by unfold SeqAt.shaped; rw [b2, decide_eq_true (show y.depth ≤ 64 by omega)]; rfl
  unfold eqB
  rw [toDB_ow n 8 d h1 hn ho, toDB_flt n 8 e h2 hn, a1, b1]
  simp only [s1, s2, Bool.and_self, if_true]
  rw [eqv_eqT n d e x y h1 a1 b1 (flt_scr h2) h2]
/-! ### ranges -/
/-- flat tuples of texts stay what they are -/
def Fl1 (d : U) : Prop := ∃ zs : List Str, d = .tup (zs.map .str)
theorem ows_flat {B : Bx} : ∀ {zs : List Str} {a b : Nat} {us : List U}, Ows B (zs.map .str) a b us → us = zs.map .str ∧ a = b
  | [], _, _, _, h => by rw [List.map_nil, Ows] at h; exact h
  | z :: zs, _, _, _, h => by
    rw [List.map_cons, Ows] at h
    obtain ⟨u, r, c, rfl, h1, h2⟩ := h
    rw [Ow] at h1
    obtain ⟨rfl, rfl⟩ := h1
    obtain ⟨rfl, rfl⟩ := ows_flat h2
    exact ⟨rfl, rfl⟩
theorem Fl1.ow {B : Bx} {d u : U} {a b : Nat} (h : Fl1 d) (ho : Ow B d a b u) : u = d ∧ a = b := by
  obtain ⟨zs, rfl⟩ := h
  rw [Ow] at ho
  obtain ⟨us, rfl, ho⟩ := ho
  obtain ⟨rfl, rfl⟩ := ows_flat ho
  exact ⟨rfl, rfl⟩
theorem ows_flats {B : Bx} : ∀ {ds : List U} {a b : Nat} {us : List U}, (∀ d ∈ ds, Fl1 d) → Ows B ds a b us → us = ds ∧ a = b
  | [], _, _, _, _, h => by rw [Ows] at h; exact h
  | d :: ds, _, _, _, hf, h => by
    rw [Ows] at h
    obtain ⟨u, r, c, rfl, h1, h2⟩ := h
    obtain ⟨rfl, rfl⟩ := (hf d (List.mem_cons_self ..)).ow h1
    obtain ⟨rfl, rfl⟩ := ows_flats (fun v hv => hf v (List.mem_cons_of_mem _ hv)) h2
    exact ⟨rfl, rfl⟩
end LawW
/-! S22d: entries, good ones and bad ones. -/
namespace LawW
open PySem L2 QB
abbrev Rg := Nat × Nat
def uR (r : Rg) : U := .tup [.str (ofC [r.1]), .str (ofC [r.2])]
inductive Ent where | lot | any | one (c : Nat) | of (n : Bool) (rs : List Rg)
def uE : Ent → U
  | .lot => .tup [.str (ofC [108, 111, 116])]
  | .any => .tup [.str (ofC [97, 110, 121])]
  | .one c => .tup [.str (ofC [111, 110, 101]), .str (ofC [c])]
  | .of n rs => .tup [.str (ofC [111, 102]), .bl n, .lst (rs.map uR)]
def sgs : List Nat := 10 :: ((List.range 95).map (· + 32)).filter (· != 37)
theorem lit_S : c_SIGNS = ofC sgs := by rw [lit_SIGNS]; decide +kernel
theorem sgs_lt : ∀ c ∈ sgs, c < 127 := by decide
def RgOk (r : Rg) : Prop := r.1 ∈ sgs ∧ r.2 ∈ sgs ∧ r.1 ≤ r.2
def EntOk (e : Ent) : Prop := match e with
  | .one c => c ∈ sgs
  | .of _ rs => rs ≠ [] ∧ rs.length ≤ 1000 ∧ ∀ r ∈ rs, RgOk r
  | _ => True
theorem okS_sg {c : Nat} (h : c ∈ sgs) : okS (ofC [c]) = true := by
  have : c < 127 := sgs_lt c h
  revert this h
  revert c
  decide +kernel
theorem is_sign_ok {c : Nat} (h : c ∈ sgs) (B : Bx) : G_is_sign [.str (ofC [c])] B = .ok (.bl true) B := by
  have e : inU (.str (ofC [c])) (.str c_SIGNS) = some true := by rw [lit_S, e_in_1, decide_eq_true h]
  have e2 : b_is_sign = sRet (mAndV (m1 (gIsi "str") (mVar 0)) (mAndV (m2 gEq (m1 gLen (mVar 0)) (mC (.int 1))) (m2 (gIn false) (mVar 0) (mC (.str c_SIGNS))))) := rfl
  rw [G_is_sign, e2]
  generalize c_SIGNS = z at e
  simp [runBody, e]
theorem is_sign_no {l : List Nat} (h : l.length ≠ 1) (hl : l.length ≤ 1000) (B : Bx) : G_is_sign [.str (ofC l)] B = .ok (.bl false) B := by
  have e2 : b_is_sign = sRet (mAndV (m1 (gIsi "str") (mVar 0)) (mAndV (m2 gEq (m1 gLen (mVar 0)) (mC (.int 1))) (m2 (gIn false) (mVar 0) (mC (.str c_SIGNS))))) := rfl
  rw [G_is_sign, e2]
  generalize c_SIGNS = z
  have h2 : l.length ≤ 16777216 := by omega
  have h3 : ((l.length : Int) == 1) = false := by simp; omega
  simp [runBody, h2, h3]
theorem is_range_ok {r : Rg} (h : RgOk r) (B : Bx) : G_is_range [uR r] B = .ok (.bl true) B := by
  obtain ⟨h1, h2, h3⟩ := h
  have n : ¬ r.2 < r.1 := by omega
  simp [G_is_range, runBody, b_is_range, uR, is_sign_ok h1 B, is_sign_ok h2 B, n]
theorem fl_uR (r : Rg) : Fl1 (uR r) := ⟨[ofC [r.1], ofC [r.2]], rfl⟩
/-- what is no range -/
def BadR (d : U) : Prop := Fl1 d ∧ Wf 2 d ∧ ∀ B, G_is_range [d] B = .ok (.bl false) B
theorem badR_1 {r : Rg} (h1 : r.1 ∈ sgs) (h2 : r.2 ∈ sgs) (h3 : r.2 < r.1) : BadR (uR r) := by
  refine ⟨fl_uR r, ⟨by simp, fun v hv => ?_⟩, fun B => ?_⟩
  · rcases List.mem_cons.mp hv with rfl | hv
    · exact okS_sg h1
    · rw [List.mem_singleton] at hv; subst hv; exact okS_sg h2
  · simp [G_is_range, runBody, b_is_range, uR, is_sign_ok h1 B, is_sign_ok h2 B, h3]
theorem sg_a : 97 ∈ sgs := by decide
theorem badR_2 : BadR (.tup [.str (ofC [97])]) := ⟨⟨[ofC [97]], rfl⟩, ⟨by simp, fun v hv => by rw [List.mem_singleton] at hv; subst hv; exact okS_sg sg_a⟩, fun B => by simp [G_is_range, runBody, b_is_range]⟩
theorem okS_0 : okS (ofC []) = true := by decide +kernel
theorem okS_bc : okS (ofC [98, 99]) = true := by decide +kernel
theorem okS_b : okS (ofC [98]) = true := by decide +kernel
theorem okS_c : okS (ofC [99]) = true := by decide +kernel
theorem okS_ab : okS (ofC [97, 98]) = true := by decide +kernel
theorem badR_3 : BadR (.tup [.str (ofC [97]), .str (ofC [98]), .str (ofC [99])]) := ⟨⟨[ofC [97], ofC [98], ofC [99]], rfl⟩, ⟨by simp, fun v hv => by simp at hv; rcases hv with rfl | rfl | rfl; exact okS_sg sg_a; exact okS_b; exact okS_c⟩, fun B => by simp [G_is_range, runBody, b_is_range]⟩
theorem badR_4 : BadR (.tup [.str (ofC []), .str (ofC [97])]) := ⟨⟨[ofC [], ofC [97]], rfl⟩, ⟨by simp, fun v hv => by simp at hv; rcases hv with rfl | rfl; exact okS_0; exact okS_sg sg_a⟩, fun B => by simp [G_is_range, runBody, b_is_range, is_sign_no (l := []) (by simp) (by simp) B]⟩
theorem badR_5 : BadR (.tup [.str (ofC [97]), .str (ofC [98, 99])]) := ⟨⟨[ofC [97], ofC [98, 99]], rfl⟩, ⟨by simp, fun v hv => by simp at hv; rcases hv with rfl | rfl; exact okS_sg sg_a; exact okS_bc⟩, fun B => by simp [G_is_range, runBody, b_is_range, is_sign_ok sg_a B, is_sign_no (l := [98, 99]) (by simp) (by simp) B]⟩
theorem badR_6 : BadR (.tup []) := ⟨⟨[], rfl⟩, ⟨by simp, fun v hv => by cases hv⟩, fun B => by simp [G_is_range, runBody, b_is_range]⟩
theorem badR_7 : BadR (.tup [.str (ofC [97]), .str (ofC [])]) := ⟨⟨[ofC [97], ofC []], rfl⟩, ⟨by simp, fun v hv => by simp at hv; rcases hv with rfl | rfl; exact okS_sg sg_a; exact okS_0⟩, fun B => by simp [G_is_range, runBody, b_is_range, is_sign_ok sg_a B, is_sign_no (l := []) (by simp) (by simp) B]⟩
theorem okS_lot : okS (ofC [108, 111, 116]) = true := by decide +kernel
theorem okS_any : okS (ofC [97, 110, 121]) = true := by decide +kernel
theorem okS_one : okS (ofC [111, 110, 101]) = true := by decide +kernel
theorem okS_of : okS (ofC [111, 102]) = true := by decide +kernel
theorem in_1 : inU (.str (ofC [108, 111, 116])) (.tup [.str (ofC [97, 110, 121]), .str (ofC [108, 111, 116])]) = some true := by decide +kernel
theorem in_2 : inU (.str (ofC [97, 110, 121])) (.tup [.str (ofC [97, 110, 121]), .str (ofC [108, 111, 116])]) = some true := by decide +kernel
theorem in_3 : inU (.str (ofC [111, 110, 101])) (.tup [.str (ofC [97, 110, 121]), .str (ofC [108, 111, 116])]) = some false := by decide +kernel
theorem in_4 : inU (.str (ofC [111, 102])) (.tup [.str (ofC [97, 110, 121]), .str (ofC [108, 111, 116])]) = some false := by decide +kernel
theorem eqB_flt {B : Bx} {n : Nat} (hn : n ≤ 8) {d e : U} (h1 : Flt n d) (h2 : Flt n e) : eqB B d e = some (eqT d e) := by
  obtain ⟨x, a1, a2, a3⟩ := flt_toD n d h1
  obtain ⟨y, b1, b2, b3⟩ := flt_toD n e h2
  have s1 : SeqAt.shaped x = true := by unfold SeqAt.shaped; rw [a2, decide_eq_true (show x.depth ≤ 64 by omega)]; rfl
  have s2 : SeqAt.shaped y = true := by unfold SeqAt.shaped; rw [b2, decide_eq_true (show y.depth ≤ 64 by omega)]; rfl
  unfold eqB
  rw [toDB_flt n 8 d h1 hn, toDB_flt n 8 e h2 hn, a1, b1]
  simp only [s1, s2, Bool.and_self, if_true]
  rw [eqv_eqT n d e x y h1 a1 b1 (flt_scr h2) h2]
theorem flt_nil {n : Nat} : Flt (n + 1) (.lst []) := fun v hv => by cases hv
theorem flt_tnil {n : Nat} : Flt (n + 1) (.tup []) := fun v hv => by cases hv
theorem eqT_tnil {d : U} {ds : List U} : eqT (.tup (d :: ds)) (.tup []) = false := rfl
theorem not_nil {B : Bx} {d : U} {ds : List U} {a b : Nat} {u : U} (h : Wf 5 (.tup (d :: ds))) (ho : Ow B (.tup (d :: ds)) a b u) : gEqB B u (.tup []) = some (.w (.bl false)) := by
  unfold gEqB
  rw [eqB_ow (n := 5) (by decide) h.flt ho flt_tnil]
  rfl
/-- an "of" -/
theorem entry_of {n : Bool} {ds : List U} {p : U → Bool} (hf : ∀ d ∈ ds, Fl1 d) (hw : ∀ d ∈ ds, Wf 2 d) (hl : ds.length ≤ 1000) (hp : ∀ d ∈ ds, ∀ B, G_is_range [d] B = .ok (.bl (p d)) B) {B : Bx} {a b : Nat} {u : U} (ho : Ow B (.tup [.str (ofC [111, 102]), .bl n, .lst ds]) a b u) :
    G_is_entry [u] B = .ok (.bl (!ds.isEmpty && ds.all p)) B := by
  have w3 : Wf 3 (.lst ds) := ⟨by omega, hw⟩
  have w4 : Wf 5 (.tup [.str (ofC [111, 102]), .bl n, .lst ds]) := ⟨by simp, fun v hv => by
    simp at hv
    rcases hv with rfl | rfl | rfl
    · exact okS_of
    · trivial
    · exact w3.mono (by decide)⟩
  have q := not_nil w4 ho
  simp only [Ow, Ows] at ho
  obtain ⟨us, rfl, u1, r1, c1, rfl, ⟨rfl, rfl⟩, u2, r2, c2, rfl, ⟨rfl, rfl⟩, u3, r3, c3, rfl, ⟨vs, j, rfl, rfl, hj, hv⟩, rfl, rfl⟩ := ho
  obtain ⟨rfl, rfl⟩ := ows_flats hf hv
  have q2 : gNeB B (.lst vs) (.lst []) = some (.w (.bl (!vs.isEmpty))) := by
    unfold gNeB
    rw [eqB_flt (n := 3) (by decide) w3.flt flt_nil]
    cases vs <;> rfl
  have lc : lc_is_entry_0 G_is_range [.val (.tup [.str (ofC [111, 102]), .bl n, .box a]), .un] B = .ok (.fr (.lst (vs.map fun d => .bl (p d)))) [.val (.tup [.str (ofC [111, 102]), .bl n, .box a]), .un] B := by
    have := mLc_ifB (id : U → U) (fun _ => true) (fun d => .bl (p d)) (fi := mItV (m2 gIx (mVar 0) (mC (.int 2)))) (bd := bdN 1) (t := mYes) (f := mCall G_is_range (mCons (mVar 1) (mNil))) (ks := [1]) (xs := vs) (E := [.val (.tup [.str (ofC [111, 102]), .bl n, .box a]), .un]) (B := B) (chk := fun B' => B'[a]? = some (.lst vs))
      (by rw [List.map_id]; simp [e_items_box hj]) hj (by simp) (by simp) (by omega) (fun d hd => by
        refine BdIs_of (E := [.val (.tup [.str (ofC [111, 102]), .bl n, .box a]), .val d]) (by simp) ⟨by simp, by simp [Tst], fun _ => ?_⟩
        simp [Elt, hp d hd B])
    rw [fil_true] at this
    exact this
  have an := e_all' (l := vs) (p := p)
  simp only [G_is_entry]
  refine run_is rfl ?_
  simp only [b_is_entry, List.map_cons, List.map_nil, List.length_cons, List.length_nil, Nat.reduceAdd, Nat.reduceSub, List.replicate_succ, List.replicate_zero, List.cons_append, List.nil_append, Nat.zero_add, Nat.sub_self, List.append_nil]
  refine okP_seqL fun LQ hLQ => ?_
  simp [q]
  refine hLQ _ _ _ (then_nx ?_)
  clear hLQ LQ
  refine okP_seqL fun LQ hLQ => ?_
  simp [in_4]
  refine hLQ _ _ _ (then_nx ?_)
  clear hLQ LQ
  refine okP_seqL fun LQ hLQ => ?_
  simp
  refine hLQ _ _ _ (then_nx ?_)
  clear hLQ LQ
  refine okP_seqL fun LQ hLQ => ?_
  simp
  refine hLQ _ _ _ (then_nx ?_)
  clear hLQ LQ
  refine okP_lock fun LQ hLQ => ?_
  cases he : vs.isEmpty with
  | true =>
    rw [he] at q2
    simp [hj, q2]
    exact hLQ _ _ _ (ret_is' (by rw [he]; first | rfl | simp) rfl)
  | false =>
    rw [he] at q2
    simp [hj, q2]
    simp [lc, an]
    exact hLQ _ _ _ (ret_is' (by rw [he]; first | rfl | simp) rfl)
/-- the entries that are none -/
def badL : List U := [.tup [.str (ofC [111, 110, 101]), .str (ofC [])], .tup [.str (ofC [111, 110, 101]), .str (ofC [97, 98])], .tup [.str (ofC [111, 110, 101])], .tup [.str (ofC [111, 110, 101]), .str (ofC [97]), .str (ofC [98])],
  .tup [.str (ofC [97, 110, 121]), .str (ofC [97])], .tup [.str (ofC [108, 111, 116]), .str (ofC [42])], .tup [.str (ofC [115, 111, 109, 101])], .tup [.str (ofC [])],
  .tup [.str (ofC [111, 110, 101, 115]), .str (ofC [97])], .tup [.str (ofC [111, 102]), .bl false, .lst []], .tup [.str (ofC [111, 102]), .bl true, .lst []], .tup [.str (ofC [111, 102]), .bl true],
  .tup [.str (ofC [111, 102]), .bl false, .lst [.tup [.str (ofC [97]), .str (ofC [98])]], .str (ofC [99])], .tup []]
/-- an element of a row: an entry, or none -/
inductive Itm : Bool → U → Prop where
  | good {e : Ent} (h : EntOk e) : Itm true (uE e)
  | of {n : Bool} {rs qs : List Rg} {x : U} (h1 : ∀ r ∈ rs, RgOk r) (h2 : ∀ r ∈ qs, RgOk r) (hl : rs.length + qs.length ≤ 900) (hx : BadR x) : Itm false (.tup [.str (ofC [111, 102]), .bl n, .lst (rs.map uR ++ x :: qs.map uR)])
  | odd {d : U} (h : d ∈ badL) : Itm false d
theorem wf_uR {r : Rg} (h : RgOk r) : Wf 2 (uR r) := ⟨by simp, fun v hv => by
  rcases List.mem_cons.mp hv with rfl | hv
  · exact okS_sg h.1
  · rw [List.mem_singleton] at hv; subst hv; exact okS_sg h.2.1⟩
theorem okS_odd : okS (ofC [42]) = true ∧ okS (ofC [115, 111, 109, 101]) = true ∧ okS (ofC [111, 110, 101, 115]) = true ∧ okS (ofC [97]) = true := by decide +kernel
theorem wf_badL : ∀ d ∈ badL, Wf 4 d := by
  obtain ⟨o1, o2, o3, o4⟩ := okS_odd
  have o5 := okS_lot
  have o6 := okS_any
  have o7 := okS_one
  have o8 := okS_of
  have o9 := okS_0
  have oa := okS_b
  have ob := okS_c
  have oc := okS_ab
  intro d hd
  simp only [badL, List.mem_cons, List.not_mem_nil, or_false] at hd
  rcases hd with rfl | rfl | rfl | rfl | rfl | rfl | rfl | rfl | rfl | rfl | rfl | rfl | rfl | rfl <;> simp [Wf, o1, o2, o3, o4, o5, o6, o7, o8, o9, oa, ob, oc]
theorem Itm.wf {b : Bool} {d : U} (h : Itm b d) : Wf 5 d := by
  cases h with
  | odd h => exact (wf_badL d h).mono (by decide)
  | of h1 h2 hl hx =>
    refine ⟨by simp, fun v hv => ?_⟩
    simp only [List.mem_cons, List.not_mem_nil, or_false] at hv
    rcases hv with rfl | rfl | rfl
    · exact okS_of
    · trivial
    · refine ⟨by simp; omega, fun v hv => ?_⟩
      have w : Wf 2 v := by
        rcases List.mem_append.mp hv with hv | hv
        · obtain ⟨r, hr, rfl⟩ := List.mem_map.mp hv; exact wf_uR (h1 r hr)
        · rcases List.mem_cons.mp hv with rfl | hv
          · exact hx.2.1
          · obtain ⟨r, hr, rfl⟩ := List.mem_map.mp hv; exact wf_uR (h2 r hr)
      exact w.mono (by decide)
  | @good e h =>
    cases e with
    | lot => exact ⟨by simp, fun v hv => by rw [List.mem_singleton] at hv; subst hv; exact okS_lot⟩
    | any => exact ⟨by simp, fun v hv => by rw [List.mem_singleton] at hv; subst hv; exact okS_any⟩
    | one c =>
      refine ⟨by simp, fun v hv => ?_⟩
      rcases List.mem_cons.mp hv with rfl | hv
      · exact okS_one
      · rw [List.mem_singleton] at hv; subst hv; exact okS_sg h
    | of b rs =>
      refine ⟨by simp, fun v hv => ?_⟩
      simp only [List.mem_cons, List.not_mem_nil, or_false] at hv
      rcases hv with rfl | rfl | rfl
      · exact okS_of
      · trivial
      · obtain ⟨h1, h2, h3⟩ := h
        refine ⟨by simp; omega, fun v hv => ?_⟩
        obtain ⟨r, hr, rfl⟩ := List.mem_map.mp hv
        exact (wf_uR (h3 r hr)).mono (by decide)
open Classical in
theorem entry_ow {k : Bool} {d : U} (h : Itm k d) {B : Bx} {a b : Nat} {u : U} (ho : Ow B d a b u) : G_is_entry [u] B = .ok (.bl k) B := by
  have hw := h.wf
  cases h with
  | odd h =>
    have key : ∀ {d0 : U} {ds : List U}, Wf 5 (.tup (d0 :: ds)) → Ow B (.tup (d0 :: ds)) a b u → gEqB B u (.tup []) = some (.w (.bl false)) := fun w o => not_nil w o
    have n0 : gNeB B (.lst []) (.lst []) = some (.w (.bl false)) := by
      unfold gNeB
      rw [eqB_flt (n := 1) (by decide) flt_nil flt_nil]
      rfl
    have t0 : gEqB B (.tup []) (.tup []) = some (.w (.bl true)) := by
      unfold gEqB
      rw [eqB_flt (n := 1) (by decide) flt_tnil flt_tnil]
      rfl
    have i5 : inU (.str (ofC [115, 111, 109, 101])) (.tup [.str (ofC [97, 110, 121]), .str (ofC [108, 111, 116])]) = some false := by decide +kernel
    have i6 : inU (.str (ofC [])) (.tup [.str (ofC [97, 110, 121]), .str (ofC [108, 111, 116])]) = some false := by decide +kernel
    have i7 : inU (.str (ofC [111, 110, 101, 115])) (.tup [.str (ofC [97, 110, 121]), .str (ofC [108, 111, 116])]) = some false := by decide +kernel
    have s0 := is_sign_no (l := []) (by simp) (by simp) B
    have s2 := is_sign_no (l := [97, 98]) (by simp) (by simp) B
    simp only [badL, List.mem_cons, List.not_mem_nil, or_false] at h
    rcases h with rfl | rfl | rfl | rfl | rfl | rfl | rfl | rfl | rfl | rfl | rfl | rfl | rfl | rfl
    all_goals first
      | (have q := key hw ho
         simp only [Ow, Ows] at ho
         obtain ⟨us, rfl, u1, r1, c1, rfl, ⟨rfl, rfl⟩, rfl, rfl⟩ := ho
         simp [G_is_entry, runBody, b_is_entry, q, in_1, in_2, in_3, in_4, i5, i6, i7]
         done)
      | (have q := key hw ho
         simp only [Ow, Ows] at ho
         obtain ⟨us, rfl, u1, r1, c1, rfl, ⟨rfl, rfl⟩, u2, r2, c2, rfl, ⟨rfl, rfl⟩, rfl, rfl⟩ := ho
         simp [G_is_entry, runBody, b_is_entry, q, in_1, in_2, in_3, in_4, i5, i6, i7, s0, s2]
         done)
      | (have q := key hw ho
         simp only [Ow, Ows] at ho
         obtain ⟨us, rfl, u1, r1, c1, rfl, ⟨rfl, rfl⟩, u2, r2, c2, rfl, ⟨rfl, rfl⟩, u3, r3, c3, rfl, ⟨rfl, rfl⟩, rfl, rfl⟩ := ho
         simp [G_is_entry, runBody, b_is_entry, q, in_1, in_2, in_3, in_4, i5, i6, i7]
         done)
      | (have q := key hw ho
         simp only [Ow, Ows] at ho
         obtain ⟨us, rfl, u1, r1, c1, rfl, ⟨rfl, rfl⟩, u2, r2, c2, rfl, ⟨rfl, rfl⟩, u3, r3, c3, rfl, ⟨vs, j, rfl, rfl, hj, rfl, rfl⟩, rfl, rfl⟩ := ho
         simp [G_is_entry, runBody, b_is_entry, q, in_1, in_2, in_3, in_4, hj, n0]
         done)
      | (have q := key hw ho
         simp only [Ow, Ows] at ho
         obtain ⟨us, rfl, u1, r1, c1, rfl, ⟨rfl, rfl⟩, u2, r2, c2, rfl, ⟨rfl, rfl⟩, u3, r3, c3, rfl, ⟨vs, j, rfl, rfl, hj, hv⟩, u4, r4, c4, rfl, ⟨rfl, rfl⟩, rfl, rfl⟩ := ho
         simp [G_is_entry, runBody, b_is_entry, q, in_1, in_2, in_3, in_4, hj]
         done)
      | (simp only [Ow, Ows] at ho
         obtain ⟨us, rfl, rfl, rfl⟩ := ho
         simp [G_is_entry, runBody, b_is_entry, t0]
         done)
  | @of n rs qs x h1 h2 hl hx =>
    have memc : ∀ d ∈ rs.map uR ++ x :: qs.map uR, (∃ r, d = uR r ∧ RgOk r) ∨ BadR d := fun d hd => by
      rcases List.mem_append.mp hd with hd | hd
      · obtain ⟨r, hr, rfl⟩ := List.mem_map.mp hd; exact .inl ⟨r, rfl, h1 r hr⟩
      · rcases List.mem_cons.mp hd with rfl | hd
        · exact .inr hx
        · obtain ⟨r, hr, rfl⟩ := List.mem_map.mp hd; exact .inl ⟨r, rfl, h2 r hr⟩
    have r := entry_of (p := fun d => !decide (BadR d)) (n := n) (ds := rs.map uR ++ x :: qs.map uR)
      (fun d hd => by rcases memc d hd with ⟨r, rfl, _⟩ | h; exact fl_uR r; exact h.1)
      (fun d hd => by rcases memc d hd with ⟨r, rfl, h⟩ | h; exact wf_uR h; exact h.2.1) (by simp; omega)
      (fun d hd B => by
        by_cases z : BadR d
        · rw [decide_eq_true z]; exact z.2.2 B
        · rw [decide_eq_false z]
          rcases memc d hd with ⟨r, rfl, h⟩ | h
          · exact is_range_ok h B
          · exact absurd h z) ho
    rw [r]
    have : (rs.map uR ++ x :: qs.map uR).all (fun d => !decide (BadR d)) = false := by
      rw [List.all_eq_false]
      exact ⟨x, by simp, by simp [hx]⟩
    rw [this, Bool.and_false]
  | @good e h =>
    cases e with
    | lot =>
      have q := not_nil hw ho
      simp only [uE, Ow, Ows] at ho
      obtain ⟨us, rfl, u1, r1, c1, rfl, ⟨rfl, rfl⟩, rfl, rfl⟩ := ho
      simp [G_is_entry, runBody, b_is_entry, q, in_1]
    | any =>
      have q := not_nil hw ho
      simp only [uE, Ow, Ows] at ho
      obtain ⟨us, rfl, u1, r1, c1, rfl, ⟨rfl, rfl⟩, rfl, rfl⟩ := ho
      simp [G_is_entry, runBody, b_is_entry, q, in_2]
    | one c =>
      have q := not_nil hw ho
      simp only [uE, Ow, Ows] at ho
      obtain ⟨us, rfl, u1, r1, c1, rfl, ⟨rfl, rfl⟩, u2, r2, c2, rfl, ⟨rfl, rfl⟩, rfl, rfl⟩ := ho
      simp [G_is_entry, runBody, b_is_entry, q, in_3, is_sign_ok h B]
    | of n rs =>
      obtain ⟨h1, h2, h3⟩ := h
      have r := entry_of (p := fun _ => true) (n := n) (ds := rs.map uR)
        (fun d hd => by obtain ⟨r, hr, rfl⟩ := List.mem_map.mp hd; exact fl_uR r)
        (fun d hd => by obtain ⟨r, hr, rfl⟩ := List.mem_map.mp hd; exact wf_uR (h3 r hr)) (by simpa using h2)
        (fun d hd B => by obtain ⟨r, hr, rfl⟩ := List.mem_map.mp hd; exact is_range_ok (h3 r hr) B) ho
      rw [r]
      cases rs with
      | nil => exact absurd rfl h1
      | cons r rs => simp
end LawW
/-! S22e: patterns and what is asked of them. -/
namespace LawW
open PySem L2 QB
/-- a row: its elements, and whether it is a pattern -/
def Row (ds : List U) (k : Bool) : Prop := ∃ ps : List (Bool × U), ds = ps.map (·.2) ∧ (∀ p ∈ ps, Itm p.1 p.2) ∧ k = ps.all (·.1) ∧ ps.length ≤ 1000
theorem Row.wf {ds : List U} {k : Bool} (h : Row ds k) : Wf 6 (.lst ds) := by
  obtain ⟨ps, rfl, h1, _, h2⟩ := h
  refine ⟨by simp; omega, fun v hv => ?_⟩
  obtain ⟨p, hp, rfl⟩ := List.mem_map.mp hv
  exact (h1 p hp).wf
theorem Row.len {ds : List U} {k : Bool} (h : Row ds k) : ds.length ≤ 1000 := by
  obtain ⟨ps, rfl, _, _, h2⟩ := h; simpa using h2
theorem is_pattern_ow {ds : List U} {k : Bool} (h : Row ds k) {B : Bx} {a b : Nat} {u : U} (ho : Ow B (.lst ds) a b u) : G_is_pattern [u] B = .ok (.bl k) B := by
  obtain ⟨ps, rfl, h1, rfl, h2⟩ := h
  rw [Ow] at ho
  obtain ⟨us, j, rfl, rfl, hj, ho⟩ := ho
  have hl : us.length = ps.length := by rw [ho.len]; simp
  have eu : (us.zip ps).map (fun p : U × (Bool × U) => p.1) = us := List.map_fst_zip (by omega)
  have ep : (us.zip ps).map (fun p : U × (Bool × U) => U.bl p.2.1) = ps.map fun p => .bl p.1 := by
    have : (us.zip ps).map (fun p : U × (Bool × U) => p.2) = ps := List.map_snd_zip (by omega)
    conv => rhs; rw [← this]
    rw [List.map_map]; rfl
  have lc : lc_is_pattern_0 G_is_entry [.val (.box j), .un] B = .ok (.fr (.lst (ps.map fun p => .bl p.1))) [.val (.box j), .un] B := by
    have := mLc_ifB (fun p : U × (Bool × U) => p.1) (fun _ => true) (fun p : U × (Bool × U) => U.bl p.2.1) (fi := mItV (mVar 0)) (bd := bdN 1) (t := mYes) (f := mCall G_is_entry (mCons (mVar 1) (mNil))) (ks := [1]) (xs := us.zip ps) (E := [.val (.box j), .un]) (B := B) (chk := fun B' => B'[j]? = some (.lst us))
      (by rw [eu]; simp [e_items_box hj]) hj (by simp) (by simp) (by rw [List.length_zip]; omega) (fun p hp => by
        obtain ⟨i, hi⟩ := List.mem_iff_getElem?.mp hp
        obtain ⟨g1, g2⟩ := List.getElem?_zip_eq_some.mp hi
        obtain ⟨x, y, g3⟩ := ho.at i p.1 p.2.2 g1 (by rw [List.getElem?_map, g2]; rfl)
        refine BdIs_of (E := [.val (.box j), .val p.1]) (by simp) ⟨by simp, by simp [Tst], fun _ => ?_⟩
        simp [Elt, entry_ow (h1 p.2 (List.mem_of_getElem? g2)) g3])
    rw [fil_true, ep] at this
    exact this
  have an := e_all' (l := ps) (p := (·.1))
  simp [G_is_pattern, runBody, b_is_pattern, hj]
  simp [lc, an]
/-- a pattern in cells -/
def Pat (B : Bx) (k : Bool) (u : U) : Prop := ∃ ds a b, Row ds k ∧ Ow B (.lst ds) a b u
theorem check_go {B : Bx} {v u : U} {ds : List U} {a b : Nat} (hr : Row ds false) (ho : Ow B (.lst ds) a b u) (post : List U) : ∀ (pre : List U) (s : Sl), Free s → (∀ x ∈ pre, Pat B true x) →
    forGo (bdN 1) (lp_check_patterns_0 G_is_pattern (G_fresh 6)) yes (pre ++ u :: post) [.val v, s] B = .ex ⟨"InvalidPattern", .lst ds⟩ [.val v, .val u] B
  | [], s, fs, _ => by
    have e1 := is_pattern_ow hr ho
    have e2 := fresh_ok 6 (.lst ds) hr.wf B a b u ho
    have c : mNot (mTru (mCall G_is_pattern (mCons (mVar 1) mNil))) [.val v, .val u] B = .ok true [.val v, .val u] B := by simp [e1]
    have r : sRaise "InvalidPattern" (mCall (G_fresh 6) (mCons (mVar 1) mNil)) [.val v, .val u] B = .ex ⟨"InvalidPattern", .lst ds⟩ [.val v, .val u] B := by rw [e_sRaise]; simp [e2]
    have l : lp_check_patterns_0 G_is_pattern (G_fresh 6) [.val v, .val u] B = .ex ⟨"InvalidPattern", .lst ds⟩ [.val v, .val u] B := by
      unfold lp_check_patterns_0
      rw [e_sIf, c, O.bind_ok, if_pos rfl, r]
    rw [List.nil_append, forGo]
    have hb : bdN 1 u [.val v, s] = some [.val v, .val u] := by rcases fs with rfl | ⟨_, rfl⟩ <;> rfl
    simp only [hb]
    rw [l, O.bind_ex]
  | x :: pre, s, fs, hp => by
    obtain ⟨es, c, d, hr', ho'⟩ := hp x (List.mem_cons_self ..)
    have e1 := is_pattern_ow hr' ho'
    have l : lp_check_patterns_0 G_is_pattern (G_fresh 6) [.val v, .val x] B = .ok .nx [.val v, .val x] B := by simp [lp_check_patterns_0, e1]
    rw [List.cons_append, forGo]
    have hb : bdN 1 x [.val v, s] = some [.val v, .val x] := by rcases fs with rfl | ⟨_, rfl⟩ <;> rfl
    simp only [hb]
    rw [l, O.bind_ok]
    have := check_go (v := v) hr ho post pre (.val x) free_val fun y hy => hp y (List.mem_cons_of_mem _ hy)
    simp only [goOn]
    rw [if_pos (show yes B from trivial)]
    exact this
theorem check_bad {B : Bx} {u : U} {ds : List U} {a b : Nat} (hr : Row ds false) (ho : Ow B (.lst ds) a b u) (pre post : List U) (hp : ∀ x ∈ pre, Pat B true x) :
    G_check_patterns [.lst (pre ++ u :: post)] B = .ex ⟨"InvalidPattern", .lst ds⟩ B := by
  have e := check_go (v := .lst (pre ++ u :: post)) hr ho post pre .un free_un hp
  have e2 : b_check_patterns (G_fresh 6) G_is_pattern [.val (.lst (pre ++ u :: post)), .un] B = .ex ⟨"InvalidPattern", .lst ds⟩ [.val (.lst (pre ++ u :: post)), .val u] B := by
    unfold b_check_patterns sFor
    rw [e_mItV, e_mVar]
    simp [e]
  unfold G_check_patterns runBody
  rw [if_pos (show [U.lst (pre ++ u :: post)].length = 1 from rfl)]
  show (match b_check_patterns (G_fresh 6) G_is_pattern [.val (.lst (pre ++ u :: post)), .un] B with
    | .ok (.rt u) _ B' => Fo.ok u B'
    | .ok .nx _ B' => .ok .non B'
    | .ex c _ B' => .ex c B'
    | _ => .bad) = _
  rw [e2]
section
variable {B : Bx} {u : U} {ds : List U} {a b : Nat}
theorem check1 (hr : Row ds false) (ho : Ow B (.lst ds) a b u) : G_check_patterns [.lst [u]] B = .ex ⟨"InvalidPattern", .lst ds⟩ B := check_bad hr ho [] [] (by simp)
theorem meets_x (hr : Row ds false) (ho : Ow B (.lst ds) a b u) (v : U) : G_meets [u, v] B = .ex ⟨"InvalidPattern", .lst ds⟩ B := by simp [G_meets, runBody, b_meets, check1 hr ho]
theorem heads_x (hr : Row ds false) (ho : Ow B (.lst ds) a b u) (v : U) : G_heads [u, v] B = .ex ⟨"InvalidPattern", .lst ds⟩ B := by simp [G_heads, runBody, b_heads, check1 hr ho]
theorem tails_x (hr : Row ds false) (ho : Ow B (.lst ds) a b u) (v : U) : G_tails [u, v] B = .ex ⟨"InvalidPattern", .lst ds⟩ B := by simp [G_tails, runBody, b_tails, check1 hr ho]
theorem least_x (hr : Row ds false) (ho : Ow B (.lst ds) a b u) : G_least_text [u] B = .ex ⟨"InvalidPattern", .lst ds⟩ B := by simp [G_least_text, runBody, b_least_text, check1 hr ho]
theorem shown_x (hr : Row ds false) (ho : Ow B (.lst ds) a b u) : G_shown_least [u] B = .ex ⟨"InvalidPattern", .lst ds⟩ B := by simp [G_shown_least, runBody, b_shown_least, check1 hr ho]
theorem sub_sh : sub_ShellError "InvalidPattern" = some true := by unfold sub_ShellError; exact e_ifS_eq
theorem asked_one_x (hr : Row ds false) (ho : Ow B (.lst ds) a b u) {way : Int} (h0 : 0 ≤ way) (h1 : way < 5) : G__law_asked_one [.int way, u] B = .ok (.exc "InvalidPattern" (.lst ds)) B := by
  have tb : tb__law_asked_one_0 G_meets G_heads G_tails G_least_text G_shown_least [.val (.int way), .val u, .val .non, .un] B = .ex ⟨"InvalidPattern", .lst ds⟩ [.val (.int way), .val u, .val .non, .un] B := by
    have : way = 0 ∨ way = 1 ∨ way = 2 ∨ way = 3 ∨ way = 4 := by omega
    rcases this with rfl | rfl | rfl | rfl | rfl <;> simp [tb__law_asked_one_0, meets_x hr ho, heads_x hr ho, tails_x hr ho, least_x hr ho, shown_x hr ho]
  have tr := try_ex (sub := sub_ShellError) (i := 3) (g := ts__law_asked_one_0) (fl := .nx) tb sub_sh (by simp) (E2 := [.val (.int way), .val u, .val (.exc "InvalidPattern" (.lst ds)), .val (.exc "InvalidPattern" (.lst ds))]) (B2 := B) (by simp [ts__law_asked_one_0]) (by intro u z; cases z)
  simp only [G__law_asked_one]
  refine run_is rfl ?_
  simp only [b__law_asked_one, List.map_cons, List.map_nil, List.length_cons, List.length_nil, Nat.reduceAdd, Nat.reduceSub, List.replicate_succ, List.replicate_zero, List.cons_append, List.nil_append, Nat.zero_add, Nat.sub_self, List.append_nil]
  refine okP_seqL fun LQ hLQ => ?_
  simp
  refine hLQ _ _ _ (then_nx ?_)
  clear hLQ LQ
  refine okP_seqT ?_
  rw [tr, OkP_ok]
  refine then_nx ?_
  refine okP_lock fun LQ hLQ => ?_
  simp
  refine hLQ _ _ _ ?_
  clear hLQ LQ
  exact ret_is
/-- two of them, the wrong one being ds -/
theorem check2 {v w : U} (hr : Row ds false) (h : (∃ a b, v = u ∧ Ow B (.lst ds) a b u) ∨ (Pat B true v ∧ w = u ∧ ∃ a b, Ow B (.lst ds) a b u)) : G_check_patterns [.lst [v, w]] B = .ex ⟨"InvalidPattern", .lst ds⟩ B := by
  rcases h with ⟨a, b, rfl, ho⟩ | ⟨hv, rfl, a, b, ho⟩
  · exact check_bad hr ho [] [w] (by simp)
  · exact check_bad hr ho [v] [] (by simpa using hv)
theorem asked_two_x {v w : U} (hr : Row ds false) (h : (∃ a b, v = u ∧ Ow B (.lst ds) a b u) ∨ (Pat B true v ∧ w = u ∧ ∃ a b, Ow B (.lst ds) a b u)) {way : Int} (h0 : 0 ≤ way) (h1 : way < 4) : G__law_asked_two [.int way, v, w] B = .ok (.exc "InvalidPattern" (.lst ds)) B := by
  have c := check2 hr h
  have f1 : G_first_apart [v, w] B = .ex ⟨"InvalidPattern", .lst ds⟩ B := by simp [G_first_apart, runBody, b_first_apart, c]
  have f2 : G_same [v, w] B = .ex ⟨"InvalidPattern", .lst ds⟩ B := by simp [G_same, runBody, b_same, f1]
  have f3 : G_within [v, w] B = .ex ⟨"InvalidPattern", .lst ds⟩ B := by simp [G_within, runBody, b_within, c]
  have f4 : G_common [v, w] B = .ex ⟨"InvalidPattern", .lst ds⟩ B := by simp [G_common, runBody, b_common, c]
  have tb : tb__law_asked_two_0 G_same G_within G_first_apart G_common [.val (.int way), .val v, .val w, .val .non, .un] B = .ex ⟨"InvalidPattern", .lst ds⟩ [.val (.int way), .val v, .val w, .val .non, .un] B := by
    have : way = 0 ∨ way = 1 ∨ way = 2 ∨ way = 3 := by omega
    rcases this with rfl | rfl | rfl | rfl <;> simp [tb__law_asked_two_0, f1, f2, f3, f4]
  have tr := try_ex (sub := sub_ShellError) (i := 4) (g := ts__law_asked_two_0) (fl := .nx) tb sub_sh (by simp) (E2 := [.val (.int way), .val v, .val w, .val (.exc "InvalidPattern" (.lst ds)), .val (.exc "InvalidPattern" (.lst ds))]) (B2 := B) (by simp [ts__law_asked_two_0]) (by intro u z; cases z)
  simp only [G__law_asked_two]
  refine run_is rfl ?_
  simp only [b__law_asked_two, List.map_cons, List.map_nil, List.length_cons, List.length_nil, Nat.reduceAdd, Nat.reduceSub, List.replicate_succ, List.replicate_zero, List.cons_append, List.nil_append, Nat.zero_add, Nat.sub_self, List.append_nil]
  refine okP_seqL fun LQ hLQ => ?_
  simp
  refine hLQ _ _ _ (then_nx ?_)
  clear hLQ LQ
  refine okP_seqT ?_
  rw [tr, OkP_ok]
  refine then_nx ?_
  refine okP_lock fun LQ hLQ => ?_
  simp
  refine hLQ _ _ _ ?_
  clear hLQ LQ
  exact ret_is
end
end LawW
/-! S22f: arms; what a refusal is. -/
namespace LawW
open PySem L2 QB
inductive PatsOf (B : Bx) : List (List U) → List U → Prop
  | nil : PatsOf B [] []
  | cons {ds : List U} {v : U} {dss : List (List U)} {vs : List U} (h : ∃ a b, Ow B (.lst ds) a b v) (r : PatsOf B dss vs) : PatsOf B (ds :: dss) (v :: vs)
theorem PatsOf.app {B : Bx} {dss ess : List (List U)} {vs ws : List U} (h : PatsOf B dss vs) (g : PatsOf B ess ws) : PatsOf B (dss ++ ess) (vs ++ ws) := by
  induction h with
  | nil => exact g
  | cons h r ih => exact .cons h ih
theorem pats_ow {B : Bx} : ∀ {dss : List (List U)} {a b : Nat} {vs : List U}, Ows B (dss.map .lst) a b vs → PatsOf B dss vs
  | [], _, _, _, h => by rw [List.map_nil, Ows] at h; rw [h.1]; exact .nil
  | ds :: dss, _, _, _, h => by
    rw [List.map_cons, Ows] at h
    obtain ⟨u, r, c, rfl, h1, h2⟩ := h
    exact .cons ⟨_, _, h1⟩ (pats_ow h2)
theorem PatsOf.split {B : Bx} : ∀ {pre : List (List U)} {ds : List U} {post : List (List U)} {vs : List U}, PatsOf B (pre ++ ds :: post) vs → (∀ es ∈ pre, Row es true) → ∃ vp v vq, vs = vp ++ v :: vq ∧ (∀ x ∈ vp, Pat B true x) ∧ ∃ a b, Ow B (.lst ds) a b v
  | [], ds, post, vs, h, _ => by
    cases h with
    | cons h r => exact ⟨[], _, _, rfl, by simp, h⟩
  | es :: pre, ds, post, vs, h, hp => by
    cases h with
    | cons h r =>
      obtain ⟨vp, v, vq, rfl, h1, h2⟩ := PatsOf.split r fun x hx => hp x (List.mem_cons_of_mem _ hx)
      obtain ⟨a, b, h⟩ := h
      refine ⟨_ :: vp, v, vq, rfl, fun x hx => ?_, h2⟩
      rcases List.mem_cons.mp hx with rfl | hx
      · exact ⟨es, a, b, hp es (List.mem_cons_self ..), h⟩
      · exact h1 x hx
/-- cases as a tree -/
def armT (dss : List (List U)) : U := .lst (dss.map .lst)
theorem arms_ow {B : Bx} : ∀ {cs : List (List (List U))} {a b : Nat} {us : List U}, Ows B (cs.map armT) a b us → ∃ ps : List (U × List U), us = ps.map (·.1) ∧ (∀ p ∈ ps, ∃ j, p.1 = .box j ∧ B[j]? = some (.lst p.2)) ∧ PatsOf B cs.flatten (ps.map (·.2)).flatten ∧ (ps.map (·.2)).flatten.length = cs.flatten.length
  | [], _, _, _, h => by rw [List.map_nil, Ows] at h; rw [h.1]; exact ⟨[], rfl, by simp, .nil, rfl⟩
  | dss :: cs, _, _, _, h => by
    rw [List.map_cons, Ows] at h
    obtain ⟨u, r, c, rfl, h1, h2⟩ := h
    obtain ⟨ps, rfl, g1, g2, g3⟩ := arms_ow h2
    rw [armT, Ow] at h1
    obtain ⟨vs, j, rfl, rfl, hj, ho⟩ := h1
    refine ⟨(.box j, vs) :: ps, rfl, fun p hp => ?_, by simpa using (pats_ow ho).app g2, ?_⟩
    · rcases List.mem_cons.mp hp with rfl | hp
      · exact ⟨j, rfl, hj⟩
      · exact g1 p hp
    · have := ho.len
      simp at this g3 ⊢
      omega
theorem inner_all {x y : U} {B : Bx} {chk : Bx → Prop} (hc : chk B) : ∀ (us acc : List U), acc.length + us.length ≤ 16777216 →
    lcLoop (stE (bdN 2) mYes (mVar 2)) chk [2] us acc [.val x, .val y, .un] B = .ok (acc ++ us) [.val x, .val y, .un] B
  | [], acc, _ => by rw [lcLoop, List.append_nil]
  | u :: us, acc, hl => by
    rw [List.length_cons] at hl
    have hl1 : acc.length < 16777216 := by omega
    have st : stE (bdN 2) mYes (mVar 2) u acc [.val x, .val y, .un] B = .ok (acc ++ [u]) [.val x, .val y, .val u] B := by simp [stE, hl1]
    have ih := inner_all hc us (acc ++ [u]) (by simp; omega) (x := x) (y := y)
    rw [lcLoop]
    dsimp only
    rw [st, O.bindN_ok, goOnL_yes hc]
    have w : wipeE [.val x, .val y, .val u] [2] = [.val x, .val y, .un] := rfl
    rw [w, ih, List.append_assoc]
    rfl
theorem outer_all {x : U} {B : Bx} {chk : Bx → Prop} (hc : chk B) : ∀ (ps : List (U × List U)) (acc : List U), (∀ p ∈ ps, ∃ j, p.1 = .box j ∧ B[j]? = some (.lst p.2)) → acc.length + (ps.map (·.2)).flatten.length ≤ 16777216 →
    lcLoop (stW (bdN 1) mYes (mItV (mVar 1)) (stE (bdN 2) mYes (mVar 2)) [2]) chk [1, 2] (ps.map (·.1)) acc [.val x, .un, .un] B = .ok (acc ++ (ps.map (·.2)).flatten) [.val x, .un, .un] B
  | [], acc, _, _ => by simp [lcLoop]
  | p :: ps, acc, hp, hl => by
    obtain ⟨j, e1, e2⟩ := hp p (List.mem_cons_self ..)
    have hl' : acc.length + (p.2.length + (ps.map (·.2)).flatten.length) ≤ 16777216 := by simpa using hl
    have i := inner_all (x := x) (y := p.1) (chk := fun B' => B'[j]? = some (.lst p.2)) e2 p.2 acc (by omega)
    have it : mItV (mVar 1) [.val x, .val p.1, .un] B = .ok (p.2, fun B' => B'[j]? = some (.lst p.2)) [.val x, .val p.1, .un] B := by simp [e1, e_items_box e2]
    have st : stW (bdN 1) mYes (mItV (mVar 1)) (stE (bdN 2) mYes (mVar 2)) [2] p.1 acc [.val x, .un, .un] B = .ok (acc ++ p.2) [.val x, .val p.1, .un] B := by
      unfold stW
      have b : bdN 1 p.1 [.val x, .un, .un] = some [.val x, .val p.1, .un] := rfl
      rw [b]
      dsimp only
      rw [e_mYes, O.bindN_ok, if_pos rfl, it, O.bindN_ok]
      have w : wipeE [.val x, .val p.1, .un] [2] = [.val x, .val p.1, .un] := rfl
      rw [w, i]
    have ih := outer_all hc ps (acc ++ p.2) (fun q hq => hp q (List.mem_cons_of_mem _ hq)) (by simp at hl' ⊢; omega) (x := x)
    rw [List.map_cons, lcLoop]
    dsimp only
    rw [st, O.bindN_ok, goOnL_yes hc]
    have w : wipeE [.val x, .val p.1, .un] [1, 2] = [.val x, .un, .un] := rfl
    rw [w, ih]
    simp
theorem all_of_ok {B : Bx} {j : Nat} {ps : List (U × List U)} (hj : B[j]? = some (.lst (ps.map (·.1)))) (hp : ∀ p ∈ ps, ∃ j, p.1 = .box j ∧ B[j]? = some (.lst p.2)) (hl : (ps.map (·.2)).flatten.length ≤ 16777216) :
    G_all_of [.box j] B = .ok (.lst (ps.map (·.2)).flatten) B := by
  have o := outer_all (x := .box j) (chk := fun B' => B'[j]? = some (.lst (ps.map (·.1)))) hj ps [] hp (by simpa using hl)
  have lc : lc_all_of_0 [.val (.box j), .un, .un] B = .ok (.fr (.lst (ps.map (·.2)).flatten)) [.val (.box j), .un, .un] B := by
    unfold lc_all_of_0 mLc2
    have it : mItV (mVar 0) [.val (.box j), .un, .un] B = .ok (ps.map (·.1), fun B' => B'[j]? = some (.lst (ps.map (·.1)))) [.val (.box j), .un, .un] B := by simp [e_items_box hj]
    rw [it, O.bind_ok, if_pos (by simp)]
    have w : wipeE [.val (.box j), .un, .un] [1, 2] = [.val (.box j), .un, .un] := rfl
    rw [w, o, O.bindN_ok, List.nil_append]
    rfl
  simp [G_all_of, runBody, b_all_of, lc]
theorem asked_arms_x {B : Bx} {cs : List (List (List U))} {a b : Nat} {u : U} (ho : Ow B (.lst (cs.map armT)) a b u) {pre post : List (List U)} {ds : List U} (hc : cs.flatten = pre ++ ds :: post) (hl : cs.flatten.length ≤ 1000) (hp : ∀ es ∈ pre, Row es true) (hr : Row ds false) {way : Int} (h0 : 0 ≤ way) (h1 : way < 2) :
    G__law_asked_arms [.int way, u] B = .ok (.exc "InvalidPattern" (.lst ds)) B := by
  rw [Ow] at ho
  obtain ⟨us, j, rfl, rfl, hj, ho⟩ := ho
  obtain ⟨ps, rfl, g1, g2, g3⟩ := arms_ow ho
  have al := all_of_ok hj g1 (by omega)
  rw [hc] at g2
  obtain ⟨vp, v, vq, e, k1, a', b', k2⟩ := g2.split hp
  rw [e] at al
  have ck := check_bad hr k2 vp vq k1
  have f1 : G_never_met [.box j] B = .ex ⟨"InvalidPattern", .lst ds⟩ B := by simp [G_never_met, runBody, b_never_met, al, ck]
  have f2 : G_unmet [.box j] B = .ex ⟨"InvalidPattern", .lst ds⟩ B := by simp [G_unmet, runBody, b_unmet, al, ck]
  have tb : tb__law_asked_arms_0 G_never_met G_unmet [.val (.int way), .val (.box j), .val .non, .un] B = .ex ⟨"InvalidPattern", .lst ds⟩ [.val (.int way), .val (.box j), .val .non, .un] B := by
    have : way = 0 ∨ way = 1 := by omega
    rcases this with rfl | rfl <;> simp [tb__law_asked_arms_0, f1, f2]
  have tr := try_ex (sub := sub_ShellError) (i := 3) (g := ts__law_asked_arms_0) (fl := .nx) tb sub_sh (by simp) (E2 := [.val (.int way), .val (.box j), .val (.exc "InvalidPattern" (.lst ds)), .val (.exc "InvalidPattern" (.lst ds))]) (B2 := B) (by simp [ts__law_asked_arms_0]) (by intro u z; cases z)
  simp only [G__law_asked_arms]
  refine run_is rfl ?_
  simp only [b__law_asked_arms, List.map_cons, List.map_nil, List.length_cons, List.length_nil, Nat.reduceAdd, Nat.reduceSub, List.replicate_succ, List.replicate_zero, List.cons_append, List.nil_append, Nat.zero_add, Nat.sub_self, List.append_nil]
  refine okP_seqL fun LQ hLQ => ?_
  simp
  refine hLQ _ _ _ (then_nx ?_)
  clear hLQ LQ
  refine okP_seqT ?_
  rw [tr, OkP_ok]
  refine then_nx ?_
  refine okP_lock fun LQ hLQ => ?_
  simp
  refine hLQ _ _ _ ?_
  clear hLQ LQ
  exact ret_is
theorem G_lsame : G__law_same = sameF := by
  funext n
  induction n with
  | zero => rfl
  | succ n ih => rw [G__law_same, sameF, ih]; rfl
theorem vu_excX {x : Str} {u : U} {B : Bx} : viewU (.exc x u) B = some (.exc x u) := rfl
theorem refusal_x {x : Str} (h1 : sub_InvalidPattern x = some true) (h2 : sub_ValueError x = some true) (h3 : sub_InvalidTree x = some false) (h4 : x ∈ exNames) {d e : U} (hd : Wf 6 d) (he : Wf 8 e) {B : Bx} {a b : Nat} {u : U} (ho : Ow B e a b u) (hb : b ≤ B.length) :
    ∃ B', G__law_is_refusal [.exc x d, d, u] B = .ok (.bl true) B' ∧ Kept B B' a b := by
  obtain ⟨B', s1, s2⟩ := spoil_ok 8 e he B a b u ho hb
  have sm : ∀ B, G__law_same 6 [d, d] B = .ok (.bl true) B := fun B => by rw [G_lsame]; exact same_ok 6 d d hd.sm
  refine ⟨B', ?_, s2⟩
  simp only [G__law_is_refusal]
  refine run_is rfl ?_
  simp only [b__law_is_refusal, List.map_cons, List.map_nil, List.length_cons, List.length_nil, Nat.reduceAdd, Nat.reduceSub, List.replicate_succ, List.replicate_zero, List.cons_append, List.nil_append, Nat.zero_add, Nat.sub_self, List.append_nil]
  refine okP_seqL fun LQ hLQ => ?_
  simp [h1, h2, h3, vu_excX]
  refine hLQ _ _ _ (then_nx ?_)
  clear hLQ LQ
  refine okP_seqL fun LQ hLQ => ?_
  simp [h4, vu_excX]
  refine hLQ _ _ _ (then_nx ?_)
  clear hLQ LQ
  refine okP_seqL fun LQ hLQ => ?_
  simp [sm]
  refine hLQ _ _ _ (then_nx ?_)
  clear hLQ LQ
  refine okP_seqL fun LQ hLQ => ?_
  simp [s1]
  refine hLQ _ _ _ (then_nx ?_)
  clear hLQ LQ
  refine okP_lock fun LQ hLQ => ?_
  simp [sm]
  refine hLQ _ _ _ ?_
  clear hLQ LQ
  exact ret_is
theorem refusal_ok {ds : List U} {k : Bool} (hr : Row ds k) {e : U} (he : Wf 8 e) {B : Bx} {a b : Nat} {u : U} (ho : Ow B e a b u) (hb : b ≤ B.length) :
    ∃ B', G__law_is_refusal [.exc "InvalidPattern" (.lst ds), .lst ds, u] B = .ok (.bl true) B' ∧ Kept B B' a b :=
  refusal_x (by unfold sub_InvalidPattern; exact e_ifS_eq) (by unfold sub_ValueError; exact e_ifS_eq) (by unfold sub_InvalidTree; exact e_ifS_eq) (by decide +kernel) hr.wf he ho hb
end LawW
/-! S22g: what is drawn. -/
namespace LawW
open PySem L2 QB
theorem G_purse : G__law_purse = purseF := rfl
theorem signs_ok (B : Bx) : G__law_signs [] B = .ok (.str (ofC sgs)) B := by
  simp [G__law_signs, runBody, b__law_signs]
  rfl
theorem coin1 {B : Bx} {i n : Nat} (many : Int) (h : Purse B i (n + 1)) (h0 : 0 < many := by decide) (hm : many ≤ 1000000000 := by decide) :
    ∃ (v : Int) (B1 : Bx), 0 ≤ v ∧ v < many ∧ G__law_coin [.box i, .int many] B = .ok (.int v) B1 ∧ Purse B1 i n := by
  obtain ⟨v, c, h1, h2, h3, h4⟩ := coin_ok h h0 hm
  exact ⟨v, _, h1, h2, h3, h4⟩
theorem sgs_len : sgs.length = 95 := by decide +kernel
theorem few : ∀ c ∈ [97, 98, 99, 45], c ∈ sgs := by decide +kernel
theorem sign_ok {B : Bx} {i n : Nat} (hp : Purse B i (n + 2)) : ∃ u B', G__law_sign [.box i] B = .ok u B' ∧ (∃ c, u = chr c ∧ c ∈ sgs) ∧ Purse B' i n := by
  obtain ⟨v, B1, v0, v1, e1, p1⟩ := coin1 3 hp
  simp only [G__law_sign]
  refine run_p rfl ?_
  simp only [b__law_sign, List.map_cons, List.map_nil, List.length_cons, List.length_nil, Nat.reduceAdd, Nat.reduceSub, List.replicate_succ, List.replicate_zero, List.cons_append, List.nil_append, Nat.zero_add, Nat.sub_self, List.append_nil]
  refine okP_seqL fun LQ hLQ => ?_
  simp [e1]
  refine hLQ _ _ _ (then_nx ?_)
  clear hLQ LQ
  by_cases h : v < 2
  · obtain ⟨w, B2, w0, w1, e2, p2⟩ := coin1 3 p1
    have : v = 0 ∨ v = 1 := by omega
    rcases this with rfl | rfl
    · obtain ⟨c, hc, hx⟩ := atI_mem (l := [97, 98, 99]) w0 w1
      refine okP_seqT ?_
      refine okP_ift0 (by simp; done) ?_
      refine okP_lock fun LQ hLQ => ?_
      simp [e2, hx]
      refine hLQ _ _ _ ?_
      clear hLQ LQ
      exact then_rt (ret_p ⟨⟨c, rfl, few c (by simp at hc ⊢; omega)⟩, p2⟩)
    · obtain ⟨c, hc, hx⟩ := atI_mem (l := [97, 98, 45]) w0 w1
      refine okP_seqT ?_
      refine okP_ift0 (by simp; done) ?_
      refine okP_lock fun LQ hLQ => ?_
      simp [e2, hx]
      refine hLQ _ _ _ ?_
      clear hLQ LQ
      exact then_rt (ret_p ⟨⟨c, rfl, few c (by simp at hc ⊢; omega)⟩, p2⟩)
  · obtain ⟨w, B2, w0, w1, e2, p2⟩ := coin1 95 p1
    obtain ⟨c, hc, hx⟩ := atI_mem (l := sgs) w0 (by rw [sgs_len]; omega)
    refine okP_seqL fun LQ hLQ => ?_
    simp [h]
    refine hLQ _ _ _ (then_nx ?_)
    clear hLQ LQ
    refine okP_lock fun LQ hLQ => ?_
    simp [e2, signs_ok, hx, sgs_len]
    refine hLQ _ _ _ ?_
    clear hLQ LQ
    exact ret_p ⟨⟨c, rfl, hc⟩, p2⟩
theorem sgs_sorted : ∀ a : Fin 95, ∀ b : Fin 95, a ≤ b → sgs[a.val]'(by rw [sgs_len]; exact a.2) ≤ sgs[b.val]'(by rw [sgs_len]; exact b.2) := by decide +kernel
theorem sgs_strict : ∀ a : Fin 95, ∀ b : Fin 95, a < b → sgs[a.val]'(by rw [sgs_len]; exact a.2) < sgs[b.val]'(by rw [sgs_len]; exact b.2) := by decide +kernel
theorem sg_two {v w : Int} (h0 : 0 ≤ v) (h1 : v ≤ w) (h2 : w < 95) : ∃ c d, atI sgs v = some c ∧ atI sgs w = some d ∧ RgOk (c, d) := by
  have l1 : v.toNat < sgs.length := by rw [sgs_len]; omega
  have l2 : w.toNat < sgs.length := by rw [sgs_len]; omega
  refine ⟨sgs[v.toNat], sgs[w.toNat], ?_, ?_, List.getElem_mem l1, List.getElem_mem l2, sgs_sorted ⟨v.toNat, by omega⟩ ⟨w.toNat, by omega⟩ (by show v.toNat ≤ w.toNat; omega)⟩
  · rw [atI_of (k := v.toNat) (by omega), List.getElem?_eq_getElem l1]
  · rw [atI_of (k := w.toNat) (by omega), List.getElem?_eq_getElem l2]
theorem sg_less {v w : Int} (h0 : 0 ≤ v) (h1 : v < w) (h2 : w < 95) : ∃ c d, atI sgs v = some c ∧ atI sgs w = some d ∧ c ∈ sgs ∧ d ∈ sgs ∧ c < d := by
  have l1 : v.toNat < sgs.length := by rw [sgs_len]; omega
  have l2 : w.toNat < sgs.length := by rw [sgs_len]; omega
  refine ⟨sgs[v.toNat], sgs[w.toNat], ?_, ?_, List.getElem_mem l1, List.getElem_mem l2, sgs_strict ⟨v.toNat, by omega⟩ ⟨w.toNat, by omega⟩ (by show v.toNat < w.toNat; omega)⟩
  · rw [atI_of (k := v.toNat) (by omega), List.getElem?_eq_getElem l1]
  · rw [atI_of (k := w.toNat) (by omega), List.getElem?_eq_getElem l2]
theorem ranges_ok {B : Bx} {i n : Nat} (hp : Purse B i (n + 50)) : ∃ u B', G__law_ranges [.box i] B = .ok u B' ∧ (∃ rs : List Rg, u = .lst (rs.map uR) ∧ rs ≠ [] ∧ rs.length ≤ 8 ∧ ∀ r ∈ rs, RgOk r) ∧ Purse B' i n := by
  obtain ⟨w1, B1, w10, w11, e1, p1⟩ := coin1 3 hp
  have h38 : ∃ m : Int, atI [U.int 3, .int 3, .int 8] w1 = some (.int m) ∧ 1 ≤ m ∧ m ≤ 8 := by
    have : w1 = 0 ∨ w1 = 1 ∨ w1 = 2 := by omega
    rcases this with rfl | rfl | rfl
    · exact ⟨3, rfl, by decide, by decide⟩
    · exact ⟨3, rfl, by decide, by decide⟩
    · exact ⟨8, rfl, by decide, by decide⟩
  obtain ⟨m, hm, m1, m8⟩ := h38
  obtain ⟨w, B2, w0, w1', e2, p2⟩ := coin1 m p1 (by omega) (by omega)
  have i1 : I62 (1 + w) = true := i62 (by omega) (by omega)
  simp only [G__law_ranges]
  refine run_p rfl ?_
  simp only [b__law_ranges, List.map_cons, List.map_nil, List.length_cons, List.length_nil, Nat.reduceAdd, Nat.reduceSub, List.replicate_succ, List.replicate_zero, List.cons_append, List.nil_append, Nat.zero_add, Nat.sub_self, List.append_nil]
  refine okP_seqL fun LQ hLQ => ?_
  simp
  refine hLQ _ _ _ (then_nx ?_)
  clear hLQ LQ
  refine okP_seqT ?_
  refine okP_forM nat (xs := List.range (w.toNat + 1)) (E1 := [.val (.box i), .own (.lst []), .un, .un]) (B1 := B2) (by
      have : (1 + w).toNat = w.toNat + 1 := by omega
      simp [e1, hm, e2, i1, intsU_map, nat, this])
    (fun q E B' => ∃ (acc : List Rg) (s1 s2 : Sl), E = [.val (.box i), .own (.lst (acc.map uR)), s1, s2] ∧ Free s1 ∧ Free s2 ∧ acc.length + q.length = w.toNat + 1 ∧ (∀ r ∈ acc, RgOk r) ∧ Purse B' i (n + 4 * q.length))
    ⟨[], .un, .un, rfl, free_un, free_un, by simp, by simp, p2.le (by simp; omega)⟩ ?_ ?_
  · rintro x q E B' ⟨acc, s1, s2, rfl, f1, f2, hl, hr, pu⟩
    rw [List.length_cons] at hl pu
    refine BdIs_of (E := [.val (.box i), .own (.lst (acc.map uR)), .val (nat x), s2]) (by rcases f1 with rfl | ⟨_, rfl⟩ <;> simp) (body_go ?_)
    obtain ⟨a, B3, a0, a1, e3, p3⟩ := coin1 2 (pu.le (by omega : n + 4 * q.length + 3 + 1 ≤ _))
    have hln : acc.length < 16777216 := by omega
    have fin : ∀ (c d : Nat) (lo : Int) (B5 : Bx), RgOk (c, d) → Purse B5 i (n + 4 * q.length) → ∃ (acc_1 : List Rg) (s1 s2 : Sl), [Sl.val (.box i), .own (.lst (acc.map uR ++ [.tup [.str (ofC [c]), .str (ofC [d])]])), .val (nat x), .val (.int lo)] = [.val (.box i), .own (.lst (acc_1.map uR)), s1, s2] ∧ Free s1 ∧ Free s2 ∧ acc_1.length + q.length = w.toNat + 1 ∧ (∀ r ∈ acc_1, RgOk r) ∧ Purse B5 i (n + 4 * q.length) := by
      intro c d lo B5 ho hp5
      refine ⟨acc ++ [(c, d)], .val (nat x), .val (.int lo), by simp [uR], free_val, free_val, by simp; omega, ?_, hp5⟩
      intro r hr'
      rcases List.mem_append.mp hr' with h | h
      · exact hr r h
      · rw [List.mem_singleton] at h; subst h; exact ho
    simp only [lp__law_ranges_0]
    have f2' : s2 = .un ∨ ∃ u, s2 = .val u := f2
    have : a = 0 ∨ a = 1 := by omega
    rcases this with rfl | rfl
    · obtain ⟨d, B5, d0, d1, e5, p5⟩ := coin1 3 p3
      obtain ⟨g, B6, g0, g1, e6, p6⟩ := coin1 3 p5
      obtain ⟨c1, c2, x1, x2, ok⟩ := sg_two (v := 65 + d) (w := 65 + d + g) (by omega) (by omega) (by omega)
      refine okP_ift (E1 := [.val (.box i), .own (.lst (acc.map uR)), .val (nat x), s2]) (B1 := B3) (by simp [e3]) ?_
      rcases f2' with rfl | ⟨_, rfl⟩
      all_goals
        refine okP_seqL fun LQ hLQ => ?_
        simp [e5]
        refine hLQ _ _ _ (then_nx ?_)
        clear hLQ LQ
        refine okP_lock fun LQ hLQ => ?_
        simp [signs_ok, e6, x1, x2, hln, sgs_len]
        refine hLQ _ _ _ ?_
        clear hLQ LQ
        exact loop_nx (fin c1 c2 _ _ ok (p6.le (by omega)))
    · obtain ⟨b, B4, b0, b1, e4, p4⟩ := coin1 95 p3
      obtain ⟨d, B5, d0, d1, e5, p5⟩ := coin1 (95 - b) p4 (by omega) (by omega)
      obtain ⟨c1, c2, x1, x2, ok⟩ := sg_two (v := b) (w := b + d) (by omega) (by omega) (by omega)
      refine okP_iff (E1 := [.val (.box i), .own (.lst (acc.map uR)), .val (nat x), s2]) (B1 := B3) (by simp [e3]) ?_
      rcases f2' with rfl | ⟨_, rfl⟩
      all_goals
        refine okP_seqL fun LQ hLQ => ?_
        simp [e4]
        refine hLQ _ _ _ (then_nx ?_)
        clear hLQ LQ
        refine okP_lock fun LQ hLQ => ?_
        simp [signs_ok, e5, x1, x2, hln, sgs_len]
        refine hLQ _ _ _ ?_
        clear hLQ LQ
        exact loop_nx (fin c1 c2 _ _ ok (p5.le (by omega)))
  · rintro E B' ⟨acc, s1, s2, rfl, f1, f2, hl, hr, pu⟩
    refine then_nx ?_
    refine okP_lock fun LQ hLQ => ?_
    simp
    refine hLQ _ _ _ ?_
    clear hLQ LQ
    exact ret_p ⟨⟨acc, rfl, by intro z; subst z; simp at hl, by simp at hl; omega, hr⟩, pu.le (by simp)⟩
theorem entry_ok {B : Bx} {i n : Nat} (hp : Purse B i (n + 60)) : ∃ u B', G__law_entry [.box i] B = .ok u B' ∧ (∃ e, u = uE e ∧ EntOk e) ∧ Purse B' i n := by
  obtain ⟨v, B1, v0, v1, e1, p1⟩ := coin1 7 hp
  simp only [G__law_entry]
  refine run_p rfl ?_
  simp only [b__law_entry, List.map_cons, List.map_nil, List.length_cons, List.length_nil, Nat.reduceAdd, Nat.reduceSub, List.replicate_succ, List.replicate_zero, List.cons_append, List.nil_append, Nat.zero_add, Nat.sub_self, List.append_nil]
  refine okP_seqL fun LQ hLQ => ?_
  simp [e1]
  refine hLQ _ _ _ (then_nx ?_)
  clear hLQ LQ
  by_cases h : v < 2
  · refine okP_lock fun LQ hLQ => ?_
    simp [h]
    refine hLQ _ _ _ ?_
    clear hLQ LQ
    exact ret_p ⟨⟨.lot, rfl, trivial⟩, p1.le (by omega)⟩
  refine okP_seqL fun LQ hLQ => ?_
  simp [h]
  refine hLQ _ _ _ (then_nx ?_)
  clear hLQ LQ
  by_cases h2 : v = 2
  · subst h2
    refine okP_lock fun LQ hLQ => ?_
    simp
    refine hLQ _ _ _ ?_
    clear hLQ LQ
    exact ret_p ⟨⟨.any, rfl, trivial⟩, p1.le (by omega)⟩
  have h2b : (v == 2) = false := by simpa using h2
  refine okP_seqL fun LQ hLQ => ?_
  simp [h2b]
  refine hLQ _ _ _ (then_nx ?_)
  clear hLQ LQ
  by_cases h5 : v < 5
  · obtain ⟨u, B2, e2, ⟨c, rfl, hc⟩, p2⟩ := sign_ok (p1.le (by omega : n + 57 + 2 ≤ _))
    refine okP_seqT ?_
    refine okP_ift0 (by simp [h5]; done) ?_
    refine okP_lock fun LQ hLQ => ?_
    simp [e2]
    refine hLQ _ _ _ ?_
    clear hLQ LQ
    exact then_rt (ret_p ⟨⟨.one c, rfl, hc⟩, p2.le (by omega)⟩)
  obtain ⟨u, B2, e2, ⟨rs, rfl, r1, r2, r3⟩, p2⟩ := ranges_ok (p1.le (by omega : n + 9 + 50 ≤ _))
  refine okP_seqL fun LQ hLQ => ?_
  simp [h5]
  refine hLQ _ _ _ (then_nx ?_)
  clear hLQ LQ
  refine okP_lock fun LQ hLQ => ?_
  simp [e2]
  refine hLQ _ _ _ ?_
  clear hLQ LQ
  exact ret_p ⟨⟨.of (v == 5) rs, rfl, r1, by omega, r3⟩, p2.le (by omega)⟩
end LawW
/-! S22h: odd ones, rows. -/
namespace LawW
open PySem L2 QB
def bad7 (c d : Nat) : List U := [.tup [.str (ofC [c]), .str (ofC [d])], .tup [.str (ofC [97])], .tup [.str (ofC [97]), .str (ofC [98]), .str (ofC [99])], .tup [.str (ofC []), .str (ofC [97])], .tup [.str (ofC [97]), .str (ofC [98, 99])], .tup [], .tup [.str (ofC [97]), .str (ofC [])]]
theorem bad7_ok {c d : Nat} (h1 : c ∈ sgs) (h2 : d ∈ sgs) (h3 : d < c) : ∀ x ∈ bad7 c d, BadR x := by
  intro x hx
  simp only [bad7, List.mem_cons, List.not_mem_nil, or_false] at hx
  rcases hx with rfl | rfl | rfl | rfl | rfl | rfl | rfl
  · exact badR_1 (r := (c, d)) h1 h2 h3
  · exact badR_2
  · exact badR_3
  · exact badR_4
  · exact badR_5
  · exact badR_6
  · exact badR_7
theorem odd_ok {B : Bx} {i n : Nat} (hp : Purse B i (n + 60)) : ∃ u B', G__law_odd [.box i] B = .ok u B' ∧ Itm false u ∧ Purse B' i n := by
  obtain ⟨v, B1, v0, v1, e1, p1⟩ := coin1 94 hp
  obtain ⟨w, B2, w0, w1, e2, p2⟩ := coin1 (1 + v) p1 (by omega) (by omega)
  obtain ⟨cl, ch, x1, x2, s1, s2, s3⟩ := sg_less (v := w) (w := 1 + v) w0 w1 (by omega)
  obtain ⟨t, B3, t0, t1, e3, p3⟩ := coin1 7 p2
  obtain ⟨x, hx, hx2⟩ := atI_mem (l := bad7 ch cl) t0 (by simpa [bad7] using t1)
  have hbx := bad7_ok s2 s1 s3 x hx
  simp only [bad7] at hx2
  obtain ⟨a, B4, a0, a1, e4, p4⟩ := coin1 3 p3
  simp only [G__law_odd]
  refine run_p rfl ?_
  simp only [b__law_odd, List.map_cons, List.map_nil, List.length_cons, List.length_nil, Nat.reduceAdd, Nat.reduceSub, List.replicate_succ, List.replicate_zero, List.cons_append, List.nil_append, Nat.zero_add, Nat.sub_self, List.append_nil]
  refine okP_seqL fun LQ hLQ => ?_
  simp [e1]
  refine hLQ _ _ _ (then_nx ?_)
  clear hLQ LQ
  refine okP_seqL fun LQ hLQ => ?_
  simp [e2]
  refine hLQ _ _ _ (then_nx ?_)
  clear hLQ LQ
  refine okP_seqL fun LQ hLQ => ?_
  simp [signs_ok, x1, x2, sgs_len]
  refine hLQ _ _ _ (then_nx ?_)
  clear hLQ LQ
  refine okP_seqL fun LQ hLQ => ?_
  simp [e3, hx2]
  refine hLQ _ _ _ (then_nx ?_)
  clear hLQ LQ
  refine okP_seqL fun LQ hLQ => ?_
  simp
  refine hLQ _ _ _ (then_nx ?_)
  clear hLQ LQ
  refine okP_seqL fun LQ hLQ => ?_
  simp
  refine hLQ _ _ _ (then_nx ?_)
  clear hLQ LQ
  by_cases ha : a = 0
  · subst ha
    obtain ⟨b, B5, b0, b1, e5, p5⟩ := coin1 14 p4
    obtain ⟨y, hy, hy2⟩ := atI_mem (l := badL) b0 (by simpa [badL] using b1)
    simp only [badL] at hy2
    refine okP_seqT ?_
    refine okP_ift (by simp [e4] <;> first | exact ⟨rfl, rfl⟩ | rfl) ?_
    refine okP_lock fun LQ hLQ => ?_
    simp [e5, hy2]
    refine hLQ _ _ _ ?_
    clear hLQ LQ
    exact then_rt (ret_p ⟨.odd hy, p5.le (by omega)⟩)
  · have hab : (a == 0) = false := by simpa using ha
    refine okP_seqL fun LQ hLQ => ?_
    simp [e4, hab]
    refine hLQ _ _ _ (then_nx ?_)
    clear hLQ LQ
    obtain ⟨u, B5, e5, ⟨rs, rfl, r1, r2, r3⟩, p5⟩ := ranges_ok (p4.le (by omega : n + 6 + 50 ≤ _))
    refine okP_seqL fun LQ hLQ => ?_
    simp [e5]
    refine hLQ _ _ _ (then_nx ?_)
    clear hLQ LQ
    have hl2 : rs.length ≤ 16777216 := by omega
    obtain ⟨k, B6, k0, k1, e6, p6⟩ := coin1 ((rs.length : Int) + 1) p5 (by omega) (by omega)
    refine okP_seqL fun LQ hLQ => ?_
    simp [e6, hl2]
    refine hLQ _ _ _ (then_nx ?_)
    clear hLQ LQ
    obtain ⟨q, B7, q0, q1, e7, p7⟩ := coin1 2 p6
    obtain ⟨l1, z1, c1⟩ : ∃ l1, l1 = (rs.take k.toNat).map uR ∧ cutU (rs.map uR) none (some k) = l1 := ⟨_, rfl, by rw [cutU_j (b := k.toNat) (by omega), List.map_take]⟩
    obtain ⟨l2, z2, c2⟩ : ∃ l2, l2 = (rs.drop k.toNat).map uR ∧ cutU (rs.map uR) (some k) none = l2 := ⟨_, rfl, by rw [cutU_i (a := k.toNat) (by omega), List.map_drop]⟩
    have g1 : l1.length ≤ 8 := by rw [z1]; simp; omega
    have g2 : l2.length ≤ 8 := by rw [z2]; simp; omega
    have n1 : l1.length ≤ 16777215 := by omega
    have n2 : l1.length + (l2.length + 1) ≤ 16777216 := by omega
    have n3 : l1.length + 1 + l2.length ≤ 16777216 := by omega
    refine okP_lock fun LQ hLQ => ?_
    simp [e7, c1, c2, n1, n2, n3]
    refine hLQ _ _ _ ?_
    clear hLQ LQ
    refine ret_p ⟨?_, p7.le (by omega)⟩
    rw [z1, z2]
    exact .of (fun r hr => r3 r (List.mem_of_mem_take hr)) (fun r hr => r3 r (List.mem_of_mem_drop hr)) (by simp; omega) hbx
theorem row_ok {B : Bx} {i n : Nat} (hp : Purse B i (n + 700)) (bad : Bool) {most : Int} (m0 : 0 ≤ most) (m7 : most ≤ 7) : ∃ u B', G__law_row [.box i, .bl bad, .int most] B = .ok u B' ∧ (∃ ds, u = .lst ds ∧ Row ds (!bad) ∧ ds.length ≤ 8) ∧ Purse B' i n := by
  obtain ⟨v, B1, v0, v1, e1, p1⟩ := coin1 (most + 1) hp (by omega) (by omega)
  have i1 : I62 v = true := i62 (by omega) (by omega)
  obtain ⟨es, B2, e2, h2, h3, p2⟩ := lcDraw nat uE (bd := bdN 5) (f := mCall G__law_entry (mCons (mVar 0) (mNil))) (ks := [5]) (xs := List.range v.toNat) (E := [.val (.box i), .val (.bl bad), .val (.int most), .un, .un, .un]) (B := B1) (fi := mRange1 (mCons (mCall G__law_coin (mCons (mVar 0) (mCons (m2 gAdd (mVar 2) (mC (.int 1))) (mNil)))) (mNil))) (B1 := B)
    (by simp [e1, i1, intsU_map, nat]) (by simp) (by simp) (by simp; omega) (fun k acc B => (∀ e ∈ acc, EntOk e) ∧ Purse B i (n + 100 + 60 * k)) ⟨by simp, p1.le (by simp; omega)⟩
    (fun y k acc B _ _ hI => by
      obtain ⟨ho, pu⟩ := hI
      obtain ⟨u, B4, e2, ⟨e, rfl, he⟩, p2⟩ := entry_ok (pu.le (by omega : n + 100 + 60 * k + 60 ≤ _))
      refine BdIs_of (E := [.val (.box i), .val (.bl bad), .val (.int most), .un, .un, .val (nat y)]) (by simp) ⟨by simp, .w (uE e), e, B4, by simp [e2], rfl, ?_, p2⟩
      intro z hz
      rcases List.mem_append.mp hz with h | h
      · exact ho z h
      · rw [List.mem_singleton] at h; subst h; exact he)
  have hl : es.length ≤ 7 := by rw [h2]; simp; omega
  have lc : lc__law_row_0 G__law_coin G__law_entry [.val (.box i), .val (.bl bad), .val (.int most), .un, .un, .un] B = _ := e2
  simp only [G__law_row]
  refine run_p rfl ?_
  simp only [b__law_row, List.map_cons, List.map_nil, List.length_cons, List.length_nil, Nat.reduceAdd, Nat.reduceSub, List.replicate_succ, List.replicate_zero, List.cons_append, List.nil_append, Nat.zero_add, Nat.sub_self, List.append_nil]
  refine okP_seqL fun LQ hLQ => ?_
  simp [lc]
  refine hLQ _ _ _ (then_nx ?_)
  clear hLQ LQ
  cases bad with
  | false =>
    refine okP_seqT ?_
    refine okP_ift0 (by simp; done) ?_
    refine okP_lock fun LQ hLQ => ?_
    simp
    refine hLQ _ _ _ ?_
    clear hLQ LQ
    refine then_rt (ret_p ⟨⟨es.map uE, rfl, ⟨es.map fun e => (true, uE e), by rw [List.map_map]; rfl, fun p hp => ?_, ?_, by simp; omega⟩, by simp; omega⟩, p2.le (by omega)⟩)
    · obtain ⟨e, he, rfl⟩ := List.mem_map.mp hp
      exact .good (h3 e he)
    · rw [List.all_map]
      simp
  | true =>
    refine okP_seqL fun LQ hLQ => ?_
    simp
    refine hLQ _ _ _ (then_nx ?_)
    clear hLQ LQ
    have hl2 : es.length ≤ 16777216 := by omega
    obtain ⟨k, B3, k0, k1, e3, p3⟩ := coin1 ((es.length : Int) + 1) (p2.le (by omega : n + 60 + 1 ≤ _)) (by omega) (by omega)
    refine okP_seqL fun LQ hLQ => ?_
    simp [e3, hl2]
    refine hLQ _ _ _ (then_nx ?_)
    clear hLQ LQ
    obtain ⟨x, B4, e4, hx, p4⟩ := odd_ok (p3.le (by omega : n + 60 ≤ _))
    obtain ⟨l1, z1, c1⟩ : ∃ l1, l1 = (es.take k.toNat).map uE ∧ cutU (es.map uE) none (some k) = l1 := ⟨_, rfl, by rw [cutU_j (b := k.toNat) (by omega), List.map_take]⟩
    obtain ⟨l2, z2, c2⟩ : ∃ l2, l2 = (es.drop k.toNat).map uE ∧ cutU (es.map uE) (some k) none = l2 := ⟨_, rfl, by rw [cutU_i (a := k.toNat) (by omega), List.map_drop]⟩
    have g12 : l1.length + l2.length = es.length := by rw [z1, z2]; simp; omega
    have n1 : l1.length ≤ 16777215 := by omega
    have n2 : l1.length + (l2.length + 1) ≤ 16777216 := by omega
    have n3 : l1.length + 1 + l2.length ≤ 16777216 := by omega
    refine okP_lock fun LQ hLQ => ?_
    simp [e4, c1, c2, n1, n2, n3]
    refine hLQ _ _ _ ?_
    clear hLQ LQ
    refine ret_p ⟨⟨_, rfl, ⟨(es.take k.toNat).map (fun e => (true, uE e)) ++ (false, x) :: (es.drop k.toNat).map (fun e => (true, uE e)), ?_, fun p hp => ?_, ?_, by simp; omega⟩, by simp; omega⟩, p4⟩
    · rw [z1, z2]; simp [Function.comp_def]
    · rcases List.mem_append.mp hp with hp | hp
      · obtain ⟨e, he, rfl⟩ := List.mem_map.mp hp
        exact .good (h3 e (List.mem_of_mem_take he))
      · rcases List.mem_cons.mp hp with rfl | hp
        · exact hx
        · obtain ⟨e, he, rfl⟩ := List.mem_map.mp hp
          exact .good (h3 e (List.mem_of_mem_drop he))
    · simp
end LawW
/-! S22i: arms that hold. -/
namespace LawW
open PySem L2 QB
/-- the rows of the arms: those at b and w are none -/
def RowsOk (b w : Nat) (rss : List (List U)) : Prop := ∀ (k : Nat) (ds : List U), rss[k]? = some ds → Row ds (!(decide (k = b) || decide (k = w))) ∧ ds.length ≤ 8
theorem RowsOk.snoc {b w : Nat} {rss : List (List U)} {ds : List U} (h : RowsOk b w rss) (hr : Row ds (!(decide (rss.length = b) || decide (rss.length = w)))) (hl : ds.length ≤ 8) : RowsOk b w (rss ++ [ds]) := by
  intro k es hk
  by_cases z : k < rss.length
  · rw [List.getElem?_append_left z] at hk; exact h k es hk
  · have : k = rss.length := by
      have := (List.getElem?_eq_some_iff.mp hk).1
      simp at this
      omega
    subst this
    simp at hk
    subst hk
    exact ⟨hr, hl⟩
def topOf (g : Int) (k : Nat) : Int := if g < 4 then (if (k : Int) = g then 7 else 1) else 3
theorem topOf_le {g : Int} {k : Nat} : 0 ≤ topOf g k ∧ topOf g k ≤ 7 := by
  unfold topOf
  split
  · split <;> decide
  · decide
theorem tops_ok {p b w : U} {g : Int} {B : Bx} :
    lc__law_arms_hold_2 [.val p, .val b, .val w, .val (.int g), .un, .un, .un, .un, .un, .un, .un, .un] B = .ok (.fr (.lst ((List.range 4).map fun k => .int (topOf g k)))) [.val p, .val b, .val w, .val (.int g), .un, .un, .un, .un, .un, .un, .un, .un] B := by
  refine mLc_all nat (fun k => .int (topOf g k)) (xs := List.range 4) (by simp [intsU_map, nat]; rfl) (by simp) (by simp) (by simp) (fun k hk => ?_)
  have hk4 : k < 4 := by simpa using hk
  refine BdIs_of (E := [.val p, .val b, .val w, .val (.int g), .un, .un, .un, .un, .un, .un, .val (.int (k : Int)), .un]) (by simp [nat]) ⟨by simp, ?_⟩
  by_cases c : g < 4
  · by_cases e : (k : Int) = g
    · have e' : ((k : Int) == g) = true := by simpa using e
      simp [Elt, topOf, c, e, e']
    · have e' : ((k : Int) == g) = false := by simpa using e
      simp [Elt, topOf, c, e, e']
  · simp [Elt, topOf, c]
theorem in_two {k b w : Nat} : inU (.int (k : Int)) (.lst [.int (b : Int), .int (w : Int)]) = some (decide (k = b) || decide (k = w)) := by
  have := in_nats (n := k) (ks := [b, w])
  simp only [List.map_cons, List.map_nil, nat] at this
  rw [this]
  simp [Bool.decide_or]
theorem drop_range {m p x : Nat} {r : List Nat} (h : x :: r = (List.range m).drop p) : x = p ∧ p < m ∧ r = (List.range m).drop (p + 1) := by
  have h1 := congrArg (·[0]?) h
  simp only [List.getElem?_cons_zero, List.getElem?_drop, Nat.add_zero] at h1
  have hp : p < m := by
    by_cases z : p < m
    · exact z
    · rw [List.getElem?_eq_none (by simp; omega)] at h1; cases h1
  rw [List.getElem?_range hp] at h1
  have h2 := congrArg List.tail h
  rw [List.tail_cons, List.tail_drop] at h2
  exact ⟨by simpa using h1, hp, h2⟩
theorem rows_ok {B : Bx} {i n : Nat} (hp : Purse B i (n + 4000)) {b w : Nat} (hb : b < 3) (hw : w < 3) {g : Int} {t : U} :
    ∃ rss B', lc__law_arms_hold_1 G__law_coin G__law_row [.val (.box i), .val (.int (b : Int)), .val (.int (w : Int)), .val t, .val (.lst ((List.range 4).map fun k => .int (topOf g k))), .un, .un, .un, .un, .un, .un, .un] B =
      .ok (.fr (.lst (rss.map .lst))) [.val (.box i), .val (.int (b : Int)), .val (.int (w : Int)), .val t, .val (.lst ((List.range 4).map fun k => .int (topOf g k))), .un, .un, .un, .un, .un, .un, .un] B' ∧ RowsOk b w rss ∧ b < rss.length ∧ rss.length ≤ 4 ∧ Purse B' i n := by
  obtain ⟨c, B1, c0, c1, e1, p1⟩ := coin1 2 hp
  have hm : (b : Int) + 1 + c = ((b + 1 + c.toNat : Nat) : Int) := by omega
  have hm4 : b + 1 + c.toNat ≤ 4 := by omega
  generalize hmm : b + 1 + c.toNat = m at hm hm4
  have i1 : I62 (m : Int) = true := i62 (by omega) (by omega)
  generalize hE : ([.val (.box i), .val (.int (b : Int)), .val (.int (w : Int)), .val t, .val (.lst ((List.range 4).map fun k => .int (topOf g k))), .un, .un, .un, .un, .un, .un, .un] : En) = E
  have k := okP_lcM nat (bd := bdN 10) (f := mCall G__law_row (mCons (mVar 0) (mCons (m2 (gIn false) (mVar 10) (mLst (mCons (mVar 1) (mCons (mVar 2) (mNil))))) (mCons (m2 gIx (mVar 4) (mVar 10)) (mNil))))) (ks := [10]) (xs := List.range m) (E := E) (E1 := E) (B := B) (B1 := B1) (fi := mRange1 (mCons (m2 gAdd (m2 gAdd (mVar 1) (mC (.int 1))) (mCall G__law_coin (mCons (mVar 0) (mCons (mC (.int 2)) (mNil))))) (mNil)))
    (Q := fun r E' B' => ∃ rss, r = .fr (.lst (rss.map .lst)) ∧ E' = E ∧ RowsOk b w rss ∧ rss.length = m ∧ Purse B' i n)
    (by subst hE; simp [e1, hm, i1, intsU_map, nat]) (by subst hE; simp) (by subst hE; simp) (by simp; omega)
    (fun rest acc B' => ∃ rss : List (List U), acc = rss.map .lst ∧ rest = (List.range m).drop rss.length ∧ rss.length ≤ m ∧ RowsOk b w rss ∧ Purse B' i (n + 900 * rest.length)) ⟨[], rfl, rfl, by simp, (fun k ds h => by simp at h), p1.le (by simp; omega)⟩
    (by
      rintro x r acc B' ⟨rss, rfl, er, hle, hr, pu⟩
      obtain ⟨rfl, hp, hr2⟩ := drop_range er
      rw [List.length_cons] at pu
      have ht := topOf_le (g := g) (k := rss.length)
      obtain ⟨u, B2, e2, ⟨ds, rfl, h1, h2⟩, p2⟩ := row_ok (pu.le (by omega : n + 900 * r.length + 700 ≤ _)) (decide (rss.length = b) || decide (rss.length = w)) ht.1 ht.2
      have ia := in_two (k := rss.length) (b := b) (w := w)
      have it : atI ((List.range 4).map fun k => U.int (topOf g k)) (rss.length : Int) = some (.int (topOf g rss.length)) := by
        rw [atI_of (k := rss.length) rfl, List.getElem?_map, List.getElem?_range (by omega)]; rfl
      generalize htt : ((List.range 4).map fun k => U.int (topOf g k)) = tt at hE it
      subst hE
      refine BdIs_of (E := [.val (.box i), .val (.int (b : Int)), .val (.int (w : Int)), .val t, .val (.lst tt), .un, .un, .un, .un, .un, .val (.int (rss.length : Int)), .un]) (by simp [nat]) ⟨by simp, .w (.lst ds), .lst ds, B2, by simp [ia, it, e2], rfl, rss ++ [ds], by simp, by rw [hr2]; simp, by simp; omega, hr.snoc h1 h2, p2⟩)
    (by
      rintro acc B' ⟨rss, rfl, er, hle, hr, pu⟩
      have hl : rss.length = m := by
        have := congrArg List.length er
        simp at this
        omega
      exact ⟨rss, rfl, rfl, hr, hl, pu.le (by omega)⟩)
  obtain ⟨r, E', B', e, rss, rfl, rfl, h1, h2, h3⟩ := k.get
  exact ⟨rss, B', e, h1, by omega, by omega, h3⟩
end LawW
/-! S22j: arms that hold, together. -/
namespace LawW
open PySem L2 QB
theorem purse_kept {B B' : Bx} {i n a b : Nat} (h : Purse B i n) (k : Kept B B' a b) (hi : i < a) : Purse B' i n := by
  obtain ⟨x, y, t, h, h1⟩ := h
  exact ⟨x, y, t, by rw [k.2 i (.inl hi)]; exact h, h1⟩
theorem ones_lc {rss : List (List U)} (hl : rss.length ≤ 100) {p b w g t c s : U} {B : Bx} :
    lc__law_arms_hold_0 [.val p, .val b, .val w, .val g, .val t, .val (.lst (rss.map .lst)), .val c, .val s, .un, .un, .un, .un] B = .ok (.fr (.lst (rss.map fun r => .lst [.lst r]))) [.val p, .val b, .val w, .val g, .val t, .val (.lst (rss.map .lst)), .val c, .val s, .un, .un, .un, .un] B := by
  refine mLc_all U.lst (fun r => .lst [.lst r]) (xs := rss) (by simp) (by simp) (by simp) (by omega) (fun r hr => ?_)
  refine BdIs_of (E := [.val p, .val b, .val w, .val g, .val t, .val (.lst (rss.map .lst)), .val c, .val s, .un, .un, .un, .val (.lst r)]) (by simp) ⟨by simp, ?_⟩
  simp [Elt]
theorem wf_cases {b w : Nat} {rss : List (List U)} (hr : RowsOk b w rss) {cs : List (List (List U))} (hc : cs.flatten = rss) (h1 : cs.length ≤ 100) (h2 : rss.length ≤ 100) : Wf 8 (.lst (cs.map armT)) := by
  refine ⟨by simp; omega, fun v hv => ?_⟩
  obtain ⟨dss, hd, rfl⟩ := List.mem_map.mp hv
  have hl : dss.length ≤ 100 := by
    have : dss.length ≤ cs.flatten.length := by
      obtain ⟨s, t, rfl⟩ := List.append_of_mem hd
      simp
      omega
    rw [hc] at this
    omega
  refine ⟨by simp; omega, fun v hv => ?_⟩
  obtain ⟨ds, hds, rfl⟩ := List.mem_map.mp hv
  have hm : ds ∈ rss := by rw [← hc]; exact List.mem_flatten.mpr ⟨dss, hd, hds⟩
  obtain ⟨k, hk⟩ := List.mem_iff_getElem?.mp hm
  exact (hr k ds hk).1.wf
theorem arms_hold_ok {B : Bx} {i n : Nat} (hp : Purse B i (n + 5000)) : ∃ u B', G__law_arms_hold [.box i] B = .ok u B' ∧ u = .bl true ∧ Purse B' i n := by
  obtain ⟨v, B1, v0, v1, e1, p1⟩ := coin1 3 hp
  obtain ⟨b, rfl⟩ : ∃ b : Nat, v = b := ⟨v.toNat, by omega⟩
  obtain ⟨v, B2, v0, v2, e2, p2⟩ := coin1 3 p1
  obtain ⟨w, rfl⟩ : ∃ b : Nat, v = b := ⟨v.toNat, by omega⟩
  obtain ⟨g, B3, g0, g1, e3, p3⟩ := coin1 6 p2
  obtain ⟨rss, B4, e4, hr, hb, hl, p4⟩ := rows_ok (p3.le (by omega : n + 900 + 4000 ≤ _)) (b := b) (w := w) (by omega) (by omega) (g := g) (t := .int g)
  have hl2 : rss.length ≤ 16777216 := by omega
  obtain ⟨k, B5, k0, k1, e5, p5⟩ := coin1 ((rss.length : Int) + 1) p4 (by omega) (by omega)
  have c1 : cutU (rss.map U.lst) none (some k) = (rss.take k.toNat).map .lst := by rw [cutU_j (b := k.toNat) (by omega), List.map_take]
  have c2 : cutU (rss.map U.lst) (some k) none = (rss.drop k.toNat).map .lst := by rw [cutU_i (a := k.toNat) (by omega), List.map_drop]
  obtain ⟨q, B6, q0, q1, e6, p6⟩ := coin1 3 p5
  have htops := tops_ok (p := .box i) (b := .int (b : Int)) (w := .int (w : Int)) (g := g) (B := B3)
  generalize htt : ((List.range 4).map fun k => U.int (topOf g k)) = tt at e4 htops
  simp only [G__law_arms_hold]
  refine run_p rfl ?_
  simp only [b__law_arms_hold, List.map_cons, List.map_nil, List.length_cons, List.length_nil, Nat.reduceAdd, Nat.reduceSub, List.replicate_succ, List.replicate_zero, List.cons_append, List.nil_append, Nat.zero_add, Nat.sub_self, List.append_nil]
  refine okP_seqL fun LQ hLQ => ?_
  simp [e1]
  refine hLQ _ _ _ (then_nx ?_)
  clear hLQ LQ
  refine okP_seqL fun LQ hLQ => ?_
  simp [e2]
  refine hLQ _ _ _ (then_nx ?_)
  clear hLQ LQ
  refine okP_seqL fun LQ hLQ => ?_
  simp [e3]
  refine hLQ _ _ _ (then_nx ?_)
  clear hLQ LQ
  refine okP_seqL fun LQ hLQ => ?_
  simp [htops]
  refine hLQ _ _ _ (then_nx ?_)
  clear hLQ LQ
  refine okP_seqL fun LQ hLQ => ?_
  simp [e4]
  refine hLQ _ _ _ (then_nx ?_)
  clear hLQ LQ
  refine okP_seqL fun LQ hLQ => ?_
  simp [e5, hl2]
  refine hLQ _ _ _ (then_nx ?_)
  clear hLQ LQ
  refine okP_seqL fun LQ hLQ => ?_
  simp [c1, c2]
  refine hLQ _ _ _ (then_nx ?_)
  clear hLQ LQ
  refine okP_seqT ?_
  refine OkP.mono (Q := fun fl E' B' => fl = .nx ∧ B' = B6 ∧ ∃ cs : List (List (List U)), cs.flatten = rss ∧ cs.length ≤ 10 ∧ E' = [.val (.box i), .val (.int (b : Int)), .val (.int (w : Int)), .val (.int g), .val (.lst tt), .val (.lst (rss.map .lst)), .val (.int k), .val (.lst (cs.map armT)), .un, .un, .un, .un]) ?_ ?_
  · by_cases hq : q = 0
    · subst hq
      have ol := ones_lc (rss := rss) (by omega) (p := .box i) (b := .int (b : Int)) (w := .int (w : Int)) (g := .int g) (t := .lst tt) (c := .int k) (s := .lst [.lst ((rss.take k.toNat).map .lst), .lst ((rss.drop k.toNat).map .lst)]) (B := B6)
      simp only [List.map_take, List.map_drop] at ol
      have n1 : rss.length + 1 ≤ 16777216 := by omega
      have n2 : 1 + rss.length ≤ 16777216 := by omega
      have n3 : rss.length ≤ 16777215 := by omega
      refine okP_ift (by simp [e6] <;> first | exact ⟨rfl, rfl⟩ | rfl) ?_
      refine okP_lock fun LQ hLQ => ?_
      simp [ol, n1, n2, n3]
      refine hLQ _ _ _ ?_
      clear hLQ LQ
      refine ⟨rfl, rfl, [] :: rss.map fun r => [r], by simp [List.flatten, ← List.flatMap_def], by simp; omega, ?_⟩
      simp [armT, Function.comp_def]
    · have hq' : (q == 0) = false := by simpa using hq
      refine okP_iff (by simp [e6, hq'] <;> first | exact ⟨rfl, rfl⟩ | rfl) ?_
      refine okP_lock fun LQ hLQ => ?_
      simp only [e_sNext, OkP_ok]
      refine hLQ _ _ _ ?_
      clear hLQ LQ
      exact ⟨rfl, rfl, [rss.take k.toNat, rss.drop k.toNat], by simp, by simp, by simp [armT]⟩
  · rintro fl E' B' ⟨rfl, rfl, cs, hc, hcl, rfl⟩
    refine then_nx ?_
    have wf := wf_cases hr hc (by omega) (by omega)
    obtain ⟨u, X, e7, ho⟩ := own_ok 8 _ wf B'
    have p7 : Purse (B' ++ X) i (n + 800) := (p6.app (C := X)).le (by omega)
    have hi := p6.lt
    obtain ⟨z, c, z0, z1, e8, p8⟩ := coin_ok (many := 2) (p7.le (by omega : n + 700 + 1 ≤ _)) (by decide) (by decide)
    have e8' : G__law_coin [.box i, .int 2] (B' ++ X) = .ok (.int z) ((B' ++ X).set i c) := e8
    have hBl : B'.length ≤ (B' ++ X).length := by simp
    have ho2 : Ow ((B' ++ X).set i c) (.lst (cs.map armT)) B'.length (B' ++ X).length u := Ow.frame _ ho fun j h1 h2 => by rw [List.getElem?_set_ne (by omega)]
    generalize hμ : min b w = μ
    have hμb : μ ≤ b := by omega
    have hμ1 : (if w < b then (w : Int) else (b : Int)) = (μ : Int) := by split <;> omega
    have hμl : μ < rss.length := by omega
    have hgμ := List.getElem?_eq_getElem hμl
    have hrow := (hr μ _ hgμ).1
    have hfl : (!(decide (μ = b) || decide (μ = w))) = false := by
      have : μ = b ∨ μ = w := by omega
      rcases this with h | h <;> simp [h]
    rw [hfl] at hrow
    have hsplit : cs.flatten = rss.take μ ++ rss[μ] :: rss.drop (μ + 1) := by rw [hc, ← List.drop_eq_getElem_cons hμl, List.take_append_drop]
    have hpre : ∀ es ∈ rss.take μ, Row es true := fun es hes => by
      obtain ⟨j, hj⟩ := List.mem_iff_getElem?.mp hes
      have hjl : j < μ := by
        have := (List.getElem?_eq_some_iff.mp hj).1
        simp at this
        omega
      rw [List.getElem?_take_of_lt hjl] at hj
      have := (hr j es hj).1
      have hf : (!(decide (j = b) || decide (j = w))) = true := by
        have h1 : ¬ j = b := by omega
        have h2 : ¬ j = w := by omega
        simp [h1, h2]
      rwa [hf] at this
    have ask := asked_arms_x ho2 hsplit (by rw [hc]; omega) hpre hrow z0 z1
    obtain ⟨B9, e9, kp⟩ := refusal_ok hrow wf ho2 (by simp)
    have ai : atI (rss.map U.lst) (μ : Int) = some (.lst rss[μ]) := by rw [atI_of (k := μ) rfl, List.getElem?_map, hgμ]; rfl
    refine okP_seqL fun LQ hLQ => ?_
    simp [e7]
    refine hLQ _ _ _ (then_nx ?_)
    clear hLQ LQ
    refine okP_seqL fun LQ hLQ => ?_
    simp [e8', ask]
    refine hLQ _ _ _ (then_nx ?_)
    clear hLQ LQ
    refine okP_lock fun LQ hLQ => ?_
    simp [hμ1, ai, e9]
    refine hLQ _ _ _ ?_
    clear hLQ LQ
    exact ret_p ⟨rfl, (purse_kept p8 kp hi).le (by omega)⟩
end LawW
/-! S22k: the law. -/
namespace LawW
open PySem L2 QB
noncomputable def restS : Sm := sSeq (sSet 9 (mCall (G__law_own 8) (mCons (mVar 8) (mNil)))) (sSeq (sIf (mNot (mTru (mCall G__law_is_refusal (mCons (mCall G__law_asked_one (mCons (m2 gIx (mVar 3) (mC (.int 0))) (mCons (mVar 9) (mNil)))) (mCons (mVar 8) (mCons (mVar 9) (mNil))))))) (sRet (mC (.bl false))) (sNext)) (sSeq (sSet 9 (mBox (mLst (mCons (mCall (G__law_own 8) (mCons (mVar 6) (mNil))) (mCons (mCall (G__law_own 8) (mCons (mVar 7) (mNil))) (mNil)))))) (sSeq (sIf (mNot (mTru (mCall G__law_is_refusal (mCons (mCall G__law_asked_two (mCons (m2 gIx (mVar 3) (mC (.int 1))) (mCons (m2 gIx (mVar 9) (mC (.int 0))) (mCons (m2 gIx (mVar 9) (mC (.int 1))) (mNil))))) (mCons (mVar 8) (mCons (mVar 9) (mNil))))))) (sRet (mC (.bl false))) (sNext)) (sIf (mNot (mTru (mCall G__law_arms_hold (mCons (mVar 2) (mNil))))) (sRet (mC (.bl false))) (sNext)))))
theorem after_ok {B : Bx} {i : Nat} {x b m : U} {ns : List Int} {y0 y1 : Int} {s9 : Sl} {dl dr dw : List U} {kl kr : Bool} (hl : Row dl kl) (hr : Row dr kr) (hw : Row dw false) (h : dw = dl ∨ (Row dl true ∧ dw = dr)) (a0 : 0 ≤ y0) (a1 : y0 < 5) (b0 : 0 ≤ y1) (b1 : y1 < 4) (hp : Purse B i 6000) :
    OkP (restS [.val (.scr ns), .val x, .val (.box i), .val (.lst [.int y0, .int y1]), .val b, .val m, .val (.lst dl), .val (.lst dr), .val (.lst dw), s9] B) fun fl E' B' => fl = .nx ∧ ∃ u, E' = [.val (.scr ns), .val x, .val (.box i), .val (.lst [.int y0, .int y1]), .val b, .val m, .val (.lst dl), .val (.lst dr), .val (.lst dw), .val u] := by
  obtain ⟨u, X, e1, o1⟩ := own_ok 8 (.lst dw) (hw.wf.mono (by decide)) B
  have q1 := asked_one_x hw o1 a0 a1
  have p1 : Purse (B ++ X) i 6000 := hp.app
  have hi := hp.lt
  obtain ⟨B2, e2, k2⟩ := refusal_ok hw (hw.wf.mono (by decide)) o1 (Nat.le_refl _)
  have p2 := purse_kept p1 k2 hi
  obtain ⟨ul, X3, e3, o3⟩ := own_ok 8 (.lst dl) (hl.wf.mono (by decide)) B2
  obtain ⟨ur, X4, e4, o4⟩ := own_ok 8 (.lst dr) (hr.wf.mono (by decide)) (B2 ++ X3)
  have hi2 := p2.lt
  have o3' : Ow (B2 ++ X3 ++ X4 ++ [.lst [ul, ur]]) (.lst dl) B2.length (B2 ++ X3).length ul := by
    rw [List.append_assoc (B2 ++ X3)]
    exact o3.app (Nat.le_refl _)
  have o4' : Ow (B2 ++ X3 ++ X4 ++ [.lst [ul, ur]]) (.lst dr) (B2 ++ X3).length (B2 ++ X3 ++ X4).length ur := o4.app (Nat.le_refl _)
  have hj : (B2 ++ X3 ++ X4 ++ [Cell.lst [ul, ur]])[(B2 ++ X3 ++ X4).length]? = some (.lst [ul, ur]) := by simp
  have o5 : Ow (B2 ++ X3 ++ X4 ++ [.lst [ul, ur]]) (.lst [.lst dl, .lst dr]) B2.length ((B2 ++ X3 ++ X4).length + 1) (.box (B2 ++ X3 ++ X4).length) := by
    rw [Ow]
    refine ⟨[ul, ur], _, rfl, rfl, hj, ?_⟩
    rw [Ows]
    refine ⟨ul, [ur], _, rfl, o3', ?_⟩
    rw [Ows]
    refine ⟨ur, [], _, rfl, o4', ?_⟩
    rw [Ows]
    exact ⟨rfl, rfl⟩
  have w5 : Wf 8 (.lst [.lst dl, .lst dr]) := ⟨by simp, fun v hv => by
    simp only [List.mem_cons, List.not_mem_nil, or_false] at hv
    rcases hv with rfl | rfl
    · exact hl.wf.mono (by decide)
    · exact hr.wf.mono (by decide)⟩
  have q5 : G__law_asked_two [.int y1, ul, ur] (B2 ++ X3 ++ X4 ++ [.lst [ul, ur]]) = .ok (.exc "InvalidPattern" (.lst dw)) (B2 ++ X3 ++ X4 ++ [.lst [ul, ur]]) := by
    rcases h with rfl | ⟨g1, rfl⟩
    · exact asked_two_x (u := ul) hw (.inl ⟨_, _, rfl, o3'⟩) b0 b1
    · exact asked_two_x (u := ur) hw (.inr ⟨⟨dl, _, _, g1, o3'⟩, rfl, _, _, o4'⟩) b0 b1
  obtain ⟨B6, e6, k6⟩ := refusal_ok hw w5 o5 (by rw [List.length_append (as := B2 ++ X3 ++ X4)]; exact Nat.le_refl _)
  have p6 : Purse (B2 ++ X3 ++ X4 ++ [.lst [ul, ur]]) i 6000 := ((p2.app (C := X3)).app (C := X4)).app
  have p7 := purse_kept p6 k6 hi2
  obtain ⟨v, B7, e7, rfl, p8⟩ := arms_hold_ok (n := 1000) p7
  generalize B2 ++ X3 = B3 at *
  generalize B3 ++ X4 = B5 at *
  unfold restS
  refine okP_seqL fun LQ hLQ => ?_
  simp [e1]
  refine hLQ _ _ _ (then_nx ?_)
  clear hLQ LQ
  refine okP_seqL fun LQ hLQ => ?_
  simp [q1, e2]
  refine hLQ _ _ _ (then_nx ?_)
  clear hLQ LQ
  refine okP_seqL fun LQ hLQ => ?_
  simp [e3, e4]
  refine hLQ _ _ _ (then_nx ?_)
  clear hLQ LQ
  refine okP_seqL fun LQ hLQ => ?_
  simp [hj, q5, e6]
  refine hLQ _ _ _ (then_nx ?_)
  clear hLQ LQ
  refine okP_lock fun LQ hLQ => ?_
  simp [e7]
  refine hLQ _ _ _ ?_
  clear hLQ LQ
  exact ⟨rfl, _, rfl⟩
end LawW
/-! S22l: the law. -/
namespace LawW
open PySem L2 QB
theorem purse1 {B : Bx} {ns : List Int} {k : Nat} : ∃ c : Cell, G__law_purse [.scr ns, .int (k : Int)] B = .ok (.box B.length) (B ++ [c]) ∧ Purse (B ++ [c]) B.length (2 ^ 39) := purse_ok
theorem same_bl (c : Bool) (B : Bx) : G__law_same 6 [.bl c, .bl c] B = .ok (.bl true) B := by rw [G_lsame]; exact same_ok 6 _ _ (Wf.sm (show Wf 6 (.bl c) from trivial))
theorem pat_own {ds : List U} {k : Bool} (h : Row ds k) (B : Bx) : ∃ u X, G__law_own 8 [.lst ds] B = .ok u (B ++ X) ∧ G_is_pattern [u] (B ++ X) = .ok (.bl k) (B ++ X) := by
  obtain ⟨u, X, e, o⟩ := own_ok 8 (.lst ds) (h.wf.mono (by decide)) B
  exact ⟨u, X, e, is_pattern_ow h o⟩
theorem plain (ns : List Int) (hns : ns.length ≤ 63) : ∃ B', G_law [.scr ns] [] = .ok (.bl true) B' := by
  have key : ∃ u B', G_law [.scr ns] [] = .ok u B' ∧ u = .bl true := by
    simp only [G_law]
    refine run_p rfl ?_
    simp only [b_law, List.map_cons, List.map_nil, List.length_cons, List.length_nil, Nat.reduceAdd, Nat.reduceSub, List.replicate_succ, List.replicate_zero, List.cons_append, List.nil_append, Nat.zero_add, Nat.sub_self, List.append_nil]
    refine okP_seqT ?_
    have hm : ∃ m : Nat, m ≤ 40 ∧ (mRange1 (mCons (mB gMax2 (mCons (mC (.int 1)) (mCons (mB gMin2 (mCons (mC (.int 40)) (mCons (m1 gLen (mVar 0)) (mNil)))) (mNil)))) (mNil))) [.val (.scr ns), .un, .un, .un, .un, .un, .un, .un, .un, .un] [] = .ok ((List.range m).map nat, yes) [.val (.scr ns), .un, .un, .un, .un, .un, .un, .un, .un, .un] [] := by
      generalize hz : (if (if (ns.length : Int) < 40 then (ns.length : Int) else 40) > 1 then (if (ns.length : Int) < 40 then (ns.length : Int) else 40) else 1) = z
      have z0 : 0 ≤ z ∧ z ≤ 40 := by
        rw [← hz]; split <;> (split at * <;> omega)
      refine ⟨z.toNat, by omega, ?_⟩
      have i1 : I62 z = true := i62 (by omega) (by omega)
      have e1 := intsU_map z.toNat
      simp only [e_mRange1, e_mCons, e_mB, e_mNil, e_mC, e_m1, e_mVar]
      simp [hz, i1, e1, nat]
    obtain ⟨m, hm, em⟩ := hm
    refine okP_forM nat (xs := List.range m) (E1 := [.val (.scr ns), .un, .un, .un, .un, .un, .un, .un, .un, .un]) (B1 := []) em
      (fun q E B' => ∃ (s1 s2 s3 s4 s5 s6 s7 s8 s9 : Sl), E = [.val (.scr ns), s1, s2, s3, s4, s5, s6, s7, s8, s9] ∧ Free s1)
      ⟨.un, .un, .un, .un, .un, .un, .un, .un, .un, rfl, free_un⟩ ?_ ?_
    · rintro x q E B' ⟨s1, s2, s3, s4, s5, s6, s7, s8, s9, rfl, f1⟩
      refine BdIs_of (E := [.val (.scr ns), .val (nat x), s2, s3, s4, s5, s6, s7, s8, s9]) (by rcases f1 with rfl | ⟨_, rfl⟩ <;> simp) (body_go ?_)
      obtain ⟨c, pe, pp⟩ := purse1 (B := B') (ns := ns) (k := x)
      obtain ⟨y0, B1, a0, a1, e1, p1⟩ := coin1 5 (pp.le (by decide : 99999 + 1 ≤ 2 ^ 39))
      obtain ⟨y1, B2, b0, b1, e2, p2⟩ := coin1 4 (p1.le (by decide : 99998 + 1 ≤ _))
      obtain ⟨b, B3, v0, v1, e3, p3⟩ := coin1 3 (p2.le (by decide : 99997 + 1 ≤ _))
      obtain ⟨w, B4, w0, w1, e4, p4⟩ := coin1 2 (p3.le (by decide : 99996 + 1 ≤ _))
      have hw : ∃ mo : Int, atI [U.int 3, .int 7] w = some (.int mo) ∧ 0 ≤ mo ∧ mo ≤ 7 := by
        have : w = 0 ∨ w = 1 := by omega
        rcases this with rfl | rfl
        · exact ⟨3, rfl, by decide, by decide⟩
        · exact ⟨7, rfl, by decide, by decide⟩
      obtain ⟨mo, hmo, m0, m7⟩ := hw
      have step : ∀ (lb rb : Bool), (∀ dl dr, Row dl (!lb) → Row dr (!rb) → Row (if lb then dl else dr) false ∧ ((if lb then dl else dr) = dl ∨ (Row dl true ∧ (if lb then dl else dr) = dr))) → (b == 1) = (!lb) → (b == 0) = (!rb) →
          OkP (lp_law_0 G__law_purse G__law_coin G__law_row (G__law_same 6) G_is_pattern (G__law_own 8) G__law_is_refusal G__law_asked_one G__law_asked_two G__law_arms_hold [.val (.scr ns), .val (nat x), s2, s3, s4, s5, s6, s7, s8, s9] B') (fun fl E' B' => fl = .nx ∧ ∃ (s2 s3 s4 s5 s6 s7 s8 s9 : Sl), E' = [.val (.scr ns), .val (nat x), s2, s3, s4, s5, s6, s7, s8, s9]) := by
        intro lb rb hrow h1 h0
        obtain ⟨u, B5, e5, ⟨dl, rfl, rl, ll⟩, p5⟩ := row_ok (p4.le (by decide : 90000 + 700 ≤ _)) lb m0 m7
        obtain ⟨u, B6, e6, ⟨dr, rfl, rr, lr⟩, p6⟩ := row_ok (p5.le (by decide : 80000 + 700 ≤ _)) rb m0 m7
        obtain ⟨u7, X7, e7, e7'⟩ := pat_own rl B6
        obtain ⟨u8, X8, e8, e8'⟩ := pat_own rr (B6 ++ X7)
        have p8 : Purse (B6 ++ X7 ++ X8) B'.length 6000 := ((p6.app (C := X7)).app (C := X8)).le (by decide)
        obtain ⟨g1, g2⟩ := hrow dl dr rl rr
        generalize B6 ++ X7 = B7 at *
        generalize B7 ++ X8 = B8 at *
        have sb1 := same_bl (!lb) B7
        have sb2 := same_bl (!rb) B8
        have aft := fun s9 => after_ok (x := nat x) (b := .int b) (m := .int mo) (ns := ns) (s9 := s9) rl rr g1 g2 a0 a1 b0 b1 p8
        unfold lp_law_0
        refine okP_seqT ?_
        have st : (sSet 2 (mCall G__law_purse (mCons (mVar 0) (mCons (mVar 1) mNil)))) [.val (.scr ns), .val (nat x), s2, s3, s4, s5, s6, s7, s8, s9] B' = .ok .nx [.val (.scr ns), .val (nat x), .val (.box B'.length), s3, s4, s5, s6, s7, s8, s9] (B' ++ [c]) := by simp [nat_eq, pe]
        rw [st, OkP_ok]
        refine then_nx ?_
        refine okP_seqL fun LQ hLQ => ?_
        simp [e1, e2]
        refine hLQ _ _ _ (then_nx ?_)
        clear hLQ LQ
        refine okP_seqL fun LQ hLQ => ?_
        simp [e3]
        refine hLQ _ _ _ (then_nx ?_)
        clear hLQ LQ
        refine okP_seqL fun LQ hLQ => ?_
        simp [e4, hmo]
        refine hLQ _ _ _ (then_nx ?_)
        clear hLQ LQ
        refine okP_seqL fun LQ hLQ => ?_
        simp [h1, e5]
        refine hLQ _ _ _ (then_nx ?_)
        clear hLQ LQ
        refine okP_seqL fun LQ hLQ => ?_
        simp [h0, e6]
        refine hLQ _ _ _ (then_nx ?_)
        clear hLQ LQ
        refine okP_seqL fun LQ hLQ => ?_
        simp [e7, e7', h1, sb1]
        refine hLQ _ _ _ (then_nx ?_)
        clear hLQ LQ
        refine okP_seqL fun LQ hLQ => ?_
        simp [e8, e8', h0, sb2]
        refine hLQ _ _ _ (then_nx ?_)
        clear hLQ LQ
        cases lb with
        | true =>
          have h1' : (b == 1) = false := h1
          refine okP_seqL fun LQ hLQ => ?_
          simp [h1']
          refine hLQ _ _ _ (then_nx ?_)
          clear hLQ LQ
          refine OkP.mono (aft s9) ?_
          rintro fl E' B' ⟨rfl, u, rfl⟩
          exact ⟨rfl, _, _, _, _, _, _, _, _, rfl⟩
        | false =>
          have h1' : (b == 1) = true := h1
          refine okP_seqL fun LQ hLQ => ?_
          simp [h1']
          refine hLQ _ _ _ (then_nx ?_)
          clear hLQ LQ
          refine OkP.mono (aft s9) ?_
          rintro fl E' B' ⟨rfl, u, rfl⟩
          exact ⟨rfl, _, _, _, _, _, _, _, _, rfl⟩
      have fin : OkP (lp_law_0 G__law_purse G__law_coin G__law_row (G__law_same 6) G_is_pattern (G__law_own 8) G__law_is_refusal G__law_asked_one G__law_asked_two G__law_arms_hold [.val (.scr ns), .val (nat x), s2, s3, s4, s5, s6, s7, s8, s9] B') (fun fl E' B' => fl = .nx ∧ ∃ (s2 s3 s4 s5 s6 s7 s8 s9 : Sl), E' = [.val (.scr ns), .val (nat x), s2, s3, s4, s5, s6, s7, s8, s9]) := by
        have : b = 0 ∨ b = 1 ∨ b = 2 := by omega
        rcases this with rfl | rfl | rfl
        · exact step true false (fun dl dr h1 h2 => ⟨h1, .inl rfl⟩) rfl rfl
        · exact step false true (fun dl dr h1 h2 => ⟨h2, .inr ⟨h1, rfl⟩⟩) rfl rfl
        · exact step true true (fun dl dr h1 h2 => ⟨h1, .inl rfl⟩) rfl rfl
      refine OkP.mono fin ?_
      rintro fl E' B' ⟨rfl, s2, s3, s4, s5, s6, s7, s8, s9, rfl⟩
      exact loop_nx ⟨_, s2, s3, s4, s5, s6, s7, s8, s9, rfl, free_val⟩
    · rintro E B' ⟨s1, s2, s3, s4, s5, s6, s7, s8, s9, rfl, f1⟩
      refine then_nx ?_
      refine okP_lock fun LQ hLQ => ?_
      simp
      refine hLQ _ _ _ ?_
      clear hLQ LQ
      exact ret_p rfl
  obtain ⟨u, B', e, rfl⟩ := key
  exact ⟨B', e⟩
end LawW
open PySem PySem.W PyProof.Rows
set_option maxRecDepth 100000 in
set_option maxHeartbeats 0 in
theorem PySem.Challenge.cw_quotedback_k22_no_patterns_holds : PySem.Challenge.rw_quotedback_k22_no_patterns.Holds := by
  w_on; o_law; k_head; (case hw => w_witness2)
  k_fill
  refine LawW.walk LawW.plain (l := PySem.Challenge.rw_quotedback_k22_no_patterns) rfl rfl (fun w h Y => by first | exact PySem.W.kIn_of Y | exact Y.1) ?F
  case F =>
    intro w mg fa h KX G hmg
    refine' LawW.all_mk KX G hmg ?a0 ?l0 ?c0 ?k0 ?a1 ?l1 ?c1 ?k1 ?a2 ?l2 ?c2 ?k2 ?a3 ?l3 ?c3 ?k3 ?a4 ?l4 ?c4 ?k4 ?a5 ?l5 ?c5 ?k5 ?a6 ?l6 ?c6 ?k6 ?a7 ?l7 ?c7 ?k7 ?a8 ?l8 ?c8 ?k8 ?a9 ?l9 ?c9 ?k9 ?a10 ?l10 ?c10 ?k10 ?a11 ?l11 ?c11 ?k11 ?a12 ?l12 ?c12 ?k12 ?a13 ?l13 ?c13 ?k13 ?a14 ?l14 ?c14 ?k14 ?a15 ?l15 ?c15 ?k15 ?a16 ?l16 ?c16 ?k16 ?a17 ?l17 ?c17 ?k17 ?a18 ?l18 ?c18 ?k18 ?a19 ?l19 ?c19 ?k19 ?a20 ?l20 ?c20 ?k20 ?a21 ?l21 ?c21 ?k21 ?a22 ?l22 ?c22 ?k22 ?a23 ?l23 ?c23 ?k23 ?a24 ?l24 ?c24 ?k24 ?a25 ?l25 ?c25 ?k25 ?a26 ?l26 ?c26 ?k26 ?a27 ?l27 ?c27 ?k27 ?a28 ?l28 ?c28 ?k28 ?a29 ?l29 ?c29 ?k29 ?a30 ?l30 ?c30 ?k30 ?a31 ?l31 ?c31 ?k31 ?a32 ?l32 ?c32 ?k32 ?a33 ?l33 ?c33 ?k33 ?a34 ?l34 ?c34 ?k34 ?a35 ?l35 ?c35 ?k35 ?a36 ?l36 ?c36 ?k36 ?a37 ?l37 ?c37 ?k37 ?a38 ?l38 ?c38 ?k38 ?z_ValueError ?z_abs ?z_all ?z_any ?z_bool ?z_dict ?z_enumerate ?z_int ?z_isinstance ?z_len ?z_list ?z_max ?z_min ?z_range ?z_str ?z_super ?z_tuple ?z_zip ?q_SIGNS ?e_InvalidPattern ?e_ShellError ?e_InvalidTree ?i_find ?i_type ?i_lk ?i_cd ?i_code ?i_vs ?i_file ?i_cell ?i_D ?i_op ?i_top ?n_get ?n_takes ?t_InvalidPattern ?hd_InvalidPattern ?b_InvalidPattern ?t_ShellError ?hd_ShellError ?b_ShellError ?t_InvalidTree ?hd_InvalidTree ?b_InvalidTree ?o1_InvalidPattern ?o2_InvalidPattern ?o3_InvalidPattern ?o6_InvalidPattern ?s1_InvalidPattern ?s2_InvalidPattern ?s3_InvalidPattern ?v1_InvalidPattern ?g1_InvalidPattern ?g2_InvalidPattern ?g3_InvalidPattern ?g4_InvalidPattern ?u_InvalidPattern_ShellError ?w_InvalidPattern_InvalidPattern ?wn_NoneType_InvalidPattern ?w_InvalidPattern_ValueError ?wn_NoneType_ValueError ?w_InvalidPattern_InvalidTree ?wn_NoneType_InvalidTree
    (case a0 => k_is)
    (case l0 => k_is)
    (case c0 => k_is)
    (case k0 => k_is)
    (case a1 => k_is)
    (case l1 => k_is)
    (case c1 => k_is)
    (case k1 => k_is)
    (case a2 => k_is)
    (case l2 => k_is)
    (case c2 => k_is)
    (case k2 => k_is)
    (case a3 => k_is)
    (case l3 => k_is)
    (case c3 => k_is)
    (case k3 => k_is)
    (case a4 => k_is)
    (case l4 => k_is)
    (case c4 => k_is)
    (case k4 => k_is)
    (case a5 => k_is)
    (case l5 => k_is)
    (case c5 => k_is)
    (case k5 => k_is)
    (case a6 => k_is)
    (case l6 => k_is)
    (case c6 => k_is)
    (case k6 => k_is)
    (case a7 => k_is)
    (case l7 => k_is)
    (case c7 => k_is)
    (case k7 => k_is)
    (case a8 => k_is)
    (case l8 => k_is)
    (case c8 => k_is)
    (case k8 => k_is)
    (case a9 => k_is)
    (case l9 => k_is)
    (case c9 => k_is)
    (case k9 => k_is)
    (case a10 => k_is)
    (case l10 => k_is)
    (case c10 => k_is)
    (case k10 => k_is)
    (case a11 => k_is)
    (case l11 => k_is)
    (case c11 => k_is)
    (case k11 => k_is)
    (case a12 => k_is)
    (case l12 => k_is)
    (case c12 => k_is)
    (case k12 => k_is)
    (case a13 => k_is)
    (case l13 => k_is)
    (case c13 => k_is)
    (case k13 => k_is)
    (case a14 => k_is)
    (case l14 => k_is)
    (case c14 => k_is)
    (case k14 => k_is)
    (case a15 => k_is)
    (case l15 => k_is)
    (case c15 => k_is)
    (case k15 => k_is)
    (case a16 => k_is)
    (case l16 => k_is)
    (case c16 => k_is)
    (case k16 => k_is)
    (case a17 => k_is)
    (case l17 => k_is)
    (case c17 => k_is)
    (case k17 => k_is)
    (case a18 => k_is)
    (case l18 => k_is)
    (case c18 => k_is)
    (case k18 => k_is)
    (case a19 => k_is)
    (case l19 => k_is)
    (case c19 => k_is)
    (case k19 => k_is)
    (case a20 => k_is)
    (case l20 => k_is)
    (case c20 => k_is)
    (case k20 => k_is)
    (case a21 => k_is)
    (case l21 => k_is)
    (case c21 => k_is)
    (case k21 => k_is)
    (case a22 => k_is)
    (case l22 => k_is)
    (case c22 => k_is)
    (case k22 => k_is)
    (case a23 => k_is)
    (case l23 => k_is)
    (case c23 => k_is)
    (case k23 => k_is)
    (case a24 => k_is)
    (case l24 => k_is)
    (case c24 => k_is)
    (case k24 => k_is)
    (case a25 => k_is)
    (case l25 => k_is)
    (case c25 => k_is)
    (case k25 => k_is)
    (case a26 => k_is)
    (case l26 => k_is)
    (case c26 => k_is)
    (case k26 => k_is)
    (case a27 => k_is)
    (case l27 => k_is)
    (case c27 => k_is)
    (case k27 => k_is)
    (case a28 => k_is)
    (case l28 => k_is)
    (case c28 => k_is)
    (case k28 => k_is)
    (case a29 => k_is)
    (case l29 => k_is)
    (case c29 => k_is)
    (case k29 => k_is)
    (case a30 => k_is)
    (case l30 => k_is)
    (case c30 => k_is)
    (case k30 => k_is)
    (case a31 => k_is)
    (case l31 => k_is)
    (case c31 => k_is)
    (case k31 => k_is)
    (case a32 => k_is)
    (case l32 => k_is)
    (case c32 => k_is)
    (case k32 => k_is)
    (case a33 => k_is)
    (case l33 => k_is)
    (case c33 => k_is)
    (case k33 => k_is)
    (case a34 => k_is)
    (case l34 => k_is)
    (case c34 => k_is)
    (case k34 => k_is)
    (case a35 => k_is)
    (case l35 => k_is)
    (case c35 => k_is)
    (case k35 => k_is)
    (case a36 => k_is)
    (case l36 => k_is)
    (case c36 => k_is)
    (case k36 => k_is)
    (case a37 => k_is)
    (case l37 => k_is)
    (case c37 => k_is)
    (case k37 => k_is)
    (case a38 => k_is)
    (case l38 => k_is)
    (case c38 => k_is)
    (case k38 => k_is)
    (case z_ValueError => k_is)
    (case z_abs => k_is)
    (case z_all => k_is)
    (case z_any => k_is)
    (case z_bool => k_is)
    (case z_dict => k_is)
    (case z_enumerate => k_is)
    (case z_int => k_is)
    (case z_isinstance => k_is)
    (case z_len => k_is)
    (case z_list => k_is)
    (case z_max => k_is)
    (case z_min => k_is)
    (case z_range => k_is)
    (case z_str => k_is)
    (case z_super => k_is)
    (case z_tuple => k_is)
    (case z_zip => k_is)
    (case q_SIGNS => k_is)
    (case e_InvalidPattern => k_is)
    (case e_ShellError => k_is)
    (case e_InvalidTree => k_is)
    (case i_find => k_is)
    (case i_type => k_is)
    (case i_lk => k_is)
    (case i_cd => k_is)
    (case i_code => k_is)
    (case i_vs => rfl)
    (case i_file => first | rfl | decide +kernel)
    (case i_cell => k_is)
    (case i_D => k_is)
    (case i_op => k_is)
    (case i_top => first | rfl | decide +kernel)
    (case n_get => k_is)
    (case n_takes => k_is)
    (case t_InvalidPattern => k_is)
    (case hd_InvalidPattern => k_is)
    (case b_InvalidPattern => k_is)
    (case t_ShellError => k_is)
    (case hd_ShellError => k_is)
    (case b_ShellError => k_is)
    (case t_InvalidTree => k_is)
    (case hd_InvalidTree => k_is)
    (case b_InvalidTree => k_is)
    (case o1_InvalidPattern => k_is)
    (case o2_InvalidPattern => first | rfl | decide +kernel)
    (case o3_InvalidPattern => k_is)
    (case o6_InvalidPattern => k_is)
    (case s1_InvalidPattern => k_is)
    (case s2_InvalidPattern => ks_is)
    (case s3_InvalidPattern => k_is)
    (case v1_InvalidPattern => k_is)
    (case g1_InvalidPattern => k_is)
    (case g2_InvalidPattern => k_is)
    (case g3_InvalidPattern => k_is)
    (case g4_InvalidPattern => k_is)
    (case u_InvalidPattern_ShellError => k_is)
    (case w_InvalidPattern_InvalidPattern => kit_is)
    (case wn_NoneType_InvalidPattern => kit_is)
    (case w_InvalidPattern_ValueError => kit_is)
    (case wn_NoneType_ValueError => kit_is)
    (case w_InvalidPattern_InvalidTree => kit_is)
    (case wn_NoneType_InvalidTree => kit_is)
#print axioms PySem.Challenge.cw_quotedback_k22_no_patterns_holds
