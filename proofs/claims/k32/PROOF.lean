import PyProof.Rows.All
import OpenK.AllK
import Wide.All
import Wide.FinOn
import HandS.ForMost
import HandS.ForExc
import HandS.Deep
import HandS.IsInst
import HandS.More
import PyProof.StrOps2
import HandS.Rev
import HandS.RaiseMore
import PyProof.Rows.TupDisplay
import HandS.Conv
import PySem.Challenge.RW_carry_k32_what_cuts
set_option Elab.async false
set_option linter.all false
set_option maxRecDepth 100000
section
/-! DL1: data with marks, what a value stands for in the abstract heap. -/
open PySem PySem.Spec PyProof.Rows L2
namespace DL
inductive Mk where | own | frz | brw | ro
  deriving DecidableEq
inductive Ky where
  | int (i : Int) | str (x : Str) | tup (ks : List Ky)
/-- what a dict's keys are: ints and texts, tuples of these, tuples of tuples -/
inductive Kn where | k | t | n
  deriving DecidableEq
inductive D where
  | non | bl (b : Bool) | int (i : Int) | str (x : Str)
  | tup (ds : List D)
  | lst (m : Mk) (ds : List D)
  | dic (m : Mk) (kd : Kn) (kvs : List (Ky × D))
  | ins (m : Mk) (C : Str) (fs : List (Str × D))
  | cls (n : Str)
  | exc (n : Str) (fs : List (Str × D))
mutual
/-- every changeable node's mark is so -/
def D.chk (p : Mk → Bool) : D → Bool
  | .tup ds => D.chkL p ds
  | .lst m ds => p m && D.chkL p ds
  | .dic m kd ks => p m && D.chkK p ks
  | .ins m _ fs => p m && D.chkF p fs
  | .exc _ fs => D.chkF p fs
  | _ => true
def D.chkL (p : Mk → Bool) : List D → Bool
  | [] => true
  | d :: ds => D.chk p d && D.chkL p ds
def D.chkK (p : Mk → Bool) : List (Ky × D) → Bool
  | [] => true
  | (_, d) :: ds => D.chk p d && D.chkK p ds
def D.chkF (p : Mk → Bool) : List (Str × D) → Bool
  | [] => true
  | (_, d) :: ds => D.chk p d && D.chkF p ds
end
mutual
/-- other marks -/
def D.rem (f : Mk → Mk) : D → D
  | .tup ds => .tup (D.remL f ds)
  | .lst m ds => .lst (f m) (D.remL f ds)
  | .dic m kd ks => .dic (f m) kd (D.remK f ks)
  | .ins m C fs => .ins (f m) C (D.remF f fs)
  | .exc n fs => .exc n (D.remF f fs)
  | d => d
def D.remL (f : Mk → Mk) : List D → List D
  | [] => []
  | d :: ds => D.rem f d :: D.remL f ds
def D.remK (f : Mk → Mk) : List (Ky × D) → List (Ky × D)
  | [] => []
  | (k, d) :: ds => (k, D.rem f d) :: D.remK f ds
def D.remF (f : Mk → Mk) : List (Str × D) → List (Str × D)
  | [] => []
  | (k, d) :: ds => (k, D.rem f d) :: D.remF f ds
end
def Mk.isOwn : Mk → Bool | .own => true | _ => false
def Mk.isFrz : Mk → Bool | .frz => true | _ => false
def Mk.isBrw : Mk → Bool | .brw => true | _ => false
abbrev D.noOwn (d : D) : Bool := d.chk fun m => !m.isOwn
abbrev D.noBrw (d : D) : Bool := d.chk fun m => !m.isBrw
abbrev D.noFrz (d : D) : Bool := d.chk fun m => !m.isFrz
def fz : Mk → Mk | .own => .frz | .frz => .frz | .brw => .frz | .ro => .ro
abbrev D.frz (d : D) : D := d.rem fz
def pk : Mk → Mk | .own => .brw | .frz => .frz | .brw => .brw | .ro => .ro
abbrev D.peek (d : D) : D := d.rem pk

/-- footprints: how often an address is held -/
abbrev Fp := Addr → Nat
def fp0 : Fp := fun _ => 0
def ofKey : Key → Ky | .inl i => .int i | .inr x => .str x
def ofKeys (ks : List Key) : Ky := .tup (ks.map ofKey)

/-- the classes by name; the exceptions in hand -/
structure Nm where
  cls : Str → Option Addr
  exc : Addr → Str → Option Addr → Prop
/-- a list written in the module's top -/
def KL (K : PySem.W.Frag) (a : Addr) (xs : List V) : Prop :=
  ∃ (o : Obj) (its : Array Value) (n : Nat), K.lookup a = some o ∧ o.cls = .type "list" ∧ o.dict = none ∧ o.data = .seq its n ∧ its.size ≤ sizeLine ∧ Vals xs its.toList

/-- a thing of mark m at the address a that reads as u -/
def At (F : Addr → Prop) (H : Hp) (m : Mk) (a : Addr) (u : HO) (fp f : Fp) : Prop :=
  match m with
  | .own => H a = some u ∧ ∀ b, fp b = f b + if b = a then 1 else 0
  | .frz => F a ∧ H a = some u ∧ (∀ b, f b = 0) ∧ ∀ b, fp b = 0
  | .brw => H a = some u ∧ (∀ b, f b = 0) ∧ ∀ b, fp b = 0
  | .ro => (∃ o, H a = some (.frz o u)) ∧ (∀ b, f b = 0) ∧ ∀ b, fp b = 0

section
variable (K : PySem.W.Frag) (cn : Nm) (F : Addr → Prop) (H : Hp)
mutual
def Rep : D → V → Fp → Prop
  | .non, v, fp => v = .non ∧ ∀ a, fp a = 0
  | .bl b, v, fp => v = .bl b ∧ ∀ a, fp a = 0
  | .int i, v, fp => v = .int i ∧ ∀ a, fp a = 0
  | .str x, v, fp => v = .str x ∧ ∀ a, fp a = 0
  | .cls n, v, fp => (∃ a, v = .ref a ∧ cn.cls n = some a) ∧ ∀ a, fp a = 0
  | .exc n fs, v, fp => ∃ a od vs, v = .ref a ∧ cn.exc a n od ∧ (match od with | none => vs = [] | some dx => H dx = some (.xd vs)) ∧ RepF fs vs fp
  | .tup ds, v, fp => ∃ a vs, v = .ref a ∧ H a = some (.tup vs) ∧ Reps ds vs fp
  | .lst m ds, v, fp => ∃ a vs f, v = .ref a ∧ (At F H m a (.lst vs) fp f ∨ (m = .ro ∧ KL K a vs ∧ (∀ b, f b = 0) ∧ ∀ b, fp b = 0)) ∧ Reps ds vs f
  | .dic m kd kvs, v, fp => ∃ a f, v = .ref a ∧ ((kd = .k ∧ ∃ kv, At F H m a (.dK kv) fp f ∧ RepK kvs (kv.map fun p => (ofKey p.1, p.2)) f) ∨ (kd = .t ∧ ∃ kv, At F H m a (.dT kv) fp f ∧ RepK kvs (kv.map fun p => (ofKeys p.1, p.2)) f))
  | .ins m C fs, v, fp => ∃ a c dx vs f, v = .ref a ∧ cn.cls C = some c ∧ At F H m a (.ins c dx vs) fp f ∧ RepF fs vs f
def Reps : List D → List V → Fp → Prop
  | [], vs, fp => vs = [] ∧ ∀ a, fp a = 0
  | d :: ds, vs, fp => ∃ v r f g, vs = v :: r ∧ (∀ a, fp a = f a + g a) ∧ Rep d v f ∧ Reps ds r g
def RepK : List (Ky × D) → List (Ky × V) → Fp → Prop
  | [], vs, fp => vs = [] ∧ ∀ a, fp a = 0
  | (k, d) :: ds, vs, fp => ∃ v r f g, vs = (k, v) :: r ∧ (∀ a, fp a = f a + g a) ∧ Rep d v f ∧ RepK ds r g
def RepF : List (Str × D) → List (Str × V) → Fp → Prop
  | [], vs, fp => vs = [] ∧ ∀ a, fp a = 0
  | (k, d) :: ds, vs, fp => ∃ v r f g, vs = (k, v) :: r ∧ (∀ a, fp a = f a + g a) ∧ Rep d v f ∧ RepF ds r g
end
end

theorem Rd.tup_keep {H H' : Hp} {a : Addr} {u : HO} (h : ∀ a o, H a = some o → H' a = some o) (r : Rd H a u) : Rd H' a u := by
  rcases r with r | ⟨o, r⟩
  · exact .inl (h _ _ r)
  · exact .inr ⟨o, h _ _ r⟩

/-- what a representation leans on -/
structure Keep (F F' : Addr → Prop) (H H' : Hp) (br : Prop) : Prop where
  sub : ∀ a, F a → F' a
  t : ∀ a o, ¬ Mut (some o) → H a = some o → H' a = some o
  f : ∀ a u, F a → H a = some u → H' a = some u
  b : br → ∀ a u, H a = some u → H' a = some u

section
variable {K : PySem.W.Frag} {cn : Nm} {F F' : Addr → Prop} {H H' : Hp} {br : Prop}
theorem SqT.go {a : Addr} {xs : List V} (k : Keep F F' H H' br) (h : SqT K H a xs) : SqT K H' a xs := by
  rcases h with h | h
  · rcases h with h | ⟨o, h⟩
    · exact .inl (.inl (k.t _ _ (fun z => z) h))
    · exact .inl (.inr ⟨o, k.t _ _ (fun z => z) h⟩)
  · exact .inr h
theorem At.go {m : Mk} {a : Addr} {u : HO} {fp f : Fp} (k : Keep F F' H H' br) (hb : m.isBrw = true → br) (ho : ∀ a o, 0 < fp a → H a = some o → H' a = some o) (h : At F H m a u fp f) : At F' H' m a u fp f := by
  cases m with
  | own => exact ⟨ho _ _ (by have := h.2 a; simp at this; omega) h.1, h.2⟩
  | frz => exact ⟨k.sub _ h.1, k.f _ _ h.1 h.2.1, h.2.2⟩
  | brw => exact ⟨k.b (hb rfl) _ _ h.1, h.2⟩
  | ro => obtain ⟨⟨o, q⟩, r⟩ := h; exact ⟨⟨o, k.t _ _ (fun z => z) q⟩, r⟩
theorem At.sub {m : Mk} {a : Addr} {u : HO} {fp f : Fp} (h : At F H m a u fp f) : ∀ b, f b ≤ fp b := fun b => by
  cases m with
  | own => have := h.2 b; omega
  | frz => have := h.2.2.1 b; omega
  | brw => have := h.2.1 b; omega
  | ro => have := h.2.1 b; omega
mutual
theorem Rep.go (k : Keep F F' H H' br) : ∀ (d : D) (v : V) (fp : Fp), (d.noBrw = false → br) → (∀ a o, 0 < fp a → H a = some o → H' a = some o) → Rep K cn F H d v fp → Rep K cn F' H' d v fp
  | .non, v, fp, _, _, h => h
  | .bl b, v, fp, _, _, h => h
  | .int i, v, fp, _, _, h => h
  | .str x, v, fp, _, _, h => h
  | .cls n, v, fp, _, _, h => h
  | .exc n fs, v, fp, hb, ho, ⟨a, od, vs, e, x, q, r⟩ => by
    refine ⟨a, od, vs, e, x, ?_, RepF.go k fs vs fp hb ho r⟩
    cases od with
    | none => exact q
    | some dx => exact k.t _ _ (fun z => z) q
  | .tup ds, v, fp, hb, ho, ⟨a, vs, e, q, r⟩ => ⟨a, vs, e, k.t _ _ (fun z => z) q, Reps.go k ds vs fp hb ho r⟩
  | .lst m ds, v, fp, hb, ho, ⟨a, vs, f, e, q, r⟩ => by
    refine ⟨a, vs, f, e, ?_, Reps.go k ds vs f (fun z => hb (by simp only [D.noBrw, D.chk, Bool.and_eq_false_iff]; exact .inr z)) (fun a o p => ho a o ?_) r⟩
    · rcases q with q | q
      · exact .inl (q.go k (fun z => hb (by simp [D.noBrw, D.chk, z])) ho)
      · exact .inr q
    · rcases q with q | q
      · exact Nat.lt_of_lt_of_le p (q.sub a)
      · have := q.2.2.1 a; omega
  | .dic m kd kvs, v, fp, hb, ho, ⟨a, f, e, q⟩ => by
    have hb1 : D.chkK (fun m => !m.isBrw) kvs = false → br := fun z => hb (by simp only [D.noBrw, D.chk, Bool.and_eq_false_iff]; exact .inr z)
    have hb2 : m.isBrw = true → br := fun z => hb (by simp [D.noBrw, D.chk, z])
    refine ⟨a, f, e, ?_⟩
    rcases q with ⟨hk9, kv, q, r⟩ | ⟨hk9, kv, q, r⟩
    · exact .inl ⟨hk9, kv, q.go k hb2 ho, RepK.go k kvs _ f hb1 (fun a o p => ho a o (Nat.lt_of_lt_of_le p (q.sub a))) r⟩
    · exact .inr ⟨hk9, kv, q.go k hb2 ho, RepK.go k kvs _ f hb1 (fun a o p => ho a o (Nat.lt_of_lt_of_le p (q.sub a))) r⟩
  | .ins m C fs, v, fp, hb, ho, ⟨a, c, dx, vs, f, e, hc, q, r⟩ => by
    have hb1 : D.chkF (fun m => !m.isBrw) fs = false → br := fun z => hb (by simp only [D.noBrw, D.chk, Bool.and_eq_false_iff]; exact .inr z)
    have hb2 : m.isBrw = true → br := fun z => hb (by simp [D.noBrw, D.chk, z])
    exact ⟨a, c, dx, vs, f, e, hc, q.go k hb2 ho, RepF.go k fs _ f hb1 (fun a o p => ho a o (Nat.lt_of_lt_of_le p (q.sub a))) r⟩
theorem Reps.go (k : Keep F F' H H' br) : ∀ (ds : List D) (vs : List V) (fp : Fp), (D.chkL (fun m => !m.isBrw) ds = false → br) → (∀ a o, 0 < fp a → H a = some o → H' a = some o) → Reps K cn F H ds vs fp → Reps K cn F' H' ds vs fp
  | [], vs, fp, _, _, h => h
  | d :: ds, vs, fp, hb, ho, ⟨v, r, f, g, e, s, h1, h2⟩ =>
    ⟨v, r, f, g, e, s, Rep.go k d v f (fun z => hb (by simp only [D.chkL, Bool.and_eq_false_iff]; exact .inl z)) (fun a o p => ho a o (by have := s a; omega)) h1,
      Reps.go k ds r g (fun z => hb (by simp only [D.chkL, Bool.and_eq_false_iff]; exact .inr z)) (fun a o p => ho a o (by have := s a; omega)) h2⟩
theorem RepK.go (k : Keep F F' H H' br) : ∀ (ds : List (Ky × D)) (vs : List (Ky × V)) (fp : Fp), (D.chkK (fun m => !m.isBrw) ds = false → br) → (∀ a o, 0 < fp a → H a = some o → H' a = some o) → RepK K cn F H ds vs fp → RepK K cn F' H' ds vs fp
  | [], vs, fp, _, _, h => h
  | (x, d) :: ds, vs, fp, hb, ho, ⟨v, r, f, g, e, s, h1, h2⟩ =>
    ⟨v, r, f, g, e, s, Rep.go k d v f (fun z => hb (by simp only [D.chkK, Bool.and_eq_false_iff]; exact .inl z)) (fun a o p => ho a o (by have := s a; omega)) h1,
      RepK.go k ds r g (fun z => hb (by simp only [D.chkK, Bool.and_eq_false_iff]; exact .inr z)) (fun a o p => ho a o (by have := s a; omega)) h2⟩
theorem RepF.go (k : Keep F F' H H' br) : ∀ (ds : List (Str × D)) (vs : List (Str × V)) (fp : Fp), (D.chkF (fun m => !m.isBrw) ds = false → br) → (∀ a o, 0 < fp a → H a = some o → H' a = some o) → RepF K cn F H ds vs fp → RepF K cn F' H' ds vs fp
  | [], vs, fp, _, _, h => h
  | (x, d) :: ds, vs, fp, hb, ho, ⟨v, r, f, g, e, s, h1, h2⟩ =>
    ⟨v, r, f, g, e, s, Rep.go k d v f (fun z => hb (by simp only [D.chkF, Bool.and_eq_false_iff]; exact .inl z)) (fun a o p => ho a o (by have := s a; omega)) h1,
      RepF.go k ds r g (fun z => hb (by simp only [D.chkF, Bool.and_eq_false_iff]; exact .inr z)) (fun a o p => ho a o (by have := s a; omega)) h2⟩
end
end
end DL

end
section
/-! DL2: representation lemmas, the state relation. -/
open PySem PySem.Spec PyProof.Rows L2
namespace DL
section
variable {K : PySem.W.Frag} {cn : Nm} {F F' : Addr → Prop} {H H' : Hp}

theorem At.alloc {m : Mk} {a : Addr} {u : HO} {fp f : Fp} (h : At F H m a u fp f) (hu : Mut (some u)) (hf : ∀ b, 0 < f b → Mut (H b)) : ∀ b, 0 < fp b → Mut (H b) := fun b hb => by
  cases m with
  | own =>
    have e := h.2 b
    by_cases hba : b = a
    · subst hba; rw [h.1]; exact hu
    · rw [if_neg hba] at e; exact hf b (by omega)
  | frz => have := h.2.2.2 b; omega
  | brw => have := h.2.2 b; omega
  | ro => have := h.2.2 b; omega
mutual
theorem Rep.alloc : ∀ (d : D) (v : V) (fp : Fp), Rep K cn F H d v fp → ∀ a, 0 < fp a → Mut (H a)
  | .non, v, fp, h => fun a p => by have := h.2 a; omega
  | .bl b, v, fp, h => fun a p => by have := h.2 a; omega
  | .int i, v, fp, h => fun a p => by have := h.2 a; omega
  | .str x, v, fp, h => fun a p => by have := h.2 a; omega
  | .cls n, v, fp, h => fun a p => by have := h.2 a; omega
  | .exc n fs, v, fp, ⟨a, od, vs, e, x, q, r⟩ => RepF.alloc fs vs fp r
  | .tup ds, v, fp, ⟨a, vs, e, q, r⟩ => Reps.alloc ds vs fp r
  | .lst m ds, v, fp, ⟨a, vs, f, e, q, r⟩ => by
    rcases q with q | q
    · exact q.alloc trivial (Reps.alloc ds vs f r)
    · intro b p; have := q.2.2.2 b; omega
  | .dic m kd kvs, v, fp, ⟨a, f, e, q⟩ => by
    rcases q with ⟨hk9, kv, q, r⟩ | ⟨hk9, kv, q, r⟩
    · exact q.alloc trivial (RepK.alloc kvs _ f r)
    · exact q.alloc trivial (RepK.alloc kvs _ f r)
  | .ins m C fs, v, fp, ⟨a, c, dx, vs, f, e, hc, q, r⟩ => q.alloc trivial (RepF.alloc fs vs f r)
theorem Reps.alloc : ∀ (ds : List D) (vs : List V) (fp : Fp), Reps K cn F H ds vs fp → ∀ a, 0 < fp a → Mut (H a)
  | [], vs, fp, h => fun a p => by have := h.2 a; omega
  | d :: ds, vs, fp, ⟨v, r, f, g, e, s, h1, h2⟩ => fun a p => by
    have := s a
    by_cases hf : 0 < f a
    · exact Rep.alloc d v f h1 a hf
    · exact Reps.alloc ds r g h2 a (by omega)
theorem RepK.alloc : ∀ (ds : List (Ky × D)) (vs : List (Ky × V)) (fp : Fp), RepK K cn F H ds vs fp → ∀ a, 0 < fp a → Mut (H a)
  | [], vs, fp, h => fun a p => by have := h.2 a; omega
  | (_, d) :: ds, vs, fp, ⟨v, r, f, g, e, s, h1, h2⟩ => fun a p => by
    have := s a
    by_cases hf : 0 < f a
    · exact Rep.alloc d v f h1 a hf
    · exact RepK.alloc ds r g h2 a (by omega)
theorem RepF.alloc : ∀ (ds : List (Str × D)) (vs : List (Str × V)) (fp : Fp), RepF K cn F H ds vs fp → ∀ a, 0 < fp a → Mut (H a)
  | [], vs, fp, h => fun a p => by have := h.2 a; omega
  | (_, d) :: ds, vs, fp, ⟨v, r, f, g, e, s, h1, h2⟩ => fun a p => by
    have := s a
    by_cases hf : 0 < f a
    · exact Rep.alloc d v f h1 a hf
    · exact RepF.alloc ds r g h2 a (by omega)
end

theorem At.zero {m : Mk} {a : Addr} {u : HO} {fp f : Fp} (h : At F H m a u fp f) (hm : m.isOwn = false) : ∀ b, fp b = 0 := by
  cases m with
  | own => cases hm
  | frz => exact h.2.2.2
  | brw => exact h.2.2
  | ro => exact h.2.2
theorem and_l {a b : Bool} (h : (a && b) = true) : a = true := (Bool.and_eq_true_iff.mp h).1
theorem and_r {a b : Bool} (h : (a && b) = true) : b = true := (Bool.and_eq_true_iff.mp h).2
theorem not_t {b : Bool} (h : (!b) = true) : b = false := by cases b <;> simp_all
mutual
theorem Rep.zero : ∀ (d : D) (v : V) (fp : Fp), Rep K cn F H d v fp → d.noOwn = true → ∀ a, fp a = 0
  | .non, v, fp, h, _ => h.2
  | .bl b, v, fp, h, _ => h.2
  | .int i, v, fp, h, _ => h.2
  | .str x, v, fp, h, _ => h.2
  | .cls n, v, fp, h, _ => h.2
  | .exc n fs, v, fp, ⟨a, od, vs, e, x, q, r⟩, c => RepF.zero fs vs fp r c
  | .tup ds, v, fp, ⟨a, vs, e, q, r⟩, c => Reps.zero ds vs fp r c
  | .lst m ds, v, fp, ⟨a, vs, f, e, q, r⟩, c => by
    rcases q with q | q
    · exact q.zero (not_t (and_l c))
    · exact q.2.2.2
  | .dic m kd kvs, v, fp, ⟨a, f, e, q⟩, c => by
    rcases q with ⟨hk9, kv, q, r⟩ | ⟨hk9, kv, q, r⟩
    · exact q.zero (not_t (and_l c))
    · exact q.zero (not_t (and_l c))
  | .ins m C fs, v, fp, ⟨a, c, dx, vs, f, e, hc, q, r⟩, z => q.zero (not_t (and_l z))
theorem Reps.zero : ∀ (ds : List D) (vs : List V) (fp : Fp), Reps K cn F H ds vs fp → D.chkL (fun m => !m.isOwn) ds = true → ∀ a, fp a = 0
  | [], vs, fp, h, _ => h.2
  | d :: ds, vs, fp, ⟨v, r, f, g, e, s, h1, h2⟩, c => fun a => by
    have := s a
    have := Rep.zero d v f h1 (and_l c) a
    have := Reps.zero ds r g h2 (and_r c) a
    omega
theorem RepF.zero : ∀ (ds : List (Str × D)) (vs : List (Str × V)) (fp : Fp), RepF K cn F H ds vs fp → D.chkF (fun m => !m.isOwn) ds = true → ∀ a, fp a = 0
  | [], vs, fp, h, _ => h.2
  | (_, d) :: ds, vs, fp, ⟨v, r, f, g, e, s, h1, h2⟩, c => fun a => by
    have := s a
    have := Rep.zero d v f h1 (and_l c) a
    have := RepF.zero ds r g h2 (and_r c) a
    omega
end

/-- an At of another mark, frozen or borrowed -/
theorem At.frz {m : Mk} {a : Addr} {u : HO} {fp f f0 f1 : Fp} (h : At F H m a u fp f) (hF : ∀ a, F a → F' a) (ho : ∀ a, 0 < fp a → F' a) (hb : m.isBrw = true → ∀ a, H a ≠ none → F' a) (z0 : ∀ b, f0 b = 0) (z1 : ∀ b, f1 b = 0) : At F' H (fz m) a u f0 f1 := by
  cases m with
  | own => exact ⟨ho a (by have := h.2 a; simp at this; omega), h.1, z1, z0⟩
  | frz => exact ⟨hF a h.1, h.2.1, z1, z0⟩
  | brw => exact ⟨hb rfl a (by rw [h.1]; exact fun z => nomatch z), h.1, z1, z0⟩
  | ro => exact ⟨h.1, z1, z0⟩
theorem At.peek {m : Mk} {a : Addr} {u : HO} {fp f f0 f1 : Fp} (h : At F H m a u fp f) (z0 : ∀ b, f0 b = 0) (z1 : ∀ b, f1 b = 0) : At F H (pk m) a u f0 f1 := by
  cases m with
  | own => exact ⟨h.1, z1, z0⟩
  | frz => exact ⟨h.1, h.2.1, z1, z0⟩
  | brw => exact ⟨h.1, z1, z0⟩
  | ro => exact ⟨h.1, z1, z0⟩
theorem brw_or {p q : Bool} {X : Prop} (h : (p && q) = false → X) : (p = false → X) ∧ (q = false → X) := ⟨fun z => h (by rw [z]; rfl), fun z => h (by rw [z, Bool.and_false])⟩
theorem not_f {b : Bool} (h : b = true) : (!b) = false := by rw [h]; rfl
mutual
theorem Rep.frz (hF : ∀ a, F a → F' a) : ∀ (d : D) (v : V) (fp : Fp), Rep K cn F H d v fp → (∀ a, 0 < fp a → F' a) → (d.noBrw = false → ∀ a, H a ≠ none → F' a) → Rep K cn F' H d.frz v fp0
  | .non, v, fp, h, _, _ => ⟨h.1, fun _ => rfl⟩
  | .bl b, v, fp, h, _, _ => ⟨h.1, fun _ => rfl⟩
  | .int i, v, fp, h, _, _ => ⟨h.1, fun _ => rfl⟩
  | .str x, v, fp, h, _, _ => ⟨h.1, fun _ => rfl⟩
  | .cls n, v, fp, h, _, _ => ⟨h.1, fun _ => rfl⟩
  | .exc n fs, v, fp, ⟨a, od, vs, e, x, q, r⟩, o, b => ⟨a, od, vs, e, x, q, RepF.frz hF fs vs fp r o b⟩
  | .tup ds, v, fp, ⟨a, vs, e, q, r⟩, o, b => ⟨a, vs, e, q, Reps.frz hF ds vs fp r o b⟩
  | .lst m ds, v, fp, ⟨a, vs, f, e, q, r⟩, o, b => by
    obtain ⟨b1, b2⟩ := brw_or b
    refine ⟨a, vs, fp0, e, ?_, Reps.frz hF ds vs f r (fun a p => o a (Nat.lt_of_lt_of_le p ?_)) b2⟩
    · rcases q with q | q
      · exact .inl (q.frz hF o (fun z => b1 (not_f z)) (fun _ => rfl) (fun _ => rfl))
      · exact .inr ⟨by rw [q.1]; rfl, q.2.1, fun _ => rfl, fun _ => rfl⟩
    · rcases q with q | q
      · exact q.sub a
      · have := q.2.2.1 a; omega
  | .dic m kd kvs, v, fp, ⟨a, f, e, q⟩, o, b => by
    obtain ⟨b1, b2⟩ := brw_or b
    refine ⟨a, fp0, e, ?_⟩
    rcases q with ⟨hk9, kv, q, r⟩ | ⟨hk9, kv, q, r⟩
    · exact .inl ⟨hk9, kv, q.frz hF o (fun z => b1 (not_f z)) (fun _ => rfl) (fun _ => rfl), RepK.frz hF kvs _ f r (fun a p => o a (Nat.lt_of_lt_of_le p (q.sub a))) b2⟩
    · exact .inr ⟨hk9, kv, q.frz hF o (fun z => b1 (not_f z)) (fun _ => rfl) (fun _ => rfl), RepK.frz hF kvs _ f r (fun a p => o a (Nat.lt_of_lt_of_le p (q.sub a))) b2⟩
  | .ins m C fs, v, fp, ⟨a, c, dx, vs, f, e, hc, q, r⟩, o, b => by
    obtain ⟨b1, b2⟩ := brw_or b
    exact ⟨a, c, dx, vs, fp0, e, hc, q.frz hF o (fun z => b1 (not_f z)) (fun _ => rfl) (fun _ => rfl), RepF.frz hF fs vs f r (fun a p => o a (Nat.lt_of_lt_of_le p (q.sub a))) b2⟩
theorem Reps.frz (hF : ∀ a, F a → F' a) : ∀ (ds : List D) (vs : List V) (fp : Fp), Reps K cn F H ds vs fp → (∀ a, 0 < fp a → F' a) → (D.chkL (fun m => !m.isBrw) ds = false → ∀ a, H a ≠ none → F' a) → Reps K cn F' H (D.remL fz ds) vs fp0
  | [], vs, fp, h, _, _ => ⟨h.1, fun _ => rfl⟩
  | d :: ds, vs, fp, ⟨v, r, f, g, e, s, h1, h2⟩, o, b => by
    obtain ⟨b1, b2⟩ := brw_or b
    exact ⟨v, r, fp0, fp0, e, fun _ => rfl, Rep.frz hF d v f h1 (fun a p => o a (by have := s a; omega)) b1, Reps.frz hF ds r g h2 (fun a p => o a (by have := s a; omega)) b2⟩
theorem RepK.frz (hF : ∀ a, F a → F' a) : ∀ (ds : List (Ky × D)) (vs : List (Ky × V)) (fp : Fp), RepK K cn F H ds vs fp → (∀ a, 0 < fp a → F' a) → (D.chkK (fun m => !m.isBrw) ds = false → ∀ a, H a ≠ none → F' a) → RepK K cn F' H (D.remK fz ds) vs fp0
  | [], vs, fp, h, _, _ => ⟨h.1, fun _ => rfl⟩
  | (k, d) :: ds, vs, fp, ⟨v, r, f, g, e, s, h1, h2⟩, o, b => by
    obtain ⟨b1, b2⟩ := brw_or b
    exact ⟨v, r, fp0, fp0, e, fun _ => rfl, Rep.frz hF d v f h1 (fun a p => o a (by have := s a; omega)) b1, RepK.frz hF ds r g h2 (fun a p => o a (by have := s a; omega)) b2⟩
theorem RepF.frz (hF : ∀ a, F a → F' a) : ∀ (ds : List (Str × D)) (vs : List (Str × V)) (fp : Fp), RepF K cn F H ds vs fp → (∀ a, 0 < fp a → F' a) → (D.chkF (fun m => !m.isBrw) ds = false → ∀ a, H a ≠ none → F' a) → RepF K cn F' H (D.remF fz ds) vs fp0
  | [], vs, fp, h, _, _ => ⟨h.1, fun _ => rfl⟩
  | (k, d) :: ds, vs, fp, ⟨v, r, f, g, e, s, h1, h2⟩, o, b => by
    obtain ⟨b1, b2⟩ := brw_or b
    exact ⟨v, r, fp0, fp0, e, fun _ => rfl, Rep.frz hF d v f h1 (fun a p => o a (by have := s a; omega)) b1, RepF.frz hF ds r g h2 (fun a p => o a (by have := s a; omega)) b2⟩
end
mutual
theorem Rep.peek : ∀ (d : D) (v : V) (fp : Fp), Rep K cn F H d v fp → Rep K cn F H d.peek v fp0
  | .non, v, fp, h => ⟨h.1, fun _ => rfl⟩
  | .bl b, v, fp, h => ⟨h.1, fun _ => rfl⟩
  | .int i, v, fp, h => ⟨h.1, fun _ => rfl⟩
  | .str x, v, fp, h => ⟨h.1, fun _ => rfl⟩
  | .cls n, v, fp, h => ⟨h.1, fun _ => rfl⟩
  | .exc n fs, v, fp, ⟨a, od, vs, e, x, q, r⟩ => ⟨a, od, vs, e, x, q, RepF.peek fs vs fp r⟩
  | .tup ds, v, fp, ⟨a, vs, e, q, r⟩ => ⟨a, vs, e, q, Reps.peek ds vs fp r⟩
  | .lst m ds, v, fp, ⟨a, vs, f, e, q, r⟩ => by
    refine ⟨a, vs, fp0, e, ?_, Reps.peek ds vs f r⟩
    rcases q with q | q
    · exact .inl (q.peek (fun _ => rfl) (fun _ => rfl))
    · exact .inr ⟨by rw [q.1]; rfl, q.2.1, fun _ => rfl, fun _ => rfl⟩
  | .dic m kd kvs, v, fp, ⟨a, f, e, q⟩ => by
    refine ⟨a, fp0, e, ?_⟩
    rcases q with ⟨hk9, kv, q, r⟩ | ⟨hk9, kv, q, r⟩
    · exact .inl ⟨hk9, kv, q.peek (fun _ => rfl) (fun _ => rfl), RepK.peek kvs _ f r⟩
    · exact .inr ⟨hk9, kv, q.peek (fun _ => rfl) (fun _ => rfl), RepK.peek kvs _ f r⟩
  | .ins m C fs, v, fp, ⟨a, c, dx, vs, f, e, hc, q, r⟩ => ⟨a, c, dx, vs, fp0, e, hc, q.peek (fun _ => rfl) (fun _ => rfl), RepF.peek fs vs f r⟩
theorem Reps.peek : ∀ (ds : List D) (vs : List V) (fp : Fp), Reps K cn F H ds vs fp → Reps K cn F H (D.remL pk ds) vs fp0
  | [], vs, fp, h => ⟨h.1, fun _ => rfl⟩
  | d :: ds, vs, fp, ⟨v, r, f, g, e, s, h1, h2⟩ => ⟨v, r, fp0, fp0, e, fun _ => rfl, Rep.peek d v f h1, Reps.peek ds r g h2⟩
theorem RepK.peek : ∀ (ds : List (Ky × D)) (vs : List (Ky × V)) (fp : Fp), RepK K cn F H ds vs fp → RepK K cn F H (D.remK pk ds) vs fp0
  | [], vs, fp, h => ⟨h.1, fun _ => rfl⟩
  | (k, d) :: ds, vs, fp, ⟨v, r, f, g, e, s, h1, h2⟩ => ⟨v, r, fp0, fp0, e, fun _ => rfl, Rep.peek d v f h1, RepK.peek ds r g h2⟩
theorem RepF.peek : ∀ (ds : List (Str × D)) (vs : List (Str × V)) (fp : Fp), RepF K cn F H ds vs fp → RepF K cn F H (D.remF pk ds) vs fp0
  | [], vs, fp, h => ⟨h.1, fun _ => rfl⟩
  | (k, d) :: ds, vs, fp, ⟨v, r, f, g, e, s, h1, h2⟩ => ⟨v, r, fp0, fp0, e, fun _ => rfl, Rep.peek d v f h1, RepF.peek ds r g h2⟩
end

/-! ### lists of represented things -/
theorem Reps.len : ∀ {ds : List D} {vs : List V} {fp : Fp}, Reps K cn F H ds vs fp → ds.length = vs.length
  | [], vs, fp, h => by rw [h.1]; rfl
  | d :: ds, vs, fp, ⟨v, r, f, g, e, s, h1, h2⟩ => by rw [e, List.length_cons, List.length_cons, Reps.len h2]
theorem Reps.get : ∀ {ds : List D} {vs : List V} {fp : Fp} {i : Nat} {d : D}, Reps K cn F H ds vs fp → ds[i]? = some d → ∃ v f, vs[i]? = some v ∧ Rep K cn F H d v f ∧ ∀ a, f a ≤ fp a
  | [], _, _, _, _, _, e => by simp at e
  | d :: ds, vs, fp, 0, d', ⟨v, r, f, g, e, s, h1, h2⟩, h => by
    simp at h; subst h; subst e
    exact ⟨v, f, rfl, h1, fun a => by have := s a; omega⟩
  | d :: ds, vs, fp, i + 1, d', ⟨v, r, f, g, e, s, h1, h2⟩, h => by
    subst e
    obtain ⟨v', f', e', h', l⟩ := Reps.get h2 (i := i) (by simpa using h)
    exact ⟨v', f', by simpa using e', h', fun a => by have := s a; have := l a; omega⟩
theorem Reps.app : ∀ {ds es : List D} {vs ws : List V} {f g fp : Fp}, Reps K cn F H ds vs f → Reps K cn F H es ws g → (∀ a, fp a = f a + g a) → Reps K cn F H (ds ++ es) (vs ++ ws) fp
  | [], es, vs, ws, f, g, fp, h1, h2, s => by
    rw [h1.1]
    show Reps K cn F H es ws fp
    have : fp = g := funext fun a => by have := s a; have := h1.2 a; omega
    rw [this]; exact h2
  | d :: ds, es, vs, ws, f, g, fp, ⟨v, r, f1, g1, e, s1, h1, h3⟩, h2, s => by
    subst e
    exact ⟨v, r ++ ws, f1, fun a => g1 a + g a, rfl, fun a => by have := s a; have := s1 a; show fp a = f1 a + (g1 a + g a); omega, h1, Reps.app h3 h2 fun _ => rfl⟩
theorem Reps.split : ∀ {ds es : List D} {vs : List V} {fp : Fp}, Reps K cn F H (ds ++ es) vs fp → ∃ v1 v2 f g, vs = v1 ++ v2 ∧ (∀ a, fp a = f a + g a) ∧ Reps K cn F H ds v1 f ∧ Reps K cn F H es v2 g
  | [], es, vs, fp, h => ⟨[], vs, fp0, fp, rfl, fun a => by show fp a = 0 + fp a; omega, ⟨rfl, fun _ => rfl⟩, h⟩
  | d :: ds, es, vs, fp, ⟨v, r, f1, g1, e, s1, h1, h3⟩ => by
    obtain ⟨v1, v2, f, g, e2, s2, h4, h5⟩ := Reps.split h3
    subst e e2
    exact ⟨v :: v1, v2, fun a => f1 a + f a, g, rfl, fun a => by have := s1 a; have := s2 a; show _ = f1 a + f a + g a; omega, ⟨v, v1, f1, f, rfl, fun _ => rfl, h1, h4⟩, h5⟩
theorem Reps.one {d : D} {v : V} {f : Fp} (h : Rep K cn F H d v f) : Reps K cn F H [d] [v] f := ⟨v, [], f, fp0, rfl, fun a => by show f a = f a + 0; omega, h, rfl, fun _ => rfl⟩
theorem Reps.set : ∀ {ds : List D} {vs : List V} {fp : Fp} {i : Nat} {d : D}, Reps K cn F H ds vs fp → ds[i]? = some d → ∃ (v : V) (f g : Fp), vs[i]? = some v ∧ (∀ a, fp a = f a + g a) ∧ Rep K cn F H d v f ∧
    ∀ d' v' f' F' H' br, Keep F F' H H' br → (D.chkL (fun m => !m.isBrw) ds = false → br) → (∀ a o, 0 < g a → H a = some o → H' a = some o) → Rep K cn F' H' d' v' f' → Reps K cn F' H' (ds.set i d') (vs.set i v') (fun a => f' a + g a)
  | [], _, _, _, _, _, e => by simp at e
  | d :: ds, vs, fp, 0, d', ⟨v, r, f, g, e, s, h1, h2⟩, h => by
    simp at h; subst h; subst e
    refine ⟨v, f, g, rfl, s, h1, fun d' v' f' F' H' br k hb ho hr => ⟨v', r, f', g, rfl, fun _ => rfl, hr, Reps.go k ds r g (fun z => hb ?_) ho h2⟩⟩
    show (_ && D.chkL _ ds) = false
    rw [z, Bool.and_false]
  | d :: ds, vs, fp, i + 1, d', ⟨v, r, f, g, e, s, h1, h2⟩, h => by
    subst e
    obtain ⟨v', f', g', e', s', h', st⟩ := Reps.set h2 (i := i) (by simpa using h)
    refine ⟨v', f', fun a => f a + g' a, by simpa using e', fun a => by have := s a; have := s' a; show _ = f' a + (f a + g' a); omega, h', fun d' v'' f'' F' H' br k hb ho hr => ?_⟩
    refine ⟨v, r.set i v'', f, fun a => f'' a + g' a, rfl, fun a => by show f'' a + (f a + g' a) = f a + (f'' a + g' a); omega, Rep.go k d v f (fun z => hb ?_) (fun a o p => ho a o (by show 0 < f a + g' a; omega)) h1, st d' v'' f'' F' H' br k (fun z => hb ?_) (fun a o p => ho a o (by show 0 < f a + g' a; omega)) hr⟩
    · show (D.chk _ d && _) = false
      rw [show D.chk (fun m => !m.isBrw) d = false from z, Bool.false_and]
    · show (_ && D.chkL _ ds) = false
      rw [z, Bool.and_false]
theorem chkL_get (p : Mk → Bool) : ∀ {ds : List D} {i : Nat} {d : D}, D.chkL p ds = true → ds[i]? = some d → D.chk p d = true
  | [], _, _, _, e => by simp at e
  | d :: ds, 0, d', h, e => by simp at e; subst e; exact and_l h
  | d :: ds, i + 1, d', h, e => chkL_get p (and_r h) (i := i) (by simpa using e)
end
end DL

end
section
/-! DL3: the state relation and its moves. -/
open PySem PySem.Spec PyProof.Rows L2
namespace DL
abbrev Env := List (Option D)
def getS : Env → Nat → Option D
  | [], _ => none
  | x :: _, 0 => x
  | _ :: r, n + 1 => getS r n
def setS : Env → Nat → Option D → Env
  | [], _, _ => []
  | _ :: r, 0, d => d :: r
  | x :: r, n + 1, d => x :: setS r n d
structure Ctx where
  K : PySem.W.Frag
  cn : Nm
  H0 : Hp
  F0 : Addr → Prop
  L0 : Addr → Prop
  own : Nat → Bool
  lv : Nat → Option V
abbrev Hold := List (V × D)
section
variable (K : PySem.W.Frag) (cn : Nm) (F : Addr → Prop) (H : Hp)
def Slots : Env → L2.St → Fp → Prop
  | [], σ, fp => σ = [] ∧ ∀ a, fp a = 0
  | none :: ρ, σ, fp => ∃ x r, σ = x :: r ∧ Slots ρ r fp
  | some d :: ρ, σ, fp => ∃ v r f g, σ = some v :: r ∧ (∀ a, fp a = f a + g a) ∧ d.noBrw = true ∧ Rep K cn F H d v f ∧ Slots ρ r g
end
def Ext (H H' : Hp) : Prop := ∀ a o, H a = some o → H' a = some o
theorem Ext.refl {H : Hp} : Ext H H := fun _ _ h => h
theorem Ext.trans {H H1 H2 : Hp} (a : Ext H H1) (b : Ext H1 H2) : Ext H H2 := fun x o h => b x o (a x o h)
theorem Ext.upd {H : Hp} {p : Addr} {o : HO} (h : H p = none) : Ext H (upd H p o) := fun b x e => by
  rw [upd_ne (ne_of_none e h)]; exact e
theorem Ext.keep {F : Addr → Prop} {H H' : Hp} (e : Ext H H') : Keep F F H H' True where
  sub := fun _ h => h
  t := fun a o _ h => e a o h
  f := fun a u _ r => e a u r
  b := fun _ a u r => e a u r
theorem Keep.upd {F : Addr → Prop} {H : Hp} {a : Addr} {o : HO} (m : Mut (H a)) (n : ¬ F a) : Keep F F H (L2.upd H a o) False where
  sub := fun _ h => h
  t := fun b x hx h => by
    rw [upd_ne]; exact h
    rintro rfl; rw [h] at m; exact hx m
  f := fun b u hF r => by
    have hne : b ≠ a := by rintro rfl; exact n hF
    rw [upd_ne hne]; exact r
  b := fun z => z.elim
theorem Keep.more {F F' : Addr → Prop} {H : Hp} (s : ∀ a, F a → F' a) : Keep F F' H H True where
  sub := s
  t := fun _ _ _ h => h
  f := fun _ _ _ r => r
  b := fun _ _ _ r => r

structure SIx (Γ : Ctx) (F : Addr → Prop) (fh fs : Fp) (hold : Hold) (ρ : Env) (σ : L2.St) (H : Hp) : Prop where
  hh : Reps Γ.K Γ.cn F H (hold.map (·.2)) (hold.map (·.1)) fh
  ss : Slots Γ.K Γ.cn F H ρ σ fs
  nd : ∀ a, fh a + fs a ≤ 1
  ow : ∀ a, 0 < fh a + fs a → ¬ F a ∧ (Γ.H0 a = none ∨ Γ.L0 a)
  mo : ∀ i d, getS ρ i = some d → Γ.own i = false → d.noOwn = true
  F1 : ∀ a, Γ.F0 a → F a
  F2 : ∀ a, F a → Γ.F0 a ∨ Γ.H0 a = none ∨ Γ.L0 a
  al : ∀ a, F a → H a ≠ none
  kp : ∀ a o, Γ.H0 a = some o → ¬ Γ.L0 a → H a = some o
  dm : ∀ a, Γ.H0 a ≠ none → H a ≠ none
  lk : ∀ i v, Γ.lv i = some v → σ[i]? = some (some v)
def SI (Γ : Ctx) (hold : Hold) (ρ : Env) (σ : L2.St) (H : Hp) : Prop := ∃ F fh fs, SIx Γ F fh fs hold ρ σ H
def Hold.noBrw (hold : Hold) : Prop := D.chkL (fun m => !m.isBrw) (hold.map (·.2)) = true

section
variable {Γ : Ctx} {F F' : Addr → Prop} {fh fs fh' fs' : Fp} {hold hold' : Hold} {ρ ρ' : Env} {σ σ' : L2.St} {H H' : Hp}
theorem Slots.alloc : ∀ {ρ : Env} {σ : L2.St} {fp : Fp}, Slots Γ.K Γ.cn F H ρ σ fp → ∀ a, 0 < fp a → Mut (H a)
  | [], σ, fp, h => fun a p => by have := h.2 a; omega
  | none :: ρ, σ, fp, ⟨x, r, e, h⟩ => Slots.alloc h
  | some d :: ρ, σ, fp, ⟨v, r, f, g, e, s, nb, h1, h2⟩ => fun a p => by
    have := s a
    by_cases hf : 0 < f a
    · exact Rep.alloc d v f h1 a hf
    · exact Slots.alloc h2 a (by omega)
theorem Slots.go {br : Prop} (k : Keep F F' H H' br) : ∀ {ρ : Env} {σ : L2.St} {fp : Fp}, (∀ a o, 0 < fp a → H a = some o → H' a = some o) → Slots Γ.K Γ.cn F H ρ σ fp → Slots Γ.K Γ.cn F' H' ρ σ fp
  | [], σ, fp, _, h => h
  | none :: ρ, σ, fp, ho, ⟨x, r, e, h⟩ => ⟨x, r, e, Slots.go k ho h⟩
  | some d :: ρ, σ, fp, ho, ⟨v, r, f, g, e, s, nb, h1, h2⟩ =>
    ⟨v, r, f, g, e, s, nb, Rep.go k d v f (fun z => by rw [nb] at z; cases z) (fun a o p => ho a o (by have := s a; omega)) h1, Slots.go k (fun a o p => ho a o (by have := s a; omega)) h2⟩
theorem Slots.get : ∀ {ρ : Env} {σ : L2.St} {fp : Fp} {i : Nat} {d : D}, Slots Γ.K Γ.cn F H ρ σ fp → getS ρ i = some d → ∃ v f, σ[i]? = some (some v) ∧ Rep Γ.K Γ.cn F H d v f ∧ d.noBrw = true ∧ ∀ a, f a ≤ fp a
  | [], _, _, _, _, _, e => by simp [getS] at e
  | none :: ρ, σ, fp, 0, d, _, e => by simp [getS] at e
  | none :: ρ, σ, fp, i + 1, d, ⟨x, r, e1, h⟩, e => by
    obtain ⟨v, f, a, b, nb, c⟩ := Slots.get h (i := i) e
    subst e1
    exact ⟨v, f, by simpa using a, b, nb, c⟩
  | some d' :: ρ, σ, fp, 0, d, ⟨v, r, f, g, e1, s, nb, h1, h2⟩, e => by
    simp [getS] at e; subst e; subst e1
    exact ⟨v, f, rfl, h1, nb, fun a => by have := s a; omega⟩
  | some d' :: ρ, σ, fp, i + 1, d, ⟨v, r, f, g, e1, s, nb, h1, h2⟩, e => by
    obtain ⟨v', f', a, b, nb', c⟩ := Slots.get h2 (i := i) e
    subst e1
    exact ⟨v', f', by simpa using a, b, nb', fun a => by have := s a; have := c a; omega⟩
/-- a slot taken out -/
theorem Slots.take : ∀ {ρ : Env} {σ : L2.St} {fp : Fp} {i : Nat} {d : D}, Slots Γ.K Γ.cn F H ρ σ fp → getS ρ i = some d → ∃ v f g, σ[i]? = some (some v) ∧ Rep Γ.K Γ.cn F H d v f ∧ d.noBrw = true ∧ (∀ a, fp a = f a + g a) ∧ Slots Γ.K Γ.cn F H (setS ρ i none) σ g
  | [], _, _, _, _, _, e => by simp [getS] at e
  | none :: ρ, σ, fp, 0, d, _, e => by simp [getS] at e
  | none :: ρ, σ, fp, i + 1, d, ⟨x, r, e1, h⟩, e => by
    obtain ⟨v, f, g, a, b, nb, c, h'⟩ := Slots.take h (i := i) e
    subst e1
    exact ⟨v, f, g, by simpa using a, b, nb, c, x, r, rfl, h'⟩
  | some d' :: ρ, σ, fp, 0, d, ⟨v, r, f, g, e1, s, nb, h1, h2⟩, e => by
    simp [getS] at e; subst e; subst e1
    exact ⟨v, f, g, rfl, h1, nb, s, some v, r, rfl, h2⟩
  | some d' :: ρ, σ, fp, i + 1, d, ⟨v, r, f, g, e1, s, nb, h1, h2⟩, e => by
    obtain ⟨v', f', g', a, b, nb', c, h'⟩ := Slots.take h2 (i := i) e
    subst e1
    exact ⟨v', f', fun a => f a + g' a, by simpa using a, b, nb', fun a => by have := s a; have := c a; show fp a = f' a + (f a + g' a); omega, v, r, f, g', rfl, fun _ => rfl, nb, h1, h'⟩
/-- a slot forgotten, with any V -/
theorem Slots.drop : ∀ {ρ : Env} {σ : L2.St} {fp : Fp} (i : Nat) (x : Option V), Slots Γ.K Γ.cn F H ρ σ fp → ∃ g, (∀ a, g a ≤ fp a) ∧ Slots Γ.K Γ.cn F H (setS ρ i none) (σ.set i x) g
  | [], σ, fp, i, x, h => ⟨fp, fun _ => Nat.le_refl _, by rw [h.1]; exact ⟨rfl, h.2⟩⟩
  | none :: ρ, σ, fp, 0, x, ⟨y, r, e, h⟩ => ⟨fp, fun _ => Nat.le_refl _, by subst e; exact ⟨x, r, rfl, h⟩⟩
  | none :: ρ, σ, fp, i + 1, x, ⟨y, r, e, h⟩ => by
    obtain ⟨g, l, h'⟩ := Slots.drop i x h
    subst e
    exact ⟨g, l, y, r.set i x, rfl, h'⟩
  | some d :: ρ, σ, fp, 0, x, ⟨v, r, f, g, e, s, nb, h1, h2⟩ => by
    subst e
    exact ⟨g, fun a => by have := s a; omega, x, r, rfl, h2⟩
  | some d :: ρ, σ, fp, i + 1, x, ⟨v, r, f, g, e, s, nb, h1, h2⟩ => by
    obtain ⟨g', l, h'⟩ := Slots.drop i x h2
    subst e
    exact ⟨fun a => f a + g' a, fun a => by have := s a; have := l a; show f a + g' a ≤ fp a; omega, v, r.set i x, f, g', rfl, fun _ => rfl, nb, h1, h'⟩
/-- a slot filled -/
theorem Slots.put : ∀ {ρ : Env} {σ : L2.St} {fp f fp' : Fp} (i : Nat) (v : V) (d : D), Slots Γ.K Γ.cn F H ρ σ fp → i < ρ.length → d.noBrw = true → Rep Γ.K Γ.cn F H d v f → ∃ g, (∀ a, g a ≤ fp a + f a) ∧ Slots Γ.K Γ.cn F H (setS ρ i (some d)) (σ.set i (some v)) g
  | [], σ, fp, f, fp', i, v, d, h, l, nb, r => absurd l (Nat.not_lt_zero _)
  | none :: ρ, σ, fp, f, fp', 0, v, d, ⟨y, r, e, h⟩, l, nb, hr => by
    subst e
    exact ⟨fun a => f a + fp a, fun a => by show f a + fp a ≤ fp a + f a; omega, v, r, f, fp, rfl, fun _ => rfl, nb, hr, h⟩
  | none :: ρ, σ, fp, f, fp', i + 1, v, d, ⟨y, r, e, h⟩, l, nb, hr => by
    obtain ⟨g, l', h'⟩ := Slots.put (fp' := fp) i v d h (by simpa using l) nb hr
    subst e
    exact ⟨g, l', y, r.set i (some v), rfl, h'⟩
  | some d' :: ρ, σ, fp, f, fp', 0, v, d, ⟨v', r, f', g, e, s, nb', h1, h2⟩, l, nb, hr => by
    subst e
    exact ⟨fun a => f a + g a, fun a => by have := s a; show f a + g a ≤ fp a + f a; omega, v, r, f, g, rfl, fun _ => rfl, nb, hr, h2⟩
  | some d' :: ρ, σ, fp, f, fp', i + 1, v, d, ⟨v', r, f', g, e, s, nb', h1, h2⟩, l, nb, hr => by
    obtain ⟨g', l', h'⟩ := Slots.put (fp' := fp) i v d h2 (by simpa using l) nb hr
    subst e
    exact ⟨fun a => f' a + g' a, fun a => by have := s a; have := l' a; show f' a + g' a ≤ fp a + f a; omega, v', r.set i (some v), f', g', rfl, fun _ => rfl, nb', h1, h'⟩
theorem Slots.len : ∀ {ρ : Env} {σ : L2.St} {fp : Fp}, Slots Γ.K Γ.cn F H ρ σ fp → ρ.length = σ.length
  | [], σ, fp, h => by rw [h.1]; rfl
  | none :: ρ, σ, fp, ⟨x, r, e, h⟩ => by rw [e, List.length_cons, List.length_cons, Slots.len h]
  | some d :: ρ, σ, fp, ⟨v, r, f, g, e, s, nb, h1, h2⟩ => by rw [e, List.length_cons, List.length_cons, Slots.len h2]
theorem getS_set : ∀ {ρ : Env} {i j : Nat} {x : Option D} {d : D}, getS (setS ρ i x) j = some d → (i = j ∧ x = some d) ∨ (i ≠ j ∧ getS ρ j = some d)
  | [], _, _, _, _, h => by simp [setS, getS] at h
  | y :: ρ, 0, 0, x, d, h => .inl ⟨rfl, h⟩
  | y :: ρ, 0, j + 1, x, d, h => .inr ⟨by simp, h⟩
  | y :: ρ, i + 1, 0, x, d, h => .inr ⟨by simp, h⟩
  | y :: ρ, i + 1, j + 1, x, d, h => by
    rcases getS_set (ρ := ρ) (i := i) (j := j) h with ⟨a, b⟩ | ⟨a, b⟩
    · exact .inl ⟨by rw [a], b⟩
    · exact .inr ⟨by omega, b⟩
theorem setS_length : ∀ (ρ : Env) (i : Nat) (x : Option D), (setS ρ i x).length = ρ.length
  | [], _, _ => rfl
  | y :: ρ, 0, x => rfl
  | y :: ρ, i + 1, x => by show (setS ρ i x).length + 1 = ρ.length + 1; rw [setS_length]

/-- the same heap: other shares -/
theorem SIx.re (s : SIx Γ F fh fs hold ρ σ H) (hh : Reps Γ.K Γ.cn F H (hold'.map (·.2)) (hold'.map (·.1)) fh') (ss : Slots Γ.K Γ.cn F H ρ' σ' fs') (le : ∀ a, fh' a + fs' a ≤ fh a + fs a)
    (mk : ∀ i d, getS ρ' i = some d → Γ.own i = false → d.noOwn = true) (lk : ∀ i v, Γ.lv i = some v → σ'[i]? = some (some v) := by exact s.lk) : SIx Γ F fh' fs' hold' ρ' σ' H :=
  ⟨hh, ss, fun a => Nat.le_trans (le a) (s.nd a), fun a p => s.ow a (Nat.lt_of_lt_of_le p (le a)), mk, s.F1, s.F2, s.al, s.kp, s.dm, lk⟩
/-- some are frozen -/
theorem SIx.ice (s : SIx Γ F fh fs hold ρ σ H) {f : Fp} (hF : ∀ a, F' a → F a ∨ 0 < f a) (hF' : ∀ a, F a → F' a) (hh : Reps Γ.K Γ.cn F' H (hold'.map (·.2)) (hold'.map (·.1)) fh') (ss : Slots Γ.K Γ.cn F' H ρ' σ' fs') (le : ∀ a, fh' a + fs' a + f a ≤ fh a + fs a)
    (mk : ∀ i d, getS ρ' i = some d → Γ.own i = false → d.noOwn = true) (hm : ∀ a, 0 < f a → H a ≠ none) (lk : ∀ i v, Γ.lv i = some v → σ'[i]? = some (some v) := by exact s.lk) : SIx Γ F' fh' fs' hold' ρ' σ' H :=
  ⟨hh, ss, fun a => by have := le a; have := s.nd a; omega, fun a p => by
    have l := le a
    have nd := s.nd a
    obtain ⟨n, o⟩ := s.ow a (by omega)
    exact ⟨fun z => (hF a z).elim n fun q => by omega, o⟩, mk, fun a h => hF' a (s.F1 a h), fun a h => by
    rcases hF a h with q | q
    · exact s.F2 a q
    · have l := le a
      exact .inr (s.ow a (by omega)).2, fun a h => (hF a h).elim (s.al a) (hm a), s.kp, s.dm, lk⟩
end
end DL

end
section
/-! DL4: more moves of the state; the judgements; names, constants, operators. -/
open PySem PySem.Spec L2
namespace DL
section
variable {Γ : Ctx} {F F' : Addr → Prop} {fh fs fh' fs' : Fp} {hold hold' : Hold} {ρ ρ' : Env} {σ σ' : L2.St} {H H' : Hp}
theorem chk_any {d : D} : (d.noBrw = false → True) := fun _ => trivial
theorem SIx.grow (s : SIx Γ F fh fs hold ρ σ H) (e : Ext H H') : SIx Γ F fh fs hold ρ σ H' :=
  ⟨Reps.go e.keep _ _ _ (fun _ => trivial) (fun a o _ => e a o) s.hh, Slots.go e.keep (fun a o _ => e a o) s.ss, s.nd, s.ow, s.mo, s.F1, s.F2,
    (fun a h z => by
      cases q : H a with
      | none => exact s.al a h q
      | some o => rw [e a o q] at z; cases z), (fun a o h n => e a o (s.kp a o h n)), (fun a h z => by
      cases q : H a with
      | none => exact s.dm a h q
      | some o => rw [e a o q] at z; cases z), s.lk⟩
theorem SIx.alloc (s : SIx Γ F fh fs hold ρ σ H) : ∀ a, 0 < fh a + fs a → Mut (H a) := fun a p => by
  by_cases h : 0 < fh a
  · exact Reps.alloc _ _ _ s.hh a h
  · exact Slots.alloc s.ss a (by omega)
theorem SIx.fresh (s : SIx Γ F fh fs hold ρ σ H) {p : Addr} (hp : H p = none) : fh p = 0 ∧ fs p = 0 := by
  by_cases h : 0 < fh p + fs p
  · have := s.alloc p h
    rw [hp] at this; exact this.elim
  · omega
theorem SIx.new {p : Addr} {o : HO} (s : SIx Γ F fh fs hold ρ σ H) (hp : H p = none) (hh : Reps Γ.K Γ.cn F (upd H p o) (hold'.map (·.2)) (hold'.map (·.1)) fh') (ss : Slots Γ.K Γ.cn F (upd H p o) ρ' σ' fs')
    (le : ∀ a, fh' a + fs' a ≤ fh a + fs a + if a = p then 1 else 0) (mo : ∀ i d, getS ρ' i = some d → Γ.own i = false → d.noOwn = true) (lk : ∀ i v, Γ.lv i = some v → σ'[i]? = some (some v) := by exact s.lk) : SIx Γ F fh' fs' hold' ρ' σ' (upd H p o) := by
  have g := s.grow (Ext.upd (o := o) hp)
  obtain ⟨z1, z2⟩ := s.fresh hp
  refine ⟨hh, ss, fun a => ?_, fun a q => ?_, mo, s.F1, s.F2, g.al, g.kp, g.dm, lk⟩
  · have := le a; have := s.nd a
    by_cases h : a = p
    · subst h; simp at this ⊢; have := le a; simp at this; omega
    · have := le a; rw [if_neg h] at this; omega
  · have := le a
    by_cases h : a = p
    · subst h
      exact ⟨fun z => s.al a z hp, .inl (by
        cases e : Γ.H0 a with
        | none => rfl
        | some o => exact (s.dm a (by rw [e]; exact fun z => nomatch z) hp).elim)⟩
    · rw [if_neg h] at this; exact s.ow a (by omega)
theorem SIx.mut {p : Addr} {o : HO} (s : SIx Γ F fh fs hold ρ σ H) (hp : 0 < fh p + fs p) (hh : Reps Γ.K Γ.cn F (upd H p o) (hold'.map (·.2)) (hold'.map (·.1)) fh') (ss : Slots Γ.K Γ.cn F (upd H p o) ρ' σ' fs')
    (le : ∀ a, fh' a + fs' a ≤ fh a + fs a) (mo : ∀ i d, getS ρ' i = some d → Γ.own i = false → d.noOwn = true) (lk : ∀ i v, Γ.lv i = some v → σ'[i]? = some (some v) := by exact s.lk) : SIx Γ F fh' fs' hold' ρ' σ' (upd H p o) := by
  have ne : ∀ b, upd H p o b = none → H b = none := fun b z => by
    by_cases h : b = p
    · subst h; rw [upd_same] at z; cases z
    · rwa [upd_ne h] at z
  refine ⟨hh, ss, fun a => Nat.le_trans (le a) (s.nd a), fun a q => s.ow a (Nat.lt_of_lt_of_le q (le a)), mo, s.F1, s.F2, fun a h z => s.al a h (ne a z), fun a o' h n => ?_, fun a h z => s.dm a h (ne a z), lk⟩
  rw [upd_ne]
  · exact s.kp a o' h n
  · rintro rfl
    rcases (s.ow a hp).2 with z | z
    · rw [z] at h; cases h
    · exact n z

theorem SI.grow (s : SI Γ hold ρ σ H) (e : Ext H H') : SI Γ hold ρ σ H' := let ⟨F, a, b, s⟩ := s; ⟨F, a, b, s.grow e⟩
/-- what is on top -/
theorem SI.top {v : V} {d : D} (s : SI Γ ((v, d) :: hold) ρ σ H) : ∃ F f, Rep Γ.K Γ.cn F H d v f := by
  obtain ⟨F, a, b, s⟩ := s
  obtain ⟨v', r, f, g, e, _, h, _⟩ := s.hh
  cases e
  exact ⟨F, f, h⟩
theorem SI.drop {x : V × D} (s : SI Γ (x :: hold) ρ σ H) : SI Γ hold ρ σ H := by
  obtain ⟨F, a, b, s⟩ := s
  obtain ⟨v', r, f, g, e, q, _, h⟩ := s.hh
  cases e
  exact ⟨F, g, b, s.re h s.ss (fun a => by have := q a; omega) s.mo⟩
/-- a thing that is the same everywhere -/
theorem SI.push {v : V} {d : D} (s : SI Γ hold ρ σ H) (h : ∀ F, Rep Γ.K Γ.cn F H d v fp0) : SI Γ ((v, d) :: hold) ρ σ H := by
  obtain ⟨F, a, b, s⟩ := s
  exact ⟨F, a, b, s.re ⟨v, _, fp0, a, rfl, fun a => by show _ = 0 + _; omega, h F, s.hh⟩ s.ss (fun _ => Nat.le_refl _) s.mo⟩
theorem SI.int (s : SI Γ hold ρ σ H) (i : Int) : SI Γ ((.int i, .int i) :: hold) ρ σ H := s.push fun _ => ⟨rfl, fun _ => rfl⟩
theorem SI.bl (s : SI Γ hold ρ σ H) (i : Bool) : SI Γ ((.bl i, .bl i) :: hold) ρ σ H := s.push fun _ => ⟨rfl, fun _ => rfl⟩
theorem SI.str (s : SI Γ hold ρ σ H) (i : Str) : SI Γ ((.str i, .str i) :: hold) ρ σ H := s.push fun _ => ⟨rfl, fun _ => rfl⟩
theorem SI.non (s : SI Γ hold ρ σ H) : SI Γ ((.non, .non) :: hold) ρ σ H := s.push fun _ => ⟨rfl, fun _ => rfl⟩
theorem SI.topInt {v : V} {i : Int} (s : SI Γ ((v, .int i) :: hold) ρ σ H) : v = .int i := let ⟨_, _, h⟩ := s.top; h.1
theorem SI.topBl {v : V} {i : Bool} (s : SI Γ ((v, .bl i) :: hold) ρ σ H) : v = .bl i := let ⟨_, _, h⟩ := s.top; h.1
theorem SI.topStr {v : V} {i : Str} (s : SI Γ ((v, .str i) :: hold) ρ σ H) : v = .str i := let ⟨_, _, h⟩ := s.top; h.1
theorem SI.topNon {v : V} (s : SI Γ ((v, .non) :: hold) ρ σ H) : v = .non := let ⟨_, _, h⟩ := s.top; h.1
end

section
variable {Γ : Ctx} {F F' : Addr → Prop} {fh fs fh' fs' : Fp} {hold hold' : Hold} {ρ ρ' : Env} {σ σ' : L2.St} {H H' : Hp}
abbrev zipH (vs : List V) (ds : List D) : Hold := vs.zip ds
theorem zip_fst : ∀ {vs : List V} {ds : List D}, vs.length = ds.length → (vs.zip ds).map (·.1) = vs
  | [], [], _ => rfl
  | [], _ :: _, h => by cases h
  | _ :: _, [], h => by cases h
  | v :: vs, d :: ds, h => by
    show v :: (vs.zip ds).map (·.1) = v :: vs
    rw [zip_fst (by simpa using h)]
theorem zip_snd : ∀ {vs : List V} {ds : List D}, vs.length = ds.length → (vs.zip ds).map (·.2) = ds
  | [], [], _ => rfl
  | [], _ :: _, h => by cases h
  | _ :: _, [], h => by cases h
  | v :: vs, d :: ds, h => by
    show d :: (vs.zip ds).map (·.2) = d :: ds
    rw [zip_snd (by simpa using h)]
theorem Reps.split2 {K : PySem.W.Frag} {cn : Nm} : ∀ {ds es : List D} {vs ws : List V} {fp : Fp}, ds.length = vs.length → Reps K cn F H (ds ++ es) (vs ++ ws) fp → ∃ f g, (∀ a, fp a = f a + g a) ∧ Reps K cn F H ds vs f ∧ Reps K cn F H es ws g
  | [], es, [], ws, fp, _, h => ⟨fp0, fp, fun a => by show _ = 0 + _; omega, ⟨rfl, fun _ => rfl⟩, h⟩
  | [], _, _ :: _, _, _, l, _ => by cases l
  | _ :: _, _, [], _, _, l, _ => by cases l
  | d :: ds, es, v :: vs, ws, fp, l, ⟨v', r, f, g, e, s, h1, h2⟩ => by
    obtain ⟨rfl, rfl⟩ : v = v' ∧ vs ++ ws = r := by
      have e' : v :: (vs ++ ws) = v' :: r := e
      injection e' with a b
      exact ⟨a, b⟩
    obtain ⟨f', g', s', a, b⟩ := Reps.split2 (by simpa using l) h2
    exact ⟨fun a => f a + f' a, g', fun a => by have := s a; have := s' a; show _ = f a + f' a + g' a; omega, ⟨v, vs, f, f', rfl, fun _ => rfl, h1, a⟩, b⟩
/-- a block on top -/
theorem SI.block {vs : List V} {ds : List D} (s : SI Γ (vs.zip ds ++ hold) ρ σ H) (l : vs.length = ds.length) : ∃ F fa fh fs, Reps Γ.K Γ.cn F H ds vs fa ∧ SIx Γ F (fun a => fa a + fh a) fs (vs.zip ds ++ hold) ρ σ H ∧ Reps Γ.K Γ.cn F H (hold.map (·.2)) (hold.map (·.1)) fh := by
  obtain ⟨F, fh, fs, s⟩ := s
  have h := s.hh
  rw [List.map_append, List.map_append, zip_fst l, zip_snd l] at h
  obtain ⟨f, g, e, h1, h2⟩ := Reps.split2 l.symm h
  refine ⟨F, f, g, fs, h1, ?_, h2⟩
  have : fh = fun a => f a + g a := funext e
  rw [← this]; exact s
/-- the block becomes one thing, on the same heap -/
theorem SI.ofBlock {vs : List V} {ds : List D} {v : V} {d : D} (s : SI Γ (vs.zip ds ++ hold) ρ σ H) (l : vs.length = ds.length)
    (h : ∀ F fa, Reps Γ.K Γ.cn F H ds vs fa → ∃ f, (∀ a, f a ≤ fa a) ∧ Rep Γ.K Γ.cn F H d v f) : SI Γ ((v, d) :: hold) ρ σ H := by
  obtain ⟨F, fa, fh, fs, h1, s, h2⟩ := s.block l
  obtain ⟨f, le, r⟩ := h F fa h1
  exact ⟨F, _, fs, s.re ⟨v, _, f, fh, rfl, fun _ => rfl, r, h2⟩ s.ss (fun a => by have := le a; show f a + fh a + fs a ≤ fa a + fh a + fs a; omega) s.mo⟩
/-- .. over a new address -/
theorem SI.newBlock {vs : List V} {ds : List D} {v : V} {d : D} {p : Addr} {o : HO} (s : SI Γ (vs.zip ds ++ hold) ρ σ H) (l : vs.length = ds.length) (hp : H p = none)
    (h : ∀ F fa, Reps Γ.K Γ.cn F (upd H p o) ds vs fa → ∃ f, (∀ a, f a ≤ fa a + if a = p then 1 else 0) ∧ Rep Γ.K Γ.cn F (upd H p o) d v f) : SI Γ ((v, d) :: hold) ρ σ (upd H p o) := by
  obtain ⟨F, fa, fh, fs, h1, s, h2⟩ := s.block l
  have k : Keep F F H (upd H p o) True := (Ext.upd hp).keep
  obtain ⟨f, le, r⟩ := h F fa (Reps.go k _ _ _ (fun _ => trivial) (fun a o _ => Ext.upd hp a o) h1)
  refine ⟨F, _, fs, s.new hp ⟨v, _, f, fh, rfl, fun _ => rfl, r, Reps.go k _ _ _ (fun _ => trivial) (fun a o _ => Ext.upd hp a o) h2⟩ (Slots.go k (fun a o _ => Ext.upd hp a o) s.ss) (fun a => ?_) s.mo⟩
  have := le a
  show f a + fh a + fs a ≤ fa a + fh a + fs a + if a = p then 1 else 0
  omega
theorem SI.perm {h1 h2 : Hold} (s : SI Γ (h1 ++ h2) ρ σ H) : SI Γ (h2 ++ h1) ρ σ H := by
  obtain ⟨F, fh, fs, s⟩ := s
  have h := s.hh
  rw [List.map_append, List.map_append] at h
  obtain ⟨f, g, e, a, b⟩ := Reps.split2 (by simp) h
  refine ⟨F, fun a => g a + f a, fs, s.re ?_ s.ss (fun a => by have := e a; show g a + f a + fs a ≤ fh a + fs a; omega) s.mo⟩
  rw [List.map_append, List.map_append]
  exact Reps.app b a fun _ => rfl
theorem SI.rot {x : V × D} {h1 h2 : Hold} (s : SI Γ (h1 ++ x :: h2) ρ σ H) : SI Γ (x :: (h1 ++ h2)) ρ σ H := by
  obtain ⟨F, fh, fs, s⟩ := s
  have h := s.hh
  rw [List.map_append, List.map_append] at h
  obtain ⟨f, g, e, a, v, r, f1, g1, e1, e2, b, c⟩ := Reps.split2 (by simp) h
  have e1' : x.1 :: h2.map (·.1) = v :: r := e1
  injection e1' with q1 q2
  refine ⟨F, fun a => f1 a + (f a + g1 a), fs, s.re ?_ s.ss (fun a => by have := e a; have := e2 a; show f1 a + (f a + g1 a) + fs a ≤ fh a + fs a; omega) s.mo⟩
  refine ⟨v, h1.map (·.1) ++ h2.map (·.1), f1, fun a => f a + g1 a, ?_, fun _ => rfl, b, ?_⟩
  · rw [List.map_cons, List.map_append, q1]
  · rw [List.map_append]
    rw [← q2] at c
    exact Reps.app a c fun _ => rfl
theorem SI.open2 {Γ : Ctx} {hold : Hold} {ρ : Env} {σ : L2.St} {H : Hp} {v w : V} {x y : D} (s : SI Γ ((w, y) :: (v, x) :: hold) ρ σ H) :
    ∃ (F : Addr → Prop) (f g : Fp), Rep Γ.K Γ.cn F H x v f ∧ Rep Γ.K Γ.cn F H y w g ∧ (∀ d u (k : Fp), (∀ a, k a ≤ f a + g a) → Rep Γ.K Γ.cn F H d u k → SI Γ ((u, d) :: hold) ρ σ H) ∧
      ∀ p o d u (k : Fp), H p = none → (∀ a, k a ≤ f a + g a + if a = p then 1 else 0) → Rep Γ.K Γ.cn F (upd H p o) d u k → SI Γ ((u, d) :: hold) ρ σ (upd H p o) := by
  obtain ⟨F, fh, fs, s⟩ := s
  obtain ⟨w', r, f, g, e, q, h1, v', r', f', g', e', q', h2, h3⟩ := s.hh
  cases e; cases e'
  refine ⟨F, f', f, h2, h1, fun d u k le hr => ?_, fun p o d u k hp le hr => ?_⟩
  · exact ⟨F, _, fs, s.re ⟨u, _, k, g', rfl, fun _ => rfl, hr, h3⟩ s.ss (fun a => by have := le a; have := q a; have := q' a; show k a + g' a + fs a ≤ fh a + fs a; omega) s.mo⟩
  · have kk : Keep F F H (upd H p o) True := (Ext.upd hp).keep
    refine ⟨F, _, fs, s.new hp ⟨u, _, k, g', rfl, fun _ => rfl, hr, Reps.go kk _ _ _ (fun _ => trivial) (fun a o _ => Ext.upd hp a o) h3⟩ (Slots.go kk (fun a o _ => Ext.upd hp a o) s.ss) (fun a => ?_) s.mo⟩
    have := le a; have := q a; have := q' a
    show k a + g' a + fs a ≤ fh a + fs a + if a = p then 1 else 0
    omega
theorem SI.open1 {Γ : Ctx} {hold : Hold} {ρ : Env} {σ : L2.St} {H : Hp} {v : V} {x : D} (s : SI Γ ((v, x) :: hold) ρ σ H) :
    ∃ (F : Addr → Prop) (f : Fp), Rep Γ.K Γ.cn F H x v f ∧ (∀ d u (k : Fp), (∀ a, k a ≤ f a) → Rep Γ.K Γ.cn F H d u k → SI Γ ((u, d) :: hold) ρ σ H) ∧
      ∀ p o d u (k : Fp), H p = none → (∀ a, k a ≤ f a + if a = p then 1 else 0) → Rep Γ.K Γ.cn F (upd H p o) d u k → SI Γ ((u, d) :: hold) ρ σ (upd H p o) := by
  obtain ⟨F, f, g, h1, h2, k1, k2⟩ := s.non.open2
  refine ⟨F, f, h1, fun d u k le hr => k1 d u k (fun a => by have := le a; omega) hr, fun p o d u k hp le hr => k2 p o d u k hp (fun a => by have := le a; omega) hr⟩
end

/-! ### judgements -/
inductive Res (α : Type) where
  | ok (a : α) (ρ : Env)
  | ex (n : Str) (fs : List (Str × D)) (ρ : Env)
/-- pure expressions, tests; any expressions, tests -/
abbrev PF := Env → Option D
abbrev QF := Env → Option Bool
abbrev EF := Env → Option (Res D)
abbrev TF := Env → Option (Res Bool)
/-- an exception of the class n, made of these -/
def ExO (cn : Nm) (H : Hp) (n : Str) (fs : List (Str × D)) (c : Value) (od : Option Addr) : Prop :=
  ∃ C, cn.cls n = some C ∧ c = .ref C ∧ match od with
    | none => fs = []
    | some dx => ∃ vs, H dx = some (.xd vs) ∧ ∀ K F, RepF K cn F H fs vs fp0
def tP (Γ : Ctx) (p : PF) : TE := fun σ H Q => ∃ hold ρ, SI Γ hold ρ σ H ∧ ∃ d, p ρ = some d ∧ ∀ v H', Ext H H' → SI Γ ((v, d) :: hold) ρ σ H' → Q v H'
def tQ (Γ : Ctx) (p : QF) : TT := fun σ H Q => ∃ hold ρ, SI Γ hold ρ σ H ∧ ∃ b, p ρ = some b ∧ ∀ H', Ext H H' → SI Γ hold ρ σ H' → Q b H'
def tE (Γ : Ctx) (W : WX) (f : EF) : TE := fun σ H Q => ∃ hold ρ, SI Γ hold ρ σ H ∧ hold.noBrw ∧ match f ρ with
  | none => False
  | some (.ok d ρ') => ∀ v H', SI Γ ((v, d) :: hold) ρ' σ H' → Q v H'
  | some (.ex n fs ρ') => ∀ c od H', SI Γ hold ρ' σ H' → ExO Γ.cn H' n fs c od → W c od σ H'
def tT (Γ : Ctx) (W : WX) (f : TF) : TT := fun σ H Q => ∃ hold ρ, SI Γ hold ρ σ H ∧ hold.noBrw ∧ match f ρ with
  | none => False
  | some (.ok b ρ') => ∀ H', SI Γ hold ρ' σ H' → Q b H'
  | some (.ex n fs ρ') => ∀ c od H', SI Γ hold ρ' σ H' → ExO Γ.cn H' n fs c od → W c od σ H'
def lP (p : PF) : EF := fun ρ => (p ρ).map (.ok · ρ)
def lQ (p : QF) : TF := fun ρ => (p ρ).map (.ok · ρ)
theorem PE.wk {X : Cx} {e : Expr} {t t' : TE} (h : PE X e t) (i : ∀ σ H Q, t' σ H Q → t σ H Q) : PE X e t' := ⟨fun pins s σ H Q I q => h.run pins s σ H Q I (i σ H Q q)⟩
theorem PT.wk {X : Cx} {e : Expr} {t t' : TT} (h : PT X e t) (i : ∀ σ H Q, t' σ H Q → t σ H Q) : PT X e t' := ⟨fun pins s σ H Q I q => h.run pins s σ H Q I (i σ H Q q)⟩
theorem PW.wk {X : Cx} {e : Expr} {t t' : TT} (h : PW X e t) (i : ∀ σ H Q, t' σ H Q → t σ H Q) : PW X e t' := ⟨fun wh pins s σ H Q I q => h.run wh pins s σ H Q I (i σ H Q q)⟩
theorem PA.wk {X : Cx} {es : List Expr} {t t' : TA} (h : PA X es t) (i : ∀ σ H Q, t' σ H Q → t σ H Q) : PA X es t' := ⟨fun pos pins s σ H Q I q => h.run pos pins s σ H Q I (i σ H Q q)⟩
theorem iT {p q : Prop} (h : p) : if true = true then p else q := by rw [if_pos rfl]; exact h
theorem iF {p q : Prop} (h : q) : if false = true then p else q := by rw [if_neg Bool.false_ne_true]; exact h

section
variable {X : Cx} {Γ : Ctx} {W : WX} {e a b : Expr} {f g p : PF} {pos : Pos}
theorem lift_e (h : PE X e (tP Γ p)) : PE X e (tE Γ W (lP p)) := PE.wk h fun σ H Q ⟨hold, ρ, s, nb, k⟩ => by
  unfold lP at k
  cases q : p ρ with
  | none => rw [q] at k; exact k.elim
  | some d => rw [q] at k; exact ⟨hold, ρ, s, d, q, fun v H' _ s' => k v H' s'⟩
theorem lift_t {q : QF} (h : PT X e (tQ Γ q)) : PT X e (tT Γ W (lQ q)) := PT.wk h fun σ H Q ⟨hold, ρ, s, nb, k⟩ => by
  unfold lQ at k
  cases z : q ρ with
  | none => rw [z] at k; exact k.elim
  | some d => rw [z] at k; exact ⟨hold, ρ, s, d, z, fun H' _ s' => k H' s'⟩

/-! names, constants -/
def dC (d : D) : PF := fun _ => some d
theorem d_int {i j} : PE X (.Constant (.int i) j pos) (tP Γ (dC (.int i))) := PE.wk pe_int fun σ H Q ⟨hold, ρ, s, d, e, k⟩ => by cases e; exact k _ _ Ext.refl (s.int i)
theorem d_bl {i j} : PE X (.Constant (.bool i) j pos) (tP Γ (dC (.bl i))) := PE.wk pe_bl fun σ H Q ⟨hold, ρ, s, d, e, k⟩ => by cases e; exact k _ _ Ext.refl (s.bl i)
theorem d_str {i j} : PE X (.Constant (.str i) j pos) (tP Γ (dC (.str i))) := PE.wk pe_str fun σ H Q ⟨hold, ρ, s, d, e, k⟩ => by cases e; exact k _ _ Ext.refl (s.str i)
theorem d_non {j} : PE X (.Constant .none j pos) (tP Γ (dC .non)) := PE.wk pe_non fun σ H Q ⟨hold, ρ, s, d, e, k⟩ => by cases e; exact k _ _ Ext.refl s.non
/-- a slot that is never changed in place -/
def dV (i : Nat) : PF := fun ρ => getS ρ i
/-- a slot that is: its thing is lent for a look -/
def dK (i : Nat) : PF := fun ρ => (getS ρ i).map D.peek
theorem d_v {i : Nat} {x : Str} (hN : X.N[i]? = some x) (hv : Vis X.env.scope x) (ho : Γ.own i = false) (hd : (x == ("__debug__" : Str)) = false := by decide) (hcd : (x == ("__classdict__" : Str)) = false := by decide) : PE X (.Name x pos) (tP Γ (dV i)) :=
  PE.wk (pe_var hN hv hd hcd) fun σ H Q ⟨hold, ρ, ⟨F, fh, fs, s⟩, d, e, k⟩ => by
    obtain ⟨v, f, e1, r, nb, l⟩ := s.ss.get e
    refine ⟨v, e1, k v H Ext.refl ⟨F, fh, fs, s.re ⟨v, _, f, fh, rfl, fun a => ?_, r, s.hh⟩ s.ss (fun _ => Nat.le_refl _) s.mo⟩⟩
    rw [Rep.zero d v f r (s.mo i d e ho) a]; omega
theorem d_k {i : Nat} {x : Str} (hN : X.N[i]? = some x) (hv : Vis X.env.scope x) (hd : (x == ("__debug__" : Str)) = false := by decide) (hcd : (x == ("__classdict__" : Str)) = false := by decide) : PE X (.Name x pos) (tP Γ (dK i)) :=
  PE.wk (pe_var hN hv hd hcd) fun σ H Q ⟨hold, ρ, ⟨F, fh, fs, s⟩, d, e, k⟩ => by
    obtain ⟨d', e', rfl⟩ : ∃ d', getS ρ i = some d' ∧ d'.peek = d := by
      unfold dK at e
      cases q : getS ρ i with
      | none => rw [q] at e; cases e
      | some d' => rw [q] at e; cases e; exact ⟨d', rfl, rfl⟩
    obtain ⟨v, f, e1, r, nb, l⟩ := s.ss.get e'
    exact ⟨v, e1, k v H Ext.refl ⟨F, fh, fs, s.re ⟨v, _, fp0, fh, rfl, fun a => by show _ = 0 + _; omega, Rep.peek _ _ _ r, s.hh⟩ s.ss (fun _ => Nat.le_refl _) s.mo⟩⟩
/-- a module's constant: a text, an int -/
theorem d_gstr {x : Str} {z : Str} {u : Value} (hg : Gl X x) (hm : X.mg x = some u) (r : RelV (.str z) u) (hd : (x == ("__debug__" : Str)) = false := by decide) : PE X (.Name x pos) (tP Γ (dC (.str z))) :=
  PE.wk (pe_glob hg hm r hd) fun σ H Q ⟨hold, ρ, s, d, e, k⟩ => by cases e; exact k _ _ Ext.refl (s.str z)


/-! ### an operation of two things -/
abbrev O2 := D → D → Option D
def Op2 (Γ : Ctx) (r : R2) (o : O2) : Prop := ∀ (hold : Hold) (ρ : Env) (σ : L2.St) (H : Hp) (v w : V) (x y d : D) (Q : VK), o x y = some d → SI Γ ((w, y) :: (v, x) :: hold) ρ σ H → (∀ u H', Ext H H' → SI Γ ((u, d) :: hold) ρ σ H' → Q u H') → r v w H Q
def pB (o : O2) (f g : PF) : PF := fun ρ => match f ρ, g ρ with
  | some x, some y => o x y
  | _, _ => none
def eB (o : O2) (f g : EF) : EF := fun ρ => match f ρ with
  | some (.ok x ρ1) => if x.noBrw = true then (match g ρ1 with
      | some (.ok y ρ2) => (o x y).map (.ok · ρ2)
      | r => r) else none
  | r => r
theorem pB_some {o : O2} {ρ : Env} {d : D} (e : pB o f g ρ = some d) : ∃ x y, f ρ = some x ∧ g ρ = some y ∧ o x y = some d := by
  unfold pB at e
  split at e
  · rename_i x y e1 e2; exact ⟨x, y, e1, e2, e⟩
  · cases e
theorem tP_op {r : R2} {o : O2} (ho : Op2 Γ r o) (σ : L2.St) (H : Hp) (Q : VK) : tP Γ (pB o f g) σ H Q → tOp r (tP Γ f) (tP Γ g) σ H Q := fun ⟨hold, ρ, s, d, e, k⟩ => by
  obtain ⟨x, y, ex, ey, ez⟩ := pB_some e
  refine ⟨hold, ρ, s, x, ex, fun v H1 e1 s1 => ⟨_, ρ, s1, y, ey, fun w H2 e2 s2 => ?_⟩⟩
  exact ho hold ρ σ H2 v w x y d Q ez s2 fun u H3 e3 s3 => k u H3 ((e1.trans e2).trans e3) s3
theorem p_op {r : R2} {o : O2} (h : PE X e (tOp r (tP Γ f) (tP Γ g))) (ho : Op2 Γ r o) : PE X e (tP Γ (pB o f g)) := PE.wk h (tP_op ho)
theorem noBrw_cons {hold : Hold} {v : V} {d : D} (h : hold.noBrw) (hd : d.noBrw = true) : Hold.noBrw ((v, d) :: hold) := by
  show (D.chk _ d && D.chkL _ _) = true
  rw [show D.chk (fun m => !m.isBrw) d = true from hd, show D.chkL _ _ = true from h]; rfl
theorem tE_op {r : R2} {o : O2} {f g : EF} (ho : Op2 Γ r o) (σ : L2.St) (H : Hp) (Q : VK) : tE Γ W (eB o f g) σ H Q → tOp r (tE Γ W f) (tE Γ W g) σ H Q := fun ⟨hold, ρ, s, nb, k⟩ => by
    refine ⟨hold, ρ, s, nb, ?_⟩
    unfold eB at k
    cases q : f ρ with
    | none => rw [q] at k; exact k.elim
    | some r1 =>
      rw [q] at k
      cases r1 with
      | ex n fs ρ1 => exact k
      | ok x ρ1 =>
        dsimp only at k ⊢
        intro v H1 s1
        by_cases hx : x.noBrw = true
        · rw [if_pos hx] at k
          refine ⟨_, ρ1, s1, noBrw_cons nb hx, ?_⟩
          cases q2 : g ρ1 with
          | none => rw [q2] at k; exact k.elim
          | some r2 =>
            rw [q2] at k
            cases r2 with
            | ex n fs ρ2 => exact fun c od H' s' => k c od H' s'.drop
            | ok y ρ2 =>
              dsimp only at k ⊢
              intro w H2 s2
              cases q3 : o x y with
              | none => rw [q3] at k; exact k.elim
              | some d =>
                rw [q3] at k
                exact ho hold ρ2 σ H2 v w x y d Q q3 s2 fun u H3 e3 s3 => k u H3 s3
        · rw [if_neg hx] at k; exact k.elim
theorem e_op {r : R2} {o : O2} {f g : EF} (h : PE X e (tOp r (tE Γ W f) (tE Γ W g))) (ho : Op2 Γ r o) : PE X e (tE Γ W (eB o f g)) := PE.wk h (tE_op ho)
/-- .. as a test -/
def qB (f : PF) : QF := fun ρ => match f ρ with | some (.bl b) => some b | _ => none
theorem qB_some {ρ : Env} {b : Bool} (e : qB f ρ = some b) : f ρ = some (.bl b) := by
  unfold qB at e
  split at e
  · rename_i b' e1; cases e; exact e1
  · cases e
def eT (f : EF) : TF := fun ρ => match f ρ with
  | some (.ok (.bl b) ρ') => some (.ok b ρ')
  | some (.ok _ _) => none
  | some (.ex n fs ρ') => some (.ex n fs ρ')
  | none => none
theorem q_of {t : TE} (h : PT X e (tTest t)) (hp : ∀ σ H Q, tP Γ p σ H Q → t σ H Q) : PT X e (tQ Γ (qB p)) :=
  PT.wk h fun σ H Q ⟨hold, ρ, s, b, e, k⟩ => hp σ H _ ⟨hold, ρ, s, _, qB_some e, fun v H1 x1 s1 => ⟨b, s1.topBl, k H1 x1 s1.drop⟩⟩
theorem t_of {t : TE} {f : EF} (h : PT X e (tTest t)) (hp : ∀ σ H Q, tE Γ W f σ H Q → t σ H Q) : PT X e (tT Γ W (eT f)) :=
  PT.wk h fun σ H Q ⟨hold, ρ, s, nb, k⟩ => hp σ H _ ⟨hold, ρ, s, nb, by
    unfold eT at k
    split at k
    · exact k.elim
    · rename_i b' ρ'' e1
      split at e1 <;> cases e1
      rename_i e2
      rw [e2]
      exact fun v H' s' => ⟨_, s'.topBl, k H' s'.drop⟩
    · rename_i n fs ρ'' e1
      split at e1 <;> cases e1
      rename_i e2
      rw [e2]
      exact k⟩
theorem q_val (h : PE X e (tP Γ f)) (he : ∀ whole, isTrue e X.env whole = (do let v ← whole; standAt e.pos; holding [v] (truthy v)) := by intro _; rfl) : PT X e (tQ Γ (qB f)) := q_of (pt_val h he) fun _ _ _ h => h
theorem t_val {f : EF} (h : PE X e (tE Γ W f)) (he : ∀ whole, isTrue e X.env whole = (do let v ← whole; standAt e.pos; holding [v] (truthy v)) := by intro _; rfl) : PT X e (tT Γ W (eT f)) := t_of (pt_val h he) fun _ _ _ h => h
/-- comparisons -/
theorem d_cmp {op : CmpOp} {r : R2} {o : O2} (hr : OpR X (compareOp op) r) (ho : Op2 Γ r o) (ha : PE X a (tP Γ f)) (hb : PE X b (tP Γ g)) (hm : behindInMarks op b = false) : PE X (.Compare a [op] [b] pos) (tP Γ (pB o f g)) := p_op (pe_cmpR hr ha hb hm) ho
theorem e_cmp {op : CmpOp} {r : R2} {o : O2} {f g : EF} (hr : OpR X (compareOp op) r) (ho : Op2 Γ r o) (ha : PE X a (tE Γ W f)) (hb : PE X b (tE Γ W g)) (hm : behindInMarks op b = false) : PE X (.Compare a [op] [b] pos) (tE Γ W (eB o f g)) := e_op (pe_cmpR hr ha hb hm) ho
theorem q_cmp {op : CmpOp} {r : R2} {o : O2} (hr : OpR X (compareOp op) r) (ho : Op2 Γ r o) (ha : PE X a (tP Γ f)) (hb : PE X b (tP Γ g)) (hm : behindInMarks op b = false) : PT X (.Compare a [op] [b] pos) (tQ Γ (qB (pB o f g))) :=
  q_of (pt_cmpR hr ha hb hm) (tP_op ho)
theorem t_cmp {op : CmpOp} {r : R2} {o : O2} {f g : EF} (hr : OpR X (compareOp op) r) (ho : Op2 Γ r o) (ha : PE X a (tE Γ W f)) (hb : PE X b (tE Γ W g)) (hm : behindInMarks op b = false) : PT X (.Compare a [op] [b] pos) (tT Γ W (eT (eB o f g))) :=
  t_of (pt_cmpR hr ha hb hm) (tE_op ho)
end
end DL

end
section
/-! DL5: truth, and the operations of two things. -/
open PySem PySem.Spec L2
namespace DL
section
variable {Γ : Ctx} {F F' : Addr → Prop} {fh fs fh' fs' : Fp} {hold hold' : Hold} {ρ ρ' : Env} {σ σ' : L2.St} {H H' : Hp}
/-! ### what a datum is as PyData -/
mutual
def py : D → Option PyData
  | .non => some .none
  | .bl b => some (.bool b)
  | .int i => some (.int i)
  | .str x => some (.str x)
  | .tup ds => (pys ds).map .tuple
  | .lst _ ds => (pys ds).map .list
  | _ => none
def pys : List D → Option (List PyData)
  | [] => some []
  | d :: ds => match py d, pys ds with
    | some p, some ps => some (p :: ps)
    | _, _ => none
end
theorem At.rd {m : Mk} {a : Addr} {u : HO} {fp f : Fp} (h : At F H m a u fp f) : Rd H a u := by
  cases m with
  | own => exact .inl h.1
  | frz => exact .inl h.2.1
  | brw => exact .inl h.1
  | ro => exact .inr h.1
theorem lst_sq {K : PySem.W.Frag} {m : Mk} {a : Addr} {vs : List V} {fp f : Fp} (q : At F H m a (.lst vs) fp f ∨ (m = .ro ∧ KL K a vs ∧ (∀ b, f b = 0) ∧ ∀ b, fp b = 0)) : SqL K H a vs := by
  rcases q with q | q
  · exact .inl q.rd
  · exact .inr q.2.1
mutual
theorem Rep.dp {K : PySem.W.Frag} {cn : Nm} : ∀ (d : D) (v : V) (fp : Fp) (z : PyData), Rep K cn F H d v fp → py d = some z → Dp K H v z
  | .non, v, fp, z, h, e => by cases e; rw [h.1]; exact .non
  | .bl b, v, fp, z, h, e => by cases e; rw [h.1]; exact .bl b
  | .int i, v, fp, z, h, e => by cases e; rw [h.1]; exact .int i
  | .str x, v, fp, z, h, e => by cases e; rw [h.1]; exact .str x
  | .cls n, v, fp, z, h, e => by cases e
  | .exc n fs, v, fp, z, h, e => by cases e
  | .dic m kd kvs, v, fp, z, h, e => by cases e
  | .ins m C fs, v, fp, z, h, e => by cases e
  | .tup ds, v, fp, z, ⟨a, vs, e1, q, r⟩, e => by
    rw [py, Option.map_eq_some_iff] at e
    obtain ⟨zs, e2, rfl⟩ := e
    rw [e1]
    exact .tup (SqT.of q) (Reps.dp ds vs fp zs r e2)
  | .lst m ds, v, fp, z, ⟨a, vs, f, e1, q, r⟩, e => by
    rw [py, Option.map_eq_some_iff] at e
    obtain ⟨zs, e2, rfl⟩ := e
    rw [e1]
    exact .lst (lst_sq q) (Reps.dp ds vs f zs r e2)
theorem Reps.dp {K : PySem.W.Frag} {cn : Nm} : ∀ (ds : List D) (vs : List V) (fp : Fp) (z : List PyData), Reps K cn F H ds vs fp → pys ds = some z → DpAll K H vs z
  | [], vs, fp, z, h, e => by cases e; rw [h.1]; exact .nil
  | d :: ds, vs, fp, z, ⟨v, r, f, g, e1, s, h1, h2⟩, e => by
    rw [pys] at e
    split at e
    · rename_i p ps e2 e3
      cases e
      rw [e1]
      exact .cons (Rep.dp d v f p h1 e2) (Reps.dp ds r g ps h2 e3)
    · cases e
end
/-- == of two data -/
def eqD : D → D → Option Bool
  | .str a, .str b => some (decide (a = b))
  | .int a, .int b => some (decide (a = b))
  | .bl a, .bl b => some (decide (a = b))
  | x, y => match py x, py y with
    | some p, some q => if SeqAt.shaped p && SeqAt.shaped q then some (PyData.eqv p q) else none
    | _, _ => none
theorem eqD_ok {K : PySem.W.Frag} {cn : Nm} {F1 F2 : Addr → Prop} {x y : D} {v w : V} {f1 f2 : Fp} {b : Bool} (e : eqD x y = some b) (hx : Rep K cn F1 H x v f1) (hy : Rep K cn F2 H y w f2) (neg : Bool) (Q : VK) (q : Q (.bl (if neg then !b else b)) H) :
    if neg then rNe v w H Q ∨ rNeD K v w H Q else rEq v w H Q ∨ rEqD K v w H Q := by
  unfold eqD at e
  split at e
  · cases e
    obtain rfl := hx.1
    obtain rfl := hy.1
    have q' := q
    cases neg with
    | true => exact .inl ⟨rfl, by simpa using q⟩
    | false => exact .inl ⟨rfl, by simpa using q⟩
  · cases e
    obtain rfl := hx.1
    obtain rfl := hy.1
    cases neg with
    | true => exact .inl ⟨rfl, by simpa using q⟩
    | false => exact .inl ⟨rfl, by simpa using q⟩
  · cases e
    obtain rfl := hx.1
    obtain rfl := hy.1
    cases neg with
    | true => exact .inl ⟨rfl, by simpa using q⟩
    | false => exact .inl ⟨rfl, by simpa using q⟩
  · split at e
    · rename_i p q' e1 e2
      split at e
      · rename_i c
        cases e
        cases neg with
        | true => exact .inr ⟨p, q', Rep.dp _ _ _ _ hx e1, Rep.dp _ _ _ _ hy e2, and_l c, and_r c, q⟩
        | false => exact .inr ⟨p, q', Rep.dp _ _ _ _ hx e1, Rep.dp _ _ _ _ hy e2, and_l c, and_r c, q⟩
      · cases e
    · cases e
end
section
variable {X : Cx} {Γ : Ctx} {e a b : Expr} {f g p : PF} {pos : Pos}
/-! ### not, and, or -/
def qNot (p : QF) : QF := fun ρ => (p ρ).map (!·)
def qAnd (p q : QF) : QF := fun ρ => match p ρ with | some true => q ρ | some false => some false | none => none
def qOr (p q : QF) : QF := fun ρ => match p ρ with | some true => some true | some false => q ρ | none => none
theorem q_not {q : QF} (h : PT X a (tQ Γ q)) : PT X (.UnaryOp .Not a pos) (tQ Γ (qNot q)) :=
  PT.wk (pt_not h) fun σ H Q ⟨hold, ρ, s, b, e, k⟩ => by
    unfold qNot at e
    rw [Option.map_eq_some_iff] at e
    obtain ⟨c, e1, rfl⟩ := e
    exact ⟨hold, ρ, s, c, e1, k⟩
theorem w_and1 {q : QF} (h : PT X a (tQ Γ q)) : PW X (.BoolOp .And [a] pos) (tQ Γ q) := pw_and1 h
theorem w_or1 {q : QF} (h : PT X a (tQ Γ q)) : PW X (.BoolOp .Or [a] pos) (tQ Γ q) := pw_or1 h
theorem w_and {q q' : QF} {rest : List Expr} (h : PT X a (tQ Γ q)) (h' : PW X (.BoolOp .And (b :: rest) pos) (tQ Γ q')) : PW X (.BoolOp .And (a :: b :: rest) pos) (tQ Γ (qAnd q q')) :=
  PW.wk (pw_and h h') fun σ H Q ⟨hold, ρ, s, c, e, k⟩ => by
    unfold qAnd at e
    split at e
    · rename_i e1
      refine ⟨hold, ρ, s, true, e1, fun H1 x1 s1 => ?_⟩
      refine iT ?_
      exact ⟨hold, ρ, s1, c, e, fun H2 x2 s2 => k H2 (x1.trans x2) s2⟩
    · rename_i e1
      cases e
      refine ⟨hold, ρ, s, false, e1, fun H1 x1 s1 => ?_⟩
      refine iF ?_
      exact k H1 x1 s1
    · cases e
theorem w_or {q q' : QF} {rest : List Expr} (h : PT X a (tQ Γ q)) (h' : PW X (.BoolOp .Or (b :: rest) pos) (tQ Γ q')) : PW X (.BoolOp .Or (a :: b :: rest) pos) (tQ Γ (qOr q q')) :=
  PW.wk (pw_or h h') fun σ H Q ⟨hold, ρ, s, c, e, k⟩ => by
    unfold qOr at e
    split at e
    · rename_i e1
      cases e
      refine ⟨hold, ρ, s, true, e1, fun H1 x1 s1 => ?_⟩
      refine iT ?_
      exact k H1 x1 s1
    · rename_i e1
      refine ⟨hold, ρ, s, false, e1, fun H1 x1 s1 => ?_⟩
      refine iF ?_
      exact ⟨hold, ρ, s1, c, e, fun H2 x2 s2 => k H2 (x1.trans x2) s2⟩
    · cases e
theorem q_w {q : QF} (h : PW X e (tQ Γ q)) : PT X e (tQ Γ q) := h.pt
/-! .. as values: both sides True or False -/
def dAnd (f g : PF) : PF := fun ρ => match f ρ with | some (.bl true) => g ρ | some (.bl false) => some (.bl false) | _ => none
def dOr (f g : PF) : PF := fun ρ => match f ρ with | some (.bl false) => g ρ | some (.bl true) => some (.bl true) | _ => none
def dNot (f : PF) : PF := fun ρ => match f ρ with | some (.bl b) => some (.bl (!b)) | _ => none
theorem d_one {op} (h : PE X a (tP Γ f)) : PE X (.BoolOp op [a] pos) (tP Γ f) := pe_one h
theorem d_and {rest : List Expr} (ha : PE X a (tP Γ f)) (hb : PE X (.BoolOp .And (b :: rest) pos) (tP Γ g)) : PE X (.BoolOp .And (a :: b :: rest) pos) (tP Γ (dAnd f g)) :=
  PE.wk (pe_and ha hb) fun σ H Q ⟨hold, ρ, s, d, e, k⟩ => by
    unfold dAnd at e
    split at e
    · rename_i e1
      refine ⟨hold, ρ, s, _, e1, fun v H1 x1 s1 => ⟨true, s1.topBl, ?_⟩⟩
      refine iT ?_
      exact ⟨hold, ρ, s1.drop, d, e, fun w H2 x2 s2 => k w H2 (x1.trans x2) s2⟩
    · rename_i e1
      cases e
      refine ⟨hold, ρ, s, _, e1, fun v H1 x1 s1 => ⟨false, s1.topBl, ?_⟩⟩
      refine iF ?_
      exact k _ H1 x1 (s1.drop.bl _)
    · cases e
theorem d_or {rest : List Expr} (ha : PE X a (tP Γ f)) (hb : PE X (.BoolOp .Or (b :: rest) pos) (tP Γ g)) : PE X (.BoolOp .Or (a :: b :: rest) pos) (tP Γ (dOr f g)) :=
  PE.wk (pe_or ha hb) fun σ H Q ⟨hold, ρ, s, d, e, k⟩ => by
    unfold dOr at e
    split at e
    · rename_i e1
      refine ⟨hold, ρ, s, _, e1, fun v H1 x1 s1 => ⟨false, s1.topBl, ?_⟩⟩
      refine iF ?_
      exact ⟨hold, ρ, s1.drop, d, e, fun w H2 x2 s2 => k w H2 (x1.trans x2) s2⟩
    · rename_i e1
      cases e
      refine ⟨hold, ρ, s, _, e1, fun v H1 x1 s1 => ⟨true, s1.topBl, ?_⟩⟩
      refine iT ?_
      exact k _ H1 x1 (s1.drop.bl _)
    · cases e
theorem d_not (ha : PE X a (tP Γ f)) : PE X (.UnaryOp .Not a pos) (tP Γ (dNot f)) :=
  PE.wk (pe_not ha) fun σ H Q ⟨hold, ρ, s, d, e, k⟩ => by
    unfold dNot at e
    split at e
    · rename_i b e1
      cases e
      exact ⟨hold, ρ, s, _, e1, fun v H1 x1 s1 => ⟨b, s1.topBl, k _ H1 x1 (s1.drop.bl _)⟩⟩
    · cases e
/-- a if t else b -/
def dIf (q : QF) (f g : PF) : PF := fun ρ => match q ρ with | some true => f ρ | some false => g ρ | none => none
theorem d_if {c : Expr} {q : QF} (hc : PT X c (tQ Γ q)) (ha : PE X a (tP Γ f)) (hb : PE X b (tP Γ g)) : PE X (.IfExp c a b pos) (tP Γ (dIf q f g)) :=
  PE.wk (pe_ifExp hc ha hb) fun σ H Q ⟨hold, ρ, s, d, e, k⟩ => by
    unfold dIf at e
    split at e
    · rename_i e1
      refine ⟨hold, ρ, s, true, e1, fun H1 x1 s1 => ?_⟩
      refine iT ?_
      exact ⟨hold, ρ, s1, d, e, fun w H2 x2 s2 => k w H2 (x1.trans x2) s2⟩
    · rename_i e1
      refine ⟨hold, ρ, s, false, e1, fun H1 x1 s1 => ?_⟩
      refine iF ?_
      exact ⟨hold, ρ, s1, d, e, fun w H2 x2 s2 => k w H2 (x1.trans x2) s2⟩
    · cases e


/-! ### ints -/
def oI (C : Int → Int → Bool) (h : Int → Int → D) : O2 := fun x y => match x, y with
  | .int i, .int j => if C i j = true then some (h i j) else none
  | _, _ => none
theorem oI_some {C : Int → Int → Bool} {h : Int → Int → D} {x y d : D} (e : oI C h x y = some d) : ∃ i j, x = .int i ∧ y = .int j ∧ C i j = true ∧ d = h i j := by
  unfold oI at e
  split at e
  · split at e
    · rename_i i j c; cases e; exact ⟨i, j, rfl, rfl, c, rfl⟩
    · cases e
  · cases e
theorem oI_ok {C : Int → Int → Prop} {C' : Int → Int → Bool} {h : Int → Int → Int} (hC : ∀ i j, C' i j = true → C i j) : Op2 Γ (rI C fun i j => .int (h i j)) (oI C' fun i j => .int (h i j)) := fun hold ρ σ H v w x y d Q e s k => by
  obtain ⟨i, j, rfl, rfl, c, rfl⟩ := oI_some e
  obtain rfl := s.topInt
  obtain rfl := s.drop.topInt
  exact ⟨i, j, rfl, rfl, hC i j c, k _ _ Ext.refl (s.drop.drop.int _)⟩
def cMul (i j : Int) : Bool := (decide (-(2 ^ 64) < i) && decide (i < 2 ^ 64)) || (decide (-(2 ^ 64) < j) && decide (j < 2 ^ 64))
def cDiv (i j : Int) : Bool := decide (j ≠ 0) && decide (j.natAbs < 1073741824)
def cPow (i j : Int) : Bool := decide (0 ≤ j) && decide (j ≤ 1000000) && decide (i.natAbs < 2 ^ 64)
def oSub : O2 := oI (fun _ _ => true) fun i j => .int (i - j)
def oDiv : O2 := oI cDiv fun i j => .int (i.fdiv j)
def oMod : O2 := oI (fun _ j => decide (j ≠ 0)) fun i j => .int (i.fmod j)
def oPow : O2 := oI cPow fun i j => .int (i ^ j.toNat)
def oShl : O2 := oI cPow fun i j => .int (i * 2 ^ j.toNat)
theorem OpR.triv {fn : Value → Value → Sem Value} {g : Int → Int → V} (h : OpR X fn (rI0 g)) : OpR X fn (rI (fun _ _ => True) g) := fun pins s σ H x y v u Q I r1 r2 ⟨i, j, e1, e2, _, q⟩ => h pins s σ H x y v u Q I r1 r2 ⟨i, j, e1, e2, q⟩
theorem oSub_ok : Op2 Γ (rI (fun _ _ => True) fun i j => .int (i - j)) oSub := oI_ok fun _ _ _ => trivial
theorem oDiv_ok : Op2 Γ (rI CDivN fun i j => .int (i.fdiv j)) oDiv := oI_ok fun i j h => by simp only [cDiv, Bool.and_eq_true, decide_eq_true_eq] at h; exact h
theorem oMod_ok : Op2 Γ (rI (fun _ j => j ≠ 0) fun i j => .int (i.fmod j)) oMod := oI_ok fun i j h => of_decide_eq_true h
theorem oPow_ok : Op2 Γ (rI CPow fun i j => .int (i ^ j.toNat)) oPow := oI_ok fun i j h => by simp only [cPow, Bool.and_eq_true, decide_eq_true_eq] at h; exact ⟨h.1.1, h.1.2, h.2⟩
theorem oShl_ok : Op2 Γ (rI CPow fun i j => .int (i * 2 ^ j.toNat)) oShl := oI_ok fun i j h => by simp only [cPow, Bool.and_eq_true, decide_eq_true_eq] at h; exact ⟨h.1.1, h.1.2, h.2⟩
theorem opr_sub : OpR X (binaryOp .Sub) (rI (fun _ _ => True) fun i j => .int (i - j)) := OpR.triv op_sub
/-- < <= > >= -/
def oCm (h : Int → Int → Bool) : O2 := oI (fun _ _ => true) fun i j => .bl (h i j)
theorem oCm_ok {h : Int → Int → Bool} : Op2 Γ (rI0 fun i j => .bl (h i j)) (oCm h) := fun hold ρ σ H v w x y d Q e s k => by
  obtain ⟨i, j, rfl, rfl, c, rfl⟩ := oI_some e
  obtain rfl := s.topInt
  obtain rfl := s.drop.topInt
  exact ⟨i, j, rfl, rfl, k _ _ Ext.refl (s.drop.drop.bl _)⟩
def oLt : O2 := oCm fun i j => decide (i < j)
def oLe : O2 := oCm fun i j => decide (i ≤ j)
def oGt : O2 := oCm fun i j => decide (j < i)
def oGe : O2 := oCm fun i j => decide (j ≤ i)
theorem oLt_ok : Op2 Γ (rI0 fun i j => .bl (decide (i < j))) oLt := oCm_ok
theorem oLe_ok : Op2 Γ (rI0 fun i j => .bl (decide (i ≤ j))) oLe := oCm_ok
theorem oGt_ok : Op2 Γ (rI0 fun i j => .bl (decide (j < i))) oGt := oCm_ok
theorem oGe_ok : Op2 Γ (rI0 fun i j => .bl (decide (j ≤ i))) oGe := oCm_ok

/-! ### ==, != -/
def oEq (x y : D) : Option D := (eqD x y).map .bl
def oNe (x y : D) : Option D := (eqD x y).map fun b => .bl (!b)
theorem opr_eq (hu : X.A.units + 64 < cLine) : OpR X (compareOp .Eq) (fun x y H Q => rEq x y H Q ∨ rEqD X.K x y H Q) := OpR.or op_eq (op_eqD hu)
theorem opr_ne (hu : X.A.units + 64 < cLine) : OpR X (compareOp .NotEq) (fun x y H Q => rNe x y H Q ∨ rNeD X.K x y H Q) := OpR.or op_ne (op_neD hu)
theorem oEq_ok : Op2 Γ (fun x y H Q => rEq x y H Q ∨ rEqD Γ.K x y H Q) oEq := fun hold ρ σ H v w x y d Q e s k => by
  unfold oEq at e
  rw [Option.map_eq_some_iff] at e
  obtain ⟨b, e, rfl⟩ := e
  obtain ⟨F, fp, gp, h1, h2, _⟩ := s.open2
  exact eqD_ok e h1 h2 false Q (k _ _ Ext.refl (s.drop.drop.bl _))
theorem oNe_ok : Op2 Γ (fun x y H Q => rNe x y H Q ∨ rNeD Γ.K x y H Q) oNe := fun hold ρ σ H v w x y d Q e s k => by
  unfold oNe at e
  rw [Option.map_eq_some_iff] at e
  obtain ⟨b, e, rfl⟩ := e
  obtain ⟨F, fp, gp, h1, h2, _⟩ := s.open2
  exact eqD_ok e h1 h2 true Q (k _ _ Ext.refl (s.drop.drop.bl _))

/-- is, is not: of None, True, False -/
def isD : D → D → Option Bool
  | .non, .non => some true
  | .bl a, .bl b => some (a == b)
  | _, .non => some false
  | _, _ => none
theorem rep_non {K : PySem.W.Frag} {cn : Nm} {F : Addr → Prop} {H : Hp} {x : D} {v : V} {fp : Fp} (h : Rep K cn F H x v fp) (hx : isD x .non = some false) : v ≠ .non := by
  cases x with
  | non => cases hx
  | bl b => rw [h.1]; exact fun z => nomatch z
  | int b => rw [h.1]; exact fun z => nomatch z
  | str b => rw [h.1]; exact fun z => nomatch z
  | cls n => obtain ⟨⟨a, e, _⟩, _⟩ := h; rw [e]; exact fun z => nomatch z
  | exc n fs => obtain ⟨a, _, _, e, _⟩ := h; rw [e]; exact fun z => nomatch z
  | tup ds => obtain ⟨a, _, e, _⟩ := h; rw [e]; exact fun z => nomatch z
  | lst m ds => obtain ⟨a, _, _, e, _⟩ := h; rw [e]; exact fun z => nomatch z
  | dic m kd ds => obtain ⟨a, _, e, _⟩ := h; rw [e]; exact fun z => nomatch z
  | ins m C ds => obtain ⟨a, _, _, _, _, e, _⟩ := h; rw [e]; exact fun z => nomatch z
theorem op_isB (neg : Bool) : OpR X (compareOp (if neg then .IsNot else .Is)) (fun x y H Q => ∃ a b, x = .bl a ∧ y = .bl b ∧ Q (.bl (if neg then !(a == b) else a == b)) H) := by
  intro pins s σ H x y v u Q I rx ry h
  obtain ⟨a, b, rfl, rfl, q⟩ := h
  cases rx; cases ry
  cases neg with
  | false => exact PyProof.Rows.is_bool ⟨.bl _, H, I, rfl, q⟩
  | true =>
    show wpAny _ _ (isSame (.bool a) (.bool b) >>= fun r => pure (Value.bool !r)) _ _ s
    have e : isSame (.bool a) (.bool b) = pure (a == b) := by cases a <;> cases b <;> rfl
    rw [e]
    exact wpAny_bind (wpAny_pure (wpAny_pure ⟨.bl _, H, I, rfl, q⟩))

def rIs (neg : Bool) : R2 := fun x y H Q => (y = .non ∧ Q (.bl (if neg then !decide (x = .non) else decide (x = .non))) H) ∨ ∃ a b, x = .bl a ∧ y = .bl b ∧ Q (.bl (if neg then !(a == b) else a == b)) H
theorem opr_is : OpR X (compareOp .Is) (rIs false) := OpR.or op_isN (op_isB false)
theorem opr_isnot : OpR X (compareOp .IsNot) (rIs true) := OpR.or op_notN (op_isB true)
def oIs (neg : Bool) (x y : D) : Option D := (isD x y).map fun b => .bl (if neg then !b else b)
theorem oIs_ok {neg : Bool} : Op2 Γ (rIs neg) (oIs neg) := fun hold ρ σ H v w x y d Q e s k => by
  unfold oIs at e
  rw [Option.map_eq_some_iff] at e
  obtain ⟨b, e3, rfl⟩ := e
  obtain ⟨F, fp, gp, h1, h2, _⟩ := s.open2
  have q := k _ _ Ext.refl (s.drop.drop.bl _)
  unfold isD at e3
  split at e3
  · cases e3
    obtain rfl := h1.1
    exact .inl ⟨h2.1, q⟩
  · cases e3
    obtain rfl := h1.1
    exact .inr ⟨_, _, rfl, h2.1, q⟩
  · rename_i hx
    cases e3
    refine .inl ⟨h2.1, ?_⟩
    rw [decide_eq_false (rep_non h1 (by unfold isD; split <;> first | rfl | (exfalso; simp_all)))]
    exact q
  · cases e3
end
end DL

end
section
/-! DL6: argument lists, displays, items, slices, sums, in. -/
open PySem PySem.Spec L2
namespace DL
/-! ### argument lists -/
def evL : List PF → Env → Option (List D)
  | [], _ => some []
  | f :: fs, ρ => match f ρ, evL fs ρ with
    | some d, some ds => some (d :: ds)
    | _, _ => none
def evE : List EF → Env → Option (Res (List D))
  | [], ρ => some (.ok [] ρ)
  | f :: fs, ρ => match f ρ with
    | some (.ok d ρ1) => if d.noBrw = true then (match evE fs ρ1 with
        | some (.ok ds ρ2) => some (.ok (d :: ds) ρ2)
        | r => r) else none
    | some (.ex n xs ρ1) => some (.ex n xs ρ1)
    | none => none
def tA (Γ : Ctx) (fs : List PF) : TA := fun σ H Q => ∃ hold ρ, SI Γ hold ρ σ H ∧ ∃ ds, evL fs ρ = some ds ∧ ∀ vs H', Ext H H' → vs.length = ds.length → SI Γ (vs.zip ds ++ hold) ρ σ H' → Q vs H'
def tAE (Γ : Ctx) (W : WX) (fs : List EF) : TA := fun σ H Q => ∃ hold ρ, SI Γ hold ρ σ H ∧ hold.noBrw ∧ match evE fs ρ with
  | none => False
  | some (.ok ds ρ') => ∀ vs H', vs.length = ds.length → SI Γ (vs.zip ds ++ hold) ρ' σ H' → Q vs H'
  | some (.ex n xs ρ') => ∀ c od H', SI Γ hold ρ' σ H' → ExO Γ.cn H' n xs c od → W c od σ H'
section
variable {X : Cx} {Γ : Ctx} {W : WX} {e a b : Expr} {es : List Expr} {f g p : PF} {fs : List PF} {pos : Pos}
theorem a_nil : PA X [] (tA Γ []) := PA.wk pa_nil fun σ H Q ⟨hold, ρ, s, ds, e, k⟩ => by cases e; exact k [] H Ext.refl rfl s
theorem a_cons (ha : PE X e (tP Γ f)) (hr : PA X es (tA Γ fs)) (hs : starEach (e :: es) X.env = (false, eval e X.env) :: starEach es X.env := by rfl) : PA X (e :: es) (tA Γ (f :: fs)) :=
  PA.wk (pa_cons ha hr hs) fun σ H Q ⟨hold, ρ, s, ds, e, k⟩ => by
    rw [evL] at e
    split at e
    · rename_i d ds' e1 e2
      cases e
      refine ⟨hold, ρ, s, d, e1, fun v H1 x1 s1 => ⟨_, ρ, s1, ds', e2, fun vs H2 x2 l s2 => ?_⟩⟩
      exact k (v :: vs) H2 (x1.trans x2) (by rw [List.length_cons, List.length_cons, l]) s2.rot
    · cases e
theorem ae_nil : PA X [] (tAE Γ W []) := PA.wk pa_nil fun σ H Q ⟨hold, ρ, s, nb, k⟩ => k [] H rfl s
theorem ae_cons {f : EF} {fs : List EF} (ha : PE X e (tE Γ W f)) (hr : PA X es (tAE Γ W fs)) (hs : starEach (e :: es) X.env = (false, eval e X.env) :: starEach es X.env := by rfl) : PA X (e :: es) (tAE Γ W (f :: fs)) :=
  PA.wk (pa_cons ha hr hs) fun σ H Q ⟨hold, ρ, s, nb, k⟩ => by
    refine ⟨hold, ρ, s, nb, ?_⟩
    rw [evE] at k
    cases q : f ρ with
    | none => rw [q] at k; exact k.elim
    | some r1 =>
      rw [q] at k
      cases r1 with
      | ex n xs ρ1 => exact k
      | ok d ρ1 =>
        dsimp only at k ⊢
        intro v H1 s1
        by_cases hx : d.noBrw = true
        · rw [if_pos hx] at k
          refine ⟨_, ρ1, s1, noBrw_cons nb hx, ?_⟩
          cases q2 : evE fs ρ1 with
          | none => rw [q2] at k; exact k.elim
          | some r2 =>
            rw [q2] at k
            cases r2 with
            | ex n xs ρ2 => exact fun c od H' s' => k c od H' s'.drop
            | ok ds ρ2 =>
              dsimp only at k ⊢
              exact fun vs H2 l s2 => k (v :: vs) H2 (by rw [List.length_cons, List.length_cons, l]) s2.rot
        · rw [if_neg hx] at k; exact k.elim
/-! ### an operation of some things: r the rule, o the answer -/
abbrev ON := List D → Option D
def OpN (Γ : Ctx) (r : List V → Hp → VK → Prop) (o : ON) : Prop := ∀ (hold : Hold) (ρ : Env) (σ : L2.St) (H : Hp) (vs : List V) (ds : List D) (d : D) (Q : VK), o ds = some d → vs.length = ds.length → SI Γ (vs.zip ds ++ hold) ρ σ H → (∀ u H', Ext H H' → SI Γ ((u, d) :: hold) ρ σ H' → Q u H') → r vs H Q
def pN (o : ON) (fs : List PF) : PF := fun ρ => (evL fs ρ).bind o
def eN (o : ON) (fs : List EF) : EF := fun ρ => match evE fs ρ with
  | some (.ok ds ρ') => (o ds).map (.ok · ρ')
  | some (.ex n xs ρ') => some (.ex n xs ρ')
  | none => none
def tRule (r : List V → Hp → VK → Prop) (t : TA) : TE := fun σ H Q => t σ H fun vs H1 => r vs H1 Q
theorem tP_N {r : List V → Hp → VK → Prop} {o : ON} (ho : OpN Γ r o) (σ : L2.St) (H : Hp) (Q : VK) : tP Γ (pN o fs) σ H Q → tRule r (tA Γ fs) σ H Q := fun ⟨hold, ρ, s, d, e, k⟩ => by
  unfold pN at e
  obtain ⟨ds, e1, e2⟩ := Option.bind_eq_some_iff.mp e
  exact ⟨hold, ρ, s, ds, e1, fun vs H' x l s' => ho hold ρ σ H' vs ds d Q e2 l s' fun u H2 x2 s2 => k u H2 (x.trans x2) s2⟩
theorem tE_N {r : List V → Hp → VK → Prop} {o : ON} {fs : List EF} (ho : OpN Γ r o) (σ : L2.St) (H : Hp) (Q : VK) : tE Γ W (eN o fs) σ H Q → tRule r (tAE Γ W fs) σ H Q := fun ⟨hold, ρ, s, nb, k⟩ => by
  refine ⟨hold, ρ, s, nb, ?_⟩
  unfold eN at k
  cases q : evE fs ρ with
  | none => rw [q] at k; exact k.elim
  | some r1 =>
    rw [q] at k
    cases r1 with
    | ex n xs ρ1 => exact k
    | ok ds ρ1 =>
      dsimp only at k ⊢
      intro vs H' l s'
      cases q2 : o ds with
      | none => rw [q2] at k; exact k.elim
      | some d => rw [q2] at k; exact ho hold ρ1 σ H' vs ds d Q q2 l s' fun u H2 x2 s2 => k u H2 s2
/-! displays -/
def oTup : ON := fun ds => if ds.length ≤ sizeLine then some (.tup ds) else none
def oLst : ON := fun ds => if ds.length ≤ sizeLine then some (.lst .own ds) else none
theorem rep_new {K : PySem.W.Frag} {cn : Nm} {F : Addr → Prop} {H : Hp} {p : Addr} {ds : List D} {vs : List V} {fa : Fp} (e : H p = some (.lst vs)) (r : Reps K cn F H ds vs fa) : Rep K cn F H (.lst .own ds) (.ref p) (fun a => fa a + if a = p then 1 else 0) :=
  ⟨p, vs, fa, rfl, .inl ⟨e, fun _ => rfl⟩, r⟩
theorem oTup_ok : OpN Γ (fun xs H1 Q => xs.length ≤ sizeLine ∧ ∀ p, H1 p = none → Q (.ref p) (upd H1 p (.tup xs))) oTup := fun hold ρ σ H vs ds d Q e l s k => by
  unfold oTup at e
  split at e
  · rename_i z
    cases e
    exact ⟨by rw [l]; exact z, fun p hp => k _ _ (Ext.upd hp) (s.newBlock l hp fun F fa r => ⟨fa, fun a => Nat.le_add_right _ _, p, vs, rfl, upd_same, r⟩)⟩
  · cases e
theorem oLst_ok : OpN Γ (fun xs H1 Q => xs.length ≤ sizeLine ∧ ∀ p, H1 p = none → Q (.ref p) (upd H1 p (.lst xs))) oLst := fun hold ρ σ H vs ds d Q e l s k => by
  unfold oLst at e
  split at e
  · rename_i z
    cases e
    exact ⟨by rw [l]; exact z, fun p hp => k _ _ (Ext.upd hp) (s.newBlock l hp fun F fa r => ⟨_, fun a => Nat.le_refl _, rep_new upd_same r⟩)⟩
  · cases e
theorem d_tup {x1} (h : PA X es (tA Γ fs)) : PE X (.Tuple es x1 pos) (tP Γ (pN oTup fs)) := PE.wk (pe_tup h) (tP_N oTup_ok)
theorem e_tup {x1} {fs : List EF} (h : PA X es (tAE Γ W fs)) : PE X (.Tuple es x1 pos) (tE Γ W (eN oTup fs)) := PE.wk (pe_tup h) (tE_N oTup_ok)
theorem d_lst (h : PA X es (tA Γ fs)) : PE X (.List es pos) (tP Γ (pN oLst fs)) := PE.wk (pe_lst h) (tP_N oLst_ok)
theorem e_lst {fs : List EF} (h : PA X es (tAE Γ W fs)) : PE X (.List es pos) (tE Γ W (eN oLst fs)) := PE.wk (pe_lst h) (tE_N oLst_ok)

/-! ### items -/
def ixD : D → D → Option D
  | .lst _ ds, .int i => atI ds i
  | .tup ds, .int i => atI ds i
  | .str z, .int i => if z.length ≤ sizeLine then (atI z.cps.toList i).map fun c => .str ⟨#[c]⟩ else none
  | _, _ => none
theorem reps_at {K : PySem.W.Frag} {cn : Nm} {F : Addr → Prop} {H : Hp} {ds : List D} {vs : List V} {fp : Fp} {i : Int} {d : D} (r : Reps K cn F H ds vs fp) (e : atI ds i = some d) : ∃ v f, atI vs i = some v ∧ Rep K cn F H d v f ∧ ∀ a, f a ≤ fp a := by
  unfold atI at e ⊢
  rw [← r.len]
  cases q : ixN ds.length i with
  | none => rw [q] at e; cases e
  | some j => rw [q] at e; exact r.get e
theorem lst_le {K : PySem.W.Frag} {F : Addr → Prop} {H : Hp} {m : Mk} {a : Addr} {vs : List V} {fp f : Fp} (q : At F H m a (.lst vs) fp f ∨ (m = .ro ∧ KL K a vs ∧ (∀ b, f b = 0) ∧ ∀ b, fp b = 0)) : ∀ b, f b ≤ fp b := by
  rcases q with q | q
  · exact q.sub
  · intro b; have := q.2.2.1 b; omega

theorem ixD_ok : Op2 Γ (rIx Γ.K) ixD := fun hold ρ σ H v w x y d Q e s k => by
  obtain ⟨F, fp, gp, h1, h2, k1, _⟩ := s.open2
  unfold ixD at e
  split at e
  · obtain ⟨p, vs, f', ev, q, r⟩ := h1
    obtain ⟨u, f'', eu, hr, le⟩ := reps_at r e
    exact .inl ⟨p, vs, _, u, ev, h2.1, lst_sq q, eu, k u H Ext.refl (k1 _ _ f'' (fun a => by have := le a; have := lst_le q a; omega) hr)⟩
  · obtain ⟨p, vs, ev, q, r⟩ := h1
    obtain ⟨u, f'', eu, hr, le⟩ := reps_at r e
    exact .inr (.inl ⟨p, vs, _, u, ev, h2.1, SqT.of q, eu, k u H Ext.refl (k1 _ _ f'' (fun a => by have := le a; omega) hr)⟩)
  · split at e
    · rename_i z
      rw [Option.map_eq_some_iff] at e
      obtain ⟨c, ec, rfl⟩ := e
      exact .inr (.inr ⟨_, _, c, h1.1, h2.1, z, ec, k _ H Ext.refl (s.drop.drop.str _)⟩)
    · cases e
  · cases e
theorem d_ix (hK : X.K = Γ.K) (ha : PE X a (tP Γ f)) (hb : PE X b (tP Γ g)) (hs : PlainIx b) : PE X (.Subscript a b pos) (tP Γ (pB ixD f g)) := p_op (pe_ix ix_seq ha hb hs) (by rw [hK]; exact ixD_ok)
theorem e_ix {f g : EF} (hK : X.K = Γ.K) (ha : PE X a (tE Γ W f)) (hb : PE X b (tE Γ W g)) (hs : PlainIx b) : PE X (.Subscript a b pos) (tE Γ W (eB ixD f g)) := e_op (pe_ix ix_seq ha hb hs) (by rw [hK]; exact ixD_ok)

/-! ### slices -/
def cutL {α : Type} (xs : List α) (lo hi : Option Int) : List α := (xs.drop (HT.sIx xs.length 0 lo)).take (HT.sIx xs.length xs.length hi - HT.sIx xs.length 0 lo)
theorem cutL_V (xs : List V) (lo hi : Option Int) : cutV xs lo hi = cutL xs lo hi := rfl
theorem Reps.drop {K : PySem.W.Frag} {cn : Nm} {F : Addr → Prop} {H : Hp} : ∀ (n : Nat) {ds : List D} {vs : List V} {fp : Fp}, Reps K cn F H ds vs fp → ∃ f, (∀ a, f a ≤ fp a) ∧ Reps K cn F H (ds.drop n) (vs.drop n) f
  | 0, ds, vs, fp, h => ⟨fp, fun _ => Nat.le_refl _, h⟩
  | n + 1, [], vs, fp, h => ⟨fp, fun _ => Nat.le_refl _, by rw [h.1]; exact ⟨rfl, h.2⟩⟩
  | n + 1, d :: ds, vs, fp, ⟨v, r, f, g, e, s, h1, h2⟩ => by
    subst e
    obtain ⟨k, le, h⟩ := Reps.drop n h2
    exact ⟨k, fun a => by have := le a; have := s a; omega, h⟩
theorem Reps.take {K : PySem.W.Frag} {cn : Nm} {F : Addr → Prop} {H : Hp} : ∀ (n : Nat) {ds : List D} {vs : List V} {fp : Fp}, Reps K cn F H ds vs fp → ∃ f, (∀ a, f a ≤ fp a) ∧ Reps K cn F H (ds.take n) (vs.take n) f
  | 0, ds, vs, fp, h => ⟨fp0, fun _ => Nat.zero_le _, by rw [List.take_zero, List.take_zero]; exact ⟨rfl, fun _ => rfl⟩⟩
  | n + 1, [], vs, fp, h => ⟨fp, fun _ => Nat.le_refl _, by rw [h.1]; exact ⟨rfl, h.2⟩⟩
  | n + 1, d :: ds, vs, fp, ⟨v, r, f, g, e, s, h1, h2⟩ => by
    subst e
    obtain ⟨k, le, h⟩ := Reps.take n h2
    exact ⟨fun a => f a + k a, fun a => by have := le a; have := s a; show f a + k a ≤ _; omega, v, r.take n, f, k, rfl, fun _ => rfl, h1, h⟩
theorem Reps.cut {K : PySem.W.Frag} {cn : Nm} {F : Addr → Prop} {H : Hp} {ds : List D} {vs : List V} {fp : Fp} (h : Reps K cn F H ds vs fp) (lo hi : Option Int) : ∃ f, (∀ a, f a ≤ fp a) ∧ Reps K cn F H (cutL ds lo hi) (cutL vs lo hi) f := by
  unfold cutL
  rw [← h.len]
  obtain ⟨f, le, h1⟩ := h.drop (HT.sIx ds.length 0 lo)
  obtain ⟨g, le', h2⟩ := h1.take (HT.sIx ds.length ds.length hi - HT.sIx ds.length 0 lo)
  exact ⟨g, fun a => Nat.le_trans (le' a) (le a), h2⟩

/-- a part of a slice: an int or nothing -/
abbrev OF := Env → Option (Option Int)
def tO (Γ : Ctx) (p : OF) : TO := fun σ H Q => ∃ hold ρ, SI Γ hold ρ σ H ∧ ∃ i, p ρ = some i ∧ ∀ H', Ext H H' → SI Γ hold ρ σ H' → Q i H'
def oN : OF := fun _ => some none
def oS (f : PF) : OF := fun ρ => match f ρ with | some (.int i) => some (some i) | _ => none
theorem PO.wk {e : Option Expr} {t t' : TO} (h : PO X e t) (i : ∀ σ H Q, t' σ H Q → t σ H Q) : PO X e t' := ⟨fun pins s σ H Q I q => h.run pins s σ H Q I (i σ H Q q)⟩
theorem o_none : PO X none (tO Γ oN) := PO.wk po_none fun σ H Q ⟨hold, ρ, s, i, e, k⟩ => by cases e; exact k H Ext.refl s
theorem o_some (h : PE X e (tP Γ f)) : PO X (some e) (tO Γ (oS f)) := PO.wk (po_some h) fun σ H Q ⟨hold, ρ, s, i, e, k⟩ => by
  unfold oS at e
  split at e
  · rename_i j e1
    cases e
    exact ⟨hold, ρ, s, _, e1, fun v H1 x1 s1 => ⟨j, s1.topInt, k H1 x1 s1.drop⟩⟩
  · cases e
def cutD (x : D) (lo hi : Option Int) : Option D := match x with
  | .lst _ ds => some (.lst .own (cutL ds lo hi))
  | .str z => if z.length ≤ sizeLine then some (.str (cutS z lo hi)) else none
  | .tup ds => if HT.sIx ds.length 0 lo = 0 ∧ HT.sIx ds.length ds.length hi = ds.length then none else some (.tup (cutL ds lo hi))
  | _ => none
def dSl (f : PF) (l h : OF) : PF := fun ρ => match f ρ, l ρ, h ρ with
  | some x, some lo, some hi => cutD x lo hi
  | _, _, _ => none
theorem d_sl {lo hi : Option Expr} {l h : OF} {p2 : Pos} (hK : X.K = Γ.K) (ha : PE X a (tP Γ f)) (hl : PO X lo (tO Γ l)) (hh : PO X hi (tO Γ h)) : PE X (.Subscript a (.Slice lo hi none p2) pos) (tP Γ (dSl f l h)) :=
  PE.wk (pe_slice (SlR.or sl_list (SlR.or sl_str sl_tup)) ha hl hh) fun σ H Q ⟨hold, ρ, s, d, e, k⟩ => by
    unfold dSl at e
    split at e
    · rename_i x i j e1 e2 e3
      refine ⟨hold, ρ, s, x, e1, fun v H1 x1 s1 => ⟨_, ρ, s1, i, e2, fun H2 x2 s2 => ⟨_, ρ, s2, j, e3, fun H3 x3 s3 => ?_⟩⟩⟩
      have x13 := (x1.trans x2).trans x3
      obtain ⟨F, fp, h1, k1, k2⟩ := s3.open1
      rw [hK]
      unfold cutD at e
      split at e
      · cases e
        obtain ⟨p, vs, f', ev, q, r⟩ := h1
        obtain ⟨g, le, hc⟩ := r.cut i j
        refine .inl ⟨p, vs, ev, lst_sq q, fun t ht => k _ _ (x13.trans (Ext.upd ht)) (k2 t _ _ _ (fun a => g a + if a = t then 1 else 0) ht (fun a => by have := le a; have := lst_le q a; show g a + _ ≤ fp a + _; omega) (rep_new upd_same ?_))⟩
        rw [cutL_V]
        exact Reps.go (Ext.upd ht).keep _ _ _ (fun _ => trivial) (fun a o _ => Ext.upd ht a o) hc
      · split at e
        · rename_i z
          cases e
          exact .inr (.inl ⟨_, h1.1, z, k _ _ x13 (s3.drop.str _)⟩)
        · cases e
      · obtain ⟨p, vs, ev, q, r⟩ := h1
        split at e
        · cases e
        · rename_i ds hz
          cases e
          obtain ⟨g, le, hc⟩ := r.cut i j
          refine .inr (.inr ⟨p, vs, ev, SqT.of q, by rw [← r.len]; exact hz, fun t ht => k _ _ (x13.trans (Ext.upd ht)) (k2 t _ _ _ g ht (fun a => by have := le a; omega) ⟨t, _, rfl, upd_same, ?_⟩)⟩)
          rw [cutL_V]
          exact Reps.go (Ext.upd ht).keep _ _ _ (fun _ => trivial) (fun a o _ => Ext.upd ht a o) hc
      · cases e
    · cases e

/-! ### sums -/
def oAdd : O2
  | .int i, .int j => some (.int (i + j))
  | .str a, .str b => if a.length + b.length ≤ sizeLine then some (.str (a ++ b)) else none
  | .lst m ds, .lst n es => if m ≠ .ro ∧ n ≠ .ro ∧ ds.length + es.length ≤ sizeLine then some (.lst .own (ds ++ es)) else none
  | .tup ds, .tup es => if ds ≠ [] ∧ es ≠ [] ∧ ds.length + es.length ≤ sizeLine then some (.tup (ds ++ es)) else none
  | _, _ => none
def rAdd (K : PySem.W.Frag) : R2 := fun x y H Q => (∃ i j, x = .int i ∧ y = .int j ∧ Q (.int (i + j)) H) ∨ (∃ i j, x = .str i ∧ y = .str j ∧ i.length + j.length ≤ sizeLine ∧ Q (.str (i ++ j)) H) ∨ rCat x y H Q ∨ rCatT K x y H Q
theorem opr_add : OpR X (binaryOp .Add) (rAdd X.K) := OpR.or op_add (OpR.or op_add_str (OpR.or op_cat op_catT))
theorem lst_at {K : PySem.W.Frag} {F : Addr → Prop} {H : Hp} {m : Mk} {a : Addr} {vs : List V} {fp f : Fp} (q : At F H m a (.lst vs) fp f ∨ (m = .ro ∧ KL K a vs ∧ (∀ b, f b = 0) ∧ ∀ b, fp b = 0)) (hm : m ≠ .ro) : H a = some (.lst vs) := by
  rcases q with q | q
  · cases m with
    | own => exact q.1
    | frz => exact q.2.1
    | brw => exact q.1
    | ro => exact (hm rfl).elim
  · exact (hm q.1).elim
theorem oAdd_ok : Op2 Γ (rAdd Γ.K) oAdd := fun hold ρ σ H v w x y d Q e s k => by
  obtain ⟨F, fp, gp, h1, h2, k1, k2⟩ := s.open2
  unfold oAdd at e
  split at e
  · cases e
    exact .inl ⟨_, _, h1.1, h2.1, k _ H Ext.refl (s.drop.drop.int _)⟩
  · split at e
    · rename_i z
      cases e
      exact .inr (.inl ⟨_, _, h1.1, h2.1, z, k _ H Ext.refl (s.drop.drop.str _)⟩)
    · cases e
  · split at e
    · rename_i z
      cases e
      obtain ⟨p, vs, f', ev, q, r⟩ := h1
      obtain ⟨p2, vs2, f2, ev2, q2, r2⟩ := h2
      have hA := lst_at q z.1
      have hB := lst_at q2 z.2.1
      refine .inr (.inr (.inl ⟨p, p2, vs, vs2, ev, ev2, hA, hB, by rw [← r.len, ← r2.len]; exact z.2.2, fun t ht => k _ _ (Ext.upd ht) (k2 t _ _ _ (fun a => (f' a + f2 a) + if a = t then 1 else 0) ht (fun a => by have := lst_le q a; have := lst_le q2 a; show f' a + f2 a + _ ≤ _; omega) (rep_new upd_same ?_))⟩))
      exact Reps.go (Ext.upd ht).keep _ _ _ (fun _ => trivial) (fun a o _ => Ext.upd ht a o) (Reps.app r r2 fun _ => rfl)
    · cases e
  · split at e
    · rename_i z
      cases e
      obtain ⟨p, vs, ev, q, r⟩ := h1
      obtain ⟨p2, vs2, ev2, q2, r2⟩ := h2
      refine .inr (.inr (.inr ⟨p, p2, vs, vs2, ev, ev2, SqT.of q, SqT.of q2, ?_, by rw [← r.len, ← r2.len]; exact z.2.2, fun hn => ?_, fun hn t ht => ?_⟩))
      · intro e0; exact z.1 (List.eq_nil_of_length_eq_zero (by rw [r.len, e0]; rfl))
      · exact (z.2.1 (List.eq_nil_of_length_eq_zero (by rw [r2.len, hn]; rfl))).elim
      · refine k _ _ (Ext.upd ht) (k2 t _ _ _ (fun a => fp a + gp a) ht (fun a => Nat.le_add_right _ _) ⟨t, _, rfl, upd_same, ?_⟩)
        exact Reps.go (Ext.upd ht).keep _ _ _ (fun _ => trivial) (fun a o _ => Ext.upd ht a o) (Reps.app r r2 fun _ => rfl)
    · cases e
  · cases e
/-! ### in, not in -/
def flatD : D → Bool
  | .non => true | .bl _ => true | .int _ => true | .str _ => true | _ => false
def eqF : D → D → Bool
  | .non, .non => true
  | .bl a, .bl b => a == b
  | .bl a, .int b => (if a then 1 else 0) == b
  | .int a, .bl b => a == (if b then 1 else 0)
  | .int a, .int b => a == b
  | .str a, .str b => a == b
  | _, _ => false
def inD (x y : D) : Option Bool := match x, y with
  | .str c, .str z => if c.length = 1 then some (decide (c.cps.getD 0 0 ∈ z.cps.toList)) else none
  | x, .lst _ ds => if flatD x && ds.all flatD then some (ds.any fun y => eqF y x) else
      match py x, pys ds with
      | some p, some ps => if SeqAt.shaped p && SeqAt.shaped (.list ps) then some (ps.any fun z => PyData.eqv z p) else none
      | _, _ => none
  | x, .tup ds => if flatD x && ds.all flatD then some (ds.any fun y => eqF y x) else none
  | _, _ => none
def rInA (K : PySem.W.Frag) (neg : Bool) : R2 := fun x y H Q => (∃ (c : Nat) (z : Str), x = .str ⟨#[c]⟩ ∧ y = .str z ∧ Q (.bl (if neg then !decide (c ∈ z.cps.toList) else decide (c ∈ z.cps.toList))) H) ∨ rIn K neg x y H Q ∨
  ∃ d ds, Dp K H x d ∧ Dp K H y (.list ds) ∧ SeqAt.shaped d = true ∧ SeqAt.shaped (.list ds) = true ∧ Q (.bl (if neg then !ds.any fun z => PyData.eqv z d else ds.any fun z => PyData.eqv z d)) H
theorem opr_in (hu : X.A.units + 65 < cLine) : OpR X (compareOp .In) (rInA X.K false) := OpR.or op_in_sign (OpR.or op_in_seq (op_inD hu))
theorem opr_notin (hu : X.A.units + 65 < cLine) : OpR X (compareOp .NotIn) (rInA X.K true) := OpR.or op_notIn_sign (OpR.or op_notIn_seq (op_notInD hu))
def oIn (neg : Bool) (x y : D) : Option D := (inD x y).map fun b => .bl (if neg then !b else b)
theorem rep_flat {K : PySem.W.Frag} {cn : Nm} {F : Addr → Prop} {H : Hp} {x : D} {v : V} {fp : Fp} (h : Rep K cn F H x v fp) (hx : flatD x = true) : flatV v = true ∧ ∀ {y : D} {w : V} {gp : Fp}, Rep K cn F H y w gp → flatD y = true → eqV w v = eqF y x := by
  cases x <;> first | (cases hx; done) | (obtain rfl := h.1; refine ⟨rfl, fun {y w gp} h2 hy => ?_⟩; cases y <;> first | (cases hy; done) | (obtain rfl := h2.1; rfl))
theorem reps_flat {K : PySem.W.Frag} {cn : Nm} {F : Addr → Prop} {H : Hp} {x : D} {v : V} {fp : Fp} (h : Rep K cn F H x v fp) (hx : flatD x = true) : ∀ {ds : List D} {vs : List V} {f : Fp}, Reps K cn F H ds vs f → ds.all flatD = true → vs.all flatV = true ∧ inV v vs = ds.any fun y => eqF y x
  | [], vs, f, r, _ => by rw [r.1]; exact ⟨rfl, rfl⟩
  | d :: ds, vs, f, ⟨v', r, f1, g, e, s, h1, h2⟩, ha => by
    rw [List.all_cons, Bool.and_eq_true] at ha
    obtain ⟨a, b⟩ := reps_flat h hx h2 ha.2
    subst e
    refine ⟨by rw [List.all_cons, a, (rep_flat h1 ha.1).1]; rfl, ?_⟩
    show (eqV v' v || inV v r) = _
    rw [List.any_cons, b, (rep_flat h hx).2 h1 ha.1]
theorem oIn_ok {neg : Bool} : Op2 Γ (rInA Γ.K neg) (oIn neg) := fun hold ρ σ H v w x y d Q e s k => by
  unfold oIn at e
  rw [Option.map_eq_some_iff] at e
  obtain ⟨b, e, rfl⟩ := e
  obtain ⟨F, fp, gp, h1, h2, k1, k2⟩ := s.open2
  have q := k _ _ Ext.refl (s.drop.drop.bl _)
  unfold inD at e
  split at e
  · split at e
    · rename_i c z hc
      cases e
      refine .inl ⟨c.cps.getD 0 0, z, ?_, h2.1, q⟩
      rw [h1.1]
      obtain ⟨a⟩ := c
      have hc' : a.size = 1 := hc
      congr 2
      apply Array.ext
      · rw [hc']; rfl
      · intro i hi1 hi2
        have : i = 0 := by omega
        subst this
        show a[0] = a.getD 0 0
        rw [Array.getD, dif_pos hi1]
        rfl
    · cases e
  · split at e
    · rename_i hc
      cases e
      obtain ⟨p, vs, f', ev, z, r⟩ := h2
      obtain ⟨a1, a2⟩ := reps_flat h1 (and_l hc) r (and_r hc)
      exact .inr (.inl ⟨p, vs, ev, .inl (lst_sq z), (rep_flat h1 (and_l hc)).1, a1, by rw [a2]; exact q⟩)
    · split at e
      · rename_i e1 e2
        split at e
        · rename_i hc
          cases e
          refine .inr (.inr ⟨_, _, Rep.dp _ _ _ _ h1 e1, Rep.dp _ _ _ _ h2 ?_, and_l hc, and_r hc, q⟩)
          rw [py, e2]; rfl
        · cases e
      · cases e
  · split at e
    · rename_i hc
      cases e
      obtain ⟨p, vs, ev, z, r⟩ := h2
      obtain ⟨a1, a2⟩ := reps_flat h1 (and_l hc) r (and_r hc)
      exact .inr (.inl ⟨p, vs, ev, .inr (SqT.of z), (rep_flat h1 (and_l hc)).1, a1, by rw [a2]; exact q⟩)
    · cases e
  · cases e
end
end DL

end
section
/-! DL7: built-in calls. -/
open PySem PySem.Spec L2
namespace DL
section
variable {X : Cx} {Γ : Ctx} {W : WX} {e a b : Expr} {es : List Expr} {f g p : PF} {fs : List PF} {pos : Pos} {x : Str} {id : String} {px : Pos}
/-- a built-in function, a built-in class -/
theorem d_fn {r : List V → Hp → VK → Prop} {o : ON} (ho : OpN Γ r o) (hc : CallR X (.builtin id) r) (hg : Gl X x) (hm : X.mg x = none) (hv : bootBuiltins x = some (.builtin id)) (ha : PA X (e :: es) (tA Γ fs)) (hn : x ≠ "__name__" := by decide) (hdb : (x == ("__debug__" : Str)) = false := by decide)
    (he : starEach (e :: es) X.env = (false, eval e X.env) :: starEach es X.env := by rfl) (hpl : (backTo pos (starEach es X.env)).any (·.1) = false := by rfl) : PE X (.Call (.Name x px) (e :: es) [] pos) (tP Γ (pN o fs)) := PE.wk (pe_callB hc hg hm hv ha hn hdb he hpl) (tP_N ho)
theorem e_fn {r : List V → Hp → VK → Prop} {o : ON} {fs : List EF} (ho : OpN Γ r o) (hc : CallR X (.builtin id) r) (hg : Gl X x) (hm : X.mg x = none) (hv : bootBuiltins x = some (.builtin id)) (ha : PA X (e :: es) (tAE Γ W fs)) (hn : x ≠ "__name__" := by decide) (hdb : (x == ("__debug__" : Str)) = false := by decide)
    (he : starEach (e :: es) X.env = (false, eval e X.env) :: starEach es X.env := by rfl) (hpl : (backTo pos (starEach es X.env)).any (·.1) = false := by rfl) : PE X (.Call (.Name x px) (e :: es) [] pos) (tE Γ W (eN o fs)) := PE.wk (pe_callB hc hg hm hv ha hn hdb he hpl) (tE_N ho)
theorem d_ty {r : List V → Hp → VK → Prop} {o : ON} (ho : OpN Γ r o) (hc : CallR X (.type id) r) (hg : Gl X x) (hm : X.mg x = none) (hv : bootBuiltins x = some (.type id)) (ha : PA X (e :: es) (tA Γ fs)) (hn : x ≠ "__name__" := by decide) (hdb : (x == ("__debug__" : Str)) = false := by decide)
    (he : starEach (e :: es) X.env = (false, eval e X.env) :: starEach es X.env := by rfl) (hpl : (backTo pos (starEach es X.env)).any (·.1) = false := by rfl) : PE X (.Call (.Name x px) (e :: es) [] pos) (tP Γ (pN o fs)) := PE.wk (pe_callTy hc hg hm hv ha hn hdb he hpl) (tP_N ho)
theorem e_ty {r : List V → Hp → VK → Prop} {o : ON} {fs : List EF} (ho : OpN Γ r o) (hc : CallR X (.type id) r) (hg : Gl X x) (hm : X.mg x = none) (hv : bootBuiltins x = some (.type id)) (ha : PA X (e :: es) (tAE Γ W fs)) (hn : x ≠ "__name__" := by decide) (hdb : (x == ("__debug__" : Str)) = false := by decide)
    (he : starEach (e :: es) X.env = (false, eval e X.env) :: starEach es X.env := by rfl) (hpl : (backTo pos (starEach es X.env)).any (·.1) = false := by rfl) : PE X (.Call (.Name x px) (e :: es) [] pos) (tE Γ W (eN o fs)) := PE.wk (pe_callTy hc hg hm hv ha hn hdb he hpl) (tE_N ho)
/-- one thing on top of the hold -/
theorem one_of {hold : Hold} {ρ : Env} {σ : L2.St} {H : Hp} {vs : List V} {d : D} (l : vs.length = [d].length) (s : SI Γ (vs.zip [d] ++ hold) ρ σ H) : ∃ v, vs = [v] ∧ SI Γ ((v, d) :: hold) ρ σ H := by
  match vs, l with
  | [v], _ => exact ⟨v, rfl, s⟩
theorem two_of {hold : Hold} {ρ : Env} {σ : L2.St} {H : Hp} {vs : List V} {d e : D} (l : vs.length = [d, e].length) (s : SI Γ (vs.zip [d, e] ++ hold) ρ σ H) : ∃ v w, vs = [v, w] ∧ SI Γ ((v, d) :: (w, e) :: hold) ρ σ H := by
  match vs, l with
  | [v, w], _ => exact ⟨v, w, rfl, s⟩
/-- len -/
def oLen : ON
  | [.lst _ ds] => some (.int ds.length)
  | [.tup ds] => some (.int ds.length)
  | [.str z] => if z.length ≤ sizeLine then some (.int z.length) else none
  | _ => none
def rLenA (K : PySem.W.Frag) : List V → Hp → VK → Prop := fun xs H Q => (∃ x n, xs = [x] ∧ LenV K x H n ∧ Q (.int n) H) ∨ (∃ a kvs, xs = [.ref a] ∧ Rd H a (.dK kvs) ∧ Q (.int kvs.length) H)
theorem call_lenD : CallR X (.builtin "len") (fun xs H Q => ∃ a kvs, xs = [.ref a] ∧ Rd H a (.dK kvs) ∧ Q (.int kvs.length) H) := by
  intro pins s σ H xs us Q I r h
  obtain ⟨a, kvs, rfl, e, q⟩ := h
  obtain ⟨u, rfl, ru⟩ := vals1 r
  cases ru
  exact d_len I e fun t s' I' => ⟨.int _, H, I', ⟨t, rfl⟩, q⟩
theorem call_lenA : CallR X (.builtin "len") (rLenA X.K) := CallR.or call_len call_lenD
theorem oLen_ok : OpN Γ (rLenA Γ.K) oLen := fun hold ρ σ H vs ds d Q e l s k => by
  unfold oLen at e
  split at e
  · cases e
    obtain ⟨v, rfl, s⟩ := one_of l s
    obtain ⟨F, fp, h, _⟩ := s.open1
    obtain ⟨p, ws, f', ev, q, r⟩ := h
    subst ev
    exact .inl ⟨_, _, rfl, .inl ⟨ws, lst_sq q, r.len⟩, k _ H Ext.refl (s.drop.int _)⟩
  · cases e
    obtain ⟨v, rfl, s⟩ := one_of l s
    obtain ⟨F, fp, h, _⟩ := s.open1
    obtain ⟨p, ws, ev, q, r⟩ := h
    subst ev
    exact .inl ⟨_, _, rfl, .inr ⟨ws, SqT.of q, r.len⟩, k _ H Ext.refl (s.drop.int _)⟩
  · split at e
    · rename_i z
      cases e
      obtain ⟨v, rfl, s⟩ := one_of l s
      obtain rfl := s.topStr
      exact .inl ⟨_, _, rfl, ⟨z, rfl⟩, k _ H Ext.refl (s.drop.int _)⟩
    · cases e
  · cases e
/-- int of an int, a truth -/
def oInt : ON
  | [.int i] => some (.int i)
  | [.bl b] => some (.int (if b then 1 else 0))
  | _ => none
theorem oInt_ok : OpN Γ (fun xs H Q => (∃ i, xs = [.int i] ∧ Q (.int i) H) ∨ ∃ k, xs = [.bl k] ∧ Q (.int (if k then 1 else 0)) H) oInt := fun hold ρ σ H vs ds d Q e l s k => by
  unfold oInt at e
  split at e
  · cases e
    obtain ⟨v, rfl, s⟩ := one_of l s
    obtain rfl := s.topInt
    exact .inl ⟨_, rfl, k _ H Ext.refl (s.drop.int _)⟩
  · cases e
    obtain ⟨v, rfl, s⟩ := one_of l s
    obtain rfl := s.topBl
    exact .inr ⟨_, rfl, k _ H Ext.refl (s.drop.int _)⟩
  · cases e
/-- list of a list, a tuple -/
def oList : ON
  | [.lst _ ds] => some (.lst .own ds)
  | [.tup ds] => some (.lst .own ds)
  | _ => none
theorem oList_ok : OpN Γ (fun xs H Q => ∃ p ys, xs = [.ref p] ∧ (SqL Γ.K H p ys ∨ SqT Γ.K H p ys) ∧ ∀ l, H l = none → Q (.ref l) (upd H l (.lst ys))) oList := fun hold ρ σ H vs ds d Q e l s k => by
  unfold oList at e
  split at e
  · cases e
    obtain ⟨v, rfl, s⟩ := one_of l s
    obtain ⟨F, fp, h, k1, k2⟩ := s.open1
    obtain ⟨p, ws, f', ev, q, r⟩ := h
    subst ev
    refine ⟨p, ws, rfl, .inl (lst_sq q), fun t ht => k _ _ (Ext.upd ht) (k2 t _ _ _ (fun a => f' a + if a = t then 1 else 0) ht (fun a => by have := lst_le q a; show f' a + _ ≤ _; omega) (rep_new upd_same ?_))⟩
    exact Reps.go (Ext.upd ht).keep _ _ _ (fun _ => trivial) (fun a o _ => Ext.upd ht a o) r
  · cases e
    obtain ⟨v, rfl, s⟩ := one_of l s
    obtain ⟨F, fp, h, k1, k2⟩ := s.open1
    obtain ⟨p, ws, ev, q, r⟩ := h
    subst ev
    refine ⟨p, ws, rfl, .inr (SqT.of q), fun t ht => k _ _ (Ext.upd ht) (k2 t _ _ _ (fun a => fp a + if a = t then 1 else 0) ht (fun a => Nat.le_refl _) (rep_new upd_same ?_))⟩
    exact Reps.go (Ext.upd ht).keep _ _ _ (fun _ => trivial) (fun a o _ => Ext.upd ht a o) r
  · cases e
/-- isinstance with a built-in class -/
def tyD : D → Option String
  | .non => some "NoneType" | .bl _ => some "bool" | .int _ => some "int" | .str _ => some "str"
  | .tup _ => some "tuple" | .lst _ _ => some "list" | .dic .own _ _ => some "dict" | .dic .frz _ _ => some "dict" | .dic .brw _ _ => some "dict" | _ => none
/-- a built-in class as an argument: known when the term is written -/
def isiB (T : String) (x : D) : Option Bool := (tyD x).bind fun t => if t = T then some true else if T ∈ ["int", "str", "tuple", "list", "dict", "bool"] then some (decide (t = "bool") && decide (T = "int")) else none
theorem kit_all (K : PySem.W.Frag) : ∀ T ∈ ["int", "str", "tuple", "list", "dict", "bool"], ∀ t ∈ ["NoneType", "bool", "int", "str", "tuple", "list", "dict"], t ≠ T → PySem.W.kitOne K (.type t) (.type T) = some (decide (t = "bool") && decide (T = "int")) := by
  intro T hT t ht hne
  have h : kitB t T = some (decide (t = "bool") && decide (T = "int")) := by
    revert t T
    decide +kernel
  exact kit_ty h
theorem kit_same (K : PySem.W.Frag) (t : String) : PySem.W.kitOne K (.type t) (.type t) = some true := by
  unfold PySem.W.kitOne
  rw [if_pos (by simp)]
theorem tyX_of {K : PySem.W.Frag} {cn : Nm} {F : Addr → Prop} {H : Hp} {x : D} {v : V} {fp : Fp} {t : String} (h : Rep K cn F H x v fp) (ht : tyD x = some t) : TyX K H v (.type t) := by
  cases x with
  | non => cases ht; rw [h.1]; exact .base .non
  | bl b => cases ht; rw [h.1]; exact .base (.bl b)
  | int b => cases ht; rw [h.1]; exact .base (.int b)
  | str b => cases ht; rw [h.1]; exact .base (.str b)
  | cls n => cases ht
  | exc n fs => cases ht
  | ins m C ds => cases ht
  | tup ds =>
    cases ht
    obtain ⟨a, vs, e, q, _⟩ := h
    subst e
    exact .base (.tup q)
  | lst m ds =>
    cases ht
    obtain ⟨a, vs, f', e, q, _⟩ := h
    subst e
    rcases lst_sq q with (q | ⟨o, q⟩) | ⟨o, its, n, q1, q2, _⟩
    · exact .base (.lst q)
    · exact .base (.frz q)
    · exact .kList q1 q2
  | dic m kd ds =>
    obtain ⟨a, f', e, q⟩ := h
    subst e
    cases m with
    | ro => cases ht
    | own =>
      cases ht
      rcases q with ⟨hk9, kv, q, _⟩ | ⟨hk9, kv, q, _⟩
      · exact .base (.dK q.1)
      · exact .base (.dT q.1)
    | frz =>
      cases ht
      rcases q with ⟨hk9, kv, q, _⟩ | ⟨hk9, kv, q, _⟩
      · exact .base (.dK q.2.1)
      · exact .base (.dT q.2.1)
    | brw =>
      cases ht
      rcases q with ⟨hk9, kv, q, _⟩ | ⟨hk9, kv, q, _⟩
      · exact .base (.dK q.1)
      · exact .base (.dT q.1)
theorem isiB_ok {T : String} {K : PySem.W.Frag} {cn : Nm} {F : Addr → Prop} {H : Hp} {x : D} {v : V} {fp : Fp} {b : Bool} (h : Rep K cn F H x v fp) (e : isiB T x = some b) : ∃ t, TyX K H v (.type t) ∧ PySem.W.kitOne K (.type t) (.type T) = some b := by
  unfold isiB at e
  obtain ⟨t, e1, e2⟩ := Option.bind_eq_some_iff.mp e
  refine ⟨t, tyX_of h e1, ?_⟩
  split at e2
  · rename_i z
    cases e2
    rw [z]; exact kit_same K T
  · rename_i z
    split at e2
    · rename_i hT
      cases e2
      refine kit_all K T hT t ?_ z
      cases x <;> first | (simp [tyD] at e1 <;> subst e1 <;> simp; done) | (rename_i m _ _; cases m <;> simp [tyD] at e1 <;> subst e1 <;> simp)
    · cases e2
def pIsi (T : String) (f : PF) : PF := fun ρ => (f ρ).bind fun x => (isiB T x).map .bl
theorem d_isi {T : String} {y : Str} {p2 : Pos} (hK : X.K = Γ.K) (ha : PE X a (tP Γ f)) (hg : Gl X "isinstance") (hm : X.mg "isinstance" = none) (hv : bootBuiltins "isinstance" = some (.builtin "isinstance")) (hgy : Gl X y) (hmy : X.mg y = none) (hvy : bootBuiltins y = some (.type T)) (hny : y ≠ "__name__" := by decide) (hdy : (y == ("__debug__" : Str)) = false := by decide)
    (he : starEach [a, .Name y p2] X.env = (false, eval a X.env) :: starEach [.Name y p2] X.env := by rfl) (he2 : starEach [.Name y p2] X.env = (false, eval (.Name y p2) X.env) :: starEach [] X.env := by rfl) (hpl : (backTo pos (starEach [.Name y p2] X.env)).any (·.1) = false := by rfl) :
    PE X (.Call (.Name "isinstance" px) [a, .Name y p2] [] pos) (tP Γ (pIsi T f)) :=
  PE.wk (pe_callB call_isi hg hm hv (pa_cons ha (pa_cons (pe_bltn (v := .ty T) hgy hmy hvy rfl hny hdy) pa_nil he2) he) (by decide) (by decide) he hpl) fun σ H Q ⟨hold, ρ, s, d, e, k⟩ => by
    unfold pIsi at e
    obtain ⟨x, e1, e2⟩ := Option.bind_eq_some_iff.mp e
    rw [Option.map_eq_some_iff] at e2
    obtain ⟨b, e3, rfl⟩ := e2
    refine ⟨hold, ρ, s, x, e1, fun v H1 x1 s1 => ?_⟩
    obtain ⟨F, fp, h, _⟩ := s1.open1
    obtain ⟨t, h1, h2⟩ := isiB_ok h e3
    rw [hK]
    exact ⟨v, .ty T, .type t, .type T, b, rfl, .ty T, h1, h2, k _ H1 x1 (s1.drop.bl b)⟩
end
end DL

end
section
/-! DL8: statements. -/
open PySem PySem.Spec L2
namespace DL
/-! ### marks -/
mutual
theorem chk_rem (p : Mk → Bool) (f : Mk → Mk) : ∀ d : D, D.chk p (D.rem f d) = D.chk (fun m => p (f m)) d
  | .non => rfl
  | .bl _ => rfl
  | .int _ => rfl
  | .str _ => rfl
  | .cls _ => rfl
  | .exc n fs => chkF_rem p f fs
  | .tup ds => chkL_rem p f ds
  | .lst m ds => by show (_ && D.chkL p (D.remL f ds)) = (_ && _); rw [chkL_rem p f ds]
  | .dic m kd ds => by show (_ && D.chkK p (D.remK f ds)) = (_ && _); rw [chkK_rem p f ds]
  | .ins m C ds => by show (_ && D.chkF p (D.remF f ds)) = (_ && _); rw [chkF_rem p f ds]
theorem chkL_rem (p : Mk → Bool) (f : Mk → Mk) : ∀ ds : List D, D.chkL p (D.remL f ds) = D.chkL (fun m => p (f m)) ds
  | [] => rfl
  | d :: ds => by show (D.chk p (D.rem f d) && D.chkL p (D.remL f ds)) = (_ && _); rw [chk_rem p f d, chkL_rem p f ds]
theorem chkK_rem (p : Mk → Bool) (f : Mk → Mk) : ∀ ds : List (Ky × D), D.chkK p (D.remK f ds) = D.chkK (fun m => p (f m)) ds
  | [] => rfl
  | (k, d) :: ds => by show (D.chk p (D.rem f d) && D.chkK p (D.remK f ds)) = (_ && _); rw [chk_rem p f d, chkK_rem p f ds]
theorem chkF_rem (p : Mk → Bool) (f : Mk → Mk) : ∀ ds : List (Str × D), D.chkF p (D.remF f ds) = D.chkF (fun m => p (f m)) ds
  | [] => rfl
  | (k, d) :: ds => by show (D.chk p (D.rem f d) && D.chkF p (D.remF f ds)) = (_ && _); rw [chk_rem p f d, chkF_rem p f ds]
end
mutual
theorem chk_all (p : Mk → Bool) (h : ∀ m, p m = true) : ∀ d : D, D.chk p d = true
  | .non => rfl
  | .bl _ => rfl
  | .int _ => rfl
  | .str _ => rfl
  | .cls _ => rfl
  | .exc n fs => chkF_all p h fs
  | .tup ds => chkL_all p h ds
  | .lst m ds => by show (p m && D.chkL p ds) = true; rw [h, chkL_all p h ds]; rfl
  | .dic m kd ds => by show (p m && D.chkK p ds) = true; rw [h, chkK_all p h ds]; rfl
  | .ins m C ds => by show (p m && D.chkF p ds) = true; rw [h, chkF_all p h ds]; rfl
theorem chkL_all (p : Mk → Bool) (h : ∀ m, p m = true) : ∀ ds : List D, D.chkL p ds = true
  | [] => rfl
  | d :: ds => by show (D.chk p d && D.chkL p ds) = true; rw [chk_all p h d, chkL_all p h ds]; rfl
theorem chkK_all (p : Mk → Bool) (h : ∀ m, p m = true) : ∀ ds : List (Ky × D), D.chkK p ds = true
  | [] => rfl
  | (k, d) :: ds => by show (D.chk p d && D.chkK p ds) = true; rw [chk_all p h d, chkK_all p h ds]; rfl
theorem chkF_all (p : Mk → Bool) (h : ∀ m, p m = true) : ∀ ds : List (Str × D), D.chkF p ds = true
  | [] => rfl
  | (k, d) :: ds => by show (D.chk p d && D.chkF p ds) = true; rw [chk_all p h d, chkF_all p h ds]; rfl
end
theorem frz_noOwn (d : D) : d.frz.noOwn = true := by unfold D.noOwn D.frz; rw [chk_rem]; exact chk_all _ (fun m => by cases m <;> rfl) d
theorem frz_noBrw (d : D) : d.frz.noBrw = true := by unfold D.noBrw D.frz; rw [chk_rem]; exact chk_all _ (fun m => by cases m <;> rfl) d
theorem frzL_noOwn (ds : List D) : D.chkL (fun m => !m.isOwn) (D.remL fz ds) = true := by rw [chkL_rem]; exact chkL_all _ (fun m => by cases m <;> rfl) ds
theorem frzL_noBrw (ds : List D) : D.chkL (fun m => !m.isBrw) (D.remL fz ds) = true := by rw [chkL_rem]; exact chkL_all _ (fun m => by cases m <;> rfl) ds

section
variable {Γ : Ctx} {F F' : Addr → Prop} {fh fs fh' fs' : Fp} {hold hold' : Hold} {ρ ρ' : Env} {σ σ' : L2.St} {H H' : Hp}
theorem mut_some {o : Option HO} (h : Mut o) : o ≠ none := fun z => by rw [z] at h; exact h
/-- the top is frozen -/
theorem SI.freeze {v : V} {d : D} (s : SI Γ ((v, d) :: hold) ρ σ H) (hd : d.noBrw = true) : SI Γ ((v, d.frz) :: hold) ρ σ H := by
  obtain ⟨F, fh, fs, s⟩ := s
  obtain ⟨v', r, f, g, e, q, h1, h2⟩ := s.hh
  cases e
  have k : Keep F (fun a => F a ∨ 0 < f a) H H True := Keep.more fun a h => .inl h
  refine ⟨fun a => F a ∨ 0 < f a, g, fs, s.ice (f := f) (hold' := (v, d.frz) :: hold) (fun a h => h) (fun a h => .inl h) ⟨v, _, fp0, g, rfl, fun a => by show _ = 0 + _; omega, ?_, ?_⟩ ?_ (fun a => by have := q a; omega) s.mo fun a p => mut_some (Rep.alloc _ _ _ h1 a p)⟩
  · exact Rep.frz (fun a h => .inl h) d v f h1 (fun a p => .inr p) (fun z => by rw [hd] at z; cases z)
  · exact Reps.go k _ _ _ (fun _ => trivial) (fun a o _ h => h) h2
  · exact Slots.go k (fun a o _ h => h) s.ss
theorem SI.store {v : V} {d : D} (s : SI Γ ((v, d) :: hold) ρ σ H) (i : Nat) (hl : Γ.lv i = none) (hi : i < ρ.length) (hd : d.noBrw = true) (ho : Γ.own i = false → d.noOwn = true) : SI Γ hold (setS ρ i (some d)) (σ.set i (some v)) H := by
  obtain ⟨F, fh, fs, s⟩ := s
  obtain ⟨v', r, f, g, e, q, h1, h2⟩ := s.hh
  cases e
  obtain ⟨g', le, h3⟩ := Slots.put (fp' := fs) i v d s.ss hi hd h1
  refine ⟨F, g, g', s.re h2 h3 (fun a => by have := le a; have := q a; omega) (fun j x hx hj => ?_) fun j w hw => ?_⟩
  case refine_2 =>
    have hne : i ≠ j := by rintro rfl; rw [hl] at hw; cases hw
    rw [List.getElem?_set_ne hne]
    exact s.lk j w hw
  rcases getS_set hx with ⟨e1, e2⟩ | ⟨e1, e2⟩
  · cases e2; subst e1; exact ho hj
  · exact s.mo j x e2 hj
theorem SI.forget (s : SI Γ hold ρ σ H) (i : Nat) (x : Option V) (hl : σ.set i x = σ ∨ Γ.lv i = none) : SI Γ hold (setS ρ i none) (σ.set i x) H := by
  obtain ⟨F, fh, fs, s⟩ := s
  obtain ⟨g, le, h⟩ := Slots.drop i x s.ss
  refine ⟨F, fh, g, s.re s.hh h (fun a => by have := le a; omega) (fun j y hy hj => ?_) fun j w hw => ?_⟩
  case refine_2 =>
    rcases hl with hl | hl
    · rw [hl]; exact s.lk j w hw
    · have hne : i ≠ j := by rintro rfl; rw [hl] at hw; cases hw
      rw [List.getElem?_set_ne hne]
      exact s.lk j w hw
  rcases getS_set hy with ⟨e1, e2⟩ | ⟨e1, e2⟩
  · cases e2
  · exact s.mo j y e2 hj
/-- a slot's content is not known any more; the slot stays as it is -/
theorem SI.blind (s : SI Γ hold ρ σ H) (i : Nat) : SI Γ hold (setS ρ i none) σ H := by
  have e : σ.set i (σ[i]?.join) = σ := by
    cases q : σ[i]? with
    | none =>
      rw [List.set_eq_of_length_le]
      exact List.getElem?_eq_none_iff.mp q
    | some x =>
      obtain ⟨hl, e⟩ := List.getElem?_eq_some_iff.mp q
      show σ.set i x = σ
      rw [← e]
      exact List.set_getElem_self hl
  have h := s.forget i (σ[i]?.join) (.inl e)
  rw [e] at h; exact h
theorem SI.drop1 {x y : V × D} (s : SI Γ (x :: y :: hold) ρ σ H) : SI Γ (x :: hold) ρ σ H := by
  have := SI.perm (h1 := [x, y]) (h2 := hold) s
  have s2 : SI Γ (y :: hold ++ [x]) ρ σ H := by
    have := SI.perm (h1 := [x]) (h2 := y :: hold) s
    exact this
  have s3 : SI Γ (hold ++ [x]) ρ σ H := s2.drop
  exact SI.perm (h1 := hold) (h2 := [x]) s3
end

/-! ### statements -/
inductive Out where
  | nx (ρ : Env)
  | rt (d : D) (ρ : Env)
  | ex (n : Str) (fs : List (Str × D)) (ρ : Env)
abbrev SF := Env → Option Out
def Good (Γ : Ctx) (W : WX) (hold : Hold) (D : Ends) : Option Out → Prop
  | none => False
  | some (.nx ρ') => ∀ σ' H', SI Γ hold ρ' σ' H' → D.nx σ' H'
  | some (.rt d ρ') => ∀ v σ' H', SI Γ ((v, d) :: hold) ρ' σ' H' → D.rt v H'
  | some (.ex n fs ρ') => ∀ c od σ' H', SI Γ hold ρ' σ' H' → ExO Γ.cn H' n fs c od → W c od σ' H'
def tS (Γ : Ctx) (W : WX) (g : SF) : TS := fun D σ H => ∃ hold ρ, SI Γ hold ρ σ H ∧ hold.noBrw ∧ Good Γ W hold D (g ρ)
theorem PS.wk {X : Cx} {e : Stmt} {t t' : TS} (h : PS X e t) (i : ∀ D σ H, t' D σ H → t D σ H) : PS X e t' := ⟨fun pins s σ H D I q => h.run pins s σ H D I (i D σ H q)⟩
theorem PSs.wk {X : Cx} {e : List Stmt} {t t' : TS} (h : PSs X e t) (i : ∀ D σ H, t' D σ H → t D σ H) : PSs X e t' := ⟨fun pins s σ H D I q => h.run pins s σ H D I (i D σ H q)⟩
section
variable {X : Cx} {Γ : Ctx} {W : WX} {e a b : Expr} {f : EF} {pos : Pos} {st : Stmt} {rest : List Stmt} {g h : SF}
def sNil : SF := fun ρ => some (.nx ρ)
def sSeq (g h : SF) : SF := fun ρ => match g ρ with | some (.nx ρ') => h ρ' | r => r
theorem ss_nil : PSs X [] (tS Γ W sNil) := PSs.wk pss_nil fun D σ H ⟨hold, ρ, s, nb, k⟩ => k σ H s
theorem ss_cons (h1 : PS X st (tS Γ W g)) (h2 : PSs X rest (tS Γ W h)) : PSs X (st :: rest) (tS Γ W (sSeq g h)) :=
  PSs.wk (pss_cons h1 h2) fun D σ H ⟨hold, ρ, s, nb, k⟩ => by
    refine ⟨hold, ρ, s, nb, ?_⟩
    unfold sSeq at k
    cases q : g ρ with
    | none => rw [q] at k; exact k
    | some o =>
      rw [q] at k
      cases o with
      | nx ρ' => exact fun σ' H' s' => ⟨hold, ρ', s', nb, k⟩
      | rt d ρ' => exact k
      | ex n fs ρ' => exact k
theorem ss_one (h1 : PS X st (tS Γ W g)) : PSs X [st] (tS Γ W g) := pss_one h1
theorem s_pass : PS X (.Pass pos) (tS Γ W sNil) := PS.wk ps_pass fun D σ H ⟨hold, ρ, s, nb, k⟩ => k σ H s
theorem s_doc {x j pos pos'} : PS X (.Expr (.Constant (.str x) j pos) pos') (tS Γ W sNil) := PS.wk ps_doc fun D σ H ⟨hold, ρ, s, nb, k⟩ => k σ H s
/-- what is not come to -/
def sStuck : SF := fun _ => none
theorem s_stuck : PS X st (tS Γ W sStuck) := PS.wk ps_never fun D σ H ⟨hold, ρ, s, nb, k⟩ => k.elim
theorem ss_stuck {sts : List Stmt} : PSs X sts (tS Γ W sStuck) := PSs.wk pss_never fun D σ H ⟨hold, ρ, s, nb, k⟩ => k.elim
/-- e; -/
def sExpr (f : EF) : SF := fun ρ => match f ρ with
  | some (.ok _ ρ') => some (.nx ρ')
  | some (.ex n fs ρ') => some (.ex n fs ρ')
  | none => none
theorem s_expr (he : PE X e (tE Γ W f)) (hs : swapsWith e none pos.line X.env = pure false := by rfl) : PS X (.Expr e pos) (tS Γ W (sExpr f)) :=
  PS.wk (ps_expr he hs) fun D σ H ⟨hold, ρ, s, nb, k⟩ => by
    refine ⟨hold, ρ, s, nb, ?_⟩
    unfold sExpr at k
    cases q : f ρ with
    | none => rw [q] at k; exact k
    | some o =>
      rw [q] at k
      cases o with
      | ok d ρ' => exact fun v H' s' => k σ H' s'.drop
      | ex n fs ρ' => exact fun c od H' s' => k c od σ H' s'
/-- return e -/
def sRet (f : EF) : SF := fun ρ => match f ρ with
  | some (.ok d ρ') => some (.rt d ρ')
  | some (.ex n fs ρ') => some (.ex n fs ρ')
  | none => none
theorem s_ret (he : PE X e (tE Γ W f)) : PS X (.Return (some e) pos) (tS Γ W (sRet f)) :=
  PS.wk (ps_ret he) fun D σ H ⟨hold, ρ, s, nb, k⟩ => by
    refine ⟨hold, ρ, s, nb, ?_⟩
    unfold sRet at k
    cases q : f ρ with
    | none => rw [q] at k; exact k
    | some o =>
      rw [q] at k
      cases o with
      | ok d ρ' => exact fun v H' s' => k v σ H' s'
      | ex n fs ρ' => exact fun c od H' s' => k c od σ H' s'
def sRetN : SF := fun ρ => some (.rt .non ρ)
theorem s_retN : PS X (.Return none pos) (tS Γ W sRetN) := PS.wk ps_retN fun D σ H ⟨hold, ρ, s, nb, k⟩ => k _ σ H s.non
/-- x = e: frozen; still changeable -/
def sF (i : Nat) (f : EF) : SF := fun ρ => match f ρ with
  | some (.ok d ρ') => if d.noBrw = true ∧ i < ρ'.length then some (.nx (setS ρ' i (some d.frz))) else none
  | some (.ex n fs ρ') => some (.ex n fs ρ')
  | none => none
def sO (i : Nat) (f : EF) : SF := fun ρ => match f ρ with
  | some (.ok d ρ') => if d.noBrw = true ∧ i < ρ'.length then some (.nx (setS ρ' i (some d))) else none
  | some (.ex n fs ρ') => some (.ex n fs ρ')
  | none => none
theorem s_f {i : Nat} {x : Str} {pos' : Pos} (hl : Γ.lv i = none) (hN : X.N.Nodup) (hi : X.N[i]? = some x) (hx : Loc X.env.scope x) (he : PE X e (tE Γ W f)) (hs : swapsWith e (some (.Name x pos')) pos.line X.env = pure false := by rfl) (hf : X.fn x = true ∨ X.env.scope.names.lookup x = some .local := by first | exact .inl rfl | exact .inr rfl | assumption) :
    PS X (.Assign [.Name x pos'] e pos) (tS Γ W (sF i f)) :=
  PS.wk (ps_set hN hi hx he hs hf) fun D σ H ⟨hold, ρ, s, nb, k⟩ => by
    refine ⟨hold, ρ, s, nb, ?_⟩
    unfold sF at k
    cases q : f ρ with
    | none => rw [q] at k; exact k
    | some o =>
      rw [q] at k
      cases o with
      | ok d ρ' =>
        dsimp only at k ⊢
        intro v H' s'
        by_cases hc : d.noBrw = true ∧ i < ρ'.length
        · rw [if_pos hc] at k
          exact k _ H' ((s'.freeze hc.1).store i hl hc.2 (frz_noBrw d) fun _ => frz_noOwn d)
        · rw [if_neg hc] at k; exact k.elim
      | ex n fs ρ' => exact fun c od H' s' => k c od σ H' s'
theorem s_o {i : Nat} {x : Str} {pos' : Pos} (hl : Γ.lv i = none) (ho : Γ.own i = true) (hN : X.N.Nodup) (hi : X.N[i]? = some x) (hx : Loc X.env.scope x) (he : PE X e (tE Γ W f)) (hs : swapsWith e (some (.Name x pos')) pos.line X.env = pure false := by rfl) (hf : X.fn x = true ∨ X.env.scope.names.lookup x = some .local := by first | exact .inl rfl | exact .inr rfl | assumption) :
    PS X (.Assign [.Name x pos'] e pos) (tS Γ W (sO i f)) :=
  PS.wk (ps_set hN hi hx he hs hf) fun D σ H ⟨hold, ρ, s, nb, k⟩ => by
    refine ⟨hold, ρ, s, nb, ?_⟩
    unfold sO at k
    cases q : f ρ with
    | none => rw [q] at k; exact k
    | some o =>
      rw [q] at k
      cases o with
      | ok d ρ' =>
        dsimp only at k ⊢
        intro v H' s'
        by_cases hc : d.noBrw = true ∧ i < ρ'.length
        · rw [if_pos hc] at k
          exact k _ H' (s'.store i hl hc.2 hc.1 fun z => by rw [ho] at z; cases z)
        · rw [if_neg hc] at k; exact k.elim
      | ex n fs ρ' => exact fun c od H' s' => k c od σ H' s'
/-- if -/
def sIf (t : TF) (g h : SF) : SF := fun ρ => match t ρ with
  | some (.ok true ρ') => g ρ'
  | some (.ok false ρ') => h ρ'
  | some (.ex n fs ρ') => some (.ex n fs ρ')
  | none => none
theorem s_if {c : Expr} {t : TF} {ts es : List Stmt} (hc : PT X c (tT Γ W t)) (ha : PSs X ts (tS Γ W g)) (hb : PSs X es (tS Γ W h)) : PS X (.If c ts es pos) (tS Γ W (sIf t g h)) :=
  PS.wk (ps_if hc ha hb) fun D σ H ⟨hold, ρ, s, nb, k⟩ => by
    refine ⟨hold, ρ, s, nb, ?_⟩
    unfold sIf at k
    cases q : t ρ with
    | none => rw [q] at k; exact k
    | some o =>
      rw [q] at k
      cases o with
      | ok c ρ' =>
        cases c with
        | true => exact fun H' s' => iT ⟨hold, ρ', s', nb, k⟩
        | false => exact fun H' s' => iF ⟨hold, ρ', s', nb, k⟩
      | ex n fs ρ' => exact fun c od H' s' => k c od σ H' s'
/-- while -/
def whileN (t : TF) (g : SF) : Nat → SF
  | 0, _ => none
  | n + 1, ρ => match t ρ with
    | some (.ok true ρ') => (match g ρ' with
      | some (.nx ρ2) => whileN t g n ρ2
      | r => r)
    | some (.ok false ρ') => some (.nx ρ')
    | some (.ex m fs ρ') => some (.ex m fs ρ')
    | none => none
def fuel : Nat := 1000000000000
def sWhile (t : TF) (g : SF) : SF := whileN t g fuel
theorem s_while {c : Expr} {t : TF} {ts : List Stmt} (hp : PassesOwn (model X.prog X.w) X.A X.env X.xe) (hc : PT X c (tT Γ W t)) (ha : PSs X ts (tS Γ W g)) : PS X (.While c ts [] pos) (tS Γ W (sWhile t g)) :=
  PS.wk (ps_while hp hc ha) fun D σ H ⟨hold, ρ, s, nb, k⟩ => by
    refine ⟨fun m σ H => ∃ ρ, SI Γ hold ρ σ H ∧ Good Γ W hold D (whileN t g m ρ), ⟨fuel, ρ, s, k⟩, ?_⟩
    rintro m σ H ⟨ρ, s, k⟩
    refine ⟨hold, ρ, s, nb, ?_⟩
    cases m with
    | zero => exact k.elim
    | succ n =>
      unfold whileN at k
      cases q : t ρ with
      | none => rw [q] at k; exact k
      | some o =>
        rw [q] at k
        cases o with
        | ok c ρ' =>
          cases c with
          | true =>
            dsimp only at k ⊢
            refine fun H' s' => iT ⟨fun σ2 H2 => ∃ ρ2, SI Γ hold ρ2 σ2 H2 ∧ Good Γ W hold D (whileN t g n ρ2), fun σ2 H2 h2 => ⟨n, Nat.lt_succ_self n, h2⟩, hold, ρ', s', nb, ?_⟩
            cases q2 : g ρ' with
            | none => rw [q2] at k; exact k
            | some o2 =>
              rw [q2] at k
              cases o2 with
              | nx ρ2 => exact fun σ2 H2 s2 => ⟨ρ2, s2, k⟩
              | rt d ρ2 => exact k
              | ex n fs ρ2 => exact k
          | false => exact fun H' s' => iF (k σ H' s')
        | ex n fs ρ' => exact fun c od H' s' => k c od σ H' s'
end
end DL

end
section
/-! DL9: targets, what is walked, for. -/
open PySem PySem.Spec L2
namespace DL
/-! ### targets -/
abbrev BF := D → Env → Option Env
/-- the same slots but these -/
def But (is : List Nat) (σ σ' : L2.St) : Prop := σ'.length = σ.length ∧ ∀ j, j ∉ is → σ'[j]? = σ[j]?
theorem But.refl {is : List Nat} {σ : L2.St} : But is σ σ := ⟨rfl, fun _ _ => rfl⟩
theorem But.trans {is js : List Nat} {σ σ1 σ2 : L2.St} (a : But is σ σ1) (b : But js σ1 σ2) : But (is ++ js) σ σ2 := ⟨b.1.trans a.1, fun j h => (b.2 j fun z => h (List.mem_append_right _ z)).trans (a.2 j fun z => h (List.mem_append_left _ z))⟩
def tB (Γ : Ctx) (is : List Nat) (b : BF) : TG := fun v σ H Q => ∃ hold ρ d, SI Γ ((v, d) :: hold) ρ σ H ∧ d.noBrw = true ∧ d.noOwn = true ∧ ∃ ρ', b d ρ = some ρ' ∧ ∀ σ', But is σ σ' → SI Γ hold ρ' σ' H → Q σ' H
abbrev BFs := List D → Env → Option Env
def tBs (Γ : Ctx) (is : List Nat) (b : BFs) : TGs := fun vs σ H Q => ∃ hold ρ ds, SI Γ (vs.zip ds ++ hold) ρ σ H ∧ vs.length = ds.length ∧ D.chkL (fun m => !m.isBrw) ds = true ∧ D.chkL (fun m => !m.isOwn) ds = true ∧ ∃ ρ', b ds ρ = some ρ' ∧ ∀ σ', But is σ σ' → SI Γ hold ρ' σ' H → Q σ' H
theorem PG.wk {X : Cx} {e : Expr} {t t' : TG} (h : PG X e t) (i : ∀ v σ H Q, t' v σ H Q → t v σ H Q) : PG X e t' := ⟨fun pins s σ H v u Q I r q => h.run pins s σ H v u Q I r (i v σ H Q q)⟩
theorem PGs.wk {X : Cx} {e : List Expr} {t t' : TGs} (h : PGs X e t) (i : ∀ v σ H Q, t' v σ H Q → t v σ H Q) : PGs X e t' := ⟨fun pins s σ H v u Q I r q => h.run pins s σ H v u Q I r (i v σ H Q q)⟩
def bN (i : Nat) : BF := fun d ρ => if i < ρ.length then some (setS ρ i (some d)) else none
def bsNil : BFs := fun ds ρ => match ds with | [] => some ρ | _ => none
def bsCons (b : BF) (bs : BFs) : BFs := fun ds ρ => match ds with | d :: ds => (b d ρ).bind (bs ds) | [] => none
def bT (bs : BFs) : BF := fun d ρ => match d with | .tup ds => bs ds ρ | _ => none
section
variable {X : Cx} {Γ : Ctx} {W : WX} {pos : Pos}
theorem b_n {i : Nat} {x : Str} (hlv : Γ.lv i = none) (hN : X.N.Nodup) (hi : X.N[i]? = some x) (hx : Loc X.env.scope x) (hf : X.fn x = true ∨ X.env.scope.names.lookup x = some .local := by first | exact .inl rfl | exact .inr rfl | assumption) : PG X (.Name x pos) (tB Γ [i] (bN i)) :=
  PG.wk (pg_name hN hi hx hf) fun v σ H Q ⟨hold, ρ, d, s, nb, no, ρ', e, k⟩ => by
    unfold bN at e
    split at e
    · rename_i hl
      cases e
      exact k _ ⟨List.length_set, fun j hj => List.getElem?_set_ne (fun z => hj (by rw [z]; exact List.mem_cons_self))⟩ (s.store i hlv hl nb fun _ => no)
    · cases e
theorem bs_nil : PGs X [] (tBs Γ [] bsNil) := PGs.wk pgs_nil fun vs σ H Q ⟨hold, ρ, ds, s, l, nb, no, ρ', e, k⟩ => by
  unfold bsNil at e
  split at e
  · cases e
    have : vs = [] := List.eq_nil_of_length_eq_zero l
    subst this
    exact ⟨rfl, k σ But.refl s⟩
  · cases e
theorem bs_cons {e : Expr} {es : List Expr} {b : BF} {bs : BFs} {is js : List Nat} (h1 : PG X e (tB Γ is b)) (h2 : PGs X es (tBs Γ js bs)) (hs : (assignEach (e :: es) X.env).map (·.2) = assign e X.env :: (assignEach es X.env).map (·.2) := by rfl) : PGs X (e :: es) (tBs Γ (is ++ js) (bsCons b bs)) :=
  PGs.wk (pgs_cons h1 h2 hs) fun vs σ H Q ⟨hold, ρ, ds, s, l, nb, no, ρ', e, k⟩ => by
    unfold bsCons at e
    split at e
    · rename_i d ds
      obtain ⟨ρ1, e1, e2⟩ := Option.bind_eq_some_iff.mp e
      match vs, l with
      | v :: vs, l =>
        exact ⟨v, vs, rfl, vs.zip ds ++ hold, ρ, d, s, and_l nb, and_l no, ρ1, e1, fun σ1 b1 s1 => ⟨hold, ρ1, ds, s1, by simpa using l, and_r nb, and_r no, ρ', e2, fun σ2 b2 s2 => k σ2 (b1.trans b2) s2⟩⟩
    · cases e
theorem b_tup {es : List Expr} {k : Nat} {bs : BFs} {n : Nat} {is : List Nat} (hK : X.K = Γ.K) (hc : X.calm = true) (h : PGs X es (tBs Γ is bs)) (hb : ∀ ds ρ ρ', bs ds ρ = some ρ' → ds.length = n)
    (hn : (assignEach es X.env).length = n := by rfl) (hst : (assignEach es X.env).findIdx? (·.1) = none := by rfl) : PG X (.Tuple es k pos) (tB Γ is (bT bs)) :=
  PG.wk (pg_tup hc h hn hst) fun v σ H Q ⟨hold, ρ, d, s, nb, no, ρ', e, k⟩ => by
    unfold bT at e
    split at e
    · rename_i ds
      obtain ⟨F, fh, fs, s⟩ := s
      obtain ⟨v', r, f, g, e1, q, ⟨a, vs, ev, hq, hr⟩, h2⟩ := s.hh
      cases e1
      have l : vs.length = ds.length := hr.len.symm
      refine ⟨a, vs, ev, by rw [hK]; exact SqT.of hq, by rw [l]; exact hb ds ρ ρ' e, hold, ρ, ds, ⟨F, fh, fs, s.re ?_ s.ss (fun _ => Nat.le_refl _) s.mo⟩, l, nb, no, ρ', e, k⟩
      rw [List.map_append, List.map_append, zip_fst l, zip_snd l]
      exact Reps.app hr h2 q
    · cases e
theorem bsNil_len : ∀ ds ρ ρ', bsNil ds ρ = some ρ' → ds.length = 0 := fun ds ρ ρ' e => by
  unfold bsNil at e
  split at e
  · rfl
  · cases e
theorem bsCons_len {b : BF} {bs : BFs} {n : Nat} (h : ∀ ds ρ ρ', bs ds ρ = some ρ' → ds.length = n) : ∀ ds ρ ρ', bsCons b bs ds ρ = some ρ' → ds.length = n + 1 := fun ds ρ ρ' e => by
  unfold bsCons at e
  split at e
  · obtain ⟨ρ1, e1, e2⟩ := Option.bind_eq_some_iff.mp e
    rw [List.length_cons, h _ _ _ e2]
  · cases e

/-! ### what is walked -/
/-- the thing that is held meanwhile, its items -/
abbrev IF := Env → Option (Res (D × List D))
def Walks (Γ : Ctx) (J : It) (v : V) (d : D) (ds : List D) : Prop := ∀ hold ρ σ H, SI Γ ((v, d) :: hold) ρ σ H →
  (∀ i di, ds[i]? = some di → J.go i H ∧ ∀ x H', J.yld i H x H' → Ext H H' ∧ SI Γ ((x, di) :: (v, d) :: hold) ρ σ H') ∧ (∀ i, ds.length ≤ i → J.stop i H)
def tI (Γ : Ctx) (W : WX) (q : IF) : TI := fun σ H R => ∃ hold ρ, SI Γ hold ρ σ H ∧ hold.noBrw ∧ match q ρ with
  | none => False
  | some (.ok (d, ds) ρ') => ∀ v J H', SI Γ ((v, d) :: hold) ρ' σ H' → d.noBrw = true → D.chkL (fun m => !m.isBrw) ds = true → D.chkL (fun m => !m.isOwn) ds = true → Walks Γ J v d ds → R J H'
  | some (.ex n fs ρ') => ∀ c od H', SI Γ hold ρ' σ H' → ExO Γ.cn H' n fs c od → W c od σ H'
theorem PI.wk {X : Cx} {tg e : Expr} {t t' : TI} (h : PI X tg e t) (i : ∀ σ H R, t' σ H R → t σ H R) : PI X tg e t' := ⟨fun pins s σ H R I q => h.run pins s σ H R I (i σ H R q)⟩
theorem PI.or {X : Cx} {tg e : Expr} {t t' : TI} (h : PI X tg e t) (h' : PI X tg e t') : PI X tg e (fun σ H R => t σ H R ∨ t' σ H R) := ⟨fun pins s σ H R I q => q.elim (fun q => h.run pins s σ H R I q) fun q => h'.run pins s σ H R I q⟩
/-- a list, a tuple -/
def itemsD : D → Option (List D)
  | .lst _ ds => some ds
  | .tup ds => some ds
  | _ => none
def iSeq (f : EF) : IF := fun ρ => match f ρ with
  | some (.ok d ρ') => if d.noBrw = true then (itemsD d.frz).map fun ds => .ok (d.frz, ds) ρ' else none
  | some (.ex n fs ρ') => some (.ex n fs ρ')
  | none => none
theorem i_seq {tg l : Expr} {f : EF} (hK : X.K = Γ.K) (hl : PE X l (tE Γ W f)) : PI X tg l (tI Γ W (iSeq f)) :=
  PI.wk (PI.or (pi_list hl) (pi_tup hl)) fun σ H R ⟨hold, ρ, s, nb, k⟩ => by
    unfold iSeq at k
    cases q : f ρ with
    | none => rw [q] at k; exact k.elim
    | some o =>
      rw [q] at k
      cases o with
      | ex n fs ρ' =>
        refine .inl ⟨hold, ρ, s, nb, ?_⟩
        rw [q]; exact k
      | ok d ρ' =>
        dsimp only at k
        by_cases hd : d.noBrw = true
        · rw [if_pos hd] at k
          have nbk := frz_noBrw d
          have nok := frz_noOwn d
          cases d with
          | lst m ds =>
            refine .inl ⟨hold, ρ, s, nb, ?_⟩
            rw [q]
            dsimp only
            intro v H' s'
            have s2 := s'.freeze hd
            obtain ⟨F, f1, ⟨a, vs, f2, ev, hq, hr⟩, _⟩ := s2.open1
            subst ev
            refine ⟨a, rfl, ⟨vs, by rw [hK]; exact lst_sq hq⟩, k (.ref a) (Itl X.K a) H' s2 nbk (and_r nbk) (and_r nok) ?_⟩
            intro hold2 ρ2 σ2 H2 z
            obtain ⟨F2, fh, fs, z⟩ := z
            obtain ⟨v', r, f3, g3, e1, q1, h1, h2⟩ := z.hh
            cases e1
            have h1' := h1
            obtain ⟨a', ws, f4, ev', hq', hr'⟩ := h1'
            cases ev'
            refine ⟨fun i di hi => ?_, fun i hi => ⟨ws, by rw [hK]; exact lst_sq hq', by rw [← hr'.len]; exact hi⟩⟩
            obtain ⟨w, f5, ew, hw, lw⟩ := hr'.get hi
            refine ⟨⟨ws, w, by rw [hK]; exact lst_sq hq', ew⟩, fun x H3 y => ?_⟩
            obtain ⟨e3, y⟩ := y
            subst e3
            have ex : x = w := by
              have := y ws (by rw [hK]; exact lst_sq hq')
              rw [ew] at this; exact (Option.some.inj this).symm
            subst ex
            refine ⟨Ext.refl, F2, fh, fs, z.re ⟨x, _, fp0, fh, rfl, fun a => by show _ = 0 + _; omega, ?_, z.hh⟩ z.ss (fun _ => Nat.le_refl _) z.mo z.lk⟩
            have : f5 = fp0 := funext fun b => by
              have := lw b
              have := Reps.zero _ _ _ hr' (and_r nok) b
              show f5 b = 0; omega
            rw [← this]; exact hw
          | tup ds =>
            refine .inr ⟨hold, ρ, s, nb, ?_⟩
            rw [q]
            dsimp only
            intro v H' s'
            have s2 := s'.freeze hd
            obtain ⟨F, f1, ⟨a, vs, ev, hq, hr⟩, _⟩ := s2.open1
            subst ev
            refine ⟨a, rfl, ⟨vs, by rw [hK]; exact SqT.of hq⟩, k (.ref a) (Itt X.K a) H' s2 nbk nbk nok ?_⟩
            intro hold2 ρ2 σ2 H2 z
            obtain ⟨F2, fh, fs, z⟩ := z
            obtain ⟨v', r, f3, g3, e1, q1, h1, h2⟩ := z.hh
            cases e1
            have h1' := h1
            obtain ⟨a', ws, ev', hq', hr'⟩ := h1'
            cases ev'
            refine ⟨fun i di hi => ?_, fun i hi => ⟨ws, by rw [hK]; exact SqT.of hq', by rw [← hr'.len]; exact hi⟩⟩
            obtain ⟨w, f5, ew, hw, lw⟩ := hr'.get hi
            refine ⟨⟨ws, w, by rw [hK]; exact SqT.of hq', ew⟩, fun x H3 y => ?_⟩
            obtain ⟨e3, y⟩ := y
            subst e3
            have ex : x = w := by
              have := y ws (by rw [hK]; exact SqT.of hq')
              rw [ew] at this; exact (Option.some.inj this).symm
            subst ex
            refine ⟨Ext.refl, F2, fh, fs, z.re ⟨x, _, fp0, fh, rfl, fun a => by show _ = 0 + _; omega, ?_, z.hh⟩ z.ss (fun _ => Nat.le_refl _) z.mo z.lk⟩
            have : f5 = fp0 := funext fun b => by
              have := lw b
              have := Reps.zero _ _ _ hr' nok b
              show f5 b = 0; omega
            rw [← this]; exact hw
          | non => exact k.elim
          | bl b => exact k.elim
          | int b => exact k.elim
          | str b => exact k.elim
          | cls b => exact k.elim
          | exc n b => exact k.elim
          | dic m kd b => exact k.elim
          | ins m n b => exact k.elim
        · rw [if_neg hd] at k; exact k.elim
/-- a range -/
def rngD (lo : Int) (n : Nat) : List D := (List.range n).map fun (i : Nat) => .int (lo + (i : Int))
theorem rngD_len (lo : Int) (n : Nat) : (rngD lo n).length = n := by unfold rngD; rw [List.length_map, List.length_range]
theorem rngD_get {lo : Int} {n i : Nat} {d : D} (h : (rngD lo n)[i]? = some d) : i < n ∧ d = .int (lo + i) := by
  unfold rngD at h
  rw [List.getElem?_map, Option.map_eq_some_iff] at h
  obtain ⟨j, h1, h2⟩ := h
  obtain ⟨hl, e⟩ := List.getElem?_eq_some_iff.mp h1
  rw [List.length_range] at hl
  rw [List.getElem_range] at e
  exact ⟨hl, by rw [← h2, e]⟩
theorem rngD_chk (p : Mk → Bool) (lo : Int) (n : Nat) : D.chkL p (rngD lo n) = true := by
  unfold rngD
  induction List.range n with
  | nil => rfl
  | cons x xs ih => exact ih
theorem walks_rng {lo : Int} {n : Nat} {v : V} {d : D} : Walks Γ (Itr lo n) v d (rngD lo n) := fun hold ρ σ H s => by
  refine ⟨fun i di hi => ?_, fun i hi => by rw [rngD_len] at hi; exact hi⟩
  obtain ⟨hl, rfl⟩ := rngD_get hi
  refine ⟨hl, fun x H' y => ?_⟩
  obtain ⟨rfl, rfl⟩ := y
  exact ⟨Ext.refl, s.int _⟩
def okR (j : Int) : Bool := decide (-(2 ^ 62) ≤ j) && decide (j < 2 ^ 62)
def rngOf : List D → Option (List D)
  | [.int j] => if okR j = true then some (rngD 0 j.toNat) else none
  | [.int i, .int j] => if okR i = true ∧ okR j = true then some (rngD i (j - i).toNat) else none
  | _ => none
def iRng (fs : List EF) : IF := fun ρ => match evE fs ρ with
  | some (.ok ds ρ') => (rngOf ds).map fun xs => .ok (.non, xs) ρ'
  | some (.ex n xs ρ') => some (.ex n xs ρ')
  | none => none
theorem okR_of {j : Int} (h : okR j = true) : -(2 ^ 62) ≤ j ∧ j < 2 ^ 62 := by
  unfold okR at h
  rw [Bool.and_eq_true, decide_eq_true_eq, decide_eq_true_eq] at h
  exact h
theorem evE_len : ∀ {fs : List EF} {ρ ρ' : Env} {ds : List D}, evE fs ρ = some (.ok ds ρ') → ds.length = fs.length
  | [], ρ, ρ', ds, h => by rw [evE] at h; cases h; rfl
  | f :: fs, ρ, ρ', ds, h => by
    rw [evE] at h
    split at h
    · split at h
      · split at h
        · rename_i h2
          cases h
          rw [List.length_cons, List.length_cons, evE_len h2]
        · rename_i h2
          exact (h2 _ _ h).elim
      · cases h
    · cases h
    · cases h
theorem i_rng1 {tg a : Expr} {f : EF} {p : Pos} (hg : Gl X "range") (hm : X.mg "range" = none) (ha : PA X [a] (tAE Γ W [f])) (hs : starEach [a] X.env = [(false, eval a X.env)] := by rfl) : PI X tg (.Call (.Name "range" p) [a] [] pos) (tI Γ W (iRng [f])) :=
  PI.wk (pi_range1 hg hm ha hs) fun σ H R ⟨hold, ρ, s, nb, k⟩ => by
    refine ⟨hold, ρ, s, nb, ?_⟩
    unfold iRng at k
    cases q : evE [f] ρ with
    | none => rw [q] at k; exact k.elim
    | some o =>
      rw [q] at k
      cases o with
      | ex n xs ρ' => exact k
      | ok ds ρ' =>
        dsimp only at k ⊢
        intro vs H' l s'
        have hl1 := evE_len q
        cases z : rngOf ds with
        | none => rw [z] at k; exact k.elim
        | some xs =>
          rw [z] at k
          unfold rngOf at z
          split at z
          · split at z
            · rename_i hj
              cases z
              obtain ⟨v, rfl, s2⟩ := one_of l s'
              obtain rfl := s2.topInt
              exact ⟨_, rfl, (okR_of hj).1, (okR_of hj).2, k .non _ H' s2.drop.non rfl (rngD_chk _ _ _) (rngD_chk _ _ _) walks_rng⟩
            · cases z
          · cases hl1
          · cases z
theorem i_rng2 {tg a b : Expr} {f g : EF} {p : Pos} (hg : Gl X "range") (hm : X.mg "range" = none) (ha : PA X [a, b] (tAE Γ W [f, g])) (hs : starEach [a, b] X.env = [(false, eval a X.env), (false, eval b X.env)] := by rfl) (hs2 : starEach [b] X.env = [(false, eval b X.env)] := by rfl) : PI X tg (.Call (.Name "range" p) [a, b] [] pos) (tI Γ W (iRng [f, g])) :=
  PI.wk (pi_range2 hg hm ha hs hs2) fun σ H R ⟨hold, ρ, s, nb, k⟩ => by
    refine ⟨hold, ρ, s, nb, ?_⟩
    unfold iRng at k
    cases q : evE [f, g] ρ with
    | none => rw [q] at k; exact k.elim
    | some o =>
      rw [q] at k
      cases o with
      | ex n xs ρ' => exact k
      | ok ds ρ' =>
        dsimp only at k ⊢
        intro vs H' l s'
        have hl1 := evE_len q
        cases z : rngOf ds with
        | none => rw [z] at k; exact k.elim
        | some xs =>
          rw [z] at k
          unfold rngOf at z
          split at z
          · cases hl1
          · split at z
            · rename_i hj
              cases z
              obtain ⟨v, w, rfl, s2⟩ := two_of l s'
              obtain rfl := s2.topInt
              obtain rfl := s2.drop.topInt
              exact ⟨_, _, rfl, ⟨(okR_of hj.1).1, (okR_of hj.1).2, (okR_of hj.2).1, (okR_of hj.2).2⟩, k .non _ H' s2.drop.drop.non rfl (rngD_chk _ _ _) (rngD_chk _ _ _) walks_rng⟩
            · cases z
          · cases z

/-! ### for -/
def loop (b : BF) (g : SF) : List D → SF
  | [], ρ => some (.nx ρ)
  | d :: ds, ρ => match b d ρ with
    | none => none
    | some ρ1 => match g ρ1 with
      | some (.nx ρ2) => loop b g ds ρ2
      | r => r
def clrS : List Nat → Env → Env
  | [], ρ => ρ
  | i :: is, ρ => clrS is (setS ρ i none)
theorem SI.clr {hold : Hold} {σ : L2.St} {H : Hp} : ∀ (is : List Nat) {ρ : Env}, SI Γ hold ρ σ H → SI Γ hold (clrS is ρ) σ H
  | [], _, s => s
  | i :: is, _, s => SI.clr is (s.blind i)
def clrO (is : List Nat) : Option Out → Option Out
  | some (.nx ρ) => some (.nx (clrS is ρ))
  | r => r
def sFor (q : IF) (b : BF) (g : SF) (is : List Nat) : SF := fun ρ => match q ρ with
  | some (.ok (_, ds) ρ') => clrO is (loop b g ds ρ')
  | some (.ex n fs ρ') => some (.ex n fs ρ')
  | none => none
theorem s_for {tg iter : Expr} {body : List Stmt} {q : IF} {b : BF} {g : SF} {js : List Nat} (is : List Nat) (hp : PassesOwn (model X.prog X.w) X.A X.env X.xe) (hc : X.calm = true) (hi : PI X tg iter (tI Γ W q)) (hg : PG X tg (tB Γ js b)) (hb : PSs X body (tS Γ W g))
    (hs : ∀ x, foldedSetIterable iter X.env x = pure x := by intro _; rfl) : PS X (.For tg iter body [] pos) (tS Γ W (sFor q b g is)) :=
  PS.wk (ps_for hp hc hi hg hb hs) fun D σ H ⟨hold, ρ, s, nb, k⟩ => by
    refine ⟨hold, ρ, s, nb, ?_⟩
    unfold sFor at k
    cases z : q ρ with
    | none => rw [z] at k; exact k
    | some o =>
      rw [z] at k
      cases o with
      | ex n xs ρ' => exact fun c od H' s' => k c od σ H' s'
      | ok p ρ' =>
        obtain ⟨d, ds⟩ := p
        dsimp only at k ⊢
        intro v J H' s' nbd nbs nos wk
        have nb2 : Hold.noBrw ((v, d) :: hold) := noBrw_cons nb nbd
        refine ⟨fun i m σ H => m = ds.length - i ∧ i ≤ ds.length ∧ ∃ ρ, SI Γ ((v, d) :: hold) ρ σ H ∧ Good Γ W hold D (clrO is (loop b g (ds.drop i) ρ)), ⟨ds.length, rfl, Nat.zero_le _, ρ', s', k⟩, ?_⟩
        rintro i m σ H ⟨rfl, hi, ρ, s, k⟩
        obtain ⟨w1, w2⟩ := wk hold ρ σ H s
        by_cases hlt : i < ds.length
        · have e1 : ds[i]? = some ds[i] := List.getElem?_eq_getElem hlt
          obtain ⟨go, yl⟩ := w1 i _ e1
          refine .inr ⟨go, fun σ2 H2 => ∃ ρ2, SI Γ ((v, d) :: hold) ρ2 σ2 H2 ∧ Good Γ W hold D (clrO is (loop b g (ds.drop (i + 1)) ρ2)), fun σ2 H2 h2 => ⟨ds.length - (i + 1), by omega, rfl, hlt, h2⟩, fun x H2 y => ?_⟩
          obtain ⟨_, s2⟩ := yl x H2 y
          rw [List.drop_eq_getElem_cons hlt] at k
          unfold loop at k
          cases z1 : b ds[i] ρ with
          | none => rw [z1] at k; exact k.elim
          | some ρ1 =>
            rw [z1] at k
            dsimp only at k
            refine ⟨(v, d) :: hold, ρ, ds[i], s2, chkL_get _ nbs e1, chkL_get _ nos e1, ρ1, z1, fun σ3 _ s3 => ⟨(v, d) :: hold, ρ1, s3, nb2, ?_⟩⟩
            cases z2 : g ρ1 with
            | none => rw [z2] at k; exact k
            | some o2 =>
              rw [z2] at k
              cases o2 with
              | nx ρ2 => exact fun σ4 H4 s4 => ⟨ρ2, s4, k⟩
              | rt d2 ρ2 => exact fun u σ4 H4 s4 => k u σ4 H4 s4.drop1
              | ex n xs ρ2 => exact fun c od σ4 H4 s4 => k c od σ4 H4 s4.drop
        · have e : i = ds.length := by omega
          subst e
          rw [List.drop_length] at k
          exact .inl ⟨w2 _ (Nat.le_refl _), k σ H (SI.clr is s.drop)⟩
end
end DL

end
section
/-! DL10: places within a thing; lists changed in place. -/
open PySem PySem.Spec L2
namespace DL
mutual
def Ky.dec : (a b : Ky) → Decidable (a = b)
  | .int i, .int j => if h : i = j then .isTrue (by rw [h]) else .isFalse (fun e => h (by cases e; rfl))
  | .str i, .str j => if h : i = j then .isTrue (by rw [h]) else .isFalse (fun e => h (by cases e; rfl))
  | .tup i, .tup j => match Ky.decL i j with
    | .isTrue h => .isTrue (by rw [h])
    | .isFalse h => .isFalse (fun e => h (by cases e; rfl))
  | .int _, .str _ => .isFalse (fun e => nomatch e)
  | .int _, .tup _ => .isFalse (fun e => nomatch e)
  | .str _, .int _ => .isFalse (fun e => nomatch e)
  | .str _, .tup _ => .isFalse (fun e => nomatch e)
  | .tup _, .int _ => .isFalse (fun e => nomatch e)
  | .tup _, .str _ => .isFalse (fun e => nomatch e)
def Ky.decL : (a b : List Ky) → Decidable (a = b)
  | [], [] => .isTrue rfl
  | a :: as, b :: bs => match Ky.dec a b, Ky.decL as bs with
    | .isTrue h, .isTrue h' => .isTrue (by rw [h, h'])
    | .isFalse h, _ => .isFalse (fun e => h (by cases e; rfl))
    | _, .isFalse h => .isFalse (fun e => h (by cases e; rfl))
  | [], _ :: _ => .isFalse (fun e => nomatch e)
  | _ :: _, [] => .isFalse (fun e => nomatch e)
end
instance : DecidableEq Ky := Ky.dec
/-! ### places -/
inductive Stp where
  | ix (j : Nat)
  | fld (f : Str)
  | val (j : Nat)
def atF (f : Str) : List (Str × D) → Option D
  | [] => none
  | (g, d) :: r => if f = g then some d else atF f r
def setF (f : Str) (x : D) : List (Str × D) → List (Str × D)
  | [] => []
  | (g, d) :: r => if f = g then (g, x) :: r else (g, d) :: setF f x r
def atK (j : Nat) (kvs : List (Ky × D)) : Option D := kvs[j]?.map (·.2)
def setK (j : Nat) (x : D) (kvs : List (Ky × D)) : List (Ky × D) := match kvs[j]? with | some p => kvs.set j (p.1, x) | none => kvs
def dAt : D → List Stp → Option D
  | d, [] => some d
  | .lst _ ds, .ix j :: π => (ds[j]?).bind (dAt · π)
  | .tup ds, .ix j :: π => (ds[j]?).bind (dAt · π)
  | .ins _ _ fs, .fld f :: π => (atF f fs).bind (dAt · π)
  | .dic _ _ kvs, .val j :: π => (atK j kvs).bind (dAt · π)
  | _, _ => none
def dSet : D → List Stp → D → D
  | _, [], x => x
  | .lst m ds, .ix j :: π, x => match ds[j]? with | some d => .lst m (ds.set j (dSet d π x)) | none => .lst m ds
  | .tup ds, .ix j :: π, x => match ds[j]? with | some d => .tup (ds.set j (dSet d π x)) | none => .tup ds
  | .ins m C fs, .fld f :: π, x => match atF f fs with | some d => .ins m C (setF f (dSet d π x) fs) | none => .ins m C fs
  | .dic m kd kvs, .val j :: π, x => match atK j kvs with | some d => .dic m kd (setK j (dSet d π x) kvs) | none => .dic m kd kvs
  | d, _, _ => d
/-- the thing at a place, by the heap -/
def follow (K : PySem.W.Frag) (H : Hp) : V → List Stp → V → Prop
  | v, [], w => v = w
  | v, .ix j :: π, w => ∃ a xs u, v = .ref a ∧ (H a = some (.lst xs) ∨ H a = some (.tup xs)) ∧ xs[j]? = some u ∧ follow K H u π w
  | v, .fld f :: π, w => ∃ a C dx fs u, v = .ref a ∧ H a = some (.ins C dx fs) ∧ fs.lookup f = some u ∧ follow K H u π w
  | v, .val j :: π, w => ∃ a u, v = .ref a ∧ ((∃ kv k, H a = some (.dK kv) ∧ kv[j]? = some (k, u)) ∨ ∃ kv k, H a = some (.dT kv) ∧ kv[j]? = some (k, u)) ∧ follow K H u π w
section
variable {K : PySem.W.Frag} {cn : Nm} {F : Addr → Prop} {H : Hp}
theorem Reps.focus : ∀ {ds : List D} {vs : List V} {fp : Fp} {j : Nat} {d : D}, Reps K cn F H ds vs fp → ds[j]? = some d → ∃ (v : V) (f g : Fp), vs[j]? = some v ∧ (∀ a, fp a = f a + g a) ∧ Rep K cn F H d v f ∧
    ∀ d' f' F' H', Keep F F' H H' False → D.chkL (fun m => !m.isBrw) ds = true → (∀ a o, 0 < g a → H a = some o → H' a = some o) → Rep K cn F' H' d' v f' → Reps K cn F' H' (ds.set j d') vs (fun a => f' a + g a)
  | [], _, _, _, _, _, e => by simp at e
  | d :: ds, vs, fp, 0, d', ⟨v, r, f, g, e, s, h1, h2⟩, h => by
    simp at h; subst h; subst e
    refine ⟨v, f, g, rfl, s, h1, fun d' f' F' H' k hb ho hr => ⟨v, r, f', g, rfl, fun _ => rfl, hr, Reps.go k ds r g (fun z => ?_) ho h2⟩⟩
    rw [show D.chkL (fun m => !m.isBrw) ds = true from and_r hb] at z; cases z
  | d :: ds, vs, fp, j + 1, d', ⟨v, r, f, g, e, s, h1, h2⟩, h => by
    subst e
    obtain ⟨v', f', g', e', s', h', st⟩ := Reps.focus h2 (j := j) (by simpa using h)
    refine ⟨v', f', fun a => f a + g' a, by simpa using e', fun a => by have := s a; have := s' a; show _ = f' a + (f a + g' a); omega, h', fun d' f'' F' H' k hb ho hr => ?_⟩
    refine ⟨v, r, f, fun a => f'' a + g' a, rfl, fun a => by show f'' a + (f a + g' a) = f a + (f'' a + g' a); omega, Rep.go k d v f (fun z => ?_) (fun a o p => ho a o (by show 0 < f a + g' a; omega)) h1, st d' f'' F' H' k (and_r hb) (fun a o p => ho a o (by show 0 < f a + g' a; omega)) hr⟩
    rw [show d.noBrw = true from and_l hb] at z; cases z
theorem RepF.focus {c : Str} : ∀ {fs : List (Str × D)} {vs : List (Str × V)} {fp : Fp} {d : D}, RepF K cn F H fs vs fp → atF c fs = some d → ∃ (v : V) (f g : Fp), vs.lookup c = some v ∧ (∀ a, fp a = f a + g a) ∧ Rep K cn F H d v f ∧
    ∀ d' f' F' H', Keep F F' H H' False → D.chkF (fun m => !m.isBrw) fs = true → (∀ a o, 0 < g a → H a = some o → H' a = some o) → Rep K cn F' H' d' v f' → RepF K cn F' H' (setF c d' fs) vs (fun a => f' a + g a)
  | [], _, _, _, _, e => by simp [atF] at e
  | (n, d) :: ds, vs, fp, d', ⟨v, r, f, g, e, s, h1, h2⟩, h => by
    subst e
    unfold atF at h
    by_cases hn : c = n
    · rw [if_pos hn] at h
      cases h
      subst hn
      refine ⟨v, f, g, by rw [List.lookup_cons, beq_self_eq_true], s, h1, fun d' f' F' H' k hb ho hr => ?_⟩
      unfold setF
      rw [if_pos rfl]
      refine ⟨v, r, f', g, rfl, fun _ => rfl, hr, RepF.go k ds r g (fun z => ?_) ho h2⟩
      rw [show D.chkF (fun m => !m.isBrw) ds = true from and_r hb] at z; cases z
    · rw [if_neg hn] at h
      obtain ⟨v', f', g', e', s', h', st⟩ := RepF.focus h2 h
      refine ⟨v', f', fun a => f a + g' a, by rw [List.lookup_cons, beq_eq_false_iff_ne.mpr hn]; exact e', fun a => by have := s a; have := s' a; show _ = f' a + (f a + g' a); omega, h', fun d' f'' F' H' k hb ho hr => ?_⟩
      unfold setF
      rw [if_neg hn]
      refine ⟨v, r, f, fun a => f'' a + g' a, rfl, fun a => by show f'' a + (f a + g' a) = f a + (f'' a + g' a); omega, Rep.go k d v f (fun z => ?_) (fun a o p => ho a o (by show 0 < f a + g' a; omega)) h1, st d' f'' F' H' k (and_r hb) (fun a o p => ho a o (by show 0 < f a + g' a; omega)) hr⟩
      rw [show d.noBrw = true from and_l hb] at z; cases z
theorem RepK.focus : ∀ {ds : List (Ky × D)} {vs : List (Ky × V)} {fp : Fp} {j : Nat} {d : D}, RepK K cn F H ds vs fp → atK j ds = some d → ∃ (k : Ky) (v : V) (f g : Fp), vs[j]? = some (k, v) ∧ (∀ a, fp a = f a + g a) ∧ Rep K cn F H d v f ∧
    ∀ d' f' F' H', Keep F F' H H' False → D.chkK (fun m => !m.isBrw) ds = true → (∀ a o, 0 < g a → H a = some o → H' a = some o) → Rep K cn F' H' d' v f' → RepK K cn F' H' (setK j d' ds) vs (fun a => f' a + g a)
  | [], _, _, _, _, _, e => by simp [atK] at e
  | (n, d) :: ds, vs, fp, 0, d', ⟨v, r, f, g, e, s, h1, h2⟩, h => by
    simp [atK] at h; subst h; subst e
    refine ⟨n, v, f, g, rfl, s, h1, fun d' f' F' H' k hb ho hr => ⟨v, r, f', g, rfl, fun _ => rfl, hr, RepK.go k ds r g (fun z => ?_) ho h2⟩⟩
    rw [show D.chkK (fun m => !m.isBrw) ds = true from and_r hb] at z; cases z
  | (n, d) :: ds, vs, fp, j + 1, d', ⟨v, r, f, g, e, s, h1, h2⟩, h => by
    subst e
    obtain ⟨k0, v', f', g', e', s', h', st⟩ := RepK.focus h2 (j := j) (by simpa [atK] using h)
    refine ⟨k0, v', f', fun a => f a + g' a, by simpa using e', fun a => by have := s a; have := s' a; show _ = f' a + (f a + g' a); omega, h', fun d' f'' F' H' k hb ho hr => ?_⟩
    have es : setK (j + 1) d' ((n, d) :: ds) = (n, d) :: setK j d' ds := by
      unfold setK
      rw [List.getElem?_cons_succ]
      cases ds[j]? with
      | none => rfl
      | some p => rfl
    rw [es]
    refine ⟨v, r, f, fun a => f'' a + g' a, rfl, fun a => by show f'' a + (f a + g' a) = f a + (f'' a + g' a); omega, Rep.go k d v f (fun z => ?_) (fun a o p => ho a o (by show 0 < f a + g' a; omega)) h1, st d' f'' F' H' k (and_r hb) (fun a o p => ho a o (by show 0 < f a + g' a; omega)) hr⟩
    rw [show d.noBrw = true from and_l hb] at z; cases z
/-- a thing's own node put around -/
theorem At.around {m : Mk} {a : Addr} {u : HO} {fp f fs gs : Fp} (h : At F H m a u fp f) (e : ∀ b, f b = fs b + gs b) :
    ∃ g : Fp, (∀ b, fp b = fs b + g b) ∧ (∀ b, gs b ≤ g b) ∧ ∀ (f' : Fp) F' H', Keep F F' H H' False → m.isBrw = false → (∀ a o, 0 < g a → H a = some o → H' a = some o) → ((∀ b, fs b = 0) → ∀ b, f' b = 0) → At F' H' m a u (fun b => f' b + g b) (fun b => f' b + gs b) := by
  cases m with
  | own =>
    refine ⟨fun b => gs b + if b = a then 1 else 0, fun b => by have := h.2 b; have := e b; show _ = fs b + (gs b + _); omega, fun b => Nat.le_add_right _ _, fun f' F' H' k _ ho _ => ⟨ho a u (by simp) h.1, fun b => by show f' b + (gs b + _) = f' b + gs b + _; omega⟩⟩
  | frz =>
    have z : ∀ b, fs b = 0 := fun b => by have := h.2.2.1 b; have := e b; omega
    refine ⟨gs, fun b => by have := h.2.2.1 b; have := h.2.2.2 b; have := e b; omega, fun b => Nat.le_refl _, fun f' F' H' k _ ho zf => ⟨k.sub _ h.1, k.f _ _ h.1 h.2.1, fun b => by have := h.2.2.1 b; have := e b; have := zf z b; show f' b + gs b = 0; omega, fun b => by have := h.2.2.1 b; have := e b; have := zf z b; show f' b + gs b = 0; omega⟩⟩
  | brw =>
    refine ⟨gs, fun b => by have := h.2.1 b; have := h.2.2 b; have := e b; omega, fun b => Nat.le_refl _, fun f' F' H' k hb ho zf => by cases hb⟩
  | ro =>
    obtain ⟨⟨o, h0⟩, h1, h2⟩ := h
    have z : ∀ b, fs b = 0 := fun b => by have := h1 b; have := e b; omega
    refine ⟨gs, fun b => by have := h1 b; have := h2 b; have := e b; omega, fun b => Nat.le_refl _, fun f' F' H' k _ ho zf => ⟨⟨o, k.t _ _ (fun z => z) h0⟩, fun b => by have := h1 b; have := e b; have := zf z b; show f' b + gs b = 0; omega, fun b => by have := h1 b; have := e b; have := zf z b; show f' b + gs b = 0; omega⟩⟩
theorem At.hp {m : Mk} {a : Addr} {u : HO} {fp f : Fp} (h : At F H m a u fp f) (hm : m ≠ .ro) : H a = some u := by
  cases m with
  | own => exact h.1
  | frz => exact h.2.1
  | brw => exact h.1
  | ro => exact (hm rfl).elim
/-- a place that can be changed: no locked thing on the way -/
def okAt : D → List Stp → Bool
  | _, [] => true
  | .lst m ds, .ix j :: π => decide (m ≠ .ro) && (match ds[j]? with | some d => okAt d π | none => false)
  | .tup ds, .ix j :: π => (match ds[j]? with | some d => okAt d π | none => false)
  | .ins m _ fs, .fld f :: π => decide (m ≠ .ro) && (match atF f fs with | some d => okAt d π | none => false)
  | .dic m kd kvs, .val j :: π => decide (m ≠ .ro) && (match atK j kvs with | some d => okAt d π | none => false)
  | _, _ => false
theorem Rep.focus : ∀ (π : List Stp) (d : D) (v : V) (fp : Fp) (x : D), Rep K cn F H d v fp → dAt d π = some x → okAt d π = true → ∃ (w : V) (f g : Fp), follow K H v π w ∧ (∀ a, fp a = f a + g a) ∧ Rep K cn F H x w f ∧
    ∀ x' (f' : Fp) F' H', Keep F F' H H' False → d.noBrw = true → (∀ a o, 0 < g a → H a = some o → H' a = some o) → ((∀ b, f b = 0) → ∀ b, f' b = 0) → Rep K cn F' H' x' w f' → Rep K cn F' H' (dSet d π x') v (fun a => f' a + g a)
  | [], d, v, fp, x, h, e, _ => by
    rw [dAt] at e; cases e
    refine ⟨v, fp, fp0, rfl, fun a => rfl, h, fun x' f' F' H' _ _ _ _ h' => ?_⟩
    have : (fun a => f' a + fp0 a) = f' := funext fun a => rfl
    rw [this]
    unfold dSet; exact h'
  | s :: π, d, v, fp, x, h, e, hk => by
    cases d with
    | non => simp [dAt] at e
    | bl b => simp [dAt] at e
    | int b => simp [dAt] at e
    | str b => simp [dAt] at e
    | cls b => simp [dAt] at e
    | exc n b => simp [dAt] at e
    | lst m ds =>
      cases s with
      | fld c => simp [dAt] at e
      | val c => simp [dAt] at e
      | ix j =>
        rw [dAt] at e
        obtain ⟨y, e1, e2⟩ := Option.bind_eq_some_iff.mp e
        unfold okAt at hk
        rw [e1, Bool.and_eq_true, decide_eq_true_eq] at hk
        obtain ⟨a, vs, f0, ev, q, r⟩ := h
        have q' : At F H m a (.lst vs) fp f0 := by
          rcases q with q | q
          · exact q
          · exact (hk.1 q.1).elim
        obtain ⟨u, f1, g1, eu, s1, hy, w1⟩ := r.focus e1
        obtain ⟨w, f2, g2, fw, s2, hx, w2⟩ := Rep.focus π y u f1 x hy e2 hk.2
        obtain ⟨g, sg, lg, ag⟩ := q'.around (fs := f2) (gs := fun b => g2 b + g1 b) (fun b => by have := s1 b; have := s2 b; show _ = f2 b + (g2 b + g1 b); omega)
        refine ⟨w, f2, g, ⟨a, vs, u, ev, .inl (q'.hp hk.1), eu, fw⟩, sg, hx, fun x' f' F' H' k nb ho zf h' => ?_⟩
        have r2 := w2 x' f' F' H' k (chkL_get _ (and_r nb) e1) (fun b o p => ho b o (by have := lg b; omega)) zf h'
        have r1 := w1 _ _ F' H' k (and_r nb) (fun b o p => ho b o (by have := lg b; omega)) r2
        unfold dSet
        rw [e1]
        have ee : (fun a => f' a + g2 a + g1 a) = fun b => f' b + (g2 b + g1 b) := funext fun b => Nat.add_assoc _ _ _
        rw [ee] at r1
        exact ⟨a, vs, _, ev, .inl (ag f' F' H' k (not_t (and_l nb)) ho zf), r1⟩
    | tup ds =>
      cases s with
      | fld c => simp [dAt] at e
      | val c => simp [dAt] at e
      | ix j =>
        rw [dAt] at e
        obtain ⟨y, e1, e2⟩ := Option.bind_eq_some_iff.mp e
        unfold okAt at hk
        rw [e1] at hk
        obtain ⟨a, vs, ev, q, r⟩ := h
        obtain ⟨u, f1, g1, eu, s1, hy, w1⟩ := r.focus e1
        obtain ⟨w, f2, g2, fw, s2, hx, w2⟩ := Rep.focus π y u f1 x hy e2 hk
        refine ⟨w, f2, fun b => g2 b + g1 b, ⟨a, vs, u, ev, .inr q, eu, fw⟩, fun b => by have := s1 b; have := s2 b; show _ = f2 b + (g2 b + g1 b); omega, hx, fun x' f' F' H' k nb ho zf h' => ?_⟩
        have r2 := w2 x' f' F' H' k (chkL_get _ nb e1) (fun b o p => ho b o (by show 0 < g2 b + g1 b; omega)) zf h'
        have r1 := w1 _ _ F' H' k nb (fun b o p => ho b o (by show 0 < g2 b + g1 b; omega)) r2
        unfold dSet
        rw [e1]
        have ee : (fun a => f' a + g2 a + g1 a) = fun b => f' b + (g2 b + g1 b) := funext fun b => Nat.add_assoc _ _ _
        rw [ee] at r1
        exact ⟨a, vs, ev, k.t _ _ (fun z => z) q, r1⟩
    | ins m C fs =>
      cases s with
      | ix c => simp [dAt] at e
      | val c => simp [dAt] at e
      | fld c =>
        rw [dAt] at e
        obtain ⟨y, e1, e2⟩ := Option.bind_eq_some_iff.mp e
        unfold okAt at hk
        rw [e1, Bool.and_eq_true, decide_eq_true_eq] at hk
        obtain ⟨a, c0, dx, vs, f0, ev, hc, q, r⟩ := h
        obtain ⟨u, f1, g1, eu, s1, hy, w1⟩ := r.focus e1
        obtain ⟨w, f2, g2, fw, s2, hx, w2⟩ := Rep.focus π y u f1 x hy e2 hk.2
        obtain ⟨g, sg, lg, ag⟩ := q.around (fs := f2) (gs := fun b => g2 b + g1 b) (fun b => by have := s1 b; have := s2 b; show _ = f2 b + (g2 b + g1 b); omega)
        refine ⟨w, f2, g, ⟨a, c0, dx, vs, u, ev, q.hp hk.1, eu, fw⟩, sg, hx, fun x' f' F' H' k nb ho zf h' => ?_⟩
        have nby : y.noBrw = true := by
          have : ∀ {fs : List (Str × D)}, D.chkF (fun m => !m.isBrw) fs = true → atF c fs = some y → D.chk (fun m => !m.isBrw) y = true := by
            intro fs
            induction fs with
            | nil => intro _ z; simp [atF] at z
            | cons p fs ih =>
              intro hb z
              obtain ⟨n, d⟩ := p
              unfold atF at z
              split at z
              · cases z; exact and_l hb
              · exact ih (and_r hb) z
          exact this (and_r nb) e1
        have r2 := w2 x' f' F' H' k nby (fun b o p => ho b o (by have := lg b; omega)) zf h'
        have r1 := w1 _ _ F' H' k (and_r nb) (fun b o p => ho b o (by have := lg b; omega)) r2
        unfold dSet
        rw [e1]
        have ee : (fun a => f' a + g2 a + g1 a) = fun b => f' b + (g2 b + g1 b) := funext fun b => Nat.add_assoc _ _ _
        rw [ee] at r1
        exact ⟨a, c0, dx, vs, _, ev, hc, ag f' F' H' k (not_t (and_l nb)) ho zf, r1⟩
    | dic m kd kvs =>
      cases s with
      | ix c => simp [dAt] at e
      | fld c => simp [dAt] at e
      | val j =>
        rw [dAt] at e
        obtain ⟨y, e1, e2⟩ := Option.bind_eq_some_iff.mp e
        unfold okAt at hk
        rw [e1, Bool.and_eq_true, decide_eq_true_eq] at hk
        have nby : D.chkK (fun m => !m.isBrw) kvs = true → y.noBrw = true := by
          intro hb
          have e1' := e1
          unfold atK at e1'
          rw [Option.map_eq_some_iff] at e1'
          obtain ⟨⟨k, d⟩, hp, rfl⟩ := e1'
          have : ∀ {kvs : List (Ky × D)} {j : Nat}, D.chkK (fun m => !m.isBrw) kvs = true → kvs[j]? = some (k, d) → D.chk (fun m => !m.isBrw) d = true := by
            intro kvs
            induction kvs with
            | nil => intro j _ z; simp at z
            | cons p kvs ih =>
              intro j hb z
              obtain ⟨n, d0⟩ := p
              cases j with
              | zero => simp at z; rw [← z.2]; exact and_l hb
              | succ j => exact ih (and_r hb) (by simpa using z)
          exact this hb hp
        obtain ⟨a, f0, ev, q⟩ := h
        rcases q with ⟨hk9, kv, q, r⟩ | ⟨hk9, kv, q, r⟩
        · obtain ⟨ky, u, f1, g1, eu, s1, hy, w1⟩ := r.focus e1
          rw [List.getElem?_map, Option.map_eq_some_iff] at eu
          obtain ⟨⟨k0, u0⟩, eu, ep⟩ := eu
          cases ep
          obtain ⟨w, f2, g2, fw, s2, hx, w2⟩ := Rep.focus π y u0 f1 x hy e2 hk.2
          obtain ⟨g, sg, lg, ag⟩ := q.around (fs := f2) (gs := fun b => g2 b + g1 b) (fun b => by have := s1 b; have := s2 b; show _ = f2 b + (g2 b + g1 b); omega)
          refine ⟨w, f2, g, ⟨a, u0, ev, .inl ⟨kv, k0, q.hp hk.1, eu⟩, fw⟩, sg, hx, fun x' f' F' H' k nb ho zf h' => ?_⟩
          have r2 := w2 x' f' F' H' k (nby (and_r nb)) (fun b o p => ho b o (by have := lg b; omega)) zf h'
          have r1 := w1 _ _ F' H' k (and_r nb) (fun b o p => ho b o (by have := lg b; omega)) r2
          unfold dSet
          rw [e1]
          have ee : (fun a => f' a + g2 a + g1 a) = fun b => f' b + (g2 b + g1 b) := funext fun b => Nat.add_assoc _ _ _
          rw [ee] at r1
          exact ⟨a, _, ev, .inl ⟨hk9, kv, ag f' F' H' k (not_t (and_l nb)) ho zf, r1⟩⟩
        · obtain ⟨ky, u, f1, g1, eu, s1, hy, w1⟩ := r.focus e1
          rw [List.getElem?_map, Option.map_eq_some_iff] at eu
          obtain ⟨⟨k0, u0⟩, eu, ep⟩ := eu
          cases ep
          obtain ⟨w, f2, g2, fw, s2, hx, w2⟩ := Rep.focus π y u0 f1 x hy e2 hk.2
          obtain ⟨g, sg, lg, ag⟩ := q.around (fs := f2) (gs := fun b => g2 b + g1 b) (fun b => by have := s1 b; have := s2 b; show _ = f2 b + (g2 b + g1 b); omega)
          refine ⟨w, f2, g, ⟨a, u0, ev, .inr ⟨kv, k0, q.hp hk.1, eu⟩, fw⟩, sg, hx, fun x' f' F' H' k nb ho zf h' => ?_⟩
          have r2 := w2 x' f' F' H' k (nby (and_r nb)) (fun b o p => ho b o (by have := lg b; omega)) zf h'
          have r1 := w1 _ _ F' H' k (and_r nb) (fun b o p => ho b o (by have := lg b; omega)) r2
          unfold dSet
          rw [e1]
          have ee : (fun a => f' a + g2 a + g1 a) = fun b => f' b + (g2 b + g1 b) := funext fun b => Nat.add_assoc _ _ _
          rw [ee] at r1
          exact ⟨a, _, ev, .inr ⟨hk9, kv, ag f' F' H' k (not_t (and_l nb)) ho zf, r1⟩⟩
end
end DL

end
section
/-! DL11: lists changed in place. -/
open PySem PySem.Spec L2
namespace DL
theorem follow_det {K : PySem.W.Frag} {H : Hp} : ∀ (π : List Stp) {v w w' : V}, follow K H v π w → follow K H v π w' → w = w'
  | [], v, w, w', a, b => by rw [← (show v = w from a)]; exact b
  | .ix j :: π, v, w, w', ⟨a, xs, u, e, h, g, f⟩, ⟨a', xs', u', e', h', g', f'⟩ => by
    subst e; cases e'
    have : xs = xs' := by
      rcases h with h | h <;> rcases h' with h' | h' <;> (rw [h] at h'; first | (cases h'; rfl) | cases h')
    subst this
    rw [g] at g'; cases g'
    exact follow_det π f f'
  | .fld c :: π, v, w, w', ⟨a, C, dx, fs, u, e, h, g, f⟩, ⟨a', C', dx', fs', u', e', h', g', f'⟩ => by
    subst e; cases e'
    rw [h] at h'; cases h'
    rw [g] at g'; cases g'
    exact follow_det π f f'
  | .val j :: π, v, w, w', ⟨a, u, e, h, f⟩, ⟨a', u', e', h', f'⟩ => by
    subst e; cases e'
    have : u = u' := by
      rcases h with ⟨kv, k, h, g⟩ | ⟨kv, k, h, g⟩ <;> rcases h' with ⟨kv', k', h', g'⟩ | ⟨kv', k', h', g'⟩ <;> (rw [h] at h'; first | (cases h'; rw [g] at g'; cases g'; rfl) | cases h')
    subst this
    exact follow_det π f f'
theorem follow_ext {K : PySem.W.Frag} {H H' : Hp} (x : Ext H H') : ∀ (π : List Stp) {v w : V}, follow K H v π w → follow K H' v π w
  | [], v, w, a => a
  | .ix j :: π, v, w, ⟨a, xs, u, e, h, g, f⟩ => ⟨a, xs, u, e, h.elim (fun h => .inl (x _ _ h)) (fun h => .inr (x _ _ h)), g, follow_ext x π f⟩
  | .fld c :: π, v, w, ⟨a, C, dx, fs, u, e, h, g, f⟩ => ⟨a, C, dx, fs, u, e, x _ _ h, g, follow_ext x π f⟩
  | .val j :: π, v, w, ⟨a, u, e, h, f⟩ => ⟨a, u, e, h.elim (fun ⟨kv, k, h, g⟩ => .inl ⟨kv, k, x _ _ h, g⟩) (fun ⟨kv, k, h, g⟩ => .inr ⟨kv, k, x _ _ h, g⟩), follow_ext x π f⟩
theorem follow_snoc {K : PySem.W.Frag} {H : Hp} (s : Stp) : ∀ (π : List Stp) {v w u : V}, follow K H v π w → follow K H w [s] u → follow K H v (π ++ [s]) u
  | [], v, w, u, a, b => by rw [show v = w from a]; exact b
  | .ix j :: π, v, w, u, ⟨a, xs, z, e, h, g, f⟩, b => ⟨a, xs, z, e, h, g, follow_snoc s π f b⟩
  | .fld c :: π, v, w, u, ⟨a, C, dx, fs, z, e, h, g, f⟩, b => ⟨a, C, dx, fs, z, e, h, g, follow_snoc s π f b⟩
  | .val j :: π, v, w, u, ⟨a, z, e, h, f⟩, b => ⟨a, z, e, h, follow_snoc s π f b⟩
theorem dAt_snoc (s : Stp) : ∀ (π : List Stp) (d : D), dAt d (π ++ [s]) = (dAt d π).bind (dAt · [s])
  | [], d => by simp [dAt]
  | t :: π, d => by
    cases d <;> cases t <;> simp [dAt]
    · rename_i ds j; cases ds[j]? <;> simp [dAt_snoc s π]
    · rename_i m ds j; cases ds[j]? <;> simp [dAt_snoc s π]
    · rename_i m ds j; cases atK j ds <;> simp [dAt_snoc s π]
    · rename_i m C ds j; cases atF j ds <;> simp [dAt_snoc s π]
theorem okAt_snoc (s : Stp) : ∀ (π : List Stp) (d x : D), dAt d π = some x → okAt d (π ++ [s]) = (okAt d π && okAt x [s])
  | [], d, x, h => by rw [dAt] at h; cases h; simp [okAt]
  | t :: π, d, x, h => by
    cases d <;> cases t <;> simp [dAt, Option.bind_eq_some_iff] at h <;> (obtain ⟨y, h1, h2⟩ := h; simp only [List.cons_append, okAt, h1]; rw [okAt_snoc s π y x h2]; try first | rfl | rw [Bool.and_assoc])
mutual
theorem chkL_set (p : Mk → Bool) : ∀ (ds : List D) (j : Nat) (x : D), D.chkL p ds = true → D.chk p x = true → D.chkL p (ds.set j x) = true
  | [], j, x, h, hx => h
  | d :: ds, 0, x, h, hx => by show (D.chk p x && D.chkL p ds) = true; rw [hx, and_r h]; rfl
  | d :: ds, j + 1, x, h, hx => by show (D.chk p d && D.chkL p (ds.set j x)) = true; rw [and_l h, chkL_set p ds j x (and_r h) hx]; rfl
end
theorem chkF_set (p : Mk → Bool) (c : Str) : ∀ (ds : List (Str × D)) (x : D), D.chkF p ds = true → D.chk p x = true → D.chkF p (setF c x ds) = true
  | [], x, h, hx => h
  | (n, d) :: ds, x, h, hx => by
    unfold setF
    split
    · show (D.chk p x && D.chkF p ds) = true; rw [hx, and_r h]; rfl
    · show (D.chk p d && D.chkF p (setF c x ds)) = true; rw [and_l h, chkF_set p c ds x (and_r h) hx]; rfl
theorem chkF_at (p : Mk → Bool) (c : Str) : ∀ {ds : List (Str × D)} {x : D}, D.chkF p ds = true → atF c ds = some x → D.chk p x = true
  | [], x, h, hx => by simp [atF] at hx
  | (n, d) :: ds, x, h, hx => by
    unfold atF at hx
    split at hx
    · cases hx; exact and_l h
    · exact chkF_at p c (and_r h) hx
theorem chkK_at (p : Mk → Bool) : ∀ {ds : List (Ky × D)} {j : Nat} {x : D}, D.chkK p ds = true → atK j ds = some x → D.chk p x = true
  | [], j, x, h, hx => by simp [atK] at hx
  | (n, d) :: ds, 0, x, h, hx => by simp [atK] at hx; subst hx; exact and_l h
  | (n, d) :: ds, j + 1, x, h, hx => chkK_at p (and_r h) (j := j) (by simpa [atK] using hx)
theorem chkK_set (p : Mk → Bool) : ∀ (ds : List (Ky × D)) (j : Nat) (x : D), D.chkK p ds = true → D.chk p x = true → D.chkK p (setK j x ds) = true
  | [], j, x, h, hx => h
  | (n, d) :: ds, 0, x, h, hx => by show (D.chk p x && D.chkK p ds) = true; rw [hx, and_r h]; rfl
  | (n, d) :: ds, j + 1, x, h, hx => by
    have es : setK (j + 1) x ((n, d) :: ds) = (n, d) :: setK j x ds := by
      unfold setK
      rw [List.getElem?_cons_succ]
      cases ds[j]? <;> rfl
    rw [es]
    show (D.chk p d && D.chkK p (setK j x ds)) = true; rw [and_l h, chkK_set p ds j x (and_r h) hx]; rfl
theorem chk_dSet (p : Mk → Bool) : ∀ (π : List Stp) (d x : D), D.chk p d = true → D.chk p x = true → D.chk p (dSet d π x) = true
  | [], d, x, h, hx => by unfold dSet; exact hx
  | s :: π, d, x, h, hx => by
    cases d <;> cases s <;> unfold dSet <;> first | exact h | skip
    · split
      · rename_i e
        exact chkL_set p _ _ _ h (chk_dSet p π _ x (chkL_get p h e) hx)
      · exact h
    · rename_i m ds j
      split
      · rename_i e
        show (p m && D.chkL p _) = true
        rw [and_l h, chkL_set p _ _ _ (and_r h) (chk_dSet p π _ x (chkL_get p (and_r h) e) hx)]; rfl
      · exact h
    · rename_i m kd ds j
      split
      · rename_i e
        show (p m && D.chkK p _) = true
        rw [and_l h, chkK_set p _ _ _ (and_r h) (chk_dSet p π _ x (chkK_at p (and_r h) e) hx)]; rfl
      · exact h
    · rename_i m C ds j
      split
      · rename_i e
        show (p m && D.chkF p _) = true
        rw [and_l h, chkF_set p _ _ _ (and_r h) (chk_dSet p π _ x (chkF_at p _ (and_r h) e) hx)]; rfl
      · exact h
theorem setS_setS : ∀ (ρ : Env) (i : Nat) (x y : Option D), setS (setS ρ i x) i y = setS ρ i y
  | [], _, _, _ => rfl
  | a :: ρ, 0, x, y => rfl
  | a :: ρ, i + 1, x, y => by show a :: setS (setS ρ i x) i y = a :: setS ρ i y; rw [setS_setS]
theorem getS_lt : ∀ {ρ : Env} {i : Nat} {d : D}, getS ρ i = some d → i < ρ.length
  | [], _, _, h => by simp [getS] at h
  | a :: ρ, 0, d, h => Nat.zero_lt_succ _
  | a :: ρ, i + 1, d, h => Nat.succ_lt_succ (getS_lt (ρ := ρ) h)
section
variable {Γ : Ctx} {F F' : Addr → Prop} {fh fs fh' fs' : Fp} {hold hold' : Hold} {ρ ρ' : Env} {σ σ' : L2.St} {H H' : Hp}
/-- a thing at a place of a slot is changed: the object at p becomes o -/
theorem SI.change {vs : List V} {args : List D} {i : Nat} {d x : D} {π : List Stp} (s : SI Γ (vs.zip args ++ hold) ρ σ H) (l : vs.length = args.length) (nbh : hold.noBrw) (hi : getS ρ i = some d) (hx : dAt d π = some x) (ok : okAt d π = true) (hown : Γ.own i = true) :
    ∃ (r w : V) (F : Addr → Prop) (f fa : Fp), σ[i]? = some (some r) ∧ follow Γ.K H r π w ∧ Rep Γ.K Γ.cn F H x w f ∧ Reps Γ.K Γ.cn F H args vs fa ∧ (∀ a, f a + fa a ≤ 1) ∧ (∀ a, 0 < f a → ¬ F a) ∧
      ∀ (p : Addr) (o : HO) (x' du : D) (u : V) (f' k : Fp), 0 < f p → (∀ b, f' b + k b ≤ f b + fa b) → x'.noBrw = true → Rep Γ.K Γ.cn F (upd H p o) x' w f' → Rep Γ.K Γ.cn F (upd H p o) du u k → SI Γ ((u, du) :: hold) (setS ρ i (some (dSet d π x'))) σ (upd H p o) := by
  obtain ⟨F, fa, fh, fs, ha, s, hh⟩ := s.block l
  obtain ⟨r, f0, gs, er, hr, nb, e0, hsl⟩ := s.ss.take hi
  obtain ⟨w, f, g, fw, e1, hxw, wd⟩ := Rep.focus π d r f0 x hr hx ok
  refine ⟨r, w, F, f, fa, er, fw, hxw, ha, fun a => ?_, fun a p => (s.ow a (show 0 < fa a + fh a + fs a by have := e0 a; have := e1 a; omega)).1, fun p o x' du u f' k hp le nbx hx' hu => ?_⟩
  · have := s.nd a; have := e0 a; have := e1 a
    have q : fa a + fh a + fs a ≤ 1 := s.nd a
    omega
  · have qp : fa p + fh p + fs p ≤ 1 := s.nd p
    have own := s.ow p (show 0 < fa p + fh p + fs p by have := e0 p; have := e1 p; omega)
    have mu : Mut (H p) := Rep.alloc _ _ _ hxw p hp
    have K0 : Keep F F H (upd H p o) False := Keep.upd mu own.1
    have away : ∀ {f9 : Fp}, f9 p = 0 → ∀ a o', 0 < f9 a → H a = some o' → upd H p o a = some o' := fun {f9} z a o' pos h => by
      rw [upd_ne]; exact h
      rintro rfl; omega
    have hgp : g p = 0 ∧ gs p = 0 ∧ fh p = 0 := by have := e0 p; have := e1 p; omega
    have hnew := wd x' f' F (upd H p o) K0 nb (away hgp.1) (fun z => by have := z p; omega) hx'
    have hsl' := Slots.go K0 (away hgp.2.1) hsl
    have hlen : i < (setS ρ i none).length := by rw [setS_length]; exact getS_lt hi
    obtain ⟨g', le', hsl2⟩ := Slots.put (fp' := gs) i r (dSet d π x') hsl' hlen (chk_dSet _ π d x' nb nbx) hnew
    rw [setS_setS] at hsl2
    have es : σ.set i (some r) = σ := by
      obtain ⟨hl, e⟩ := List.getElem?_eq_some_iff.mp er
      rw [← e]; exact List.set_getElem_self hl
    rw [es] at hsl2
    have hh' := Reps.go K0 _ _ _ (fun z => by rw [show D.chkL (fun m => !m.isBrw) (hold.map (·.2)) = true from nbh] at z; cases z) (away hgp.2.2) hh
    refine ⟨F, fun a => k a + fh a, g', s.mut (hold' := (u, du) :: hold) (by show 0 < fa p + fh p + fs p; have := e0 p; have := e1 p; omega) ⟨u, _, k, fh, rfl, fun _ => rfl, hu, hh'⟩ hsl2 (fun a => ?_) fun j y hy hj => ?_⟩
    · have := le a; have := le' a; have := e0 a; have := e1 a
      show k a + fh a + g' a ≤ fa a + fh a + fs a
      have q : g' a ≤ gs a + (f' a + g a) := le' a
      omega
    · rcases getS_set hy with ⟨e1, e2⟩ | ⟨e1, e2⟩
      · subst e1; rw [hown] at hj; cases hj
      · exact s.mo j y e2 hj
end

/-! ### receivers -/
abbrev LF := Env → Option (List Stp)
def tL (Γ : Ctx) (i : Nat) (πf : LF) : TE := fun σ H Q => ∃ hold ρ, SI Γ hold ρ σ H ∧ ∃ π d x, πf ρ = some π ∧ getS ρ i = some d ∧ dAt d π = some x ∧ okAt d π = true ∧ ∀ v H', Ext H H' → SI Γ hold ρ σ H' → (∃ r, σ[i]? = some (some r) ∧ follow Γ.K H' r π v) → Q v H'
def l0 : LF := fun _ => some []
section
variable {X : Cx} {Γ : Ctx} {W : WX} {e a b : Expr} {es : List Expr} {f g p : PF} {fs : List PF} {pos : Pos}
theorem l_var {i : Nat} {x : Str} (hN : X.N[i]? = some x) (hv : Vis X.env.scope x) (hd : (x == ("__debug__" : Str)) = false := by decide) (hcd : (x == ("__classdict__" : Str)) = false := by decide) : PE X (.Name x pos) (tL Γ i l0) :=
  PE.wk (pe_var hN hv hd hcd) fun σ H Q ⟨hold, ρ, s, π, d, x, e1, e2, e3, e4, k⟩ => by
    cases e1
    obtain ⟨F, fh, fs, s⟩ := s
    obtain ⟨v, f, ev, _⟩ := s.ss.get e2
    exact ⟨v, ev, k v H Ext.refl ⟨F, fh, fs, s⟩ ⟨v, ev, rfl⟩⟩
/-- an operation that changes a list: its items, the arguments; the items then, the answer -/
abbrev OL := List D → List D → Option (List D × D)
def OpL (Γ : Ctx) (r : V → List V → Hp → VK → Prop) (o : OL) : Prop := ∀ (F : Addr → Prop) (H : Hp) (a : Addr) (ds : List D) (ws : List V) (f : Fp) (args : List D) (vs : List V) (fa : Fp) (ds2 : List D) (d : D) (Q : VK), o ds args = some (ds2, d) → H a = some (.lst ws) →
  Reps Γ.K Γ.cn F H ds ws f → Reps Γ.K Γ.cn F H args vs fa → D.chkL (fun m => !m.isBrw) ds = true → D.chkL (fun m => !m.isBrw) args = true →
  (∀ ws2 u (f2 k : Fp), (∀ b, f2 b + k b ≤ f b + fa b) → D.chkL (fun m => !m.isBrw) ds2 = true → d.noBrw = true → Reps Γ.K Γ.cn F H ds2 ws2 f2 → Rep Γ.K Γ.cn F H d u k → Q u (upd H a (.lst ws2))) → r (.ref a) vs H Q
def ownL : Option D → Option (List D)
  | some (.lst .own ds) => some ds
  | _ => none
theorem ownL_some {o : Option D} {ds : List D} (h : ownL o = some ds) : o = some (.lst .own ds) := by
  unfold ownL at h
  split at h
  · cases h; rfl
  · cases h
def eL (o : OL) (i : Nat) (fs : List EF) : EF := fun ρ => match ownL (getS ρ i) with
  | some _ => (match evE fs ρ with
    | some (.ok args ρ') => if D.chkL (fun m => !m.isBrw) args = true then (match ownL (getS ρ' i) with
      | some ds => (o ds args).map fun p => .ok p.2 (setS ρ' i (some (.lst .own p.1)))
      | none => none) else none
    | some (.ex n xs ρ') => some (.ex n xs ρ')
    | none => none)
  | none => none
theorem noBrw_app {h1 h2 : Hold} (h : Hold.noBrw h2) (z : D.chkL (fun m => !m.isBrw) (h1.map (·.2)) = true) : Hold.noBrw (h1 ++ h2) := by
  unfold Hold.noBrw
  rw [List.map_append]
  have : ∀ (as bs : List D), D.chkL (fun m => !m.isBrw) as = true → D.chkL (fun m => !m.isBrw) bs = true → D.chkL (fun m => !m.isBrw) (as ++ bs) = true := by
    intro as
    induction as with
    | nil => intro bs _ h; exact h
    | cons a as ih => intro bs h h'; show (D.chk _ a && D.chkL _ (as ++ bs)) = true; rw [and_l h, ih bs (and_r h) h']; rfl
  exact this _ _ z h
theorem op_change {r : V → List V → Hp → VK → Prop} {o : OL} (ho : OpL Γ r o) {hold : Hold} {ρ : Env} {σ : L2.St} {H : Hp} {vs : List V} {args : List D} {i : Nat} {d : D} {π : List Stp} {ds ds2 : List D} {du : D} {Q : VK} (s : SI Γ (vs.zip args ++ hold) ρ σ H) (l : vs.length = args.length) (nbh : hold.noBrw) (hi : getS ρ i = some d) (hx : dAt d π = some (.lst .own ds)) (ok : okAt d π = true) (hown : Γ.own i = true) (nba : D.chkL (fun m => !m.isBrw) args = true)
    (e : o ds args = some (ds2, du)) {v : V} (hv : ∃ r, σ[i]? = some (some r) ∧ follow Γ.K H r π v) (k : ∀ u H', SI Γ ((u, du) :: hold) (setS ρ i (some (dSet d π (.lst .own ds2)))) σ H' → Q u H') : r v vs H Q := by
  have nbd : D.chkL (fun m => !m.isBrw) ds = true := by
    obtain ⟨F, fh, fs, s⟩ := s
    obtain ⟨_, _, _, _, nb, _⟩ := s.ss.get hi
    have : ∀ (π : List Stp) (d x : D), D.chk (fun m => !m.isBrw) d = true → dAt d π = some x → D.chk (fun m => !m.isBrw) x = true := by
      intro π
      induction π with
      | nil => intro d x h e; rw [dAt] at e; cases e; exact h
      | cons t π ih =>
        intro d x h e
        cases d <;> cases t <;> simp [dAt, Option.bind_eq_some_iff] at e
        · obtain ⟨y, h1, h2⟩ := e; exact ih y x (chkL_get _ h h1) h2
        · obtain ⟨y, h1, h2⟩ := e; exact ih y x (chkL_get _ (and_r h) h1) h2
        · obtain ⟨y, h1, h2⟩ := e; exact ih y x (chkK_at _ (and_r h) h1) h2
        · obtain ⟨y, h1, h2⟩ := e; exact ih y x (chkF_at _ _ (and_r h) h1) h2
    exact and_r (a := !Mk.isBrw .own) (this π d _ nb hx)
  obtain ⟨rr, w, F, f, fa, er, fw, hxw, hargs, le1, nF, step⟩ := s.change l nbh hi hx ok hown
  obtain ⟨r', er', fv⟩ := hv
  rw [er] at er'; cases er'
  obtain rfl := follow_det π fw fv
  obtain ⟨p, ws, f1, ew, q, hr⟩ := hxw
  subst ew
  have q' : H p = some (.lst ws) ∧ ∀ b, f b = f1 b + if b = p then 1 else 0 := by
    rcases q with q | q
    · exact q
    · cases q.1
  have hp : 0 < f p := by have := q'.2 p; simp at this; omega
  refine ho F H p ds ws f1 args vs fa ds2 du Q e q'.1 hr hargs nbd nba fun ws2 u f2 k2 le nb2 nbu h2 hu => ?_
  have zp : f1 p = 0 ∧ fa p = 0 := by have := q'.2 p; simp at this; have := le1 p; omega
  have mu : Mut (H p) := by rw [q'.1]; trivial
  have K0 : Keep F F H (upd H p (.lst ws2)) False := Keep.upd mu (nF p hp)
  have away : ∀ {f9 : Fp}, f9 p = 0 → ∀ a o', 0 < f9 a → H a = some o' → upd H p (.lst ws2) a = some o' := fun {f9} z a o' pos h => by
    rw [upd_ne]; exact h
    rintro rfl; omega
  have zz : f2 p = 0 ∧ k2 p = 0 := by have := le p; omega
  refine k u _ (step p (.lst ws2) (.lst .own ds2) du u (fun b => f2 b + if b = p then 1 else 0) k2 hp (fun b => ?_) ?_ ⟨p, ws2, f2, rfl, .inl ⟨upd_same, fun _ => rfl⟩, ?_⟩ ?_)
  · have := le b; have := q'.2 b
    show f2 b + (if b = p then 1 else 0) + k2 b ≤ f b + fa b
    omega
  · show ((!Mk.isBrw .own) && D.chkL (fun m => !m.isBrw) ds2) = true
    rw [nb2]; rfl
  · exact Reps.go K0 _ _ _ (fun z => by rw [nb2] at z; cases z) (away zz.1) h2
  · exact Rep.go K0 _ _ _ (fun z => by rw [nbu] at z; cases z) (away zz.2) hu
end
end DL

end
section
/-! DL12: the methods of lists, x[i] = e. -/
open PySem PySem.Spec L2
namespace DL
section
variable {Γ : Ctx}
theorem Reps.sing {K : PySem.W.Frag} {cn : Nm} {F : Addr → Prop} {H : Hp} {d : D} {vs : List V} {f : Fp} (h : Reps K cn F H [d] vs f) : ∃ v, vs = [v] ∧ Rep K cn F H d v f := by
  obtain ⟨v, r, f1, g, e, s, h1, h2⟩ := h
  obtain ⟨h2, z⟩ := h2
  subst h2
  have : f = f1 := funext fun a => by have := s a; have := z a; omega
  rw [this]
  exact ⟨v, e, h1⟩
theorem Reps.pair {K : PySem.W.Frag} {cn : Nm} {F : Addr → Prop} {H : Hp} {d e : D} {vs : List V} {f : Fp} (h : Reps K cn F H [d, e] vs f) : ∃ v w f1 f2, vs = [v, w] ∧ Rep K cn F H d v f1 ∧ Rep K cn F H e w f2 ∧ ∀ a, f a = f1 a + f2 a := by
  obtain ⟨v, r, f1, g, e, s, h1, h2⟩ := h
  obtain ⟨w, hw, h3⟩ := Reps.sing h2
  subst hw
  exact ⟨v, w, f1, g, e, h1, h3, s⟩
theorem chkL_app (p : Mk → Bool) : ∀ (as bs : List D), D.chkL p (as ++ bs) = (D.chkL p as && D.chkL p bs)
  | [], bs => rfl
  | a :: as, bs => by show (D.chk p a && D.chkL p (as ++ bs)) = _; rw [chkL_app p as bs, ← Bool.and_assoc]; rfl
theorem chkL_take (p : Mk → Bool) : ∀ (n : Nat) (as : List D), D.chkL p as = true → D.chkL p (as.take n) = true
  | 0, as, h => by rw [List.take_zero]; rfl
  | n + 1, [], h => rfl
  | n + 1, a :: as, h => by show (D.chk p a && D.chkL p (as.take n)) = true; rw [and_l h, chkL_take p n as (and_r h)]; rfl
theorem chkL_drop (p : Mk → Bool) : ∀ (n : Nat) (as : List D), D.chkL p as = true → D.chkL p (as.drop n) = true
  | 0, as, h => h
  | n + 1, [], h => rfl
  | n + 1, a :: as, h => chkL_drop p n as (and_r h)
/-- append -/
def oApp : OL := fun ds args => match args with | [d] => if ds.length < sizeLine then some (ds ++ [d], .non) else none | _ => none
theorem oApp_ok : OpL Γ rAppend oApp := fun F H a ds ws f args vs fa ds2 d Q e hH hr ha nb nba k => by
  unfold oApp at e
  split at e
  · split at e
    · rename_i x hl
      cases e
      obtain ⟨v, rfl, hx⟩ := Reps.sing ha
      refine ⟨a, ws, v, rfl, rfl, hH, by rw [← hr.len]; exact hl, k _ .non (fun b => f b + fa b) fp0 (fun b => Nat.le_refl _) (by rw [chkL_app, nb, nba]; rfl) rfl (Reps.app hr (Reps.one hx) fun _ => rfl) ⟨rfl, fun _ => rfl⟩⟩
    · cases e
  · cases e
/-- extend by a list -/
def oExt : OL := fun ds args => match args with | [.lst m es] => if m ≠ .ro ∧ ds.length + es.length ≤ sizeLine then some (ds ++ es, .non) else none | _ => none
theorem oExt_ok : OpL Γ rExtend oExt := fun F H a ds ws f args vs fa ds2 d Q e hH hr ha nb nba k => by
  unfold oExt at e
  split at e
  · split at e
    · rename_i m es hl
      cases e
      obtain ⟨v, rfl, p, ws2, f2, ev, q, hx⟩ := Reps.sing ha
      subst ev
      refine ⟨a, p, ws, ws2, rfl, rfl, hH, lst_at q hl.1, by rw [← hr.len, ← hx.len]; exact hl.2, k _ .non (fun b => f b + f2 b) fp0 (fun b => by have := lst_le q b; show f b + f2 b + 0 ≤ _; omega) (by rw [chkL_app, nb, show D.chkL (fun m => !m.isBrw) es = true from and_r (a := !m.isBrw) (and_l nba)]; rfl) rfl (Reps.app hr hx fun _ => rfl) ⟨rfl, fun _ => rfl⟩⟩
    · cases e
  · cases e
/-- insert at a place from 0 on -/
def rIns : V → List V → Hp → VK → Prop := fun x vs H Q => ∃ (l : Addr) (xs : List V) (i : Int) (y : V), x = .ref l ∧ vs = [.int i, y] ∧ H l = some (.lst xs) ∧ xs.length < sizeLine ∧ 0 ≤ i ∧ i < 2 ^ 63 ∧ Q .non (upd H l (.lst (xs.take i.toNat ++ [y] ++ xs.drop i.toNat)))
def oIns : OL := fun ds args => match args with | [.int i, d] => if ds.length < sizeLine ∧ 0 ≤ i ∧ i < 2 ^ 63 then some (ds.take i.toNat ++ [d] ++ ds.drop i.toNat, .non) else none | _ => none
theorem Reps.cutAt {K : PySem.W.Frag} {cn : Nm} {F : Addr → Prop} {H : Hp} : ∀ (n : Nat) {ds : List D} {vs : List V} {fp : Fp}, Reps K cn F H ds vs fp → ∃ f g, (∀ a, fp a = f a + g a) ∧ Reps K cn F H (ds.take n) (vs.take n) f ∧ Reps K cn F H (ds.drop n) (vs.drop n) g
  | 0, ds, vs, fp, h => ⟨fp0, fp, fun a => by show _ = 0 + _; omega, by rw [List.take_zero, List.take_zero]; exact ⟨rfl, fun _ => rfl⟩, h⟩
  | n + 1, [], vs, fp, h => by rw [h.1]; exact ⟨fp0, fp, fun a => by show _ = 0 + _; omega, ⟨rfl, fun _ => rfl⟩, ⟨rfl, h.2⟩⟩
  | n + 1, d :: ds, vs, fp, ⟨v, r, f, g, e, s, h1, h2⟩ => by
    subst e
    obtain ⟨f', g', e', a, b⟩ := Reps.cutAt n h2
    exact ⟨fun a => f a + f' a, g', fun a => by have := s a; have := e' a; show _ = f a + f' a + g' a; omega, ⟨v, _, f, f', rfl, fun _ => rfl, h1, a⟩, b⟩
theorem oIns_ok : OpL Γ rIns oIns := fun F H a ds ws f args vs fa ds2 d Q e hH hr ha nb nba k => by
  unfold oIns at e
  split at e
  · split at e
    · rename_i i x hl
      cases e
      obtain ⟨v, w, f1, f2, rfl, h1, h2, s⟩ := Reps.pair ha
      obtain ⟨f3, f4, e3, h3, h4⟩ := hr.cutAt i.toNat
      refine ⟨a, ws, i, w, rfl, by rw [h1.1], hH, by rw [← hr.len]; exact hl.1, hl.2.1, hl.2.2, k _ .non (fun b => (f3 b + f2 b) + f4 b) fp0 (fun b => by have := e3 b; have := s b; show f3 b + f2 b + f4 b + 0 ≤ _; omega) ?_ rfl (Reps.app (Reps.app h3 (Reps.one h2) fun _ => rfl) h4 fun _ => rfl) ⟨rfl, fun _ => rfl⟩⟩
      rw [chkL_app, chkL_app, chkL_take _ _ _ nb, chkL_drop _ _ _ nb]
      have : D.chkL (fun m => !m.isBrw) [x] = true := and_r (a := true) nba
      rw [this]; rfl
    · cases e
  · cases e
/-- pop() -/
def oPop : OL := fun ds args => match args with | [] => (ds.getLast?).map fun d => (ds.dropLast, d) | _ => none
theorem oPop_ok : OpL Γ rPop oPop := fun F H a ds ws f args vs fa ds2 d Q e hH hr ha nb nba k => by
  unfold oPop at e
  split at e
  · rw [Option.map_eq_some_iff] at e
    obtain ⟨x, e1, e2⟩ := e
    cases e2
    have hd : ds = ds.dropLast ++ [d] := by
      have hne : ds ≠ [] := by rintro rfl; cases e1
      have e3 : d = ds.getLast hne := Option.some.inj (e1.symm.trans (List.getLast?_eq_some_getLast hne))
      rw [e3]
      exact (List.dropLast_concat_getLast hne).symm
    have hr2 := hr
    rw [hd] at hr2
    obtain ⟨v1, v2, f1, f2, ev, s, h1, h2⟩ := Reps.split hr2
    obtain ⟨w, rfl, hw⟩ := Reps.sing h2
    have e0 : vs = [] := ha.1
    subst e0
    have nb2 := nb
    rw [hd, chkL_app] at nb2
    refine ⟨a, ws, w, rfl, rfl, hH, ?_, ?_⟩
    · rw [ev, List.length_append, List.length_singleton, Nat.add_sub_cancel, List.getElem?_append_right (Nat.le_refl _), Nat.sub_self]; rfl
    · have : ws.dropLast = v1 := by rw [ev, List.dropLast_concat]
      rw [this]
      exact k v1 w f1 f2 (fun b => by have := s b; have := ha.2 b; omega) (and_l nb2) (and_l (and_r nb2)) h1 hw
  · cases e
/-- clear -/
def oClr : OL := fun ds args => match args with | [] => some ([], .non) | _ => none
theorem oClr_ok : OpL Γ rClear oClr := fun F H a ds ws f args vs fa ds2 d Q e hH hr ha nb nba k => by
  unfold oClr at e
  split at e
  · cases e
    have e0 : vs = [] := ha.1
    subst e0
    exact ⟨a, ws, rfl, rfl, hH, k [] .non fp0 fp0 (fun b => Nat.zero_le _) rfl rfl ⟨rfl, fun _ => rfl⟩ ⟨rfl, fun _ => rfl⟩⟩
  · cases e
end
section
variable {X : Cx} {Γ : Ctx} {W : WX} {e a b : Expr} {es : List Expr} {f g p : PF} {pos apos cpos : Pos} {nm : Str} {idn : String}
/-- x.m(e, ..) of a list that a slot holds -/
theorem e_lm {r : V → List V → Hp → VK → Prop} {o : OL} {fs : List EF} {i : Nat} {x : Str} {px : Pos} (ho : OpL Γ r o) (pa : PlainAttrs "list") (slot : Slot "list" nm idn) (hty : typeOf (.builtin idn) = pure (.type "method_descriptor")) (hm : MtR X idn r) (hK : X.K = Γ.K) (hown : Γ.own i = true) (hN : X.N[i]? = some x) (hv : Vis X.env.scope x) (ha : PA X (e :: es) (tAE Γ W fs))
    (hd : (x == ("__debug__" : Str)) = false := by decide) (hcd : (x == ("__classdict__" : Str)) = false := by decide)
    (hbase : attributeBase (.Name x px) nm X.env (eval (.Name x px) X.env) = eval (.Name x px) X.env := by rfl)
    (hfew : ((backTo cpos (starEach (e :: es) X.env)).all (fun x => !x.1) && (backToKw cpos (keywordEach [] X.env)).all (fun x => x.1.isSome)
      && decide ((e :: es).length + ([] : List Keyword).length + (if ([] : List Keyword).isEmpty then 0 else 1) < 30)) = true := by rfl)
    (hline : (apos.endLine == cpos.line) = true := by rfl) (hs : starEach (e :: es) X.env = (false, eval e X.env) :: starEach es X.env := by rfl) (hplain : (backTo cpos (starEach es X.env)).any (·.1) = false := by rfl) :
    PE X (.Call (.Attribute (.Name x px) nm apos) (e :: es) [] cpos) (tE Γ W (eL o i fs)) :=
  PE.wk (pe_bm pa slot hty hm (pe_var hN hv hd hcd) ha hbase hfew hline hs hplain) fun σ H Q ⟨hold, ρ, s, nb, k⟩ => by
    unfold eL at k
    cases hg : ownL (getS ρ i) with
    | none => rw [hg] at k; exact k.elim
    | some ds0 =>
      rw [hg] at k
      obtain ⟨F, fh, fs', s0⟩ := id s
      obtain ⟨v, f0, ev, hr, _⟩ := s0.ss.get (ownL_some hg)
      obtain ⟨p, ws, f1, ew, q, _⟩ := hr
      subst ew
      refine ⟨.ref p, ev, .inl ⟨rfl, ws, by rw [hK]; exact lst_sq q⟩, hold, ρ, s, nb, ?_⟩
      dsimp only at k
      cases z : evE fs ρ with
      | none => rw [z] at k; exact k.elim
      | some o1 =>
        rw [z] at k
        cases o1 with
        | ex n xs ρ' => exact k
        | ok args ρ' =>
          dsimp only at k ⊢
          intro vs H' l s'
          by_cases hnb : D.chkL (fun m => !m.isBrw) args = true
          · rw [if_pos hnb] at k
            cases hg' : ownL (getS ρ' i) with
            | none => rw [hg'] at k; exact k.elim
            | some ds =>
              rw [hg'] at k
              dsimp only at k
              cases z2 : o ds args with
              | none => rw [z2] at k; exact k.elim
              | some p2 =>
                rw [z2] at k
                exact op_change ho (π := []) s' l nb (ownL_some hg') rfl rfl hown hnb z2 ⟨_, ev, rfl⟩ fun u H2 s2 => k u H2 s2
          · rw [if_neg hnb] at k; exact k.elim
theorem e_lm0 {r : V → List V → Hp → VK → Prop} {o : OL} {i : Nat} {x : Str} {px : Pos} (ho : OpL Γ r o) (pa : PlainAttrs "list") (slot : Slot "list" nm idn) (hty : typeOf (.builtin idn) = pure (.type "method_descriptor")) (hm : MtR X idn r) (hK : X.K = Γ.K) (hown : Γ.own i = true) (hN : X.N[i]? = some x) (hv : Vis X.env.scope x)
    (hd : (x == ("__debug__" : Str)) = false := by decide) (hcd : (x == ("__classdict__" : Str)) = false := by decide)
    (hbase : attributeBase (.Name x px) nm X.env (eval (.Name x px) X.env) = eval (.Name x px) X.env := by rfl) (hline : (apos.endLine == cpos.line) = true := by rfl) :
    PE X (.Call (.Attribute (.Name x px) nm apos) [] [] cpos) (tE Γ W (eL o i [])) :=
  PE.wk (pe_bm0 pa slot hty hm (pe_var hN hv hd hcd) hbase hline) fun σ H Q ⟨hold, ρ, s, nb, k⟩ => by
    unfold eL at k
    cases hg : ownL (getS ρ i) with
    | none => rw [hg] at k; exact k.elim
    | some ds0 =>
      rw [hg] at k
      obtain ⟨F, fh, fs', s0⟩ := id s
      obtain ⟨v, f0, ev, hr, _⟩ := s0.ss.get (ownL_some hg)
      obtain ⟨p, ws, f1, ew, q, _⟩ := hr
      subst ew
      refine ⟨.ref p, ev, .inl ⟨rfl, ws, by rw [hK]; exact lst_sq q⟩, ?_⟩
      rw [evE] at k
      dsimp only at k
      rw [if_pos (by rfl), hg] at k
      dsimp only at k
      cases z2 : o ds0 [] with
      | none => rw [z2] at k; exact k.elim
      | some p2 =>
        rw [z2] at k
        exact op_change ho (π := []) (vs := []) (args := []) s rfl nb (ownL_some hg) rfl rfl hown rfl z2 ⟨_, ev, rfl⟩ fun u H2 s2 => k u H2 s2
/-- x[i] = e within a slot -/
def oSet (j : Int) : OL := fun ds args => match args with | [d] => (ixN ds.length j).map fun k => (ds.set k d, .non) | _ => none
def rSetV (j : Int) : V → List V → Hp → VK → Prop := fun x vs H Q => ∃ v, vs = [v] ∧ rSetL x (.int j) v H fun H' => Q .non H'
theorem oSet_ok (j : Int) : OpL Γ (rSetV j) (oSet j) := fun F H a ds ws f args vs fa ds2 d Q e hH hr ha nb nba k => by
  unfold oSet at e
  split at e
  · rename_i x
    rw [Option.map_eq_some_iff] at e
    obtain ⟨i, e1, e2⟩ := e
    cases e2
    obtain ⟨v, rfl, hx⟩ := Reps.sing ha
    have hi : i < ds.length := (ixN_seq e1).2.1
    obtain ⟨v0, f1, g1, ev, s, h0, st⟩ := Reps.set hr (List.getElem?_eq_getElem hi)
    refine ⟨v, rfl, a, ws, j, i, rfl, rfl, hH, by rw [← hr.len]; exact e1, k _ .non (fun b => fa b + g1 b) fp0 (fun b => by have := s b; show fa b + g1 b + 0 ≤ _; omega) (chkL_set _ _ _ _ nb (and_l nba)) rfl ?_ ⟨rfl, fun _ => rfl⟩⟩
    exact st x v fa F H True (Keep.more fun _ h => h) (fun _ => trivial) (fun a o _ h => h) hx
  · cases e
/-- the list at a place of a slot -/
def placeL (ρ : Env) (i : Nat) (π : List Stp) : Option (D × List D) := match getS ρ i with
  | some d0 => if okAt d0 π = true then (ownL (dAt d0 π)).map fun ds => (d0, ds) else none
  | none => none
theorem placeL_some {ρ : Env} {i : Nat} {π : List Stp} {p : D × List D} (h : placeL ρ i π = some p) : getS ρ i = some p.1 ∧ dAt p.1 π = some (.lst .own p.2) ∧ okAt p.1 π = true := by
  unfold placeL at h
  cases q : getS ρ i with
  | none => rw [q] at h; cases h
  | some d0 =>
    rw [q] at h
    dsimp only at h
    split at h
    · rename_i c
      rw [Option.map_eq_some_iff] at h
      obtain ⟨ds, h1, h2⟩ := h
      cases h2
      exact ⟨rfl, ownL_some h1, c⟩
    · cases h
def asInt : Option D → Option Int | some (.int j) => some j | _ => none
theorem asInt_some {o : Option D} {j : Int} (h : asInt o = some j) : o = some (.int j) := by
  unfold asInt at h
  split at h
  · cases h; rfl
  · cases h
def setL (ρ : Env) (i : Nat) (π : List Stp) (j : Int) (d : D) : Option Env := match placeL ρ i π with
  | some p => if d.noBrw = true then (ixN p.2.length j).map fun k => setS ρ i (some (dSet p.1 π (.lst .own (p.2.set k d)))) else none
  | none => none
def sSetL (i : Nat) (πf : LF) (f : EF) (g : PF) : SF := fun ρ => match f ρ with
  | some (.ok d ρ1) => (match πf ρ1, asInt (g ρ1) with
    | some π, some j => (setL ρ1 i π j d).map .nx
    | _, _ => none)
  | some (.ex n xs ρ1) => some (.ex n xs ρ1)
  | none => none
theorem s_setl {i : Nat} {πf : LF} {f : EF} {g : PF} {o ix value : Expr} {spos : Pos} (hK : X.K = Γ.K) (hown : Γ.own i = true) (hv : PE X value (tE Γ W f)) (ho : PE X o (tL Γ i πf)) (hi : PE X ix (tP Γ g))
    (ha : ∀ v, assign (.Subscript o ix spos) X.env v = (do
      let ov ← holding [v] (eval o X.env)
      let iv ← holding [v, ov] (eval ix X.env)
      standAt spos
      holding [v, ov, iv] (setItem ov iv v)
      release [v, ov, iv] []) := by intro _; rfl)
    (hs : swapsWithSole [.Subscript o ix spos] value pos.line X.env = pure false := by rfl) (hw : swappedStores [.Subscript o ix spos] value X.env = pure none := by rfl)
    (h1 : (assignEach [.Subscript o ix spos] X.env).map (·.2) = [assign (.Subscript o ix spos) X.env] := by rfl) : PS X (.Assign [.Subscript o ix spos] value pos) (tS Γ W (sSetL i πf f g)) :=
  PS.wk (ps_asg hv (pg_sub ho hi set_list ha) hs hw h1) fun DD σ H ⟨hold, ρ, s, nb, k⟩ => by
    refine ⟨hold, ρ, s, nb, ?_⟩
    unfold sSetL at k
    cases z : f ρ with
    | none => rw [z] at k; exact k
    | some o1 =>
      rw [z] at k
      cases o1 with
      | ex n xs ρ1 => exact fun c od H' s' => k c od σ H' s'
      | ok d ρ1 =>
        dsimp only at k ⊢
        intro v H1 s1
        cases e1 : πf ρ1 with
        | none => rw [e1] at k; exact k.elim
        | some π =>
          cases e2 : asInt (g ρ1) with
          | none => rw [e1, e2] at k; exact k.elim
          | some j =>
            rw [e1, e2] at k
            dsimp only at k
            unfold setL at k
            cases e3 : placeL ρ1 i π with
            | none => rw [e3] at k; exact k.elim
            | some p =>
              obtain ⟨g1, g2, g3⟩ := placeL_some e3
              rw [e3] at k
              dsimp only at k
              by_cases c : d.noBrw = true
              · rw [if_pos c] at k
                refine ⟨_, ρ1, s1, π, p.1, _, e1, g1, g2, g3, fun w H2 x2 s2 hw => ⟨_, ρ1, s2, _, asInt_some e2, fun u H3 x3 s3 => ?_⟩⟩
                obtain rfl := s3.topInt
                obtain ⟨r, er, fr⟩ := hw
                cases z3 : ixN p.2.length j with
                | none => rw [z3] at k; exact k.elim
                | some kk =>
                  rw [z3] at k
                  have hop : oSet j p.2 [d] = some (p.2.set kk d, .non) := by unfold oSet; rw [z3]; rfl
                  have nbd : D.chkL (fun m => !m.isBrw) [d] = true := by show (D.chk _ d && true) = true; rw [show D.chk (fun m => !m.isBrw) d = true from c]; rfl
                  obtain ⟨v', e', q⟩ := op_change (oSet_ok j) (π := π) (vs := [v]) (args := [d]) (v := w) (Q := fun _ H' => DD.nx σ H') s3.drop rfl nb g1 g2 g3 hown nbd hop ⟨r, er, follow_ext x3 π fr⟩ (fun u' H4 s4 => k σ H4 s4.drop)
                  cases e'
                  exact q
              · rw [if_neg c] at k; exact k.elim
end
end DL

end
section
/-! DL13: what a def promises; calls. -/
open PySem PySem.Spec L2
namespace DL
inductive FRes where
  | ret (d : D) (ls : List D)
  | exc (n : Str) (fs : List (Str × D)) (ls : List D)
abbrev FF := List D → Option FRes
def pick {α : Type} : List Bool → List α → List α
  | true :: m, x :: xs => x :: pick m xs
  | false :: m, _ :: xs => pick m xs
  | _, _ => []
/-- lent things: no borrowed part; others: no own part either -/
def okArgs : List Bool → List D → Bool
  | true :: m, d :: ds => d.noBrw && okArgs m ds
  | false :: m, d :: ds => d.noBrw && d.noOwn && okArgs m ds
  | [], [] => true
  | _, _ => false
structure Aft (K : PySem.W.Frag) (cn : Nm) (F0 : Addr → Prop) (fp : Fp) (H : Hp) (rs : List D) (ws : List V) (H' : Hp) (F' : Addr → Prop) (fp' : Fp) : Prop where
  rep : Reps K cn F' H' rs ws fp'
  nb : D.chkL (fun m => !m.isBrw) rs = true
  nd : ∀ a, fp' a ≤ 1
  ow : ∀ a, 0 < fp' a → ¬ F' a ∧ (H a = none ∨ 0 < fp a)
  F1 : ∀ a, F0 a → F' a
  F2 : ∀ a, F' a → F0 a ∨ H a = none ∨ 0 < fp a
  al : ∀ a, F' a → H' a ≠ none
  kp : ∀ a o, H a = some o → fp a = 0 → H' a = some o
  dm : ∀ a, H a ≠ none → H' a ≠ none
def SpD (K : PySem.W.Frag) (cn : Nm) (lm : List Bool) (f : FF) : Sp := fun vs H Q E => ∃ (F0 : Addr → Prop) (ds : List D) (fp : Fp),
  Reps K cn F0 H ds vs fp ∧ ds.length = lm.length ∧ (∀ a, fp a ≤ 1) ∧ (∀ a, 0 < fp a → ¬ F0 a) ∧ (∀ a, F0 a → H a ≠ none) ∧ okArgs lm ds = true ∧
  match f ds with
  | none => False
  | some (.ret d ls) => ∀ v H' F' fp', Aft K cn F0 fp H (d :: ls) (v :: pick lm vs) H' F' fp' → Q v H'
  | some (.exc n fs ls) => ∀ c od H' F' fp', Aft K cn F0 fp H ls (pick lm vs) H' F' fp' → ExO cn H' n fs c od → E c od H'
def lents : List Bool → Env → Option (List D)
  | true :: m, some d :: ρ => (lents m ρ).map (d :: ·)
  | false :: m, _ :: ρ => lents m ρ
  | [], _ => some []
  | _, _ => none
/-- a def of n further names: its body's function -/
def fnR (lm : List Bool) : Option Out → Option FRes
  | some (.nx ρ') => (lents lm ρ').map (.ret .non ·)
  | some (.rt d ρ') => if d.noBrw = true then (lents lm ρ').map (.ret d ·) else none
  | some (.ex m fs ρ') => (lents lm ρ').map (.exc m fs ·)
  | none => none
def fnD (n : Nat) (lm : List Bool) (g : SF) : FF := fun ds => if ds.length = lm.length then fnR lm (g (ds.map some ++ List.replicate n none)) else none
theorem fnD_len {n : Nat} {lm : List Bool} {g : SF} : ∀ ds, fnD n lm g ds ≠ none → ds.length = lm.length := fun ds h => by
  unfold fnD at h
  split at h
  · assumption
  · exact absurd rfl h
section
variable {K : PySem.W.Frag} {cn : Nm} {F : Addr → Prop} {H : Hp}
theorem slots_start : ∀ {ds : List D} {vs : List V} {fp : Fp} (n : Nat), Reps K cn F H ds vs fp → D.chkL (fun m => !m.isBrw) ds = true → Slots K cn F H (ds.map some ++ List.replicate n none) (vs.map some ++ List.replicate n none) fp
  | [], vs, fp, n, h, _ => by
    rw [h.1]
    show Slots K cn F H (List.replicate n none) (List.replicate n none) fp
    induction n with
    | zero => exact ⟨rfl, h.2⟩
    | succ n ih => exact ⟨none, _, rfl, ih⟩
  | d :: ds, vs, fp, n, ⟨v, r, f, g, e, s, h1, h2⟩, nb => by
    subst e
    exact ⟨v, _, f, g, rfl, s, and_l nb, h1, slots_start n h2 (and_r nb)⟩
theorem lents_ok : ∀ {lm : List Bool} {ρ : Env} {σ : L2.St} {vs : List V} {fs : Fp} {ls : List D}, Slots K cn F H ρ σ fs → lents lm ρ = some ls → vs.length = lm.length → (∀ (i : Nat) (v : V), lm[i]? = some true → vs[i]? = some v → σ[i]? = some (some v)) →
    ∃ g, (∀ a, g a ≤ fs a) ∧ Reps K cn F H ls (pick lm vs) g ∧ D.chkL (fun m => !m.isBrw) ls = true
  | [], ρ, σ, vs, fs, ls, _, e, _, _ => by
    rw [lents] at e; cases e
    exact ⟨fp0, fun _ => Nat.zero_le _, ⟨by cases vs <;> rfl, fun _ => rfl⟩, rfl⟩
  | true :: m, [], _, _, _, _, _, e, _, _ => by simp [lents] at e
  | true :: m, none :: _, _, _, _, _, _, e, _, _ => by simp [lents] at e
  | false :: m, [], _, _, _, _, _, e, _, _ => by simp [lents] at e
  | true :: m, some d :: ρ, σ, [], fs, ls, _, _, l, _ => by cases l
  | false :: m, x :: ρ, σ, [], fs, ls, _, _, l, _ => by cases l
  | true :: m, some d :: ρ, σ, v :: vs, fs, ls, ⟨v', r, f, g, e1, s, nb, h1, h2⟩, e, l, hv => by
    rw [lents, Option.map_eq_some_iff] at e
    obtain ⟨ls', e2, rfl⟩ := e
    subst e1
    have ev : v' = v := by
      have := hv 0 v rfl rfl
      simpa using this
    subst ev
    obtain ⟨g', le, hr, nb2⟩ := lents_ok h2 e2 (by simpa using l) fun i w a b => by simpa using hv (i + 1) w a b
    exact ⟨fun a => f a + g' a, fun a => by have := s a; have := le a; show f a + g' a ≤ fs a; omega, ⟨v', _, f, g', rfl, fun _ => rfl, h1, hr⟩, by show (D.chk _ d && D.chkL _ ls') = true; rw [show D.chk (fun m => !m.isBrw) d = true from nb, nb2]; rfl⟩
  | false :: m, some d :: ρ, σ, v :: vs, fs, ls, ⟨v', r, f, g, e1, s, nb, h1, h2⟩, e, l, hv => by
    rw [lents] at e
    subst e1
    obtain ⟨g', le, hr, nb2⟩ := lents_ok h2 e (by simpa using l) fun i w a b => by simpa using hv (i + 1) w a b
    exact ⟨g', fun a => by have := s a; have := le a; omega, hr, nb2⟩
  | false :: m, none :: ρ, σ, v :: vs, fs, ls, ⟨x, r, e1, h2⟩, e, l, hv => by
    rw [lents] at e
    subst e1
    obtain ⟨g', le, hr, nb2⟩ := lents_ok h2 e (by simpa using l) fun i w a b => by simpa using hv (i + 1) w a b
    exact ⟨g', le, hr, nb2⟩
theorem okArgs_nb : ∀ {lm : List Bool} {ds : List D}, okArgs lm ds = true → D.chkL (fun m => !m.isBrw) ds = true
  | [], [], _ => rfl
  | [], _ :: _, h => by cases h
  | true :: m, d :: ds, h => by show (D.chk _ d && D.chkL _ ds) = true; rw [show D.chk (fun m => !m.isBrw) d = true from and_l h, okArgs_nb (and_r h)]; rfl
  | false :: m, d :: ds, h => by show (D.chk _ d && D.chkL _ ds) = true; rw [show D.chk (fun m => !m.isBrw) d = true from and_l (and_l h), okArgs_nb (and_r h)]; rfl
  | true :: m, [], h => by cases h
  | false :: m, [], h => by cases h
theorem okArgs_get : ∀ {lm : List Bool} {ds : List D} {n i : Nat} {d : D}, okArgs lm ds = true → getS (ds.map some ++ List.replicate n none) i = some d → lm[i]? = some true ∨ d.noOwn = true
  | [], [], n, i, d, _, e => by
    exfalso
    have : ∀ (n i : Nat), getS (List.replicate n none) i ≠ some d := by
      intro n
      induction n with
      | zero => intro i z; simp [getS] at z
      | succ n ih => intro i z; cases i with
        | zero => simp [getS, List.replicate] at z
        | succ i => exact ih i z
    exact this n i e
  | [], _ :: _, _, _, _, h, _ => by cases h
  | true :: m, d0 :: ds, n, 0, d, h, e => .inl rfl
  | true :: m, d0 :: ds, n, i + 1, d, h, e => by
    rcases okArgs_get (lm := m) (ds := ds) (n := n) (i := i) (and_r h) e with z | z
    · exact .inl (by simpa using z)
    · exact .inr z
  | false :: m, d0 :: ds, n, 0, d, h, e => by
    have : d0 = d := by simpa [getS] using e
    subst this
    exact .inr (and_r (and_l h))
  | false :: m, d0 :: ds, n, i + 1, d, h, e => by
    rcases okArgs_get (lm := m) (ds := ds) (n := n) (i := i) (and_r h) e with z | z
    · exact .inl (by simpa using z)
    · exact .inr z
  | true :: m, [], _, _, _, h, _ => by cases h
  | false :: m, [], _, _, _, h, _ => by cases h
end
/-- the lent parameters' values -/
def lvOf (lm : List Bool) (vs : List V) (i : Nat) : Option V := if lm[i]? = some true then vs[i]? else none
/-- the context of a def's body: its slots that may be changed in place are os -/
abbrev bodyCtx (K : PySem.W.Frag) (cn : Nm) (H : Hp) (F0 : Addr → Prop) (fp : Fp) (lm : List Bool) (vs : List V) (os : List Nat) : Ctx := ⟨K, cn, H, F0, fun a => 0 < fp a, fun i => os.contains i, lvOf lm vs⟩
section
variable {P : Program} {w : World} {K : PySem.W.Frag} {mg : Str → Option Value} {base : Heap} {cn : Nm}
/-- a def keeps its promise -/
theorem fn_ok {x qual : Str} {st : Stmt} {f : Addr} {fd : FuncData} {N ps : List Str} {k n : Nat} {lm : List Bool} {os : List Nat} {g : SF} (F : Fun K x qual st f fd) (S : FnScope N ps (defScope st)) (hl : lm.length = ps.length) (hn : N.length - ps.length = n) (hos : ∀ (i : Nat), lm[i]? = some true → os.contains i = true)
    (body : ∀ (cdv : Value) (A : Around) (outer : List PySem.Env) (s : Shared) (H : Hp) (E : XK) (F0 : Addr → Prop) (fp : Fp) (vs : List V), Room k (A.deeper (PyProof.Rows.envOfC qual (defScope st) s.heap.objs.size f cdv)) →
      Takes (cxOf (L2.CX P w) P w K mg base N qual (defScope st) f cdv A outer s H E) (fun cls d _ H => E cls d H) →
      PassesOwn (model P w) (cxOf (L2.CX P w) P w K mg base N qual (defScope st) f cdv A outer s H E).A (cxOf (L2.CX P w) P w K mg base N qual (defScope st) f cdv A outer s H E).env (cxOf (L2.CX P w) P w K mg base N qual (defScope st) f cdv A outer s H E).xe →
      PSs (cxOf (L2.CX P w) P w K mg base N qual (defScope st) f cdv A outer s H E) (defBody st) (tS (bodyCtx K cn H F0 fp lm vs os) (fun cls d _ H => E cls d H) g)) :
    FnOk P w K mg base (L2.CX P w) (k + 1) f fd ps (SpD K cn lm (fnD n lm g)) := by
  refine F.okX S (fun vs H Q E ⟨F0, ds, fp, h, l, _⟩ => by rw [← h.len, l, hl]) fun cdv A outer s H vs Q E hr ⟨F0, ds, fp, h, l, nd, ow, al, ok, k⟩ => ?_
  refine ⟨_, body cdv A outer s H E F0 fp vs hr (takes_of rfl rfl rfl rfl) (passes_of rfl), ?_⟩
  have hlen : vs.length = ps.length := by rw [← h.len, l, hl]
  have hst : L2.start N vs = vs.map some ++ List.replicate n none := by unfold L2.start; rw [hlen, hn]
  have s0 : SIx (bodyCtx K cn H F0 fp lm vs os) F0 fp0 fp [] (ds.map some ++ List.replicate n none) (L2.start N vs) H := by
    rw [hst]
    refine ⟨⟨rfl, fun _ => rfl⟩, slots_start n h (okArgs_nb ok), fun a => by have := nd a; show 0 + fp a ≤ 1; omega, fun a p => ?_, fun i d e ho => ?_, fun a z => z, fun a z => .inl z, al, fun a o z _ => z, fun a z => z, fun i v hv => ?_⟩
    · have p' : 0 < fp a := by have : 0 < 0 + fp a := p; omega
      exact ⟨ow a p', .inr p'⟩
    · rcases okArgs_get ok e with z | z
      · have := hos i z
        rw [show os.contains i = false from ho] at this; cases this
      · exact z
    · have hv' : lvOf lm vs i = some v := hv
      unfold lvOf at hv'
      split at hv'
      · have : i < vs.length := (List.getElem?_eq_some_iff.mp hv').1
        rw [List.getElem?_append_left (by simpa using this), List.getElem?_map, hv']; rfl
      · cases hv'
  refine ⟨[], _, ⟨F0, fp0, fp, s0⟩, rfl, ?_⟩
  unfold fnD at k
  rw [if_pos l] at k
  unfold fnR at k
  have hlk : ∀ {ρ' : Env} {σ' : L2.St} {H' : Hp} {hold : Hold} {F' fh fs}, SIx (bodyCtx K cn H F0 fp lm vs os) F' fh fs hold ρ' σ' H' → ∀ (i : Nat) (v : V), lm[i]? = some true → vs[i]? = some v → σ'[i]? = some (some v) := fun s i v a b => s.lk i v (by show lvOf lm vs i = _; unfold lvOf; rw [if_pos a]; exact b)
  have hvl : vs.length = lm.length := by rw [hlen, hl]
  cases z : g (ds.map some ++ List.replicate n none) with
  | none => rw [z] at k; exact k
  | some o =>
    rw [z] at k
    cases o with
    | nx ρ' =>
      dsimp only at k ⊢
      cases z2 : lents lm ρ' with
      | none => rw [z2] at k; exact k.elim
      | some ls =>
        rw [z2] at k
        rintro σ' H' ⟨F', fh, fs, s⟩
        obtain ⟨gg, le, hr2, nb2⟩ := lents_ok s.ss z2 hvl (hlk s)
        refine k .non H' F' gg ⟨⟨.non, _, fp0, gg, rfl, fun a => by show _ = 0 + _; omega, ⟨rfl, fun _ => rfl⟩, hr2⟩, nb2, fun a => by have := s.nd a; have := le a; omega, fun a p => s.ow a (by have := le a; omega), s.F1, s.F2, s.al, fun a o e z => s.kp a o e (by show ¬ 0 < fp a; omega), s.dm⟩
    | rt d ρ' =>
      dsimp only at k ⊢
      by_cases hd : d.noBrw = true
      · rw [if_pos hd] at k
        cases z2 : lents lm ρ' with
        | none => rw [z2] at k; exact k.elim
        | some ls =>
          rw [z2] at k
          rintro v σ' H' ⟨F', fh, fs, s⟩
          obtain ⟨gg, le, hr2, nb2⟩ := lents_ok s.ss z2 hvl (hlk s)
          obtain ⟨v', r, f1, g1, e1, q1, h1, h2⟩ := s.hh
          cases e1
          refine k v H' F' (fun a => f1 a + gg a) ⟨⟨v, _, f1, gg, rfl, fun a => rfl, h1, hr2⟩, by show (D.chk _ d && D.chkL _ ls) = true; rw [show D.chk (fun m => !m.isBrw) d = true from hd, nb2]; rfl, fun a => by have := s.nd a; have := le a; have := q1 a; show f1 a + gg a ≤ 1; omega, fun a p => s.ow a (by have := le a; have := q1 a; have : 0 < f1 a + gg a := p; omega), s.F1, s.F2, s.al, fun a o e z => s.kp a o e (by show ¬ 0 < fp a; omega), s.dm⟩
      · rw [if_neg hd] at k; exact k.elim
    | ex m fs ρ' =>
      dsimp only at k ⊢
      cases z2 : lents lm ρ' with
      | none => rw [z2] at k; exact k.elim
      | some ls =>
        rw [z2] at k
        rintro c od σ' H' ⟨F', fh, fs', s⟩ hx
        obtain ⟨gg, le, hr2, nb2⟩ := lents_ok s.ss z2 hvl (hlk s)
        exact k c od H' F' gg ⟨hr2, nb2, fun a => by have := s.nd a; have := le a; omega, fun a p => s.ow a (by have := le a; omega), s.F1, s.F2, s.al, fun a o e z => s.kp a o e (by show ¬ 0 < fp a; omega), s.dm⟩ hx
end
end DL

end
section
/-! DL14: calls of defs. -/
open PySem PySem.Spec L2
namespace DL
section
variable {K : PySem.W.Frag} {cn : Nm} {F F' : Addr → Prop} {H : Hp}
theorem At.noF {m : Mk} {a : Addr} {u : HO} {fp f : Fp} (h : At F H m a u fp f) (hm : m.isFrz = false) : At F' H m a u fp f := by
  cases m with
  | own => exact h
  | frz => cases hm
  | brw => exact h
  | ro => exact h
mutual
theorem Rep.noF : ∀ (d : D) (v : V) (fp : Fp), Rep K cn F H d v fp → d.noFrz = true → Rep K cn F' H d v fp
  | .non, v, fp, h, _ => h
  | .bl b, v, fp, h, _ => h
  | .int i, v, fp, h, _ => h
  | .str x, v, fp, h, _ => h
  | .cls n, v, fp, h, _ => h
  | .exc n fs, v, fp, ⟨a, od, vs, e, x, q, r⟩, c => ⟨a, od, vs, e, x, q, RepF.noF fs vs fp r c⟩
  | .tup ds, v, fp, ⟨a, vs, e, q, r⟩, c => ⟨a, vs, e, q, Reps.noF ds vs fp r c⟩
  | .lst m ds, v, fp, ⟨a, vs, f, e, q, r⟩, c => ⟨a, vs, f, e, q.elim (fun q => .inl (q.noF (not_t (and_l c)))) .inr, Reps.noF ds vs f r (and_r c)⟩
  | .dic m kd kvs, v, fp, ⟨a, f, e, q⟩, c => by
    refine ⟨a, f, e, ?_⟩
    rcases q with ⟨hk9, kv, q, r⟩ | ⟨hk9, kv, q, r⟩
    · exact .inl ⟨hk9, kv, q.noF (not_t (and_l c)), RepK.noF kvs _ f r (and_r c)⟩
    · exact .inr ⟨hk9, kv, q.noF (not_t (and_l c)), RepK.noF kvs _ f r (and_r c)⟩
  | .ins m C fs, v, fp, ⟨a, c, dx, vs, f, e, hc, q, r⟩, z => ⟨a, c, dx, vs, f, e, hc, q.noF (not_t (and_l z)), RepF.noF fs vs f r (and_r z)⟩
theorem Reps.noF : ∀ (ds : List D) (vs : List V) (fp : Fp), Reps K cn F H ds vs fp → D.chkL (fun m => !m.isFrz) ds = true → Reps K cn F' H ds vs fp
  | [], vs, fp, h, _ => h
  | d :: ds, vs, fp, ⟨v, r, f, g, e, s, h1, h2⟩, c => ⟨v, r, f, g, e, s, Rep.noF d v f h1 (and_l c), Reps.noF ds r g h2 (and_r c)⟩
theorem RepK.noF : ∀ (ds : List (Ky × D)) (vs : List (Ky × V)) (fp : Fp), RepK K cn F H ds vs fp → D.chkK (fun m => !m.isFrz) ds = true → RepK K cn F' H ds vs fp
  | [], vs, fp, h, _ => h
  | (k, d) :: ds, vs, fp, ⟨v, r, f, g, e, s, h1, h2⟩, c => ⟨v, r, f, g, e, s, Rep.noF d v f h1 (and_l c), RepK.noF ds r g h2 (and_r c)⟩
theorem RepF.noF : ∀ (ds : List (Str × D)) (vs : List (Str × V)) (fp : Fp), RepF K cn F H ds vs fp → D.chkF (fun m => !m.isFrz) ds = true → RepF K cn F' H ds vs fp
  | [], vs, fp, h, _ => h
  | (k, d) :: ds, vs, fp, ⟨v, r, f, g, e, s, h1, h2⟩, c => ⟨v, r, f, g, e, s, Rep.noF d v f h1 (and_l c), RepF.noF ds r g h2 (and_r c)⟩
end
theorem okArgs_frz : ∀ (ds : List D), okArgs (List.replicate ds.length false) (D.remL fz ds) = true
  | [] => rfl
  | d :: ds => by
    show (D.noBrw (D.rem fz d) && D.noOwn (D.rem fz d) && okArgs (List.replicate ds.length false) (D.remL fz ds)) = true
    rw [show D.noBrw (D.rem fz d) = true from frz_noBrw d, show D.noOwn (D.rem fz d) = true from frz_noOwn d, okArgs_frz ds]; rfl
theorem remL_len (f : Mk → Mk) : ∀ ds : List D, (D.remL f ds).length = ds.length
  | [] => rfl
  | d :: ds => by show (D.remL f ds).length + 1 = _; rw [remL_len f ds]; rfl
end
/-- a def that changes nothing: its answer -/
def oCall (f : FF) : ON := fun ds => match f (D.remL fz ds) with
  | some (.ret d _) => if D.chkL (fun m => !m.isBrw) ds = true ∨ d.noFrz = true then some d else none
  | _ => none
theorem pick_none {α : Type} : ∀ (n : Nat) (xs : List α), pick (List.replicate n false) xs = []
  | 0, xs => by cases xs <;> rfl
  | n + 1, [] => rfl
  | n + 1, x :: xs => pick_none n xs
theorem oCall_ok {Γ : Ctx} {lm : List Bool} {f : FF} {E : XK} (hlm : ∀ n, n = lm.length → lm = List.replicate n false) (hF : ∀ ds, f ds ≠ none → ds.length = lm.length) : OpN Γ (fun vs H Q => SpD Γ.K Γ.cn lm f vs H Q E) (oCall f) := fun hold ρ σ H vs ds d Q e l s k => by
  unfold oCall at e
  cases z : f (D.remL fz ds) with
  | none => rw [z] at e; cases e
  | some r =>
    have hlen : ds.length = lm.length := by
      have := hF (D.remL fz ds) (by rw [z]; exact fun z => nomatch z)
      rwa [remL_len] at this
    rw [z] at e
    cases r with
    | exc n fs ls => cases e
    | ret d' ls =>
      dsimp only at e
      split at e
      · rename_i c
        cases e
        obtain ⟨F, fa, fh, fs, ha, s, hh⟩ := s.block l
        have lm' := hlm _ rfl
        have alc : ∀ a, 0 < fa a + fh a + fs a → H a ≠ none := fun a p => mut_some (s.alloc a p)
        have hok : okArgs lm (D.remL fz ds) = true := by rw [lm', ← hlen]; exact okArgs_frz ds
        by_cases nb : D.chkL (fun m => !m.isBrw) ds = true
        · have fr := Reps.frz (F' := fun a => F a ∨ 0 < fa a) (fun a h => .inl h) ds vs fa ha (fun a p => .inr p) (fun z => by rw [nb] at z; cases z)
          refine ⟨fun a => F a ∨ 0 < fa a, D.remL fz ds, fp0, fr, by rw [remL_len]; exact hlen, fun a => Nat.zero_le _, fun a p => absurd p (Nat.lt_irrefl 0), fun a h => h.elim (s.al a) fun p => alc a (by omega), hok, ?_⟩
          rw [z]
          intro v H' F2 fp2 A
          rw [lm', pick_none] at A
          have x : Ext H H' := fun a o h => A.kp a o h rfl
          obtain ⟨v', r', f2, g2, e2, q2, h1, h2⟩ := A.rep
          cases e2
          have kk : Keep F F2 H H' True := ⟨fun a h => A.F1 a (.inl h), fun a o _ h => x a o h, fun a u _ h => x a u h, fun _ a u h => x a u h⟩
          refine k v H' x ⟨F2, fun a => f2 a + fh a, fs, ⟨v, _, f2, fh, rfl, fun _ => rfl, h1, Reps.go kk _ _ _ (fun _ => trivial) (fun a o _ => x a o) hh⟩, Slots.go kk (fun a o _ => x a o) s.ss, fun a => ?_, fun a p => ?_, s.mo, fun a h => A.F1 a (.inl (s.F1 a h)), fun a h => ?_, A.al, fun a o h n => x a o (s.kp a o h n), fun a h => A.dm a (s.dm a h), s.lk⟩
          · have n1 : fa a + fh a + fs a ≤ 1 := s.nd a
            have n2 := A.nd a
            have n3 := q2 a
            show f2 a + fh a + fs a ≤ 1
            by_cases hf : 0 < f2 a
            · rcases (A.ow a (by omega)).2 with hn | hn
              · have z1 := s.fresh hn
                have : fa a + fh a = 0 := z1.1
                omega
              · exact absurd hn (Nat.lt_irrefl 0)
            · omega
          · have n3 := q2 a
            by_cases hf : 0 < f2 a
            · obtain ⟨o1, o2⟩ := A.ow a (by omega)
              rcases o2 with hn | hn
              · refine ⟨o1, .inl ?_⟩
                cases e9 : Γ.H0 a with
                | none => rfl
                | some o => exact (s.dm a (by rw [e9]; exact fun z => nomatch z) hn).elim
              · exact absurd hn (Nat.lt_irrefl 0)
            · have p' : 0 < fa a + fh a + fs a := by have : 0 < f2 a + fh a + fs a := p; omega
              obtain ⟨o1, o2⟩ := s.ow a p'
              refine ⟨fun h => ?_, o2⟩
              have p3 : 0 < f2 a + fh a + fs a := p
              have n1 : fa a + fh a + fs a ≤ 1 := s.nd a
              rcases A.F2 a h with (h | h) | h | h
              · exact o1 h
              · omega
              · exact alc a p' h
              · exact absurd h (Nat.lt_irrefl 0)
          · rcases A.F2 a h with (h | h) | h | h
            · exact s.F2 a h
            · exact .inr (s.ow a (show 0 < fa a + fh a + fs a by omega)).2
            · refine .inr (.inl ?_)
              cases e9 : Γ.H0 a with
              | none => rfl
              | some o => exact (s.dm a (by rw [e9]; exact fun z => nomatch z) h).elim
            · exact absurd h (Nat.lt_irrefl 0)
        · have nf : d.noFrz = true := c.resolve_left nb
          have fr := Reps.frz (F' := fun a => H a ≠ none) (fun a h => s.al a h) ds vs fa ha (fun a p => alc a (by omega)) (fun _ a h => h)
          refine ⟨fun a => H a ≠ none, D.remL fz ds, fp0, fr, by rw [remL_len]; exact hlen, fun a => Nat.zero_le _, fun a p => absurd p (Nat.lt_irrefl 0), fun a h => h, hok, ?_⟩
          rw [z]
          intro v H' F2 fp2 A
          rw [lm', pick_none] at A
          have x : Ext H H' := fun a o h => A.kp a o h rfl
          obtain ⟨v', r', f2, g2, e2, q2, h1, h2⟩ := A.rep
          cases e2
          have kk : Keep F F H H' True := x.keep
          have g := s.grow x
          refine k v H' x ⟨F, fun a => f2 a + fh a, fs, ⟨v, _, f2, fh, rfl, fun _ => rfl, Rep.noF _ _ _ h1 nf, Reps.go kk _ _ _ (fun _ => trivial) (fun a o _ => x a o) hh⟩, g.ss, fun a => ?_, fun a p => ?_, s.mo, s.F1, s.F2, g.al, g.kp, g.dm, s.lk⟩
          · have n1 : fa a + fh a + fs a ≤ 1 := s.nd a
            have n2 := A.nd a
            have n3 := q2 a
            show f2 a + fh a + fs a ≤ 1
            by_cases hf : 0 < f2 a
            · rcases (A.ow a (by omega)).2 with hn | hn
              · have z1 := s.fresh hn
                have : fa a + fh a = 0 := z1.1
                omega
              · exact absurd hn (Nat.lt_irrefl 0)
            · omega
          · have n3 := q2 a
            by_cases hf : 0 < f2 a
            · obtain ⟨o1, o2⟩ := A.ow a (by omega)
              rcases o2 with hn | hn
              · refine ⟨fun h => s.al a h hn, .inl ?_⟩
                cases e9 : Γ.H0 a with
                | none => rfl
                | some o => exact (s.dm a (by rw [e9]; exact fun z => nomatch z) hn).elim
              · exact absurd hn (Nat.lt_irrefl 0)
            · exact s.ow a (by have : 0 < f2 a + fh a + fs a := p; show 0 < fa a + fh a + fs a; omega)
      · cases e
section
variable {X : Cx} {Γ : Ctx} {W : WX} {k : Nat} {f : Addr} {fd : FuncData} {ps : List Str} {lm : List Bool} {ff : FF} {x : Str} {px pos : Pos} {e : Expr} {es : List Expr} {fs : List PF}
/-- f(e, ..) of a def that changes nothing -/
theorem d_call (F : FnOk X.prog X.w X.K X.mg X.base (L2.CX X.prog X.w) k f fd ps (SpD X.K Γ.cn lm ff)) (hlm : ∀ n, n = lm.length → lm = List.replicate n false) (hF : ∀ ds, ff ds ≠ none → ds.length = lm.length) (hK : X.K = Γ.K) (hr : Room k X.A) (hg : Gl X x) (hm : X.mg x = some (.ref f)) (hk : PySem.W.keepIn X.K (.ref f) = true) (hb : Binds X.K fd ps [])
    (tk : Takes X W) (ha : PA X (e :: es) (tA Γ fs)) (hdb : (x == ("__debug__" : Str)) = false := by decide) (he : starEach (e :: es) X.env = (false, eval e X.env) :: starEach es X.env := by rfl) (hpl : (backTo pos (starEach es X.env)).any (·.1) = false := by rfl) :
    PE X (.Call (.Name x px) (e :: es) [] pos) (tP Γ (pN (oCall ff) fs)) :=
  PE.wk (pe_callS F hr hg hm hk hb (fun σ => passAt tk σ) ha hdb he hpl) fun σ H Q h => by
    have q := tP_N (oCall_ok (Γ := Γ) (E := WE W σ) hlm hF) σ H Q h
    rw [← hK] at q
    exact q

/-! ### calls that lend slots -/
inductive AS where
  | ex (f : EF)
  | ln (i : Nat)
/-- the values of the given arguments, in order; a lent one is told as None -/
def evA : List AS → Env → Option (Res (List D))
  | [], ρ => some (.ok [] ρ)
  | .ln _ :: as, ρ => (match evA as ρ with
      | some (.ok ds ρ2) => some (.ok (.non :: ds) ρ2)
      | r => r)
  | .ex f :: as, ρ => match f ρ with
    | some (.ok d ρ1) => if d.noBrw = true then (match evA as ρ1 with
        | some (.ok ds ρ2) => some (.ok (d :: ds) ρ2)
        | r => r) else none
    | some (.ex n xs ρ1) => some (.ex n xs ρ1)
    | none => none
def exOf {α : Type} : List AS → List α → List α
  | .ex _ :: as, x :: xs => x :: exOf as xs
  | .ln _ :: as, _ :: xs => exOf as xs
  | _, _ => []
def lnOk (σ : L2.St) : List AS → List V → Prop
  | .ex _ :: as, _ :: vs => lnOk σ as vs
  | .ln i :: as, v :: vs => σ[i]? = some (some v) ∧ lnOk σ as vs
  | [], [] => True
  | _, _ => False
def tAA (Γ : Ctx) (W : WX) (as : List AS) : TA := fun σ H Q => ∃ hold ρ, SI Γ hold ρ σ H ∧ hold.noBrw ∧ (∀ i, AS.ln i ∈ as → ∃ v, σ[i]? = some (some v)) ∧ match evA as ρ with
  | none => False
  | some (.ok ds ρ') => ∀ vs H', lnOk σ as vs → vs.length = as.length → D.chkL (fun m => !m.isBrw) (exOf as ds) = true → ds.length = as.length → SI Γ ((exOf as vs).zip (exOf as ds) ++ hold) ρ' σ H' → Q vs H'
  | some (.ex n xs ρ') => ∀ c od H', SI Γ hold ρ' σ H' → ExO Γ.cn H' n xs c od → W c od σ H'
section
variable {X : Cx} {Γ : Ctx} {W : WX} {px pos : Pos} {e : Expr} {es : List Expr}
theorem aa_nil : PA X [] (tAA Γ W []) := PA.wk pa_nil fun σ H Q ⟨hold, ρ, s, nb, _, k⟩ => k [] H trivial rfl rfl rfl s
theorem aa_ex {f : EF} {as : List AS} (ha : PE X e (tE Γ W f)) (hr : PA X es (tAA Γ W as)) (hs : starEach (e :: es) X.env = (false, eval e X.env) :: starEach es X.env := by rfl) : PA X (e :: es) (tAA Γ W (.ex f :: as)) :=
  PA.wk (pa_cons ha hr hs) fun σ H Q ⟨hold, ρ, s, nb, lk, k⟩ => by
    refine ⟨hold, ρ, s, nb, ?_⟩
    rw [evA] at k
    cases q : f ρ with
    | none => rw [q] at k; exact k.elim
    | some r1 =>
      rw [q] at k
      cases r1 with
      | ex n xs ρ1 => exact k
      | ok d ρ1 =>
        dsimp only at k ⊢
        intro v H1 s1
        by_cases hx : d.noBrw = true
        · rw [if_pos hx] at k
          refine ⟨_, ρ1, s1, noBrw_cons nb hx, fun i hi => lk i (List.mem_cons_of_mem _ hi), ?_⟩
          cases q2 : evA as ρ1 with
          | none => rw [q2] at k; exact k.elim
          | some r2 =>
            rw [q2] at k
            cases r2 with
            | ex n xs ρ2 => exact fun c od H' s' => k c od H' s'.drop
            | ok ds ρ2 =>
              dsimp only at k ⊢
              refine fun vs H2 l1 l2 nb2 l3 s2 => k (v :: vs) H2 l1 (by rw [List.length_cons, List.length_cons, l2]) ?_ (by rw [List.length_cons, List.length_cons, l3]) s2.rot
              show (D.chk _ d && D.chkL _ (exOf as ds)) = true
              rw [show D.chk (fun m => !m.isBrw) d = true from hx, nb2]; rfl
        · rw [if_neg hx] at k; exact k.elim
theorem aa_ln {i : Nat} {x : Str} {as : List AS} (hN : X.N[i]? = some x) (hv : Vis X.env.scope x) (hr : PA X es (tAA Γ W as)) (hd : (x == ("__debug__" : Str)) = false := by decide) (hcd : (x == ("__classdict__" : Str)) = false := by decide)
    (hs : starEach (.Name x px :: es) X.env = (false, eval (.Name x px) X.env) :: starEach es X.env := by rfl) : PA X (.Name x px :: es) (tAA Γ W (.ln i :: as)) :=
  PA.wk (pa_cons (pe_var hN hv hd hcd) hr hs) fun σ H Q ⟨hold, ρ, s, nb, lk, k⟩ => by
    obtain ⟨v, ev⟩ := lk i List.mem_cons_self
    refine ⟨v, ev, hold, ρ, s, nb, fun j hj => lk j (List.mem_cons_of_mem _ hj), ?_⟩
    rw [evA] at k
    cases q2 : evA as ρ with
    | none => rw [q2] at k; exact k.elim
    | some r2 =>
      rw [q2] at k
      cases r2 with
      | ex n xs ρ2 => exact k
      | ok ds ρ2 =>
        dsimp only at k ⊢
        exact fun vs H2 l1 l2 nb2 l3 s2 => k (v :: vs) H2 ⟨ev, l1⟩ (by rw [List.length_cons, List.length_cons, l2]) nb2 (by rw [List.length_cons, List.length_cons, l3]) s2
end
def fill : List AS → List D → Env → Option (List D × Env)
  | [], [], ρ => some ([], ρ)
  | .ex _ :: as, d :: ds, ρ => (fill as ds ρ).map fun p => (d.frz :: p.1, p.2)
  | .ln i :: as, _ :: ds, ρ => match getS ρ i with
    | some d => (fill as ds (setS ρ i none)).map fun p => (d :: p.1, p.2)
    | none => none
  | _, _, _ => none
def unfill : List AS → List D → Env → Env
  | .ex _ :: as, ls, ρ => unfill as ls ρ
  | .ln i :: as, d :: ls, ρ => unfill as ls (setS ρ i (some d))
  | _, _, ρ => ρ
def maskOf : List AS → List Bool
  | [] => []
  | .ex _ :: as => false :: maskOf as
  | .ln _ :: as => true :: maskOf as
def eC (ff : FF) (as : List AS) : EF := fun ρ => if (as.all fun a => match a with | .ln i => (getS ρ i).isSome | _ => true) = true then (match evA as ρ with
  | some (.ok ds ρ') => (match fill as ds ρ' with
    | some p => (match ff p.1 with
      | some (.ret d ls) => some (.ok d (unfill as ls p.2))
      | some (.exc n fs ls) => some (.ex n fs (unfill as ls p.2))
      | none => none)
    | none => none)
  | some (.ex n xs ρ') => some (.ex n xs ρ')
  | none => none) else none
section
variable {Γ : Ctx} {F F1 : Addr → Prop} {H : Hp} {σ : L2.St}
theorem fill_ok : ∀ {as : List AS} {ds : List D} {vs : List V} {ρ : Env} {fs : Fp} {p : List D × Env}, Slots Γ.K Γ.cn F H ρ σ fs → Reps Γ.K Γ.cn F H (D.remL fz (exOf as ds)) (exOf as vs) fp0 → lnOk σ as vs → fill as ds ρ = some p →
    ∃ fp g, Reps Γ.K Γ.cn F H p.1 vs fp ∧ Slots Γ.K Γ.cn F H p.2 σ g ∧ (∀ a, fs a = fp a + g a) ∧ okArgs (maskOf as) p.1 = true ∧ p.1.length = (maskOf as).length ∧ vs.length = (maskOf as).length ∧ (∀ i d, getS p.2 i = some d → getS ρ i = some d)
  | [], [], [], ρ, fs, p, hs, hr, hl, e => by
    rw [fill] at e; cases e
    exact ⟨fp0, fs, ⟨rfl, fun _ => rfl⟩, hs, fun a => by show _ = 0 + _; omega, rfl, rfl, rfl, fun i d h => h⟩
  | [], [], v :: vs, ρ, fs, p, hs, hr, hl, e => hl.elim
  | [], d :: ds, _, _, _, _, _, _, _, e => by simp [fill] at e
  | .ex f :: as, [], _, _, _, _, _, _, _, e => by simp [fill] at e
  | .ln i :: as, [], _, _, _, _, _, _, _, e => by simp [fill] at e
  | .ex f :: as, d :: ds, [], _, _, _, _, _, hl, e => hl.elim
  | .ln i :: as, d :: ds, [], _, _, _, _, _, hl, e => hl.elim
  | .ex f :: as, d :: ds, v :: vs, ρ, fs, p, hs, ⟨v', r, f1, g1, e1, s1, h1, h2⟩, hl, e => by
    rw [fill, Option.map_eq_some_iff] at e
    obtain ⟨q, e2, rfl⟩ := e
    have e1' : v :: exOf as vs = v' :: r := e1
    cases e1'
    have z1 : f1 = fp0 := funext fun a => by have := s1 a; have h0 : fp0 a = 0 := rfl; show f1 a = 0; omega
    have z2 : g1 = fp0 := funext fun a => by have := s1 a; have h0 : fp0 a = 0 := rfl; show g1 a = 0; omega
    subst z1 z2
    obtain ⟨fp, g, a1, a2, a3, a4, a5, a6, a7⟩ := fill_ok (as := as) (ds := ds) (vs := vs) (p := q) hs h2 hl e2
    refine ⟨fp, g, ⟨v, vs, fp0, fp, rfl, fun a => by show _ = 0 + _; omega, h1, a1⟩, a2, a3, ?_, by show q.1.length + 1 = _ + 1; rw [a5], by show vs.length + 1 = _ + 1; rw [a6], a7⟩
    show (D.noBrw (D.rem fz d) && D.noOwn (D.rem fz d) && okArgs (maskOf as) q.1) = true
    rw [show D.noBrw (D.rem fz d) = true from frz_noBrw d, show D.noOwn (D.rem fz d) = true from frz_noOwn d, a4]; rfl
  | .ln i :: as, d :: ds, v :: vs, ρ, fs, p, hs, hr, ⟨hv, hl⟩, e => by
    rw [fill] at e
    cases q : getS ρ i with
    | none => rw [q] at e; cases e
    | some d0 =>
      rw [q] at e
      dsimp only at e
      rw [Option.map_eq_some_iff] at e
      obtain ⟨p0, e2, rfl⟩ := e
      obtain ⟨v0, f0, g0, ev, h0, nb, s0, hs2⟩ := hs.take q
      rw [hv] at ev; cases ev
      obtain ⟨fp, g, a1, a2, a3, a4, a5, a6, a7⟩ := fill_ok (as := as) (ds := ds) (vs := vs) (p := p0) hs2 hr hl e2
      refine ⟨fun a => f0 a + fp a, g, ⟨v, vs, f0, fp, rfl, fun _ => rfl, h0, a1⟩, a2, fun a => by have := s0 a; have := a3 a; show _ = f0 a + fp a + g a; omega, ?_, by show p0.1.length + 1 = _ + 1; rw [a5], by show vs.length + 1 = _ + 1; rw [a6], fun j x h => ?_⟩
      · show (D.noBrw d0 && okArgs (maskOf as) p0.1) = true
        rw [nb, a4]; rfl
      · rcases getS_set (a7 j x h) with ⟨_, z⟩ | ⟨_, z⟩
        · cases z
        · exact z
theorem unfill_ok : ∀ {as : List AS} {ls : List D} {vs : List V} {ρ : Env} {g fl : Fp}, Slots Γ.K Γ.cn F H ρ σ g → Reps Γ.K Γ.cn F H ls (pick (maskOf as) vs) fl → lnOk σ as vs → D.chkL (fun m => !m.isBrw) ls = true →
    ∃ g', (∀ a, g' a ≤ g a + fl a) ∧ Slots Γ.K Γ.cn F H (unfill as ls ρ) σ g'
  | [], ls, vs, ρ, g, fl, hs, hr, hl, nb => ⟨g, fun a => Nat.le_add_right _ _, by cases ls <;> exact hs⟩
  | .ex f :: as, ls, [], ρ, g, fl, hs, hr, hl, nb => hl.elim
  | .ln i :: as, ls, [], ρ, g, fl, hs, hr, hl, nb => hl.elim
  | .ex f :: as, ls, v :: vs, ρ, g, fl, hs, hr, hl, nb => unfill_ok (as := as) hs hr hl nb
  | .ln i :: as, [], v :: vs, ρ, g, fl, hs, hr, hl, nb => ⟨g, fun a => Nat.le_add_right _ _, hs⟩
  | .ln i :: as, d :: ls, v :: vs, ρ, g, fl, hs, ⟨v', r, f1, g1, e1, s1, h1, h2⟩, ⟨hv, hl⟩, nb => by
    have e1' : v :: pick (maskOf as) vs = v' :: r := e1
    cases e1'
    have hlt : i < ρ.length := by rw [hs.len]; exact (List.getElem?_eq_some_iff.mp hv).1
    obtain ⟨g2, le, hs2⟩ := Slots.put (fp' := g) i v d hs hlt (and_l nb) h1
    have es : σ.set i (some v) = σ := by
      obtain ⟨hl, e⟩ := List.getElem?_eq_some_iff.mp hv
      rw [← e]; exact List.set_getElem_self hl
    rw [es] at hs2
    obtain ⟨g3, le3, hs3⟩ := unfill_ok (as := as) hs2 h2 hl (and_r nb)
    exact ⟨g3, fun a => by have := le a; have := le3 a; have := s1 a; omega, hs3⟩
theorem unfill_get : ∀ {as : List AS} {ls : List D} {ρ : Env} {j : Nat} {d : D}, getS (unfill as ls ρ) j = some d → AS.ln j ∈ as ∨ getS ρ j = some d
  | [], ls, ρ, j, d, h => .inr (by cases ls <;> exact h)
  | .ex f :: as, ls, ρ, j, d, h => (unfill_get (as := as) h).imp (fun z => List.mem_cons_of_mem _ z) id
  | .ln i :: as, [], ρ, j, d, h => .inr h
  | .ln i :: as, x :: ls, ρ, j, d, h => by
    rcases unfill_get (as := as) h with z | z
    · exact .inl (List.mem_cons_of_mem _ z)
    · rcases getS_set z with ⟨a, _⟩ | ⟨_, b⟩
      · subst a; exact .inl List.mem_cons_self
      · exact .inr b
end
/-- behind a call -/
theorem SIx.behind {Γ : Ctx} {F F2 : Addr → Prop} {fa fh fs fp g fp2 : Fp} {blk hold : Hold} {ρ ρ2 : Env} {σ : L2.St} {H H' : Hp} {as : List AS} {vs : List V} {ls rs : List D} {ws : List V} {rh : Hold}
    (s : SIx Γ F (fun a => fa a + fh a) fs blk ρ σ H) (hh : Reps Γ.K Γ.cn F H (hold.map (·.2)) (hold.map (·.1)) fh) (nbh : hold.noBrw) (hown : ∀ i, AS.ln i ∈ as → Γ.own i = true)
    (hs : Slots Γ.K Γ.cn (fun a => F a ∨ 0 < fa a) H ρ2 σ g) (e : ∀ a, fs a = fp a + g a) (hl : lnOk σ as vs) (hρ : ∀ i d, getS ρ2 i = some d → getS ρ i = some d)
    (A : Aft Γ.K Γ.cn (fun a => F a ∨ 0 < fa a) fp H (rs ++ ls) (ws ++ pick (maskOf as) vs) H' F2 fp2) (hrh : rh.map (·.2) = rs ∧ rh.map (·.1) = ws) :
    SI Γ (rh ++ hold) (unfill as ls ρ2) σ H' := by
  have alc : ∀ a, 0 < fa a + fh a + fs a → H a ≠ none := fun a p => mut_some (s.alloc a p)
  have n1 : ∀ a, fa a + fh a + fs a ≤ 1 := s.nd
  have kk : Keep (fun a => F a ∨ 0 < fa a) F2 H H' False := by
    have ne : ∀ a, (F a ∨ 0 < fa a) → fp a = 0 := fun a h => by
      have := e a; have := n1 a
      rcases h with h | h
      · by_cases z : 0 < fp a
        · exact absurd h (s.ow a (show 0 < fa a + fh a + fs a by omega)).1
        · omega
      · omega
    refine ⟨A.F1, fun a o hm h => A.kp a o h ?_, fun a u hF h => A.kp a u h (ne a hF), fun z => z.elim⟩
    by_cases z : 0 < fp a
    · have := s.alloc a (show 0 < fa a + fh a + fs a by have := e a; omega)
      rw [h] at this; exact absurd this hm
    · omega
  have hh2 : Reps Γ.K Γ.cn (fun a => F a ∨ 0 < fa a) H (hold.map (·.2)) (hold.map (·.1)) fh := Reps.go (Keep.more fun a h => .inl h) _ _ _ (fun _ => trivial) (fun a o _ h => h) hh
  have hh3 := Reps.go kk _ _ _ (fun z => by rw [show D.chkL (fun m => !m.isBrw) (hold.map (·.2)) = true from nbh] at z; cases z) (fun a o p h => A.kp a o h (by have := e a; have := n1 a; omega)) hh2
  have hs3 := Slots.go kk (fun a o p h => A.kp a o h (by have := e a; have := n1 a; omega)) hs
  obtain ⟨hrs, hws⟩ := hrh
  have lrs : rs.length = ws.length := by rw [← hrs, ← hws, List.length_map, List.length_map]
  obtain ⟨f1, fl, e1, h1, h2⟩ := Reps.split2 lrs A.rep
  have nbl : D.chkL (fun m => !m.isBrw) ls = true := by have := A.nb; rw [chkL_app] at this; exact and_r this
  obtain ⟨g', le, hs4⟩ := unfill_ok hs3 h2 hl nbl
  refine ⟨F2, fun a => f1 a + fh a, g', ⟨?_, hs4, fun a => ?_, fun a p => ?_, fun i d hi ho => ?_, fun a h => A.F1 a (.inl (s.F1 a h)), fun a h => ?_, A.al, fun a o h n => ?_, fun a h => A.dm a (s.dm a h), s.lk⟩⟩
  · rw [List.map_append, List.map_append, hrs, hws]
    exact Reps.app h1 hh3 fun _ => rfl
  · have := n1 a; have := e a; have := e1 a; have := le a; have := A.nd a
    show f1 a + fh a + g' a ≤ 1
    by_cases hf : 0 < fp2 a
    · rcases (A.ow a hf).2 with hn | hn
      · have z1 := s.fresh hn
        have : fa a + fh a = 0 := z1.1
        omega
      · omega
    · omega
  · have := n1 a; have := e a; have := e1 a; have := le a
    have p' : 0 < f1 a + fh a + g' a := p
    by_cases hf : 0 < fp2 a
    · obtain ⟨o1, o2⟩ := A.ow a hf
      refine ⟨o1, ?_⟩
      rcases o2 with hn | hn
      · refine .inl ?_
        cases e9 : Γ.H0 a with
        | none => rfl
        | some o => exact (s.dm a (by rw [e9]; exact fun z => nomatch z) hn).elim
      · exact (s.ow a (show 0 < fa a + fh a + fs a by omega)).2
    · have q : 0 < fa a + fh a + fs a := by omega
      obtain ⟨o1, o2⟩ := s.ow a q
      refine ⟨fun h => ?_, o2⟩
      rcases A.F2 a h with (h | h) | h | h
      · exact o1 h
      · omega
      · exact alc a q h
      · omega
  · rcases unfill_get hi with z | z
    · rw [hown i z] at ho; cases ho
    · exact s.mo i d (hρ i d z) ho
  · rcases A.F2 a h with (h | h) | h | h
    · exact s.F2 a h
    · exact .inr (s.ow a (show 0 < fa a + fh a + fs a by omega)).2
    · refine .inr (.inl ?_)
      cases e9 : Γ.H0 a with
      | none => rfl
      | some o => exact (s.dm a (by rw [e9]; exact fun z => nomatch z) h).elim
    · exact .inr (s.ow a (show 0 < fa a + fh a + fs a by have := e a; omega)).2
  · refine A.kp a o (s.kp a o h n) ?_
    by_cases z : 0 < fp a
    · rcases (s.ow a (show 0 < fa a + fh a + fs a by have := e a; omega)).2 with q | q
      · rw [q] at h; cases h
      · exact absurd q n
    · omega
/-- the call, from the arguments on -/
theorem call_sp {Γ : Ctx} {W : WX} {ff : FF} {as : List AS} {hold : Hold} {ρ' : Env} {σ : L2.St} {H' : Hp} {ds : List D} {vs : List V} {Q : VK} (nbh : hold.noBrw) (hown : ∀ i, AS.ln i ∈ as → Γ.own i = true) (hl : lnOk σ as vs) (lv : vs.length = as.length) (ld : ds.length = as.length) (nbx : D.chkL (fun m => !m.isBrw) (exOf as ds) = true)
    (s : SI Γ ((exOf as vs).zip (exOf as ds) ++ hold) ρ' σ H')
    (k : match (match fill as ds ρ' with
      | some p => (match ff p.1 with
        | some (.ret d ls) => some (Res.ok d (unfill as ls p.2))
        | some (.exc n fs ls) => some (.ex n fs (unfill as ls p.2))
        | none => none)
      | none => none) with
      | none => False
      | some (.ok d ρ'') => ∀ v H'', SI Γ ((v, d) :: hold) ρ'' σ H'' → Q v H''
      | some (.ex n fs ρ'') => ∀ c od H'', SI Γ hold ρ'' σ H'' → ExO Γ.cn H'' n fs c od → W c od σ H'') : SpD Γ.K Γ.cn (maskOf as) ff vs H' Q (WE W σ) := by
  cases z : fill as ds ρ' with
  | none => rw [z] at k; exact k.elim
  | some p =>
    rw [z] at k
    dsimp only at k
    have lex : ∀ (as : List AS) (vs : List V) (ds : List D), vs.length = as.length → ds.length = as.length → (exOf as vs).length = (exOf as ds).length := by
      intro as
      induction as with
      | nil => intro vs ds h1 h2; cases vs <;> cases ds <;> rfl
      | cons a as ih =>
        intro vs ds h1 h2
        match vs, ds, h1, h2 with
        | v :: vs, d :: ds, h1, h2 =>
          cases a with
          | ex f => show (exOf as vs).length + 1 = (exOf as ds).length + 1; rw [ih vs ds (by simpa using h1) (by simpa using h2)]
          | ln i => exact ih vs ds (by simpa using h1) (by simpa using h2)
    obtain ⟨F, fa, fh, fs, ha, s, hh⟩ := s.block (lex as vs ds lv ld)
    have fr := Reps.frz (F' := fun a => F a ∨ 0 < fa a) (fun a h => .inl h) _ _ fa ha (fun a p => .inr p) (fun z => by rw [nbx] at z; cases z)
    have hs1 := Slots.go (Keep.more (F' := fun a => F a ∨ 0 < fa a) fun a h => .inl h) (fun a o _ h => h) s.ss
    obtain ⟨fp, g, a1, a2, a3, a4, a5, a6, a7⟩ := fill_ok hs1 fr hl z
    have n1 : ∀ a, fa a + fh a + fs a ≤ 1 := s.nd
    refine ⟨fun a => F a ∨ 0 < fa a, p.1, fp, a1, a5, fun a => by have := a3 a; have := n1 a; omega, fun a q => ?_, fun a h => ?_, a4, ?_⟩
    · have := a3 a; have := n1 a
      rintro (h | h)
      · exact (s.ow a (show 0 < fa a + fh a + fs a by omega)).1 h
      · omega
    · rcases h with h | h
      · exact s.al a h
      · exact mut_some (s.alloc a (show 0 < fa a + fh a + fs a by omega))
    · cases z2 : ff p.1 with
      | none => rw [z2] at k; exact k.elim
      | some r =>
        rw [z2] at k
        cases r with
        | ret d ls =>
          dsimp only at k ⊢
          intro v H2 F2 fp2 A
          exact k v H2 (s.behind (rs := [d]) (ws := [v]) (rh := [(v, d)]) hh nbh hown a2 a3 hl a7 A ⟨rfl, rfl⟩)
        | exc n xs ls =>
          dsimp only at k ⊢
          intro c od H2 F2 fp2 A hx
          exact k c od H2 (s.behind (rs := []) (ws := []) (rh := []) hh nbh hown a2 a3 hl a7 A ⟨rfl, rfl⟩) hx
section
variable {X : Cx} {Γ : Ctx} {W : WX} {k : Nat} {f : Addr} {fd : FuncData} {ps : List Str} {ff : FF} {x : Str} {px pos : Pos} {e : Expr} {es : List Expr} {as : List AS}
theorem tE_call (hown : ∀ i, AS.ln i ∈ as → Γ.own i = true) (σ : L2.St) (H : Hp) (Q : VK) : tE Γ W (eC ff as) σ H Q → tAA Γ W as σ H (fun vs H1 => SpD Γ.K Γ.cn (maskOf as) ff vs H1 Q (WE W σ)) := fun ⟨hold, ρ, s, nb, k⟩ => by
  unfold eC at k
  by_cases c : (as.all fun a => match a with | .ln i => (getS ρ i).isSome | _ => true) = true
  · rw [if_pos c] at k
    refine ⟨hold, ρ, s, nb, fun i hi => ?_, ?_⟩
    · have := List.all_eq_true.mp c _ hi
      obtain ⟨d, hd⟩ := Option.isSome_iff_exists.mp this
      obtain ⟨F, fh, fs, s⟩ := s
      obtain ⟨v, _, ev, _⟩ := s.ss.get hd
      exact ⟨v, ev⟩
    · cases z : evA as ρ with
      | none => rw [z] at k; exact k.elim
      | some r =>
        rw [z] at k
        cases r with
        | ex n xs ρ1 => exact k
        | ok ds ρ1 =>
          dsimp only at k ⊢
          exact fun vs H' h1 h2 h3 h4 s' => call_sp nb hown h1 h2 h4 h3 s' k
  · rw [if_neg c] at k; exact k.elim
/-- f(e, ..) -/
theorem e_call (F : FnOk X.prog X.w X.K X.mg X.base (L2.CX X.prog X.w) k f fd ps (SpD X.K Γ.cn (maskOf as) ff)) (hown : ∀ i, AS.ln i ∈ as → Γ.own i = true) (hK : X.K = Γ.K) (hr : Room k X.A) (hg : Gl X x) (hm : X.mg x = some (.ref f)) (hk : PySem.W.keepIn X.K (.ref f) = true) (hb : Binds X.K fd ps [])
    (tk : Takes X W) (ha : PA X (e :: es) (tAA Γ W as)) (hdb : (x == ("__debug__" : Str)) = false := by decide) (he : starEach (e :: es) X.env = (false, eval e X.env) :: starEach es X.env := by rfl) (hpl : (backTo pos (starEach es X.env)).any (·.1) = false := by rfl) :
    PE X (.Call (.Name x px) (e :: es) [] pos) (tE Γ W (eC ff as)) :=
  PE.wk (pe_callS F hr hg hm hk hb (fun σ => passAt tk σ) ha hdb he hpl) fun σ H Q h => by
    have q := tE_call (ff := ff) hown σ H Q h
    rw [← hK] at q
    exact q
end
end
end DL

end
section
/-! DL15: comprehensions. -/
open PySem PySem.Spec L2
namespace DL
def loopC (b : BF) (t : TF) (f : EF) (is : List Nat) : List D → List D → Env → Option (List D × Env)
  | [], acc, ρ => some (acc, ρ)
  | d :: ds, acc, ρ => match b d ρ with
    | none => none
    | some ρ1 => match t ρ1 with
      | some (.ok false ρ2) => loopC b t f is ds acc (clrS is ρ2)
      | some (.ok true ρ2) => (match f ρ2 with
        | some (.ok x ρ3) => if x.noBrw = true ∧ acc.length < sizeLine then loopC b t f is ds (acc ++ [x]) (clrS is ρ3) else none
        | _ => none)
      | _ => none
def eLc (q : IF) (b : BF) (t : TF) (f : EF) (is : List Nat) : EF := fun ρ => match q ρ with
  | some (.ok (_, ds) ρ1) => (match loopC b t f is ds [] (clrS is ρ1) with
    | some p => some (.ok (.lst .own p.1) (clrS is p.2))
    | none => none)
  | some (.ex n fs ρ1) => some (.ex n fs ρ1)
  | none => none
theorem wipe_get : ∀ (is : List Nat) (σ : L2.St) (j : Nat), (wipe σ is)[j]? = if j ∈ is then (if j < σ.length then some none else none) else σ[j]?
  | [], σ, j => rfl
  | i :: is, σ, j => by
    show ((wipe σ is).set i none)[j]? = _
    have ih := wipe_get is σ j
    by_cases h : i = j
    · subst h
      rw [if_pos List.mem_cons_self]
      by_cases hl : i < σ.length
      · rw [if_pos hl, List.getElem?_set_self (by rw [wipe_length]; exact hl)]
      · rw [if_neg hl]
        exact List.getElem?_eq_none (by rw [List.length_set, wipe_length]; omega)
    · rw [List.getElem?_set_ne h, ih]
      by_cases hm : j ∈ is
      · rw [if_pos hm, if_pos (List.mem_cons_of_mem _ hm)]
      · rw [if_neg hm, if_neg (fun z => (List.mem_cons.mp z).elim (fun z => h z.symm) hm)]
theorem wipe_but {is js : List Nat} {σ σ2 : L2.St} (h : But js (wipe σ is) σ2) (hs : ∀ j ∈ js, j ∈ is) : wipe σ2 is = wipe σ is := by
  apply List.ext_getElem?
  intro j
  have hl : σ2.length = σ.length := by rw [h.1, wipe_length]
  rw [wipe_get, wipe_get, hl]
  by_cases hm : j ∈ is
  · rw [if_pos hm, if_pos hm]
  · rw [if_neg hm, if_neg hm, h.2 j (fun z => hm (hs j z)), wipe_get, if_neg hm]
section
variable {Γ : Ctx} {hold : Hold} {ρ : Env} {σ : L2.St} {H : Hp}
/-- out of the block: the block's own slots are not known -/
theorem SI.unwipe {is : List Nat} {σ2 : L2.St} (s : SI Γ hold ρ σ2 H) (h : But is σ σ2) (hl : ∀ i v, Γ.lv i = some v → σ[i]? = some (some v)) : SI Γ hold (clrS is ρ) σ H := by
  have s := SI.clr is s
  obtain ⟨F, fh, fs, s⟩ := s
  have none_at : ∀ (is : List Nat) (ρ : Env) (j : Nat), j ∈ is → getS (clrS is ρ) j = none := by
    have keep : ∀ (is : List Nat) (ρ : Env) (j : Nat), getS ρ j = none → getS (clrS is ρ) j = none := by
      intro is
      induction is with
      | nil => intro ρ j h; exact h
      | cons i is ih =>
        intro ρ j h
        refine ih _ j ?_
        cases q : getS (setS ρ i none) j with
        | none => rfl
        | some d => rcases getS_set q with ⟨_, z⟩ | ⟨_, z⟩
                    · cases z
                    · rw [h] at z; cases z
    intro is
    induction is with
    | nil => intro ρ j h; cases h
    | cons i is ih =>
      intro ρ j h
      rcases List.mem_cons.mp h with rfl | h
      · refine keep is _ j ?_
        cases q : getS (setS ρ j none) j with
        | none => rfl
        | some d => rcases getS_set q with ⟨_, z⟩ | ⟨z, _⟩
                    · cases z
                    · exact absurd rfl z
      · exact ih _ j h
  refine ⟨F, fh, fs, ⟨s.hh, ?_, s.nd, s.ow, s.mo, s.F1, s.F2, s.al, s.kp, s.dm, hl⟩⟩
  have gen : ∀ (ρ : Env) (σ2 σ : L2.St) (fs : Fp), Slots Γ.K Γ.cn F H ρ σ2 fs → σ2.length = σ.length → (∀ j d, getS ρ j = some d → σ2[j]? = σ[j]?) → Slots Γ.K Γ.cn F H ρ σ fs := by
    intro ρ
    induction ρ with
    | nil =>
      intro σ2 σ fs h l _
      have : σ2 = [] := h.1
      subst this
      have : σ = [] := List.eq_nil_of_length_eq_zero l.symm
      subst this
      exact h
    | cons x ρ ih =>
      intro σ2 σ fs h l he
      cases x with
      | none =>
        obtain ⟨y, r, e, h⟩ := h
        subst e
        match σ, l with
        | z :: σ, l => exact ⟨z, σ, rfl, ih r σ fs h (by simpa using l) fun j d hj => by simpa using he (j + 1) d hj⟩
      | some d =>
        obtain ⟨v, r, f, g, e, s, nb, h1, h2⟩ := h
        subst e
        match σ, l with
        | z :: σ, l =>
          have : z = some v := by
            have := he 0 d rfl
            simpa using this.symm
          subst this
          exact ⟨v, σ, f, g, rfl, s, nb, h1, ih r σ g h2 (by simpa using l) fun j d hj => by simpa using he (j + 1) d hj⟩
  refine gen _ _ _ _ s.ss h.1 fun j d hj => h.2 j fun hm => ?_
  rw [none_at is ρ j hm] at hj; cases hj
end
/-- one more at the end of a held list -/
theorem SI.push1 {Γ : Ctx} {hold : Hold} {ρ : Env} {σ : L2.St} {H : Hp} {C : Addr} {acc : List D} {u : V} {x : D} (s : SI Γ ((.ref C, .lst .own acc) :: (u, x) :: hold) ρ σ H) (nb : hold.noBrw) (nx : x.noBrw = true) (na : D.chkL (fun m => !m.isBrw) acc = true) :
    ∃ ws, H C = some (.lst ws) ∧ ws.length = acc.length ∧ SI Γ ((.ref C, .lst .own (acc ++ [x])) :: hold) ρ σ (upd H C (.lst (ws ++ [u]))) := by
  obtain ⟨F, fh, fs, s⟩ := s
  obtain ⟨v', r, f, g, e, q, ⟨a, ws, f1, ea, hq, hr⟩, ⟨v2, r2, f2, g2, e2, q2, hx, hh⟩⟩ := s.hh
  cases e; cases e2; cases ea
  have hq' : H C = some (.lst ws) ∧ ∀ b, f b = f1 b + if b = C then 1 else 0 := by
    rcases hq with hq | hq
    · exact hq
    · cases hq.1
  refine ⟨ws, hq'.1, hr.len.symm, ?_⟩
  have fC : f C = f1 C + 1 := by have := hq'.2 C; simpa using this
  have n1 := s.nd C
  have pC : 0 < fh C + fs C := by have := q C; omega
  have zC : f1 C = 0 ∧ f2 C = 0 ∧ g2 C = 0 ∧ fs C = 0 := by have := q C; have := q2 C; omega
  have K0 : Keep F F H (upd H C (.lst (ws ++ [u]))) False := Keep.upd (by rw [hq'.1]; trivial) (s.ow C pC).1
  have away : ∀ {f9 : Fp}, f9 C = 0 → ∀ a o', 0 < f9 a → H a = some o' → upd H C (.lst (ws ++ [u])) a = some o' := fun {f9} z a o' pos h => by
    rw [upd_ne]; exact h
    rintro rfl; omega
  refine ⟨F, fun b => (f1 b + f2 b) + (if b = C then 1 else 0) + g2 b, fs, s.mut pC ⟨.ref C, _, fun b => (f1 b + f2 b) + if b = C then 1 else 0, g2, rfl, fun b => rfl, rep_new upd_same ?_, ?_⟩ (Slots.go K0 (away zC.2.2.2) s.ss) (fun b => ?_) s.mo⟩
  · exact Reps.app (Reps.go K0 _ _ _ (fun z => by rw [na] at z; cases z) (away zC.1) hr) (Reps.one (Rep.go K0 _ _ _ (fun z => by rw [nx] at z; cases z) (away zC.2.1) hx)) fun _ => rfl
  · exact Reps.go K0 _ _ _ (fun z => by rw [show D.chkL (fun m => !m.isBrw) (hold.map (·.2)) = true from nb] at z; cases z) (away zC.2.2.1) hh
  · have := q b; have := q2 b; have := hq'.2 b
    show f1 b + f2 b + (if b = C then 1 else 0) + g2 b + fs b ≤ fh b + fs b
    omega
section
variable {X : Cx} {Γ : Ctx} {W : WX} {pos : Pos}
abbrev WF : WX := fun _ _ _ _ => False
theorem wipe_len' (σ : L2.St) (is : List Nat) : But is σ (wipe σ is) := ⟨wipe_length σ is, fun j h => by rw [wipe_get, if_neg h]⟩
theorem tE_lc {q : IF} {b : BF} {t : TF} {f : EF} {is js : List Nat} (hlv : ∀ i ∈ is, Γ.lv i = none) (hjs : ∀ j ∈ js, j ∈ is) (σ : L2.St) (H : Hp) (Q : VK) :
    tE Γ W (eLc q b t f is) σ H Q → tLc (tI Γ W q) (tB Γ js b) (tT Γ WF t) (tE Γ WF f) is σ H Q := fun ⟨hold, ρ, s, nb, k⟩ => by
  refine ⟨hold, ρ, s, nb, ?_⟩
  have lk0 : ∀ i v, Γ.lv i = some v → σ[i]? = some (some v) := by obtain ⟨F, fh, fs, s⟩ := s; exact s.lk
  unfold eLc at k
  cases z : q ρ with
  | none => rw [z] at k; exact k
  | some o =>
    rw [z] at k
    cases o with
    | ex n xs ρ' => exact k
    | ok p ρ' =>
      obtain ⟨d, ds⟩ := p
      dsimp only at k ⊢
      intro v J H1 s1 nbd nbs nos wk C hC
      cases zz : loopC b t f is ds [] (clrS is ρ') with
      | none => rw [zz] at k; exact k.elim
      | some pr =>
        rw [zz] at k
        dsimp only at k
        -- the state within the block
        refine ⟨fun i m H => m = ds.length - i ∧ i ≤ ds.length ∧ ∃ acc ρ, SI Γ ((v, d) :: (.ref C, .lst .own acc) :: hold) ρ (wipe σ is) H ∧ D.chkL (fun m => !m.isBrw) acc = true ∧ loopC b t f is (ds.drop i) acc ρ = some pr, ⟨ds.length, rfl, Nat.zero_le _, [], clrS is ρ', ?_, rfl, zz⟩, ?_⟩
        · have s2 : SI Γ ((.ref C, .lst .own []) :: (v, d) :: hold) ρ' σ (upd H1 C (.lst [])) := by
            have := SI.newBlock (vs := []) (ds := []) (hold := (v, d) :: hold) (v := .ref C) (d := .lst .own []) (p := C) (o := .lst []) s1 rfl hC fun F fa r => ⟨_, fun a => Nat.le_refl _, rep_new upd_same r⟩
            exact this
          have s3 := s2.unwipe (is := is) (σ := wipe σ is) ⟨(wipe_length σ is).symm, fun j h => by rw [wipe_get, if_neg h]⟩ fun i v hv => by
            rw [wipe_get, if_neg (fun hm => by rw [hlv i hm] at hv; cases hv)]
            exact lk0 i v hv
          exact SI.rot (h1 := [(.ref C, .lst .own [])]) s3
        · rintro i m H2 ⟨rfl, hi, acc, ρ2, s2, nba, lp⟩
          obtain ⟨w1, w2⟩ := wk _ ρ2 _ H2 s2
          by_cases hlt : i < ds.length
          · have e1 : ds[i]? = some ds[i] := List.getElem?_eq_getElem hlt
            obtain ⟨go, yl⟩ := w1 i _ e1
            refine .inr ⟨go, fun H' => ∃ acc ρ, SI Γ ((v, d) :: (.ref C, .lst .own acc) :: hold) ρ (wipe σ is) H' ∧ D.chkL (fun m => !m.isBrw) acc = true ∧ loopC b t f is (ds.drop (i + 1)) acc ρ = some pr, fun H' h' => ⟨ds.length - (i + 1), by omega, rfl, hlt, h'⟩, fun x H3 y => ?_⟩
            obtain ⟨_, s3⟩ := yl x H3 y
            rw [List.drop_eq_getElem_cons hlt] at lp
            unfold loopC at lp
            cases z1 : b ds[i] ρ2 with
            | none => rw [z1] at lp; cases lp
            | some ρ3 =>
              rw [z1] at lp
              dsimp only at lp
              refine ⟨_, ρ2, ds[i], s3, chkL_get _ nbs e1, chkL_get _ nos e1, ρ3, z1, fun σ4 b4 s4 => ⟨wipe_but b4 hjs, ?_⟩⟩
              have nb2 : Hold.noBrw ((v, d) :: (.ref C, .lst .own acc) :: hold) := noBrw_cons (noBrw_cons nb (by show ((!Mk.isBrw .own) && D.chkL (fun m => !m.isBrw) acc) = true; rw [nba]; rfl)) nbd
              have lk2 : ∀ i v, Γ.lv i = some v → (wipe σ is)[i]? = some (some v) := by obtain ⟨F, fh, fs, s⟩ := s2; exact s.lk
              have b5 : But is (wipe σ is) σ4 := ⟨b4.1, fun j hj => b4.2 j fun z => hj (hjs j z)⟩
              refine ⟨_, ρ3, s4, nb2, ?_⟩
              cases z2 : t ρ3 with
              | none => rw [z2] at lp; cases lp
              | some o2 =>
                rw [z2] at lp
                cases o2 with
                | ex n xs ρ4 => cases lp
                | ok c ρ4 =>
                  cases c with
                  | false =>
                    dsimp only at lp ⊢
                    exact fun H5 s5 => iF ⟨acc, clrS is ρ4, s5.unwipe b5 lk2, nba, lp⟩
                  | true =>
                    dsimp only at lp ⊢
                    intro H5 s5
                    refine iT ⟨_, ρ4, s5, nb2, ?_⟩
                    cases z3 : f ρ4 with
                    | none => rw [z3] at lp; cases lp
                    | some o3 =>
                      rw [z3] at lp
                      cases o3 with
                      | ex n xs ρ5 => cases lp
                      | ok x ρ5 =>
                        dsimp only at lp ⊢
                        intro u H6 s6
                        by_cases c : x.noBrw = true ∧ acc.length < sizeLine
                        · rw [if_pos c] at lp
                          have s7 := SI.rot (h1 := [(u, x), (v, d)]) s6
                          obtain ⟨ws, e7, l7, s8⟩ := s7.push1 (noBrw_cons nb nbd) c.1 nba
                          refine ⟨ws, e7, by rw [l7]; exact c.2, acc ++ [x], clrS is ρ5, ?_, ?_, lp⟩
                          · exact (SI.rot (h1 := [(V.ref C, D.lst .own (acc ++ [x]))]) s8).unwipe b5 lk2
                          · rw [chkL_app, nba]
                            show (true && (D.chk (fun m => !m.isBrw) x && true)) = true
                            rw [show D.chk (fun m => !m.isBrw) x = true from c.1]; rfl
                        · rw [if_neg c] at lp; cases lp
          · have e : i = ds.length := by omega
            subst e
            rw [List.drop_length] at lp
            rw [loopC] at lp
            cases lp
            refine .inl ⟨w2 _ (Nat.le_refl _), k _ H2 ?_⟩
            exact SI.unwipe s2.drop (wipe_len' σ is) lk0

def tYesF : TF := fun ρ => some (.ok true ρ)
theorem ts_nil : PTs X [] (tT Γ W tYesF) := ⟨fun pins s σ H Q I ⟨hold, ρ, s', nb, k⟩ => pts_nil.run pins s σ H Q I (k H s')⟩
theorem ts_one {c : Expr} {t : TF} (h : PT X c (tT Γ W t)) : PTs X [c] (tT Γ W t) := pts_one h
/-- [elt for tg in iter if ..] -/
theorem e_lc {elt tg iter : Expr} {ifs : List Expr} {scope : Scope} {own : List (Str × Nat)} {q : IF} {b : BF} {t : TF} {f : EF} {js : List Nat} (hlv : ∀ i ∈ own.map (·.2), Γ.lv i = none) (hjs : ∀ j ∈ js, j ∈ own.map (·.2)) (hc : X.calm = true) (hN : X.N.Nodup) (hi : PI X tg iter (tI Γ W q)) (ok : BlkOk X.N X.env.scope scope own)
    (hg : ∀ (s : Shared) (H : Hp) (C : Addr) (cl : List (Str × Addr)) (fp : List Addr), PG (X.blk s H scope (PySem.compEnvC scope cl C X.env) fp) tg (tB Γ js b)) (ht : ∀ (s : Shared) (H : Hp) (C : Addr) (cl : List (Str × Addr)) (fp : List Addr), PTs (X.blk s H scope (PySem.compEnvC scope cl C X.env) fp) ifs (tT Γ WF t))
    (he : ∀ (s : Shared) (H : Hp) (C : Addr) (cl : List (Str × Addr)) (fp : List Addr), PE (X.blk s H scope (PySem.compEnvC scope cl C X.env) fp) elt (tE Γ WF f)) (hs : ∀ x, foldedSetIterable iter X.env x = pure x := by intro _; rfl) :
    PE X (.ListComp elt [⟨tg, iter, ifs, 0⟩] scope pos) (tE Γ W (eLc q b t f (own.map (·.2)))) :=
  PE.wk (pe_lc hc hN hi ok hg ht he hs) (tE_lc hlv hjs)
/-- name = [..] on one line -/
theorem s_lc (fro : Bool) {i : Nat} {y : Str} {py : Pos} {elt tg iter : Expr} {ifs : List Expr} {scope : Scope} {own : List (Str × Nat)} {spos : Pos} {q : IF} {b : BF} {t : TF} {f : EF} {js : List Nat} (hyv : Γ.lv i = none) (hyo : fro = false → Γ.own i = true) (hlv : ∀ i ∈ own.map (·.2), Γ.lv i = none) (hjs : ∀ j ∈ js, j ∈ own.map (·.2)) (hc : X.calm = true) (hN : X.N.Nodup) (hy : X.N[i]? = some y) (hyl : X.env.scope.names.lookup y = some .local)
    (hsw : swapsWith (.ListComp elt [⟨tg, iter, ifs, 0⟩] scope pos) (some (.Name y py)) spos.line X.env = pure true) (hi : PI X tg iter (tI Γ W q)) (ok : BlkOk X.N X.env.scope scope own)
    (hg : ∀ (s : Shared) (H : Hp) (C : Addr) (cl : List (Str × Addr)) (fp : List Addr), PG (X.blk s H scope (PySem.compEnvC scope cl C X.env) fp) tg (tB Γ js b)) (ht : ∀ (s : Shared) (H : Hp) (C : Addr) (cl : List (Str × Addr)) (fp : List Addr), PTs (X.blk s H scope (PySem.compEnvC scope cl C X.env) fp) ifs (tT Γ WF t))
    (he : ∀ (s : Shared) (H : Hp) (C : Addr) (cl : List (Str × Addr)) (fp : List Addr), PE (X.blk s H scope (PySem.compEnvC scope cl C X.env) fp) elt (tE Γ WF f)) (hs : ∀ x, foldedSetIterable iter X.env x = pure x := by intro _; rfl) :
    PS X (.Assign [.Name y py] (.ListComp elt [⟨tg, iter, ifs, 0⟩] scope pos) spos) (tS Γ W (if fro then sF i (eLc q b t f (own.map (·.2))) else sO i (eLc q b t f (own.map (·.2))))) :=
  PS.wk (ps_setLc hc hN hy hyl hsw hi ok hg ht he hs) fun DD σ H ⟨hold, ρ, s, nb, k⟩ => by
    refine tE_lc hlv hjs σ H _ ⟨hold, ρ, s, nb, ?_⟩
    cases fro with
    | true =>
      rw [if_pos rfl] at k
      unfold sF at k
      cases q : eLc q b t f (own.map (·.2)) ρ with
      | none => rw [q] at k; exact k
      | some o =>
        rw [q] at k
        cases o with
        | ok d ρ' =>
          dsimp only at k ⊢
          intro v H' s'
          by_cases hc : d.noBrw = true ∧ i < ρ'.length
          · rw [if_pos hc] at k
            exact k _ H' ((s'.freeze hc.1).store i hyv hc.2 (frz_noBrw d) fun _ => frz_noOwn d)
          · rw [if_neg hc] at k; exact k.elim
        | ex n fs ρ' => exact fun c od H' s' => k c od σ H' s'
    | false =>
      rw [if_neg Bool.false_ne_true] at k
      unfold sO at k
      cases q : eLc q b t f (own.map (·.2)) ρ with
      | none => rw [q] at k; exact k
      | some o =>
        rw [q] at k
        cases o with
        | ok d ρ' =>
          dsimp only at k ⊢
          intro v H' s'
          by_cases hc : d.noBrw = true ∧ i < ρ'.length
          · rw [if_pos hc] at k
            exact k _ H' (s'.store i hyv hc.2 hc.1 fun z => by rw [hyo rfl] at z; cases z)
          · rw [if_neg hc] at k; exact k.elim
        | ex n fs ρ' => exact fun c od H' s' => k c od σ H' s'
end
end DL

end
section
/-! DL16: products, minus, all of a def's end. -/
open PySem PySem.Spec L2
namespace DL
section
variable {X : Cx} {Γ : Ctx} {W : WX} {e a b : Expr} {f g p : PF} {pos : Pos}
def strRep (x : Str) (n : Int) : Str := if n < 1 then Str.empty else if (n == 1 || x.length == 0) = true then x else ⟨(List.replicate n.toNat x.cps).foldl (· ++ ·) #[]⟩
theorem op_mul_str : OpR X (binaryOp .Mult) (fun x y H Q => ∃ z n, x = .str z ∧ y = .int n ∧ (-(2 ^ 62) ≤ n ∧ n ≤ 1000 ∧ z.length ≤ 1000) ∧ Q (.str (strRep z n)) H) := by
  intro pins s σ H x y v u Q I rx ry h
  obtain ⟨z, n, rfl, rfl, ⟨h1, h2, h3⟩, q⟩ := h
  obtain ⟨t, rfl⟩ := rx
  obtain ⟨t', rfl⟩ := ry
  have hp : ¬ n < 1 → (z.length : Int) * n ≤ 1000000 := fun hn => by
    have : (z.length : Int) * n ≤ 1000 * 1000 := Int.mul_le_mul (by omega) h2 (by omega) (by decide)
    omega
  refine PySem.P.mul_str (by rw [decide_eq_false (by omega), decide_eq_false (by omega)]; rfl) (fun hn _ hc => ?_) (fun hn _ => ?_) ?_
  · have h4 : (1000 : Int) ≤ (2 ^ 63 - 1) / n := by
      rw [Int.le_ediv_iff_mul_le (by omega)]
      have : (1000 : Int) * n ≤ 1000 * 1000 := Int.mul_le_mul_of_nonneg_left h2 (by decide)
      omega
    omega
  · have hm : z.length * n.toNat ≤ 1000 * 1000 := Nat.mul_le_mul h3 (by omega)
    unfold Builtin.Str.tooLong
    exact decide_eq_false (by rw [sizeLine_eq]; omega)
  · unfold strRep at q
    split
    · rename_i c
      rw [if_pos c] at q
      exact ⟨by decide, ⟨.str _, H, I.tok _, ⟨_, rfl⟩, q⟩⟩
    · rename_i c
      rw [if_neg c] at q
      split
      · rename_i c2
        rw [if_pos c2] at q
        exact ⟨.str _, H, I, ⟨_, rfl⟩, q⟩
      · rename_i c2
        rw [if_neg c2] at q
        refine ⟨?_, ⟨.str _, H, I.tok _, ⟨_, rfl⟩, q⟩⟩
        have hs : ∀ (k : Nat) (acc : Array Nat), ((List.replicate k z.cps).foldl (· ++ ·) acc).size = acc.size + k * z.cps.size := by
          intro k
          induction k with
          | zero => intro acc; simp
          | succ k ih => intro acc; rw [List.replicate_succ, List.foldl_cons, ih, Array.size_append, Nat.succ_mul]; omega
        show ((List.replicate n.toNat z.cps).foldl (· ++ ·) #[]).size ≤ sizeLine
        rw [hs]
        have hm : n.toNat * z.cps.size ≤ 1000 * 1000 := Nat.mul_le_mul (by omega) h3
        rw [sizeLine_eq]
        show 0 + _ ≤ _
        omega
def oMul : O2
  | .int i, .int j => if cMul i j = true then some (.int (i * j)) else none
  | .str z, .int n => if -(2 ^ 62) ≤ n ∧ n ≤ 1000 ∧ z.length ≤ 1000 then some (.str (strRep z n)) else none
  | _, _ => none
def rMul : R2 := fun x y H Q => (∃ i j, x = .int i ∧ y = .int j ∧ CMul i j ∧ Q (.int (i * j)) H) ∨ ∃ z n, x = .str z ∧ y = .int n ∧ (-(2 ^ 62) ≤ n ∧ n ≤ 1000 ∧ z.length ≤ 1000) ∧ Q (.str (strRep z n)) H
theorem opr_mul : OpR X (binaryOp .Mult) rMul := OpR.or op_mul op_mul_str
theorem oMul_ok : Op2 Γ rMul oMul := fun hold ρ σ H v w x y d Q e s k => by
  unfold oMul at e
  split at e
  · split at e
    · rename_i c
      cases e
      obtain rfl := s.topInt
      obtain rfl := s.drop.topInt
      refine .inl ⟨_, _, rfl, rfl, ?_, k _ _ Ext.refl (s.drop.drop.int _)⟩
      simpa [cMul, CMul] using c
    · cases e
  · split at e
    · rename_i c
      cases e
      obtain rfl := s.topInt
      obtain rfl := s.drop.topStr
      exact .inr ⟨_, _, rfl, rfl, c, k _ _ Ext.refl (s.drop.drop.str _)⟩
    · cases e
  · cases e
def pNeg (f : PF) : PF := fun ρ => match f ρ with | some (.int i) => some (.int (-i)) | _ => none
theorem d_neg (ha : PE X a (tP Γ f)) : PE X (.UnaryOp .USub a pos) (tP Γ (pNeg f)) := PE.wk (pe_un un_neg ha) fun σ H Q ⟨hold, ρ, s, d, e, k⟩ => by
  unfold pNeg at e
  split at e
  · rename_i i e1
    cases e
    exact ⟨hold, ρ, s, _, e1, fun v H1 x1 s1 => ⟨i, s1.topInt, k _ H1 x1 (s1.drop.int _)⟩⟩
  · cases e
/-- binary operators -/
theorem d_bin {op : Operator} {r : R2} {o : O2} (hr : OpR X (binaryOp op) r) (ho : Op2 Γ r o) (ha : PE X a (tP Γ f)) (hb : PE X b (tP Γ g)) : PE X (.BinOp a op b pos) (tP Γ (pB o f g)) := p_op (pe_op hr ha hb) ho
theorem e_bin {op : Operator} {r : R2} {o : O2} {f g : EF} (hr : OpR X (binaryOp op) r) (ho : Op2 Γ r o) (ha : PE X a (tE Γ W f)) (hb : PE X b (tE Γ W g)) : PE X (.BinOp a op b pos) (tE Γ W (eB o f g)) := e_op (pe_op hr ha hb) ho
/-- a slot's thing handed on: it is there no more -/
def eMv (i : Nat) : EF := fun ρ => (getS ρ i).map fun d => .ok d (setS ρ i none)
theorem SI.move {hold : Hold} {ρ : Env} {σ : L2.St} {H : Hp} {i : Nat} {d : D} (s : SI Γ hold ρ σ H) (e : getS ρ i = some d) : ∃ v, σ[i]? = some (some v) ∧ SI Γ ((v, d) :: hold) (setS ρ i none) σ H := by
  obtain ⟨F, fh, fs, s⟩ := s
  obtain ⟨v, f, g, ev, hr, nb, e0, hs⟩ := s.ss.take e
  refine ⟨v, ev, F, fun a => f a + fh a, g, s.re ⟨v, _, f, fh, rfl, fun _ => rfl, hr, s.hh⟩ hs (fun a => by have := e0 a; show f a + fh a + g a ≤ fh a + fs a; omega) fun j x hx hj => ?_⟩
  rcases getS_set hx with ⟨_, z⟩ | ⟨_, z⟩
  · cases z
  · exact s.mo j x z hj
theorem e_mv {i : Nat} {x : Str} (hN : X.N[i]? = some x) (hv : Vis X.env.scope x) (hd : (x == ("__debug__" : Str)) = false := by decide) (hcd : (x == ("__classdict__" : Str)) = false := by decide) : PE X (.Name x pos) (tE Γ W (eMv i)) :=
  PE.wk (pe_var hN hv hd hcd) fun σ H Q ⟨hold, ρ, s, nb, k⟩ => by
    unfold eMv at k
    cases q : getS ρ i with
    | none => rw [q] at k; exact k.elim
    | some d =>
      rw [q] at k
      obtain ⟨v, ev, s'⟩ := s.move q
      exact ⟨v, ev, k v H s'⟩
/-- a slot's thing, frozen from here on -/
def eFz (i : Nat) : EF := fun ρ => (getS ρ i).map fun d => .ok d.frz (setS ρ i (some d.frz))
theorem e_fz {i : Nat} {x : Str} (hl : Γ.lv i = none) (hN : X.N[i]? = some x) (hv : Vis X.env.scope x) (hd : (x == ("__debug__" : Str)) = false := by decide) (hcd : (x == ("__classdict__" : Str)) = false := by decide) : PE X (.Name x pos) (tE Γ W (eFz i)) :=
  PE.wk (pe_var hN hv hd hcd) fun σ H Q ⟨hold, ρ, s, nb, k⟩ => by
    unfold eFz at k
    cases q : getS ρ i with
    | none => rw [q] at k; exact k.elim
    | some d =>
      rw [q] at k
      obtain ⟨v, ev, s'⟩ := s.move q
      have nbd : d.noBrw = true := by
        obtain ⟨F, fh, fs, s⟩ := s
        obtain ⟨_, _, _, _, nb, _⟩ := s.ss.get q
        exact nb
      have s2 := s'.freeze nbd
      have hlt : i < (setS ρ i none).length := by rw [setS_length]; exact getS_lt q
      have s3 : SI Γ ((v, d.frz) :: (v, d.frz) :: hold) (setS ρ i none) σ H := by
        obtain ⟨F, fh, fs, s2⟩ := s2
        obtain ⟨v', r, f, g, e, q2, h1, h2⟩ := s2.hh
        cases e
        have z : ∀ a, f a = 0 := Rep.zero _ _ _ h1 (frz_noOwn d)
        exact ⟨F, fun a => f a + (f a + g a), fs, s2.re ⟨v, _, f, fun a => f a + g a, rfl, fun _ => rfl, h1, ⟨v, _, f, g, rfl, fun _ => rfl, h1, h2⟩⟩ s2.ss (fun a => by have := z a; have := q2 a; show f a + (f a + g a) + fs a ≤ _; omega) s2.mo s2.lk⟩
      have s4 := s3.store i hl hlt (frz_noBrw d) fun _ => frz_noOwn d
      rw [setS_setS] at s4
      have es : σ.set i (some v) = σ := by
        obtain ⟨hl, e⟩ := List.getElem?_eq_some_iff.mp ev
        rw [← e]; exact List.set_getElem_self hl
      rw [es] at s4
      exact ⟨v, ev, k v H s4⟩
end
end DL

end
section
/-! DL17: tests that may change things; truth; the law's end. -/
open PySem PySem.Spec L2
namespace DL
section
variable {X : Cx} {Γ : Ctx} {W : WX} {e a b : Expr} {pos : Pos}
def tNotF (t : TF) : TF := fun ρ => match t ρ with | some (.ok b ρ') => some (.ok (!b) ρ') | r => r
def tAndF (t u : TF) : TF := fun ρ => match t ρ with | some (.ok true ρ') => u ρ' | r => r
def tOrF (t u : TF) : TF := fun ρ => match t ρ with | some (.ok false ρ') => u ρ' | r => r
theorem t_not {t : TF} (h : PT X a (tT Γ W t)) : PT X (.UnaryOp .Not a pos) (tT Γ W (tNotF t)) :=
  PT.wk (pt_not h) fun σ H Q ⟨hold, ρ, s, nb, k⟩ => by
    refine ⟨hold, ρ, s, nb, ?_⟩
    unfold tNotF at k
    cases q : t ρ with
    | none => rw [q] at k; exact k
    | some o =>
      rw [q] at k
      cases o with
      | ok c ρ' => exact fun H' s' => k H' s'
      | ex n fs ρ' => exact k
theorem tw_and1 {t : TF} (h : PT X a (tT Γ W t)) : PW X (.BoolOp .And [a] pos) (tT Γ W t) := pw_and1 h
theorem tw_or1 {t : TF} (h : PT X a (tT Γ W t)) : PW X (.BoolOp .Or [a] pos) (tT Γ W t) := pw_or1 h
theorem tw_and {t u : TF} {rest : List Expr} (h : PT X a (tT Γ W t)) (h' : PW X (.BoolOp .And (b :: rest) pos) (tT Γ W u)) : PW X (.BoolOp .And (a :: b :: rest) pos) (tT Γ W (tAndF t u)) :=
  PW.wk (pw_and h h') fun σ H Q ⟨hold, ρ, s, nb, k⟩ => by
    refine ⟨hold, ρ, s, nb, ?_⟩
    unfold tAndF at k
    cases q : t ρ with
    | none => rw [q] at k; exact k
    | some o =>
      rw [q] at k
      cases o with
      | ok c ρ' =>
        cases c with
        | true => exact fun H' s' => iT ⟨hold, ρ', s', nb, k⟩
        | false => exact fun H' s' => iF (k H' s')
      | ex n fs ρ' => exact k
theorem tw_or {t u : TF} {rest : List Expr} (h : PT X a (tT Γ W t)) (h' : PW X (.BoolOp .Or (b :: rest) pos) (tT Γ W u)) : PW X (.BoolOp .Or (a :: b :: rest) pos) (tT Γ W (tOrF t u)) :=
  PW.wk (pw_or h h') fun σ H Q ⟨hold, ρ, s, nb, k⟩ => by
    refine ⟨hold, ρ, s, nb, ?_⟩
    unfold tOrF at k
    cases q : t ρ with
    | none => rw [q] at k; exact k
    | some o =>
      rw [q] at k
      cases o with
      | ok c ρ' =>
        cases c with
        | true => exact fun H' s' => iT (k H' s')
        | false => exact fun H' s' => iF ⟨hold, ρ', s', nb, k⟩
      | ex n fs ρ' => exact k
theorem t_w {t : TF} (h : PW X e (tT Γ W t)) : PT X e (tT Γ W t) := h.pt
/-- truth of a thing of any kind -/
def truD : D → Option Bool
  | .non => some false
  | .bl b => some b
  | .int i => some (i != 0)
  | .str z => if z.length ≤ sizeLine then some ((z.length : Int) != 0) else none
  | .tup ds => some (!ds.isEmpty)
  | .lst _ ds => some (!ds.isEmpty)
  | .dic .own .k ks => some (!ks.isEmpty)
  | .dic .frz .k ks => some (!ks.isEmpty)
  | _ => none
def qTr (f : PF) : QF := fun ρ => (f ρ).bind truD
theorem reps_empty {K : PySem.W.Frag} {cn : Nm} {F : Addr → Prop} {H : Hp} {ds : List D} {vs : List V} {f : Fp} (h : Reps K cn F H ds vs f) : (!ds.isEmpty) = !vs.isEmpty := by
  have := h.len
  cases ds <;> cases vs <;> simp_all
theorem repK_empty {K : PySem.W.Frag} {cn : Nm} {F : Addr → Prop} {H : Hp} {ds : List (Ky × D)} {vs : List (Ky × V)} {f : Fp} (h : RepK K cn F H ds vs f) : (!ds.isEmpty) = !vs.isEmpty := by
  cases ds with
  | nil => rw [h.1]; rfl
  | cons p ds => obtain ⟨k, d⟩ := p; obtain ⟨v, r, _, _, e, _⟩ := h; rw [e]; rfl
theorem q_tru {f : PF} (hK : X.K = Γ.K) (ha : PE X a (tP Γ f)) (he : ∀ whole, isTrue a X.env whole = (do let v ← whole; standAt a.pos; holding [v] (truthy v)) := by intro _; rfl) : PT X a (tQ Γ (qTr f)) :=
  PT.wk (pt_truth ha he) fun σ H Q ⟨hold, ρ, s, b, e, k⟩ => by
    unfold qTr at e
    obtain ⟨x, e1, e2⟩ := Option.bind_eq_some_iff.mp e
    refine ⟨hold, ρ, s, x, e1, fun v H1 x1 s1 => ⟨b, ?_, k H1 x1 s1.drop⟩⟩
    obtain ⟨F, fp, h, _⟩ := s1.open1
    rw [hK]
    unfold truD at e2
    split at e2
    · cases e2; rw [h.1]; rfl
    · cases e2; rw [h.1]; rfl
    · cases e2; rw [h.1]; rfl
    · split at e2
      · rename_i z; cases e2; rw [h.1]; exact ⟨z, rfl⟩
      · cases e2
    · cases e2
      obtain ⟨a, vs, ev, q, r⟩ := h
      rw [ev]; exact .inr (.inl ⟨vs, SqT.of q, reps_empty r⟩)
    · cases e2
      obtain ⟨a, vs, f', ev, q, r⟩ := h
      rw [ev]; exact .inl ⟨vs, lst_sq q, reps_empty r⟩
    · cases e2
      obtain ⟨a, f', ev, q⟩ := h
      rcases q with ⟨_, kv, q, r⟩ | ⟨hk, _⟩
      · rw [ev]; refine .inr (.inr ⟨kv, q.1, ?_⟩)
        have := repK_empty r
        rw [this]; cases kv <;> rfl
      · cases hk
    · cases e2
      obtain ⟨a, f', ev, q⟩ := h
      rcases q with ⟨_, kv, q, r⟩ | ⟨hk, _⟩
      · rw [ev]; refine .inr (.inr ⟨kv, q.2.1, ?_⟩)
        have := repK_empty r
        rw [this]; cases kv <;> rfl
      · cases hk
    · cases e2
end
/-- the law's own call -/
theorem law_sp {K : PySem.W.Frag} {cn : Nm} {f : FF} {H : Hp} {a : Addr} {ns : List Int} {ls : List D} (hO : Only H) (hS : SqL K H a (ns.map V.int)) (h : f [.lst .ro (ns.map .int)] = some (.ret (.bl true) ls)) :
    SpD K cn [false] f [.ref a] H (fun v _ => v = .bl true) (fun _ _ _ => False) := by
  have hr : ∀ ns : List Int, Reps K cn (fun _ => False) H (ns.map D.int) (ns.map V.int) fp0 := by
    intro ns
    induction ns with
    | nil => exact ⟨rfl, fun _ => rfl⟩
    | cons n ns ih => exact ⟨_, _, fp0, fp0, rfl, fun _ => rfl, ⟨rfl, fun _ => rfl⟩, ih⟩
  have hc : ∀ (p : Mk → Bool) (ns : List Int), D.chkL p (ns.map D.int) = true := by
    intro p ns
    induction ns with
    | nil => rfl
    | cons n ns ih => exact ih
  refine ⟨fun _ => False, [.lst .ro (ns.map .int)], fp0, Reps.one ⟨a, _, fp0, rfl, ?_, hr ns⟩, rfl, fun _ => Nat.zero_le _, fun b p => absurd p (Nat.lt_irrefl 0), fun b z => z.elim, ?_, ?_⟩
  · rcases hS with (hS | hS) | hS
    · rcases hO a with z | ⟨o, xs, z⟩
      · rw [hS] at z; cases z
      · rw [hS] at z; cases z
    · exact .inl ⟨hS, fun _ => rfl, fun _ => rfl⟩
    · exact .inr ⟨rfl, hS, fun _ => rfl, fun _ => rfl⟩
  · show (((!Mk.isBrw .ro) && D.chkL (fun m => !m.isBrw) (ns.map D.int)) && ((!Mk.isOwn .ro) && D.chkL (fun m => !m.isOwn) (ns.map D.int)) && true) = true
    rw [hc, hc]; rfl
  · rw [h]
    intro v H' F' fp' A
    obtain ⟨v', r, f1, g1, e, _, hv, _⟩ := A.rep
    cases e
    exact hv.1
theorem law_cx {P : Program} {w : World} (H : Hp) (s : Shared) (e : Value) (s' : Shared) : L2.CX P w [] H s (fun _ _ _ => False) e s' → False := fun h => by
  obtain ⟨_, _, _, _, _, _, _, _, _, _, _, _, z⟩ := h
  exact z
end DL
namespace DL
theorem u64 {k : Nat} {A : Around} (r : Room k A) : A.units + 64 < cLine := by have := r.un; omega
theorem u65 {k : Nat} {A : Around} (r : Room k A) : A.units + 65 < cLine := by have := r.un; omega
end DL
namespace DL
theorem hos_by {lm : List Bool} {os : List Nat} (h : ((List.range lm.length).all fun i => lm[i]? != some true || os.contains i) = true) : ∀ (i : Nat), lm[i]? = some true → os.contains i = true := fun i e => by
  have hi : i < lm.length := (List.getElem?_eq_some_iff.mp e).1
  have := List.all_eq_true.mp h i (List.mem_range.mpr hi)
  rw [e] at this
  simpa using this
end DL

end
section
/-! DL18: more that is walked: texts, ranges with a step, reversed. -/
open PySem PySem.Spec L2
namespace DL
section
variable {X : Cx} {Γ : Ctx} {W : WX} {pos : Pos}
def strD (z : Str) : List D := z.cps.toList.map fun c => .str ⟨#[c]⟩
theorem strD_chk (p : Mk → Bool) (z : Str) : D.chkL p (strD z) = true := by
  unfold strD
  induction z.cps.toList with
  | nil => rfl
  | cons x xs ih => exact ih
theorem walks_str {x : Str} {v : V} {d : D} : Walks Γ (Its x) v d (strD x) := fun hold ρ σ H s => by
  have hl : (strD x).length = x.cps.size := by unfold strD; rw [List.length_map]; rfl
  refine ⟨fun i di hi => ?_, fun i hi => by rw [hl] at hi; exact hi⟩
  have h1 : i < x.cps.size := by rw [← hl]; exact (List.getElem?_eq_some_iff.mp hi).1
  unfold strD at hi
  rw [List.getElem?_map, Option.map_eq_some_iff] at hi
  obtain ⟨c, e, rfl⟩ := hi
  refine ⟨h1, fun y H' z => ?_⟩
  obtain ⟨rfl, c', e', rfl⟩ := z
  rw [← Array.getElem?_toList, e] at e'
  cases e'
  exact ⟨Ext.refl, s.str _⟩
/-- a list, a tuple, a text -/
def iAll (f : EF) : IF := fun ρ => match f ρ with
  | some (.ok (.str z) ρ') => some (.ok (.str z, strD z) ρ')
  | _ => iSeq f ρ
theorem i_all {tg l : Expr} {f : EF} (hK : X.K = Γ.K) (hl : PE X l (tE Γ W f)) : PI X tg l (tI Γ W (iAll f)) :=
  PI.wk (PI.or (i_seq hK hl) (pi_str hl)) fun σ H R ⟨hold, ρ, s, nb, k⟩ => by
    by_cases hz : ∃ z ρ', f ρ = some (.ok (.str z) ρ')
    · obtain ⟨z, ρ', e⟩ := hz
      refine .inr ⟨hold, ρ, s, nb, ?_⟩
      unfold iAll at k
      rw [e] at k ⊢
      intro v H' s'
      obtain rfl := s'.topStr
      exact ⟨z, rfl, k _ _ _ s' rfl (strD_chk _ z) (strD_chk _ z) walks_str⟩
    · refine .inl ⟨hold, ρ, s, nb, ?_⟩
      have e : iAll f ρ = iSeq f ρ := by
        unfold iAll
        split
        · rename_i z ρ' e
          exact absurd ⟨z, ρ', e⟩ hz
        · rfl
      rw [e] at k
      exact k
/-- range(i, j, -1) -/
def rngDn (i : Int) (n : Nat) : List D := (List.range n).map fun (k : Nat) => .int (i + (k : Int) * -1)
theorem rngDn_chk (p : Mk → Bool) (i : Int) (n : Nat) : D.chkL p (rngDn i n) = true := by
  unfold rngDn
  induction List.range n with
  | nil => rfl
  | cons x xs ih => exact ih
theorem walks_rngDn {lo : Int} {n : Nat} {v : V} {d : D} : Walks Γ (Itc lo (-1) n) v d (rngDn lo n) := fun hold ρ σ H s => by
  have hl : (rngDn lo n).length = n := by unfold rngDn; rw [List.length_map, List.length_range]
  refine ⟨fun i di hi => ?_, fun i hi => by rw [hl] at hi; exact hi⟩
  have h1 : i < n := by rw [← hl]; exact (List.getElem?_eq_some_iff.mp hi).1
  unfold rngDn at hi
  rw [List.getElem?_map, List.getElem?_range h1] at hi
  cases hi
  refine ⟨h1, fun y H' z => ?_⟩
  obtain ⟨rfl, rfl⟩ := z
  exact ⟨Ext.refl, s.int _⟩
def iRng3 (fs : List EF) : IF := fun ρ => match evE fs ρ with
  | some (.ok [.int i, .int j, .int (-1)] ρ') => if okR i = true ∧ okR j = true then some (.ok (.non, rngDn i (i - j).toNat) ρ') else none
  | some (.ok _ _) => none
  | some (.ex n xs ρ') => some (.ex n xs ρ')
  | none => none
theorem i_rng3 {tg a b c : Expr} {fs : List EF} {p : Pos} (hg : Gl X "range") (hm : X.mg "range" = none) (ha : PA X [a, b, c] (tAE Γ W fs))
    (hs : starEach [a, b, c] X.env = (false, eval a X.env) :: starEach [b, c] X.env := by rfl) (hpl : (backTo pos (starEach [b, c] X.env)).any (·.1) = false := by rfl) :
    PI X tg (.Call (.Name "range" p) [a, b, c] [] pos) (tI Γ W (iRng3 fs)) :=
  PI.wk (pi_range3 hg hm ha hs hpl) fun σ H R ⟨hold, ρ, s, nb, k⟩ => by
    refine ⟨hold, ρ, s, nb, ?_⟩
    unfold iRng3 at k
    cases q : evE fs ρ with
    | none => rw [q] at k; exact k.elim
    | some o =>
      rw [q] at k
      cases o with
      | ex n xs ρ' => exact k
      | ok ds ρ' =>
        dsimp only at k ⊢
        split at k
        · exact k.elim
        · rename_i d ds2 ρ2 e
          split at e
          · rename_i i j ρ3 e2
            split at e
            · rename_i hr
              cases e2
              cases e
              intro vs H' l s'
              match vs, l with
              | [v1, v2, v3], _ =>
                obtain rfl := s'.topInt
                obtain rfl := s'.drop.topInt
                obtain rfl := s'.drop.drop.topInt
                obtain ⟨a1, a2⟩ := okR_of hr.1
                obtain ⟨b1, b2⟩ := okR_of hr.2
                exact ⟨i, j, -1, _, rfl, RgC.neg a1 a2 b1 b2, k .non _ H' s'.drop.drop.drop.non rfl (rngDn_chk _ _ _) (rngDn_chk _ _ _) walks_rngDn⟩
            · cases e
          · cases e
          · rename_i e2; cases e2
          · rename_i e2; cases e2
        · rename_i e
          split at e
          · split at e <;> cases e
          · cases e
          · rename_i e2; cases e2
          · rename_i e2; cases e2
/-- reversed of a list, a tuple -/
def iRev (f : EF) : IF := fun ρ => match f ρ with
  | some (.ok d ρ') => if d.noBrw = true then (itemsD d.frz).map fun ds => .ok (d.frz, ds.reverse) ρ' else none
  | some (.ex n fs ρ') => some (.ex n fs ρ')
  | none => none
theorem chkL_rev (p : Mk → Bool) : ∀ (ds es : List D), D.chkL p (ds ++ es) = (D.chkL p ds && D.chkL p es)
  | [], es => rfl
  | d :: ds, es => by show (D.chk p d && D.chkL p (ds ++ es)) = ((D.chk p d && D.chkL p ds) && D.chkL p es); rw [chkL_rev p ds es, Bool.and_assoc]
theorem chkL_reverse (p : Mk → Bool) : ∀ (ds : List D), D.chkL p ds.reverse = D.chkL p ds
  | [] => rfl
  | d :: ds => by rw [List.reverse_cons, chkL_rev, chkL_reverse p ds]; show (D.chkL p ds && (D.chk p d && true)) = (D.chk p d && D.chkL p ds); rw [Bool.and_true, Bool.and_comm]
theorem rev_at {α : Type} {xs : List α} {i : Nat} {x : α} (h : xs.reverse[i]? = some x) : i < xs.length ∧ xs[xs.length - 1 - i]? = some x := by
  have hl : i < xs.length := by rw [← List.length_reverse]; exact (List.getElem?_eq_some_iff.mp h).1
  rw [List.getElem?_reverse hl] at h
  exact ⟨hl, h⟩
theorem i_rev {tg e : Expr} {f : EF} {p : Pos} (hK : X.K = Γ.K) (hg : Gl X "reversed") (hm : X.mg "reversed" = none) (he : PE X e (tE Γ W f)) (hs : starEach [e] X.env = (false, eval e X.env) :: starEach [] X.env := by rfl) :
    PI X tg (.Call (.Name "reversed" p) [e] [] pos) (tI Γ W (iRev f)) :=
  PI.wk (RT.pi_revA hg hm he hs) fun σ H R ⟨hold, ρ, s, nb, k⟩ => by
    refine ⟨hold, ρ, s, nb, ?_⟩
    unfold iRev at k
    cases q : f ρ with
    | none => rw [q] at k; exact k.elim
    | some o =>
      rw [q] at k
      cases o with
      | ex n fs ρ' => exact k
      | ok d ρ' =>
        dsimp only at k ⊢
        by_cases hd : d.noBrw = true
        · rw [if_pos hd] at k
          have nbk := frz_noBrw d
          have nok := frz_noOwn d
          intro v H' s'
          have s2 := s'.freeze hd
          cases d with
          | lst m ds =>
            obtain ⟨F, f1, ⟨a, vs, f2, ev, hq, hr⟩, _⟩ := s2.open1
            subst ev
            refine ⟨a, vs, rfl, .inl ⟨by rw [hK]; exact lst_sq hq, k (.ref a) (Itv X.K a vs.length) H' s2 nbk (by rw [chkL_reverse]; exact and_r nbk) (by rw [chkL_reverse]; exact and_r nok) ?_⟩⟩
            have hvl := hr.len
            intro hold2 ρ2 σ2 H2 z
            obtain ⟨F2, fh, fs, z⟩ := z
            obtain ⟨v', r, f3, g3, e1, q1, h1, h2⟩ := z.hh
            cases e1
            have h1' := h1
            obtain ⟨a', ws, f4, ev', hq', hr'⟩ := h1'
            cases ev'
            refine ⟨fun i di hi => ?_, fun i hi => by rw [List.length_reverse] at hi; show vs.length ≤ i; rw [← hvl]; exact hi⟩
            obtain ⟨hl, hi⟩ := rev_at hi
            rw [hvl] at hi hl
            obtain ⟨w, f5, ew, hw, lw⟩ := hr'.get hi
            refine ⟨⟨hl, ws, w, by rw [hK]; exact lst_sq hq', ew⟩, fun x H3 y => ?_⟩
            obtain ⟨e3, y⟩ := y
            subst e3
            have ex : x = w := by
              have := y ws (by rw [hK]; exact lst_sq hq')
              rw [ew] at this; exact (Option.some.inj this).symm
            subst ex
            refine ⟨Ext.refl, F2, fh, fs, z.re ⟨x, _, fp0, fh, rfl, fun a => by show _ = 0 + _; omega, ?_, z.hh⟩ z.ss (fun _ => Nat.le_refl _) z.mo z.lk⟩
            have : f5 = fp0 := funext fun b => by
              have := lw b
              have := Reps.zero _ _ _ hr' (and_r nok) b
              show f5 b = 0; omega
            rw [← this]; exact hw
          | tup ds =>
            obtain ⟨F, f1, ⟨a, vs, ev, hq, hr⟩, _⟩ := s2.open1
            subst ev
            refine ⟨a, vs, rfl, .inr ⟨by rw [hK]; exact SqT.of hq, k (.ref a) (RT.ItvT X.K a vs.length) H' s2 nbk (by rw [chkL_reverse]; exact nbk) (by rw [chkL_reverse]; exact nok) ?_⟩⟩
            have hvl := hr.len
            intro hold2 ρ2 σ2 H2 z
            obtain ⟨F2, fh, fs, z⟩ := z
            obtain ⟨v', r, f3, g3, e1, q1, h1, h2⟩ := z.hh
            cases e1
            have h1' := h1
            obtain ⟨a', ws, ev', hq', hr'⟩ := h1'
            cases ev'
            refine ⟨fun i di hi => ?_, fun i hi => by rw [List.length_reverse] at hi; show vs.length ≤ i; rw [← hvl]; exact hi⟩
            obtain ⟨hl, hi⟩ := rev_at hi
            rw [hvl] at hi hl
            obtain ⟨w, f5, ew, hw, lw⟩ := hr'.get hi
            refine ⟨⟨hl, ws, w, by rw [hK]; exact SqT.of hq', ew⟩, fun x H3 y => ?_⟩
            obtain ⟨e3, y⟩ := y
            subst e3
            have ex : x = w := by
              have := y ws (by rw [hK]; exact SqT.of hq')
              rw [ew] at this; exact (Option.some.inj this).symm
            subst ex
            refine ⟨Ext.refl, F2, fh, fs, z.re ⟨x, _, fp0, fh, rfl, fun a => by show _ = 0 + _; omega, ?_, z.hh⟩ z.ss (fun _ => Nat.le_refl _) z.mo z.lk⟩
            have : f5 = fp0 := funext fun b => by
              have := lw b
              have := Reps.zero _ _ _ hr' nok b
              show f5 b = 0; omega
            rw [← this]; exact hw
          | non => exact k.elim
          | bl b => exact k.elim
          | int b => exact k.elim
          | str b => exact k.elim
          | cls b => exact k.elim
          | exc n b => exact k.elim
          | dic m kd b => exact k.elim
          | ins m n b => exact k.elim
        · rw [if_neg hd] at k; exact k.elim
end
end DL

end
section
/-! DL19: a slot's own list is walked and stays the slot's. -/
open PySem PySem.Spec L2
namespace DL
section
variable {X : Cx} {Γ : Ctx} {W : WX} {pos : Pos} {hold : Hold} {ρ : Env} {σ : L2.St} {H : Hp}
theorem set_same {σ : L2.St} {i : Nat} {v : V} (h : σ[i]? = some (some v)) : σ.set i (some v) = σ := by
  obtain ⟨hl, e⟩ := List.getElem?_eq_some_iff.mp h
  rw [← e]; exact List.set_getElem_self hl
/-- what was taken out of a slot is put back -/
theorem SI.put {v : V} {d : D} (s : SI Γ ((v, d) :: hold) ρ σ H) (i : Nat) (hv : σ[i]? = some (some v)) (hi : i < ρ.length) (hd : d.noBrw = true) (ho : Γ.own i = false → d.noOwn = true) : SI Γ hold (setS ρ i (some d)) σ H := by
  obtain ⟨F, fh, fs, s⟩ := s
  obtain ⟨v', r, f, g, e, q, h1, h2⟩ := s.hh
  cases e
  obtain ⟨g', le, h3⟩ := Slots.put (fp' := fs) i v d s.ss hi hd h1
  rw [set_same hv] at h3
  refine ⟨F, g, g', s.re h2 h3 (fun a => by have := le a; have := q a; omega) (fun j x hx hj => ?_) s.lk⟩
  rcases getS_set hx with ⟨e1, e2⟩ | ⟨e1, e2⟩
  · cases e2; subst e1; exact ho hj
  · exact s.mo j x e2 hj
def ownW : Option D → Option (List D)
  | some (.lst .own ds) => if D.chkL (fun m => !m.isOwn) ds = true ∧ D.chkL (fun m => !m.isBrw) ds = true then some ds else none
  | _ => none
theorem ownW_some {o : Option D} {ds : List D} (h : ownW o = some ds) : o = some (.lst .own ds) ∧ D.chkL (fun m => !m.isOwn) ds = true ∧ D.chkL (fun m => !m.isBrw) ds = true := by
  unfold ownW at h
  split at h
  · split at h
    · rename_i c; cases h; exact ⟨rfl, c.1, c.2⟩
    · cases h
  · cases h
theorem walks_own {K : PySem.W.Frag} (hK : K = Γ.K) {a : Addr} {ds : List D} (nos : D.chkL (fun m => !m.isOwn) ds = true) : Walks Γ (Itl K a) (.ref a) (.lst .own ds) ds := fun hold2 ρ2 σ2 H2 z => by
  obtain ⟨F2, fh, fs, z⟩ := z
  obtain ⟨v', r, f3, g3, e1, q1, h1, h2⟩ := z.hh
  cases e1
  have h1' := h1
  obtain ⟨a', ws, f4, ev', hq', hr'⟩ := h1'
  cases ev'
  refine ⟨fun i di hi => ?_, fun i hi => ⟨ws, by rw [hK]; exact lst_sq hq', by rw [← hr'.len]; exact hi⟩⟩
  obtain ⟨w, f5, ew, hw, lw⟩ := hr'.get hi
  refine ⟨⟨ws, w, by rw [hK]; exact lst_sq hq', ew⟩, fun x H3 y => ?_⟩
  obtain ⟨e3, y⟩ := y
  subst e3
  have ex : x = w := by
    have := y ws (by rw [hK]; exact lst_sq hq')
    rw [ew] at this; exact (Option.some.inj this).symm
  subst ex
  refine ⟨Ext.refl, F2, fh, fs, z.re ⟨x, _, fp0, fh, rfl, fun a => by show _ = 0 + _; omega, ?_, z.hh⟩ z.ss (fun _ => Nat.le_refl _) z.mo z.lk⟩
  have : f5 = fp0 := funext fun b => by
    have := lw b
    have := Reps.zero _ _ _ hr' nos b
    show f5 b = 0; omega
  rw [← this]; exact hw
/-- a slot's own list is walked -/
def tIO (Γ : Ctx) (i : Nat) : TI := fun σ H R => ∃ hold ρ, SI Γ hold ρ σ H ∧ hold.noBrw ∧ ∃ ds, ownW (getS ρ i) = some ds ∧ ∀ a, σ[i]? = some (some (.ref a)) → SI Γ ((.ref a, .lst .own ds) :: hold) (setS ρ i none) σ H → Walks Γ (Itl Γ.K a) (.ref a) (.lst .own ds) ds → R (Itl Γ.K a) H
theorem i_own {tg : Expr} {i : Nat} {x : Str} (hK : X.K = Γ.K) (hN : X.N[i]? = some x) (hv : Vis X.env.scope x) (hd : (x == ("__debug__" : Str)) = false := by decide) (hcd : (x == ("__classdict__" : Str)) = false := by decide) : PI X tg (.Name x pos) (tIO Γ i) :=
  PI.wk (pi_list (pe_var hN hv hd hcd)) fun σ H R ⟨hold, ρ, s, nb, ds, e, k⟩ => by
    obtain ⟨e1, c1, c2⟩ := ownW_some e
    obtain ⟨v, ev, s'⟩ := s.move e1
    have s2 := s'
    obtain ⟨F, f1, ⟨a, vs, f2, eva, hq, hr⟩, _⟩ := s2.open1
    subst eva
    exact ⟨_, ev, a, rfl, ⟨vs, by rw [hK]; exact lst_sq hq⟩, by rw [hK]; exact k a ev s' (walks_own rfl c1)⟩
def eLcO (i : Nat) (b : BF) (t : TF) (f : EF) (is : List Nat) : EF := fun ρ => match ownW (getS ρ i) with
  | some ds => (match loopC b t f is ds [] (clrS is (setS ρ i none)) with
    | some p => if i < (clrS is p.2).length then some (.ok (.lst .own p.1) (setS (clrS is p.2) i (some (.lst .own ds)))) else none
    | none => none)
  | none => none
theorem tE_lcO {i : Nat} {b : BF} {t : TF} {f : EF} {is js : List Nat} (hown : Γ.own i = true) (hlv : ∀ i ∈ is, Γ.lv i = none) (hjs : ∀ j ∈ js, j ∈ is) (σ : L2.St) (H : Hp) (Q : VK) :
    tE Γ W (eLcO i b t f is) σ H Q → tLc (tIO Γ i) (tB Γ js b) (tT Γ WF t) (tE Γ WF f) is σ H Q := fun ⟨hold, ρ, s, nb, k⟩ => by
  have lk0 : ∀ i v, Γ.lv i = some v → σ[i]? = some (some v) := by obtain ⟨F, fh, fs, s⟩ := s; exact s.lk
  unfold eLcO at k
  cases z : ownW (getS ρ i) with
  | none => rw [z] at k; exact k.elim
  | some ds =>
    rw [z] at k
    dsimp only at k
    refine ⟨hold, ρ, s, nb, ds, z, fun a ev s1 wk C hC => ?_⟩
    obtain ⟨_, nos, nbs⟩ := ownW_some z
    have nbd : (D.lst Mk.own ds).noBrw = true := by show ((!Mk.isBrw .own) && D.chkL (fun m => !m.isBrw) ds) = true; rw [nbs]; rfl
    cases zz : loopC b t f is ds [] (clrS is (setS ρ i none)) with
    | none => rw [zz] at k; exact k.elim
    | some pr =>
      rw [zz] at k
      dsimp only at k
      by_cases hil : i < (clrS is pr.2).length
      case neg => rw [if_neg hil] at k; exact k.elim
      rw [if_pos hil] at k
      dsimp only at k
      refine ⟨fun j m H => m = ds.length - j ∧ j ≤ ds.length ∧ ∃ acc ρ, SI Γ ((.ref a, .lst .own ds) :: (.ref C, .lst .own acc) :: hold) ρ (wipe σ is) H ∧ D.chkL (fun m => !m.isBrw) acc = true ∧ loopC b t f is (ds.drop j) acc ρ = some pr, ⟨ds.length, rfl, Nat.zero_le _, [], clrS is (setS ρ i none), ?_, rfl, zz⟩, ?_⟩
      · have s2 : SI Γ ((.ref C, .lst .own []) :: (.ref a, .lst .own ds) :: hold) (setS ρ i none) σ (upd H C (.lst [])) := by
          have := SI.newBlock (vs := []) (ds := []) (hold := (.ref a, .lst .own ds) :: hold) (v := .ref C) (d := .lst .own []) (p := C) (o := .lst []) s1 rfl hC fun F fa r => ⟨_, fun a => Nat.le_refl _, rep_new upd_same r⟩
          exact this
        have s3 := s2.unwipe (is := is) (σ := wipe σ is) ⟨(wipe_length σ is).symm, fun j h => by rw [wipe_get, if_neg h]⟩ fun i v hv => by
          rw [wipe_get, if_neg (fun hm => by rw [hlv i hm] at hv; cases hv)]
          exact lk0 i v hv
        exact SI.rot (h1 := [(.ref C, .lst .own [])]) s3
      · rintro j m H2 ⟨rfl, hi, acc, ρ2, s2, nba, lp⟩
        obtain ⟨w1, w2⟩ := wk _ ρ2 _ H2 s2
        by_cases hlt : j < ds.length
        · have e1 : ds[j]? = some ds[j] := List.getElem?_eq_getElem hlt
          obtain ⟨go, yl⟩ := w1 j _ e1
          refine .inr ⟨go, fun H' => ∃ acc ρ, SI Γ ((.ref a, .lst .own ds) :: (.ref C, .lst .own acc) :: hold) ρ (wipe σ is) H' ∧ D.chkL (fun m => !m.isBrw) acc = true ∧ loopC b t f is (ds.drop (j + 1)) acc ρ = some pr, fun H' h' => ⟨ds.length - (j + 1), by omega, rfl, hlt, h'⟩, fun x H3 y => ?_⟩
          obtain ⟨_, s3⟩ := yl x H3 y
          rw [List.drop_eq_getElem_cons hlt] at lp
          unfold loopC at lp
          cases z1 : b ds[j] ρ2 with
          | none => rw [z1] at lp; cases lp
          | some ρ3 =>
            rw [z1] at lp
            dsimp only at lp
            refine ⟨_, ρ2, ds[j], s3, chkL_get _ nbs e1, chkL_get _ nos e1, ρ3, z1, fun σ4 b4 s4 => ⟨wipe_but b4 hjs, ?_⟩⟩
            have nb2 : Hold.noBrw ((.ref a, .lst .own ds) :: (.ref C, .lst .own acc) :: hold) := noBrw_cons (noBrw_cons nb (by show ((!Mk.isBrw .own) && D.chkL (fun m => !m.isBrw) acc) = true; rw [nba]; rfl)) nbd
            have lk2 : ∀ i v, Γ.lv i = some v → (wipe σ is)[i]? = some (some v) := by obtain ⟨F, fh, fs, s⟩ := s2; exact s.lk
            have b5 : But is (wipe σ is) σ4 := ⟨b4.1, fun j hj => b4.2 j fun z => hj (hjs j z)⟩
            refine ⟨_, ρ3, s4, nb2, ?_⟩
            cases z2 : t ρ3 with
            | none => rw [z2] at lp; cases lp
            | some o2 =>
              rw [z2] at lp
              cases o2 with
              | ex n xs ρ4 => cases lp
              | ok c ρ4 =>
                cases c with
                | false =>
                  dsimp only at lp ⊢
                  exact fun H5 s5 => iF ⟨acc, clrS is ρ4, s5.unwipe b5 lk2, nba, lp⟩
                | true =>
                  dsimp only at lp ⊢
                  intro H5 s5
                  refine iT ⟨_, ρ4, s5, nb2, ?_⟩
                  cases z3 : f ρ4 with
                  | none => rw [z3] at lp; cases lp
                  | some o3 =>
                    rw [z3] at lp
                    cases o3 with
                    | ex n xs ρ5 => cases lp
                    | ok x ρ5 =>
                      dsimp only at lp ⊢
                      intro u H6 s6
                      by_cases c : x.noBrw = true ∧ acc.length < sizeLine
                      · rw [if_pos c] at lp
                        have s7 := SI.rot (h1 := [(u, x), (.ref a, .lst .own ds)]) s6
                        obtain ⟨ws, e7, l7, s8⟩ := s7.push1 (noBrw_cons nb nbd) c.1 nba
                        refine ⟨ws, e7, by rw [l7]; exact c.2, acc ++ [x], clrS is ρ5, ?_, ?_, lp⟩
                        · exact (SI.rot (h1 := [(V.ref C, D.lst .own (acc ++ [x]))]) s8).unwipe b5 lk2
                        · rw [chkL_app, nba]
                          show (true && (D.chk (fun m => !m.isBrw) x && true)) = true
                          rw [show D.chk (fun m => !m.isBrw) x = true from c.1]; rfl
                      · rw [if_neg c] at lp; cases lp
        · have e : j = ds.length := by omega
          subst e
          rw [List.drop_length] at lp
          rw [loopC] at lp
          cases lp
          refine .inl ⟨w2 _ (Nat.le_refl _), k _ H2 ?_⟩
          exact SI.put (SI.unwipe s2 (wipe_len' σ is) lk0) i ev hil nbd fun h => by rw [hown] at h; cases h
theorem e_lcO {i : Nat} {elt tg iter : Expr} {ifs : List Expr} {scope : Scope} {own : List (Str × Nat)} {b : BF} {t : TF} {f : EF} {js : List Nat} (hown : Γ.own i = true) (hlv : ∀ i ∈ own.map (·.2), Γ.lv i = none) (hjs : ∀ j ∈ js, j ∈ own.map (·.2)) (hc : X.calm = true) (hN : X.N.Nodup) (hi : PI X tg iter (tIO Γ i)) (ok : BlkOk X.N X.env.scope scope own)
    (hg : ∀ (s : Shared) (H : Hp) (C : Addr) (cl : List (Str × Addr)) (fp : List Addr), PG (X.blk s H scope (PySem.compEnvC scope cl C X.env) fp) tg (tB Γ js b)) (ht : ∀ (s : Shared) (H : Hp) (C : Addr) (cl : List (Str × Addr)) (fp : List Addr), PTs (X.blk s H scope (PySem.compEnvC scope cl C X.env) fp) ifs (tT Γ WF t))
    (he : ∀ (s : Shared) (H : Hp) (C : Addr) (cl : List (Str × Addr)) (fp : List Addr), PE (X.blk s H scope (PySem.compEnvC scope cl C X.env) fp) elt (tE Γ WF f)) (hs : ∀ x, foldedSetIterable iter X.env x = pure x := by intro _; rfl) :
    PE X (.ListComp elt [⟨tg, iter, ifs, 0⟩] scope pos) (tE Γ W (eLcO i b t f (own.map (·.2)))) :=
  PE.wk (pe_lc hc hN hi ok hg ht he hs) (tE_lcO hown hlv hjs)
/-- any expression's comprehension stored under a name on the same line: the swap -/
theorem s_lcG (fro : Bool) {i : Nat} {y : Str} {py : Pos} {elt tg iter : Expr} {ifs : List Expr} {scope : Scope} {own : List (Str × Nat)} {spos : Pos} {wi : TI} {ef : EF} {b : BF} {t : TF} {f : EF} {js : List Nat} (hyv : Γ.lv i = none) (hyo : fro = false → Γ.own i = true)
    (hlc : ∀ (σ : L2.St) (H : Hp) (Q : VK), tE Γ W ef σ H Q → tLc wi (tB Γ js b) (tT Γ WF t) (tE Γ WF f) (own.map (·.2)) σ H Q) (hc : X.calm = true) (hN : X.N.Nodup) (hy : X.N[i]? = some y) (hyl : X.env.scope.names.lookup y = some .local)
    (hsw : swapsWith (.ListComp elt [⟨tg, iter, ifs, 0⟩] scope pos) (some (.Name y py)) spos.line X.env = pure true) (hi : PI X tg iter wi) (ok : BlkOk X.N X.env.scope scope own)
    (hg : ∀ (s : Shared) (H : Hp) (C : Addr) (cl : List (Str × Addr)) (fp : List Addr), PG (X.blk s H scope (PySem.compEnvC scope cl C X.env) fp) tg (tB Γ js b)) (ht : ∀ (s : Shared) (H : Hp) (C : Addr) (cl : List (Str × Addr)) (fp : List Addr), PTs (X.blk s H scope (PySem.compEnvC scope cl C X.env) fp) ifs (tT Γ WF t))
    (he : ∀ (s : Shared) (H : Hp) (C : Addr) (cl : List (Str × Addr)) (fp : List Addr), PE (X.blk s H scope (PySem.compEnvC scope cl C X.env) fp) elt (tE Γ WF f)) (hs : ∀ x, foldedSetIterable iter X.env x = pure x := by intro _; rfl) :
    PS X (.Assign [.Name y py] (.ListComp elt [⟨tg, iter, ifs, 0⟩] scope pos) spos) (tS Γ W (if fro then sF i ef else sO i ef)) :=
  PS.wk (ps_setLc hc hN hy hyl hsw hi ok hg ht he hs) fun DD σ H ⟨hold, ρ, s, nb, k⟩ => by
    refine hlc σ H _ ⟨hold, ρ, s, nb, ?_⟩
    cases fro with
    | true =>
      rw [if_pos rfl] at k
      unfold sF at k
      cases q : ef ρ with
      | none => rw [q] at k; exact k
      | some o =>
        rw [q] at k
        cases o with
        | ok d ρ' =>
          dsimp only at k ⊢
          intro v H' s'
          by_cases hc : d.noBrw = true ∧ i < ρ'.length
          · rw [if_pos hc] at k
            exact k _ H' ((s'.freeze hc.1).store i hyv hc.2 (frz_noBrw d) fun _ => frz_noOwn d)
          · rw [if_neg hc] at k; exact k.elim
        | ex n fs ρ' => exact fun c od H' s' => k c od σ H' s'
    | false =>
      rw [if_neg Bool.false_ne_true] at k
      unfold sO at k
      cases q : ef ρ with
      | none => rw [q] at k; exact k
      | some o =>
        rw [q] at k
        cases o with
        | ok d ρ' =>
          dsimp only at k ⊢
          intro v H' s'
          by_cases hc : d.noBrw = true ∧ i < ρ'.length
          · rw [if_pos hc] at k
            exact k _ H' (s'.store i hyv hc.2 hc.1 fun z => by rw [hyo rfl] at z; cases z)
          · rw [if_neg hc] at k; exact k.elim
        | ex n fs ρ' => exact fun c od H' s' => k c od σ H' s'
end
end DL

end
section
/-! DL20: texts: str, join, split; several names at once. -/
open PySem PySem.Spec L2
namespace DL
section
variable {X : Cx} {Γ : Ctx} {W : WX} {e a b : Expr} {pos : Pos}
/-! ### str -/
def oStr : ON
  | [.int i] => if i.natAbs < 2 ^ 1900 then some (.str (toString i)) else none
  | [.str x] => some (.str x)
  | _ => none
theorem oStr_ok : OpN Γ (fun xs H Q => (∃ i, xs = [.int i] ∧ i.natAbs.log2 < 1920 ∧ Q (.str (toString i)) H) ∨ ∃ a, xs = [.str a] ∧ Q (.str a) H) oStr := fun hold ρ σ H vs ds d Q e l s k => by
  unfold oStr at e
  split at e
  · split at e
    · rename_i i hi
      cases e
      obtain ⟨v, rfl, s⟩ := one_of l s
      obtain rfl := s.topInt
      refine .inl ⟨_, rfl, ?_, k _ H Ext.refl (s.drop.str _)⟩
      by_cases h0 : i.natAbs = 0
      · rw [h0]; decide
      · exact Nat.lt_trans ((Nat.log2_lt h0).mpr hi) (by decide)
    · cases e
  · cases e
    obtain ⟨v, rfl, s⟩ := one_of l s
    obtain rfl := s.topStr
    exact .inr ⟨_, rfl, k _ H Ext.refl (s.drop.str _)⟩
  · cases e
theorem call_strA : CallR X (.type "str") (fun xs H Q => (∃ i, xs = [.int i] ∧ i.natAbs.log2 < 1920 ∧ Q (.str (toString i)) H) ∨ ∃ a, xs = [.str a] ∧ Q (.str a) H) := CallR.or call_str_int SkE.call_str_str
/-! ### a text's methods of one argument -/
theorem tP_m1 {r : V → List V → Hp → VK → Prop} {o : O2} {f g : PF} (ho : Op2 Γ (fun x y H Q => r x [y] H Q) o) (hs : ∀ x y d, o x y = some d → ∃ z, x = .str z) (σ : L2.St) (H : Hp) (Q : VK) : tP Γ (pB o f g) σ H Q → tM1 r (tP Γ f) (tP Γ g) σ H Q := fun ⟨hold, ρ, s, d, e, k⟩ => by
  obtain ⟨x, y, ex, ey, ez⟩ := pB_some e
  obtain ⟨z, rfl⟩ := hs x y d ez
  refine ⟨hold, ρ, s, _, ex, fun v H1 e1 s1 => ⟨⟨z, s1.topStr⟩, _, ρ, s1, y, ey, fun w H2 e2 s2 => ?_⟩⟩
  exact ho hold ρ σ H2 v w _ y d Q ez s2 fun u H3 e3 s3 => k u H3 ((e1.trans e2).trans e3) s3
def eB1 (o : O2) (f g : EF) : EF := fun ρ => match f ρ with
  | some (.ok (.str z) ρ1) => (match g ρ1 with
      | some (.ok y ρ2) => (o (.str z) y).map (.ok · ρ2)
      | r => r)
  | some (.ok _ _) => none
  | r => r
theorem tE_m1 {r : V → List V → Hp → VK → Prop} {o : O2} {f g : EF} (ho : Op2 Γ (fun x y H Q => r x [y] H Q) o) (σ : L2.St) (H : Hp) (Q : VK) : tE Γ W (eB1 o f g) σ H Q → tM1 r (tE Γ W f) (tE Γ W g) σ H Q := fun ⟨hold, ρ, s, nb, k⟩ => by
    refine ⟨hold, ρ, s, nb, ?_⟩
    unfold eB1 at k
    cases q : f ρ with
    | none => rw [q] at k; exact k.elim
    | some r1 =>
      rw [q] at k
      cases r1 with
      | ex n fs ρ1 => exact k
      | ok x ρ1 =>
        by_cases hx : ∃ z, x = .str z
        · obtain ⟨z, rfl⟩ := hx
          dsimp only at k ⊢
          intro v H1 s1
          refine ⟨⟨z, s1.topStr⟩, _, ρ1, s1, noBrw_cons nb rfl, ?_⟩
          cases q2 : g ρ1 with
          | none => rw [q2] at k; exact k.elim
          | some r2 =>
            rw [q2] at k
            cases r2 with
            | ex n fs ρ2 => exact fun c od H' s' => k c od H' s'.drop
            | ok y ρ2 =>
              dsimp only at k ⊢
              intro w H2 s2
              cases q3 : o (.str z) y with
              | none => rw [q3] at k; exact k.elim
              | some d =>
                rw [q3] at k
                exact ho hold ρ2 σ H2 v w _ y d Q q3 s2 fun u H3 e3 s3 => k u H3 s3
        · cases x <;> first | exact k.elim | exact absurd ⟨_, rfl⟩ hx
/-! ### join -/
def strsOf : List D → Option (List Str)
  | [] => some []
  | .str z :: ds => (strsOf ds).map (z :: ·)
  | _ => none
theorem strsOf_some : ∀ {ds : List D} {ys : List Str}, strsOf ds = some ys → ds = ys.map .str
  | [], ys, h => by cases h; rfl
  | .str z :: ds, ys, h => by
    rw [strsOf, Option.map_eq_some_iff] at h
    obtain ⟨zs, h1, rfl⟩ := h
    rw [strsOf_some h1]; rfl
  | .non :: _, _, h => by cases h
  | .bl _ :: _, _, h => by cases h
  | .int _ :: _, _, h => by cases h
  | .tup _ :: _, _, h => by cases h
  | .lst _ _ :: _, _, h => by cases h
  | .dic _ _ _ :: _, _, h => by cases h
  | .ins _ _ _ :: _, _, h => by cases h
  | .cls _ :: _, _, h => by cases h
  | .exc _ _ :: _, _, h => by cases h
theorem reps_strs {K : PySem.W.Frag} {cn : Nm} {F : Addr → Prop} {H : Hp} : ∀ {ys : List Str} {vs : List V} {fp : Fp}, Reps K cn F H (ys.map .str) vs fp → vs = ys.map V.str
  | [], vs, fp, h => h.1
  | y :: ys, vs, fp, ⟨v, r, f, g, e, _, h1, h2⟩ => by rw [e, h1.1, reps_strs h2]; rfl
def joinD (a : Str) (ds : List D) : Option D := (strsOf ds).bind fun ys => if (ys.map (·.length)).sum + ys.length * a.length ≤ 16777216 then some (.str (Txt.join a ys)) else none
def oJoin : O2
  | .str a, .lst _ ds => joinD a ds
  | .str a, .tup ds => joinD a ds
  | _, _ => none
theorem oJoin_ok : Op2 Γ (fun x y H Q => ∃ a p, ∃ ys : List Str, x = .str a ∧ [y] = [V.ref p] ∧ (SqL Γ.K H p (ys.map V.str) ∨ SqT Γ.K H p (ys.map V.str)) ∧ (ys.map (·.length)).sum + ys.length * a.length ≤ 16777216 ∧ Q (.str (Txt.join a ys)) H) oJoin := fun hold ρ σ H v w x y d Q e s k => by
  obtain ⟨F, fp, gp, h1, h2, _⟩ := s.open2
  unfold oJoin at e
  split at e
  · unfold joinD at e
    obtain ⟨ys, e1, e2⟩ := Option.bind_eq_some_iff.mp e
    split at e2
    · rename_i z
      cases e2
      obtain ⟨p, vs, f', ev, q, r⟩ := h2
      have := strsOf_some e1
      subst this
      obtain rfl := reps_strs r
      exact ⟨_, p, ys, h1.1, by rw [ev], .inl (lst_sq q), z, k _ H Ext.refl (s.drop.drop.str _)⟩
    · cases e2
  · unfold joinD at e
    obtain ⟨ys, e1, e2⟩ := Option.bind_eq_some_iff.mp e
    split at e2
    · rename_i z
      cases e2
      obtain ⟨p, vs, ev, q, r⟩ := h2
      have := strsOf_some e1
      subst this
      obtain rfl := reps_strs r
      exact ⟨_, p, ys, h1.1, by rw [ev], .inr (SqT.of q), z, k _ H Ext.refl (s.drop.drop.str _)⟩
    · cases e2
  · cases e
theorem oJoin_str : ∀ x y d, oJoin x y = some d → ∃ z, x = .str z := by
  intro x y d h
  unfold oJoin at h
  split at h
  · exact ⟨_, rfl⟩
  · exact ⟨_, rfl⟩
  · cases h
theorem d_join {f g : PF} {apos : Pos} (hK : X.K = Γ.K) (ha : PE X a (tP Γ f)) (hb : PE X b (tP Γ g)) (hs : starEach [b] X.env = [(false, eval b X.env)] := by rfl) (hbase : attributeBase a "join" X.env (eval a X.env) = eval a X.env := by rfl) (hline : (apos.endLine == pos.line) = true := by rfl) :
    PE X (.Call (.Attribute a "join" apos) [b] [] pos) (tP Γ (pB oJoin f g)) := PE.wk (pe_join ha hb hs hbase hline) (tP_m1 (by rw [hK]; exact oJoin_ok) oJoin_str)
theorem e_join {f g : EF} {apos : Pos} (hK : X.K = Γ.K) (ha : PE X a (tE Γ W f)) (hb : PE X b (tE Γ W g)) (hs : starEach [b] X.env = [(false, eval b X.env)] := by rfl) (hbase : attributeBase a "join" X.env (eval a X.env) = eval a X.env := by rfl) (hline : (apos.endLine == pos.line) = true := by rfl) :
    PE X (.Call (.Attribute a "join" apos) [b] [] pos) (tE Γ W (eB1 oJoin f g)) := PE.wk (pe_join ha hb hs hbase hline) (tE_m1 (by rw [hK]; exact oJoin_ok))
/-! ### split -/
def oSplit : O2
  | .str a, .str b => if (b.length == 0) = false ∧ a.length + 2 ≤ sizeLine then some (.lst .own ((Txt.split a b).map .str)) else none
  | _, _ => none
theorem oSplit_ok : Op2 Γ (fun x y H Q => ∃ a b, x = .str a ∧ [y] = [V.str b] ∧ (b.length == 0) = false ∧ a.length + 2 ≤ sizeLine ∧ rNewStrs (Txt.split a b) H Q) oSplit := fun hold ρ σ H v w x y d Q e s k => by
  unfold oSplit at e
  split at e
  · split at e
    · rename_i a b z
      cases e
      obtain rfl := s.topStr
      obtain rfl := s.drop.topStr
      refine ⟨_, _, rfl, rfl, z.1, z.2, fun p hp => k _ _ (Ext.upd hp) ?_⟩
      have hr : ∀ (F : Addr → Prop) (H : Hp) (ys : List Str), Reps Γ.K Γ.cn F H (ys.map .str) (ys.map V.str) fp0 := by
        intro F H ys
        induction ys with
        | nil => exact ⟨rfl, fun _ => rfl⟩
        | cons y ys ih => exact ⟨_, _, fp0, fp0, rfl, fun _ => rfl, ⟨rfl, fun _ => rfl⟩, ih⟩
      have := SI.newBlock (vs := []) (ds := []) (hold := hold) (v := .ref p) (d := .lst .own ((Txt.split a b).map .str)) (p := p) (o := .lst ((Txt.split a b).map V.str)) s.drop.drop rfl hp fun F fa r => ⟨_, fun a => by show _ ≤ fa a + _; exact Nat.add_le_add_right (Nat.zero_le _) _, rep_new upd_same (hr F _ _)⟩
      exact this
    · cases e
  · cases e
theorem oSplit_str : ∀ x y d, oSplit x y = some d → ∃ z, x = .str z := by
  intro x y d h
  unfold oSplit at h
  split at h
  · exact ⟨_, rfl⟩
  · cases h
theorem d_split {f g : PF} {apos : Pos} (ha : PE X a (tP Γ f)) (hb : PE X b (tP Γ g)) (hs : starEach [b] X.env = [(false, eval b X.env)] := by rfl) (hbase : attributeBase a "split" X.env (eval a X.env) = eval a X.env := by rfl) (hline : (apos.endLine == pos.line) = true := by rfl) :
    PE X (.Call (.Attribute a "split" apos) [b] [] pos) (tP Γ (pB oSplit f g)) := PE.wk (pe_split ha hb hs hbase hline) (tP_m1 oSplit_ok oSplit_str)
/-! ### several names at once -/
def sUnp (f : EF) (b : BF) : SF := fun ρ => match f ρ with
  | some (.ok d ρ') => if d.noBrw = true then (b d.frz ρ').map .nx else none
  | some (.ex n fs ρ') => some (.ex n fs ρ')
  | none => none
theorem s_unp {tg e : Expr} {f : EF} {bf : BF} {js : List Nat} (he : PE X e (tE Γ W f)) (hg : PG X tg (tB Γ js bf)) (hs : swapsWithSole [tg] e pos.line X.env = pure false := by rfl) (hw : swappedStores [tg] e X.env = pure none := by rfl)
    (h1 : (assignEach [tg] X.env).map (·.2) = [assign tg X.env] := by rfl) : PS X (.Assign [tg] e pos) (tS Γ W (sUnp f bf)) :=
  PS.wk (ps_asg he hg hs hw h1) fun DD σ H ⟨hold, ρ, s, nb, k⟩ => by
    refine ⟨hold, ρ, s, nb, ?_⟩
    unfold sUnp at k
    cases q : f ρ with
    | none => rw [q] at k; exact k.elim
    | some o =>
      rw [q] at k
      cases o with
      | ex n fs ρ' => exact fun c od H' s' => k c od σ H' s'
      | ok d ρ' =>
        dsimp only at k ⊢
        intro v H' s'
        by_cases hd : d.noBrw = true
        · rw [if_pos hd] at k
          cases z : bf d.frz ρ' with
          | none => rw [z] at k; exact k.elim
          | some ρ2 =>
            rw [z] at k
            exact ⟨hold, ρ', d.frz, s'.freeze hd, frz_noBrw d, frz_noOwn d, ρ2, z, fun σ' _ s2 => k σ' H' s2⟩
        · rw [if_neg hd] at k; exact k.elim
end
end DL

end
section
/-! DL21: dicts of flat keys, of tuples of flat keys. -/
open PySem PySem.Spec L2
namespace DL
/-! ### keys -/
def kyF : D → Option Ky
  | .int i => some (.int i)
  | .str x => some (.str x)
  | _ => none
def kyL : List D → Option (List Ky)
  | [] => some []
  | d :: ds => match kyF d, kyL ds with
    | some k, some ks => some (k :: ks)
    | _, _ => none
def kyOf (kd : Kn) (d : D) : Option Ky := match kd, d with
  | .k, d => kyF d
  | .t, .tup ds => (kyL ds).map .tup
  | _, _ => none
theorem kyF_ok {K : PySem.W.Frag} {cn : Nm} {F : Addr → Prop} {H : Hp} {y : D} {v : V} {fp : Fp} {k : Ky} (e : kyF y = some k) (h : Rep K cn F H y v fp) : ∃ key : Key, v = kV key ∧ ofKey key = k := by
  unfold kyF at e
  split at e
  · cases e; exact ⟨.inl _, h.1, rfl⟩
  · cases e; exact ⟨.inr _, h.1, rfl⟩
  · cases e
theorem kyL_ok {K : PySem.W.Frag} {cn : Nm} {F : Addr → Prop} {H : Hp} : ∀ {ds : List D} {vs : List V} {fp : Fp} {ks : List Ky}, kyL ds = some ks → Reps K cn F H ds vs fp → ∃ keys : List Key, vs = keys.map kV ∧ keys.map ofKey = ks
  | [], vs, fp, ks, e, h => by rw [kyL] at e; cases e; exact ⟨[], h.1, rfl⟩
  | d :: ds, vs, fp, ks, e, ⟨v, r, f, g, e1, _, h1, h2⟩ => by
    rw [kyL] at e
    split at e
    · rename_i k ks' e2 e3
      cases e
      obtain ⟨key, ev, ek⟩ := kyF_ok e2 h1
      obtain ⟨keys, er, eks⟩ := kyL_ok e3 h2
      exact ⟨key :: keys, by rw [e1, ev, er]; rfl, by rw [List.map_cons, ek, eks]⟩
    · cases e
theorem ofKey_inj {a b : Key} (h : ofKey a = ofKey b) : a = b := by
  cases a <;> cases b <;> first | (cases h; rfl) | cases h
theorem mapKey_inj : ∀ {a b : List Key}, a.map ofKey = b.map ofKey → a = b
  | [], [], _ => rfl
  | [], y :: b, h => by cases h
  | x :: a, [], h => by cases h
  | x :: a, y :: b, h => by
    simp only [List.map_cons, List.cons.injEq] at h
    rw [ofKey_inj h.1, mapKey_inj h.2]
theorem ofKeys_inj {a b : List Key} (h : ofKeys a = ofKeys b) : a = b := mapKey_inj (by unfold ofKeys at h; exact Ky.tup.inj h)
/-! ### tables -/
def getK (kvs : List (Ky × D)) (k : Ky) : Option D := (kvs.find? fun p => decide (p.1 = k)).map (·.2)
def hasK (kvs : List (Ky × D)) (k : Ky) : Bool := (getK kvs k).isSome
def putD (kvs : List (Ky × D)) (k : Ky) (d : D) : Option (List (Ky × D)) :=
  if kvs.length < sizeLine then (if hasK kvs k = true then (if d.noOwn = true then some (kvs.map fun p => if p.1 = k then (p.1, d) else p) else none) else some (kvs ++ [(k, d)])) else none
section
variable {κ : Type} [DecidableEq κ] {fk : κ → Ky} {K : PySem.W.Frag} {cn : Nm} {F : Addr → Prop} {H : Hp}
theorem repK_get (inj : ∀ a b, fk a = fk b → a = b) : ∀ {kvs : List (Ky × D)} {kv : List (κ × V)} {fp : Fp}, RepK K cn F H kvs (kv.map fun p => (fk p.1, p.2)) fp → ∀ k, (getK kvs (fk k) = none → valV kv k = none) ∧ ∀ d, getK kvs (fk k) = some d → ∃ v g, valV kv k = some v ∧ Rep K cn F H d v g ∧ ∀ a, g a ≤ fp a
  | [], kv, fp, h, k => by
    have : kv = [] := by have := h.1; simpa using this
    subst this
    exact ⟨fun _ => rfl, fun d e => by cases e⟩
  | (k0, d0) :: kvs, [], fp, h, k => by obtain ⟨v, r, f, g, e, _⟩ := h; cases e
  | (k0, d0) :: kvs, p :: kv, fp, ⟨v, r, f, g, e, s, h1, h2⟩, k => by
    simp only [List.map_cons, List.cons.injEq, Prod.mk.injEq] at e
    obtain ⟨⟨ek, ev⟩, er⟩ := e
    subst er
    obtain ⟨i1, i2⟩ := repK_get inj h2 k
    by_cases c : p.1 = k
    · have c' : k0 = fk k := by rw [← ek, c]
      have eg : getK ((k0, d0) :: kvs) (fk k) = some d0 := by unfold getK; rw [List.find?_cons_of_pos (by simpa using c')]; rfl
      rw [eg, valV_pos c]
      refine ⟨fun z => (by cases z), fun d z => ?_⟩
      cases z
      exact ⟨p.2, f, rfl, by rw [ev]; exact h1, fun a => by have := s a; omega⟩
    · have c' : ¬ k0 = fk k := fun z => c (inj _ _ (by rw [ek, z]))
      have eg : getK ((k0, d0) :: kvs) (fk k) = getK kvs (fk k) := by unfold getK; rw [List.find?_cons_of_neg (by simpa using c')]
      rw [eg, valV_neg c]
      refine ⟨i1, fun d z => ?_⟩
      obtain ⟨v', g', a1, a2, a3⟩ := i2 d z
      exact ⟨v', g', a1, a2, fun a => by have := s a; have := a3 a; omega⟩
theorem repK_len : ∀ {kvs : List (Ky × D)} {vs : List (Ky × V)} {fp : Fp}, RepK K cn F H kvs vs fp → kvs.length = vs.length
  | [], vs, fp, h => by rw [h.1]; rfl
  | (k, d) :: kvs, vs, fp, ⟨v, r, f, g, e, _, _, h2⟩ => by rw [e, List.length_cons, List.length_cons, repK_len h2]
theorem repK_snoc {k : Ky} {d : D} {v : V} {fd : Fp} : ∀ {kvs : List (Ky × D)} {vs : List (Ky × V)} {fp : Fp}, RepK K cn F H kvs vs fp → Rep K cn F H d v fd → RepK K cn F H (kvs ++ [(k, d)]) (vs ++ [(k, v)]) (fun a => fp a + fd a)
  | [], vs, fp, h, hd => by
    rw [h.1]
    exact ⟨v, [], fd, fp0, rfl, fun a => by have := h.2 a; show fp a + fd a = fd a + 0; omega, hd, rfl, fun _ => rfl⟩
  | (k0, d0) :: kvs, vs, fp, ⟨v0, r, f, g, e, s, h1, h2⟩, hd => by
    rw [e]
    exact ⟨v0, r ++ [(k, v)], f, fun a => g a + fd a, rfl, fun a => by have := s a; show fp a + fd a = f a + (g a + fd a); omega, h1, repK_snoc h2 hd⟩
theorem repK_upd (inj : ∀ a b, fk a = fk b → a = b) {k : κ} {d : D} {v : V} (hd : Rep K cn F H d v fp0) : ∀ {kvs : List (Ky × D)} {kv : List (κ × V)} {fp : Fp}, RepK K cn F H kvs (kv.map fun p => (fk p.1, p.2)) fp →
    ∃ g, (∀ a, g a ≤ fp a) ∧ RepK K cn F H (kvs.map fun p => if p.1 = fk k then (p.1, d) else p) ((kv.map fun p => if p.1 = k then (p.1, v) else p).map fun p => (fk p.1, p.2)) g
  | [], kv, fp, h => by
    have : kv = [] := by have := h.1; simpa using this
    subst this
    exact ⟨fp, fun _ => Nat.le_refl _, h⟩
  | (k0, d0) :: kvs, [], fp, h => by obtain ⟨v, r, f, g, e, _⟩ := h; cases e
  | (k0, d0) :: kvs, p :: kv, fp, ⟨v0, r, f, g, e, s, h1, h2⟩ => by
    simp only [List.map_cons, List.cons.injEq, Prod.mk.injEq] at e
    obtain ⟨⟨ek, ev⟩, er⟩ := e
    subst er
    obtain ⟨g', le, h'⟩ := repK_upd inj hd h2
    by_cases c : p.1 = k
    · have c' : k0 = fk k := by rw [← ek, c]
      refine ⟨g', fun a => by have := le a; have := s a; omega, ?_⟩
      simp only [List.map_cons, if_pos c, if_pos c']
      exact ⟨v, _, fp0, g', by rw [← ek], fun a => by show g' a = 0 + g' a; omega, hd, h'⟩
    · have c' : ¬ k0 = fk k := fun z => c (inj _ _ (by rw [ek, z]))
      refine ⟨fun a => f a + g' a, fun a => by have := le a; have := s a; show f a + g' a ≤ _; omega, ?_⟩
      simp only [List.map_cons, if_neg c, if_neg c']
      exact ⟨p.2, _, f, g', by rw [← ek], fun a => rfl, by rw [ev]; exact h1, h'⟩
theorem repK_put (inj : ∀ a b, fk a = fk b → a = b) {k : κ} {d : D} {v : V} {fd : Fp} {kvs kvs2 : List (Ky × D)} {kv : List (κ × V)} {fp : Fp} (h : RepK K cn F H kvs (kv.map fun p => (fk p.1, p.2)) fp) (hd : Rep K cn F H d v fd) (e : putD kvs (fk k) d = some kvs2) :
    kv.length < sizeLine ∧ ∃ g, (∀ a, g a ≤ fp a + fd a) ∧ RepK K cn F H kvs2 ((putK kv k v).map fun p => (fk p.1, p.2)) g := by
  have hlen : kvs.length = kv.length := by have := repK_len h; simpa using this
  obtain ⟨i1, i2⟩ := repK_get inj h k
  unfold putD at e
  split at e
  · rename_i hl
    refine ⟨by rw [← hlen]; exact hl, ?_⟩
    unfold hasK at e
    cases q : getK kvs (fk k) with
    | none =>
      rw [q] at e
      have e : some (kvs ++ [(fk k, d)]) = some kvs2 := by simpa using e
      cases e
      have hn : putK kv k v = kv ++ [(k, v)] := putK_new v (i1 q)
      rw [hn, List.map_append]
      exact ⟨_, fun a => Nat.le_refl _, repK_snoc h hd⟩
    | some d0 =>
      rw [q] at e
      obtain ⟨v0, g0, a1, _, _⟩ := i2 d0 q
      by_cases c : d.noOwn = true
      · have e : some (kvs.map fun p => if p.1 = fk k then (p.1, d) else p) = some kvs2 := by simpa [c] using e
        cases e
        have z : fd = fp0 := funext fun a => Rep.zero d v fd hd c a
        rw [z] at hd
        obtain ⟨g, le, h'⟩ := repK_upd inj (k := k) hd h
        have hn : putK kv k v = kv.map fun p => if p.1 = k then (p.1, v) else p := by
          unfold putK
          rw [valV_any, a1]
          rfl
        rw [hn]
        exact ⟨g, fun a => by have := le a; omega, h'⟩
      · simp [c] at e
  · cases e
end
section
variable {Γ : Ctx} {hold : Hold} {ρ : Env} {σ : L2.St} {H : Hp}
/-- what stands at a key -/
theorem dget_ok {K : PySem.W.Frag} {cn : Nm} {F : Addr → Prop} {m : Mk} {kd : Kn} {kvs : List (Ky × D)} {x v : V} {y : D} {fp gp : Fp} {k : Ky} (hm : m ≠ .ro) (hx : Rep K cn F H (.dic m kd kvs) x fp) (hy : Rep K cn F H y v gp) (e : kyOf kd y = some k) :
    ∃ a, x = .ref a ∧ IsD H a ∧ (getK kvs k = none → DGet H a v none) ∧ ∀ d, getK kvs k = some d → ∃ u g, DGet H a v (some u) ∧ Rep K cn F H d u g ∧ ∀ b, g b ≤ fp b := by
  obtain ⟨a, f, ex, hq⟩ := hx
  have at_rd : ∀ {u : HO}, At F H m a u fp f → Rd H a u ∧ ∀ b, f b ≤ fp b := fun {u} q => ⟨q.rd, q.sub⟩
  rcases hq with ⟨rfl, kv, q, r⟩ | ⟨rfl, kv, q, r⟩
  · obtain ⟨rd, le⟩ := at_rd q
    obtain ⟨key, ev, ek⟩ := kyF_ok (show kyF y = some k from e) hy
    subst ek ev
    obtain ⟨i1, i2⟩ := repK_get (fk := ofKey) (fun a b => ofKey_inj) r key
    refine ⟨a, ex, .inl ⟨kv, rd⟩, fun z => .inl ⟨kv, key, rd, rfl, (i1 z).symm⟩, fun d z => ?_⟩
    obtain ⟨u, g, a1, a2, a3⟩ := i2 d z
    exact ⟨u, g, .inl ⟨kv, key, rd, rfl, a1.symm⟩, a2, fun b => Nat.le_trans (a3 b) (le b)⟩
  · obtain ⟨rd, le⟩ := at_rd q
    unfold kyOf at e
    cases y with
    | tup ds =>
      dsimp only at e
      obtain ⟨ks, e1, rfl⟩ := Option.map_eq_some_iff.mp e
      obtain ⟨b, vs, ev, hb, hr⟩ := hy
      obtain ⟨keys, e2, e3⟩ := kyL_ok e1 hr
      subst e2 ev
      obtain ⟨i1, i2⟩ := repK_get (fk := ofKeys) (fun a b => ofKeys_inj) r keys
      have ek : ofKeys keys = .tup ks := by unfold ofKeys; rw [e3]
      rw [ek] at i1 i2
      refine ⟨a, ex, .inr ⟨kv, rd⟩, fun z => .inr ⟨kv, keys, b, rd, rfl, hb, (i1 z).symm⟩, fun d z => ?_⟩
      obtain ⟨u, g, a1, a2, a3⟩ := i2 d z
      exact ⟨u, g, .inr ⟨kv, keys, b, rd, rfl, hb, a1.symm⟩, a2, fun b => Nat.le_trans (a3 b) (le b)⟩
    | _ => cases e
end
end DL

end
section
/-! DL22: rules for dicts. -/
open PySem PySem.Spec L2
namespace DL
section
variable {X : Cx} {Γ : Ctx} {W : WX} {e a b o ix : Expr} {pos : Pos} {hold : Hold} {ρ : Env} {σ : L2.St} {H : Hp}
/-- {} -/
def pNew (kd : Kn) : PF := fun _ => some (.dic .own kd [])
theorem d_new0 (kd : Kn) (hk : kd = .k ∨ kd = .t) : PE X (.Dict [] [] pos) (tP Γ (pNew kd)) := by
  rcases hk with rfl | rfl
  · refine PE.wk pe_dnewK fun σ H Q ⟨hold, ρ, s, d, e, k⟩ => ?_
    cases e
    intro p hp
    exact k _ _ (Ext.upd hp) (SI.newBlock (vs := []) (ds := []) (v := .ref p) (p := p) s rfl hp fun F fa r => ⟨fun b => fp0 b + if b = p then 1 else 0, fun b => by show 0 + _ ≤ fa b + _; omega, p, fp0, rfl, .inl ⟨rfl, [], ⟨upd_same, fun _ => rfl⟩, rfl, fun _ => rfl⟩⟩)
  · refine PE.wk pe_dnewT fun σ H Q ⟨hold, ρ, s, d, e, k⟩ => ?_
    cases e
    intro p hp
    exact k _ _ (Ext.upd hp) (SI.newBlock (vs := []) (ds := []) (v := .ref p) (p := p) s rfl hp fun F fa r => ⟨fun b => fp0 b + if b = p then 1 else 0, fun b => by show 0 + _ ≤ fa b + _; omega, p, fp0, rfl, .inr ⟨rfl, [], ⟨upd_same, fun _ => rfl⟩, rfl, fun _ => rfl⟩⟩)
/-- d[k] -/
def oGetD : O2
  | .dic m kd kvs, y => if m = .ro then none else (kyOf kd y).bind fun k => getK kvs k
  | _, _ => none
theorem oGetD_ok : Op2 Γ (fun x y H Q => ∃ a v, x = .ref a ∧ DGet H a y (some v) ∧ Q v H) oGetD := fun hold ρ σ H v w x y d Q e s k => by
  obtain ⟨F, fp, gp, h1, h2, k1, _⟩ := s.open2
  unfold oGetD at e
  split at e
  · split at e
    · cases e
    · rename_i m kd kvs y hm
      obtain ⟨ky, e1, e2⟩ := Option.bind_eq_some_iff.mp e
      obtain ⟨a, ex, _, _, i2⟩ := dget_ok hm h1 h2 e1
      obtain ⟨u, g, a1, a2, a3⟩ := i2 d e2
      exact ⟨a, u, ex, a1, k u H Ext.refl (k1 _ _ g (fun b => by have := a3 b; omega) a2)⟩
  · cases e
theorem d_getd {f g : PF} (hu : X.A.units + 1 < cLine) (ha : PE X a (tP Γ f)) (hb : PE X b (tP Γ g)) (hs : NoSl b) : PE X (.Subscript a b pos) (tP Γ (pB oGetD f g)) := p_op (pe_dget hu ha hb hs) oGetD_ok
theorem e_getd {f g : EF} (hu : X.A.units + 1 < cLine) (ha : PE X a (tE Γ W f)) (hb : PE X b (tE Γ W g)) (hs : NoSl b) : PE X (.Subscript a b pos) (tE Γ W (eB oGetD f g)) := e_op (pe_dget hu ha hb hs) oGetD_ok
/-- k in d -/
theorem opr_inK (hu : X.A.units + 1 < cLine) : OpR X (compareOp .In) (fun x y H Q => ∃ a o, y = .ref a ∧ DGet H a x o ∧ Q (.bl o.isSome) H) := by
  intro pins s σ H x y v u Q I rx ry h
  obtain ⟨a, o, rfl, g, q⟩ := h
  obtain rfl : u = Value.ref a := ry
  exact d_in hu I g rx fun s' I' => ⟨.bl o.isSome, H, I', rfl, q⟩
theorem opr_notinK (hu : X.A.units + 1 < cLine) : OpR X (compareOp .NotIn) (fun x y H Q => ∃ a o, y = .ref a ∧ DGet H a x o ∧ Q (.bl (!o.isSome)) H) := by
  intro pins s σ H x y v u Q I rx ry h
  obtain ⟨a, o, rfl, g, q⟩ := h
  obtain rfl : u = Value.ref a := ry
  exact d_notIn hu I g rx fun s' I' => ⟨.bl (!o.isSome), H, I', rfl, q⟩
def oInK (neg : Bool) : O2
  | y, .dic m kd kvs => if m = .ro then none else (kyOf kd y).map fun k => .bl (if neg then !hasK kvs k else hasK kvs k)
  | _, _ => none
theorem oInK_ok {neg : Bool} : Op2 Γ (fun x y H Q => ∃ a o, y = .ref a ∧ DGet H a x o ∧ Q (.bl (if neg then !o.isSome else o.isSome)) H) (oInK neg) := fun hold ρ σ H v w x y d Q e s k => by
  obtain ⟨F, fp, gp, h1, h2, k1, _⟩ := s.open2
  unfold oInK at e
  split at e
  · split at e
    · cases e
    · rename_i m kd kvs hm
      obtain ⟨ky, e1, e2⟩ := Option.map_eq_some_iff.mp e
      obtain ⟨a, ex, _, i1, i2⟩ := dget_ok hm h2 h1 e1
      subst e2
      unfold hasK at k
      cases q : getK kvs ky with
      | none => rw [q] at k; exact ⟨a, none, ex, i1 q, k _ H Ext.refl (s.drop.drop.bl _)⟩
      | some d0 =>
        obtain ⟨u, g, a1, _, _⟩ := i2 d0 q
        rw [q] at k
        exact ⟨a, some u, ex, a1, k _ H Ext.refl (s.drop.drop.bl _)⟩
  · cases e
theorem oInK_ok0 : Op2 Γ (fun x y H Q => ∃ a o, y = .ref a ∧ DGet H a x o ∧ Q (.bl o.isSome) H) (oInK false) := fun hold ρ σ H v w x y d Q e s k => oInK_ok (neg := false) hold ρ σ H v w x y d Q e s k
theorem oInK_ok1 : Op2 Γ (fun x y H Q => ∃ a o, y = .ref a ∧ DGet H a x o ∧ Q (.bl (!o.isSome)) H) (oInK true) := fun hold ρ σ H v w x y d Q e s k => oInK_ok (neg := true) hold ρ σ H v w x y d Q e s k
/-- len(d) -/
def oLenK : ON
  | [.dic m .k kvs] => if m = .ro then none else some (.int kvs.length)
  | _ => none
theorem oLenK_ok : OpN Γ (rLenA Γ.K) oLenK := fun hold ρ σ H vs ds d Q e l s k => by
  unfold oLenK at e
  split at e
  · split at e
    · cases e
    · rename_i m kvs hm
      cases e
      obtain ⟨v, rfl, s⟩ := one_of l s
      obtain ⟨F, fp, ⟨a, f, ev, hq⟩, _⟩ := s.open1
      rcases hq with ⟨_, kv, q, r⟩ | ⟨hk, _⟩
      · have hl := repK_len r
        rw [List.length_map] at hl
        exact .inr ⟨a, kv, by rw [ev], q.rd, by rw [← hl]; exact k _ H Ext.refl (s.drop.int _)⟩
      · cases hk
  · cases e
/-- d.get(k) -/
def oGet1 : O2
  | .dic m kd kvs, y => if m = .ro then none else (kyOf kd y).map fun k => (getK kvs k).getD .non
  | _, _ => none
theorem tP_get1 {f g : PF} (σ : L2.St) (H : Hp) (Q : VK) : tP Γ (pB oGet1 f g) σ H Q → tDGet1 (tP Γ f) (tP Γ g) σ H Q := fun ⟨hold, ρ, s, d, e, k⟩ => by
  obtain ⟨x, y, ex, ey, ez⟩ := pB_some e
  refine ⟨hold, ρ, s, x, ex, fun v H1 e1 s1 => ?_⟩
  unfold oGet1 at ez
  cases x with
  | dic m kd kvs =>
    dsimp only at ez
    by_cases hm : m = .ro
    · rw [if_pos hm] at ez; cases ez
    · rw [if_neg hm] at ez
      obtain ⟨ky, e2, e3⟩ := Option.map_eq_some_iff.mp ez
      have hA : ∃ a, v = .ref a ∧ IsD H1 a := by
        obtain ⟨F, fp, ⟨a, f, ev, hq⟩, _⟩ := s1.open1
        rcases hq with ⟨_, kv, q, r⟩ | ⟨_, kv, q, r⟩
        · exact ⟨a, ev, .inl ⟨kv, q.rd⟩⟩
        · exact ⟨a, ev, .inr ⟨kv, q.rd⟩⟩
      obtain ⟨a, ev, hI⟩ := hA
      refine ⟨a, ev, hI, _, ρ, s1, y, ey, fun w H2 x2 s2 => ?_⟩
      obtain ⟨F, fp, gp, h1, h2, k1, _⟩ := s2.open2
      obtain ⟨a', ex', _, i1, i2⟩ := dget_ok hm h1 h2 e2
      rw [ev] at ex'; cases ex'
      cases q : getK kvs ky with
      | none =>
        rw [q] at e3
        refine ⟨none, i1 q, ?_⟩
        exact k .non H2 (e1.trans x2) (by rw [← e3]; exact s2.drop.drop.non)
      | some d0 =>
        obtain ⟨u, g, a1, a2, a3⟩ := i2 d0 q
        rw [q] at e3
        refine ⟨some u, a1, ?_⟩
        exact k u H2 (e1.trans x2) (by rw [← e3]; exact k1 _ _ g (fun b => by have := a3 b; omega) a2)
  | _ => cases ez
theorem d_get1 {f g : PF} {apos : Pos} (hu : X.A.units + 1 < cLine) (ha : PE X a (tP Γ f)) (hb : PE X b (tP Γ g)) (m : M1 X a "get" apos b pos) : PE X (.Call (.Attribute a "get" apos) [b] [] pos) (tP Γ (pB oGet1 f g)) := PE.wk (pe_dget1 hu ha hb m) tP_get1
/-- d[k] = e, d a slot's own -/
def sPutD (i : Nat) (f : EF) (g : PF) : SF := fun ρ => match f ρ with
  | some (.ok d ρ1) => (match getS ρ1 i, g ρ1 with
    | some (.dic .own kd kvs), some y => if d.noBrw = true then ((kyOf kd y).bind fun k => putD kvs k d).map fun kvs2 => .nx (setS ρ1 i (some (.dic .own kd kvs2))) else none
    | _, _ => none)
  | some (.ex n xs ρ1) => some (.ex n xs ρ1)
  | none => none
theorem putD_chk {P : Mk → Bool} {kvs kvs2 : List (Ky × D)} {k : Ky} {d : D} (e : putD kvs k d = some kvs2) (h : D.chkK P kvs = true) (hd : D.chk P d = true) : D.chkK P kvs2 = true := by
  have happ : ∀ (xs : List (Ky × D)), D.chkK P xs = true → D.chkK P (xs ++ [(k, d)]) = true := by
    intro xs
    induction xs with
    | nil => intro _; show (D.chk P d && true) = true; rw [hd]; rfl
    | cons x xs ih => intro h; show (D.chk P x.2 && D.chkK P (xs ++ [(k, d)])) = true; rw [and_l (show (D.chk P x.2 && D.chkK P xs) = true from h), ih (and_r (a := D.chk P x.2) h)]; rfl
  have hmap : ∀ (xs : List (Ky × D)), D.chkK P xs = true → D.chkK P (xs.map fun p => if p.1 = k then (p.1, d) else p) = true := by
    intro xs
    induction xs with
    | nil => intro _; rfl
    | cons x xs ih =>
      intro h
      have h1 : D.chk P x.2 = true := and_l (show (D.chk P x.2 && D.chkK P xs) = true from h)
      have h2 := ih (and_r (a := D.chk P x.2) h)
      rw [List.map_cons]
      by_cases c : x.1 = k
      · rw [if_pos c]; show (D.chk P d && _) = true; rw [hd, h2]; rfl
      · rw [if_neg c]; show (D.chk P x.2 && _) = true; rw [h1, h2]; rfl
  unfold putD at e
  split at e
  · split at e
    · split at e
      · cases e; exact hmap kvs h
      · cases e
    · cases e; exact happ kvs h
  · cases e
theorem s_putd {i : Nat} {f : EF} {g : PF} {value : Expr} {spos : Pos} (hu : X.A.units + 1 < cLine) (hown : Γ.own i = true) (hv : PE X value (tE Γ W f)) (ho : PE X o (tL Γ i l0)) (hi : PE X ix (tP Γ g)) (hs : swapsWith value (some (.Subscript o ix spos)) pos.line X.env = pure false := by rfl) :
    PS X (.Assign [.Subscript o ix spos] value pos) (tS Γ W (sPutD i f g)) :=
  PS.wk (ps_dput hu ho hi hv hs) fun DD σ H ⟨hold, ρ, s, nb, k⟩ => by
    refine ⟨hold, ρ, s, nb, ?_⟩
    unfold sPutD at k
    cases z : f ρ with
    | none => rw [z] at k; exact k
    | some o1 =>
      rw [z] at k
      cases o1 with
      | ex n xs ρ1 => exact fun c od H' s' => k c od σ H' s'
      | ok d ρ1 =>
        dsimp only at k ⊢
        intro v H1 s1
        cases e1 : getS ρ1 i with
        | none => rw [e1] at k; exact k.elim
        | some x =>
          cases e2 : g ρ1 with
          | none =>
            rw [e1, e2] at k
            split at k
            · rename_i hh; cases hh
            all_goals first | exact k.elim | (rename_i hh; split at hh <;> cases hh)
          | some y =>
            rw [e1, e2] at k
            by_cases hx : ∃ kd kvs, x = .dic .own kd kvs
            · obtain ⟨kd, kvs, rfl⟩ := hx
              dsimp only at k
              by_cases c : d.noBrw = true
              · rw [if_pos c] at k
                cases e3 : kyOf kd y with
                | none => rw [e3] at k; exact k.elim
                | some ky =>
                  cases e4 : putD kvs ky d with
                  | none => rw [e3, Option.bind_some, e4] at k; exact k.elim
                  | some kvs2 =>
                    rw [e3, Option.bind_some, e4] at k
                    refine ⟨_, ρ1, s1, [], _, _, rfl, e1, rfl, rfl, fun w H2 x2 s2 hw => ⟨_, ρ1, s2, y, e2, fun u H3 x3 s3 => ?_⟩⟩
                    obtain ⟨r, er, fr⟩ := hw
                    have fr : r = w := fr
                    subst fr
                    -- the key
                    have s4 := s3.drop
                    have nbd : D.chkL (fun m => !m.isBrw) [d] = true := by show (D.chk _ d && true) = true; rw [show D.chk (fun m => !m.isBrw) d = true from c]; rfl
                    obtain ⟨r', w', F, fx, fa, er', fw, hxw, hargs, le1, nF, step⟩ := SI.change (vs := [v]) (args := [d]) (hold := hold) (π := []) s4 rfl nb e1 rfl rfl hown
                    rw [er] at er'; cases er'
                    have fw : r = w' := fw
                    subst fw
                    obtain ⟨_, _, _, hy, _⟩ := s3.open1
                    have hkey : ∃ (Fy : Addr → Prop) (gy : Fp), Rep Γ.K Γ.cn Fy H3 y u gy := by obtain ⟨F', f', h', _⟩ := s3.open1; exact ⟨F', f', h'⟩
                    obtain ⟨Fy, gy, hy⟩ := hkey
                    obtain ⟨a, fk, ev, hq⟩ := hxw
                    subst ev
                    obtain ⟨v1, r1, f1, g1, ea, sa, hd1, hn1⟩ := hargs
                    cases ea
                    have fa1 : ∀ b, fa b = f1 b := fun b => by have := sa b; have := hn1.2 b; omega
                    have nbk : D.chkK (fun m => !m.isBrw) kvs = true := by
                      obtain ⟨F', fh, fs, s5⟩ := s4
                      obtain ⟨_, _, _, _, nb5, _⟩ := s5.ss.get e1
                      exact and_r (a := !Mk.isBrw .own) nb5
                    have nbk2 := putD_chk (P := fun m => !m.isBrw) e4 nbk c
                    have fin : ∀ (u2 : HO) (g2 : Fp) (kd' : Kn), (∀ b, g2 b ≤ fk b + f1 b) → fx a = fk a + 1 → (∀ b, fx b = fk b + if b = a then 1 else 0) → (RepK Γ.K Γ.cn F H3 kvs2 (match u2 with | .dK kv => kv.map fun p => (ofKey p.1, p.2) | .dT kv => kv.map fun p => (ofKeys p.1, p.2) | _ => []) g2) → H3 a ≠ none → Mut (H3 a) → (u2 = u2) →
                        (∀ (Hn : Hp), Hn a = some u2 → RepK Γ.K Γ.cn F Hn kvs2 (match u2 with | .dK kv => kv.map fun p => (ofKey p.1, p.2) | .dT kv => kv.map fun p => (ofKeys p.1, p.2) | _ => []) g2 → Rep Γ.K Γ.cn F Hn (.dic .own kd kvs2) (.ref a) (fun b => g2 b + if b = a then 1 else 0)) → DD.nx σ (upd H3 a u2) := by
                      intro u2 g2 kd' le2 ea1 ea2 hr2 hne mu _ mk
                      have hp : 0 < fx a := by omega
                      have K0 : Keep F F H3 (upd H3 a u2) False := Keep.upd mu (nF a hp)
                      have zp : g2 a = 0 := by have := le2 a; have := le1 a; have := fa1 a; omega
                      have away : ∀ b o', 0 < g2 b → H3 b = some o' → upd H3 a u2 b = some o' := fun b o' ps h => by
                        rw [upd_ne]; exact h
                        rintro rfl; omega
                      have hr3 := RepK.go K0 _ _ _ (fun z => by rw [nbk2] at z; cases z) away hr2
                      have := step a u2 (.dic .own kd kvs2) .non .non (fun b => g2 b + if b = a then 1 else 0) fp0 hp (fun b => by have := le2 b; have := ea2 b; have := fa1 b; show g2 b + _ + 0 ≤ _; omega) (by show ((!Mk.isBrw .own) && D.chkK (fun m => !m.isBrw) kvs2) = true; rw [nbk2]; rfl) (mk _ upd_same hr3) ⟨rfl, fun _ => rfl⟩
                      exact k σ _ this.drop
                    rcases hq with ⟨rfl, kv, q, rr⟩ | ⟨rfl, kv, q, rr⟩
                    · obtain ⟨key, ev2, ek⟩ := kyF_ok (show kyF y = some ky from e3) hy
                      subst ek ev2
                      obtain ⟨hl, g2, le2, hr2⟩ := repK_put (fk := ofKey) (fun a b => ofKey_inj) rr hd1 e4
                      refine ⟨a, _, rfl, .inl ⟨kv, key, q.1, rfl, hl, rfl⟩, fin (.dK (putK kv key v)) g2 .k le2 (by have := q.2 a; simpa using this) q.2 hr2 (by rw [q.1]; simp) (by rw [q.1]; trivial) rfl fun Hn en hr => ⟨a, g2, rfl, .inl ⟨rfl, _, ⟨en, fun _ => rfl⟩, hr⟩⟩⟩
                    · unfold kyOf at e3
                      cases y with
                      | tup ds =>
                        dsimp only at e3
                        obtain ⟨ks, e5, rfl⟩ := Option.map_eq_some_iff.mp e3
                        obtain ⟨bb, vs, ev2, hb, hr⟩ := hy
                        obtain ⟨keys, e6, e7⟩ := kyL_ok e5 hr
                        subst e6 ev2
                        have ek : ofKeys keys = .tup ks := by unfold ofKeys; rw [e7]
                        rw [← ek] at e4
                        obtain ⟨hl, g2, le2, hr2⟩ := repK_put (fk := ofKeys) (fun a b => ofKeys_inj) rr hd1 e4
                        refine ⟨a, _, rfl, .inr ⟨kv, keys, bb, q.1, rfl, hb, hl, rfl⟩, fin (.dT (putK kv keys v)) g2 .t le2 (by have := q.2 a; simpa using this) q.2 hr2 (by rw [q.1]; simp) (by rw [q.1]; trivial) rfl fun Hn en hr => ⟨a, g2, rfl, .inr ⟨rfl, _, ⟨en, fun _ => rfl⟩, hr⟩⟩⟩
                      | _ => cases e3
              · rw [if_neg c] at k; exact k.elim
            · exfalso
              split at k
              · rename_i hh1 hh2; cases hh1; exact hx ⟨_, _, rfl⟩
              · exact k.elim
end
end DL
namespace DL
theorem u1 {k : Nat} {A : Around} (r : Room k A) : A.units + 1 < cLine := by have := r.un; omega
end DL

end
section
/-! DL23: places within places. -/
open PySem PySem.Spec L2
namespace DL
theorem dAt_snocI {k : Nat} {y : D} : ∀ (π : List Stp) {d x : D} {ds : List D}, dAt d π = some x → (x = .tup ds ∨ ∃ m, x = .lst m ds) → dAt d (π ++ [.ix k]) = ds[k]?
  | [], d, x, ds, h, hx => by
    rw [show dAt d [] = some d by cases d <;> rfl] at h
    cases h
    rcases hx with rfl | ⟨m, rfl⟩
    · show (ds[k]?).bind (dAt · []) = _
      cases ds[k]? with
      | none => rfl
      | some z => show dAt z [] = some z; cases z <;> rfl
    · show (ds[k]?).bind (dAt · []) = _
      cases ds[k]? with
      | none => rfl
      | some z => show dAt z [] = some z; cases z <;> rfl
  | s :: π, d, x, ds, h, hx => by
    cases d <;> cases s <;> simp only [dAt, List.cons_append] at h ⊢ <;> first | cases h | skip
    all_goals
      obtain ⟨z, h1, h2⟩ := Option.bind_eq_some_iff.mp h
      rw [h1, Option.bind_some]
      exact dAt_snocI (y := y) π h2 hx
theorem follow_snocI {K : PySem.W.Frag} {H : Hp} {k : Nat} {a : Addr} {xs : List V} {w : V} : ∀ (π : List Stp) {r : V}, follow K H r π (.ref a) → (H a = some (.lst xs) ∨ H a = some (.tup xs)) → xs[k]? = some w → follow K H r (π ++ [.ix k]) w
  | [], r, h, h1, h2 => by
    have : r = .ref a := h
    subst this
    exact ⟨a, xs, w, rfl, h1, h2, rfl⟩
  | .ix j :: π, r, ⟨a', xs', u, e, h, g, f⟩, h1, h2 => ⟨a', xs', u, e, h, g, follow_snocI π f h1 h2⟩
  | .fld j :: π, r, ⟨a', C, dx, fs, u, e, h, g, f⟩, h1, h2 => ⟨a', C, dx, fs, u, e, h, g, follow_snocI π f h1 h2⟩
  | .val j :: π, r, ⟨a', u, e, h, f⟩, h1, h2 => ⟨a', u, e, h, follow_snocI π f h1 h2⟩
theorem okAt_ro : ∀ (π : List Stp) {d : D} {ds : List D} {k : Nat}, dAt d π = some (.lst .ro ds) → okAt d (π ++ [.ix k]) = true → False
  | [], d, ds, k, h, ok => by
    rw [show dAt d [] = some d by cases d <;> rfl] at h
    cases h
    simp [okAt] at ok
  | s :: π, d, ds, k, h, ok => by
    cases d <;> cases s <;> simp only [dAt, List.cons_append, okAt] at h ok <;> first | cases h | skip
    all_goals
      obtain ⟨z, h1, h2⟩ := Option.bind_eq_some_iff.mp h
      rw [h1] at ok
      first
        | exact okAt_ro π h2 ok
        | exact okAt_ro π h2 (and_r ok)
def lIx (i : Nat) (πf : LF) (g : PF) : LF := fun ρ => (πf ρ).bind fun π => (asInt (g ρ)).bind fun j => (getS ρ i).bind fun d => match dAt d π with
  | some (.lst _ ds) => (ixN ds.length j).map fun k => π ++ [.ix k]
  | some (.tup ds) => (ixN ds.length j).map fun k => π ++ [.ix k]
  | _ => none
section
variable {X : Cx} {Γ : Ctx} {W : WX} {e a b o ix : Expr} {es : List Expr} {pos : Pos} {hold : Hold} {ρ : Env} {σ : L2.St} {H : Hp}
theorem lIx_some {i : Nat} {πf : LF} {g : PF} {ρ : Env} {π' : List Stp} {d : D} (h : lIx i πf g ρ = some π') (hd : getS ρ i = some d) : ∃ π j k ds, πf ρ = some π ∧ g ρ = some (.int j) ∧ (dAt d π = some (.tup ds) ∨ ∃ m, dAt d π = some (.lst m ds)) ∧ ixN ds.length j = some k ∧ π' = π ++ [.ix k] := by
  unfold lIx at h
  obtain ⟨π, h1, h⟩ := Option.bind_eq_some_iff.mp h
  obtain ⟨j, h2, h⟩ := Option.bind_eq_some_iff.mp h
  obtain ⟨d', h3, h⟩ := Option.bind_eq_some_iff.mp h
  rw [hd] at h3; cases h3
  split at h
  · rename_i m ds h4
    obtain ⟨k, h5, h6⟩ := Option.map_eq_some_iff.mp h
    exact ⟨π, j, k, ds, h1, asInt_some h2, .inr ⟨m, h4⟩, h5, h6.symm⟩
  · rename_i ds h4
    obtain ⟨k, h5, h6⟩ := Option.map_eq_some_iff.mp h
    exact ⟨π, j, k, ds, h1, asInt_some h2, .inl h4, h5, h6.symm⟩
  · cases h
theorem okAt_front : ∀ (π : List Stp) {d : D} {s : Stp}, okAt d (π ++ [s]) = true → okAt d π = true
  | [], d, s, _ => by cases d <;> rfl
  | t :: π, d, s, h => by
    cases d <;> cases t <;> simp only [List.cons_append, okAt] at h ⊢ <;> first | cases h | skip
    all_goals
      first
        | (rename_i ds j; cases q : ds[j]? with
            | none => rw [q] at h; simp at h
            | some z => rw [q] at h; first | exact okAt_front π h | (rw [and_l h]; exact okAt_front π (and_r h)))
        | (rename_i fs f; cases q : atF f fs with
            | none => rw [q] at h; simp at h
            | some z => rw [q] at h; rw [and_l h]; exact okAt_front π (and_r h))
        | (rename_i kvs j; cases q : atK j kvs with
            | none => rw [q] at h; simp at h
            | some z => rw [q] at h; rw [and_l h]; exact okAt_front π (and_r h))
theorem l_ix {i : Nat} {πf : LF} {g : PF} (hK : X.K = Γ.K) (ho : PE X o (tL Γ i πf)) (hi : PE X ix (tP Γ g)) (hs : PlainIx ix) : PE X (.Subscript o ix pos) (tL Γ i (lIx i πf g)) :=
  PE.wk (pe_ix ix_seq ho hi hs) fun σ H Q ⟨hold, ρ, s, π', d, y, e1, e2, e3, e4, k⟩ => by
    obtain ⟨π, j, kk, ds, h1, h2, h3, h4, rfl⟩ := lIx_some e1 e2
    have hx : ∃ x, dAt d π = some x ∧ (x = .tup ds ∨ ∃ m, x = .lst m ds) := by
      rcases h3 with h3 | ⟨m, h3⟩
      · exact ⟨_, h3, .inl rfl⟩
      · exact ⟨_, h3, .inr ⟨m, rfl⟩⟩
    obtain ⟨x, hx1, hx2⟩ := hx
    have hy : ds[kk]? = some y := by rw [← dAt_snocI (y := y) π hx1 hx2]; exact e3
    refine ⟨hold, ρ, s, π, d, x, h1, e2, hx1, okAt_front π e4, fun v H1 x1 s1 hf => ⟨hold, ρ, s1, _, h2, fun u H2 x2 s2 => ?_⟩⟩
    obtain rfl := s2.topInt
    have s3 := s2.drop
    obtain ⟨r, er, fr⟩ := hf
    have fr := follow_ext x2 π fr
    obtain ⟨F, fh, fs, s4⟩ := id s3
    obtain ⟨r', f0, er', hr, _⟩ := s4.ss.get e2
    rw [er] at er'; cases er'
    obtain ⟨w', f, g', fw, _, hxw, _⟩ := Rep.focus π d r f0 x hr hx1 (okAt_front π e4)
    obtain rfl := follow_det π fw fr
    rcases hx2 with rfl | ⟨m, rfl⟩
    · obtain ⟨a, vs, ev, hq, hr2⟩ := hxw
      subst ev
      obtain ⟨w, fw', ew, hw, _⟩ := hr2.get hy
      refine .inr (.inl ⟨a, vs, j, w, rfl, rfl, by rw [hK]; exact SqT.of hq, ?_, k w H2 (x1.trans x2) s3 ⟨r, er, follow_snocI π fr (.inr hq) ew⟩⟩)
      unfold atI
      rw [← hr2.len, h4]; exact ew
    · obtain ⟨a, vs, f2, ev, hq, hr2⟩ := hxw
      subst ev
      obtain ⟨w, fw', ew, hw, _⟩ := hr2.get hy
      have hm : m ≠ .ro := fun z => by subst z; exact okAt_ro π hx1 e4
      refine .inl ⟨a, vs, j, w, rfl, rfl, by rw [hK]; exact lst_sq hq, ?_, k w H2 (x1.trans x2) s3 ⟨r, er, follow_snocI π fr (.inl (lst_at hq hm)) ew⟩⟩
      unfold atI
      rw [← hr2.len, h4]; exact ew
/-- a method that changes a list at a place -/
def eLp (o : OL) (i : Nat) (πf : LF) (fs : List PF) : EF := fun ρ => match πf ρ, evL fs ρ with
  | some π, some args => if D.chkL (fun m => !m.isBrw) args = true then (match placeL ρ i π with
    | some p => (o p.2 args).map fun q => .ok q.2 (setS ρ i (some (dSet p.1 π (.lst .own q.1))))
    | none => none) else none
  | _, _ => none
theorem e_lmp {r : V → List V → Hp → VK → Prop} {o' : OL} {fs : List PF} {i : Nat} {πf : LF} {nm : Str} {idn : String} {apos cpos : Pos} (ho : OpL Γ r o') (pa : PlainAttrs "list") (slot : Slot "list" nm idn) (hty : typeOf (.builtin idn) = pure (.type "method_descriptor")) (hm : MtR X idn r) (hK : X.K = Γ.K) (hown : Γ.own i = true) (hb : PE X b (tL Γ i πf)) (ha : PA X (e :: es) (tA Γ fs))
    (hbase : attributeBase b nm X.env (eval b X.env) = eval b X.env := by rfl)
    (hfew : ((backTo cpos (starEach (e :: es) X.env)).all (fun x => !x.1) && (backToKw cpos (keywordEach [] X.env)).all (fun x => x.1.isSome)
      && decide ((e :: es).length + ([] : List Keyword).length + (if ([] : List Keyword).isEmpty then 0 else 1) < 30)) = true := by rfl)
    (hline : (apos.endLine == cpos.line) = true := by rfl) (hs : starEach (e :: es) X.env = (false, eval e X.env) :: starEach es X.env := by rfl) (hplain : (backTo cpos (starEach es X.env)).any (·.1) = false := by rfl) :
    PE X (.Call (.Attribute b nm apos) (e :: es) [] cpos) (tE Γ W (eLp o' i πf fs)) :=
  PE.wk (pe_bm pa slot hty hm hb ha hbase hfew hline hs hplain) fun σ H Q ⟨hold, ρ, s, nb, k⟩ => by
    unfold eLp at k
    cases h1 : πf ρ with
    | none => rw [h1] at k; exact k.elim
    | some π =>
      cases h2 : evL fs ρ with
      | none => rw [h1, h2] at k; exact k.elim
      | some args =>
        rw [h1, h2] at k
        dsimp only at k
        by_cases c : D.chkL (fun m => !m.isBrw) args = true
        · rw [if_pos c] at k
          cases h3 : placeL ρ i π with
          | none => rw [h3] at k; exact k.elim
          | some p =>
            obtain ⟨g1, g2, g3⟩ := placeL_some h3
            rw [h3] at k
            dsimp only at k
            cases z : o' p.2 args with
            | none => rw [z] at k; exact k.elim
            | some p2 =>
              rw [z] at k
              refine ⟨hold, ρ, s, π, p.1, _, h1, g1, g2, g3, fun v H1 x1 s1 hf => ?_⟩
              obtain ⟨r0, er, fr⟩ := hf
              have hA : v = v ∧ ∃ a ws, v = .ref a ∧ SqL Γ.K H1 a ws := by
                obtain ⟨F, fh, fs', s4⟩ := id s1
                obtain ⟨r', f0, er', hr, _⟩ := s4.ss.get g1
                rw [er] at er'; cases er'
                obtain ⟨w', f, g', fw, _, hxw, _⟩ := Rep.focus π p.1 r0 f0 _ hr g2 g3
                obtain rfl := follow_det π fw fr
                obtain ⟨a, vs, f2, ev, hq, _⟩ := hxw
                exact ⟨rfl, a, vs, ev, lst_sq hq⟩
              obtain ⟨_, a, ws, ev, hsq⟩ := hA
              subst ev
              refine ⟨.inl ⟨rfl, ws, by rw [hK]; exact hsq⟩, hold, ρ, s1, args, h2, fun vs H2 x2 l s2 => ?_⟩
              exact op_change ho (π := π) s2 l nb g1 g2 g3 hown c z ⟨r0, er, follow_ext x2 π fr⟩ fun u H3 s3 => k u H3 s3
        · rw [if_neg c] at k; exact k.elim
end
end DL

end
section
/-! DL24: defs that call themselves. -/
open PySem PySem.Spec L2
namespace DL
def recD (n : Nat) (lm : List Bool) (b : FF → SF) : Nat → FF
  | 0 => fun _ => none
  | m + 1 => fnD n lm (b (recD n lm b m))
theorem recD_len {n : Nat} {lm : List Bool} {b : FF → SF} : ∀ (m : Nat) (ds : List D), recD n lm b m ds ≠ none → ds.length = lm.length
  | 0, ds, h => absurd rfl h
  | m + 1, ds, h => fnD_len ds h
theorem fn_none {P : Program} {w : World} {K : PySem.W.Frag} {mg : Str → Option Value} {base : Heap} {cn : Nm} {CX : CXT} {k : Nat} {f : Addr} {fd : FuncData} {ps : List Str} {lm : List Bool} : FnOk P w K mg base CX k f fd ps (SpD K cn lm fun _ => none) := by
  constructor
  · intro vs H Q E h
    obtain ⟨_, _, _, _, _, _, _, _, _, k⟩ := h
    exact k.elim
  · intros
    rename_i h
    obtain ⟨_, _, _, _, _, _, _, _, _, k⟩ := h
    exact k.elim
section
variable {X : Cx} {Γ : Ctx} {W : WX} {b : Expr}
theorem e_lmp0 {r : V → List V → Hp → VK → Prop} {o' : OL} {i : Nat} {πf : LF} {nm : Str} {idn : String} {apos cpos : Pos} (ho : OpL Γ r o') (pa : PlainAttrs "list") (slot : Slot "list" nm idn) (hty : typeOf (.builtin idn) = pure (.type "method_descriptor")) (hm : MtR X idn r) (hK : X.K = Γ.K) (hown : Γ.own i = true) (hb : PE X b (tL Γ i πf))
    (hbase : attributeBase b nm X.env (eval b X.env) = eval b X.env := by rfl) (hline : (apos.endLine == cpos.line) = true := by rfl) :
    PE X (.Call (.Attribute b nm apos) [] [] cpos) (tE Γ W (eLp o' i πf [])) :=
  PE.wk (pe_bm0 pa slot hty hm hb hbase hline) fun σ H Q ⟨hold, ρ, s, nb, k⟩ => by
    unfold eLp at k
    cases h1 : πf ρ with
    | none => rw [h1] at k; exact k.elim
    | some π =>
      rw [h1, evL] at k
      dsimp only at k
      rw [if_pos (by rfl)] at k
      cases h3 : placeL ρ i π with
      | none => rw [h3] at k; exact k.elim
      | some p =>
        obtain ⟨g1, g2, g3⟩ := placeL_some h3
        rw [h3] at k
        dsimp only at k
        cases z : o' p.2 [] with
        | none => rw [z] at k; exact k.elim
        | some p2 =>
          rw [z] at k
          refine ⟨hold, ρ, s, π, p.1, _, h1, g1, g2, g3, fun v H1 x1 s1 hf => ?_⟩
          obtain ⟨r0, er, fr⟩ := hf
          have hA : ∃ a ws, v = .ref a ∧ SqL Γ.K H1 a ws := by
            obtain ⟨F, fh, fs', s4⟩ := id s1
            obtain ⟨r', f0, er', hr, _⟩ := s4.ss.get g1
            rw [er] at er'; cases er'
            obtain ⟨w', f, g', fw, _, hxw, _⟩ := Rep.focus π p.1 r0 f0 _ hr g2 g3
            obtain rfl := follow_det π fw fr
            obtain ⟨a, vs, f2, ev, hq, _⟩ := hxw
            exact ⟨a, vs, ev, lst_sq hq⟩
          obtain ⟨a, ws, ev, hsq⟩ := hA
          subst ev
          refine ⟨.inl ⟨rfl, ws, by rw [hK]; exact hsq⟩, ?_⟩
          exact op_change ho (π := π) (vs := []) (args := []) s1 rfl nb g1 g2 g3 hown rfl z ⟨r0, er, fr⟩ fun u H3 s3 => k u H3 s3
end
end DL

end
section
/-! DL25: int of a text. -/
open PySem PySem.Spec L2
namespace DL
section
variable {X : Cx} {Γ : Ctx} {W : WX}
def oIntT : ON
  | [.str z] => if z.length ≤ 640 then (PySem.intText? z).map .int else none
  | ds => oInt ds
def rIntT : List V → Hp → VK → Prop := fun xs H Q => ((∃ i, xs = [.int i] ∧ Q (.int i) H) ∨ ∃ k, xs = [.bl k] ∧ Q (.int (if k then 1 else 0)) H) ∨ ∃ a n, xs = [.str a] ∧ PySem.intText? a = some n ∧ a.length ≤ 640 ∧ Q (.int n) H
theorem call_intT : CallR X (.type "int") rIntT := CallR.or call_int1 call_int_str
theorem oIntT_ok : OpN Γ rIntT oIntT := fun hold ρ σ H vs ds d Q e l s k => by
  unfold oIntT at e
  split at e
  · split at e
    · rename_i z hz
      obtain ⟨n, e1, e2⟩ := Option.map_eq_some_iff.mp e
      cases e2
      obtain ⟨v, rfl, s⟩ := one_of l s
      obtain rfl := s.topStr
      exact .inr ⟨_, n, rfl, e1, hz, k _ H Ext.refl (s.drop.int _)⟩
    · cases e
  · exact .inl (oInt_ok hold ρ σ H vs _ d Q e l s k)
end
end DL

end
section
/-! DL26: any, all, sum, max, min, index; {k: v} with a tuple key; expressions by cases. -/
open PySem PySem.Spec L2
namespace DL
section
variable {X : Cx} {Γ : Ctx} {W : WX} {e a b : Expr} {f g : PF} {pos : Pos}
def blsOf : List D → Option (List Bool)
  | [] => some []
  | .bl z :: ds => (blsOf ds).map (z :: ·)
  | _ => none
theorem blsOf_some : ∀ {ds : List D} {ys : List Bool}, blsOf ds = some ys → ds = ys.map .bl
  | [], ys, h => by cases h; rfl
  | .bl z :: ds, ys, h => by
    rw [blsOf, Option.map_eq_some_iff] at h
    obtain ⟨zs, h1, rfl⟩ := h
    rw [blsOf_some h1]; rfl
  | .non :: _, _, h => by cases h
  | .str _ :: _, _, h => by cases h
  | .int _ :: _, _, h => by cases h
  | .tup _ :: _, _, h => by cases h
  | .lst _ _ :: _, _, h => by cases h
  | .dic _ _ _ :: _, _, h => by cases h
  | .ins _ _ _ :: _, _, h => by cases h
  | .cls _ :: _, _, h => by cases h
  | .exc _ _ :: _, _, h => by cases h
theorem reps_bls {K : PySem.W.Frag} {cn : Nm} {F : Addr → Prop} {H : Hp} : ∀ {ys : List Bool} {vs : List V} {fp : Fp}, Reps K cn F H (ys.map .bl) vs fp → vs = ys.map V.bl
  | [], vs, fp, h => h.1
  | y :: ys, vs, fp, ⟨v, r, f, g, e, _, h1, h2⟩ => by rw [e, h1.1, reps_bls h2]; rfl
def intsOf : List D → Option (List Int)
  | [] => some []
  | .int z :: ds => (intsOf ds).map (z :: ·)
  | _ => none
theorem intsOf_some : ∀ {ds : List D} {ys : List Int}, intsOf ds = some ys → ds = ys.map .int
  | [], ys, h => by cases h; rfl
  | .int z :: ds, ys, h => by
    rw [intsOf, Option.map_eq_some_iff] at h
    obtain ⟨zs, h1, rfl⟩ := h
    rw [intsOf_some h1]; rfl
  | .non :: _, _, h => by cases h
  | .str _ :: _, _, h => by cases h
  | .bl _ :: _, _, h => by cases h
  | .tup _ :: _, _, h => by cases h
  | .lst _ _ :: _, _, h => by cases h
  | .dic _ _ _ :: _, _, h => by cases h
  | .ins _ _ _ :: _, _, h => by cases h
  | .cls _ :: _, _, h => by cases h
  | .exc _ _ :: _, _, h => by cases h
theorem reps_ints {K : PySem.W.Frag} {cn : Nm} {F : Addr → Prop} {H : Hp} : ∀ {ys : List Int} {vs : List V} {fp : Fp}, Reps K cn F H (ys.map .int) vs fp → vs = ys.map V.int
  | [], vs, fp, h => h.1
  | y :: ys, vs, fp, ⟨v, r, f, g, e, _, h1, h2⟩ => by rw [e, h1.1, reps_ints h2]; rfl
/-- any, all of a list of truths -/
def oAny : ON
  | [.lst _ ds] => (blsOf ds).map fun bs => .bl (bs.any id)
  | _ => none
def oAll : ON
  | [.lst _ ds] => (blsOf ds).map fun bs => .bl (bs.all id)
  | _ => none
theorem oAny_ok : OpN Γ (rAny Γ.K) oAny := fun hold ρ σ H vs ds d Q e l s k => by
  unfold oAny at e
  split at e
  · obtain ⟨bs, e1, e2⟩ := Option.map_eq_some_iff.mp e
    cases e2
    obtain ⟨v, rfl, s⟩ := one_of l s
    obtain ⟨F, fp, h, _⟩ := s.open1
    obtain ⟨p, ws, f', ev, q, r⟩ := h
    subst ev
    have := blsOf_some e1
    subst this
    obtain rfl := reps_bls r
    exact ⟨p, bs, rfl, lst_sq q, k _ H Ext.refl (s.drop.bl _)⟩
  · cases e
theorem oAll_ok : OpN Γ (rAll Γ.K) oAll := fun hold ρ σ H vs ds d Q e l s k => by
  unfold oAll at e
  split at e
  · obtain ⟨bs, e1, e2⟩ := Option.map_eq_some_iff.mp e
    cases e2
    obtain ⟨v, rfl, s⟩ := one_of l s
    obtain ⟨F, fp, h, _⟩ := s.open1
    obtain ⟨p, ws, f', ev, q, r⟩ := h
    subst ev
    have := blsOf_some e1
    subst this
    obtain rfl := reps_bls r
    exact ⟨p, bs, rfl, lst_sq q, k _ H Ext.refl (s.drop.bl _)⟩
  · cases e
/-- sum of a list of ints -/
def oSum : ON
  | [.lst _ ds] => (intsOf ds).map fun bs => .int bs.sum
  | _ => none
theorem oSum_ok : OpN Γ (rSum Γ.K) oSum := fun hold ρ σ H vs ds d Q e l s k => by
  unfold oSum at e
  split at e
  · obtain ⟨bs, e1, e2⟩ := Option.map_eq_some_iff.mp e
    cases e2
    obtain ⟨v, rfl, s⟩ := one_of l s
    obtain ⟨F, fp, h, _⟩ := s.open1
    obtain ⟨p, ws, f', ev, q, r⟩ := h
    subst ev
    have := intsOf_some e1
    subst this
    obtain rfl := reps_ints r
    exact ⟨p, bs, rfl, lst_sq q, k _ H Ext.refl (s.drop.int _)⟩
  · cases e
/-- the greatest, the least -/
def maxL : List Int → Int
  | [] => 0
  | x :: xs => xs.foldl (fun m y => if y > m then y else m) x
def minL : List Int → Int
  | [] => 0
  | x :: xs => xs.foldl (fun m y => if y < m then y else m) x
theorem maxL_go : ∀ (xs : List Int) (m : Int), (xs.foldl (fun m y => if y > m then y else m) m = m ∨ xs.foldl (fun m y => if y > m then y else m) m ∈ xs) ∧ m ≤ xs.foldl (fun m y => if y > m then y else m) m ∧ ∀ y ∈ xs, y ≤ xs.foldl (fun m y => if y > m then y else m) m
  | [], m => ⟨.inl rfl, Int.le_refl _, fun y h => by cases h⟩
  | x :: xs, m => by
    obtain ⟨h1, h2, h3⟩ := maxL_go xs (if x > m then x else m)
    rw [List.foldl_cons]
    generalize xs.foldl (fun m y => if y > m then y else m) (if x > m then x else m) = z at *
    by_cases c : x > m
    · rw [if_pos c] at h1 h2
      refine ⟨?_, by omega, fun y h => ?_⟩
      · rcases h1 with h1 | h1
        · exact .inr (by rw [h1]; exact List.mem_cons_self)
        · exact .inr (List.mem_cons_of_mem _ h1)
      · rcases List.mem_cons.mp h with rfl | h
        · exact h2
        · exact h3 y h
    · rw [if_neg c] at h1 h2
      refine ⟨?_, by omega, fun y h => ?_⟩
      · rcases h1 with h1 | h1
        · exact .inl h1
        · exact .inr (List.mem_cons_of_mem _ h1)
      · rcases List.mem_cons.mp h with rfl | h
        · omega
        · exact h3 y h
theorem minL_go : ∀ (xs : List Int) (m : Int), (xs.foldl (fun m y => if y < m then y else m) m = m ∨ xs.foldl (fun m y => if y < m then y else m) m ∈ xs) ∧ xs.foldl (fun m y => if y < m then y else m) m ≤ m ∧ ∀ y ∈ xs, xs.foldl (fun m y => if y < m then y else m) m ≤ y
  | [], m => ⟨.inl rfl, Int.le_refl _, fun y h => by cases h⟩
  | x :: xs, m => by
    obtain ⟨h1, h2, h3⟩ := minL_go xs (if x < m then x else m)
    rw [List.foldl_cons]
    generalize xs.foldl (fun m y => if y < m then y else m) (if x < m then x else m) = z at *
    by_cases c : x < m
    · rw [if_pos c] at h1 h2
      refine ⟨?_, by omega, fun y h => ?_⟩
      · rcases h1 with h1 | h1
        · exact .inr (by rw [h1]; exact List.mem_cons_self)
        · exact .inr (List.mem_cons_of_mem _ h1)
      · rcases List.mem_cons.mp h with rfl | h
        · exact h2
        · exact h3 y h
    · rw [if_neg c] at h1 h2
      refine ⟨?_, by omega, fun y h => ?_⟩
      · rcases h1 with h1 | h1
        · exact .inl h1
        · exact .inr (List.mem_cons_of_mem _ h1)
      · rcases List.mem_cons.mp h with rfl | h
        · omega
        · exact h3 y h
theorem maxL_mem {xs : List Int} (h : xs ≠ []) : maxL xs ∈ xs ∧ ∀ y ∈ xs, y ≤ maxL xs := by
  cases xs with
  | nil => exact absurd rfl h
  | cons x xs =>
    obtain ⟨h1, h2, h3⟩ := maxL_go xs x
    refine ⟨?_, fun y hy => ?_⟩
    · rcases h1 with h1 | h1
      · show List.foldl _ x xs ∈ _
        rw [h1]; exact List.mem_cons_self
      · exact List.mem_cons_of_mem _ h1
    · rcases List.mem_cons.mp hy with rfl | hy
      · exact h2
      · exact h3 y hy
theorem minL_mem {xs : List Int} (h : xs ≠ []) : minL xs ∈ xs ∧ ∀ y ∈ xs, minL xs ≤ y := by
  cases xs with
  | nil => exact absurd rfl h
  | cons x xs =>
    obtain ⟨h1, h2, h3⟩ := minL_go xs x
    refine ⟨?_, fun y hy => ?_⟩
    · rcases h1 with h1 | h1
      · show List.foldl _ x xs ∈ _
        rw [h1]; exact List.mem_cons_self
      · exact List.mem_cons_of_mem _ h1
    · rcases List.mem_cons.mp hy with rfl | hy
      · exact h2
      · exact h3 y hy
def oMaxL : ON
  | [.lst _ ds] => (intsOf ds).bind fun bs => if bs = [] then none else some (.int (maxL bs))
  | _ => none
def oMinL : ON
  | [.lst _ ds] => (intsOf ds).bind fun bs => if bs = [] then none else some (.int (minL bs))
  | _ => none
theorem rMax_uniq {K : PySem.W.Frag} {H : Hp} {Q : VK} {p : Addr} {bs : List Int} (hs : SqL K H p (bs.map V.int)) (hb : bs ≠ []) (k : Q (.int (maxL bs)) H) : rMax K [.ref p] H Q := by
  obtain ⟨h1, h2⟩ := maxL_mem hb
  refine ⟨p, bs, rfl, hs, List.length_pos_iff.mpr hb, fun m hm hy => ?_⟩
  have : m = maxL bs := Int.le_antisymm (h2 m hm) (hy _ h1)
  rw [this]; exact k
theorem rMin_uniq {K : PySem.W.Frag} {H : Hp} {Q : VK} {p : Addr} {bs : List Int} (hs : SqL K H p (bs.map V.int)) (hb : bs ≠ []) (k : Q (.int (minL bs)) H) : rMin K [.ref p] H Q := by
  obtain ⟨h1, h2⟩ := minL_mem hb
  refine ⟨p, bs, rfl, hs, List.length_pos_iff.mpr hb, fun m hm hy => ?_⟩
  have : m = minL bs := Int.le_antisymm (hy _ h1) (h2 m hm)
  rw [this]; exact k
theorem oMaxL_ok : OpN Γ (rMax Γ.K) oMaxL := fun hold ρ σ H vs ds d Q e l s k => by
  unfold oMaxL at e
  split at e
  · obtain ⟨bs, e1, e2⟩ := Option.bind_eq_some_iff.mp e
    split at e2
    · cases e2
    · rename_i hb
      cases e2
      obtain ⟨v, rfl, s⟩ := one_of l s
      obtain ⟨F, fp, h, _⟩ := s.open1
      obtain ⟨p, ws, f', ev, q, r⟩ := h
      subst ev
      have := intsOf_some e1
      subst this
      obtain rfl := reps_ints r
      exact rMax_uniq (lst_sq q) hb (k _ H Ext.refl (s.drop.int _))
  · cases e
theorem oMinL_ok : OpN Γ (rMin Γ.K) oMinL := fun hold ρ σ H vs ds d Q e l s k => by
  unfold oMinL at e
  split at e
  · obtain ⟨bs, e1, e2⟩ := Option.bind_eq_some_iff.mp e
    split at e2
    · cases e2
    · rename_i hb
      cases e2
      obtain ⟨v, rfl, s⟩ := one_of l s
      obtain ⟨F, fp, h, _⟩ := s.open1
      obtain ⟨p, ws, f', ev, q, r⟩ := h
      subst ev
      have := intsOf_some e1
      subst this
      obtain rfl := reps_ints r
      exact rMin_uniq (lst_sq q) hb (k _ H Ext.refl (s.drop.int _))
  · cases e
def oMax2 : ON
  | [.int i, .int j] => some (.int (if j > i then j else i))
  | _ => none
def oMin2 : ON
  | [.int i, .int j] => some (.int (if j < i then j else i))
  | _ => none
theorem oMax2_ok : OpN Γ (fun xs H Q => ∃ i j, xs = [.int i, .int j] ∧ Q (.int (if j > i then j else i)) H) oMax2 := fun hold ρ σ H vs ds d Q e l s k => by
  unfold oMax2 at e
  split at e
  · cases e
    obtain ⟨v, w, rfl, s⟩ := two_of l s
    obtain rfl := s.topInt
    obtain rfl := s.drop.topInt
    exact ⟨_, _, rfl, k _ H Ext.refl (s.drop.drop.int _)⟩
  · cases e
theorem oMin2_ok : OpN Γ (fun xs H Q => ∃ i j, xs = [.int i, .int j] ∧ Q (.int (if j < i then j else i)) H) oMin2 := fun hold ρ σ H vs ds d Q e l s k => by
  unfold oMin2 at e
  split at e
  · cases e
    obtain ⟨v, w, rfl, s⟩ := two_of l s
    obtain rfl := s.topInt
    obtain rfl := s.drop.topInt
    exact ⟨_, _, rfl, k _ H Ext.refl (s.drop.drop.int _)⟩
  · cases e
/-- x.index(y) -/
def oIndex : O2
  | .lst _ ds, y => match pys ds, py y with
    | some ps, some p => if SeqAt.shaped (.list ps) = true ∧ SeqAt.shaped p = true then (ps.findIdx? fun z => PyData.eqv z p).map fun j => .int (j : Nat) else none
    | _, _ => none
  | _, _ => none
theorem d_index {apos cpos : Pos} (hu : X.A.units + 65 < cLine) (hK : X.K = Γ.K) (ha : PE X a (tP Γ f)) (hb : PE X b (tP Γ g))
    (hs : starEach [b] X.env = (false, eval b X.env) :: starEach [] X.env := by rfl)
    (hbase : attributeBase a "index" X.env (eval a X.env) = eval a X.env := by rfl)
    (hfew : ((backTo cpos (starEach [b] X.env)).all (fun x => !x.1) && (backToKw cpos (keywordEach [] X.env)).all (fun x => x.1.isSome)
      && decide (([b] : List Expr).length + ([] : List Keyword).length + (if ([] : List Keyword).isEmpty then 0 else 1) < 30)) = true := by rfl)
    (hline : (apos.endLine == cpos.line) = true := by rfl) (hplain : (backTo cpos (starEach [] X.env)).any (·.1) = false := by rfl) :
    PE X (.Call (.Attribute a "index" apos) [b] [] cpos) (tP Γ (pB oIndex f g)) :=
  PE.wk (pe_bm PySem.F.plainAttrs_list PySem.F.slot_list_index PySem.F.type_list_index (mt_indexD hu) ha (a_cons hb a_nil hs) hbase hfew hline hs hplain) fun σ H Q ⟨hold, ρ, s, d, e, k⟩ => by
    obtain ⟨x, y, ex, ey, ez⟩ := pB_some e
    refine ⟨hold, ρ, s, x, ex, fun v H1 x1 s1 => ?_⟩
    cases x with
    | lst m ds =>
      unfold oIndex at ez
      dsimp only at ez
      cases e1 : pys ds with
      | none => rw [e1] at ez; cases ez
      | some ps =>
        cases e2 : py y with
        | none => rw [e1, e2] at ez; cases ez
        | some p =>
          rw [e1, e2] at ez
          dsimp only at ez
          split at ez
          · rename_i hsh
            obtain ⟨j, e3, e4⟩ := Option.map_eq_some_iff.mp ez
            subst e4
            obtain ⟨F, fp, h, _⟩ := s1.open1
            obtain ⟨q0, ws, f', ev, hq, r⟩ := h
            subst ev
            refine ⟨.inl ⟨rfl, ws, by rw [hK]; exact lst_sq hq⟩, _, ρ, s1, [y], by simp [evL, ey], fun vs H2 x2 hl s2 => ?_⟩
            obtain ⟨w, rfl, s2⟩ := one_of hl s2
            obtain ⟨F2, fp2, gp2, h1, h2, _⟩ := s2.open2
            obtain ⟨hj, hj1, hj2⟩ := List.findIdx?_eq_some_iff_getElem.mp e3
            refine ⟨q0, w, p, ps, j, ps[j], rfl, rfl, ?_, ?_, hsh.1, hsh.2, List.getElem?_eq_getElem hj, hj1, fun mm z' hm hz => ?_, ?_⟩
            · rw [hK]
              exact Rep.dp _ _ _ (.list ps) h1 (by show (pys ds).map _ = _; rw [e1]; rfl)
            · rw [hK]
              exact Rep.dp _ _ _ _ h2 e2
            · obtain ⟨hml, rfl⟩ := List.getElem?_eq_some_iff.mp hz
              have := hj2 mm hm
              exact Bool.eq_false_iff.mpr this
            · exact k _ H2 (x1.trans x2) (s2.drop.drop.int _)
          · cases ez
    | _ => cases ez
/-- a if t else b -/
def eIf (t : TF) (f g : EF) : EF := fun ρ => match t ρ with
  | some (.ok true ρ') => f ρ'
  | some (.ok false ρ') => g ρ'
  | some (.ex n fs ρ') => some (.ex n fs ρ')
  | none => none
theorem e_if {c : Expr} {t : TF} {f g : EF} (hc : PT X c (tT Γ W t)) (ha : PE X a (tE Γ W f)) (hb : PE X b (tE Γ W g)) : PE X (.IfExp c a b pos) (tE Γ W (eIf t f g)) :=
  PE.wk (pe_ifExp hc ha hb) fun σ H Q ⟨hold, ρ, s, nb, k⟩ => by
    unfold eIf at k
    refine ⟨hold, ρ, s, nb, ?_⟩
    cases q : t ρ with
    | none => rw [q] at k; exact k.elim
    | some r =>
      rw [q] at k
      cases r with
      | ex n fs ρ1 => exact k
      | ok b1 ρ1 =>
        cases b1 with
        | true => exact fun H1 s1 => iT ⟨hold, ρ1, s1, nb, k⟩
        | false => exact fun H1 s1 => iF ⟨hold, ρ1, s1, nb, k⟩
end
/-! ### {k: v} with a tuple key -/
def tDisp1T (tk tv : TE) : TE := fun σ H Q => ∀ p, H p = none → tk σ (upd H p (.dT [])) fun x H1 => tv σ H1 fun y H2 => H2 p = some (.dT []) ∧ ∃ b key, x = .ref b ∧ H2 b = some (.tup (key.map kV)) ∧ Q (.ref p) (upd H2 p (.dT [(key, y)]))
theorem pe_disp1T {X : Cx} {pos : Pos} {k v : Expr} {tk tv : TE} (hu : X.A.units + 1 < cLine) (hk : PE X k tk) (hv : PE X v tv) : PE X (.Dict [some k] [v] pos) (tDisp1T tk tv) := by
  refine ⟨fun pins s σ H Q I q => ?_⟩
  have hn := I.hok.fresh (Nat.le_refl s.heap.objs.size)
  have I1 := I.laid (a := s.heap.objs.size) (o := .dT []) (h' := s.heap.push { cls := .type "dict", data := .dict #[] }) (t' := s.toks) (fun _ _ q => Heap.get?_push_of_some _ q) (Nat.le_refl _) (dt_empty s.heap I.big)
  refine wpAny_Dict_any rfl rfl (by simp) (by show 1 ≤ 15; decide) ?_
  refine thn ((pps_cons hk hv pps_nil).run pins _ σ _ (fun ps H2 => match ps with
    | [(x, y)] => H2 s.heap.objs.size = some (.dT []) ∧ ∃ b key, x = .ref b ∧ H2 b = some (.tup (key.map kV)) ∧ Q (.ref s.heap.objs.size) (upd H2 s.heap.objs.size (.dT [(key, y)]))
    | _ => False) I1 (q _ hn)) fun ws s2 ⟨ps, H2, I2, rel, q2⟩ => ?_
  match ps, q2 with
  | [(x, y)], ⟨e, b, key, ex, eb, q3⟩ =>
    subst ex
    cases rel with
    | @cons _ z _ zs hr ht =>
      cases ht
      obtain ⟨z1, z2⟩ := z
      obtain ⟨hr1, hr2⟩ := hr
      cases (show z1 = Value.ref b from hr1)
      obtain ⟨z, hd, xs, rel2, dd⟩ := dt_of I2.hok e
      cases rel2
      show wpAny _ _ (forIn [(Value.ref b, z2)] PUnit.unit _) _ _ _
      rw [List.forIn_cons]
      refine wpAny_bind (wpAny_bind (wpAny_dictSet_heap (hsz := Nat.zero_le _) (show X.A.units < cLine by omega) (key_of I2.hok eb) dd fun h' dd' hs => wpAny_pure ?_))
      show wpAny _ _ (forIn [] PUnit.unit _) _ _ _
      rw [List.forIn_nil]
      refine wpAny_pure ⟨.ref s.heap.objs.size, _, ?_, rfl, q3⟩
      obtain ⟨q, es, ep, hq, h2, h3, h4, _, h5⟩ := dd'
      refine d_write I2 (by rw [e]; exact True.intro) hs ⟨q, hq⟩ ⟨by show 1 ≤ sizeLine; decide, hd, _, (KT.put (H := H2) (kvs := []) (xs := []) .nil key eb hr2).keeps fun c ys ec => ?_, q, es, ep, hq, h2, h3, h4, h5⟩
      rw [upd_ne (ne_of ec e (fun z => nomatch z))]
      exact ec
end DL

end
section
/-! DL27: {k: v} with a tuple key. -/
open PySem PySem.Spec L2
namespace DL
theorem kyT_ok {K : PySem.W.Frag} {cn : Nm} {F : Addr → Prop} {H : Hp} {x : D} {v : V} {fp : Fp} {k : Ky} (e : kyOf .t x = some k) (h : Rep K cn F H x v fp) : ∃ b keys, v = .ref b ∧ H b = some (.tup (keys.map kV)) ∧ ofKeys keys = k := by
  cases x with
  | tup ds =>
    obtain ⟨a, vs, e1, q, r⟩ := h
    obtain ⟨ks, e2, e3⟩ := Option.map_eq_some_iff.mp e
    obtain ⟨keys, ev, ek⟩ := kyL_ok e2 r
    subst e3
    exact ⟨a, keys, e1, by rw [q, ev], by unfold ofKeys; rw [ek]⟩
  | _ => cases e
theorem SI.dic1 {Γ : Ctx} {hold : Hold} {ρ : Env} {σ : L2.St} {H : Hp} {p : Addr} {v w : V} {x y : D} {k : Ky} (s : SI Γ ((w, y) :: (v, x) :: (.ref p, .dic .own .t []) :: hold) ρ σ H) (nb : hold.noBrw) (ny : y.noBrw = true) (ek : kyOf .t x = some k) :
    ∃ b keys, v = .ref b ∧ H p = some (.dT []) ∧ H b = some (.tup (keys.map kV)) ∧ SI Γ ((.ref p, .dic .own .t [(k, y)]) :: hold) ρ σ (upd H p (.dT [(keys, w)])) := by
  obtain ⟨F, fh, fs, s⟩ := s
  obtain ⟨v1, r1, f1, g1, e1, q1, hy, ⟨v2, r2, f2, g2, e2, q2, hx, ⟨v3, r3, f3, g3, e3, q3, ⟨a, f4, ea, hd⟩, hh⟩⟩⟩ := s.hh
  cases e1; cases e2; cases e3; cases ea
  rcases hd with ⟨hk, _⟩ | ⟨_, kv, hd, hr⟩
  · cases hk
  have hkv : kv = [] := by have := hr.1; simpa using this
  subst hkv
  have z4 : ∀ a, f4 a = 0 := hr.2
  obtain ⟨b, keys, ev, hb, hks⟩ := kyT_ok ek hx
  have f3p : f3 p = 1 := by have := hd.2 p; have := z4 p; simp at *; omega
  have n1 := s.nd p
  have pC : 0 < fh p + fs p := by have := q1 p; have := q2 p; have := q3 p; omega
  have zC : f1 p = 0 ∧ f2 p = 0 ∧ g3 p = 0 ∧ fs p = 0 := by have := q1 p; have := q2 p; have := q3 p; omega
  have K0 : Keep F F H (upd H p (.dT [(keys, w)])) False := Keep.upd (by rw [hd.1]; trivial) (s.ow p pC).1
  have away : ∀ {f9 : Fp}, f9 p = 0 → ∀ a o', 0 < f9 a → H a = some o' → upd H p (.dT [(keys, w)]) a = some o' := fun {f9} z a o' pos h => by
    rw [upd_ne]; exact h
    rintro rfl; omega
  refine ⟨b, keys, ev, hd.1, hb, F, fun b => (f1 b + if b = p then 1 else 0) + g3 b, fs, s.mut pC ⟨.ref p, _, fun b => f1 b + if b = p then 1 else 0, g3, rfl, fun b => rfl, ⟨p, f1, rfl, .inr ⟨rfl, [(keys, w)], ⟨upd_same, fun b => rfl⟩, ?_⟩⟩, ?_⟩ (Slots.go K0 (away zC.2.2.2) s.ss) (fun b => ?_) s.mo⟩
  · show RepK _ _ _ _ [(k, y)] [(ofKeys keys, w)] f1
    rw [hks]
    exact ⟨w, [], f1, fp0, rfl, fun _ => rfl, Rep.go K0 _ _ _ (fun z => by rw [ny] at z; cases z) (away zC.1) hy, rfl, fun _ => rfl⟩
  · exact Reps.go K0 _ _ _ (fun z => by rw [show D.chkL (fun m => !m.isBrw) (hold.map (·.2)) = true from nb] at z; cases z) (away zC.2.2.1) hh
  · have := q1 b; have := q2 b; have := q3 b; have := hd.2 b; have := z4 b
    show f1 b + (if b = p then 1 else 0) + g3 b + fs b ≤ fh b + fs b
    omega
def eDic1 (f g : PF) : EF := fun ρ => match f ρ, g ρ with
  | some x, some y => if y.noBrw = true then (kyOf .t x).map fun k => .ok (.dic .own .t [(k, y)]) ρ else none
  | _, _ => none
section
variable {X : Cx} {Γ : Ctx} {W : WX} {a b : Expr} {f g : PF} {pos : Pos}
theorem e_dic1 (hu : X.A.units + 1 < cLine) (ha : PE X a (tP Γ f)) (hb : PE X b (tP Γ g)) : PE X (.Dict [some a] [b] pos) (tE Γ W (eDic1 f g)) :=
  PE.wk (pe_disp1T hu ha hb) fun σ H Q ⟨hold, ρ, s, nb, k⟩ => by
    unfold eDic1 at k
    cases e1 : f ρ with
    | none => rw [e1] at k; exact k.elim
    | some x =>
      cases e2 : g ρ with
      | none => rw [e1, e2] at k; exact k.elim
      | some y =>
        rw [e1, e2] at k
        dsimp only at k
        by_cases ny : y.noBrw = true
        · rw [if_pos ny] at k
          cases e3 : kyOf .t x with
          | none => rw [e3] at k; exact k.elim
          | some ky =>
            rw [e3] at k
            intro p hp
            have s0 : SI Γ ((.ref p, .dic .own .t []) :: hold) ρ σ (upd H p (.dT [])) := SI.newBlock (vs := []) (ds := []) (v := .ref p) (p := p) s rfl hp fun F fa r => ⟨fun b => fp0 b + if b = p then 1 else 0, fun b => by show 0 + _ ≤ fa b + _; omega, p, fp0, rfl, .inr ⟨rfl, [], ⟨upd_same, fun _ => rfl⟩, rfl, fun _ => rfl⟩⟩
            refine ⟨_, ρ, s0, x, e1, fun v H1 x1 s1 => ⟨_, ρ, s1, y, e2, fun w H2 x2 s2 => ?_⟩⟩
            obtain ⟨bb, keys, ev, hp2, hb2, s3⟩ := SI.dic1 s2 nb ny e3
            exact ⟨hp2, bb, keys, ev, hb2, k _ _ s3⟩
        · rw [if_neg ny] at k; exact k.elim
end
end DL

end
section
/-! DL28: list(reversed(x)), x a list. -/
namespace RT
open PySem PySem.Spec PyProof.Rows L2
section
variable {prog : Program} {w : World} {A : Around} {E : Value → Shared → Prop} {s : Shared}
theorem dl_extend_rev {R : Result → Shared → Prop} {it l : Addr} {items : Array Value} (hh : A.handled = none) (hit : s.heap.IsRevIter it l ((items.size : Int) - 1)) (hl : s.heap.IsList l items) (hne : l ≠ it) (hn : items.size ≤ sizeLine) (S : Addr) (res : Value) (c₀ : Nat) (hS : s.heap.get? S = some { cls := .type "list", data := .seq #[] c₀ }) (hSi : S ≠ it) (hSl : S ≠ l)
    (hR : ∀ h' tk acc' c', (∀ b o, b ≠ S → b ≠ it → s.heap.get? b = some o → h'.get? b = some o) → h'.get? S = some { cls := .type "list", dict := none, data := .seq acc' c', slots := #[] } →
      ItemsOf (fun i v => items[items.size - 1 - i]? = some v) acc' items.size → R (.ok (.ret res)) { s with heap := h', toks := tk }) :
    wpAny (model prog w) A.in1 (Builtin.List.listExtendWith (.ref S) (.ref it) res)
      (fun fin s' => match fin with | .done f => R (.ok f) s' | .again c' => c'.quiet = true ∧ codeAny (model prog w) A c' R s') (fun e s' => R (.error e) s') s := by
  have W := (Walks.listRev (prog := prog) (w := w) (A := A.in1) hh it l hne items).toS
  have hSf : S ∉ [it, l] := by simp only [List.mem_cons, List.not_mem_nil, or_false, not_or]; exact ⟨hSi, hSl⟩
  have hT : s.TypeIs (.ref it) "list_reverseiterator" := Heap.IsRevIter.typeIs hit
  have h1 : Builtin.List.listSameRef (.ref S) (.ref it) = false := by simp [Builtin.List.listSameRef, hSi]
  unfold Builtin.List.listExtendWith
  refine wpAny_bind (wpAny_typeOf hT ?_)
  rw [if_neg (by rw [h1]; decide)]
  refine wpAny_bind (wpAny_pyIter_revIter hit ?_)
  refine wpAny_bind (wpAny_holding ?_)
  unfold Builtin.List.listLengthHint
  refine wpAny_bind (wpAny_specialOf hT nolen_lri ?_)
  show wpAny _ A.in1 (specialOf (Value.ref it) (Str.ofString "__length_hint__") >>= _) _ _ _
  refine wpAny_bind (wpAny_specialOf hT hint_lri ?_)
  generalize hid : ("list_reverseiterator.__length_hint__" : String) = id0
  wp_delta
  rw [show splitId id0 = some ("list_reverseiterator", "__length_hint__") from by subst hid; decide +kernel]
  subst hid
  refine wpAny_bind (wpAny_isInstance (b := true) hT (by rw [isSubtype_type]; kernel_rfl) ?_)
  refine wpAny_pure ?_
  rw [if_neg (by decide)]
  have e0 : ((items.size : Nat) : Int) - 1 - ((0 : Nat) : Int) = (items.size : Int) - 1 := by omega
  refine wpAny_pure ⟨plainId_quiet F.plain_extend_loop _, codeAny_extend_loopS W hn _ hSf _ items.size 0 _ _ _ rfl (Nat.zero_le _) ⟨Nat.zero_le _, by rw [e0]; exact hit, hl⟩ hS (ItemsOf.nil _) fun s' acc' c' hm hS' hacc => ?_⟩
  rw [Moved.eq_with hm]
  refine hR s'.heap s'.toks acc' c' (fun b ob hb hb2 e => hm.heap b ob (fun hmem => ?_) e) hS' hacc
  rcases List.mem_cons.mp hmem with e' | hmem
  · exact hb e'
  · exact hb2 (List.mem_singleton.mp hmem)
theorem dl_init_rev {R : Result → Shared → Prop} {it l : Addr} {items : Array Value} (hh : A.handled = none) (hit : s.heap.IsRevIter it l ((items.size : Int) - 1)) (hl : s.heap.IsList l items) (hne : l ≠ it) (hn : items.size ≤ sizeLine) (S : Addr) (hS : s.heap.get? S = some { cls := .type "list", data := .seq #[] }) (hSi : S ≠ it) (hSl : S ≠ l)
    (hR : ∀ h' tk acc' c', (∀ b o, b ≠ S → b ≠ it → s.heap.get? b = some o → h'.get? b = some o) → h'.get? S = some { cls := .type "list", dict := none, data := .seq acc' c', slots := #[] } →
      ItemsOf (fun i v => items[items.size - 1 - i]? = some v) acc' items.size → R (.ok (.ret .none)) { s with heap := h', toks := tk }) :
    wpAny (model prog w) A.in1 (Builtin.«list.__init__» ⟨[.ref S, .ref it], []⟩)
      (fun fin s' => match fin with | .done f => R (.ok f) s' | .again c' => c'.quiet = true ∧ codeAny (model prog w) A c' R s') (fun e s' => R (.error e) s') s := by
  show wpAny _ _ (do let old ← Builtin.List.listItems (.ref S); Builtin.List.listUpdate (.ref S) (fun _ => #[]); letGo old.toList.reverse; Builtin.List.listExtendWith (.ref S) (.ref it) .none) _ _ s
  refine wpAny_bind ?_
  unfold Builtin.List.listItems
  refine wpAny_bind (wpAny_seqItems hS rfl (wpAny_pure ?_))
  show wpAny _ _ (updateSeq S (fun _ => #[]) >>= fun _ => letGo (#[] : Array Value).toList.reverse >>= fun _ => Builtin.List.listExtendWith (.ref S) (.ref it) .none) _ _ s
  refine wpAny_bind (wpAny_updateSeq hS rfl ?_)
  have hS₂ := Heap.get?_update_self (Obj.mapSeq (fun _ => (#[] : Array Value))) hS rfl
  have oth : ∀ b o, b ≠ S → s.heap.get? b = some o → (s.heap.update S (Obj.mapSeq (fun _ => (#[] : Array Value)))).get? b = some o :=
    fun b o hb e => (Heap.get?_update_other _ _ (Ne.symm hb)).trans e
  refine wpAny_bind (wpAny_letGo ?_)
  obtain ⟨ol, ho, hc, n, hd⟩ := id hl
  refine dl_extend_rev hh (hit.at fun o e => oth it o (Ne.symm hSi) e) ⟨ol, oth l ol (Ne.symm hSl) ho, hc, n, hd⟩ hne hn S .none _ hS₂ hSi hSl fun h' tk acc' c' hk hS' hacc => ?_
  exact hR h' tk acc' c' (fun b o hb hb2 e => hk b o hb hb2 (oth b o hb e)) hS' hacc
theorem dl_list_rev {it l : Addr} {items : Array Value} {Q : Value → Shared → Prop} (hh : A.handled = none) (hit : s.heap.IsRevIter it l ((items.size : Int) - 1)) (hl : s.heap.IsList l items) (hne : l ≠ it) (hn : items.size ≤ sizeLine)
    (hQ : ∀ h' tk acc' c', (∀ b o, b ≠ it → s.heap.get? b = some o → h'.get? b = some o) →
      h'.get? s.heap.objs.size = some { cls := .type "list", dict := none, data := .seq acc' c', slots := #[] } → ItemsOf (fun i v => items[items.size - 1 - i]? = some v) acc' items.size → Q (.ref s.heap.objs.size) { s with heap := h', toks := tk }) :
    wpAny (model prog w) A (call (.type "list") [.ref it]) Q E s := by
  refine callType_codes (Q₁ := fun obj s₁ => obj = .ref s.heap.objs.size ∧ s₁ = { s with heap := s.heap.push { cls := .type "list", data := .seq #[] } }) PySem.F.called_list (PySem.F.typeCall_list_1 _) PySem.F.entry_list_init
    (code_list_new _ ⟨rfl, rfl⟩) fun obj s₁ h₁ => ?_
  obtain ⟨rfl, rfl⟩ := h₁
  have hS : (s.heap.push { cls := .type "list", data := .seq #[] }).get? s.heap.objs.size = some { cls := .type "list", data := .seq #[] } := Heap.get?_push_size _ rfl
  obtain ⟨oi, hoi, _⟩ := id hit
  obtain ⟨ol, hol, _⟩ := id hl
  refine ⟨⟨_, hS, rfl⟩, PySem.F.args_list_init_2 _ _, dl_init_rev (A := A.in1) hh (hit.at fun o e => Heap.get?_push_of_some _ e) (hl.push _) hne hn _ hS (Nat.ne_of_gt (Heap.lt_size hoi)) (Nat.ne_of_gt (Heap.lt_size hol)) fun h' tk acc' c' hk hS' hacc => ?_⟩
  exact ⟨rfl, hQ h' tk acc' c' (fun b o hb e => hk b o (Nat.ne_of_lt (Heap.lt_size e)) hb (Heap.get?_push_of_some _ e)) hS' hacc⟩
end
/-- list(reversed(x)), x a list: a new list -/
def tLstRev (K : PySem.W.Frag) (te : TE) : TE := fun σ H Q => te σ H fun v H1 => ∃ (a : Addr) (xs : List V), v = .ref a ∧ SqL K H1 a xs ∧ ∀ q, H1 q = none → Q (.ref q) (upd H1 q (.lst xs.reverse))
theorem pe_lstRev {X : Cx} {e : Expr} {te : TE} {p p2 pos pos2 : Pos} (hc : X.calm = true) (hg : Gl X "list") (hm : X.mg "list" = none) (hg2 : Gl X "reversed") (hm2 : X.mg "reversed" = none) (he : PE X e te)
    (hs : starEach [e] X.env = (false, eval e X.env) :: starEach [] X.env := by rfl)
    (hs2 : starEach [.Call (.Name "reversed" p2) [e] [] pos2] X.env = (false, eval (.Call (.Name "reversed" p2) [e] [] pos2) X.env) :: starEach [] X.env := by rfl) :
    PE X (.Call (.Name "list" p) [.Call (.Name "reversed" p2) [e] [] pos2] [] pos) (tLstRev X.K te) := by
  refine ⟨fun pins s σ H Q I h => ?_⟩
  refine Call_ (ld_blt I hg hm boot_list (PyProof.Rows.callWith_type1 (args_cons (Call_ (ld_blt I hg2 hm2 PyProof.Rows.boot_reversed (PyProof.Rows.callWith_type1 (args_cons (thn (he.run pins s σ H _ I h) fun u s1 ⟨v, H1, I1, r1, q1⟩ => args_nil ?_) hs) hs rfl))) hs2) hs2 rfl))
  obtain ⟨a, xs, ev, hq, q⟩ := q1
  subst ev
  obtain rfl : u = Value.ref a := r1
  obtain ⟨its, rv, p', hz⟩ := I1.list hq
  refine call_reversed_list p'.isList (args_nil ?_)
  have k0 : ∀ b o, s1.heap.get? b = some o → (s1.heap.push (revObj a ((its.toArray.size : Int) - 1))).get? b = some o := fun b o e => Heap.get?_push_of_some _ e
  have I2 : Inv X pins σ H1 { s1 with heap := s1.heap.push (revObj a ((its.toArray.size : Int) - 1)) } := I1.kept (t' := s1.toks) k0
  obtain ⟨f0, f1, f2, f3, f4, f5⟩ := I1.fpOk (H' := H1) (b := s1.heap.objs.size) (Nat.le_refl _) (I1.hok.fresh (Nat.le_refl _))
  have hl := p'.isList
  obtain ⟨ol, hol, _⟩ := id hl
  have hne : a ≠ s1.heap.objs.size := Nat.ne_of_lt (Heap.lt_size hol)
  have hn : its.toArray.size ≤ sizeLine := by rw [List.size_toArray, ← rv.length]; exact hz
  refine dl_list_rev (s := { s1 with heap := s1.heap.push (revObj a ((its.toArray.size : Int) - 1)) }) (I1.ok.hd hc) ⟨_, Heap.get?_push_size _ rfl, rfl, rfl⟩ (hl.push _) hne hn fun h' tk acc c' hk hS' hi => ?_
  have I3 := I2.turnedNew (t' := tk) (ch := [s1.heap.objs.size]) (T := (s1.heap.push (revObj a ((its.toArray.size : Int) - 1))).objs.size) (ob := .lst xs.reverse) (h' := h') (fun b o hb e => hk b o (fun z => hb (by rw [z]; exact List.mem_cons_self)) e) (fun b hb => by
    have : b = s1.heap.objs.size := by simpa using hb
    subst this
    exact ⟨f0, f1, f2, f3, f4, f5⟩) (Nat.le_refl _) (show ObjOk X.prog X.w _ h' _ (.lst xs.reverse) from ⟨by rw [List.length_reverse]; exact hz, acc.toList, c', vals_rev rv hi, by rw [Array.toArray_toList]; exact hS'⟩)
  exact ⟨.ref _, _, I3, rfl, q _ (I2.hok.fresh (Nat.le_refl _))⟩
end RT
namespace DL
open PySem PySem.Spec L2
section
variable {X : Cx} {Γ : Ctx} {W : WX} {e : Expr} {f : PF}
def pLRev (f : PF) : PF := fun ρ => match f ρ with
  | some (.lst _ ds) => some (.lst .own ds.reverse)
  | _ => none
theorem Reps.rev {K : PySem.W.Frag} {cn : Nm} {F : Addr → Prop} {H : Hp} : ∀ {ds : List D} {vs : List V} {fp : Fp}, Reps K cn F H ds vs fp → Reps K cn F H ds.reverse vs.reverse fp
  | [], vs, fp, h => by rw [h.1]; exact ⟨rfl, h.2⟩
  | d :: ds, vs, fp, ⟨v, r, f, g, e, s, h1, h2⟩ => by
    rw [e, List.reverse_cons, List.reverse_cons]
    exact Reps.app (Reps.rev h2) (Reps.one h1) fun a => by rw [s a]; omega
theorem d_lrev {p p2 pos pos2 : Pos} (hK : X.K = Γ.K) (hc : X.calm = true) (hg : Gl X "list") (hm : X.mg "list" = none) (hg2 : Gl X "reversed") (hm2 : X.mg "reversed" = none) (he : PE X e (tP Γ f))
    (hs : starEach [e] X.env = (false, eval e X.env) :: starEach [] X.env := by rfl)
    (hs2 : starEach [.Call (.Name "reversed" p2) [e] [] pos2] X.env = (false, eval (.Call (.Name "reversed" p2) [e] [] pos2) X.env) :: starEach [] X.env := by rfl) :
    PE X (.Call (.Name "list" p) [.Call (.Name "reversed" p2) [e] [] pos2] [] pos) (tP Γ (pLRev f)) :=
  PE.wk (RT.pe_lstRev hc hg hm hg2 hm2 he hs hs2) fun σ H Q ⟨hold, ρ, s, d, e1, k⟩ => by
    unfold pLRev at e1
    split at e1
    · rename_i m ds e2
      cases e1
      refine ⟨hold, ρ, s, _, e2, fun v H1 x1 s1 => ?_⟩
      obtain ⟨F, fp, h1, k1, k2⟩ := s1.open1
      obtain ⟨p, vs, f', ev, q, r⟩ := h1
      rw [hK]
      refine ⟨p, vs, ev, lst_sq q, fun t ht => k _ _ (x1.trans (Ext.upd ht)) (k2 t _ _ _ (fun a => f' a + if a = t then 1 else 0) ht (fun a => by have := lst_le q a; show f' a + _ ≤ fp a + _; omega) (rep_new upd_same ?_))⟩
      exact Reps.go (Ext.upd ht).keep _ _ _ (fun _ => trivial) (fun a o _ => Ext.upd ht a o) (Reps.rev r)
    · cases e1
end
end DL

end
section
/-! DL29: list of a dict with tuple keys; slices whose parts change something. -/
open PySem PySem.Spec L2
namespace DL
section
variable {X : Cx} {Γ : Ctx} {W : WX} {e a b : Expr} {f g : PF} {pos : Pos}
def dKy1 : Ky → D
  | .int i => .int i
  | .str s => .str s
  | .tup _ => .non
def dKyT : Ky → D
  | .tup ks => .tup (ks.map dKy1)
  | k => dKy1 k
theorem rep_key {K : PySem.W.Frag} {cn : Nm} {F : Addr → Prop} {H : Hp} (key : List Key) {b : Addr} (h : H b = some (.tup (key.map kV))) : Rep K cn F H (dKyT (ofKeys key)) (.ref b) fp0 := by
  refine ⟨b, key.map kV, rfl, h, ?_⟩
  have : ∀ ks : List Key, Reps K cn F H ((ks.map ofKey).map dKy1) (ks.map kV) fp0 := by
    intro ks
    induction ks with
    | nil => exact ⟨rfl, fun _ => rfl⟩
    | cons k ks ih =>
      refine ⟨kV k, ks.map kV, fp0, fp0, rfl, fun _ => rfl, ?_, ih⟩
      cases k <;> exact ⟨rfl, fun _ => rfl⟩
  exact this key
def oListK : ON
  | [.dic m .t kvs] => if m = .ro then none else some (.lst .own (kvs.map fun p => dKyT p.1))
  | _ => none
theorem repK_keys {K : PySem.W.Frag} {cn : Nm} {F : Addr → Prop} {H : Hp} : ∀ {kvs : List (Ky × D)} {kv : List (List Key × V)} {fp : Fp}, RepK K cn F H kvs (kv.map fun p => (ofKeys p.1, p.2)) fp → kvs.map (·.1) = kv.map fun p => ofKeys p.1
  | [], kv, fp, h => by
    have : kv = [] := by have := h.1; simpa using this
    subst this; rfl
  | (k, d) :: kvs, [], fp, ⟨v, r, f, g, e, _⟩ => by cases e
  | (k, d) :: kvs, p :: kv, fp, ⟨v, r, f, g, e, s, h1, h2⟩ => by
    rw [List.map_cons] at e
    obtain ⟨e1, e2⟩ := List.cons.inj e
    subst e2
    rw [List.map_cons, List.map_cons, repK_keys h2]
    cases e1
    rfl
theorem oListK_ok : OpN Γ (fun xs H Q => ∃ d kvs, xs = [V.ref d] ∧ Rd H d (.dT kvs) ∧ ∀ p bs, H p = none → IsKeys H kvs bs → Q (.ref p) (upd H p (.lst (bs.map V.ref)))) oListK := fun hold ρ σ H vs ds d Q e l s k => by
  unfold oListK at e
  split at e
  · split at e
    · cases e
    · rename_i m kvs hm
      cases e
      obtain ⟨v, rfl, s⟩ := one_of l s
      obtain ⟨F, fp, h, _⟩ := s.open1
      obtain ⟨a, f, ev, hq⟩ := h
      subst ev
      rcases hq with ⟨hk, _⟩ | ⟨_, kv, hq, hr⟩
      · cases hk
      · have hkeys := repK_keys hr
        refine ⟨a, kv, rfl, hq.rd, fun p bs hp hb => k _ _ (Ext.upd hp) ?_⟩
        refine SI.newBlock (vs := []) (ds := []) (v := .ref p) (p := p) s.drop rfl hp fun F fa r => ⟨fun b => fp0 b + if b = p then 1 else 0, fun b => by show 0 + _ ≤ fa b + _; omega, ?_⟩
        refine rep_new upd_same ?_
        have hx : ∀ b ys, H b = some (.tup ys) → upd H p (HO.lst (bs.map V.ref)) b = some (.tup ys) := fun b ys h => by
          rw [upd_ne]
          · exact h
          · rintro rfl; rw [hp] at h; cases h
        have e1 : (kvs.map fun p => dKyT p.1) = (kv.map fun p => ofKeys p.1).map dKyT := by rw [← hkeys, List.map_map]; rfl
        rw [e1]
        clear hr hkeys e1 r hq
        generalize upd H p (HO.lst (bs.map V.ref)) = H' at hx ⊢
        induction hb with
        | nil => exact ⟨rfl, fun _ => rfl⟩
        | @cons x b xs bs h t ih => exact ⟨.ref b, _, fp0, fp0, rfl, fun _ => rfl, rep_key x.1 (hx _ _ h), ih⟩
  · cases e
/-- a part of a slice that may change something -/
abbrev OEF := Env → Option (Res (Option Int))
def tOE (Γ : Ctx) (W : WX) (p : OEF) : TO := fun σ H Q => ∃ hold ρ, SI Γ hold ρ σ H ∧ hold.noBrw ∧ match p ρ with
  | none => False
  | some (.ok i ρ') => ∀ H', SI Γ hold ρ' σ H' → Q i H'
  | some (.ex n xs ρ') => ∀ c od H', SI Γ hold ρ' σ H' → ExO Γ.cn H' n xs c od → W c od σ H'
def oEN : OEF := fun ρ => some (.ok none ρ)
def oES (f : EF) : OEF := fun ρ => match f ρ with
  | some (.ok (.int i) ρ') => some (.ok (some i) ρ')
  | some (.ex n xs ρ') => some (.ex n xs ρ')
  | _ => none
theorem oe_none : PO X none (tOE Γ W oEN) := PO.wk po_none fun σ H Q ⟨hold, ρ, s, nb, k⟩ => k H s
theorem oe_some {f : EF} (h : PE X e (tE Γ W f)) : PO X (some e) (tOE Γ W (oES f)) := PO.wk (po_some h) fun σ H Q ⟨hold, ρ, s, nb, k⟩ => by
  unfold oES at k
  refine ⟨hold, ρ, s, nb, ?_⟩
  cases q : f ρ with
  | none => rw [q] at k; exact k.elim
  | some r =>
    rw [q] at k
    cases r with
    | ex n xs ρ' => exact k
    | ok d ρ' =>
      cases d with
      | int i => exact fun v H1 s1 => ⟨i, s1.topInt, k H1 s1.drop⟩
      | _ => exact k.elim
def eSl (f : EF) (l h : OEF) : EF := fun ρ => match f ρ with
  | some (.ok x ρ1) => if x.noBrw = true then (match l ρ1 with
    | some (.ok lo ρ2) => (match h ρ2 with
      | some (.ok hi ρ3) => (cutD x lo hi).map (.ok · ρ3)
      | some (.ex n xs ρ3) => some (.ex n xs ρ3)
      | none => none)
    | some (.ex n xs ρ2) => some (.ex n xs ρ2)
    | none => none) else none
  | some (.ex n xs ρ1) => some (.ex n xs ρ1)
  | none => none
theorem e_sl {lo hi : Option Expr} {f : EF} {l h : OEF} {p2 : Pos} (hK : X.K = Γ.K) (ha : PE X a (tE Γ W f)) (hl : PO X lo (tOE Γ W l)) (hh : PO X hi (tOE Γ W h)) : PE X (.Subscript a (.Slice lo hi none p2) pos) (tE Γ W (eSl f l h)) :=
  PE.wk (pe_slice (SlR.or sl_list (SlR.or sl_str sl_tup)) ha hl hh) fun σ H Q ⟨hold, ρ, s, nb, k⟩ => by
    unfold eSl at k
    refine ⟨hold, ρ, s, nb, ?_⟩
    cases q1 : f ρ with
    | none => rw [q1] at k; exact k.elim
    | some r1 =>
      rw [q1] at k
      cases r1 with
      | ex n xs ρ1 => exact k
      | ok x ρ1 =>
        dsimp only at k ⊢
        by_cases nx : x.noBrw = true
        · rw [if_pos nx] at k
          intro v H1 s1
          refine ⟨_, ρ1, s1, noBrw_cons nb nx, ?_⟩
          cases q2 : l ρ1 with
          | none => rw [q2] at k; exact k.elim
          | some r2 =>
            rw [q2] at k
            cases r2 with
            | ex n xs ρ2 => exact fun c od H' s' => k c od H' s'.drop
            | ok i ρ2 =>
              dsimp only at k ⊢
              intro H2 s2
              refine ⟨_, ρ2, s2, noBrw_cons nb nx, ?_⟩
              cases q3 : h ρ2 with
              | none => rw [q3] at k; exact k.elim
              | some r3 =>
                rw [q3] at k
                cases r3 with
                | ex n xs ρ3 => exact fun c od H' s' => k c od H' s'.drop
                | ok j ρ3 =>
                  dsimp only at k ⊢
                  intro H3 s3
                  cases e : cutD x i j with
                  | none => rw [e] at k; exact k.elim
                  | some d =>
                    rw [e] at k
                    have k : ∀ v H', SI Γ ((v, d) :: hold) ρ3 σ H' → Q v H' := k
                    obtain ⟨F, fp, h1, k1, k2⟩ := s3.open1
                    rw [hK]
                    unfold cutD at e
                    split at e
                    · cases e
                      obtain ⟨p, vs, f', ev, q, r⟩ := h1
                      obtain ⟨g, le, hc⟩ := r.cut i j
                      refine .inl ⟨p, vs, ev, lst_sq q, fun t ht => k _ _ (k2 t _ _ _ (fun a => g a + if a = t then 1 else 0) ht (fun a => by have := le a; have := lst_le q a; show g a + _ ≤ fp a + _; omega) (rep_new upd_same ?_))⟩
                      rw [cutL_V]
                      exact Reps.go (Ext.upd ht).keep _ _ _ (fun _ => trivial) (fun a o _ => Ext.upd ht a o) hc
                    · split at e
                      · rename_i z
                        cases e
                        exact .inr (.inl ⟨_, h1.1, z, k _ _ (s3.drop.str _)⟩)
                      · cases e
                    · obtain ⟨p, vs, ev, q, r⟩ := h1
                      split at e
                      · cases e
                      · rename_i ds hz
                        cases e
                        obtain ⟨g, le, hc⟩ := r.cut i j
                        refine .inr (.inr ⟨p, vs, ev, SqT.of q, by rw [← r.len]; exact hz, fun t ht => k _ _ (k2 t _ _ _ g ht (fun a => by have := le a; omega) ⟨t, _, rfl, upd_same, ?_⟩)⟩)
                        rw [cutL_V]
                        exact Reps.go (Ext.upd ht).keep _ _ _ (fun _ => trivial) (fun a o _ => Ext.upd ht a o) hc
                    · cases e
        · rw [if_neg nx] at k; exact k.elim
end
end DL

end
section

end
section
open PySem PySem.Spec L2
namespace DL
def b_belt_of : SF :=
  (sSeq (sFor (iAll (lP (pB ixD (dV 0) (dC (.int 0))))) (bN 2) (sIf (lQ (qB (pB oEq (pB ixD (dV 2) (dC (.int 0))) (dV 1)))) (sRet (lP (pN oTup [(pB ixD (dV 2) (dC (.int 0))), (pB ixD (dV 2) (dC (.int 1))), (pB ixD (dV 2) (dC (.int 2))), (pN oList [(pB ixD (dV 2) (dC (.int 3)))])]))) sNil) [2])
    (sRet (lP (dC .non))))
def d_belt_of : FF := fnD 1 [false, false] b_belt_of
theorem d_belt_of_len : ∀ ds, d_belt_of ds ≠ none → ds.length = 2 := fnD_len (lm := [false, false])

def b_law_feed_7ae9d6 : SF :=
  (sSeq (sF 1 (lP (pB oAdd (dSl (dV 0) oN (oS (dC (.int 2)))) (pN oLst [(dC (.int 0)), (dC (.int 0))]))))
    (sRet (lP (pN oLst [(dSl (dV 0) oN (oS (dC (.int 63)))), (dC (.int 0)), (dC (.int 0)), (pB oMod (pB ixD (dV 1) (dC (.int 0))) (dC (.int 2))), (pB ixD (dV 1) (dC (.int 1)))]))))
def d_law_feed_7ae9d6 : FF := fnD 1 [false] b_law_feed_7ae9d6
theorem d_law_feed_7ae9d6_len : ∀ ds, d_law_feed_7ae9d6 ds ≠ none → ds.length = 1 := fnD_len (lm := [false])

def b_law_draw_664a20 : SF :=
  (sSeq (sIf (lQ (qB (pB oEq (pB ixD (dK 0) (dC (.int 3))) (dC (.int 1))))) (sSeq (sF 2 (lP (pB oMod (pB ixD (dK 0) (dC (.int 4))) (dV 1))))
    (sSeq (sSetL 0 l0 (lP (pB oDiv (pB ixD (dK 0) (dC (.int 4))) (dV 1))) (dC (.int 4)))
    (sRet (lP (dV 2))))) sNil)
    (sSeq (sF 3 (lP (pB ixD (dK 0) (dC (.int 1)))))
    (sSeq (sSetL 0 l0 (lP (pB oAdd (dV 3) (dC (.int 1)))) (dC (.int 1)))
    (sSeq (sF 4 (lP (dV 3)))
    (sSeq (sIf (lQ (qB (pB oGt (pN oLen [(pB ixD (dK 0) (dC (.int 0)))]) (dC (.int 0))))) (sF 4 (lP (pB oAdd (pB ixD (pB ixD (dK 0) (dC (.int 0))) (pB oMod (dV 3) (pN oLen [(pB ixD (dK 0) (dC (.int 0)))]))) (pB oMul (pB oDiv (dV 3) (pN oLen [(pB ixD (dK 0) (dC (.int 0)))])) (dC (.int 31)))))) sNil)
    (sRet (lP (pB oMod (pB oMod (pB oMul (pB oMod (pB oAdd (pB oMul (dV 4) (dC (.int 48271))) (pB oMul (dC (.int 31)) (dV 3))) (dC (.int 1000003))) (dC (.int 69621))) (dC (.int 999983))) (dV 1)))))))))
def d_law_draw_664a20 : FF := fnD 3 [true, false] b_law_draw_664a20
theorem d_law_draw_664a20_len : ∀ ds, d_law_draw_664a20 ds ≠ none → ds.length = 2 := fnD_len (lm := [true, false])

def b_law_name_6bc08e : SF :=
  (sSeq (sF 2 (lP (pB ixD (dC (.str (Str.ofString "abcdefghijk"))) (pB oMod (pB oAdd (pB oMul (dV 1) (dC (.int 4))) (dV 0)) (dC (.int 11))))))
    (sSeq (sIf (lQ (qB (pB oEq (pB oMod (dV 0) (dC (.int 3))) (dC (.int 0))))) (sRet (lP (pB oAdd (pB oAdd (pB oMul (dC (.str (Str.ofString "q"))) (pB oMod (pB oDiv (dV 0) (dC (.int 3))) (dC (.int 3)))) (dV 2)) (dSl (dC (.str (Str.ofString "zq"))) oN (oS (pB oDiv (dV 0) (dC (.int 9)))))))) sNil)
    (sSeq (sIf (lQ (qB (pB oEq (pB oMod (dV 0) (dC (.int 3))) (dC (.int 1))))) (sRet (lP (dIf (qB (pB oLt (dV 1) (dC (.int 8)))) (pB oMul (dC (.str (Str.ofString "b"))) (pB oAdd (dV 1) (dC (.int 1)))) (pB oMul (dC (.str (Str.ofString "c"))) (pB oSub (dV 1) (dC (.int 7))))))) sNil)
    (sRet (lP (dV 2))))))
def d_law_name_6bc08e : FF := fnD 1 [false, false] b_law_name_6bc08e
theorem d_law_name_6bc08e_len : ∀ ds, d_law_name_6bc08e ds ≠ none → ds.length = 2 := fnD_len (lm := [false, false])

def b_law_cells_6ad7a8 : SF :=
  (sSeq (sF 1 (lP (pN oLst [])))
    (sSeq (sFor (iAll (lP (pB ixD (dV 0) (dC (.int 0))))) (bT (bsCons (bN 2) (bsCons (bN 3) (bsCons (bN 4) (bsCons (bN 5) bsNil))))) (sF 1 (eB oAdd (lP (dV 1)) (eLc (iRng [(lP (dV 3))]) (bN 6) tYesF (lP (pN oTup [(dV 2), (dV 6)])) [6]))) [2, 3, 4, 5])
    (sRet (lP (dV 1)))))
def d_law_cells_6ad7a8 : FF := fnD 6 [false] b_law_cells_6ad7a8
theorem d_law_cells_6ad7a8_len : ∀ ds, d_law_cells_6ad7a8 ds ≠ none → ds.length = 1 := fnD_len (lm := [false])

def b_law_steps_cb5b23 : SF :=
  (sSeq (sF 2 (eLc (iAll (lP (pB ixD (dV 0) (dC (.int 0))))) (bN 9) tYesF (lP (pB ixD (dV 9) (dC (.int 0)))) [9]))
    (sSeq (sUnp (lP (pB ixD (pB ixD (dV 0) (dC (.int 0))) (pB oIndex (dV 2) (pB ixD (dV 1) (dC (.int 0)))))) (bT (bsCons (bN 3) (bsCons (bN 4) (bsCons (bN 5) (bsCons (bN 6) bsNil))))))
    (sSeq (sIf (lQ (qB (pB oLt (pB oAdd (pB ixD (dV 1) (dC (.int 1))) (dC (.int 1))) (dV 4)))) (sRet (lP (pN oLst [(pN oTup [(dV 3), (pB oAdd (pB ixD (dV 1) (dC (.int 1))) (dC (.int 1)))])]))) sNil)
    (sSeq (sO 7 (lP (pN oLst [])))
    (sSeq (sFor (iAll (lP (dV 6))) (bN 8) (sExpr (eL oApp 7 [(lP (dIf (qB (pB (oIn false) (dV 8) (dV 2))) (pN oTup [(dV 8), (dC (.int 0))]) (dV 8)))])) [8])
    (sSeq (sIf (lQ (qB (dV 5))) (sExpr (eL oApp 7 [(lP (pN oTup [(dV 3), (dC (.int 0))]))])) sNil)
    (sRet (eMv 7))))))))
def d_law_steps_cb5b23 : FF := fnD 8 [false, false] b_law_steps_cb5b23
theorem d_law_steps_cb5b23_len : ∀ ds, d_law_steps_cb5b23 ds ≠ none → ds.length = 2 := fnD_len (lm := [false, false])

def b_law_copied_b608ba : SF :=
  (sRet (eN oTup [(eLc (iAll (lP (pB ixD (dV 0) (dC (.int 0))))) (bT (bsCons (bN 1) (bsCons (bN 2) (bsCons (bN 3) (bsCons (bN 4) bsNil))))) tYesF (lP (pN oTup [(dV 1), (dV 2), (dV 3), (pN oList [(dV 4)])])) [1, 2, 3, 4]), (lP (pN oList [(pB ixD (dV 0) (dC (.int 1)))]))]))
def d_law_copied_b608ba : FF := fnD 4 [false] b_law_copied_b608ba
theorem d_law_copied_b608ba_len : ∀ ds, d_law_copied_b608ba ds ≠ none → ds.length = 1 := fnD_len (lm := [false])

def b_steps : SF :=
  (sSeq (sF 2 (lP (pN (oCall d_belt_of) [(dV 0), (pB ixD (dV 1) (dC (.int 0)))])))
    (sSeq (sIf (lQ (qB (pB oLt (pB oAdd (pB ixD (dV 1) (dC (.int 1))) (dC (.int 1))) (pB ixD (dV 2) (dC (.int 1)))))) (sRet (lP (pN oLst [(pN oTup [(pB ixD (dV 1) (dC (.int 0))), (pB oAdd (pB ixD (dV 1) (dC (.int 1))) (dC (.int 1)))])]))) sNil)
    (sSeq (sO 3 (lP (pN oLst [])))
    (sSeq (sFor (iAll (lP (pB ixD (dV 2) (dC (.int 3))))) (bN 4) (sIf (lQ (qB (pB (oIs false) (pN (oCall d_belt_of) [(dV 0), (dV 4)]) (dC .non)))) (sExpr (eL oApp 3 [(lP (dV 4))])) (sExpr (eL oApp 3 [(lP (pN oTup [(dV 4), (dC (.int 0))]))]))) [4])
    (sSeq (sIf (lQ (qB (pB ixD (dV 2) (dC (.int 2))))) (sExpr (eL oApp 3 [(lP (pN oTup [(pB ixD (dV 1) (dC (.int 0))), (dC (.int 0))]))])) sNil)
    (sRet (eMv 3)))))))
def d_steps : FF := fnD 3 [false, false] b_steps
theorem d_steps_len : ∀ ds, d_steps ds ≠ none → ds.length = 2 := fnD_len (lm := [false, false])

def b_law_outs_c1dd0a : SF :=
  (sSeq (sO 4 (lP (pN oLst [])))
    (sSeq (sFor (iRng [(lP (pB oAdd (dV 2) (dC (.int 1)))), (lP (pN oLen [(dV 1)]))]) (bN 5) (sIf (eT (eB oEq (eC d_law_draw_664a20 [.ln 0, .ex (lP (dC (.int 3)))]) (lP (dC (.int 0))))) (sExpr (eL oIns 4 [(eC d_law_draw_664a20 [.ln 0, .ex (lP (pB oAdd (pN oLen [(dK 4)]) (dC (.int 1))))]), (lP (pB ixD (dV 1) (dV 5)))])) sNil) [5])
    (sSeq (sIf (tAndF (lQ (qB (pB oLt (pB oAdd (dV 2) (dC (.int 1))) (dV 3)))) (tAndF (eT (eB oGt (eC d_law_draw_664a20 [.ln 0, .ex (lP (dC (.int 4)))]) (lP (dC (.int 0))))) (lQ (qB (pB (oIn true) (pB ixD (dV 1) (pB oAdd (dV 2) (dC (.int 1)))) (dK 4)))))) (sExpr (eL oIns 4 [(eC d_law_draw_664a20 [.ln 0, .ex (lP (pB oAdd (pN oLen [(dK 4)]) (dC (.int 1))))]), (lP (pB ixD (dV 1) (pB oAdd (dV 2) (dC (.int 1)))))])) sNil)
    (sSeq (sIf (tAndF (lQ (qB (pB (oIn true) (pB ixD (dV 1) (dV 3)) (dK 4)))) (tNotF (eT (eN oAny [(eLc (iRng [(lP (pB oAdd (dV 2) (dC (.int 1)))), (lP (dV 3))]) (bN 5) tYesF (lP (pB (oIn false) (pB ixD (dV 1) (dV 5)) (dK 4))) [5])])))) (sExpr (eL oIns 4 [(eC d_law_draw_664a20 [.ln 0, .ex (lP (pB oAdd (pN oLen [(dK 4)]) (dC (.int 1))))]), (lP (pB ixD (dV 1) (dV 3)))])) sNil)
    (sRet (eMv 4))))))
def d_law_outs_c1dd0a : FF := fnD 2 [true, false, false, false] b_law_outs_c1dd0a
theorem d_law_outs_c1dd0a_len : ∀ ds, d_law_outs_c1dd0a ds ≠ none → ds.length = 4 := fnD_len (lm := [true, false, false, false])

def b_law_sets_277d4e : SF :=
  (sSeq (sF 5 (eLc (iAll (lP (dV 1))) (bN 9) (lQ (qB (pB (oIn true) (pN oTup [(pB ixD (dV 9) (dC (.int 0))), (pB ixD (dV 9) (dC (.int 1))), (dC (.int 0))]) (dV 4)))) (lP (dV 9)) [9]))
    (sSeq (sO 6 (lP (pN oLst [(dV 5)])))
    (sSeq (sFor (iRng [(lP (dC (.int 1))), (lP (pB oAdd (dV 3) (dC (.int 1))))]) (bN 7) (sSeq (sO 8 (lP (pN oLst [])))
    (sSeq (sFor (iAll (lP (dV 5))) (bN 9) (sFor (iAll (lP (pB oAdd (pN oLst [(dV 9)]) (pN (oCall d_law_steps_cb5b23) [(dV 0), (dV 9)])))) (bN 10) (sSeq (sIf (lQ (qB (pB oEq (dV 10) (dV 2)))) (sRet (lP (dC .non))) sNil)
    (sIf (lQ (qAnd (qNot (qB (pIsi "str" (dV 10)))) (qAnd (qB (pB (oIn true) (dV 10) (dK 8))) (qB (pB (oIn true) (pB oAdd (dV 10) (pN oTup [(dV 7)])) (dV 4)))))) (sExpr (eL oApp 8 [(lP (dV 10))])) sNil)) [10]) [9])
    (sSeq (sF 5 (eFz 8))
    (sExpr (eL oApp 6 [(lP (dV 5))]))))) [7])
    (sRet (eMv 6)))))
def d_law_sets_277d4e : FF := fnD 6 [false, false, false, false, false] b_law_sets_277d4e
theorem d_law_sets_277d4e_len : ∀ ds, d_law_sets_277d4e ds ≠ none → ds.length = 5 := fnD_len (lm := [false, false, false, false, false])

def b_law_places_a9c304 : SF :=
  (sSeq (sF 3 (lP (pN (oCall d_law_cells_6ad7a8) [(dV 1)])))
    (sSeq (sO 4 (lP (pN oLst [])))
    (sSeq (sFor (iRng [(eC d_law_draw_664a20 [.ln 0, .ex (lP (pB oAdd (dV 2) (dC (.int 1))))])]) (bN 5) (sSeq (sF 6 (eB ixD (lP (dV 3)) (eC d_law_draw_664a20 [.ln 0, .ex (lP (pN oLen [(dV 3)]))])))
    (sIf (lQ (qB (pB (oIn true) (dV 6) (dK 4)))) (sExpr (eL oIns 4 [(eC d_law_draw_664a20 [.ln 0, .ex (lP (pB oAdd (pN oLen [(dK 4)]) (dC (.int 1))))]), (lP (dV 6))])) sNil)) [5])
    (sRet (eMv 4)))))
def d_law_places_a9c304 : FF := fnD 4 [true, false, false] b_law_places_a9c304
theorem d_law_places_a9c304_len : ∀ ds, d_law_places_a9c304 ds ≠ none → ds.length = 3 := fnD_len (lm := [true, false, false])

def b_cuts : SF :=
  (sSeq (sO 5 (lP (pNew .t)))
    (sSeq (sFor (iAll (lP (dV 4))) (bN 6) (sPutD 5 (lP (dC (.bl true))) (dV 6)) [6])
    (sSeq (sF 7 (eLc (iAll (lP (dV 1))) (bN 10) (lQ (qB (pB (oInK true) (pN oTup [(pB ixD (dV 10) (dC (.int 0))), (pB ixD (dV 10) (dC (.int 1))), (dC (.int 0))]) (dK 5)))) (lP (dV 10)) [10]))
    (sSeq (sFor (iRng [(lP (dC (.int 1))), (lP (pB oAdd (dV 3) (dC (.int 1))))]) (bN 8) (sSeq (sO 9 (lP (pNew .t)))
    (sSeq (sFor (iAll (lP (dV 7))) (bN 10) (sFor (iAll (lP (pB oAdd (pN oLst [(dV 10)]) (pN (oCall d_steps) [(dV 0), (dV 10)])))) (bN 11) (sSeq (sIf (lQ (qB (pB oEq (dV 11) (dV 2)))) (sRet (lP (dC (.bl false)))) sNil)
    (sIf (lQ (qAnd (qNot (qB (pIsi "str" (dV 11)))) (qB (pB (oInK true) (pN oTup [(pB ixD (dV 11) (dC (.int 0))), (pB ixD (dV 11) (dC (.int 1))), (dV 8)]) (dK 5))))) (sPutD 9 (lP (dC (.bl true))) (dV 11)) sNil)) [11]) [10])
    (sF 7 (lP (pN oListK [(dK 9)]))))) [8])
    (sRet (lP (dC (.bl true))))))))
def d_cuts : FF := fnD 7 [false, false, false, false, false] b_cuts
theorem d_cuts_len : ∀ ds, d_cuts ds ≠ none → ds.length = 5 := fnD_len (lm := [false, false, false, false, false])

def b_law_house_b98846 : SF :=
  (sSeq (sF 1 (eB oAdd (lP (dC (.int 1))) (eC d_law_draw_664a20 [.ln 0, .ex (lP (dC (.int 4)))])))
    (sSeq (sF 2 (lP (dC (.int 4))))
    (sSeq (sF 3 (eC d_law_draw_664a20 [.ln 0, .ex (lP (dC (.int 8)))]))
    (sSeq (sIf (lQ (qB (pB oEq (dV 3) (dC (.int 5))))) (sSeq (sF 1 (lP (dC (.int 6))))
    (sF 2 (lP (dC (.int 5))))) sNil)
    (sSeq (sIf (lQ (qB (pB oEq (dV 3) (dC (.int 6))))) (sSeq (sF 1 (lP (pB oAdd (dC (.int 1)) (pB oDiv (dV 1) (dC (.int 3))))))
    (sF 2 (lP (dC (.int 14))))) sNil)
    (sSeq (sF 4 (eC d_law_draw_664a20 [.ln 0, .ex (lP (dC (.int 27)))]))
    (sSeq (sF 5 (eLc (iRng [(eB oAdd (lP (pB oAdd (dV 1) (dC (.int 1)))) (eC d_law_draw_664a20 [.ln 0, .ex (lP (dC (.int 3)))]))]) (bN 7) tYesF (lP (pN (oCall d_law_name_6bc08e) [(dV 4), (dV 7)])) [7]))
    (sSeq (sO 6 (lP (pN oLst [])))
    (sSeq (sFor (iRng [(lP (dV 1))]) (bN 7) (sSeq (sF 8 (eB oEq (eC d_law_draw_664a20 [.ln 0, .ex (lP (dC (.int 3)))]) (lP (dC (.int 0)))))
    (sSeq (sF 9 (eB oAdd (lP (pB oAdd (dC (.int 1)) (pN oInt [(dV 8)]))) (eC d_law_draw_664a20 [.ln 0, .ex (lP (pB oSub (dV 2) (pN oInt [(dV 8)])))])))
    (sExpr (eL oApp 6 [(eN oTup [(lP (pB ixD (dV 5) (dV 7))), (lP (dV 9)), (lP (dV 8)), (eC d_law_outs_c1dd0a [.ln 0, .ex (lP (dV 5)), .ex (lP (dV 7)), .ex (lP (dV 1))])])])))) [7])
    (sRet (eN oTup [(eMv 6), (lP (dSl (dV 5) (oS (dV 1)) oN))])))))))))))
def d_law_house_b98846 : FF := fnD 9 [true] b_law_house_b98846
theorem d_law_house_b98846_len : ∀ ds, d_law_house_b98846 ds ≠ none → ds.length = 1 := fnD_len (lm := [true])

def b_law_drawn_cut_4dc59b : SF :=
  (sSeq (sF 4 (lP (pN (oCall d_law_sets_277d4e) [(dV 1), (dV 2), (dC .non), (dV 3), (pN oLst [])])))
    (sSeq (sF 5 (eC d_law_draw_664a20 [.ln 0, .ex (lP (pB oAdd (dV 3) (dC (.int 1))))]))
    (sSeq (sF 6 (lP (pN (oCall d_law_cells_6ad7a8) [(dV 1)])))
    (sSeq (sO 7 (lP (pN oLst [])))
    (sSeq (sFor (iAll (lP (pB ixD (dV 4) (dV 5)))) (bN 8) (sIf (eT (eB oGt (eC d_law_draw_664a20 [.ln 0, .ex (lP (dC (.int 9)))]) (lP (dC (.int 0))))) (sExpr (eL oIns 7 [(eC d_law_draw_664a20 [.ln 0, .ex (lP (pB oAdd (pN oLen [(dK 7)]) (dC (.int 1))))]), (lP (pB oAdd (dV 8) (pN oTup [(dV 5)])))])) sNil) [8])
    (sSeq (sFor (iRng [(eC d_law_draw_664a20 [.ln 0, .ex (lP (dC (.int 7)))])]) (bN 9) (sSeq (sF 10 (eB ixD (lP (dV 6)) (eC d_law_draw_664a20 [.ln 0, .ex (lP (pN oLen [(dV 6)]))])))
    (sExpr (eL oApp 7 [(eB oAdd (lP (dV 10)) (eN oTup [(eC d_law_draw_664a20 [.ln 0, .ex (lP (pB oAdd (dV 3) (dC (.int 3))))])]))]))) [9])
    (sSeq (sIf (eT (eB oEq (eC d_law_draw_664a20 [.ln 0, .ex (lP (dC (.int 3)))]) (lP (dC (.int 0))))) (sO 7 (eSl (eFz 7) oEN (oES (eC d_law_draw_664a20 [.ln 0, .ex (lP (pB oAdd (pN oLen [(dK 7)]) (dC (.int 1))))])))) sNil)
    (sRet (eMv 7)))))))))
def d_law_drawn_cut_4dc59b : FF := fnD 7 [true, false, false, false] b_law_drawn_cut_4dc59b
theorem d_law_drawn_cut_4dc59b_len : ∀ ds, d_law_drawn_cut_4dc59b ds ≠ none → ds.length = 4 := fnD_len (lm := [true, false, false, false])

def b_law_647079 : SF :=
  (sSeq (sO 1 (lP (pN (oCall d_law_feed_7ae9d6) [(dV 0)])))
    (sSeq (sF 2 (eC d_law_house_b98846 [.ln 1]))
    (sSeq (sF 3 (eC d_law_places_a9c304 [.ln 1, .ex (lP (dV 2)), .ex (lP (dC (.int 5)))]))
    (sSeq (sF 4 (eB ixD (lP (pB ixD (dV 2) (dC (.int 1)))) (eC d_law_draw_664a20 [.ln 1, .ex (lP (pN oLen [(pB ixD (dV 2) (dC (.int 1)))]))])))
    (sSeq (sF 5 (eC d_law_draw_664a20 [.ln 1, .ex (lP (dC (.int 13)))]))
    (sSeq (sIf (eT (eB oEq (eC d_law_draw_664a20 [.ln 1, .ex (lP (dC (.int 6)))]) (lP (dC (.int 4))))) (sF 5 (eB oAdd (lP (dV 5)) (eC d_law_draw_664a20 [.ln 1, .ex (lP (dC (.int 29)))]))) sNil)
    (sSeq (sFor (iAll (eN oLst [(eC d_law_drawn_cut_4dc59b [.ln 1, .ex (lP (dV 2)), .ex (lP (dV 3)), .ex (lP (dV 5))]), (lP (pN oLst []))])) (bN 6) (sSeq (sF 7 (lP (pN oTup [(pN (oCall d_law_copied_b608ba) [(dV 2)]), (pN oList [(dV 3)]), (pN oList [(dV 6)])])))
    (sSeq (sF 8 (lP (pN (oCall d_cuts) [(pB ixD (dV 7) (dC (.int 0))), (pB ixD (dV 7) (dC (.int 1))), (dV 4), (dV 5), (pB ixD (dV 7) (dC (.int 2)))])))
    (sSeq (sF 9 (lP (pB (oIs true) (pN (oCall d_law_sets_277d4e) [(dV 2), (dV 3), (dV 4), (dV 5), (dV 6)]) (dC .non))))
    (sIf (lQ (qOr (qNot (qB (pIsi "bool" (dV 8)))) (qOr (qB (pB oNe (dV 8) (dV 9))) (qB (pB oNe (dV 7) (pN oTup [(dV 2), (dV 3), (dV 6)])))))) (sRet (lP (dC (.bl false)))) sNil)))) [6])
    (sRet (lP (pB (oIs false) (pN (oCall d_cuts) [(dV 2), (pN oLst []), (dV 4), (dV 5), (pN oLst [])]) (dC (.bl true))))))))))))
def d_law_647079 : FF := fnD 9 [false] b_law_647079
theorem d_law_647079_len : ∀ ds, d_law_647079 ds ≠ none → ds.length = 1 := fnD_len (lm := [false])
end DL

end
section
open PySem PySem.Spec L2
namespace DL
def topS (i : Nat) : Stmt := PySem.Challenge.pw_carry_k32_what_cuts.main.body.getD i (.Pass ⟨0, 0, 0, 0⟩)
section
variable {P : Program} {w : World} {K : PySem.W.Frag} {mg : Str → Option Value} {base : Heap} {cn : Nm}
set_option maxHeartbeats 4000000
abbrev s_belt_of : Stmt := topS 1
theorem sc_belt_of : FnScope [(Str.ofString "house"), (Str.ofString "name"), (Str.ofString "belt")] [(Str.ofString "house"), (Str.ofString "name")] (defScope s_belt_of) := ⟨rfl, rfl, rfl, by decide +kernel, rfl, by decide +kernel, by decide +kernel⟩
theorem ok_belt_of {f : Addr} {fd : FuncData} (F : Fun K (Str.ofString "belt_of") (Str.ofString "belt_of") s_belt_of f fd) (m_list : mg (Str.ofString "list") = none) : FnOk P w K mg base (L2.CX P w) 1 f fd [(Str.ofString "house"), (Str.ofString "name")] (SpD K cn [false, false] d_belt_of) :=
  fn_ok (N := [(Str.ofString "house"), (Str.ofString "name"), (Str.ofString "belt")]) (n := 1) (lm := [false, false]) (os := []) (g := b_belt_of) F sc_belt_of rfl rfl (hos_by (by decide)) fun cdv A outer s H E F0 fp vs hr tk hp =>
    have nd := sc_belt_of.nd
    (ss_cons (s_for [2] hp rfl (i_all rfl (lift_e (d_ix rfl (d_v (i := 0) rfl (by first | exact Or.inl rfl | exact Or.inr (Or.inl rfl) | exact Or.inr (Or.inr rfl)) rfl) d_int (fun _ _ => rfl)))) (b_n (i := 2) rfl nd rfl (by first | exact Or.inl rfl | exact Or.inr rfl)) (ss_one (s_if (lift_t (q_cmp (opr_eq (u64 hr)) oEq_ok (d_ix rfl (d_v (i := 2) rfl (by first | exact Or.inl rfl | exact Or.inr (Or.inl rfl) | exact Or.inr (Or.inr rfl)) rfl) d_int (fun _ _ => rfl)) (d_v (i := 1) rfl (by first | exact Or.inl rfl | exact Or.inr (Or.inl rfl) | exact Or.inr (Or.inr rfl)) rfl) (nomark _))) (ss_one (s_ret (lift_e (d_tup (a_cons (d_ix rfl (d_v (i := 2) rfl (by first | exact Or.inl rfl | exact Or.inr (Or.inl rfl) | exact Or.inr (Or.inr rfl)) rfl) d_int (fun _ _ => rfl)) (a_cons (d_ix rfl (d_v (i := 2) rfl (by first | exact Or.inl rfl | exact Or.inr (Or.inl rfl) | exact Or.inr (Or.inr rfl)) rfl) d_int (fun _ _ => rfl)) (a_cons (d_ix rfl (d_v (i := 2) rfl (by first | exact Or.inl rfl | exact Or.inr (Or.inl rfl) | exact Or.inr (Or.inr rfl)) rfl) d_int (fun _ _ => rfl)) (a_cons (d_ty oList_ok call_list_of (by rfl) m_list (by decide +kernel) (a_cons (d_ix rfl (d_v (i := 2) rfl (by first | exact Or.inl rfl | exact Or.inr (Or.inl rfl) | exact Or.inr (Or.inr rfl)) rfl) d_int (fun _ _ => rfl)) a_nil)) a_nil)))))))) ss_nil)))
    (ss_one (s_ret (lift_e d_non))))

abbrev s_law_feed_7ae9d6 : Stmt := topS 7
theorem sc_law_feed_7ae9d6 : FnScope [(Str.ofString "script"), (Str.ofString "cells")] [(Str.ofString "script")] (defScope s_law_feed_7ae9d6) := ⟨rfl, rfl, rfl, by decide +kernel, rfl, by decide +kernel, by decide +kernel⟩
theorem ok_law_feed_7ae9d6 {f : Addr} {fd : FuncData} (F : Fun K (Str.ofString "_law_feed") (Str.ofString "_law_feed") s_law_feed_7ae9d6 f fd) : FnOk P w K mg base (L2.CX P w) 1 f fd [(Str.ofString "script")] (SpD K cn [false] d_law_feed_7ae9d6) :=
  fn_ok (N := [(Str.ofString "script"), (Str.ofString "cells")]) (n := 1) (lm := [false]) (os := []) (g := b_law_feed_7ae9d6) F sc_law_feed_7ae9d6 rfl rfl (hos_by (by decide)) fun cdv A outer s H E F0 fp vs hr tk hp =>
    have nd := sc_law_feed_7ae9d6.nd
    (ss_cons (s_f (i := 1) rfl nd rfl (by first | exact Or.inl rfl | exact Or.inr rfl) (lift_e (d_bin opr_add oAdd_ok (d_sl rfl (d_v (i := 0) rfl (by first | exact Or.inl rfl | exact Or.inr (Or.inl rfl) | exact Or.inr (Or.inr rfl)) rfl) o_none (o_some d_int)) (d_lst (a_cons d_int (a_cons d_int a_nil))))))
    (ss_one (s_ret (lift_e (d_lst (a_cons (d_sl rfl (d_v (i := 0) rfl (by first | exact Or.inl rfl | exact Or.inr (Or.inl rfl) | exact Or.inr (Or.inr rfl)) rfl) o_none (o_some d_int)) (a_cons d_int (a_cons d_int (a_cons (d_bin op_modN oMod_ok (d_ix rfl (d_v (i := 1) rfl (by first | exact Or.inl rfl | exact Or.inr (Or.inl rfl) | exact Or.inr (Or.inr rfl)) rfl) d_int (fun _ _ => rfl)) d_int) (a_cons (d_ix rfl (d_v (i := 1) rfl (by first | exact Or.inl rfl | exact Or.inr (Or.inl rfl) | exact Or.inr (Or.inr rfl)) rfl) d_int (fun _ _ => rfl)) a_nil))))))))))

abbrev s_law_draw_664a20 : Stmt := topS 8
theorem sc_law_draw_664a20 : FnScope [(Str.ofString "feed"), (Str.ofString "many"), (Str.ofString "found"), (Str.ofString "at"), (Str.ofString "cell")] [(Str.ofString "feed"), (Str.ofString "many")] (defScope s_law_draw_664a20) := ⟨rfl, rfl, rfl, by decide +kernel, rfl, by decide +kernel, by decide +kernel⟩
theorem ok_law_draw_664a20 {f : Addr} {fd : FuncData} (F : Fun K (Str.ofString "_law_draw") (Str.ofString "_law_draw") s_law_draw_664a20 f fd) (m_len : mg (Str.ofString "len") = none) : FnOk P w K mg base (L2.CX P w) 1 f fd [(Str.ofString "feed"), (Str.ofString "many")] (SpD K cn [true, false] d_law_draw_664a20) :=
  fn_ok (N := [(Str.ofString "feed"), (Str.ofString "many"), (Str.ofString "found"), (Str.ofString "at"), (Str.ofString "cell")]) (n := 3) (lm := [true, false]) (os := [0]) (g := b_law_draw_664a20) F sc_law_draw_664a20 rfl rfl (hos_by (by decide)) fun cdv A outer s H E F0 fp vs hr tk hp =>
    have nd := sc_law_draw_664a20.nd
    (ss_cons (s_if (lift_t (q_cmp (opr_eq (u64 hr)) oEq_ok (d_ix rfl (d_k (i := 0) rfl (by first | exact Or.inl rfl | exact Or.inr (Or.inl rfl) | exact Or.inr (Or.inr rfl))) d_int (fun _ _ => rfl)) d_int (nomark _))) (ss_cons (s_f (i := 2) rfl nd rfl (by first | exact Or.inl rfl | exact Or.inr rfl) (lift_e (d_bin op_modN oMod_ok (d_ix rfl (d_k (i := 0) rfl (by first | exact Or.inl rfl | exact Or.inr (Or.inl rfl) | exact Or.inr (Or.inr rfl))) d_int (fun _ _ => rfl)) (d_v (i := 1) rfl (by first | exact Or.inl rfl | exact Or.inr (Or.inl rfl) | exact Or.inr (Or.inr rfl)) rfl))))
    (ss_cons (s_setl (i := 0) rfl rfl (lift_e (d_bin op_fdivN oDiv_ok (d_ix rfl (d_k (i := 0) rfl (by first | exact Or.inl rfl | exact Or.inr (Or.inl rfl) | exact Or.inr (Or.inr rfl))) d_int (fun _ _ => rfl)) (d_v (i := 1) rfl (by first | exact Or.inl rfl | exact Or.inr (Or.inl rfl) | exact Or.inr (Or.inr rfl)) rfl))) (l_var (i := 0) rfl (by first | exact Or.inl rfl | exact Or.inr (Or.inl rfl) | exact Or.inr (Or.inr rfl))) d_int)
    (ss_one (s_ret (lift_e (d_v (i := 2) rfl (by first | exact Or.inl rfl | exact Or.inr (Or.inl rfl) | exact Or.inr (Or.inr rfl)) rfl)))))) ss_nil)
    (ss_cons (s_f (i := 3) rfl nd rfl (by first | exact Or.inl rfl | exact Or.inr rfl) (lift_e (d_ix rfl (d_k (i := 0) rfl (by first | exact Or.inl rfl | exact Or.inr (Or.inl rfl) | exact Or.inr (Or.inr rfl))) d_int (fun _ _ => rfl))))
    (ss_cons (s_setl (i := 0) rfl rfl (lift_e (d_bin opr_add oAdd_ok (d_v (i := 3) rfl (by first | exact Or.inl rfl | exact Or.inr (Or.inl rfl) | exact Or.inr (Or.inr rfl)) rfl) d_int)) (l_var (i := 0) rfl (by first | exact Or.inl rfl | exact Or.inr (Or.inl rfl) | exact Or.inr (Or.inr rfl))) d_int)
    (ss_cons (s_f (i := 4) rfl nd rfl (by first | exact Or.inl rfl | exact Or.inr rfl) (lift_e (d_v (i := 3) rfl (by first | exact Or.inl rfl | exact Or.inr (Or.inl rfl) | exact Or.inr (Or.inr rfl)) rfl)))
    (ss_cons (s_if (lift_t (q_cmp op_gt oGt_ok (d_fn oLen_ok call_lenA (by rfl) m_len PySem.boot_len (a_cons (d_ix rfl (d_k (i := 0) rfl (by first | exact Or.inl rfl | exact Or.inr (Or.inl rfl) | exact Or.inr (Or.inr rfl))) d_int (fun _ _ => rfl)) a_nil)) d_int (nomark _))) (ss_one (s_f (i := 4) rfl nd rfl (by first | exact Or.inl rfl | exact Or.inr rfl) (lift_e (d_bin opr_add oAdd_ok (d_ix rfl (d_ix rfl (d_k (i := 0) rfl (by first | exact Or.inl rfl | exact Or.inr (Or.inl rfl) | exact Or.inr (Or.inr rfl))) d_int (fun _ _ => rfl)) (d_bin op_modN oMod_ok (d_v (i := 3) rfl (by first | exact Or.inl rfl | exact Or.inr (Or.inl rfl) | exact Or.inr (Or.inr rfl)) rfl) (d_fn oLen_ok call_lenA (by rfl) m_len PySem.boot_len (a_cons (d_ix rfl (d_k (i := 0) rfl (by first | exact Or.inl rfl | exact Or.inr (Or.inl rfl) | exact Or.inr (Or.inr rfl))) d_int (fun _ _ => rfl)) a_nil))) (fun _ _ => rfl)) (d_bin opr_mul oMul_ok (d_bin op_fdivN oDiv_ok (d_v (i := 3) rfl (by first | exact Or.inl rfl | exact Or.inr (Or.inl rfl) | exact Or.inr (Or.inr rfl)) rfl) (d_fn oLen_ok call_lenA (by rfl) m_len PySem.boot_len (a_cons (d_ix rfl (d_k (i := 0) rfl (by first | exact Or.inl rfl | exact Or.inr (Or.inl rfl) | exact Or.inr (Or.inr rfl))) d_int (fun _ _ => rfl)) a_nil))) d_int))))) ss_nil)
    (ss_one (s_ret (lift_e (d_bin op_modN oMod_ok (d_bin op_modN oMod_ok (d_bin opr_mul oMul_ok (d_bin op_modN oMod_ok (d_bin opr_add oAdd_ok (d_bin opr_mul oMul_ok (d_v (i := 4) rfl (by first | exact Or.inl rfl | exact Or.inr (Or.inl rfl) | exact Or.inr (Or.inr rfl)) rfl) d_int) (d_bin opr_mul oMul_ok d_int (d_v (i := 3) rfl (by first | exact Or.inl rfl | exact Or.inr (Or.inl rfl) | exact Or.inr (Or.inr rfl)) rfl))) d_int) d_int) d_int) (d_v (i := 1) rfl (by first | exact Or.inl rfl | exact Or.inr (Or.inl rfl) | exact Or.inr (Or.inr rfl)) rfl))))))))))

abbrev s_law_name_6bc08e : Stmt := topS 9
theorem sc_law_name_6bc08e : FnScope [(Str.ofString "style"), (Str.ofString "k"), (Str.ofString "letter")] [(Str.ofString "style"), (Str.ofString "k")] (defScope s_law_name_6bc08e) := ⟨rfl, rfl, rfl, by decide +kernel, rfl, by decide +kernel, by decide +kernel⟩
theorem ok_law_name_6bc08e {f : Addr} {fd : FuncData} (F : Fun K (Str.ofString "_law_name") (Str.ofString "_law_name") s_law_name_6bc08e f fd) : FnOk P w K mg base (L2.CX P w) 1 f fd [(Str.ofString "style"), (Str.ofString "k")] (SpD K cn [false, false] d_law_name_6bc08e) :=
  fn_ok (N := [(Str.ofString "style"), (Str.ofString "k"), (Str.ofString "letter")]) (n := 1) (lm := [false, false]) (os := []) (g := b_law_name_6bc08e) F sc_law_name_6bc08e rfl rfl (hos_by (by decide)) fun cdv A outer s H E F0 fp vs hr tk hp =>
    have nd := sc_law_name_6bc08e.nd
    (ss_cons (s_f (i := 2) rfl nd rfl (by first | exact Or.inl rfl | exact Or.inr rfl) (lift_e (d_ix rfl d_str (d_bin op_modN oMod_ok (d_bin opr_add oAdd_ok (d_bin opr_mul oMul_ok (d_v (i := 1) rfl (by first | exact Or.inl rfl | exact Or.inr (Or.inl rfl) | exact Or.inr (Or.inr rfl)) rfl) d_int) (d_v (i := 0) rfl (by first | exact Or.inl rfl | exact Or.inr (Or.inl rfl) | exact Or.inr (Or.inr rfl)) rfl)) d_int) (fun _ _ => rfl))))
    (ss_cons (s_if (lift_t (q_cmp (opr_eq (u64 hr)) oEq_ok (d_bin op_modN oMod_ok (d_v (i := 0) rfl (by first | exact Or.inl rfl | exact Or.inr (Or.inl rfl) | exact Or.inr (Or.inr rfl)) rfl) d_int) d_int (nomark _))) (ss_one (s_ret (lift_e (d_bin opr_add oAdd_ok (d_bin opr_add oAdd_ok (d_bin opr_mul oMul_ok d_str (d_bin op_modN oMod_ok (d_bin op_fdivN oDiv_ok (d_v (i := 0) rfl (by first | exact Or.inl rfl | exact Or.inr (Or.inl rfl) | exact Or.inr (Or.inr rfl)) rfl) d_int) d_int)) (d_v (i := 2) rfl (by first | exact Or.inl rfl | exact Or.inr (Or.inl rfl) | exact Or.inr (Or.inr rfl)) rfl)) (d_sl rfl d_str o_none (o_some (d_bin op_fdivN oDiv_ok (d_v (i := 0) rfl (by first | exact Or.inl rfl | exact Or.inr (Or.inl rfl) | exact Or.inr (Or.inr rfl)) rfl) d_int))))))) ss_nil)
    (ss_cons (s_if (lift_t (q_cmp (opr_eq (u64 hr)) oEq_ok (d_bin op_modN oMod_ok (d_v (i := 0) rfl (by first | exact Or.inl rfl | exact Or.inr (Or.inl rfl) | exact Or.inr (Or.inr rfl)) rfl) d_int) d_int (nomark _))) (ss_one (s_ret (lift_e (d_if (q_cmp op_lt oLt_ok (d_v (i := 1) rfl (by first | exact Or.inl rfl | exact Or.inr (Or.inl rfl) | exact Or.inr (Or.inr rfl)) rfl) d_int (nomark _)) (d_bin opr_mul oMul_ok d_str (d_bin opr_add oAdd_ok (d_v (i := 1) rfl (by first | exact Or.inl rfl | exact Or.inr (Or.inl rfl) | exact Or.inr (Or.inr rfl)) rfl) d_int)) (d_bin opr_mul oMul_ok d_str (d_bin opr_sub oSub_ok (d_v (i := 1) rfl (by first | exact Or.inl rfl | exact Or.inr (Or.inl rfl) | exact Or.inr (Or.inr rfl)) rfl) d_int)))))) ss_nil)
    (ss_one (s_ret (lift_e (d_v (i := 2) rfl (by first | exact Or.inl rfl | exact Or.inr (Or.inl rfl) | exact Or.inr (Or.inr rfl)) rfl)))))))

abbrev s_law_cells_6ad7a8 : Stmt := topS 12
theorem sc_law_cells_6ad7a8 : FnScope [(Str.ofString "house"), (Str.ofString "found"), (Str.ofString "name"), (Str.ofString "long"), (Str.ofString "ring"), (Str.ofString "outs"), (Str.ofString "cell")] [(Str.ofString "house")] (defScope s_law_cells_6ad7a8) := ⟨rfl, rfl, rfl, by decide +kernel, rfl, by decide +kernel, by decide +kernel⟩
theorem ok_law_cells_6ad7a8 {f : Addr} {fd : FuncData} (F : Fun K (Str.ofString "_law_cells") (Str.ofString "_law_cells") s_law_cells_6ad7a8 f fd) (m_range : mg (Str.ofString "range") = none) : FnOk P w K mg base (L2.CX P w) 1 f fd [(Str.ofString "house")] (SpD K cn [false] d_law_cells_6ad7a8) :=
  fn_ok (N := [(Str.ofString "house"), (Str.ofString "found"), (Str.ofString "name"), (Str.ofString "long"), (Str.ofString "ring"), (Str.ofString "outs"), (Str.ofString "cell")]) (n := 6) (lm := [false]) (os := []) (g := b_law_cells_6ad7a8) F sc_law_cells_6ad7a8 rfl rfl (hos_by (by decide)) fun cdv A outer s H E F0 fp vs hr tk hp =>
    have nd := sc_law_cells_6ad7a8.nd
    (ss_cons (s_f (i := 1) rfl nd rfl (by first | exact Or.inl rfl | exact Or.inr rfl) (lift_e (d_lst a_nil)))
    (ss_cons (s_for [2, 3, 4, 5] hp rfl (i_all rfl (lift_e (d_ix rfl (d_v (i := 0) rfl (by first | exact Or.inl rfl | exact Or.inr (Or.inl rfl) | exact Or.inr (Or.inr rfl)) rfl) d_int (fun _ _ => rfl)))) (b_tup rfl rfl (bs_cons (b_n (i := 2) rfl nd rfl (by first | exact Or.inl rfl | exact Or.inr rfl)) (bs_cons (b_n (i := 3) rfl nd rfl (by first | exact Or.inl rfl | exact Or.inr rfl)) (bs_cons (b_n (i := 4) rfl nd rfl (by first | exact Or.inl rfl | exact Or.inr rfl)) (bs_cons (b_n (i := 5) rfl nd rfl (by first | exact Or.inl rfl | exact Or.inr rfl)) bs_nil)))) (bsCons_len (bsCons_len (bsCons_len (bsCons_len bsNil_len))))) (ss_one (s_f (i := 1) rfl nd rfl (by first | exact Or.inl rfl | exact Or.inr rfl) (e_bin opr_add oAdd_ok (lift_e (d_v (i := 1) rfl (by first | exact Or.inl rfl | exact Or.inr (Or.inl rfl) | exact Or.inr (Or.inr rfl)) rfl)) (e_lc (own := [((Str.ofString "cell"), 6)]) (js := [6]) (by simp [bodyCtx, lvOf]) (by simp) rfl nd (i_rng1 (by rfl) m_range (ae_cons (lift_e (d_v (i := 3) rfl (by first | exact Or.inl rfl | exact Or.inr (Or.inl rfl) | exact Or.inr (Or.inr rfl)) rfl)) ae_nil)) (blkOk_by (by exact rfl)) (fun _ _ _ _ _ => (b_n (i := 6) rfl nd rfl (by first | exact Or.inl rfl | exact Or.inr rfl))) (fun _ _ _ _ _ => ts_nil) (fun _ _ _ _ _ => (lift_e (d_tup (a_cons (d_v (i := 2) rfl (by first | exact Or.inl rfl | exact Or.inr (Or.inl rfl) | exact Or.inr (Or.inr rfl)) rfl) (a_cons (d_v (i := 6) rfl (by first | exact Or.inl rfl | exact Or.inr (Or.inl rfl) | exact Or.inr (Or.inr rfl)) rfl) a_nil))))))))))
    (ss_one (s_ret (lift_e (d_v (i := 1) rfl (by first | exact Or.inl rfl | exact Or.inr (Or.inl rfl) | exact Or.inr (Or.inr rfl)) rfl))))))

abbrev s_law_steps_cb5b23 : Stmt := topS 13
theorem sc_law_steps_cb5b23 : FnScope [(Str.ofString "house"), (Str.ofString "place"), (Str.ofString "names"), (Str.ofString "name"), (Str.ofString "long"), (Str.ofString "ring"), (Str.ofString "outs"), (Str.ofString "found"), (Str.ofString "out"), (Str.ofString "belt")] [(Str.ofString "house"), (Str.ofString "place")] (defScope s_law_steps_cb5b23) := ⟨rfl, rfl, rfl, by decide +kernel, rfl, by decide +kernel, by decide +kernel⟩
theorem ok_law_steps_cb5b23 {f : Addr} {fd : FuncData} (F : Fun K (Str.ofString "_law_steps") (Str.ofString "_law_steps") s_law_steps_cb5b23 f fd) : FnOk P w K mg base (L2.CX P w) 1 f fd [(Str.ofString "house"), (Str.ofString "place")] (SpD K cn [false, false] d_law_steps_cb5b23) :=
  fn_ok (N := [(Str.ofString "house"), (Str.ofString "place"), (Str.ofString "names"), (Str.ofString "name"), (Str.ofString "long"), (Str.ofString "ring"), (Str.ofString "outs"), (Str.ofString "found"), (Str.ofString "out"), (Str.ofString "belt")]) (n := 8) (lm := [false, false]) (os := [7]) (g := b_law_steps_cb5b23) F sc_law_steps_cb5b23 rfl rfl (hos_by (by decide)) fun cdv A outer s H E F0 fp vs hr tk hp =>
    have nd := sc_law_steps_cb5b23.nd
    (ss_cons (s_lc true (i := 2) (own := [((Str.ofString "belt"), 9)]) (js := [9]) rfl (fun h => by cases h) (by simp [bodyCtx, lvOf]) (by simp) rfl nd rfl rfl (sw_true rfl rfl rfl (by decide +kernel)) (i_all rfl (lift_e (d_ix rfl (d_v (i := 0) rfl (by first | exact Or.inl rfl | exact Or.inr (Or.inl rfl) | exact Or.inr (Or.inr rfl)) rfl) d_int (fun _ _ => rfl)))) (blkOk_by (by exact rfl)) (fun _ _ _ _ _ => (b_n (i := 9) rfl nd rfl (by first | exact Or.inl rfl | exact Or.inr rfl))) (fun _ _ _ _ _ => ts_nil) (fun _ _ _ _ _ => (lift_e (d_ix rfl (d_v (i := 9) rfl (by first | exact Or.inl rfl | exact Or.inr (Or.inl rfl) | exact Or.inr (Or.inr rfl)) rfl) d_int (fun _ _ => rfl)))))
    (ss_cons (s_unp (js := [3, 4, 5, 6]) (lift_e (d_ix rfl (d_ix rfl (d_v (i := 0) rfl (by first | exact Or.inl rfl | exact Or.inr (Or.inl rfl) | exact Or.inr (Or.inr rfl)) rfl) d_int (fun _ _ => rfl)) (d_index (u65 hr) rfl (d_v (i := 2) rfl (by first | exact Or.inl rfl | exact Or.inr (Or.inl rfl) | exact Or.inr (Or.inr rfl)) rfl) (d_ix rfl (d_v (i := 1) rfl (by first | exact Or.inl rfl | exact Or.inr (Or.inl rfl) | exact Or.inr (Or.inr rfl)) rfl) d_int (fun _ _ => rfl))) (fun _ _ => rfl))) (b_tup rfl rfl (bs_cons (b_n (i := 3) rfl nd rfl (by first | exact Or.inl rfl | exact Or.inr rfl)) (bs_cons (b_n (i := 4) rfl nd rfl (by first | exact Or.inl rfl | exact Or.inr rfl)) (bs_cons (b_n (i := 5) rfl nd rfl (by first | exact Or.inl rfl | exact Or.inr rfl)) (bs_cons (b_n (i := 6) rfl nd rfl (by first | exact Or.inl rfl | exact Or.inr rfl)) bs_nil)))) (bsCons_len (bsCons_len (bsCons_len (bsCons_len bsNil_len))))))
    (ss_cons (s_if (lift_t (q_cmp op_lt oLt_ok (d_bin opr_add oAdd_ok (d_ix rfl (d_v (i := 1) rfl (by first | exact Or.inl rfl | exact Or.inr (Or.inl rfl) | exact Or.inr (Or.inr rfl)) rfl) d_int (fun _ _ => rfl)) d_int) (d_v (i := 4) rfl (by first | exact Or.inl rfl | exact Or.inr (Or.inl rfl) | exact Or.inr (Or.inr rfl)) rfl) (nomark _))) (ss_one (s_ret (lift_e (d_lst (a_cons (d_tup (a_cons (d_v (i := 3) rfl (by first | exact Or.inl rfl | exact Or.inr (Or.inl rfl) | exact Or.inr (Or.inr rfl)) rfl) (a_cons (d_bin opr_add oAdd_ok (d_ix rfl (d_v (i := 1) rfl (by first | exact Or.inl rfl | exact Or.inr (Or.inl rfl) | exact Or.inr (Or.inr rfl)) rfl) d_int (fun _ _ => rfl)) d_int) a_nil))) a_nil))))) ss_nil)
    (ss_cons (s_o (i := 7) rfl rfl nd rfl (by first | exact Or.inl rfl | exact Or.inr rfl) (lift_e (d_lst a_nil)))
    (ss_cons (s_for [8] hp rfl (i_all rfl (lift_e (d_v (i := 6) rfl (by first | exact Or.inl rfl | exact Or.inr (Or.inl rfl) | exact Or.inr (Or.inr rfl)) rfl))) (b_n (i := 8) rfl nd rfl (by first | exact Or.inl rfl | exact Or.inr rfl)) (ss_one (s_expr (e_lm (i := 7) oApp_ok PySem.F.plainAttrs_list PySem.F.slot_list_append PySem.F.type_list_append mt_append rfl rfl rfl (by first | exact Or.inl rfl | exact Or.inr (Or.inl rfl) | exact Or.inr (Or.inr rfl)) (ae_cons (lift_e (d_if (q_cmp (opr_in (u65 hr)) oIn_ok (d_v (i := 8) rfl (by first | exact Or.inl rfl | exact Or.inr (Or.inl rfl) | exact Or.inr (Or.inr rfl)) rfl) (d_v (i := 2) rfl (by first | exact Or.inl rfl | exact Or.inr (Or.inl rfl) | exact Or.inr (Or.inr rfl)) rfl) (by rfl)) (d_tup (a_cons (d_v (i := 8) rfl (by first | exact Or.inl rfl | exact Or.inr (Or.inl rfl) | exact Or.inr (Or.inr rfl)) rfl) (a_cons d_int a_nil))) (d_v (i := 8) rfl (by first | exact Or.inl rfl | exact Or.inr (Or.inl rfl) | exact Or.inr (Or.inr rfl)) rfl))) ae_nil)))))
    (ss_cons (s_if (lift_t (q_val (d_v (i := 5) rfl (by first | exact Or.inl rfl | exact Or.inr (Or.inl rfl) | exact Or.inr (Or.inr rfl)) rfl))) (ss_one (s_expr (e_lm (i := 7) oApp_ok PySem.F.plainAttrs_list PySem.F.slot_list_append PySem.F.type_list_append mt_append rfl rfl rfl (by first | exact Or.inl rfl | exact Or.inr (Or.inl rfl) | exact Or.inr (Or.inr rfl)) (ae_cons (lift_e (d_tup (a_cons (d_v (i := 3) rfl (by first | exact Or.inl rfl | exact Or.inr (Or.inl rfl) | exact Or.inr (Or.inr rfl)) rfl) (a_cons d_int a_nil)))) ae_nil)))) ss_nil)
    (ss_one (s_ret (e_mv (i := 7) rfl (by first | exact Or.inl rfl | exact Or.inr (Or.inl rfl) | exact Or.inr (Or.inr rfl)))))))))))

abbrev s_law_copied_b608ba : Stmt := topS 14
theorem sc_law_copied_b608ba : FnScope [(Str.ofString "house"), (Str.ofString "name"), (Str.ofString "long"), (Str.ofString "ring"), (Str.ofString "outs")] [(Str.ofString "house")] (defScope s_law_copied_b608ba) := ⟨rfl, rfl, rfl, by decide +kernel, rfl, by decide +kernel, by decide +kernel⟩
theorem ok_law_copied_b608ba {f : Addr} {fd : FuncData} (F : Fun K (Str.ofString "_law_copied") (Str.ofString "_law_copied") s_law_copied_b608ba f fd) (m_list : mg (Str.ofString "list") = none) : FnOk P w K mg base (L2.CX P w) 1 f fd [(Str.ofString "house")] (SpD K cn [false] d_law_copied_b608ba) :=
  fn_ok (N := [(Str.ofString "house"), (Str.ofString "name"), (Str.ofString "long"), (Str.ofString "ring"), (Str.ofString "outs")]) (n := 4) (lm := [false]) (os := []) (g := b_law_copied_b608ba) F sc_law_copied_b608ba rfl rfl (hos_by (by decide)) fun cdv A outer s H E F0 fp vs hr tk hp =>
    have nd := sc_law_copied_b608ba.nd
    (ss_one (s_ret (e_tup (ae_cons (e_lc (own := [((Str.ofString "name"), 1), ((Str.ofString "long"), 2), ((Str.ofString "ring"), 3), ((Str.ofString "outs"), 4)]) (js := [1, 2, 3, 4]) (by simp [bodyCtx, lvOf]) (by simp) rfl nd (i_all rfl (lift_e (d_ix rfl (d_v (i := 0) rfl (by first | exact Or.inl rfl | exact Or.inr (Or.inl rfl) | exact Or.inr (Or.inr rfl)) rfl) d_int (fun _ _ => rfl)))) (blkOk_by (by exact rfl)) (fun _ _ _ _ _ => (b_tup rfl rfl (bs_cons (b_n (i := 1) rfl nd rfl (by first | exact Or.inl rfl | exact Or.inr rfl)) (bs_cons (b_n (i := 2) rfl nd rfl (by first | exact Or.inl rfl | exact Or.inr rfl)) (bs_cons (b_n (i := 3) rfl nd rfl (by first | exact Or.inl rfl | exact Or.inr rfl)) (bs_cons (b_n (i := 4) rfl nd rfl (by first | exact Or.inl rfl | exact Or.inr rfl)) bs_nil)))) (bsCons_len (bsCons_len (bsCons_len (bsCons_len bsNil_len)))))) (fun _ _ _ _ _ => ts_nil) (fun _ _ _ _ _ => (lift_e (d_tup (a_cons (d_v (i := 1) rfl (by first | exact Or.inl rfl | exact Or.inr (Or.inl rfl) | exact Or.inr (Or.inr rfl)) rfl) (a_cons (d_v (i := 2) rfl (by first | exact Or.inl rfl | exact Or.inr (Or.inl rfl) | exact Or.inr (Or.inr rfl)) rfl) (a_cons (d_v (i := 3) rfl (by first | exact Or.inl rfl | exact Or.inr (Or.inl rfl) | exact Or.inr (Or.inr rfl)) rfl) (a_cons (d_ty oList_ok call_list_of (by rfl) m_list (by decide +kernel) (a_cons (d_v (i := 4) rfl (by first | exact Or.inl rfl | exact Or.inr (Or.inl rfl) | exact Or.inr (Or.inr rfl)) rfl) a_nil)) a_nil)))))))) (ae_cons (lift_e (d_ty oList_ok call_list_of (by rfl) m_list (by decide +kernel) (a_cons (d_ix rfl (d_v (i := 0) rfl (by first | exact Or.inl rfl | exact Or.inr (Or.inl rfl) | exact Or.inr (Or.inr rfl)) rfl) d_int (fun _ _ => rfl)) a_nil))) ae_nil)))))

abbrev s_steps : Stmt := topS 3
theorem sc_steps : FnScope [(Str.ofString "house"), (Str.ofString "place"), (Str.ofString "belt"), (Str.ofString "told"), (Str.ofString "out")] [(Str.ofString "house"), (Str.ofString "place")] (defScope s_steps) := ⟨rfl, rfl, rfl, by decide +kernel, rfl, by decide +kernel, by decide +kernel⟩
theorem ok_steps {f : Addr} {fd : FuncData} (F : Fun K (Str.ofString "steps") (Str.ofString "steps") s_steps f fd) {f_belt_of : Addr} {fd_belt_of : FuncData} (G_belt_of : FnOk P w K mg base (L2.CX P w) 1 f_belt_of fd_belt_of [(Str.ofString "house"), (Str.ofString "name")] (SpD K cn [false, false] d_belt_of)) (g_belt_of : mg (Str.ofString "belt_of") = some (.ref f_belt_of)) (k_belt_of : PySem.W.keepIn K (.ref f_belt_of) = true) (b_belt_of : Binds K fd_belt_of [(Str.ofString "house"), (Str.ofString "name")] []) : FnOk P w K mg base (L2.CX P w) 2 f fd [(Str.ofString "house"), (Str.ofString "place")] (SpD K cn [false, false] d_steps) :=
  fn_ok (N := [(Str.ofString "house"), (Str.ofString "place"), (Str.ofString "belt"), (Str.ofString "told"), (Str.ofString "out")]) (n := 3) (lm := [false, false]) (os := [3]) (g := b_steps) F sc_steps rfl rfl (hos_by (by decide)) fun cdv A outer s H E F0 fp vs hr tk hp =>
    have nd := sc_steps.nd
    (ss_cons (s_f (i := 2) rfl nd rfl (by first | exact Or.inl rfl | exact Or.inr rfl) (lift_e (d_call G_belt_of (fun _ h => by subst h; rfl) (d_belt_of_len) rfl (hr.mono (by first | omega | exact Nat.le_refl _)) (by rfl) g_belt_of k_belt_of b_belt_of tk (a_cons (d_v (i := 0) rfl (by first | exact Or.inl rfl | exact Or.inr (Or.inl rfl) | exact Or.inr (Or.inr rfl)) rfl) (a_cons (d_ix rfl (d_v (i := 1) rfl (by first | exact Or.inl rfl | exact Or.inr (Or.inl rfl) | exact Or.inr (Or.inr rfl)) rfl) d_int (fun _ _ => rfl)) a_nil)))))
    (ss_cons (s_if (lift_t (q_cmp op_lt oLt_ok (d_bin opr_add oAdd_ok (d_ix rfl (d_v (i := 1) rfl (by first | exact Or.inl rfl | exact Or.inr (Or.inl rfl) | exact Or.inr (Or.inr rfl)) rfl) d_int (fun _ _ => rfl)) d_int) (d_ix rfl (d_v (i := 2) rfl (by first | exact Or.inl rfl | exact Or.inr (Or.inl rfl) | exact Or.inr (Or.inr rfl)) rfl) d_int (fun _ _ => rfl)) (nomark _))) (ss_one (s_ret (lift_e (d_lst (a_cons (d_tup (a_cons (d_ix rfl (d_v (i := 1) rfl (by first | exact Or.inl rfl | exact Or.inr (Or.inl rfl) | exact Or.inr (Or.inr rfl)) rfl) d_int (fun _ _ => rfl)) (a_cons (d_bin opr_add oAdd_ok (d_ix rfl (d_v (i := 1) rfl (by first | exact Or.inl rfl | exact Or.inr (Or.inl rfl) | exact Or.inr (Or.inr rfl)) rfl) d_int (fun _ _ => rfl)) d_int) a_nil))) a_nil))))) ss_nil)
    (ss_cons (s_o (i := 3) rfl rfl nd rfl (by first | exact Or.inl rfl | exact Or.inr rfl) (lift_e (d_lst a_nil)))
    (ss_cons (s_for [4] hp rfl (i_all rfl (lift_e (d_ix rfl (d_v (i := 2) rfl (by first | exact Or.inl rfl | exact Or.inr (Or.inl rfl) | exact Or.inr (Or.inr rfl)) rfl) d_int (fun _ _ => rfl)))) (b_n (i := 4) rfl nd rfl (by first | exact Or.inl rfl | exact Or.inr rfl)) (ss_one (s_if (lift_t (q_cmp opr_is oIs_ok (d_call G_belt_of (fun _ h => by subst h; rfl) (d_belt_of_len) rfl (hr.mono (by first | omega | exact Nat.le_refl _)) (by rfl) g_belt_of k_belt_of b_belt_of tk (a_cons (d_v (i := 0) rfl (by first | exact Or.inl rfl | exact Or.inr (Or.inl rfl) | exact Or.inr (Or.inr rfl)) rfl) (a_cons (d_v (i := 4) rfl (by first | exact Or.inl rfl | exact Or.inr (Or.inl rfl) | exact Or.inr (Or.inr rfl)) rfl) a_nil))) d_non (nomark _))) (ss_one (s_expr (e_lm (i := 3) oApp_ok PySem.F.plainAttrs_list PySem.F.slot_list_append PySem.F.type_list_append mt_append rfl rfl rfl (by first | exact Or.inl rfl | exact Or.inr (Or.inl rfl) | exact Or.inr (Or.inr rfl)) (ae_cons (lift_e (d_v (i := 4) rfl (by first | exact Or.inl rfl | exact Or.inr (Or.inl rfl) | exact Or.inr (Or.inr rfl)) rfl)) ae_nil)))) (ss_one (s_expr (e_lm (i := 3) oApp_ok PySem.F.plainAttrs_list PySem.F.slot_list_append PySem.F.type_list_append mt_append rfl rfl rfl (by first | exact Or.inl rfl | exact Or.inr (Or.inl rfl) | exact Or.inr (Or.inr rfl)) (ae_cons (lift_e (d_tup (a_cons (d_v (i := 4) rfl (by first | exact Or.inl rfl | exact Or.inr (Or.inl rfl) | exact Or.inr (Or.inr rfl)) rfl) (a_cons d_int a_nil)))) ae_nil)))))))
    (ss_cons (s_if (lift_t (q_val (d_ix rfl (d_v (i := 2) rfl (by first | exact Or.inl rfl | exact Or.inr (Or.inl rfl) | exact Or.inr (Or.inr rfl)) rfl) d_int (fun _ _ => rfl)))) (ss_one (s_expr (e_lm (i := 3) oApp_ok PySem.F.plainAttrs_list PySem.F.slot_list_append PySem.F.type_list_append mt_append rfl rfl rfl (by first | exact Or.inl rfl | exact Or.inr (Or.inl rfl) | exact Or.inr (Or.inr rfl)) (ae_cons (lift_e (d_tup (a_cons (d_ix rfl (d_v (i := 1) rfl (by first | exact Or.inl rfl | exact Or.inr (Or.inl rfl) | exact Or.inr (Or.inr rfl)) rfl) d_int (fun _ _ => rfl)) (a_cons d_int a_nil)))) ae_nil)))) ss_nil)
    (ss_one (s_ret (e_mv (i := 3) rfl (by first | exact Or.inl rfl | exact Or.inr (Or.inl rfl) | exact Or.inr (Or.inr rfl))))))))))

abbrev s_law_outs_c1dd0a : Stmt := topS 10
theorem sc_law_outs_c1dd0a : FnScope [(Str.ofString "feed"), (Str.ofString "names"), (Str.ofString "k"), (Str.ofString "many"), (Str.ofString "outs"), (Str.ofString "j")] [(Str.ofString "feed"), (Str.ofString "names"), (Str.ofString "k"), (Str.ofString "many")] (defScope s_law_outs_c1dd0a) := ⟨rfl, rfl, rfl, by decide +kernel, rfl, by decide +kernel, by decide +kernel⟩
theorem ok_law_outs_c1dd0a {f : Addr} {fd : FuncData} (F : Fun K (Str.ofString "_law_outs") (Str.ofString "_law_outs") s_law_outs_c1dd0a f fd) {f_law_draw_664a20 : Addr} {fd_law_draw_664a20 : FuncData} (G_law_draw_664a20 : FnOk P w K mg base (L2.CX P w) 1 f_law_draw_664a20 fd_law_draw_664a20 [(Str.ofString "feed"), (Str.ofString "many")] (SpD K cn [true, false] d_law_draw_664a20)) (g_law_draw_664a20 : mg (Str.ofString "_law_draw") = some (.ref f_law_draw_664a20)) (k_law_draw_664a20 : PySem.W.keepIn K (.ref f_law_draw_664a20) = true) (b_law_draw_664a20 : Binds K fd_law_draw_664a20 [(Str.ofString "feed"), (Str.ofString "many")] []) (m_range : mg (Str.ofString "range") = none) (m_len : mg (Str.ofString "len") = none) (m_any : mg (Str.ofString "any") = none) : FnOk P w K mg base (L2.CX P w) 2 f fd [(Str.ofString "feed"), (Str.ofString "names"), (Str.ofString "k"), (Str.ofString "many")] (SpD K cn [true, false, false, false] d_law_outs_c1dd0a) :=
  fn_ok (N := [(Str.ofString "feed"), (Str.ofString "names"), (Str.ofString "k"), (Str.ofString "many"), (Str.ofString "outs"), (Str.ofString "j")]) (n := 2) (lm := [true, false, false, false]) (os := [0, 4]) (g := b_law_outs_c1dd0a) F sc_law_outs_c1dd0a rfl rfl (hos_by (by decide)) fun cdv A outer s H E F0 fp vs hr tk hp =>
    have nd := sc_law_outs_c1dd0a.nd
    (ss_cons (s_o (i := 4) rfl rfl nd rfl (by first | exact Or.inl rfl | exact Or.inr rfl) (lift_e (d_lst a_nil)))
    (ss_cons (s_for [5] hp rfl (i_rng2 (by rfl) m_range (ae_cons (lift_e (d_bin opr_add oAdd_ok (d_v (i := 2) rfl (by first | exact Or.inl rfl | exact Or.inr (Or.inl rfl) | exact Or.inr (Or.inr rfl)) rfl) d_int)) (ae_cons (lift_e (d_fn oLen_ok call_lenA (by rfl) m_len PySem.boot_len (a_cons (d_v (i := 1) rfl (by first | exact Or.inl rfl | exact Or.inr (Or.inl rfl) | exact Or.inr (Or.inr rfl)) rfl) a_nil))) ae_nil))) (b_n (i := 5) rfl nd rfl (by first | exact Or.inl rfl | exact Or.inr rfl)) (ss_one (s_if (t_cmp (opr_eq (u64 hr)) oEq_ok (e_call G_law_draw_664a20 (by simp [bodyCtx]) rfl (hr.mono (by first | omega | exact Nat.le_refl _)) (by rfl) g_law_draw_664a20 k_law_draw_664a20 b_law_draw_664a20 tk (aa_ln (i := 0) rfl (by first | exact Or.inl rfl | exact Or.inr (Or.inl rfl) | exact Or.inr (Or.inr rfl)) (aa_ex (lift_e d_int) aa_nil))) (lift_e d_int) (nomark _)) (ss_one (s_expr (e_lm (i := 4) oIns_ok PySem.F.plainAttrs_list PySem.F.slot_list_insert PySem.F.type_list_insert mt_insert rfl rfl rfl (by first | exact Or.inl rfl | exact Or.inr (Or.inl rfl) | exact Or.inr (Or.inr rfl)) (ae_cons (e_call G_law_draw_664a20 (by simp [bodyCtx]) rfl (hr.mono (by first | omega | exact Nat.le_refl _)) (by rfl) g_law_draw_664a20 k_law_draw_664a20 b_law_draw_664a20 tk (aa_ln (i := 0) rfl (by first | exact Or.inl rfl | exact Or.inr (Or.inl rfl) | exact Or.inr (Or.inr rfl)) (aa_ex (lift_e (d_bin opr_add oAdd_ok (d_fn oLen_ok call_lenA (by rfl) m_len PySem.boot_len (a_cons (d_k (i := 4) rfl (by first | exact Or.inl rfl | exact Or.inr (Or.inl rfl) | exact Or.inr (Or.inr rfl))) a_nil)) d_int)) aa_nil))) (ae_cons (lift_e (d_ix rfl (d_v (i := 1) rfl (by first | exact Or.inl rfl | exact Or.inr (Or.inl rfl) | exact Or.inr (Or.inr rfl)) rfl) (d_v (i := 5) rfl (by first | exact Or.inl rfl | exact Or.inr (Or.inl rfl) | exact Or.inr (Or.inr rfl)) rfl) (fun _ _ => rfl))) ae_nil))))) ss_nil)))
    (ss_cons (s_if (t_w (tw_and (lift_t (q_cmp op_lt oLt_ok (d_bin opr_add oAdd_ok (d_v (i := 2) rfl (by first | exact Or.inl rfl | exact Or.inr (Or.inl rfl) | exact Or.inr (Or.inr rfl)) rfl) d_int) (d_v (i := 3) rfl (by first | exact Or.inl rfl | exact Or.inr (Or.inl rfl) | exact Or.inr (Or.inr rfl)) rfl) (nomark _))) (tw_and (t_cmp op_gt oGt_ok (e_call G_law_draw_664a20 (by simp [bodyCtx]) rfl (hr.mono (by first | omega | exact Nat.le_refl _)) (by rfl) g_law_draw_664a20 k_law_draw_664a20 b_law_draw_664a20 tk (aa_ln (i := 0) rfl (by first | exact Or.inl rfl | exact Or.inr (Or.inl rfl) | exact Or.inr (Or.inr rfl)) (aa_ex (lift_e d_int) aa_nil))) (lift_e d_int) (nomark _)) (tw_and1 (lift_t (q_cmp (opr_notin (u65 hr)) oIn_ok (d_ix rfl (d_v (i := 1) rfl (by first | exact Or.inl rfl | exact Or.inr (Or.inl rfl) | exact Or.inr (Or.inr rfl)) rfl) (d_bin opr_add oAdd_ok (d_v (i := 2) rfl (by first | exact Or.inl rfl | exact Or.inr (Or.inl rfl) | exact Or.inr (Or.inr rfl)) rfl) d_int) (fun _ _ => rfl)) (d_k (i := 4) rfl (by first | exact Or.inl rfl | exact Or.inr (Or.inl rfl) | exact Or.inr (Or.inr rfl))) (by rfl))))))) (ss_one (s_expr (e_lm (i := 4) oIns_ok PySem.F.plainAttrs_list PySem.F.slot_list_insert PySem.F.type_list_insert mt_insert rfl rfl rfl (by first | exact Or.inl rfl | exact Or.inr (Or.inl rfl) | exact Or.inr (Or.inr rfl)) (ae_cons (e_call G_law_draw_664a20 (by simp [bodyCtx]) rfl (hr.mono (by first | omega | exact Nat.le_refl _)) (by rfl) g_law_draw_664a20 k_law_draw_664a20 b_law_draw_664a20 tk (aa_ln (i := 0) rfl (by first | exact Or.inl rfl | exact Or.inr (Or.inl rfl) | exact Or.inr (Or.inr rfl)) (aa_ex (lift_e (d_bin opr_add oAdd_ok (d_fn oLen_ok call_lenA (by rfl) m_len PySem.boot_len (a_cons (d_k (i := 4) rfl (by first | exact Or.inl rfl | exact Or.inr (Or.inl rfl) | exact Or.inr (Or.inr rfl))) a_nil)) d_int)) aa_nil))) (ae_cons (lift_e (d_ix rfl (d_v (i := 1) rfl (by first | exact Or.inl rfl | exact Or.inr (Or.inl rfl) | exact Or.inr (Or.inr rfl)) rfl) (d_bin opr_add oAdd_ok (d_v (i := 2) rfl (by first | exact Or.inl rfl | exact Or.inr (Or.inl rfl) | exact Or.inr (Or.inr rfl)) rfl) d_int) (fun _ _ => rfl))) ae_nil))))) ss_nil)
    (ss_cons (s_if (t_w (tw_and (lift_t (q_cmp (opr_notin (u65 hr)) oIn_ok (d_ix rfl (d_v (i := 1) rfl (by first | exact Or.inl rfl | exact Or.inr (Or.inl rfl) | exact Or.inr (Or.inr rfl)) rfl) (d_v (i := 3) rfl (by first | exact Or.inl rfl | exact Or.inr (Or.inl rfl) | exact Or.inr (Or.inr rfl)) rfl) (fun _ _ => rfl)) (d_k (i := 4) rfl (by first | exact Or.inl rfl | exact Or.inr (Or.inl rfl) | exact Or.inr (Or.inr rfl))) (by rfl))) (tw_and1 (t_not (t_val (e_fn oAny_ok (cr_any rfl) (by rfl) m_any (by decide +kernel) (ae_cons (e_lc (own := [((Str.ofString "j"), 5)]) (js := [5]) (by simp [bodyCtx, lvOf]) (by simp) rfl nd (i_rng2 (by rfl) m_range (ae_cons (lift_e (d_bin opr_add oAdd_ok (d_v (i := 2) rfl (by first | exact Or.inl rfl | exact Or.inr (Or.inl rfl) | exact Or.inr (Or.inr rfl)) rfl) d_int)) (ae_cons (lift_e (d_v (i := 3) rfl (by first | exact Or.inl rfl | exact Or.inr (Or.inl rfl) | exact Or.inr (Or.inr rfl)) rfl)) ae_nil))) (blkOk_by (by exact rfl)) (fun _ _ _ _ _ => (b_n (i := 5) rfl nd rfl (by first | exact Or.inl rfl | exact Or.inr rfl))) (fun _ _ _ _ _ => ts_nil) (fun _ _ _ _ _ => (lift_e (d_cmp (opr_in (u65 hr)) oIn_ok (d_ix rfl (d_v (i := 1) rfl (by first | exact Or.inl rfl | exact Or.inr (Or.inl rfl) | exact Or.inr (Or.inr rfl)) rfl) (d_v (i := 5) rfl (by first | exact Or.inl rfl | exact Or.inr (Or.inl rfl) | exact Or.inr (Or.inr rfl)) rfl) (fun _ _ => rfl)) (d_k (i := 4) rfl (by first | exact Or.inl rfl | exact Or.inr (Or.inl rfl) | exact Or.inr (Or.inr rfl))) (by rfl))))) ae_nil))))))) (ss_one (s_expr (e_lm (i := 4) oIns_ok PySem.F.plainAttrs_list PySem.F.slot_list_insert PySem.F.type_list_insert mt_insert rfl rfl rfl (by first | exact Or.inl rfl | exact Or.inr (Or.inl rfl) | exact Or.inr (Or.inr rfl)) (ae_cons (e_call G_law_draw_664a20 (by simp [bodyCtx]) rfl (hr.mono (by first | omega | exact Nat.le_refl _)) (by rfl) g_law_draw_664a20 k_law_draw_664a20 b_law_draw_664a20 tk (aa_ln (i := 0) rfl (by first | exact Or.inl rfl | exact Or.inr (Or.inl rfl) | exact Or.inr (Or.inr rfl)) (aa_ex (lift_e (d_bin opr_add oAdd_ok (d_fn oLen_ok call_lenA (by rfl) m_len PySem.boot_len (a_cons (d_k (i := 4) rfl (by first | exact Or.inl rfl | exact Or.inr (Or.inl rfl) | exact Or.inr (Or.inr rfl))) a_nil)) d_int)) aa_nil))) (ae_cons (lift_e (d_ix rfl (d_v (i := 1) rfl (by first | exact Or.inl rfl | exact Or.inr (Or.inl rfl) | exact Or.inr (Or.inr rfl)) rfl) (d_v (i := 3) rfl (by first | exact Or.inl rfl | exact Or.inr (Or.inl rfl) | exact Or.inr (Or.inr rfl)) rfl) (fun _ _ => rfl))) ae_nil))))) ss_nil)
    (ss_one (s_ret (e_mv (i := 4) rfl (by first | exact Or.inl rfl | exact Or.inr (Or.inl rfl) | exact Or.inr (Or.inr rfl)))))))))

abbrev s_law_sets_277d4e : Stmt := topS 15
theorem sc_law_sets_277d4e : FnScope [(Str.ofString "house"), (Str.ofString "places"), (Str.ofString "cart"), (Str.ofString "turns"), (Str.ofString "cut"), (Str.ofString "now"), (Str.ofString "sets"), (Str.ofString "moment"), (Str.ofString "behind"), (Str.ofString "place"), (Str.ofString "step")] [(Str.ofString "house"), (Str.ofString "places"), (Str.ofString "cart"), (Str.ofString "turns"), (Str.ofString "cut")] (defScope s_law_sets_277d4e) := ⟨rfl, rfl, rfl, by decide +kernel, rfl, by decide +kernel, by decide +kernel⟩
theorem ok_law_sets_277d4e {f : Addr} {fd : FuncData} (F : Fun K (Str.ofString "_law_sets") (Str.ofString "_law_sets") s_law_sets_277d4e f fd) {f_law_steps_cb5b23 : Addr} {fd_law_steps_cb5b23 : FuncData} (G_law_steps_cb5b23 : FnOk P w K mg base (L2.CX P w) 1 f_law_steps_cb5b23 fd_law_steps_cb5b23 [(Str.ofString "house"), (Str.ofString "place")] (SpD K cn [false, false] d_law_steps_cb5b23)) (g_law_steps_cb5b23 : mg (Str.ofString "_law_steps") = some (.ref f_law_steps_cb5b23)) (k_law_steps_cb5b23 : PySem.W.keepIn K (.ref f_law_steps_cb5b23) = true) (b_law_steps_cb5b23 : Binds K fd_law_steps_cb5b23 [(Str.ofString "house"), (Str.ofString "place")] []) (m_range : mg (Str.ofString "range") = none) (m_isinstance : mg (Str.ofString "isinstance") = none) (m_str : mg (Str.ofString "str") = none) : FnOk P w K mg base (L2.CX P w) 2 f fd [(Str.ofString "house"), (Str.ofString "places"), (Str.ofString "cart"), (Str.ofString "turns"), (Str.ofString "cut")] (SpD K cn [false, false, false, false, false] d_law_sets_277d4e) :=
  fn_ok (N := [(Str.ofString "house"), (Str.ofString "places"), (Str.ofString "cart"), (Str.ofString "turns"), (Str.ofString "cut"), (Str.ofString "now"), (Str.ofString "sets"), (Str.ofString "moment"), (Str.ofString "behind"), (Str.ofString "place"), (Str.ofString "step")]) (n := 6) (lm := [false, false, false, false, false]) (os := [6, 8]) (g := b_law_sets_277d4e) F sc_law_sets_277d4e rfl rfl (hos_by (by decide)) fun cdv A outer s H E F0 fp vs hr tk hp =>
    have nd := sc_law_sets_277d4e.nd
    (ss_cons (s_lc true (i := 5) (own := [((Str.ofString "place"), 9)]) (js := [9]) rfl (fun h => by cases h) (by simp [bodyCtx, lvOf]) (by simp) rfl nd rfl rfl (sw_true rfl rfl rfl (by decide +kernel)) (i_all rfl (lift_e (d_v (i := 1) rfl (by first | exact Or.inl rfl | exact Or.inr (Or.inl rfl) | exact Or.inr (Or.inr rfl)) rfl))) (blkOk_by (by exact rfl)) (fun _ _ _ _ _ => (b_n (i := 9) rfl nd rfl (by first | exact Or.inl rfl | exact Or.inr rfl))) (fun _ _ _ _ _ => (ts_one (lift_t (q_cmp (opr_notin (u65 hr)) oIn_ok (d_tup (a_cons (d_ix rfl (d_v (i := 9) rfl (by first | exact Or.inl rfl | exact Or.inr (Or.inl rfl) | exact Or.inr (Or.inr rfl)) rfl) d_int (fun _ _ => rfl)) (a_cons (d_ix rfl (d_v (i := 9) rfl (by first | exact Or.inl rfl | exact Or.inr (Or.inl rfl) | exact Or.inr (Or.inr rfl)) rfl) d_int (fun _ _ => rfl)) (a_cons d_int a_nil)))) (d_v (i := 4) rfl (by first | exact Or.inl rfl | exact Or.inr (Or.inl rfl) | exact Or.inr (Or.inr rfl)) rfl) (by rfl))))) (fun _ _ _ _ _ => (lift_e (d_v (i := 9) rfl (by first | exact Or.inl rfl | exact Or.inr (Or.inl rfl) | exact Or.inr (Or.inr rfl)) rfl))))
    (ss_cons (s_o (i := 6) rfl rfl nd rfl (by first | exact Or.inl rfl | exact Or.inr rfl) (lift_e (d_lst (a_cons (d_v (i := 5) rfl (by first | exact Or.inl rfl | exact Or.inr (Or.inl rfl) | exact Or.inr (Or.inr rfl)) rfl) a_nil))))
    (ss_cons (s_for [7] hp rfl (i_rng2 (by rfl) m_range (ae_cons (lift_e d_int) (ae_cons (lift_e (d_bin opr_add oAdd_ok (d_v (i := 3) rfl (by first | exact Or.inl rfl | exact Or.inr (Or.inl rfl) | exact Or.inr (Or.inr rfl)) rfl) d_int)) ae_nil))) (b_n (i := 7) rfl nd rfl (by first | exact Or.inl rfl | exact Or.inr rfl)) (ss_cons (s_o (i := 8) rfl rfl nd rfl (by first | exact Or.inl rfl | exact Or.inr rfl) (lift_e (d_lst a_nil)))
    (ss_cons (s_for [9] hp rfl (i_all rfl (lift_e (d_v (i := 5) rfl (by first | exact Or.inl rfl | exact Or.inr (Or.inl rfl) | exact Or.inr (Or.inr rfl)) rfl))) (b_n (i := 9) rfl nd rfl (by first | exact Or.inl rfl | exact Or.inr rfl)) (ss_one (s_for [10] hp rfl (i_all rfl (lift_e (d_bin opr_add oAdd_ok (d_lst (a_cons (d_v (i := 9) rfl (by first | exact Or.inl rfl | exact Or.inr (Or.inl rfl) | exact Or.inr (Or.inr rfl)) rfl) a_nil)) (d_call G_law_steps_cb5b23 (fun _ h => by subst h; rfl) (d_law_steps_cb5b23_len) rfl (hr.mono (by first | omega | exact Nat.le_refl _)) (by rfl) g_law_steps_cb5b23 k_law_steps_cb5b23 b_law_steps_cb5b23 tk (a_cons (d_v (i := 0) rfl (by first | exact Or.inl rfl | exact Or.inr (Or.inl rfl) | exact Or.inr (Or.inr rfl)) rfl) (a_cons (d_v (i := 9) rfl (by first | exact Or.inl rfl | exact Or.inr (Or.inl rfl) | exact Or.inr (Or.inr rfl)) rfl) a_nil)))))) (b_n (i := 10) rfl nd rfl (by first | exact Or.inl rfl | exact Or.inr rfl)) (ss_cons (s_if (lift_t (q_cmp (opr_eq (u64 hr)) oEq_ok (d_v (i := 10) rfl (by first | exact Or.inl rfl | exact Or.inr (Or.inl rfl) | exact Or.inr (Or.inr rfl)) rfl) (d_v (i := 2) rfl (by first | exact Or.inl rfl | exact Or.inr (Or.inl rfl) | exact Or.inr (Or.inr rfl)) rfl) (nomark _))) (ss_one (s_ret (lift_e d_non))) ss_nil)
    (ss_one (s_if (lift_t (q_w (w_and (q_not (q_val (d_isi rfl (d_v (i := 10) rfl (by first | exact Or.inl rfl | exact Or.inr (Or.inl rfl) | exact Or.inr (Or.inr rfl)) rfl) (by rfl) m_isinstance (by decide +kernel) (by rfl) m_str (by decide +kernel)))) (w_and (q_cmp (opr_notin (u65 hr)) oIn_ok (d_v (i := 10) rfl (by first | exact Or.inl rfl | exact Or.inr (Or.inl rfl) | exact Or.inr (Or.inr rfl)) rfl) (d_k (i := 8) rfl (by first | exact Or.inl rfl | exact Or.inr (Or.inl rfl) | exact Or.inr (Or.inr rfl))) (by rfl)) (w_and1 (q_cmp (opr_notin (u65 hr)) oIn_ok (d_bin opr_add oAdd_ok (d_v (i := 10) rfl (by first | exact Or.inl rfl | exact Or.inr (Or.inl rfl) | exact Or.inr (Or.inr rfl)) rfl) (d_tup (a_cons (d_v (i := 7) rfl (by first | exact Or.inl rfl | exact Or.inr (Or.inl rfl) | exact Or.inr (Or.inr rfl)) rfl) a_nil))) (d_v (i := 4) rfl (by first | exact Or.inl rfl | exact Or.inr (Or.inl rfl) | exact Or.inr (Or.inr rfl)) rfl) (by rfl))))))) (ss_one (s_expr (e_lm (i := 8) oApp_ok PySem.F.plainAttrs_list PySem.F.slot_list_append PySem.F.type_list_append mt_append rfl rfl rfl (by first | exact Or.inl rfl | exact Or.inr (Or.inl rfl) | exact Or.inr (Or.inr rfl)) (ae_cons (lift_e (d_v (i := 10) rfl (by first | exact Or.inl rfl | exact Or.inr (Or.inl rfl) | exact Or.inr (Or.inr rfl)) rfl)) ae_nil)))) ss_nil))))))
    (ss_cons (s_f (i := 5) rfl nd rfl (by first | exact Or.inl rfl | exact Or.inr rfl) (e_fz (i := 8) rfl rfl (by first | exact Or.inl rfl | exact Or.inr (Or.inl rfl) | exact Or.inr (Or.inr rfl))))
    (ss_one (s_expr (e_lm (i := 6) oApp_ok PySem.F.plainAttrs_list PySem.F.slot_list_append PySem.F.type_list_append mt_append rfl rfl rfl (by first | exact Or.inl rfl | exact Or.inr (Or.inl rfl) | exact Or.inr (Or.inr rfl)) (ae_cons (lift_e (d_v (i := 5) rfl (by first | exact Or.inl rfl | exact Or.inr (Or.inl rfl) | exact Or.inr (Or.inr rfl)) rfl)) ae_nil))))))))
    (ss_one (s_ret (e_mv (i := 6) rfl (by first | exact Or.inl rfl | exact Or.inr (Or.inl rfl) | exact Or.inr (Or.inr rfl))))))))

abbrev s_law_places_a9c304 : Stmt := topS 16
theorem sc_law_places_a9c304 : FnScope [(Str.ofString "feed"), (Str.ofString "house"), (Str.ofString "most"), (Str.ofString "cells"), (Str.ofString "places"), (Str.ofString "k"), (Str.ofString "place")] [(Str.ofString "feed"), (Str.ofString "house"), (Str.ofString "most")] (defScope s_law_places_a9c304) := ⟨rfl, rfl, rfl, by decide +kernel, rfl, by decide +kernel, by decide +kernel⟩
theorem ok_law_places_a9c304 {f : Addr} {fd : FuncData} (F : Fun K (Str.ofString "_law_places") (Str.ofString "_law_places") s_law_places_a9c304 f fd) {f_law_cells_6ad7a8 : Addr} {fd_law_cells_6ad7a8 : FuncData} (G_law_cells_6ad7a8 : FnOk P w K mg base (L2.CX P w) 1 f_law_cells_6ad7a8 fd_law_cells_6ad7a8 [(Str.ofString "house")] (SpD K cn [false] d_law_cells_6ad7a8)) (g_law_cells_6ad7a8 : mg (Str.ofString "_law_cells") = some (.ref f_law_cells_6ad7a8)) (k_law_cells_6ad7a8 : PySem.W.keepIn K (.ref f_law_cells_6ad7a8) = true) (b_law_cells_6ad7a8 : Binds K fd_law_cells_6ad7a8 [(Str.ofString "house")] []) {f_law_draw_664a20 : Addr} {fd_law_draw_664a20 : FuncData} (G_law_draw_664a20 : FnOk P w K mg base (L2.CX P w) 1 f_law_draw_664a20 fd_law_draw_664a20 [(Str.ofString "feed"), (Str.ofString "many")] (SpD K cn [true, false] d_law_draw_664a20)) (g_law_draw_664a20 : mg (Str.ofString "_law_draw") = some (.ref f_law_draw_664a20)) (k_law_draw_664a20 : PySem.W.keepIn K (.ref f_law_draw_664a20) = true) (b_law_draw_664a20 : Binds K fd_law_draw_664a20 [(Str.ofString "feed"), (Str.ofString "many")] []) (m_range : mg (Str.ofString "range") = none) (m_len : mg (Str.ofString "len") = none) : FnOk P w K mg base (L2.CX P w) 2 f fd [(Str.ofString "feed"), (Str.ofString "house"), (Str.ofString "most")] (SpD K cn [true, false, false] d_law_places_a9c304) :=
  fn_ok (N := [(Str.ofString "feed"), (Str.ofString "house"), (Str.ofString "most"), (Str.ofString "cells"), (Str.ofString "places"), (Str.ofString "k"), (Str.ofString "place")]) (n := 4) (lm := [true, false, false]) (os := [0, 4]) (g := b_law_places_a9c304) F sc_law_places_a9c304 rfl rfl (hos_by (by decide)) fun cdv A outer s H E F0 fp vs hr tk hp =>
    have nd := sc_law_places_a9c304.nd
    (ss_cons (s_f (i := 3) rfl nd rfl (by first | exact Or.inl rfl | exact Or.inr rfl) (lift_e (d_call G_law_cells_6ad7a8 (fun _ h => by subst h; rfl) (d_law_cells_6ad7a8_len) rfl (hr.mono (by first | omega | exact Nat.le_refl _)) (by rfl) g_law_cells_6ad7a8 k_law_cells_6ad7a8 b_law_cells_6ad7a8 tk (a_cons (d_v (i := 1) rfl (by first | exact Or.inl rfl | exact Or.inr (Or.inl rfl) | exact Or.inr (Or.inr rfl)) rfl) a_nil))))
    (ss_cons (s_o (i := 4) rfl rfl nd rfl (by first | exact Or.inl rfl | exact Or.inr rfl) (lift_e (d_lst a_nil)))
    (ss_cons (s_for [5] hp rfl (i_rng1 (by rfl) m_range (ae_cons (e_call G_law_draw_664a20 (by simp [bodyCtx]) rfl (hr.mono (by first | omega | exact Nat.le_refl _)) (by rfl) g_law_draw_664a20 k_law_draw_664a20 b_law_draw_664a20 tk (aa_ln (i := 0) rfl (by first | exact Or.inl rfl | exact Or.inr (Or.inl rfl) | exact Or.inr (Or.inr rfl)) (aa_ex (lift_e (d_bin opr_add oAdd_ok (d_v (i := 2) rfl (by first | exact Or.inl rfl | exact Or.inr (Or.inl rfl) | exact Or.inr (Or.inr rfl)) rfl) d_int)) aa_nil))) ae_nil)) (b_n (i := 5) rfl nd rfl (by first | exact Or.inl rfl | exact Or.inr rfl)) (ss_cons (s_f (i := 6) rfl nd rfl (by first | exact Or.inl rfl | exact Or.inr rfl) (e_ix rfl (lift_e (d_v (i := 3) rfl (by first | exact Or.inl rfl | exact Or.inr (Or.inl rfl) | exact Or.inr (Or.inr rfl)) rfl)) (e_call G_law_draw_664a20 (by simp [bodyCtx]) rfl (hr.mono (by first | omega | exact Nat.le_refl _)) (by rfl) g_law_draw_664a20 k_law_draw_664a20 b_law_draw_664a20 tk (aa_ln (i := 0) rfl (by first | exact Or.inl rfl | exact Or.inr (Or.inl rfl) | exact Or.inr (Or.inr rfl)) (aa_ex (lift_e (d_fn oLen_ok call_lenA (by rfl) m_len PySem.boot_len (a_cons (d_v (i := 3) rfl (by first | exact Or.inl rfl | exact Or.inr (Or.inl rfl) | exact Or.inr (Or.inr rfl)) rfl) a_nil))) aa_nil))) (fun _ _ => rfl)))
    (ss_one (s_if (lift_t (q_cmp (opr_notin (u65 hr)) oIn_ok (d_v (i := 6) rfl (by first | exact Or.inl rfl | exact Or.inr (Or.inl rfl) | exact Or.inr (Or.inr rfl)) rfl) (d_k (i := 4) rfl (by first | exact Or.inl rfl | exact Or.inr (Or.inl rfl) | exact Or.inr (Or.inr rfl))) (by rfl))) (ss_one (s_expr (e_lm (i := 4) oIns_ok PySem.F.plainAttrs_list PySem.F.slot_list_insert PySem.F.type_list_insert mt_insert rfl rfl rfl (by first | exact Or.inl rfl | exact Or.inr (Or.inl rfl) | exact Or.inr (Or.inr rfl)) (ae_cons (e_call G_law_draw_664a20 (by simp [bodyCtx]) rfl (hr.mono (by first | omega | exact Nat.le_refl _)) (by rfl) g_law_draw_664a20 k_law_draw_664a20 b_law_draw_664a20 tk (aa_ln (i := 0) rfl (by first | exact Or.inl rfl | exact Or.inr (Or.inl rfl) | exact Or.inr (Or.inr rfl)) (aa_ex (lift_e (d_bin opr_add oAdd_ok (d_fn oLen_ok call_lenA (by rfl) m_len PySem.boot_len (a_cons (d_k (i := 4) rfl (by first | exact Or.inl rfl | exact Or.inr (Or.inl rfl) | exact Or.inr (Or.inr rfl))) a_nil)) d_int)) aa_nil))) (ae_cons (lift_e (d_v (i := 6) rfl (by first | exact Or.inl rfl | exact Or.inr (Or.inl rfl) | exact Or.inr (Or.inr rfl)) rfl)) ae_nil))))) ss_nil))))
    (ss_one (s_ret (e_mv (i := 4) rfl (by first | exact Or.inl rfl | exact Or.inr (Or.inl rfl) | exact Or.inr (Or.inr rfl))))))))

abbrev s_cuts : Stmt := topS 5
theorem sc_cuts : FnScope [(Str.ofString "house"), (Str.ofString "places"), (Str.ofString "cart"), (Str.ofString "turns"), (Str.ofString "cut"), (Str.ofString "shut"), (Str.ofString "spot"), (Str.ofString "now"), (Str.ofString "moment"), (Str.ofString "behind"), (Str.ofString "place"), (Str.ofString "step")] [(Str.ofString "house"), (Str.ofString "places"), (Str.ofString "cart"), (Str.ofString "turns"), (Str.ofString "cut")] (defScope s_cuts) := ⟨rfl, rfl, rfl, by decide +kernel, rfl, by decide +kernel, by decide +kernel⟩
theorem ok_cuts {f : Addr} {fd : FuncData} (F : Fun K (Str.ofString "cuts") (Str.ofString "cuts") s_cuts f fd) {f_steps : Addr} {fd_steps : FuncData} (G_steps : FnOk P w K mg base (L2.CX P w) 2 f_steps fd_steps [(Str.ofString "house"), (Str.ofString "place")] (SpD K cn [false, false] d_steps)) (g_steps : mg (Str.ofString "steps") = some (.ref f_steps)) (k_steps : PySem.W.keepIn K (.ref f_steps) = true) (b_steps : Binds K fd_steps [(Str.ofString "house"), (Str.ofString "place")] []) (m_range : mg (Str.ofString "range") = none) (m_isinstance : mg (Str.ofString "isinstance") = none) (m_str : mg (Str.ofString "str") = none) (m_list : mg (Str.ofString "list") = none) : FnOk P w K mg base (L2.CX P w) 3 f fd [(Str.ofString "house"), (Str.ofString "places"), (Str.ofString "cart"), (Str.ofString "turns"), (Str.ofString "cut")] (SpD K cn [false, false, false, false, false] d_cuts) :=
  fn_ok (N := [(Str.ofString "house"), (Str.ofString "places"), (Str.ofString "cart"), (Str.ofString "turns"), (Str.ofString "cut"), (Str.ofString "shut"), (Str.ofString "spot"), (Str.ofString "now"), (Str.ofString "moment"), (Str.ofString "behind"), (Str.ofString "place"), (Str.ofString "step")]) (n := 7) (lm := [false, false, false, false, false]) (os := [5, 9]) (g := b_cuts) F sc_cuts rfl rfl (hos_by (by decide)) fun cdv A outer s H E F0 fp vs hr tk hp =>
    have nd := sc_cuts.nd
    (ss_cons (s_o (i := 5) rfl rfl nd rfl (by first | exact Or.inl rfl | exact Or.inr rfl) (lift_e (d_new0 .t (by first | exact .inl rfl | exact .inr rfl))))
    (ss_cons (s_for [6] hp rfl (i_all rfl (lift_e (d_v (i := 4) rfl (by first | exact Or.inl rfl | exact Or.inr (Or.inl rfl) | exact Or.inr (Or.inr rfl)) rfl))) (b_n (i := 6) rfl nd rfl (by first | exact Or.inl rfl | exact Or.inr rfl)) (ss_one (s_putd (i := 5) (u1 hr) rfl (lift_e d_bl) (l_var (i := 5) rfl (by first | exact Or.inl rfl | exact Or.inr (Or.inl rfl) | exact Or.inr (Or.inr rfl))) (d_v (i := 6) rfl (by first | exact Or.inl rfl | exact Or.inr (Or.inl rfl) | exact Or.inr (Or.inr rfl)) rfl))))
    (ss_cons (s_lc true (i := 7) (own := [((Str.ofString "place"), 10)]) (js := [10]) rfl (fun h => by cases h) (by simp [bodyCtx, lvOf]) (by simp) rfl nd rfl rfl (sw_true rfl rfl rfl (by decide +kernel)) (i_all rfl (lift_e (d_v (i := 1) rfl (by first | exact Or.inl rfl | exact Or.inr (Or.inl rfl) | exact Or.inr (Or.inr rfl)) rfl))) (blkOk_by (by exact rfl)) (fun _ _ _ _ _ => (b_n (i := 10) rfl nd rfl (by first | exact Or.inl rfl | exact Or.inr rfl))) (fun _ _ _ _ _ => (ts_one (lift_t (q_cmp (opr_notinK (u1 hr)) oInK_ok1 (d_tup (a_cons (d_ix rfl (d_v (i := 10) rfl (by first | exact Or.inl rfl | exact Or.inr (Or.inl rfl) | exact Or.inr (Or.inr rfl)) rfl) d_int (fun _ _ => rfl)) (a_cons (d_ix rfl (d_v (i := 10) rfl (by first | exact Or.inl rfl | exact Or.inr (Or.inl rfl) | exact Or.inr (Or.inr rfl)) rfl) d_int (fun _ _ => rfl)) (a_cons d_int a_nil)))) (d_k (i := 5) rfl (by first | exact Or.inl rfl | exact Or.inr (Or.inl rfl) | exact Or.inr (Or.inr rfl))) (by rfl))))) (fun _ _ _ _ _ => (lift_e (d_v (i := 10) rfl (by first | exact Or.inl rfl | exact Or.inr (Or.inl rfl) | exact Or.inr (Or.inr rfl)) rfl))))
    (ss_cons (s_for [8] hp rfl (i_rng2 (by rfl) m_range (ae_cons (lift_e d_int) (ae_cons (lift_e (d_bin opr_add oAdd_ok (d_v (i := 3) rfl (by first | exact Or.inl rfl | exact Or.inr (Or.inl rfl) | exact Or.inr (Or.inr rfl)) rfl) d_int)) ae_nil))) (b_n (i := 8) rfl nd rfl (by first | exact Or.inl rfl | exact Or.inr rfl)) (ss_cons (s_o (i := 9) rfl rfl nd rfl (by first | exact Or.inl rfl | exact Or.inr rfl) (lift_e (d_new0 .t (by first | exact .inl rfl | exact .inr rfl))))
    (ss_cons (s_for [10] hp rfl (i_all rfl (lift_e (d_v (i := 7) rfl (by first | exact Or.inl rfl | exact Or.inr (Or.inl rfl) | exact Or.inr (Or.inr rfl)) rfl))) (b_n (i := 10) rfl nd rfl (by first | exact Or.inl rfl | exact Or.inr rfl)) (ss_one (s_for [11] hp rfl (i_all rfl (lift_e (d_bin opr_add oAdd_ok (d_lst (a_cons (d_v (i := 10) rfl (by first | exact Or.inl rfl | exact Or.inr (Or.inl rfl) | exact Or.inr (Or.inr rfl)) rfl) a_nil)) (d_call G_steps (fun _ h => by subst h; rfl) (d_steps_len) rfl (hr.mono (by first | omega | exact Nat.le_refl _)) (by rfl) g_steps k_steps b_steps tk (a_cons (d_v (i := 0) rfl (by first | exact Or.inl rfl | exact Or.inr (Or.inl rfl) | exact Or.inr (Or.inr rfl)) rfl) (a_cons (d_v (i := 10) rfl (by first | exact Or.inl rfl | exact Or.inr (Or.inl rfl) | exact Or.inr (Or.inr rfl)) rfl) a_nil)))))) (b_n (i := 11) rfl nd rfl (by first | exact Or.inl rfl | exact Or.inr rfl)) (ss_cons (s_if (lift_t (q_cmp (opr_eq (u64 hr)) oEq_ok (d_v (i := 11) rfl (by first | exact Or.inl rfl | exact Or.inr (Or.inl rfl) | exact Or.inr (Or.inr rfl)) rfl) (d_v (i := 2) rfl (by first | exact Or.inl rfl | exact Or.inr (Or.inl rfl) | exact Or.inr (Or.inr rfl)) rfl) (nomark _))) (ss_one (s_ret (lift_e d_bl))) ss_nil)
    (ss_one (s_if (lift_t (q_w (w_and (q_not (q_val (d_isi rfl (d_v (i := 11) rfl (by first | exact Or.inl rfl | exact Or.inr (Or.inl rfl) | exact Or.inr (Or.inr rfl)) rfl) (by rfl) m_isinstance (by decide +kernel) (by rfl) m_str (by decide +kernel)))) (w_and1 (q_cmp (opr_notinK (u1 hr)) oInK_ok1 (d_tup (a_cons (d_ix rfl (d_v (i := 11) rfl (by first | exact Or.inl rfl | exact Or.inr (Or.inl rfl) | exact Or.inr (Or.inr rfl)) rfl) d_int (fun _ _ => rfl)) (a_cons (d_ix rfl (d_v (i := 11) rfl (by first | exact Or.inl rfl | exact Or.inr (Or.inl rfl) | exact Or.inr (Or.inr rfl)) rfl) d_int (fun _ _ => rfl)) (a_cons (d_v (i := 8) rfl (by first | exact Or.inl rfl | exact Or.inr (Or.inl rfl) | exact Or.inr (Or.inr rfl)) rfl) a_nil)))) (d_k (i := 5) rfl (by first | exact Or.inl rfl | exact Or.inr (Or.inl rfl) | exact Or.inr (Or.inr rfl))) (by rfl)))))) (ss_one (s_putd (i := 9) (u1 hr) rfl (lift_e d_bl) (l_var (i := 9) rfl (by first | exact Or.inl rfl | exact Or.inr (Or.inl rfl) | exact Or.inr (Or.inr rfl))) (d_v (i := 11) rfl (by first | exact Or.inl rfl | exact Or.inr (Or.inl rfl) | exact Or.inr (Or.inr rfl)) rfl))) ss_nil))))))
    (ss_one (s_f (i := 7) rfl nd rfl (by first | exact Or.inl rfl | exact Or.inr rfl) (lift_e (d_ty oListK_ok (call_list_dT rfl) (by rfl) m_list (by decide +kernel) (a_cons (d_k (i := 9) rfl (by first | exact Or.inl rfl | exact Or.inr (Or.inl rfl) | exact Or.inr (Or.inr rfl))) a_nil))))))))
    (ss_one (s_ret (lift_e d_bl)))))))

abbrev s_law_house_b98846 : Stmt := topS 11
theorem sc_law_house_b98846 : FnScope [(Str.ofString "feed"), (Str.ofString "many"), (Str.ofString "long"), (Str.ofString "great"), (Str.ofString "style"), (Str.ofString "names"), (Str.ofString "belts"), (Str.ofString "k"), (Str.ofString "ring"), (Str.ofString "cells")] [(Str.ofString "feed")] (defScope s_law_house_b98846) := ⟨rfl, rfl, rfl, by decide +kernel, rfl, by decide +kernel, by decide +kernel⟩
theorem ok_law_house_b98846 {f : Addr} {fd : FuncData} (F : Fun K (Str.ofString "_law_house") (Str.ofString "_law_house") s_law_house_b98846 f fd) {f_law_draw_664a20 : Addr} {fd_law_draw_664a20 : FuncData} (G_law_draw_664a20 : FnOk P w K mg base (L2.CX P w) 1 f_law_draw_664a20 fd_law_draw_664a20 [(Str.ofString "feed"), (Str.ofString "many")] (SpD K cn [true, false] d_law_draw_664a20)) (g_law_draw_664a20 : mg (Str.ofString "_law_draw") = some (.ref f_law_draw_664a20)) (k_law_draw_664a20 : PySem.W.keepIn K (.ref f_law_draw_664a20) = true) (b_law_draw_664a20 : Binds K fd_law_draw_664a20 [(Str.ofString "feed"), (Str.ofString "many")] []) {f_law_name_6bc08e : Addr} {fd_law_name_6bc08e : FuncData} (G_law_name_6bc08e : FnOk P w K mg base (L2.CX P w) 1 f_law_name_6bc08e fd_law_name_6bc08e [(Str.ofString "style"), (Str.ofString "k")] (SpD K cn [false, false] d_law_name_6bc08e)) (g_law_name_6bc08e : mg (Str.ofString "_law_name") = some (.ref f_law_name_6bc08e)) (k_law_name_6bc08e : PySem.W.keepIn K (.ref f_law_name_6bc08e) = true) (b_law_name_6bc08e : Binds K fd_law_name_6bc08e [(Str.ofString "style"), (Str.ofString "k")] []) {f_law_outs_c1dd0a : Addr} {fd_law_outs_c1dd0a : FuncData} (G_law_outs_c1dd0a : FnOk P w K mg base (L2.CX P w) 2 f_law_outs_c1dd0a fd_law_outs_c1dd0a [(Str.ofString "feed"), (Str.ofString "names"), (Str.ofString "k"), (Str.ofString "many")] (SpD K cn [true, false, false, false] d_law_outs_c1dd0a)) (g_law_outs_c1dd0a : mg (Str.ofString "_law_outs") = some (.ref f_law_outs_c1dd0a)) (k_law_outs_c1dd0a : PySem.W.keepIn K (.ref f_law_outs_c1dd0a) = true) (b_law_outs_c1dd0a : Binds K fd_law_outs_c1dd0a [(Str.ofString "feed"), (Str.ofString "names"), (Str.ofString "k"), (Str.ofString "many")] []) (m_range : mg (Str.ofString "range") = none) (m_int : mg (Str.ofString "int") = none) : FnOk P w K mg base (L2.CX P w) 3 f fd [(Str.ofString "feed")] (SpD K cn [true] d_law_house_b98846) :=
  fn_ok (N := [(Str.ofString "feed"), (Str.ofString "many"), (Str.ofString "long"), (Str.ofString "great"), (Str.ofString "style"), (Str.ofString "names"), (Str.ofString "belts"), (Str.ofString "k"), (Str.ofString "ring"), (Str.ofString "cells")]) (n := 9) (lm := [true]) (os := [0, 6]) (g := b_law_house_b98846) F sc_law_house_b98846 rfl rfl (hos_by (by decide)) fun cdv A outer s H E F0 fp vs hr tk hp =>
    have nd := sc_law_house_b98846.nd
    (ss_cons (s_f (i := 1) rfl nd rfl (by first | exact Or.inl rfl | exact Or.inr rfl) (e_bin opr_add oAdd_ok (lift_e d_int) (e_call G_law_draw_664a20 (by simp [bodyCtx]) rfl (hr.mono (by first | omega | exact Nat.le_refl _)) (by rfl) g_law_draw_664a20 k_law_draw_664a20 b_law_draw_664a20 tk (aa_ln (i := 0) rfl (by first | exact Or.inl rfl | exact Or.inr (Or.inl rfl) | exact Or.inr (Or.inr rfl)) (aa_ex (lift_e d_int) aa_nil)))))
    (ss_cons (s_f (i := 2) rfl nd rfl (by first | exact Or.inl rfl | exact Or.inr rfl) (lift_e d_int))
    (ss_cons (s_f (i := 3) rfl nd rfl (by first | exact Or.inl rfl | exact Or.inr rfl) (e_call G_law_draw_664a20 (by simp [bodyCtx]) rfl (hr.mono (by first | omega | exact Nat.le_refl _)) (by rfl) g_law_draw_664a20 k_law_draw_664a20 b_law_draw_664a20 tk (aa_ln (i := 0) rfl (by first | exact Or.inl rfl | exact Or.inr (Or.inl rfl) | exact Or.inr (Or.inr rfl)) (aa_ex (lift_e d_int) aa_nil))))
    (ss_cons (s_if (lift_t (q_cmp (opr_eq (u64 hr)) oEq_ok (d_v (i := 3) rfl (by first | exact Or.inl rfl | exact Or.inr (Or.inl rfl) | exact Or.inr (Or.inr rfl)) rfl) d_int (nomark _))) (ss_cons (s_f (i := 1) rfl nd rfl (by first | exact Or.inl rfl | exact Or.inr rfl) (lift_e d_int))
    (ss_one (s_f (i := 2) rfl nd rfl (by first | exact Or.inl rfl | exact Or.inr rfl) (lift_e d_int)))) ss_nil)
    (ss_cons (s_if (lift_t (q_cmp (opr_eq (u64 hr)) oEq_ok (d_v (i := 3) rfl (by first | exact Or.inl rfl | exact Or.inr (Or.inl rfl) | exact Or.inr (Or.inr rfl)) rfl) d_int (nomark _))) (ss_cons (s_f (i := 1) rfl nd rfl (by first | exact Or.inl rfl | exact Or.inr rfl) (lift_e (d_bin opr_add oAdd_ok d_int (d_bin op_fdivN oDiv_ok (d_v (i := 1) rfl (by first | exact Or.inl rfl | exact Or.inr (Or.inl rfl) | exact Or.inr (Or.inr rfl)) rfl) d_int))))
    (ss_one (s_f (i := 2) rfl nd rfl (by first | exact Or.inl rfl | exact Or.inr rfl) (lift_e d_int)))) ss_nil)
    (ss_cons (s_f (i := 4) rfl nd rfl (by first | exact Or.inl rfl | exact Or.inr rfl) (e_call G_law_draw_664a20 (by simp [bodyCtx]) rfl (hr.mono (by first | omega | exact Nat.le_refl _)) (by rfl) g_law_draw_664a20 k_law_draw_664a20 b_law_draw_664a20 tk (aa_ln (i := 0) rfl (by first | exact Or.inl rfl | exact Or.inr (Or.inl rfl) | exact Or.inr (Or.inr rfl)) (aa_ex (lift_e d_int) aa_nil))))
    (ss_cons (s_lc true (i := 5) (own := [((Str.ofString "k"), 7)]) (js := [7]) rfl (fun h => by cases h) (by simp [bodyCtx, lvOf]) (by simp) rfl nd rfl rfl (sw_true rfl rfl rfl (by decide +kernel)) (i_rng1 (by rfl) m_range (ae_cons (e_bin opr_add oAdd_ok (lift_e (d_bin opr_add oAdd_ok (d_v (i := 1) rfl (by first | exact Or.inl rfl | exact Or.inr (Or.inl rfl) | exact Or.inr (Or.inr rfl)) rfl) d_int)) (e_call G_law_draw_664a20 (by simp [bodyCtx]) rfl (hr.mono (by first | omega | exact Nat.le_refl _)) (by rfl) g_law_draw_664a20 k_law_draw_664a20 b_law_draw_664a20 tk (aa_ln (i := 0) rfl (by first | exact Or.inl rfl | exact Or.inr (Or.inl rfl) | exact Or.inr (Or.inr rfl)) (aa_ex (lift_e d_int) aa_nil)))) ae_nil)) (blkOk_by (by exact rfl)) (fun _ _ _ _ _ => (b_n (i := 7) rfl nd rfl (by first | exact Or.inl rfl | exact Or.inr rfl))) (fun _ _ _ _ _ => ts_nil) (fun _ _ _ _ _ => (lift_e (d_call G_law_name_6bc08e (fun _ h => by subst h; rfl) (d_law_name_6bc08e_len) rfl (hr.mono (by first | omega | exact Nat.le_refl _)) (by rfl) g_law_name_6bc08e k_law_name_6bc08e b_law_name_6bc08e takes0 (a_cons (d_v (i := 4) rfl (by first | exact Or.inl rfl | exact Or.inr (Or.inl rfl) | exact Or.inr (Or.inr rfl)) rfl) (a_cons (d_v (i := 7) rfl (by first | exact Or.inl rfl | exact Or.inr (Or.inl rfl) | exact Or.inr (Or.inr rfl)) rfl) a_nil))))))
    (ss_cons (s_o (i := 6) rfl rfl nd rfl (by first | exact Or.inl rfl | exact Or.inr rfl) (lift_e (d_lst a_nil)))
    (ss_cons (s_for [7] hp rfl (i_rng1 (by rfl) m_range (ae_cons (lift_e (d_v (i := 1) rfl (by first | exact Or.inl rfl | exact Or.inr (Or.inl rfl) | exact Or.inr (Or.inr rfl)) rfl)) ae_nil)) (b_n (i := 7) rfl nd rfl (by first | exact Or.inl rfl | exact Or.inr rfl)) (ss_cons (s_f (i := 8) rfl nd rfl (by first | exact Or.inl rfl | exact Or.inr rfl) (e_cmp (opr_eq (u64 hr)) oEq_ok (e_call G_law_draw_664a20 (by simp [bodyCtx]) rfl (hr.mono (by first | omega | exact Nat.le_refl _)) (by rfl) g_law_draw_664a20 k_law_draw_664a20 b_law_draw_664a20 tk (aa_ln (i := 0) rfl (by first | exact Or.inl rfl | exact Or.inr (Or.inl rfl) | exact Or.inr (Or.inr rfl)) (aa_ex (lift_e d_int) aa_nil))) (lift_e d_int) (nomark _)))
    (ss_cons (s_f (i := 9) rfl nd rfl (by first | exact Or.inl rfl | exact Or.inr rfl) (e_bin opr_add oAdd_ok (lift_e (d_bin opr_add oAdd_ok d_int (d_ty oInt_ok call_int1 (by rfl) m_int (by decide +kernel) (a_cons (d_v (i := 8) rfl (by first | exact Or.inl rfl | exact Or.inr (Or.inl rfl) | exact Or.inr (Or.inr rfl)) rfl) a_nil)))) (e_call G_law_draw_664a20 (by simp [bodyCtx]) rfl (hr.mono (by first | omega | exact Nat.le_refl _)) (by rfl) g_law_draw_664a20 k_law_draw_664a20 b_law_draw_664a20 tk (aa_ln (i := 0) rfl (by first | exact Or.inl rfl | exact Or.inr (Or.inl rfl) | exact Or.inr (Or.inr rfl)) (aa_ex (lift_e (d_bin opr_sub oSub_ok (d_v (i := 2) rfl (by first | exact Or.inl rfl | exact Or.inr (Or.inl rfl) | exact Or.inr (Or.inr rfl)) rfl) (d_ty oInt_ok call_int1 (by rfl) m_int (by decide +kernel) (a_cons (d_v (i := 8) rfl (by first | exact Or.inl rfl | exact Or.inr (Or.inl rfl) | exact Or.inr (Or.inr rfl)) rfl) a_nil)))) aa_nil)))))
    (ss_one (s_expr (e_lm (i := 6) oApp_ok PySem.F.plainAttrs_list PySem.F.slot_list_append PySem.F.type_list_append mt_append rfl rfl rfl (by first | exact Or.inl rfl | exact Or.inr (Or.inl rfl) | exact Or.inr (Or.inr rfl)) (ae_cons (e_tup (ae_cons (lift_e (d_ix rfl (d_v (i := 5) rfl (by first | exact Or.inl rfl | exact Or.inr (Or.inl rfl) | exact Or.inr (Or.inr rfl)) rfl) (d_v (i := 7) rfl (by first | exact Or.inl rfl | exact Or.inr (Or.inl rfl) | exact Or.inr (Or.inr rfl)) rfl) (fun _ _ => rfl))) (ae_cons (lift_e (d_v (i := 9) rfl (by first | exact Or.inl rfl | exact Or.inr (Or.inl rfl) | exact Or.inr (Or.inr rfl)) rfl)) (ae_cons (lift_e (d_v (i := 8) rfl (by first | exact Or.inl rfl | exact Or.inr (Or.inl rfl) | exact Or.inr (Or.inr rfl)) rfl)) (ae_cons (e_call G_law_outs_c1dd0a (by simp [bodyCtx]) rfl (hr.mono (by first | omega | exact Nat.le_refl _)) (by rfl) g_law_outs_c1dd0a k_law_outs_c1dd0a b_law_outs_c1dd0a tk (aa_ln (i := 0) rfl (by first | exact Or.inl rfl | exact Or.inr (Or.inl rfl) | exact Or.inr (Or.inr rfl)) (aa_ex (lift_e (d_v (i := 5) rfl (by first | exact Or.inl rfl | exact Or.inr (Or.inl rfl) | exact Or.inr (Or.inr rfl)) rfl)) (aa_ex (lift_e (d_v (i := 7) rfl (by first | exact Or.inl rfl | exact Or.inr (Or.inl rfl) | exact Or.inr (Or.inr rfl)) rfl)) (aa_ex (lift_e (d_v (i := 1) rfl (by first | exact Or.inl rfl | exact Or.inr (Or.inl rfl) | exact Or.inr (Or.inr rfl)) rfl)) aa_nil))))) ae_nil))))) ae_nil)))))))
    (ss_one (s_ret (e_tup (ae_cons (e_mv (i := 6) rfl (by first | exact Or.inl rfl | exact Or.inr (Or.inl rfl) | exact Or.inr (Or.inr rfl))) (ae_cons (lift_e (d_sl rfl (d_v (i := 5) rfl (by first | exact Or.inl rfl | exact Or.inr (Or.inl rfl) | exact Or.inr (Or.inr rfl)) rfl) (o_some (d_v (i := 1) rfl (by first | exact Or.inl rfl | exact Or.inr (Or.inl rfl) | exact Or.inr (Or.inr rfl)) rfl)) o_none)) ae_nil))))))))))))))

abbrev s_law_drawn_cut_4dc59b : Stmt := topS 17
theorem sc_law_drawn_cut_4dc59b : FnScope [(Str.ofString "feed"), (Str.ofString "house"), (Str.ofString "places"), (Str.ofString "turns"), (Str.ofString "sets"), (Str.ofString "moment"), (Str.ofString "cells"), (Str.ofString "cut"), (Str.ofString "place"), (Str.ofString "k"), (Str.ofString "cell")] [(Str.ofString "feed"), (Str.ofString "house"), (Str.ofString "places"), (Str.ofString "turns")] (defScope s_law_drawn_cut_4dc59b) := ⟨rfl, rfl, rfl, by decide +kernel, rfl, by decide +kernel, by decide +kernel⟩
theorem ok_law_drawn_cut_4dc59b {f : Addr} {fd : FuncData} (F : Fun K (Str.ofString "_law_drawn_cut") (Str.ofString "_law_drawn_cut") s_law_drawn_cut_4dc59b f fd) {f_law_sets_277d4e : Addr} {fd_law_sets_277d4e : FuncData} (G_law_sets_277d4e : FnOk P w K mg base (L2.CX P w) 2 f_law_sets_277d4e fd_law_sets_277d4e [(Str.ofString "house"), (Str.ofString "places"), (Str.ofString "cart"), (Str.ofString "turns"), (Str.ofString "cut")] (SpD K cn [false, false, false, false, false] d_law_sets_277d4e)) (g_law_sets_277d4e : mg (Str.ofString "_law_sets") = some (.ref f_law_sets_277d4e)) (k_law_sets_277d4e : PySem.W.keepIn K (.ref f_law_sets_277d4e) = true) (b_law_sets_277d4e : Binds K fd_law_sets_277d4e [(Str.ofString "house"), (Str.ofString "places"), (Str.ofString "cart"), (Str.ofString "turns"), (Str.ofString "cut")] []) {f_law_draw_664a20 : Addr} {fd_law_draw_664a20 : FuncData} (G_law_draw_664a20 : FnOk P w K mg base (L2.CX P w) 1 f_law_draw_664a20 fd_law_draw_664a20 [(Str.ofString "feed"), (Str.ofString "many")] (SpD K cn [true, false] d_law_draw_664a20)) (g_law_draw_664a20 : mg (Str.ofString "_law_draw") = some (.ref f_law_draw_664a20)) (k_law_draw_664a20 : PySem.W.keepIn K (.ref f_law_draw_664a20) = true) (b_law_draw_664a20 : Binds K fd_law_draw_664a20 [(Str.ofString "feed"), (Str.ofString "many")] []) {f_law_cells_6ad7a8 : Addr} {fd_law_cells_6ad7a8 : FuncData} (G_law_cells_6ad7a8 : FnOk P w K mg base (L2.CX P w) 1 f_law_cells_6ad7a8 fd_law_cells_6ad7a8 [(Str.ofString "house")] (SpD K cn [false] d_law_cells_6ad7a8)) (g_law_cells_6ad7a8 : mg (Str.ofString "_law_cells") = some (.ref f_law_cells_6ad7a8)) (k_law_cells_6ad7a8 : PySem.W.keepIn K (.ref f_law_cells_6ad7a8) = true) (b_law_cells_6ad7a8 : Binds K fd_law_cells_6ad7a8 [(Str.ofString "house")] []) (m_len : mg (Str.ofString "len") = none) (m_range : mg (Str.ofString "range") = none) : FnOk P w K mg base (L2.CX P w) 3 f fd [(Str.ofString "feed"), (Str.ofString "house"), (Str.ofString "places"), (Str.ofString "turns")] (SpD K cn [true, false, false, false] d_law_drawn_cut_4dc59b) :=
  fn_ok (N := [(Str.ofString "feed"), (Str.ofString "house"), (Str.ofString "places"), (Str.ofString "turns"), (Str.ofString "sets"), (Str.ofString "moment"), (Str.ofString "cells"), (Str.ofString "cut"), (Str.ofString "place"), (Str.ofString "k"), (Str.ofString "cell")]) (n := 7) (lm := [true, false, false, false]) (os := [0, 7]) (g := b_law_drawn_cut_4dc59b) F sc_law_drawn_cut_4dc59b rfl rfl (hos_by (by decide)) fun cdv A outer s H E F0 fp vs hr tk hp =>
    have nd := sc_law_drawn_cut_4dc59b.nd
    (ss_cons (s_f (i := 4) rfl nd rfl (by first | exact Or.inl rfl | exact Or.inr rfl) (lift_e (d_call G_law_sets_277d4e (fun _ h => by subst h; rfl) (d_law_sets_277d4e_len) rfl (hr.mono (by first | omega | exact Nat.le_refl _)) (by rfl) g_law_sets_277d4e k_law_sets_277d4e b_law_sets_277d4e tk (a_cons (d_v (i := 1) rfl (by first | exact Or.inl rfl | exact Or.inr (Or.inl rfl) | exact Or.inr (Or.inr rfl)) rfl) (a_cons (d_v (i := 2) rfl (by first | exact Or.inl rfl | exact Or.inr (Or.inl rfl) | exact Or.inr (Or.inr rfl)) rfl) (a_cons d_non (a_cons (d_v (i := 3) rfl (by first | exact Or.inl rfl | exact Or.inr (Or.inl rfl) | exact Or.inr (Or.inr rfl)) rfl) (a_cons (d_lst a_nil) a_nil))))))))
    (ss_cons (s_f (i := 5) rfl nd rfl (by first | exact Or.inl rfl | exact Or.inr rfl) (e_call G_law_draw_664a20 (by simp [bodyCtx]) rfl (hr.mono (by first | omega | exact Nat.le_refl _)) (by rfl) g_law_draw_664a20 k_law_draw_664a20 b_law_draw_664a20 tk (aa_ln (i := 0) rfl (by first | exact Or.inl rfl | exact Or.inr (Or.inl rfl) | exact Or.inr (Or.inr rfl)) (aa_ex (lift_e (d_bin opr_add oAdd_ok (d_v (i := 3) rfl (by first | exact Or.inl rfl | exact Or.inr (Or.inl rfl) | exact Or.inr (Or.inr rfl)) rfl) d_int)) aa_nil))))
    (ss_cons (s_f (i := 6) rfl nd rfl (by first | exact Or.inl rfl | exact Or.inr rfl) (lift_e (d_call G_law_cells_6ad7a8 (fun _ h => by subst h; rfl) (d_law_cells_6ad7a8_len) rfl (hr.mono (by first | omega | exact Nat.le_refl _)) (by rfl) g_law_cells_6ad7a8 k_law_cells_6ad7a8 b_law_cells_6ad7a8 tk (a_cons (d_v (i := 1) rfl (by first | exact Or.inl rfl | exact Or.inr (Or.inl rfl) | exact Or.inr (Or.inr rfl)) rfl) a_nil))))
    (ss_cons (s_o (i := 7) rfl rfl nd rfl (by first | exact Or.inl rfl | exact Or.inr rfl) (lift_e (d_lst a_nil)))
    (ss_cons (s_for [8] hp rfl (i_all rfl (lift_e (d_ix rfl (d_v (i := 4) rfl (by first | exact Or.inl rfl | exact Or.inr (Or.inl rfl) | exact Or.inr (Or.inr rfl)) rfl) (d_v (i := 5) rfl (by first | exact Or.inl rfl | exact Or.inr (Or.inl rfl) | exact Or.inr (Or.inr rfl)) rfl) (fun _ _ => rfl)))) (b_n (i := 8) rfl nd rfl (by first | exact Or.inl rfl | exact Or.inr rfl)) (ss_one (s_if (t_cmp op_gt oGt_ok (e_call G_law_draw_664a20 (by simp [bodyCtx]) rfl (hr.mono (by first | omega | exact Nat.le_refl _)) (by rfl) g_law_draw_664a20 k_law_draw_664a20 b_law_draw_664a20 tk (aa_ln (i := 0) rfl (by first | exact Or.inl rfl | exact Or.inr (Or.inl rfl) | exact Or.inr (Or.inr rfl)) (aa_ex (lift_e d_int) aa_nil))) (lift_e d_int) (nomark _)) (ss_one (s_expr (e_lm (i := 7) oIns_ok PySem.F.plainAttrs_list PySem.F.slot_list_insert PySem.F.type_list_insert mt_insert rfl rfl rfl (by first | exact Or.inl rfl | exact Or.inr (Or.inl rfl) | exact Or.inr (Or.inr rfl)) (ae_cons (e_call G_law_draw_664a20 (by simp [bodyCtx]) rfl (hr.mono (by first | omega | exact Nat.le_refl _)) (by rfl) g_law_draw_664a20 k_law_draw_664a20 b_law_draw_664a20 tk (aa_ln (i := 0) rfl (by first | exact Or.inl rfl | exact Or.inr (Or.inl rfl) | exact Or.inr (Or.inr rfl)) (aa_ex (lift_e (d_bin opr_add oAdd_ok (d_fn oLen_ok call_lenA (by rfl) m_len PySem.boot_len (a_cons (d_k (i := 7) rfl (by first | exact Or.inl rfl | exact Or.inr (Or.inl rfl) | exact Or.inr (Or.inr rfl))) a_nil)) d_int)) aa_nil))) (ae_cons (lift_e (d_bin opr_add oAdd_ok (d_v (i := 8) rfl (by first | exact Or.inl rfl | exact Or.inr (Or.inl rfl) | exact Or.inr (Or.inr rfl)) rfl) (d_tup (a_cons (d_v (i := 5) rfl (by first | exact Or.inl rfl | exact Or.inr (Or.inl rfl) | exact Or.inr (Or.inr rfl)) rfl) a_nil)))) ae_nil))))) ss_nil)))
    (ss_cons (s_for [9] hp rfl (i_rng1 (by rfl) m_range (ae_cons (e_call G_law_draw_664a20 (by simp [bodyCtx]) rfl (hr.mono (by first | omega | exact Nat.le_refl _)) (by rfl) g_law_draw_664a20 k_law_draw_664a20 b_law_draw_664a20 tk (aa_ln (i := 0) rfl (by first | exact Or.inl rfl | exact Or.inr (Or.inl rfl) | exact Or.inr (Or.inr rfl)) (aa_ex (lift_e d_int) aa_nil))) ae_nil)) (b_n (i := 9) rfl nd rfl (by first | exact Or.inl rfl | exact Or.inr rfl)) (ss_cons (s_f (i := 10) rfl nd rfl (by first | exact Or.inl rfl | exact Or.inr rfl) (e_ix rfl (lift_e (d_v (i := 6) rfl (by first | exact Or.inl rfl | exact Or.inr (Or.inl rfl) | exact Or.inr (Or.inr rfl)) rfl)) (e_call G_law_draw_664a20 (by simp [bodyCtx]) rfl (hr.mono (by first | omega | exact Nat.le_refl _)) (by rfl) g_law_draw_664a20 k_law_draw_664a20 b_law_draw_664a20 tk (aa_ln (i := 0) rfl (by first | exact Or.inl rfl | exact Or.inr (Or.inl rfl) | exact Or.inr (Or.inr rfl)) (aa_ex (lift_e (d_fn oLen_ok call_lenA (by rfl) m_len PySem.boot_len (a_cons (d_v (i := 6) rfl (by first | exact Or.inl rfl | exact Or.inr (Or.inl rfl) | exact Or.inr (Or.inr rfl)) rfl) a_nil))) aa_nil))) (fun _ _ => rfl)))
    (ss_one (s_expr (e_lm (i := 7) oApp_ok PySem.F.plainAttrs_list PySem.F.slot_list_append PySem.F.type_list_append mt_append rfl rfl rfl (by first | exact Or.inl rfl | exact Or.inr (Or.inl rfl) | exact Or.inr (Or.inr rfl)) (ae_cons (e_bin opr_add oAdd_ok (lift_e (d_v (i := 10) rfl (by first | exact Or.inl rfl | exact Or.inr (Or.inl rfl) | exact Or.inr (Or.inr rfl)) rfl)) (e_tup (ae_cons (e_call G_law_draw_664a20 (by simp [bodyCtx]) rfl (hr.mono (by first | omega | exact Nat.le_refl _)) (by rfl) g_law_draw_664a20 k_law_draw_664a20 b_law_draw_664a20 tk (aa_ln (i := 0) rfl (by first | exact Or.inl rfl | exact Or.inr (Or.inl rfl) | exact Or.inr (Or.inr rfl)) (aa_ex (lift_e (d_bin opr_add oAdd_ok (d_v (i := 3) rfl (by first | exact Or.inl rfl | exact Or.inr (Or.inl rfl) | exact Or.inr (Or.inr rfl)) rfl) d_int)) aa_nil))) ae_nil))) ae_nil))))))
    (ss_cons (s_if (t_cmp (opr_eq (u64 hr)) oEq_ok (e_call G_law_draw_664a20 (by simp [bodyCtx]) rfl (hr.mono (by first | omega | exact Nat.le_refl _)) (by rfl) g_law_draw_664a20 k_law_draw_664a20 b_law_draw_664a20 tk (aa_ln (i := 0) rfl (by first | exact Or.inl rfl | exact Or.inr (Or.inl rfl) | exact Or.inr (Or.inr rfl)) (aa_ex (lift_e d_int) aa_nil))) (lift_e d_int) (nomark _)) (ss_one (s_o (i := 7) rfl rfl nd rfl (by first | exact Or.inl rfl | exact Or.inr rfl) (e_sl rfl (e_fz (i := 7) rfl rfl (by first | exact Or.inl rfl | exact Or.inr (Or.inl rfl) | exact Or.inr (Or.inr rfl))) oe_none (oe_some (e_call G_law_draw_664a20 (by simp [bodyCtx]) rfl (hr.mono (by first | omega | exact Nat.le_refl _)) (by rfl) g_law_draw_664a20 k_law_draw_664a20 b_law_draw_664a20 tk (aa_ln (i := 0) rfl (by first | exact Or.inl rfl | exact Or.inr (Or.inl rfl) | exact Or.inr (Or.inr rfl)) (aa_ex (lift_e (d_bin opr_add oAdd_ok (d_fn oLen_ok call_lenA (by rfl) m_len PySem.boot_len (a_cons (d_k (i := 7) rfl (by first | exact Or.inl rfl | exact Or.inr (Or.inl rfl) | exact Or.inr (Or.inr rfl))) a_nil)) d_int)) aa_nil))))))) ss_nil)
    (ss_one (s_ret (e_mv (i := 7) rfl (by first | exact Or.inl rfl | exact Or.inr (Or.inl rfl) | exact Or.inr (Or.inr rfl))))))))))))

abbrev s_law_647079 : Stmt := topS 18
theorem sc_law_647079 : FnScope [(Str.ofString "script"), (Str.ofString "feed"), (Str.ofString "house"), (Str.ofString "places"), (Str.ofString "cart"), (Str.ofString "turns"), (Str.ofString "cut"), (Str.ofString "handed"), (Str.ofString "found"), (Str.ofString "due")] [(Str.ofString "script")] (defScope s_law_647079) := ⟨rfl, rfl, rfl, by decide +kernel, rfl, by decide +kernel, by decide +kernel⟩
theorem ok_law_647079 {f : Addr} {fd : FuncData} (F : Fun K (Str.ofString "law") (Str.ofString "law") s_law_647079 f fd) {f_law_feed_7ae9d6 : Addr} {fd_law_feed_7ae9d6 : FuncData} (G_law_feed_7ae9d6 : FnOk P w K mg base (L2.CX P w) 1 f_law_feed_7ae9d6 fd_law_feed_7ae9d6 [(Str.ofString "script")] (SpD K cn [false] d_law_feed_7ae9d6)) (g_law_feed_7ae9d6 : mg (Str.ofString "_law_feed") = some (.ref f_law_feed_7ae9d6)) (k_law_feed_7ae9d6 : PySem.W.keepIn K (.ref f_law_feed_7ae9d6) = true) (b_law_feed_7ae9d6 : Binds K fd_law_feed_7ae9d6 [(Str.ofString "script")] []) {f_law_house_b98846 : Addr} {fd_law_house_b98846 : FuncData} (G_law_house_b98846 : FnOk P w K mg base (L2.CX P w) 3 f_law_house_b98846 fd_law_house_b98846 [(Str.ofString "feed")] (SpD K cn [true] d_law_house_b98846)) (g_law_house_b98846 : mg (Str.ofString "_law_house") = some (.ref f_law_house_b98846)) (k_law_house_b98846 : PySem.W.keepIn K (.ref f_law_house_b98846) = true) (b_law_house_b98846 : Binds K fd_law_house_b98846 [(Str.ofString "feed")] []) {f_law_places_a9c304 : Addr} {fd_law_places_a9c304 : FuncData} (G_law_places_a9c304 : FnOk P w K mg base (L2.CX P w) 2 f_law_places_a9c304 fd_law_places_a9c304 [(Str.ofString "feed"), (Str.ofString "house"), (Str.ofString "most")] (SpD K cn [true, false, false] d_law_places_a9c304)) (g_law_places_a9c304 : mg (Str.ofString "_law_places") = some (.ref f_law_places_a9c304)) (k_law_places_a9c304 : PySem.W.keepIn K (.ref f_law_places_a9c304) = true) (b_law_places_a9c304 : Binds K fd_law_places_a9c304 [(Str.ofString "feed"), (Str.ofString "house"), (Str.ofString "most")] []) {f_law_draw_664a20 : Addr} {fd_law_draw_664a20 : FuncData} (G_law_draw_664a20 : FnOk P w K mg base (L2.CX P w) 1 f_law_draw_664a20 fd_law_draw_664a20 [(Str.ofString "feed"), (Str.ofString "many")] (SpD K cn [true, false] d_law_draw_664a20)) (g_law_draw_664a20 : mg (Str.ofString "_law_draw") = some (.ref f_law_draw_664a20)) (k_law_draw_664a20 : PySem.W.keepIn K (.ref f_law_draw_664a20) = true) (b_law_draw_664a20 : Binds K fd_law_draw_664a20 [(Str.ofString "feed"), (Str.ofString "many")] []) {f_law_drawn_cut_4dc59b : Addr} {fd_law_drawn_cut_4dc59b : FuncData} (G_law_drawn_cut_4dc59b : FnOk P w K mg base (L2.CX P w) 3 f_law_drawn_cut_4dc59b fd_law_drawn_cut_4dc59b [(Str.ofString "feed"), (Str.ofString "house"), (Str.ofString "places"), (Str.ofString "turns")] (SpD K cn [true, false, false, false] d_law_drawn_cut_4dc59b)) (g_law_drawn_cut_4dc59b : mg (Str.ofString "_law_drawn_cut") = some (.ref f_law_drawn_cut_4dc59b)) (k_law_drawn_cut_4dc59b : PySem.W.keepIn K (.ref f_law_drawn_cut_4dc59b) = true) (b_law_drawn_cut_4dc59b : Binds K fd_law_drawn_cut_4dc59b [(Str.ofString "feed"), (Str.ofString "house"), (Str.ofString "places"), (Str.ofString "turns")] []) {f_law_copied_b608ba : Addr} {fd_law_copied_b608ba : FuncData} (G_law_copied_b608ba : FnOk P w K mg base (L2.CX P w) 1 f_law_copied_b608ba fd_law_copied_b608ba [(Str.ofString "house")] (SpD K cn [false] d_law_copied_b608ba)) (g_law_copied_b608ba : mg (Str.ofString "_law_copied") = some (.ref f_law_copied_b608ba)) (k_law_copied_b608ba : PySem.W.keepIn K (.ref f_law_copied_b608ba) = true) (b_law_copied_b608ba : Binds K fd_law_copied_b608ba [(Str.ofString "house")] []) {f_cuts : Addr} {fd_cuts : FuncData} (G_cuts : FnOk P w K mg base (L2.CX P w) 3 f_cuts fd_cuts [(Str.ofString "house"), (Str.ofString "places"), (Str.ofString "cart"), (Str.ofString "turns"), (Str.ofString "cut")] (SpD K cn [false, false, false, false, false] d_cuts)) (g_cuts : mg (Str.ofString "cuts") = some (.ref f_cuts)) (k_cuts : PySem.W.keepIn K (.ref f_cuts) = true) (b_cuts : Binds K fd_cuts [(Str.ofString "house"), (Str.ofString "places"), (Str.ofString "cart"), (Str.ofString "turns"), (Str.ofString "cut")] []) {f_law_sets_277d4e : Addr} {fd_law_sets_277d4e : FuncData} (G_law_sets_277d4e : FnOk P w K mg base (L2.CX P w) 2 f_law_sets_277d4e fd_law_sets_277d4e [(Str.ofString "house"), (Str.ofString "places"), (Str.ofString "cart"), (Str.ofString "turns"), (Str.ofString "cut")] (SpD K cn [false, false, false, false, false] d_law_sets_277d4e)) (g_law_sets_277d4e : mg (Str.ofString "_law_sets") = some (.ref f_law_sets_277d4e)) (k_law_sets_277d4e : PySem.W.keepIn K (.ref f_law_sets_277d4e) = true) (b_law_sets_277d4e : Binds K fd_law_sets_277d4e [(Str.ofString "house"), (Str.ofString "places"), (Str.ofString "cart"), (Str.ofString "turns"), (Str.ofString "cut")] []) (m_len : mg (Str.ofString "len") = none) (m_list : mg (Str.ofString "list") = none) (m_isinstance : mg (Str.ofString "isinstance") = none) (m_bool : mg (Str.ofString "bool") = none) : FnOk P w K mg base (L2.CX P w) 4 f fd [(Str.ofString "script")] (SpD K cn [false] d_law_647079) :=
  fn_ok (N := [(Str.ofString "script"), (Str.ofString "feed"), (Str.ofString "house"), (Str.ofString "places"), (Str.ofString "cart"), (Str.ofString "turns"), (Str.ofString "cut"), (Str.ofString "handed"), (Str.ofString "found"), (Str.ofString "due")]) (n := 9) (lm := [false]) (os := [1]) (g := b_law_647079) F sc_law_647079 rfl rfl (hos_by (by decide)) fun cdv A outer s H E F0 fp vs hr tk hp =>
    have nd := sc_law_647079.nd
    (ss_cons (s_o (i := 1) rfl rfl nd rfl (by first | exact Or.inl rfl | exact Or.inr rfl) (lift_e (d_call G_law_feed_7ae9d6 (fun _ h => by subst h; rfl) (d_law_feed_7ae9d6_len) rfl (hr.mono (by first | omega | exact Nat.le_refl _)) (by rfl) g_law_feed_7ae9d6 k_law_feed_7ae9d6 b_law_feed_7ae9d6 tk (a_cons (d_v (i := 0) rfl (by first | exact Or.inl rfl | exact Or.inr (Or.inl rfl) | exact Or.inr (Or.inr rfl)) rfl) a_nil))))
    (ss_cons (s_f (i := 2) rfl nd rfl (by first | exact Or.inl rfl | exact Or.inr rfl) (e_call G_law_house_b98846 (by simp [bodyCtx]) rfl (hr.mono (by first | omega | exact Nat.le_refl _)) (by rfl) g_law_house_b98846 k_law_house_b98846 b_law_house_b98846 tk (aa_ln (i := 1) rfl (by first | exact Or.inl rfl | exact Or.inr (Or.inl rfl) | exact Or.inr (Or.inr rfl)) aa_nil)))
    (ss_cons (s_f (i := 3) rfl nd rfl (by first | exact Or.inl rfl | exact Or.inr rfl) (e_call G_law_places_a9c304 (by simp [bodyCtx]) rfl (hr.mono (by first | omega | exact Nat.le_refl _)) (by rfl) g_law_places_a9c304 k_law_places_a9c304 b_law_places_a9c304 tk (aa_ln (i := 1) rfl (by first | exact Or.inl rfl | exact Or.inr (Or.inl rfl) | exact Or.inr (Or.inr rfl)) (aa_ex (lift_e (d_v (i := 2) rfl (by first | exact Or.inl rfl | exact Or.inr (Or.inl rfl) | exact Or.inr (Or.inr rfl)) rfl)) (aa_ex (lift_e d_int) aa_nil)))))
    (ss_cons (s_f (i := 4) rfl nd rfl (by first | exact Or.inl rfl | exact Or.inr rfl) (e_ix rfl (lift_e (d_ix rfl (d_v (i := 2) rfl (by first | exact Or.inl rfl | exact Or.inr (Or.inl rfl) | exact Or.inr (Or.inr rfl)) rfl) d_int (fun _ _ => rfl))) (e_call G_law_draw_664a20 (by simp [bodyCtx]) rfl (hr.mono (by first | omega | exact Nat.le_refl _)) (by rfl) g_law_draw_664a20 k_law_draw_664a20 b_law_draw_664a20 tk (aa_ln (i := 1) rfl (by first | exact Or.inl rfl | exact Or.inr (Or.inl rfl) | exact Or.inr (Or.inr rfl)) (aa_ex (lift_e (d_fn oLen_ok call_lenA (by rfl) m_len PySem.boot_len (a_cons (d_ix rfl (d_v (i := 2) rfl (by first | exact Or.inl rfl | exact Or.inr (Or.inl rfl) | exact Or.inr (Or.inr rfl)) rfl) d_int (fun _ _ => rfl)) a_nil))) aa_nil))) (fun _ _ => rfl)))
    (ss_cons (s_f (i := 5) rfl nd rfl (by first | exact Or.inl rfl | exact Or.inr rfl) (e_call G_law_draw_664a20 (by simp [bodyCtx]) rfl (hr.mono (by first | omega | exact Nat.le_refl _)) (by rfl) g_law_draw_664a20 k_law_draw_664a20 b_law_draw_664a20 tk (aa_ln (i := 1) rfl (by first | exact Or.inl rfl | exact Or.inr (Or.inl rfl) | exact Or.inr (Or.inr rfl)) (aa_ex (lift_e d_int) aa_nil))))
    (ss_cons (s_if (t_cmp (opr_eq (u64 hr)) oEq_ok (e_call G_law_draw_664a20 (by simp [bodyCtx]) rfl (hr.mono (by first | omega | exact Nat.le_refl _)) (by rfl) g_law_draw_664a20 k_law_draw_664a20 b_law_draw_664a20 tk (aa_ln (i := 1) rfl (by first | exact Or.inl rfl | exact Or.inr (Or.inl rfl) | exact Or.inr (Or.inr rfl)) (aa_ex (lift_e d_int) aa_nil))) (lift_e d_int) (nomark _)) (ss_one (s_f (i := 5) rfl nd rfl (by first | exact Or.inl rfl | exact Or.inr rfl) (e_bin opr_add oAdd_ok (lift_e (d_v (i := 5) rfl (by first | exact Or.inl rfl | exact Or.inr (Or.inl rfl) | exact Or.inr (Or.inr rfl)) rfl)) (e_call G_law_draw_664a20 (by simp [bodyCtx]) rfl (hr.mono (by first | omega | exact Nat.le_refl _)) (by rfl) g_law_draw_664a20 k_law_draw_664a20 b_law_draw_664a20 tk (aa_ln (i := 1) rfl (by first | exact Or.inl rfl | exact Or.inr (Or.inl rfl) | exact Or.inr (Or.inr rfl)) (aa_ex (lift_e d_int) aa_nil)))))) ss_nil)
    (ss_cons (s_for [6] hp rfl (i_all rfl (e_lst (ae_cons (e_call G_law_drawn_cut_4dc59b (by simp [bodyCtx]) rfl (hr.mono (by first | omega | exact Nat.le_refl _)) (by rfl) g_law_drawn_cut_4dc59b k_law_drawn_cut_4dc59b b_law_drawn_cut_4dc59b tk (aa_ln (i := 1) rfl (by first | exact Or.inl rfl | exact Or.inr (Or.inl rfl) | exact Or.inr (Or.inr rfl)) (aa_ex (lift_e (d_v (i := 2) rfl (by first | exact Or.inl rfl | exact Or.inr (Or.inl rfl) | exact Or.inr (Or.inr rfl)) rfl)) (aa_ex (lift_e (d_v (i := 3) rfl (by first | exact Or.inl rfl | exact Or.inr (Or.inl rfl) | exact Or.inr (Or.inr rfl)) rfl)) (aa_ex (lift_e (d_v (i := 5) rfl (by first | exact Or.inl rfl | exact Or.inr (Or.inl rfl) | exact Or.inr (Or.inr rfl)) rfl)) aa_nil))))) (ae_cons (lift_e (d_lst a_nil)) ae_nil)))) (b_n (i := 6) rfl nd rfl (by first | exact Or.inl rfl | exact Or.inr rfl)) (ss_cons (s_f (i := 7) rfl nd rfl (by first | exact Or.inl rfl | exact Or.inr rfl) (lift_e (d_tup (a_cons (d_call G_law_copied_b608ba (fun _ h => by subst h; rfl) (d_law_copied_b608ba_len) rfl (hr.mono (by first | omega | exact Nat.le_refl _)) (by rfl) g_law_copied_b608ba k_law_copied_b608ba b_law_copied_b608ba tk (a_cons (d_v (i := 2) rfl (by first | exact Or.inl rfl | exact Or.inr (Or.inl rfl) | exact Or.inr (Or.inr rfl)) rfl) a_nil)) (a_cons (d_ty oList_ok call_list_of (by rfl) m_list (by decide +kernel) (a_cons (d_v (i := 3) rfl (by first | exact Or.inl rfl | exact Or.inr (Or.inl rfl) | exact Or.inr (Or.inr rfl)) rfl) a_nil)) (a_cons (d_ty oList_ok call_list_of (by rfl) m_list (by decide +kernel) (a_cons (d_v (i := 6) rfl (by first | exact Or.inl rfl | exact Or.inr (Or.inl rfl) | exact Or.inr (Or.inr rfl)) rfl) a_nil)) a_nil))))))
    (ss_cons (s_f (i := 8) rfl nd rfl (by first | exact Or.inl rfl | exact Or.inr rfl) (lift_e (d_call G_cuts (fun _ h => by subst h; rfl) (d_cuts_len) rfl (hr.mono (by first | omega | exact Nat.le_refl _)) (by rfl) g_cuts k_cuts b_cuts tk (a_cons (d_ix rfl (d_v (i := 7) rfl (by first | exact Or.inl rfl | exact Or.inr (Or.inl rfl) | exact Or.inr (Or.inr rfl)) rfl) d_int (fun _ _ => rfl)) (a_cons (d_ix rfl (d_v (i := 7) rfl (by first | exact Or.inl rfl | exact Or.inr (Or.inl rfl) | exact Or.inr (Or.inr rfl)) rfl) d_int (fun _ _ => rfl)) (a_cons (d_v (i := 4) rfl (by first | exact Or.inl rfl | exact Or.inr (Or.inl rfl) | exact Or.inr (Or.inr rfl)) rfl) (a_cons (d_v (i := 5) rfl (by first | exact Or.inl rfl | exact Or.inr (Or.inl rfl) | exact Or.inr (Or.inr rfl)) rfl) (a_cons (d_ix rfl (d_v (i := 7) rfl (by first | exact Or.inl rfl | exact Or.inr (Or.inl rfl) | exact Or.inr (Or.inr rfl)) rfl) d_int (fun _ _ => rfl)) a_nil))))))))
    (ss_cons (s_f (i := 9) rfl nd rfl (by first | exact Or.inl rfl | exact Or.inr rfl) (lift_e (d_cmp opr_isnot oIs_ok (d_call G_law_sets_277d4e (fun _ h => by subst h; rfl) (d_law_sets_277d4e_len) rfl (hr.mono (by first | omega | exact Nat.le_refl _)) (by rfl) g_law_sets_277d4e k_law_sets_277d4e b_law_sets_277d4e tk (a_cons (d_v (i := 2) rfl (by first | exact Or.inl rfl | exact Or.inr (Or.inl rfl) | exact Or.inr (Or.inr rfl)) rfl) (a_cons (d_v (i := 3) rfl (by first | exact Or.inl rfl | exact Or.inr (Or.inl rfl) | exact Or.inr (Or.inr rfl)) rfl) (a_cons (d_v (i := 4) rfl (by first | exact Or.inl rfl | exact Or.inr (Or.inl rfl) | exact Or.inr (Or.inr rfl)) rfl) (a_cons (d_v (i := 5) rfl (by first | exact Or.inl rfl | exact Or.inr (Or.inl rfl) | exact Or.inr (Or.inr rfl)) rfl) (a_cons (d_v (i := 6) rfl (by first | exact Or.inl rfl | exact Or.inr (Or.inl rfl) | exact Or.inr (Or.inr rfl)) rfl) a_nil)))))) d_non (nomark _))))
    (ss_one (s_if (lift_t (q_w (w_or (q_not (q_val (d_isi rfl (d_v (i := 8) rfl (by first | exact Or.inl rfl | exact Or.inr (Or.inl rfl) | exact Or.inr (Or.inr rfl)) rfl) (by rfl) m_isinstance (by decide +kernel) (by rfl) m_bool (by decide +kernel)))) (w_or (q_cmp (opr_ne (u64 hr)) oNe_ok (d_v (i := 8) rfl (by first | exact Or.inl rfl | exact Or.inr (Or.inl rfl) | exact Or.inr (Or.inr rfl)) rfl) (d_v (i := 9) rfl (by first | exact Or.inl rfl | exact Or.inr (Or.inl rfl) | exact Or.inr (Or.inr rfl)) rfl) (nomark _)) (w_or1 (q_cmp (opr_ne (u64 hr)) oNe_ok (d_v (i := 7) rfl (by first | exact Or.inl rfl | exact Or.inr (Or.inl rfl) | exact Or.inr (Or.inr rfl)) rfl) (d_tup (a_cons (d_v (i := 2) rfl (by first | exact Or.inl rfl | exact Or.inr (Or.inl rfl) | exact Or.inr (Or.inr rfl)) rfl) (a_cons (d_v (i := 3) rfl (by first | exact Or.inl rfl | exact Or.inr (Or.inl rfl) | exact Or.inr (Or.inr rfl)) rfl) (a_cons (d_v (i := 6) rfl (by first | exact Or.inl rfl | exact Or.inr (Or.inl rfl) | exact Or.inr (Or.inr rfl)) rfl) a_nil)))) (nomark _))))))) (ss_one (s_ret (lift_e d_bl))) ss_nil))))))
    (ss_one (s_ret (lift_e (d_cmp opr_is oIs_ok (d_call G_cuts (fun _ h => by subst h; rfl) (d_cuts_len) rfl (hr.mono (by first | omega | exact Nat.le_refl _)) (by rfl) g_cuts k_cuts b_cuts tk (a_cons (d_v (i := 2) rfl (by first | exact Or.inl rfl | exact Or.inr (Or.inl rfl) | exact Or.inr (Or.inr rfl)) rfl) (a_cons (d_lst a_nil) (a_cons (d_v (i := 4) rfl (by first | exact Or.inl rfl | exact Or.inr (Or.inl rfl) | exact Or.inr (Or.inr rfl)) rfl) (a_cons (d_v (i := 5) rfl (by first | exact Or.inl rfl | exact Or.inr (Or.inl rfl) | exact Or.inr (Or.inr rfl)) rfl) (a_cons (d_lst a_nil) a_nil)))))) d_bl (nomark _))))))))))))
end
end DL

end
section
/-! DM1: rules for reading a def's function. -/
open PySem PySem.Spec L2
namespace DL
section
variable {ρ ρ' ρ1 ρ2 : Env} {d e : D} {g h : SF} {f f1 : EF} {p q : PF} {o : O2}
@[simp] theorem fnD_eq {n : Nat} {lm : List Bool} {ds : List D} : fnD n lm g ds = if ds.length = lm.length then fnR lm (g (ds.map some ++ List.replicate n none)) else none := rfl
@[simp] theorem fnR_nx {lm : List Bool} : fnR lm (some (.nx ρ)) = (lents lm ρ).map (.ret .non ·) := rfl
@[simp] theorem fnR_rt {lm : List Bool} : fnR lm (some (.rt d ρ)) = if d.noBrw = true then (lents lm ρ).map (.ret d ·) else none := rfl
@[simp] theorem fnR_ex {lm : List Bool} {n : Str} {fs : List (Str × D)} : fnR lm (some (.ex n fs ρ)) = (lents lm ρ).map (.exc n fs ·) := rfl
@[simp] theorem lents_nil : lents [] ρ = some [] := rfl
@[simp] theorem lents_t {m : List Bool} : lents (true :: m) (some d :: ρ) = (lents m ρ).map (d :: ·) := rfl
@[simp] theorem lents_f {m : List Bool} {x : Option D} : lents (false :: m) (x :: ρ) = lents m ρ := rfl
theorem seq_nx (a : g ρ = some (.nx ρ')) : sSeq g h ρ = h ρ' := by unfold sSeq; rw [a]
theorem seq_rt (a : g ρ = some (.rt d ρ')) : sSeq g h ρ = some (.rt d ρ') := by unfold sSeq; rw [a]
@[simp] theorem sSeq_eq : sSeq g h ρ = match g ρ with | some (.nx ρ') => h ρ' | r => r := rfl
@[simp] theorem sNil_eq : sNil ρ = some (.nx ρ) := rfl
@[simp] theorem sRetN_eq : sRetN ρ = some (.rt .non ρ) := rfl
@[simp] theorem sStuck_eq : sStuck ρ = none := rfl
@[simp] theorem sF_eq {i : Nat} : sF i f ρ = match f ρ with
  | some (.ok d ρ') => if d.noBrw = true ∧ i < ρ'.length then some (.nx (setS ρ' i (some d.frz))) else none
  | some (.ex n fs ρ') => some (.ex n fs ρ')
  | none => none := rfl
@[simp] theorem sO_eq {i : Nat} : sO i f ρ = match f ρ with
  | some (.ok d ρ') => if d.noBrw = true ∧ i < ρ'.length then some (.nx (setS ρ' i (some d))) else none
  | some (.ex n fs ρ') => some (.ex n fs ρ')
  | none => none := rfl
@[simp] theorem sRet_eq : sRet f ρ = match f ρ with
  | some (.ok d ρ') => some (.rt d ρ')
  | some (.ex n fs ρ') => some (.ex n fs ρ')
  | none => none := rfl
@[simp] theorem sExpr_eq : sExpr f ρ = match f ρ with
  | some (.ok _ ρ') => some (.nx ρ')
  | some (.ex n fs ρ') => some (.ex n fs ρ')
  | none => none := rfl
@[simp] theorem sIf_eq {t : TF} : sIf t g h ρ = match t ρ with
  | some (.ok true ρ') => g ρ'
  | some (.ok false ρ') => h ρ'
  | some (.ex n fs ρ') => some (.ex n fs ρ')
  | none => none := by unfold sIf; cases t ρ with | none => rfl | some r => cases r with | ok b ρ' => cases b <;> rfl | ex => rfl
@[simp] theorem lP_eq : lP p ρ = (p ρ).map (.ok · ρ) := rfl
@[simp] theorem lQ_eq {q : QF} : lQ q ρ = (q ρ).map (.ok · ρ) := rfl
@[simp] theorem dC_eq : dC d ρ = some d := rfl
@[simp] theorem dV_eq {i : Nat} : dV i ρ = getS ρ i := rfl
@[simp] theorem dK_eq {i : Nat} : dK i ρ = (getS ρ i).map D.peek := rfl
@[simp] theorem getS_0 {x : Option D} : getS (x :: ρ) 0 = x := rfl
@[simp] theorem getS_s {x : Option D} {n : Nat} : getS (x :: ρ) (n + 1) = getS ρ n := rfl
@[simp] theorem setS_0 {x y : Option D} : setS (x :: ρ) 0 y = y :: ρ := rfl
@[simp] theorem setS_s {x y : Option D} {n : Nat} : setS (x :: ρ) (n + 1) y = x :: setS ρ n y := rfl
@[simp] theorem pB_eq : pB o p q ρ = match p ρ, q ρ with
  | some x, some y => o x y
  | _, _ => none := rfl
@[simp] theorem qB_eq : qB p ρ = match p ρ with | some (.bl b) => some b | _ => none := rfl
@[simp] theorem qNot_eq {q : QF} : qNot q ρ = (q ρ).map (!·) := rfl
@[simp] theorem qAnd_eq {q r : QF} : qAnd q r ρ = match q ρ with | some true => r ρ | some false => some false | none => none := rfl
@[simp] theorem qOr_eq {q r : QF} : qOr q r ρ = match q ρ with | some true => some true | some false => r ρ | none => none := rfl
@[simp] theorem dAnd_eq : dAnd p q ρ = match p ρ with | some (.bl true) => q ρ | some (.bl false) => some (.bl false) | _ => none := rfl
@[simp] theorem dOr_eq : dOr p q ρ = match p ρ with | some (.bl false) => q ρ | some (.bl true) => some (.bl true) | _ => none := rfl
@[simp] theorem dNot_eq : dNot p ρ = match p ρ with | some (.bl b) => some (.bl (!b)) | _ => none := rfl
@[simp] theorem dIf_eq {t : QF} : dIf t p q ρ = match t ρ with | some true => p ρ | some false => q ρ | none => none := rfl
@[simp] theorem pN_eq {o : ON} {fs : List PF} : pN o fs ρ = (evL fs ρ).bind o := rfl
@[simp] theorem evL_nil : evL [] ρ = some [] := rfl
@[simp] theorem evL_cons {fs : List PF} : evL (p :: fs) ρ = match p ρ, evL fs ρ with
    | some d, some ds => some (d :: ds)
    | _, _ => none := rfl
@[simp] theorem evE_nil : evE [] ρ = some (.ok [] ρ) := rfl
@[simp] theorem evE_cons {fs : List EF} : evE (f :: fs) ρ = match f ρ with
    | some (.ok d ρ1) => if d.noBrw = true then (match evE fs ρ1 with
        | some (.ok ds ρ2) => some (.ok (d :: ds) ρ2)
        | r => r) else none
    | some (.ex n xs ρ1) => some (.ex n xs ρ1)
    | none => none := rfl
@[simp] theorem eN_eq {o : ON} {fs : List EF} : eN o fs ρ = match evE fs ρ with
  | some (.ok ds ρ') => (o ds).map (.ok · ρ')
  | some (.ex n xs ρ') => some (.ex n xs ρ')
  | none => none := rfl
@[simp] theorem eT_eq : eT f ρ = match f ρ with
  | some (.ok (.bl b) ρ') => some (.ok b ρ')
  | some (.ex n fs ρ') => some (.ex n fs ρ')
  | _ => none := by unfold eT; cases f ρ with | none => rfl | some r => cases r with | ok b ρ' => cases b <;> rfl | ex => rfl
/-! marks -/
variable {P : Mk → Bool} {m : Mk} {F : Mk → Mk} {ds : List D}
@[simp] theorem chk_non : D.chk P .non = true := rfl
@[simp] theorem chk_bl {b : Bool} : D.chk P (.bl b) = true := rfl
@[simp] theorem chk_int {b : Int} : D.chk P (.int b) = true := rfl
@[simp] theorem chk_str {b : Str} : D.chk P (.str b) = true := rfl
@[simp] theorem chk_tup : D.chk P (.tup ds) = D.chkL P ds := rfl
@[simp] theorem chk_lst : D.chk P (.lst m ds) = (P m && D.chkL P ds) := rfl
@[simp] theorem chkL_nil : D.chkL P [] = true := rfl
@[simp] theorem chkL_cons : D.chkL P (d :: ds) = (D.chk P d && D.chkL P ds) := rfl
@[simp] theorem chkL_append {es : List D} : D.chkL P (ds ++ es) = (D.chkL P ds && D.chkL P es) := chkL_rev P ds es
@[simp] theorem rem_non : D.rem F .non = .non := rfl
@[simp] theorem rem_bl {b : Bool} : D.rem F (.bl b) = .bl b := rfl
@[simp] theorem rem_int {b : Int} : D.rem F (.int b) = .int b := rfl
@[simp] theorem rem_str {b : Str} : D.rem F (.str b) = .str b := rfl
@[simp] theorem rem_tup : D.rem F (.tup ds) = .tup (D.remL F ds) := rfl
@[simp] theorem rem_lst : D.rem F (.lst m ds) = .lst (F m) (D.remL F ds) := rfl
@[simp] theorem remL_nil : D.remL F [] = [] := rfl
@[simp] theorem remL_cons : D.remL F (d :: ds) = D.rem F d :: D.remL F ds := rfl
theorem remL_eq : D.remL F ds = ds.map (D.rem F) := by
  induction ds with
  | nil => rfl
  | cons a ds ih => show D.rem F a :: _ = _; rw [ih]; rfl
@[simp] theorem remL_append {es : List D} : D.remL F (ds ++ es) = D.remL F ds ++ D.remL F es := by rw [remL_eq, remL_eq, remL_eq, List.map_append]
theorem chkL_eq : D.chkL P ds = ds.all (D.chk P) := by
  induction ds with
  | nil => rfl
  | cons a ds ih => show (D.chk P a && _) = _; rw [ih]; rfl
theorem remL_map {α : Type} {k : α → D} {xs : List α} : D.remL F (xs.map k) = xs.map fun x => D.rem F (k x) := by rw [remL_eq, List.map_map]; rfl
theorem chkL_map {α : Type} {k : α → D} {xs : List α} : D.chkL P (xs.map k) = xs.all fun x => D.chk P (k x) := by rw [chkL_eq, List.all_map]; rfl
@[simp] theorem remL_ints {xs : List Int} : D.remL F (xs.map .int) = xs.map .int := by rw [remL_map]; rfl
@[simp] theorem remL_strs {xs : List Str} : D.remL F (xs.map .str) = xs.map .str := by rw [remL_map]; rfl
@[simp] theorem chkL_ints {xs : List Int} : D.chkL P (xs.map .int) = true := by rw [chkL_map]; simp
@[simp] theorem chkL_strs {xs : List Str} : D.chkL P (xs.map .str) = true := by rw [chkL_map]; simp
@[simp] theorem fz_own : fz .own = .frz := rfl
@[simp] theorem fz_frz : fz .frz = .frz := rfl
@[simp] theorem fz_brw : fz .brw = .frz := rfl
@[simp] theorem fz_ro : fz .ro = .ro := rfl
@[simp] theorem pk_own : pk .own = .brw := rfl
@[simp] theorem pk_frz : pk .frz = .frz := rfl
@[simp] theorem pk_brw : pk .brw = .brw := rfl
@[simp] theorem pk_ro : pk .ro = .ro := rfl
@[simp] theorem ib1 : Mk.isBrw .own = false := rfl
@[simp] theorem ib2 : Mk.isBrw .frz = false := rfl
@[simp] theorem ib3 : Mk.isBrw .brw = true := rfl
@[simp] theorem ib4 : Mk.isBrw .ro = false := rfl
@[simp] theorem io1 : Mk.isOwn .own = true := rfl
@[simp] theorem io2 : Mk.isOwn .frz = false := rfl
@[simp] theorem io3 : Mk.isOwn .brw = false := rfl
@[simp] theorem io4 : Mk.isOwn .ro = false := rfl
@[simp] theorem if1 : Mk.isFrz .own = false := rfl
@[simp] theorem if2 : Mk.isFrz .frz = true := rfl
@[simp] theorem if3 : Mk.isFrz .brw = false := rfl
@[simp] theorem if4 : Mk.isFrz .ro = false := rfl
/-! operations -/
@[simp] theorem eqD_str {a b : Str} : eqD (.str a) (.str b) = some (decide (a = b)) := rfl
@[simp] theorem eqD_int {a b : Int} : eqD (.int a) (.int b) = some (decide (a = b)) := rfl
@[simp] theorem eqD_bl {a b : Bool} : eqD (.bl a) (.bl b) = some (decide (a = b)) := rfl
@[simp] theorem oEq_eq : oEq d e = (eqD d e).map .bl := rfl
@[simp] theorem oNe_eq : oNe d e = (eqD d e).map fun b => .bl (!b) := rfl
@[simp] theorem oIs_eq {n : Bool} : oIs n d e = (isD d e).map fun b => .bl (if n then !b else b) := rfl
@[simp] theorem oIn_eq {n : Bool} : oIn n d e = (inD d e).map fun b => .bl (if n then !b else b) := rfl
@[simp] theorem oSub_eq {i j : Int} : oSub (.int i) (.int j) = some (.int (i - j)) := rfl
@[simp] theorem oAdd_int {i j : Int} : oAdd (.int i) (.int j) = some (.int (i + j)) := rfl
@[simp] theorem oAdd_str {a b : Str} : oAdd (.str a) (.str b) = if a.length + b.length ≤ sizeLine then some (.str (a ++ b)) else none := rfl
@[simp] theorem oMul_int {i j : Int} : oMul (.int i) (.int j) = if cMul i j = true then some (.int (i * j)) else none := rfl
@[simp] theorem oDiv_int {i j : Int} : oDiv (.int i) (.int j) = if cDiv i j = true then some (.int (i.fdiv j)) else none := rfl
theorem oMod_int {i j : Int} (h : j ≠ 0) : oMod (.int i) (.int j) = some (.int (i.fmod j)) := by
  show (if decide (j ≠ 0) = true then _ else _) = _
  rw [decide_eq_true h]; rfl
@[simp] theorem oMod_eq {i j : Int} : oMod (.int i) (.int j) = if j = 0 then none else some (.int (i.fmod j)) := by
  by_cases h : j = 0
  · subst h; rfl
  · rw [oMod_int h, if_neg h]
@[simp] theorem oLt_eq {i j : Int} : oLt (.int i) (.int j) = some (.bl (decide (i < j))) := rfl
@[simp] theorem oLe_eq {i j : Int} : oLe (.int i) (.int j) = some (.bl (decide (i ≤ j))) := rfl
@[simp] theorem oGt_eq {i j : Int} : oGt (.int i) (.int j) = some (.bl (decide (j < i))) := rfl
@[simp] theorem oGe_eq {i j : Int} : oGe (.int i) (.int j) = some (.bl (decide (j ≤ i))) := rfl
@[simp] theorem oLen_lst : oLen [.lst m ds] = some (.int ds.length) := rfl
@[simp] theorem oLen_tup : oLen [.tup ds] = some (.int ds.length) := rfl
@[simp] theorem oLen_str {z : Str} : oLen [.str z] = if z.length ≤ sizeLine then some (.int z.length) else none := rfl
@[simp] theorem oInt_int {i : Int} : oInt [.int i] = some (.int i) := rfl
@[simp] theorem oInt_bl {b : Bool} : oInt [.bl b] = some (.int (if b then 1 else 0)) := rfl
@[simp] theorem ixD_lst {i : Int} : ixD (.lst m ds) (.int i) = atI ds i := rfl
@[simp] theorem ixD_tup {i : Int} : ixD (.tup ds) (.int i) = atI ds i := rfl
@[simp] theorem ixD_str {z : Str} {i : Int} : ixD (.str z) (.int i) = if z.length ≤ sizeLine then (atI z.cps.toList i).map fun c => .str ⟨#[c]⟩ else none := rfl
@[simp] theorem isD_bl {a b : Bool} : isD (.bl a) (.bl b) = some (a == b) := rfl
@[simp] theorem isD_nn : isD .non .non = some true := rfl
@[simp] theorem isD_ln : isD (.lst m ds) .non = some false := rfl
@[simp] theorem isD_tn : isD (.tup ds) .non = some false := rfl
@[simp] theorem isD_sn {z : Str} : isD (.str z) .non = some false := rfl
@[simp] theorem isD_in {i : Int} : isD (.int i) .non = some false := rfl
@[simp] theorem isD_bn {i : Bool} : isD (.bl i) .non = some false := rfl
theorem size_big : 1000000 ≤ sizeLine := by decide +kernel
@[simp] theorem oTup_eq : oTup ds = if ds.length ≤ sizeLine then some (.tup ds) else none := rfl
@[simp] theorem oLst_eq : oLst ds = if ds.length ≤ sizeLine then some (.lst .own ds) else none := rfl
/-! items at numerals -/
theorem atI_get {α : Type} {xs : List α} {i : Nat} {x : α} (h : xs[i]? = some x) : atI xs (i : Int) = some x := by
  unfold atI ixN
  have hl : i < xs.length := (List.getElem?_eq_some_iff.mp h).1
  rw [if_pos (by omega), if_pos (by omega)]
  simpa using h
@[simp] theorem atI_0 {α : Type} {x : α} {xs : List α} : atI (x :: xs) 0 = some x := atI_get (i := 0) rfl
@[simp] theorem atI_1 {α : Type} {x y : α} {xs : List α} : atI (y :: x :: xs) 1 = some x := atI_get (i := 1) rfl
@[simp] theorem atI_2 {α : Type} {x y z : α} {xs : List α} : atI (y :: z :: x :: xs) 2 = some x := atI_get (i := 2) rfl
@[simp] theorem atI_3 {α : Type} {x y z w : α} {xs : List α} : atI (y :: z :: w :: x :: xs) 3 = some x := atI_get (i := 3) rfl
@[simp] theorem atI_4 {α : Type} {x y z w u : α} {xs : List α} : atI (y :: z :: w :: u :: x :: xs) 4 = some x := atI_get (i := 4) rfl
theorem atI_map {α β : Type} {k : α → β} {xs : List α} {i : Int} : atI (xs.map k) i = (atI xs i).map k := by
  unfold atI
  rw [List.length_map]
  cases ixN xs.length i with
  | none => rfl
  | some j => simp
end
theorem placeL_0 {ρ : Env} {i : Nat} {ds : List D} (h : getS ρ i = some (.lst .own ds)) : placeL ρ i [] = some (.lst .own ds, ds) := by
  unfold placeL; rw [h]; rfl
@[simp] theorem sSetL_0 {ρ : Env} {i : Nat} {f : EF} {g : PF} : sSetL i l0 f g ρ = match f ρ with
  | some (.ok d ρ1) => (match asInt (g ρ1) with
    | some j => (match ownL (getS ρ1 i) with
      | some ds => if d.noBrw = true then (ixN ds.length j).map fun k => .nx (setS ρ1 i (some (.lst .own (ds.set k d)))) else none
      | none => none)
    | none => none)
  | some (.ex n xs ρ1) => some (.ex n xs ρ1)
  | none => none := by
  unfold sSetL
  cases q : f ρ with
  | none => rfl
  | some r =>
    cases r with
    | ex n xs ρ1 => rfl
    | ok d ρ1 =>
      show (match l0 ρ1, asInt (g ρ1) with | some π, some j => (setL ρ1 i π j d).map Out.nx | _, _ => none) = (match asInt (g ρ1) with
    | some j => (match ownL (getS ρ1 i) with
      | some ds => if d.noBrw = true then (ixN ds.length j).map fun k => Out.nx (setS ρ1 i (some (.lst .own (ds.set k d)))) else none
      | none => none)
    | none => none)
      cases q2 : asInt (g ρ1) with
      | none => rfl
      | some j =>
        show (setL ρ1 i [] j d).map Out.nx = _
        dsimp only
        unfold setL
        cases q3 : ownL (getS ρ1 i) with
        | none =>
          have : placeL ρ1 i [] = none := by
            unfold placeL
            cases q4 : getS ρ1 i with
            | none => rfl
            | some d0 =>
              rw [q4] at q3
              dsimp only
              split
              · show ((ownL (dAt d0 [])).map _) = none
                rw [show dAt d0 [] = some d0 from by cases d0 <;> rfl, q3]; rfl
              · rfl
          rw [this]; rfl
        | some ds =>
          rw [placeL_0 (ownL_some q3)]
          dsimp only
          split
          · rw [Option.map_map]; rfl
          · rfl
@[simp] theorem asInt_int {j : Int} : asInt (some (.int j)) = some j := rfl
@[simp] theorem ownL_own {ds : List D} : ownL (some (.lst .own ds)) = some ds := rfl
theorem ixN_lt {n j : Nat} (h : j < n) : ixN n (j : Int) = some j := by unfold ixN; rw [if_pos (by omega), if_pos (by omega)]; simp
@[simp] theorem ixN_0 {n : Nat} : ixN (n + 1) 0 = some 0 := ixN_lt (j := 0) (by omega)
@[simp] theorem ixN_1 {n : Nat} : ixN (n + 1 + 1) 1 = some 1 := ixN_lt (j := 1) (by omega)
@[simp] theorem ixN_2 {n : Nat} : ixN (n + 1 + 1 + 1) 2 = some 2 := ixN_lt (j := 2) (by omega)
@[simp] theorem ixN_3 {n : Nat} : ixN (n + 1 + 1 + 1 + 1) 3 = some 3 := ixN_lt (j := 3) (by omega)
@[simp] theorem ixN_4 {n : Nat} : ixN (n + 1 + 1 + 1 + 1 + 1) 4 = some 4 := ixN_lt (j := 4) (by omega)
theorem cMul_r {i j : Int} (h : -(2 ^ 64) < j) (h2 : j < 2 ^ 64) : cMul i j = true := by
  unfold cMul; rw [decide_eq_true h, decide_eq_true h2]; simp
theorem cMul_l {i j : Int} (h : -(2 ^ 64) < i) (h2 : i < 2 ^ 64) : cMul i j = true := by
  unfold cMul; rw [decide_eq_true h, decide_eq_true h2]; simp
theorem cDiv_ok {i j : Int} (h : 0 < j) (h2 : j < 1073741824) : cDiv i j = true := by
  unfold cDiv; rw [decide_eq_true (by omega), decide_eq_true (by omega)]; rfl
theorem atI_lt {α : Type} {xs : List α} {i : Int} (h : 0 ≤ i) (h2 : i < xs.length) : ∃ x, atI xs i = some x ∧ x ∈ xs := by
  obtain ⟨k, rfl⟩ := Int.eq_ofNat_of_zero_le h
  have hk : k < xs.length := by omega
  exact ⟨xs[k], atI_get (List.getElem?_eq_getElem hk), List.getElem_mem hk⟩
/-! loops -/
@[simp] theorem bN_eq {i : Nat} {d : D} {ρ : Env} : bN i d ρ = if i < ρ.length then some (setS ρ i (some d)) else none := rfl
@[simp] theorem bT_eq {bs : BFs} {ds : List D} {ρ : Env} : bT bs (.tup ds) ρ = bs ds ρ := rfl
@[simp] theorem bsNil_eq {ρ : Env} : bsNil [] ρ = some ρ := rfl
@[simp] theorem bsCons_eq {b : BF} {bs : BFs} {d : D} {ds : List D} {ρ : Env} : bsCons b bs (d :: ds) ρ = (b d ρ).bind (bs ds) := rfl
@[simp] theorem clrS_nil {ρ : Env} : clrS [] ρ = ρ := rfl
@[simp] theorem clrS_cons {i : Nat} {is : List Nat} {ρ : Env} : clrS (i :: is) ρ = clrS is (setS ρ i none) := rfl
@[simp] theorem clrO_nx {is : List Nat} {ρ : Env} : clrO is (some (.nx ρ)) = some (.nx (clrS is ρ)) := rfl
@[simp] theorem clrO_rt {is : List Nat} {ρ : Env} {d : D} : clrO is (some (.rt d ρ)) = some (.rt d ρ) := rfl
@[simp] theorem clrO_ex {is : List Nat} {ρ : Env} {n : Str} {fs : List (Str × D)} : clrO is (some (.ex n fs ρ)) = some (.ex n fs ρ) := rfl
@[simp] theorem loop_nil {b : BF} {g : SF} {ρ : Env} : loop b g [] ρ = some (.nx ρ) := rfl
@[simp] theorem loop_cons {b : BF} {g : SF} {ρ : Env} {d : D} {ds : List D} : loop b g (d :: ds) ρ = match b d ρ with
    | none => none
    | some ρ1 => match g ρ1 with
      | some (.nx ρ2) => loop b g ds ρ2
      | r => r := rfl
theorem sFor_of {q : IF} {b : BF} {g : SF} {is : List Nat} {ρ ρ' : Env} {d : D} {ds : List D} (h : q ρ = some (.ok (d, ds) ρ')) : sFor q b g is ρ = clrO is (loop b g ds ρ') := by unfold sFor; rw [h]
def Post (N : Env → Prop) (R : Out → Prop) : Option Out → Prop
  | some (.nx ρ) => N ρ
  | some o => R o
  | none => False
theorem loop_post {b : BF} {g : SF} {I : Nat → Env → Prop} {R : Out → Prop} : ∀ {ds : List D} (n : Nat), (∀ k d ρ, ds[k]? = some d → I (n + k) ρ → ∃ ρ1, b d ρ = some ρ1 ∧ Post (I (n + k + 1)) R (g ρ1)) → ∀ ρ, I n ρ → Post (I (n + ds.length)) R (loop b g ds ρ)
  | [], n, _, ρ, h => h
  | d :: ds, n, hs, ρ, h => by
    obtain ⟨ρ1, e, p⟩ := hs 0 d ρ rfl h
    rw [loop_cons, e]
    dsimp only
    cases q : g ρ1 with
    | none => rw [q] at p; exact p
    | some o =>
      rw [q] at p
      cases o with
      | nx ρ2 =>
        have := loop_post (ds := ds) (n + 1) (fun k d ρ e i => by
          have := hs (k + 1) d ρ (by simpa using e) (by rw [show n + (k + 1) = n + 1 + k by omega]; exact i)
          rw [show n + (k + 1) = n + 1 + k by omega] at this
          exact this) ρ2 p
        rw [List.length_cons, show n + (ds.length + 1) = n + 1 + ds.length by omega]
        exact this
      | rt d ρ2 => exact p
      | ex n fs ρ2 => exact p
/-- a loop that always comes to its end -/
theorem loop_inv {b : BF} {g : SF} {I : Nat → Env → Prop} {ds : List D} (hs : ∀ k d ρ, ds[k]? = some d → I k ρ → ∃ ρ1 ρ2, b d ρ = some ρ1 ∧ g ρ1 = some (.nx ρ2) ∧ I (k + 1) ρ2) {ρ : Env} (h : I 0 ρ) : ∃ ρ', loop b g ds ρ = some (.nx ρ') ∧ I ds.length ρ' := by
  have := loop_post (b := b) (g := g) (I := I) (R := fun _ => False) (ds := ds) 0 (fun k d ρ e i => by
    rw [Nat.zero_add] at i ⊢
    obtain ⟨ρ1, ρ2, e1, e2, i2⟩ := hs k d ρ e i
    exact ⟨ρ1, e1, by rw [e2]; exact i2⟩) ρ h
  rw [Nat.zero_add] at this
  cases q : loop b g ds ρ with
  | none => rw [q] at this; exact this.elim
  | some o =>
    rw [q] at this
    cases o with
    | nx ρ' => exact ⟨ρ', rfl, this⟩
    | rt d ρ' => exact this.elim
    | ex n fs ρ' => exact this.elim
theorem whileN_s {t : TF} {g : SF} {n : Nat} {ρ : Env} : whileN t g (n + 1) ρ = match t ρ with
    | some (.ok true ρ') => (match g ρ' with
      | some (.nx ρ2) => whileN t g n ρ2
      | r => r)
    | some (.ok false ρ') => some (.nx ρ')
    | some (.ex m fs ρ') => some (.ex m fs ρ')
    | none => none := rfl
/-- a while loop with a measure -/
theorem while_post {t : TF} {g : SF} {I : Nat → Env → Prop} {N : Env → Prop} {R : Out → Prop} (hs : ∀ m ρ, I m ρ → (∃ ρ', t ρ = some (.ok false ρ') ∧ N ρ') ∨ (∃ ρ', t ρ = some (.ok true ρ') ∧ Post (fun ρ2 => ∃ k, k < m ∧ I k ρ2) R (g ρ'))) : ∀ (n m : Nat) (ρ : Env), m < n → I m ρ → Post N R (whileN t g n ρ)
  | 0, m, ρ, h, _ => absurd h (Nat.not_lt_zero m)
  | n + 1, m, ρ, h, i => by
    rw [whileN_s]
    rcases hs m ρ i with ⟨ρ', e, j⟩ | ⟨ρ', e, j⟩
    · rw [e]; exact j
    · rw [e]
      dsimp only
      cases q : g ρ' with
      | none => rw [q] at j; exact j
      | some o =>
        rw [q] at j
        cases o with
        | nx ρ2 =>
          obtain ⟨k, hk, ik⟩ := j
          exact while_post hs n k ρ2 (by omega) ik
        | rt d ρ2 => exact j
        | ex n fs ρ2 => exact j
theorem sWhile_post {t : TF} {g : SF} {I : Nat → Env → Prop} {N : Env → Prop} {R : Out → Prop} (hs : ∀ m ρ, I m ρ → (∃ ρ', t ρ = some (.ok false ρ') ∧ N ρ') ∨ (∃ ρ', t ρ = some (.ok true ρ') ∧ Post (fun ρ2 => ∃ k, k < m ∧ I k ρ2) R (g ρ'))) {m : Nat} {ρ : Env} (hm : m < fuel) (i : I m ρ) : Post N R (sWhile t g ρ) := while_post hs fuel m ρ hm i
theorem Post.get {N : Env → Prop} {R : Out → Prop} {o : Option Out} (h : Post N R o) (hR : ∀ x, ¬ R x) : ∃ ρ, o = some (.nx ρ) ∧ N ρ := by
  cases o with
  | none => exact h.elim
  | some o => cases o with
    | nx ρ => exact ⟨ρ, rfl, h⟩
    | rt d ρ => exact (hR _ h).elim
    | ex n fs ρ => exact (hR _ h).elim
/-- what is walked -/
theorem iAll_lst {f : EF} {ρ ρ' : Env} {m : Mk} {ds : List D} (h : f ρ = some (.ok (.lst m ds) ρ')) (hb : (D.lst m ds).noBrw = true) : iAll f ρ = some (.ok ((D.lst m ds).frz, D.remL fz ds) ρ') := by
  unfold iAll iSeq
  rw [h]
  dsimp only
  rw [if_pos hb]; rfl
theorem iAll_tup {f : EF} {ρ ρ' : Env} {ds : List D} (h : f ρ = some (.ok (.tup ds) ρ')) (hb : (D.tup ds).noBrw = true) : iAll f ρ = some (.ok ((D.tup ds).frz, D.remL fz ds) ρ') := by
  unfold iAll iSeq
  rw [h]
  dsimp only
  rw [if_pos hb]; rfl
theorem iAll_str {f : EF} {ρ ρ' : Env} {z : Str} (h : f ρ = some (.ok (.str z) ρ')) : iAll f ρ = some (.ok (.str z, strD z) ρ') := by
  unfold iAll
  rw [h]
theorem okR_small {j : Int} (h : -1000000000 ≤ j) (h2 : j ≤ 1000000000) : okR j = true := by
  unfold okR; rw [decide_eq_true (by omega), decide_eq_true (by omega)]; rfl
theorem iRng_1 {f : EF} {ρ ρ' : Env} {j : Int} (h : f ρ = some (.ok (.int j) ρ')) (hj : okR j = true) : iRng [f] ρ = some (.ok (.non, rngD 0 j.toNat) ρ') := by
  unfold iRng
  rw [evE_cons, h]
  simp [rngOf, hj]
theorem rngD_at {lo : Int} {n k : Nat} (h : k < n) : (rngD lo n)[k]? = some (.int (lo + k)) := by
  unfold rngD; rw [List.getElem?_map, List.getElem?_range h]; rfl
end DL

end
section
/-! DM2: calls that lend, comprehensions, in; texts in lists. -/
open PySem PySem.Spec L2
namespace DL
theorem getS_setS_ne : ∀ (ρ : Env) (i j : Nat) (a : Option D), i ≠ j → getS (setS ρ i a) j = getS ρ j
  | [], _, _, _, _ => rfl
  | x :: r, 0, 0, _, h => absurd rfl h
  | x :: r, 0, j + 1, _, _ => rfl
  | x :: r, i + 1, 0, _, _ => rfl
  | x :: r, i + 1, j + 1, a, h => getS_setS_ne r i j a (fun e => h (by rw [e]))
/-- f(x) with x lent -/
theorem eC_l {ff : FF} {i : Nat} {ρ : Env} {d v d' : D} (h : getS ρ i = some d) (h2 : ff [d] = some (.ret v [d'])) : eC ff [.ln i] ρ = some (.ok v (setS ρ i (some d'))) := by
  simp [eC, evA, fill, unfill, h, h2, setS_setS]
/-- f(x, e) with x lent, e an expression that changes nothing -/
theorem eC_le {ff : FF} {i : Nat} {f : EF} {ρ : Env} {d v d' x : D} (h : getS ρ i = some d) (h1 : f ρ = some (.ok x ρ)) (nb : x.noBrw = true) (h2 : ff [d, x.frz] = some (.ret v [d'])) : eC ff [.ln i, .ex f] ρ = some (.ok v (setS ρ i (some d'))) := by
  simp [eC, evA, fill, unfill, h, h1, nb, h2, setS_setS]
theorem eC_lee {ff : FF} {i : Nat} {f g : EF} {ρ : Env} {d v d' x y : D} (h : getS ρ i = some d) (h1 : f ρ = some (.ok x ρ)) (nb : x.noBrw = true) (h3 : g ρ = some (.ok y ρ)) (nb2 : y.noBrw = true) (h2 : ff [d, x.frz, y.frz] = some (.ret v [d'])) : eC ff [.ln i, .ex f, .ex g] ρ = some (.ok v (setS ρ i (some d'))) := by
  simp [eC, evA, fill, unfill, h, h1, nb, h3, nb2, h2, setS_setS]
/-! ### comprehensions that change nothing -/
theorem loopC_pure {b : BF} {t : TF} {f : EF} {is : List Nat} {ρ : Env} (p : D → Bool) (k : D → D) : ∀ (ds acc : List D), (∀ x ∈ ds, ∃ ρ1, b x ρ = some ρ1 ∧ t ρ1 = some (.ok (p x) ρ1) ∧ (p x = true → f ρ1 = some (.ok (k x) ρ1) ∧ (k x).noBrw = true) ∧ clrS is ρ1 = ρ) → acc.length + ds.length ≤ sizeLine →
    loopC b t f is ds acc ρ = some (acc ++ (ds.filter p).map k, ρ)
  | [], acc, _, _ => by simp [loopC]
  | x :: ds, acc, h, hl => by
    obtain ⟨ρ1, e1, e2, e3, e4⟩ := h x List.mem_cons_self
    rw [List.length_cons] at hl
    unfold loopC
    rw [e1]
    dsimp only
    rw [e2]
    cases hp : p x with
    | false =>
      dsimp only
      rw [e4, loopC_pure p k ds acc (fun y hy => h y (List.mem_cons_of_mem _ hy)) (by omega), List.filter_cons_of_neg (by simp [hp])]
    | true =>
      dsimp only
      obtain ⟨e5, e6⟩ := e3 hp
      rw [e5]
      dsimp only
      rw [if_pos ⟨e6, by omega⟩, e4, loopC_pure p k ds _ (fun y hy => h y (List.mem_cons_of_mem _ hy)) (by rw [List.length_append, List.length_singleton]; omega), List.filter_cons_of_pos hp]
      simp
theorem eLc_pure {q : IF} {b : BF} {t : TF} {f : EF} {is : List Nat} {ρ ρ' ρ0 : Env} {d : D} {ds : List D} (p : D → Bool) (k : D → D) (hq : q ρ = some (.ok (d, ds) ρ')) (hc : clrS is ρ' = ρ0) (hc0 : clrS is ρ0 = ρ0)
    (h : ∀ x ∈ ds, ∃ ρ1, b x ρ0 = some ρ1 ∧ t ρ1 = some (.ok (p x) ρ1) ∧ (p x = true → f ρ1 = some (.ok (k x) ρ1) ∧ (k x).noBrw = true) ∧ clrS is ρ1 = ρ0) (hl : ds.length ≤ sizeLine) :
    eLc q b t f is ρ = some (.ok (.lst .own ((ds.filter p).map k)) ρ0) := by
  unfold eLc
  rw [hq]
  dsimp only
  rw [hc, loopC_pure p k ds [] h (by simpa using hl)]
  simp [hc0]
theorem setS_same : ∀ {ρ : Env} {i : Nat} {d : D}, getS ρ i = some d → setS ρ i (some d) = ρ
  | [], _, _, h => by cases h
  | x :: r, 0, d, h => by have : x = some d := h; rw [this]; rfl
  | x :: r, i + 1, d, h => by show x :: _ = x :: _; rw [setS_same (ρ := r) h]
theorem setS_len : ∀ {ρ : Env} {i : Nat} {d : Option D}, (setS ρ i d).length = ρ.length
  | [], _, _ => rfl
  | x :: r, 0, d => rfl
  | x :: r, i + 1, d => by show (setS r i d).length + 1 = _; rw [setS_len]; rfl
theorem eLcO_pure {i : Nat} {b : BF} {t : TF} {f : EF} {is : List Nat} {ρ ρ0 : Env} {ds : List D} (p : D → Bool) (k : D → D) (h0 : getS ρ i = some (.lst .own ds)) (c1 : D.chkL (fun m => !m.isOwn) ds = true) (c2 : D.chkL (fun m => !m.isBrw) ds = true) (hc : clrS is (setS ρ i none) = ρ0) (hc0 : clrS is ρ0 = ρ0)
    (h : ∀ x ∈ ds, ∃ ρ1, b x ρ0 = some ρ1 ∧ t ρ1 = some (.ok (p x) ρ1) ∧ (p x = true → f ρ1 = some (.ok (k x) ρ1) ∧ (k x).noBrw = true) ∧ clrS is ρ1 = ρ0) (hl : ds.length ≤ sizeLine) (hi : i < ρ0.length) :
    eLcO i b t f is ρ = some (.ok (.lst .own ((ds.filter p).map k)) (setS ρ0 i (some (.lst .own ds)))) := by
  unfold eLcO
  rw [h0]
  unfold ownW
  dsimp only
  rw [if_pos ⟨c1, c2⟩]
  dsimp only
  rw [hc, loopC_pure p k ds [] h (by simpa using hl)]
  dsimp only
  rw [hc0, if_pos hi]
  rfl
@[simp] theorem tYesF_eq {ρ : Env} : tYesF ρ = some (.ok true ρ) := rfl
/-! ### in -/
theorem any_str (s : Str) (xs : List Str) : ((xs.map D.str).any fun y => eqF y (.str s)) = decide (s ∈ xs) := by
  induction xs with
  | nil => simp
  | cons x xs ih =>
    rw [List.map_cons, List.any_cons, ih]
    show ((x == s) || _) = _
    by_cases h : x = s
    · subst h; simp
    · have h' : ¬ s = x := fun e => h e.symm
      simp [h, h']
theorem all_str (xs : List Str) : (xs.map D.str).all flatD = true := by
  induction xs with
  | nil => rfl
  | cons x xs ih => rw [List.map_cons, List.all_cons, ih]; rfl
@[simp] theorem inD_strs {s : Str} {m : Mk} {xs : List Str} : inD (.str s) (.lst m (xs.map .str)) = some (decide (s ∈ xs)) := by
  unfold inD
  dsimp only
  rw [all_str]
  show some _ = _
  rw [any_str]
@[simp] theorem oApp_eq {ds : List D} {d : D} : oApp ds [d] = if ds.length < sizeLine then some (ds ++ [d], .non) else none := rfl
@[simp] theorem oIns_eq {ds : List D} {d : D} {i : Int} : oIns ds [.int i, d] = if ds.length < sizeLine ∧ 0 ≤ i ∧ i < 2 ^ 63 then some (ds.take i.toNat ++ [d] ++ ds.drop i.toNat, .non) else none := rfl
@[simp] theorem eL_eq {o : OL} {i : Nat} {fs : List EF} {ρ : Env} : eL o i fs ρ = match ownL (getS ρ i) with
  | some _ => (match evE fs ρ with
    | some (.ok args ρ') => if D.chkL (fun m => !m.isBrw) args = true then (match ownL (getS ρ' i) with
      | some ds => (o ds args).map fun p => .ok p.2 (setS ρ' i (some (.lst .own p.1)))
      | none => none) else none
    | some (.ex n xs ρ') => some (.ex n xs ρ')
    | none => none)
  | none => none := rfl
@[simp] theorem eMv_eq {i : Nat} {ρ : Env} : eMv i ρ = (getS ρ i).map fun d => .ok d (setS ρ i none) := rfl
@[simp] theorem eFz_eq {i : Nat} {ρ : Env} : eFz i ρ = (getS ρ i).map fun d => .ok d.frz (setS ρ i (some d.frz)) := rfl
@[simp] theorem eB_eq {o : O2} {f g : EF} {ρ : Env} : eB o f g ρ = match f ρ with
  | some (.ok d ρ1) => if d.noBrw = true then (match g ρ1 with
    | some (.ok e ρ2) => (o d e).map (.ok · ρ2)
    | some (.ex n xs ρ2) => some (.ex n xs ρ2)
    | none => none) else none
  | some (.ex n xs ρ1) => some (.ex n xs ρ1)
  | none => none := by
  unfold eB
  cases f ρ with
  | none => rfl
  | some r => cases r with
    | ex n xs ρ1 => rfl
    | ok d ρ1 =>
      dsimp only
      split
      · cases g ρ1 with
        | none => rfl
        | some r => cases r <;> rfl
      · rfl
@[simp] theorem tAndF_eq {t u : TF} {ρ : Env} : tAndF t u ρ = match t ρ with | some (.ok true ρ') => u ρ' | r => r := rfl
@[simp] theorem tOrF_eq {t u : TF} {ρ : Env} : tOrF t u ρ = match t ρ with | some (.ok false ρ') => u ρ' | r => r := rfl
@[simp] theorem tNotF_eq {t : TF} {ρ : Env} : tNotF t ρ = match t ρ with | some (.ok b ρ') => some (.ok (!b) ρ') | r => r := rfl
@[simp] theorem pNeg_eq {f : PF} {ρ : Env} : pNeg f ρ = match f ρ with | some (.int i) => some (.int (-i)) | _ => none := rfl
@[simp] theorem oList_lst {m : Mk} {ds : List D} : oList [.lst m ds] = some (.lst .own ds) := rfl
@[simp] theorem oList_tup {ds : List D} : oList [.tup ds] = some (.lst .own ds) := rfl
@[simp] theorem oAdd_lst {m n : Mk} {ds es : List D} : oAdd (.lst m ds) (.lst n es) = if m ≠ .ro ∧ n ≠ .ro ∧ ds.length + es.length ≤ sizeLine then some (.lst .own (ds ++ es)) else none := rfl
@[simp] theorem mk_ne1 : (Mk.own = Mk.ro) = False := by simp
@[simp] theorem mk_ne2 : (Mk.frz = Mk.ro) = False := by simp
@[simp] theorem mk_ne3 : (Mk.brw = Mk.ro) = False := by simp
theorem oCall_nb {f : FF} {ds : List D} {d : D} {ls : List D} (h : f (D.remL fz ds) = some (.ret d ls)) (c : D.chkL (fun m => !m.isBrw) ds = true ∨ d.noFrz = true) : oCall f ds = some d := by
  unfold oCall
  rw [h]
  dsimp only
  rw [if_pos c]
theorem iSeq_lst {f : EF} {ρ ρ' : Env} {m : Mk} {ds : List D} (h : f ρ = some (.ok (.lst m ds) ρ')) (hb : (D.lst m ds).noBrw = true) : iSeq f ρ = some (.ok ((D.lst m ds).frz, D.remL fz ds) ρ') := by
  unfold iSeq
  rw [h]
  dsimp only
  rw [if_pos hb]; rfl
@[simp] theorem chkL_takeS {P : Mk → Bool} {ds : List D} {n : Nat} (h : D.chkL P ds = true) : D.chkL P (ds.take n) = true := by
  rw [chkL_eq] at h ⊢
  exact List.all_eq_true.mpr fun x hx => List.all_eq_true.mp h x (List.mem_of_mem_take hx)
@[simp] theorem chkL_dropS {P : Mk → Bool} {ds : List D} {n : Nat} (h : D.chkL P ds = true) : D.chkL P (ds.drop n) = true := by
  rw [chkL_eq] at h ⊢
  exact List.all_eq_true.mpr fun x hx => List.all_eq_true.mp h x (List.mem_of_mem_drop hx)

theorem getS_setS_eq : ∀ {ρ : Env} {i : Nat} {d : Option D}, i < ρ.length → getS (setS ρ i d) i = d
  | [], _, _, h => by cases h
  | x :: r, 0, d, h => rfl
  | x :: r, i + 1, d, h => getS_setS_eq (ρ := r) (by simpa using h)
end DL

end
section
/-! DM3: more rules for reading a def's function. -/
open PySem PySem.Spec L2
namespace DL
theorem iRng_2 {f g : EF} {ρ ρ1 ρ2 : Env} {i j : Int} (h1 : f ρ = some (.ok (.int i) ρ1)) (h2 : g ρ1 = some (.ok (.int j) ρ2)) (hi : okR i = true) (hj : okR j = true) : iRng [f, g] ρ = some (.ok (.non, rngD i (j - i).toNat) ρ2) := by
  unfold iRng
  rw [evE_cons, h1]
  dsimp only
  rw [if_pos (by rfl), evE_cons, h2]
  simp [rngOf, hi, hj]
theorem blsOf_map (ys : List Bool) : blsOf (ys.map .bl) = some ys := by
  induction ys with
  | nil => rfl
  | cons y ys ih => show (blsOf (ys.map .bl)).map _ = _; rw [ih]; rfl
theorem intsOf_map (ys : List Int) : intsOf (ys.map .int) = some ys := by
  induction ys with
  | nil => rfl
  | cons y ys ih => show (intsOf (ys.map .int)).map _ = _; rw [ih]; rfl
@[simp] theorem oAny_bls {m : Mk} {ys : List Bool} : oAny [.lst m (ys.map .bl)] = some (.bl (ys.any id)) := by
  show (blsOf _).map _ = _
  rw [blsOf_map]; rfl
@[simp] theorem oAll_bls {m : Mk} {ys : List Bool} : oAll [.lst m (ys.map .bl)] = some (.bl (ys.all id)) := by
  show (blsOf _).map _ = _
  rw [blsOf_map]; rfl
@[simp] theorem chkL_bls {P : Mk → Bool} {xs : List Bool} : D.chkL P (xs.map .bl) = true := by rw [chkL_map]; simp
@[simp] theorem remL_bls {F : Mk → Mk} {xs : List Bool} : D.remL F (xs.map .bl) = xs.map .bl := by rw [remL_map]; rfl
@[simp] theorem eIf_eq {t : TF} {f g : EF} {ρ : Env} : eIf t f g ρ = match t ρ with
  | some (.ok true ρ') => f ρ'
  | some (.ok false ρ') => g ρ'
  | some (.ex n fs ρ') => some (.ex n fs ρ')
  | none => none := by unfold eIf; cases t ρ with | none => rfl | some r => cases r with | ok b ρ' => cases b <;> rfl | ex => rfl
theorem sIf_t {t : TF} {g h : SF} {ρ ρ' : Env} (e : t ρ = some (.ok true ρ')) : sIf t g h ρ = g ρ' := by rw [sIf_eq, e]
theorem sIf_f {t : TF} {g h : SF} {ρ ρ' : Env} (e : t ρ = some (.ok false ρ')) : sIf t g h ρ = h ρ' := by rw [sIf_eq, e]
end DL

end
section
/-! MJ0: houses. -/
open PySem PySem.Spec L2
namespace DL
structure Belt where
  name : Str
  long : Int
  ring : Bool
  outs : List Str
def encB (b : Belt) : D := .tup [.str b.name, .int b.long, .bl b.ring, .lst .frz (b.outs.map .str)]
def encH (m : Mk) (bs : List Belt) (cs : List Str) : D := .tup [.lst m (bs.map encB), .lst .frz (cs.map .str)]
def names (bs : List Belt) : List Str := bs.map (·.name)
/-- each belt's outs are carts or belts behind -/
def WFb (cs : List Str) : List Belt → Prop
  | [] => True
  | b :: bs => 1 ≤ b.long ∧ b.long ≤ 100 ∧ (b.ring = true → 2 ≤ b.long) ∧ (∀ o ∈ b.outs, o ∈ names bs ++ cs) ∧ b.outs.Nodup ∧ b.outs.length ≤ 10 ∧ b.outs ≠ [] ∧ (cs[0]? = none ∨ (∃ c0, cs[0]? = some c0 ∧ c0 ∈ b.outs) ∨ ∃ o ∈ b.outs, o ∈ names bs) ∧ WFb cs bs
@[simp] theorem encB_chk {P : Mk → Bool} (h : P .frz = true) {b : Belt} : D.chk P (encB b) = true := by simp [encB, h]
@[simp] theorem encB_rem {b : Belt} : D.rem fz (encB b) = encB b := by simp [encB]
@[simp] theorem encB_rempk {b : Belt} : D.rem pk (encB b) = encB b := by simp [encB]
@[simp] theorem encBs_chk {P : Mk → Bool} (h : P .frz = true) {bs : List Belt} : D.chkL P (bs.map encB) = true := by rw [chkL_map]; simp [h]
@[simp] theorem encBs_rem {bs : List Belt} : D.remL fz (bs.map encB) = bs.map encB := by rw [remL_map]; simp
@[simp] theorem encBs_rempk {bs : List Belt} : D.remL pk (bs.map encB) = bs.map encB := by rw [remL_map]; simp
end DL

end
section
/-! NH: the drawn house, second sort. -/
open PySem PySem.Spec L2
namespace DL
def feedD (ns : List Int) (a f2 md big : Int) : D := .lst .own [.lst .own (ns.map .int), .int a, .int f2, .int md, .int big]
/-- a feed: its kind of names f2 -/
def FD (f2 : Int) (d : D) : Prop := ∃ ns a md big, ns.length ≤ 1000 ∧ d = feedD ns a f2 md big
theorem draw_ok {f2 : Int} {d : D} (hd : FD f2 d) (n : Int) (h : 0 < n) (h2 : n < 1000000) : ∃ v d', FD f2 d' ∧ 0 ≤ v ∧ v < n ∧ d_law_draw_664a20 [d, .int n] = some (.ret (.int v) [d']) := by
  obtain ⟨ns, a, md, big, hn, rfl⟩ := hd
  have hn0 : n ≠ 0 := by omega
  by_cases hm : md = 1
  · refine ⟨big.fmod n, feedD ns a f2 md (big.fdiv n), ⟨ns, _, _, _, hn, rfl⟩, Int.fmod_nonneg_of_pos _ h, Int.fmod_lt_of_pos _ h, ?_⟩
    simp [d_law_draw_664a20, b_law_draw_664a20, feedD, hm, hn0, cDiv_ok h (by omega : n < 1073741824)]
  · by_cases hl : ns = []
    · refine ⟨((((a * 48271 + 31 * a).fmod 1000003) * 69621).fmod 999983).fmod n, feedD ns (a + 1) f2 md big, ⟨ns, _, _, _, hn, rfl⟩, Int.fmod_nonneg_of_pos _ h, Int.fmod_lt_of_pos _ h, ?_⟩
      simp [d_law_draw_664a20, b_law_draw_664a20, feedD, hm, hn0, hl, cMul_r, cMul_l]
    · have hpn : 0 < ns.length := List.length_pos_iff.mpr hl
      have hp : 0 < (ns.length : Int) := by omega
      obtain ⟨c, hc, _⟩ := atI_lt (xs := ns) (Int.fmod_nonneg_of_pos a hp) (Int.fmod_lt_of_pos a hp)
      refine ⟨(((((c + a.fdiv ns.length * 31) * 48271 + 31 * a).fmod 1000003) * 69621).fmod 999983).fmod n, feedD ns (a + 1) f2 md big, ⟨ns, _, _, _, hn, rfl⟩, Int.fmod_nonneg_of_pos _ h, Int.fmod_lt_of_pos _ h, ?_⟩
      have hp0 : (ns.length : Int) ≠ 0 := by omega
      simp [d_law_draw_664a20, b_law_draw_664a20, feedD, hm, hn0, hl, cMul_r, cMul_l, hp, hpn, hp0, atI_map, hc, cDiv_ok hp (by omega)]
/-- the feed at the start, with the kind of names drawn -/
theorem feed_ok (ns : List Int) (hn : ns.length ≤ 1000) : ∃ d, FD 0 d ∧ d_law_feed_7ae9d6 [.lst .ro (ns.map .int)] = some (.ret d []) := by
  have hs := size_big
  have e2 : ∃ a b : Int, ∃ r, cutL (ns.map D.int) none (some 2) ++ [.int 0, .int 0] = .int a :: .int b :: r := by
    match ns with
    | [] => exact ⟨0, 0, [], rfl⟩
    | [x] => exact ⟨x, 0, [.int 0], rfl⟩
    | x :: y :: r =>
      refine ⟨x, y, [.int 0, .int 0], ?_⟩
      unfold cutL
      simp [HT.sIx]
  obtain ⟨a, b, r, e2⟩ := e2
  have l2 : (cutL (ns.map D.int) none (some 2)).length + 2 ≤ 1002 := by
    unfold cutL; simp; omega
  have e3 : cutL (ns.map D.int) none (some 63) = (cutL ns none (some 63)).map .int := by unfold cutL; simp
  have l3 : (cutL ns none (some 63)).length ≤ 1000 := by unfold cutL; simp; omega
  refine ⟨feedD (cutL ns none (some 63)) 0 0 (a.fmod 2) b, ⟨_, _, _, _, l3, rfl⟩, ?_⟩
  have hr : D.chkL (fun m => !m.isBrw) (D.int a :: D.int b :: r) = true := by
    rw [← e2, chkL_append]
    have : cutL (ns.map D.int) none (some 2) = (cutL ns none (some 2)).map .int := by unfold cutL; simp
    rw [this]; simp
  have hr' : D.chkL (fun m => !m.isBrw) r = true := by simpa using hr
  show fnR [false] (b_law_feed_7ae9d6 [some (.lst .ro (ns.map .int)), none]) = _
  unfold b_law_feed_7ae9d6
  rw [seq_nx (ρ' := [some (.lst .ro (ns.map .int)), some (.lst .frz (.int a :: .int b :: D.remL fz r))]) (by
    simp [dSl, oN, oS, cutD, e2, hr', show (cutL (ns.map D.int) none (some 2)).length + 2 ≤ sizeLine by omega, show 2 ≤ sizeLine by omega])]
  simp [dSl, oN, oS, cutD, e3, feedD, show 5 ≤ sizeLine by omega]
theorem FD.noBrw {f2 : Int} {d : D} (hd : FD f2 d) : d.noBrw = true := by
  obtain ⟨ns, a, md, big, hn, rfl⟩ := hd
  simp [feedD]
/-! ### names -/
def strOf : Option FRes → Str
  | some (.ret (.str z) _) => z
  | _ => ⟨#[]⟩
def isStr : Option FRes → Bool
  | some (.ret (.str _) []) => true
  | _ => false
theorem isStr_eq {o : Option FRes} (h : isStr o = true) : o = some (.ret (.str (strOf o)) []) := by
  unfold isStr at h
  split at h
  · rfl
  · cases h
def nmR (st k : Nat) : Option FRes := d_law_name_6bc08e [.int st, .int k]
def nm2 (st k : Nat) : Str := strOf (nmR st k)
def nmB (st k : Nat) : Bool := isStr (nmR st k)
theorem all27 {p : Nat → Nat → Bool} (h : ((List.range 27).all fun st => (List.range 9).all fun k => p st k) = true) : ∀ st, st < 27 → ∀ k, k < 9 → p st k = true := fun st hs k hk =>
  List.all_eq_true.mp (List.all_eq_true.mp h st (List.mem_range.mpr hs)) k (List.mem_range.mpr hk)
theorem nmB_a : ((List.range 27).all fun st => (List.range 9).all fun k => nmB st k) = true := by decide +kernel
theorem nmB_all : ∀ st, st < 27 → ∀ k, k < 9 → nmB st k = true := all27 nmB_a
theorem name2_ok {st k : Nat} (h : st < 27) (hk : k < 9) : d_law_name_6bc08e [.int st, .int k] = some (.ret (.str (nm2 st k)) []) := isStr_eq (o := nmR st k) (nmB_all st h k hk)
def nm2All (st n : Nat) : List Str := (List.range n).map (nm2 st)
theorem nm2_nd9 : ((List.range 27).all fun st => decide (nm2All st 9).Nodup) = true := by decide +kernel
theorem nm2_nodup9 : ∀ st, st < 27 → (nm2All st 9).Nodup := fun st hs => of_decide_eq_true (List.all_eq_true.mp nm2_nd9 st (List.mem_range.mpr hs))
theorem nm2_nodup {st n : Nat} (h : st < 27) (hn : n ≤ 9) : (nm2All st n).Nodup := by
  have h9 := nm2_nodup9 st h
  have : nm2All st n = (nm2All st 9).take n := by
    unfold nm2All
    rw [← List.map_take, List.take_range, Nat.min_eq_left hn]
  rw [this]
  exact h9.sublist (List.take_sublist _ _)
def nmP (st k : Nat) : Bool := PyData.canLay0 (.str (nm2 st k)) && decide ((nm2 st k).length ≤ 8) && decide ((nm2 st k).length ≠ 0) && (nm2 st k).cps.toList.all (fun c => decide (97 ≤ c ∧ c ≤ 122)) && decide (nm2 st k ≠ Str.ofString "nothing")
theorem nmP_a : ((List.range 27).all fun st => (List.range 9).all fun k => nmP st k) = true := by decide +kernel
theorem nmP_all : ∀ st, st < 27 → ∀ k, k < 9 → nmP st k = true := all27 nmP_a
theorem nm2_ok {st k : Nat} (h : st < 27) (hk : k < 9) : PyData.canLay0 (.str (nm2 st k)) = true ∧ (nm2 st k).length ≤ 8 ∧ (nm2 st k).length ≠ 0 ∧ (∀ c ∈ (nm2 st k).cps.toList, 97 ≤ c ∧ c ≤ 122) ∧ nm2 st k ≠ Str.ofString "nothing" := by
  have := nmP_all st h k hk
  unfold nmP at this
  simp only [Bool.and_eq_true] at this
  obtain ⟨⟨⟨⟨h1, h2⟩, h3⟩, h4⟩, h5⟩ := this
  exact ⟨h1, of_decide_eq_true h2, of_decide_eq_true h3, fun c hc => of_decide_eq_true (List.all_eq_true.mp h4 c hc), of_decide_eq_true h5⟩
theorem nm_pack : ∃ nm : Nat → Nat → Str, (∀ st k : Nat, st < 27 → k < 9 → d_law_name_6bc08e [.int st, .int k] = some (.ret (.str (nm st k)) [])) ∧ (∀ st n : Nat, st < 27 → n ≤ 9 → ((List.range n).map (nm st)).Nodup) ∧
    ∀ st k : Nat, st < 27 → k < 9 → PyData.canLay0 (.str (nm st k)) = true ∧ (nm st k).length ≤ 8 ∧ (nm st k).length ≠ 0 ∧ (∀ c ∈ (nm st k).cps.toList, 97 ≤ c ∧ c ≤ 122) ∧ nm st k ≠ Str.ofString "nothing" :=
  ⟨nm2, fun _ _ h hk => name2_ok h hk, fun _ _ h hn => nm2_nodup h hn, fun _ _ h hk => nm2_ok h hk⟩
end DL

end
section
/-! ML0: facts of a house; ==. -/
open PySem PySem.Spec L2
namespace DL
/-- a house as it is drawn -/
structure HOk (bs : List Belt) (cs : List Str) : Prop where
  nd : (names bs).Nodup
  cn : cs.Nodup
  ap : ∀ c ∈ cs, c ∉ names bs
  wf : WFb cs bs
  ne : cs ≠ []
  nl : bs.length ≤ 6
  cl : cs.length ≤ 5
  ok : ∀ s ∈ names bs ++ cs, PyData.canLay0 (.str s) = true ∧ s.length ≤ 8
  nn : Str.ofString "nothing" ∉ names bs
  lt : ∀ s ∈ names bs ++ cs, s.length ≠ 0 ∧ ∀ c ∈ s.cps.toList, 97 ≤ c ∧ c ≤ 122
theorem wf_outs {cs : List Str} : ∀ {bs : List Belt} {b : Belt}, WFb cs bs → b ∈ bs → 1 ≤ b.long ∧ b.long ≤ 100 ∧ (b.ring = true → 2 ≤ b.long) ∧ (∀ o ∈ b.outs, o ∈ names bs ++ cs) ∧ b.outs.Nodup ∧ b.outs.length ≤ 10
  | [], b, _, h => by cases h
  | b :: bs, b', ⟨h1, h2, h3, h4, h5, h6, h7, h8, h9⟩, h => by
    rcases List.mem_cons.mp h with rfl | h
    · refine ⟨h1, h2, h3, fun o ho => ?_, h5, h6⟩
      have := h4 o ho
      rw [List.mem_append] at this ⊢
      rcases this with z | z
      · exact .inl (List.mem_cons_of_mem _ z)
      · exact .inr z
    · obtain ⟨a1, a2, a3, a4, a5, a6⟩ := wf_outs h9 h
      refine ⟨a1, a2, a3, fun o ho => ?_, a5, a6⟩
      have := a4 o ho
      rw [List.mem_append] at this ⊢
      rcases this with z | z
      · exact .inl (List.mem_cons_of_mem _ z)
      · exact .inr z
/-! ### == -/
theorem eqD_refl {x : D} {p : PyData} (h : py x = some p) (h2 : SeqAt.shaped p = true) : eqD x x = some true := by
  have hr : PyData.eqv p p = true := SeqAt.eqv_refl p (SeqAt.canLay_of_shaped h2)
  cases x <;> first | (cases h; done) | (simp [eqD]; done) | (simp [eqD, h, h2, hr]; done)
theorem pys_strs (xs : List Str) : pys (xs.map .str) = some (xs.map .str) := by
  induction xs with
  | nil => rfl
  | cons x xs ih => rw [List.map_cons, pys, ih]; rfl
def pyB (b : Belt) : PyData := .tuple [.str b.name, .int b.long, .bool b.ring, .list (b.outs.map .str)]
theorem py_encB (b : Belt) : py (encB b) = some (pyB b) := by
  unfold encB pyB
  simp [py, pys, pys_strs]
theorem pys_encBs (bs : List Belt) : pys (bs.map encB) = some (bs.map pyB) := by
  induction bs with
  | nil => rfl
  | cons b bs ih => rw [List.map_cons, pys, ih, py_encB]; rfl
theorem lay_strs {xs : List Str} (h : ∀ s ∈ xs, PyData.canLay0 (.str s) = true) : PyData.canLayAll0 (xs.map .str) = true := by
  induction xs with
  | nil => rfl
  | cons x xs ih =>
    rw [List.map_cons, PyData.canLayAll0, h x List.mem_cons_self, ih fun s hs => h s (List.mem_cons_of_mem _ hs)]
    rfl
theorem depth_strs (xs : List Str) : PyData.depthAll (xs.map .str) = 0 := by
  induction xs with
  | nil => rfl
  | cons x xs ih => rw [List.map_cons, PyData.depthAll, ih]; rfl
theorem lay_Bs {xs : List Belt} (h : ∀ b ∈ xs, PyData.canLay0 (.str b.name) = true ∧ ∀ o ∈ b.outs, PyData.canLay0 (.str o) = true) : PyData.canLayAll0 (xs.map pyB) = true := by
  induction xs with
  | nil => rfl
  | cons x xs ih =>
    rw [List.map_cons, PyData.canLayAll0, ih fun s hs => h s (List.mem_cons_of_mem _ hs)]
    obtain ⟨h1, h2⟩ := h x List.mem_cons_self
    simp [pyB, PyData.canLay0, PyData.canLayAll0, lay_strs h2]
    simpa [PyData.canLay0] using h1
theorem depth_Bs (xs : List Belt) : PyData.depthAll (xs.map pyB) ≤ 2 := by
  induction xs with
  | nil => exact Nat.zero_le _
  | cons x xs ih =>
    rw [List.map_cons, PyData.depthAll]
    have : PyData.depth (pyB x) ≤ 2 := by
      simp [pyB, PyData.depth, PyData.depthAll, depth_strs]
    omega
theorem eqD_house {m m' : Mk} {bs : List Belt} {cs : List Str} (h : HOk bs cs) : eqD (encH m bs cs) (encH m bs cs) = some true := by
  refine eqD_refl (p := .tuple [.list (bs.map pyB), .list (cs.map .str)]) (by unfold encH; simp [py, pys, pys_strs, pys_encBs]) ?_
  unfold SeqAt.shaped
  rw [Bool.and_eq_true]
  constructor
  · simp only [PyData.canLay0, PyData.canLayAll0]
    rw [lay_strs fun s hs => (h.ok s (List.mem_append_right _ hs)).1, lay_Bs fun b hb => ⟨(h.ok _ (List.mem_append_left _ (List.mem_map.mpr ⟨b, hb, rfl⟩))).1, fun o ho => (h.ok o ((wf_outs h.wf hb).2.2.2.1 o ho)).1⟩]
    rfl
  · refine decide_eq_true ?_
    have := depth_Bs bs
    simp only [PyData.depth, PyData.depthAll, depth_strs]
    omega
/-- unlike things of a list -/
theorem nodup_le {α : Type} [DecidableEq α] : ∀ {xs ys : List α}, xs.Nodup → (∀ x ∈ xs, x ∈ ys) → xs.length ≤ ys.length
  | [], ys, _, _ => Nat.zero_le _
  | x :: xs, ys, hn, h => by
    have hn' := List.nodup_cons.mp hn
    have hx := h x List.mem_cons_self
    have := nodup_le (xs := xs) (ys := ys.erase x) hn'.2 fun y hy => (List.mem_erase_of_ne (by rintro rfl; exact hn'.1 hy)).mpr (h y (List.mem_cons_of_mem _ hy))
    rw [List.length_erase_of_mem hx] at this
    have := List.length_pos_of_mem hx
    rw [List.length_cons]; omega
theorem cut_from {α : Type} (xs : List α) (k : Nat) (h : k ≤ xs.length) : cutL xs (some (k : Int)) none = xs.drop k := by
  unfold cutL
  rw [HT.sIx_nat, HT.sIx_none, Nat.min_eq_left h]
  exact List.take_of_length_le (by rw [List.length_drop]; omega)
theorem cut_to {α : Type} (xs : List α) (k : Nat) (h : k ≤ xs.length) : cutL xs none (some (k : Int)) = xs.take k := by
  unfold cutL
  rw [HT.sIx_nat, HT.sIx_none, Nat.min_eq_left h]
  simp
end DL

end
section
/-! NI: outs, second sort. -/
open PySem PySem.Spec L2
namespace DL
theorem eC_leee {ff : FF} {i : Nat} {f g k : EF} {ρ : Env} {d v d' x y z : D} (h : getS ρ i = some d) (h1 : f ρ = some (.ok x ρ)) (nb : x.noBrw = true) (h3 : g ρ = some (.ok y ρ)) (nb2 : y.noBrw = true) (h4 : k ρ = some (.ok z ρ)) (nb3 : z.noBrw = true) (h2 : ff [d, x.frz, y.frz, z.frz] = some (.ret v [d'])) : eC ff [.ln i, .ex f, .ex g, .ex k] ρ = some (.ok v (setS ρ i (some d'))) := by
  simp [eC, evA, fill, unfill, h, h1, nb, h3, nb2, h4, nb3, h2, setS_setS]
theorem if_and_not {a : TF} {e : EF} {g h : SF} {ρ ρ1 : Env} {b : Bool} (h1 : a ρ = some (.ok true ρ)) (h2 : e ρ = some (.ok (.bl b) ρ1)) : sIf (tAndF a (tNotF (eT e))) g h ρ = if b = true then h ρ1 else g ρ1 := by
  rw [sIf_eq, tAndF_eq, h1]
  dsimp only
  rw [tNotF_eq, eT_eq, h2]
  cases b <;> rfl
theorem ins_perm (x : Str) (outs : List Str) (j : Nat) : (outs.take j ++ [x] ++ outs.drop j).Perm (x :: outs) := by
  have := (List.perm_middle (a := x) (l₁ := outs.take j) (l₂ := outs.drop j))
  rw [List.take_append_drop] at this
  simpa using this
theorem outs2_ok {d : D} (hd : FD 0 d) (N : List Str) (hN : N.Nodup) (hL : N.length ≤ 9) (k many : Nat) (hk : k < many) (hm : many < N.length) (c0 : Str) (hc0 : N[many]? = some c0) :
    ∃ (outs : List Str) (d' : D), FD 0 d' ∧ (∀ o ∈ outs, o ∈ N.drop (k + 1)) ∧ outs.Nodup ∧ (c0 ∈ outs ∨ ∃ o ∈ outs, o ∈ (N.drop (k + 1)).take (many - (k + 1))) ∧
      d_law_outs_c1dd0a [d, .lst .frz (N.map .str), .int k, .int many] = some (.ret (.lst .own (outs.map .str)) [d']) := by
  have hs := size_big
  let E : D → List Str → Option D → Env := fun d outs y5 => [some d, some (.lst .frz (N.map .str)), some (.int k), some (.int many), some (.lst .own (outs.map .str)), y5]
  let E' : D → Env := fun d => [some d, some (.lst .frz (N.map .str)), some (.int k), some (.int many), none, none]
  have dlen : ∀ {outs : List Str}, outs.Nodup → (∀ o ∈ outs, o ∈ N.drop (k + 1)) → outs.length ≤ 9 := fun hn ho => by
    have := nodup_le hn ho
    rw [List.length_drop] at this; omega
  have at_N : ∀ (j : Nat) (x : Str), N[j]? = some x → atI (N.map D.str) (j : Int) = some (.str x) := fun j x h => by rw [atI_map, atI_get h]; rfl
  have mem_N : ∀ (j : Nat) (x : Str), k < j → N[j]? = some x → x ∈ N.drop (k + 1) := fun j x hj h => List.mem_of_getElem? (i := j - (k + 1)) (by rw [List.getElem?_drop, show k + 1 + (j - (k + 1)) = j by omega]; exact h)
  have nd_N : ∀ (i j : Nat) (x : Str), N[i]? = some x → N[j]? = some x → i = j := fun i j x hi hj => by
    obtain ⟨h1, e1⟩ := List.getElem?_eq_some_iff.mp hi
    obtain ⟨h2, e2⟩ := List.getElem?_eq_some_iff.mp hj
    exact (List.getElem_inj hN).mp (e1.trans e2.symm)
  -- one more out
  have ins : ∀ (d : D) (outs : List Str) (y5 : Option D) (f : EF) (x : Str), FD 0 d → outs.Nodup → (∀ o ∈ outs, o ∈ N.drop (k + 1)) → x ∉ outs → x ∈ N.drop (k + 1) → (∀ d', f (E d' outs y5) = some (.ok (.str x) (E d' outs y5))) →
      ∃ (outs' : List Str) (d' : D), FD 0 d' ∧ outs'.Nodup ∧ (∀ o ∈ outs', o ∈ N.drop (k + 1)) ∧ (∀ o, o ∈ outs' ↔ o = x ∨ o ∈ outs) ∧ sExpr (eL oIns 4 [(eC d_law_draw_664a20 [.ln 0, .ex (lP (pB oAdd (pN oLen [(dK 4)]) (dC (.int 1))))]), f]) (E d outs y5) = some (.nx (E d' outs' y5)) := fun d outs y5 f x hd hn ho hx hxN hf => by
    have hlen := dlen hn ho
    obtain ⟨j, d4, hd4, j0, j1, e4⟩ := draw_ok hd ((outs.length : Int) + 1) (by omega) (by omega)
    have eC2 : eC d_law_draw_664a20 [.ln 0, .ex (lP (pB oAdd (pN oLen [(dK 4)]) (dC (.int 1))))] (E d outs y5) = some (.ok (.int j) (E d4 outs y5)) :=
      eC_le (d := d) (d' := d4) (x := .int ((outs.length : Int) + 1)) rfl (by simp [E]) rfl e4
    have hp := ins_perm x outs j.toNat
    refine ⟨outs.take j.toNat ++ [x] ++ outs.drop j.toNat, d4, hd4, hp.nodup_iff.mpr (List.nodup_cons.mpr ⟨hx, hn⟩), fun o h => ?_, fun o => by rw [hp.mem_iff, List.mem_cons], ?_⟩
    · rcases List.mem_cons.mp (hp.mem_iff.mp h) with h | h
      · rw [h]; exact hxN
      · exact ho o h
    · have hf' := hf d4
      have hof : ownL (getS (E d outs y5) 4) = some (outs.map .str) := by simp [E, ownL]
      have hof2 : ownL (getS (E d4 outs y5) 4) = some (outs.map .str) := by simp [E, ownL]
      rw [sExpr_eq, eL_eq, hof]
      simp only [evE_cons, evE_nil, eC2, hf', chk_int, chk_str, if_true, chkL_cons, chkL_nil, Bool.and_self, hof2, oIns_eq]
      rw [if_pos ⟨by rw [List.length_map]; omega, j0, by omega⟩]
      simp [E]
  have L := loop_inv (b := bN 5) (g := (sIf (eT (eB oEq (eC d_law_draw_664a20 [.ln 0, .ex (lP (dC (.int 3)))]) (lP (dC (.int 0))))) (sExpr (eL oIns 4 [(eC d_law_draw_664a20 [.ln 0, .ex (lP (pB oAdd (pN oLen [(dK 4)]) (dC (.int 1))))]), (lP (pB ixD (dV 1) (dV 5)))])) sNil))
    (I := fun t ρ => ∃ (d2 : D) (outs : List Str) (y5 : Option D), FD 0 d2 ∧ outs.Nodup ∧ (∀ o ∈ outs, o ∈ N.drop (k + 1)) ∧ (∀ o ∈ outs, ∃ i, i < k + 1 + t ∧ N[i]? = some o) ∧ ρ = E d2 outs y5) (ds := rngD ((k : Int) + 1) (N.length - (k + 1)))
    (fun t d ρ e ⟨d2, outs, y5, hd2, hn, ho, hi, hρ⟩ => by
      subst hρ
      obtain ⟨ht, rfl⟩ := rngD_get e
      rw [show (k : Int) + 1 + (t : Int) = ((k + 1 + t : Nat) : Int) by omega]
      obtain ⟨v, d3, hd3, v0, v1, e3⟩ := draw_ok hd2 3 (by decide) (by decide)
      have hxl : k + 1 + t < N.length := by omega
      obtain ⟨x, hx⟩ : ∃ x, N[k + 1 + t]? = some x := ⟨_, List.getElem?_eq_getElem hxl⟩
      have eC1 : ∀ y5, eC d_law_draw_664a20 [.ln 0, .ex (lP (dC (.int 3)))] (E d2 outs y5) = some (.ok (.int v) (E d3 outs y5)) := fun y5 => eC_le (d := d2) (d' := d3) (x := .int 3) rfl (by simp) rfl e3
      by_cases hv : v = 0
      · obtain ⟨outs', d4, hd4, g1, g2, g3, g4⟩ := ins d3 outs (some (.int ((k + 1 + t : Nat) : Int))) (lP (pB ixD (dV 1) (dV 5))) x hd3 hn ho (fun z => by
          obtain ⟨i, h1, h2⟩ := hi x z
          have := nd_N _ _ _ h2 hx
          omega) (mem_N _ x (by omega) hx) (fun d' => by have hxa := at_N _ x hx; generalize ((k + 1 + t : Nat) : Int) = jj at *; simp [E, hxa])
        refine ⟨E d2 outs (some (.int ((k + 1 + t : Nat) : Int))), E d4 outs' (some (.int ((k + 1 + t : Nat) : Int))), rfl, ?_, d4, outs', _, hd4, g1, g2, fun o ho => ?_, rfl⟩
        · have ht : (eT (eB oEq (eC d_law_draw_664a20 [.ln 0, .ex (lP (dC (.int 3)))]) (lP (dC (.int 0))))) (E d2 outs (some (.int ((k + 1 + t : Nat) : Int)))) = some (.ok true (E d3 outs (some (.int ((k + 1 + t : Nat) : Int))))) := by simp [eC1, hv]
          rw [sIf_eq, ht]
          exact g4
        · rcases (g3 o).mp ho with rfl | ho
          · exact ⟨_, by omega, hx⟩
          · obtain ⟨i, h1, h2⟩ := hi o ho
            exact ⟨i, by omega, h2⟩
      · refine ⟨E d2 outs (some (.int ((k + 1 + t : Nat) : Int))), E d3 outs (some (.int ((k + 1 + t : Nat) : Int))), rfl, ?_, d3, outs, _, hd3, hn, ho, fun o ho => ?_, rfl⟩
        · have ht : (eT (eB oEq (eC d_law_draw_664a20 [.ln 0, .ex (lP (dC (.int 3)))]) (lP (dC (.int 0))))) (E d2 outs (some (.int ((k + 1 + t : Nat) : Int)))) = some (.ok false (E d3 outs (some (.int ((k + 1 + t : Nat) : Int))))) := by simp [eC1, hv]
          rw [sIf_eq, ht]
          rfl
        · obtain ⟨i, h1, h2⟩ := hi o ho
          exact ⟨i, by omega, h2⟩)
    (ρ := E d [] none) ⟨d, [], none, hd, List.nodup_nil, fun o h => (by cases h), fun o h => (by cases h), rfl⟩
  obtain ⟨ρ1, eLp, dA, outsA, y5, hdA, hnA, hoA, hi, rfl⟩ := L
  -- the next belt
  have S2 : ∃ (outsA' : List Str) (d' : D), FD 0 d' ∧ outsA'.Nodup ∧ (∀ o ∈ outsA', o ∈ N.drop (k + 1)) ∧ (sIf (tAndF (lQ (qB (pB oLt (pB oAdd (dV 2) (dC (.int 1))) (dV 3)))) (tAndF (eT (eB oGt (eC d_law_draw_664a20 [.ln 0, .ex (lP (dC (.int 4)))]) (lP (dC (.int 0))))) (lQ (qB (pB (oIn true) (pB ixD (dV 1) (pB oAdd (dV 2) (dC (.int 1)))) (dK 4)))))) (sExpr (eL oIns 4 [(eC d_law_draw_664a20 [.ln 0, .ex (lP (pB oAdd (pN oLen [(dK 4)]) (dC (.int 1))))]), (lP (pB ixD (dV 1) (pB oAdd (dV 2) (dC (.int 1)))))])) sNil) (E dA outsA none) = some (.nx (E d' outsA' none)) := by
    by_cases hkm : k + 1 < many
    · obtain ⟨v, d3, hd3, v0, v1, e3⟩ := draw_ok hdA 4 (by decide) (by decide)
      have eC1 : eC d_law_draw_664a20 [.ln 0, .ex (lP (dC (.int 4)))] (E dA outsA none) = some (.ok (.int v) (E d3 outsA none)) := eC_le (d := dA) (d' := d3) (x := .int 4) rfl (by simp) rfl e3
      obtain ⟨x, hx⟩ : ∃ x, N[k + 1]? = some x := ⟨_, List.getElem?_eq_getElem (by omega)⟩
      have hxa : atI (N.map D.str) ((k : Int) + 1) = some (.str x) := by have := at_N _ x hx; rwa [show ((k + 1 : Nat) : Int) = (k : Int) + 1 by omega] at this
      by_cases hv : 0 < v
      · by_cases hxo : x ∈ outsA
        · refine ⟨outsA, d3, hd3, hnA, hoA, ?_⟩
          have ht : (tAndF (lQ (qB (pB oLt (pB oAdd (dV 2) (dC (.int 1))) (dV 3)))) (tAndF (eT (eB oGt (eC d_law_draw_664a20 [.ln 0, .ex (lP (dC (.int 4)))]) (lP (dC (.int 0))))) (lQ (qB (pB (oIn true) (pB ixD (dV 1) (pB oAdd (dV 2) (dC (.int 1)))) (dK 4)))))) (E dA outsA none) = some (.ok false (E d3 outsA none)) := by
            rw [tAndF_eq, show (lQ (qB (pB oLt (pB oAdd (dV 2) (dC (.int 1))) (dV 3)))) (E dA outsA none) = some (.ok true (E dA outsA none)) by simp [E]; omega]
            dsimp only
            rw [tAndF_eq, show (eT (eB oGt (eC d_law_draw_664a20 [.ln 0, .ex (lP (dC (.int 4)))]) (lP (dC (.int 0))))) (E dA outsA none) = some (.ok true (E d3 outsA none)) by simp [eC1, hv]]
            simp [E, hxa, hxo]
          rw [sIf_eq, ht]
          rfl
        · obtain ⟨outsA', d4, hd4, g1, g2, g3, g4⟩ := ins d3 outsA none (lP (pB ixD (dV 1) (pB oAdd (dV 2) (dC (.int 1))))) x hd3 hnA hoA hxo (mem_N _ x (by omega) hx) (fun d' => by simp [E, hxa])
          refine ⟨outsA', d4, hd4, g1, g2, ?_⟩
          have ht : (tAndF (lQ (qB (pB oLt (pB oAdd (dV 2) (dC (.int 1))) (dV 3)))) (tAndF (eT (eB oGt (eC d_law_draw_664a20 [.ln 0, .ex (lP (dC (.int 4)))]) (lP (dC (.int 0))))) (lQ (qB (pB (oIn true) (pB ixD (dV 1) (pB oAdd (dV 2) (dC (.int 1)))) (dK 4)))))) (E dA outsA none) = some (.ok true (E d3 outsA none)) := by
            rw [tAndF_eq, show (lQ (qB (pB oLt (pB oAdd (dV 2) (dC (.int 1))) (dV 3)))) (E dA outsA none) = some (.ok true (E dA outsA none)) by simp [E]; omega]
            dsimp only
            rw [tAndF_eq, show (eT (eB oGt (eC d_law_draw_664a20 [.ln 0, .ex (lP (dC (.int 4)))]) (lP (dC (.int 0))))) (E dA outsA none) = some (.ok true (E d3 outsA none)) by simp [eC1, hv]]
            simp [E, hxa, hxo]
          rw [sIf_eq, ht]
          exact g4
      · refine ⟨outsA, d3, hd3, hnA, hoA, ?_⟩
        have ht : (tAndF (lQ (qB (pB oLt (pB oAdd (dV 2) (dC (.int 1))) (dV 3)))) (tAndF (eT (eB oGt (eC d_law_draw_664a20 [.ln 0, .ex (lP (dC (.int 4)))]) (lP (dC (.int 0))))) (lQ (qB (pB (oIn true) (pB ixD (dV 1) (pB oAdd (dV 2) (dC (.int 1)))) (dK 4)))))) (E dA outsA none) = some (.ok false (E d3 outsA none)) := by
          rw [tAndF_eq, show (lQ (qB (pB oLt (pB oAdd (dV 2) (dC (.int 1))) (dV 3)))) (E dA outsA none) = some (.ok true (E dA outsA none)) by simp [E]; omega]
          dsimp only
          rw [tAndF_eq, show (eT (eB oGt (eC d_law_draw_664a20 [.ln 0, .ex (lP (dC (.int 4)))]) (lP (dC (.int 0))))) (E dA outsA none) = some (.ok false (E d3 outsA none)) by simp [eC1, hv]]
        rw [sIf_eq, ht]
        rfl
    · refine ⟨outsA, dA, hdA, hnA, hoA, ?_⟩
      have ht : (tAndF (lQ (qB (pB oLt (pB oAdd (dV 2) (dC (.int 1))) (dV 3)))) (tAndF (eT (eB oGt (eC d_law_draw_664a20 [.ln 0, .ex (lP (dC (.int 4)))]) (lP (dC (.int 0))))) (lQ (qB (pB (oIn true) (pB ixD (dV 1) (pB oAdd (dV 2) (dC (.int 1)))) (dK 4)))))) (E dA outsA none) = some (.ok false (E dA outsA none)) := by
        rw [tAndF_eq, show (lQ (qB (pB oLt (pB oAdd (dV 2) (dC (.int 1))) (dV 3)))) (E dA outsA none) = some (.ok false (E dA outsA none)) by simp [E]; omega]
      rw [sIf_eq, ht]
      rfl
  obtain ⟨outs, d2, hd2, hn, ho, e2⟩ := S2
  have hlen := dlen hn ho
  -- the hand
  have hca : atI (N.map D.str) (many : Int) = some (.str c0) := at_N _ c0 hc0
  let T := (N.drop (k + 1)).take (many - (k + 1))
  have hany : (eN oAny [(eLc (iRng [(lP (pB oAdd (dV 2) (dC (.int 1)))), (lP (dV 3))]) (bN 5) tYesF (lP (pB (oIn false) (pB ixD (dV 1) (dV 5)) (dK 4))) [5])]) (E d2 outs none) = some (.ok (.bl (decide (∃ o ∈ T, o ∈ outs))) (E d2 outs none)) := by
    have hq : iRng [(lP (pB oAdd (dV 2) (dC (.int 1)))), (lP (dV 3))] (E d2 outs none) = some (.ok (.non, rngD ((k : Int) + 1) (many - (k + 1))) (E d2 outs none)) := by
      rw [iRng_2 (i := (k : Int) + 1) (j := (many : Int)) (ρ1 := E d2 outs none) (ρ2 := E d2 outs none) (by simp [E]) (by simp [E]) (okR_small (by omega) (by omega)) (okR_small (by omega) (by omega)), show ((many : Int) - ((k : Int) + 1)).toNat = many - (k + 1) by omega]
    have hl := eLc_pure (q := iRng [(lP (pB oAdd (dV 2) (dC (.int 1)))), (lP (dV 3))]) (b := bN 5) (t := tYesF) (f := (lP (pB (oIn false) (pB ixD (dV 1) (dV 5)) (dK 4)))) (is := [5]) (ρ := E d2 outs none) (ρ' := E d2 outs none) (ρ0 := E d2 outs none) (fun _ => true) (fun x => match x with | .int j => .bl (decide ((N[j.toNat]?).getD ⟨#[]⟩ ∈ outs)) | x => x) hq rfl rfl (fun x hx => by
      obtain ⟨t, ht⟩ := List.mem_iff_getElem?.mp hx
      obtain ⟨htl, rfl⟩ := rngD_get ht
      rw [show (k : Int) + 1 + (t : Int) = ((k + 1 + t : Nat) : Int) by omega]
      obtain ⟨x, hx⟩ : ∃ x, N[k + 1 + t]? = some x := ⟨_, List.getElem?_eq_getElem (by omega)⟩
      have hxa := at_N _ x hx
      refine ⟨E d2 outs (some (.int ((k + 1 + t : Nat) : Int))), rfl, rfl, fun _ => ⟨?_, rfl⟩, rfl⟩
      simp only [Int.toNat_natCast, hx, Option.getD_some]
      generalize ((k + 1 + t : Nat) : Int) = jj at *
      simp [E, hxa]) (by rw [rngD_len]; omega)
    rw [eN_eq, evE_cons, hl]
    dsimp only
    have hm : ((rngD ((k : Int) + 1) (many - (k + 1))).filter fun _ => true).map (fun x => match x with | .int j => D.bl (decide ((N[j.toNat]?).getD ⟨#[]⟩ ∈ outs)) | x => x) = ((List.range (many - (k + 1))).map fun t => decide ((N[k + 1 + t]?).getD ⟨#[]⟩ ∈ outs)).map .bl := by
      rw [List.filter_eq_self.mpr (fun _ _ => rfl)]
      unfold rngD
      rw [List.map_map, List.map_map]
      apply List.map_congr_left
      intro t _
      show D.bl (decide ((N[((k : Int) + 1 + (t : Int)).toNat]?).getD ⟨#[]⟩ ∈ outs)) = _
      rw [show ((k : Int) + 1 + (t : Int)).toNat = k + 1 + t by omega]; rfl
    rw [hm]
    have hb : ((List.range (many - (k + 1))).map fun t => decide ((N[k + 1 + t]?).getD ⟨#[]⟩ ∈ outs)).any id = decide (∃ o ∈ T, o ∈ outs) := by
      rw [Bool.eq_iff_iff, List.any_eq_true, decide_eq_true_iff]
      constructor
      · rintro ⟨b, hb, hbt⟩
        obtain ⟨t, ht, rfl⟩ := List.mem_map.mp hb
        have ht := List.mem_range.mp ht
        obtain ⟨x, hx⟩ : ∃ x, N[k + 1 + t]? = some x := ⟨_, List.getElem?_eq_getElem (by omega)⟩
        have hbt : decide ((N[k + 1 + t]?).getD ⟨#[]⟩ ∈ outs) = true := hbt
        rw [hx, Option.getD_some] at hbt
        exact ⟨x, List.mem_of_getElem? (i := t) (by show ((N.drop (k + 1)).take (many - (k + 1)))[t]? = _; rw [List.getElem?_take_of_lt ht, List.getElem?_drop]; exact hx), of_decide_eq_true hbt⟩
      · rintro ⟨o, ho1, ho2⟩
        obtain ⟨t, ht⟩ := List.mem_iff_getElem?.mp ho1
        have htl : t < many - (k + 1) := by
          have := (List.getElem?_eq_some_iff.mp ht).1
          have h2 : T.length ≤ many - (k + 1) := by show ((N.drop (k + 1)).take (many - (k + 1))).length ≤ _; rw [List.length_take]; omega
          omega
        have ht : ((N.drop (k + 1)).take (many - (k + 1)))[t]? = some o := ht
        rw [List.getElem?_take_of_lt htl, List.getElem?_drop] at ht
        exact ⟨true, List.mem_map.mpr ⟨t, List.mem_range.mpr htl, by rw [ht, Option.getD_some, decide_eq_true ho2]⟩, rfl⟩
    rw [← hb]
    generalize ((List.range (many - (k + 1))).map fun t => decide ((N[k + 1 + t]?).getD ⟨#[]⟩ ∈ outs)) = BS
    rw [if_pos (by simp), evE_nil]
    dsimp only
    rw [oAny_bls]
    rfl
  have S3 : ∃ (outs' : List Str) (d' : D), FD 0 d' ∧ outs'.Nodup ∧ (∀ o ∈ outs', o ∈ N.drop (k + 1)) ∧ (c0 ∈ outs' ∨ ∃ o ∈ outs', o ∈ T) ∧ (sIf (tAndF (lQ (qB (pB (oIn true) (pB ixD (dV 1) (dV 3)) (dK 4)))) (tNotF (eT (eN oAny [(eLc (iRng [(lP (pB oAdd (dV 2) (dC (.int 1)))), (lP (dV 3))]) (bN 5) tYesF (lP (pB (oIn false) (pB ixD (dV 1) (dV 5)) (dK 4))) [5])])))) (sExpr (eL oIns 4 [(eC d_law_draw_664a20 [.ln 0, .ex (lP (pB oAdd (pN oLen [(dK 4)]) (dC (.int 1))))]), (lP (pB ixD (dV 1) (dV 3)))])) sNil) (E d2 outs none) = some (.nx (E d' outs' none)) := by
    by_cases hc : c0 ∈ outs
    · refine ⟨outs, d2, hd2, hn, ho, .inl hc, ?_⟩
      have ht : (lQ (qB (pB (oIn true) (pB ixD (dV 1) (dV 3)) (dK 4)))) (E d2 outs none) = some (.ok false (E d2 outs none)) := by simp [E, hca, hc]
      rw [sIf_eq, tAndF_eq, ht]; rfl
    · have ht : (lQ (qB (pB (oIn true) (pB ixD (dV 1) (dV 3)) (dK 4)))) (E d2 outs none) = some (.ok true (E d2 outs none)) := by simp [E, hca, hc]
      by_cases ha : ∃ o ∈ T, o ∈ outs
      · obtain ⟨o, h1, h2⟩ := id ha
        refine ⟨outs, d2, hd2, hn, ho, .inr ⟨o, h2, h1⟩, ?_⟩
        exact (if_and_not ht hany).trans (if_pos (decide_eq_true ha))
      · obtain ⟨outs', d4, hd4, g1, g2, g3, g4⟩ := ins d2 outs none (lP (pB ixD (dV 1) (dV 3))) c0 hd2 hn ho hc (mem_N _ c0 hk hc0) (fun d' => by simp [E, hca])
        refine ⟨outs', d4, hd4, g1, g2, .inl ((g3 c0).mpr (.inl rfl)), ?_⟩
        exact ((if_and_not ht hany).trans (if_neg (by rw [decide_eq_false ha]; exact Bool.false_ne_true))).trans g4
  obtain ⟨outs', d4, hd4, g1, g2, g3, g4⟩ := S3
  refine ⟨outs', d4, hd4, g2, g1, g3, ?_⟩
  unfold d_law_outs_c1dd0a
  rw [fnD_eq]
  refine (if_pos rfl).trans ?_
  show fnR [true, false, false, false] (b_law_outs_c1dd0a (E' d)) = _
  unfold b_law_outs_c1dd0a
  rw [seq_nx (ρ' := E d [] none) (by simp [E, E'])]
  have hr : iRng [(lP (pB oAdd (dV 2) (dC (.int 1)))), (lP (pN oLen [(dV 1)]))] (E d [] none) = some (.ok (.non, rngD ((k : Int) + 1) (N.length - (k + 1))) (E d [] none)) := by
    rw [iRng_2 (i := (k : Int) + 1) (j := (N.length : Int)) (ρ1 := E d [] none) (ρ2 := E d [] none) (by simp [E]) (by simp [E]) (okR_small (by omega) (by omega)) (okR_small (by omega) (by omega)), show ((N.length : Int) - ((k : Int) + 1)).toNat = N.length - (k + 1) by omega]
  rw [seq_nx (ρ' := E dA outsA none) (by rw [sFor_of hr, eLp]; rfl)]
  rw [seq_nx e2, seq_nx g4]
  simp [E]
end DL

end
section
/-! NK: the drawn house, second sort, stands. -/
open PySem PySem.Spec L2
namespace DL
def encBo (b : Belt) : D := .tup [.str b.name, .int b.long, .bl b.ring, .lst .own (b.outs.map .str)]
@[simp] theorem encBo_rem {b : Belt} : D.rem fz (encBo b) = encB b := by simp [encBo, encB]
@[simp] theorem encBos_rem {bs : List Belt} : D.remL fz (bs.map encBo) = bs.map encB := by rw [remL_map]; simp
@[simp] theorem encBo_nb {b : Belt} : D.chk (fun m => !m.isBrw) (encBo b) = true := by simp [encBo]
@[simp] theorem encBos_nb {bs : List Belt} : D.chkL (fun m => !m.isBrw) (bs.map encBo) = true := by rw [chkL_map]; simp
theorem eC_dr {d d' : D} {v n : Int} {r : Env} (he : d_law_draw_664a20 [d, .int n] = some (.ret (.int v) [d'])) : eC d_law_draw_664a20 [.ln 0, .ex (lP (dC (.int n)))] (some d :: r) = some (.ok (.int v) (some d' :: r)) :=
  eC_le (d := d) (d' := d') (x := .int n) rfl rfl rfl he
theorem comp_names (ff : FF) {st : Nat} (nm : Nat → Str) {n : Nat} {q : IF} {ρ : Env} {a b c d y5 y6 y8 y9 : Option D} (h : ∀ k : Nat, k < n → oCall ff [.int (st : Int), .int (k : Int)] = some (.str (nm k))) (hq : q ρ = some (.ok (.non, rngD 0 n) [a, b, c, d, some (.int (st : Int)), y5, y6, none, y8, y9])) (h5 : y5 = y5) (h6 : y6 = y6) (hn : n ≤ sizeLine) :
    eLc q (bN 7) tYesF (lP (pN (oCall ff) [(dV 4), (dV 7)])) [7] ρ = some (.ok (.lst .own (((List.range n).map nm).map .str)) [a, b, c, d, some (.int (st : Int)), y5, y6, none, y8, y9]) := by
  rw [eLc_pure (ρ0 := [a, b, c, d, some (.int (st : Int)), y5, y6, none, y8, y9]) (fun _ => true) (fun x => match x with | .int k => .str (nm k.toNat) | x => x) hq rfl rfl (fun x hx => by
    obtain ⟨k, hk⟩ := List.mem_iff_getElem?.mp hx
    obtain ⟨hkn, rfl⟩ := rngD_get hk
    rw [show (0 : Int) + (k : Int) = k by omega]
    have hc := h k hkn
    exact ⟨[a, b, c, d, some (.int (st : Int)), y5, y6, some (.int (k : Int)), y8, y9], rfl, rfl, fun _ => ⟨by simp [hc], rfl⟩, rfl⟩) (by rw [rngD_len]; exact hn)]
  congr 3
  rw [List.filter_eq_self.mpr (fun _ _ => rfl)]
  unfold rngD
  rw [List.map_map, List.map_map]
  apply List.map_congr_left
  intro k _
  simp
structure B2 (N : List Str) (k many : Nat) (b : Belt) : Prop where
  nm : N[k]? = some b.name
  l1 : 1 ≤ b.long
  l2 : b.long ≤ 15
  lr : b.ring = true → 2 ≤ b.long
  ho : ∀ o ∈ b.outs, o ∈ N.drop (k + 1)
  nd : b.outs.Nodup
  ha : ∀ c0, N[many]? = some c0 → c0 ∈ b.outs ∨ ∃ o ∈ b.outs, o ∈ (N.drop (k + 1)).take (many - (k + 1))
theorem wf2 (N : List Str) (hL : N.length ≤ 9) (many : Nat) (hm : many < N.length) : ∀ (bs : List Belt) (k : Nat), k + bs.length = many → (∀ i b, bs[i]? = some b → B2 N (k + i) many b) → names bs = (N.drop k).take bs.length ∧ WFb (N.drop many) bs
  | [], k, _, _ => ⟨by simp [names], trivial⟩
  | b :: bs, k, hk, h => by
    rw [List.length_cons] at hk
    obtain ⟨h1, h2⟩ := wf2 N hL many hm bs (k + 1) (by omega) fun i b hb => by
      have := h (i + 1) b (by simpa using hb)
      rwa [show k + (i + 1) = k + 1 + i by omega] at this
    have hb := h 0 b rfl
    rw [Nat.add_zero] at hb
    have hdk : N.drop k = b.name :: N.drop (k + 1) := by
      obtain ⟨hkl, e⟩ := List.getElem?_eq_some_iff.mp hb.nm
      rw [List.drop_eq_getElem_cons hkl, e]
    have hsp : N.drop (k + 1) = names bs ++ N.drop many := by
      rw [h1]
      have := (List.take_append_drop bs.length (N.drop (k + 1))).symm
      rw [List.drop_drop, show k + 1 + bs.length = many by omega] at this
      exact this
    refine ⟨?_, hb.l1, by have := hb.l2; omega, hb.lr, fun o ho => by rw [← hsp]; exact hb.ho o ho, hb.nd, ?_, ?_, ?_, h2⟩
    · show b.name :: names bs = _
      rw [hdk, List.length_cons, List.take_succ_cons, h1]
    · have := nodup_le hb.nd hb.ho
      rw [List.length_drop] at this; omega
    · obtain ⟨c0, hc0⟩ : ∃ c0, N[many]? = some c0 := ⟨_, List.getElem?_eq_getElem hm⟩
      rcases hb.ha c0 hc0 with h | ⟨o, h, _⟩
      · exact fun z => by rw [z] at h; cases h
      · exact fun z => by rw [z] at h; cases h
    · obtain ⟨c0, hc0⟩ : ∃ c0, N[many]? = some c0 := ⟨_, List.getElem?_eq_getElem hm⟩
      rcases hb.ha c0 hc0 with h | ⟨o, h, h2⟩
      · exact .inr (.inl ⟨c0, by rw [List.getElem?_drop]; exact hc0, h⟩)
      · refine .inr (.inr ⟨o, h, ?_⟩)
        rw [h1, show bs.length = many - (k + 1) by omega]
        exact h2
theorem house2_ok {d : D} (hd : FD 0 d) : ∃ (bs : List Belt) (cs : List Str) (d' : D), 1 ≤ bs.length ∧ (∀ b ∈ bs, b.long ≤ 15) ∧ HOk bs cs ∧ FD 0 d' ∧ d_law_house_b98846 [d] = some (.ret (.tup [.lst .own (bs.map encBo), .lst .own (cs.map .str)]) [d']) := by
  have hs := size_big
  obtain ⟨nm, nmO, nmN, nmP⟩ := nm_pack
  obtain ⟨v1, d1, hd1, v10, v11, e1⟩ := draw_ok hd 4 (by decide) (by decide)
  obtain ⟨v2, d2, hd2, v20, v21, e2⟩ := draw_ok hd1 8 (by decide) (by decide)
  let E0 : D → Int → Int → Env := fun d m l => [some d, some (.int m), some (.int l), some (.int v2), none, none, none, none, none, none]
  -- how many, how long
  have hml : ∃ (m : Nat) (l : Int), 1 ≤ m ∧ m ≤ 6 ∧ 4 ≤ l ∧ l ≤ 14 ∧ ∀ rest : SF, (sSeq (sIf (lQ (qB (pB oEq (dV 3) (dC (.int 5))))) (sSeq (sF 1 (lP (dC (.int 6))))
    (sF 2 (lP (dC (.int 5))))) sNil)
    (sSeq (sIf (lQ (qB (pB oEq (dV 3) (dC (.int 6))))) (sSeq (sF 1 (lP (pB oAdd (dC (.int 1)) (pB oDiv (dV 1) (dC (.int 3))))))
    (sF 2 (lP (dC (.int 14))))) sNil) rest)) (E0 d2 (1 + v1) 4) = rest (E0 d2 m l) := by
    by_cases h5 : v2 = 5
    · refine ⟨6, 5, by omega, by omega, by omega, by omega, fun rest => ?_⟩
      rw [seq_nx (ρ' := E0 d2 6 5) (by simp [E0, h5]), seq_nx (ρ' := E0 d2 6 5) (by simp [E0, h5])]
      rfl
    · by_cases h6 : v2 = 6
      · have hv : v1 = 0 ∨ v1 = 1 ∨ v1 = 2 ∨ v1 = 3 := by omega
        have hdv : cDiv (1 + v1) 3 = true := cDiv_ok (by decide) (by decide)
        have hm : ∃ m : Nat, 1 ≤ m ∧ m ≤ 2 ∧ 1 + (1 + v1).fdiv 3 = (m : Int) := by
          rcases hv with rfl | rfl | rfl | rfl
          · exact ⟨1, by decide, by decide, by decide⟩
          · exact ⟨1, by decide, by decide, by decide⟩
          · exact ⟨2, by decide, by decide, by decide⟩
          · exact ⟨2, by decide, by decide, by decide⟩
        obtain ⟨m, m1, m2, hm⟩ := hm
        refine ⟨m, 14, by omega, by omega, by omega, by omega, fun rest => ?_⟩
        rw [seq_nx (ρ' := E0 d2 (1 + v1) 4) (by simp [E0, h5]), seq_nx (ρ' := E0 d2 m 14) (by simp [E0, h6, hdv, hm])]
      · refine ⟨(1 + v1).toNat, 4, by omega, by omega, by omega, by omega, fun rest => ?_⟩
        rw [seq_nx (ρ' := E0 d2 (1 + v1) 4) (by simp [E0, h5]), seq_nx (ρ' := E0 d2 (1 + v1) 4) (by simp [E0, h6]), Int.toNat_of_nonneg (by omega)]
  obtain ⟨m, l, m1, m6, l4, l14, hml⟩ := hml
  obtain ⟨st, d3, hd3, st0, st1, e3⟩ := draw_ok hd2 27 (by decide) (by decide)
  obtain ⟨st, rfl⟩ := Int.eq_ofNat_of_zero_le st0
  have hst : st < 27 := by omega
  obtain ⟨v4, d4, hd4, v40, v41, e4⟩ := draw_ok hd3 3 (by decide) (by decide)
  obtain ⟨v4, rfl⟩ := Int.eq_ofNat_of_zero_le v40
  have hv4 : v4 < 3 := by omega
  obtain ⟨N, hNN⟩ : ∃ N, N = (List.range (m + 1 + v4)).map (nm st) := ⟨_, rfl⟩
  have hNl : N.length = m + 1 + v4 := by rw [hNN]; simp
  have hNn : N.Nodup := by rw [hNN]; exact nmN st _ hst (by omega)
  have hNm : ∀ s ∈ N, ∃ i, i < 9 ∧ s = nm st i := fun s hs => by
    rw [hNN] at hs
    obtain ⟨i, hi, e⟩ := List.mem_map.mp hs
    exact ⟨i, by have := List.mem_range.mp hi; omega, e.symm⟩
  let E1 : D → Option D → Env := fun d y5 => [some d, some (.int (m : Int)), some (.int l), some (.int v2), some (.int (st : Int)), y5, none, none, none, none]
  have hcomp : eLc (iRng [(eB oAdd (lP (pB oAdd (dV 1) (dC (.int 1)))) (eC d_law_draw_664a20 [.ln 0, .ex (lP (dC (.int 3)))]))]) (bN 7) tYesF (lP (pN (oCall d_law_name_6bc08e) [(dV 4), (dV 7)])) [7] (E1 d3 none) = some (.ok (.lst .own (N.map .str)) (E1 d4 none)) := by
    have hq := iRng_1 (j := ((m + 1 + v4 : Nat) : Int)) (f := (eB oAdd (lP (pB oAdd (dV 1) (dC (.int 1)))) (eC d_law_draw_664a20 [.ln 0, .ex (lP (dC (.int 3)))]))) (ρ := E1 d3 none) (ρ' := E1 d4 none) (by
      have q := (eC_dr e4 : eC d_law_draw_664a20 [.ln 0, .ex (lP (dC (.int 3)))] (E1 d3 none) = some (.ok (.int (v4 : Int)) (E1 d4 none)))
      rw [eB_eq, show (lP (pB oAdd (dV 1) (dC (.int 1)))) (E1 d3 none) = some (.ok (.int ((m : Int) + 1)) (E1 d3 none)) from rfl]
      dsimp only
      rw [if_pos (by simp), q]
      rfl) (okR_small (by omega) (by omega))
    rw [Int.toNat_natCast] at hq
    rw [hNN]
    exact comp_names d_law_name_6bc08e (nm st) (fun k hk => oCall_nb (ls := []) (nmO st k hst (by omega)) (.inr rfl)) hq rfl rfl (by omega)
  obtain ⟨c0, hc0⟩ : ∃ c0, N[m]? = some c0 := ⟨_, List.getElem?_eq_getElem (by omega)⟩
  -- the belts
  let E : D → List Belt → Option D → Option D → Option D → Env := fun d bs y7 y8 y9 => [some d, some (.int (m : Int)), some (.int l), some (.int v2), some (.int (st : Int)), some (.lst .frz (N.map .str)), some (.lst .own (bs.map encBo)), y7, y8, y9]
  have L := loop_inv (b := bN 7) (g := (sSeq (sF 8 (eB oEq (eC d_law_draw_664a20 [.ln 0, .ex (lP (dC (.int 3)))]) (lP (dC (.int 0)))))
    (sSeq (sF 9 (eB oAdd (lP (pB oAdd (dC (.int 1)) (pN oInt [(dV 8)]))) (eC d_law_draw_664a20 [.ln 0, .ex (lP (pB oSub (dV 2) (pN oInt [(dV 8)])))])))
    (sExpr (eL oApp 6 [(eN oTup [(lP (pB ixD (dV 5) (dV 7))), (lP (dV 9)), (lP (dV 8)), (eC d_law_outs_c1dd0a [.ln 0, .ex (lP (dV 5)), .ex (lP (dV 7)), .ex (lP (dV 1))])])])))))
    (I := fun k ρ => ∃ (dk : D) (bs : List Belt) (y7 y8 y9 : Option D), FD 0 dk ∧ bs.length = k ∧ (∀ i b, bs[i]? = some b → B2 N i m b) ∧ ρ = E dk bs y7 y8 y9) (ds := rngD 0 m)
    (fun k x ρ e ⟨dk, bs, y7, y8, y9, hdk, hbl, hB, hρ⟩ => by
      subst hρ
      obtain ⟨hkm, rfl⟩ := rngD_get e
      rw [show (0 : Int) + (k : Int) = k by omega]
      obtain ⟨w1, f1, hf1, w10, w11, g1⟩ := draw_ok hdk 3 (by decide) (by decide)
      have hri : (if w1 = 0 then (1 : Int) else 0) = 0 ∨ (if w1 = 0 then (1 : Int) else 0) = 1 := by split <;> simp
      obtain ⟨w2, f2, hf2, w20, w21, g2⟩ := draw_ok hf1 (l - if w1 = 0 then 1 else 0) (by omega) (by omega)
      obtain ⟨outs, f3, hf3, o1, o2, o3, g3⟩ := outs2_ok hf2 N hNn (by omega) k m hkm (by omega) c0 hc0
      obtain ⟨x, hx⟩ : ∃ x, N[k]? = some x := ⟨_, List.getElem?_eq_getElem (by omega)⟩
      have hxa : atI (N.map D.str) (k : Int) = some (.str x) := by rw [atI_map, atI_get hx]; rfl
      have eD1 : eC d_law_draw_664a20 [.ln 0, .ex (lP (dC (.int 3)))] (E dk bs (some (.int (k : Int))) y8 y9) = some (.ok (.int w1) (E f1 bs (some (.int (k : Int))) y8 y9)) := eC_dr g1
      have eD2 : eC d_law_draw_664a20 [.ln 0, .ex (lP (pB oSub (dV 2) (pN oInt [(dV 8)])))] (E f1 bs (some (.int (k : Int))) (some (.bl (decide (w1 = 0)))) y9) = some (.ok (.int w2) (E f2 bs (some (.int (k : Int))) (some (.bl (decide (w1 = 0)))) y9)) :=
        eC_le (d := f1) (d' := f2) (x := .int (l - if w1 = 0 then 1 else 0)) rfl (by simp [E]) rfl g2
      let lng : Int := 1 + (if w1 = 0 then 1 else 0) + w2
      have eO : eC d_law_outs_c1dd0a [.ln 0, .ex (lP (dV 5)), .ex (lP (dV 7)), .ex (lP (dV 1))] (E f2 bs (some (.int (k : Int))) (some (.bl (decide (w1 = 0)))) (some (.int lng))) = some (.ok (.lst .own (outs.map .str)) (E f3 bs (some (.int (k : Int))) (some (.bl (decide (w1 = 0)))) (some (.int lng)))) :=
        eC_leee (d := f2) (d' := f3) (x := .lst .frz (N.map .str)) (y := .int (k : Int)) (z := .int (m : Int)) rfl rfl (by simp) rfl rfl rfl rfl (by simpa using g3)
      refine ⟨E dk bs (some (.int (k : Int))) y8 y9, E f3 (bs ++ [⟨x, lng, decide (w1 = 0), outs⟩]) (some (.int (k : Int))) (some (.bl (decide (w1 = 0)))) (some (.int lng)), rfl, ?_, f3, bs ++ [⟨x, lng, decide (w1 = 0), outs⟩], _, _, _, hf3, by simp [hbl], fun i b hb => ?_, rfl⟩
      · rw [seq_nx (ρ' := E f1 bs (some (.int (k : Int))) (some (.bl (decide (w1 = 0)))) y9) (by simp [eD1]; simp [E])]
        rw [seq_nx (ρ' := E f2 bs (some (.int (k : Int))) (some (.bl (decide (w1 = 0)))) (some (.int lng))) (by
          rw [sF_eq, eB_eq, show (lP (pB oAdd (dC (.int 1)) (pN oInt [(dV 8)]))) (E f1 bs (some (.int (k : Int))) (some (.bl (decide (w1 = 0)))) y9) = some (.ok (.int (1 + if w1 = 0 then 1 else 0)) (E f1 bs (some (.int (k : Int))) (some (.bl (decide (w1 = 0)))) y9)) by simp [E]]
          dsimp only
          rw [if_pos (by simp), eD2]
          simp [E, lng])]
        have h5 : (lP (pB ixD (dV 5) (dV 7))) (E f2 bs (some (.int (k : Int))) (some (.bl (decide (w1 = 0)))) (some (.int lng))) = some (.ok (.str x) (E f2 bs (some (.int (k : Int))) (some (.bl (decide (w1 = 0)))) (some (.int lng)))) := by simp [E, hxa]
        have h9 : (lP (dV 9)) (E f2 bs (some (.int (k : Int))) (some (.bl (decide (w1 = 0)))) (some (.int lng))) = some (.ok (.int lng) (E f2 bs (some (.int (k : Int))) (some (.bl (decide (w1 = 0)))) (some (.int lng)))) := rfl
        have h8 : (lP (dV 8)) (E f2 bs (some (.int (k : Int))) (some (.bl (decide (w1 = 0)))) (some (.int lng))) = some (.ok (.bl (decide (w1 = 0))) (E f2 bs (some (.int (k : Int))) (some (.bl (decide (w1 = 0)))) (some (.int lng)))) := rfl
        have hT : (eN oTup [(lP (pB ixD (dV 5) (dV 7))), (lP (dV 9)), (lP (dV 8)), (eC d_law_outs_c1dd0a [.ln 0, .ex (lP (dV 5)), .ex (lP (dV 7)), .ex (lP (dV 1))])]) (E f2 bs (some (.int (k : Int))) (some (.bl (decide (w1 = 0)))) (some (.int lng))) = some (.ok (encBo ⟨x, lng, decide (w1 = 0), outs⟩) (E f3 bs (some (.int (k : Int))) (some (.bl (decide (w1 = 0)))) (some (.int lng)))) := by
          rw [eN_eq]
          simp only [evE_cons, evE_nil, h5, h9, h8, eO]
          simp [show 4 ≤ sizeLine by omega, encBo]
        have ho1 : ownL (getS (E f2 bs (some (.int (k : Int))) (some (.bl (decide (w1 = 0)))) (some (.int lng))) 6) = some (bs.map encBo) := rfl
        have ho2 : ownL (getS (E f3 bs (some (.int (k : Int))) (some (.bl (decide (w1 = 0)))) (some (.int lng))) 6) = some (bs.map encBo) := rfl
        rw [sExpr_eq, eL_eq, ho1]
        dsimp only
        rw [evE_cons, hT]
        dsimp only
        rw [if_pos (by simp), evE_nil]
        dsimp only
        rw [if_pos (by simp), ho2]
        dsimp only
        rw [oApp_eq, if_pos (by rw [List.length_map]; omega)]
        simp [E]
      · by_cases hi : i < bs.length
        · rw [List.getElem?_append_left hi] at hb
          exact hB i b hb
        · have hi2 : i = bs.length := by
            have := (List.getElem?_eq_some_iff.mp hb).1
            simp at this; omega
          subst hi2
          rw [List.getElem?_append_right (Nat.le_refl _), Nat.sub_self] at hb
          cases hb
          rw [hbl]
          refine ⟨hx, ?_, ?_, ?_, o1, o2, fun c hc => by rw [hc0] at hc; cases hc; exact o3⟩
          · show 1 ≤ 1 + (if w1 = 0 then 1 else 0) + w2
            omega
          · show 1 + (if w1 = 0 then 1 else 0) + w2 ≤ 15
            omega
          · intro hr
            have hr : w1 = 0 := of_decide_eq_true hr
            show 2 ≤ 1 + (if w1 = 0 then 1 else 0) + w2
            rw [if_pos hr]; omega)
    (ρ := E d4 [] none none none) ⟨d4, [], none, none, none, hd4, rfl, fun i b h => by simp at h, rfl⟩
  obtain ⟨ρ', eLp, dk, bs, y7, y8, y9, hdk, hbl, hB, rfl⟩ := L
  rw [rngD_len] at hbl
  obtain ⟨hnm, hwf⟩ := wf2 N (by omega) m (by omega) bs 0 (by omega) (fun i b hb => by rw [Nat.zero_add]; exact hB i b hb)
  rw [List.drop_zero, hbl] at hnm
  have hsub : ∀ s ∈ names bs ++ N.drop m, s ∈ N := fun s hs => by
    rw [hnm, List.take_append_drop] at hs; exact hs
  have hdis : (names bs ++ N.drop m).Nodup := by rw [hnm, List.take_append_drop]; exact hNn
  have hdis' := List.nodup_append.mp hdis
  refine ⟨bs, N.drop m, dk, by omega, fun b hb => ?_, ⟨hdis'.1, hdis'.2.1, fun c hc z => hdis'.2.2 c z c hc rfl, hwf, ?_, by omega, by rw [List.length_drop]; omega, fun s hs => ?_, fun z => ?_, fun s hs => ?_⟩, hdk, ?_⟩
  · obtain ⟨i, hi⟩ := List.mem_iff_getElem?.mp hb
    exact (hB i b hi).l2
  · intro z
    have := congrArg List.length z
    rw [List.length_drop, List.length_nil] at this; omega
  · obtain ⟨i, hi, e⟩ := hNm s (hsub s hs)
    rw [e]
    exact ⟨(nmP st i hst hi).1, (nmP st i hst hi).2.1⟩
  · obtain ⟨i, hi, e⟩ := hNm _ (hsub _ (List.mem_append_left _ z))
    exact (nmP st i hst hi).2.2.2.2 e.symm
  · obtain ⟨i, hi, e⟩ := hNm s (hsub s hs)
    rw [e]
    exact ⟨(nmP st i hst hi).2.2.1, (nmP st i hst hi).2.2.2.1⟩
  · show fnR [true] (b_law_house_b98846 [some d, none, none, none, none, none, none, none, none, none]) = _
    unfold b_law_house_b98846
    have q1 : (eB oAdd (lP (dC (.int 1))) (eC d_law_draw_664a20 [.ln 0, .ex (lP (dC (.int 4)))])) [some d, none, none, none, none, none, none, none, none, none] = some (.ok (.int (1 + v1)) [some d1, none, none, none, none, none, none, none, none, none]) := by
      rw [eB_eq, lP_eq, dC_eq]
      simp only [Option.map_some, chk_int, if_true, eC_dr e1, oAdd_int]
    rw [seq_nx (ρ' := [some d1, some (.int (1 + v1)), none, none, none, none, none, none, none, none]) (by rw [sF_eq, q1]; rfl)]
    rw [seq_nx (ρ' := [some d1, some (.int (1 + v1)), some (.int 4), none, none, none, none, none, none, none]) (by simp)]
    rw [seq_nx (ρ' := E0 d2 (1 + v1) 4) (by simp [eC_dr e2, E0])]
    rw [hml]
    rw [seq_nx (ρ' := E1 d3 none) (by rw [sF_eq, show eC d_law_draw_664a20 [.ln 0, .ex (lP (dC (.int 27)))] (E0 d2 (m : Int) l) = some (.ok (.int (st : Int)) (E0 d3 (m : Int) l)) from eC_dr e3]; rfl)]
    rw [seq_nx (ρ' := E1 d4 (some (.lst .frz (N.map .str)))) (by rw [sF_eq, hcomp]; simp [E1])]
    rw [seq_nx (ρ' := E d4 [] none none none) (by simp [E, E1])]
    rw [seq_nx (ρ' := E dk bs none y8 y9) (by
      have hr := iRng_1 (j := (m : Int)) (f := lP (dV 1)) (ρ := E d4 [] none none none) (ρ' := E d4 [] none none none) (by simp [E]) (okR_small (by omega) (by omega))
      rw [Int.toNat_natCast] at hr
      rw [sFor_of hr, eLp]; rfl)]
    have hcut : cutL (N.map D.str) (some (m : Int)) none = (N.drop m).map D.str := by
      rw [cut_from _ _ (by rw [List.length_map]; omega), List.map_drop]
    simp [E, dSl, oS, oN, cutD, hcut, show 2 ≤ sizeLine by omega]
end DL

end
section
/-! MP0: walks over a house. -/
open PySem PySem.Spec L2
namespace DL
theorem walk_belts {f : EF} {ρ : Env} {bs : List Belt} (h : f ρ = some (.ok (.lst .frz (bs.map encB)) ρ)) : iAll f ρ = some (.ok (.lst .frz (bs.map encB), bs.map encB) ρ) := by
  have := iAll_lst h (by simp)
  simpa using this
theorem walk_strs {f : EF} {ρ : Env} {m : Mk} {xs : List Str} (h : f ρ = some (.ok (.lst m (xs.map .str)) ρ)) (hm : m = .frz ∨ m = .own) : iAll f ρ = some (.ok (.lst .frz (xs.map .str), xs.map .str) ρ) := by
  rcases hm with rfl | rfl
  · have := iAll_lst h (by simp)
    simpa using this
  · have := iAll_lst h (by simp)
    simpa using this
@[simp] theorem encB_0 {b : Belt} : ixD (encB b) (.int 0) = some (.str b.name) := by simp [encB]
@[simp] theorem encB_1 {b : Belt} : ixD (encB b) (.int 1) = some (.int b.long) := by simp [encB]
@[simp] theorem encB_2 {b : Belt} : ixD (encB b) (.int 2) = some (.bl b.ring) := by simp [encB]
@[simp] theorem encB_3 {b : Belt} : ixD (encB b) (.int 3) = some (.lst .frz (b.outs.map .str)) := by simp [encB]
@[simp] theorem encH_0 {m : Mk} {bs : List Belt} {cs : List Str} : ixD (encH m bs cs) (.int 0) = some (.lst m (bs.map encB)) := by simp [encH]
@[simp] theorem encH_1 {m : Mk} {bs : List Belt} {cs : List Str} : ixD (encH m bs cs) (.int 1) = some (.lst .frz (cs.map .str)) := by simp [encH]
@[simp] theorem encH_rem {bs : List Belt} {cs : List Str} : D.rem fz (encH .frz bs cs) = encH .frz bs cs := by simp [encH]
@[simp] theorem encH_chk {P : Mk → Bool} (h : P .frz = true) {bs : List Belt} {cs : List Str} : D.chk P (encH .frz bs cs) = true := by simp [encH, h]
end DL

end
section
/-! MQ0: a belt by its name. -/
open PySem PySem.Spec L2
namespace DL
theorem find_mem {bs : List Belt} {b : Belt} (hn : (names bs).Nodup) (hb : b ∈ bs) : bs.find? (fun x => x.name == b.name) = some b := by
  induction bs with
  | nil => cases hb
  | cons a bs ih =>
    have hn' : a.name ∉ names bs ∧ (names bs).Nodup := List.nodup_cons.mp hn
    rcases List.mem_cons.mp hb with e | h
    · subst e; rw [List.find?_cons_of_pos (by simp)]
    · rw [List.find?_cons_of_neg]
      · exact ih hn'.2 h
      · intro e
        have e : a.name = b.name := by simpa using e
        exact hn'.1 (by rw [e]; exact List.mem_map.mpr ⟨b, h, rfl⟩)
theorem find_none {bs : List Belt} {n : Str} (h : n ∉ names bs) : bs.find? (fun x => x.name == n) = none := by
  rw [List.find?_eq_none]
  intro b hb e
  have e : b.name = n := by simpa using e
  exact h (by rw [← e]; exact List.mem_map.mpr ⟨b, hb, rfl⟩)
theorem find_some {bs : List Belt} {n : Str} (h : n ∈ names bs) : ∃ b, bs.find? (fun x => x.name == n) = some b := by
  cases q : bs.find? (fun x => x.name == n) with
  | some b => exact ⟨b, rfl⟩
  | none =>
    obtain ⟨b, hb, rfl⟩ := List.mem_map.mp h
    rw [List.find?_eq_none] at q
    exact absurd (by simp) (q b hb)
end DL

end
section
/-! MQ: belt_of. -/
open PySem PySem.Spec L2
namespace DL
def beltR (b : Belt) : D := .tup [.str b.name, .int b.long, .bl b.ring, .lst .own (b.outs.map .str)]
theorem belt_loop (h : D) (n : Str) : ∀ (bs : List Belt) (y : Option D), (∀ b, bs.find? (fun b => b.name == n) = some b → ∃ y', loop (bN 2) (sIf (lQ (qB (pB oEq (pB ixD (dV 2) (dC (.int 0))) (dV 1)))) (sRet (lP (pN oTup [(pB ixD (dV 2) (dC (.int 0))), (pB ixD (dV 2) (dC (.int 1))), (pB ixD (dV 2) (dC (.int 2))), (pN oList [(pB ixD (dV 2) (dC (.int 3)))])]))) sNil) (bs.map encB) [some h, some (.str n), y] = some (.rt (beltR b) [some h, some (.str n), y'])) ∧
    (bs.find? (fun b => b.name == n) = none → ∃ y', loop (bN 2) (sIf (lQ (qB (pB oEq (pB ixD (dV 2) (dC (.int 0))) (dV 1)))) (sRet (lP (pN oTup [(pB ixD (dV 2) (dC (.int 0))), (pB ixD (dV 2) (dC (.int 1))), (pB ixD (dV 2) (dC (.int 2))), (pN oList [(pB ixD (dV 2) (dC (.int 3)))])]))) sNil) (bs.map encB) [some h, some (.str n), y] = some (.nx [some h, some (.str n), y']))
  | [], y => ⟨fun b e => by simp at e, fun _ => ⟨y, rfl⟩⟩
  | b :: bs, y => by
    have hs := size_big
    obtain ⟨i1, i2⟩ := belt_loop h n bs (some (encB b))
    by_cases e : b.name = n
    · refine ⟨fun b' e' => ?_, fun e' => ?_⟩
      · rw [List.find?_cons_of_pos (by simpa using e)] at e'
        cases e'
        exact ⟨some (encB b), by simp [encB, beltR, e, show 4 ≤ sizeLine by omega]⟩
      · rw [List.find?_cons_of_pos (by simpa using e)] at e'; cases e'
    · rw [List.find?_cons_of_neg (by simpa using e)]
      refine ⟨fun b' e' => ?_, fun e' => ?_⟩
      · obtain ⟨y', z⟩ := i1 b' e'
        refine ⟨y', ?_⟩
        rw [← z]
        simp [encB, e]
      · obtain ⟨y', z⟩ := i2 e'
        refine ⟨y', ?_⟩
        rw [← z]
        simp [encB, e]
theorem belt_of_ok (bs : List Belt) (cs : List Str) (n : Str) : d_belt_of [encH .frz bs cs, .str n] = some (.ret (match bs.find? (fun b => b.name == n) with | some b => beltR b | none => .non) []) := by
  have hw : iAll (lP (pB ixD (dV 0) (dC (.int 0)))) [some (encH .frz bs cs), some (.str n), none] = some (.ok (.lst .frz (bs.map encB), bs.map encB) [some (encH .frz bs cs), some (.str n), none]) := by
    have := iAll_lst (f := lP (pB ixD (dV 0) (dC (.int 0)))) (ρ := [some (encH .frz bs cs), some (.str n), none]) (ρ' := [some (encH .frz bs cs), some (.str n), none]) (m := .frz) (ds := bs.map encB) (by simp [encH]) (by simp)
    simpa using this
  obtain ⟨i1, i2⟩ := belt_loop (encH .frz bs cs) n bs none
  show fnR [false, false] (b_belt_of [some (encH .frz bs cs), some (.str n), none]) = _
  unfold b_belt_of
  cases q : bs.find? (fun b => b.name == n) with
  | some b =>
    obtain ⟨y', z⟩ := i1 b q
    rw [seq_rt (d := beltR b) (by rw [sFor_of hw, z]; rfl)]
    simp [beltR]
  | none =>
    obtain ⟨y', z⟩ := i2 q
    rw [seq_nx (by rw [sFor_of hw, z]; rfl)]
    simp
end DL

end
section
/-! MS0: steps. -/
open PySem PySem.Spec L2
namespace DL
/-- where an out leads -/
def outD (bs : List Belt) (o : Str) : D := if o ∈ names bs then .tup [.str o, .int 0] else .str o
def wantD (bs : List Belt) (b : Belt) (c : Int) : List D := if c + 1 < b.long then [.tup [.str b.name, .int (c + 1)]] else b.outs.map (outD bs) ++ if b.ring = true then [.tup [.str b.name, .int 0]] else []
def flatT (x : D) : Prop := (∃ s, x = .str s ∧ PyData.canLay0 (.str s) = true) ∨ ∃ s i, x = .tup [.str s, .int i] ∧ PyData.canLay0 (.str s) = true
@[simp] theorem outD_chk {P : Mk → Bool} {bs : List Belt} {o : Str} : D.chk P (outD bs o) = true := by unfold outD; split <;> simp
@[simp] theorem outD_rem {bs : List Belt} {o : Str} : D.rem fz (outD bs o) = outD bs o := by unfold outD; split <;> simp
@[simp] theorem outDs_chk {P : Mk → Bool} {bs : List Belt} {os : List Str} : D.chkL P (os.map (outD bs)) = true := by rw [chkL_map]; simp
@[simp] theorem outDs_rem {bs : List Belt} {os : List Str} : D.remL fz (os.map (outD bs)) = os.map (outD bs) := by rw [remL_map]; simp
theorem steps_ok {bs : List Belt} {cs : List Str} (hk : HOk bs cs) {b : Belt} (hb : b ∈ bs) (c : Int) : d_steps [encH .frz bs cs, .tup [.str b.name, .int c]] = some (.ret (.lst .own (wantD bs b c)) []) := by
  have hs := size_big
  obtain ⟨a1, a2, a3, a4, a5, a6⟩ := wf_outs hk.wf hb
  have hf := find_mem hk.nd hb
  have hrem : D.rem fz (encH .frz bs cs) = encH .frz bs cs := by simp [encH]
  have hb1 : oCall d_belt_of [encH .frz bs cs, .str b.name] = some (beltR b) := by
    refine oCall_nb (ls := []) (by simp only [remL_cons, remL_nil, hrem, rem_str]; rw [belt_of_ok, hf]) (.inl (by simp [encH]))
  show fnR [false, false] (b_steps [some (encH .frz bs cs), some (.tup [.str b.name, .int c]), none, none, none]) = _
  unfold b_steps
  rw [seq_nx (ρ' := [some (encH .frz bs cs), some (.tup [.str b.name, .int c]), some (encB b), none, none]) (by simp [hb1, beltR, encB])]
  by_cases hc : c + 1 < b.long
  · rw [seq_rt (d := .lst .own (wantD bs b c)) (ρ' := [some (encH .frz bs cs), some (.tup [.str b.name, .int c]), some (encB b), none, none]) (by simp [encB, hc, wantD, show 2 ≤ sizeLine by omega, show 1 ≤ sizeLine by omega])]
    simp [wantD, hc]
  · rw [seq_nx (ρ' := [some (encH .frz bs cs), some (.tup [.str b.name, .int c]), some (encB b), none, none]) (by simp [encB, hc])]
    rw [seq_nx (ρ' := [some (encH .frz bs cs), some (.tup [.str b.name, .int c]), some (encB b), some (.lst .own []), none]) (by simp)]
    have hw : iAll (lP (pB ixD (dV 2) (dC (.int 3)))) [some (encH .frz bs cs), some (.tup [.str b.name, .int c]), some (encB b), some (.lst .own []), none] = some (.ok (.lst .frz (b.outs.map .str), b.outs.map .str) [some (encH .frz bs cs), some (.tup [.str b.name, .int c]), some (encB b), some (.lst .own []), none]) := by
      have := iAll_lst (f := lP (pB ixD (dV 2) (dC (.int 3)))) (ρ := [some (encH .frz bs cs), some (.tup [.str b.name, .int c]), some (encB b), some (.lst .own []), none]) (ρ' := [some (encH .frz bs cs), some (.tup [.str b.name, .int c]), some (encB b), some (.lst .own []), none]) (m := .frz) (ds := b.outs.map .str) (by simp [encB]) (by simp)
      simpa using this
    have L : ∀ (os : List Str) (acc : List D) (y : Option D), acc.length + os.length ≤ 1000 → ∃ y', loop (bN 4) (sIf (lQ (qB (pB (oIs false) (pN (oCall d_belt_of) [(dV 0), (dV 4)]) (dC .non)))) (sExpr (eL oApp 3 [(lP (dV 4))])) (sExpr (eL oApp 3 [(lP (pN oTup [(dV 4), (dC (.int 0))]))]))) (os.map .str) [some (encH .frz bs cs), some (.tup [.str b.name, .int c]), some (encB b), some (.lst .own acc), y]
        = some (.nx [some (encH .frz bs cs), some (.tup [.str b.name, .int c]), some (encB b), some (.lst .own (acc ++ os.map (outD bs))), y']) := by
      intro os
      induction os with
      | nil => intro acc y _; exact ⟨y, by simp⟩
      | cons o os ih =>
        intro acc y hl
        rw [List.length_cons] at hl
        obtain ⟨y', e⟩ := ih (acc ++ [outD bs o]) (some (.str o)) (by simp; omega)
        refine ⟨y', ?_⟩
        have hcall : oCall d_belt_of [encH .frz bs cs, .str o] = some (match bs.find? (fun b => b.name == o) with | some b => beltR b | none => .non) :=
          oCall_nb (ls := []) (by simp only [remL_cons, remL_nil, hrem, rem_str]; exact belt_of_ok bs cs o) (.inl (by simp [encH]))
        simp only [List.map_cons, loop_cons]
        by_cases ho : o ∈ names bs
        · obtain ⟨b', hb'⟩ := find_some ho
          rw [hb'] at hcall
          have eo : outD bs o = .tup [.str o, .int 0] := by unfold outD; rw [if_pos ho]
          rw [eo] at e
          simp [hcall, beltR, show acc.length < sizeLine by omega, show 2 ≤ sizeLine by omega, eo, e]
        · rw [find_none ho] at hcall
          have eo : outD bs o = .str o := by unfold outD; rw [if_neg ho]
          rw [eo] at e
          simp [hcall, show acc.length < sizeLine by omega, eo, e]
    obtain ⟨y', eL'⟩ := L b.outs [] none (by simp; omega)
    rw [seq_nx (ρ' := [some (encH .frz bs cs), some (.tup [.str b.name, .int c]), some (encB b), some (.lst .own (b.outs.map (outD bs))), none]) (by rw [sFor_of hw, eL']; rfl)]
    by_cases hr : b.ring = true
    · simp [encB, hr, wantD, hc, show 2 ≤ sizeLine by omega, show b.outs.length < sizeLine by omega]
    · simp [encB, hr, wantD, hc]
end DL

end
section
/-! NS: places: cells and carts. -/
open PySem PySem.Spec L2
namespace DL
inductive Pl where
  | pt (n : Str) (i : Int)
  | on (c : Str)
  deriving DecidableEq
def encP : Pl → D
  | .pt n i => .tup [.str n, .int i]
  | .on c => .str c
def pyP : Pl → PyData
  | .pt n i => .tuple [.str n, .int i]
  | .on c => .str c
def Pl.nm : Pl → Str
  | .pt n _ => n
  | .on c => c
def LayP (x : Pl) : Prop := PyData.canLay0 (.str x.nm) = true
@[simp] theorem encP_rem {F : Mk → Mk} {x : Pl} : D.rem F (encP x) = encP x := by cases x <;> rfl
@[simp] theorem encP_chk {P : Mk → Bool} {x : Pl} : D.chk P (encP x) = true := by cases x <;> rfl
@[simp] theorem encPs_rem {F : Mk → Mk} {xs : List Pl} : D.remL F (xs.map encP) = xs.map encP := by rw [remL_map]; simp
@[simp] theorem encPs_chk {P : Mk → Bool} {xs : List Pl} : D.chkL P (xs.map encP) = true := by rw [chkL_map]; simp
theorem py_encP (x : Pl) : py (encP x) = some (pyP x) := by cases x <;> rfl
theorem pys_encPs (xs : List Pl) : pys (xs.map encP) = some (xs.map pyP) := by
  induction xs with
  | nil => rfl
  | cons x xs ih => rw [List.map_cons, pys, py_encP, ih]; rfl
theorem lay_P {x : Pl} (h : LayP x) : PyData.canLay0 (pyP x) = true := by
  cases x with
  | pt n i =>
    have h : PyData.canLay0 (.str n) = true := h
    simp only [pyP, PyData.canLay0, PyData.canLayAll0] at h ⊢
    rw [h]; rfl
  | on c => exact h
theorem depth_P (x : Pl) : (pyP x).depth ≤ 1 := by
  cases x <;> simp [pyP, PyData.depth, PyData.depthAll]
theorem shaped_P {x : Pl} (h : LayP x) : SeqAt.shaped (pyP x) = true := by
  unfold SeqAt.shaped
  rw [Bool.and_eq_true]
  exact ⟨lay_P h, decide_eq_true (by have := depth_P x; omega)⟩
theorem lay_Ps {xs : List Pl} (h : ∀ x ∈ xs, LayP x) : PyData.canLayAll0 (xs.map pyP) = true := by
  induction xs with
  | nil => rfl
  | cons x xs ih => rw [List.map_cons, PyData.canLayAll0, lay_P (h x List.mem_cons_self), ih fun y hy => h y (List.mem_cons_of_mem _ hy)]; rfl
theorem depth_Ps (xs : List Pl) : PyData.depthAll (xs.map pyP) ≤ 1 := by
  induction xs with
  | nil => exact Nat.zero_le _
  | cons x xs ih => rw [List.map_cons, PyData.depthAll]; have := depth_P x; omega
theorem shaped_Ps {xs : List Pl} (h : ∀ x ∈ xs, LayP x) : SeqAt.shaped (.list (xs.map pyP)) = true := by
  unfold SeqAt.shaped
  rw [Bool.and_eq_true]
  refine ⟨by simp only [PyData.canLay0]; exact lay_Ps h, decide_eq_true ?_⟩
  have := depth_Ps xs
  simp only [PyData.depth]; omega
theorem eqv_P (x y : Pl) : PyData.eqv (pyP x) (pyP y) = decide (x = y) := by
  cases x with
  | pt n i =>
    cases y with
    | pt m j =>
      by_cases h : n = m
      · by_cases h2 : i = j
        · simp [pyP, PyData.eqv, PyData.eqvAll, h, h2]
        · simp [pyP, PyData.eqv, PyData.eqvAll, h, h2]
      · simp [pyP, PyData.eqv, PyData.eqvAll, h]
    | on c => simp [pyP, PyData.eqv]
  | on c =>
    cases y with
    | pt m j => simp [pyP, PyData.eqv]
    | on d =>
      by_cases h : c = d
      · simp [pyP, PyData.eqv, h]
      · simp [pyP, PyData.eqv, h]
theorem eqD_P {x y : Pl} (hx : LayP x) (hy : LayP y) : eqD (encP x) (encP y) = some (decide (x = y)) := by
  have hg : (match py (encP x), py (encP y) with | some p, some q => if (SeqAt.shaped p && SeqAt.shaped q) = true then some (PyData.eqv p q) else none | _, _ => none) = some (decide (x = y)) := by
    rw [py_encP, py_encP]
    dsimp only
    rw [shaped_P hx, shaped_P hy, eqv_P]; rfl
  cases x with
  | pt n i => cases y <;> exact hg
  | on c =>
    cases y with
    | pt n i => exact hg
    | on d =>
      show eqD (.str c) (.str d) = _
      rw [eqD_str]
      by_cases h : c = d <;> simp [h]
theorem any_P (x : Pl) (ys : List Pl) : ((ys.map pyP).any fun z => PyData.eqv z (pyP x)) = decide (x ∈ ys) := by
  induction ys with
  | nil => simp
  | cons y ys ih =>
    rw [List.map_cons, List.any_cons, ih, eqv_P]
    by_cases h : y = x
    · subst h; simp
    · have h' : ¬ x = y := fun e => h e.symm
      simp [h, h']
theorem inD_P {x : Pl} {m : Mk} {ys : List Pl} (hx : LayP x) (hy : ∀ y ∈ ys, LayP y) : inD (encP x) (.lst m (ys.map encP)) = some (decide (x ∈ ys)) := by
  have hg : (if (flatD (encP x) && (ys.map encP).all flatD) = true then some ((ys.map encP).any fun y => eqF y (encP x)) else
      match py (encP x), pys (ys.map encP) with
      | some p, some ps => if (SeqAt.shaped p && SeqAt.shaped (.list ps)) = true then some (ps.any fun z => PyData.eqv z p) else none
      | _, _ => none) = some (decide (x ∈ ys)) := by
    split
    · rename_i h
      rw [Bool.and_eq_true] at h
      cases x with
      | pt n i => cases h.1
      | on c =>
        have hz : ∀ ys : List Pl, (ys.map encP).all flatD = true → ((ys.map encP).any fun y => eqF y (encP (.on c))) = decide (Pl.on c ∈ ys) := by
          intro ys
          induction ys with
          | nil => intro _; simp
          | cons y ys ih =>
            intro h
            rw [List.map_cons, List.all_cons, Bool.and_eq_true] at h
            rw [List.map_cons, List.any_cons, ih h.2]
            cases y with
            | pt n i => cases h.1
            | on d =>
              show ((d == c) || _) = _
              by_cases e : d = c
              · subst e; simp
              · have e' : ¬ c = d := fun z => e z.symm
                simp [e, e']
        rw [hz ys h.2]
    · rw [py_encP, pys_encPs]
      dsimp only
      rw [shaped_P hx, shaped_Ps hy, any_P]; rfl
  cases x with
  | pt n i => exact hg
  | on c => exact hg
theorem eqD_Ps {m m' : Mk} {xs : List Pl} (h : ∀ x ∈ xs, LayP x) : eqD (.lst m (xs.map encP)) (.lst m' (xs.map encP)) = some true := by
  show (match py _, py _ with | some p, some q => if (SeqAt.shaped p && SeqAt.shaped q) = true then some (PyData.eqv p q) else none | _, _ => none) = _
  have : ∀ m, py (.lst m (xs.map encP)) = some (.list (xs.map pyP)) := fun m => by show (pys _).map _ = _; rw [pys_encPs]; rfl
  rw [this, this]
  dsimp only
  rw [shaped_Ps h]
  show some _ = _
  have := eqD_refl (x := .lst .frz (xs.map encP)) (this .frz) (shaped_Ps h)
  have h2 : eqD (.lst .frz (xs.map encP)) (.lst .frz (xs.map encP)) = (match py (.lst .frz (xs.map encP)), py (.lst .frz (xs.map encP)) with | some p, some q => if (SeqAt.shaped p && SeqAt.shaped q) = true then some (PyData.eqv p q) else none | _, _ => none) := rfl
  rw [h2, ‹∀ m, py (.lst m (xs.map encP)) = some (.list (xs.map pyP))› .frz] at this
  dsimp only at this
  rw [shaped_Ps h] at this
  exact this
/-! ### where one may go -/
def outP (bs : List Belt) (o : Str) : Pl := if o ∈ names bs then .pt o 0 else .on o
def nextB (bs : List Belt) (b : Belt) (j : Int) : List Pl := if j + 1 < b.long then [.pt b.name (j + 1)] else b.outs.map (outP bs) ++ if b.ring = true then [.pt b.name 0] else []
def nextP (bs : List Belt) : Pl → List Pl
  | .pt n j => match bs.find? (fun b => b.name == n) with | some b => nextB bs b j | none => []
  | .on _ => []
theorem want_next (bs : List Belt) (b : Belt) (j : Int) : wantD bs b j = (nextB bs b j).map encP := by
  unfold wantD nextB
  split
  · rfl
  · rw [List.map_append, List.map_map]
    congr 1
    · apply List.map_congr_left
      intro o _
      show outD bs o = encP (outP bs o)
      unfold outD outP
      split <;> rfl
    · split <;> rfl
inductive VP (bs : List Belt) (cs : List Str) : Pl → Prop
  | pt {b : Belt} {j : Int} (hb : b ∈ bs) (h0 : 0 ≤ j) (h1 : j < b.long) : VP bs cs (.pt b.name j)
  | on {c : Str} (hc : c ∈ cs) : VP bs cs (.on c)
theorem VP.lay {bs : List Belt} {cs : List Str} (hk : HOk bs cs) {x : Pl} (h : VP bs cs x) : LayP x := by
  cases h with
  | pt hb h0 h1 => exact (hk.ok _ (List.mem_append_left _ (List.mem_map.mpr ⟨_, hb, rfl⟩))).1
  | on hc => exact (hk.ok _ (List.mem_append_right _ hc)).1
theorem vp_out {bs : List Belt} {cs : List Str} (hk : HOk bs cs) {b : Belt} (hb : b ∈ bs) {o : Str} (ho : o ∈ b.outs) : VP bs cs (outP bs o) := by
  unfold outP
  split
  · rename_i h
    obtain ⟨a, ha, rfl⟩ := List.mem_map.mp h
    exact .pt ha (Int.le_refl _) (by have := (wf_outs hk.wf ha).1; omega)
  · rename_i h
    exact .on ((List.mem_append.mp ((wf_outs hk.wf hb).2.2.2.1 o ho)).resolve_left h)
theorem vp_nextB {bs : List Belt} {cs : List Str} (hk : HOk bs cs) {b : Belt} (hb : b ∈ bs) {j : Int} (h0 : 0 ≤ j) : ∀ y ∈ nextB bs b j, VP bs cs y := by
  intro y hy
  unfold nextB at hy
  split at hy
  · rename_i h
    rw [List.mem_singleton.mp hy]
    exact .pt hb (by omega) h
  · rcases List.mem_append.mp hy with hy | hy
    · obtain ⟨o, ho, rfl⟩ := List.mem_map.mp hy
      exact vp_out hk hb ho
    · split at hy
      · rw [List.mem_singleton.mp hy]
        exact .pt hb (Int.le_refl _) (by have := (wf_outs hk.wf hb).1; omega)
      · cases hy
theorem nextP_pt {bs : List Belt} {cs : List Str} (hk : HOk bs cs) {b : Belt} (hb : b ∈ bs) (j : Int) : nextP bs (.pt b.name j) = nextB bs b j := by
  unfold nextP; dsimp only; rw [find_mem hk.nd hb]
theorem vp_next {bs : List Belt} {cs : List Str} (hk : HOk bs cs) {x : Pl} (h : VP bs cs x) : ∀ y ∈ nextP bs x, VP bs cs y := by
  cases h with
  | pt hb h0 h1 => rw [nextP_pt hk hb]; exact vp_nextB hk hb h0
  | on hc => intro y hy; cases hy
theorem nextB_len {bs : List Belt} {cs : List Str} (hk : HOk bs cs) {b : Belt} (hb : b ∈ bs) (j : Int) : 1 ≤ (nextB bs b j).length ∧ (nextB bs b j).length ≤ 11 := by
  have h10 := (wf_outs hk.wf hb).2.2.2.2.2
  have hne : b.outs ≠ [] := by
    obtain ⟨k, hkb⟩ := List.mem_iff_getElem?.mp hb
    have : ∀ {bs : List Belt} {k : Nat}, WFb cs bs → bs[k]? = some b → b.outs ≠ [] := by
      intro bs
      induction bs with
      | nil => intro k _ h; simp at h
      | cons a bs ih =>
        intro k h e
        obtain ⟨_, _, _, _, _, _, h7, _, h9⟩ := h
        cases k with
        | zero => cases e; exact h7
        | succ k => exact ih h9 (by simpa using e)
    exact this hk.wf hkb
  have hl := List.length_pos_iff.mpr hne
  unfold nextB
  split
  · simp
  · rw [List.length_append, List.length_map]
    split <;> simp <;> omega
theorem steps_P {bs : List Belt} {cs : List Str} (hk : HOk bs cs) {x : Pl} (h : VP bs cs x) (hx : ∀ c, x ≠ .on c) : oCall d_steps [encH .frz bs cs, encP x] = some (.lst .own ((nextP bs x).map encP)) := by
  cases h with
  | on hc => exact absurd rfl (hx _)
  | pt hb h0 h1 =>
    rw [nextP_pt hk hb, ← want_next]
    refine oCall_nb (ls := []) ?_ (.inl (by simp))
    simp only [remL_cons, remL_nil, encH_rem, encP_rem]
    exact steps_ok hk hb _
theorem isi_str {x : Pl} : isiB "str" (encP x) = some (match x with | .on _ => true | .pt _ _ => false) := by cases x <;> rfl
end DL

end
section
/-! NL: the law's cells, steps, walk. -/
open PySem PySem.Spec L2
namespace DL
theorem last_atG {α : Type} (xs : List α) (x : α) : atI (xs ++ [x]) (-1) = some x := by
  unfold atI ixN
  rw [List.length_append, List.length_singleton, if_neg (by decide), if_pos (by omega)]
  dsimp only [Option.bind_some]
  rw [show (-1 + ((xs.length + 1 : Nat) : Int)).toNat = xs.length by omega, List.getElem?_append_right (Nat.le_refl _), Nat.sub_self]; rfl
def cellsOf (bs : List Belt) : List Pl := bs.flatMap fun b => (List.range b.long.toNat).map fun (i : Nat) => .pt b.name i
theorem cells_len {bs : List Belt} (h : ∀ b ∈ bs, b.long ≤ 15) : (cellsOf bs).length ≤ 15 * bs.length := by
  unfold cellsOf
  induction bs with
  | nil => exact Nat.le_refl _
  | cons b bs ih =>
    have := ih fun x hx => h x (List.mem_cons_of_mem _ hx)
    have := h b List.mem_cons_self
    rw [List.flatMap_cons, List.length_append, List.length_map, List.length_range, List.length_cons]
    omega
theorem cells_vp {bs : List Belt} {cs : List Str} : ∀ x ∈ cellsOf bs, VP bs cs x ∧ ∀ c, x ≠ .on c := by
  intro x hx
  unfold cellsOf at hx
  obtain ⟨b, hb, hx⟩ := List.mem_flatMap.mp hx
  obtain ⟨i, hi, rfl⟩ := List.mem_map.mp hx
  have := List.mem_range.mp hi
  exact ⟨.pt hb (by omega) (by omega), fun c e => by cases e⟩
theorem cells_pos {bs : List Belt} {cs : List Str} (hk : HOk bs cs) (h : 1 ≤ bs.length) : 1 ≤ (cellsOf bs).length := by
  cases bs with
  | nil => simp at h
  | cons b bs =>
    have := (wf_outs hk.wf (List.mem_cons_self : b ∈ b :: bs)).1
    unfold cellsOf
    rw [List.flatMap_cons, List.length_append, List.length_map, List.length_range]
    omega
theorem cells_ok {bs : List Belt} {cs : List Str} (hk : HOk bs cs) (h15 : ∀ b ∈ bs, b.long ≤ 15) : d_law_cells_6ad7a8 [encH .frz bs cs] = some (.ret (.lst .frz ((cellsOf bs).map encP)) []) := by
  have hs := size_big
  have hb6 := hk.nl
  let E : List Pl → Option D → Option D → Option D → Option D → Env := fun acc y2 y3 y4 y5 => [some (encH .frz bs cs), some (.lst .frz (acc.map encP)), y2, y3, y4, y5, none]
  have L : ∀ (xs : List Belt) (acc : List Pl) (y2 y3 y4 y5 : Option D), (∀ b ∈ xs, 1 ≤ b.long ∧ b.long ≤ 15) → acc.length + 15 * xs.length ≤ 1000 → ∃ w2 w3 w4 w5, loop (bT (bsCons (bN 2) (bsCons (bN 3) (bsCons (bN 4) (bsCons (bN 5) bsNil))))) (sF 1 (eB oAdd (lP (dV 1)) (eLc (iRng [(lP (dV 3))]) (bN 6) tYesF (lP (pN oTup [(dV 2), (dV 6)])) [6]))) (xs.map encB) (E acc y2 y3 y4 y5) = some (.nx (E (acc ++ cellsOf xs) w2 w3 w4 w5)) := by
    intro xs
    induction xs with
    | nil => intro acc y2 y3 y4 y5 _ _; exact ⟨y2, y3, y4, y5, by simp [cellsOf]⟩
    | cons b xs ih =>
      intro acc y2 y3 y4 y5 hb hl
      rw [List.length_cons] at hl
      have hbl := hb b List.mem_cons_self
      obtain ⟨w2, w3, w4, w5, e⟩ := ih (acc ++ (List.range b.long.toNat).map fun (i : Nat) => .pt b.name i) (some (.str b.name)) (some (.int b.long)) (some (.bl b.ring)) (some (.lst .frz (b.outs.map .str))) (fun x hx => hb x (List.mem_cons_of_mem _ hx)) (by rw [List.length_append, List.length_map, List.length_range]; omega)
      refine ⟨w2, w3, w4, w5, ?_⟩
      have ec : acc ++ cellsOf (b :: xs) = acc ++ ((List.range b.long.toNat).map fun (i : Nat) => Pl.pt b.name i) ++ cellsOf xs := by unfold cellsOf; rw [List.flatMap_cons, List.append_assoc]
      rw [ec, ← e, List.map_cons, loop_cons]
      have hbind : (bT (bsCons (bN 2) (bsCons (bN 3) (bsCons (bN 4) (bsCons (bN 5) bsNil))))) (encB b) (E acc y2 y3 y4 y5) = some (E acc (some (.str b.name)) (some (.int b.long)) (some (.bl b.ring)) (some (.lst .frz (b.outs.map .str)))) := by simp [bT, bsCons, bsNil, encB, E]
      rw [hbind]
      dsimp only
      have hq := iRng_1 (j := b.long) (f := lP (dV 3)) (ρ := E acc (some (.str b.name)) (some (.int b.long)) (some (.bl b.ring)) (some (.lst .frz (b.outs.map .str)))) (ρ' := E acc (some (.str b.name)) (some (.int b.long)) (some (.bl b.ring)) (some (.lst .frz (b.outs.map .str)))) (by simp [E]) (okR_small (by omega) (by omega))
      have hl2 := eLc_pure (q := iRng [(lP (dV 3))]) (b := bN 6) (t := tYesF) (f := (lP (pN oTup [(dV 2), (dV 6)]))) (is := [6]) (ρ0 := E acc (some (.str b.name)) (some (.int b.long)) (some (.bl b.ring)) (some (.lst .frz (b.outs.map .str)))) (fun _ => true) (fun x => .tup [.str b.name, x]) hq rfl rfl (fun x hx => by
        obtain ⟨k, hk⟩ := List.mem_iff_getElem?.mp hx
        obtain ⟨hkn, rfl⟩ := rngD_get hk
        exact ⟨[some (encH .frz bs cs), some (.lst .frz (acc.map encP)), some (.str b.name), some (.int b.long), some (.bl b.ring), some (.lst .frz (b.outs.map .str)), some (.int (0 + (k : Int)))], rfl, rfl, fun _ => ⟨by simp [show 2 ≤ sizeLine by omega], rfl⟩, rfl⟩) (by rw [rngD_len]; omega)
      have hmap : ((rngD 0 b.long.toNat).filter fun _ => true).map (fun x => D.tup [.str b.name, x]) = ((List.range b.long.toNat).map fun (i : Nat) => Pl.pt b.name i).map encP := by
        rw [List.filter_eq_self.mpr (fun _ _ => rfl)]
        unfold rngD
        rw [List.map_map, List.map_map]
        apply List.map_congr_left
        intro i _
        show D.tup [.str b.name, .int (0 + (i : Int))] = D.tup [.str b.name, .int (i : Int)]
        rw [show (0 : Int) + (i : Int) = i by omega]
      rw [hmap] at hl2
      have hll : ((List.range b.long.toNat).map fun (i : Nat) => Pl.pt b.name i).length ≤ 15 := by rw [List.length_map, List.length_range]; omega
      generalize ((List.range b.long.toNat).map fun (i : Nat) => Pl.pt b.name i) = C at *
      have hst : (sF 1 (eB oAdd (lP (dV 1)) (eLc (iRng [(lP (dV 3))]) (bN 6) tYesF (lP (pN oTup [(dV 2), (dV 6)])) [6]))) (E acc (some (.str b.name)) (some (.int b.long)) (some (.bl b.ring)) (some (.lst .frz (b.outs.map .str)))) = some (.nx (E (acc ++ C) (some (.str b.name)) (some (.int b.long)) (some (.bl b.ring)) (some (.lst .frz (b.outs.map .str))))) := by
        rw [sF_eq, eB_eq, show (lP (dV 1)) (E acc (some (.str b.name)) (some (.int b.long)) (some (.bl b.ring)) (some (.lst .frz (b.outs.map .str)))) = some (.ok (.lst .frz (acc.map encP)) (E acc (some (.str b.name)) (some (.int b.long)) (some (.bl b.ring)) (some (.lst .frz (b.outs.map .str))))) from rfl]
        dsimp only
        rw [if_pos (by simp), hl2]
        simp [E, show acc.length + C.length ≤ sizeLine by omega]
      rw [hst]
  obtain ⟨w2, w3, w4, w5, e⟩ := L bs [] none none none none (fun b hb => ⟨(wf_outs hk.wf hb).1, h15 b hb⟩) (by simp; omega)
  show fnR [false] (b_law_cells_6ad7a8 [some (encH .frz bs cs), none, none, none, none, none, none]) = _
  unfold b_law_cells_6ad7a8
  rw [seq_nx (ρ' := E [] none none none none) (by simp [E])]
  rw [seq_nx (ρ' := E (cellsOf bs) none none none none) (by
    rw [sFor_of (walk_belts (bs := bs) (by simp [E])), e]; rfl)]
  simp [E]
/-! ### the law's steps -/
theorem index_strs {m : Mk} {xs : List Str} {k : Nat} {s : Str} (hn : xs.Nodup) (hk : xs[k]? = some s) (hl : ∀ s ∈ xs, PyData.canLay0 (.str s) = true) : oIndex (.lst m (xs.map .str)) (.str s) = some (.int (k : Nat)) := by
  have h1 : SeqAt.shaped (.list (xs.map PyData.str)) = true := by
    unfold SeqAt.shaped
    rw [Bool.and_eq_true]
    refine ⟨by simp only [PyData.canLay0]; exact lay_strs hl, decide_eq_true ?_⟩
    simp only [PyData.depth, depth_strs]; omega
  have h2 : SeqAt.shaped (.str s) = true := by
    unfold SeqAt.shaped
    rw [hl s (List.mem_of_getElem? hk)]; rfl
  show (match pys (xs.map .str), py (.str s) with
    | some ps, some p => if SeqAt.shaped (.list ps) = true ∧ SeqAt.shaped p = true then (ps.findIdx? fun z => PyData.eqv z p).map fun j => D.int (j : Nat) else none
    | _, _ => none) = _
  rw [pys_strs]
  show (if SeqAt.shaped (.list (xs.map .str)) = true ∧ SeqAt.shaped (.str s) = true then _ else none) = _
  rw [if_pos ⟨h1, h2⟩]
  have : (xs.map PyData.str).findIdx? (fun z => PyData.eqv z (.str s)) = some k := by
    rw [List.findIdx?_eq_some_iff_getElem]
    obtain ⟨hkl, e⟩ := List.getElem?_eq_some_iff.mp hk
    refine ⟨by rw [List.length_map]; exact hkl, ?_, fun j hj => ?_⟩
    · rw [List.getElem_map, e]; simp [PyData.eqv]
    · rw [List.getElem_map]
      have hne : xs[j] ≠ s := fun z => by
        have := (List.getElem_inj hn).mp (z.trans e.symm)
        omega
      simp [PyData.eqv, hne]
  rw [this]; rfl
theorem lsteps_ok {bs : List Belt} {cs : List Str} (hk : HOk bs cs) {b : Belt} (hb : b ∈ bs) (j : Int) : d_law_steps_cb5b23 [encH .frz bs cs, encP (.pt b.name j)] = some (.ret (.lst .own ((nextB bs b j).map encP)) []) := by
  have hs := size_big
  have hb6 := hk.nl
  obtain ⟨a1, a2, a3, a4, a5, a6⟩ := wf_outs hk.wf hb
  obtain ⟨k, hkb⟩ := List.mem_iff_getElem?.mp hb
  have hkn : (names bs)[k]? = some b.name := by unfold names; rw [List.getElem?_map, hkb]; rfl
  have hix := index_strs (m := .frz) hk.nd hkn (fun s hs => (hk.ok s (List.mem_append_left _ hs)).1)
  let E : Option D → Option D → Option D → Option D → Option D → Option D → Option D → Env := fun y2 y3 y4 y5 y6 y7 y8 => [some (encH .frz bs cs), some (encP (.pt b.name j)), y2, y3, y4, y5, y6, y7, y8, none]
  have x0 : ixD (encP (.pt b.name j)) (.int 0) = some (.str b.name) := by simp [encP]
  have x1 : ixD (encP (.pt b.name j)) (.int 1) = some (.int j) := by simp [encP]
  have hbk : atI (bs.map encB) (k : Int) = some (encB b) := by rw [atI_map, atI_get hkb]; rfl
  show fnR [false, false] (b_law_steps_cb5b23 (E none none none none none none none)) = _
  unfold b_law_steps_cb5b23
  have hwk : iAll (lP (pB ixD (dV 0) (dC (.int 0)))) (E none none none none none none none) = _ := walk_belts (bs := bs) (by simp [E])
  have hl := eLc_pure (q := iAll (lP (pB ixD (dV 0) (dC (.int 0))))) (b := bN 9) (t := tYesF) (f := (lP (pB ixD (dV 9) (dC (.int 0))))) (is := [9]) (ρ0 := E none none none none none none none) (fun _ => true) (fun x => match x with | .tup (.str s :: _) => .str s | x => x) hwk rfl rfl (fun x hx => by
    obtain ⟨a, ha, rfl⟩ := List.mem_map.mp hx
    exact ⟨[some (encH .frz bs cs), some (encP (.pt b.name j)), none, none, none, none, none, none, none, some (encB a)], rfl, rfl, fun _ => ⟨by simp [encB], rfl⟩, rfl⟩) (by simp; omega)
  have hmap : ((bs.map encB).filter fun _ => true).map (fun x => match x with | .tup (.str s :: _) => D.str s | x => x) = (names bs).map .str := by
    rw [List.filter_eq_self.mpr (fun _ _ => rfl)]
    unfold names
    rw [List.map_map, List.map_map]
    rfl
  rw [hmap] at hl
  rw [seq_nx (ρ' := E (some (.lst .frz ((names bs).map .str))) none none none none none none) (by rw [sF_eq, hl]; simp [E])]
  rw [seq_nx (ρ' := E (some (.lst .frz ((names bs).map .str))) (some (.str b.name)) (some (.int b.long)) (some (.bl b.ring)) (some (.lst .frz (b.outs.map .str))) none none) (by
    have : (lP (pB ixD (pB ixD (dV 0) (dC (.int 0))) (pB oIndex (dV 2) (pB ixD (dV 1) (dC (.int 0)))))) (E (some (.lst .frz ((names bs).map .str))) none none none none none none) = some (.ok (encB b) (E (some (.lst .frz ((names bs).map .str))) none none none none none none)) := by simp [E, x0, hix, hbk]
    unfold sUnp
    rw [this]
    simp [bT, bsCons, bsNil, encB, E])]
  by_cases hj : j + 1 < b.long
  · have hn : nextB bs b j = [.pt b.name (j + 1)] := by unfold nextB; rw [if_pos hj]
    rw [hn, seq_rt (d := .lst .own [.tup [.str b.name, .int (j + 1)]]) (ρ' := E (some (.lst .frz ((names bs).map .str))) (some (.str b.name)) (some (.int b.long)) (some (.bl b.ring)) (some (.lst .frz (b.outs.map .str))) none none) (by simp [E, x1, hj, show 2 ≤ sizeLine by omega, show 1 ≤ sizeLine by omega])]
    simp [E, encP]
  · have hn : nextB bs b j = b.outs.map (outP bs) ++ if b.ring = true then [.pt b.name 0] else [] := by unfold nextB; rw [if_neg hj]
    rw [seq_nx (ρ' := E (some (.lst .frz ((names bs).map .str))) (some (.str b.name)) (some (.int b.long)) (some (.bl b.ring)) (some (.lst .frz (b.outs.map .str))) none none) (by simp [E, x1, hj])]
    let F : List Pl → Option D → Env := fun acc y8 => E (some (.lst .frz ((names bs).map .str))) (some (.str b.name)) (some (.int b.long)) (some (.bl b.ring)) (some (.lst .frz (b.outs.map .str))) (some (.lst .own (acc.map encP))) y8
    rw [seq_nx (ρ' := F [] none) (by simp [E, F])]
    have L : ∀ (os : List Str) (acc : List Pl) (y : Option D), acc.length + os.length ≤ 1000 → ∃ y', loop (bN 8) (sExpr (eL oApp 7 [(lP (dIf (qB (pB (oIn false) (dV 8) (dV 2))) (pN oTup [(dV 8), (dC (.int 0))]) (dV 8)))])) (os.map .str) (F acc y) = some (.nx (F (acc ++ os.map (outP bs)) y')) := by
      intro os
      induction os with
      | nil => intro acc y _; exact ⟨y, by simp⟩
      | cons o os ih =>
        intro acc y hl
        rw [List.length_cons] at hl
        obtain ⟨y', e⟩ := ih (acc ++ [outP bs o]) (some (.str o)) (by simp; omega)
        refine ⟨y', ?_⟩
        rw [List.map_cons, loop_cons, List.map_cons, show acc ++ outP bs o :: os.map (outP bs) = acc ++ [outP bs o] ++ os.map (outP bs) by simp, ← e]
        by_cases ho : o ∈ names bs
        · have eo : outP bs o = .pt o 0 := by unfold outP; rw [if_pos ho]
          rw [eo]
          simp [F, E, ho, encP, show acc.length < sizeLine by omega, show 2 ≤ sizeLine by omega]
        · have eo : outP bs o = .on o := by unfold outP; rw [if_neg ho]
          rw [eo]
          simp [F, E, ho, encP, show acc.length < sizeLine by omega, show 2 ≤ sizeLine by omega]
    obtain ⟨y', eL'⟩ := L b.outs [] none (by simp; omega)
    rw [seq_nx (ρ' := F (b.outs.map (outP bs)) none) (by
      rw [sFor_of (walk_strs (m := .frz) (xs := b.outs) (by simp [F, E]) (.inl rfl)), eL']; rfl)]
    rw [hn]
    have hol : (b.outs.map (outP bs)).length ≤ 10 := by rw [List.length_map]; exact a6
    generalize b.outs.map (outP bs) = A at *
    by_cases hr : b.ring = true
    · rw [if_pos hr]
      simp [F, E, hr, encP, show 2 ≤ sizeLine by omega, show A.length < sizeLine by omega]
    · rw [if_neg hr]
      simp [F, E, hr]
theorem lsteps_P {bs : List Belt} {cs : List Str} (hk : HOk bs cs) {x : Pl} (h : VP bs cs x) (hx : ∀ c, x ≠ .on c) : oCall d_law_steps_cb5b23 [encH .frz bs cs, encP x] = some (.lst .own ((nextP bs x).map encP)) := by
  cases h with
  | on hc => exact absurd rfl (hx _)
  | pt hb h0 h1 =>
    rw [nextP_pt hk hb]
    refine oCall_nb (ls := []) ?_ (.inl (by simp))
    simp only [remL_cons, remL_nil, encH_rem, encP_rem]
    exact lsteps_ok hk hb _
end DL

end
section
/-! NC: places from moment to moment. -/
open PySem PySem.Spec L2
namespace DL
structure Sp where
  n : Str
  i : Int
  t : Int
  deriving DecidableEq
def encS (s : Sp) : D := .tup [.str s.n, .int s.i, .int s.t]
def pyS (s : Sp) : PyData := .tuple [.str s.n, .int s.i, .int s.t]
def LayS (s : Sp) : Prop := PyData.canLay0 (.str s.n) = true
@[simp] theorem encS_rem {F : Mk → Mk} {x : Sp} : D.rem F (encS x) = encS x := rfl
@[simp] theorem encS_chk {P : Mk → Bool} {x : Sp} : D.chk P (encS x) = true := rfl
@[simp] theorem encSs_rem {F : Mk → Mk} {xs : List Sp} : D.remL F (xs.map encS) = xs.map encS := by rw [remL_map]; simp
@[simp] theorem encSs_chk {P : Mk → Bool} {xs : List Sp} : D.chkL P (xs.map encS) = true := by rw [chkL_map]; simp
theorem pys_encSs (xs : List Sp) : pys (xs.map encS) = some (xs.map pyS) := by
  induction xs with
  | nil => rfl
  | cons x xs ih => rw [List.map_cons, pys, ih]; rfl
theorem lay_S {x : Sp} (h : LayS x) : PyData.canLay0 (pyS x) = true := by
  have h : PyData.canLay0 (.str x.n) = true := h
  simp only [pyS, PyData.canLay0, PyData.canLayAll0] at h ⊢
  rw [h]; rfl
theorem depth_S (x : Sp) : (pyS x).depth ≤ 1 := by simp [pyS, PyData.depth, PyData.depthAll]
theorem shaped_S {x : Sp} (h : LayS x) : SeqAt.shaped (pyS x) = true := by
  unfold SeqAt.shaped
  rw [Bool.and_eq_true]
  exact ⟨lay_S h, decide_eq_true (by have := depth_S x; omega)⟩
theorem lay_Ss {xs : List Sp} (h : ∀ x ∈ xs, LayS x) : PyData.canLayAll0 (xs.map pyS) = true := by
  induction xs with
  | nil => rfl
  | cons x xs ih => rw [List.map_cons, PyData.canLayAll0, lay_S (h x List.mem_cons_self), ih fun y hy => h y (List.mem_cons_of_mem _ hy)]; rfl
theorem depth_Ss (xs : List Sp) : PyData.depthAll (xs.map pyS) ≤ 1 := by
  induction xs with
  | nil => exact Nat.zero_le _
  | cons x xs ih => rw [List.map_cons, PyData.depthAll]; have := depth_S x; omega
theorem shaped_Ss {xs : List Sp} (h : ∀ x ∈ xs, LayS x) : SeqAt.shaped (.list (xs.map pyS)) = true := by
  unfold SeqAt.shaped
  rw [Bool.and_eq_true]
  refine ⟨by simp only [PyData.canLay0]; exact lay_Ss h, decide_eq_true ?_⟩
  have := depth_Ss xs
  simp only [PyData.depth]; omega
theorem eqv_S (x y : Sp) : PyData.eqv (pyS x) (pyS y) = decide (x = y) := by
  obtain ⟨n, i, t⟩ := x
  obtain ⟨m, j, u⟩ := y
  by_cases h : n = m
  · by_cases h2 : i = j
    · by_cases h3 : t = u
      · simp [pyS, PyData.eqv, PyData.eqvAll, h, h2, h3]
      · simp [pyS, PyData.eqv, PyData.eqvAll, h, h2, h3]
    · simp [pyS, PyData.eqv, PyData.eqvAll, h, h2]
  · simp [pyS, PyData.eqv, PyData.eqvAll, h]
theorem inD_S {x : Sp} {m : Mk} {ys : List Sp} (hx : LayS x) (hy : ∀ y ∈ ys, LayS y) : inD (encS x) (.lst m (ys.map encS)) = some (decide (x ∈ ys)) := by
  show (match py (encS x), pys (ys.map encS) with
      | some p, some ps => if (SeqAt.shaped p && SeqAt.shaped (.list ps)) = true then some (ps.any fun z => PyData.eqv z p) else none
      | _, _ => none) = some (decide (x ∈ ys))
  rw [show py (encS x) = some (pyS x) from rfl, pys_encSs]
  dsimp only
  rw [shaped_S hx, shaped_Ss hy]
  show some _ = some _
  congr 1
  induction ys with
  | nil => simp
  | cons y ys ih =>
    rw [List.map_cons, List.any_cons, ih fun z hz => hy z (List.mem_cons_of_mem _ hz), eqv_S]
    by_cases h : y = x
    · subst h; simp
    · have h' : ¬ x = y := fun e => h e.symm
      simp [h, h']
/-! ### one turn -/
def atS (x : Pl) (t : Int) : Sp := match x with | .pt n i => ⟨n, i, t⟩ | .on c => ⟨c, 0, t⟩
def isPt : Pl → Bool | .pt _ _ => true | .on _ => false
def scan (cart : Option Pl) (Z : List Sp) (t : Int) : List Pl → List Pl → Option (List Pl)
  | [], acc => some acc
  | x :: L, acc => if some x = cart then none else scan cart Z t L (if isPt x = true ∧ x ∉ acc ∧ atS x t ∉ Z then acc ++ [x] else acc)
theorem scan_app (cart : Option Pl) (Z : List Sp) (t : Int) : ∀ (A B acc : List Pl), scan cart Z t (A ++ B) acc = (scan cart Z t A acc).bind (scan cart Z t B)
  | [], B, acc => rfl
  | x :: A, B, acc => by
    show (if some x = cart then none else scan cart Z t (A ++ B) _) = (if some x = cart then none else scan cart Z t A _).bind _
    split
    · rfl
    · exact scan_app cart Z t A B _
/-- what a list of places may be -/
def GoodL (bs : List Belt) (acc : List Pl) : Prop := acc.Nodup ∧ ∀ x ∈ acc, x ∈ cellsOf bs
theorem pt_cell {bs : List Belt} {cs : List Str} {x : Pl} (h : VP bs cs x) (hx : isPt x = true) : x ∈ cellsOf bs := by
  cases h with
  | on hc => cases hx
  | @pt b j hb h0 h1 =>
    unfold cellsOf
    exact List.mem_flatMap.mpr ⟨b, hb, List.mem_map.mpr ⟨j.toNat, List.mem_range.mpr (by omega), by rw [Int.toNat_of_nonneg h0]⟩⟩
theorem good_len {bs : List Belt} {acc : List Pl} (h : GoodL bs acc) : acc.length ≤ (cellsOf bs).length := nodup_le h.1 h.2
theorem scan_good {bs : List Belt} {cs : List Str} (cart : Option Pl) (Z : List Sp) (t : Int) : ∀ (L acc acc' : List Pl), (∀ x ∈ L, VP bs cs x) → GoodL bs acc → scan cart Z t L acc = some acc' → GoodL bs acc'
  | [], acc, acc', _, h, e => by cases e; exact h
  | x :: L, acc, acc', hL, h, e => by
    unfold scan at e
    split at e
    · cases e
    · refine scan_good cart Z t L _ acc' (fun y hy => hL y (List.mem_cons_of_mem _ hy)) ?_ e
      split
      · rename_i c
        refine ⟨List.nodup_append.mpr ⟨h.1, by simp, fun a ha b hb e => c.2.1 (by rw [List.mem_singleton.mp hb] at e; rw [← e]; exact ha)⟩, fun y hy => ?_⟩
        rcases List.mem_append.mp hy with hy | hy
        · exact h.2 y hy
        · rw [List.mem_singleton.mp hy]; exact pt_cell (hL x List.mem_cons_self) c.1
      · exact h
theorem good_cells {bs : List Belt} {cs : List Str} {acc : List Pl} (h : GoodL bs acc) : ∀ x ∈ acc, VP bs cs x ∧ ∀ c, x ≠ .on c := fun x hx => cells_vp x (h.2 x hx)
def allS (bs : List Belt) (now : List Pl) : List Pl := now.flatMap fun p => p :: nextP bs p
theorem allS_vp {bs : List Belt} {cs : List Str} (hk : HOk bs cs) {now : List Pl} (h : ∀ x ∈ now, VP bs cs x) : ∀ x ∈ allS bs now, VP bs cs x := by
  intro x hx
  obtain ⟨p, hp, hx⟩ := List.mem_flatMap.mp hx
  rcases List.mem_cons.mp hx with rfl | hx
  · exact h _ hp
  · exact vp_next hk (h p hp) x hx
/-- turn by turn -/
def runR (bs : List Belt) (cart : Option Pl) (Z : List Sp) : Nat → Nat → List Pl → Option (List (List Pl))
  | 0, _, _ => some []
  | n + 1, m, now => (scan cart Z (m : Int) (allS bs now) []).bind fun nw => (runR bs cart Z n (m + 1) nw).map (nw :: ·)
theorem good_nil (bs : List Belt) : GoodL bs [] := ⟨List.nodup_nil, fun x h => by cases h⟩
theorem runR_good {bs : List Belt} {cs : List Str} (hk : HOk bs cs) (cart : Option Pl) (Z : List Sp) : ∀ (n m : Nat) (now : List Pl) (SS : List (List Pl)), (∀ x ∈ now, VP bs cs x) → runR bs cart Z n m now = some SS → SS.length = n ∧ ∀ s ∈ SS, GoodL bs s
  | 0, m, now, SS, _, e => by cases e; exact ⟨rfl, fun s h => by cases h⟩
  | n + 1, m, now, SS, hn, e => by
    unfold runR at e
    obtain ⟨nw, e1, e2⟩ := Option.bind_eq_some_iff.mp e
    obtain ⟨TT, e3, rfl⟩ := Option.map_eq_some_iff.mp e2
    have hg := scan_good (cs := cs) cart Z m _ _ _ (allS_vp hk hn) (good_nil bs) e1
    obtain ⟨h1, h2⟩ := runR_good hk cart Z n (m + 1) nw TT (fun x hx => (good_cells hg x hx).1) e3
    refine ⟨by rw [List.length_cons, h1], fun s hs => ?_⟩
    rcases List.mem_cons.mp hs with rfl | hs
    · exact hg
    · exact h2 s hs
theorem rngD_succ (lo : Int) (n : Nat) : rngD lo (n + 1) = .int lo :: rngD (lo + 1) n := by
  unfold rngD
  rw [List.range_succ_eq_map, List.map_cons, List.map_map]
  congr 1
  · show D.int (lo + ((0 : Nat) : Int)) = _; rw [show lo + ((0 : Nat) : Int) = lo by omega]
  · apply List.map_congr_left
    intro i _
    show D.int (lo + ((i + 1 : Nat) : Int)) = D.int (lo + 1 + (i : Int))
    rw [show lo + ((i + 1 : Nat) : Int) = lo + 1 + (i : Int) by omega]
/-! ### the loops -/
theorem scan_loop {bs : List Belt} {cs : List Str} {cart : Option Pl} {Z : List Sp} {t : Int} {r : D} {lm : List Bool} (E : List Pl → Option D → Env) (b : BF) (g : SF) (hb : ∀ d acc y, b d (E acc y) = some (E acc (some d)))
    (hs : ∀ (x : Pl) (acc : List Pl), VP bs cs x → GoodL bs acc → (some x = cart → ∃ ρ, g (E acc (some (encP x))) = some (.rt r ρ) ∧ lents lm ρ = some []) ∧ (some x ≠ cart → g (E acc (some (encP x))) = some (.nx (E (if isPt x = true ∧ x ∉ acc ∧ atS x t ∉ Z then acc ++ [x] else acc) (some (encP x)))))) :
    ∀ (L acc : List Pl) (y : Option D), (∀ x ∈ L, VP bs cs x) → GoodL bs acc → (∀ acc', scan cart Z t L acc = some acc' → ∃ y', loop b g (L.map encP) (E acc y) = some (.nx (E acc' y'))) ∧ (scan cart Z t L acc = none → ∃ ρ, loop b g (L.map encP) (E acc y) = some (.rt r ρ) ∧ lents lm ρ = some [])
  | [], acc, y, _, _ => ⟨fun acc' e => by cases e; exact ⟨y, rfl⟩, fun e => by cases e⟩
  | x :: L, acc, y, hL, hg => by
    obtain ⟨h1, h2⟩ := hs x acc (hL x List.mem_cons_self) hg
    rw [List.map_cons, loop_cons, hb]
    dsimp only
    by_cases c : some x = cart
    · obtain ⟨ρ, e, el⟩ := h1 c
      have hsc : scan cart Z t (x :: L) acc = none := by unfold scan; rw [if_pos c]
      rw [hsc, e]
      exact ⟨fun acc' z => (by cases z), fun _ => ⟨ρ, rfl, el⟩⟩
    · have hsc : scan cart Z t (x :: L) acc = scan cart Z t L (if isPt x = true ∧ x ∉ acc ∧ atS x t ∉ Z then acc ++ [x] else acc) := by
        show (if some x = cart then none else _) = _
        rw [if_neg c]
      have hsg : GoodL bs (if isPt x = true ∧ x ∉ acc ∧ atS x t ∉ Z then acc ++ [x] else acc) := scan_good (cs := cs) cart Z t [x] acc _ (fun y hy => by rw [List.mem_singleton.mp hy]; exact hL x List.mem_cons_self) hg (by unfold scan; rw [if_neg c]; rfl)
      rw [hsc, h2 c]
      exact scan_loop E b g hb hs L _ (some (encP x)) (fun y hy => hL y (List.mem_cons_of_mem _ hy)) hsg
/-- for place in now: for step in [place] + steps: .. -/
theorem now_loop {bs : List Belt} {cs : List Str} (hk : HOk bs cs) {cart : Option Pl} {Z : List Sp} {t : Int} {r : D} {lm : List Bool} (E : List Pl → Option D → Option D → Env) (b b2 : BF) (q : IF) (g : SF) (js : List Nat) (hb : ∀ d acc y z, b d (E acc y z) = some (E acc (some d) z)) (hb2 : ∀ d acc y z, b2 d (E acc y z) = some (E acc y (some d)))
    (hq : ∀ (p : Pl) acc, VP bs cs p → (∀ c, p ≠ .on c) → q (E acc (some (encP p)) none) = some (.ok (.lst .frz ((p :: nextP bs p).map encP), (p :: nextP bs p).map encP) (E acc (some (encP p)) none)))
    (hc : ∀ acc y z, clrO js (some (.nx (E acc y z))) = some (.nx (E acc y none))) (hr : ∀ ρ, clrO js (some (.rt r ρ)) = some (.rt r ρ))
    (hs : ∀ (p x : Pl) (acc : List Pl), VP bs cs x → GoodL bs acc → (some x = cart → ∃ ρ, g (E acc (some (encP p)) (some (encP x))) = some (.rt r ρ) ∧ lents lm ρ = some []) ∧ (some x ≠ cart → g (E acc (some (encP p)) (some (encP x))) = some (.nx (E (if isPt x = true ∧ x ∉ acc ∧ atS x t ∉ Z then acc ++ [x] else acc) (some (encP p)) (some (encP x)))))) :
    ∀ (now acc : List Pl) (y : Option D), (∀ x ∈ now, VP bs cs x ∧ ∀ c, x ≠ .on c) → GoodL bs acc → (∀ acc', scan cart Z t (allS bs now) acc = some acc' → ∃ y', loop b (sFor q b2 g js) (now.map encP) (E acc y none) = some (.nx (E acc' y' none))) ∧ (scan cart Z t (allS bs now) acc = none → ∃ ρ, loop b (sFor q b2 g js) (now.map encP) (E acc y none) = some (.rt r ρ) ∧ lents lm ρ = some [])
  | [], acc, y, _, _ => ⟨fun acc' e => by cases e; exact ⟨y, rfl⟩, fun e => by cases e⟩
  | p :: now, acc, y, hn, hg => by
    obtain ⟨hp, hpn⟩ := hn p List.mem_cons_self
    have hL : ∀ x ∈ p :: nextP bs p, VP bs cs x := fun x hx => (List.mem_cons.mp hx).elim (fun h => by rw [h]; exact hp) (vp_next hk hp x)
    obtain ⟨i1, i2⟩ := scan_loop (bs := bs) (cs := cs) (cart := cart) (Z := Z) (t := t) (r := r) (lm := lm) (fun acc z => E acc (some (encP p)) z) b2 g (fun d acc z => hb2 d acc _ z) (fun x acc => hs p x acc) (p :: nextP bs p) acc none hL hg
    have ha : allS bs (p :: now) = (p :: nextP bs p) ++ allS bs now := by unfold allS; rw [List.flatMap_cons]
    rw [List.map_cons, loop_cons, hb]
    dsimp only
    rw [sFor_of (hq p acc hp hpn), ha, scan_app]
    cases e : scan cart Z t (p :: nextP bs p) acc with
    | none =>
      obtain ⟨ρ, e1, el⟩ := i2 e
      rw [e1, hr]
      exact ⟨fun acc' z => (by cases z), fun _ => ⟨ρ, rfl, el⟩⟩
    | some acc1 =>
      obtain ⟨z', e1⟩ := i1 acc1 e
      have hg1 := scan_good (cs := cs) cart Z t _ _ _ hL hg e
      rw [e1, hc]
      exact now_loop hk E b b2 q g js hb hb2 hq hc hr hs now acc1 (some (encP p)) (fun x hx => hn x (List.mem_cons_of_mem _ hx)) hg1
end DL

end
section
open PySem PySem.Spec L2
namespace DL
def cartD : Option Pl → D
  | none => .non
  | some x => encP x
@[simp] theorem cartD_rem {F : Mk → Mk} {x : Option Pl} : D.rem F (cartD x) = cartD x := by cases x <;> simp [cartD]
@[simp] theorem cartD_chk {P : Mk → Bool} {x : Option Pl} : D.chk P (cartD x) = true := by cases x <;> simp [cartD]
def LayC (c : Option Pl) : Prop := ∀ x, c = some x → LayP x
theorem eqD_cart {x : Pl} {c : Option Pl} (hx : LayP x) (hc : LayC c) : eqD (encP x) (cartD c) = some (decide (some x = c)) := by
  cases c with
  | some y =>
    show eqD (encP x) (encP y) = _
    rw [eqD_P hx (hc y rfl)]
    by_cases h : x = y <;> simp [h]
  | none =>
    have hg : (match py (encP x), py .non with | some p, some q => if (SeqAt.shaped p && SeqAt.shaped q) = true then some (PyData.eqv p q) else none | _, _ => none) = some (decide (some x = (none : Option Pl))) := by
      rw [py_encP]
      show (if (SeqAt.shaped (pyP x) && SeqAt.shaped .none) = true then some (PyData.eqv (pyP x) .none) else none) = _
      rw [shaped_P hx]
      cases x <;> rfl
    cases x <;> exact hg
/-- the places at the start -/
def now0 (P : List Pl) (Z : List Sp) : List Pl := P.filter fun x => decide (atS x 0 ∉ Z)
theorem spot_of {n : Str} {i t : Int} : D.tup [.str n, .int i, .int t] = encS (atS (.pt n i) t) := rfl
theorem encP_inj {x y : Pl} (h : encP x = encP y) : x = y := by
  cases x with
  | pt n i =>
    cases y with
    | pt m j =>
      have h := D.tup.inj h
      simp only [List.cons.injEq] at h
      rw [D.str.inj h.1, D.int.inj h.2.1]
    | on c => cases h
  | on c =>
    cases y with
    | pt m j => cases h
    | on d => rw [D.str.inj h]
theorem now0_good {bs : List Belt} {P : List Pl} {Z : List Sp} (h : GoodL bs P) : GoodL bs (now0 P Z) := ⟨h.1.sublist List.filter_sublist, fun x hx => h.2 x (List.mem_filter.mp hx).1⟩
theorem tupcat {n : Str} {i t : Int} : oAdd (.tup [.str n, .int i]) (.tup [.int t]) = some (.tup [.str n, .int i, .int t]) := by
  have hs := size_big
  unfold oAdd
  dsimp only
  rw [if_pos ⟨by simp, by simp, by simp; omega⟩]
  rfl
/-! ### the law's sets -/
theorem lsets_ok {bs : List Belt} {cs : List Str} (hk : HOk bs cs) (h15 : ∀ b ∈ bs, b.long ≤ 15) {P : List Pl} {Z : List Sp} {cart : Option Pl} (hP : GoodL bs P) (hZ : ∀ z ∈ Z, LayS z) (hc : LayC cart) (n : Nat) (hn : n ≤ 100) :
    (∀ SS, runR bs cart Z n 1 (now0 P Z) = some SS → d_law_sets_277d4e [encH .frz bs cs, .lst .frz (P.map encP), cartD cart, .int n, .lst .frz (Z.map encS)] = some (.ret (.lst .own ((now0 P Z :: SS).map fun s => .lst .frz (s.map encP))) [])) ∧
    (runR bs cart Z n 1 (now0 P Z) = none → d_law_sets_277d4e [encH .frz bs cs, .lst .frz (P.map encP), cartD cart, .int n, .lst .frz (Z.map encS)] = some (.ret .non [])) := by
  have hs := size_big
  have hb6 := hk.nl
  have hcl := cells_len h15
  let encL : List (List Pl) → List D := fun SS => SS.map fun s => .lst .frz (s.map encP)
  have encL_rem : ∀ SS, D.remL fz (encL SS) = encL SS := fun SS => by show D.remL fz (SS.map _) = _; rw [remL_map]; simp [encL]
  have encL_chk : ∀ SS, D.chkL (fun m => !m.isBrw) (encL SS) = true := fun SS => by show D.chkL _ (SS.map _) = _; rw [chkL_map]; simp
  let E : List Pl → List (List Pl) → Option D → Option D → Option D → Option D → Env := fun now SS y7 y8 y9 y10 => [some (encH .frz bs cs), some (.lst .frz (P.map encP)), some (cartD cart), some (.int n), some (.lst .frz (Z.map encS)), some (.lst .frz (now.map encP)), some (.lst .own (encL SS)), y7, y8, y9, y10]
  have hPl : P.length ≤ 90 := by have := good_len hP; omega
  have hcell : ∀ {x : Pl}, x ∈ cellsOf bs → ∃ n i, x = .pt n i ∧ LayP x := fun hx => by
    obtain ⟨h1, h2⟩ := cells_vp (cs := cs) _ hx
    cases h1 with
    | pt hb h0 h1 => exact ⟨_, _, rfl, (VP.pt hb h0 h1).lay hk⟩
    | on hc => exact absurd rfl (h2 _)
  -- the turns
  have T : ∀ (k m : Nat) (now : List Pl) (SS : List (List Pl)) (y7 y8 : Option D), GoodL bs now → SS.length + k ≤ 1000 →
      (∀ TT, runR bs cart Z k m now = some TT → ∃ now' w7 w8, loop (bN 7) (sSeq (sO 8 (lP (pN oLst [])))
    (sSeq (sFor (iAll (lP (dV 5))) (bN 9) (sFor (iAll (lP (pB oAdd (pN oLst [(dV 9)]) (pN (oCall d_law_steps_cb5b23) [(dV 0), (dV 9)])))) (bN 10) (sSeq (sIf (lQ (qB (pB oEq (dV 10) (dV 2)))) (sRet (lP (dC .non))) sNil)
    (sIf (lQ (qAnd (qNot (qB (pIsi "str" (dV 10)))) (qAnd (qB (pB (oIn true) (dV 10) (dK 8))) (qB (pB (oIn true) (pB oAdd (dV 10) (pN oTup [(dV 7)])) (dV 4)))))) (sExpr (eL oApp 8 [(lP (dV 10))])) sNil)) [10]) [9])
    (sSeq (sF 5 (eFz 8))
    (sExpr (eL oApp 6 [(lP (dV 5))]))))) (rngD (m : Int) k) (E now SS y7 y8 none none) = some (.nx (E now' (SS ++ TT) w7 w8 none none))) ∧
      (runR bs cart Z k m now = none → ∃ ρ, loop (bN 7) (sSeq (sO 8 (lP (pN oLst [])))
    (sSeq (sFor (iAll (lP (dV 5))) (bN 9) (sFor (iAll (lP (pB oAdd (pN oLst [(dV 9)]) (pN (oCall d_law_steps_cb5b23) [(dV 0), (dV 9)])))) (bN 10) (sSeq (sIf (lQ (qB (pB oEq (dV 10) (dV 2)))) (sRet (lP (dC .non))) sNil)
    (sIf (lQ (qAnd (qNot (qB (pIsi "str" (dV 10)))) (qAnd (qB (pB (oIn true) (dV 10) (dK 8))) (qB (pB (oIn true) (pB oAdd (dV 10) (pN oTup [(dV 7)])) (dV 4)))))) (sExpr (eL oApp 8 [(lP (dV 10))])) sNil)) [10]) [9])
    (sSeq (sF 5 (eFz 8))
    (sExpr (eL oApp 6 [(lP (dV 5))]))))) (rngD (m : Int) k) (E now SS y7 y8 none none) = some (.rt .non ρ) ∧ lents [false, false, false, false, false] ρ = some []) := by
    intro k
    induction k with
    | zero =>
      intro m now SS y7 y8 hg _
      refine ⟨fun TT e => ?_, fun e => by cases e⟩
      cases e
      exact ⟨now, y7, y8, by rw [List.append_nil]; rfl⟩
    | succ k ih =>
      intro m now SS y7 y8 hg hl
      rw [rngD_succ, loop_cons, show bN 7 (.int (m : Int)) (E now SS y7 y8 none none) = some (E now SS (some (.int (m : Int))) y8 none none) from rfl]
      dsimp only
      have N := now_loop (bs := bs) (cs := cs) hk (cart := cart) (Z := Z) (t := (m : Int)) (r := .non) (lm := [false, false, false, false, false]) (fun acc y z => E now SS (some (.int (m : Int))) (some (.lst .own (acc.map encP))) y z) (bN 9) (bN 10)
        (iAll (lP (pB oAdd (pN oLst [(dV 9)]) (pN (oCall d_law_steps_cb5b23) [(dV 0), (dV 9)])))) (sSeq (sIf (lQ (qB (pB oEq (dV 10) (dV 2)))) (sRet (lP (dC .non))) sNil)
    (sIf (lQ (qAnd (qNot (qB (pIsi "str" (dV 10)))) (qAnd (qB (pB (oIn true) (dV 10) (dK 8))) (qB (pB (oIn true) (pB oAdd (dV 10) (pN oTup [(dV 7)])) (dV 4)))))) (sExpr (eL oApp 8 [(lP (dV 10))])) sNil)) [10] (fun d acc y z => rfl) (fun d acc y z => rfl)
        (fun p acc hp hpn => by
          have hst := lsteps_P hk hp hpn
          have hnl : (nextP bs p).length ≤ 11 := by
            cases hp with
            | pt hb g0 g1 => rw [nextP_pt hk hb]; exact (nextB_len hk hb _).2
            | on hc => exact Nat.zero_le _
          have hv : (lP (pB oAdd (pN oLst [(dV 9)]) (pN (oCall d_law_steps_cb5b23) [(dV 0), (dV 9)]))) (E now SS (some (.int (m : Int))) (some (.lst .own (acc.map encP))) (some (encP p)) none) = some (.ok (.lst .own ((p :: nextP bs p).map encP)) (E now SS (some (.int (m : Int))) (some (.lst .own (acc.map encP))) (some (encP p)) none)) := by
            simp [E, hst, show 1 ≤ sizeLine by omega, show 1 + (nextP bs p).length ≤ sizeLine by omega, show (nextP bs p).length + 1 ≤ sizeLine by omega]
          have := iAll_lst hv (by simp)
          simpa using this)
        (fun acc y z => rfl) (fun ρ => rfl)
        (fun p x acc hx hga => by
          have heq := eqD_cart (hx.lay hk) hc
          have hal : acc.length ≤ 90 := by have := good_len hga; omega
          refine ⟨fun c => ⟨E now SS (some (.int (m : Int))) (some (.lst .own (acc.map encP))) (some (encP p)) (some (encP x)), ?_, rfl⟩, fun c => ?_⟩
          · rw [seq_rt]
            simp [E, heq, c]
          · rw [seq_nx (ρ' := E now SS (some (.int (m : Int))) (some (.lst .own (acc.map encP))) (some (encP p)) (some (encP x))) (by simp [E, heq, c])]
            cases x with
            | on d => simp [E, pIsi, isi_str, isPt]
            | pt a i =>
              have hin := inD_P (m := .brw) (hx.lay hk) (fun z hz => ((good_cells (cs := cs) hga z hz).1).lay hk)
              have hin2 := inD_S (x := atS (.pt a i) (m : Int)) (m := .frz) (show LayS _ from hx.lay hk) hZ
              have hcat : oAdd (encP (.pt a i)) (.tup [.int (m : Int)]) = some (encS (atS (.pt a i) (m : Int))) := tupcat
              by_cases c1 : Pl.pt a i ∈ acc
              · simp [E, pIsi, isi_str, isPt, hin, c1]
              · by_cases c2 : atS (.pt a i) (m : Int) ∈ Z
                · simp [E, pIsi, isi_str, isPt, hin, c1, hcat, hin2, c2, show 1 ≤ sizeLine by omega]
                · simp [E, pIsi, isi_str, isPt, hin, c1, hcat, hin2, c2, show 1 ≤ sizeLine by omega, show acc.length < sizeLine by omega])
        now [] none (fun x hx => good_cells hg x hx) (good_nil bs)
      have hw : iAll (lP (dV 5)) (E now SS (some (.int (m : Int))) (some (.lst .own [])) none none) = some (.ok (.lst .frz (now.map encP), now.map encP) (E now SS (some (.int (m : Int))) (some (.lst .own [])) none none)) := by
        have := iAll_lst (f := lP (dV 5)) (ρ := E now SS (some (.int (m : Int))) (some (.lst .own [])) none none) (ρ' := E now SS (some (.int (m : Int))) (some (.lst .own [])) none none) (m := .frz) (ds := now.map encP) rfl (by simp)
        simpa using this
      rw [seq_nx (ρ' := E now SS (some (.int (m : Int))) (some (.lst .own [])) none none) (by simp [E])]
      cases e : scan cart Z (m : Int) (allS bs now) [] with
      | none =>
        obtain ⟨ρ, e1, el⟩ := N.2 e
        have hr : runR bs cart Z (k + 1) m now = none := by unfold runR; rw [e]; rfl
        refine ⟨fun TT z => (by rw [hr] at z; cases z), fun _ => ⟨ρ, ?_, el⟩⟩
        rw [seq_rt (by rw [sFor_of hw]; exact (congrArg (clrO [9]) e1).trans rfl)]
      | some nw =>
        obtain ⟨y', e1⟩ := N.1 nw e
        have hg1 := scan_good (cs := cs) cart Z m _ _ _ (allS_vp hk fun x hx => (good_cells hg x hx).1) (good_nil bs) e
        have hr : runR bs cart Z (k + 1) m now = (runR bs cart Z k (m + 1) nw).map (nw :: ·) := by show (scan cart Z (m : Int) (allS bs now) []).bind _ = _; rw [e]; rfl
        have st : (sSeq (sFor (iAll (lP (dV 5))) (bN 9) (sFor (iAll (lP (pB oAdd (pN oLst [(dV 9)]) (pN (oCall d_law_steps_cb5b23) [(dV 0), (dV 9)])))) (bN 10) (sSeq (sIf (lQ (qB (pB oEq (dV 10) (dV 2)))) (sRet (lP (dC .non))) sNil)
    (sIf (lQ (qAnd (qNot (qB (pIsi "str" (dV 10)))) (qAnd (qB (pB (oIn true) (dV 10) (dK 8))) (qB (pB (oIn true) (pB oAdd (dV 10) (pN oTup [(dV 7)])) (dV 4)))))) (sExpr (eL oApp 8 [(lP (dV 10))])) sNil)) [10]) [9])
    (sSeq (sF 5 (eFz 8))
    (sExpr (eL oApp 6 [(lP (dV 5))])))) (E now SS (some (.int (m : Int))) (some (.lst .own [])) none none) = some (.nx (E nw (SS ++ [nw]) (some (.int (m : Int))) (some (.lst .frz (nw.map encP))) none none)) := by
          rw [seq_nx (ρ' := E now SS (some (.int (m : Int))) (some (.lst .own (nw.map encP))) none none) (by rw [sFor_of hw]; exact (congrArg (clrO [9]) e1).trans rfl)]
          rw [seq_nx (ρ' := E nw SS (some (.int (m : Int))) (some (.lst .frz (nw.map encP))) none none) (by simp [E])]
          simp [E, encL, show SS.length < sizeLine by omega]
        rw [st, hr]
        dsimp only
        obtain ⟨g1, g2⟩ := ih (m + 1) nw (SS ++ [nw]) (some (.int (m : Int))) (some (.lst .frz (nw.map encP))) hg1 (by simp; omega)
        rw [show ((m : Int) + 1) = ((m + 1 : Nat) : Int) by omega]
        refine ⟨fun TT z => ?_, fun z => ?_⟩
        · obtain ⟨UU, h1, rfl⟩ := Option.map_eq_some_iff.mp z
          obtain ⟨now', w7, w8, h2⟩ := g1 UU h1
          refine ⟨now', w7, w8, ?_⟩
          rw [h2, List.append_assoc]; rfl
        · exact g2 (Option.map_eq_none_iff.mp z)
  have q0 : eLc (iAll (lP (dV 1))) (bN 9) (lQ (qB (pB (oIn true) (pN oTup [(pB ixD (dV 9) (dC (.int 0))), (pB ixD (dV 9) (dC (.int 1))), (dC (.int 0))]) (dV 4)))) (lP (dV 9)) [9] [some (encH .frz bs cs), some (.lst .frz (P.map encP)), some (cartD cart), some (.int n), some (.lst .frz (Z.map encS)), none, none, none, none, none, none] = some (.ok (.lst .own ((now0 P Z).map encP)) [some (encH .frz bs cs), some (.lst .frz (P.map encP)), some (cartD cart), some (.int n), some (.lst .frz (Z.map encS)), none, none, none, none, none, none]) := by
    have hw : iAll (lP (dV 1)) [some (encH .frz bs cs), some (.lst .frz (P.map encP)), some (cartD cart), some (.int n), some (.lst .frz (Z.map encS)), none, none, none, none, none, none] = some (.ok (.lst .frz (P.map encP), P.map encP) [some (encH .frz bs cs), some (.lst .frz (P.map encP)), some (cartD cart), some (.int n), some (.lst .frz (Z.map encS)), none, none, none, none, none, none]) := by
      have := iAll_lst (f := lP (dV 1)) (ρ := [some (encH .frz bs cs), some (.lst .frz (P.map encP)), some (cartD cart), some (.int n), some (.lst .frz (Z.map encS)), none, none, none, none, none, none]) (ρ' := [some (encH .frz bs cs), some (.lst .frz (P.map encP)), some (cartD cart), some (.int n), some (.lst .frz (Z.map encS)), none, none, none, none, none, none]) (m := .frz) (ds := P.map encP) rfl (by simp)
      simpa using this
    rw [eLc_pure (ρ0 := [some (encH .frz bs cs), some (.lst .frz (P.map encP)), some (cartD cart), some (.int n), some (.lst .frz (Z.map encS)), none, none, none, none, none, none]) (fun d => match d with | .tup [.str a, .int i] => decide (atS (.pt a i) 0 ∉ Z) | _ => true) id hw rfl rfl (fun d hd => by
      obtain ⟨x, hx, rfl⟩ := List.mem_map.mp hd
      obtain ⟨a, i, rfl, hl⟩ := hcell (hP.2 x hx)
      have hin2 := inD_S (x := atS (.pt a i) 0) (m := .frz) (show LayS _ from hl) hZ
      have hsp : D.tup [.str a, .int i, .int 0] = encS (atS (.pt a i) 0) := rfl
      have hx0 : ixD (encP (.pt a i)) (.int 0) = some (.str a) := by simp [encP]
      have hx1 : ixD (encP (.pt a i)) (.int 1) = some (.int i) := by simp [encP]
      refine ⟨[some (encH .frz bs cs), some (.lst .frz (P.map encP)), some (cartD cart), some (.int n), some (.lst .frz (Z.map encS)), none, none, none, none, some (encP (.pt a i)), none], rfl, ?_, fun _ => ⟨rfl, by simp⟩, rfl⟩
      show _ = some (Res.ok (decide (atS (.pt a i) 0 ∉ Z)) _)
      simp [hx0, hx1, show 3 ≤ sizeLine by omega, hsp, hin2]) (by rw [List.length_map]; omega)]
    congr 3
    rw [List.map_id]
    unfold now0
    rw [List.filter_map]
    congr 1
    apply List.filter_congr
    intro x hx
    obtain ⟨a, i, rfl, hl⟩ := hcell (hP.2 x hx)
    rfl
  have hN0 := now0_good (Z := Z) hP
  have start : ∀ r, fnR [false, false, false, false, false] ((sSeq (sFor (iRng [(lP (dC (.int 1))), (lP (pB oAdd (dV 3) (dC (.int 1))))]) (bN 7) (sSeq (sO 8 (lP (pN oLst [])))
    (sSeq (sFor (iAll (lP (dV 5))) (bN 9) (sFor (iAll (lP (pB oAdd (pN oLst [(dV 9)]) (pN (oCall d_law_steps_cb5b23) [(dV 0), (dV 9)])))) (bN 10) (sSeq (sIf (lQ (qB (pB oEq (dV 10) (dV 2)))) (sRet (lP (dC .non))) sNil)
    (sIf (lQ (qAnd (qNot (qB (pIsi "str" (dV 10)))) (qAnd (qB (pB (oIn true) (dV 10) (dK 8))) (qB (pB (oIn true) (pB oAdd (dV 10) (pN oTup [(dV 7)])) (dV 4)))))) (sExpr (eL oApp 8 [(lP (dV 10))])) sNil)) [10]) [9])
    (sSeq (sF 5 (eFz 8))
    (sExpr (eL oApp 6 [(lP (dV 5))]))))) [7])
    (sRet (eMv 6))) (E (now0 P Z) [now0 P Z] none none none none)) = r → d_law_sets_277d4e [encH .frz bs cs, .lst .frz (P.map encP), cartD cart, .int n, .lst .frz (Z.map encS)] = r := by
    intro r h
    rw [← h]
    show fnR [false, false, false, false, false] (b_law_sets_277d4e [some (encH .frz bs cs), some (.lst .frz (P.map encP)), some (cartD cart), some (.int n), some (.lst .frz (Z.map encS)), none, none, none, none, none, none]) = _
    unfold b_law_sets_277d4e
    rw [seq_nx (ρ' := [some (encH .frz bs cs), some (.lst .frz (P.map encP)), some (cartD cart), some (.int n), some (.lst .frz (Z.map encS)), some (.lst .frz ((now0 P Z).map encP)), none, none, none, none, none]) (by rw [sF_eq, q0]; simp)]
    rw [seq_nx (ρ' := E (now0 P Z) [now0 P Z] none none none none) (by simp [E, encL, show 1 ≤ sizeLine by omega])]
  have hr : iRng [(lP (dC (.int 1))), (lP (pB oAdd (dV 3) (dC (.int 1))))] (E (now0 P Z) [now0 P Z] none none none none) = some (.ok (.non, rngD ((1 : Nat) : Int) n) (E (now0 P Z) [now0 P Z] none none none none)) := by
    rw [iRng_2 (i := 1) (j := (n : Int) + 1) (ρ1 := E (now0 P Z) [now0 P Z] none none none none) (ρ2 := E (now0 P Z) [now0 P Z] none none none none) (by simp) (by simp [E]) (okR_small (by decide) (by decide)) (okR_small (by omega) (by omega)), show ((n : Int) + 1 - 1).toNat = n by omega]
    rfl
  obtain ⟨t1, t2⟩ := T n 1 (now0 P Z) [now0 P Z] none none hN0 (by simp; omega)
  refine ⟨fun SS hS => start _ ?_, fun hS => start _ ?_⟩
  · obtain ⟨now', w7, w8, e⟩ := t1 SS hS
    rw [seq_nx (ρ' := E now' ([now0 P Z] ++ SS) none w8 none none) (by rw [sFor_of hr, e]; rfl)]
    have hn : D.chkL (fun m => !m.isBrw) (encL ([now0 P Z] ++ SS)) = true := encL_chk _
    simp only [List.cons_append, List.nil_append] at hn ⊢
    show fnR _ (some (Out.rt (.lst .own (encL (now0 P Z :: SS))) _)) = _
    rw [fnR_rt, if_pos (by rw [D.noBrw, chk_lst, hn]; rfl)]
    rfl
  · obtain ⟨ρ, e, el⟩ := t2 hS
    rw [seq_rt (by rw [sFor_of hr, e]; rfl)]
    simp [el]
/-! ### what cuts -/
def tabK {α : Type} (κ : α → Ky) (B : List α) : List (Ky × D) := B.map fun s => (κ s, .bl true)
def kyS (s : Sp) : Ky := .tup [.str s.n, .int s.i, .int s.t]
def kyP : Pl → Ky
  | .pt n i => .tup [.str n, .int i]
  | .on c => .tup [.str c]
theorem kyS_inj {x y : Sp} (h : kyS x = kyS y) : x = y := by
  obtain ⟨n, i, t⟩ := x
  obtain ⟨m, j, u⟩ := y
  have h := Ky.tup.inj h
  simp only [List.cons.injEq] at h
  have h1 : n = m := Ky.str.inj h.1
  have h2 : i = j := Ky.int.inj h.2.1
  have h3 : t = u := Ky.int.inj h.2.2.1
  rw [h1, h2, h3]
theorem kyP_inj {x y : Pl} (h : kyP x = kyP y) : x = y := by
  cases x with
  | pt n i =>
    cases y with
    | pt m j =>
      have h := Ky.tup.inj h
      simp only [List.cons.injEq] at h
      rw [Ky.str.inj h.1, Ky.int.inj h.2.1]
    | on c => have h := Ky.tup.inj h; simp at h
  | on c =>
    cases y with
    | pt m j => have h := Ky.tup.inj h; simp at h
    | on d =>
      have h := Ky.tup.inj h
      simp only [List.cons.injEq] at h
      rw [Ky.str.inj h.1]
theorem hasK_tab {α : Type} [DecidableEq α] {κ : α → Ky} (inj : ∀ x y, κ x = κ y → x = y) (B : List α) (s : α) : hasK (tabK κ B) (κ s) = decide (s ∈ B) := by
  unfold hasK getK tabK
  induction B with
  | nil => simp
  | cons b B ih =>
    rw [List.map_cons]
    by_cases e : b = s
    · subst e
      rw [List.find?_cons_of_pos (by simp)]; simp
    · rw [List.find?_cons_of_neg (by simpa using fun z => e (inj _ _ z)), ih]
      have e' : ¬ s = b := fun z => e z.symm
      simp [e']
theorem putD_tab {α : Type} [DecidableEq α] {κ : α → Ky} (inj : ∀ x y, κ x = κ y → x = y) (B : List α) (s : α) (hl : B.length ≤ 100000) : putD (tabK κ B) (κ s) (.bl true) = some (tabK κ (if s ∈ B then B else B ++ [s])) := by
  have hs := size_big
  unfold putD
  rw [if_pos (by unfold tabK; rw [List.length_map]; omega), hasK_tab inj]
  by_cases h : s ∈ B
  · rw [if_pos (decide_eq_true h), if_pos (by rfl), if_pos h]
    congr 1
    unfold tabK
    rw [List.map_map]
    apply List.map_congr_left
    intro x _
    show (if κ x = κ s then (κ x, D.bl true) else (κ x, D.bl true)) = _
    split <;> rfl
  · rw [if_neg (by rw [decide_eq_false h]; exact Bool.false_ne_true), if_neg h]
    unfold tabK
    rw [List.map_append]; rfl
theorem remK_tab {α : Type} (F : Mk → Mk) (κ : α → Ky) (B : List α) : D.remK F (tabK κ B) = tabK κ B := by
  unfold tabK
  induction B with
  | nil => rfl
  | cons b B ih => rw [List.map_cons]; show (_, _) :: D.remK F _ = _; rw [ih]; rfl
theorem chkK_tab {α : Type} (P : Mk → Bool) (κ : α → Ky) (B : List α) : D.chkK P (tabK κ B) = true := by
  unfold tabK
  induction B with
  | nil => rfl
  | cons b B ih => rw [List.map_cons]; show (D.chk P (.bl _) && D.chkK P _) = true; rw [ih]; rfl
theorem peek_tab {α : Type} (κ : α → Ky) (B : List α) : D.peek (.dic .own .t (tabK κ B)) = .dic .brw .t (tabK κ B) := by show D.dic _ _ (D.remK _ _) = _; rw [remK_tab]; rfl
theorem inK_S {m : Mk} (hm : m ≠ .ro) (B : List Sp) (s : Sp) : oInK true (encS s) (.dic m .t (tabK kyS B)) = some (.bl (!decide (s ∈ B))) := by
  show (if m = .ro then none else (kyOf .t (encS s)).map fun k => D.bl (if true then !hasK (tabK kyS B) k else hasK (tabK kyS B) k)) = _
  rw [if_neg hm]
  show some (D.bl (!hasK (tabK kyS B) (kyS s))) = _
  rw [hasK_tab (fun _ _ => kyS_inj)]
theorem list_tab {bs : List Belt} {m : Mk} (hm : m ≠ .ro) {acc : List Pl} (h : ∀ x ∈ acc, ∃ n i, x = .pt n i) : oListK [.dic m .t (tabK kyP acc)] = some (.lst .own (acc.map encP)) := by
  show (if m = .ro then none else some (D.lst .own ((tabK kyP acc).map fun p => dKyT p.1))) = _
  rw [if_neg hm]
  congr 2
  unfold tabK
  rw [List.map_map]
  apply List.map_congr_left
  intro x hx
  obtain ⟨n, i, rfl⟩ := h x hx
  rfl
theorem cuts_ok {bs : List Belt} {cs : List Str} (hk : HOk bs cs) (h15 : ∀ b ∈ bs, b.long ≤ 15) {P : List Pl} {Z : List Sp} {cart : Option Pl} (hP : GoodL bs P) (hZl : Z.length ≤ 1000) (hc : LayC cart) (n : Nat) (hn : n ≤ 100) :
    ((runR bs cart Z n 1 (now0 P Z)).isSome = true → d_cuts [encH .frz bs cs, .lst .frz (P.map encP), cartD cart, .int n, .lst .frz (Z.map encS)] = some (.ret (.bl true) [])) ∧
    (runR bs cart Z n 1 (now0 P Z) = none → d_cuts [encH .frz bs cs, .lst .frz (P.map encP), cartD cart, .int n, .lst .frz (Z.map encS)] = some (.ret (.bl false) [])) := by
  have hs := size_big
  have hb6 := hk.nl
  have hcl := cells_len h15
  let B0 : List (Option D) := [some (encH .frz bs cs), some (.lst .frz (P.map encP)), some (cartD cart), some (.int n), some (.lst .frz (Z.map encS))]
  have hPl : P.length ≤ 90 := by have := good_len hP; omega
  have hcell : ∀ {x : Pl}, x ∈ cellsOf bs → ∃ n i, x = .pt n i ∧ LayP x := fun hx => by
    obtain ⟨h1, h2⟩ := cells_vp (cs := cs) _ hx
    cases h1 with
    | pt hb h0 h1 => exact ⟨_, _, rfl, (VP.pt hb h0 h1).lay hk⟩
    | on hc => exact absurd rfl (h2 _)
  -- the shut spots
  have SH : ∀ (L B : List Sp) (y6 : Option D), B.length + L.length ≤ 1000 → ∃ B' w6, (∀ s, s ∈ B' ↔ s ∈ B ∨ s ∈ L) ∧ loop (bN 6) (sPutD 5 (lP (dC (.bl true))) (dV 6)) (L.map encS) (B0 ++ [some (.dic .own .t (tabK kyS B)), y6, none, none, none, none, none]) = some (.nx (B0 ++ [some (.dic .own .t (tabK kyS B')), w6, none, none, none, none, none])) := by
    intro L
    induction L with
    | nil => intro B y6 _; exact ⟨B, y6, fun s => by simp, rfl⟩
    | cons z L ih =>
      intro B y6 hl
      rw [List.length_cons] at hl
      obtain ⟨B', w6, h1, h2⟩ := ih (if z ∈ B then B else B ++ [z]) (some (encS z)) (by
        split
        · omega
        · rw [List.length_append, List.length_singleton]; omega)
      refine ⟨B', w6, fun s => ?_, ?_⟩
      · rw [h1]
        by_cases c : z ∈ B
        · rw [if_pos c, List.mem_cons]
          constructor
          · rintro (h | h)
            · exact .inl h
            · exact .inr (.inr h)
          · rintro (h | rfl | h)
            · exact .inl h
            · exact .inl c
            · exact .inr h
        · rw [if_neg c, List.mem_append, List.mem_singleton, List.mem_cons, or_assoc]
      · rw [List.map_cons, loop_cons, ← h2]
        have hp := putD_tab (κ := kyS) (fun _ _ => kyS_inj) B z (by omega)
        have hkd : (kyOf .t (encS z)).bind (fun k => putD (tabK kyS B) k (.bl true)) = some (tabK kyS (if z ∈ B then B else B ++ [z])) := hp
        simp [B0, sPutD, hkd]
  obtain ⟨B, w6, hB, eS⟩ := SH Z [] none (by simp; omega)
  have hB : ∀ s, s ∈ B ↔ s ∈ Z := fun s => by rw [hB]; simp
  let E : List Pl → Option D → Option D → Option D → Option D → Env := fun now y8 y9 y10 y11 => [some (encH .frz bs cs), some (.lst .frz (P.map encP)), some (cartD cart), some (.int n), some (.lst .frz (Z.map encS)), some (.dic .own .t (tabK kyS B)), none, some (.lst .frz (now.map encP)), y8, y9, y10, y11]
  have T : ∀ (k m : Nat) (now : List Pl) (y8 y9 : Option D), GoodL bs now →
      (∀ TT, runR bs cart Z k m now = some TT → ∃ now' w8 w9, loop (bN 8) (sSeq (sO 9 (lP (pNew .t)))
    (sSeq (sFor (iAll (lP (dV 7))) (bN 10) (sFor (iAll (lP (pB oAdd (pN oLst [(dV 10)]) (pN (oCall d_steps) [(dV 0), (dV 10)])))) (bN 11) (sSeq (sIf (lQ (qB (pB oEq (dV 11) (dV 2)))) (sRet (lP (dC (.bl false)))) sNil)
    (sIf (lQ (qAnd (qNot (qB (pIsi "str" (dV 11)))) (qB (pB (oInK true) (pN oTup [(pB ixD (dV 11) (dC (.int 0))), (pB ixD (dV 11) (dC (.int 1))), (dV 8)]) (dK 5))))) (sPutD 9 (lP (dC (.bl true))) (dV 11)) sNil)) [11]) [10])
    (sF 7 (lP (pN oListK [(dK 9)]))))) (rngD (m : Int) k) (E now y8 y9 none none) = some (.nx (E now' w8 w9 none none))) ∧
      (runR bs cart Z k m now = none → ∃ ρ, loop (bN 8) (sSeq (sO 9 (lP (pNew .t)))
    (sSeq (sFor (iAll (lP (dV 7))) (bN 10) (sFor (iAll (lP (pB oAdd (pN oLst [(dV 10)]) (pN (oCall d_steps) [(dV 0), (dV 10)])))) (bN 11) (sSeq (sIf (lQ (qB (pB oEq (dV 11) (dV 2)))) (sRet (lP (dC (.bl false)))) sNil)
    (sIf (lQ (qAnd (qNot (qB (pIsi "str" (dV 11)))) (qB (pB (oInK true) (pN oTup [(pB ixD (dV 11) (dC (.int 0))), (pB ixD (dV 11) (dC (.int 1))), (dV 8)]) (dK 5))))) (sPutD 9 (lP (dC (.bl true))) (dV 11)) sNil)) [11]) [10])
    (sF 7 (lP (pN oListK [(dK 9)]))))) (rngD (m : Int) k) (E now y8 y9 none none) = some (.rt (.bl false) ρ) ∧ lents [false, false, false, false, false] ρ = some []) := by
    intro k
    induction k with
    | zero =>
      intro m now y8 y9 hg
      refine ⟨fun TT e => ⟨now, y8, y9, rfl⟩, fun e => by cases e⟩
    | succ k ih =>
      intro m now y8 y9 hg
      rw [rngD_succ, loop_cons, show bN 8 (.int (m : Int)) (E now y8 y9 none none) = some (E now (some (.int (m : Int))) y9 none none) from rfl]
      dsimp only
      have N := now_loop (bs := bs) (cs := cs) hk (cart := cart) (Z := Z) (t := (m : Int)) (r := .bl false) (lm := [false, false, false, false, false]) (fun acc y z => E now (some (.int (m : Int))) (some (.dic .own .t (tabK kyP acc))) y z) (bN 10) (bN 11)
        (iAll (lP (pB oAdd (pN oLst [(dV 10)]) (pN (oCall d_steps) [(dV 0), (dV 10)])))) (sSeq (sIf (lQ (qB (pB oEq (dV 11) (dV 2)))) (sRet (lP (dC (.bl false)))) sNil)
    (sIf (lQ (qAnd (qNot (qB (pIsi "str" (dV 11)))) (qB (pB (oInK true) (pN oTup [(pB ixD (dV 11) (dC (.int 0))), (pB ixD (dV 11) (dC (.int 1))), (dV 8)]) (dK 5))))) (sPutD 9 (lP (dC (.bl true))) (dV 11)) sNil)) [11] (fun d acc y z => rfl) (fun d acc y z => rfl)
        (fun p acc hp hpn => by
          have hst := steps_P hk hp hpn
          have hnl : (nextP bs p).length ≤ 11 := by
            cases hp with
            | pt hb g0 g1 => rw [nextP_pt hk hb]; exact (nextB_len hk hb _).2
            | on hc => exact Nat.zero_le _
          have hv : (lP (pB oAdd (pN oLst [(dV 10)]) (pN (oCall d_steps) [(dV 0), (dV 10)]))) (E now (some (.int (m : Int))) (some (.dic .own .t (tabK kyP acc))) (some (encP p)) none) = some (.ok (.lst .own ((p :: nextP bs p).map encP)) (E now (some (.int (m : Int))) (some (.dic .own .t (tabK kyP acc))) (some (encP p)) none)) := by
            simp [E, hst, show 1 ≤ sizeLine by omega, show 1 + (nextP bs p).length ≤ sizeLine by omega, show (nextP bs p).length + 1 ≤ sizeLine by omega]
          have := iAll_lst hv (by simp)
          simpa using this)
        (fun acc y z => rfl) (fun ρ => rfl)
        (fun p x acc hx hga => by
          have heq := eqD_cart (hx.lay hk) hc
          have hal : acc.length ≤ 90 := by have := good_len hga; omega
          refine ⟨fun c => ⟨E now (some (.int (m : Int))) (some (.dic .own .t (tabK kyP acc))) (some (encP p)) (some (encP x)), ?_, rfl⟩, fun c => ?_⟩
          · rw [seq_rt]
            simp [E, heq, c]
          · rw [seq_nx (ρ' := E now (some (.int (m : Int))) (some (.dic .own .t (tabK kyP acc))) (some (encP p)) (some (encP x))) (by simp [E, heq, c])]
            cases x with
            | on d => simp [E, pIsi, isi_str, isPt]
            | pt a i =>
              have hin2 := inK_S (m := .brw) (fun z => by cases z) B (atS (.pt a i) (m : Int))
              have hsp : D.tup [.str a, .int i, .int (m : Int)] = encS (atS (.pt a i) (m : Int)) := rfl
              have hx0 : ixD (encP (.pt a i)) (.int 0) = some (.str a) := by simp [encP]
              have hx1 : ixD (encP (.pt a i)) (.int 1) = some (.int i) := by simp [encP]
              have hpk := peek_tab kyS B
              have hp := putD_tab (κ := kyP) (fun _ _ => kyP_inj) acc (.pt a i) (by omega)
              have hkd : (kyOf .t (encP (.pt a i))).bind (fun k => putD (tabK kyP acc) k (.bl true)) = some (tabK kyP (if Pl.pt a i ∈ acc then acc else acc ++ [Pl.pt a i])) := hp
              by_cases c2 : atS (.pt a i) (m : Int) ∈ Z
              · have c3 := (hB _).mpr c2
                simp [E, pIsi, isi_str, hx0, hx1, hsp, hpk, hin2, c2, c3, show 3 ≤ sizeLine by omega]
              · have c3 : atS (.pt a i) (m : Int) ∉ B := fun z => c2 ((hB _).mp z)
                by_cases c1 : Pl.pt a i ∈ acc
                · rw [if_pos c1] at hkd
                  simp [E, pIsi, isi_str, isPt, hx0, hx1, hsp, hpk, hin2, c1, c2, c3, sPutD, hkd, show 3 ≤ sizeLine by omega]
                · rw [if_neg c1] at hkd
                  simp [E, pIsi, isi_str, isPt, hx0, hx1, hsp, hpk, hin2, c1, c2, c3, sPutD, hkd, show 3 ≤ sizeLine by omega])
        now [] none (fun x hx => good_cells hg x hx) (good_nil bs)
      have hw : iAll (lP (dV 7)) (E now (some (.int (m : Int))) (some (.dic .own .t (tabK kyP []))) none none) = some (.ok (.lst .frz (now.map encP), now.map encP) (E now (some (.int (m : Int))) (some (.dic .own .t (tabK kyP []))) none none)) := by
        have := iAll_lst (f := lP (dV 7)) (ρ := E now (some (.int (m : Int))) (some (.dic .own .t (tabK kyP []))) none none) (ρ' := E now (some (.int (m : Int))) (some (.dic .own .t (tabK kyP []))) none none) (m := .frz) (ds := now.map encP) rfl (by simp)
        simpa using this
      rw [seq_nx (ρ' := E now (some (.int (m : Int))) (some (.dic .own .t (tabK kyP []))) none none) (by rfl)]
      cases e : scan cart Z (m : Int) (allS bs now) [] with
      | none =>
        obtain ⟨ρ, e1, el⟩ := N.2 e
        have hr : runR bs cart Z (k + 1) m now = none := by unfold runR; rw [e]; rfl
        refine ⟨fun TT z => (by rw [hr] at z; cases z), fun _ => ⟨ρ, ?_, el⟩⟩
        rw [seq_rt (by rw [sFor_of hw]; exact (congrArg (clrO [10]) e1).trans rfl)]
      | some nw =>
        obtain ⟨y', e1⟩ := N.1 nw e
        have hg1 := scan_good (cs := cs) cart Z m _ _ _ (allS_vp hk fun x hx => (good_cells hg x hx).1) (good_nil bs) e
        have hr : runR bs cart Z (k + 1) m now = (runR bs cart Z k (m + 1) nw).map (nw :: ·) := by show (scan cart Z (m : Int) (allS bs now) []).bind _ = _; rw [e]; rfl
        have st : (sSeq (sFor (iAll (lP (dV 7))) (bN 10) (sFor (iAll (lP (pB oAdd (pN oLst [(dV 10)]) (pN (oCall d_steps) [(dV 0), (dV 10)])))) (bN 11) (sSeq (sIf (lQ (qB (pB oEq (dV 11) (dV 2)))) (sRet (lP (dC (.bl false)))) sNil)
    (sIf (lQ (qAnd (qNot (qB (pIsi "str" (dV 11)))) (qB (pB (oInK true) (pN oTup [(pB ixD (dV 11) (dC (.int 0))), (pB ixD (dV 11) (dC (.int 1))), (dV 8)]) (dK 5))))) (sPutD 9 (lP (dC (.bl true))) (dV 11)) sNil)) [11]) [10])
    (sF 7 (lP (pN oListK [(dK 9)])))) (E now (some (.int (m : Int))) (some (.dic .own .t (tabK kyP []))) none none) = some (.nx (E nw (some (.int (m : Int))) (some (.dic .own .t (tabK kyP nw))) none none)) := by
          rw [seq_nx (ρ' := E now (some (.int (m : Int))) (some (.dic .own .t (tabK kyP nw))) none none) (by rw [sFor_of hw]; exact (congrArg (clrO [10]) e1).trans rfl)]
          have hpk := peek_tab kyP nw
          have hlt := list_tab (bs := bs) (m := .brw) (fun z => by cases z) (acc := nw) fun x hx => by
            obtain ⟨a, i, e, _⟩ := hcell (hg1.2 x hx)
            exact ⟨a, i, e⟩
          simp [E, hpk, hlt]
        rw [st, hr]
        dsimp only
        obtain ⟨g1, g2⟩ := ih (m + 1) nw (some (.int (m : Int))) (some (.dic .own .t (tabK kyP nw))) hg1
        rw [show ((m : Int) + 1) = ((m + 1 : Nat) : Int) by omega]
        refine ⟨fun TT z => ?_, fun z => ?_⟩
        · obtain ⟨UU, h1, rfl⟩ := Option.map_eq_some_iff.mp z
          exact g1 UU h1
        · exact g2 (Option.map_eq_none_iff.mp z)
  let R0 : Env := [some (encH .frz bs cs), some (.lst .frz (P.map encP)), some (cartD cart), some (.int n), some (.lst .frz (Z.map encS)), some (.dic .own .t (tabK kyS B)), none, none, none, none, none, none]
  have q0 : eLc (iAll (lP (dV 1))) (bN 10) (lQ (qB (pB (oInK true) (pN oTup [(pB ixD (dV 10) (dC (.int 0))), (pB ixD (dV 10) (dC (.int 1))), (dC (.int 0))]) (dK 5)))) (lP (dV 10)) [10] R0 = some (.ok (.lst .own ((now0 P Z).map encP)) R0) := by
    have hw : iAll (lP (dV 1)) R0 = some (.ok (.lst .frz (P.map encP), P.map encP) R0) := by
      have := iAll_lst (f := lP (dV 1)) (ρ := R0) (ρ' := R0) (m := .frz) (ds := P.map encP) rfl (by simp)
      simpa using this
    rw [eLc_pure (ρ0 := R0) (fun d => match d with | .tup [.str a, .int i] => decide (atS (.pt a i) 0 ∉ Z) | _ => true) id hw rfl rfl (fun d hd => by
      obtain ⟨x, hx, rfl⟩ := List.mem_map.mp hd
      obtain ⟨a, i, rfl, hl⟩ := hcell (hP.2 x hx)
      have hin2 := inK_S (m := .brw) (fun z => by cases z) B (atS (.pt a i) 0)
      have hpk := peek_tab kyS B
      have hsp : D.tup [.str a, .int i, .int 0] = encS (atS (.pt a i) 0) := rfl
      have hx0 : ixD (encP (.pt a i)) (.int 0) = some (.str a) := by simp [encP]
      have hx1 : ixD (encP (.pt a i)) (.int 1) = some (.int i) := by simp [encP]
      refine ⟨[some (encH .frz bs cs), some (.lst .frz (P.map encP)), some (cartD cart), some (.int n), some (.lst .frz (Z.map encS)), some (.dic .own .t (tabK kyS B)), none, none, none, none, some (encP (.pt a i)), none], rfl, ?_, fun _ => ⟨rfl, by simp⟩, rfl⟩
      show _ = some (Res.ok (decide (atS (.pt a i) 0 ∉ Z)) _)
      have hBZ : decide (atS (.pt a i) 0 ∈ B) = decide (atS (.pt a i) 0 ∈ Z) := by simp [hB]
      rw [hBZ] at hin2
      simp [hx0, hx1, show 3 ≤ sizeLine by omega, hsp, hpk, hin2]) (by rw [List.length_map]; omega)]
    congr 3
    rw [List.map_id]
    unfold now0
    rw [List.filter_map]
    congr 1
    apply List.filter_congr
    intro x hx
    obtain ⟨a, i, rfl, hl⟩ := hcell (hP.2 x hx)
    rfl
  have hN0 := now0_good (Z := Z) hP
  have start : ∀ r, fnR [false, false, false, false, false] ((sSeq (sFor (iRng [(lP (dC (.int 1))), (lP (pB oAdd (dV 3) (dC (.int 1))))]) (bN 8) (sSeq (sO 9 (lP (pNew .t)))
    (sSeq (sFor (iAll (lP (dV 7))) (bN 10) (sFor (iAll (lP (pB oAdd (pN oLst [(dV 10)]) (pN (oCall d_steps) [(dV 0), (dV 10)])))) (bN 11) (sSeq (sIf (lQ (qB (pB oEq (dV 11) (dV 2)))) (sRet (lP (dC (.bl false)))) sNil)
    (sIf (lQ (qAnd (qNot (qB (pIsi "str" (dV 11)))) (qB (pB (oInK true) (pN oTup [(pB ixD (dV 11) (dC (.int 0))), (pB ixD (dV 11) (dC (.int 1))), (dV 8)]) (dK 5))))) (sPutD 9 (lP (dC (.bl true))) (dV 11)) sNil)) [11]) [10])
    (sF 7 (lP (pN oListK [(dK 9)]))))) [8])
    (sRet (lP (dC (.bl true))))) (E (now0 P Z) none none none none)) = r → d_cuts [encH .frz bs cs, .lst .frz (P.map encP), cartD cart, .int n, .lst .frz (Z.map encS)] = r := by
    intro r h
    rw [← h]
    show fnR [false, false, false, false, false] (b_cuts (B0 ++ [none, none, none, none, none, none, none])) = _
    unfold b_cuts
    rw [seq_nx (ρ' := B0 ++ [some (.dic .own .t (tabK kyS [])), none, none, none, none, none, none]) (by rfl)]
    have hw : iAll (lP (dV 4)) (B0 ++ [some (.dic .own .t (tabK kyS [])), none, none, none, none, none, none]) = some (.ok (.lst .frz (Z.map encS), Z.map encS) (B0 ++ [some (.dic .own .t (tabK kyS [])), none, none, none, none, none, none])) := by
      have := iAll_lst (f := lP (dV 4)) (ρ := B0 ++ [some (.dic .own .t (tabK kyS [])), none, none, none, none, none, none]) (ρ' := B0 ++ [some (.dic .own .t (tabK kyS [])), none, none, none, none, none, none]) (m := .frz) (ds := Z.map encS) rfl (by simp)
      simpa using this
    rw [seq_nx (ρ' := R0) (by rw [sFor_of hw, eS]; rfl)]
    rw [seq_nx (ρ' := E (now0 P Z) none none none none) (by rw [sF_eq, q0]; simp [R0, E])]
  have hr : iRng [(lP (dC (.int 1))), (lP (pB oAdd (dV 3) (dC (.int 1))))] (E (now0 P Z) none none none none) = some (.ok (.non, rngD ((1 : Nat) : Int) n) (E (now0 P Z) none none none none)) := by
    rw [iRng_2 (i := 1) (j := (n : Int) + 1) (ρ1 := E (now0 P Z) none none none none) (ρ2 := E (now0 P Z) none none none none) (by simp) (by simp [E]) (okR_small (by decide) (by decide)) (okR_small (by omega) (by omega)), show ((n : Int) + 1 - 1).toNat = n by omega]
    rfl
  obtain ⟨t1, t2⟩ := T n 1 (now0 P Z) none none hN0
  refine ⟨fun hS => start _ ?_, fun hS => start _ ?_⟩
  · obtain ⟨SS, hS⟩ := Option.isSome_iff_exists.mp hS
    obtain ⟨now', w8, w9, e⟩ := t1 SS hS
    rw [seq_nx (ρ' := E now' none w9 none none) (by rw [sFor_of hr, e]; rfl)]
    simp [E]
  · obtain ⟨ρ, e, el⟩ := t2 hS
    rw [seq_rt (by rw [sFor_of hr, e]; rfl)]
    simp [el]
/-! ### what is drawn -/
theorem scan_none (Z : List Sp) (t : Int) : ∀ (L acc : List Pl), (scan none Z t L acc).isSome = true
  | [], acc => rfl
  | x :: L, acc => by
    show (if some x = none then none else scan none Z t L _).isSome = true
    rw [if_neg (by simp)]
    exact scan_none Z t L _
theorem runR_none (bs : List Belt) (Z : List Sp) : ∀ (n m : Nat) (now : List Pl), ∃ SS, runR bs none Z n m now = some SS
  | 0, m, now => ⟨[], rfl⟩
  | n + 1, m, now => by
    obtain ⟨nw, e⟩ := Option.isSome_iff_exists.mp (scan_none Z m (allS bs now) [])
    obtain ⟨SS, e2⟩ := runR_none bs Z n (m + 1) nw
    exact ⟨nw :: SS, by unfold runR; rw [e]; show (runR bs none Z n (m + 1) nw).map _ = _; rw [e2]; rfl⟩
theorem ins_permG {α : Type} (x : α) (outs : List α) (j : Nat) : (outs.take j ++ [x] ++ outs.drop j).Perm (x :: outs) := by
  have := (List.perm_middle (a := x) (l₁ := outs.take j) (l₂ := outs.drop j))
  rw [List.take_append_drop] at this
  simpa using this
theorem places_ok {bs : List Belt} {cs : List Str} (hk : HOk bs cs) (h15 : ∀ b ∈ bs, b.long ≤ 15) (h1 : 1 ≤ bs.length) {d : D} (hd : FD 0 d) : ∃ (P : List Pl) (d' : D), FD 0 d' ∧ GoodL bs P ∧ d_law_places_a9c304 [d, encH .frz bs cs, .int 5] = some (.ret (.lst .own (P.map encP)) [d']) := by
  have hs := size_big
  have hb6 := hk.nl
  have hcl := cells_pos hk h1
  have hcl2 := cells_len h15
  have hcv : ∀ x ∈ cellsOf bs, VP bs cs x := fun x hx => (cells_vp x hx).1
  have hcc : oCall d_law_cells_6ad7a8 [encH .frz bs cs] = some (.lst .frz ((cellsOf bs).map encP)) := oCall_nb (ls := []) (by simp only [remL_cons, remL_nil, encH_rem]; exact cells_ok hk h15) (.inl (by simp))
  let E : D → List Pl → Option D → Option D → Env := fun d P y5 y6 => [some d, some (encH .frz bs cs), some (.int 5), some (.lst .frz ((cellsOf bs).map encP)), some (.lst .own (P.map encP)), y5, y6]
  obtain ⟨v, d1, hd1, v0, v1, e1⟩ := draw_ok hd 6 (by decide) (by decide)
  have L := loop_inv (b := bN 5) (g := (sSeq (sF 6 (eB ixD (lP (dV 3)) (eC d_law_draw_664a20 [.ln 0, .ex (lP (pN oLen [(dV 3)]))])))
    (sIf (lQ (qB (pB (oIn true) (dV 6) (dK 4)))) (sExpr (eL oIns 4 [(eC d_law_draw_664a20 [.ln 0, .ex (lP (pB oAdd (pN oLen [(dK 4)]) (dC (.int 1))))]), (lP (dV 6))])) sNil)))
    (I := fun k ρ => ∃ (d2 : D) (P : List Pl) (y5 y6 : Option D), FD 0 d2 ∧ GoodL bs P ∧ ρ = E d2 P y5 y6) (ds := rngD 0 v.toNat)
    (fun k d ρ e ⟨d2, P, y5, y6, hd2, hg, hρ⟩ => by
      subst hρ
      obtain ⟨hkl, rfl⟩ := rngD_get e
      have hPl := good_len hg
      obtain ⟨w, d3, hd3, w0, w1, e3⟩ := draw_ok hd2 ((cellsOf bs).length : Int) (by omega) (by omega)
      obtain ⟨x, hx, hxm⟩ := atI_lt (xs := cellsOf bs) w0 w1
      have hxa : atI ((cellsOf bs).map encP) w = some (encP x) := by rw [atI_map, hx]; rfl
      have q1 : eC d_law_draw_664a20 [.ln 0, .ex (lP (pN oLen [(dV 3)]))] (E d2 P (some (.int (0 + (k : Int)))) y6) = some (.ok (.int w) (E d3 P (some (.int (0 + (k : Int)))) y6)) := eC_le (x := .int ((cellsOf bs).length : Int)) rfl (by simp [E]) rfl e3
      have s1 : sF 6 (eB ixD (lP (dV 3)) (eC d_law_draw_664a20 [.ln 0, .ex (lP (pN oLen [(dV 3)]))])) (E d2 P (some (.int (0 + (k : Int)))) y6) = some (.nx (E d3 P (some (.int (0 + (k : Int)))) (some (encP x)))) := by
        rw [sF_eq, eB_eq, show (lP (dV 3)) (E d2 P (some (.int (0 + (k : Int)))) y6) = some (.ok (.lst .frz ((cellsOf bs).map encP)) (E d2 P (some (.int (0 + (k : Int)))) y6)) from rfl]
        dsimp only
        rw [if_pos (by simp), q1]
        dsimp only
        rw [ixD_lst, hxa]
        simp [E]
      have hin := inD_P (m := .brw) ((hcv x hxm).lay hk) (fun z hz => ((good_cells (cs := cs) hg z hz).1).lay hk)
      by_cases c : x ∈ P
      · refine ⟨_, E d3 P (some (.int (0 + (k : Int)))) (some (encP x)), rfl, ?_, d3, P, _, _, hd3, hg, rfl⟩
        rw [show setS (E d2 P y5 y6) 5 (some (.int (0 + (k : Int)))) = E d2 P (some (.int (0 + (k : Int)))) y6 from rfl, seq_nx s1]
        simp [E, hin, c]
      · obtain ⟨j, d4, hd4, j0, j1, e4⟩ := draw_ok hd3 ((P.length : Int) + 1) (by omega) (by omega)
        have q2 : eC d_law_draw_664a20 [.ln 0, .ex (lP (pB oAdd (pN oLen [(dK 4)]) (dC (.int 1))))] (E d3 P (some (.int (0 + (k : Int)))) (some (encP x))) = some (.ok (.int j) (E d4 P (some (.int (0 + (k : Int)))) (some (encP x)))) := eC_le (x := .int ((P.length : Int) + 1)) rfl (by simp [E]) rfl e4
        have hp := ins_permG x P j.toNat
        refine ⟨_, E d4 (P.take j.toNat ++ [x] ++ P.drop j.toNat) (some (.int (0 + (k : Int)))) (some (encP x)), rfl, ?_, d4, _, _, _, hd4, ⟨hp.nodup_iff.mpr (List.nodup_cons.mpr ⟨c, hg.1⟩), fun z hz => ?_⟩, rfl⟩
        · rw [show setS (E d2 P y5 y6) 5 (some (.int (0 + (k : Int)))) = E d2 P (some (.int (0 + (k : Int)))) y6 from rfl, seq_nx s1]
          rw [sIf_t (ρ' := E d3 P (some (.int (0 + (k : Int)))) (some (encP x))) (by simp [E, hin, c])]
          rw [sExpr_eq, eL_eq, show ownL (getS (E d3 P (some (.int (0 + (k : Int)))) (some (encP x))) 4) = some (P.map encP) from rfl]
          dsimp only
          rw [evE_cons, q2]
          dsimp only
          rw [if_pos (by rfl), evE_cons, show (lP (dV 6)) (E d4 P (some (.int (0 + (k : Int)))) (some (encP x))) = some (.ok (encP x) (E d4 P (some (.int (0 + (k : Int)))) (some (encP x)))) from rfl]
          dsimp only
          rw [if_pos (by simp), evE_nil]
          dsimp only
          rw [if_pos (by simp), show ownL (getS (E d4 P (some (.int (0 + (k : Int)))) (some (encP x))) 4) = some (P.map encP) from rfl]
          dsimp only
          rw [oIns_eq, if_pos ⟨by rw [List.length_map]; omega, j0, by omega⟩]
          simp [E]
        · rcases List.mem_cons.mp (hp.mem_iff.mp hz) with h | h
          · rw [h]; exact hxm
          · exact hg.2 z h)
    (ρ := E d1 [] none none) ⟨d1, [], none, none, hd1, good_nil bs, rfl⟩
  obtain ⟨ρ', eL', d2, P, y5, y6, hd2, hg, rfl⟩ := L
  refine ⟨P, d2, hd2, hg, ?_⟩
  show fnR [true, false, false] (b_law_places_a9c304 [some d, some (encH .frz bs cs), some (.int 5), none, none, none, none]) = _
  unfold b_law_places_a9c304
  rw [seq_nx (ρ' := [some d, some (encH .frz bs cs), some (.int 5), some (.lst .frz ((cellsOf bs).map encP)), none, none, none]) (by simp [hcc])]
  rw [seq_nx (ρ' := E d [] none none) (by simp [E])]
  have hr : iRng [(eC d_law_draw_664a20 [.ln 0, .ex (lP (pB oAdd (dV 2) (dC (.int 1))))])] (E d [] none none) = some (.ok (.non, rngD 0 v.toNat) (E d1 [] none none)) := iRng_1 (eC_le (x := .int 6) rfl (by simp [E]) rfl e1) (okR_small (by omega) (by omega))
  rw [seq_nx (ρ' := E d2 P none y6) (by rw [sFor_of hr, eL']; rfl)]
  simp [E]
theorem copied_ok {bs : List Belt} {cs : List Str} (hk : HOk bs cs) : d_law_copied_b608ba [encH .frz bs cs] = some (.ret (.tup [.lst .own (bs.map encBo), .lst .own (cs.map .str)]) []) := by
  have hs := size_big
  have hb6 := hk.nl
  let E : Env := [some (encH .frz bs cs), none, none, none, none]
  have hw : iAll (lP (pB ixD (dV 0) (dC (.int 0)))) E = _ := walk_belts (bs := bs) (by simp [E])
  have hl := eLc_pure (q := iAll (lP (pB ixD (dV 0) (dC (.int 0))))) (b := (bT (bsCons (bN 1) (bsCons (bN 2) (bsCons (bN 3) (bsCons (bN 4) bsNil)))))) (t := tYesF) (f := (lP (pN oTup [(dV 1), (dV 2), (dV 3), (pN oList [(dV 4)])]))) (is := [1, 2, 3, 4]) (ρ0 := E) (fun _ => true) (fun x => match x with | .tup [a, b, c, .lst _ os] => .tup [a, b, c, .lst .own os] | x => x) hw rfl rfl (fun x hx => by
    obtain ⟨b, hb, rfl⟩ := List.mem_map.mp hx
    refine ⟨[some (encH .frz bs cs), some (.str b.name), some (.int b.long), some (.bl b.ring), some (.lst .frz (b.outs.map .str))], by simp [bT, bsCons, bsNil, encB, E], rfl, fun _ => ⟨?_, ?_⟩, rfl⟩
    · simp [encB, show 4 ≤ sizeLine by omega]
    · simp [encB]) (by simp; omega)
  have hm : ((bs.map encB).filter fun _ => true).map (fun x => match x with | .tup [a, b, c, .lst _ os] => D.tup [a, b, c, .lst .own os] | x => x) = bs.map encBo := by
    rw [List.filter_eq_self.mpr (fun _ _ => rfl), List.map_map]
    rfl
  rw [hm] at hl
  show fnR [false] (b_law_copied_b608ba E) = _
  unfold b_law_copied_b608ba
  rw [sRet_eq, eN_eq, evE_cons, hl]
  dsimp only
  rw [if_pos (by simp)]
  simp [E, show 2 ≤ sizeLine by omega]
theorem drawn_cut_ok {bs : List Belt} {cs : List Str} (hk : HOk bs cs) (h15 : ∀ b ∈ bs, b.long ≤ 15) (h1 : 1 ≤ bs.length) {d : D} (hd : FD 0 d) {P : List Pl} (hP : GoodL bs P) (n : Nat) (hn : n ≤ 100) : ∃ (Z : List Sp) (d' : D), FD 0 d' ∧ (∀ z ∈ Z, LayS z) ∧ Z.length ≤ 200 ∧ d_law_drawn_cut_4dc59b [d, encH .frz bs cs, .lst .frz (P.map encP), .int n] = some (.ret (.lst .own (Z.map encS)) [d']) := by
  have hs := size_big
  have hb6 := hk.nl
  have hcl := cells_pos hk h1
  have hcl2 := cells_len h15
  have hcv : ∀ x ∈ cellsOf bs, VP bs cs x := fun x hx => (cells_vp x hx).1
  have hcc : oCall d_law_cells_6ad7a8 [encH .frz bs cs] = some (.lst .frz ((cellsOf bs).map encP)) := oCall_nb (ls := []) (by simp only [remL_cons, remL_nil, encH_rem]; exact cells_ok hk h15) (.inl (by simp))
  obtain ⟨SS, hS⟩ := runR_none bs [] n 1 (now0 P [])
  have h0 : now0 P [] = P := by unfold now0; exact List.filter_eq_self.mpr fun x _ => by simp
  rw [h0] at hS
  obtain ⟨hSl, hSg⟩ := runR_good (cs := cs) hk none [] n 1 P SS (fun x hx => (good_cells hP x hx).1) hS
  have hsets : d_law_sets_277d4e [encH .frz bs cs, .lst .frz (P.map encP), .non, .int n, .lst .frz []] = some (.ret (.lst .own ((P :: SS).map fun s => .lst .frz (s.map encP))) []) := by
    have := (lsets_ok (cart := none) (Z := []) hk h15 hP (fun z h => by cases h) (fun x e => by cases e) n hn).1 SS (by rw [h0]; exact hS)
    rw [h0] at this
    exact this
  have hnbL : D.chkL (fun m => !m.isBrw) ((P :: SS).map fun s => .lst .frz (s.map encP)) = true := by rw [chkL_map]; simp
  have hrmL : D.remL fz ((P :: SS).map fun s => .lst .frz (s.map encP)) = (P :: SS).map fun s => .lst .frz (s.map encP) := by rw [remL_map]; simp
  have hsc : oCall d_law_sets_277d4e [encH .frz bs cs, .lst .frz (P.map encP), .non, .int n, .lst .own []] = some (.lst .own ((P :: SS).map fun s => .lst .frz (s.map encP))) := oCall_nb (ls := []) (by simp only [remL_cons, remL_nil, encH_rem, rem_non, rem_int, rem_lst, fz_frz, fz_own, encPs_rem]; exact hsets) (.inl (by simp))
  obtain ⟨mo, d1, hd1, m0, m1, e1⟩ := draw_ok hd ((n : Int) + 1) (by omega) (by omega)
  obtain ⟨s, hsx, hsm⟩ := atI_lt (xs := P :: SS) m0 (by rw [List.length_cons]; omega)
  have hsa : atI ((P :: SS).map fun s => D.lst .frz (s.map encP)) mo = some (.lst .frz (s.map encP)) := by rw [atI_map, hsx]; rfl
  have hsg : GoodL bs s := by
    rcases List.mem_cons.mp hsm with rfl | h
    · exact hP
    · exact hSg s h
  have hsl := good_len hsg
  generalize hA : (P :: SS).map (fun s => D.lst .frz (s.map encP)) = A at *
  let E : D → List Sp → Option D → Option D → Option D → Env := fun d Z y8 y9 y10 => [some d, some (encH .frz bs cs), some (.lst .frz (P.map encP)), some (.int n), some (.lst .frz A), some (.int mo), some (.lst .frz ((cellsOf bs).map encP)), some (.lst .own (Z.map encS)), y8, y9, y10]
  have hcell : ∀ {x : Pl}, x ∈ cellsOf bs → ∃ a i, x = .pt a i ∧ LayP x := fun hx => by
    obtain ⟨h1, h2⟩ := cells_vp (cs := cs) _ hx
    cases h1 with
    | pt hb h0 h1 => exact ⟨_, _, rfl, (VP.pt hb h0 h1).lay hk⟩
    | on hc => exact absurd rfl (h2 _)
  -- most of a set
  have L1 := loop_inv (b := bN 8) (g := (sIf (eT (eB oGt (eC d_law_draw_664a20 [.ln 0, .ex (lP (dC (.int 9)))]) (lP (dC (.int 0))))) (sExpr (eL oIns 7 [(eC d_law_draw_664a20 [.ln 0, .ex (lP (pB oAdd (pN oLen [(dK 7)]) (dC (.int 1))))]), (lP (pB oAdd (dV 8) (pN oTup [(dV 5)])))])) sNil))
    (I := fun k ρ => ∃ (d2 : D) (Z : List Sp) (y8 : Option D), FD 0 d2 ∧ (∀ z ∈ Z, LayS z) ∧ Z.length ≤ k ∧ ρ = E d2 Z y8 none none) (ds := s.map encP)
    (fun k d ρ e ⟨d2, Z, y8, hd2, hZ, hl, hρ⟩ => by
      subst hρ
      have hkl : k < s.length := by have := (List.getElem?_eq_some_iff.mp e).1; simpa using this
      obtain ⟨x, hxs, rfl⟩ := List.mem_map.mp (List.mem_of_getElem? e)
      obtain ⟨a, i, rfl, hlx⟩ := hcell (hsg.2 x hxs)
      obtain ⟨v, d3, hd3, v0, v1, e3⟩ := draw_ok hd2 9 (by decide) (by decide)
      have q1 : eC d_law_draw_664a20 [.ln 0, .ex (lP (dC (.int 9)))] (E d2 Z (some (encP (.pt a i))) none none) = some (.ok (.int v) (E d3 Z (some (encP (.pt a i))) none none)) := eC_dr e3
      by_cases hv : 0 < v
      · obtain ⟨j, d4, hd4, j0, j1, e4⟩ := draw_ok hd3 ((Z.length : Int) + 1) (by omega) (by omega)
        have q2 : eC d_law_draw_664a20 [.ln 0, .ex (lP (pB oAdd (pN oLen [(dK 7)]) (dC (.int 1))))] (E d3 Z (some (encP (.pt a i))) none none) = some (.ok (.int j) (E d4 Z (some (encP (.pt a i))) none none)) := eC_le (x := .int ((Z.length : Int) + 1)) rfl (by simp [E]) rfl e4
        have hp := ins_permG (⟨a, i, mo⟩ : Sp) Z j.toNat
        have hcat : oAdd (encP (.pt a i)) (.tup [.int mo]) = some (encS ⟨a, i, mo⟩) := tupcat
        refine ⟨_, E d4 (Z.take j.toNat ++ [⟨a, i, mo⟩] ++ Z.drop j.toNat) (some (encP (.pt a i))) none none, rfl, ?_, d4, _, _, hd4, fun z hz => ?_, by rw [hp.length_eq, List.length_cons]; omega, rfl⟩
        · rw [show setS (E d2 Z y8 none none) 8 (some (encP (.pt a i))) = E d2 Z (some (encP (.pt a i))) none none from rfl]
          rw [sIf_t (ρ' := E d3 Z (some (encP (.pt a i))) none none) (by simp [q1, hv])]
          rw [sExpr_eq, eL_eq, show ownL (getS (E d3 Z (some (encP (.pt a i))) none none) 7) = some (Z.map encS) from rfl]
          dsimp only
          rw [evE_cons, q2]
          dsimp only
          rw [if_pos (by rfl), evE_cons, show (lP (pB oAdd (dV 8) (pN oTup [(dV 5)]))) (E d4 Z (some (encP (.pt a i))) none none) = some (.ok (encS ⟨a, i, mo⟩) (E d4 Z (some (encP (.pt a i))) none none)) by simp [E, show 1 ≤ sizeLine by omega, hcat]]
          dsimp only
          rw [if_pos (by simp), evE_nil]
          dsimp only
          rw [if_pos (by simp), show ownL (getS (E d4 Z (some (encP (.pt a i))) none none) 7) = some (Z.map encS) from rfl]
          dsimp only
          rw [oIns_eq, if_pos ⟨by rw [List.length_map]; omega, j0, by omega⟩]
          simp [E]
        · rcases List.mem_cons.mp (hp.mem_iff.mp hz) with h | h
          · rw [h]; exact hlx
          · exact hZ z h
      · refine ⟨_, E d3 Z (some (encP (.pt a i))) none none, rfl, ?_, d3, Z, _, hd3, hZ, by omega, rfl⟩
        rw [show setS (E d2 Z y8 none none) 8 (some (encP (.pt a i))) = E d2 Z (some (encP (.pt a i))) none none from rfl]
        rw [sIf_f (ρ' := E d3 Z (some (encP (.pt a i))) none none) (by simp [q1, hv])]
        rfl)
    (ρ := E d1 [] none none none) ⟨d1, [], none, hd1, fun z h => (by cases h), Nat.le_refl _, rfl⟩
  obtain ⟨ρ1, eA, d2, Z, y8, hd2, hZ, hZl, rfl⟩ := L1
  rw [List.length_map] at hZl
  obtain ⟨v, d3, hd3, v0, v1, e3⟩ := draw_ok hd2 7 (by decide) (by decide)
  -- some drawn ones
  have L2 := loop_inv (b := bN 9) (g := (sSeq (sF 10 (eB ixD (lP (dV 6)) (eC d_law_draw_664a20 [.ln 0, .ex (lP (pN oLen [(dV 6)]))])))
    (sExpr (eL oApp 7 [(eB oAdd (lP (dV 10)) (eN oTup [(eC d_law_draw_664a20 [.ln 0, .ex (lP (pB oAdd (dV 3) (dC (.int 3))))])]))]))))
    (I := fun k ρ => ∃ (d4 : D) (Z4 : List Sp) (y9 y10 : Option D), FD 0 d4 ∧ (∀ z ∈ Z4, LayS z) ∧ Z4.length ≤ 90 + k ∧ ρ = E d4 Z4 none y9 y10) (ds := rngD 0 v.toNat)
    (fun k d ρ e ⟨d4, Z4, y9, y10, hd4, hZ4, hl4, hρ⟩ => by
      subst hρ
      obtain ⟨hkl, rfl⟩ := rngD_get e
      obtain ⟨w, d5, hd5, w0, w1, e5⟩ := draw_ok hd4 ((cellsOf bs).length : Int) (by omega) (by omega)
      obtain ⟨x, hx, hxm⟩ := atI_lt (xs := cellsOf bs) w0 w1
      have hxa : atI ((cellsOf bs).map encP) w = some (encP x) := by rw [atI_map, hx]; rfl
      obtain ⟨a, i, rfl, hlx⟩ := hcell hxm
      obtain ⟨u, d6, hd6, u0, u1, e6⟩ := draw_ok hd5 ((n : Int) + 3) (by omega) (by omega)
      have hcat : oAdd (encP (.pt a i)) (.tup [.int u]) = some (encS ⟨a, i, u⟩) := tupcat
      refine ⟨_, E d6 (Z4 ++ [⟨a, i, u⟩]) none (some (.int (0 + (k : Int)))) (some (encP (.pt a i))), rfl, ?_, d6, _, _, _, hd6, fun z hz => ?_, by rw [List.length_append, List.length_singleton]; omega, rfl⟩
      · rw [show setS (E d4 Z4 none y9 y10) 9 (some (.int (0 + (k : Int)))) = E d4 Z4 none (some (.int (0 + (k : Int)))) y10 from rfl]
        have q1 : eC d_law_draw_664a20 [.ln 0, .ex (lP (pN oLen [(dV 6)]))] (E d4 Z4 none (some (.int (0 + (k : Int)))) y10) = some (.ok (.int w) (E d5 Z4 none (some (.int (0 + (k : Int)))) y10)) := eC_le (x := .int ((cellsOf bs).length : Int)) rfl (by simp [E]) rfl e5
        rw [seq_nx (ρ' := E d5 Z4 none (some (.int (0 + (k : Int)))) (some (encP (.pt a i)))) (by
          rw [sF_eq, eB_eq, show (lP (dV 6)) (E d4 Z4 none (some (.int (0 + (k : Int)))) y10) = some (.ok (.lst .frz ((cellsOf bs).map encP)) (E d4 Z4 none (some (.int (0 + (k : Int)))) y10)) from rfl]
          dsimp only
          rw [if_pos (by simp), q1]
          dsimp only
          rw [ixD_lst, hxa]
          simp [E])]
        have q2 : eC d_law_draw_664a20 [.ln 0, .ex (lP (pB oAdd (dV 3) (dC (.int 3))))] (E d5 Z4 none (some (.int (0 + (k : Int)))) (some (encP (.pt a i)))) = some (.ok (.int u) (E d6 Z4 none (some (.int (0 + (k : Int)))) (some (encP (.pt a i))))) := eC_le (x := .int ((n : Int) + 3)) rfl (by simp [E]) rfl e6
        rw [sExpr_eq, eL_eq, show ownL (getS (E d5 Z4 none (some (.int (0 + (k : Int)))) (some (encP (.pt a i)))) 7) = some (Z4.map encS) from rfl]
        dsimp only
        rw [evE_cons, eB_eq, show (lP (dV 10)) (E d5 Z4 none (some (.int (0 + (k : Int)))) (some (encP (.pt a i)))) = some (.ok (encP (.pt a i)) (E d5 Z4 none (some (.int (0 + (k : Int)))) (some (encP (.pt a i))))) from rfl]
        dsimp only
        rw [if_pos (by simp), eN_eq, evE_cons, q2]
        dsimp only
        rw [if_pos (by rfl), evE_nil]
        dsimp only
        rw [oTup_eq, if_pos (by simp; omega)]
        dsimp only [Option.map_some]
        rw [hcat]
        dsimp only [Option.map_some]
        rw [if_pos (by simp), evE_nil]
        dsimp only
        rw [if_pos (by simp), show ownL (getS (E d6 Z4 none (some (.int (0 + (k : Int)))) (some (encP (.pt a i)))) 7) = some (Z4.map encS) from rfl]
        dsimp only
        rw [oApp_eq, if_pos (by rw [List.length_map]; omega)]
        simp [E]
      · rcases List.mem_append.mp hz with h | h
        · exact hZ4 z h
        · rw [List.mem_singleton.mp h]; exact hlx)
    (ρ := E d3 Z none none none) ⟨d3, Z, none, none, hd3, hZ, by omega, rfl⟩
  obtain ⟨ρ2, eB2, d4, Z4, y9, y10, hd4, hZ4, hZ4l, rfl⟩ := L2
  rw [rngD_len] at hZ4l
  obtain ⟨w, d5, hd5, w0, w1, e5⟩ := draw_ok hd4 3 (by decide) (by decide)
  have q5 : eC d_law_draw_664a20 [.ln 0, .ex (lP (dC (.int 3)))] (E d4 Z4 none none y10) = some (.ok (.int w) (E d5 Z4 none none y10)) := eC_dr e5
  have S3 : ∃ (Z5 : List Sp) (d6 : D), FD 0 d6 ∧ (∀ z ∈ Z5, LayS z) ∧ Z5.length ≤ 200 ∧ (sIf (eT (eB oEq (eC d_law_draw_664a20 [.ln 0, .ex (lP (dC (.int 3)))]) (lP (dC (.int 0))))) (sO 7 (eSl (eFz 7) oEN (oES (eC d_law_draw_664a20 [.ln 0, .ex (lP (pB oAdd (pN oLen [(dK 7)]) (dC (.int 1))))])))) sNil) (E d4 Z4 none none y10) = some (.nx (E d6 Z5 none none y10)) := by
    by_cases hw : w = 0
    · obtain ⟨j, d6, hd6, j0, j1, e6⟩ := draw_ok hd5 ((Z4.length : Int) + 1) (by omega) (by omega)
      obtain ⟨j, rfl⟩ := Int.eq_ofNat_of_zero_le j0
      let F : D → Env := fun d => [some d, some (encH .frz bs cs), some (.lst .frz (P.map encP)), some (.int n), some (.lst .frz A), some (.int mo), some (.lst .frz ((cellsOf bs).map encP)), some (.lst .frz (Z4.map encS)), none, none, y10]
      have q6 : eC d_law_draw_664a20 [.ln 0, .ex (lP (pB oAdd (pN oLen [(dK 7)]) (dC (.int 1))))] (F d5) = some (.ok (.int (j : Int)) (F d6)) := eC_le (x := .int ((Z4.length : Int) + 1)) rfl (by simp [F]) rfl e6
      have hcut : cutD (.lst .frz (Z4.map encS)) none (some (j : Int)) = some (.lst .own ((Z4.take j).map encS)) := by
        show some (D.lst .own (cutL (Z4.map encS) none (some (j : Int)))) = _
        rw [cut_to _ _ (by rw [List.length_map]; omega), List.map_take]
      refine ⟨Z4.take j, d6, hd6, fun z hz => hZ4 z (List.mem_of_mem_take hz), by rw [List.length_take]; omega, ?_⟩
      rw [sIf_t (ρ' := E d5 Z4 none none y10) (by simp [q5, hw])]
      have hsl2 : eSl (eFz 7) oEN (oES (eC d_law_draw_664a20 [.ln 0, .ex (lP (pB oAdd (pN oLen [(dK 7)]) (dC (.int 1))))])) (E d5 Z4 none none y10) = some (.ok (.lst .own ((Z4.take j).map encS)) (F d6)) := by
        unfold eSl
        rw [show (eFz 7) (E d5 Z4 none none y10) = some (.ok (.lst .frz (Z4.map encS)) (F d5)) by simp [E, F]]
        dsimp only
        rw [if_pos (by simp)]
        unfold oEN oES
        dsimp only
        rw [q6]
        dsimp only
        rw [hcut]
        rfl
      rw [sO_eq, hsl2]
      simp [E, F]
    · refine ⟨Z4, d5, hd5, hZ4, by omega, ?_⟩
      rw [sIf_f (ρ' := E d5 Z4 none none y10) (by simp [q5, hw])]
      rfl
  obtain ⟨Z5, d6, hd6, hZ5, hZ5l, e7⟩ := S3
  refine ⟨Z5, d6, hd6, hZ5, hZ5l, ?_⟩
  let G : D → Option D → Option D → Option D → Env := fun d y4 y5 y6 => [some d, some (encH .frz bs cs), some (.lst .frz (P.map encP)), some (.int n), y4, y5, y6, none, none, none, none]
  show fnR [true, false, false, false] (b_law_drawn_cut_4dc59b (G d none none none)) = _
  unfold b_law_drawn_cut_4dc59b
  rw [seq_nx (ρ' := G d (some (.lst .frz A)) none none) (by simp [G, hsc, hnbL, hrmL])]
  rw [seq_nx (ρ' := G d1 (some (.lst .frz A)) (some (.int mo)) none) (by
    rw [sF_eq, show eC d_law_draw_664a20 [.ln 0, .ex (lP (pB oAdd (dV 3) (dC (.int 1))))] (G d (some (.lst .frz A)) none none) = some (.ok (.int mo) (G d1 (some (.lst .frz A)) none none)) from eC_le (x := .int ((n : Int) + 1)) rfl (by simp [G]) rfl e1]; rfl)]
  rw [seq_nx (ρ' := G d1 (some (.lst .frz A)) (some (.int mo)) (some (.lst .frz ((cellsOf bs).map encP)))) (by simp [G, hcc])]
  rw [seq_nx (ρ' := E d1 [] none none none) (by simp [G, E])]
  have hw1 : iAll (lP (pB ixD (dV 4) (dV 5))) (E d1 [] none none none) = some (.ok (.lst .frz (s.map encP), s.map encP) (E d1 [] none none none)) := by
    have := iAll_lst (f := lP (pB ixD (dV 4) (dV 5))) (ρ := E d1 [] none none none) (ρ' := E d1 [] none none none) (m := .frz) (ds := s.map encP) (by simp [E, hsa]) (by simp)
    simpa using this
  rw [seq_nx (ρ' := E d2 Z none none none) (by rw [sFor_of hw1, eA]; rfl)]
  have hr : iRng [(eC d_law_draw_664a20 [.ln 0, .ex (lP (dC (.int 7)))])] (E d2 Z none none none) = some (.ok (.non, rngD 0 v.toNat) (E d3 Z none none none)) := iRng_1 (eC_dr e3) (okR_small (by omega) (by omega))
  rw [seq_nx (ρ' := E d4 Z4 none none y10) (by rw [sFor_of hr, eB2]; rfl)]
  rw [seq_nx e7]
  simp [E]
theorem eqD_given {bs : List Belt} {cs : List Str} (hk : HOk bs cs) {P : List Pl} {Z : List Sp} (hP : ∀ x ∈ P, LayP x) (hZ : ∀ z ∈ Z, LayS z) : eqD (.tup [encH .frz bs cs, .lst .frz (P.map encP), .lst .frz (Z.map encS)]) (.tup [encH .frz bs cs, .lst .frz (P.map encP), .lst .frz (Z.map encS)]) = some true := by
  refine eqD_refl (p := .tuple [.tuple [.list (bs.map pyB), .list (cs.map .str)], .list (P.map pyP), .list (Z.map pyS)]) (by
    have h1 : py (encH .frz bs cs) = some (.tuple [.list (bs.map pyB), .list (cs.map .str)]) := by unfold encH; simp [py, pys, pys_strs, pys_encBs]
    simp [py, pys, h1, pys_encPs, pys_encSs]) ?_
  unfold SeqAt.shaped
  rw [Bool.and_eq_true]
  constructor
  · simp only [PyData.canLay0, PyData.canLayAll0]
    rw [lay_strs fun s hs => (hk.ok s (List.mem_append_right _ hs)).1, lay_Bs fun b hb => ⟨(hk.ok _ (List.mem_append_left _ (List.mem_map.mpr ⟨b, hb, rfl⟩))).1, fun o ho => (hk.ok o ((wf_outs hk.wf hb).2.2.2.1 o ho)).1⟩, lay_Ps hP, lay_Ss hZ]
    rfl
  · refine decide_eq_true ?_
    have h1 := depth_Bs bs
    have h2 := depth_Ps P
    have h3 := depth_Ss Z
    simp only [PyData.depth, PyData.depthAll, depth_strs]
    omega
theorem fin_is {lm : List Bool} {f : PF} {ρ : Env} (h : f ρ = some (.bl true)) (hl : lents lm ρ = some []) : fnR lm (sRet (lP (pB (oIs false) f (dC (.bl true)))) ρ) = some (.ret (.bl true) []) := by simp [h, hl]
theorem pN_of {o : ON} {fs : List PF} {ρ : Env} {ds : List D} {d : D} (h : evL fs ρ = some ds) (h2 : o ds = some d) : pN o fs ρ = some d := by rw [pN_eq, h, Option.bind_some, h2]
theorem plain (ns : List Int) (hl : ns.length ≤ 63) : ∃ ls, d_law_647079 [.lst .ro (ns.map .int)] = some (.ret (.bl true) ls) := by
  have hs := size_big
  obtain ⟨d0, hd0, e0⟩ := feed_ok ns (by omega)
  obtain ⟨bs, cs, d1, hb1, h15, hk, hd1, e1⟩ := house2_ok hd0
  obtain ⟨P, d2, hd2, hP, e2⟩ := places_ok hk h15 hb1 hd1
  have hPv : ∀ x ∈ P, LayP x := fun x hx => ((good_cells (cs := cs) hP x hx).1).lay hk
  have hcs1 : 1 ≤ cs.length := List.length_pos_iff.mpr hk.ne
  have hc5 := hk.cl
  obtain ⟨v, d3, hd3, v0, v1, e3⟩ := draw_ok hd2 (cs.length : Int) (by omega) (by omega)
  obtain ⟨c, hc, hcm⟩ := atI_lt (xs := cs) v0 v1
  have hca : atI (cs.map D.str) v = some (.str c) := by rw [atI_map, hc]; rfl
  have hcl : LayC (some (.on c)) := fun x e => by cases e; exact (hk.ok c (List.mem_append_right _ hcm)).1
  obtain ⟨t, d4, hd4, t0, t1, e4⟩ := draw_ok hd3 13 (by decide) (by decide)
  obtain ⟨w, d5, hd5, w0, w1, e5⟩ := draw_ok hd4 6 (by decide) (by decide)
  let E : D → Option D → Option D → Option D → Option D → Option D → Option D → Option D → Env := fun d y3 y4 y5 y6 y7 y8 y9 => [some (.lst .ro (ns.map .int)), some d, some (encH .frz bs cs), y3, y4, y5, y6, y7, y8, y9]
  let E4 : D → Int → Env := fun d t => E d (some (.lst .frz (P.map encP))) (some (.str c)) (some (.int t)) none none none none
  have ST : ∃ (n : Nat) (d6 : D), n ≤ 100 ∧ FD 0 d6 ∧ (sIf (eT (eB oEq (eC d_law_draw_664a20 [.ln 1, .ex (lP (dC (.int 6)))]) (lP (dC (.int 4))))) (sF 5 (eB oAdd (lP (dV 5)) (eC d_law_draw_664a20 [.ln 1, .ex (lP (dC (.int 29)))]))) sNil) (E4 d4 t) = some (.nx (E4 d6 n)) := by
    have q5 : eC d_law_draw_664a20 [.ln 1, .ex (lP (dC (.int 6)))] (E4 d4 t) = some (.ok (.int w) (E4 d5 t)) := eC_le (x := .int 6) rfl rfl rfl e5
    by_cases hw : w = 4
    · obtain ⟨u, d6, hd6, u0, u1, e6⟩ := draw_ok hd5 29 (by decide) (by decide)
      have q6 : eC d_law_draw_664a20 [.ln 1, .ex (lP (dC (.int 29)))] (E4 d5 t) = some (.ok (.int u) (E4 d6 t)) := eC_le (x := .int 29) rfl rfl rfl e6
      refine ⟨(t + u).toNat, d6, by omega, hd6, ?_⟩
      rw [sIf_t (ρ' := E4 d5 t) (by simp [q5, hw]), sF_eq, eB_eq, show (lP (dV 5)) (E4 d5 t) = some (.ok (.int t) (E4 d5 t)) from rfl]
      dsimp only
      rw [if_pos (by rfl), q6]
      dsimp only
      rw [oAdd_int, Int.toNat_of_nonneg (by omega)]
      rfl
    · refine ⟨t.toNat, d5, by omega, hd5, ?_⟩
      rw [sIf_f (ρ' := E4 d5 t) (by simp [q5, hw]), Int.toNat_of_nonneg t0]
      rfl
  obtain ⟨n, d6, hn, hd6, eST⟩ := ST
  obtain ⟨Z, d7, hd7, hZ, hZl, e7⟩ := drawn_cut_ok hk h15 hb1 hd6 hP n hn
  refine ⟨[], ?_⟩
  show fnR [false] (b_law_647079 [some (.lst .ro (ns.map .int)), none, none, none, none, none, none, none, none, none]) = _
  unfold b_law_647079
  have hf0 : oCall d_law_feed_7ae9d6 [.lst .ro (ns.map .int)] = some d0 := oCall_nb (ls := []) (by simpa using e0) (.inl (by simp))
  have n0 := hd0.noBrw
  rw [seq_nx (ρ' := [some (.lst .ro (ns.map .int)), some d0, none, none, none, none, none, none, none, none]) (by simp [hf0, n0])]
  rw [seq_nx (ρ' := E d1 none none none none none none none) (by
    rw [sF_eq, show eC d_law_house_b98846 [.ln 1] [some (.lst .ro (ns.map .int)), some d0, none, none, none, none, none, none, none, none] = some (.ok (.tup [.lst .own (bs.map encBo), .lst .own (cs.map .str)]) [some (.lst .ro (ns.map .int)), some d1, none, none, none, none, none, none, none, none]) from eC_l rfl e1]
    simp [E, encH])]
  rw [seq_nx (ρ' := E d2 (some (.lst .frz (P.map encP))) none none none none none none) (by
    rw [sF_eq, show eC d_law_places_a9c304 [.ln 1, .ex (lP (dV 2)), .ex (lP (dC (.int 5)))] (E d1 none none none none none none none) = some (.ok (.lst .own (P.map encP)) (E d2 none none none none none none none)) from eC_lee (x := encH .frz bs cs) (y := .int 5) rfl rfl (by simp) rfl rfl (by simpa using e2)]
    simp [E])]
  rw [seq_nx (ρ' := E d3 (some (.lst .frz (P.map encP))) (some (.str c)) none none none none none) (by
    rw [sF_eq, eB_eq, show (lP (pB ixD (dV 2) (dC (.int 1)))) (E d2 (some (.lst .frz (P.map encP))) none none none none none none) = some (.ok (.lst .frz (cs.map .str)) (E d2 (some (.lst .frz (P.map encP))) none none none none none none)) by simp [E]]
    dsimp only
    rw [if_pos (by simp), show eC d_law_draw_664a20 [.ln 1, .ex (lP (pN oLen [(pB ixD (dV 2) (dC (.int 1)))]))] (E d2 (some (.lst .frz (P.map encP))) none none none none none none) = some (.ok (.int v) (E d3 (some (.lst .frz (P.map encP))) none none none none none none)) from eC_le (x := .int (cs.length : Int)) rfl (by simp [E]) rfl e3]
    dsimp only
    rw [ixD_lst, hca]
    simp [E])]
  rw [seq_nx (ρ' := E4 d4 t) (by
    rw [sF_eq, show eC d_law_draw_664a20 [.ln 1, .ex (lP (dC (.int 13)))] (E d3 (some (.lst .frz (P.map encP))) (some (.str c)) none none none none none) = some (.ok (.int t) (E d4 (some (.lst .frz (P.map encP))) (some (.str c)) none none none none none)) from eC_le (x := .int 13) rfl rfl rfl e4]
    rfl)]
  rw [seq_nx eST]
  let F : Option D → Option D → Option D → Option D → Env := fun y6 y7 y8 y9 => E d7 (some (.lst .frz (P.map encP))) (some (.str c)) (some (.int n)) y6 y7 y8 y9
  have BODY : ∀ (R : List Sp), (∀ z ∈ R, LayS z) → R.length ≤ 1000 → ∀ y7 y8 y9, ∃ w7 w8 w9, (sSeq (sF 7 (lP (pN oTup [(pN (oCall d_law_copied_b608ba) [(dV 2)]), (pN oList [(dV 3)]), (pN oList [(dV 6)])])))
    (sSeq (sF 8 (lP (pN (oCall d_cuts) [(pB ixD (dV 7) (dC (.int 0))), (pB ixD (dV 7) (dC (.int 1))), (dV 4), (dV 5), (pB ixD (dV 7) (dC (.int 2)))])))
    (sSeq (sF 9 (lP (pB (oIs true) (pN (oCall d_law_sets_277d4e) [(dV 2), (dV 3), (dV 4), (dV 5), (dV 6)]) (dC .non))))
    (sIf (lQ (qOr (qNot (qB (pIsi "bool" (dV 8)))) (qOr (qB (pB oNe (dV 8) (dV 9))) (qB (pB oNe (dV 7) (pN oTup [(dV 2), (dV 3), (dV 6)])))))) (sRet (lP (dC (.bl false)))) sNil)))) (F (some (.lst .frz (R.map encS))) y7 y8 y9) = some (.nx (F (some (.lst .frz (R.map encS))) w7 w8 w9)) := by
    intro R hR hRl y7 y8 y9
    have hcp : oCall d_law_copied_b608ba [encH .frz bs cs] = some (.tup [.lst .own (bs.map encBo), .lst .own (cs.map .str)]) := oCall_nb (ls := []) (by simp only [remL_cons, remL_nil, encH_rem]; exact copied_ok hk) (.inl (by simp))
    have arg : D.remL fz [encH .frz bs cs, .lst .frz (P.map encP), .str c, .int n, .lst .frz (R.map encS)] = [encH .frz bs cs, .lst .frz (P.map encP), .str c, .int n, .lst .frz (R.map encS)] := by simp
    obtain ⟨g1, g2⟩ := cuts_ok hk h15 (cart := some (.on c)) hP hRl hcl n hn
    obtain ⟨l1, l2⟩ := lsets_ok hk h15 (cart := some (.on c)) hP hR hcl n hn
    have hb : ∃ b x, oCall d_cuts [encH .frz bs cs, .lst .frz (P.map encP), .str c, .int n, .lst .frz (R.map encS)] = some (.bl b) ∧ oCall d_law_sets_277d4e [encH .frz bs cs, .lst .frz (P.map encP), .str c, .int n, .lst .frz (R.map encS)] = some x ∧ isD x .non = some (!b) := by
      cases q : runR bs (some (.on c)) R n 1 (now0 P R) with
      | none => exact ⟨false, .non, oCall_nb (ls := []) (by rw [arg]; exact g2 q) (.inr rfl), oCall_nb (ls := []) (by rw [arg]; exact l2 q) (.inr rfl), rfl⟩
      | some SS => exact ⟨true, _, oCall_nb (ls := []) (by rw [arg]; exact g1 (by rw [q]; rfl)) (.inr rfl), oCall_nb (ls := []) (by rw [arg]; exact l1 SS q) (.inl (by simp)), rfl⟩
    obtain ⟨b, x, h1, h2, h3⟩ := hb
    have heq := eqD_given hk hPv hR
    have s1 : sF 7 (lP (pN oTup [(pN (oCall d_law_copied_b608ba) [(dV 2)]), (pN oList [(dV 3)]), (pN oList [(dV 6)])])) (F (some (.lst .frz (R.map encS))) y7 y8 y9) = some (.nx (F (some (.lst .frz (R.map encS))) (some (.tup [encH .frz bs cs, .lst .frz (P.map encP), .lst .frz (R.map encS)])) y8 y9)) := by
      simp [F, E, hcp, show 3 ≤ sizeLine by omega]
      rfl
    refine ⟨some (.tup [encH .frz bs cs, .lst .frz (P.map encP), .lst .frz (R.map encS)]), some (.bl b), some (.bl b), ?_⟩
    rw [seq_nx s1]
    rw [seq_nx (ρ' := F (some (.lst .frz (R.map encS))) (some (.tup [encH .frz bs cs, .lst .frz (P.map encP), .lst .frz (R.map encS)])) (some (.bl b)) y9) (by simp [F, E, h1])]
    rw [seq_nx (ρ' := F (some (.lst .frz (R.map encS))) (some (.tup [encH .frz bs cs, .lst .frz (P.map encP), .lst .frz (R.map encS)])) (some (.bl b)) (some (.bl b))) (by simp [F, E, h2, h3])]
    simp [F, E, pIsi, isiB, tyD, heq, show 3 ≤ sizeLine by omega]
  have hw : iAll (eN oLst [(eC d_law_drawn_cut_4dc59b [.ln 1, .ex (lP (dV 2)), .ex (lP (dV 3)), .ex (lP (dV 5))]), (lP (pN oLst []))]) (E4 d6 n) = some (.ok (.lst .frz [.lst .frz (Z.map encS), .lst .frz []], [.lst .frz (Z.map encS), .lst .frz []]) (F none none none none)) := by
    have q : (eN oLst [(eC d_law_drawn_cut_4dc59b [.ln 1, .ex (lP (dV 2)), .ex (lP (dV 3)), .ex (lP (dV 5))]), (lP (pN oLst []))]) (E4 d6 n) = some (.ok (.lst .own [.lst .own (Z.map encS), .lst .own []]) (F none none none none)) := by
      rw [eN_eq, evE_cons, show eC d_law_drawn_cut_4dc59b [.ln 1, .ex (lP (dV 2)), .ex (lP (dV 3)), .ex (lP (dV 5))] (E4 d6 n) = some (.ok (.lst .own (Z.map encS)) (E4 d7 n)) from eC_leee (x := encH .frz bs cs) (y := .lst .frz (P.map encP)) (z := .int n) rfl rfl (by simp) rfl (by simp) rfl rfl (by simpa using e7)]
      simp [E4, F, show 2 ≤ sizeLine by omega]
    have := iAll_lst q (by simp)
    simpa using this
  obtain ⟨a7, a8, a9, ea⟩ := BODY Z hZ (by omega) none none none
  obtain ⟨b7, b8, b9, eb⟩ := BODY [] (fun z h => by cases h) (by simp) a7 a8 a9
  rw [seq_nx (ρ' := F none b7 b8 b9) (by
    rw [sFor_of hw, loop_cons, show bN 6 (.lst .frz (Z.map encS)) (F none none none none) = some (F (some (.lst .frz (Z.map encS))) none none none) from rfl]
    dsimp only
    rw [ea]
    dsimp only
    rw [loop_cons, show bN 6 (.lst .frz []) (F (some (.lst .frz (Z.map encS))) a7 a8 a9) = some (F (some (.lst .frz ([].map encS))) a7 a8 a9) from rfl]
    dsimp only
    rw [eb]
    rfl)]
  -- of no places
  have hend : oCall d_cuts [encH .frz bs cs, .lst .own [], .str c, .int n, .lst .own []] = some (.bl true) := by
    have hr : ∀ k m, (runR bs (some (.on c)) [] k m []).isSome = true := by
      intro k
      induction k with
      | zero => intro m; rfl
      | succ k ih =>
        intro m
        show ((scan (some (.on c)) [] (m : Int) [] []).bind _).isSome = true
        have := ih (m + 1)
        obtain ⟨SS, hS⟩ := Option.isSome_iff_exists.mp this
        show ((runR bs (some (.on c)) [] k (m + 1) []).map _).isSome = true
        rw [hS]; rfl
    have h2 := (cuts_ok hk h15 (P := []) (Z := []) (cart := some (.on c)) (good_nil bs) (by simp) hcl n hn).1 (hr n 1)
    rw [List.map_nil, List.map_nil, show cartD (some (.on c)) = .str c from rfl] at h2
    refine oCall_nb (ls := []) ?_ (.inr rfl)
    rw [show D.remL fz [encH .frz bs cs, .lst .own [], .str c, .int (n : Int), .lst .own []] = [encH .frz bs cs, .lst .frz [], .str c, .int (n : Int), .lst .frz []] by simp]
    exact h2
  exact fin_is (pN_of (ds := [encH .frz bs cs, .lst .own [], .str c, .int (n : Int), .lst .own []]) (by simp [F, E]) hend) rfl
end DL

end
section
open PySem PySem.Spec L2
namespace DL
open PyProof.Rows
abbrev cn0 : Nm := ⟨fun _ => none, fun _ _ _ => False⟩
theorem all_mk {l : PySem.W.OpenLaw} {w : World} {K : PySem.W.Frag} {h : Heap} {mg : Str → Option Value} {fa : Addr} (X : K.In h) (G : h.Ns mainGlobals mg) (hfa : mg (Str.ofString "law") = some (.ref fa))
    {f0 : Addr} {od0 an0 : Option Addr} {sl0 : Array (Option Value)} {oc0 kV0 dc0 pm0 cd0 ct0 : Value} (a0 : PySem.W.nsIn K mainGlobals (Str.ofString "_law_feed") = some (some (.ref f0))) (l0 : K.lookup f0 = some ⟨oc0, od0, .func (PySem.W.fnOf (Str.ofString "_law_feed") (Str.ofString "_law_feed") (defArgs s_law_feed_7ae9d6) (defBody s_law_feed_7ae9d6) (defScope s_law_feed_7ae9d6) .none kV0 dc0 pm0 an0 cd0 ct0), sl0⟩) (c0 : PySem.W.codeIn K cd0 (Str.ofString "_law_feed") = true) (k0 : PySem.W.keepIn K (.ref f0) = true)
    {f1 : Addr} {od1 an1 : Option Addr} {sl1 : Array (Option Value)} {oc1 kV1 dc1 pm1 cd1 ct1 : Value} (a1 : PySem.W.nsIn K mainGlobals (Str.ofString "_law_draw") = some (some (.ref f1))) (l1 : K.lookup f1 = some ⟨oc1, od1, .func (PySem.W.fnOf (Str.ofString "_law_draw") (Str.ofString "_law_draw") (defArgs s_law_draw_664a20) (defBody s_law_draw_664a20) (defScope s_law_draw_664a20) .none kV1 dc1 pm1 an1 cd1 ct1), sl1⟩) (c1 : PySem.W.codeIn K cd1 (Str.ofString "_law_draw") = true) (k1 : PySem.W.keepIn K (.ref f1) = true)
    {f2 : Addr} {od2 an2 : Option Addr} {sl2 : Array (Option Value)} {oc2 kV2 dc2 pm2 cd2 ct2 : Value} (a2 : PySem.W.nsIn K mainGlobals (Str.ofString "_law_name") = some (some (.ref f2))) (l2 : K.lookup f2 = some ⟨oc2, od2, .func (PySem.W.fnOf (Str.ofString "_law_name") (Str.ofString "_law_name") (defArgs s_law_name_6bc08e) (defBody s_law_name_6bc08e) (defScope s_law_name_6bc08e) .none kV2 dc2 pm2 an2 cd2 ct2), sl2⟩) (c2 : PySem.W.codeIn K cd2 (Str.ofString "_law_name") = true) (k2 : PySem.W.keepIn K (.ref f2) = true)
    {f3 : Addr} {od3 an3 : Option Addr} {sl3 : Array (Option Value)} {oc3 kV3 dc3 pm3 cd3 ct3 : Value} (a3 : PySem.W.nsIn K mainGlobals (Str.ofString "_law_outs") = some (some (.ref f3))) (l3 : K.lookup f3 = some ⟨oc3, od3, .func (PySem.W.fnOf (Str.ofString "_law_outs") (Str.ofString "_law_outs") (defArgs s_law_outs_c1dd0a) (defBody s_law_outs_c1dd0a) (defScope s_law_outs_c1dd0a) .none kV3 dc3 pm3 an3 cd3 ct3), sl3⟩) (c3 : PySem.W.codeIn K cd3 (Str.ofString "_law_outs") = true) (k3 : PySem.W.keepIn K (.ref f3) = true)
    {f4 : Addr} {od4 an4 : Option Addr} {sl4 : Array (Option Value)} {oc4 kV4 dc4 pm4 cd4 ct4 : Value} (a4 : PySem.W.nsIn K mainGlobals (Str.ofString "_law_house") = some (some (.ref f4))) (l4 : K.lookup f4 = some ⟨oc4, od4, .func (PySem.W.fnOf (Str.ofString "_law_house") (Str.ofString "_law_house") (defArgs s_law_house_b98846) (defBody s_law_house_b98846) (defScope s_law_house_b98846) .none kV4 dc4 pm4 an4 cd4 ct4), sl4⟩) (c4 : PySem.W.codeIn K cd4 (Str.ofString "_law_house") = true) (k4 : PySem.W.keepIn K (.ref f4) = true)
    {f5 : Addr} {od5 an5 : Option Addr} {sl5 : Array (Option Value)} {oc5 kV5 dc5 pm5 cd5 ct5 : Value} (a5 : PySem.W.nsIn K mainGlobals (Str.ofString "_law_cells") = some (some (.ref f5))) (l5 : K.lookup f5 = some ⟨oc5, od5, .func (PySem.W.fnOf (Str.ofString "_law_cells") (Str.ofString "_law_cells") (defArgs s_law_cells_6ad7a8) (defBody s_law_cells_6ad7a8) (defScope s_law_cells_6ad7a8) .none kV5 dc5 pm5 an5 cd5 ct5), sl5⟩) (c5 : PySem.W.codeIn K cd5 (Str.ofString "_law_cells") = true) (k5 : PySem.W.keepIn K (.ref f5) = true)
    {f6 : Addr} {od6 an6 : Option Addr} {sl6 : Array (Option Value)} {oc6 kV6 dc6 pm6 cd6 ct6 : Value} (a6 : PySem.W.nsIn K mainGlobals (Str.ofString "_law_places") = some (some (.ref f6))) (l6 : K.lookup f6 = some ⟨oc6, od6, .func (PySem.W.fnOf (Str.ofString "_law_places") (Str.ofString "_law_places") (defArgs s_law_places_a9c304) (defBody s_law_places_a9c304) (defScope s_law_places_a9c304) .none kV6 dc6 pm6 an6 cd6 ct6), sl6⟩) (c6 : PySem.W.codeIn K cd6 (Str.ofString "_law_places") = true) (k6 : PySem.W.keepIn K (.ref f6) = true)
    {f7 : Addr} {od7 an7 : Option Addr} {sl7 : Array (Option Value)} {oc7 kV7 dc7 pm7 cd7 ct7 : Value} (a7 : PySem.W.nsIn K mainGlobals (Str.ofString "_law_steps") = some (some (.ref f7))) (l7 : K.lookup f7 = some ⟨oc7, od7, .func (PySem.W.fnOf (Str.ofString "_law_steps") (Str.ofString "_law_steps") (defArgs s_law_steps_cb5b23) (defBody s_law_steps_cb5b23) (defScope s_law_steps_cb5b23) .none kV7 dc7 pm7 an7 cd7 ct7), sl7⟩) (c7 : PySem.W.codeIn K cd7 (Str.ofString "_law_steps") = true) (k7 : PySem.W.keepIn K (.ref f7) = true)
    {f8 : Addr} {od8 an8 : Option Addr} {sl8 : Array (Option Value)} {oc8 kV8 dc8 pm8 cd8 ct8 : Value} (a8 : PySem.W.nsIn K mainGlobals (Str.ofString "_law_sets") = some (some (.ref f8))) (l8 : K.lookup f8 = some ⟨oc8, od8, .func (PySem.W.fnOf (Str.ofString "_law_sets") (Str.ofString "_law_sets") (defArgs s_law_sets_277d4e) (defBody s_law_sets_277d4e) (defScope s_law_sets_277d4e) .none kV8 dc8 pm8 an8 cd8 ct8), sl8⟩) (c8 : PySem.W.codeIn K cd8 (Str.ofString "_law_sets") = true) (k8 : PySem.W.keepIn K (.ref f8) = true)
    {f9 : Addr} {od9 an9 : Option Addr} {sl9 : Array (Option Value)} {oc9 kV9 dc9 pm9 cd9 ct9 : Value} (a9 : PySem.W.nsIn K mainGlobals (Str.ofString "_law_drawn_cut") = some (some (.ref f9))) (l9 : K.lookup f9 = some ⟨oc9, od9, .func (PySem.W.fnOf (Str.ofString "_law_drawn_cut") (Str.ofString "_law_drawn_cut") (defArgs s_law_drawn_cut_4dc59b) (defBody s_law_drawn_cut_4dc59b) (defScope s_law_drawn_cut_4dc59b) .none kV9 dc9 pm9 an9 cd9 ct9), sl9⟩) (c9 : PySem.W.codeIn K cd9 (Str.ofString "_law_drawn_cut") = true) (k9 : PySem.W.keepIn K (.ref f9) = true)
    {f10 : Addr} {od10 an10 : Option Addr} {sl10 : Array (Option Value)} {oc10 kV10 dc10 pm10 cd10 ct10 : Value} (a10 : PySem.W.nsIn K mainGlobals (Str.ofString "_law_copied") = some (some (.ref f10))) (l10 : K.lookup f10 = some ⟨oc10, od10, .func (PySem.W.fnOf (Str.ofString "_law_copied") (Str.ofString "_law_copied") (defArgs s_law_copied_b608ba) (defBody s_law_copied_b608ba) (defScope s_law_copied_b608ba) .none kV10 dc10 pm10 an10 cd10 ct10), sl10⟩) (c10 : PySem.W.codeIn K cd10 (Str.ofString "_law_copied") = true) (k10 : PySem.W.keepIn K (.ref f10) = true)
    {f11 : Addr} {od11 an11 : Option Addr} {sl11 : Array (Option Value)} {oc11 kV11 dc11 pm11 cd11 ct11 : Value} (a11 : PySem.W.nsIn K mainGlobals (Str.ofString "belt_of") = some (some (.ref f11))) (l11 : K.lookup f11 = some ⟨oc11, od11, .func (PySem.W.fnOf (Str.ofString "belt_of") (Str.ofString "belt_of") (defArgs s_belt_of) (defBody s_belt_of) (defScope s_belt_of) .none kV11 dc11 pm11 an11 cd11 ct11), sl11⟩) (c11 : PySem.W.codeIn K cd11 (Str.ofString "belt_of") = true) (k11 : PySem.W.keepIn K (.ref f11) = true)
    {f12 : Addr} {od12 an12 : Option Addr} {sl12 : Array (Option Value)} {oc12 kV12 dc12 pm12 cd12 ct12 : Value} (a12 : PySem.W.nsIn K mainGlobals (Str.ofString "steps") = some (some (.ref f12))) (l12 : K.lookup f12 = some ⟨oc12, od12, .func (PySem.W.fnOf (Str.ofString "steps") (Str.ofString "steps") (defArgs s_steps) (defBody s_steps) (defScope s_steps) .none kV12 dc12 pm12 an12 cd12 ct12), sl12⟩) (c12 : PySem.W.codeIn K cd12 (Str.ofString "steps") = true) (k12 : PySem.W.keepIn K (.ref f12) = true)
    {f13 : Addr} {od13 an13 : Option Addr} {sl13 : Array (Option Value)} {oc13 kV13 dc13 pm13 cd13 ct13 : Value} (a13 : PySem.W.nsIn K mainGlobals (Str.ofString "cuts") = some (some (.ref f13))) (l13 : K.lookup f13 = some ⟨oc13, od13, .func (PySem.W.fnOf (Str.ofString "cuts") (Str.ofString "cuts") (defArgs s_cuts) (defBody s_cuts) (defScope s_cuts) .none kV13 dc13 pm13 an13 cd13 ct13), sl13⟩) (c13 : PySem.W.codeIn K cd13 (Str.ofString "cuts") = true) (k13 : PySem.W.keepIn K (.ref f13) = true)
    {f14 : Addr} {od14 an14 : Option Addr} {sl14 : Array (Option Value)} {oc14 kV14 dc14 pm14 cd14 ct14 : Value} (a14 : PySem.W.nsIn K mainGlobals (Str.ofString "law") = some (some (.ref f14))) (l14 : K.lookup f14 = some ⟨oc14, od14, .func (PySem.W.fnOf (Str.ofString "law") (Str.ofString "law") (defArgs s_law_647079) (defBody s_law_647079) (defScope s_law_647079) .none kV14 dc14 pm14 an14 cd14 ct14), sl14⟩) (c14 : PySem.W.codeIn K cd14 (Str.ofString "law") = true) (k14 : PySem.W.keepIn K (.ref f14) = true)
    (z_len : PySem.W.nsIn K mainGlobals (Str.ofString "len") = some none)
    (z_range : PySem.W.nsIn K mainGlobals (Str.ofString "range") = some none)
    (z_any : PySem.W.nsIn K mainGlobals (Str.ofString "any") = some none)
    (z_int : PySem.W.nsIn K mainGlobals (Str.ofString "int") = some none)
    (z_isinstance : PySem.W.nsIn K mainGlobals (Str.ofString "isinstance") = some none)
    (z_str : PySem.W.nsIn K mainGlobals (Str.ofString "str") = some none)
    (z_list : PySem.W.nsIn K mainGlobals (Str.ofString "list") = some none)
    (z_bool : PySem.W.nsIn K mainGlobals (Str.ofString "bool") = some none)
    : ∃ fd : FuncData, (∀ (s : Shared) (v : Value), BindsTo s fd ⟨[v], []⟩ [("script", v)]) ∧ ∀ base : Heap, K.In base → base.Ns mainGlobals mg → FnOk l.prog w K mg base (L2.CX l.prog w) 4 fa fd [(Str.ofString "script")] (SpD K cn0 [false] d_law_647079) := by
  have e := hfa.symm.trans (PySem.W.mg_of X G a14)
  cases e
  have F0 := fun_mk (st := s_law_feed_7ae9d6) l0 c0 k0
  have b0 := F0.binds (ps := [(Str.ofString "script")]) (fun _ _ _ _ _ _ us hl => match us, hl with | [_], _ => rfl)
  have F1 := fun_mk (st := s_law_draw_664a20) l1 c1 k1
  have b1 := F1.binds (ps := [(Str.ofString "feed"), (Str.ofString "many")]) (fun _ _ _ _ _ _ us hl => match us, hl with | [_, _], _ => rfl)
  have F2 := fun_mk (st := s_law_name_6bc08e) l2 c2 k2
  have b2 := F2.binds (ps := [(Str.ofString "style"), (Str.ofString "k")]) (fun _ _ _ _ _ _ us hl => match us, hl with | [_, _], _ => rfl)
  have F3 := fun_mk (st := s_law_outs_c1dd0a) l3 c3 k3
  have b3 := F3.binds (ps := [(Str.ofString "feed"), (Str.ofString "names"), (Str.ofString "k"), (Str.ofString "many")]) (fun _ _ _ _ _ _ us hl => match us, hl with | [_, _, _, _], _ => rfl)
  have F4 := fun_mk (st := s_law_house_b98846) l4 c4 k4
  have b4 := F4.binds (ps := [(Str.ofString "feed")]) (fun _ _ _ _ _ _ us hl => match us, hl with | [_], _ => rfl)
  have F5 := fun_mk (st := s_law_cells_6ad7a8) l5 c5 k5
  have b5 := F5.binds (ps := [(Str.ofString "house")]) (fun _ _ _ _ _ _ us hl => match us, hl with | [_], _ => rfl)
  have F6 := fun_mk (st := s_law_places_a9c304) l6 c6 k6
  have b6 := F6.binds (ps := [(Str.ofString "feed"), (Str.ofString "house"), (Str.ofString "most")]) (fun _ _ _ _ _ _ us hl => match us, hl with | [_, _, _], _ => rfl)
  have F7 := fun_mk (st := s_law_steps_cb5b23) l7 c7 k7
  have b7 := F7.binds (ps := [(Str.ofString "house"), (Str.ofString "place")]) (fun _ _ _ _ _ _ us hl => match us, hl with | [_, _], _ => rfl)
  have F8 := fun_mk (st := s_law_sets_277d4e) l8 c8 k8
  have b8 := F8.binds (ps := [(Str.ofString "house"), (Str.ofString "places"), (Str.ofString "cart"), (Str.ofString "turns"), (Str.ofString "cut")]) (fun _ _ _ _ _ _ us hl => match us, hl with | [_, _, _, _, _], _ => rfl)
  have F9 := fun_mk (st := s_law_drawn_cut_4dc59b) l9 c9 k9
  have b9 := F9.binds (ps := [(Str.ofString "feed"), (Str.ofString "house"), (Str.ofString "places"), (Str.ofString "turns")]) (fun _ _ _ _ _ _ us hl => match us, hl with | [_, _, _, _], _ => rfl)
  have F10 := fun_mk (st := s_law_copied_b608ba) l10 c10 k10
  have b10 := F10.binds (ps := [(Str.ofString "house")]) (fun _ _ _ _ _ _ us hl => match us, hl with | [_], _ => rfl)
  have F11 := fun_mk (st := s_belt_of) l11 c11 k11
  have b11 := F11.binds (ps := [(Str.ofString "house"), (Str.ofString "name")]) (fun _ _ _ _ _ _ us hl => match us, hl with | [_, _], _ => rfl)
  have F12 := fun_mk (st := s_steps) l12 c12 k12
  have b12 := F12.binds (ps := [(Str.ofString "house"), (Str.ofString "place")]) (fun _ _ _ _ _ _ us hl => match us, hl with | [_, _], _ => rfl)
  have F13 := fun_mk (st := s_cuts) l13 c13 k13
  have b13 := F13.binds (ps := [(Str.ofString "house"), (Str.ofString "places"), (Str.ofString "cart"), (Str.ofString "turns"), (Str.ofString "cut")]) (fun _ _ _ _ _ _ us hl => match us, hl with | [_, _, _, _, _], _ => rfl)
  have F14 := fun_mk (st := s_law_647079) l14 c14 k14
  refine ⟨PySem.W.fnOf "law" "law" (defArgs s_law_647079) (defBody s_law_647079) (defScope s_law_647079) .none kV14 dc14 pm14 an14 cd14 ct14, fun s v => .of_eq rfl, fun base _ _ => ?_⟩
  have G0 := ok_law_feed_7ae9d6 (P := l.prog) (w := w) (mg := mg) (base := base) (cn := cn0) F0
  have G1 := ok_law_draw_664a20 (P := l.prog) (w := w) (mg := mg) (base := base) (cn := cn0) F1 (PySem.W.mg_none_of X G z_len)
  have G2 := ok_law_name_6bc08e (P := l.prog) (w := w) (mg := mg) (base := base) (cn := cn0) F2
  have G3 := ok_law_outs_c1dd0a (P := l.prog) (w := w) (mg := mg) (base := base) (cn := cn0) F3 G1 (PySem.W.mg_of X G a1) F1.kp b1 (PySem.W.mg_none_of X G z_range) (PySem.W.mg_none_of X G z_len) (PySem.W.mg_none_of X G z_any)
  have G4 := ok_law_house_b98846 (P := l.prog) (w := w) (mg := mg) (base := base) (cn := cn0) F4 G1 (PySem.W.mg_of X G a1) F1.kp b1 G2 (PySem.W.mg_of X G a2) F2.kp b2 G3 (PySem.W.mg_of X G a3) F3.kp b3 (PySem.W.mg_none_of X G z_range) (PySem.W.mg_none_of X G z_int)
  have G5 := ok_law_cells_6ad7a8 (P := l.prog) (w := w) (mg := mg) (base := base) (cn := cn0) F5 (PySem.W.mg_none_of X G z_range)
  have G6 := ok_law_places_a9c304 (P := l.prog) (w := w) (mg := mg) (base := base) (cn := cn0) F6 G5 (PySem.W.mg_of X G a5) F5.kp b5 G1 (PySem.W.mg_of X G a1) F1.kp b1 (PySem.W.mg_none_of X G z_range) (PySem.W.mg_none_of X G z_len)
  have G7 := ok_law_steps_cb5b23 (P := l.prog) (w := w) (mg := mg) (base := base) (cn := cn0) F7
  have G8 := ok_law_sets_277d4e (P := l.prog) (w := w) (mg := mg) (base := base) (cn := cn0) F8 G7 (PySem.W.mg_of X G a7) F7.kp b7 (PySem.W.mg_none_of X G z_range) (PySem.W.mg_none_of X G z_isinstance) (PySem.W.mg_none_of X G z_str)
  have G9 := ok_law_drawn_cut_4dc59b (P := l.prog) (w := w) (mg := mg) (base := base) (cn := cn0) F9 G8 (PySem.W.mg_of X G a8) F8.kp b8 G1 (PySem.W.mg_of X G a1) F1.kp b1 G5 (PySem.W.mg_of X G a5) F5.kp b5 (PySem.W.mg_none_of X G z_len) (PySem.W.mg_none_of X G z_range)
  have G10 := ok_law_copied_b608ba (P := l.prog) (w := w) (mg := mg) (base := base) (cn := cn0) F10 (PySem.W.mg_none_of X G z_list)
  have G11 := ok_belt_of (P := l.prog) (w := w) (mg := mg) (base := base) (cn := cn0) F11 (PySem.W.mg_none_of X G z_list)
  have G12 := ok_steps (P := l.prog) (w := w) (mg := mg) (base := base) (cn := cn0) F12 G11 (PySem.W.mg_of X G a11) F11.kp b11
  have G13 := ok_cuts (P := l.prog) (w := w) (mg := mg) (base := base) (cn := cn0) F13 G12 (PySem.W.mg_of X G a12) F12.kp b12 (PySem.W.mg_none_of X G z_range) (PySem.W.mg_none_of X G z_isinstance) (PySem.W.mg_none_of X G z_str) (PySem.W.mg_none_of X G z_list)
  have G14 := ok_law_647079 (P := l.prog) (w := w) (mg := mg) (base := base) (cn := cn0) F14 G0 (PySem.W.mg_of X G a0) F0.kp b0 G4 (PySem.W.mg_of X G a4) F4.kp b4 G6 (PySem.W.mg_of X G a6) F6.kp b6 G1 (PySem.W.mg_of X G a1) F1.kp b1 G9 (PySem.W.mg_of X G a9) F9.kp b9 G10 (PySem.W.mg_of X G a10) F10.kp b10 G13 (PySem.W.mg_of X G a13) F13.kp b13 G8 (PySem.W.mg_of X G a8) F8.kp b8 (PySem.W.mg_none_of X G z_len) (PySem.W.mg_none_of X G z_list) (PySem.W.mg_none_of X G z_isinstance) (PySem.W.mg_none_of X G z_bool)
  exact G14
end DL
open PySem PySem.W PyProof.Rows
set_option maxHeartbeats 0 in
theorem PySem.Challenge.cw_carry_k32_what_cuts_holds : PySem.Challenge.rw_carry_k32_what_cuts.Holds := by
  w_on; o_law; k_head; (case hw => w_witness2)
  k_fill
  refine L2.walk_of (l := PySem.Challenge.rw_carry_k32_what_cuts) (n := 63) (k := 4) (x := "script") (CX := fun w => L2.CX PySem.Challenge.pw_carry_k32_what_cuts w) (sp := fun w => DL.SpD _ DL.cn0 [false] DL.d_law_647079) rfl (by decide) rfl ⟨rfl, by decide, by decide⟩ (fun w h Y => PySem.W.kIn_of Y) ?F (fun _ H a ns hl hO hS => by obtain ⟨ls, e⟩ := DL.plain ns hl; exact DL.law_sp hO hS e) (fun _ H s e s1 h => DL.law_cx H s e s1 h)
  case F =>
    intro w mg fa h KX G hmg
    refine' DL.all_mk (l := PySem.Challenge.rw_carry_k32_what_cuts) KX G hmg ?a0 ?l0 ?c0 ?k0 ?a1 ?l1 ?c1 ?k1 ?a2 ?l2 ?c2 ?k2 ?a3 ?l3 ?c3 ?k3 ?a4 ?l4 ?c4 ?k4 ?a5 ?l5 ?c5 ?k5 ?a6 ?l6 ?c6 ?k6 ?a7 ?l7 ?c7 ?k7 ?a8 ?l8 ?c8 ?k8 ?a9 ?l9 ?c9 ?k9 ?a10 ?l10 ?c10 ?k10 ?a11 ?l11 ?c11 ?k11 ?a12 ?l12 ?c12 ?k12 ?a13 ?l13 ?c13 ?k13 ?a14 ?l14 ?c14 ?k14 ?z_len ?z_range ?z_any ?z_int ?z_isinstance ?z_str ?z_list ?z_bool
    (case a0 => k_is); (case l0 => k_is); (case c0 => k_is); (case k0 => k_is); (case a1 => k_is); (case l1 => k_is); (case c1 => k_is); (case k1 => k_is); (case a2 => k_is); (case l2 => k_is); (case c2 => k_is); (case k2 => k_is); (case a3 => k_is); (case l3 => k_is); (case c3 => k_is); (case k3 => k_is); (case a4 => k_is); (case l4 => k_is); (case c4 => k_is); (case k4 => k_is); (case a5 => k_is); (case l5 => k_is); (case c5 => k_is); (case k5 => k_is); (case a6 => k_is); (case l6 => k_is); (case c6 => k_is); (case k6 => k_is); (case a7 => k_is); (case l7 => k_is); (case c7 => k_is); (case k7 => k_is); (case a8 => k_is); (case l8 => k_is); (case c8 => k_is); (case k8 => k_is); (case a9 => k_is); (case l9 => k_is); (case c9 => k_is); (case k9 => k_is); (case a10 => k_is); (case l10 => k_is); (case c10 => k_is); (case k10 => k_is); (case a11 => k_is); (case l11 => k_is); (case c11 => k_is); (case k11 => k_is); (case a12 => k_is); (case l12 => k_is); (case c12 => k_is); (case k12 => k_is); (case a13 => k_is); (case l13 => k_is); (case c13 => k_is); (case k13 => k_is); (case a14 => k_is); (case l14 => k_is); (case c14 => k_is); (case k14 => k_is); (case z_len => k_is); (case z_range => k_is); (case z_any => k_is); (case z_int => k_is); (case z_isinstance => k_is); (case z_str => k_is); (case z_list => k_is); (case z_bool => k_is)

end
