import PyProof.Rows.All
import OpenK.AllK
import Wide.All
import Wide.FinOn
import HandS.ForMost
import HandS.ForExc
import HandS.Deep
import HandS.IsInst
import HandS.More
import PyProof.StrOps2
import HandS.Rev
import HandS.RaiseMore
import PyProof.Rows.TupDisplay
import HandS.Conv
import PySem.Challenge.RW_carry_k08_houses_read
set_option Elab.async false
set_option linter.all false
set_option maxRecDepth 100000
section
/-! DL1: data with marks, what a value stands for in the abstract heap. -/
open PySem PySem.Spec PyProof.Rows L2
namespace DL
inductive Mk where | own | frz | brw | ro
  deriving DecidableEq
inductive Ky where
  | int (i : Int) | str (x : Str) | tup (ks : List Ky)
/-- what a dict's keys are: ints and texts, tuples of these, tuples of tuples -/
inductive Kn where | k | t | n
  deriving DecidableEq
inductive D where
  | non | bl (b : Bool) | int (i : Int) | str (x : Str)
  | tup (ds : List D)
  | lst (m : Mk) (ds : List D)
  | dic (m : Mk) (kd : Kn) (kvs : List (Ky × D))
  | ins (m : Mk) (C : Str) (fs : List (Str × D))
  | cls (n : Str)
  | exc (n : Str) (fs : List (Str × D))
mutual
/-- every changeable node's mark is so -/
def D.chk (p : Mk → Bool) : D → Bool
  | .tup ds => D.chkL p ds
  | .lst m ds => p m && D.chkL p ds
  | .dic m kd ks => p m && D.chkK p ks
  | .ins m _ fs => p m && D.chkF p fs
  | .exc _ fs => D.chkF p fs
  | _ => true
def D.chkL (p : Mk → Bool) : List D → Bool
  | [] => true
  | d :: ds => D.chk p d && D.chkL p ds
def D.chkK (p : Mk → Bool) : List (Ky × D) → Bool
  | [] => true
  | (_, d) :: ds => D.chk p d && D.chkK p ds
def D.chkF (p : Mk → Bool) : List (Str × D) → Bool
  | [] => true
  | (_, d) :: ds => D.chk p d && D.chkF p ds
end
mutual
/-- other marks -/
def D.rem (f : Mk → Mk) : D → D
  | .tup ds => .tup (D.remL f ds)
  | .lst m ds => .lst (f m) (D.remL f ds)
  | .dic m kd ks => .dic (f m) kd (D.remK f ks)
  | .ins m C fs => .ins (f m) C (D.remF f fs)
  | .exc n fs => .exc n (D.remF f fs)
  | d => d
def D.remL (f : Mk → Mk) : List D → List D
  | [] => []
  | d :: ds => D.rem f d :: D.remL f ds
def D.remK (f : Mk → Mk) : List (Ky × D) → List (Ky × D)
  | [] => []
  | (k, d) :: ds => (k, D.rem f d) :: D.remK f ds
def D.remF (f : Mk → Mk) : List (Str × D) → List (Str × D)
  | [] => []
  | (k, d) :: ds => (k, D.rem f d) :: D.remF f ds
end
def Mk.isOwn : Mk → Bool | .own => true | _ => false
def Mk.isFrz : Mk → Bool | .frz => true | _ => false
def Mk.isBrw : Mk → Bool | .brw => true | _ => false
abbrev D.noOwn (d : D) : Bool := d.chk fun m => !m.isOwn
abbrev D.noBrw (d : D) : Bool := d.chk fun m => !m.isBrw
abbrev D.noFrz (d : D) : Bool := d.chk fun m => !m.isFrz
def fz : Mk → Mk | .own => .frz | .frz => .frz | .brw => .frz | .ro => .ro
abbrev D.frz (d : D) : D := d.rem fz
def pk : Mk → Mk | .own => .brw | .frz => .frz | .brw => .brw | .ro => .ro
abbrev D.peek (d : D) : D := d.rem pk

/-- footprints: how often an address is held -/
abbrev Fp := Addr → Nat
def fp0 : Fp := fun _ => 0
def ofKey : Key → Ky | .inl i => .int i | .inr x => .str x
def ofKeys (ks : List Key) : Ky := .tup (ks.map ofKey)

/-- the classes by name; the exceptions in hand -/
structure Nm where
  cls : Str → Option Addr
  exc : Addr → Str → Option Addr → Prop
/-- a list written in the module's top -/
def KL (K : PySem.W.Frag) (a : Addr) (xs : List V) : Prop :=
  ∃ (o : Obj) (its : Array Value) (n : Nat), K.lookup a = some o ∧ o.cls = .type "list" ∧ o.dict = none ∧ o.data = .seq its n ∧ its.size ≤ sizeLine ∧ Vals xs its.toList

/-- a thing of mark m at the address a that reads as u -/
def At (F : Addr → Prop) (H : Hp) (m : Mk) (a : Addr) (u : HO) (fp f : Fp) : Prop :=
  match m with
  | .own => H a = some u ∧ ∀ b, fp b = f b + if b = a then 1 else 0
  | .frz => F a ∧ H a = some u ∧ (∀ b, f b = 0) ∧ ∀ b, fp b = 0
  | .brw => H a = some u ∧ (∀ b, f b = 0) ∧ ∀ b, fp b = 0
  | .ro => (∃ o, H a = some (.frz o u)) ∧ (∀ b, f b = 0) ∧ ∀ b, fp b = 0

section
variable (K : PySem.W.Frag) (cn : Nm) (F : Addr → Prop) (H : Hp)
mutual
def Rep : D → V → Fp → Prop
  | .non, v, fp => v = .non ∧ ∀ a, fp a = 0
  | .bl b, v, fp => v = .bl b ∧ ∀ a, fp a = 0
  | .int i, v, fp => v = .int i ∧ ∀ a, fp a = 0
  | .str x, v, fp => v = .str x ∧ ∀ a, fp a = 0
  | .cls n, v, fp => (∃ a, v = .ref a ∧ cn.cls n = some a) ∧ ∀ a, fp a = 0
  | .exc n fs, v, fp => ∃ a od vs, v = .ref a ∧ cn.exc a n od ∧ (match od with | none => vs = [] | some dx => H dx = some (.xd vs)) ∧ RepF fs vs fp
  | .tup ds, v, fp => ∃ a vs, v = .ref a ∧ H a = some (.tup vs) ∧ Reps ds vs fp
  | .lst m ds, v, fp => ∃ a vs f, v = .ref a ∧ (At F H m a (.lst vs) fp f ∨ (m = .ro ∧ KL K a vs ∧ (∀ b, f b = 0) ∧ ∀ b, fp b = 0)) ∧ Reps ds vs f
  | .dic m kd kvs, v, fp => ∃ a f, v = .ref a ∧ ((kd = .k ∧ ∃ kv, At F H m a (.dK kv) fp f ∧ RepK kvs (kv.map fun p => (ofKey p.1, p.2)) f) ∨ (kd = .t ∧ ∃ kv, At F H m a (.dT kv) fp f ∧ RepK kvs (kv.map fun p => (ofKeys p.1, p.2)) f))
  | .ins m C fs, v, fp => ∃ a c dx vs f, v = .ref a ∧ cn.cls C = some c ∧ At F H m a (.ins c dx vs) fp f ∧ RepF fs vs f
def Reps : List D → List V → Fp → Prop
  | [], vs, fp => vs = [] ∧ ∀ a, fp a = 0
  | d :: ds, vs, fp => ∃ v r f g, vs = v :: r ∧ (∀ a, fp a = f a + g a) ∧ Rep d v f ∧ Reps ds r g
def RepK : List (Ky × D) → List (Ky × V) → Fp → Prop
  | [], vs, fp => vs = [] ∧ ∀ a, fp a = 0
  | (k, d) :: ds, vs, fp => ∃ v r f g, vs = (k, v) :: r ∧ (∀ a, fp a = f a + g a) ∧ Rep d v f ∧ RepK ds r g
def RepF : List (Str × D) → List (Str × V) → Fp → Prop
  | [], vs, fp => vs = [] ∧ ∀ a, fp a = 0
  | (k, d) :: ds, vs, fp => ∃ v r f g, vs = (k, v) :: r ∧ (∀ a, fp a = f a + g a) ∧ Rep d v f ∧ RepF ds r g
end
end

theorem Rd.tup_keep {H H' : Hp} {a : Addr} {u : HO} (h : ∀ a o, H a = some o → H' a = some o) (r : Rd H a u) : Rd H' a u := by
  rcases r with r | ⟨o, r⟩
  · exact .inl (h _ _ r)
  · exact .inr ⟨o, h _ _ r⟩

/-- what a representation leans on -/
structure Keep (F F' : Addr → Prop) (H H' : Hp) (br : Prop) : Prop where
  sub : ∀ a, F a → F' a
  t : ∀ a o, ¬ Mut (some o) → H a = some o → H' a = some o
  f : ∀ a u, F a → H a = some u → H' a = some u
  b : br → ∀ a u, H a = some u → H' a = some u

section
variable {K : PySem.W.Frag} {cn : Nm} {F F' : Addr → Prop} {H H' : Hp} {br : Prop}
theorem SqT.go {a : Addr} {xs : List V} (k : Keep F F' H H' br) (h : SqT K H a xs) : SqT K H' a xs := by
  rcases h with h | h
  · rcases h with h | ⟨o, h⟩
    · exact .inl (.inl (k.t _ _ (fun z => z) h))
    · exact .inl (.inr ⟨o, k.t _ _ (fun z => z) h⟩)
  · exact .inr h
theorem At.go {m : Mk} {a : Addr} {u : HO} {fp f : Fp} (k : Keep F F' H H' br) (hb : m.isBrw = true → br) (ho : ∀ a o, 0 < fp a → H a = some o → H' a = some o) (h : At F H m a u fp f) : At F' H' m a u fp f := by
  cases m with
  | own => exact ⟨ho _ _ (by have := h.2 a; simp at this; omega) h.1, h.2⟩
  | frz => exact ⟨k.sub _ h.1, k.f _ _ h.1 h.2.1, h.2.2⟩
  | brw => exact ⟨k.b (hb rfl) _ _ h.1, h.2⟩
  | ro => obtain ⟨⟨o, q⟩, r⟩ := h; exact ⟨⟨o, k.t _ _ (fun z => z) q⟩, r⟩
theorem At.sub {m : Mk} {a : Addr} {u : HO} {fp f : Fp} (h : At F H m a u fp f) : ∀ b, f b ≤ fp b := fun b => by
  cases m with
  | own => have := h.2 b; omega
  | frz => have := h.2.2.1 b; omega
  | brw => have := h.2.1 b; omega
  | ro => have := h.2.1 b; omega
mutual
theorem Rep.go (k : Keep F F' H H' br) : ∀ (d : D) (v : V) (fp : Fp), (d.noBrw = false → br) → (∀ a o, 0 < fp a → H a = some o → H' a = some o) → Rep K cn F H d v fp → Rep K cn F' H' d v fp
  | .non, v, fp, _, _, h => h
  | .bl b, v, fp, _, _, h => h
  | .int i, v, fp, _, _, h => h
  | .str x, v, fp, _, _, h => h
  | .cls n, v, fp, _, _, h => h
  | .exc n fs, v, fp, hb, ho, ⟨a, od, vs, e, x, q, r⟩ => by
    refine ⟨a, od, vs, e, x, ?_, RepF.go k fs vs fp hb ho r⟩
    cases od with
    | none => exact q
    | some dx => exact k.t _ _ (fun z => z) q
  | .tup ds, v, fp, hb, ho, ⟨a, vs, e, q, r⟩ => ⟨a, vs, e, k.t _ _ (fun z => z) q, Reps.go k ds vs fp hb ho r⟩
  | .lst m ds, v, fp, hb, ho, ⟨a, vs, f, e, q, r⟩ => by
    refine ⟨a, vs, f, e, ?_, Reps.go k ds vs f (fun z => hb (by simp only [D.noBrw, D.chk, Bool.and_eq_false_iff]; exact .inr z)) (fun a o p => ho a o ?_) r⟩
    · rcases q with q | q
      · exact .inl (q.go k (fun z => hb (by simp [D.noBrw, D.chk, z])) ho)
      · exact .inr q
    · rcases q with q | q
      · exact Nat.lt_of_lt_of_le p (q.sub a)
      · have := q.2.2.1 a; omega
  | .dic m kd kvs, v, fp, hb, ho, ⟨a, f, e, q⟩ => by
    have hb1 : D.chkK (fun m => !m.isBrw) kvs = false → br := fun z => hb (by simp only [D.noBrw, D.chk, Bool.and_eq_false_iff]; exact .inr z)
    have hb2 : m.isBrw = true → br := fun z => hb (by simp [D.noBrw, D.chk, z])
    refine ⟨a, f, e, ?_⟩
    rcases q with ⟨hk9, kv, q, r⟩ | ⟨hk9, kv, q, r⟩
    · exact .inl ⟨hk9, kv, q.go k hb2 ho, RepK.go k kvs _ f hb1 (fun a o p => ho a o (Nat.lt_of_lt_of_le p (q.sub a))) r⟩
    · exact .inr ⟨hk9, kv, q.go k hb2 ho, RepK.go k kvs _ f hb1 (fun a o p => ho a o (Nat.lt_of_lt_of_le p (q.sub a))) r⟩
  | .ins m C fs, v, fp, hb, ho, ⟨a, c, dx, vs, f, e, hc, q, r⟩ => by
    have hb1 : D.chkF (fun m => !m.isBrw) fs = false → br := fun z => hb (by simp only [D.noBrw, D.chk, Bool.and_eq_false_iff]; exact .inr z)
    have hb2 : m.isBrw = true → br := fun z => hb (by simp [D.noBrw, D.chk, z])
    exact ⟨a, c, dx, vs, f, e, hc, q.go k hb2 ho, RepF.go k fs _ f hb1 (fun a o p => ho a o (Nat.lt_of_lt_of_le p (q.sub a))) r⟩
theorem Reps.go (k : Keep F F' H H' br) : ∀ (ds : List D) (vs : List V) (fp : Fp), (D.chkL (fun m => !m.isBrw) ds = false → br) → (∀ a o, 0 < fp a → H a = some o → H' a = some o) → Reps K cn F H ds vs fp → Reps K cn F' H' ds vs fp
  | [], vs, fp, _, _, h => h
  | d :: ds, vs, fp, hb, ho, ⟨v, r, f, g, e, s, h1, h2⟩ =>
    ⟨v, r, f, g, e, s, Rep.go k d v f (fun z => hb (by simp only [D.chkL, Bool.and_eq_false_iff]; exact .inl z)) (fun a o p => ho a o (by have := s a; omega)) h1,
      Reps.go k ds r g (fun z => hb (by simp only [D.chkL, Bool.and_eq_false_iff]; exact .inr z)) (fun a o p => ho a o (by have := s a; omega)) h2⟩
theorem RepK.go (k : Keep F F' H H' br) : ∀ (ds : List (Ky × D)) (vs : List (Ky × V)) (fp : Fp), (D.chkK (fun m => !m.isBrw) ds = false → br) → (∀ a o, 0 < fp a → H a = some o → H' a = some o) → RepK K cn F H ds vs fp → RepK K cn F' H' ds vs fp
  | [], vs, fp, _, _, h => h
  | (x, d) :: ds, vs, fp, hb, ho, ⟨v, r, f, g, e, s, h1, h2⟩ =>
    ⟨v, r, f, g, e, s, Rep.go k d v f (fun z => hb (by simp only [D.chkK, Bool.and_eq_false_iff]; exact .inl z)) (fun a o p => ho a o (by have := s a; omega)) h1,
      RepK.go k ds r g (fun z => hb (by simp only [D.chkK, Bool.and_eq_false_iff]; exact .inr z)) (fun a o p => ho a o (by have := s a; omega)) h2⟩
theorem RepF.go (k : Keep F F' H H' br) : ∀ (ds : List (Str × D)) (vs : List (Str × V)) (fp : Fp), (D.chkF (fun m => !m.isBrw) ds = false → br) → (∀ a o, 0 < fp a → H a = some o → H' a = some o) → RepF K cn F H ds vs fp → RepF K cn F' H' ds vs fp
  | [], vs, fp, _, _, h => h
  | (x, d) :: ds, vs, fp, hb, ho, ⟨v, r, f, g, e, s, h1, h2⟩ =>
    ⟨v, r, f, g, e, s, Rep.go k d v f (fun z => hb (by simp only [D.chkF, Bool.and_eq_false_iff]; exact .inl z)) (fun a o p => ho a o (by have := s a; omega)) h1,
      RepF.go k ds r g (fun z => hb (by simp only [D.chkF, Bool.and_eq_false_iff]; exact .inr z)) (fun a o p => ho a o (by have := s a; omega)) h2⟩
end
end
end DL

end
section
/-! DL2: representation lemmas, the state relation. -/
open PySem PySem.Spec PyProof.Rows L2
namespace DL
section
variable {K : PySem.W.Frag} {cn : Nm} {F F' : Addr → Prop} {H H' : Hp}

theorem At.alloc {m : Mk} {a : Addr} {u : HO} {fp f : Fp} (h : At F H m a u fp f) (hu : Mut (some u)) (hf : ∀ b, 0 < f b → Mut (H b)) : ∀ b, 0 < fp b → Mut (H b) := fun b hb => by
  cases m with
  | own =>
    have e := h.2 b
    by_cases hba : b = a
    · subst hba; rw [h.1]; exact hu
    · rw [if_neg hba] at e; exact hf b (by omega)
  | frz => have := h.2.2.2 b; omega
  | brw => have := h.2.2 b; omega
  | ro => have := h.2.2 b; omega
mutual
theorem Rep.alloc : ∀ (d : D) (v : V) (fp : Fp), Rep K cn F H d v fp → ∀ a, 0 < fp a → Mut (H a)
  | .non, v, fp, h => fun a p => by have := h.2 a; omega
  | .bl b, v, fp, h => fun a p => by have := h.2 a; omega
  | .int i, v, fp, h => fun a p => by have := h.2 a; omega
  | .str x, v, fp, h => fun a p => by have := h.2 a; omega
  | .cls n, v, fp, h => fun a p => by have := h.2 a; omega
  | .exc n fs, v, fp, ⟨a, od, vs, e, x, q, r⟩ => RepF.alloc fs vs fp r
  | .tup ds, v, fp, ⟨a, vs, e, q, r⟩ => Reps.alloc ds vs fp r
  | .lst m ds, v, fp, ⟨a, vs, f, e, q, r⟩ => by
    rcases q with q | q
    · exact q.alloc trivial (Reps.alloc ds vs f r)
    · intro b p; have := q.2.2.2 b; omega
  | .dic m kd kvs, v, fp, ⟨a, f, e, q⟩ => by
    rcases q with ⟨hk9, kv, q, r⟩ | ⟨hk9, kv, q, r⟩
    · exact q.alloc trivial (RepK.alloc kvs _ f r)
    · exact q.alloc trivial (RepK.alloc kvs _ f r)
  | .ins m C fs, v, fp, ⟨a, c, dx, vs, f, e, hc, q, r⟩ => q.alloc trivial (RepF.alloc fs vs f r)
theorem Reps.alloc : ∀ (ds : List D) (vs : List V) (fp : Fp), Reps K cn F H ds vs fp → ∀ a, 0 < fp a → Mut (H a)
  | [], vs, fp, h => fun a p => by have := h.2 a; omega
  | d :: ds, vs, fp, ⟨v, r, f, g, e, s, h1, h2⟩ => fun a p => by
    have := s a
    by_cases hf : 0 < f a
    · exact Rep.alloc d v f h1 a hf
    · exact Reps.alloc ds r g h2 a (by omega)
theorem RepK.alloc : ∀ (ds : List (Ky × D)) (vs : List (Ky × V)) (fp : Fp), RepK K cn F H ds vs fp → ∀ a, 0 < fp a → Mut (H a)
  | [], vs, fp, h => fun a p => by have := h.2 a; omega
  | (_, d) :: ds, vs, fp, ⟨v, r, f, g, e, s, h1, h2⟩ => fun a p => by
    have := s a
    by_cases hf : 0 < f a
    · exact Rep.alloc d v f h1 a hf
    · exact RepK.alloc ds r g h2 a (by omega)
theorem RepF.alloc : ∀ (ds : List (Str × D)) (vs : List (Str × V)) (fp : Fp), RepF K cn F H ds vs fp → ∀ a, 0 < fp a → Mut (H a)
  | [], vs, fp, h => fun a p => by have := h.2 a; omega
  | (_, d) :: ds, vs, fp, ⟨v, r, f, g, e, s, h1, h2⟩ => fun a p => by
    have := s a
    by_cases hf : 0 < f a
    · exact Rep.alloc d v f h1 a hf
    · exact RepF.alloc ds r g h2 a (by omega)
end

theorem At.zero {m : Mk} {a : Addr} {u : HO} {fp f : Fp} (h : At F H m a u fp f) (hm : m.isOwn = false) : ∀ b, fp b = 0 := by
  cases m with
  | own => cases hm
  | frz => exact h.2.2.2
  | brw => exact h.2.2
  | ro => exact h.2.2
theorem and_l {a b : Bool} (h : (a && b) = true) : a = true := (Bool.and_eq_true_iff.mp h).1
theorem and_r {a b : Bool} (h : (a && b) = true) : b = true := (Bool.and_eq_true_iff.mp h).2
theorem not_t {b : Bool} (h : (!b) = true) : b = false := by cases b <;> simp_all
mutual
theorem Rep.zero : ∀ (d : D) (v : V) (fp : Fp), Rep K cn F H d v fp → d.noOwn = true → ∀ a, fp a = 0
  | .non, v, fp, h, _ => h.2
  | .bl b, v, fp, h, _ => h.2
  | .int i, v, fp, h, _ => h.2
  | .str x, v, fp, h, _ => h.2
  | .cls n, v, fp, h, _ => h.2
  | .exc n fs, v, fp, ⟨a, od, vs, e, x, q, r⟩, c => RepF.zero fs vs fp r c
  | .tup ds, v, fp, ⟨a, vs, e, q, r⟩, c => Reps.zero ds vs fp r c
  | .lst m ds, v, fp, ⟨a, vs, f, e, q, r⟩, c => by
    rcases q with q | q
    · exact q.zero (not_t (and_l c))
    · exact q.2.2.2
  | .dic m kd kvs, v, fp, ⟨a, f, e, q⟩, c => by
    rcases q with ⟨hk9, kv, q, r⟩ | ⟨hk9, kv, q, r⟩
    · exact q.zero (not_t (and_l c))
    · exact q.zero (not_t (and_l c))
  | .ins m C fs, v, fp, ⟨a, c, dx, vs, f, e, hc, q, r⟩, z => q.zero (not_t (and_l z))
theorem Reps.zero : ∀ (ds : List D) (vs : List V) (fp : Fp), Reps K cn F H ds vs fp → D.chkL (fun m => !m.isOwn) ds = true → ∀ a, fp a = 0
  | [], vs, fp, h, _ => h.2
  | d :: ds, vs, fp, ⟨v, r, f, g, e, s, h1, h2⟩, c => fun a => by
    have := s a
    have := Rep.zero d v f h1 (and_l c) a
    have := Reps.zero ds r g h2 (and_r c) a
    omega
theorem RepF.zero : ∀ (ds : List (Str × D)) (vs : List (Str × V)) (fp : Fp), RepF K cn F H ds vs fp → D.chkF (fun m => !m.isOwn) ds = true → ∀ a, fp a = 0
  | [], vs, fp, h, _ => h.2
  | (_, d) :: ds, vs, fp, ⟨v, r, f, g, e, s, h1, h2⟩, c => fun a => by
    have := s a
    have := Rep.zero d v f h1 (and_l c) a
    have := RepF.zero ds r g h2 (and_r c) a
    omega
end

/-- an At of another mark, frozen or borrowed -/
theorem At.frz {m : Mk} {a : Addr} {u : HO} {fp f f0 f1 : Fp} (h : At F H m a u fp f) (hF : ∀ a, F a → F' a) (ho : ∀ a, 0 < fp a → F' a) (hb : m.isBrw = true → ∀ a, H a ≠ none → F' a) (z0 : ∀ b, f0 b = 0) (z1 : ∀ b, f1 b = 0) : At F' H (fz m) a u f0 f1 := by
  cases m with
  | own => exact ⟨ho a (by have := h.2 a; simp at this; omega), h.1, z1, z0⟩
  | frz => exact ⟨hF a h.1, h.2.1, z1, z0⟩
  | brw => exact ⟨hb rfl a (by rw [h.1]; exact fun z => nomatch z), h.1, z1, z0⟩
  | ro => exact ⟨h.1, z1, z0⟩
theorem At.peek {m : Mk} {a : Addr} {u : HO} {fp f f0 f1 : Fp} (h : At F H m a u fp f) (z0 : ∀ b, f0 b = 0) (z1 : ∀ b, f1 b = 0) : At F H (pk m) a u f0 f1 := by
  cases m with
  | own => exact ⟨h.1, z1, z0⟩
  | frz => exact ⟨h.1, h.2.1, z1, z0⟩
  | brw => exact ⟨h.1, z1, z0⟩
  | ro => exact ⟨h.1, z1, z0⟩
theorem brw_or {p q : Bool} {X : Prop} (h : (p && q) = false → X) : (p = false → X) ∧ (q = false → X) := ⟨fun z => h (by rw [z]; rfl), fun z => h (by rw [z, Bool.and_false])⟩
theorem not_f {b : Bool} (h : b = true) : (!b) = false := by rw [h]; rfl
mutual
theorem Rep.frz (hF : ∀ a, F a → F' a) : ∀ (d : D) (v : V) (fp : Fp), Rep K cn F H d v fp → (∀ a, 0 < fp a → F' a) → (d.noBrw = false → ∀ a, H a ≠ none → F' a) → Rep K cn F' H d.frz v fp0
  | .non, v, fp, h, _, _ => ⟨h.1, fun _ => rfl⟩
  | .bl b, v, fp, h, _, _ => ⟨h.1, fun _ => rfl⟩
  | .int i, v, fp, h, _, _ => ⟨h.1, fun _ => rfl⟩
  | .str x, v, fp, h, _, _ => ⟨h.1, fun _ => rfl⟩
  | .cls n, v, fp, h, _, _ => ⟨h.1, fun _ => rfl⟩
  | .exc n fs, v, fp, ⟨a, od, vs, e, x, q, r⟩, o, b => ⟨a, od, vs, e, x, q, RepF.frz hF fs vs fp r o b⟩
  | .tup ds, v, fp, ⟨a, vs, e, q, r⟩, o, b => ⟨a, vs, e, q, Reps.frz hF ds vs fp r o b⟩
  | .lst m ds, v, fp, ⟨a, vs, f, e, q, r⟩, o, b => by
    obtain ⟨b1, b2⟩ := brw_or b
    refine ⟨a, vs, fp0, e, ?_, Reps.frz hF ds vs f r (fun a p => o a (Nat.lt_of_lt_of_le p ?_)) b2⟩
    · rcases q with q | q
      · exact .inl (q.frz hF o (fun z => b1 (not_f z)) (fun _ => rfl) (fun _ => rfl))
      · exact .inr ⟨by rw [q.1]; rfl, q.2.1, fun _ => rfl, fun _ => rfl⟩
    · rcases q with q | q
      · exact q.sub a
      · have := q.2.2.1 a; omega
  | .dic m kd kvs, v, fp, ⟨a, f, e, q⟩, o, b => by
    obtain ⟨b1, b2⟩ := brw_or b
    refine ⟨a, fp0, e, ?_⟩
    rcases q with ⟨hk9, kv, q, r⟩ | ⟨hk9, kv, q, r⟩
    · exact .inl ⟨hk9, kv, q.frz hF o (fun z => b1 (not_f z)) (fun _ => rfl) (fun _ => rfl), RepK.frz hF kvs _ f r (fun a p => o a (Nat.lt_of_lt_of_le p (q.sub a))) b2⟩
    · exact .inr ⟨hk9, kv, q.frz hF o (fun z => b1 (not_f z)) (fun _ => rfl) (fun _ => rfl), RepK.frz hF kvs _ f r (fun a p => o a (Nat.lt_of_lt_of_le p (q.sub a))) b2⟩
  | .ins m C fs, v, fp, ⟨a, c, dx, vs, f, e, hc, q, r⟩, o, b => by
    obtain ⟨b1, b2⟩ := brw_or b
    exact ⟨a, c, dx, vs, fp0, e, hc, q.frz hF o (fun z => b1 (not_f z)) (fun _ => rfl) (fun _ => rfl), RepF.frz hF fs vs f r (fun a p => o a (Nat.lt_of_lt_of_le p (q.sub a))) b2⟩
theorem Reps.frz (hF : ∀ a, F a → F' a) : ∀ (ds : List D) (vs : List V) (fp : Fp), Reps K cn F H ds vs fp → (∀ a, 0 < fp a → F' a) → (D.chkL (fun m => !m.isBrw) ds = false → ∀ a, H a ≠ none → F' a) → Reps K cn F' H (D.remL fz ds) vs fp0
  | [], vs, fp, h, _, _ => ⟨h.1, fun _ => rfl⟩
  | d :: ds, vs, fp, ⟨v, r, f, g, e, s, h1, h2⟩, o, b => by
    obtain ⟨b1, b2⟩ := brw_or b
    exact ⟨v, r, fp0, fp0, e, fun _ => rfl, Rep.frz hF d v f h1 (fun a p => o a (by have := s a; omega)) b1, Reps.frz hF ds r g h2 (fun a p => o a (by have := s a; omega)) b2⟩
theorem RepK.frz (hF : ∀ a, F a → F' a) : ∀ (ds : List (Ky × D)) (vs : List (Ky × V)) (fp : Fp), RepK K cn F H ds vs fp → (∀ a, 0 < fp a → F' a) → (D.chkK (fun m => !m.isBrw) ds = false → ∀ a, H a ≠ none → F' a) → RepK K cn F' H (D.remK fz ds) vs fp0
  | [], vs, fp, h, _, _ => ⟨h.1, fun _ => rfl⟩
  | (k, d) :: ds, vs, fp, ⟨v, r, f, g, e, s, h1, h2⟩, o, b => by
    obtain ⟨b1, b2⟩ := brw_or b
    exact ⟨v, r, fp0, fp0, e, fun _ => rfl, Rep.frz hF d v f h1 (fun a p => o a (by have := s a; omega)) b1, RepK.frz hF ds r g h2 (fun a p => o a (by have := s a; omega)) b2⟩
theorem RepF.frz (hF : ∀ a, F a → F' a) : ∀ (ds : List (Str × D)) (vs : List (Str × V)) (fp : Fp), RepF K cn F H ds vs fp → (∀ a, 0 < fp a → F' a) → (D.chkF (fun m => !m.isBrw) ds = false → ∀ a, H a ≠ none → F' a) → RepF K cn F' H (D.remF fz ds) vs fp0
  | [], vs, fp, h, _, _ => ⟨h.1, fun _ => rfl⟩
  | (k, d) :: ds, vs, fp, ⟨v, r, f, g, e, s, h1, h2⟩, o, b => by
    obtain ⟨b1, b2⟩ := brw_or b
    exact ⟨v, r, fp0, fp0, e, fun _ => rfl, Rep.frz hF d v f h1 (fun a p => o a (by have := s a; omega)) b1, RepF.frz hF ds r g h2 (fun a p => o a (by have := s a; omega)) b2⟩
end
mutual
theorem Rep.peek : ∀ (d : D) (v : V) (fp : Fp), Rep K cn F H d v fp → Rep K cn F H d.peek v fp0
  | .non, v, fp, h => ⟨h.1, fun _ => rfl⟩
  | .bl b, v, fp, h => ⟨h.1, fun _ => rfl⟩
  | .int i, v, fp, h => ⟨h.1, fun _ => rfl⟩
  | .str x, v, fp, h => ⟨h.1, fun _ => rfl⟩
  | .cls n, v, fp, h => ⟨h.1, fun _ => rfl⟩
  | .exc n fs, v, fp, ⟨a, od, vs, e, x, q, r⟩ => ⟨a, od, vs, e, x, q, RepF.peek fs vs fp r⟩
  | .tup ds, v, fp, ⟨a, vs, e, q, r⟩ => ⟨a, vs, e, q, Reps.peek ds vs fp r⟩
  | .lst m ds, v, fp, ⟨a, vs, f, e, q, r⟩ => by
    refine ⟨a, vs, fp0, e, ?_, Reps.peek ds vs f r⟩
    rcases q with q | q
    · exact .inl (q.peek (fun _ => rfl) (fun _ => rfl))
    · exact .inr ⟨by rw [q.1]; rfl, q.2.1, fun _ => rfl, fun _ => rfl⟩
  | .dic m kd kvs, v, fp, ⟨a, f, e, q⟩ => by
    refine ⟨a, fp0, e, ?_⟩
    rcases q with ⟨hk9, kv, q, r⟩ | ⟨hk9, kv, q, r⟩
    · exact .inl ⟨hk9, kv, q.peek (fun _ => rfl) (fun _ => rfl), RepK.peek kvs _ f r⟩
    · exact .inr ⟨hk9, kv, q.peek (fun _ => rfl) (fun _ => rfl), RepK.peek kvs _ f r⟩
  | .ins m C fs, v, fp, ⟨a, c, dx, vs, f, e, hc, q, r⟩ => ⟨a, c, dx, vs, fp0, e, hc, q.peek (fun _ => rfl) (fun _ => rfl), RepF.peek fs vs f r⟩
theorem Reps.peek : ∀ (ds : List D) (vs : List V) (fp : Fp), Reps K cn F H ds vs fp → Reps K cn F H (D.remL pk ds) vs fp0
  | [], vs, fp, h => ⟨h.1, fun _ => rfl⟩
  | d :: ds, vs, fp, ⟨v, r, f, g, e, s, h1, h2⟩ => ⟨v, r, fp0, fp0, e, fun _ => rfl, Rep.peek d v f h1, Reps.peek ds r g h2⟩
theorem RepK.peek : ∀ (ds : List (Ky × D)) (vs : List (Ky × V)) (fp : Fp), RepK K cn F H ds vs fp → RepK K cn F H (D.remK pk ds) vs fp0
  | [], vs, fp, h => ⟨h.1, fun _ => rfl⟩
  | (k, d) :: ds, vs, fp, ⟨v, r, f, g, e, s, h1, h2⟩ => ⟨v, r, fp0, fp0, e, fun _ => rfl, Rep.peek d v f h1, RepK.peek ds r g h2⟩
theorem RepF.peek : ∀ (ds : List (Str × D)) (vs : List (Str × V)) (fp : Fp), RepF K cn F H ds vs fp → RepF K cn F H (D.remF pk ds) vs fp0
  | [], vs, fp, h => ⟨h.1, fun _ => rfl⟩
  | (k, d) :: ds, vs, fp, ⟨v, r, f, g, e, s, h1, h2⟩ => ⟨v, r, fp0, fp0, e, fun _ => rfl, Rep.peek d v f h1, RepF.peek ds r g h2⟩
end

/-! ### lists of represented things -/
theorem Reps.len : ∀ {ds : List D} {vs : List V} {fp : Fp}, Reps K cn F H ds vs fp → ds.length = vs.length
  | [], vs, fp, h => by rw [h.1]; rfl
  | d :: ds, vs, fp, ⟨v, r, f, g, e, s, h1, h2⟩ => by rw [e, List.length_cons, List.length_cons, Reps.len h2]
theorem Reps.get : ∀ {ds : List D} {vs : List V} {fp : Fp} {i : Nat} {d : D}, Reps K cn F H ds vs fp → ds[i]? = some d → ∃ v f, vs[i]? = some v ∧ Rep K cn F H d v f ∧ ∀ a, f a ≤ fp a
  | [], _, _, _, _, _, e => by simp at e
  | d :: ds, vs, fp, 0, d', ⟨v, r, f, g, e, s, h1, h2⟩, h => by
    simp at h; subst h; subst e
    exact ⟨v, f, rfl, h1, fun a => by have := s a; omega⟩
  | d :: ds, vs, fp, i + 1, d', ⟨v, r, f, g, e, s, h1, h2⟩, h => by
    subst e
    obtain ⟨v', f', e', h', l⟩ := Reps.get h2 (i := i) (by simpa using h)
    exact ⟨v', f', by simpa using e', h', fun a => by have := s a; have := l a; omega⟩
theorem Reps.app : ∀ {ds es : List D} {vs ws : List V} {f g fp : Fp}, Reps K cn F H ds vs f → Reps K cn F H es ws g → (∀ a, fp a = f a + g a) → Reps K cn F H (ds ++ es) (vs ++ ws) fp
  | [], es, vs, ws, f, g, fp, h1, h2, s => by
    rw [h1.1]
    show Reps K cn F H es ws fp
    have : fp = g := funext fun a => by have := s a; have := h1.2 a; omega
    rw [this]; exact h2
  | d :: ds, es, vs, ws, f, g, fp, ⟨v, r, f1, g1, e, s1, h1, h3⟩, h2, s => by
    subst e
    exact ⟨v, r ++ ws, f1, fun a => g1 a + g a, rfl, fun a => by have := s a; have := s1 a; show fp a = f1 a + (g1 a + g a); omega, h1, Reps.app h3 h2 fun _ => rfl⟩
theorem Reps.split : ∀ {ds es : List D} {vs : List V} {fp : Fp}, Reps K cn F H (ds ++ es) vs fp → ∃ v1 v2 f g, vs = v1 ++ v2 ∧ (∀ a, fp a = f a + g a) ∧ Reps K cn F H ds v1 f ∧ Reps K cn F H es v2 g
  | [], es, vs, fp, h => ⟨[], vs, fp0, fp, rfl, fun a => by show fp a = 0 + fp a; omega, ⟨rfl, fun _ => rfl⟩, h⟩
  | d :: ds, es, vs, fp, ⟨v, r, f1, g1, e, s1, h1, h3⟩ => by
    obtain ⟨v1, v2, f, g, e2, s2, h4, h5⟩ := Reps.split h3
    subst e e2
    exact ⟨v :: v1, v2, fun a => f1 a + f a, g, rfl, fun a => by have := s1 a; have := s2 a; show _ = f1 a + f a + g a; omega, ⟨v, v1, f1, f, rfl, fun _ => rfl, h1, h4⟩, h5⟩
theorem Reps.one {d : D} {v : V} {f : Fp} (h : Rep K cn F H d v f) : Reps K cn F H [d] [v] f := ⟨v, [], f, fp0, rfl, fun a => by show f a = f a + 0; omega, h, rfl, fun _ => rfl⟩
theorem Reps.set : ∀ {ds : List D} {vs : List V} {fp : Fp} {i : Nat} {d : D}, Reps K cn F H ds vs fp → ds[i]? = some d → ∃ (v : V) (f g : Fp), vs[i]? = some v ∧ (∀ a, fp a = f a + g a) ∧ Rep K cn F H d v f ∧
    ∀ d' v' f' F' H' br, Keep F F' H H' br → (D.chkL (fun m => !m.isBrw) ds = false → br) → (∀ a o, 0 < g a → H a = some o → H' a = some o) → Rep K cn F' H' d' v' f' → Reps K cn F' H' (ds.set i d') (vs.set i v') (fun a => f' a + g a)
  | [], _, _, _, _, _, e => by simp at e
  | d :: ds, vs, fp, 0, d', ⟨v, r, f, g, e, s, h1, h2⟩, h => by
    simp at h; subst h; subst e
    refine ⟨v, f, g, rfl, s, h1, fun d' v' f' F' H' br k hb ho hr => ⟨v', r, f', g, rfl, fun _ => rfl, hr, Reps.go k ds r g (fun z => hb ?_) ho h2⟩⟩
    show (_ && D.chkL _ ds) = false
    rw [z, Bool.and_false]
  | d :: ds, vs, fp, i + 1, d', ⟨v, r, f, g, e, s, h1, h2⟩, h => by
    subst e
    obtain ⟨v', f', g', e', s', h', st⟩ := Reps.set h2 (i := i) (by simpa using h)
    refine ⟨v', f', fun a => f a + g' a, by simpa using e', fun a => by have := s a; have := s' a; show _ = f' a + (f a + g' a); omega, h', fun d' v'' f'' F' H' br k hb ho hr => ?_⟩
    refine ⟨v, r.set i v'', f, fun a => f'' a + g' a, rfl, fun a => by show f'' a + (f a + g' a) = f a + (f'' a + g' a); omega, Rep.go k d v f (fun z => hb ?_) (fun a o p => ho a o (by show 0 < f a + g' a; omega)) h1, st d' v'' f'' F' H' br k (fun z => hb ?_) (fun a o p => ho a o (by show 0 < f a + g' a; omega)) hr⟩
    · show (D.chk _ d && _) = false
      rw [show D.chk (fun m => !m.isBrw) d = false from z, Bool.false_and]
    · show (_ && D.chkL _ ds) = false
      rw [z, Bool.and_false]
theorem chkL_get (p : Mk → Bool) : ∀ {ds : List D} {i : Nat} {d : D}, D.chkL p ds = true → ds[i]? = some d → D.chk p d = true
  | [], _, _, _, e => by simp at e
  | d :: ds, 0, d', h, e => by simp at e; subst e; exact and_l h
  | d :: ds, i + 1, d', h, e => chkL_get p (and_r h) (i := i) (by simpa using e)
end
end DL

end
section
/-! DL3: the state relation and its moves. -/
open PySem PySem.Spec PyProof.Rows L2
namespace DL
abbrev Env := List (Option D)
def getS : Env → Nat → Option D
  | [], _ => none
  | x :: _, 0 => x
  | _ :: r, n + 1 => getS r n
def setS : Env → Nat → Option D → Env
  | [], _, _ => []
  | _ :: r, 0, d => d :: r
  | x :: r, n + 1, d => x :: setS r n d
structure Ctx where
  K : PySem.W.Frag
  cn : Nm
  H0 : Hp
  F0 : Addr → Prop
  L0 : Addr → Prop
  own : Nat → Bool
  lv : Nat → Option V
abbrev Hold := List (V × D)
section
variable (K : PySem.W.Frag) (cn : Nm) (F : Addr → Prop) (H : Hp)
def Slots : Env → L2.St → Fp → Prop
  | [], σ, fp => σ = [] ∧ ∀ a, fp a = 0
  | none :: ρ, σ, fp => ∃ x r, σ = x :: r ∧ Slots ρ r fp
  | some d :: ρ, σ, fp => ∃ v r f g, σ = some v :: r ∧ (∀ a, fp a = f a + g a) ∧ d.noBrw = true ∧ Rep K cn F H d v f ∧ Slots ρ r g
end
def Ext (H H' : Hp) : Prop := ∀ a o, H a = some o → H' a = some o
theorem Ext.refl {H : Hp} : Ext H H := fun _ _ h => h
theorem Ext.trans {H H1 H2 : Hp} (a : Ext H H1) (b : Ext H1 H2) : Ext H H2 := fun x o h => b x o (a x o h)
theorem Ext.upd {H : Hp} {p : Addr} {o : HO} (h : H p = none) : Ext H (upd H p o) := fun b x e => by
  rw [upd_ne (ne_of_none e h)]; exact e
theorem Ext.keep {F : Addr → Prop} {H H' : Hp} (e : Ext H H') : Keep F F H H' True where
  sub := fun _ h => h
  t := fun a o _ h => e a o h
  f := fun a u _ r => e a u r
  b := fun _ a u r => e a u r
theorem Keep.upd {F : Addr → Prop} {H : Hp} {a : Addr} {o : HO} (m : Mut (H a)) (n : ¬ F a) : Keep F F H (L2.upd H a o) False where
  sub := fun _ h => h
  t := fun b x hx h => by
    rw [upd_ne]; exact h
    rintro rfl; rw [h] at m; exact hx m
  f := fun b u hF r => by
    have hne : b ≠ a := by rintro rfl; exact n hF
    rw [upd_ne hne]; exact r
  b := fun z => z.elim
theorem Keep.more {F F' : Addr → Prop} {H : Hp} (s : ∀ a, F a → F' a) : Keep F F' H H True where
  sub := s
  t := fun _ _ _ h => h
  f := fun _ _ _ r => r
  b := fun _ _ _ r => r

structure SIx (Γ : Ctx) (F : Addr → Prop) (fh fs : Fp) (hold : Hold) (ρ : Env) (σ : L2.St) (H : Hp) : Prop where
  hh : Reps Γ.K Γ.cn F H (hold.map (·.2)) (hold.map (·.1)) fh
  ss : Slots Γ.K Γ.cn F H ρ σ fs
  nd : ∀ a, fh a + fs a ≤ 1
  ow : ∀ a, 0 < fh a + fs a → ¬ F a ∧ (Γ.H0 a = none ∨ Γ.L0 a)
  mo : ∀ i d, getS ρ i = some d → Γ.own i = false → d.noOwn = true
  F1 : ∀ a, Γ.F0 a → F a
  F2 : ∀ a, F a → Γ.F0 a ∨ Γ.H0 a = none ∨ Γ.L0 a
  al : ∀ a, F a → H a ≠ none
  kp : ∀ a o, Γ.H0 a = some o → ¬ Γ.L0 a → H a = some o
  dm : ∀ a, Γ.H0 a ≠ none → H a ≠ none
  lk : ∀ i v, Γ.lv i = some v → σ[i]? = some (some v)
def SI (Γ : Ctx) (hold : Hold) (ρ : Env) (σ : L2.St) (H : Hp) : Prop := ∃ F fh fs, SIx Γ F fh fs hold ρ σ H
def Hold.noBrw (hold : Hold) : Prop := D.chkL (fun m => !m.isBrw) (hold.map (·.2)) = true

section
variable {Γ : Ctx} {F F' : Addr → Prop} {fh fs fh' fs' : Fp} {hold hold' : Hold} {ρ ρ' : Env} {σ σ' : L2.St} {H H' : Hp}
theorem Slots.alloc : ∀ {ρ : Env} {σ : L2.St} {fp : Fp}, Slots Γ.K Γ.cn F H ρ σ fp → ∀ a, 0 < fp a → Mut (H a)
  | [], σ, fp, h => fun a p => by have := h.2 a; omega
  | none :: ρ, σ, fp, ⟨x, r, e, h⟩ => Slots.alloc h
  | some d :: ρ, σ, fp, ⟨v, r, f, g, e, s, nb, h1, h2⟩ => fun a p => by
    have := s a
    by_cases hf : 0 < f a
    · exact Rep.alloc d v f h1 a hf
    · exact Slots.alloc h2 a (by omega)
theorem Slots.go {br : Prop} (k : Keep F F' H H' br) : ∀ {ρ : Env} {σ : L2.St} {fp : Fp}, (∀ a o, 0 < fp a → H a = some o → H' a = some o) → Slots Γ.K Γ.cn F H ρ σ fp → Slots Γ.K Γ.cn F' H' ρ σ fp
  | [], σ, fp, _, h => h
  | none :: ρ, σ, fp, ho, ⟨x, r, e, h⟩ => ⟨x, r, e, Slots.go k ho h⟩
  | some d :: ρ, σ, fp, ho, ⟨v, r, f, g, e, s, nb, h1, h2⟩ =>
    ⟨v, r, f, g, e, s, nb, Rep.go k d v f (fun z => by rw [nb] at z; cases z) (fun a o p => ho a o (by have := s a; omega)) h1, Slots.go k (fun a o p => ho a o (by have := s a; omega)) h2⟩
theorem Slots.get : ∀ {ρ : Env} {σ : L2.St} {fp : Fp} {i : Nat} {d : D}, Slots Γ.K Γ.cn F H ρ σ fp → getS ρ i = some d → ∃ v f, σ[i]? = some (some v) ∧ Rep Γ.K Γ.cn F H d v f ∧ d.noBrw = true ∧ ∀ a, f a ≤ fp a
  | [], _, _, _, _, _, e => by simp [getS] at e
  | none :: ρ, σ, fp, 0, d, _, e => by simp [getS] at e
  | none :: ρ, σ, fp, i + 1, d, ⟨x, r, e1, h⟩, e => by
    obtain ⟨v, f, a, b, nb, c⟩ := Slots.get h (i := i) e
    subst e1
    exact ⟨v, f, by simpa using a, b, nb, c⟩
  | some d' :: ρ, σ, fp, 0, d, ⟨v, r, f, g, e1, s, nb, h1, h2⟩, e => by
    simp [getS] at e; subst e; subst e1
    exact ⟨v, f, rfl, h1, nb, fun a => by have := s a; omega⟩
  | some d' :: ρ, σ, fp, i + 1, d, ⟨v, r, f, g, e1, s, nb, h1, h2⟩, e => by
    obtain ⟨v', f', a, b, nb', c⟩ := Slots.get h2 (i := i) e
    subst e1
    exact ⟨v', f', by simpa using a, b, nb', fun a => by have := s a; have := c a; omega⟩
/-- a slot taken out -/
theorem Slots.take : ∀ {ρ : Env} {σ : L2.St} {fp : Fp} {i : Nat} {d : D}, Slots Γ.K Γ.cn F H ρ σ fp → getS ρ i = some d → ∃ v f g, σ[i]? = some (some v) ∧ Rep Γ.K Γ.cn F H d v f ∧ d.noBrw = true ∧ (∀ a, fp a = f a + g a) ∧ Slots Γ.K Γ.cn F H (setS ρ i none) σ g
  | [], _, _, _, _, _, e => by simp [getS] at e
  | none :: ρ, σ, fp, 0, d, _, e => by simp [getS] at e
  | none :: ρ, σ, fp, i + 1, d, ⟨x, r, e1, h⟩, e => by
    obtain ⟨v, f, g, a, b, nb, c, h'⟩ := Slots.take h (i := i) e
    subst e1
    exact ⟨v, f, g, by simpa using a, b, nb, c, x, r, rfl, h'⟩
  | some d' :: ρ, σ, fp, 0, d, ⟨v, r, f, g, e1, s, nb, h1, h2⟩, e => by
    simp [getS] at e; subst e; subst e1
    exact ⟨v, f, g, rfl, h1, nb, s, some v, r, rfl, h2⟩
  | some d' :: ρ, σ, fp, i + 1, d, ⟨v, r, f, g, e1, s, nb, h1, h2⟩, e => by
    obtain ⟨v', f', g', a, b, nb', c, h'⟩ := Slots.take h2 (i := i) e
    subst e1
    exact ⟨v', f', fun a => f a + g' a, by simpa using a, b, nb', fun a => by have := s a; have := c a; show fp a = f' a + (f a + g' a); omega, v, r, f, g', rfl, fun _ => rfl, nb, h1, h'⟩
/-- a slot forgotten, with any V -/
theorem Slots.drop : ∀ {ρ : Env} {σ : L2.St} {fp : Fp} (i : Nat) (x : Option V), Slots Γ.K Γ.cn F H ρ σ fp → ∃ g, (∀ a, g a ≤ fp a) ∧ Slots Γ.K Γ.cn F H (setS ρ i none) (σ.set i x) g
  | [], σ, fp, i, x, h => ⟨fp, fun _ => Nat.le_refl _, by rw [h.1]; exact ⟨rfl, h.2⟩⟩
  | none :: ρ, σ, fp, 0, x, ⟨y, r, e, h⟩ => ⟨fp, fun _ => Nat.le_refl _, by subst e; exact ⟨x, r, rfl, h⟩⟩
  | none :: ρ, σ, fp, i + 1, x, ⟨y, r, e, h⟩ => by
    obtain ⟨g, l, h'⟩ := Slots.drop i x h
    subst e
    exact ⟨g, l, y, r.set i x, rfl, h'⟩
  | some d :: ρ, σ, fp, 0, x, ⟨v, r, f, g, e, s, nb, h1, h2⟩ => by
    subst e
    exact ⟨g, fun a => by have := s a; omega, x, r, rfl, h2⟩
  | some d :: ρ, σ, fp, i + 1, x, ⟨v, r, f, g, e, s, nb, h1, h2⟩ => by
    obtain ⟨g', l, h'⟩ := Slots.drop i x h2
    subst e
    exact ⟨fun a => f a + g' a, fun a => by have := s a; have := l a; show f a + g' a ≤ fp a; omega, v, r.set i x, f, g', rfl, fun _ => rfl, nb, h1, h'⟩
/-- a slot filled -/
theorem Slots.put : ∀ {ρ : Env} {σ : L2.St} {fp f fp' : Fp} (i : Nat) (v : V) (d : D), Slots Γ.K Γ.cn F H ρ σ fp → i < ρ.length → d.noBrw = true → Rep Γ.K Γ.cn F H d v f → ∃ g, (∀ a, g a ≤ fp a + f a) ∧ Slots Γ.K Γ.cn F H (setS ρ i (some d)) (σ.set i (some v)) g
  | [], σ, fp, f, fp', i, v, d, h, l, nb, r => absurd l (Nat.not_lt_zero _)
  | none :: ρ, σ, fp, f, fp', 0, v, d, ⟨y, r, e, h⟩, l, nb, hr => by
    subst e
    exact ⟨fun a => f a + fp a, fun a => by show f a + fp a ≤ fp a + f a; omega, v, r, f, fp, rfl, fun _ => rfl, nb, hr, h⟩
  | none :: ρ, σ, fp, f, fp', i + 1, v, d, ⟨y, r, e, h⟩, l, nb, hr => by
    obtain ⟨g, l', h'⟩ := Slots.put (fp' := fp) i v d h (by simpa using l) nb hr
    subst e
    exact ⟨g, l', y, r.set i (some v), rfl, h'⟩
  | some d' :: ρ, σ, fp, f, fp', 0, v, d, ⟨v', r, f', g, e, s, nb', h1, h2⟩, l, nb, hr => by
    subst e
    exact ⟨fun a => f a + g a, fun a => by have := s a; show f a + g a ≤ fp a + f a; omega, v, r, f, g, rfl, fun _ => rfl, nb, hr, h2⟩
  | some d' :: ρ, σ, fp, f, fp', i + 1, v, d, ⟨v', r, f', g, e, s, nb', h1, h2⟩, l, nb, hr => by
    obtain ⟨g', l', h'⟩ := Slots.put (fp' := fp) i v d h2 (by simpa using l) nb hr
    subst e
    exact ⟨fun a => f' a + g' a, fun a => by have := s a; have := l' a; show f' a + g' a ≤ fp a + f a; omega, v', r.set i (some v), f', g', rfl, fun _ => rfl, nb', h1, h'⟩
theorem Slots.len : ∀ {ρ : Env} {σ : L2.St} {fp : Fp}, Slots Γ.K Γ.cn F H ρ σ fp → ρ.length = σ.length
  | [], σ, fp, h => by rw [h.1]; rfl
  | none :: ρ, σ, fp, ⟨x, r, e, h⟩ => by rw [e, List.length_cons, List.length_cons, Slots.len h]
  | some d :: ρ, σ, fp, ⟨v, r, f, g, e, s, nb, h1, h2⟩ => by rw [e, List.length_cons, List.length_cons, Slots.len h2]
theorem getS_set : ∀ {ρ : Env} {i j : Nat} {x : Option D} {d : D}, getS (setS ρ i x) j = some d → (i = j ∧ x = some d) ∨ (i ≠ j ∧ getS ρ j = some d)
  | [], _, _, _, _, h => by simp [setS, getS] at h
  | y :: ρ, 0, 0, x, d, h => .inl ⟨rfl, h⟩
  | y :: ρ, 0, j + 1, x, d, h => .inr ⟨by simp, h⟩
  | y :: ρ, i + 1, 0, x, d, h => .inr ⟨by simp, h⟩
  | y :: ρ, i + 1, j + 1, x, d, h => by
    rcases getS_set (ρ := ρ) (i := i) (j := j) h with ⟨a, b⟩ | ⟨a, b⟩
    · exact .inl ⟨by rw [a], b⟩
    · exact .inr ⟨by omega, b⟩
theorem setS_length : ∀ (ρ : Env) (i : Nat) (x : Option D), (setS ρ i x).length = ρ.length
  | [], _, _ => rfl
  | y :: ρ, 0, x => rfl
  | y :: ρ, i + 1, x => by show (setS ρ i x).length + 1 = ρ.length + 1; rw [setS_length]

/-- the same heap: other shares -/
theorem SIx.re (s : SIx Γ F fh fs hold ρ σ H) (hh : Reps Γ.K Γ.cn F H (hold'.map (·.2)) (hold'.map (·.1)) fh') (ss : Slots Γ.K Γ.cn F H ρ' σ' fs') (le : ∀ a, fh' a + fs' a ≤ fh a + fs a)
    (mk : ∀ i d, getS ρ' i = some d → Γ.own i = false → d.noOwn = true) (lk : ∀ i v, Γ.lv i = some v → σ'[i]? = some (some v) := by exact s.lk) : SIx Γ F fh' fs' hold' ρ' σ' H :=
  ⟨hh, ss, fun a => Nat.le_trans (le a) (s.nd a), fun a p => s.ow a (Nat.lt_of_lt_of_le p (le a)), mk, s.F1, s.F2, s.al, s.kp, s.dm, lk⟩
/-- some are frozen -/
theorem SIx.ice (s : SIx Γ F fh fs hold ρ σ H) {f : Fp} (hF : ∀ a, F' a → F a ∨ 0 < f a) (hF' : ∀ a, F a → F' a) (hh : Reps Γ.K Γ.cn F' H (hold'.map (·.2)) (hold'.map (·.1)) fh') (ss : Slots Γ.K Γ.cn F' H ρ' σ' fs') (le : ∀ a, fh' a + fs' a + f a ≤ fh a + fs a)
    (mk : ∀ i d, getS ρ' i = some d → Γ.own i = false → d.noOwn = true) (hm : ∀ a, 0 < f a → H a ≠ none) (lk : ∀ i v, Γ.lv i = some v → σ'[i]? = some (some v) := by exact s.lk) : SIx Γ F' fh' fs' hold' ρ' σ' H :=
  ⟨hh, ss, fun a => by have := le a; have := s.nd a; omega, fun a p => by
    have l := le a
    have nd := s.nd a
    obtain ⟨n, o⟩ := s.ow a (by omega)
    exact ⟨fun z => (hF a z).elim n fun q => by omega, o⟩, mk, fun a h => hF' a (s.F1 a h), fun a h => by
    rcases hF a h with q | q
    · exact s.F2 a q
    · have l := le a
      exact .inr (s.ow a (by omega)).2, fun a h => (hF a h).elim (s.al a) (hm a), s.kp, s.dm, lk⟩
end
end DL

end
section
/-! DL4: more moves of the state; the judgements; names, constants, operators. -/
open PySem PySem.Spec L2
namespace DL
section
variable {Γ : Ctx} {F F' : Addr → Prop} {fh fs fh' fs' : Fp} {hold hold' : Hold} {ρ ρ' : Env} {σ σ' : L2.St} {H H' : Hp}
theorem chk_any {d : D} : (d.noBrw = false → True) := fun _ => trivial
theorem SIx.grow (s : SIx Γ F fh fs hold ρ σ H) (e : Ext H H') : SIx Γ F fh fs hold ρ σ H' :=
  ⟨Reps.go e.keep _ _ _ (fun _ => trivial) (fun a o _ => e a o) s.hh, Slots.go e.keep (fun a o _ => e a o) s.ss, s.nd, s.ow, s.mo, s.F1, s.F2,
    (fun a h z => by
      cases q : H a with
      | none => exact s.al a h q
      | some o => rw [e a o q] at z; cases z), (fun a o h n => e a o (s.kp a o h n)), (fun a h z => by
      cases q : H a with
      | none => exact s.dm a h q
      | some o => rw [e a o q] at z; cases z), s.lk⟩
theorem SIx.alloc (s : SIx Γ F fh fs hold ρ σ H) : ∀ a, 0 < fh a + fs a → Mut (H a) := fun a p => by
  by_cases h : 0 < fh a
  · exact Reps.alloc _ _ _ s.hh a h
  · exact Slots.alloc s.ss a (by omega)
theorem SIx.fresh (s : SIx Γ F fh fs hold ρ σ H) {p : Addr} (hp : H p = none) : fh p = 0 ∧ fs p = 0 := by
  by_cases h : 0 < fh p + fs p
  · have := s.alloc p h
    rw [hp] at this; exact this.elim
  · omega
theorem SIx.new {p : Addr} {o : HO} (s : SIx Γ F fh fs hold ρ σ H) (hp : H p = none) (hh : Reps Γ.K Γ.cn F (upd H p o) (hold'.map (·.2)) (hold'.map (·.1)) fh') (ss : Slots Γ.K Γ.cn F (upd H p o) ρ' σ' fs')
    (le : ∀ a, fh' a + fs' a ≤ fh a + fs a + if a = p then 1 else 0) (mo : ∀ i d, getS ρ' i = some d → Γ.own i = false → d.noOwn = true) (lk : ∀ i v, Γ.lv i = some v → σ'[i]? = some (some v) := by exact s.lk) : SIx Γ F fh' fs' hold' ρ' σ' (upd H p o) := by
  have g := s.grow (Ext.upd (o := o) hp)
  obtain ⟨z1, z2⟩ := s.fresh hp
  refine ⟨hh, ss, fun a => ?_, fun a q => ?_, mo, s.F1, s.F2, g.al, g.kp, g.dm, lk⟩
  · have := le a; have := s.nd a
    by_cases h : a = p
    · subst h; simp at this ⊢; have := le a; simp at this; omega
    · have := le a; rw [if_neg h] at this; omega
  · have := le a
    by_cases h : a = p
    · subst h
      exact ⟨fun z => s.al a z hp, .inl (by
        cases e : Γ.H0 a with
        | none => rfl
        | some o => exact (s.dm a (by rw [e]; exact fun z => nomatch z) hp).elim)⟩
    · rw [if_neg h] at this; exact s.ow a (by omega)
theorem SIx.mut {p : Addr} {o : HO} (s : SIx Γ F fh fs hold ρ σ H) (hp : 0 < fh p + fs p) (hh : Reps Γ.K Γ.cn F (upd H p o) (hold'.map (·.2)) (hold'.map (·.1)) fh') (ss : Slots Γ.K Γ.cn F (upd H p o) ρ' σ' fs')
    (le : ∀ a, fh' a + fs' a ≤ fh a + fs a) (mo : ∀ i d, getS ρ' i = some d → Γ.own i = false → d.noOwn = true) (lk : ∀ i v, Γ.lv i = some v → σ'[i]? = some (some v) := by exact s.lk) : SIx Γ F fh' fs' hold' ρ' σ' (upd H p o) := by
  have ne : ∀ b, upd H p o b = none → H b = none := fun b z => by
    by_cases h : b = p
    · subst h; rw [upd_same] at z; cases z
    · rwa [upd_ne h] at z
  refine ⟨hh, ss, fun a => Nat.le_trans (le a) (s.nd a), fun a q => s.ow a (Nat.lt_of_lt_of_le q (le a)), mo, s.F1, s.F2, fun a h z => s.al a h (ne a z), fun a o' h n => ?_, fun a h z => s.dm a h (ne a z), lk⟩
  rw [upd_ne]
  · exact s.kp a o' h n
  · rintro rfl
    rcases (s.ow a hp).2 with z | z
    · rw [z] at h; cases h
    · exact n z

theorem SI.grow (s : SI Γ hold ρ σ H) (e : Ext H H') : SI Γ hold ρ σ H' := let ⟨F, a, b, s⟩ := s; ⟨F, a, b, s.grow e⟩
/-- what is on top -/
theorem SI.top {v : V} {d : D} (s : SI Γ ((v, d) :: hold) ρ σ H) : ∃ F f, Rep Γ.K Γ.cn F H d v f := by
  obtain ⟨F, a, b, s⟩ := s
  obtain ⟨v', r, f, g, e, _, h, _⟩ := s.hh
  cases e
  exact ⟨F, f, h⟩
theorem SI.drop {x : V × D} (s : SI Γ (x :: hold) ρ σ H) : SI Γ hold ρ σ H := by
  obtain ⟨F, a, b, s⟩ := s
  obtain ⟨v', r, f, g, e, q, _, h⟩ := s.hh
  cases e
  exact ⟨F, g, b, s.re h s.ss (fun a => by have := q a; omega) s.mo⟩
/-- a thing that is the same everywhere -/
theorem SI.push {v : V} {d : D} (s : SI Γ hold ρ σ H) (h : ∀ F, Rep Γ.K Γ.cn F H d v fp0) : SI Γ ((v, d) :: hold) ρ σ H := by
  obtain ⟨F, a, b, s⟩ := s
  exact ⟨F, a, b, s.re ⟨v, _, fp0, a, rfl, fun a => by show _ = 0 + _; omega, h F, s.hh⟩ s.ss (fun _ => Nat.le_refl _) s.mo⟩
theorem SI.int (s : SI Γ hold ρ σ H) (i : Int) : SI Γ ((.int i, .int i) :: hold) ρ σ H := s.push fun _ => ⟨rfl, fun _ => rfl⟩
theorem SI.bl (s : SI Γ hold ρ σ H) (i : Bool) : SI Γ ((.bl i, .bl i) :: hold) ρ σ H := s.push fun _ => ⟨rfl, fun _ => rfl⟩
theorem SI.str (s : SI Γ hold ρ σ H) (i : Str) : SI Γ ((.str i, .str i) :: hold) ρ σ H := s.push fun _ => ⟨rfl, fun _ => rfl⟩
theorem SI.non (s : SI Γ hold ρ σ H) : SI Γ ((.non, .non) :: hold) ρ σ H := s.push fun _ => ⟨rfl, fun _ => rfl⟩
theorem SI.topInt {v : V} {i : Int} (s : SI Γ ((v, .int i) :: hold) ρ σ H) : v = .int i := let ⟨_, _, h⟩ := s.top; h.1
theorem SI.topBl {v : V} {i : Bool} (s : SI Γ ((v, .bl i) :: hold) ρ σ H) : v = .bl i := let ⟨_, _, h⟩ := s.top; h.1
theorem SI.topStr {v : V} {i : Str} (s : SI Γ ((v, .str i) :: hold) ρ σ H) : v = .str i := let ⟨_, _, h⟩ := s.top; h.1
theorem SI.topNon {v : V} (s : SI Γ ((v, .non) :: hold) ρ σ H) : v = .non := let ⟨_, _, h⟩ := s.top; h.1
end

section
variable {Γ : Ctx} {F F' : Addr → Prop} {fh fs fh' fs' : Fp} {hold hold' : Hold} {ρ ρ' : Env} {σ σ' : L2.St} {H H' : Hp}
abbrev zipH (vs : List V) (ds : List D) : Hold := vs.zip ds
theorem zip_fst : ∀ {vs : List V} {ds : List D}, vs.length = ds.length → (vs.zip ds).map (·.1) = vs
  | [], [], _ => rfl
  | [], _ :: _, h => by cases h
  | _ :: _, [], h => by cases h
  | v :: vs, d :: ds, h => by
    show v :: (vs.zip ds).map (·.1) = v :: vs
    rw [zip_fst (by simpa using h)]
theorem zip_snd : ∀ {vs : List V} {ds : List D}, vs.length = ds.length → (vs.zip ds).map (·.2) = ds
  | [], [], _ => rfl
  | [], _ :: _, h => by cases h
  | _ :: _, [], h => by cases h
  | v :: vs, d :: ds, h => by
    show d :: (vs.zip ds).map (·.2) = d :: ds
    rw [zip_snd (by simpa using h)]
theorem Reps.split2 {K : PySem.W.Frag} {cn : Nm} : ∀ {ds es : List D} {vs ws : List V} {fp : Fp}, ds.length = vs.length → Reps K cn F H (ds ++ es) (vs ++ ws) fp → ∃ f g, (∀ a, fp a = f a + g a) ∧ Reps K cn F H ds vs f ∧ Reps K cn F H es ws g
  | [], es, [], ws, fp, _, h => ⟨fp0, fp, fun a => by show _ = 0 + _; omega, ⟨rfl, fun _ => rfl⟩, h⟩
  | [], _, _ :: _, _, _, l, _ => by cases l
  | _ :: _, _, [], _, _, l, _ => by cases l
  | d :: ds, es, v :: vs, ws, fp, l, ⟨v', r, f, g, e, s, h1, h2⟩ => by
    obtain ⟨rfl, rfl⟩ : v = v' ∧ vs ++ ws = r := by
      have e' : v :: (vs ++ ws) = v' :: r := e
      injection e' with a b
      exact ⟨a, b⟩
    obtain ⟨f', g', s', a, b⟩ := Reps.split2 (by simpa using l) h2
    exact ⟨fun a => f a + f' a, g', fun a => by have := s a; have := s' a; show _ = f a + f' a + g' a; omega, ⟨v, vs, f, f', rfl, fun _ => rfl, h1, a⟩, b⟩
/-- a block on top -/
theorem SI.block {vs : List V} {ds : List D} (s : SI Γ (vs.zip ds ++ hold) ρ σ H) (l : vs.length = ds.length) : ∃ F fa fh fs, Reps Γ.K Γ.cn F H ds vs fa ∧ SIx Γ F (fun a => fa a + fh a) fs (vs.zip ds ++ hold) ρ σ H ∧ Reps Γ.K Γ.cn F H (hold.map (·.2)) (hold.map (·.1)) fh := by
  obtain ⟨F, fh, fs, s⟩ := s
  have h := s.hh
  rw [List.map_append, List.map_append, zip_fst l, zip_snd l] at h
  obtain ⟨f, g, e, h1, h2⟩ := Reps.split2 l.symm h
  refine ⟨F, f, g, fs, h1, ?_, h2⟩
  have : fh = fun a => f a + g a := funext e
  rw [← this]; exact s
/-- the block becomes one thing, on the same heap -/
theorem SI.ofBlock {vs : List V} {ds : List D} {v : V} {d : D} (s : SI Γ (vs.zip ds ++ hold) ρ σ H) (l : vs.length = ds.length)
    (h : ∀ F fa, Reps Γ.K Γ.cn F H ds vs fa → ∃ f, (∀ a, f a ≤ fa a) ∧ Rep Γ.K Γ.cn F H d v f) : SI Γ ((v, d) :: hold) ρ σ H := by
  obtain ⟨F, fa, fh, fs, h1, s, h2⟩ := s.block l
  obtain ⟨f, le, r⟩ := h F fa h1
  exact ⟨F, _, fs, s.re ⟨v, _, f, fh, rfl, fun _ => rfl, r, h2⟩ s.ss (fun a => by have := le a; show f a + fh a + fs a ≤ fa a + fh a + fs a; omega) s.mo⟩
/-- .. over a new address -/
theorem SI.newBlock {vs : List V} {ds : List D} {v : V} {d : D} {p : Addr} {o : HO} (s : SI Γ (vs.zip ds ++ hold) ρ σ H) (l : vs.length = ds.length) (hp : H p = none)
    (h : ∀ F fa, Reps Γ.K Γ.cn F (upd H p o) ds vs fa → ∃ f, (∀ a, f a ≤ fa a + if a = p then 1 else 0) ∧ Rep Γ.K Γ.cn F (upd H p o) d v f) : SI Γ ((v, d) :: hold) ρ σ (upd H p o) := by
  obtain ⟨F, fa, fh, fs, h1, s, h2⟩ := s.block l
  have k : Keep F F H (upd H p o) True := (Ext.upd hp).keep
  obtain ⟨f, le, r⟩ := h F fa (Reps.go k _ _ _ (fun _ => trivial) (fun a o _ => Ext.upd hp a o) h1)
  refine ⟨F, _, fs, s.new hp ⟨v, _, f, fh, rfl, fun _ => rfl, r, Reps.go k _ _ _ (fun _ => trivial) (fun a o _ => Ext.upd hp a o) h2⟩ (Slots.go k (fun a o _ => Ext.upd hp a o) s.ss) (fun a => ?_) s.mo⟩
  have := le a
  show f a + fh a + fs a ≤ fa a + fh a + fs a + if a = p then 1 else 0
  omega
theorem SI.perm {h1 h2 : Hold} (s : SI Γ (h1 ++ h2) ρ σ H) : SI Γ (h2 ++ h1) ρ σ H := by
  obtain ⟨F, fh, fs, s⟩ := s
  have h := s.hh
  rw [List.map_append, List.map_append] at h
  obtain ⟨f, g, e, a, b⟩ := Reps.split2 (by simp) h
  refine ⟨F, fun a => g a + f a, fs, s.re ?_ s.ss (fun a => by have := e a; show g a + f a + fs a ≤ fh a + fs a; omega) s.mo⟩
  rw [List.map_append, List.map_append]
  exact Reps.app b a fun _ => rfl
theorem SI.rot {x : V × D} {h1 h2 : Hold} (s : SI Γ (h1 ++ x :: h2) ρ σ H) : SI Γ (x :: (h1 ++ h2)) ρ σ H := by
  obtain ⟨F, fh, fs, s⟩ := s
  have h := s.hh
  rw [List.map_append, List.map_append] at h
  obtain ⟨f, g, e, a, v, r, f1, g1, e1, e2, b, c⟩ := Reps.split2 (by simp) h
  have e1' : x.1 :: h2.map (·.1) = v :: r := e1
  injection e1' with q1 q2
  refine ⟨F, fun a => f1 a + (f a + g1 a), fs, s.re ?_ s.ss (fun a => by have := e a; have := e2 a; show f1 a + (f a + g1 a) + fs a ≤ fh a + fs a; omega) s.mo⟩
  refine ⟨v, h1.map (·.1) ++ h2.map (·.1), f1, fun a => f a + g1 a, ?_, fun _ => rfl, b, ?_⟩
  · rw [List.map_cons, List.map_append, q1]
  · rw [List.map_append]
    rw [← q2] at c
    exact Reps.app a c fun _ => rfl
theorem SI.open2 {Γ : Ctx} {hold : Hold} {ρ : Env} {σ : L2.St} {H : Hp} {v w : V} {x y : D} (s : SI Γ ((w, y) :: (v, x) :: hold) ρ σ H) :
    ∃ (F : Addr → Prop) (f g : Fp), Rep Γ.K Γ.cn F H x v f ∧ Rep Γ.K Γ.cn F H y w g ∧ (∀ d u (k : Fp), (∀ a, k a ≤ f a + g a) → Rep Γ.K Γ.cn F H d u k → SI Γ ((u, d) :: hold) ρ σ H) ∧
      ∀ p o d u (k : Fp), H p = none → (∀ a, k a ≤ f a + g a + if a = p then 1 else 0) → Rep Γ.K Γ.cn F (upd H p o) d u k → SI Γ ((u, d) :: hold) ρ σ (upd H p o) := by
  obtain ⟨F, fh, fs, s⟩ := s
  obtain ⟨w', r, f, g, e, q, h1, v', r', f', g', e', q', h2, h3⟩ := s.hh
  cases e; cases e'
  refine ⟨F, f', f, h2, h1, fun d u k le hr => ?_, fun p o d u k hp le hr => ?_⟩
  · exact ⟨F, _, fs, s.re ⟨u, _, k, g', rfl, fun _ => rfl, hr, h3⟩ s.ss (fun a => by have := le a; have := q a; have := q' a; show k a + g' a + fs a ≤ fh a + fs a; omega) s.mo⟩
  · have kk : Keep F F H (upd H p o) True := (Ext.upd hp).keep
    refine ⟨F, _, fs, s.new hp ⟨u, _, k, g', rfl, fun _ => rfl, hr, Reps.go kk _ _ _ (fun _ => trivial) (fun a o _ => Ext.upd hp a o) h3⟩ (Slots.go kk (fun a o _ => Ext.upd hp a o) s.ss) (fun a => ?_) s.mo⟩
    have := le a; have := q a; have := q' a
    show k a + g' a + fs a ≤ fh a + fs a + if a = p then 1 else 0
    omega
theorem SI.open1 {Γ : Ctx} {hold : Hold} {ρ : Env} {σ : L2.St} {H : Hp} {v : V} {x : D} (s : SI Γ ((v, x) :: hold) ρ σ H) :
    ∃ (F : Addr → Prop) (f : Fp), Rep Γ.K Γ.cn F H x v f ∧ (∀ d u (k : Fp), (∀ a, k a ≤ f a) → Rep Γ.K Γ.cn F H d u k → SI Γ ((u, d) :: hold) ρ σ H) ∧
      ∀ p o d u (k : Fp), H p = none → (∀ a, k a ≤ f a + if a = p then 1 else 0) → Rep Γ.K Γ.cn F (upd H p o) d u k → SI Γ ((u, d) :: hold) ρ σ (upd H p o) := by
  obtain ⟨F, f, g, h1, h2, k1, k2⟩ := s.non.open2
  refine ⟨F, f, h1, fun d u k le hr => k1 d u k (fun a => by have := le a; omega) hr, fun p o d u k hp le hr => k2 p o d u k hp (fun a => by have := le a; omega) hr⟩
end

/-! ### judgements -/
inductive Res (α : Type) where
  | ok (a : α) (ρ : Env)
  | ex (n : Str) (fs : List (Str × D)) (ρ : Env)
/-- pure expressions, tests; any expressions, tests -/
abbrev PF := Env → Option D
abbrev QF := Env → Option Bool
abbrev EF := Env → Option (Res D)
abbrev TF := Env → Option (Res Bool)
/-- an exception of the class n, made of these -/
def ExO (cn : Nm) (H : Hp) (n : Str) (fs : List (Str × D)) (c : Value) (od : Option Addr) : Prop :=
  ∃ C, cn.cls n = some C ∧ c = .ref C ∧ match od with
    | none => fs = []
    | some dx => ∃ vs, H dx = some (.xd vs) ∧ ∀ K F, RepF K cn F H fs vs fp0
def tP (Γ : Ctx) (p : PF) : TE := fun σ H Q => ∃ hold ρ, SI Γ hold ρ σ H ∧ ∃ d, p ρ = some d ∧ ∀ v H', Ext H H' → SI Γ ((v, d) :: hold) ρ σ H' → Q v H'
def tQ (Γ : Ctx) (p : QF) : TT := fun σ H Q => ∃ hold ρ, SI Γ hold ρ σ H ∧ ∃ b, p ρ = some b ∧ ∀ H', Ext H H' → SI Γ hold ρ σ H' → Q b H'
def tE (Γ : Ctx) (W : WX) (f : EF) : TE := fun σ H Q => ∃ hold ρ, SI Γ hold ρ σ H ∧ hold.noBrw ∧ match f ρ with
  | none => False
  | some (.ok d ρ') => ∀ v H', SI Γ ((v, d) :: hold) ρ' σ H' → Q v H'
  | some (.ex n fs ρ') => ∀ c od H', SI Γ hold ρ' σ H' → ExO Γ.cn H' n fs c od → W c od σ H'
def tT (Γ : Ctx) (W : WX) (f : TF) : TT := fun σ H Q => ∃ hold ρ, SI Γ hold ρ σ H ∧ hold.noBrw ∧ match f ρ with
  | none => False
  | some (.ok b ρ') => ∀ H', SI Γ hold ρ' σ H' → Q b H'
  | some (.ex n fs ρ') => ∀ c od H', SI Γ hold ρ' σ H' → ExO Γ.cn H' n fs c od → W c od σ H'
def lP (p : PF) : EF := fun ρ => (p ρ).map (.ok · ρ)
def lQ (p : QF) : TF := fun ρ => (p ρ).map (.ok · ρ)
theorem PE.wk {X : Cx} {e : Expr} {t t' : TE} (h : PE X e t) (i : ∀ σ H Q, t' σ H Q → t σ H Q) : PE X e t' := ⟨fun pins s σ H Q I q => h.run pins s σ H Q I (i σ H Q q)⟩
theorem PT.wk {X : Cx} {e : Expr} {t t' : TT} (h : PT X e t) (i : ∀ σ H Q, t' σ H Q → t σ H Q) : PT X e t' := ⟨fun pins s σ H Q I q => h.run pins s σ H Q I (i σ H Q q)⟩
theorem PW.wk {X : Cx} {e : Expr} {t t' : TT} (h : PW X e t) (i : ∀ σ H Q, t' σ H Q → t σ H Q) : PW X e t' := ⟨fun wh pins s σ H Q I q => h.run wh pins s σ H Q I (i σ H Q q)⟩
theorem PA.wk {X : Cx} {es : List Expr} {t t' : TA} (h : PA X es t) (i : ∀ σ H Q, t' σ H Q → t σ H Q) : PA X es t' := ⟨fun pos pins s σ H Q I q => h.run pos pins s σ H Q I (i σ H Q q)⟩
theorem iT {p q : Prop} (h : p) : if true = true then p else q := by rw [if_pos rfl]; exact h
theorem iF {p q : Prop} (h : q) : if false = true then p else q := by rw [if_neg Bool.false_ne_true]; exact h

section
variable {X : Cx} {Γ : Ctx} {W : WX} {e a b : Expr} {f g p : PF} {pos : Pos}
theorem lift_e (h : PE X e (tP Γ p)) : PE X e (tE Γ W (lP p)) := PE.wk h fun σ H Q ⟨hold, ρ, s, nb, k⟩ => by
  unfold lP at k
  cases q : p ρ with
  | none => rw [q] at k; exact k.elim
  | some d => rw [q] at k; exact ⟨hold, ρ, s, d, q, fun v H' _ s' => k v H' s'⟩
theorem lift_t {q : QF} (h : PT X e (tQ Γ q)) : PT X e (tT Γ W (lQ q)) := PT.wk h fun σ H Q ⟨hold, ρ, s, nb, k⟩ => by
  unfold lQ at k
  cases z : q ρ with
  | none => rw [z] at k; exact k.elim
  | some d => rw [z] at k; exact ⟨hold, ρ, s, d, z, fun H' _ s' => k H' s'⟩

/-! names, constants -/
def dC (d : D) : PF := fun _ => some d
theorem d_int {i j} : PE X (.Constant (.int i) j pos) (tP Γ (dC (.int i))) := PE.wk pe_int fun σ H Q ⟨hold, ρ, s, d, e, k⟩ => by cases e; exact k _ _ Ext.refl (s.int i)
theorem d_bl {i j} : PE X (.Constant (.bool i) j pos) (tP Γ (dC (.bl i))) := PE.wk pe_bl fun σ H Q ⟨hold, ρ, s, d, e, k⟩ => by cases e; exact k _ _ Ext.refl (s.bl i)
theorem d_str {i j} : PE X (.Constant (.str i) j pos) (tP Γ (dC (.str i))) := PE.wk pe_str fun σ H Q ⟨hold, ρ, s, d, e, k⟩ => by cases e; exact k _ _ Ext.refl (s.str i)
theorem d_non {j} : PE X (.Constant .none j pos) (tP Γ (dC .non)) := PE.wk pe_non fun σ H Q ⟨hold, ρ, s, d, e, k⟩ => by cases e; exact k _ _ Ext.refl s.non
/-- a slot that is never changed in place -/
def dV (i : Nat) : PF := fun ρ => getS ρ i
/-- a slot that is: its thing is lent for a look -/
def dK (i : Nat) : PF := fun ρ => (getS ρ i).map D.peek
theorem d_v {i : Nat} {x : Str} (hN : X.N[i]? = some x) (hv : Vis X.env.scope x) (ho : Γ.own i = false) (hd : (x == ("__debug__" : Str)) = false := by decide) (hcd : (x == ("__classdict__" : Str)) = false := by decide) : PE X (.Name x pos) (tP Γ (dV i)) :=
  PE.wk (pe_var hN hv hd hcd) fun σ H Q ⟨hold, ρ, ⟨F, fh, fs, s⟩, d, e, k⟩ => by
    obtain ⟨v, f, e1, r, nb, l⟩ := s.ss.get e
    refine ⟨v, e1, k v H Ext.refl ⟨F, fh, fs, s.re ⟨v, _, f, fh, rfl, fun a => ?_, r, s.hh⟩ s.ss (fun _ => Nat.le_refl _) s.mo⟩⟩
    rw [Rep.zero d v f r (s.mo i d e ho) a]; omega
theorem d_k {i : Nat} {x : Str} (hN : X.N[i]? = some x) (hv : Vis X.env.scope x) (hd : (x == ("__debug__" : Str)) = false := by decide) (hcd : (x == ("__classdict__" : Str)) = false := by decide) : PE X (.Name x pos) (tP Γ (dK i)) :=
  PE.wk (pe_var hN hv hd hcd) fun σ H Q ⟨hold, ρ, ⟨F, fh, fs, s⟩, d, e, k⟩ => by
    obtain ⟨d', e', rfl⟩ : ∃ d', getS ρ i = some d' ∧ d'.peek = d := by
      unfold dK at e
      cases q : getS ρ i with
      | none => rw [q] at e; cases e
      | some d' => rw [q] at e; cases e; exact ⟨d', rfl, rfl⟩
    obtain ⟨v, f, e1, r, nb, l⟩ := s.ss.get e'
    exact ⟨v, e1, k v H Ext.refl ⟨F, fh, fs, s.re ⟨v, _, fp0, fh, rfl, fun a => by show _ = 0 + _; omega, Rep.peek _ _ _ r, s.hh⟩ s.ss (fun _ => Nat.le_refl _) s.mo⟩⟩
/-- a module's constant: a text, an int -/
theorem d_gstr {x : Str} {z : Str} {u : Value} (hg : Gl X x) (hm : X.mg x = some u) (r : RelV (.str z) u) (hd : (x == ("__debug__" : Str)) = false := by decide) : PE X (.Name x pos) (tP Γ (dC (.str z))) :=
  PE.wk (pe_glob hg hm r hd) fun σ H Q ⟨hold, ρ, s, d, e, k⟩ => by cases e; exact k _ _ Ext.refl (s.str z)


/-! ### an operation of two things -/
abbrev O2 := D → D → Option D
def Op2 (Γ : Ctx) (r : R2) (o : O2) : Prop := ∀ (hold : Hold) (ρ : Env) (σ : L2.St) (H : Hp) (v w : V) (x y d : D) (Q : VK), o x y = some d → SI Γ ((w, y) :: (v, x) :: hold) ρ σ H → (∀ u H', Ext H H' → SI Γ ((u, d) :: hold) ρ σ H' → Q u H') → r v w H Q
def pB (o : O2) (f g : PF) : PF := fun ρ => match f ρ, g ρ with
  | some x, some y => o x y
  | _, _ => none
def eB (o : O2) (f g : EF) : EF := fun ρ => match f ρ with
  | some (.ok x ρ1) => if x.noBrw = true then (match g ρ1 with
      | some (.ok y ρ2) => (o x y).map (.ok · ρ2)
      | r => r) else none
  | r => r
theorem pB_some {o : O2} {ρ : Env} {d : D} (e : pB o f g ρ = some d) : ∃ x y, f ρ = some x ∧ g ρ = some y ∧ o x y = some d := by
  unfold pB at e
  split at e
  · rename_i x y e1 e2; exact ⟨x, y, e1, e2, e⟩
  · cases e
theorem tP_op {r : R2} {o : O2} (ho : Op2 Γ r o) (σ : L2.St) (H : Hp) (Q : VK) : tP Γ (pB o f g) σ H Q → tOp r (tP Γ f) (tP Γ g) σ H Q := fun ⟨hold, ρ, s, d, e, k⟩ => by
  obtain ⟨x, y, ex, ey, ez⟩ := pB_some e
  refine ⟨hold, ρ, s, x, ex, fun v H1 e1 s1 => ⟨_, ρ, s1, y, ey, fun w H2 e2 s2 => ?_⟩⟩
  exact ho hold ρ σ H2 v w x y d Q ez s2 fun u H3 e3 s3 => k u H3 ((e1.trans e2).trans e3) s3
theorem p_op {r : R2} {o : O2} (h : PE X e (tOp r (tP Γ f) (tP Γ g))) (ho : Op2 Γ r o) : PE X e (tP Γ (pB o f g)) := PE.wk h (tP_op ho)
theorem noBrw_cons {hold : Hold} {v : V} {d : D} (h : hold.noBrw) (hd : d.noBrw = true) : Hold.noBrw ((v, d) :: hold) := by
  show (D.chk _ d && D.chkL _ _) = true
  rw [show D.chk (fun m => !m.isBrw) d = true from hd, show D.chkL _ _ = true from h]; rfl
theorem tE_op {r : R2} {o : O2} {f g : EF} (ho : Op2 Γ r o) (σ : L2.St) (H : Hp) (Q : VK) : tE Γ W (eB o f g) σ H Q → tOp r (tE Γ W f) (tE Γ W g) σ H Q := fun ⟨hold, ρ, s, nb, k⟩ => by
    refine ⟨hold, ρ, s, nb, ?_⟩
    unfold eB at k
    cases q : f ρ with
    | none => rw [q] at k; exact k.elim
    | some r1 =>
      rw [q] at k
      cases r1 with
      | ex n fs ρ1 => exact k
      | ok x ρ1 =>
        dsimp only at k ⊢
        intro v H1 s1
        by_cases hx : x.noBrw = true
        · rw [if_pos hx] at k
          refine ⟨_, ρ1, s1, noBrw_cons nb hx, ?_⟩
          cases q2 : g ρ1 with
          | none => rw [q2] at k; exact k.elim
          | some r2 =>
            rw [q2] at k
            cases r2 with
            | ex n fs ρ2 => exact fun c od H' s' => k c od H' s'.drop
            | ok y ρ2 =>
              dsimp only at k ⊢
              intro w H2 s2
              cases q3 : o x y with
              | none => rw [q3] at k; exact k.elim
              | some d =>
                rw [q3] at k
                exact ho hold ρ2 σ H2 v w x y d Q q3 s2 fun u H3 e3 s3 => k u H3 s3
        · rw [if_neg hx] at k; exact k.elim
theorem e_op {r : R2} {o : O2} {f g : EF} (h : PE X e (tOp r (tE Γ W f) (tE Γ W g))) (ho : Op2 Γ r o) : PE X e (tE Γ W (eB o f g)) := PE.wk h (tE_op ho)
/-- .. as a test -/
def qB (f : PF) : QF := fun ρ => match f ρ with | some (.bl b) => some b | _ => none
theorem qB_some {ρ : Env} {b : Bool} (e : qB f ρ = some b) : f ρ = some (.bl b) := by
  unfold qB at e
  split at e
  · rename_i b' e1; cases e; exact e1
  · cases e
def eT (f : EF) : TF := fun ρ => match f ρ with
  | some (.ok (.bl b) ρ') => some (.ok b ρ')
  | some (.ok _ _) => none
  | some (.ex n fs ρ') => some (.ex n fs ρ')
  | none => none
theorem q_of {t : TE} (h : PT X e (tTest t)) (hp : ∀ σ H Q, tP Γ p σ H Q → t σ H Q) : PT X e (tQ Γ (qB p)) :=
  PT.wk h fun σ H Q ⟨hold, ρ, s, b, e, k⟩ => hp σ H _ ⟨hold, ρ, s, _, qB_some e, fun v H1 x1 s1 => ⟨b, s1.topBl, k H1 x1 s1.drop⟩⟩
theorem t_of {t : TE} {f : EF} (h : PT X e (tTest t)) (hp : ∀ σ H Q, tE Γ W f σ H Q → t σ H Q) : PT X e (tT Γ W (eT f)) :=
  PT.wk h fun σ H Q ⟨hold, ρ, s, nb, k⟩ => hp σ H _ ⟨hold, ρ, s, nb, by
    unfold eT at k
    split at k
    · exact k.elim
    · rename_i b' ρ'' e1
      split at e1 <;> cases e1
      rename_i e2
      rw [e2]
      exact fun v H' s' => ⟨_, s'.topBl, k H' s'.drop⟩
    · rename_i n fs ρ'' e1
      split at e1 <;> cases e1
      rename_i e2
      rw [e2]
      exact k⟩
theorem q_val (h : PE X e (tP Γ f)) (he : ∀ whole, isTrue e X.env whole = (do let v ← whole; standAt e.pos; holding [v] (truthy v)) := by intro _; rfl) : PT X e (tQ Γ (qB f)) := q_of (pt_val h he) fun _ _ _ h => h
theorem t_val {f : EF} (h : PE X e (tE Γ W f)) (he : ∀ whole, isTrue e X.env whole = (do let v ← whole; standAt e.pos; holding [v] (truthy v)) := by intro _; rfl) : PT X e (tT Γ W (eT f)) := t_of (pt_val h he) fun _ _ _ h => h
/-- comparisons -/
theorem d_cmp {op : CmpOp} {r : R2} {o : O2} (hr : OpR X (compareOp op) r) (ho : Op2 Γ r o) (ha : PE X a (tP Γ f)) (hb : PE X b (tP Γ g)) (hm : behindInMarks op b = false) : PE X (.Compare a [op] [b] pos) (tP Γ (pB o f g)) := p_op (pe_cmpR hr ha hb hm) ho
theorem e_cmp {op : CmpOp} {r : R2} {o : O2} {f g : EF} (hr : OpR X (compareOp op) r) (ho : Op2 Γ r o) (ha : PE X a (tE Γ W f)) (hb : PE X b (tE Γ W g)) (hm : behindInMarks op b = false) : PE X (.Compare a [op] [b] pos) (tE Γ W (eB o f g)) := e_op (pe_cmpR hr ha hb hm) ho
theorem q_cmp {op : CmpOp} {r : R2} {o : O2} (hr : OpR X (compareOp op) r) (ho : Op2 Γ r o) (ha : PE X a (tP Γ f)) (hb : PE X b (tP Γ g)) (hm : behindInMarks op b = false) : PT X (.Compare a [op] [b] pos) (tQ Γ (qB (pB o f g))) :=
  q_of (pt_cmpR hr ha hb hm) (tP_op ho)
theorem t_cmp {op : CmpOp} {r : R2} {o : O2} {f g : EF} (hr : OpR X (compareOp op) r) (ho : Op2 Γ r o) (ha : PE X a (tE Γ W f)) (hb : PE X b (tE Γ W g)) (hm : behindInMarks op b = false) : PT X (.Compare a [op] [b] pos) (tT Γ W (eT (eB o f g))) :=
  t_of (pt_cmpR hr ha hb hm) (tE_op ho)
end
end DL

end
section
/-! DL5: truth, and the operations of two things. -/
open PySem PySem.Spec L2
namespace DL
section
variable {Γ : Ctx} {F F' : Addr → Prop} {fh fs fh' fs' : Fp} {hold hold' : Hold} {ρ ρ' : Env} {σ σ' : L2.St} {H H' : Hp}
/-! ### what a datum is as PyData -/
mutual
def py : D → Option PyData
  | .non => some .none
  | .bl b => some (.bool b)
  | .int i => some (.int i)
  | .str x => some (.str x)
  | .tup ds => (pys ds).map .tuple
  | .lst _ ds => (pys ds).map .list
  | _ => none
def pys : List D → Option (List PyData)
  | [] => some []
  | d :: ds => match py d, pys ds with
    | some p, some ps => some (p :: ps)
    | _, _ => none
end
theorem At.rd {m : Mk} {a : Addr} {u : HO} {fp f : Fp} (h : At F H m a u fp f) : Rd H a u := by
  cases m with
  | own => exact .inl h.1
  | frz => exact .inl h.2.1
  | brw => exact .inl h.1
  | ro => exact .inr h.1
theorem lst_sq {K : PySem.W.Frag} {m : Mk} {a : Addr} {vs : List V} {fp f : Fp} (q : At F H m a (.lst vs) fp f ∨ (m = .ro ∧ KL K a vs ∧ (∀ b, f b = 0) ∧ ∀ b, fp b = 0)) : SqL K H a vs := by
  rcases q with q | q
  · exact .inl q.rd
  · exact .inr q.2.1
mutual
theorem Rep.dp {K : PySem.W.Frag} {cn : Nm} : ∀ (d : D) (v : V) (fp : Fp) (z : PyData), Rep K cn F H d v fp → py d = some z → Dp K H v z
  | .non, v, fp, z, h, e => by cases e; rw [h.1]; exact .non
  | .bl b, v, fp, z, h, e => by cases e; rw [h.1]; exact .bl b
  | .int i, v, fp, z, h, e => by cases e; rw [h.1]; exact .int i
  | .str x, v, fp, z, h, e => by cases e; rw [h.1]; exact .str x
  | .cls n, v, fp, z, h, e => by cases e
  | .exc n fs, v, fp, z, h, e => by cases e
  | .dic m kd kvs, v, fp, z, h, e => by cases e
  | .ins m C fs, v, fp, z, h, e => by cases e
  | .tup ds, v, fp, z, ⟨a, vs, e1, q, r⟩, e => by
    rw [py, Option.map_eq_some_iff] at e
    obtain ⟨zs, e2, rfl⟩ := e
    rw [e1]
    exact .tup (SqT.of q) (Reps.dp ds vs fp zs r e2)
  | .lst m ds, v, fp, z, ⟨a, vs, f, e1, q, r⟩, e => by
    rw [py, Option.map_eq_some_iff] at e
    obtain ⟨zs, e2, rfl⟩ := e
    rw [e1]
    exact .lst (lst_sq q) (Reps.dp ds vs f zs r e2)
theorem Reps.dp {K : PySem.W.Frag} {cn : Nm} : ∀ (ds : List D) (vs : List V) (fp : Fp) (z : List PyData), Reps K cn F H ds vs fp → pys ds = some z → DpAll K H vs z
  | [], vs, fp, z, h, e => by cases e; rw [h.1]; exact .nil
  | d :: ds, vs, fp, z, ⟨v, r, f, g, e1, s, h1, h2⟩, e => by
    rw [pys] at e
    split at e
    · rename_i p ps e2 e3
      cases e
      rw [e1]
      exact .cons (Rep.dp d v f p h1 e2) (Reps.dp ds r g ps h2 e3)
    · cases e
end
/-- == of two data -/
def eqD : D → D → Option Bool
  | .str a, .str b => some (decide (a = b))
  | .int a, .int b => some (decide (a = b))
  | .bl a, .bl b => some (decide (a = b))
  | x, y => match py x, py y with
    | some p, some q => if SeqAt.shaped p && SeqAt.shaped q then some (PyData.eqv p q) else none
    | _, _ => none
theorem eqD_ok {K : PySem.W.Frag} {cn : Nm} {F1 F2 : Addr → Prop} {x y : D} {v w : V} {f1 f2 : Fp} {b : Bool} (e : eqD x y = some b) (hx : Rep K cn F1 H x v f1) (hy : Rep K cn F2 H y w f2) (neg : Bool) (Q : VK) (q : Q (.bl (if neg then !b else b)) H) :
    if neg then rNe v w H Q ∨ rNeD K v w H Q else rEq v w H Q ∨ rEqD K v w H Q := by
  unfold eqD at e
  split at e
  · cases e
    obtain rfl := hx.1
    obtain rfl := hy.1
    have q' := q
    cases neg with
    | true => exact .inl ⟨rfl, by simpa using q⟩
    | false => exact .inl ⟨rfl, by simpa using q⟩
  · cases e
    obtain rfl := hx.1
    obtain rfl := hy.1
    cases neg with
    | true => exact .inl ⟨rfl, by simpa using q⟩
    | false => exact .inl ⟨rfl, by simpa using q⟩
  · cases e
    obtain rfl := hx.1
    obtain rfl := hy.1
    cases neg with
    | true => exact .inl ⟨rfl, by simpa using q⟩
    | false => exact .inl ⟨rfl, by simpa using q⟩
  · split at e
    · rename_i p q' e1 e2
      split at e
      · rename_i c
        cases e
        cases neg with
        | true => exact .inr ⟨p, q', Rep.dp _ _ _ _ hx e1, Rep.dp _ _ _ _ hy e2, and_l c, and_r c, q⟩
        | false => exact .inr ⟨p, q', Rep.dp _ _ _ _ hx e1, Rep.dp _ _ _ _ hy e2, and_l c, and_r c, q⟩
      · cases e
    · cases e
end
section
variable {X : Cx} {Γ : Ctx} {e a b : Expr} {f g p : PF} {pos : Pos}
/-! ### not, and, or -/
def qNot (p : QF) : QF := fun ρ => (p ρ).map (!·)
def qAnd (p q : QF) : QF := fun ρ => match p ρ with | some true => q ρ | some false => some false | none => none
def qOr (p q : QF) : QF := fun ρ => match p ρ with | some true => some true | some false => q ρ | none => none
theorem q_not {q : QF} (h : PT X a (tQ Γ q)) : PT X (.UnaryOp .Not a pos) (tQ Γ (qNot q)) :=
  PT.wk (pt_not h) fun σ H Q ⟨hold, ρ, s, b, e, k⟩ => by
    unfold qNot at e
    rw [Option.map_eq_some_iff] at e
    obtain ⟨c, e1, rfl⟩ := e
    exact ⟨hold, ρ, s, c, e1, k⟩
theorem w_and1 {q : QF} (h : PT X a (tQ Γ q)) : PW X (.BoolOp .And [a] pos) (tQ Γ q) := pw_and1 h
theorem w_or1 {q : QF} (h : PT X a (tQ Γ q)) : PW X (.BoolOp .Or [a] pos) (tQ Γ q) := pw_or1 h
theorem w_and {q q' : QF} {rest : List Expr} (h : PT X a (tQ Γ q)) (h' : PW X (.BoolOp .And (b :: rest) pos) (tQ Γ q')) : PW X (.BoolOp .And (a :: b :: rest) pos) (tQ Γ (qAnd q q')) :=
  PW.wk (pw_and h h') fun σ H Q ⟨hold, ρ, s, c, e, k⟩ => by
    unfold qAnd at e
    split at e
    · rename_i e1
      refine ⟨hold, ρ, s, true, e1, fun H1 x1 s1 => ?_⟩
      refine iT ?_
      exact ⟨hold, ρ, s1, c, e, fun H2 x2 s2 => k H2 (x1.trans x2) s2⟩
    · rename_i e1
      cases e
      refine ⟨hold, ρ, s, false, e1, fun H1 x1 s1 => ?_⟩
      refine iF ?_
      exact k H1 x1 s1
    · cases e
theorem w_or {q q' : QF} {rest : List Expr} (h : PT X a (tQ Γ q)) (h' : PW X (.BoolOp .Or (b :: rest) pos) (tQ Γ q')) : PW X (.BoolOp .Or (a :: b :: rest) pos) (tQ Γ (qOr q q')) :=
  PW.wk (pw_or h h') fun σ H Q ⟨hold, ρ, s, c, e, k⟩ => by
    unfold qOr at e
    split at e
    · rename_i e1
      cases e
      refine ⟨hold, ρ, s, true, e1, fun H1 x1 s1 => ?_⟩
      refine iT ?_
      exact k H1 x1 s1
    · rename_i e1
      refine ⟨hold, ρ, s, false, e1, fun H1 x1 s1 => ?_⟩
      refine iF ?_
      exact ⟨hold, ρ, s1, c, e, fun H2 x2 s2 => k H2 (x1.trans x2) s2⟩
    · cases e
theorem q_w {q : QF} (h : PW X e (tQ Γ q)) : PT X e (tQ Γ q) := h.pt
/-! .. as values: both sides True or False -/
def dAnd (f g : PF) : PF := fun ρ => match f ρ with | some (.bl true) => g ρ | some (.bl false) => some (.bl false) | _ => none
def dOr (f g : PF) : PF := fun ρ => match f ρ with | some (.bl false) => g ρ | some (.bl true) => some (.bl true) | _ => none
def dNot (f : PF) : PF := fun ρ => match f ρ with | some (.bl b) => some (.bl (!b)) | _ => none
theorem d_one {op} (h : PE X a (tP Γ f)) : PE X (.BoolOp op [a] pos) (tP Γ f) := pe_one h
theorem d_and {rest : List Expr} (ha : PE X a (tP Γ f)) (hb : PE X (.BoolOp .And (b :: rest) pos) (tP Γ g)) : PE X (.BoolOp .And (a :: b :: rest) pos) (tP Γ (dAnd f g)) :=
  PE.wk (pe_and ha hb) fun σ H Q ⟨hold, ρ, s, d, e, k⟩ => by
    unfold dAnd at e
    split at e
    · rename_i e1
      refine ⟨hold, ρ, s, _, e1, fun v H1 x1 s1 => ⟨true, s1.topBl, ?_⟩⟩
      refine iT ?_
      exact ⟨hold, ρ, s1.drop, d, e, fun w H2 x2 s2 => k w H2 (x1.trans x2) s2⟩
    · rename_i e1
      cases e
      refine ⟨hold, ρ, s, _, e1, fun v H1 x1 s1 => ⟨false, s1.topBl, ?_⟩⟩
      refine iF ?_
      exact k _ H1 x1 (s1.drop.bl _)
    · cases e
theorem d_or {rest : List Expr} (ha : PE X a (tP Γ f)) (hb : PE X (.BoolOp .Or (b :: rest) pos) (tP Γ g)) : PE X (.BoolOp .Or (a :: b :: rest) pos) (tP Γ (dOr f g)) :=
  PE.wk (pe_or ha hb) fun σ H Q ⟨hold, ρ, s, d, e, k⟩ => by
    unfold dOr at e
    split at e
    · rename_i e1
      refine ⟨hold, ρ, s, _, e1, fun v H1 x1 s1 => ⟨false, s1.topBl, ?_⟩⟩
      refine iF ?_
      exact ⟨hold, ρ, s1.drop, d, e, fun w H2 x2 s2 => k w H2 (x1.trans x2) s2⟩
    · rename_i e1
      cases e
      refine ⟨hold, ρ, s, _, e1, fun v H1 x1 s1 => ⟨true, s1.topBl, ?_⟩⟩
      refine iT ?_
      exact k _ H1 x1 (s1.drop.bl _)
    · cases e
theorem d_not (ha : PE X a (tP Γ f)) : PE X (.UnaryOp .Not a pos) (tP Γ (dNot f)) :=
  PE.wk (pe_not ha) fun σ H Q ⟨hold, ρ, s, d, e, k⟩ => by
    unfold dNot at e
    split at e
    · rename_i b e1
      cases e
      exact ⟨hold, ρ, s, _, e1, fun v H1 x1 s1 => ⟨b, s1.topBl, k _ H1 x1 (s1.drop.bl _)⟩⟩
    · cases e
/-- a if t else b -/
def dIf (q : QF) (f g : PF) : PF := fun ρ => match q ρ with | some true => f ρ | some false => g ρ | none => none
theorem d_if {c : Expr} {q : QF} (hc : PT X c (tQ Γ q)) (ha : PE X a (tP Γ f)) (hb : PE X b (tP Γ g)) : PE X (.IfExp c a b pos) (tP Γ (dIf q f g)) :=
  PE.wk (pe_ifExp hc ha hb) fun σ H Q ⟨hold, ρ, s, d, e, k⟩ => by
    unfold dIf at e
    split at e
    · rename_i e1
      refine ⟨hold, ρ, s, true, e1, fun H1 x1 s1 => ?_⟩
      refine iT ?_
      exact ⟨hold, ρ, s1, d, e, fun w H2 x2 s2 => k w H2 (x1.trans x2) s2⟩
    · rename_i e1
      refine ⟨hold, ρ, s, false, e1, fun H1 x1 s1 => ?_⟩
      refine iF ?_
      exact ⟨hold, ρ, s1, d, e, fun w H2 x2 s2 => k w H2 (x1.trans x2) s2⟩
    · cases e


/-! ### ints -/
def oI (C : Int → Int → Bool) (h : Int → Int → D) : O2 := fun x y => match x, y with
  | .int i, .int j => if C i j = true then some (h i j) else none
  | _, _ => none
theorem oI_some {C : Int → Int → Bool} {h : Int → Int → D} {x y d : D} (e : oI C h x y = some d) : ∃ i j, x = .int i ∧ y = .int j ∧ C i j = true ∧ d = h i j := by
  unfold oI at e
  split at e
  · split at e
    · rename_i i j c; cases e; exact ⟨i, j, rfl, rfl, c, rfl⟩
    · cases e
  · cases e
theorem oI_ok {C : Int → Int → Prop} {C' : Int → Int → Bool} {h : Int → Int → Int} (hC : ∀ i j, C' i j = true → C i j) : Op2 Γ (rI C fun i j => .int (h i j)) (oI C' fun i j => .int (h i j)) := fun hold ρ σ H v w x y d Q e s k => by
  obtain ⟨i, j, rfl, rfl, c, rfl⟩ := oI_some e
  obtain rfl := s.topInt
  obtain rfl := s.drop.topInt
  exact ⟨i, j, rfl, rfl, hC i j c, k _ _ Ext.refl (s.drop.drop.int _)⟩
def cMul (i j : Int) : Bool := (decide (-(2 ^ 64) < i) && decide (i < 2 ^ 64)) || (decide (-(2 ^ 64) < j) && decide (j < 2 ^ 64))
def cDiv (i j : Int) : Bool := decide (j ≠ 0) && decide (j.natAbs < 1073741824)
def cPow (i j : Int) : Bool := decide (0 ≤ j) && decide (j ≤ 1000000) && decide (i.natAbs < 2 ^ 64)
def oSub : O2 := oI (fun _ _ => true) fun i j => .int (i - j)
def oDiv : O2 := oI cDiv fun i j => .int (i.fdiv j)
def oMod : O2 := oI (fun _ j => decide (j ≠ 0)) fun i j => .int (i.fmod j)
def oPow : O2 := oI cPow fun i j => .int (i ^ j.toNat)
def oShl : O2 := oI cPow fun i j => .int (i * 2 ^ j.toNat)
theorem OpR.triv {fn : Value → Value → Sem Value} {g : Int → Int → V} (h : OpR X fn (rI0 g)) : OpR X fn (rI (fun _ _ => True) g) := fun pins s σ H x y v u Q I r1 r2 ⟨i, j, e1, e2, _, q⟩ => h pins s σ H x y v u Q I r1 r2 ⟨i, j, e1, e2, q⟩
theorem oSub_ok : Op2 Γ (rI (fun _ _ => True) fun i j => .int (i - j)) oSub := oI_ok fun _ _ _ => trivial
theorem oDiv_ok : Op2 Γ (rI CDivN fun i j => .int (i.fdiv j)) oDiv := oI_ok fun i j h => by simp only [cDiv, Bool.and_eq_true, decide_eq_true_eq] at h; exact h
theorem oMod_ok : Op2 Γ (rI (fun _ j => j ≠ 0) fun i j => .int (i.fmod j)) oMod := oI_ok fun i j h => of_decide_eq_true h
theorem oPow_ok : Op2 Γ (rI CPow fun i j => .int (i ^ j.toNat)) oPow := oI_ok fun i j h => by simp only [cPow, Bool.and_eq_true, decide_eq_true_eq] at h; exact ⟨h.1.1, h.1.2, h.2⟩
theorem oShl_ok : Op2 Γ (rI CPow fun i j => .int (i * 2 ^ j.toNat)) oShl := oI_ok fun i j h => by simp only [cPow, Bool.and_eq_true, decide_eq_true_eq] at h; exact ⟨h.1.1, h.1.2, h.2⟩
theorem opr_sub : OpR X (binaryOp .Sub) (rI (fun _ _ => True) fun i j => .int (i - j)) := OpR.triv op_sub
/-- < <= > >= -/
def oCm (h : Int → Int → Bool) : O2 := oI (fun _ _ => true) fun i j => .bl (h i j)
theorem oCm_ok {h : Int → Int → Bool} : Op2 Γ (rI0 fun i j => .bl (h i j)) (oCm h) := fun hold ρ σ H v w x y d Q e s k => by
  obtain ⟨i, j, rfl, rfl, c, rfl⟩ := oI_some e
  obtain rfl := s.topInt
  obtain rfl := s.drop.topInt
  exact ⟨i, j, rfl, rfl, k _ _ Ext.refl (s.drop.drop.bl _)⟩
def oLt : O2 := oCm fun i j => decide (i < j)
def oLe : O2 := oCm fun i j => decide (i ≤ j)
def oGt : O2 := oCm fun i j => decide (j < i)
def oGe : O2 := oCm fun i j => decide (j ≤ i)
theorem oLt_ok : Op2 Γ (rI0 fun i j => .bl (decide (i < j))) oLt := oCm_ok
theorem oLe_ok : Op2 Γ (rI0 fun i j => .bl (decide (i ≤ j))) oLe := oCm_ok
theorem oGt_ok : Op2 Γ (rI0 fun i j => .bl (decide (j < i))) oGt := oCm_ok
theorem oGe_ok : Op2 Γ (rI0 fun i j => .bl (decide (j ≤ i))) oGe := oCm_ok

/-! ### ==, != -/
def oEq (x y : D) : Option D := (eqD x y).map .bl
def oNe (x y : D) : Option D := (eqD x y).map fun b => .bl (!b)
theorem opr_eq (hu : X.A.units + 64 < cLine) : OpR X (compareOp .Eq) (fun x y H Q => rEq x y H Q ∨ rEqD X.K x y H Q) := OpR.or op_eq (op_eqD hu)
theorem opr_ne (hu : X.A.units + 64 < cLine) : OpR X (compareOp .NotEq) (fun x y H Q => rNe x y H Q ∨ rNeD X.K x y H Q) := OpR.or op_ne (op_neD hu)
theorem oEq_ok : Op2 Γ (fun x y H Q => rEq x y H Q ∨ rEqD Γ.K x y H Q) oEq := fun hold ρ σ H v w x y d Q e s k => by
  unfold oEq at e
  rw [Option.map_eq_some_iff] at e
  obtain ⟨b, e, rfl⟩ := e
  obtain ⟨F, fp, gp, h1, h2, _⟩ := s.open2
  exact eqD_ok e h1 h2 false Q (k _ _ Ext.refl (s.drop.drop.bl _))
theorem oNe_ok : Op2 Γ (fun x y H Q => rNe x y H Q ∨ rNeD Γ.K x y H Q) oNe := fun hold ρ σ H v w x y d Q e s k => by
  unfold oNe at e
  rw [Option.map_eq_some_iff] at e
  obtain ⟨b, e, rfl⟩ := e
  obtain ⟨F, fp, gp, h1, h2, _⟩ := s.open2
  exact eqD_ok e h1 h2 true Q (k _ _ Ext.refl (s.drop.drop.bl _))

/-- is, is not: of None, True, False -/
def isD : D → D → Option Bool
  | .non, .non => some true
  | .bl a, .bl b => some (a == b)
  | _, .non => some false
  | _, _ => none
theorem rep_non {K : PySem.W.Frag} {cn : Nm} {F : Addr → Prop} {H : Hp} {x : D} {v : V} {fp : Fp} (h : Rep K cn F H x v fp) (hx : isD x .non = some false) : v ≠ .non := by
  cases x with
  | non => cases hx
  | bl b => rw [h.1]; exact fun z => nomatch z
  | int b => rw [h.1]; exact fun z => nomatch z
  | str b => rw [h.1]; exact fun z => nomatch z
  | cls n => obtain ⟨⟨a, e, _⟩, _⟩ := h; rw [e]; exact fun z => nomatch z
  | exc n fs => obtain ⟨a, _, _, e, _⟩ := h; rw [e]; exact fun z => nomatch z
  | tup ds => obtain ⟨a, _, e, _⟩ := h; rw [e]; exact fun z => nomatch z
  | lst m ds => obtain ⟨a, _, _, e, _⟩ := h; rw [e]; exact fun z => nomatch z
  | dic m kd ds => obtain ⟨a, _, e, _⟩ := h; rw [e]; exact fun z => nomatch z
  | ins m C ds => obtain ⟨a, _, _, _, _, e, _⟩ := h; rw [e]; exact fun z => nomatch z
theorem op_isB (neg : Bool) : OpR X (compareOp (if neg then .IsNot else .Is)) (fun x y H Q => ∃ a b, x = .bl a ∧ y = .bl b ∧ Q (.bl (if neg then !(a == b) else a == b)) H) := by
  intro pins s σ H x y v u Q I rx ry h
  obtain ⟨a, b, rfl, rfl, q⟩ := h
  cases rx; cases ry
  cases neg with
  | false => exact PyProof.Rows.is_bool ⟨.bl _, H, I, rfl, q⟩
  | true =>
    show wpAny _ _ (isSame (.bool a) (.bool b) >>= fun r => pure (Value.bool !r)) _ _ s
    have e : isSame (.bool a) (.bool b) = pure (a == b) := by cases a <;> cases b <;> rfl
    rw [e]
    exact wpAny_bind (wpAny_pure (wpAny_pure ⟨.bl _, H, I, rfl, q⟩))

def rIs (neg : Bool) : R2 := fun x y H Q => (y = .non ∧ Q (.bl (if neg then !decide (x = .non) else decide (x = .non))) H) ∨ ∃ a b, x = .bl a ∧ y = .bl b ∧ Q (.bl (if neg then !(a == b) else a == b)) H
theorem opr_is : OpR X (compareOp .Is) (rIs false) := OpR.or op_isN (op_isB false)
theorem opr_isnot : OpR X (compareOp .IsNot) (rIs true) := OpR.or op_notN (op_isB true)
def oIs (neg : Bool) (x y : D) : Option D := (isD x y).map fun b => .bl (if neg then !b else b)
theorem oIs_ok {neg : Bool} : Op2 Γ (rIs neg) (oIs neg) := fun hold ρ σ H v w x y d Q e s k => by
  unfold oIs at e
  rw [Option.map_eq_some_iff] at e
  obtain ⟨b, e3, rfl⟩ := e
  obtain ⟨F, fp, gp, h1, h2, _⟩ := s.open2
  have q := k _ _ Ext.refl (s.drop.drop.bl _)
  unfold isD at e3
  split at e3
  · cases e3
    obtain rfl := h1.1
    exact .inl ⟨h2.1, q⟩
  · cases e3
    obtain rfl := h1.1
    exact .inr ⟨_, _, rfl, h2.1, q⟩
  · rename_i hx
    cases e3
    refine .inl ⟨h2.1, ?_⟩
    rw [decide_eq_false (rep_non h1 (by unfold isD; split <;> first | rfl | (exfalso; simp_all)))]
    exact q
  · cases e3
end
end DL

end
section
/-! DL6: argument lists, displays, items, slices, sums, in. -/
open PySem PySem.Spec L2
namespace DL
/-! ### argument lists -/
def evL : List PF → Env → Option (List D)
  | [], _ => some []
  | f :: fs, ρ => match f ρ, evL fs ρ with
    | some d, some ds => some (d :: ds)
    | _, _ => none
def evE : List EF → Env → Option (Res (List D))
  | [], ρ => some (.ok [] ρ)
  | f :: fs, ρ => match f ρ with
    | some (.ok d ρ1) => if d.noBrw = true then (match evE fs ρ1 with
        | some (.ok ds ρ2) => some (.ok (d :: ds) ρ2)
        | r => r) else none
    | some (.ex n xs ρ1) => some (.ex n xs ρ1)
    | none => none
def tA (Γ : Ctx) (fs : List PF) : TA := fun σ H Q => ∃ hold ρ, SI Γ hold ρ σ H ∧ ∃ ds, evL fs ρ = some ds ∧ ∀ vs H', Ext H H' → vs.length = ds.length → SI Γ (vs.zip ds ++ hold) ρ σ H' → Q vs H'
def tAE (Γ : Ctx) (W : WX) (fs : List EF) : TA := fun σ H Q => ∃ hold ρ, SI Γ hold ρ σ H ∧ hold.noBrw ∧ match evE fs ρ with
  | none => False
  | some (.ok ds ρ') => ∀ vs H', vs.length = ds.length → SI Γ (vs.zip ds ++ hold) ρ' σ H' → Q vs H'
  | some (.ex n xs ρ') => ∀ c od H', SI Γ hold ρ' σ H' → ExO Γ.cn H' n xs c od → W c od σ H'
section
variable {X : Cx} {Γ : Ctx} {W : WX} {e a b : Expr} {es : List Expr} {f g p : PF} {fs : List PF} {pos : Pos}
theorem a_nil : PA X [] (tA Γ []) := PA.wk pa_nil fun σ H Q ⟨hold, ρ, s, ds, e, k⟩ => by cases e; exact k [] H Ext.refl rfl s
theorem a_cons (ha : PE X e (tP Γ f)) (hr : PA X es (tA Γ fs)) (hs : starEach (e :: es) X.env = (false, eval e X.env) :: starEach es X.env := by rfl) : PA X (e :: es) (tA Γ (f :: fs)) :=
  PA.wk (pa_cons ha hr hs) fun σ H Q ⟨hold, ρ, s, ds, e, k⟩ => by
    rw [evL] at e
    split at e
    · rename_i d ds' e1 e2
      cases e
      refine ⟨hold, ρ, s, d, e1, fun v H1 x1 s1 => ⟨_, ρ, s1, ds', e2, fun vs H2 x2 l s2 => ?_⟩⟩
      exact k (v :: vs) H2 (x1.trans x2) (by rw [List.length_cons, List.length_cons, l]) s2.rot
    · cases e
theorem ae_nil : PA X [] (tAE Γ W []) := PA.wk pa_nil fun σ H Q ⟨hold, ρ, s, nb, k⟩ => k [] H rfl s
theorem ae_cons {f : EF} {fs : List EF} (ha : PE X e (tE Γ W f)) (hr : PA X es (tAE Γ W fs)) (hs : starEach (e :: es) X.env = (false, eval e X.env) :: starEach es X.env := by rfl) : PA X (e :: es) (tAE Γ W (f :: fs)) :=
  PA.wk (pa_cons ha hr hs) fun σ H Q ⟨hold, ρ, s, nb, k⟩ => by
    refine ⟨hold, ρ, s, nb, ?_⟩
    rw [evE] at k
    cases q : f ρ with
    | none => rw [q] at k; exact k.elim
    | some r1 =>
      rw [q] at k
      cases r1 with
      | ex n xs ρ1 => exact k
      | ok d ρ1 =>
        dsimp only at k ⊢
        intro v H1 s1
        by_cases hx : d.noBrw = true
        · rw [if_pos hx] at k
          refine ⟨_, ρ1, s1, noBrw_cons nb hx, ?_⟩
          cases q2 : evE fs ρ1 with
          | none => rw [q2] at k; exact k.elim
          | some r2 =>
            rw [q2] at k
            cases r2 with
            | ex n xs ρ2 => exact fun c od H' s' => k c od H' s'.drop
            | ok ds ρ2 =>
              dsimp only at k ⊢
              exact fun vs H2 l s2 => k (v :: vs) H2 (by rw [List.length_cons, List.length_cons, l]) s2.rot
        · rw [if_neg hx] at k; exact k.elim
/-! ### an operation of some things: r the rule, o the answer -/
abbrev ON := List D → Option D
def OpN (Γ : Ctx) (r : List V → Hp → VK → Prop) (o : ON) : Prop := ∀ (hold : Hold) (ρ : Env) (σ : L2.St) (H : Hp) (vs : List V) (ds : List D) (d : D) (Q : VK), o ds = some d → vs.length = ds.length → SI Γ (vs.zip ds ++ hold) ρ σ H → (∀ u H', Ext H H' → SI Γ ((u, d) :: hold) ρ σ H' → Q u H') → r vs H Q
def pN (o : ON) (fs : List PF) : PF := fun ρ => (evL fs ρ).bind o
def eN (o : ON) (fs : List EF) : EF := fun ρ => match evE fs ρ with
  | some (.ok ds ρ') => (o ds).map (.ok · ρ')
  | some (.ex n xs ρ') => some (.ex n xs ρ')
  | none => none
def tRule (r : List V → Hp → VK → Prop) (t : TA) : TE := fun σ H Q => t σ H fun vs H1 => r vs H1 Q
theorem tP_N {r : List V → Hp → VK → Prop} {o : ON} (ho : OpN Γ r o) (σ : L2.St) (H : Hp) (Q : VK) : tP Γ (pN o fs) σ H Q → tRule r (tA Γ fs) σ H Q := fun ⟨hold, ρ, s, d, e, k⟩ => by
  unfold pN at e
  obtain ⟨ds, e1, e2⟩ := Option.bind_eq_some_iff.mp e
  exact ⟨hold, ρ, s, ds, e1, fun vs H' x l s' => ho hold ρ σ H' vs ds d Q e2 l s' fun u H2 x2 s2 => k u H2 (x.trans x2) s2⟩
theorem tE_N {r : List V → Hp → VK → Prop} {o : ON} {fs : List EF} (ho : OpN Γ r o) (σ : L2.St) (H : Hp) (Q : VK) : tE Γ W (eN o fs) σ H Q → tRule r (tAE Γ W fs) σ H Q := fun ⟨hold, ρ, s, nb, k⟩ => by
  refine ⟨hold, ρ, s, nb, ?_⟩
  unfold eN at k
  cases q : evE fs ρ with
  | none => rw [q] at k; exact k.elim
  | some r1 =>
    rw [q] at k
    cases r1 with
    | ex n xs ρ1 => exact k
    | ok ds ρ1 =>
      dsimp only at k ⊢
      intro vs H' l s'
      cases q2 : o ds with
      | none => rw [q2] at k; exact k.elim
      | some d => rw [q2] at k; exact ho hold ρ1 σ H' vs ds d Q q2 l s' fun u H2 x2 s2 => k u H2 s2
/-! displays -/
def oTup : ON := fun ds => if ds.length ≤ sizeLine then some (.tup ds) else none
def oLst : ON := fun ds => if ds.length ≤ sizeLine then some (.lst .own ds) else none
theorem rep_new {K : PySem.W.Frag} {cn : Nm} {F : Addr → Prop} {H : Hp} {p : Addr} {ds : List D} {vs : List V} {fa : Fp} (e : H p = some (.lst vs)) (r : Reps K cn F H ds vs fa) : Rep K cn F H (.lst .own ds) (.ref p) (fun a => fa a + if a = p then 1 else 0) :=
  ⟨p, vs, fa, rfl, .inl ⟨e, fun _ => rfl⟩, r⟩
theorem oTup_ok : OpN Γ (fun xs H1 Q => xs.length ≤ sizeLine ∧ ∀ p, H1 p = none → Q (.ref p) (upd H1 p (.tup xs))) oTup := fun hold ρ σ H vs ds d Q e l s k => by
  unfold oTup at e
  split at e
  · rename_i z
    cases e
    exact ⟨by rw [l]; exact z, fun p hp => k _ _ (Ext.upd hp) (s.newBlock l hp fun F fa r => ⟨fa, fun a => Nat.le_add_right _ _, p, vs, rfl, upd_same, r⟩)⟩
  · cases e
theorem oLst_ok : OpN Γ (fun xs H1 Q => xs.length ≤ sizeLine ∧ ∀ p, H1 p = none → Q (.ref p) (upd H1 p (.lst xs))) oLst := fun hold ρ σ H vs ds d Q e l s k => by
  unfold oLst at e
  split at e
  · rename_i z
    cases e
    exact ⟨by rw [l]; exact z, fun p hp => k _ _ (Ext.upd hp) (s.newBlock l hp fun F fa r => ⟨_, fun a => Nat.le_refl _, rep_new upd_same r⟩)⟩
  · cases e
theorem d_tup {x1} (h : PA X es (tA Γ fs)) : PE X (.Tuple es x1 pos) (tP Γ (pN oTup fs)) := PE.wk (pe_tup h) (tP_N oTup_ok)
theorem e_tup {x1} {fs : List EF} (h : PA X es (tAE Γ W fs)) : PE X (.Tuple es x1 pos) (tE Γ W (eN oTup fs)) := PE.wk (pe_tup h) (tE_N oTup_ok)
theorem d_lst (h : PA X es (tA Γ fs)) : PE X (.List es pos) (tP Γ (pN oLst fs)) := PE.wk (pe_lst h) (tP_N oLst_ok)
theorem e_lst {fs : List EF} (h : PA X es (tAE Γ W fs)) : PE X (.List es pos) (tE Γ W (eN oLst fs)) := PE.wk (pe_lst h) (tE_N oLst_ok)

/-! ### items -/
def ixD : D → D → Option D
  | .lst _ ds, .int i => atI ds i
  | .tup ds, .int i => atI ds i
  | .str z, .int i => if z.length ≤ sizeLine then (atI z.cps.toList i).map fun c => .str ⟨#[c]⟩ else none
  | _, _ => none
theorem reps_at {K : PySem.W.Frag} {cn : Nm} {F : Addr → Prop} {H : Hp} {ds : List D} {vs : List V} {fp : Fp} {i : Int} {d : D} (r : Reps K cn F H ds vs fp) (e : atI ds i = some d) : ∃ v f, atI vs i = some v ∧ Rep K cn F H d v f ∧ ∀ a, f a ≤ fp a := by
  unfold atI at e ⊢
  rw [← r.len]
  cases q : ixN ds.length i with
  | none => rw [q] at e; cases e
  | some j => rw [q] at e; exact r.get e
theorem lst_le {K : PySem.W.Frag} {F : Addr → Prop} {H : Hp} {m : Mk} {a : Addr} {vs : List V} {fp f : Fp} (q : At F H m a (.lst vs) fp f ∨ (m = .ro ∧ KL K a vs ∧ (∀ b, f b = 0) ∧ ∀ b, fp b = 0)) : ∀ b, f b ≤ fp b := by
  rcases q with q | q
  · exact q.sub
  · intro b; have := q.2.2.1 b; omega

theorem ixD_ok : Op2 Γ (rIx Γ.K) ixD := fun hold ρ σ H v w x y d Q e s k => by
  obtain ⟨F, fp, gp, h1, h2, k1, _⟩ := s.open2
  unfold ixD at e
  split at e
  · obtain ⟨p, vs, f', ev, q, r⟩ := h1
    obtain ⟨u, f'', eu, hr, le⟩ := reps_at r e
    exact .inl ⟨p, vs, _, u, ev, h2.1, lst_sq q, eu, k u H Ext.refl (k1 _ _ f'' (fun a => by have := le a; have := lst_le q a; omega) hr)⟩
  · obtain ⟨p, vs, ev, q, r⟩ := h1
    obtain ⟨u, f'', eu, hr, le⟩ := reps_at r e
    exact .inr (.inl ⟨p, vs, _, u, ev, h2.1, SqT.of q, eu, k u H Ext.refl (k1 _ _ f'' (fun a => by have := le a; omega) hr)⟩)
  · split at e
    · rename_i z
      rw [Option.map_eq_some_iff] at e
      obtain ⟨c, ec, rfl⟩ := e
      exact .inr (.inr ⟨_, _, c, h1.1, h2.1, z, ec, k _ H Ext.refl (s.drop.drop.str _)⟩)
    · cases e
  · cases e
theorem d_ix (hK : X.K = Γ.K) (ha : PE X a (tP Γ f)) (hb : PE X b (tP Γ g)) (hs : PlainIx b) : PE X (.Subscript a b pos) (tP Γ (pB ixD f g)) := p_op (pe_ix ix_seq ha hb hs) (by rw [hK]; exact ixD_ok)
theorem e_ix {f g : EF} (hK : X.K = Γ.K) (ha : PE X a (tE Γ W f)) (hb : PE X b (tE Γ W g)) (hs : PlainIx b) : PE X (.Subscript a b pos) (tE Γ W (eB ixD f g)) := e_op (pe_ix ix_seq ha hb hs) (by rw [hK]; exact ixD_ok)

/-! ### slices -/
def cutL {α : Type} (xs : List α) (lo hi : Option Int) : List α := (xs.drop (HT.sIx xs.length 0 lo)).take (HT.sIx xs.length xs.length hi - HT.sIx xs.length 0 lo)
theorem cutL_V (xs : List V) (lo hi : Option Int) : cutV xs lo hi = cutL xs lo hi := rfl
theorem Reps.drop {K : PySem.W.Frag} {cn : Nm} {F : Addr → Prop} {H : Hp} : ∀ (n : Nat) {ds : List D} {vs : List V} {fp : Fp}, Reps K cn F H ds vs fp → ∃ f, (∀ a, f a ≤ fp a) ∧ Reps K cn F H (ds.drop n) (vs.drop n) f
  | 0, ds, vs, fp, h => ⟨fp, fun _ => Nat.le_refl _, h⟩
  | n + 1, [], vs, fp, h => ⟨fp, fun _ => Nat.le_refl _, by rw [h.1]; exact ⟨rfl, h.2⟩⟩
  | n + 1, d :: ds, vs, fp, ⟨v, r, f, g, e, s, h1, h2⟩ => by
    subst e
    obtain ⟨k, le, h⟩ := Reps.drop n h2
    exact ⟨k, fun a => by have := le a; have := s a; omega, h⟩
theorem Reps.take {K : PySem.W.Frag} {cn : Nm} {F : Addr → Prop} {H : Hp} : ∀ (n : Nat) {ds : List D} {vs : List V} {fp : Fp}, Reps K cn F H ds vs fp → ∃ f, (∀ a, f a ≤ fp a) ∧ Reps K cn F H (ds.take n) (vs.take n) f
  | 0, ds, vs, fp, h => ⟨fp0, fun _ => Nat.zero_le _, by rw [List.take_zero, List.take_zero]; exact ⟨rfl, fun _ => rfl⟩⟩
  | n + 1, [], vs, fp, h => ⟨fp, fun _ => Nat.le_refl _, by rw [h.1]; exact ⟨rfl, h.2⟩⟩
  | n + 1, d :: ds, vs, fp, ⟨v, r, f, g, e, s, h1, h2⟩ => by
    subst e
    obtain ⟨k, le, h⟩ := Reps.take n h2
    exact ⟨fun a => f a + k a, fun a => by have := le a; have := s a; show f a + k a ≤ _; omega, v, r.take n, f, k, rfl, fun _ => rfl, h1, h⟩
theorem Reps.cut {K : PySem.W.Frag} {cn : Nm} {F : Addr → Prop} {H : Hp} {ds : List D} {vs : List V} {fp : Fp} (h : Reps K cn F H ds vs fp) (lo hi : Option Int) : ∃ f, (∀ a, f a ≤ fp a) ∧ Reps K cn F H (cutL ds lo hi) (cutL vs lo hi) f := by
  unfold cutL
  rw [← h.len]
  obtain ⟨f, le, h1⟩ := h.drop (HT.sIx ds.length 0 lo)
  obtain ⟨g, le', h2⟩ := h1.take (HT.sIx ds.length ds.length hi - HT.sIx ds.length 0 lo)
  exact ⟨g, fun a => Nat.le_trans (le' a) (le a), h2⟩

/-- a part of a slice: an int or nothing -/
abbrev OF := Env → Option (Option Int)
def tO (Γ : Ctx) (p : OF) : TO := fun σ H Q => ∃ hold ρ, SI Γ hold ρ σ H ∧ ∃ i, p ρ = some i ∧ ∀ H', Ext H H' → SI Γ hold ρ σ H' → Q i H'
def oN : OF := fun _ => some none
def oS (f : PF) : OF := fun ρ => match f ρ with | some (.int i) => some (some i) | _ => none
theorem PO.wk {e : Option Expr} {t t' : TO} (h : PO X e t) (i : ∀ σ H Q, t' σ H Q → t σ H Q) : PO X e t' := ⟨fun pins s σ H Q I q => h.run pins s σ H Q I (i σ H Q q)⟩
theorem o_none : PO X none (tO Γ oN) := PO.wk po_none fun σ H Q ⟨hold, ρ, s, i, e, k⟩ => by cases e; exact k H Ext.refl s
theorem o_some (h : PE X e (tP Γ f)) : PO X (some e) (tO Γ (oS f)) := PO.wk (po_some h) fun σ H Q ⟨hold, ρ, s, i, e, k⟩ => by
  unfold oS at e
  split at e
  · rename_i j e1
    cases e
    exact ⟨hold, ρ, s, _, e1, fun v H1 x1 s1 => ⟨j, s1.topInt, k H1 x1 s1.drop⟩⟩
  · cases e
def cutD (x : D) (lo hi : Option Int) : Option D := match x with
  | .lst _ ds => some (.lst .own (cutL ds lo hi))
  | .str z => if z.length ≤ sizeLine then some (.str (cutS z lo hi)) else none
  | .tup ds => if HT.sIx ds.length 0 lo = 0 ∧ HT.sIx ds.length ds.length hi = ds.length then none else some (.tup (cutL ds lo hi))
  | _ => none
def dSl (f : PF) (l h : OF) : PF := fun ρ => match f ρ, l ρ, h ρ with
  | some x, some lo, some hi => cutD x lo hi
  | _, _, _ => none
theorem d_sl {lo hi : Option Expr} {l h : OF} {p2 : Pos} (hK : X.K = Γ.K) (ha : PE X a (tP Γ f)) (hl : PO X lo (tO Γ l)) (hh : PO X hi (tO Γ h)) : PE X (.Subscript a (.Slice lo hi none p2) pos) (tP Γ (dSl f l h)) :=
  PE.wk (pe_slice (SlR.or sl_list (SlR.or sl_str sl_tup)) ha hl hh) fun σ H Q ⟨hold, ρ, s, d, e, k⟩ => by
    unfold dSl at e
    split at e
    · rename_i x i j e1 e2 e3
      refine ⟨hold, ρ, s, x, e1, fun v H1 x1 s1 => ⟨_, ρ, s1, i, e2, fun H2 x2 s2 => ⟨_, ρ, s2, j, e3, fun H3 x3 s3 => ?_⟩⟩⟩
      have x13 := (x1.trans x2).trans x3
      obtain ⟨F, fp, h1, k1, k2⟩ := s3.open1
      rw [hK]
      unfold cutD at e
      split at e
      · cases e
        obtain ⟨p, vs, f', ev, q, r⟩ := h1
        obtain ⟨g, le, hc⟩ := r.cut i j
        refine .inl ⟨p, vs, ev, lst_sq q, fun t ht => k _ _ (x13.trans (Ext.upd ht)) (k2 t _ _ _ (fun a => g a + if a = t then 1 else 0) ht (fun a => by have := le a; have := lst_le q a; show g a + _ ≤ fp a + _; omega) (rep_new upd_same ?_))⟩
        rw [cutL_V]
        exact Reps.go (Ext.upd ht).keep _ _ _ (fun _ => trivial) (fun a o _ => Ext.upd ht a o) hc
      · split at e
        · rename_i z
          cases e
          exact .inr (.inl ⟨_, h1.1, z, k _ _ x13 (s3.drop.str _)⟩)
        · cases e
      · obtain ⟨p, vs, ev, q, r⟩ := h1
        split at e
        · cases e
        · rename_i ds hz
          cases e
          obtain ⟨g, le, hc⟩ := r.cut i j
          refine .inr (.inr ⟨p, vs, ev, SqT.of q, by rw [← r.len]; exact hz, fun t ht => k _ _ (x13.trans (Ext.upd ht)) (k2 t _ _ _ g ht (fun a => by have := le a; omega) ⟨t, _, rfl, upd_same, ?_⟩)⟩)
          rw [cutL_V]
          exact Reps.go (Ext.upd ht).keep _ _ _ (fun _ => trivial) (fun a o _ => Ext.upd ht a o) hc
      · cases e
    · cases e

/-! ### sums -/
def oAdd : O2
  | .int i, .int j => some (.int (i + j))
  | .str a, .str b => if a.length + b.length ≤ sizeLine then some (.str (a ++ b)) else none
  | .lst m ds, .lst n es => if m ≠ .ro ∧ n ≠ .ro ∧ ds.length + es.length ≤ sizeLine then some (.lst .own (ds ++ es)) else none
  | .tup ds, .tup es => if ds ≠ [] ∧ es ≠ [] ∧ ds.length + es.length ≤ sizeLine then some (.tup (ds ++ es)) else none
  | _, _ => none
def rAdd (K : PySem.W.Frag) : R2 := fun x y H Q => (∃ i j, x = .int i ∧ y = .int j ∧ Q (.int (i + j)) H) ∨ (∃ i j, x = .str i ∧ y = .str j ∧ i.length + j.length ≤ sizeLine ∧ Q (.str (i ++ j)) H) ∨ rCat x y H Q ∨ rCatT K x y H Q
theorem opr_add : OpR X (binaryOp .Add) (rAdd X.K) := OpR.or op_add (OpR.or op_add_str (OpR.or op_cat op_catT))
theorem lst_at {K : PySem.W.Frag} {F : Addr → Prop} {H : Hp} {m : Mk} {a : Addr} {vs : List V} {fp f : Fp} (q : At F H m a (.lst vs) fp f ∨ (m = .ro ∧ KL K a vs ∧ (∀ b, f b = 0) ∧ ∀ b, fp b = 0)) (hm : m ≠ .ro) : H a = some (.lst vs) := by
  rcases q with q | q
  · cases m with
    | own => exact q.1
    | frz => exact q.2.1
    | brw => exact q.1
    | ro => exact (hm rfl).elim
  · exact (hm q.1).elim
theorem oAdd_ok : Op2 Γ (rAdd Γ.K) oAdd := fun hold ρ σ H v w x y d Q e s k => by
  obtain ⟨F, fp, gp, h1, h2, k1, k2⟩ := s.open2
  unfold oAdd at e
  split at e
  · cases e
    exact .inl ⟨_, _, h1.1, h2.1, k _ H Ext.refl (s.drop.drop.int _)⟩
  · split at e
    · rename_i z
      cases e
      exact .inr (.inl ⟨_, _, h1.1, h2.1, z, k _ H Ext.refl (s.drop.drop.str _)⟩)
    · cases e
  · split at e
    · rename_i z
      cases e
      obtain ⟨p, vs, f', ev, q, r⟩ := h1
      obtain ⟨p2, vs2, f2, ev2, q2, r2⟩ := h2
      have hA := lst_at q z.1
      have hB := lst_at q2 z.2.1
      refine .inr (.inr (.inl ⟨p, p2, vs, vs2, ev, ev2, hA, hB, by rw [← r.len, ← r2.len]; exact z.2.2, fun t ht => k _ _ (Ext.upd ht) (k2 t _ _ _ (fun a => (f' a + f2 a) + if a = t then 1 else 0) ht (fun a => by have := lst_le q a; have := lst_le q2 a; show f' a + f2 a + _ ≤ _; omega) (rep_new upd_same ?_))⟩))
      exact Reps.go (Ext.upd ht).keep _ _ _ (fun _ => trivial) (fun a o _ => Ext.upd ht a o) (Reps.app r r2 fun _ => rfl)
    · cases e
  · split at e
    · rename_i z
      cases e
      obtain ⟨p, vs, ev, q, r⟩ := h1
      obtain ⟨p2, vs2, ev2, q2, r2⟩ := h2
      refine .inr (.inr (.inr ⟨p, p2, vs, vs2, ev, ev2, SqT.of q, SqT.of q2, ?_, by rw [← r.len, ← r2.len]; exact z.2.2, fun hn => ?_, fun hn t ht => ?_⟩))
      · intro e0; exact z.1 (List.eq_nil_of_length_eq_zero (by rw [r.len, e0]; rfl))
      · exact (z.2.1 (List.eq_nil_of_length_eq_zero (by rw [r2.len, hn]; rfl))).elim
      · refine k _ _ (Ext.upd ht) (k2 t _ _ _ (fun a => fp a + gp a) ht (fun a => Nat.le_add_right _ _) ⟨t, _, rfl, upd_same, ?_⟩)
        exact Reps.go (Ext.upd ht).keep _ _ _ (fun _ => trivial) (fun a o _ => Ext.upd ht a o) (Reps.app r r2 fun _ => rfl)
    · cases e
  · cases e
/-! ### in, not in -/
def flatD : D → Bool
  | .non => true | .bl _ => true | .int _ => true | .str _ => true | _ => false
def eqF : D → D → Bool
  | .non, .non => true
  | .bl a, .bl b => a == b
  | .bl a, .int b => (if a then 1 else 0) == b
  | .int a, .bl b => a == (if b then 1 else 0)
  | .int a, .int b => a == b
  | .str a, .str b => a == b
  | _, _ => false
def inD (x y : D) : Option Bool := match x, y with
  | .str c, .str z => if c.length = 1 then some (decide (c.cps.getD 0 0 ∈ z.cps.toList)) else none
  | x, .lst _ ds => if flatD x && ds.all flatD then some (ds.any fun y => eqF y x) else
      match py x, pys ds with
      | some p, some ps => if SeqAt.shaped p && SeqAt.shaped (.list ps) then some (ps.any fun z => PyData.eqv z p) else none
      | _, _ => none
  | x, .tup ds => if flatD x && ds.all flatD then some (ds.any fun y => eqF y x) else none
  | _, _ => none
def rInA (K : PySem.W.Frag) (neg : Bool) : R2 := fun x y H Q => (∃ (c : Nat) (z : Str), x = .str ⟨#[c]⟩ ∧ y = .str z ∧ Q (.bl (if neg then !decide (c ∈ z.cps.toList) else decide (c ∈ z.cps.toList))) H) ∨ rIn K neg x y H Q ∨
  ∃ d ds, Dp K H x d ∧ Dp K H y (.list ds) ∧ SeqAt.shaped d = true ∧ SeqAt.shaped (.list ds) = true ∧ Q (.bl (if neg then !ds.any fun z => PyData.eqv z d else ds.any fun z => PyData.eqv z d)) H
theorem opr_in (hu : X.A.units + 65 < cLine) : OpR X (compareOp .In) (rInA X.K false) := OpR.or op_in_sign (OpR.or op_in_seq (op_inD hu))
theorem opr_notin (hu : X.A.units + 65 < cLine) : OpR X (compareOp .NotIn) (rInA X.K true) := OpR.or op_notIn_sign (OpR.or op_notIn_seq (op_notInD hu))
def oIn (neg : Bool) (x y : D) : Option D := (inD x y).map fun b => .bl (if neg then !b else b)
theorem rep_flat {K : PySem.W.Frag} {cn : Nm} {F : Addr → Prop} {H : Hp} {x : D} {v : V} {fp : Fp} (h : Rep K cn F H x v fp) (hx : flatD x = true) : flatV v = true ∧ ∀ {y : D} {w : V} {gp : Fp}, Rep K cn F H y w gp → flatD y = true → eqV w v = eqF y x := by
  cases x <;> first | (cases hx; done) | (obtain rfl := h.1; refine ⟨rfl, fun {y w gp} h2 hy => ?_⟩; cases y <;> first | (cases hy; done) | (obtain rfl := h2.1; rfl))
theorem reps_flat {K : PySem.W.Frag} {cn : Nm} {F : Addr → Prop} {H : Hp} {x : D} {v : V} {fp : Fp} (h : Rep K cn F H x v fp) (hx : flatD x = true) : ∀ {ds : List D} {vs : List V} {f : Fp}, Reps K cn F H ds vs f → ds.all flatD = true → vs.all flatV = true ∧ inV v vs = ds.any fun y => eqF y x
  | [], vs, f, r, _ => by rw [r.1]; exact ⟨rfl, rfl⟩
  | d :: ds, vs, f, ⟨v', r, f1, g, e, s, h1, h2⟩, ha => by
    rw [List.all_cons, Bool.and_eq_true] at ha
    obtain ⟨a, b⟩ := reps_flat h hx h2 ha.2
    subst e
    refine ⟨by rw [List.all_cons, a, (rep_flat h1 ha.1).1]; rfl, ?_⟩
    show (eqV v' v || inV v r) = _
    rw [List.any_cons, b, (rep_flat h hx).2 h1 ha.1]
theorem oIn_ok {neg : Bool} : Op2 Γ (rInA Γ.K neg) (oIn neg) := fun hold ρ σ H v w x y d Q e s k => by
  unfold oIn at e
  rw [Option.map_eq_some_iff] at e
  obtain ⟨b, e, rfl⟩ := e
  obtain ⟨F, fp, gp, h1, h2, k1, k2⟩ := s.open2
  have q := k _ _ Ext.refl (s.drop.drop.bl _)
  unfold inD at e
  split at e
  · split at e
    · rename_i c z hc
      cases e
      refine .inl ⟨c.cps.getD 0 0, z, ?_, h2.1, q⟩
      rw [h1.1]
      obtain ⟨a⟩ := c
      have hc' : a.size = 1 := hc
      congr 2
      apply Array.ext
      · rw [hc']; rfl
      · intro i hi1 hi2
        have : i = 0 := by omega
        subst this
        show a[0] = a.getD 0 0
        rw [Array.getD, dif_pos hi1]
        rfl
    · cases e
  · split at e
    · rename_i hc
      cases e
      obtain ⟨p, vs, f', ev, z, r⟩ := h2
      obtain ⟨a1, a2⟩ := reps_flat h1 (and_l hc) r (and_r hc)
      exact .inr (.inl ⟨p, vs, ev, .inl (lst_sq z), (rep_flat h1 (and_l hc)).1, a1, by rw [a2]; exact q⟩)
    · split at e
      · rename_i e1 e2
        split at e
        · rename_i hc
          cases e
          refine .inr (.inr ⟨_, _, Rep.dp _ _ _ _ h1 e1, Rep.dp _ _ _ _ h2 ?_, and_l hc, and_r hc, q⟩)
          rw [py, e2]; rfl
        · cases e
      · cases e
  · split at e
    · rename_i hc
      cases e
      obtain ⟨p, vs, ev, z, r⟩ := h2
      obtain ⟨a1, a2⟩ := reps_flat h1 (and_l hc) r (and_r hc)
      exact .inr (.inl ⟨p, vs, ev, .inr (SqT.of z), (rep_flat h1 (and_l hc)).1, a1, by rw [a2]; exact q⟩)
    · cases e
  · cases e
end
end DL

end
section
/-! DL7: built-in calls. -/
open PySem PySem.Spec L2
namespace DL
section
variable {X : Cx} {Γ : Ctx} {W : WX} {e a b : Expr} {es : List Expr} {f g p : PF} {fs : List PF} {pos : Pos} {x : Str} {id : String} {px : Pos}
/-- a built-in function, a built-in class -/
theorem d_fn {r : List V → Hp → VK → Prop} {o : ON} (ho : OpN Γ r o) (hc : CallR X (.builtin id) r) (hg : Gl X x) (hm : X.mg x = none) (hv : bootBuiltins x = some (.builtin id)) (ha : PA X (e :: es) (tA Γ fs)) (hn : x ≠ "__name__" := by decide) (hdb : (x == ("__debug__" : Str)) = false := by decide)
    (he : starEach (e :: es) X.env = (false, eval e X.env) :: starEach es X.env := by rfl) (hpl : (backTo pos (starEach es X.env)).any (·.1) = false := by rfl) : PE X (.Call (.Name x px) (e :: es) [] pos) (tP Γ (pN o fs)) := PE.wk (pe_callB hc hg hm hv ha hn hdb he hpl) (tP_N ho)
theorem e_fn {r : List V → Hp → VK → Prop} {o : ON} {fs : List EF} (ho : OpN Γ r o) (hc : CallR X (.builtin id) r) (hg : Gl X x) (hm : X.mg x = none) (hv : bootBuiltins x = some (.builtin id)) (ha : PA X (e :: es) (tAE Γ W fs)) (hn : x ≠ "__name__" := by decide) (hdb : (x == ("__debug__" : Str)) = false := by decide)
    (he : starEach (e :: es) X.env = (false, eval e X.env) :: starEach es X.env := by rfl) (hpl : (backTo pos (starEach es X.env)).any (·.1) = false := by rfl) : PE X (.Call (.Name x px) (e :: es) [] pos) (tE Γ W (eN o fs)) := PE.wk (pe_callB hc hg hm hv ha hn hdb he hpl) (tE_N ho)
theorem d_ty {r : List V → Hp → VK → Prop} {o : ON} (ho : OpN Γ r o) (hc : CallR X (.type id) r) (hg : Gl X x) (hm : X.mg x = none) (hv : bootBuiltins x = some (.type id)) (ha : PA X (e :: es) (tA Γ fs)) (hn : x ≠ "__name__" := by decide) (hdb : (x == ("__debug__" : Str)) = false := by decide)
    (he : starEach (e :: es) X.env = (false, eval e X.env) :: starEach es X.env := by rfl) (hpl : (backTo pos (starEach es X.env)).any (·.1) = false := by rfl) : PE X (.Call (.Name x px) (e :: es) [] pos) (tP Γ (pN o fs)) := PE.wk (pe_callTy hc hg hm hv ha hn hdb he hpl) (tP_N ho)
theorem e_ty {r : List V → Hp → VK → Prop} {o : ON} {fs : List EF} (ho : OpN Γ r o) (hc : CallR X (.type id) r) (hg : Gl X x) (hm : X.mg x = none) (hv : bootBuiltins x = some (.type id)) (ha : PA X (e :: es) (tAE Γ W fs)) (hn : x ≠ "__name__" := by decide) (hdb : (x == ("__debug__" : Str)) = false := by decide)
    (he : starEach (e :: es) X.env = (false, eval e X.env) :: starEach es X.env := by rfl) (hpl : (backTo pos (starEach es X.env)).any (·.1) = false := by rfl) : PE X (.Call (.Name x px) (e :: es) [] pos) (tE Γ W (eN o fs)) := PE.wk (pe_callTy hc hg hm hv ha hn hdb he hpl) (tE_N ho)
/-- one thing on top of the hold -/
theorem one_of {hold : Hold} {ρ : Env} {σ : L2.St} {H : Hp} {vs : List V} {d : D} (l : vs.length = [d].length) (s : SI Γ (vs.zip [d] ++ hold) ρ σ H) : ∃ v, vs = [v] ∧ SI Γ ((v, d) :: hold) ρ σ H := by
  match vs, l with
  | [v], _ => exact ⟨v, rfl, s⟩
theorem two_of {hold : Hold} {ρ : Env} {σ : L2.St} {H : Hp} {vs : List V} {d e : D} (l : vs.length = [d, e].length) (s : SI Γ (vs.zip [d, e] ++ hold) ρ σ H) : ∃ v w, vs = [v, w] ∧ SI Γ ((v, d) :: (w, e) :: hold) ρ σ H := by
  match vs, l with
  | [v, w], _ => exact ⟨v, w, rfl, s⟩
/-- len -/
def oLen : ON
  | [.lst _ ds] => some (.int ds.length)
  | [.tup ds] => some (.int ds.length)
  | [.str z] => if z.length ≤ sizeLine then some (.int z.length) else none
  | _ => none
def rLenA (K : PySem.W.Frag) : List V → Hp → VK → Prop := fun xs H Q => (∃ x n, xs = [x] ∧ LenV K x H n ∧ Q (.int n) H) ∨ (∃ a kvs, xs = [.ref a] ∧ Rd H a (.dK kvs) ∧ Q (.int kvs.length) H)
theorem call_lenD : CallR X (.builtin "len") (fun xs H Q => ∃ a kvs, xs = [.ref a] ∧ Rd H a (.dK kvs) ∧ Q (.int kvs.length) H) := by
  intro pins s σ H xs us Q I r h
  obtain ⟨a, kvs, rfl, e, q⟩ := h
  obtain ⟨u, rfl, ru⟩ := vals1 r
  cases ru
  exact d_len I e fun t s' I' => ⟨.int _, H, I', ⟨t, rfl⟩, q⟩
theorem call_lenA : CallR X (.builtin "len") (rLenA X.K) := CallR.or call_len call_lenD
theorem oLen_ok : OpN Γ (rLenA Γ.K) oLen := fun hold ρ σ H vs ds d Q e l s k => by
  unfold oLen at e
  split at e
  · cases e
    obtain ⟨v, rfl, s⟩ := one_of l s
    obtain ⟨F, fp, h, _⟩ := s.open1
    obtain ⟨p, ws, f', ev, q, r⟩ := h
    subst ev
    exact .inl ⟨_, _, rfl, .inl ⟨ws, lst_sq q, r.len⟩, k _ H Ext.refl (s.drop.int _)⟩
  · cases e
    obtain ⟨v, rfl, s⟩ := one_of l s
    obtain ⟨F, fp, h, _⟩ := s.open1
    obtain ⟨p, ws, ev, q, r⟩ := h
    subst ev
    exact .inl ⟨_, _, rfl, .inr ⟨ws, SqT.of q, r.len⟩, k _ H Ext.refl (s.drop.int _)⟩
  · split at e
    · rename_i z
      cases e
      obtain ⟨v, rfl, s⟩ := one_of l s
      obtain rfl := s.topStr
      exact .inl ⟨_, _, rfl, ⟨z, rfl⟩, k _ H Ext.refl (s.drop.int _)⟩
    · cases e
  · cases e
/-- int of an int, a truth -/
def oInt : ON
  | [.int i] => some (.int i)
  | [.bl b] => some (.int (if b then 1 else 0))
  | _ => none
theorem oInt_ok : OpN Γ (fun xs H Q => (∃ i, xs = [.int i] ∧ Q (.int i) H) ∨ ∃ k, xs = [.bl k] ∧ Q (.int (if k then 1 else 0)) H) oInt := fun hold ρ σ H vs ds d Q e l s k => by
  unfold oInt at e
  split at e
  · cases e
    obtain ⟨v, rfl, s⟩ := one_of l s
    obtain rfl := s.topInt
    exact .inl ⟨_, rfl, k _ H Ext.refl (s.drop.int _)⟩
  · cases e
    obtain ⟨v, rfl, s⟩ := one_of l s
    obtain rfl := s.topBl
    exact .inr ⟨_, rfl, k _ H Ext.refl (s.drop.int _)⟩
  · cases e
/-- list of a list, a tuple -/
def oList : ON
  | [.lst _ ds] => some (.lst .own ds)
  | [.tup ds] => some (.lst .own ds)
  | _ => none
theorem oList_ok : OpN Γ (fun xs H Q => ∃ p ys, xs = [.ref p] ∧ (SqL Γ.K H p ys ∨ SqT Γ.K H p ys) ∧ ∀ l, H l = none → Q (.ref l) (upd H l (.lst ys))) oList := fun hold ρ σ H vs ds d Q e l s k => by
  unfold oList at e
  split at e
  · cases e
    obtain ⟨v, rfl, s⟩ := one_of l s
    obtain ⟨F, fp, h, k1, k2⟩ := s.open1
    obtain ⟨p, ws, f', ev, q, r⟩ := h
    subst ev
    refine ⟨p, ws, rfl, .inl (lst_sq q), fun t ht => k _ _ (Ext.upd ht) (k2 t _ _ _ (fun a => f' a + if a = t then 1 else 0) ht (fun a => by have := lst_le q a; show f' a + _ ≤ _; omega) (rep_new upd_same ?_))⟩
    exact Reps.go (Ext.upd ht).keep _ _ _ (fun _ => trivial) (fun a o _ => Ext.upd ht a o) r
  · cases e
    obtain ⟨v, rfl, s⟩ := one_of l s
    obtain ⟨F, fp, h, k1, k2⟩ := s.open1
    obtain ⟨p, ws, ev, q, r⟩ := h
    subst ev
    refine ⟨p, ws, rfl, .inr (SqT.of q), fun t ht => k _ _ (Ext.upd ht) (k2 t _ _ _ (fun a => fp a + if a = t then 1 else 0) ht (fun a => Nat.le_refl _) (rep_new upd_same ?_))⟩
    exact Reps.go (Ext.upd ht).keep _ _ _ (fun _ => trivial) (fun a o _ => Ext.upd ht a o) r
  · cases e
/-- isinstance with a built-in class -/
def tyD : D → Option String
  | .non => some "NoneType" | .bl _ => some "bool" | .int _ => some "int" | .str _ => some "str"
  | .tup _ => some "tuple" | .lst _ _ => some "list" | .dic .own _ _ => some "dict" | .dic .frz _ _ => some "dict" | .dic .brw _ _ => some "dict" | _ => none
/-- a built-in class as an argument: known when the term is written -/
def isiB (T : String) (x : D) : Option Bool := (tyD x).bind fun t => if t = T then some true else if T ∈ ["int", "str", "tuple", "list", "dict", "bool"] then some (decide (t = "bool") && decide (T = "int")) else none
theorem kit_all (K : PySem.W.Frag) : ∀ T ∈ ["int", "str", "tuple", "list", "dict", "bool"], ∀ t ∈ ["NoneType", "bool", "int", "str", "tuple", "list", "dict"], t ≠ T → PySem.W.kitOne K (.type t) (.type T) = some (decide (t = "bool") && decide (T = "int")) := by
  intro T hT t ht hne
  have h : kitB t T = some (decide (t = "bool") && decide (T = "int")) := by
    revert t T
    decide +kernel
  exact kit_ty h
theorem kit_same (K : PySem.W.Frag) (t : String) : PySem.W.kitOne K (.type t) (.type t) = some true := by
  unfold PySem.W.kitOne
  rw [if_pos (by simp)]
theorem tyX_of {K : PySem.W.Frag} {cn : Nm} {F : Addr → Prop} {H : Hp} {x : D} {v : V} {fp : Fp} {t : String} (h : Rep K cn F H x v fp) (ht : tyD x = some t) : TyX K H v (.type t) := by
  cases x with
  | non => cases ht; rw [h.1]; exact .base .non
  | bl b => cases ht; rw [h.1]; exact .base (.bl b)
  | int b => cases ht; rw [h.1]; exact .base (.int b)
  | str b => cases ht; rw [h.1]; exact .base (.str b)
  | cls n => cases ht
  | exc n fs => cases ht
  | ins m C ds => cases ht
  | tup ds =>
    cases ht
    obtain ⟨a, vs, e, q, _⟩ := h
    subst e
    exact .base (.tup q)
  | lst m ds =>
    cases ht
    obtain ⟨a, vs, f', e, q, _⟩ := h
    subst e
    rcases lst_sq q with (q | ⟨o, q⟩) | ⟨o, its, n, q1, q2, _⟩
    · exact .base (.lst q)
    · exact .base (.frz q)
    · exact .kList q1 q2
  | dic m kd ds =>
    obtain ⟨a, f', e, q⟩ := h
    subst e
    cases m with
    | ro => cases ht
    | own =>
      cases ht
      rcases q with ⟨hk9, kv, q, _⟩ | ⟨hk9, kv, q, _⟩
      · exact .base (.dK q.1)
      · exact .base (.dT q.1)
    | frz =>
      cases ht
      rcases q with ⟨hk9, kv, q, _⟩ | ⟨hk9, kv, q, _⟩
      · exact .base (.dK q.2.1)
      · exact .base (.dT q.2.1)
    | brw =>
      cases ht
      rcases q with ⟨hk9, kv, q, _⟩ | ⟨hk9, kv, q, _⟩
      · exact .base (.dK q.1)
      · exact .base (.dT q.1)
theorem isiB_ok {T : String} {K : PySem.W.Frag} {cn : Nm} {F : Addr → Prop} {H : Hp} {x : D} {v : V} {fp : Fp} {b : Bool} (h : Rep K cn F H x v fp) (e : isiB T x = some b) : ∃ t, TyX K H v (.type t) ∧ PySem.W.kitOne K (.type t) (.type T) = some b := by
  unfold isiB at e
  obtain ⟨t, e1, e2⟩ := Option.bind_eq_some_iff.mp e
  refine ⟨t, tyX_of h e1, ?_⟩
  split at e2
  · rename_i z
    cases e2
    rw [z]; exact kit_same K T
  · rename_i z
    split at e2
    · rename_i hT
      cases e2
      refine kit_all K T hT t ?_ z
      cases x <;> first | (simp [tyD] at e1 <;> subst e1 <;> simp; done) | (rename_i m _ _; cases m <;> simp [tyD] at e1 <;> subst e1 <;> simp)
    · cases e2
def pIsi (T : String) (f : PF) : PF := fun ρ => (f ρ).bind fun x => (isiB T x).map .bl
theorem d_isi {T : String} {y : Str} {p2 : Pos} (hK : X.K = Γ.K) (ha : PE X a (tP Γ f)) (hg : Gl X "isinstance") (hm : X.mg "isinstance" = none) (hv : bootBuiltins "isinstance" = some (.builtin "isinstance")) (hgy : Gl X y) (hmy : X.mg y = none) (hvy : bootBuiltins y = some (.type T)) (hny : y ≠ "__name__" := by decide) (hdy : (y == ("__debug__" : Str)) = false := by decide)
    (he : starEach [a, .Name y p2] X.env = (false, eval a X.env) :: starEach [.Name y p2] X.env := by rfl) (he2 : starEach [.Name y p2] X.env = (false, eval (.Name y p2) X.env) :: starEach [] X.env := by rfl) (hpl : (backTo pos (starEach [.Name y p2] X.env)).any (·.1) = false := by rfl) :
    PE X (.Call (.Name "isinstance" px) [a, .Name y p2] [] pos) (tP Γ (pIsi T f)) :=
  PE.wk (pe_callB call_isi hg hm hv (pa_cons ha (pa_cons (pe_bltn (v := .ty T) hgy hmy hvy rfl hny hdy) pa_nil he2) he) (by decide) (by decide) he hpl) fun σ H Q ⟨hold, ρ, s, d, e, k⟩ => by
    unfold pIsi at e
    obtain ⟨x, e1, e2⟩ := Option.bind_eq_some_iff.mp e
    rw [Option.map_eq_some_iff] at e2
    obtain ⟨b, e3, rfl⟩ := e2
    refine ⟨hold, ρ, s, x, e1, fun v H1 x1 s1 => ?_⟩
    obtain ⟨F, fp, h, _⟩ := s1.open1
    obtain ⟨t, h1, h2⟩ := isiB_ok h e3
    rw [hK]
    exact ⟨v, .ty T, .type t, .type T, b, rfl, .ty T, h1, h2, k _ H1 x1 (s1.drop.bl b)⟩
end
end DL

end
section
/-! DL8: statements. -/
open PySem PySem.Spec L2
namespace DL
/-! ### marks -/
mutual
theorem chk_rem (p : Mk → Bool) (f : Mk → Mk) : ∀ d : D, D.chk p (D.rem f d) = D.chk (fun m => p (f m)) d
  | .non => rfl
  | .bl _ => rfl
  | .int _ => rfl
  | .str _ => rfl
  | .cls _ => rfl
  | .exc n fs => chkF_rem p f fs
  | .tup ds => chkL_rem p f ds
  | .lst m ds => by show (_ && D.chkL p (D.remL f ds)) = (_ && _); rw [chkL_rem p f ds]
  | .dic m kd ds => by show (_ && D.chkK p (D.remK f ds)) = (_ && _); rw [chkK_rem p f ds]
  | .ins m C ds => by show (_ && D.chkF p (D.remF f ds)) = (_ && _); rw [chkF_rem p f ds]
theorem chkL_rem (p : Mk → Bool) (f : Mk → Mk) : ∀ ds : List D, D.chkL p (D.remL f ds) = D.chkL (fun m => p (f m)) ds
  | [] => rfl
  | d :: ds => by show (D.chk p (D.rem f d) && D.chkL p (D.remL f ds)) = (_ && _); rw [chk_rem p f d, chkL_rem p f ds]
theorem chkK_rem (p : Mk → Bool) (f : Mk → Mk) : ∀ ds : List (Ky × D), D.chkK p (D.remK f ds) = D.chkK (fun m => p (f m)) ds
  | [] => rfl
  | (k, d) :: ds => by show (D.chk p (D.rem f d) && D.chkK p (D.remK f ds)) = (_ && _); rw [chk_rem p f d, chkK_rem p f ds]
theorem chkF_rem (p : Mk → Bool) (f : Mk → Mk) : ∀ ds : List (Str × D), D.chkF p (D.remF f ds) = D.chkF (fun m => p (f m)) ds
  | [] => rfl
  | (k, d) :: ds => by show (D.chk p (D.rem f d) && D.chkF p (D.remF f ds)) = (_ && _); rw [chk_rem p f d, chkF_rem p f ds]
end
mutual
theorem chk_all (p : Mk → Bool) (h : ∀ m, p m = true) : ∀ d : D, D.chk p d = true
  | .non => rfl
  | .bl _ => rfl
  | .int _ => rfl
  | .str _ => rfl
  | .cls _ => rfl
  | .exc n fs => chkF_all p h fs
  | .tup ds => chkL_all p h ds
  | .lst m ds => by show (p m && D.chkL p ds) = true; rw [h, chkL_all p h ds]; rfl
  | .dic m kd ds => by show (p m && D.chkK p ds) = true; rw [h, chkK_all p h ds]; rfl
  | .ins m C ds => by show (p m && D.chkF p ds) = true; rw [h, chkF_all p h ds]; rfl
theorem chkL_all (p : Mk → Bool) (h : ∀ m, p m = true) : ∀ ds : List D, D.chkL p ds = true
  | [] => rfl
  | d :: ds => by show (D.chk p d && D.chkL p ds) = true; rw [chk_all p h d, chkL_all p h ds]; rfl
theorem chkK_all (p : Mk → Bool) (h : ∀ m, p m = true) : ∀ ds : List (Ky × D), D.chkK p ds = true
  | [] => rfl
  | (k, d) :: ds => by show (D.chk p d && D.chkK p ds) = true; rw [chk_all p h d, chkK_all p h ds]; rfl
theorem chkF_all (p : Mk → Bool) (h : ∀ m, p m = true) : ∀ ds : List (Str × D), D.chkF p ds = true
  | [] => rfl
  | (k, d) :: ds => by show (D.chk p d && D.chkF p ds) = true; rw [chk_all p h d, chkF_all p h ds]; rfl
end
theorem frz_noOwn (d : D) : d.frz.noOwn = true := by unfold D.noOwn D.frz; rw [chk_rem]; exact chk_all _ (fun m => by cases m <;> rfl) d
theorem frz_noBrw (d : D) : d.frz.noBrw = true := by unfold D.noBrw D.frz; rw [chk_rem]; exact chk_all _ (fun m => by cases m <;> rfl) d
theorem frzL_noOwn (ds : List D) : D.chkL (fun m => !m.isOwn) (D.remL fz ds) = true := by rw [chkL_rem]; exact chkL_all _ (fun m => by cases m <;> rfl) ds
theorem frzL_noBrw (ds : List D) : D.chkL (fun m => !m.isBrw) (D.remL fz ds) = true := by rw [chkL_rem]; exact chkL_all _ (fun m => by cases m <;> rfl) ds

section
variable {Γ : Ctx} {F F' : Addr → Prop} {fh fs fh' fs' : Fp} {hold hold' : Hold} {ρ ρ' : Env} {σ σ' : L2.St} {H H' : Hp}
theorem mut_some {o : Option HO} (h : Mut o) : o ≠ none := fun z => by rw [z] at h; exact h
/-- the top is frozen -/
theorem SI.freeze {v : V} {d : D} (s : SI Γ ((v, d) :: hold) ρ σ H) (hd : d.noBrw = true) : SI Γ ((v, d.frz) :: hold) ρ σ H := by
  obtain ⟨F, fh, fs, s⟩ := s
  obtain ⟨v', r, f, g, e, q, h1, h2⟩ := s.hh
  cases e
  have k : Keep F (fun a => F a ∨ 0 < f a) H H True := Keep.more fun a h => .inl h
  refine ⟨fun a => F a ∨ 0 < f a, g, fs, s.ice (f := f) (hold' := (v, d.frz) :: hold) (fun a h => h) (fun a h => .inl h) ⟨v, _, fp0, g, rfl, fun a => by show _ = 0 + _; omega, ?_, ?_⟩ ?_ (fun a => by have := q a; omega) s.mo fun a p => mut_some (Rep.alloc _ _ _ h1 a p)⟩
  · exact Rep.frz (fun a h => .inl h) d v f h1 (fun a p => .inr p) (fun z => by rw [hd] at z; cases z)
  · exact Reps.go k _ _ _ (fun _ => trivial) (fun a o _ h => h) h2
  · exact Slots.go k (fun a o _ h => h) s.ss
theorem SI.store {v : V} {d : D} (s : SI Γ ((v, d) :: hold) ρ σ H) (i : Nat) (hl : Γ.lv i = none) (hi : i < ρ.length) (hd : d.noBrw = true) (ho : Γ.own i = false → d.noOwn = true) : SI Γ hold (setS ρ i (some d)) (σ.set i (some v)) H := by
  obtain ⟨F, fh, fs, s⟩ := s
  obtain ⟨v', r, f, g, e, q, h1, h2⟩ := s.hh
  cases e
  obtain ⟨g', le, h3⟩ := Slots.put (fp' := fs) i v d s.ss hi hd h1
  refine ⟨F, g, g', s.re h2 h3 (fun a => by have := le a; have := q a; omega) (fun j x hx hj => ?_) fun j w hw => ?_⟩
  case refine_2 =>
    have hne : i ≠ j := by rintro rfl; rw [hl] at hw; cases hw
    rw [List.getElem?_set_ne hne]
    exact s.lk j w hw
  rcases getS_set hx with ⟨e1, e2⟩ | ⟨e1, e2⟩
  · cases e2; subst e1; exact ho hj
  · exact s.mo j x e2 hj
theorem SI.forget (s : SI Γ hold ρ σ H) (i : Nat) (x : Option V) (hl : σ.set i x = σ ∨ Γ.lv i = none) : SI Γ hold (setS ρ i none) (σ.set i x) H := by
  obtain ⟨F, fh, fs, s⟩ := s
  obtain ⟨g, le, h⟩ := Slots.drop i x s.ss
  refine ⟨F, fh, g, s.re s.hh h (fun a => by have := le a; omega) (fun j y hy hj => ?_) fun j w hw => ?_⟩
  case refine_2 =>
    rcases hl with hl | hl
    · rw [hl]; exact s.lk j w hw
    · have hne : i ≠ j := by rintro rfl; rw [hl] at hw; cases hw
      rw [List.getElem?_set_ne hne]
      exact s.lk j w hw
  rcases getS_set hy with ⟨e1, e2⟩ | ⟨e1, e2⟩
  · cases e2
  · exact s.mo j y e2 hj
/-- a slot's content is not known any more; the slot stays as it is -/
theorem SI.blind (s : SI Γ hold ρ σ H) (i : Nat) : SI Γ hold (setS ρ i none) σ H := by
  have e : σ.set i (σ[i]?.join) = σ := by
    cases q : σ[i]? with
    | none =>
      rw [List.set_eq_of_length_le]
      exact List.getElem?_eq_none_iff.mp q
    | some x =>
      obtain ⟨hl, e⟩ := List.getElem?_eq_some_iff.mp q
      show σ.set i x = σ
      rw [← e]
      exact List.set_getElem_self hl
  have h := s.forget i (σ[i]?.join) (.inl e)
  rw [e] at h; exact h
theorem SI.drop1 {x y : V × D} (s : SI Γ (x :: y :: hold) ρ σ H) : SI Γ (x :: hold) ρ σ H := by
  have := SI.perm (h1 := [x, y]) (h2 := hold) s
  have s2 : SI Γ (y :: hold ++ [x]) ρ σ H := by
    have := SI.perm (h1 := [x]) (h2 := y :: hold) s
    exact this
  have s3 : SI Γ (hold ++ [x]) ρ σ H := s2.drop
  exact SI.perm (h1 := hold) (h2 := [x]) s3
end

/-! ### statements -/
inductive Out where
  | nx (ρ : Env)
  | rt (d : D) (ρ : Env)
  | ex (n : Str) (fs : List (Str × D)) (ρ : Env)
abbrev SF := Env → Option Out
def Good (Γ : Ctx) (W : WX) (hold : Hold) (D : Ends) : Option Out → Prop
  | none => False
  | some (.nx ρ') => ∀ σ' H', SI Γ hold ρ' σ' H' → D.nx σ' H'
  | some (.rt d ρ') => ∀ v σ' H', SI Γ ((v, d) :: hold) ρ' σ' H' → D.rt v H'
  | some (.ex n fs ρ') => ∀ c od σ' H', SI Γ hold ρ' σ' H' → ExO Γ.cn H' n fs c od → W c od σ' H'
def tS (Γ : Ctx) (W : WX) (g : SF) : TS := fun D σ H => ∃ hold ρ, SI Γ hold ρ σ H ∧ hold.noBrw ∧ Good Γ W hold D (g ρ)
theorem PS.wk {X : Cx} {e : Stmt} {t t' : TS} (h : PS X e t) (i : ∀ D σ H, t' D σ H → t D σ H) : PS X e t' := ⟨fun pins s σ H D I q => h.run pins s σ H D I (i D σ H q)⟩
theorem PSs.wk {X : Cx} {e : List Stmt} {t t' : TS} (h : PSs X e t) (i : ∀ D σ H, t' D σ H → t D σ H) : PSs X e t' := ⟨fun pins s σ H D I q => h.run pins s σ H D I (i D σ H q)⟩
section
variable {X : Cx} {Γ : Ctx} {W : WX} {e a b : Expr} {f : EF} {pos : Pos} {st : Stmt} {rest : List Stmt} {g h : SF}
def sNil : SF := fun ρ => some (.nx ρ)
def sSeq (g h : SF) : SF := fun ρ => match g ρ with | some (.nx ρ') => h ρ' | r => r
theorem ss_nil : PSs X [] (tS Γ W sNil) := PSs.wk pss_nil fun D σ H ⟨hold, ρ, s, nb, k⟩ => k σ H s
theorem ss_cons (h1 : PS X st (tS Γ W g)) (h2 : PSs X rest (tS Γ W h)) : PSs X (st :: rest) (tS Γ W (sSeq g h)) :=
  PSs.wk (pss_cons h1 h2) fun D σ H ⟨hold, ρ, s, nb, k⟩ => by
    refine ⟨hold, ρ, s, nb, ?_⟩
    unfold sSeq at k
    cases q : g ρ with
    | none => rw [q] at k; exact k
    | some o =>
      rw [q] at k
      cases o with
      | nx ρ' => exact fun σ' H' s' => ⟨hold, ρ', s', nb, k⟩
      | rt d ρ' => exact k
      | ex n fs ρ' => exact k
theorem ss_one (h1 : PS X st (tS Γ W g)) : PSs X [st] (tS Γ W g) := pss_one h1
theorem s_pass : PS X (.Pass pos) (tS Γ W sNil) := PS.wk ps_pass fun D σ H ⟨hold, ρ, s, nb, k⟩ => k σ H s
theorem s_doc {x j pos pos'} : PS X (.Expr (.Constant (.str x) j pos) pos') (tS Γ W sNil) := PS.wk ps_doc fun D σ H ⟨hold, ρ, s, nb, k⟩ => k σ H s
/-- what is not come to -/
def sStuck : SF := fun _ => none
theorem s_stuck : PS X st (tS Γ W sStuck) := PS.wk ps_never fun D σ H ⟨hold, ρ, s, nb, k⟩ => k.elim
theorem ss_stuck {sts : List Stmt} : PSs X sts (tS Γ W sStuck) := PSs.wk pss_never fun D σ H ⟨hold, ρ, s, nb, k⟩ => k.elim
/-- e; -/
def sExpr (f : EF) : SF := fun ρ => match f ρ with
  | some (.ok _ ρ') => some (.nx ρ')
  | some (.ex n fs ρ') => some (.ex n fs ρ')
  | none => none
theorem s_expr (he : PE X e (tE Γ W f)) (hs : swapsWith e none pos.line X.env = pure false := by rfl) : PS X (.Expr e pos) (tS Γ W (sExpr f)) :=
  PS.wk (ps_expr he hs) fun D σ H ⟨hold, ρ, s, nb, k⟩ => by
    refine ⟨hold, ρ, s, nb, ?_⟩
    unfold sExpr at k
    cases q : f ρ with
    | none => rw [q] at k; exact k
    | some o =>
      rw [q] at k
      cases o with
      | ok d ρ' => exact fun v H' s' => k σ H' s'.drop
      | ex n fs ρ' => exact fun c od H' s' => k c od σ H' s'
/-- return e -/
def sRet (f : EF) : SF := fun ρ => match f ρ with
  | some (.ok d ρ') => some (.rt d ρ')
  | some (.ex n fs ρ') => some (.ex n fs ρ')
  | none => none
theorem s_ret (he : PE X e (tE Γ W f)) : PS X (.Return (some e) pos) (tS Γ W (sRet f)) :=
  PS.wk (ps_ret he) fun D σ H ⟨hold, ρ, s, nb, k⟩ => by
    refine ⟨hold, ρ, s, nb, ?_⟩
    unfold sRet at k
    cases q : f ρ with
    | none => rw [q] at k; exact k
    | some o =>
      rw [q] at k
      cases o with
      | ok d ρ' => exact fun v H' s' => k v σ H' s'
      | ex n fs ρ' => exact fun c od H' s' => k c od σ H' s'
def sRetN : SF := fun ρ => some (.rt .non ρ)
theorem s_retN : PS X (.Return none pos) (tS Γ W sRetN) := PS.wk ps_retN fun D σ H ⟨hold, ρ, s, nb, k⟩ => k _ σ H s.non
/-- x = e: frozen; still changeable -/
def sF (i : Nat) (f : EF) : SF := fun ρ => match f ρ with
  | some (.ok d ρ') => if d.noBrw = true ∧ i < ρ'.length then some (.nx (setS ρ' i (some d.frz))) else none
  | some (.ex n fs ρ') => some (.ex n fs ρ')
  | none => none
def sO (i : Nat) (f : EF) : SF := fun ρ => match f ρ with
  | some (.ok d ρ') => if d.noBrw = true ∧ i < ρ'.length then some (.nx (setS ρ' i (some d))) else none
  | some (.ex n fs ρ') => some (.ex n fs ρ')
  | none => none
theorem s_f {i : Nat} {x : Str} {pos' : Pos} (hl : Γ.lv i = none) (hN : X.N.Nodup) (hi : X.N[i]? = some x) (hx : Loc X.env.scope x) (he : PE X e (tE Γ W f)) (hs : swapsWith e (some (.Name x pos')) pos.line X.env = pure false := by rfl) (hf : X.fn x = true ∨ X.env.scope.names.lookup x = some .local := by first | exact .inl rfl | exact .inr rfl | assumption) :
    PS X (.Assign [.Name x pos'] e pos) (tS Γ W (sF i f)) :=
  PS.wk (ps_set hN hi hx he hs hf) fun D σ H ⟨hold, ρ, s, nb, k⟩ => by
    refine ⟨hold, ρ, s, nb, ?_⟩
    unfold sF at k
    cases q : f ρ with
    | none => rw [q] at k; exact k
    | some o =>
      rw [q] at k
      cases o with
      | ok d ρ' =>
        dsimp only at k ⊢
        intro v H' s'
        by_cases hc : d.noBrw = true ∧ i < ρ'.length
        · rw [if_pos hc] at k
          exact k _ H' ((s'.freeze hc.1).store i hl hc.2 (frz_noBrw d) fun _ => frz_noOwn d)
        · rw [if_neg hc] at k; exact k.elim
      | ex n fs ρ' => exact fun c od H' s' => k c od σ H' s'
theorem s_o {i : Nat} {x : Str} {pos' : Pos} (hl : Γ.lv i = none) (ho : Γ.own i = true) (hN : X.N.Nodup) (hi : X.N[i]? = some x) (hx : Loc X.env.scope x) (he : PE X e (tE Γ W f)) (hs : swapsWith e (some (.Name x pos')) pos.line X.env = pure false := by rfl) (hf : X.fn x = true ∨ X.env.scope.names.lookup x = some .local := by first | exact .inl rfl | exact .inr rfl | assumption) :
    PS X (.Assign [.Name x pos'] e pos) (tS Γ W (sO i f)) :=
  PS.wk (ps_set hN hi hx he hs hf) fun D σ H ⟨hold, ρ, s, nb, k⟩ => by
    refine ⟨hold, ρ, s, nb, ?_⟩
    unfold sO at k
    cases q : f ρ with
    | none => rw [q] at k; exact k
    | some o =>
      rw [q] at k
      cases o with
      | ok d ρ' =>
        dsimp only at k ⊢
        intro v H' s'
        by_cases hc : d.noBrw = true ∧ i < ρ'.length
        · rw [if_pos hc] at k
          exact k _ H' (s'.store i hl hc.2 hc.1 fun z => by rw [ho] at z; cases z)
        · rw [if_neg hc] at k; exact k.elim
      | ex n fs ρ' => exact fun c od H' s' => k c od σ H' s'
/-- if -/
def sIf (t : TF) (g h : SF) : SF := fun ρ => match t ρ with
  | some (.ok true ρ') => g ρ'
  | some (.ok false ρ') => h ρ'
  | some (.ex n fs ρ') => some (.ex n fs ρ')
  | none => none
theorem s_if {c : Expr} {t : TF} {ts es : List Stmt} (hc : PT X c (tT Γ W t)) (ha : PSs X ts (tS Γ W g)) (hb : PSs X es (tS Γ W h)) : PS X (.If c ts es pos) (tS Γ W (sIf t g h)) :=
  PS.wk (ps_if hc ha hb) fun D σ H ⟨hold, ρ, s, nb, k⟩ => by
    refine ⟨hold, ρ, s, nb, ?_⟩
    unfold sIf at k
    cases q : t ρ with
    | none => rw [q] at k; exact k
    | some o =>
      rw [q] at k
      cases o with
      | ok c ρ' =>
        cases c with
        | true => exact fun H' s' => iT ⟨hold, ρ', s', nb, k⟩
        | false => exact fun H' s' => iF ⟨hold, ρ', s', nb, k⟩
      | ex n fs ρ' => exact fun c od H' s' => k c od σ H' s'
/-- while -/
def whileN (t : TF) (g : SF) : Nat → SF
  | 0, _ => none
  | n + 1, ρ => match t ρ with
    | some (.ok true ρ') => (match g ρ' with
      | some (.nx ρ2) => whileN t g n ρ2
      | r => r)
    | some (.ok false ρ') => some (.nx ρ')
    | some (.ex m fs ρ') => some (.ex m fs ρ')
    | none => none
def fuel : Nat := 1000000000000
def sWhile (t : TF) (g : SF) : SF := whileN t g fuel
theorem s_while {c : Expr} {t : TF} {ts : List Stmt} (hp : PassesOwn (model X.prog X.w) X.A X.env X.xe) (hc : PT X c (tT Γ W t)) (ha : PSs X ts (tS Γ W g)) : PS X (.While c ts [] pos) (tS Γ W (sWhile t g)) :=
  PS.wk (ps_while hp hc ha) fun D σ H ⟨hold, ρ, s, nb, k⟩ => by
    refine ⟨fun m σ H => ∃ ρ, SI Γ hold ρ σ H ∧ Good Γ W hold D (whileN t g m ρ), ⟨fuel, ρ, s, k⟩, ?_⟩
    rintro m σ H ⟨ρ, s, k⟩
    refine ⟨hold, ρ, s, nb, ?_⟩
    cases m with
    | zero => exact k.elim
    | succ n =>
      unfold whileN at k
      cases q : t ρ with
      | none => rw [q] at k; exact k
      | some o =>
        rw [q] at k
        cases o with
        | ok c ρ' =>
          cases c with
          | true =>
            dsimp only at k ⊢
            refine fun H' s' => iT ⟨fun σ2 H2 => ∃ ρ2, SI Γ hold ρ2 σ2 H2 ∧ Good Γ W hold D (whileN t g n ρ2), fun σ2 H2 h2 => ⟨n, Nat.lt_succ_self n, h2⟩, hold, ρ', s', nb, ?_⟩
            cases q2 : g ρ' with
            | none => rw [q2] at k; exact k
            | some o2 =>
              rw [q2] at k
              cases o2 with
              | nx ρ2 => exact fun σ2 H2 s2 => ⟨ρ2, s2, k⟩
              | rt d ρ2 => exact k
              | ex n fs ρ2 => exact k
          | false => exact fun H' s' => iF (k σ H' s')
        | ex n fs ρ' => exact fun c od H' s' => k c od σ H' s'
end
end DL

end
section
/-! DL9: targets, what is walked, for. -/
open PySem PySem.Spec L2
namespace DL
/-! ### targets -/
abbrev BF := D → Env → Option Env
/-- the same slots but these -/
def But (is : List Nat) (σ σ' : L2.St) : Prop := σ'.length = σ.length ∧ ∀ j, j ∉ is → σ'[j]? = σ[j]?
theorem But.refl {is : List Nat} {σ : L2.St} : But is σ σ := ⟨rfl, fun _ _ => rfl⟩
theorem But.trans {is js : List Nat} {σ σ1 σ2 : L2.St} (a : But is σ σ1) (b : But js σ1 σ2) : But (is ++ js) σ σ2 := ⟨b.1.trans a.1, fun j h => (b.2 j fun z => h (List.mem_append_right _ z)).trans (a.2 j fun z => h (List.mem_append_left _ z))⟩
def tB (Γ : Ctx) (is : List Nat) (b : BF) : TG := fun v σ H Q => ∃ hold ρ d, SI Γ ((v, d) :: hold) ρ σ H ∧ d.noBrw = true ∧ d.noOwn = true ∧ ∃ ρ', b d ρ = some ρ' ∧ ∀ σ', But is σ σ' → SI Γ hold ρ' σ' H → Q σ' H
abbrev BFs := List D → Env → Option Env
def tBs (Γ : Ctx) (is : List Nat) (b : BFs) : TGs := fun vs σ H Q => ∃ hold ρ ds, SI Γ (vs.zip ds ++ hold) ρ σ H ∧ vs.length = ds.length ∧ D.chkL (fun m => !m.isBrw) ds = true ∧ D.chkL (fun m => !m.isOwn) ds = true ∧ ∃ ρ', b ds ρ = some ρ' ∧ ∀ σ', But is σ σ' → SI Γ hold ρ' σ' H → Q σ' H
theorem PG.wk {X : Cx} {e : Expr} {t t' : TG} (h : PG X e t) (i : ∀ v σ H Q, t' v σ H Q → t v σ H Q) : PG X e t' := ⟨fun pins s σ H v u Q I r q => h.run pins s σ H v u Q I r (i v σ H Q q)⟩
theorem PGs.wk {X : Cx} {e : List Expr} {t t' : TGs} (h : PGs X e t) (i : ∀ v σ H Q, t' v σ H Q → t v σ H Q) : PGs X e t' := ⟨fun pins s σ H v u Q I r q => h.run pins s σ H v u Q I r (i v σ H Q q)⟩
def bN (i : Nat) : BF := fun d ρ => if i < ρ.length then some (setS ρ i (some d)) else none
def bsNil : BFs := fun ds ρ => match ds with | [] => some ρ | _ => none
def bsCons (b : BF) (bs : BFs) : BFs := fun ds ρ => match ds with | d :: ds => (b d ρ).bind (bs ds) | [] => none
def bT (bs : BFs) : BF := fun d ρ => match d with | .tup ds => bs ds ρ | _ => none
section
variable {X : Cx} {Γ : Ctx} {W : WX} {pos : Pos}
theorem b_n {i : Nat} {x : Str} (hlv : Γ.lv i = none) (hN : X.N.Nodup) (hi : X.N[i]? = some x) (hx : Loc X.env.scope x) (hf : X.fn x = true ∨ X.env.scope.names.lookup x = some .local := by first | exact .inl rfl | exact .inr rfl | assumption) : PG X (.Name x pos) (tB Γ [i] (bN i)) :=
  PG.wk (pg_name hN hi hx hf) fun v σ H Q ⟨hold, ρ, d, s, nb, no, ρ', e, k⟩ => by
    unfold bN at e
    split at e
    · rename_i hl
      cases e
      exact k _ ⟨List.length_set, fun j hj => List.getElem?_set_ne (fun z => hj (by rw [z]; exact List.mem_cons_self))⟩ (s.store i hlv hl nb fun _ => no)
    · cases e
theorem bs_nil : PGs X [] (tBs Γ [] bsNil) := PGs.wk pgs_nil fun vs σ H Q ⟨hold, ρ, ds, s, l, nb, no, ρ', e, k⟩ => by
  unfold bsNil at e
  split at e
  · cases e
    have : vs = [] := List.eq_nil_of_length_eq_zero l
    subst this
    exact ⟨rfl, k σ But.refl s⟩
  · cases e
theorem bs_cons {e : Expr} {es : List Expr} {b : BF} {bs : BFs} {is js : List Nat} (h1 : PG X e (tB Γ is b)) (h2 : PGs X es (tBs Γ js bs)) (hs : (assignEach (e :: es) X.env).map (·.2) = assign e X.env :: (assignEach es X.env).map (·.2) := by rfl) : PGs X (e :: es) (tBs Γ (is ++ js) (bsCons b bs)) :=
  PGs.wk (pgs_cons h1 h2 hs) fun vs σ H Q ⟨hold, ρ, ds, s, l, nb, no, ρ', e, k⟩ => by
    unfold bsCons at e
    split at e
    · rename_i d ds
      obtain ⟨ρ1, e1, e2⟩ := Option.bind_eq_some_iff.mp e
      match vs, l with
      | v :: vs, l =>
        exact ⟨v, vs, rfl, vs.zip ds ++ hold, ρ, d, s, and_l nb, and_l no, ρ1, e1, fun σ1 b1 s1 => ⟨hold, ρ1, ds, s1, by simpa using l, and_r nb, and_r no, ρ', e2, fun σ2 b2 s2 => k σ2 (b1.trans b2) s2⟩⟩
    · cases e
theorem b_tup {es : List Expr} {k : Nat} {bs : BFs} {n : Nat} {is : List Nat} (hK : X.K = Γ.K) (hc : X.calm = true) (h : PGs X es (tBs Γ is bs)) (hb : ∀ ds ρ ρ', bs ds ρ = some ρ' → ds.length = n)
    (hn : (assignEach es X.env).length = n := by rfl) (hst : (assignEach es X.env).findIdx? (·.1) = none := by rfl) : PG X (.Tuple es k pos) (tB Γ is (bT bs)) :=
  PG.wk (pg_tup hc h hn hst) fun v σ H Q ⟨hold, ρ, d, s, nb, no, ρ', e, k⟩ => by
    unfold bT at e
    split at e
    · rename_i ds
      obtain ⟨F, fh, fs, s⟩ := s
      obtain ⟨v', r, f, g, e1, q, ⟨a, vs, ev, hq, hr⟩, h2⟩ := s.hh
      cases e1
      have l : vs.length = ds.length := hr.len.symm
      refine ⟨a, vs, ev, by rw [hK]; exact SqT.of hq, by rw [l]; exact hb ds ρ ρ' e, hold, ρ, ds, ⟨F, fh, fs, s.re ?_ s.ss (fun _ => Nat.le_refl _) s.mo⟩, l, nb, no, ρ', e, k⟩
      rw [List.map_append, List.map_append, zip_fst l, zip_snd l]
      exact Reps.app hr h2 q
    · cases e
theorem bsNil_len : ∀ ds ρ ρ', bsNil ds ρ = some ρ' → ds.length = 0 := fun ds ρ ρ' e => by
  unfold bsNil at e
  split at e
  · rfl
  · cases e
theorem bsCons_len {b : BF} {bs : BFs} {n : Nat} (h : ∀ ds ρ ρ', bs ds ρ = some ρ' → ds.length = n) : ∀ ds ρ ρ', bsCons b bs ds ρ = some ρ' → ds.length = n + 1 := fun ds ρ ρ' e => by
  unfold bsCons at e
  split at e
  · obtain ⟨ρ1, e1, e2⟩ := Option.bind_eq_some_iff.mp e
    rw [List.length_cons, h _ _ _ e2]
  · cases e

/-! ### what is walked -/
/-- the thing that is held meanwhile, its items -/
abbrev IF := Env → Option (Res (D × List D))
def Walks (Γ : Ctx) (J : It) (v : V) (d : D) (ds : List D) : Prop := ∀ hold ρ σ H, SI Γ ((v, d) :: hold) ρ σ H →
  (∀ i di, ds[i]? = some di → J.go i H ∧ ∀ x H', J.yld i H x H' → Ext H H' ∧ SI Γ ((x, di) :: (v, d) :: hold) ρ σ H') ∧ (∀ i, ds.length ≤ i → J.stop i H)
def tI (Γ : Ctx) (W : WX) (q : IF) : TI := fun σ H R => ∃ hold ρ, SI Γ hold ρ σ H ∧ hold.noBrw ∧ match q ρ with
  | none => False
  | some (.ok (d, ds) ρ') => ∀ v J H', SI Γ ((v, d) :: hold) ρ' σ H' → d.noBrw = true → D.chkL (fun m => !m.isBrw) ds = true → D.chkL (fun m => !m.isOwn) ds = true → Walks Γ J v d ds → R J H'
  | some (.ex n fs ρ') => ∀ c od H', SI Γ hold ρ' σ H' → ExO Γ.cn H' n fs c od → W c od σ H'
theorem PI.wk {X : Cx} {tg e : Expr} {t t' : TI} (h : PI X tg e t) (i : ∀ σ H R, t' σ H R → t σ H R) : PI X tg e t' := ⟨fun pins s σ H R I q => h.run pins s σ H R I (i σ H R q)⟩
theorem PI.or {X : Cx} {tg e : Expr} {t t' : TI} (h : PI X tg e t) (h' : PI X tg e t') : PI X tg e (fun σ H R => t σ H R ∨ t' σ H R) := ⟨fun pins s σ H R I q => q.elim (fun q => h.run pins s σ H R I q) fun q => h'.run pins s σ H R I q⟩
/-- a list, a tuple -/
def itemsD : D → Option (List D)
  | .lst _ ds => some ds
  | .tup ds => some ds
  | _ => none
def iSeq (f : EF) : IF := fun ρ => match f ρ with
  | some (.ok d ρ') => if d.noBrw = true then (itemsD d.frz).map fun ds => .ok (d.frz, ds) ρ' else none
  | some (.ex n fs ρ') => some (.ex n fs ρ')
  | none => none
theorem i_seq {tg l : Expr} {f : EF} (hK : X.K = Γ.K) (hl : PE X l (tE Γ W f)) : PI X tg l (tI Γ W (iSeq f)) :=
  PI.wk (PI.or (pi_list hl) (pi_tup hl)) fun σ H R ⟨hold, ρ, s, nb, k⟩ => by
    unfold iSeq at k
    cases q : f ρ with
    | none => rw [q] at k; exact k.elim
    | some o =>
      rw [q] at k
      cases o with
      | ex n fs ρ' =>
        refine .inl ⟨hold, ρ, s, nb, ?_⟩
        rw [q]; exact k
      | ok d ρ' =>
        dsimp only at k
        by_cases hd : d.noBrw = true
        · rw [if_pos hd] at k
          have nbk := frz_noBrw d
          have nok := frz_noOwn d
          cases d with
          | lst m ds =>
            refine .inl ⟨hold, ρ, s, nb, ?_⟩
            rw [q]
            dsimp only
            intro v H' s'
            have s2 := s'.freeze hd
            obtain ⟨F, f1, ⟨a, vs, f2, ev, hq, hr⟩, _⟩ := s2.open1
            subst ev
            refine ⟨a, rfl, ⟨vs, by rw [hK]; exact lst_sq hq⟩, k (.ref a) (Itl X.K a) H' s2 nbk (and_r nbk) (and_r nok) ?_⟩
            intro hold2 ρ2 σ2 H2 z
            obtain ⟨F2, fh, fs, z⟩ := z
            obtain ⟨v', r, f3, g3, e1, q1, h1, h2⟩ := z.hh
            cases e1
            have h1' := h1
            obtain ⟨a', ws, f4, ev', hq', hr'⟩ := h1'
            cases ev'
            refine ⟨fun i di hi => ?_, fun i hi => ⟨ws, by rw [hK]; exact lst_sq hq', by rw [← hr'.len]; exact hi⟩⟩
            obtain ⟨w, f5, ew, hw, lw⟩ := hr'.get hi
            refine ⟨⟨ws, w, by rw [hK]; exact lst_sq hq', ew⟩, fun x H3 y => ?_⟩
            obtain ⟨e3, y⟩ := y
            subst e3
            have ex : x = w := by
              have := y ws (by rw [hK]; exact lst_sq hq')
              rw [ew] at this; exact (Option.some.inj this).symm
            subst ex
            refine ⟨Ext.refl, F2, fh, fs, z.re ⟨x, _, fp0, fh, rfl, fun a => by show _ = 0 + _; omega, ?_, z.hh⟩ z.ss (fun _ => Nat.le_refl _) z.mo z.lk⟩
            have : f5 = fp0 := funext fun b => by
              have := lw b
              have := Reps.zero _ _ _ hr' (and_r nok) b
              show f5 b = 0; omega
            rw [← this]; exact hw
          | tup ds =>
            refine .inr ⟨hold, ρ, s, nb, ?_⟩
            rw [q]
            dsimp only
            intro v H' s'
            have s2 := s'.freeze hd
            obtain ⟨F, f1, ⟨a, vs, ev, hq, hr⟩, _⟩ := s2.open1
            subst ev
            refine ⟨a, rfl, ⟨vs, by rw [hK]; exact SqT.of hq⟩, k (.ref a) (Itt X.K a) H' s2 nbk nbk nok ?_⟩
            intro hold2 ρ2 σ2 H2 z
            obtain ⟨F2, fh, fs, z⟩ := z
            obtain ⟨v', r, f3, g3, e1, q1, h1, h2⟩ := z.hh
            cases e1
            have h1' := h1
            obtain ⟨a', ws, ev', hq', hr'⟩ := h1'
            cases ev'
            refine ⟨fun i di hi => ?_, fun i hi => ⟨ws, by rw [hK]; exact SqT.of hq', by rw [← hr'.len]; exact hi⟩⟩
            obtain ⟨w, f5, ew, hw, lw⟩ := hr'.get hi
            refine ⟨⟨ws, w, by rw [hK]; exact SqT.of hq', ew⟩, fun x H3 y => ?_⟩
            obtain ⟨e3, y⟩ := y
            subst e3
            have ex : x = w := by
              have := y ws (by rw [hK]; exact SqT.of hq')
              rw [ew] at this; exact (Option.some.inj this).symm
            subst ex
            refine ⟨Ext.refl, F2, fh, fs, z.re ⟨x, _, fp0, fh, rfl, fun a => by show _ = 0 + _; omega, ?_, z.hh⟩ z.ss (fun _ => Nat.le_refl _) z.mo z.lk⟩
            have : f5 = fp0 := funext fun b => by
              have := lw b
              have := Reps.zero _ _ _ hr' nok b
              show f5 b = 0; omega
            rw [← this]; exact hw
          | non => exact k.elim
          | bl b => exact k.elim
          | int b => exact k.elim
          | str b => exact k.elim
          | cls b => exact k.elim
          | exc n b => exact k.elim
          | dic m kd b => exact k.elim
          | ins m n b => exact k.elim
        · rw [if_neg hd] at k; exact k.elim
/-- a range -/
def rngD (lo : Int) (n : Nat) : List D := (List.range n).map fun (i : Nat) => .int (lo + (i : Int))
theorem rngD_len (lo : Int) (n : Nat) : (rngD lo n).length = n := by unfold rngD; rw [List.length_map, List.length_range]
theorem rngD_get {lo : Int} {n i : Nat} {d : D} (h : (rngD lo n)[i]? = some d) : i < n ∧ d = .int (lo + i) := by
  unfold rngD at h
  rw [List.getElem?_map, Option.map_eq_some_iff] at h
  obtain ⟨j, h1, h2⟩ := h
  obtain ⟨hl, e⟩ := List.getElem?_eq_some_iff.mp h1
  rw [List.length_range] at hl
  rw [List.getElem_range] at e
  exact ⟨hl, by rw [← h2, e]⟩
theorem rngD_chk (p : Mk → Bool) (lo : Int) (n : Nat) : D.chkL p (rngD lo n) = true := by
  unfold rngD
  induction List.range n with
  | nil => rfl
  | cons x xs ih => exact ih
theorem walks_rng {lo : Int} {n : Nat} {v : V} {d : D} : Walks Γ (Itr lo n) v d (rngD lo n) := fun hold ρ σ H s => by
  refine ⟨fun i di hi => ?_, fun i hi => by rw [rngD_len] at hi; exact hi⟩
  obtain ⟨hl, rfl⟩ := rngD_get hi
  refine ⟨hl, fun x H' y => ?_⟩
  obtain ⟨rfl, rfl⟩ := y
  exact ⟨Ext.refl, s.int _⟩
def okR (j : Int) : Bool := decide (-(2 ^ 62) ≤ j) && decide (j < 2 ^ 62)
def rngOf : List D → Option (List D)
  | [.int j] => if okR j = true then some (rngD 0 j.toNat) else none
  | [.int i, .int j] => if okR i = true ∧ okR j = true then some (rngD i (j - i).toNat) else none
  | _ => none
def iRng (fs : List EF) : IF := fun ρ => match evE fs ρ with
  | some (.ok ds ρ') => (rngOf ds).map fun xs => .ok (.non, xs) ρ'
  | some (.ex n xs ρ') => some (.ex n xs ρ')
  | none => none
theorem okR_of {j : Int} (h : okR j = true) : -(2 ^ 62) ≤ j ∧ j < 2 ^ 62 := by
  unfold okR at h
  rw [Bool.and_eq_true, decide_eq_true_eq, decide_eq_true_eq] at h
  exact h
theorem evE_len : ∀ {fs : List EF} {ρ ρ' : Env} {ds : List D}, evE fs ρ = some (.ok ds ρ') → ds.length = fs.length
  | [], ρ, ρ', ds, h => by rw [evE] at h; cases h; rfl
  | f :: fs, ρ, ρ', ds, h => by
    rw [evE] at h
    split at h
    · split at h
      · split at h
        · rename_i h2
          cases h
          rw [List.length_cons, List.length_cons, evE_len h2]
        · rename_i h2
          exact (h2 _ _ h).elim
      · cases h
    · cases h
    · cases h
theorem i_rng1 {tg a : Expr} {f : EF} {p : Pos} (hg : Gl X "range") (hm : X.mg "range" = none) (ha : PA X [a] (tAE Γ W [f])) (hs : starEach [a] X.env = [(false, eval a X.env)] := by rfl) : PI X tg (.Call (.Name "range" p) [a] [] pos) (tI Γ W (iRng [f])) :=
  PI.wk (pi_range1 hg hm ha hs) fun σ H R ⟨hold, ρ, s, nb, k⟩ => by
    refine ⟨hold, ρ, s, nb, ?_⟩
    unfold iRng at k
    cases q : evE [f] ρ with
    | none => rw [q] at k; exact k.elim
    | some o =>
      rw [q] at k
      cases o with
      | ex n xs ρ' => exact k
      | ok ds ρ' =>
        dsimp only at k ⊢
        intro vs H' l s'
        have hl1 := evE_len q
        cases z : rngOf ds with
        | none => rw [z] at k; exact k.elim
        | some xs =>
          rw [z] at k
          unfold rngOf at z
          split at z
          · split at z
            · rename_i hj
              cases z
              obtain ⟨v, rfl, s2⟩ := one_of l s'
              obtain rfl := s2.topInt
              exact ⟨_, rfl, (okR_of hj).1, (okR_of hj).2, k .non _ H' s2.drop.non rfl (rngD_chk _ _ _) (rngD_chk _ _ _) walks_rng⟩
            · cases z
          · cases hl1
          · cases z
theorem i_rng2 {tg a b : Expr} {f g : EF} {p : Pos} (hg : Gl X "range") (hm : X.mg "range" = none) (ha : PA X [a, b] (tAE Γ W [f, g])) (hs : starEach [a, b] X.env = [(false, eval a X.env), (false, eval b X.env)] := by rfl) (hs2 : starEach [b] X.env = [(false, eval b X.env)] := by rfl) : PI X tg (.Call (.Name "range" p) [a, b] [] pos) (tI Γ W (iRng [f, g])) :=
  PI.wk (pi_range2 hg hm ha hs hs2) fun σ H R ⟨hold, ρ, s, nb, k⟩ => by
    refine ⟨hold, ρ, s, nb, ?_⟩
    unfold iRng at k
    cases q : evE [f, g] ρ with
    | none => rw [q] at k; exact k.elim
    | some o =>
      rw [q] at k
      cases o with
      | ex n xs ρ' => exact k
      | ok ds ρ' =>
        dsimp only at k ⊢
        intro vs H' l s'
        have hl1 := evE_len q
        cases z : rngOf ds with
        | none => rw [z] at k; exact k.elim
        | some xs =>
          rw [z] at k
          unfold rngOf at z
          split at z
          · cases hl1
          · split at z
            · rename_i hj
              cases z
              obtain ⟨v, w, rfl, s2⟩ := two_of l s'
              obtain rfl := s2.topInt
              obtain rfl := s2.drop.topInt
              exact ⟨_, _, rfl, ⟨(okR_of hj.1).1, (okR_of hj.1).2, (okR_of hj.2).1, (okR_of hj.2).2⟩, k .non _ H' s2.drop.drop.non rfl (rngD_chk _ _ _) (rngD_chk _ _ _) walks_rng⟩
            · cases z
          · cases z

/-! ### for -/
def loop (b : BF) (g : SF) : List D → SF
  | [], ρ => some (.nx ρ)
  | d :: ds, ρ => match b d ρ with
    | none => none
    | some ρ1 => match g ρ1 with
      | some (.nx ρ2) => loop b g ds ρ2
      | r => r
def clrS : List Nat → Env → Env
  | [], ρ => ρ
  | i :: is, ρ => clrS is (setS ρ i none)
theorem SI.clr {hold : Hold} {σ : L2.St} {H : Hp} : ∀ (is : List Nat) {ρ : Env}, SI Γ hold ρ σ H → SI Γ hold (clrS is ρ) σ H
  | [], _, s => s
  | i :: is, _, s => SI.clr is (s.blind i)
def clrO (is : List Nat) : Option Out → Option Out
  | some (.nx ρ) => some (.nx (clrS is ρ))
  | r => r
def sFor (q : IF) (b : BF) (g : SF) (is : List Nat) : SF := fun ρ => match q ρ with
  | some (.ok (_, ds) ρ') => clrO is (loop b g ds ρ')
  | some (.ex n fs ρ') => some (.ex n fs ρ')
  | none => none
theorem s_for {tg iter : Expr} {body : List Stmt} {q : IF} {b : BF} {g : SF} {js : List Nat} (is : List Nat) (hp : PassesOwn (model X.prog X.w) X.A X.env X.xe) (hc : X.calm = true) (hi : PI X tg iter (tI Γ W q)) (hg : PG X tg (tB Γ js b)) (hb : PSs X body (tS Γ W g))
    (hs : ∀ x, foldedSetIterable iter X.env x = pure x := by intro _; rfl) : PS X (.For tg iter body [] pos) (tS Γ W (sFor q b g is)) :=
  PS.wk (ps_for hp hc hi hg hb hs) fun D σ H ⟨hold, ρ, s, nb, k⟩ => by
    refine ⟨hold, ρ, s, nb, ?_⟩
    unfold sFor at k
    cases z : q ρ with
    | none => rw [z] at k; exact k
    | some o =>
      rw [z] at k
      cases o with
      | ex n xs ρ' => exact fun c od H' s' => k c od σ H' s'
      | ok p ρ' =>
        obtain ⟨d, ds⟩ := p
        dsimp only at k ⊢
        intro v J H' s' nbd nbs nos wk
        have nb2 : Hold.noBrw ((v, d) :: hold) := noBrw_cons nb nbd
        refine ⟨fun i m σ H => m = ds.length - i ∧ i ≤ ds.length ∧ ∃ ρ, SI Γ ((v, d) :: hold) ρ σ H ∧ Good Γ W hold D (clrO is (loop b g (ds.drop i) ρ)), ⟨ds.length, rfl, Nat.zero_le _, ρ', s', k⟩, ?_⟩
        rintro i m σ H ⟨rfl, hi, ρ, s, k⟩
        obtain ⟨w1, w2⟩ := wk hold ρ σ H s
        by_cases hlt : i < ds.length
        · have e1 : ds[i]? = some ds[i] := List.getElem?_eq_getElem hlt
          obtain ⟨go, yl⟩ := w1 i _ e1
          refine .inr ⟨go, fun σ2 H2 => ∃ ρ2, SI Γ ((v, d) :: hold) ρ2 σ2 H2 ∧ Good Γ W hold D (clrO is (loop b g (ds.drop (i + 1)) ρ2)), fun σ2 H2 h2 => ⟨ds.length - (i + 1), by omega, rfl, hlt, h2⟩, fun x H2 y => ?_⟩
          obtain ⟨_, s2⟩ := yl x H2 y
          rw [List.drop_eq_getElem_cons hlt] at k
          unfold loop at k
          cases z1 : b ds[i] ρ with
          | none => rw [z1] at k; exact k.elim
          | some ρ1 =>
            rw [z1] at k
            dsimp only at k
            refine ⟨(v, d) :: hold, ρ, ds[i], s2, chkL_get _ nbs e1, chkL_get _ nos e1, ρ1, z1, fun σ3 _ s3 => ⟨(v, d) :: hold, ρ1, s3, nb2, ?_⟩⟩
            cases z2 : g ρ1 with
            | none => rw [z2] at k; exact k
            | some o2 =>
              rw [z2] at k
              cases o2 with
              | nx ρ2 => exact fun σ4 H4 s4 => ⟨ρ2, s4, k⟩
              | rt d2 ρ2 => exact fun u σ4 H4 s4 => k u σ4 H4 s4.drop1
              | ex n xs ρ2 => exact fun c od σ4 H4 s4 => k c od σ4 H4 s4.drop
        · have e : i = ds.length := by omega
          subst e
          rw [List.drop_length] at k
          exact .inl ⟨w2 _ (Nat.le_refl _), k σ H (SI.clr is s.drop)⟩
end
end DL

end
section
/-! DL10: places within a thing; lists changed in place. -/
open PySem PySem.Spec L2
namespace DL
mutual
def Ky.dec : (a b : Ky) → Decidable (a = b)
  | .int i, .int j => if h : i = j then .isTrue (by rw [h]) else .isFalse (fun e => h (by cases e; rfl))
  | .str i, .str j => if h : i = j then .isTrue (by rw [h]) else .isFalse (fun e => h (by cases e; rfl))
  | .tup i, .tup j => match Ky.decL i j with
    | .isTrue h => .isTrue (by rw [h])
    | .isFalse h => .isFalse (fun e => h (by cases e; rfl))
  | .int _, .str _ => .isFalse (fun e => nomatch e)
  | .int _, .tup _ => .isFalse (fun e => nomatch e)
  | .str _, .int _ => .isFalse (fun e => nomatch e)
  | .str _, .tup _ => .isFalse (fun e => nomatch e)
  | .tup _, .int _ => .isFalse (fun e => nomatch e)
  | .tup _, .str _ => .isFalse (fun e => nomatch e)
def Ky.decL : (a b : List Ky) → Decidable (a = b)
  | [], [] => .isTrue rfl
  | a :: as, b :: bs => match Ky.dec a b, Ky.decL as bs with
    | .isTrue h, .isTrue h' => .isTrue (by rw [h, h'])
    | .isFalse h, _ => .isFalse (fun e => h (by cases e; rfl))
    | _, .isFalse h => .isFalse (fun e => h (by cases e; rfl))
  | [], _ :: _ => .isFalse (fun e => nomatch e)
  | _ :: _, [] => .isFalse (fun e => nomatch e)
end
instance : DecidableEq Ky := Ky.dec
/-! ### places -/
inductive Stp where
  | ix (j : Nat)
  | fld (f : Str)
  | val (j : Nat)
def atF (f : Str) : List (Str × D) → Option D
  | [] => none
  | (g, d) :: r => if f = g then some d else atF f r
def setF (f : Str) (x : D) : List (Str × D) → List (Str × D)
  | [] => []
  | (g, d) :: r => if f = g then (g, x) :: r else (g, d) :: setF f x r
def atK (j : Nat) (kvs : List (Ky × D)) : Option D := kvs[j]?.map (·.2)
def setK (j : Nat) (x : D) (kvs : List (Ky × D)) : List (Ky × D) := match kvs[j]? with | some p => kvs.set j (p.1, x) | none => kvs
def dAt : D → List Stp → Option D
  | d, [] => some d
  | .lst _ ds, .ix j :: π => (ds[j]?).bind (dAt · π)
  | .tup ds, .ix j :: π => (ds[j]?).bind (dAt · π)
  | .ins _ _ fs, .fld f :: π => (atF f fs).bind (dAt · π)
  | .dic _ _ kvs, .val j :: π => (atK j kvs).bind (dAt · π)
  | _, _ => none
def dSet : D → List Stp → D → D
  | _, [], x => x
  | .lst m ds, .ix j :: π, x => match ds[j]? with | some d => .lst m (ds.set j (dSet d π x)) | none => .lst m ds
  | .tup ds, .ix j :: π, x => match ds[j]? with | some d => .tup (ds.set j (dSet d π x)) | none => .tup ds
  | .ins m C fs, .fld f :: π, x => match atF f fs with | some d => .ins m C (setF f (dSet d π x) fs) | none => .ins m C fs
  | .dic m kd kvs, .val j :: π, x => match atK j kvs with | some d => .dic m kd (setK j (dSet d π x) kvs) | none => .dic m kd kvs
  | d, _, _ => d
/-- the thing at a place, by the heap -/
def follow (K : PySem.W.Frag) (H : Hp) : V → List Stp → V → Prop
  | v, [], w => v = w
  | v, .ix j :: π, w => ∃ a xs u, v = .ref a ∧ (H a = some (.lst xs) ∨ H a = some (.tup xs)) ∧ xs[j]? = some u ∧ follow K H u π w
  | v, .fld f :: π, w => ∃ a C dx fs u, v = .ref a ∧ H a = some (.ins C dx fs) ∧ fs.lookup f = some u ∧ follow K H u π w
  | v, .val j :: π, w => ∃ a u, v = .ref a ∧ ((∃ kv k, H a = some (.dK kv) ∧ kv[j]? = some (k, u)) ∨ ∃ kv k, H a = some (.dT kv) ∧ kv[j]? = some (k, u)) ∧ follow K H u π w
section
variable {K : PySem.W.Frag} {cn : Nm} {F : Addr → Prop} {H : Hp}
theorem Reps.focus : ∀ {ds : List D} {vs : List V} {fp : Fp} {j : Nat} {d : D}, Reps K cn F H ds vs fp → ds[j]? = some d → ∃ (v : V) (f g : Fp), vs[j]? = some v ∧ (∀ a, fp a = f a + g a) ∧ Rep K cn F H d v f ∧
    ∀ d' f' F' H', Keep F F' H H' False → D.chkL (fun m => !m.isBrw) ds = true → (∀ a o, 0 < g a → H a = some o → H' a = some o) → Rep K cn F' H' d' v f' → Reps K cn F' H' (ds.set j d') vs (fun a => f' a + g a)
  | [], _, _, _, _, _, e => by simp at e
  | d :: ds, vs, fp, 0, d', ⟨v, r, f, g, e, s, h1, h2⟩, h => by
    simp at h; subst h; subst e
    refine ⟨v, f, g, rfl, s, h1, fun d' f' F' H' k hb ho hr => ⟨v, r, f', g, rfl, fun _ => rfl, hr, Reps.go k ds r g (fun z => ?_) ho h2⟩⟩
    rw [show D.chkL (fun m => !m.isBrw) ds = true from and_r hb] at z; cases z
  | d :: ds, vs, fp, j + 1, d', ⟨v, r, f, g, e, s, h1, h2⟩, h => by
    subst e
    obtain ⟨v', f', g', e', s', h', st⟩ := Reps.focus h2 (j := j) (by simpa using h)
    refine ⟨v', f', fun a => f a + g' a, by simpa using e', fun a => by have := s a; have := s' a; show _ = f' a + (f a + g' a); omega, h', fun d' f'' F' H' k hb ho hr => ?_⟩
    refine ⟨v, r, f, fun a => f'' a + g' a, rfl, fun a => by show f'' a + (f a + g' a) = f a + (f'' a + g' a); omega, Rep.go k d v f (fun z => ?_) (fun a o p => ho a o (by show 0 < f a + g' a; omega)) h1, st d' f'' F' H' k (and_r hb) (fun a o p => ho a o (by show 0 < f a + g' a; omega)) hr⟩
    rw [show d.noBrw = true from and_l hb] at z; cases z
theorem RepF.focus {c : Str} : ∀ {fs : List (Str × D)} {vs : List (Str × V)} {fp : Fp} {d : D}, RepF K cn F H fs vs fp → atF c fs = some d → ∃ (v : V) (f g : Fp), vs.lookup c = some v ∧ (∀ a, fp a = f a + g a) ∧ Rep K cn F H d v f ∧
    ∀ d' f' F' H', Keep F F' H H' False → D.chkF (fun m => !m.isBrw) fs = true → (∀ a o, 0 < g a → H a = some o → H' a = some o) → Rep K cn F' H' d' v f' → RepF K cn F' H' (setF c d' fs) vs (fun a => f' a + g a)
  | [], _, _, _, _, e => by simp [atF] at e
  | (n, d) :: ds, vs, fp, d', ⟨v, r, f, g, e, s, h1, h2⟩, h => by
    subst e
    unfold atF at h
    by_cases hn : c = n
    · rw [if_pos hn] at h
      cases h
      subst hn
      refine ⟨v, f, g, by rw [List.lookup_cons, beq_self_eq_true], s, h1, fun d' f' F' H' k hb ho hr => ?_⟩
      unfold setF
      rw [if_pos rfl]
      refine ⟨v, r, f', g, rfl, fun _ => rfl, hr, RepF.go k ds r g (fun z => ?_) ho h2⟩
      rw [show D.chkF (fun m => !m.isBrw) ds = true from and_r hb] at z; cases z
    · rw [if_neg hn] at h
      obtain ⟨v', f', g', e', s', h', st⟩ := RepF.focus h2 h
      refine ⟨v', f', fun a => f a + g' a, by rw [List.lookup_cons, beq_eq_false_iff_ne.mpr hn]; exact e', fun a => by have := s a; have := s' a; show _ = f' a + (f a + g' a); omega, h', fun d' f'' F' H' k hb ho hr => ?_⟩
      unfold setF
      rw [if_neg hn]
      refine ⟨v, r, f, fun a => f'' a + g' a, rfl, fun a => by show f'' a + (f a + g' a) = f a + (f'' a + g' a); omega, Rep.go k d v f (fun z => ?_) (fun a o p => ho a o (by show 0 < f a + g' a; omega)) h1, st d' f'' F' H' k (and_r hb) (fun a o p => ho a o (by show 0 < f a + g' a; omega)) hr⟩
      rw [show d.noBrw = true from and_l hb] at z; cases z
theorem RepK.focus : ∀ {ds : List (Ky × D)} {vs : List (Ky × V)} {fp : Fp} {j : Nat} {d : D}, RepK K cn F H ds vs fp → atK j ds = some d → ∃ (k : Ky) (v : V) (f g : Fp), vs[j]? = some (k, v) ∧ (∀ a, fp a = f a + g a) ∧ Rep K cn F H d v f ∧
    ∀ d' f' F' H', Keep F F' H H' False → D.chkK (fun m => !m.isBrw) ds = true → (∀ a o, 0 < g a → H a = some o → H' a = some o) → Rep K cn F' H' d' v f' → RepK K cn F' H' (setK j d' ds) vs (fun a => f' a + g a)
  | [], _, _, _, _, _, e => by simp [atK] at e
  | (n, d) :: ds, vs, fp, 0, d', ⟨v, r, f, g, e, s, h1, h2⟩, h => by
    simp [atK] at h; subst h; subst e
    refine ⟨n, v, f, g, rfl, s, h1, fun d' f' F' H' k hb ho hr => ⟨v, r, f', g, rfl, fun _ => rfl, hr, RepK.go k ds r g (fun z => ?_) ho h2⟩⟩
    rw [show D.chkK (fun m => !m.isBrw) ds = true from and_r hb] at z; cases z
  | (n, d) :: ds, vs, fp, j + 1, d', ⟨v, r, f, g, e, s, h1, h2⟩, h => by
    subst e
    obtain ⟨k0, v', f', g', e', s', h', st⟩ := RepK.focus h2 (j := j) (by simpa [atK] using h)
    refine ⟨k0, v', f', fun a => f a + g' a, by simpa using e', fun a => by have := s a; have := s' a; show _ = f' a + (f a + g' a); omega, h', fun d' f'' F' H' k hb ho hr => ?_⟩
    have es : setK (j + 1) d' ((n, d) :: ds) = (n, d) :: setK j d' ds := by
      unfold setK
      rw [List.getElem?_cons_succ]
      cases ds[j]? with
      | none => rfl
      | some p => rfl
    rw [es]
    refine ⟨v, r, f, fun a => f'' a + g' a, rfl, fun a => by show f'' a + (f a + g' a) = f a + (f'' a + g' a); omega, Rep.go k d v f (fun z => ?_) (fun a o p => ho a o (by show 0 < f a + g' a; omega)) h1, st d' f'' F' H' k (and_r hb) (fun a o p => ho a o (by show 0 < f a + g' a; omega)) hr⟩
    rw [show d.noBrw = true from and_l hb] at z; cases z
/-- a thing's own node put around -/
theorem At.around {m : Mk} {a : Addr} {u : HO} {fp f fs gs : Fp} (h : At F H m a u fp f) (e : ∀ b, f b = fs b + gs b) :
    ∃ g : Fp, (∀ b, fp b = fs b + g b) ∧ (∀ b, gs b ≤ g b) ∧ ∀ (f' : Fp) F' H', Keep F F' H H' False → m.isBrw = false → (∀ a o, 0 < g a → H a = some o → H' a = some o) → ((∀ b, fs b = 0) → ∀ b, f' b = 0) → At F' H' m a u (fun b => f' b + g b) (fun b => f' b + gs b) := by
  cases m with
  | own =>
    refine ⟨fun b => gs b + if b = a then 1 else 0, fun b => by have := h.2 b; have := e b; show _ = fs b + (gs b + _); omega, fun b => Nat.le_add_right _ _, fun f' F' H' k _ ho _ => ⟨ho a u (by simp) h.1, fun b => by show f' b + (gs b + _) = f' b + gs b + _; omega⟩⟩
  | frz =>
    have z : ∀ b, fs b = 0 := fun b => by have := h.2.2.1 b; have := e b; omega
    refine ⟨gs, fun b => by have := h.2.2.1 b; have := h.2.2.2 b; have := e b; omega, fun b => Nat.le_refl _, fun f' F' H' k _ ho zf => ⟨k.sub _ h.1, k.f _ _ h.1 h.2.1, fun b => by have := h.2.2.1 b; have := e b; have := zf z b; show f' b + gs b = 0; omega, fun b => by have := h.2.2.1 b; have := e b; have := zf z b; show f' b + gs b = 0; omega⟩⟩
  | brw =>
    refine ⟨gs, fun b => by have := h.2.1 b; have := h.2.2 b; have := e b; omega, fun b => Nat.le_refl _, fun f' F' H' k hb ho zf => by cases hb⟩
  | ro =>
    obtain ⟨⟨o, h0⟩, h1, h2⟩ := h
    have z : ∀ b, fs b = 0 := fun b => by have := h1 b; have := e b; omega
    refine ⟨gs, fun b => by have := h1 b; have := h2 b; have := e b; omega, fun b => Nat.le_refl _, fun f' F' H' k _ ho zf => ⟨⟨o, k.t _ _ (fun z => z) h0⟩, fun b => by have := h1 b; have := e b; have := zf z b; show f' b + gs b = 0; omega, fun b => by have := h1 b; have := e b; have := zf z b; show f' b + gs b = 0; omega⟩⟩
theorem At.hp {m : Mk} {a : Addr} {u : HO} {fp f : Fp} (h : At F H m a u fp f) (hm : m ≠ .ro) : H a = some u := by
  cases m with
  | own => exact h.1
  | frz => exact h.2.1
  | brw => exact h.1
  | ro => exact (hm rfl).elim
/-- a place that can be changed: no locked thing on the way -/
def okAt : D → List Stp → Bool
  | _, [] => true
  | .lst m ds, .ix j :: π => decide (m ≠ .ro) && (match ds[j]? with | some d => okAt d π | none => false)
  | .tup ds, .ix j :: π => (match ds[j]? with | some d => okAt d π | none => false)
  | .ins m _ fs, .fld f :: π => decide (m ≠ .ro) && (match atF f fs with | some d => okAt d π | none => false)
  | .dic m kd kvs, .val j :: π => decide (m ≠ .ro) && (match atK j kvs with | some d => okAt d π | none => false)
  | _, _ => false
theorem Rep.focus : ∀ (π : List Stp) (d : D) (v : V) (fp : Fp) (x : D), Rep K cn F H d v fp → dAt d π = some x → okAt d π = true → ∃ (w : V) (f g : Fp), follow K H v π w ∧ (∀ a, fp a = f a + g a) ∧ Rep K cn F H x w f ∧
    ∀ x' (f' : Fp) F' H', Keep F F' H H' False → d.noBrw = true → (∀ a o, 0 < g a → H a = some o → H' a = some o) → ((∀ b, f b = 0) → ∀ b, f' b = 0) → Rep K cn F' H' x' w f' → Rep K cn F' H' (dSet d π x') v (fun a => f' a + g a)
  | [], d, v, fp, x, h, e, _ => by
    rw [dAt] at e; cases e
    refine ⟨v, fp, fp0, rfl, fun a => rfl, h, fun x' f' F' H' _ _ _ _ h' => ?_⟩
    have : (fun a => f' a + fp0 a) = f' := funext fun a => rfl
    rw [this]
    unfold dSet; exact h'
  | s :: π, d, v, fp, x, h, e, hk => by
    cases d with
    | non => simp [dAt] at e
    | bl b => simp [dAt] at e
    | int b => simp [dAt] at e
    | str b => simp [dAt] at e
    | cls b => simp [dAt] at e
    | exc n b => simp [dAt] at e
    | lst m ds =>
      cases s with
      | fld c => simp [dAt] at e
      | val c => simp [dAt] at e
      | ix j =>
        rw [dAt] at e
        obtain ⟨y, e1, e2⟩ := Option.bind_eq_some_iff.mp e
        unfold okAt at hk
        rw [e1, Bool.and_eq_true, decide_eq_true_eq] at hk
        obtain ⟨a, vs, f0, ev, q, r⟩ := h
        have q' : At F H m a (.lst vs) fp f0 := by
          rcases q with q | q
          · exact q
          · exact (hk.1 q.1).elim
        obtain ⟨u, f1, g1, eu, s1, hy, w1⟩ := r.focus e1
        obtain ⟨w, f2, g2, fw, s2, hx, w2⟩ := Rep.focus π y u f1 x hy e2 hk.2
        obtain ⟨g, sg, lg, ag⟩ := q'.around (fs := f2) (gs := fun b => g2 b + g1 b) (fun b => by have := s1 b; have := s2 b; show _ = f2 b + (g2 b + g1 b); omega)
        refine ⟨w, f2, g, ⟨a, vs, u, ev, .inl (q'.hp hk.1), eu, fw⟩, sg, hx, fun x' f' F' H' k nb ho zf h' => ?_⟩
        have r2 := w2 x' f' F' H' k (chkL_get _ (and_r nb) e1) (fun b o p => ho b o (by have := lg b; omega)) zf h'
        have r1 := w1 _ _ F' H' k (and_r nb) (fun b o p => ho b o (by have := lg b; omega)) r2
        unfold dSet
        rw [e1]
        have ee : (fun a => f' a + g2 a + g1 a) = fun b => f' b + (g2 b + g1 b) := funext fun b => Nat.add_assoc _ _ _
        rw [ee] at r1
        exact ⟨a, vs, _, ev, .inl (ag f' F' H' k (not_t (and_l nb)) ho zf), r1⟩
    | tup ds =>
      cases s with
      | fld c => simp [dAt] at e
      | val c => simp [dAt] at e
      | ix j =>
        rw [dAt] at e
        obtain ⟨y, e1, e2⟩ := Option.bind_eq_some_iff.mp e
        unfold okAt at hk
        rw [e1] at hk
        obtain ⟨a, vs, ev, q, r⟩ := h
        obtain ⟨u, f1, g1, eu, s1, hy, w1⟩ := r.focus e1
        obtain ⟨w, f2, g2, fw, s2, hx, w2⟩ := Rep.focus π y u f1 x hy e2 hk
        refine ⟨w, f2, fun b => g2 b + g1 b, ⟨a, vs, u, ev, .inr q, eu, fw⟩, fun b => by have := s1 b; have := s2 b; show _ = f2 b + (g2 b + g1 b); omega, hx, fun x' f' F' H' k nb ho zf h' => ?_⟩
        have r2 := w2 x' f' F' H' k (chkL_get _ nb e1) (fun b o p => ho b o (by show 0 < g2 b + g1 b; omega)) zf h'
        have r1 := w1 _ _ F' H' k nb (fun b o p => ho b o (by show 0 < g2 b + g1 b; omega)) r2
        unfold dSet
        rw [e1]
        have ee : (fun a => f' a + g2 a + g1 a) = fun b => f' b + (g2 b + g1 b) := funext fun b => Nat.add_assoc _ _ _
        rw [ee] at r1
        exact ⟨a, vs, ev, k.t _ _ (fun z => z) q, r1⟩
    | ins m C fs =>
      cases s with
      | ix c => simp [dAt] at e
      | val c => simp [dAt] at e
      | fld c =>
        rw [dAt] at e
        obtain ⟨y, e1, e2⟩ := Option.bind_eq_some_iff.mp e
        unfold okAt at hk
        rw [e1, Bool.and_eq_true, decide_eq_true_eq] at hk
        obtain ⟨a, c0, dx, vs, f0, ev, hc, q, r⟩ := h
        obtain ⟨u, f1, g1, eu, s1, hy, w1⟩ := r.focus e1
        obtain ⟨w, f2, g2, fw, s2, hx, w2⟩ := Rep.focus π y u f1 x hy e2 hk.2
        obtain ⟨g, sg, lg, ag⟩ := q.around (fs := f2) (gs := fun b => g2 b + g1 b) (fun b => by have := s1 b; have := s2 b; show _ = f2 b + (g2 b + g1 b); omega)
        refine ⟨w, f2, g, ⟨a, c0, dx, vs, u, ev, q.hp hk.1, eu, fw⟩, sg, hx, fun x' f' F' H' k nb ho zf h' => ?_⟩
        have nby : y.noBrw = true := by
          have : ∀ {fs : List (Str × D)}, D.chkF (fun m => !m.isBrw) fs = true → atF c fs = some y → D.chk (fun m => !m.isBrw) y = true := by
            intro fs
            induction fs with
            | nil => intro _ z; simp [atF] at z
            | cons p fs ih =>
              intro hb z
              obtain ⟨n, d⟩ := p
              unfold atF at z
              split at z
              · cases z; exact and_l hb
              · exact ih (and_r hb) z
          exact this (and_r nb) e1
        have r2 := w2 x' f' F' H' k nby (fun b o p => ho b o (by have := lg b; omega)) zf h'
        have r1 := w1 _ _ F' H' k (and_r nb) (fun b o p => ho b o (by have := lg b; omega)) r2
        unfold dSet
        rw [e1]
        have ee : (fun a => f' a + g2 a + g1 a) = fun b => f' b + (g2 b + g1 b) := funext fun b => Nat.add_assoc _ _ _
        rw [ee] at r1
        exact ⟨a, c0, dx, vs, _, ev, hc, ag f' F' H' k (not_t (and_l nb)) ho zf, r1⟩
    | dic m kd kvs =>
      cases s with
      | ix c => simp [dAt] at e
      | fld c => simp [dAt] at e
      | val j =>
        rw [dAt] at e
        obtain ⟨y, e1, e2⟩ := Option.bind_eq_some_iff.mp e
        unfold okAt at hk
        rw [e1, Bool.and_eq_true, decide_eq_true_eq] at hk
        have nby : D.chkK (fun m => !m.isBrw) kvs = true → y.noBrw = true := by
          intro hb
          have e1' := e1
          unfold atK at e1'
          rw [Option.map_eq_some_iff] at e1'
          obtain ⟨⟨k, d⟩, hp, rfl⟩ := e1'
          have : ∀ {kvs : List (Ky × D)} {j : Nat}, D.chkK (fun m => !m.isBrw) kvs = true → kvs[j]? = some (k, d) → D.chk (fun m => !m.isBrw) d = true := by
            intro kvs
            induction kvs with
            | nil => intro j _ z; simp at z
            | cons p kvs ih =>
              intro j hb z
              obtain ⟨n, d0⟩ := p
              cases j with
              | zero => simp at z; rw [← z.2]; exact and_l hb
              | succ j => exact ih (and_r hb) (by simpa using z)
          exact this hb hp
        obtain ⟨a, f0, ev, q⟩ := h
        rcases q with ⟨hk9, kv, q, r⟩ | ⟨hk9, kv, q, r⟩
        · obtain ⟨ky, u, f1, g1, eu, s1, hy, w1⟩ := r.focus e1
          rw [List.getElem?_map, Option.map_eq_some_iff] at eu
          obtain ⟨⟨k0, u0⟩, eu, ep⟩ := eu
          cases ep
          obtain ⟨w, f2, g2, fw, s2, hx, w2⟩ := Rep.focus π y u0 f1 x hy e2 hk.2
          obtain ⟨g, sg, lg, ag⟩ := q.around (fs := f2) (gs := fun b => g2 b + g1 b) (fun b => by have := s1 b; have := s2 b; show _ = f2 b + (g2 b + g1 b); omega)
          refine ⟨w, f2, g, ⟨a, u0, ev, .inl ⟨kv, k0, q.hp hk.1, eu⟩, fw⟩, sg, hx, fun x' f' F' H' k nb ho zf h' => ?_⟩
          have r2 := w2 x' f' F' H' k (nby (and_r nb)) (fun b o p => ho b o (by have := lg b; omega)) zf h'
          have r1 := w1 _ _ F' H' k (and_r nb) (fun b o p => ho b o (by have := lg b; omega)) r2
          unfold dSet
          rw [e1]
          have ee : (fun a => f' a + g2 a + g1 a) = fun b => f' b + (g2 b + g1 b) := funext fun b => Nat.add_assoc _ _ _
          rw [ee] at r1
          exact ⟨a, _, ev, .inl ⟨hk9, kv, ag f' F' H' k (not_t (and_l nb)) ho zf, r1⟩⟩
        · obtain ⟨ky, u, f1, g1, eu, s1, hy, w1⟩ := r.focus e1
          rw [List.getElem?_map, Option.map_eq_some_iff] at eu
          obtain ⟨⟨k0, u0⟩, eu, ep⟩ := eu
          cases ep
          obtain ⟨w, f2, g2, fw, s2, hx, w2⟩ := Rep.focus π y u0 f1 x hy e2 hk.2
          obtain ⟨g, sg, lg, ag⟩ := q.around (fs := f2) (gs := fun b => g2 b + g1 b) (fun b => by have := s1 b; have := s2 b; show _ = f2 b + (g2 b + g1 b); omega)
          refine ⟨w, f2, g, ⟨a, u0, ev, .inr ⟨kv, k0, q.hp hk.1, eu⟩, fw⟩, sg, hx, fun x' f' F' H' k nb ho zf h' => ?_⟩
          have r2 := w2 x' f' F' H' k (nby (and_r nb)) (fun b o p => ho b o (by have := lg b; omega)) zf h'
          have r1 := w1 _ _ F' H' k (and_r nb) (fun b o p => ho b o (by have := lg b; omega)) r2
          unfold dSet
          rw [e1]
          have ee : (fun a => f' a + g2 a + g1 a) = fun b => f' b + (g2 b + g1 b) := funext fun b => Nat.add_assoc _ _ _
          rw [ee] at r1
          exact ⟨a, _, ev, .inr ⟨hk9, kv, ag f' F' H' k (not_t (and_l nb)) ho zf, r1⟩⟩
end
end DL

end
section
/-! DL11: lists changed in place. -/
open PySem PySem.Spec L2
namespace DL
theorem follow_det {K : PySem.W.Frag} {H : Hp} : ∀ (π : List Stp) {v w w' : V}, follow K H v π w → follow K H v π w' → w = w'
  | [], v, w, w', a, b => by rw [← (show v = w from a)]; exact b
  | .ix j :: π, v, w, w', ⟨a, xs, u, e, h, g, f⟩, ⟨a', xs', u', e', h', g', f'⟩ => by
    subst e; cases e'
    have : xs = xs' := by
      rcases h with h | h <;> rcases h' with h' | h' <;> (rw [h] at h'; first | (cases h'; rfl) | cases h')
    subst this
    rw [g] at g'; cases g'
    exact follow_det π f f'
  | .fld c :: π, v, w, w', ⟨a, C, dx, fs, u, e, h, g, f⟩, ⟨a', C', dx', fs', u', e', h', g', f'⟩ => by
    subst e; cases e'
    rw [h] at h'; cases h'
    rw [g] at g'; cases g'
    exact follow_det π f f'
  | .val j :: π, v, w, w', ⟨a, u, e, h, f⟩, ⟨a', u', e', h', f'⟩ => by
    subst e; cases e'
    have : u = u' := by
      rcases h with ⟨kv, k, h, g⟩ | ⟨kv, k, h, g⟩ <;> rcases h' with ⟨kv', k', h', g'⟩ | ⟨kv', k', h', g'⟩ <;> (rw [h] at h'; first | (cases h'; rw [g] at g'; cases g'; rfl) | cases h')
    subst this
    exact follow_det π f f'
theorem follow_ext {K : PySem.W.Frag} {H H' : Hp} (x : Ext H H') : ∀ (π : List Stp) {v w : V}, follow K H v π w → follow K H' v π w
  | [], v, w, a => a
  | .ix j :: π, v, w, ⟨a, xs, u, e, h, g, f⟩ => ⟨a, xs, u, e, h.elim (fun h => .inl (x _ _ h)) (fun h => .inr (x _ _ h)), g, follow_ext x π f⟩
  | .fld c :: π, v, w, ⟨a, C, dx, fs, u, e, h, g, f⟩ => ⟨a, C, dx, fs, u, e, x _ _ h, g, follow_ext x π f⟩
  | .val j :: π, v, w, ⟨a, u, e, h, f⟩ => ⟨a, u, e, h.elim (fun ⟨kv, k, h, g⟩ => .inl ⟨kv, k, x _ _ h, g⟩) (fun ⟨kv, k, h, g⟩ => .inr ⟨kv, k, x _ _ h, g⟩), follow_ext x π f⟩
theorem follow_snoc {K : PySem.W.Frag} {H : Hp} (s : Stp) : ∀ (π : List Stp) {v w u : V}, follow K H v π w → follow K H w [s] u → follow K H v (π ++ [s]) u
  | [], v, w, u, a, b => by rw [show v = w from a]; exact b
  | .ix j :: π, v, w, u, ⟨a, xs, z, e, h, g, f⟩, b => ⟨a, xs, z, e, h, g, follow_snoc s π f b⟩
  | .fld c :: π, v, w, u, ⟨a, C, dx, fs, z, e, h, g, f⟩, b => ⟨a, C, dx, fs, z, e, h, g, follow_snoc s π f b⟩
  | .val j :: π, v, w, u, ⟨a, z, e, h, f⟩, b => ⟨a, z, e, h, follow_snoc s π f b⟩
theorem dAt_snoc (s : Stp) : ∀ (π : List Stp) (d : D), dAt d (π ++ [s]) = (dAt d π).bind (dAt · [s])
  | [], d => by simp [dAt]
  | t :: π, d => by
    cases d <;> cases t <;> simp [dAt]
    · rename_i ds j; cases ds[j]? <;> simp [dAt_snoc s π]
    · rename_i m ds j; cases ds[j]? <;> simp [dAt_snoc s π]
    · rename_i m ds j; cases atK j ds <;> simp [dAt_snoc s π]
    · rename_i m C ds j; cases atF j ds <;> simp [dAt_snoc s π]
theorem okAt_snoc (s : Stp) : ∀ (π : List Stp) (d x : D), dAt d π = some x → okAt d (π ++ [s]) = (okAt d π && okAt x [s])
  | [], d, x, h => by rw [dAt] at h; cases h; simp [okAt]
  | t :: π, d, x, h => by
    cases d <;> cases t <;> simp [dAt, Option.bind_eq_some_iff] at h <;> (obtain ⟨y, h1, h2⟩ := h; simp only [List.cons_append, okAt, h1]; rw [okAt_snoc s π y x h2]; try first | rfl | rw [Bool.and_assoc])
mutual
theorem chkL_set (p : Mk → Bool) : ∀ (ds : List D) (j : Nat) (x : D), D.chkL p ds = true → D.chk p x = true → D.chkL p (ds.set j x) = true
  | [], j, x, h, hx => h
  | d :: ds, 0, x, h, hx => by show (D.chk p x && D.chkL p ds) = true; rw [hx, and_r h]; rfl
  | d :: ds, j + 1, x, h, hx => by show (D.chk p d && D.chkL p (ds.set j x)) = true; rw [and_l h, chkL_set p ds j x (and_r h) hx]; rfl
end
theorem chkF_set (p : Mk → Bool) (c : Str) : ∀ (ds : List (Str × D)) (x : D), D.chkF p ds = true → D.chk p x = true → D.chkF p (setF c x ds) = true
  | [], x, h, hx => h
  | (n, d) :: ds, x, h, hx => by
    unfold setF
    split
    · show (D.chk p x && D.chkF p ds) = true; rw [hx, and_r h]; rfl
    · show (D.chk p d && D.chkF p (setF c x ds)) = true; rw [and_l h, chkF_set p c ds x (and_r h) hx]; rfl
theorem chkF_at (p : Mk → Bool) (c : Str) : ∀ {ds : List (Str × D)} {x : D}, D.chkF p ds = true → atF c ds = some x → D.chk p x = true
  | [], x, h, hx => by simp [atF] at hx
  | (n, d) :: ds, x, h, hx => by
    unfold atF at hx
    split at hx
    · cases hx; exact and_l h
    · exact chkF_at p c (and_r h) hx
theorem chkK_at (p : Mk → Bool) : ∀ {ds : List (Ky × D)} {j : Nat} {x : D}, D.chkK p ds = true → atK j ds = some x → D.chk p x = true
  | [], j, x, h, hx => by simp [atK] at hx
  | (n, d) :: ds, 0, x, h, hx => by simp [atK] at hx; subst hx; exact and_l h
  | (n, d) :: ds, j + 1, x, h, hx => chkK_at p (and_r h) (j := j) (by simpa [atK] using hx)
theorem chkK_set (p : Mk → Bool) : ∀ (ds : List (Ky × D)) (j : Nat) (x : D), D.chkK p ds = true → D.chk p x = true → D.chkK p (setK j x ds) = true
  | [], j, x, h, hx => h
  | (n, d) :: ds, 0, x, h, hx => by show (D.chk p x && D.chkK p ds) = true; rw [hx, and_r h]; rfl
  | (n, d) :: ds, j + 1, x, h, hx => by
    have es : setK (j + 1) x ((n, d) :: ds) = (n, d) :: setK j x ds := by
      unfold setK
      rw [List.getElem?_cons_succ]
      cases ds[j]? <;> rfl
    rw [es]
    show (D.chk p d && D.chkK p (setK j x ds)) = true; rw [and_l h, chkK_set p ds j x (and_r h) hx]; rfl
theorem chk_dSet (p : Mk → Bool) : ∀ (π : List Stp) (d x : D), D.chk p d = true → D.chk p x = true → D.chk p (dSet d π x) = true
  | [], d, x, h, hx => by unfold dSet; exact hx
  | s :: π, d, x, h, hx => by
    cases d <;> cases s <;> unfold dSet <;> first | exact h | skip
    · split
      · rename_i e
        exact chkL_set p _ _ _ h (chk_dSet p π _ x (chkL_get p h e) hx)
      · exact h
    · rename_i m ds j
      split
      · rename_i e
        show (p m && D.chkL p _) = true
        rw [and_l h, chkL_set p _ _ _ (and_r h) (chk_dSet p π _ x (chkL_get p (and_r h) e) hx)]; rfl
      · exact h
    · rename_i m kd ds j
      split
      · rename_i e
        show (p m && D.chkK p _) = true
        rw [and_l h, chkK_set p _ _ _ (and_r h) (chk_dSet p π _ x (chkK_at p (and_r h) e) hx)]; rfl
      · exact h
    · rename_i m C ds j
      split
      · rename_i e
        show (p m && D.chkF p _) = true
        rw [and_l h, chkF_set p _ _ _ (and_r h) (chk_dSet p π _ x (chkF_at p _ (and_r h) e) hx)]; rfl
      · exact h
theorem setS_setS : ∀ (ρ : Env) (i : Nat) (x y : Option D), setS (setS ρ i x) i y = setS ρ i y
  | [], _, _, _ => rfl
  | a :: ρ, 0, x, y => rfl
  | a :: ρ, i + 1, x, y => by show a :: setS (setS ρ i x) i y = a :: setS ρ i y; rw [setS_setS]
theorem getS_lt : ∀ {ρ : Env} {i : Nat} {d : D}, getS ρ i = some d → i < ρ.length
  | [], _, _, h => by simp [getS] at h
  | a :: ρ, 0, d, h => Nat.zero_lt_succ _
  | a :: ρ, i + 1, d, h => Nat.succ_lt_succ (getS_lt (ρ := ρ) h)
section
variable {Γ : Ctx} {F F' : Addr → Prop} {fh fs fh' fs' : Fp} {hold hold' : Hold} {ρ ρ' : Env} {σ σ' : L2.St} {H H' : Hp}
/-- a thing at a place of a slot is changed: the object at p becomes o -/
theorem SI.change {vs : List V} {args : List D} {i : Nat} {d x : D} {π : List Stp} (s : SI Γ (vs.zip args ++ hold) ρ σ H) (l : vs.length = args.length) (nbh : hold.noBrw) (hi : getS ρ i = some d) (hx : dAt d π = some x) (ok : okAt d π = true) (hown : Γ.own i = true) :
    ∃ (r w : V) (F : Addr → Prop) (f fa : Fp), σ[i]? = some (some r) ∧ follow Γ.K H r π w ∧ Rep Γ.K Γ.cn F H x w f ∧ Reps Γ.K Γ.cn F H args vs fa ∧ (∀ a, f a + fa a ≤ 1) ∧ (∀ a, 0 < f a → ¬ F a) ∧
      ∀ (p : Addr) (o : HO) (x' du : D) (u : V) (f' k : Fp), 0 < f p → (∀ b, f' b + k b ≤ f b + fa b) → x'.noBrw = true → Rep Γ.K Γ.cn F (upd H p o) x' w f' → Rep Γ.K Γ.cn F (upd H p o) du u k → SI Γ ((u, du) :: hold) (setS ρ i (some (dSet d π x'))) σ (upd H p o) := by
  obtain ⟨F, fa, fh, fs, ha, s, hh⟩ := s.block l
  obtain ⟨r, f0, gs, er, hr, nb, e0, hsl⟩ := s.ss.take hi
  obtain ⟨w, f, g, fw, e1, hxw, wd⟩ := Rep.focus π d r f0 x hr hx ok
  refine ⟨r, w, F, f, fa, er, fw, hxw, ha, fun a => ?_, fun a p => (s.ow a (show 0 < fa a + fh a + fs a by have := e0 a; have := e1 a; omega)).1, fun p o x' du u f' k hp le nbx hx' hu => ?_⟩
  · have := s.nd a; have := e0 a; have := e1 a
    have q : fa a + fh a + fs a ≤ 1 := s.nd a
    omega
  · have qp : fa p + fh p + fs p ≤ 1 := s.nd p
    have own := s.ow p (show 0 < fa p + fh p + fs p by have := e0 p; have := e1 p; omega)
    have mu : Mut (H p) := Rep.alloc _ _ _ hxw p hp
    have K0 : Keep F F H (upd H p o) False := Keep.upd mu own.1
    have away : ∀ {f9 : Fp}, f9 p = 0 → ∀ a o', 0 < f9 a → H a = some o' → upd H p o a = some o' := fun {f9} z a o' pos h => by
      rw [upd_ne]; exact h
      rintro rfl; omega
    have hgp : g p = 0 ∧ gs p = 0 ∧ fh p = 0 := by have := e0 p; have := e1 p; omega
    have hnew := wd x' f' F (upd H p o) K0 nb (away hgp.1) (fun z => by have := z p; omega) hx'
    have hsl' := Slots.go K0 (away hgp.2.1) hsl
    have hlen : i < (setS ρ i none).length := by rw [setS_length]; exact getS_lt hi
    obtain ⟨g', le', hsl2⟩ := Slots.put (fp' := gs) i r (dSet d π x') hsl' hlen (chk_dSet _ π d x' nb nbx) hnew
    rw [setS_setS] at hsl2
    have es : σ.set i (some r) = σ := by
      obtain ⟨hl, e⟩ := List.getElem?_eq_some_iff.mp er
      rw [← e]; exact List.set_getElem_self hl
    rw [es] at hsl2
    have hh' := Reps.go K0 _ _ _ (fun z => by rw [show D.chkL (fun m => !m.isBrw) (hold.map (·.2)) = true from nbh] at z; cases z) (away hgp.2.2) hh
    refine ⟨F, fun a => k a + fh a, g', s.mut (hold' := (u, du) :: hold) (by show 0 < fa p + fh p + fs p; have := e0 p; have := e1 p; omega) ⟨u, _, k, fh, rfl, fun _ => rfl, hu, hh'⟩ hsl2 (fun a => ?_) fun j y hy hj => ?_⟩
    · have := le a; have := le' a; have := e0 a; have := e1 a
      show k a + fh a + g' a ≤ fa a + fh a + fs a
      have q : g' a ≤ gs a + (f' a + g a) := le' a
      omega
    · rcases getS_set hy with ⟨e1, e2⟩ | ⟨e1, e2⟩
      · subst e1; rw [hown] at hj; cases hj
      · exact s.mo j y e2 hj
end

/-! ### receivers -/
abbrev LF := Env → Option (List Stp)
def tL (Γ : Ctx) (i : Nat) (πf : LF) : TE := fun σ H Q => ∃ hold ρ, SI Γ hold ρ σ H ∧ ∃ π d x, πf ρ = some π ∧ getS ρ i = some d ∧ dAt d π = some x ∧ okAt d π = true ∧ ∀ v H', Ext H H' → SI Γ hold ρ σ H' → (∃ r, σ[i]? = some (some r) ∧ follow Γ.K H' r π v) → Q v H'
def l0 : LF := fun _ => some []
section
variable {X : Cx} {Γ : Ctx} {W : WX} {e a b : Expr} {es : List Expr} {f g p : PF} {fs : List PF} {pos : Pos}
theorem l_var {i : Nat} {x : Str} (hN : X.N[i]? = some x) (hv : Vis X.env.scope x) (hd : (x == ("__debug__" : Str)) = false := by decide) (hcd : (x == ("__classdict__" : Str)) = false := by decide) : PE X (.Name x pos) (tL Γ i l0) :=
  PE.wk (pe_var hN hv hd hcd) fun σ H Q ⟨hold, ρ, s, π, d, x, e1, e2, e3, e4, k⟩ => by
    cases e1
    obtain ⟨F, fh, fs, s⟩ := s
    obtain ⟨v, f, ev, _⟩ := s.ss.get e2
    exact ⟨v, ev, k v H Ext.refl ⟨F, fh, fs, s⟩ ⟨v, ev, rfl⟩⟩
/-- an operation that changes a list: its items, the arguments; the items then, the answer -/
abbrev OL := List D → List D → Option (List D × D)
def OpL (Γ : Ctx) (r : V → List V → Hp → VK → Prop) (o : OL) : Prop := ∀ (F : Addr → Prop) (H : Hp) (a : Addr) (ds : List D) (ws : List V) (f : Fp) (args : List D) (vs : List V) (fa : Fp) (ds2 : List D) (d : D) (Q : VK), o ds args = some (ds2, d) → H a = some (.lst ws) →
  Reps Γ.K Γ.cn F H ds ws f → Reps Γ.K Γ.cn F H args vs fa → D.chkL (fun m => !m.isBrw) ds = true → D.chkL (fun m => !m.isBrw) args = true →
  (∀ ws2 u (f2 k : Fp), (∀ b, f2 b + k b ≤ f b + fa b) → D.chkL (fun m => !m.isBrw) ds2 = true → d.noBrw = true → Reps Γ.K Γ.cn F H ds2 ws2 f2 → Rep Γ.K Γ.cn F H d u k → Q u (upd H a (.lst ws2))) → r (.ref a) vs H Q
def ownL : Option D → Option (List D)
  | some (.lst .own ds) => some ds
  | _ => none
theorem ownL_some {o : Option D} {ds : List D} (h : ownL o = some ds) : o = some (.lst .own ds) := by
  unfold ownL at h
  split at h
  · cases h; rfl
  · cases h
def eL (o : OL) (i : Nat) (fs : List EF) : EF := fun ρ => match ownL (getS ρ i) with
  | some _ => (match evE fs ρ with
    | some (.ok args ρ') => if D.chkL (fun m => !m.isBrw) args = true then (match ownL (getS ρ' i) with
      | some ds => (o ds args).map fun p => .ok p.2 (setS ρ' i (some (.lst .own p.1)))
      | none => none) else none
    | some (.ex n xs ρ') => some (.ex n xs ρ')
    | none => none)
  | none => none
theorem noBrw_app {h1 h2 : Hold} (h : Hold.noBrw h2) (z : D.chkL (fun m => !m.isBrw) (h1.map (·.2)) = true) : Hold.noBrw (h1 ++ h2) := by
  unfold Hold.noBrw
  rw [List.map_append]
  have : ∀ (as bs : List D), D.chkL (fun m => !m.isBrw) as = true → D.chkL (fun m => !m.isBrw) bs = true → D.chkL (fun m => !m.isBrw) (as ++ bs) = true := by
    intro as
    induction as with
    | nil => intro bs _ h; exact h
    | cons a as ih => intro bs h h'; show (D.chk _ a && D.chkL _ (as ++ bs)) = true; rw [and_l h, ih bs (and_r h) h']; rfl
  exact this _ _ z h
theorem op_change {r : V → List V → Hp → VK → Prop} {o : OL} (ho : OpL Γ r o) {hold : Hold} {ρ : Env} {σ : L2.St} {H : Hp} {vs : List V} {args : List D} {i : Nat} {d : D} {π : List Stp} {ds ds2 : List D} {du : D} {Q : VK} (s : SI Γ (vs.zip args ++ hold) ρ σ H) (l : vs.length = args.length) (nbh : hold.noBrw) (hi : getS ρ i = some d) (hx : dAt d π = some (.lst .own ds)) (ok : okAt d π = true) (hown : Γ.own i = true) (nba : D.chkL (fun m => !m.isBrw) args = true)
    (e : o ds args = some (ds2, du)) {v : V} (hv : ∃ r, σ[i]? = some (some r) ∧ follow Γ.K H r π v) (k : ∀ u H', SI Γ ((u, du) :: hold) (setS ρ i (some (dSet d π (.lst .own ds2)))) σ H' → Q u H') : r v vs H Q := by
  have nbd : D.chkL (fun m => !m.isBrw) ds = true := by
    obtain ⟨F, fh, fs, s⟩ := s
    obtain ⟨_, _, _, _, nb, _⟩ := s.ss.get hi
    have : ∀ (π : List Stp) (d x : D), D.chk (fun m => !m.isBrw) d = true → dAt d π = some x → D.chk (fun m => !m.isBrw) x = true := by
      intro π
      induction π with
      | nil => intro d x h e; rw [dAt] at e; cases e; exact h
      | cons t π ih =>
        intro d x h e
        cases d <;> cases t <;> simp [dAt, Option.bind_eq_some_iff] at e
        · obtain ⟨y, h1, h2⟩ := e; exact ih y x (chkL_get _ h h1) h2
        · obtain ⟨y, h1, h2⟩ := e; exact ih y x (chkL_get _ (and_r h) h1) h2
        · obtain ⟨y, h1, h2⟩ := e; exact ih y x (chkK_at _ (and_r h) h1) h2
        · obtain ⟨y, h1, h2⟩ := e; exact ih y x (chkF_at _ _ (and_r h) h1) h2
    exact and_r (a := !Mk.isBrw .own) (this π d _ nb hx)
  obtain ⟨rr, w, F, f, fa, er, fw, hxw, hargs, le1, nF, step⟩ := s.change l nbh hi hx ok hown
  obtain ⟨r', er', fv⟩ := hv
  rw [er] at er'; cases er'
  obtain rfl := follow_det π fw fv
  obtain ⟨p, ws, f1, ew, q, hr⟩ := hxw
  subst ew
  have q' : H p = some (.lst ws) ∧ ∀ b, f b = f1 b + if b = p then 1 else 0 := by
    rcases q with q | q
    · exact q
    · cases q.1
  have hp : 0 < f p := by have := q'.2 p; simp at this; omega
  refine ho F H p ds ws f1 args vs fa ds2 du Q e q'.1 hr hargs nbd nba fun ws2 u f2 k2 le nb2 nbu h2 hu => ?_
  have zp : f1 p = 0 ∧ fa p = 0 := by have := q'.2 p; simp at this; have := le1 p; omega
  have mu : Mut (H p) := by rw [q'.1]; trivial
  have K0 : Keep F F H (upd H p (.lst ws2)) False := Keep.upd mu (nF p hp)
  have away : ∀ {f9 : Fp}, f9 p = 0 → ∀ a o', 0 < f9 a → H a = some o' → upd H p (.lst ws2) a = some o' := fun {f9} z a o' pos h => by
    rw [upd_ne]; exact h
    rintro rfl; omega
  have zz : f2 p = 0 ∧ k2 p = 0 := by have := le p; omega
  refine k u _ (step p (.lst ws2) (.lst .own ds2) du u (fun b => f2 b + if b = p then 1 else 0) k2 hp (fun b => ?_) ?_ ⟨p, ws2, f2, rfl, .inl ⟨upd_same, fun _ => rfl⟩, ?_⟩ ?_)
  · have := le b; have := q'.2 b
    show f2 b + (if b = p then 1 else 0) + k2 b ≤ f b + fa b
    omega
  · show ((!Mk.isBrw .own) && D.chkL (fun m => !m.isBrw) ds2) = true
    rw [nb2]; rfl
  · exact Reps.go K0 _ _ _ (fun z => by rw [nb2] at z; cases z) (away zz.1) h2
  · exact Rep.go K0 _ _ _ (fun z => by rw [nbu] at z; cases z) (away zz.2) hu
end
end DL

end
section
/-! DL12: the methods of lists, x[i] = e. -/
open PySem PySem.Spec L2
namespace DL
section
variable {Γ : Ctx}
theorem Reps.sing {K : PySem.W.Frag} {cn : Nm} {F : Addr → Prop} {H : Hp} {d : D} {vs : List V} {f : Fp} (h : Reps K cn F H [d] vs f) : ∃ v, vs = [v] ∧ Rep K cn F H d v f := by
  obtain ⟨v, r, f1, g, e, s, h1, h2⟩ := h
  obtain ⟨h2, z⟩ := h2
  subst h2
  have : f = f1 := funext fun a => by have := s a; have := z a; omega
  rw [this]
  exact ⟨v, e, h1⟩
theorem Reps.pair {K : PySem.W.Frag} {cn : Nm} {F : Addr → Prop} {H : Hp} {d e : D} {vs : List V} {f : Fp} (h : Reps K cn F H [d, e] vs f) : ∃ v w f1 f2, vs = [v, w] ∧ Rep K cn F H d v f1 ∧ Rep K cn F H e w f2 ∧ ∀ a, f a = f1 a + f2 a := by
  obtain ⟨v, r, f1, g, e, s, h1, h2⟩ := h
  obtain ⟨w, hw, h3⟩ := Reps.sing h2
  subst hw
  exact ⟨v, w, f1, g, e, h1, h3, s⟩
theorem chkL_app (p : Mk → Bool) : ∀ (as bs : List D), D.chkL p (as ++ bs) = (D.chkL p as && D.chkL p bs)
  | [], bs => rfl
  | a :: as, bs => by show (D.chk p a && D.chkL p (as ++ bs)) = _; rw [chkL_app p as bs, ← Bool.and_assoc]; rfl
theorem chkL_take (p : Mk → Bool) : ∀ (n : Nat) (as : List D), D.chkL p as = true → D.chkL p (as.take n) = true
  | 0, as, h => by rw [List.take_zero]; rfl
  | n + 1, [], h => rfl
  | n + 1, a :: as, h => by show (D.chk p a && D.chkL p (as.take n)) = true; rw [and_l h, chkL_take p n as (and_r h)]; rfl
theorem chkL_drop (p : Mk → Bool) : ∀ (n : Nat) (as : List D), D.chkL p as = true → D.chkL p (as.drop n) = true
  | 0, as, h => h
  | n + 1, [], h => rfl
  | n + 1, a :: as, h => chkL_drop p n as (and_r h)
/-- append -/
def oApp : OL := fun ds args => match args with | [d] => if ds.length < sizeLine then some (ds ++ [d], .non) else none | _ => none
theorem oApp_ok : OpL Γ rAppend oApp := fun F H a ds ws f args vs fa ds2 d Q e hH hr ha nb nba k => by
  unfold oApp at e
  split at e
  · split at e
    · rename_i x hl
      cases e
      obtain ⟨v, rfl, hx⟩ := Reps.sing ha
      refine ⟨a, ws, v, rfl, rfl, hH, by rw [← hr.len]; exact hl, k _ .non (fun b => f b + fa b) fp0 (fun b => Nat.le_refl _) (by rw [chkL_app, nb, nba]; rfl) rfl (Reps.app hr (Reps.one hx) fun _ => rfl) ⟨rfl, fun _ => rfl⟩⟩
    · cases e
  · cases e
/-- extend by a list -/
def oExt : OL := fun ds args => match args with | [.lst m es] => if m ≠ .ro ∧ ds.length + es.length ≤ sizeLine then some (ds ++ es, .non) else none | _ => none
theorem oExt_ok : OpL Γ rExtend oExt := fun F H a ds ws f args vs fa ds2 d Q e hH hr ha nb nba k => by
  unfold oExt at e
  split at e
  · split at e
    · rename_i m es hl
      cases e
      obtain ⟨v, rfl, p, ws2, f2, ev, q, hx⟩ := Reps.sing ha
      subst ev
      refine ⟨a, p, ws, ws2, rfl, rfl, hH, lst_at q hl.1, by rw [← hr.len, ← hx.len]; exact hl.2, k _ .non (fun b => f b + f2 b) fp0 (fun b => by have := lst_le q b; show f b + f2 b + 0 ≤ _; omega) (by rw [chkL_app, nb, show D.chkL (fun m => !m.isBrw) es = true from and_r (a := !m.isBrw) (and_l nba)]; rfl) rfl (Reps.app hr hx fun _ => rfl) ⟨rfl, fun _ => rfl⟩⟩
    · cases e
  · cases e
/-- insert at a place from 0 on -/
def rIns : V → List V → Hp → VK → Prop := fun x vs H Q => ∃ (l : Addr) (xs : List V) (i : Int) (y : V), x = .ref l ∧ vs = [.int i, y] ∧ H l = some (.lst xs) ∧ xs.length < sizeLine ∧ 0 ≤ i ∧ i < 2 ^ 63 ∧ Q .non (upd H l (.lst (xs.take i.toNat ++ [y] ++ xs.drop i.toNat)))
def oIns : OL := fun ds args => match args with | [.int i, d] => if ds.length < sizeLine ∧ 0 ≤ i ∧ i < 2 ^ 63 then some (ds.take i.toNat ++ [d] ++ ds.drop i.toNat, .non) else none | _ => none
theorem Reps.cutAt {K : PySem.W.Frag} {cn : Nm} {F : Addr → Prop} {H : Hp} : ∀ (n : Nat) {ds : List D} {vs : List V} {fp : Fp}, Reps K cn F H ds vs fp → ∃ f g, (∀ a, fp a = f a + g a) ∧ Reps K cn F H (ds.take n) (vs.take n) f ∧ Reps K cn F H (ds.drop n) (vs.drop n) g
  | 0, ds, vs, fp, h => ⟨fp0, fp, fun a => by show _ = 0 + _; omega, by rw [List.take_zero, List.take_zero]; exact ⟨rfl, fun _ => rfl⟩, h⟩
  | n + 1, [], vs, fp, h => by rw [h.1]; exact ⟨fp0, fp, fun a => by show _ = 0 + _; omega, ⟨rfl, fun _ => rfl⟩, ⟨rfl, h.2⟩⟩
  | n + 1, d :: ds, vs, fp, ⟨v, r, f, g, e, s, h1, h2⟩ => by
    subst e
    obtain ⟨f', g', e', a, b⟩ := Reps.cutAt n h2
    exact ⟨fun a => f a + f' a, g', fun a => by have := s a; have := e' a; show _ = f a + f' a + g' a; omega, ⟨v, _, f, f', rfl, fun _ => rfl, h1, a⟩, b⟩
theorem oIns_ok : OpL Γ rIns oIns := fun F H a ds ws f args vs fa ds2 d Q e hH hr ha nb nba k => by
  unfold oIns at e
  split at e
  · split at e
    · rename_i i x hl
      cases e
      obtain ⟨v, w, f1, f2, rfl, h1, h2, s⟩ := Reps.pair ha
      obtain ⟨f3, f4, e3, h3, h4⟩ := hr.cutAt i.toNat
      refine ⟨a, ws, i, w, rfl, by rw [h1.1], hH, by rw [← hr.len]; exact hl.1, hl.2.1, hl.2.2, k _ .non (fun b => (f3 b + f2 b) + f4 b) fp0 (fun b => by have := e3 b; have := s b; show f3 b + f2 b + f4 b + 0 ≤ _; omega) ?_ rfl (Reps.app (Reps.app h3 (Reps.one h2) fun _ => rfl) h4 fun _ => rfl) ⟨rfl, fun _ => rfl⟩⟩
      rw [chkL_app, chkL_app, chkL_take _ _ _ nb, chkL_drop _ _ _ nb]
      have : D.chkL (fun m => !m.isBrw) [x] = true := and_r (a := true) nba
      rw [this]; rfl
    · cases e
  · cases e
/-- pop() -/
def oPop : OL := fun ds args => match args with | [] => (ds.getLast?).map fun d => (ds.dropLast, d) | _ => none
theorem oPop_ok : OpL Γ rPop oPop := fun F H a ds ws f args vs fa ds2 d Q e hH hr ha nb nba k => by
  unfold oPop at e
  split at e
  · rw [Option.map_eq_some_iff] at e
    obtain ⟨x, e1, e2⟩ := e
    cases e2
    have hd : ds = ds.dropLast ++ [d] := by
      have hne : ds ≠ [] := by rintro rfl; cases e1
      have e3 : d = ds.getLast hne := Option.some.inj (e1.symm.trans (List.getLast?_eq_some_getLast hne))
      rw [e3]
      exact (List.dropLast_concat_getLast hne).symm
    have hr2 := hr
    rw [hd] at hr2
    obtain ⟨v1, v2, f1, f2, ev, s, h1, h2⟩ := Reps.split hr2
    obtain ⟨w, rfl, hw⟩ := Reps.sing h2
    have e0 : vs = [] := ha.1
    subst e0
    have nb2 := nb
    rw [hd, chkL_app] at nb2
    refine ⟨a, ws, w, rfl, rfl, hH, ?_, ?_⟩
    · rw [ev, List.length_append, List.length_singleton, Nat.add_sub_cancel, List.getElem?_append_right (Nat.le_refl _), Nat.sub_self]; rfl
    · have : ws.dropLast = v1 := by rw [ev, List.dropLast_concat]
      rw [this]
      exact k v1 w f1 f2 (fun b => by have := s b; have := ha.2 b; omega) (and_l nb2) (and_l (and_r nb2)) h1 hw
  · cases e
/-- clear -/
def oClr : OL := fun ds args => match args with | [] => some ([], .non) | _ => none
theorem oClr_ok : OpL Γ rClear oClr := fun F H a ds ws f args vs fa ds2 d Q e hH hr ha nb nba k => by
  unfold oClr at e
  split at e
  · cases e
    have e0 : vs = [] := ha.1
    subst e0
    exact ⟨a, ws, rfl, rfl, hH, k [] .non fp0 fp0 (fun b => Nat.zero_le _) rfl rfl ⟨rfl, fun _ => rfl⟩ ⟨rfl, fun _ => rfl⟩⟩
  · cases e
end
section
variable {X : Cx} {Γ : Ctx} {W : WX} {e a b : Expr} {es : List Expr} {f g p : PF} {pos apos cpos : Pos} {nm : Str} {idn : String}
/-- x.m(e, ..) of a list that a slot holds -/
theorem e_lm {r : V → List V → Hp → VK → Prop} {o : OL} {fs : List EF} {i : Nat} {x : Str} {px : Pos} (ho : OpL Γ r o) (pa : PlainAttrs "list") (slot : Slot "list" nm idn) (hty : typeOf (.builtin idn) = pure (.type "method_descriptor")) (hm : MtR X idn r) (hK : X.K = Γ.K) (hown : Γ.own i = true) (hN : X.N[i]? = some x) (hv : Vis X.env.scope x) (ha : PA X (e :: es) (tAE Γ W fs))
    (hd : (x == ("__debug__" : Str)) = false := by decide) (hcd : (x == ("__classdict__" : Str)) = false := by decide)
    (hbase : attributeBase (.Name x px) nm X.env (eval (.Name x px) X.env) = eval (.Name x px) X.env := by rfl)
    (hfew : ((backTo cpos (starEach (e :: es) X.env)).all (fun x => !x.1) && (backToKw cpos (keywordEach [] X.env)).all (fun x => x.1.isSome)
      && decide ((e :: es).length + ([] : List Keyword).length + (if ([] : List Keyword).isEmpty then 0 else 1) < 30)) = true := by rfl)
    (hline : (apos.endLine == cpos.line) = true := by rfl) (hs : starEach (e :: es) X.env = (false, eval e X.env) :: starEach es X.env := by rfl) (hplain : (backTo cpos (starEach es X.env)).any (·.1) = false := by rfl) :
    PE X (.Call (.Attribute (.Name x px) nm apos) (e :: es) [] cpos) (tE Γ W (eL o i fs)) :=
  PE.wk (pe_bm pa slot hty hm (pe_var hN hv hd hcd) ha hbase hfew hline hs hplain) fun σ H Q ⟨hold, ρ, s, nb, k⟩ => by
    unfold eL at k
    cases hg : ownL (getS ρ i) with
    | none => rw [hg] at k; exact k.elim
    | some ds0 =>
      rw [hg] at k
      obtain ⟨F, fh, fs', s0⟩ := id s
      obtain ⟨v, f0, ev, hr, _⟩ := s0.ss.get (ownL_some hg)
      obtain ⟨p, ws, f1, ew, q, _⟩ := hr
      subst ew
      refine ⟨.ref p, ev, .inl ⟨rfl, ws, by rw [hK]; exact lst_sq q⟩, hold, ρ, s, nb, ?_⟩
      dsimp only at k
      cases z : evE fs ρ with
      | none => rw [z] at k; exact k.elim
      | some o1 =>
        rw [z] at k
        cases o1 with
        | ex n xs ρ' => exact k
        | ok args ρ' =>
          dsimp only at k ⊢
          intro vs H' l s'
          by_cases hnb : D.chkL (fun m => !m.isBrw) args = true
          · rw [if_pos hnb] at k
            cases hg' : ownL (getS ρ' i) with
            | none => rw [hg'] at k; exact k.elim
            | some ds =>
              rw [hg'] at k
              dsimp only at k
              cases z2 : o ds args with
              | none => rw [z2] at k; exact k.elim
              | some p2 =>
                rw [z2] at k
                exact op_change ho (π := []) s' l nb (ownL_some hg') rfl rfl hown hnb z2 ⟨_, ev, rfl⟩ fun u H2 s2 => k u H2 s2
          · rw [if_neg hnb] at k; exact k.elim
theorem e_lm0 {r : V → List V → Hp → VK → Prop} {o : OL} {i : Nat} {x : Str} {px : Pos} (ho : OpL Γ r o) (pa : PlainAttrs "list") (slot : Slot "list" nm idn) (hty : typeOf (.builtin idn) = pure (.type "method_descriptor")) (hm : MtR X idn r) (hK : X.K = Γ.K) (hown : Γ.own i = true) (hN : X.N[i]? = some x) (hv : Vis X.env.scope x)
    (hd : (x == ("__debug__" : Str)) = false := by decide) (hcd : (x == ("__classdict__" : Str)) = false := by decide)
    (hbase : attributeBase (.Name x px) nm X.env (eval (.Name x px) X.env) = eval (.Name x px) X.env := by rfl) (hline : (apos.endLine == cpos.line) = true := by rfl) :
    PE X (.Call (.Attribute (.Name x px) nm apos) [] [] cpos) (tE Γ W (eL o i [])) :=
  PE.wk (pe_bm0 pa slot hty hm (pe_var hN hv hd hcd) hbase hline) fun σ H Q ⟨hold, ρ, s, nb, k⟩ => by
    unfold eL at k
    cases hg : ownL (getS ρ i) with
    | none => rw [hg] at k; exact k.elim
    | some ds0 =>
      rw [hg] at k
      obtain ⟨F, fh, fs', s0⟩ := id s
      obtain ⟨v, f0, ev, hr, _⟩ := s0.ss.get (ownL_some hg)
      obtain ⟨p, ws, f1, ew, q, _⟩ := hr
      subst ew
      refine ⟨.ref p, ev, .inl ⟨rfl, ws, by rw [hK]; exact lst_sq q⟩, ?_⟩
      rw [evE] at k
      dsimp only at k
      rw [if_pos (by rfl), hg] at k
      dsimp only at k
      cases z2 : o ds0 [] with
      | none => rw [z2] at k; exact k.elim
      | some p2 =>
        rw [z2] at k
        exact op_change ho (π := []) (vs := []) (args := []) s rfl nb (ownL_some hg) rfl rfl hown rfl z2 ⟨_, ev, rfl⟩ fun u H2 s2 => k u H2 s2
/-- x[i] = e within a slot -/
def oSet (j : Int) : OL := fun ds args => match args with | [d] => (ixN ds.length j).map fun k => (ds.set k d, .non) | _ => none
def rSetV (j : Int) : V → List V → Hp → VK → Prop := fun x vs H Q => ∃ v, vs = [v] ∧ rSetL x (.int j) v H fun H' => Q .non H'
theorem oSet_ok (j : Int) : OpL Γ (rSetV j) (oSet j) := fun F H a ds ws f args vs fa ds2 d Q e hH hr ha nb nba k => by
  unfold oSet at e
  split at e
  · rename_i x
    rw [Option.map_eq_some_iff] at e
    obtain ⟨i, e1, e2⟩ := e
    cases e2
    obtain ⟨v, rfl, hx⟩ := Reps.sing ha
    have hi : i < ds.length := (ixN_seq e1).2.1
    obtain ⟨v0, f1, g1, ev, s, h0, st⟩ := Reps.set hr (List.getElem?_eq_getElem hi)
    refine ⟨v, rfl, a, ws, j, i, rfl, rfl, hH, by rw [← hr.len]; exact e1, k _ .non (fun b => fa b + g1 b) fp0 (fun b => by have := s b; show fa b + g1 b + 0 ≤ _; omega) (chkL_set _ _ _ _ nb (and_l nba)) rfl ?_ ⟨rfl, fun _ => rfl⟩⟩
    exact st x v fa F H True (Keep.more fun _ h => h) (fun _ => trivial) (fun a o _ h => h) hx
  · cases e
/-- the list at a place of a slot -/
def placeL (ρ : Env) (i : Nat) (π : List Stp) : Option (D × List D) := match getS ρ i with
  | some d0 => if okAt d0 π = true then (ownL (dAt d0 π)).map fun ds => (d0, ds) else none
  | none => none
theorem placeL_some {ρ : Env} {i : Nat} {π : List Stp} {p : D × List D} (h : placeL ρ i π = some p) : getS ρ i = some p.1 ∧ dAt p.1 π = some (.lst .own p.2) ∧ okAt p.1 π = true := by
  unfold placeL at h
  cases q : getS ρ i with
  | none => rw [q] at h; cases h
  | some d0 =>
    rw [q] at h
    dsimp only at h
    split at h
    · rename_i c
      rw [Option.map_eq_some_iff] at h
      obtain ⟨ds, h1, h2⟩ := h
      cases h2
      exact ⟨rfl, ownL_some h1, c⟩
    · cases h
def asInt : Option D → Option Int | some (.int j) => some j | _ => none
theorem asInt_some {o : Option D} {j : Int} (h : asInt o = some j) : o = some (.int j) := by
  unfold asInt at h
  split at h
  · cases h; rfl
  · cases h
def setL (ρ : Env) (i : Nat) (π : List Stp) (j : Int) (d : D) : Option Env := match placeL ρ i π with
  | some p => if d.noBrw = true then (ixN p.2.length j).map fun k => setS ρ i (some (dSet p.1 π (.lst .own (p.2.set k d)))) else none
  | none => none
def sSetL (i : Nat) (πf : LF) (f : EF) (g : PF) : SF := fun ρ => match f ρ with
  | some (.ok d ρ1) => (match πf ρ1, asInt (g ρ1) with
    | some π, some j => (setL ρ1 i π j d).map .nx
    | _, _ => none)
  | some (.ex n xs ρ1) => some (.ex n xs ρ1)
  | none => none
theorem s_setl {i : Nat} {πf : LF} {f : EF} {g : PF} {o ix value : Expr} {spos : Pos} (hK : X.K = Γ.K) (hown : Γ.own i = true) (hv : PE X value (tE Γ W f)) (ho : PE X o (tL Γ i πf)) (hi : PE X ix (tP Γ g))
    (ha : ∀ v, assign (.Subscript o ix spos) X.env v = (do
      let ov ← holding [v] (eval o X.env)
      let iv ← holding [v, ov] (eval ix X.env)
      standAt spos
      holding [v, ov, iv] (setItem ov iv v)
      release [v, ov, iv] []) := by intro _; rfl)
    (hs : swapsWithSole [.Subscript o ix spos] value pos.line X.env = pure false := by rfl) (hw : swappedStores [.Subscript o ix spos] value X.env = pure none := by rfl)
    (h1 : (assignEach [.Subscript o ix spos] X.env).map (·.2) = [assign (.Subscript o ix spos) X.env] := by rfl) : PS X (.Assign [.Subscript o ix spos] value pos) (tS Γ W (sSetL i πf f g)) :=
  PS.wk (ps_asg hv (pg_sub ho hi set_list ha) hs hw h1) fun DD σ H ⟨hold, ρ, s, nb, k⟩ => by
    refine ⟨hold, ρ, s, nb, ?_⟩
    unfold sSetL at k
    cases z : f ρ with
    | none => rw [z] at k; exact k
    | some o1 =>
      rw [z] at k
      cases o1 with
      | ex n xs ρ1 => exact fun c od H' s' => k c od σ H' s'
      | ok d ρ1 =>
        dsimp only at k ⊢
        intro v H1 s1
        cases e1 : πf ρ1 with
        | none => rw [e1] at k; exact k.elim
        | some π =>
          cases e2 : asInt (g ρ1) with
          | none => rw [e1, e2] at k; exact k.elim
          | some j =>
            rw [e1, e2] at k
            dsimp only at k
            unfold setL at k
            cases e3 : placeL ρ1 i π with
            | none => rw [e3] at k; exact k.elim
            | some p =>
              obtain ⟨g1, g2, g3⟩ := placeL_some e3
              rw [e3] at k
              dsimp only at k
              by_cases c : d.noBrw = true
              · rw [if_pos c] at k
                refine ⟨_, ρ1, s1, π, p.1, _, e1, g1, g2, g3, fun w H2 x2 s2 hw => ⟨_, ρ1, s2, _, asInt_some e2, fun u H3 x3 s3 => ?_⟩⟩
                obtain rfl := s3.topInt
                obtain ⟨r, er, fr⟩ := hw
                cases z3 : ixN p.2.length j with
                | none => rw [z3] at k; exact k.elim
                | some kk =>
                  rw [z3] at k
                  have hop : oSet j p.2 [d] = some (p.2.set kk d, .non) := by unfold oSet; rw [z3]; rfl
                  have nbd : D.chkL (fun m => !m.isBrw) [d] = true := by show (D.chk _ d && true) = true; rw [show D.chk (fun m => !m.isBrw) d = true from c]; rfl
                  obtain ⟨v', e', q⟩ := op_change (oSet_ok j) (π := π) (vs := [v]) (args := [d]) (v := w) (Q := fun _ H' => DD.nx σ H') s3.drop rfl nb g1 g2 g3 hown nbd hop ⟨r, er, follow_ext x3 π fr⟩ (fun u' H4 s4 => k σ H4 s4.drop)
                  cases e'
                  exact q
              · rw [if_neg c] at k; exact k.elim
end
end DL

end
section
/-! DL13: what a def promises; calls. -/
open PySem PySem.Spec L2
namespace DL
inductive FRes where
  | ret (d : D) (ls : List D)
  | exc (n : Str) (fs : List (Str × D)) (ls : List D)
abbrev FF := List D → Option FRes
def pick {α : Type} : List Bool → List α → List α
  | true :: m, x :: xs => x :: pick m xs
  | false :: m, _ :: xs => pick m xs
  | _, _ => []
/-- lent things: no borrowed part; others: no own part either -/
def okArgs : List Bool → List D → Bool
  | true :: m, d :: ds => d.noBrw && okArgs m ds
  | false :: m, d :: ds => d.noBrw && d.noOwn && okArgs m ds
  | [], [] => true
  | _, _ => false
structure Aft (K : PySem.W.Frag) (cn : Nm) (F0 : Addr → Prop) (fp : Fp) (H : Hp) (rs : List D) (ws : List V) (H' : Hp) (F' : Addr → Prop) (fp' : Fp) : Prop where
  rep : Reps K cn F' H' rs ws fp'
  nb : D.chkL (fun m => !m.isBrw) rs = true
  nd : ∀ a, fp' a ≤ 1
  ow : ∀ a, 0 < fp' a → ¬ F' a ∧ (H a = none ∨ 0 < fp a)
  F1 : ∀ a, F0 a → F' a
  F2 : ∀ a, F' a → F0 a ∨ H a = none ∨ 0 < fp a
  al : ∀ a, F' a → H' a ≠ none
  kp : ∀ a o, H a = some o → fp a = 0 → H' a = some o
  dm : ∀ a, H a ≠ none → H' a ≠ none
def SpD (K : PySem.W.Frag) (cn : Nm) (lm : List Bool) (f : FF) : Sp := fun vs H Q E => ∃ (F0 : Addr → Prop) (ds : List D) (fp : Fp),
  Reps K cn F0 H ds vs fp ∧ ds.length = lm.length ∧ (∀ a, fp a ≤ 1) ∧ (∀ a, 0 < fp a → ¬ F0 a) ∧ (∀ a, F0 a → H a ≠ none) ∧ okArgs lm ds = true ∧
  match f ds with
  | none => False
  | some (.ret d ls) => ∀ v H' F' fp', Aft K cn F0 fp H (d :: ls) (v :: pick lm vs) H' F' fp' → Q v H'
  | some (.exc n fs ls) => ∀ c od H' F' fp', Aft K cn F0 fp H ls (pick lm vs) H' F' fp' → ExO cn H' n fs c od → E c od H'
def lents : List Bool → Env → Option (List D)
  | true :: m, some d :: ρ => (lents m ρ).map (d :: ·)
  | false :: m, _ :: ρ => lents m ρ
  | [], _ => some []
  | _, _ => none
/-- a def of n further names: its body's function -/
def fnR (lm : List Bool) : Option Out → Option FRes
  | some (.nx ρ') => (lents lm ρ').map (.ret .non ·)
  | some (.rt d ρ') => if d.noBrw = true then (lents lm ρ').map (.ret d ·) else none
  | some (.ex m fs ρ') => (lents lm ρ').map (.exc m fs ·)
  | none => none
def fnD (n : Nat) (lm : List Bool) (g : SF) : FF := fun ds => if ds.length = lm.length then fnR lm (g (ds.map some ++ List.replicate n none)) else none
theorem fnD_len {n : Nat} {lm : List Bool} {g : SF} : ∀ ds, fnD n lm g ds ≠ none → ds.length = lm.length := fun ds h => by
  unfold fnD at h
  split at h
  · assumption
  · exact absurd rfl h
section
variable {K : PySem.W.Frag} {cn : Nm} {F : Addr → Prop} {H : Hp}
theorem slots_start : ∀ {ds : List D} {vs : List V} {fp : Fp} (n : Nat), Reps K cn F H ds vs fp → D.chkL (fun m => !m.isBrw) ds = true → Slots K cn F H (ds.map some ++ List.replicate n none) (vs.map some ++ List.replicate n none) fp
  | [], vs, fp, n, h, _ => by
    rw [h.1]
    show Slots K cn F H (List.replicate n none) (List.replicate n none) fp
    induction n with
    | zero => exact ⟨rfl, h.2⟩
    | succ n ih => exact ⟨none, _, rfl, ih⟩
  | d :: ds, vs, fp, n, ⟨v, r, f, g, e, s, h1, h2⟩, nb => by
    subst e
    exact ⟨v, _, f, g, rfl, s, and_l nb, h1, slots_start n h2 (and_r nb)⟩
theorem lents_ok : ∀ {lm : List Bool} {ρ : Env} {σ : L2.St} {vs : List V} {fs : Fp} {ls : List D}, Slots K cn F H ρ σ fs → lents lm ρ = some ls → vs.length = lm.length → (∀ (i : Nat) (v : V), lm[i]? = some true → vs[i]? = some v → σ[i]? = some (some v)) →
    ∃ g, (∀ a, g a ≤ fs a) ∧ Reps K cn F H ls (pick lm vs) g ∧ D.chkL (fun m => !m.isBrw) ls = true
  | [], ρ, σ, vs, fs, ls, _, e, _, _ => by
    rw [lents] at e; cases e
    exact ⟨fp0, fun _ => Nat.zero_le _, ⟨by cases vs <;> rfl, fun _ => rfl⟩, rfl⟩
  | true :: m, [], _, _, _, _, _, e, _, _ => by simp [lents] at e
  | true :: m, none :: _, _, _, _, _, _, e, _, _ => by simp [lents] at e
  | false :: m, [], _, _, _, _, _, e, _, _ => by simp [lents] at e
  | true :: m, some d :: ρ, σ, [], fs, ls, _, _, l, _ => by cases l
  | false :: m, x :: ρ, σ, [], fs, ls, _, _, l, _ => by cases l
  | true :: m, some d :: ρ, σ, v :: vs, fs, ls, ⟨v', r, f, g, e1, s, nb, h1, h2⟩, e, l, hv => by
    rw [lents, Option.map_eq_some_iff] at e
    obtain ⟨ls', e2, rfl⟩ := e
    subst e1
    have ev : v' = v := by
      have := hv 0 v rfl rfl
      simpa using this
    subst ev
    obtain ⟨g', le, hr, nb2⟩ := lents_ok h2 e2 (by simpa using l) fun i w a b => by simpa using hv (i + 1) w a b
    exact ⟨fun a => f a + g' a, fun a => by have := s a; have := le a; show f a + g' a ≤ fs a; omega, ⟨v', _, f, g', rfl, fun _ => rfl, h1, hr⟩, by show (D.chk _ d && D.chkL _ ls') = true; rw [show D.chk (fun m => !m.isBrw) d = true from nb, nb2]; rfl⟩
  | false :: m, some d :: ρ, σ, v :: vs, fs, ls, ⟨v', r, f, g, e1, s, nb, h1, h2⟩, e, l, hv => by
    rw [lents] at e
    subst e1
    obtain ⟨g', le, hr, nb2⟩ := lents_ok h2 e (by simpa using l) fun i w a b => by simpa using hv (i + 1) w a b
    exact ⟨g', fun a => by have := s a; have := le a; omega, hr, nb2⟩
  | false :: m, none :: ρ, σ, v :: vs, fs, ls, ⟨x, r, e1, h2⟩, e, l, hv => by
    rw [lents] at e
    subst e1
    obtain ⟨g', le, hr, nb2⟩ := lents_ok h2 e (by simpa using l) fun i w a b => by simpa using hv (i + 1) w a b
    exact ⟨g', le, hr, nb2⟩
theorem okArgs_nb : ∀ {lm : List Bool} {ds : List D}, okArgs lm ds = true → D.chkL (fun m => !m.isBrw) ds = true
  | [], [], _ => rfl
  | [], _ :: _, h => by cases h
  | true :: m, d :: ds, h => by show (D.chk _ d && D.chkL _ ds) = true; rw [show D.chk (fun m => !m.isBrw) d = true from and_l h, okArgs_nb (and_r h)]; rfl
  | false :: m, d :: ds, h => by show (D.chk _ d && D.chkL _ ds) = true; rw [show D.chk (fun m => !m.isBrw) d = true from and_l (and_l h), okArgs_nb (and_r h)]; rfl
  | true :: m, [], h => by cases h
  | false :: m, [], h => by cases h
theorem okArgs_get : ∀ {lm : List Bool} {ds : List D} {n i : Nat} {d : D}, okArgs lm ds = true → getS (ds.map some ++ List.replicate n none) i = some d → lm[i]? = some true ∨ d.noOwn = true
  | [], [], n, i, d, _, e => by
    exfalso
    have : ∀ (n i : Nat), getS (List.replicate n none) i ≠ some d := by
      intro n
      induction n with
      | zero => intro i z; simp [getS] at z
      | succ n ih => intro i z; cases i with
        | zero => simp [getS, List.replicate] at z
        | succ i => exact ih i z
    exact this n i e
  | [], _ :: _, _, _, _, h, _ => by cases h
  | true :: m, d0 :: ds, n, 0, d, h, e => .inl rfl
  | true :: m, d0 :: ds, n, i + 1, d, h, e => by
    rcases okArgs_get (lm := m) (ds := ds) (n := n) (i := i) (and_r h) e with z | z
    · exact .inl (by simpa using z)
    · exact .inr z
  | false :: m, d0 :: ds, n, 0, d, h, e => by
    have : d0 = d := by simpa [getS] using e
    subst this
    exact .inr (and_r (and_l h))
  | false :: m, d0 :: ds, n, i + 1, d, h, e => by
    rcases okArgs_get (lm := m) (ds := ds) (n := n) (i := i) (and_r h) e with z | z
    · exact .inl (by simpa using z)
    · exact .inr z
  | true :: m, [], _, _, _, h, _ => by cases h
  | false :: m, [], _, _, _, h, _ => by cases h
end
/-- the lent parameters' values -/
def lvOf (lm : List Bool) (vs : List V) (i : Nat) : Option V := if lm[i]? = some true then vs[i]? else none
/-- the context of a def's body: its slots that may be changed in place are os -/
abbrev bodyCtx (K : PySem.W.Frag) (cn : Nm) (H : Hp) (F0 : Addr → Prop) (fp : Fp) (lm : List Bool) (vs : List V) (os : List Nat) : Ctx := ⟨K, cn, H, F0, fun a => 0 < fp a, fun i => os.contains i, lvOf lm vs⟩
section
variable {P : Program} {w : World} {K : PySem.W.Frag} {mg : Str → Option Value} {base : Heap} {cn : Nm}
/-- a def keeps its promise -/
theorem fn_ok {x qual : Str} {st : Stmt} {f : Addr} {fd : FuncData} {N ps : List Str} {k n : Nat} {lm : List Bool} {os : List Nat} {g : SF} (F : Fun K x qual st f fd) (S : FnScope N ps (defScope st)) (hl : lm.length = ps.length) (hn : N.length - ps.length = n) (hos : ∀ (i : Nat), lm[i]? = some true → os.contains i = true)
    (body : ∀ (cdv : Value) (A : Around) (outer : List PySem.Env) (s : Shared) (H : Hp) (E : XK) (F0 : Addr → Prop) (fp : Fp) (vs : List V), Room k (A.deeper (PyProof.Rows.envOfC qual (defScope st) s.heap.objs.size f cdv)) →
      Takes (cxOf (L2.CX P w) P w K mg base N qual (defScope st) f cdv A outer s H E) (fun cls d _ H => E cls d H) →
      PassesOwn (model P w) (cxOf (L2.CX P w) P w K mg base N qual (defScope st) f cdv A outer s H E).A (cxOf (L2.CX P w) P w K mg base N qual (defScope st) f cdv A outer s H E).env (cxOf (L2.CX P w) P w K mg base N qual (defScope st) f cdv A outer s H E).xe →
      PSs (cxOf (L2.CX P w) P w K mg base N qual (defScope st) f cdv A outer s H E) (defBody st) (tS (bodyCtx K cn H F0 fp lm vs os) (fun cls d _ H => E cls d H) g)) :
    FnOk P w K mg base (L2.CX P w) (k + 1) f fd ps (SpD K cn lm (fnD n lm g)) := by
  refine F.okX S (fun vs H Q E ⟨F0, ds, fp, h, l, _⟩ => by rw [← h.len, l, hl]) fun cdv A outer s H vs Q E hr ⟨F0, ds, fp, h, l, nd, ow, al, ok, k⟩ => ?_
  refine ⟨_, body cdv A outer s H E F0 fp vs hr (takes_of rfl rfl rfl rfl) (passes_of rfl), ?_⟩
  have hlen : vs.length = ps.length := by rw [← h.len, l, hl]
  have hst : L2.start N vs = vs.map some ++ List.replicate n none := by unfold L2.start; rw [hlen, hn]
  have s0 : SIx (bodyCtx K cn H F0 fp lm vs os) F0 fp0 fp [] (ds.map some ++ List.replicate n none) (L2.start N vs) H := by
    rw [hst]
    refine ⟨⟨rfl, fun _ => rfl⟩, slots_start n h (okArgs_nb ok), fun a => by have := nd a; show 0 + fp a ≤ 1; omega, fun a p => ?_, fun i d e ho => ?_, fun a z => z, fun a z => .inl z, al, fun a o z _ => z, fun a z => z, fun i v hv => ?_⟩
    · have p' : 0 < fp a := by have : 0 < 0 + fp a := p; omega
      exact ⟨ow a p', .inr p'⟩
    · rcases okArgs_get ok e with z | z
      · have := hos i z
        rw [show os.contains i = false from ho] at this; cases this
      · exact z
    · have hv' : lvOf lm vs i = some v := hv
      unfold lvOf at hv'
      split at hv'
      · have : i < vs.length := (List.getElem?_eq_some_iff.mp hv').1
        rw [List.getElem?_append_left (by simpa using this), List.getElem?_map, hv']; rfl
      · cases hv'
  refine ⟨[], _, ⟨F0, fp0, fp, s0⟩, rfl, ?_⟩
  unfold fnD at k
  rw [if_pos l] at k
  unfold fnR at k
  have hlk : ∀ {ρ' : Env} {σ' : L2.St} {H' : Hp} {hold : Hold} {F' fh fs}, SIx (bodyCtx K cn H F0 fp lm vs os) F' fh fs hold ρ' σ' H' → ∀ (i : Nat) (v : V), lm[i]? = some true → vs[i]? = some v → σ'[i]? = some (some v) := fun s i v a b => s.lk i v (by show lvOf lm vs i = _; unfold lvOf; rw [if_pos a]; exact b)
  have hvl : vs.length = lm.length := by rw [hlen, hl]
  cases z : g (ds.map some ++ List.replicate n none) with
  | none => rw [z] at k; exact k
  | some o =>
    rw [z] at k
    cases o with
    | nx ρ' =>
      dsimp only at k ⊢
      cases z2 : lents lm ρ' with
      | none => rw [z2] at k; exact k.elim
      | some ls =>
        rw [z2] at k
        rintro σ' H' ⟨F', fh, fs, s⟩
        obtain ⟨gg, le, hr2, nb2⟩ := lents_ok s.ss z2 hvl (hlk s)
        refine k .non H' F' gg ⟨⟨.non, _, fp0, gg, rfl, fun a => by show _ = 0 + _; omega, ⟨rfl, fun _ => rfl⟩, hr2⟩, nb2, fun a => by have := s.nd a; have := le a; omega, fun a p => s.ow a (by have := le a; omega), s.F1, s.F2, s.al, fun a o e z => s.kp a o e (by show ¬ 0 < fp a; omega), s.dm⟩
    | rt d ρ' =>
      dsimp only at k ⊢
      by_cases hd : d.noBrw = true
      · rw [if_pos hd] at k
        cases z2 : lents lm ρ' with
        | none => rw [z2] at k; exact k.elim
        | some ls =>
          rw [z2] at k
          rintro v σ' H' ⟨F', fh, fs, s⟩
          obtain ⟨gg, le, hr2, nb2⟩ := lents_ok s.ss z2 hvl (hlk s)
          obtain ⟨v', r, f1, g1, e1, q1, h1, h2⟩ := s.hh
          cases e1
          refine k v H' F' (fun a => f1 a + gg a) ⟨⟨v, _, f1, gg, rfl, fun a => rfl, h1, hr2⟩, by show (D.chk _ d && D.chkL _ ls) = true; rw [show D.chk (fun m => !m.isBrw) d = true from hd, nb2]; rfl, fun a => by have := s.nd a; have := le a; have := q1 a; show f1 a + gg a ≤ 1; omega, fun a p => s.ow a (by have := le a; have := q1 a; have : 0 < f1 a + gg a := p; omega), s.F1, s.F2, s.al, fun a o e z => s.kp a o e (by show ¬ 0 < fp a; omega), s.dm⟩
      · rw [if_neg hd] at k; exact k.elim
    | ex m fs ρ' =>
      dsimp only at k ⊢
      cases z2 : lents lm ρ' with
      | none => rw [z2] at k; exact k.elim
      | some ls =>
        rw [z2] at k
        rintro c od σ' H' ⟨F', fh, fs', s⟩ hx
        obtain ⟨gg, le, hr2, nb2⟩ := lents_ok s.ss z2 hvl (hlk s)
        exact k c od H' F' gg ⟨hr2, nb2, fun a => by have := s.nd a; have := le a; omega, fun a p => s.ow a (by have := le a; omega), s.F1, s.F2, s.al, fun a o e z => s.kp a o e (by show ¬ 0 < fp a; omega), s.dm⟩ hx
end
end DL

end
section
/-! DL14: calls of defs. -/
open PySem PySem.Spec L2
namespace DL
section
variable {K : PySem.W.Frag} {cn : Nm} {F F' : Addr → Prop} {H : Hp}
theorem At.noF {m : Mk} {a : Addr} {u : HO} {fp f : Fp} (h : At F H m a u fp f) (hm : m.isFrz = false) : At F' H m a u fp f := by
  cases m with
  | own => exact h
  | frz => cases hm
  | brw => exact h
  | ro => exact h
mutual
theorem Rep.noF : ∀ (d : D) (v : V) (fp : Fp), Rep K cn F H d v fp → d.noFrz = true → Rep K cn F' H d v fp
  | .non, v, fp, h, _ => h
  | .bl b, v, fp, h, _ => h
  | .int i, v, fp, h, _ => h
  | .str x, v, fp, h, _ => h
  | .cls n, v, fp, h, _ => h
  | .exc n fs, v, fp, ⟨a, od, vs, e, x, q, r⟩, c => ⟨a, od, vs, e, x, q, RepF.noF fs vs fp r c⟩
  | .tup ds, v, fp, ⟨a, vs, e, q, r⟩, c => ⟨a, vs, e, q, Reps.noF ds vs fp r c⟩
  | .lst m ds, v, fp, ⟨a, vs, f, e, q, r⟩, c => ⟨a, vs, f, e, q.elim (fun q => .inl (q.noF (not_t (and_l c)))) .inr, Reps.noF ds vs f r (and_r c)⟩
  | .dic m kd kvs, v, fp, ⟨a, f, e, q⟩, c => by
    refine ⟨a, f, e, ?_⟩
    rcases q with ⟨hk9, kv, q, r⟩ | ⟨hk9, kv, q, r⟩
    · exact .inl ⟨hk9, kv, q.noF (not_t (and_l c)), RepK.noF kvs _ f r (and_r c)⟩
    · exact .inr ⟨hk9, kv, q.noF (not_t (and_l c)), RepK.noF kvs _ f r (and_r c)⟩
  | .ins m C fs, v, fp, ⟨a, c, dx, vs, f, e, hc, q, r⟩, z => ⟨a, c, dx, vs, f, e, hc, q.noF (not_t (and_l z)), RepF.noF fs vs f r (and_r z)⟩
theorem Reps.noF : ∀ (ds : List D) (vs : List V) (fp : Fp), Reps K cn F H ds vs fp → D.chkL (fun m => !m.isFrz) ds = true → Reps K cn F' H ds vs fp
  | [], vs, fp, h, _ => h
  | d :: ds, vs, fp, ⟨v, r, f, g, e, s, h1, h2⟩, c => ⟨v, r, f, g, e, s, Rep.noF d v f h1 (and_l c), Reps.noF ds r g h2 (and_r c)⟩
theorem RepK.noF : ∀ (ds : List (Ky × D)) (vs : List (Ky × V)) (fp : Fp), RepK K cn F H ds vs fp → D.chkK (fun m => !m.isFrz) ds = true → RepK K cn F' H ds vs fp
  | [], vs, fp, h, _ => h
  | (k, d) :: ds, vs, fp, ⟨v, r, f, g, e, s, h1, h2⟩, c => ⟨v, r, f, g, e, s, Rep.noF d v f h1 (and_l c), RepK.noF ds r g h2 (and_r c)⟩
theorem RepF.noF : ∀ (ds : List (Str × D)) (vs : List (Str × V)) (fp : Fp), RepF K cn F H ds vs fp → D.chkF (fun m => !m.isFrz) ds = true → RepF K cn F' H ds vs fp
  | [], vs, fp, h, _ => h
  | (k, d) :: ds, vs, fp, ⟨v, r, f, g, e, s, h1, h2⟩, c => ⟨v, r, f, g, e, s, Rep.noF d v f h1 (and_l c), RepF.noF ds r g h2 (and_r c)⟩
end
theorem okArgs_frz : ∀ (ds : List D), okArgs (List.replicate ds.length false) (D.remL fz ds) = true
  | [] => rfl
  | d :: ds => by
    show (D.noBrw (D.rem fz d) && D.noOwn (D.rem fz d) && okArgs (List.replicate ds.length false) (D.remL fz ds)) = true
    rw [show D.noBrw (D.rem fz d) = true from frz_noBrw d, show D.noOwn (D.rem fz d) = true from frz_noOwn d, okArgs_frz ds]; rfl
theorem remL_len (f : Mk → Mk) : ∀ ds : List D, (D.remL f ds).length = ds.length
  | [] => rfl
  | d :: ds => by show (D.remL f ds).length + 1 = _; rw [remL_len f ds]; rfl
end
/-- a def that changes nothing: its answer -/
def oCall (f : FF) : ON := fun ds => match f (D.remL fz ds) with
  | some (.ret d _) => if D.chkL (fun m => !m.isBrw) ds = true ∨ d.noFrz = true then some d else none
  | _ => none
theorem pick_none {α : Type} : ∀ (n : Nat) (xs : List α), pick (List.replicate n false) xs = []
  | 0, xs => by cases xs <;> rfl
  | n + 1, [] => rfl
  | n + 1, x :: xs => pick_none n xs
theorem oCall_ok {Γ : Ctx} {lm : List Bool} {f : FF} {E : XK} (hlm : ∀ n, n = lm.length → lm = List.replicate n false) (hF : ∀ ds, f ds ≠ none → ds.length = lm.length) : OpN Γ (fun vs H Q => SpD Γ.K Γ.cn lm f vs H Q E) (oCall f) := fun hold ρ σ H vs ds d Q e l s k => by
  unfold oCall at e
  cases z : f (D.remL fz ds) with
  | none => rw [z] at e; cases e
  | some r =>
    have hlen : ds.length = lm.length := by
      have := hF (D.remL fz ds) (by rw [z]; exact fun z => nomatch z)
      rwa [remL_len] at this
    rw [z] at e
    cases r with
    | exc n fs ls => cases e
    | ret d' ls =>
      dsimp only at e
      split at e
      · rename_i c
        cases e
        obtain ⟨F, fa, fh, fs, ha, s, hh⟩ := s.block l
        have lm' := hlm _ rfl
        have alc : ∀ a, 0 < fa a + fh a + fs a → H a ≠ none := fun a p => mut_some (s.alloc a p)
        have hok : okArgs lm (D.remL fz ds) = true := by rw [lm', ← hlen]; exact okArgs_frz ds
        by_cases nb : D.chkL (fun m => !m.isBrw) ds = true
        · have fr := Reps.frz (F' := fun a => F a ∨ 0 < fa a) (fun a h => .inl h) ds vs fa ha (fun a p => .inr p) (fun z => by rw [nb] at z; cases z)
          refine ⟨fun a => F a ∨ 0 < fa a, D.remL fz ds, fp0, fr, by rw [remL_len]; exact hlen, fun a => Nat.zero_le _, fun a p => absurd p (Nat.lt_irrefl 0), fun a h => h.elim (s.al a) fun p => alc a (by omega), hok, ?_⟩
          rw [z]
          intro v H' F2 fp2 A
          rw [lm', pick_none] at A
          have x : Ext H H' := fun a o h => A.kp a o h rfl
          obtain ⟨v', r', f2, g2, e2, q2, h1, h2⟩ := A.rep
          cases e2
          have kk : Keep F F2 H H' True := ⟨fun a h => A.F1 a (.inl h), fun a o _ h => x a o h, fun a u _ h => x a u h, fun _ a u h => x a u h⟩
          refine k v H' x ⟨F2, fun a => f2 a + fh a, fs, ⟨v, _, f2, fh, rfl, fun _ => rfl, h1, Reps.go kk _ _ _ (fun _ => trivial) (fun a o _ => x a o) hh⟩, Slots.go kk (fun a o _ => x a o) s.ss, fun a => ?_, fun a p => ?_, s.mo, fun a h => A.F1 a (.inl (s.F1 a h)), fun a h => ?_, A.al, fun a o h n => x a o (s.kp a o h n), fun a h => A.dm a (s.dm a h), s.lk⟩
          · have n1 : fa a + fh a + fs a ≤ 1 := s.nd a
            have n2 := A.nd a
            have n3 := q2 a
            show f2 a + fh a + fs a ≤ 1
            by_cases hf : 0 < f2 a
            · rcases (A.ow a (by omega)).2 with hn | hn
              · have z1 := s.fresh hn
                have : fa a + fh a = 0 := z1.1
                omega
              · exact absurd hn (Nat.lt_irrefl 0)
            · omega
          · have n3 := q2 a
            by_cases hf : 0 < f2 a
            · obtain ⟨o1, o2⟩ := A.ow a (by omega)
              rcases o2 with hn | hn
              · refine ⟨o1, .inl ?_⟩
                cases e9 : Γ.H0 a with
                | none => rfl
                | some o => exact (s.dm a (by rw [e9]; exact fun z => nomatch z) hn).elim
              · exact absurd hn (Nat.lt_irrefl 0)
            · have p' : 0 < fa a + fh a + fs a := by have : 0 < f2 a + fh a + fs a := p; omega
              obtain ⟨o1, o2⟩ := s.ow a p'
              refine ⟨fun h => ?_, o2⟩
              have p3 : 0 < f2 a + fh a + fs a := p
              have n1 : fa a + fh a + fs a ≤ 1 := s.nd a
              rcases A.F2 a h with (h | h) | h | h
              · exact o1 h
              · omega
              · exact alc a p' h
              · exact absurd h (Nat.lt_irrefl 0)
          · rcases A.F2 a h with (h | h) | h | h
            · exact s.F2 a h
            · exact .inr (s.ow a (show 0 < fa a + fh a + fs a by omega)).2
            · refine .inr (.inl ?_)
              cases e9 : Γ.H0 a with
              | none => rfl
              | some o => exact (s.dm a (by rw [e9]; exact fun z => nomatch z) h).elim
            · exact absurd h (Nat.lt_irrefl 0)
        · have nf : d.noFrz = true := c.resolve_left nb
          have fr := Reps.frz (F' := fun a => H a ≠ none) (fun a h => s.al a h) ds vs fa ha (fun a p => alc a (by omega)) (fun _ a h => h)
          refine ⟨fun a => H a ≠ none, D.remL fz ds, fp0, fr, by rw [remL_len]; exact hlen, fun a => Nat.zero_le _, fun a p => absurd p (Nat.lt_irrefl 0), fun a h => h, hok, ?_⟩
          rw [z]
          intro v H' F2 fp2 A
          rw [lm', pick_none] at A
          have x : Ext H H' := fun a o h => A.kp a o h rfl
          obtain ⟨v', r', f2, g2, e2, q2, h1, h2⟩ := A.rep
          cases e2
          have kk : Keep F F H H' True := x.keep
          have g := s.grow x
          refine k v H' x ⟨F, fun a => f2 a + fh a, fs, ⟨v, _, f2, fh, rfl, fun _ => rfl, Rep.noF _ _ _ h1 nf, Reps.go kk _ _ _ (fun _ => trivial) (fun a o _ => x a o) hh⟩, g.ss, fun a => ?_, fun a p => ?_, s.mo, s.F1, s.F2, g.al, g.kp, g.dm, s.lk⟩
          · have n1 : fa a + fh a + fs a ≤ 1 := s.nd a
            have n2 := A.nd a
            have n3 := q2 a
            show f2 a + fh a + fs a ≤ 1
            by_cases hf : 0 < f2 a
            · rcases (A.ow a (by omega)).2 with hn | hn
              · have z1 := s.fresh hn
                have : fa a + fh a = 0 := z1.1
                omega
              · exact absurd hn (Nat.lt_irrefl 0)
            · omega
          · have n3 := q2 a
            by_cases hf : 0 < f2 a
            · obtain ⟨o1, o2⟩ := A.ow a (by omega)
              rcases o2 with hn | hn
              · refine ⟨fun h => s.al a h hn, .inl ?_⟩
                cases e9 : Γ.H0 a with
                | none => rfl
                | some o => exact (s.dm a (by rw [e9]; exact fun z => nomatch z) hn).elim
              · exact absurd hn (Nat.lt_irrefl 0)
            · exact s.ow a (by have : 0 < f2 a + fh a + fs a := p; show 0 < fa a + fh a + fs a; omega)
      · cases e
section
variable {X : Cx} {Γ : Ctx} {W : WX} {k : Nat} {f : Addr} {fd : FuncData} {ps : List Str} {lm : List Bool} {ff : FF} {x : Str} {px pos : Pos} {e : Expr} {es : List Expr} {fs : List PF}
/-- f(e, ..) of a def that changes nothing -/
theorem d_call (F : FnOk X.prog X.w X.K X.mg X.base (L2.CX X.prog X.w) k f fd ps (SpD X.K Γ.cn lm ff)) (hlm : ∀ n, n = lm.length → lm = List.replicate n false) (hF : ∀ ds, ff ds ≠ none → ds.length = lm.length) (hK : X.K = Γ.K) (hr : Room k X.A) (hg : Gl X x) (hm : X.mg x = some (.ref f)) (hk : PySem.W.keepIn X.K (.ref f) = true) (hb : Binds X.K fd ps [])
    (tk : Takes X W) (ha : PA X (e :: es) (tA Γ fs)) (hdb : (x == ("__debug__" : Str)) = false := by decide) (he : starEach (e :: es) X.env = (false, eval e X.env) :: starEach es X.env := by rfl) (hpl : (backTo pos (starEach es X.env)).any (·.1) = false := by rfl) :
    PE X (.Call (.Name x px) (e :: es) [] pos) (tP Γ (pN (oCall ff) fs)) :=
  PE.wk (pe_callS F hr hg hm hk hb (fun σ => passAt tk σ) ha hdb he hpl) fun σ H Q h => by
    have q := tP_N (oCall_ok (Γ := Γ) (E := WE W σ) hlm hF) σ H Q h
    rw [← hK] at q
    exact q

/-! ### calls that lend slots -/
inductive AS where
  | ex (f : EF)
  | ln (i : Nat)
/-- the values of the given arguments, in order; a lent one is told as None -/
def evA : List AS → Env → Option (Res (List D))
  | [], ρ => some (.ok [] ρ)
  | .ln _ :: as, ρ => (match evA as ρ with
      | some (.ok ds ρ2) => some (.ok (.non :: ds) ρ2)
      | r => r)
  | .ex f :: as, ρ => match f ρ with
    | some (.ok d ρ1) => if d.noBrw = true then (match evA as ρ1 with
        | some (.ok ds ρ2) => some (.ok (d :: ds) ρ2)
        | r => r) else none
    | some (.ex n xs ρ1) => some (.ex n xs ρ1)
    | none => none
def exOf {α : Type} : List AS → List α → List α
  | .ex _ :: as, x :: xs => x :: exOf as xs
  | .ln _ :: as, _ :: xs => exOf as xs
  | _, _ => []
def lnOk (σ : L2.St) : List AS → List V → Prop
  | .ex _ :: as, _ :: vs => lnOk σ as vs
  | .ln i :: as, v :: vs => σ[i]? = some (some v) ∧ lnOk σ as vs
  | [], [] => True
  | _, _ => False
def tAA (Γ : Ctx) (W : WX) (as : List AS) : TA := fun σ H Q => ∃ hold ρ, SI Γ hold ρ σ H ∧ hold.noBrw ∧ (∀ i, AS.ln i ∈ as → ∃ v, σ[i]? = some (some v)) ∧ match evA as ρ with
  | none => False
  | some (.ok ds ρ') => ∀ vs H', lnOk σ as vs → vs.length = as.length → D.chkL (fun m => !m.isBrw) (exOf as ds) = true → ds.length = as.length → SI Γ ((exOf as vs).zip (exOf as ds) ++ hold) ρ' σ H' → Q vs H'
  | some (.ex n xs ρ') => ∀ c od H', SI Γ hold ρ' σ H' → ExO Γ.cn H' n xs c od → W c od σ H'
section
variable {X : Cx} {Γ : Ctx} {W : WX} {px pos : Pos} {e : Expr} {es : List Expr}
theorem aa_nil : PA X [] (tAA Γ W []) := PA.wk pa_nil fun σ H Q ⟨hold, ρ, s, nb, _, k⟩ => k [] H trivial rfl rfl rfl s
theorem aa_ex {f : EF} {as : List AS} (ha : PE X e (tE Γ W f)) (hr : PA X es (tAA Γ W as)) (hs : starEach (e :: es) X.env = (false, eval e X.env) :: starEach es X.env := by rfl) : PA X (e :: es) (tAA Γ W (.ex f :: as)) :=
  PA.wk (pa_cons ha hr hs) fun σ H Q ⟨hold, ρ, s, nb, lk, k⟩ => by
    refine ⟨hold, ρ, s, nb, ?_⟩
    rw [evA] at k
    cases q : f ρ with
    | none => rw [q] at k; exact k.elim
    | some r1 =>
      rw [q] at k
      cases r1 with
      | ex n xs ρ1 => exact k
      | ok d ρ1 =>
        dsimp only at k ⊢
        intro v H1 s1
        by_cases hx : d.noBrw = true
        · rw [if_pos hx] at k
          refine ⟨_, ρ1, s1, noBrw_cons nb hx, fun i hi => lk i (List.mem_cons_of_mem _ hi), ?_⟩
          cases q2 : evA as ρ1 with
          | none => rw [q2] at k; exact k.elim
          | some r2 =>
            rw [q2] at k
            cases r2 with
            | ex n xs ρ2 => exact fun c od H' s' => k c od H' s'.drop
            | ok ds ρ2 =>
              dsimp only at k ⊢
              refine fun vs H2 l1 l2 nb2 l3 s2 => k (v :: vs) H2 l1 (by rw [List.length_cons, List.length_cons, l2]) ?_ (by rw [List.length_cons, List.length_cons, l3]) s2.rot
              show (D.chk _ d && D.chkL _ (exOf as ds)) = true
              rw [show D.chk (fun m => !m.isBrw) d = true from hx, nb2]; rfl
        · rw [if_neg hx] at k; exact k.elim
theorem aa_ln {i : Nat} {x : Str} {as : List AS} (hN : X.N[i]? = some x) (hv : Vis X.env.scope x) (hr : PA X es (tAA Γ W as)) (hd : (x == ("__debug__" : Str)) = false := by decide) (hcd : (x == ("__classdict__" : Str)) = false := by decide)
    (hs : starEach (.Name x px :: es) X.env = (false, eval (.Name x px) X.env) :: starEach es X.env := by rfl) : PA X (.Name x px :: es) (tAA Γ W (.ln i :: as)) :=
  PA.wk (pa_cons (pe_var hN hv hd hcd) hr hs) fun σ H Q ⟨hold, ρ, s, nb, lk, k⟩ => by
    obtain ⟨v, ev⟩ := lk i List.mem_cons_self
    refine ⟨v, ev, hold, ρ, s, nb, fun j hj => lk j (List.mem_cons_of_mem _ hj), ?_⟩
    rw [evA] at k
    cases q2 : evA as ρ with
    | none => rw [q2] at k; exact k.elim
    | some r2 =>
      rw [q2] at k
      cases r2 with
      | ex n xs ρ2 => exact k
      | ok ds ρ2 =>
        dsimp only at k ⊢
        exact fun vs H2 l1 l2 nb2 l3 s2 => k (v :: vs) H2 ⟨ev, l1⟩ (by rw [List.length_cons, List.length_cons, l2]) nb2 (by rw [List.length_cons, List.length_cons, l3]) s2
end
def fill : List AS → List D → Env → Option (List D × Env)
  | [], [], ρ => some ([], ρ)
  | .ex _ :: as, d :: ds, ρ => (fill as ds ρ).map fun p => (d.frz :: p.1, p.2)
  | .ln i :: as, _ :: ds, ρ => match getS ρ i with
    | some d => (fill as ds (setS ρ i none)).map fun p => (d :: p.1, p.2)
    | none => none
  | _, _, _ => none
def unfill : List AS → List D → Env → Env
  | .ex _ :: as, ls, ρ => unfill as ls ρ
  | .ln i :: as, d :: ls, ρ => unfill as ls (setS ρ i (some d))
  | _, _, ρ => ρ
def maskOf : List AS → List Bool
  | [] => []
  | .ex _ :: as => false :: maskOf as
  | .ln _ :: as => true :: maskOf as
def eC (ff : FF) (as : List AS) : EF := fun ρ => if (as.all fun a => match a with | .ln i => (getS ρ i).isSome | _ => true) = true then (match evA as ρ with
  | some (.ok ds ρ') => (match fill as ds ρ' with
    | some p => (match ff p.1 with
      | some (.ret d ls) => some (.ok d (unfill as ls p.2))
      | some (.exc n fs ls) => some (.ex n fs (unfill as ls p.2))
      | none => none)
    | none => none)
  | some (.ex n xs ρ') => some (.ex n xs ρ')
  | none => none) else none
section
variable {Γ : Ctx} {F F1 : Addr → Prop} {H : Hp} {σ : L2.St}
theorem fill_ok : ∀ {as : List AS} {ds : List D} {vs : List V} {ρ : Env} {fs : Fp} {p : List D × Env}, Slots Γ.K Γ.cn F H ρ σ fs → Reps Γ.K Γ.cn F H (D.remL fz (exOf as ds)) (exOf as vs) fp0 → lnOk σ as vs → fill as ds ρ = some p →
    ∃ fp g, Reps Γ.K Γ.cn F H p.1 vs fp ∧ Slots Γ.K Γ.cn F H p.2 σ g ∧ (∀ a, fs a = fp a + g a) ∧ okArgs (maskOf as) p.1 = true ∧ p.1.length = (maskOf as).length ∧ vs.length = (maskOf as).length ∧ (∀ i d, getS p.2 i = some d → getS ρ i = some d)
  | [], [], [], ρ, fs, p, hs, hr, hl, e => by
    rw [fill] at e; cases e
    exact ⟨fp0, fs, ⟨rfl, fun _ => rfl⟩, hs, fun a => by show _ = 0 + _; omega, rfl, rfl, rfl, fun i d h => h⟩
  | [], [], v :: vs, ρ, fs, p, hs, hr, hl, e => hl.elim
  | [], d :: ds, _, _, _, _, _, _, _, e => by simp [fill] at e
  | .ex f :: as, [], _, _, _, _, _, _, _, e => by simp [fill] at e
  | .ln i :: as, [], _, _, _, _, _, _, _, e => by simp [fill] at e
  | .ex f :: as, d :: ds, [], _, _, _, _, _, hl, e => hl.elim
  | .ln i :: as, d :: ds, [], _, _, _, _, _, hl, e => hl.elim
  | .ex f :: as, d :: ds, v :: vs, ρ, fs, p, hs, ⟨v', r, f1, g1, e1, s1, h1, h2⟩, hl, e => by
    rw [fill, Option.map_eq_some_iff] at e
    obtain ⟨q, e2, rfl⟩ := e
    have e1' : v :: exOf as vs = v' :: r := e1
    cases e1'
    have z1 : f1 = fp0 := funext fun a => by have := s1 a; have h0 : fp0 a = 0 := rfl; show f1 a = 0; omega
    have z2 : g1 = fp0 := funext fun a => by have := s1 a; have h0 : fp0 a = 0 := rfl; show g1 a = 0; omega
    subst z1 z2
    obtain ⟨fp, g, a1, a2, a3, a4, a5, a6, a7⟩ := fill_ok (as := as) (ds := ds) (vs := vs) (p := q) hs h2 hl e2
    refine ⟨fp, g, ⟨v, vs, fp0, fp, rfl, fun a => by show _ = 0 + _; omega, h1, a1⟩, a2, a3, ?_, by show q.1.length + 1 = _ + 1; rw [a5], by show vs.length + 1 = _ + 1; rw [a6], a7⟩
    show (D.noBrw (D.rem fz d) && D.noOwn (D.rem fz d) && okArgs (maskOf as) q.1) = true
    rw [show D.noBrw (D.rem fz d) = true from frz_noBrw d, show D.noOwn (D.rem fz d) = true from frz_noOwn d, a4]; rfl
  | .ln i :: as, d :: ds, v :: vs, ρ, fs, p, hs, hr, ⟨hv, hl⟩, e => by
    rw [fill] at e
    cases q : getS ρ i with
    | none => rw [q] at e; cases e
    | some d0 =>
      rw [q] at e
      dsimp only at e
      rw [Option.map_eq_some_iff] at e
      obtain ⟨p0, e2, rfl⟩ := e
      obtain ⟨v0, f0, g0, ev, h0, nb, s0, hs2⟩ := hs.take q
      rw [hv] at ev; cases ev
      obtain ⟨fp, g, a1, a2, a3, a4, a5, a6, a7⟩ := fill_ok (as := as) (ds := ds) (vs := vs) (p := p0) hs2 hr hl e2
      refine ⟨fun a => f0 a + fp a, g, ⟨v, vs, f0, fp, rfl, fun _ => rfl, h0, a1⟩, a2, fun a => by have := s0 a; have := a3 a; show _ = f0 a + fp a + g a; omega, ?_, by show p0.1.length + 1 = _ + 1; rw [a5], by show vs.length + 1 = _ + 1; rw [a6], fun j x h => ?_⟩
      · show (D.noBrw d0 && okArgs (maskOf as) p0.1) = true
        rw [nb, a4]; rfl
      · rcases getS_set (a7 j x h) with ⟨_, z⟩ | ⟨_, z⟩
        · cases z
        · exact z
theorem unfill_ok : ∀ {as : List AS} {ls : List D} {vs : List V} {ρ : Env} {g fl : Fp}, Slots Γ.K Γ.cn F H ρ σ g → Reps Γ.K Γ.cn F H ls (pick (maskOf as) vs) fl → lnOk σ as vs → D.chkL (fun m => !m.isBrw) ls = true →
    ∃ g', (∀ a, g' a ≤ g a + fl a) ∧ Slots Γ.K Γ.cn F H (unfill as ls ρ) σ g'
  | [], ls, vs, ρ, g, fl, hs, hr, hl, nb => ⟨g, fun a => Nat.le_add_right _ _, by cases ls <;> exact hs⟩
  | .ex f :: as, ls, [], ρ, g, fl, hs, hr, hl, nb => hl.elim
  | .ln i :: as, ls, [], ρ, g, fl, hs, hr, hl, nb => hl.elim
  | .ex f :: as, ls, v :: vs, ρ, g, fl, hs, hr, hl, nb => unfill_ok (as := as) hs hr hl nb
  | .ln i :: as, [], v :: vs, ρ, g, fl, hs, hr, hl, nb => ⟨g, fun a => Nat.le_add_right _ _, hs⟩
  | .ln i :: as, d :: ls, v :: vs, ρ, g, fl, hs, ⟨v', r, f1, g1, e1, s1, h1, h2⟩, ⟨hv, hl⟩, nb => by
    have e1' : v :: pick (maskOf as) vs = v' :: r := e1
    cases e1'
    have hlt : i < ρ.length := by rw [hs.len]; exact (List.getElem?_eq_some_iff.mp hv).1
    obtain ⟨g2, le, hs2⟩ := Slots.put (fp' := g) i v d hs hlt (and_l nb) h1
    have es : σ.set i (some v) = σ := by
      obtain ⟨hl, e⟩ := List.getElem?_eq_some_iff.mp hv
      rw [← e]; exact List.set_getElem_self hl
    rw [es] at hs2
    obtain ⟨g3, le3, hs3⟩ := unfill_ok (as := as) hs2 h2 hl (and_r nb)
    exact ⟨g3, fun a => by have := le a; have := le3 a; have := s1 a; omega, hs3⟩
theorem unfill_get : ∀ {as : List AS} {ls : List D} {ρ : Env} {j : Nat} {d : D}, getS (unfill as ls ρ) j = some d → AS.ln j ∈ as ∨ getS ρ j = some d
  | [], ls, ρ, j, d, h => .inr (by cases ls <;> exact h)
  | .ex f :: as, ls, ρ, j, d, h => (unfill_get (as := as) h).imp (fun z => List.mem_cons_of_mem _ z) id
  | .ln i :: as, [], ρ, j, d, h => .inr h
  | .ln i :: as, x :: ls, ρ, j, d, h => by
    rcases unfill_get (as := as) h with z | z
    · exact .inl (List.mem_cons_of_mem _ z)
    · rcases getS_set z with ⟨a, _⟩ | ⟨_, b⟩
      · subst a; exact .inl List.mem_cons_self
      · exact .inr b
end
/-- behind a call -/
theorem SIx.behind {Γ : Ctx} {F F2 : Addr → Prop} {fa fh fs fp g fp2 : Fp} {blk hold : Hold} {ρ ρ2 : Env} {σ : L2.St} {H H' : Hp} {as : List AS} {vs : List V} {ls rs : List D} {ws : List V} {rh : Hold}
    (s : SIx Γ F (fun a => fa a + fh a) fs blk ρ σ H) (hh : Reps Γ.K Γ.cn F H (hold.map (·.2)) (hold.map (·.1)) fh) (nbh : hold.noBrw) (hown : ∀ i, AS.ln i ∈ as → Γ.own i = true)
    (hs : Slots Γ.K Γ.cn (fun a => F a ∨ 0 < fa a) H ρ2 σ g) (e : ∀ a, fs a = fp a + g a) (hl : lnOk σ as vs) (hρ : ∀ i d, getS ρ2 i = some d → getS ρ i = some d)
    (A : Aft Γ.K Γ.cn (fun a => F a ∨ 0 < fa a) fp H (rs ++ ls) (ws ++ pick (maskOf as) vs) H' F2 fp2) (hrh : rh.map (·.2) = rs ∧ rh.map (·.1) = ws) :
    SI Γ (rh ++ hold) (unfill as ls ρ2) σ H' := by
  have alc : ∀ a, 0 < fa a + fh a + fs a → H a ≠ none := fun a p => mut_some (s.alloc a p)
  have n1 : ∀ a, fa a + fh a + fs a ≤ 1 := s.nd
  have kk : Keep (fun a => F a ∨ 0 < fa a) F2 H H' False := by
    have ne : ∀ a, (F a ∨ 0 < fa a) → fp a = 0 := fun a h => by
      have := e a; have := n1 a
      rcases h with h | h
      · by_cases z : 0 < fp a
        · exact absurd h (s.ow a (show 0 < fa a + fh a + fs a by omega)).1
        · omega
      · omega
    refine ⟨A.F1, fun a o hm h => A.kp a o h ?_, fun a u hF h => A.kp a u h (ne a hF), fun z => z.elim⟩
    by_cases z : 0 < fp a
    · have := s.alloc a (show 0 < fa a + fh a + fs a by have := e a; omega)
      rw [h] at this; exact absurd this hm
    · omega
  have hh2 : Reps Γ.K Γ.cn (fun a => F a ∨ 0 < fa a) H (hold.map (·.2)) (hold.map (·.1)) fh := Reps.go (Keep.more fun a h => .inl h) _ _ _ (fun _ => trivial) (fun a o _ h => h) hh
  have hh3 := Reps.go kk _ _ _ (fun z => by rw [show D.chkL (fun m => !m.isBrw) (hold.map (·.2)) = true from nbh] at z; cases z) (fun a o p h => A.kp a o h (by have := e a; have := n1 a; omega)) hh2
  have hs3 := Slots.go kk (fun a o p h => A.kp a o h (by have := e a; have := n1 a; omega)) hs
  obtain ⟨hrs, hws⟩ := hrh
  have lrs : rs.length = ws.length := by rw [← hrs, ← hws, List.length_map, List.length_map]
  obtain ⟨f1, fl, e1, h1, h2⟩ := Reps.split2 lrs A.rep
  have nbl : D.chkL (fun m => !m.isBrw) ls = true := by have := A.nb; rw [chkL_app] at this; exact and_r this
  obtain ⟨g', le, hs4⟩ := unfill_ok hs3 h2 hl nbl
  refine ⟨F2, fun a => f1 a + fh a, g', ⟨?_, hs4, fun a => ?_, fun a p => ?_, fun i d hi ho => ?_, fun a h => A.F1 a (.inl (s.F1 a h)), fun a h => ?_, A.al, fun a o h n => ?_, fun a h => A.dm a (s.dm a h), s.lk⟩⟩
  · rw [List.map_append, List.map_append, hrs, hws]
    exact Reps.app h1 hh3 fun _ => rfl
  · have := n1 a; have := e a; have := e1 a; have := le a; have := A.nd a
    show f1 a + fh a + g' a ≤ 1
    by_cases hf : 0 < fp2 a
    · rcases (A.ow a hf).2 with hn | hn
      · have z1 := s.fresh hn
        have : fa a + fh a = 0 := z1.1
        omega
      · omega
    · omega
  · have := n1 a; have := e a; have := e1 a; have := le a
    have p' : 0 < f1 a + fh a + g' a := p
    by_cases hf : 0 < fp2 a
    · obtain ⟨o1, o2⟩ := A.ow a hf
      refine ⟨o1, ?_⟩
      rcases o2 with hn | hn
      · refine .inl ?_
        cases e9 : Γ.H0 a with
        | none => rfl
        | some o => exact (s.dm a (by rw [e9]; exact fun z => nomatch z) hn).elim
      · exact (s.ow a (show 0 < fa a + fh a + fs a by omega)).2
    · have q : 0 < fa a + fh a + fs a := by omega
      obtain ⟨o1, o2⟩ := s.ow a q
      refine ⟨fun h => ?_, o2⟩
      rcases A.F2 a h with (h | h) | h | h
      · exact o1 h
      · omega
      · exact alc a q h
      · omega
  · rcases unfill_get hi with z | z
    · rw [hown i z] at ho; cases ho
    · exact s.mo i d (hρ i d z) ho
  · rcases A.F2 a h with (h | h) | h | h
    · exact s.F2 a h
    · exact .inr (s.ow a (show 0 < fa a + fh a + fs a by omega)).2
    · refine .inr (.inl ?_)
      cases e9 : Γ.H0 a with
      | none => rfl
      | some o => exact (s.dm a (by rw [e9]; exact fun z => nomatch z) h).elim
    · exact .inr (s.ow a (show 0 < fa a + fh a + fs a by have := e a; omega)).2
  · refine A.kp a o (s.kp a o h n) ?_
    by_cases z : 0 < fp a
    · rcases (s.ow a (show 0 < fa a + fh a + fs a by have := e a; omega)).2 with q | q
      · rw [q] at h; cases h
      · exact absurd q n
    · omega
/-- the call, from the arguments on -/
theorem call_sp {Γ : Ctx} {W : WX} {ff : FF} {as : List AS} {hold : Hold} {ρ' : Env} {σ : L2.St} {H' : Hp} {ds : List D} {vs : List V} {Q : VK} (nbh : hold.noBrw) (hown : ∀ i, AS.ln i ∈ as → Γ.own i = true) (hl : lnOk σ as vs) (lv : vs.length = as.length) (ld : ds.length = as.length) (nbx : D.chkL (fun m => !m.isBrw) (exOf as ds) = true)
    (s : SI Γ ((exOf as vs).zip (exOf as ds) ++ hold) ρ' σ H')
    (k : match (match fill as ds ρ' with
      | some p => (match ff p.1 with
        | some (.ret d ls) => some (Res.ok d (unfill as ls p.2))
        | some (.exc n fs ls) => some (.ex n fs (unfill as ls p.2))
        | none => none)
      | none => none) with
      | none => False
      | some (.ok d ρ'') => ∀ v H'', SI Γ ((v, d) :: hold) ρ'' σ H'' → Q v H''
      | some (.ex n fs ρ'') => ∀ c od H'', SI Γ hold ρ'' σ H'' → ExO Γ.cn H'' n fs c od → W c od σ H'') : SpD Γ.K Γ.cn (maskOf as) ff vs H' Q (WE W σ) := by
  cases z : fill as ds ρ' with
  | none => rw [z] at k; exact k.elim
  | some p =>
    rw [z] at k
    dsimp only at k
    have lex : ∀ (as : List AS) (vs : List V) (ds : List D), vs.length = as.length → ds.length = as.length → (exOf as vs).length = (exOf as ds).length := by
      intro as
      induction as with
      | nil => intro vs ds h1 h2; cases vs <;> cases ds <;> rfl
      | cons a as ih =>
        intro vs ds h1 h2
        match vs, ds, h1, h2 with
        | v :: vs, d :: ds, h1, h2 =>
          cases a with
          | ex f => show (exOf as vs).length + 1 = (exOf as ds).length + 1; rw [ih vs ds (by simpa using h1) (by simpa using h2)]
          | ln i => exact ih vs ds (by simpa using h1) (by simpa using h2)
    obtain ⟨F, fa, fh, fs, ha, s, hh⟩ := s.block (lex as vs ds lv ld)
    have fr := Reps.frz (F' := fun a => F a ∨ 0 < fa a) (fun a h => .inl h) _ _ fa ha (fun a p => .inr p) (fun z => by rw [nbx] at z; cases z)
    have hs1 := Slots.go (Keep.more (F' := fun a => F a ∨ 0 < fa a) fun a h => .inl h) (fun a o _ h => h) s.ss
    obtain ⟨fp, g, a1, a2, a3, a4, a5, a6, a7⟩ := fill_ok hs1 fr hl z
    have n1 : ∀ a, fa a + fh a + fs a ≤ 1 := s.nd
    refine ⟨fun a => F a ∨ 0 < fa a, p.1, fp, a1, a5, fun a => by have := a3 a; have := n1 a; omega, fun a q => ?_, fun a h => ?_, a4, ?_⟩
    · have := a3 a; have := n1 a
      rintro (h | h)
      · exact (s.ow a (show 0 < fa a + fh a + fs a by omega)).1 h
      · omega
    · rcases h with h | h
      · exact s.al a h
      · exact mut_some (s.alloc a (show 0 < fa a + fh a + fs a by omega))
    · cases z2 : ff p.1 with
      | none => rw [z2] at k; exact k.elim
      | some r =>
        rw [z2] at k
        cases r with
        | ret d ls =>
          dsimp only at k ⊢
          intro v H2 F2 fp2 A
          exact k v H2 (s.behind (rs := [d]) (ws := [v]) (rh := [(v, d)]) hh nbh hown a2 a3 hl a7 A ⟨rfl, rfl⟩)
        | exc n xs ls =>
          dsimp only at k ⊢
          intro c od H2 F2 fp2 A hx
          exact k c od H2 (s.behind (rs := []) (ws := []) (rh := []) hh nbh hown a2 a3 hl a7 A ⟨rfl, rfl⟩) hx
section
variable {X : Cx} {Γ : Ctx} {W : WX} {k : Nat} {f : Addr} {fd : FuncData} {ps : List Str} {ff : FF} {x : Str} {px pos : Pos} {e : Expr} {es : List Expr} {as : List AS}
theorem tE_call (hown : ∀ i, AS.ln i ∈ as → Γ.own i = true) (σ : L2.St) (H : Hp) (Q : VK) : tE Γ W (eC ff as) σ H Q → tAA Γ W as σ H (fun vs H1 => SpD Γ.K Γ.cn (maskOf as) ff vs H1 Q (WE W σ)) := fun ⟨hold, ρ, s, nb, k⟩ => by
  unfold eC at k
  by_cases c : (as.all fun a => match a with | .ln i => (getS ρ i).isSome | _ => true) = true
  · rw [if_pos c] at k
    refine ⟨hold, ρ, s, nb, fun i hi => ?_, ?_⟩
    · have := List.all_eq_true.mp c _ hi
      obtain ⟨d, hd⟩ := Option.isSome_iff_exists.mp this
      obtain ⟨F, fh, fs, s⟩ := s
      obtain ⟨v, _, ev, _⟩ := s.ss.get hd
      exact ⟨v, ev⟩
    · cases z : evA as ρ with
      | none => rw [z] at k; exact k.elim
      | some r =>
        rw [z] at k
        cases r with
        | ex n xs ρ1 => exact k
        | ok ds ρ1 =>
          dsimp only at k ⊢
          exact fun vs H' h1 h2 h3 h4 s' => call_sp nb hown h1 h2 h4 h3 s' k
  · rw [if_neg c] at k; exact k.elim
/-- f(e, ..) -/
theorem e_call (F : FnOk X.prog X.w X.K X.mg X.base (L2.CX X.prog X.w) k f fd ps (SpD X.K Γ.cn (maskOf as) ff)) (hown : ∀ i, AS.ln i ∈ as → Γ.own i = true) (hK : X.K = Γ.K) (hr : Room k X.A) (hg : Gl X x) (hm : X.mg x = some (.ref f)) (hk : PySem.W.keepIn X.K (.ref f) = true) (hb : Binds X.K fd ps [])
    (tk : Takes X W) (ha : PA X (e :: es) (tAA Γ W as)) (hdb : (x == ("__debug__" : Str)) = false := by decide) (he : starEach (e :: es) X.env = (false, eval e X.env) :: starEach es X.env := by rfl) (hpl : (backTo pos (starEach es X.env)).any (·.1) = false := by rfl) :
    PE X (.Call (.Name x px) (e :: es) [] pos) (tE Γ W (eC ff as)) :=
  PE.wk (pe_callS F hr hg hm hk hb (fun σ => passAt tk σ) ha hdb he hpl) fun σ H Q h => by
    have q := tE_call (ff := ff) hown σ H Q h
    rw [← hK] at q
    exact q
end
end
end DL

end
section
/-! DL15: comprehensions. -/
open PySem PySem.Spec L2
namespace DL
def loopC (b : BF) (t : TF) (f : EF) (is : List Nat) : List D → List D → Env → Option (List D × Env)
  | [], acc, ρ => some (acc, ρ)
  | d :: ds, acc, ρ => match b d ρ with
    | none => none
    | some ρ1 => match t ρ1 with
      | some (.ok false ρ2) => loopC b t f is ds acc (clrS is ρ2)
      | some (.ok true ρ2) => (match f ρ2 with
        | some (.ok x ρ3) => if x.noBrw = true ∧ acc.length < sizeLine then loopC b t f is ds (acc ++ [x]) (clrS is ρ3) else none
        | _ => none)
      | _ => none
def eLc (q : IF) (b : BF) (t : TF) (f : EF) (is : List Nat) : EF := fun ρ => match q ρ with
  | some (.ok (_, ds) ρ1) => (match loopC b t f is ds [] (clrS is ρ1) with
    | some p => some (.ok (.lst .own p.1) (clrS is p.2))
    | none => none)
  | some (.ex n fs ρ1) => some (.ex n fs ρ1)
  | none => none
theorem wipe_get : ∀ (is : List Nat) (σ : L2.St) (j : Nat), (wipe σ is)[j]? = if j ∈ is then (if j < σ.length then some none else none) else σ[j]?
  | [], σ, j => rfl
  | i :: is, σ, j => by
    show ((wipe σ is).set i none)[j]? = _
    have ih := wipe_get is σ j
    by_cases h : i = j
    · subst h
      rw [if_pos List.mem_cons_self]
      by_cases hl : i < σ.length
      · rw [if_pos hl, List.getElem?_set_self (by rw [wipe_length]; exact hl)]
      · rw [if_neg hl]
        exact List.getElem?_eq_none (by rw [List.length_set, wipe_length]; omega)
    · rw [List.getElem?_set_ne h, ih]
      by_cases hm : j ∈ is
      · rw [if_pos hm, if_pos (List.mem_cons_of_mem _ hm)]
      · rw [if_neg hm, if_neg (fun z => (List.mem_cons.mp z).elim (fun z => h z.symm) hm)]
theorem wipe_but {is js : List Nat} {σ σ2 : L2.St} (h : But js (wipe σ is) σ2) (hs : ∀ j ∈ js, j ∈ is) : wipe σ2 is = wipe σ is := by
  apply List.ext_getElem?
  intro j
  have hl : σ2.length = σ.length := by rw [h.1, wipe_length]
  rw [wipe_get, wipe_get, hl]
  by_cases hm : j ∈ is
  · rw [if_pos hm, if_pos hm]
  · rw [if_neg hm, if_neg hm, h.2 j (fun z => hm (hs j z)), wipe_get, if_neg hm]
section
variable {Γ : Ctx} {hold : Hold} {ρ : Env} {σ : L2.St} {H : Hp}
/-- out of the block: the block's own slots are not known -/
theorem SI.unwipe {is : List Nat} {σ2 : L2.St} (s : SI Γ hold ρ σ2 H) (h : But is σ σ2) (hl : ∀ i v, Γ.lv i = some v → σ[i]? = some (some v)) : SI Γ hold (clrS is ρ) σ H := by
  have s := SI.clr is s
  obtain ⟨F, fh, fs, s⟩ := s
  have none_at : ∀ (is : List Nat) (ρ : Env) (j : Nat), j ∈ is → getS (clrS is ρ) j = none := by
    have keep : ∀ (is : List Nat) (ρ : Env) (j : Nat), getS ρ j = none → getS (clrS is ρ) j = none := by
      intro is
      induction is with
      | nil => intro ρ j h; exact h
      | cons i is ih =>
        intro ρ j h
        refine ih _ j ?_
        cases q : getS (setS ρ i none) j with
        | none => rfl
        | some d => rcases getS_set q with ⟨_, z⟩ | ⟨_, z⟩
                    · cases z
                    · rw [h] at z; cases z
    intro is
    induction is with
    | nil => intro ρ j h; cases h
    | cons i is ih =>
      intro ρ j h
      rcases List.mem_cons.mp h with rfl | h
      · refine keep is _ j ?_
        cases q : getS (setS ρ j none) j with
        | none => rfl
        | some d => rcases getS_set q with ⟨_, z⟩ | ⟨z, _⟩
                    · cases z
                    · exact absurd rfl z
      · exact ih _ j h
  refine ⟨F, fh, fs, ⟨s.hh, ?_, s.nd, s.ow, s.mo, s.F1, s.F2, s.al, s.kp, s.dm, hl⟩⟩
  have gen : ∀ (ρ : Env) (σ2 σ : L2.St) (fs : Fp), Slots Γ.K Γ.cn F H ρ σ2 fs → σ2.length = σ.length → (∀ j d, getS ρ j = some d → σ2[j]? = σ[j]?) → Slots Γ.K Γ.cn F H ρ σ fs := by
    intro ρ
    induction ρ with
    | nil =>
      intro σ2 σ fs h l _
      have : σ2 = [] := h.1
      subst this
      have : σ = [] := List.eq_nil_of_length_eq_zero l.symm
      subst this
      exact h
    | cons x ρ ih =>
      intro σ2 σ fs h l he
      cases x with
      | none =>
        obtain ⟨y, r, e, h⟩ := h
        subst e
        match σ, l with
        | z :: σ, l => exact ⟨z, σ, rfl, ih r σ fs h (by simpa using l) fun j d hj => by simpa using he (j + 1) d hj⟩
      | some d =>
        obtain ⟨v, r, f, g, e, s, nb, h1, h2⟩ := h
        subst e
        match σ, l with
        | z :: σ, l =>
          have : z = some v := by
            have := he 0 d rfl
            simpa using this.symm
          subst this
          exact ⟨v, σ, f, g, rfl, s, nb, h1, ih r σ g h2 (by simpa using l) fun j d hj => by simpa using he (j + 1) d hj⟩
  refine gen _ _ _ _ s.ss h.1 fun j d hj => h.2 j fun hm => ?_
  rw [none_at is ρ j hm] at hj; cases hj
end
/-- one more at the end of a held list -/
theorem SI.push1 {Γ : Ctx} {hold : Hold} {ρ : Env} {σ : L2.St} {H : Hp} {C : Addr} {acc : List D} {u : V} {x : D} (s : SI Γ ((.ref C, .lst .own acc) :: (u, x) :: hold) ρ σ H) (nb : hold.noBrw) (nx : x.noBrw = true) (na : D.chkL (fun m => !m.isBrw) acc = true) :
    ∃ ws, H C = some (.lst ws) ∧ ws.length = acc.length ∧ SI Γ ((.ref C, .lst .own (acc ++ [x])) :: hold) ρ σ (upd H C (.lst (ws ++ [u]))) := by
  obtain ⟨F, fh, fs, s⟩ := s
  obtain ⟨v', r, f, g, e, q, ⟨a, ws, f1, ea, hq, hr⟩, ⟨v2, r2, f2, g2, e2, q2, hx, hh⟩⟩ := s.hh
  cases e; cases e2; cases ea
  have hq' : H C = some (.lst ws) ∧ ∀ b, f b = f1 b + if b = C then 1 else 0 := by
    rcases hq with hq | hq
    · exact hq
    · cases hq.1
  refine ⟨ws, hq'.1, hr.len.symm, ?_⟩
  have fC : f C = f1 C + 1 := by have := hq'.2 C; simpa using this
  have n1 := s.nd C
  have pC : 0 < fh C + fs C := by have := q C; omega
  have zC : f1 C = 0 ∧ f2 C = 0 ∧ g2 C = 0 ∧ fs C = 0 := by have := q C; have := q2 C; omega
  have K0 : Keep F F H (upd H C (.lst (ws ++ [u]))) False := Keep.upd (by rw [hq'.1]; trivial) (s.ow C pC).1
  have away : ∀ {f9 : Fp}, f9 C = 0 → ∀ a o', 0 < f9 a → H a = some o' → upd H C (.lst (ws ++ [u])) a = some o' := fun {f9} z a o' pos h => by
    rw [upd_ne]; exact h
    rintro rfl; omega
  refine ⟨F, fun b => (f1 b + f2 b) + (if b = C then 1 else 0) + g2 b, fs, s.mut pC ⟨.ref C, _, fun b => (f1 b + f2 b) + if b = C then 1 else 0, g2, rfl, fun b => rfl, rep_new upd_same ?_, ?_⟩ (Slots.go K0 (away zC.2.2.2) s.ss) (fun b => ?_) s.mo⟩
  · exact Reps.app (Reps.go K0 _ _ _ (fun z => by rw [na] at z; cases z) (away zC.1) hr) (Reps.one (Rep.go K0 _ _ _ (fun z => by rw [nx] at z; cases z) (away zC.2.1) hx)) fun _ => rfl
  · exact Reps.go K0 _ _ _ (fun z => by rw [show D.chkL (fun m => !m.isBrw) (hold.map (·.2)) = true from nb] at z; cases z) (away zC.2.2.1) hh
  · have := q b; have := q2 b; have := hq'.2 b
    show f1 b + f2 b + (if b = C then 1 else 0) + g2 b + fs b ≤ fh b + fs b
    omega
section
variable {X : Cx} {Γ : Ctx} {W : WX} {pos : Pos}
abbrev WF : WX := fun _ _ _ _ => False
theorem wipe_len' (σ : L2.St) (is : List Nat) : But is σ (wipe σ is) := ⟨wipe_length σ is, fun j h => by rw [wipe_get, if_neg h]⟩
theorem tE_lc {q : IF} {b : BF} {t : TF} {f : EF} {is js : List Nat} (hlv : ∀ i ∈ is, Γ.lv i = none) (hjs : ∀ j ∈ js, j ∈ is) (σ : L2.St) (H : Hp) (Q : VK) :
    tE Γ W (eLc q b t f is) σ H Q → tLc (tI Γ W q) (tB Γ js b) (tT Γ WF t) (tE Γ WF f) is σ H Q := fun ⟨hold, ρ, s, nb, k⟩ => by
  refine ⟨hold, ρ, s, nb, ?_⟩
  have lk0 : ∀ i v, Γ.lv i = some v → σ[i]? = some (some v) := by obtain ⟨F, fh, fs, s⟩ := s; exact s.lk
  unfold eLc at k
  cases z : q ρ with
  | none => rw [z] at k; exact k
  | some o =>
    rw [z] at k
    cases o with
    | ex n xs ρ' => exact k
    | ok p ρ' =>
      obtain ⟨d, ds⟩ := p
      dsimp only at k ⊢
      intro v J H1 s1 nbd nbs nos wk C hC
      cases zz : loopC b t f is ds [] (clrS is ρ') with
      | none => rw [zz] at k; exact k.elim
      | some pr =>
        rw [zz] at k
        dsimp only at k
        -- the state within the block
        refine ⟨fun i m H => m = ds.length - i ∧ i ≤ ds.length ∧ ∃ acc ρ, SI Γ ((v, d) :: (.ref C, .lst .own acc) :: hold) ρ (wipe σ is) H ∧ D.chkL (fun m => !m.isBrw) acc = true ∧ loopC b t f is (ds.drop i) acc ρ = some pr, ⟨ds.length, rfl, Nat.zero_le _, [], clrS is ρ', ?_, rfl, zz⟩, ?_⟩
        · have s2 : SI Γ ((.ref C, .lst .own []) :: (v, d) :: hold) ρ' σ (upd H1 C (.lst [])) := by
            have := SI.newBlock (vs := []) (ds := []) (hold := (v, d) :: hold) (v := .ref C) (d := .lst .own []) (p := C) (o := .lst []) s1 rfl hC fun F fa r => ⟨_, fun a => Nat.le_refl _, rep_new upd_same r⟩
            exact this
          have s3 := s2.unwipe (is := is) (σ := wipe σ is) ⟨(wipe_length σ is).symm, fun j h => by rw [wipe_get, if_neg h]⟩ fun i v hv => by
            rw [wipe_get, if_neg (fun hm => by rw [hlv i hm] at hv; cases hv)]
            exact lk0 i v hv
          exact SI.rot (h1 := [(.ref C, .lst .own [])]) s3
        · rintro i m H2 ⟨rfl, hi, acc, ρ2, s2, nba, lp⟩
          obtain ⟨w1, w2⟩ := wk _ ρ2 _ H2 s2
          by_cases hlt : i < ds.length
          · have e1 : ds[i]? = some ds[i] := List.getElem?_eq_getElem hlt
            obtain ⟨go, yl⟩ := w1 i _ e1
            refine .inr ⟨go, fun H' => ∃ acc ρ, SI Γ ((v, d) :: (.ref C, .lst .own acc) :: hold) ρ (wipe σ is) H' ∧ D.chkL (fun m => !m.isBrw) acc = true ∧ loopC b t f is (ds.drop (i + 1)) acc ρ = some pr, fun H' h' => ⟨ds.length - (i + 1), by omega, rfl, hlt, h'⟩, fun x H3 y => ?_⟩
            obtain ⟨_, s3⟩ := yl x H3 y
            rw [List.drop_eq_getElem_cons hlt] at lp
            unfold loopC at lp
            cases z1 : b ds[i] ρ2 with
            | none => rw [z1] at lp; cases lp
            | some ρ3 =>
              rw [z1] at lp
              dsimp only at lp
              refine ⟨_, ρ2, ds[i], s3, chkL_get _ nbs e1, chkL_get _ nos e1, ρ3, z1, fun σ4 b4 s4 => ⟨wipe_but b4 hjs, ?_⟩⟩
              have nb2 : Hold.noBrw ((v, d) :: (.ref C, .lst .own acc) :: hold) := noBrw_cons (noBrw_cons nb (by show ((!Mk.isBrw .own) && D.chkL (fun m => !m.isBrw) acc) = true; rw [nba]; rfl)) nbd
              have lk2 : ∀ i v, Γ.lv i = some v → (wipe σ is)[i]? = some (some v) := by obtain ⟨F, fh, fs, s⟩ := s2; exact s.lk
              have b5 : But is (wipe σ is) σ4 := ⟨b4.1, fun j hj => b4.2 j fun z => hj (hjs j z)⟩
              refine ⟨_, ρ3, s4, nb2, ?_⟩
              cases z2 : t ρ3 with
              | none => rw [z2] at lp; cases lp
              | some o2 =>
                rw [z2] at lp
                cases o2 with
                | ex n xs ρ4 => cases lp
                | ok c ρ4 =>
                  cases c with
                  | false =>
                    dsimp only at lp ⊢
                    exact fun H5 s5 => iF ⟨acc, clrS is ρ4, s5.unwipe b5 lk2, nba, lp⟩
                  | true =>
                    dsimp only at lp ⊢
                    intro H5 s5
                    refine iT ⟨_, ρ4, s5, nb2, ?_⟩
                    cases z3 : f ρ4 with
                    | none => rw [z3] at lp; cases lp
                    | some o3 =>
                      rw [z3] at lp
                      cases o3 with
                      | ex n xs ρ5 => cases lp
                      | ok x ρ5 =>
                        dsimp only at lp ⊢
                        intro u H6 s6
                        by_cases c : x.noBrw = true ∧ acc.length < sizeLine
                        · rw [if_pos c] at lp
                          have s7 := SI.rot (h1 := [(u, x), (v, d)]) s6
                          obtain ⟨ws, e7, l7, s8⟩ := s7.push1 (noBrw_cons nb nbd) c.1 nba
                          refine ⟨ws, e7, by rw [l7]; exact c.2, acc ++ [x], clrS is ρ5, ?_, ?_, lp⟩
                          · exact (SI.rot (h1 := [(V.ref C, D.lst .own (acc ++ [x]))]) s8).unwipe b5 lk2
                          · rw [chkL_app, nba]
                            show (true && (D.chk (fun m => !m.isBrw) x && true)) = true
                            rw [show D.chk (fun m => !m.isBrw) x = true from c.1]; rfl
                        · rw [if_neg c] at lp; cases lp
          · have e : i = ds.length := by omega
            subst e
            rw [List.drop_length] at lp
            rw [loopC] at lp
            cases lp
            refine .inl ⟨w2 _ (Nat.le_refl _), k _ H2 ?_⟩
            exact SI.unwipe s2.drop (wipe_len' σ is) lk0

def tYesF : TF := fun ρ => some (.ok true ρ)
theorem ts_nil : PTs X [] (tT Γ W tYesF) := ⟨fun pins s σ H Q I ⟨hold, ρ, s', nb, k⟩ => pts_nil.run pins s σ H Q I (k H s')⟩
theorem ts_one {c : Expr} {t : TF} (h : PT X c (tT Γ W t)) : PTs X [c] (tT Γ W t) := pts_one h
/-- [elt for tg in iter if ..] -/
theorem e_lc {elt tg iter : Expr} {ifs : List Expr} {scope : Scope} {own : List (Str × Nat)} {q : IF} {b : BF} {t : TF} {f : EF} {js : List Nat} (hlv : ∀ i ∈ own.map (·.2), Γ.lv i = none) (hjs : ∀ j ∈ js, j ∈ own.map (·.2)) (hc : X.calm = true) (hN : X.N.Nodup) (hi : PI X tg iter (tI Γ W q)) (ok : BlkOk X.N X.env.scope scope own)
    (hg : ∀ (s : Shared) (H : Hp) (C : Addr) (cl : List (Str × Addr)) (fp : List Addr), PG (X.blk s H scope (PySem.compEnvC scope cl C X.env) fp) tg (tB Γ js b)) (ht : ∀ (s : Shared) (H : Hp) (C : Addr) (cl : List (Str × Addr)) (fp : List Addr), PTs (X.blk s H scope (PySem.compEnvC scope cl C X.env) fp) ifs (tT Γ WF t))
    (he : ∀ (s : Shared) (H : Hp) (C : Addr) (cl : List (Str × Addr)) (fp : List Addr), PE (X.blk s H scope (PySem.compEnvC scope cl C X.env) fp) elt (tE Γ WF f)) (hs : ∀ x, foldedSetIterable iter X.env x = pure x := by intro _; rfl) :
    PE X (.ListComp elt [⟨tg, iter, ifs, 0⟩] scope pos) (tE Γ W (eLc q b t f (own.map (·.2)))) :=
  PE.wk (pe_lc hc hN hi ok hg ht he hs) (tE_lc hlv hjs)
/-- name = [..] on one line -/
theorem s_lc (fro : Bool) {i : Nat} {y : Str} {py : Pos} {elt tg iter : Expr} {ifs : List Expr} {scope : Scope} {own : List (Str × Nat)} {spos : Pos} {q : IF} {b : BF} {t : TF} {f : EF} {js : List Nat} (hyv : Γ.lv i = none) (hyo : fro = false → Γ.own i = true) (hlv : ∀ i ∈ own.map (·.2), Γ.lv i = none) (hjs : ∀ j ∈ js, j ∈ own.map (·.2)) (hc : X.calm = true) (hN : X.N.Nodup) (hy : X.N[i]? = some y) (hyl : X.env.scope.names.lookup y = some .local)
    (hsw : swapsWith (.ListComp elt [⟨tg, iter, ifs, 0⟩] scope pos) (some (.Name y py)) spos.line X.env = pure true) (hi : PI X tg iter (tI Γ W q)) (ok : BlkOk X.N X.env.scope scope own)
    (hg : ∀ (s : Shared) (H : Hp) (C : Addr) (cl : List (Str × Addr)) (fp : List Addr), PG (X.blk s H scope (PySem.compEnvC scope cl C X.env) fp) tg (tB Γ js b)) (ht : ∀ (s : Shared) (H : Hp) (C : Addr) (cl : List (Str × Addr)) (fp : List Addr), PTs (X.blk s H scope (PySem.compEnvC scope cl C X.env) fp) ifs (tT Γ WF t))
    (he : ∀ (s : Shared) (H : Hp) (C : Addr) (cl : List (Str × Addr)) (fp : List Addr), PE (X.blk s H scope (PySem.compEnvC scope cl C X.env) fp) elt (tE Γ WF f)) (hs : ∀ x, foldedSetIterable iter X.env x = pure x := by intro _; rfl) :
    PS X (.Assign [.Name y py] (.ListComp elt [⟨tg, iter, ifs, 0⟩] scope pos) spos) (tS Γ W (if fro then sF i (eLc q b t f (own.map (·.2))) else sO i (eLc q b t f (own.map (·.2))))) :=
  PS.wk (ps_setLc hc hN hy hyl hsw hi ok hg ht he hs) fun DD σ H ⟨hold, ρ, s, nb, k⟩ => by
    refine tE_lc hlv hjs σ H _ ⟨hold, ρ, s, nb, ?_⟩
    cases fro with
    | true =>
      rw [if_pos rfl] at k
      unfold sF at k
      cases q : eLc q b t f (own.map (·.2)) ρ with
      | none => rw [q] at k; exact k
      | some o =>
        rw [q] at k
        cases o with
        | ok d ρ' =>
          dsimp only at k ⊢
          intro v H' s'
          by_cases hc : d.noBrw = true ∧ i < ρ'.length
          · rw [if_pos hc] at k
            exact k _ H' ((s'.freeze hc.1).store i hyv hc.2 (frz_noBrw d) fun _ => frz_noOwn d)
          · rw [if_neg hc] at k; exact k.elim
        | ex n fs ρ' => exact fun c od H' s' => k c od σ H' s'
    | false =>
      rw [if_neg Bool.false_ne_true] at k
      unfold sO at k
      cases q : eLc q b t f (own.map (·.2)) ρ with
      | none => rw [q] at k; exact k
      | some o =>
        rw [q] at k
        cases o with
        | ok d ρ' =>
          dsimp only at k ⊢
          intro v H' s'
          by_cases hc : d.noBrw = true ∧ i < ρ'.length
          · rw [if_pos hc] at k
            exact k _ H' (s'.store i hyv hc.2 hc.1 fun z => by rw [hyo rfl] at z; cases z)
          · rw [if_neg hc] at k; exact k.elim
        | ex n fs ρ' => exact fun c od H' s' => k c od σ H' s'
end
end DL

end
section
/-! DL16: products, minus, all of a def's end. -/
open PySem PySem.Spec L2
namespace DL
section
variable {X : Cx} {Γ : Ctx} {W : WX} {e a b : Expr} {f g p : PF} {pos : Pos}
def strRep (x : Str) (n : Int) : Str := if n < 1 then Str.empty else if (n == 1 || x.length == 0) = true then x else ⟨(List.replicate n.toNat x.cps).foldl (· ++ ·) #[]⟩
theorem op_mul_str : OpR X (binaryOp .Mult) (fun x y H Q => ∃ z n, x = .str z ∧ y = .int n ∧ (-(2 ^ 62) ≤ n ∧ n ≤ 1000 ∧ z.length ≤ 1000) ∧ Q (.str (strRep z n)) H) := by
  intro pins s σ H x y v u Q I rx ry h
  obtain ⟨z, n, rfl, rfl, ⟨h1, h2, h3⟩, q⟩ := h
  obtain ⟨t, rfl⟩ := rx
  obtain ⟨t', rfl⟩ := ry
  have hp : ¬ n < 1 → (z.length : Int) * n ≤ 1000000 := fun hn => by
    have : (z.length : Int) * n ≤ 1000 * 1000 := Int.mul_le_mul (by omega) h2 (by omega) (by decide)
    omega
  refine PySem.P.mul_str (by rw [decide_eq_false (by omega), decide_eq_false (by omega)]; rfl) (fun hn _ hc => ?_) (fun hn _ => ?_) ?_
  · have h4 : (1000 : Int) ≤ (2 ^ 63 - 1) / n := by
      rw [Int.le_ediv_iff_mul_le (by omega)]
      have : (1000 : Int) * n ≤ 1000 * 1000 := Int.mul_le_mul_of_nonneg_left h2 (by decide)
      omega
    omega
  · have hm : z.length * n.toNat ≤ 1000 * 1000 := Nat.mul_le_mul h3 (by omega)
    unfold Builtin.Str.tooLong
    exact decide_eq_false (by rw [sizeLine_eq]; omega)
  · unfold strRep at q
    split
    · rename_i c
      rw [if_pos c] at q
      exact ⟨by decide, ⟨.str _, H, I.tok _, ⟨_, rfl⟩, q⟩⟩
    · rename_i c
      rw [if_neg c] at q
      split
      · rename_i c2
        rw [if_pos c2] at q
        exact ⟨.str _, H, I, ⟨_, rfl⟩, q⟩
      · rename_i c2
        rw [if_neg c2] at q
        refine ⟨?_, ⟨.str _, H, I.tok _, ⟨_, rfl⟩, q⟩⟩
        have hs : ∀ (k : Nat) (acc : Array Nat), ((List.replicate k z.cps).foldl (· ++ ·) acc).size = acc.size + k * z.cps.size := by
          intro k
          induction k with
          | zero => intro acc; simp
          | succ k ih => intro acc; rw [List.replicate_succ, List.foldl_cons, ih, Array.size_append, Nat.succ_mul]; omega
        show ((List.replicate n.toNat z.cps).foldl (· ++ ·) #[]).size ≤ sizeLine
        rw [hs]
        have hm : n.toNat * z.cps.size ≤ 1000 * 1000 := Nat.mul_le_mul (by omega) h3
        rw [sizeLine_eq]
        show 0 + _ ≤ _
        omega
def oMul : O2
  | .int i, .int j => if cMul i j = true then some (.int (i * j)) else none
  | .str z, .int n => if -(2 ^ 62) ≤ n ∧ n ≤ 1000 ∧ z.length ≤ 1000 then some (.str (strRep z n)) else none
  | _, _ => none
def rMul : R2 := fun x y H Q => (∃ i j, x = .int i ∧ y = .int j ∧ CMul i j ∧ Q (.int (i * j)) H) ∨ ∃ z n, x = .str z ∧ y = .int n ∧ (-(2 ^ 62) ≤ n ∧ n ≤ 1000 ∧ z.length ≤ 1000) ∧ Q (.str (strRep z n)) H
theorem opr_mul : OpR X (binaryOp .Mult) rMul := OpR.or op_mul op_mul_str
theorem oMul_ok : Op2 Γ rMul oMul := fun hold ρ σ H v w x y d Q e s k => by
  unfold oMul at e
  split at e
  · split at e
    · rename_i c
      cases e
      obtain rfl := s.topInt
      obtain rfl := s.drop.topInt
      refine .inl ⟨_, _, rfl, rfl, ?_, k _ _ Ext.refl (s.drop.drop.int _)⟩
      simpa [cMul, CMul] using c
    · cases e
  · split at e
    · rename_i c
      cases e
      obtain rfl := s.topInt
      obtain rfl := s.drop.topStr
      exact .inr ⟨_, _, rfl, rfl, c, k _ _ Ext.refl (s.drop.drop.str _)⟩
    · cases e
  · cases e
def pNeg (f : PF) : PF := fun ρ => match f ρ with | some (.int i) => some (.int (-i)) | _ => none
theorem d_neg (ha : PE X a (tP Γ f)) : PE X (.UnaryOp .USub a pos) (tP Γ (pNeg f)) := PE.wk (pe_un un_neg ha) fun σ H Q ⟨hold, ρ, s, d, e, k⟩ => by
  unfold pNeg at e
  split at e
  · rename_i i e1
    cases e
    exact ⟨hold, ρ, s, _, e1, fun v H1 x1 s1 => ⟨i, s1.topInt, k _ H1 x1 (s1.drop.int _)⟩⟩
  · cases e
/-- binary operators -/
theorem d_bin {op : Operator} {r : R2} {o : O2} (hr : OpR X (binaryOp op) r) (ho : Op2 Γ r o) (ha : PE X a (tP Γ f)) (hb : PE X b (tP Γ g)) : PE X (.BinOp a op b pos) (tP Γ (pB o f g)) := p_op (pe_op hr ha hb) ho
theorem e_bin {op : Operator} {r : R2} {o : O2} {f g : EF} (hr : OpR X (binaryOp op) r) (ho : Op2 Γ r o) (ha : PE X a (tE Γ W f)) (hb : PE X b (tE Γ W g)) : PE X (.BinOp a op b pos) (tE Γ W (eB o f g)) := e_op (pe_op hr ha hb) ho
/-- a slot's thing handed on: it is there no more -/
def eMv (i : Nat) : EF := fun ρ => (getS ρ i).map fun d => .ok d (setS ρ i none)
theorem SI.move {hold : Hold} {ρ : Env} {σ : L2.St} {H : Hp} {i : Nat} {d : D} (s : SI Γ hold ρ σ H) (e : getS ρ i = some d) : ∃ v, σ[i]? = some (some v) ∧ SI Γ ((v, d) :: hold) (setS ρ i none) σ H := by
  obtain ⟨F, fh, fs, s⟩ := s
  obtain ⟨v, f, g, ev, hr, nb, e0, hs⟩ := s.ss.take e
  refine ⟨v, ev, F, fun a => f a + fh a, g, s.re ⟨v, _, f, fh, rfl, fun _ => rfl, hr, s.hh⟩ hs (fun a => by have := e0 a; show f a + fh a + g a ≤ fh a + fs a; omega) fun j x hx hj => ?_⟩
  rcases getS_set hx with ⟨_, z⟩ | ⟨_, z⟩
  · cases z
  · exact s.mo j x z hj
theorem e_mv {i : Nat} {x : Str} (hN : X.N[i]? = some x) (hv : Vis X.env.scope x) (hd : (x == ("__debug__" : Str)) = false := by decide) (hcd : (x == ("__classdict__" : Str)) = false := by decide) : PE X (.Name x pos) (tE Γ W (eMv i)) :=
  PE.wk (pe_var hN hv hd hcd) fun σ H Q ⟨hold, ρ, s, nb, k⟩ => by
    unfold eMv at k
    cases q : getS ρ i with
    | none => rw [q] at k; exact k.elim
    | some d =>
      rw [q] at k
      obtain ⟨v, ev, s'⟩ := s.move q
      exact ⟨v, ev, k v H s'⟩
/-- a slot's thing, frozen from here on -/
def eFz (i : Nat) : EF := fun ρ => (getS ρ i).map fun d => .ok d.frz (setS ρ i (some d.frz))
theorem e_fz {i : Nat} {x : Str} (hl : Γ.lv i = none) (hN : X.N[i]? = some x) (hv : Vis X.env.scope x) (hd : (x == ("__debug__" : Str)) = false := by decide) (hcd : (x == ("__classdict__" : Str)) = false := by decide) : PE X (.Name x pos) (tE Γ W (eFz i)) :=
  PE.wk (pe_var hN hv hd hcd) fun σ H Q ⟨hold, ρ, s, nb, k⟩ => by
    unfold eFz at k
    cases q : getS ρ i with
    | none => rw [q] at k; exact k.elim
    | some d =>
      rw [q] at k
      obtain ⟨v, ev, s'⟩ := s.move q
      have nbd : d.noBrw = true := by
        obtain ⟨F, fh, fs, s⟩ := s
        obtain ⟨_, _, _, _, nb, _⟩ := s.ss.get q
        exact nb
      have s2 := s'.freeze nbd
      have hlt : i < (setS ρ i none).length := by rw [setS_length]; exact getS_lt q
      have s3 : SI Γ ((v, d.frz) :: (v, d.frz) :: hold) (setS ρ i none) σ H := by
        obtain ⟨F, fh, fs, s2⟩ := s2
        obtain ⟨v', r, f, g, e, q2, h1, h2⟩ := s2.hh
        cases e
        have z : ∀ a, f a = 0 := Rep.zero _ _ _ h1 (frz_noOwn d)
        exact ⟨F, fun a => f a + (f a + g a), fs, s2.re ⟨v, _, f, fun a => f a + g a, rfl, fun _ => rfl, h1, ⟨v, _, f, g, rfl, fun _ => rfl, h1, h2⟩⟩ s2.ss (fun a => by have := z a; have := q2 a; show f a + (f a + g a) + fs a ≤ _; omega) s2.mo s2.lk⟩
      have s4 := s3.store i hl hlt (frz_noBrw d) fun _ => frz_noOwn d
      rw [setS_setS] at s4
      have es : σ.set i (some v) = σ := by
        obtain ⟨hl, e⟩ := List.getElem?_eq_some_iff.mp ev
        rw [← e]; exact List.set_getElem_self hl
      rw [es] at s4
      exact ⟨v, ev, k v H s4⟩
end
end DL

end
section
/-! DL17: tests that may change things; truth; the law's end. -/
open PySem PySem.Spec L2
namespace DL
section
variable {X : Cx} {Γ : Ctx} {W : WX} {e a b : Expr} {pos : Pos}
def tNotF (t : TF) : TF := fun ρ => match t ρ with | some (.ok b ρ') => some (.ok (!b) ρ') | r => r
def tAndF (t u : TF) : TF := fun ρ => match t ρ with | some (.ok true ρ') => u ρ' | r => r
def tOrF (t u : TF) : TF := fun ρ => match t ρ with | some (.ok false ρ') => u ρ' | r => r
theorem t_not {t : TF} (h : PT X a (tT Γ W t)) : PT X (.UnaryOp .Not a pos) (tT Γ W (tNotF t)) :=
  PT.wk (pt_not h) fun σ H Q ⟨hold, ρ, s, nb, k⟩ => by
    refine ⟨hold, ρ, s, nb, ?_⟩
    unfold tNotF at k
    cases q : t ρ with
    | none => rw [q] at k; exact k
    | some o =>
      rw [q] at k
      cases o with
      | ok c ρ' => exact fun H' s' => k H' s'
      | ex n fs ρ' => exact k
theorem tw_and1 {t : TF} (h : PT X a (tT Γ W t)) : PW X (.BoolOp .And [a] pos) (tT Γ W t) := pw_and1 h
theorem tw_or1 {t : TF} (h : PT X a (tT Γ W t)) : PW X (.BoolOp .Or [a] pos) (tT Γ W t) := pw_or1 h
theorem tw_and {t u : TF} {rest : List Expr} (h : PT X a (tT Γ W t)) (h' : PW X (.BoolOp .And (b :: rest) pos) (tT Γ W u)) : PW X (.BoolOp .And (a :: b :: rest) pos) (tT Γ W (tAndF t u)) :=
  PW.wk (pw_and h h') fun σ H Q ⟨hold, ρ, s, nb, k⟩ => by
    refine ⟨hold, ρ, s, nb, ?_⟩
    unfold tAndF at k
    cases q : t ρ with
    | none => rw [q] at k; exact k
    | some o =>
      rw [q] at k
      cases o with
      | ok c ρ' =>
        cases c with
        | true => exact fun H' s' => iT ⟨hold, ρ', s', nb, k⟩
        | false => exact fun H' s' => iF (k H' s')
      | ex n fs ρ' => exact k
theorem tw_or {t u : TF} {rest : List Expr} (h : PT X a (tT Γ W t)) (h' : PW X (.BoolOp .Or (b :: rest) pos) (tT Γ W u)) : PW X (.BoolOp .Or (a :: b :: rest) pos) (tT Γ W (tOrF t u)) :=
  PW.wk (pw_or h h') fun σ H Q ⟨hold, ρ, s, nb, k⟩ => by
    refine ⟨hold, ρ, s, nb, ?_⟩
    unfold tOrF at k
    cases q : t ρ with
    | none => rw [q] at k; exact k
    | some o =>
      rw [q] at k
      cases o with
      | ok c ρ' =>
        cases c with
        | true => exact fun H' s' => iT (k H' s')
        | false => exact fun H' s' => iF ⟨hold, ρ', s', nb, k⟩
      | ex n fs ρ' => exact k
theorem t_w {t : TF} (h : PW X e (tT Γ W t)) : PT X e (tT Γ W t) := h.pt
/-- truth of a thing of any kind -/
def truD : D → Option Bool
  | .non => some false
  | .bl b => some b
  | .int i => some (i != 0)
  | .str z => if z.length ≤ sizeLine then some ((z.length : Int) != 0) else none
  | .tup ds => some (!ds.isEmpty)
  | .lst _ ds => some (!ds.isEmpty)
  | .dic .own .k ks => some (!ks.isEmpty)
  | .dic .frz .k ks => some (!ks.isEmpty)
  | _ => none
def qTr (f : PF) : QF := fun ρ => (f ρ).bind truD
theorem reps_empty {K : PySem.W.Frag} {cn : Nm} {F : Addr → Prop} {H : Hp} {ds : List D} {vs : List V} {f : Fp} (h : Reps K cn F H ds vs f) : (!ds.isEmpty) = !vs.isEmpty := by
  have := h.len
  cases ds <;> cases vs <;> simp_all
theorem repK_empty {K : PySem.W.Frag} {cn : Nm} {F : Addr → Prop} {H : Hp} {ds : List (Ky × D)} {vs : List (Ky × V)} {f : Fp} (h : RepK K cn F H ds vs f) : (!ds.isEmpty) = !vs.isEmpty := by
  cases ds with
  | nil => rw [h.1]; rfl
  | cons p ds => obtain ⟨k, d⟩ := p; obtain ⟨v, r, _, _, e, _⟩ := h; rw [e]; rfl
theorem q_tru {f : PF} (hK : X.K = Γ.K) (ha : PE X a (tP Γ f)) (he : ∀ whole, isTrue a X.env whole = (do let v ← whole; standAt a.pos; holding [v] (truthy v)) := by intro _; rfl) : PT X a (tQ Γ (qTr f)) :=
  PT.wk (pt_truth ha he) fun σ H Q ⟨hold, ρ, s, b, e, k⟩ => by
    unfold qTr at e
    obtain ⟨x, e1, e2⟩ := Option.bind_eq_some_iff.mp e
    refine ⟨hold, ρ, s, x, e1, fun v H1 x1 s1 => ⟨b, ?_, k H1 x1 s1.drop⟩⟩
    obtain ⟨F, fp, h, _⟩ := s1.open1
    rw [hK]
    unfold truD at e2
    split at e2
    · cases e2; rw [h.1]; rfl
    · cases e2; rw [h.1]; rfl
    · cases e2; rw [h.1]; rfl
    · split at e2
      · rename_i z; cases e2; rw [h.1]; exact ⟨z, rfl⟩
      · cases e2
    · cases e2
      obtain ⟨a, vs, ev, q, r⟩ := h
      rw [ev]; exact .inr (.inl ⟨vs, SqT.of q, reps_empty r⟩)
    · cases e2
      obtain ⟨a, vs, f', ev, q, r⟩ := h
      rw [ev]; exact .inl ⟨vs, lst_sq q, reps_empty r⟩
    · cases e2
      obtain ⟨a, f', ev, q⟩ := h
      rcases q with ⟨_, kv, q, r⟩ | ⟨hk, _⟩
      · rw [ev]; refine .inr (.inr ⟨kv, q.1, ?_⟩)
        have := repK_empty r
        rw [this]; cases kv <;> rfl
      · cases hk
    · cases e2
      obtain ⟨a, f', ev, q⟩ := h
      rcases q with ⟨_, kv, q, r⟩ | ⟨hk, _⟩
      · rw [ev]; refine .inr (.inr ⟨kv, q.2.1, ?_⟩)
        have := repK_empty r
        rw [this]; cases kv <;> rfl
      · cases hk
    · cases e2
end
/-- the law's own call -/
theorem law_sp {K : PySem.W.Frag} {cn : Nm} {f : FF} {H : Hp} {a : Addr} {ns : List Int} {ls : List D} (hO : Only H) (hS : SqL K H a (ns.map V.int)) (h : f [.lst .ro (ns.map .int)] = some (.ret (.bl true) ls)) :
    SpD K cn [false] f [.ref a] H (fun v _ => v = .bl true) (fun _ _ _ => False) := by
  have hr : ∀ ns : List Int, Reps K cn (fun _ => False) H (ns.map D.int) (ns.map V.int) fp0 := by
    intro ns
    induction ns with
    | nil => exact ⟨rfl, fun _ => rfl⟩
    | cons n ns ih => exact ⟨_, _, fp0, fp0, rfl, fun _ => rfl, ⟨rfl, fun _ => rfl⟩, ih⟩
  have hc : ∀ (p : Mk → Bool) (ns : List Int), D.chkL p (ns.map D.int) = true := by
    intro p ns
    induction ns with
    | nil => rfl
    | cons n ns ih => exact ih
  refine ⟨fun _ => False, [.lst .ro (ns.map .int)], fp0, Reps.one ⟨a, _, fp0, rfl, ?_, hr ns⟩, rfl, fun _ => Nat.zero_le _, fun b p => absurd p (Nat.lt_irrefl 0), fun b z => z.elim, ?_, ?_⟩
  · rcases hS with (hS | hS) | hS
    · rcases hO a with z | ⟨o, xs, z⟩
      · rw [hS] at z; cases z
      · rw [hS] at z; cases z
    · exact .inl ⟨hS, fun _ => rfl, fun _ => rfl⟩
    · exact .inr ⟨rfl, hS, fun _ => rfl, fun _ => rfl⟩
  · show (((!Mk.isBrw .ro) && D.chkL (fun m => !m.isBrw) (ns.map D.int)) && ((!Mk.isOwn .ro) && D.chkL (fun m => !m.isOwn) (ns.map D.int)) && true) = true
    rw [hc, hc]; rfl
  · rw [h]
    intro v H' F' fp' A
    obtain ⟨v', r, f1, g1, e, _, hv, _⟩ := A.rep
    cases e
    exact hv.1
theorem law_cx {P : Program} {w : World} (H : Hp) (s : Shared) (e : Value) (s' : Shared) : L2.CX P w [] H s (fun _ _ _ => False) e s' → False := fun h => by
  obtain ⟨_, _, _, _, _, _, _, _, _, _, _, _, z⟩ := h
  exact z
end DL
namespace DL
theorem u64 {k : Nat} {A : Around} (r : Room k A) : A.units + 64 < cLine := by have := r.un; omega
theorem u65 {k : Nat} {A : Around} (r : Room k A) : A.units + 65 < cLine := by have := r.un; omega
end DL
namespace DL
theorem hos_by {lm : List Bool} {os : List Nat} (h : ((List.range lm.length).all fun i => lm[i]? != some true || os.contains i) = true) : ∀ (i : Nat), lm[i]? = some true → os.contains i = true := fun i e => by
  have hi : i < lm.length := (List.getElem?_eq_some_iff.mp e).1
  have := List.all_eq_true.mp h i (List.mem_range.mpr hi)
  rw [e] at this
  simpa using this
end DL

end
section
/-! DL18: more that is walked: texts, ranges with a step, reversed. -/
open PySem PySem.Spec L2
namespace DL
section
variable {X : Cx} {Γ : Ctx} {W : WX} {pos : Pos}
def strD (z : Str) : List D := z.cps.toList.map fun c => .str ⟨#[c]⟩
theorem strD_chk (p : Mk → Bool) (z : Str) : D.chkL p (strD z) = true := by
  unfold strD
  induction z.cps.toList with
  | nil => rfl
  | cons x xs ih => exact ih
theorem walks_str {x : Str} {v : V} {d : D} : Walks Γ (Its x) v d (strD x) := fun hold ρ σ H s => by
  have hl : (strD x).length = x.cps.size := by unfold strD; rw [List.length_map]; rfl
  refine ⟨fun i di hi => ?_, fun i hi => by rw [hl] at hi; exact hi⟩
  have h1 : i < x.cps.size := by rw [← hl]; exact (List.getElem?_eq_some_iff.mp hi).1
  unfold strD at hi
  rw [List.getElem?_map, Option.map_eq_some_iff] at hi
  obtain ⟨c, e, rfl⟩ := hi
  refine ⟨h1, fun y H' z => ?_⟩
  obtain ⟨rfl, c', e', rfl⟩ := z
  rw [← Array.getElem?_toList, e] at e'
  cases e'
  exact ⟨Ext.refl, s.str _⟩
/-- a list, a tuple, a text -/
def iAll (f : EF) : IF := fun ρ => match f ρ with
  | some (.ok (.str z) ρ') => some (.ok (.str z, strD z) ρ')
  | _ => iSeq f ρ
theorem i_all {tg l : Expr} {f : EF} (hK : X.K = Γ.K) (hl : PE X l (tE Γ W f)) : PI X tg l (tI Γ W (iAll f)) :=
  PI.wk (PI.or (i_seq hK hl) (pi_str hl)) fun σ H R ⟨hold, ρ, s, nb, k⟩ => by
    by_cases hz : ∃ z ρ', f ρ = some (.ok (.str z) ρ')
    · obtain ⟨z, ρ', e⟩ := hz
      refine .inr ⟨hold, ρ, s, nb, ?_⟩
      unfold iAll at k
      rw [e] at k ⊢
      intro v H' s'
      obtain rfl := s'.topStr
      exact ⟨z, rfl, k _ _ _ s' rfl (strD_chk _ z) (strD_chk _ z) walks_str⟩
    · refine .inl ⟨hold, ρ, s, nb, ?_⟩
      have e : iAll f ρ = iSeq f ρ := by
        unfold iAll
        split
        · rename_i z ρ' e
          exact absurd ⟨z, ρ', e⟩ hz
        · rfl
      rw [e] at k
      exact k
/-- range(i, j, -1) -/
def rngDn (i : Int) (n : Nat) : List D := (List.range n).map fun (k : Nat) => .int (i + (k : Int) * -1)
theorem rngDn_chk (p : Mk → Bool) (i : Int) (n : Nat) : D.chkL p (rngDn i n) = true := by
  unfold rngDn
  induction List.range n with
  | nil => rfl
  | cons x xs ih => exact ih
theorem walks_rngDn {lo : Int} {n : Nat} {v : V} {d : D} : Walks Γ (Itc lo (-1) n) v d (rngDn lo n) := fun hold ρ σ H s => by
  have hl : (rngDn lo n).length = n := by unfold rngDn; rw [List.length_map, List.length_range]
  refine ⟨fun i di hi => ?_, fun i hi => by rw [hl] at hi; exact hi⟩
  have h1 : i < n := by rw [← hl]; exact (List.getElem?_eq_some_iff.mp hi).1
  unfold rngDn at hi
  rw [List.getElem?_map, List.getElem?_range h1] at hi
  cases hi
  refine ⟨h1, fun y H' z => ?_⟩
  obtain ⟨rfl, rfl⟩ := z
  exact ⟨Ext.refl, s.int _⟩
def iRng3 (fs : List EF) : IF := fun ρ => match evE fs ρ with
  | some (.ok [.int i, .int j, .int (-1)] ρ') => if okR i = true ∧ okR j = true then some (.ok (.non, rngDn i (i - j).toNat) ρ') else none
  | some (.ok _ _) => none
  | some (.ex n xs ρ') => some (.ex n xs ρ')
  | none => none
theorem i_rng3 {tg a b c : Expr} {fs : List EF} {p : Pos} (hg : Gl X "range") (hm : X.mg "range" = none) (ha : PA X [a, b, c] (tAE Γ W fs))
    (hs : starEach [a, b, c] X.env = (false, eval a X.env) :: starEach [b, c] X.env := by rfl) (hpl : (backTo pos (starEach [b, c] X.env)).any (·.1) = false := by rfl) :
    PI X tg (.Call (.Name "range" p) [a, b, c] [] pos) (tI Γ W (iRng3 fs)) :=
  PI.wk (pi_range3 hg hm ha hs hpl) fun σ H R ⟨hold, ρ, s, nb, k⟩ => by
    refine ⟨hold, ρ, s, nb, ?_⟩
    unfold iRng3 at k
    cases q : evE fs ρ with
    | none => rw [q] at k; exact k.elim
    | some o =>
      rw [q] at k
      cases o with
      | ex n xs ρ' => exact k
      | ok ds ρ' =>
        dsimp only at k ⊢
        split at k
        · exact k.elim
        · rename_i d ds2 ρ2 e
          split at e
          · rename_i i j ρ3 e2
            split at e
            · rename_i hr
              cases e2
              cases e
              intro vs H' l s'
              match vs, l with
              | [v1, v2, v3], _ =>
                obtain rfl := s'.topInt
                obtain rfl := s'.drop.topInt
                obtain rfl := s'.drop.drop.topInt
                obtain ⟨a1, a2⟩ := okR_of hr.1
                obtain ⟨b1, b2⟩ := okR_of hr.2
                exact ⟨i, j, -1, _, rfl, RgC.neg a1 a2 b1 b2, k .non _ H' s'.drop.drop.drop.non rfl (rngDn_chk _ _ _) (rngDn_chk _ _ _) walks_rngDn⟩
            · cases e
          · cases e
          · rename_i e2; cases e2
          · rename_i e2; cases e2
        · rename_i e
          split at e
          · split at e <;> cases e
          · cases e
          · rename_i e2; cases e2
          · rename_i e2; cases e2
/-- reversed of a list, a tuple -/
def iRev (f : EF) : IF := fun ρ => match f ρ with
  | some (.ok d ρ') => if d.noBrw = true then (itemsD d.frz).map fun ds => .ok (d.frz, ds.reverse) ρ' else none
  | some (.ex n fs ρ') => some (.ex n fs ρ')
  | none => none
theorem chkL_rev (p : Mk → Bool) : ∀ (ds es : List D), D.chkL p (ds ++ es) = (D.chkL p ds && D.chkL p es)
  | [], es => rfl
  | d :: ds, es => by show (D.chk p d && D.chkL p (ds ++ es)) = ((D.chk p d && D.chkL p ds) && D.chkL p es); rw [chkL_rev p ds es, Bool.and_assoc]
theorem chkL_reverse (p : Mk → Bool) : ∀ (ds : List D), D.chkL p ds.reverse = D.chkL p ds
  | [] => rfl
  | d :: ds => by rw [List.reverse_cons, chkL_rev, chkL_reverse p ds]; show (D.chkL p ds && (D.chk p d && true)) = (D.chk p d && D.chkL p ds); rw [Bool.and_true, Bool.and_comm]
theorem rev_at {α : Type} {xs : List α} {i : Nat} {x : α} (h : xs.reverse[i]? = some x) : i < xs.length ∧ xs[xs.length - 1 - i]? = some x := by
  have hl : i < xs.length := by rw [← List.length_reverse]; exact (List.getElem?_eq_some_iff.mp h).1
  rw [List.getElem?_reverse hl] at h
  exact ⟨hl, h⟩
theorem i_rev {tg e : Expr} {f : EF} {p : Pos} (hK : X.K = Γ.K) (hg : Gl X "reversed") (hm : X.mg "reversed" = none) (he : PE X e (tE Γ W f)) (hs : starEach [e] X.env = (false, eval e X.env) :: starEach [] X.env := by rfl) :
    PI X tg (.Call (.Name "reversed" p) [e] [] pos) (tI Γ W (iRev f)) :=
  PI.wk (RT.pi_revA hg hm he hs) fun σ H R ⟨hold, ρ, s, nb, k⟩ => by
    refine ⟨hold, ρ, s, nb, ?_⟩
    unfold iRev at k
    cases q : f ρ with
    | none => rw [q] at k; exact k.elim
    | some o =>
      rw [q] at k
      cases o with
      | ex n fs ρ' => exact k
      | ok d ρ' =>
        dsimp only at k ⊢
        by_cases hd : d.noBrw = true
        · rw [if_pos hd] at k
          have nbk := frz_noBrw d
          have nok := frz_noOwn d
          intro v H' s'
          have s2 := s'.freeze hd
          cases d with
          | lst m ds =>
            obtain ⟨F, f1, ⟨a, vs, f2, ev, hq, hr⟩, _⟩ := s2.open1
            subst ev
            refine ⟨a, vs, rfl, .inl ⟨by rw [hK]; exact lst_sq hq, k (.ref a) (Itv X.K a vs.length) H' s2 nbk (by rw [chkL_reverse]; exact and_r nbk) (by rw [chkL_reverse]; exact and_r nok) ?_⟩⟩
            have hvl := hr.len
            intro hold2 ρ2 σ2 H2 z
            obtain ⟨F2, fh, fs, z⟩ := z
            obtain ⟨v', r, f3, g3, e1, q1, h1, h2⟩ := z.hh
            cases e1
            have h1' := h1
            obtain ⟨a', ws, f4, ev', hq', hr'⟩ := h1'
            cases ev'
            refine ⟨fun i di hi => ?_, fun i hi => by rw [List.length_reverse] at hi; show vs.length ≤ i; rw [← hvl]; exact hi⟩
            obtain ⟨hl, hi⟩ := rev_at hi
            rw [hvl] at hi hl
            obtain ⟨w, f5, ew, hw, lw⟩ := hr'.get hi
            refine ⟨⟨hl, ws, w, by rw [hK]; exact lst_sq hq', ew⟩, fun x H3 y => ?_⟩
            obtain ⟨e3, y⟩ := y
            subst e3
            have ex : x = w := by
              have := y ws (by rw [hK]; exact lst_sq hq')
              rw [ew] at this; exact (Option.some.inj this).symm
            subst ex
            refine ⟨Ext.refl, F2, fh, fs, z.re ⟨x, _, fp0, fh, rfl, fun a => by show _ = 0 + _; omega, ?_, z.hh⟩ z.ss (fun _ => Nat.le_refl _) z.mo z.lk⟩
            have : f5 = fp0 := funext fun b => by
              have := lw b
              have := Reps.zero _ _ _ hr' (and_r nok) b
              show f5 b = 0; omega
            rw [← this]; exact hw
          | tup ds =>
            obtain ⟨F, f1, ⟨a, vs, ev, hq, hr⟩, _⟩ := s2.open1
            subst ev
            refine ⟨a, vs, rfl, .inr ⟨by rw [hK]; exact SqT.of hq, k (.ref a) (RT.ItvT X.K a vs.length) H' s2 nbk (by rw [chkL_reverse]; exact nbk) (by rw [chkL_reverse]; exact nok) ?_⟩⟩
            have hvl := hr.len
            intro hold2 ρ2 σ2 H2 z
            obtain ⟨F2, fh, fs, z⟩ := z
            obtain ⟨v', r, f3, g3, e1, q1, h1, h2⟩ := z.hh
            cases e1
            have h1' := h1
            obtain ⟨a', ws, ev', hq', hr'⟩ := h1'
            cases ev'
            refine ⟨fun i di hi => ?_, fun i hi => by rw [List.length_reverse] at hi; show vs.length ≤ i; rw [← hvl]; exact hi⟩
            obtain ⟨hl, hi⟩ := rev_at hi
            rw [hvl] at hi hl
            obtain ⟨w, f5, ew, hw, lw⟩ := hr'.get hi
            refine ⟨⟨hl, ws, w, by rw [hK]; exact SqT.of hq', ew⟩, fun x H3 y => ?_⟩
            obtain ⟨e3, y⟩ := y
            subst e3
            have ex : x = w := by
              have := y ws (by rw [hK]; exact SqT.of hq')
              rw [ew] at this; exact (Option.some.inj this).symm
            subst ex
            refine ⟨Ext.refl, F2, fh, fs, z.re ⟨x, _, fp0, fh, rfl, fun a => by show _ = 0 + _; omega, ?_, z.hh⟩ z.ss (fun _ => Nat.le_refl _) z.mo z.lk⟩
            have : f5 = fp0 := funext fun b => by
              have := lw b
              have := Reps.zero _ _ _ hr' nok b
              show f5 b = 0; omega
            rw [← this]; exact hw
          | non => exact k.elim
          | bl b => exact k.elim
          | int b => exact k.elim
          | str b => exact k.elim
          | cls b => exact k.elim
          | exc n b => exact k.elim
          | dic m kd b => exact k.elim
          | ins m n b => exact k.elim
        · rw [if_neg hd] at k; exact k.elim
end
end DL

end
section
/-! DL19: a slot's own list is walked and stays the slot's. -/
open PySem PySem.Spec L2
namespace DL
section
variable {X : Cx} {Γ : Ctx} {W : WX} {pos : Pos} {hold : Hold} {ρ : Env} {σ : L2.St} {H : Hp}
theorem set_same {σ : L2.St} {i : Nat} {v : V} (h : σ[i]? = some (some v)) : σ.set i (some v) = σ := by
  obtain ⟨hl, e⟩ := List.getElem?_eq_some_iff.mp h
  rw [← e]; exact List.set_getElem_self hl
/-- what was taken out of a slot is put back -/
theorem SI.put {v : V} {d : D} (s : SI Γ ((v, d) :: hold) ρ σ H) (i : Nat) (hv : σ[i]? = some (some v)) (hi : i < ρ.length) (hd : d.noBrw = true) (ho : Γ.own i = false → d.noOwn = true) : SI Γ hold (setS ρ i (some d)) σ H := by
  obtain ⟨F, fh, fs, s⟩ := s
  obtain ⟨v', r, f, g, e, q, h1, h2⟩ := s.hh
  cases e
  obtain ⟨g', le, h3⟩ := Slots.put (fp' := fs) i v d s.ss hi hd h1
  rw [set_same hv] at h3
  refine ⟨F, g, g', s.re h2 h3 (fun a => by have := le a; have := q a; omega) (fun j x hx hj => ?_) s.lk⟩
  rcases getS_set hx with ⟨e1, e2⟩ | ⟨e1, e2⟩
  · cases e2; subst e1; exact ho hj
  · exact s.mo j x e2 hj
def ownW : Option D → Option (List D)
  | some (.lst .own ds) => if D.chkL (fun m => !m.isOwn) ds = true ∧ D.chkL (fun m => !m.isBrw) ds = true then some ds else none
  | _ => none
theorem ownW_some {o : Option D} {ds : List D} (h : ownW o = some ds) : o = some (.lst .own ds) ∧ D.chkL (fun m => !m.isOwn) ds = true ∧ D.chkL (fun m => !m.isBrw) ds = true := by
  unfold ownW at h
  split at h
  · split at h
    · rename_i c; cases h; exact ⟨rfl, c.1, c.2⟩
    · cases h
  · cases h
theorem walks_own {K : PySem.W.Frag} (hK : K = Γ.K) {a : Addr} {ds : List D} (nos : D.chkL (fun m => !m.isOwn) ds = true) : Walks Γ (Itl K a) (.ref a) (.lst .own ds) ds := fun hold2 ρ2 σ2 H2 z => by
  obtain ⟨F2, fh, fs, z⟩ := z
  obtain ⟨v', r, f3, g3, e1, q1, h1, h2⟩ := z.hh
  cases e1
  have h1' := h1
  obtain ⟨a', ws, f4, ev', hq', hr'⟩ := h1'
  cases ev'
  refine ⟨fun i di hi => ?_, fun i hi => ⟨ws, by rw [hK]; exact lst_sq hq', by rw [← hr'.len]; exact hi⟩⟩
  obtain ⟨w, f5, ew, hw, lw⟩ := hr'.get hi
  refine ⟨⟨ws, w, by rw [hK]; exact lst_sq hq', ew⟩, fun x H3 y => ?_⟩
  obtain ⟨e3, y⟩ := y
  subst e3
  have ex : x = w := by
    have := y ws (by rw [hK]; exact lst_sq hq')
    rw [ew] at this; exact (Option.some.inj this).symm
  subst ex
  refine ⟨Ext.refl, F2, fh, fs, z.re ⟨x, _, fp0, fh, rfl, fun a => by show _ = 0 + _; omega, ?_, z.hh⟩ z.ss (fun _ => Nat.le_refl _) z.mo z.lk⟩
  have : f5 = fp0 := funext fun b => by
    have := lw b
    have := Reps.zero _ _ _ hr' nos b
    show f5 b = 0; omega
  rw [← this]; exact hw
/-- a slot's own list is walked -/
def tIO (Γ : Ctx) (i : Nat) : TI := fun σ H R => ∃ hold ρ, SI Γ hold ρ σ H ∧ hold.noBrw ∧ ∃ ds, ownW (getS ρ i) = some ds ∧ ∀ a, σ[i]? = some (some (.ref a)) → SI Γ ((.ref a, .lst .own ds) :: hold) (setS ρ i none) σ H → Walks Γ (Itl Γ.K a) (.ref a) (.lst .own ds) ds → R (Itl Γ.K a) H
theorem i_own {tg : Expr} {i : Nat} {x : Str} (hK : X.K = Γ.K) (hN : X.N[i]? = some x) (hv : Vis X.env.scope x) (hd : (x == ("__debug__" : Str)) = false := by decide) (hcd : (x == ("__classdict__" : Str)) = false := by decide) : PI X tg (.Name x pos) (tIO Γ i) :=
  PI.wk (pi_list (pe_var hN hv hd hcd)) fun σ H R ⟨hold, ρ, s, nb, ds, e, k⟩ => by
    obtain ⟨e1, c1, c2⟩ := ownW_some e
    obtain ⟨v, ev, s'⟩ := s.move e1
    have s2 := s'
    obtain ⟨F, f1, ⟨a, vs, f2, eva, hq, hr⟩, _⟩ := s2.open1
    subst eva
    exact ⟨_, ev, a, rfl, ⟨vs, by rw [hK]; exact lst_sq hq⟩, by rw [hK]; exact k a ev s' (walks_own rfl c1)⟩
def eLcO (i : Nat) (b : BF) (t : TF) (f : EF) (is : List Nat) : EF := fun ρ => match ownW (getS ρ i) with
  | some ds => (match loopC b t f is ds [] (clrS is (setS ρ i none)) with
    | some p => if i < (clrS is p.2).length then some (.ok (.lst .own p.1) (setS (clrS is p.2) i (some (.lst .own ds)))) else none
    | none => none)
  | none => none
theorem tE_lcO {i : Nat} {b : BF} {t : TF} {f : EF} {is js : List Nat} (hown : Γ.own i = true) (hlv : ∀ i ∈ is, Γ.lv i = none) (hjs : ∀ j ∈ js, j ∈ is) (σ : L2.St) (H : Hp) (Q : VK) :
    tE Γ W (eLcO i b t f is) σ H Q → tLc (tIO Γ i) (tB Γ js b) (tT Γ WF t) (tE Γ WF f) is σ H Q := fun ⟨hold, ρ, s, nb, k⟩ => by
  have lk0 : ∀ i v, Γ.lv i = some v → σ[i]? = some (some v) := by obtain ⟨F, fh, fs, s⟩ := s; exact s.lk
  unfold eLcO at k
  cases z : ownW (getS ρ i) with
  | none => rw [z] at k; exact k.elim
  | some ds =>
    rw [z] at k
    dsimp only at k
    refine ⟨hold, ρ, s, nb, ds, z, fun a ev s1 wk C hC => ?_⟩
    obtain ⟨_, nos, nbs⟩ := ownW_some z
    have nbd : (D.lst Mk.own ds).noBrw = true := by show ((!Mk.isBrw .own) && D.chkL (fun m => !m.isBrw) ds) = true; rw [nbs]; rfl
    cases zz : loopC b t f is ds [] (clrS is (setS ρ i none)) with
    | none => rw [zz] at k; exact k.elim
    | some pr =>
      rw [zz] at k
      dsimp only at k
      by_cases hil : i < (clrS is pr.2).length
      case neg => rw [if_neg hil] at k; exact k.elim
      rw [if_pos hil] at k
      dsimp only at k
      refine ⟨fun j m H => m = ds.length - j ∧ j ≤ ds.length ∧ ∃ acc ρ, SI Γ ((.ref a, .lst .own ds) :: (.ref C, .lst .own acc) :: hold) ρ (wipe σ is) H ∧ D.chkL (fun m => !m.isBrw) acc = true ∧ loopC b t f is (ds.drop j) acc ρ = some pr, ⟨ds.length, rfl, Nat.zero_le _, [], clrS is (setS ρ i none), ?_, rfl, zz⟩, ?_⟩
      · have s2 : SI Γ ((.ref C, .lst .own []) :: (.ref a, .lst .own ds) :: hold) (setS ρ i none) σ (upd H C (.lst [])) := by
          have := SI.newBlock (vs := []) (ds := []) (hold := (.ref a, .lst .own ds) :: hold) (v := .ref C) (d := .lst .own []) (p := C) (o := .lst []) s1 rfl hC fun F fa r => ⟨_, fun a => Nat.le_refl _, rep_new upd_same r⟩
          exact this
        have s3 := s2.unwipe (is := is) (σ := wipe σ is) ⟨(wipe_length σ is).symm, fun j h => by rw [wipe_get, if_neg h]⟩ fun i v hv => by
          rw [wipe_get, if_neg (fun hm => by rw [hlv i hm] at hv; cases hv)]
          exact lk0 i v hv
        exact SI.rot (h1 := [(.ref C, .lst .own [])]) s3
      · rintro j m H2 ⟨rfl, hi, acc, ρ2, s2, nba, lp⟩
        obtain ⟨w1, w2⟩ := wk _ ρ2 _ H2 s2
        by_cases hlt : j < ds.length
        · have e1 : ds[j]? = some ds[j] := List.getElem?_eq_getElem hlt
          obtain ⟨go, yl⟩ := w1 j _ e1
          refine .inr ⟨go, fun H' => ∃ acc ρ, SI Γ ((.ref a, .lst .own ds) :: (.ref C, .lst .own acc) :: hold) ρ (wipe σ is) H' ∧ D.chkL (fun m => !m.isBrw) acc = true ∧ loopC b t f is (ds.drop (j + 1)) acc ρ = some pr, fun H' h' => ⟨ds.length - (j + 1), by omega, rfl, hlt, h'⟩, fun x H3 y => ?_⟩
          obtain ⟨_, s3⟩ := yl x H3 y
          rw [List.drop_eq_getElem_cons hlt] at lp
          unfold loopC at lp
          cases z1 : b ds[j] ρ2 with
          | none => rw [z1] at lp; cases lp
          | some ρ3 =>
            rw [z1] at lp
            dsimp only at lp
            refine ⟨_, ρ2, ds[j], s3, chkL_get _ nbs e1, chkL_get _ nos e1, ρ3, z1, fun σ4 b4 s4 => ⟨wipe_but b4 hjs, ?_⟩⟩
            have nb2 : Hold.noBrw ((.ref a, .lst .own ds) :: (.ref C, .lst .own acc) :: hold) := noBrw_cons (noBrw_cons nb (by show ((!Mk.isBrw .own) && D.chkL (fun m => !m.isBrw) acc) = true; rw [nba]; rfl)) nbd
            have lk2 : ∀ i v, Γ.lv i = some v → (wipe σ is)[i]? = some (some v) := by obtain ⟨F, fh, fs, s⟩ := s2; exact s.lk
            have b5 : But is (wipe σ is) σ4 := ⟨b4.1, fun j hj => b4.2 j fun z => hj (hjs j z)⟩
            refine ⟨_, ρ3, s4, nb2, ?_⟩
            cases z2 : t ρ3 with
            | none => rw [z2] at lp; cases lp
            | some o2 =>
              rw [z2] at lp
              cases o2 with
              | ex n xs ρ4 => cases lp
              | ok c ρ4 =>
                cases c with
                | false =>
                  dsimp only at lp ⊢
                  exact fun H5 s5 => iF ⟨acc, clrS is ρ4, s5.unwipe b5 lk2, nba, lp⟩
                | true =>
                  dsimp only at lp ⊢
                  intro H5 s5
                  refine iT ⟨_, ρ4, s5, nb2, ?_⟩
                  cases z3 : f ρ4 with
                  | none => rw [z3] at lp; cases lp
                  | some o3 =>
                    rw [z3] at lp
                    cases o3 with
                    | ex n xs ρ5 => cases lp
                    | ok x ρ5 =>
                      dsimp only at lp ⊢
                      intro u H6 s6
                      by_cases c : x.noBrw = true ∧ acc.length < sizeLine
                      · rw [if_pos c] at lp
                        have s7 := SI.rot (h1 := [(u, x), (.ref a, .lst .own ds)]) s6
                        obtain ⟨ws, e7, l7, s8⟩ := s7.push1 (noBrw_cons nb nbd) c.1 nba
                        refine ⟨ws, e7, by rw [l7]; exact c.2, acc ++ [x], clrS is ρ5, ?_, ?_, lp⟩
                        · exact (SI.rot (h1 := [(V.ref C, D.lst .own (acc ++ [x]))]) s8).unwipe b5 lk2
                        · rw [chkL_app, nba]
                          show (true && (D.chk (fun m => !m.isBrw) x && true)) = true
                          rw [show D.chk (fun m => !m.isBrw) x = true from c.1]; rfl
                      · rw [if_neg c] at lp; cases lp
        · have e : j = ds.length := by omega
          subst e
          rw [List.drop_length] at lp
          rw [loopC] at lp
          cases lp
          refine .inl ⟨w2 _ (Nat.le_refl _), k _ H2 ?_⟩
          exact SI.put (SI.unwipe s2 (wipe_len' σ is) lk0) i ev hil nbd fun h => by rw [hown] at h; cases h
theorem e_lcO {i : Nat} {elt tg iter : Expr} {ifs : List Expr} {scope : Scope} {own : List (Str × Nat)} {b : BF} {t : TF} {f : EF} {js : List Nat} (hown : Γ.own i = true) (hlv : ∀ i ∈ own.map (·.2), Γ.lv i = none) (hjs : ∀ j ∈ js, j ∈ own.map (·.2)) (hc : X.calm = true) (hN : X.N.Nodup) (hi : PI X tg iter (tIO Γ i)) (ok : BlkOk X.N X.env.scope scope own)
    (hg : ∀ (s : Shared) (H : Hp) (C : Addr) (cl : List (Str × Addr)) (fp : List Addr), PG (X.blk s H scope (PySem.compEnvC scope cl C X.env) fp) tg (tB Γ js b)) (ht : ∀ (s : Shared) (H : Hp) (C : Addr) (cl : List (Str × Addr)) (fp : List Addr), PTs (X.blk s H scope (PySem.compEnvC scope cl C X.env) fp) ifs (tT Γ WF t))
    (he : ∀ (s : Shared) (H : Hp) (C : Addr) (cl : List (Str × Addr)) (fp : List Addr), PE (X.blk s H scope (PySem.compEnvC scope cl C X.env) fp) elt (tE Γ WF f)) (hs : ∀ x, foldedSetIterable iter X.env x = pure x := by intro _; rfl) :
    PE X (.ListComp elt [⟨tg, iter, ifs, 0⟩] scope pos) (tE Γ W (eLcO i b t f (own.map (·.2)))) :=
  PE.wk (pe_lc hc hN hi ok hg ht he hs) (tE_lcO hown hlv hjs)
/-- any expression's comprehension stored under a name on the same line: the swap -/
theorem s_lcG (fro : Bool) {i : Nat} {y : Str} {py : Pos} {elt tg iter : Expr} {ifs : List Expr} {scope : Scope} {own : List (Str × Nat)} {spos : Pos} {wi : TI} {ef : EF} {b : BF} {t : TF} {f : EF} {js : List Nat} (hyv : Γ.lv i = none) (hyo : fro = false → Γ.own i = true)
    (hlc : ∀ (σ : L2.St) (H : Hp) (Q : VK), tE Γ W ef σ H Q → tLc wi (tB Γ js b) (tT Γ WF t) (tE Γ WF f) (own.map (·.2)) σ H Q) (hc : X.calm = true) (hN : X.N.Nodup) (hy : X.N[i]? = some y) (hyl : X.env.scope.names.lookup y = some .local)
    (hsw : swapsWith (.ListComp elt [⟨tg, iter, ifs, 0⟩] scope pos) (some (.Name y py)) spos.line X.env = pure true) (hi : PI X tg iter wi) (ok : BlkOk X.N X.env.scope scope own)
    (hg : ∀ (s : Shared) (H : Hp) (C : Addr) (cl : List (Str × Addr)) (fp : List Addr), PG (X.blk s H scope (PySem.compEnvC scope cl C X.env) fp) tg (tB Γ js b)) (ht : ∀ (s : Shared) (H : Hp) (C : Addr) (cl : List (Str × Addr)) (fp : List Addr), PTs (X.blk s H scope (PySem.compEnvC scope cl C X.env) fp) ifs (tT Γ WF t))
    (he : ∀ (s : Shared) (H : Hp) (C : Addr) (cl : List (Str × Addr)) (fp : List Addr), PE (X.blk s H scope (PySem.compEnvC scope cl C X.env) fp) elt (tE Γ WF f)) (hs : ∀ x, foldedSetIterable iter X.env x = pure x := by intro _; rfl) :
    PS X (.Assign [.Name y py] (.ListComp elt [⟨tg, iter, ifs, 0⟩] scope pos) spos) (tS Γ W (if fro then sF i ef else sO i ef)) :=
  PS.wk (ps_setLc hc hN hy hyl hsw hi ok hg ht he hs) fun DD σ H ⟨hold, ρ, s, nb, k⟩ => by
    refine hlc σ H _ ⟨hold, ρ, s, nb, ?_⟩
    cases fro with
    | true =>
      rw [if_pos rfl] at k
      unfold sF at k
      cases q : ef ρ with
      | none => rw [q] at k; exact k
      | some o =>
        rw [q] at k
        cases o with
        | ok d ρ' =>
          dsimp only at k ⊢
          intro v H' s'
          by_cases hc : d.noBrw = true ∧ i < ρ'.length
          · rw [if_pos hc] at k
            exact k _ H' ((s'.freeze hc.1).store i hyv hc.2 (frz_noBrw d) fun _ => frz_noOwn d)
          · rw [if_neg hc] at k; exact k.elim
        | ex n fs ρ' => exact fun c od H' s' => k c od σ H' s'
    | false =>
      rw [if_neg Bool.false_ne_true] at k
      unfold sO at k
      cases q : ef ρ with
      | none => rw [q] at k; exact k
      | some o =>
        rw [q] at k
        cases o with
        | ok d ρ' =>
          dsimp only at k ⊢
          intro v H' s'
          by_cases hc : d.noBrw = true ∧ i < ρ'.length
          · rw [if_pos hc] at k
            exact k _ H' (s'.store i hyv hc.2 hc.1 fun z => by rw [hyo rfl] at z; cases z)
          · rw [if_neg hc] at k; exact k.elim
        | ex n fs ρ' => exact fun c od H' s' => k c od σ H' s'
end
end DL

end
section
/-! DL20: texts: str, join, split; several names at once. -/
open PySem PySem.Spec L2
namespace DL
section
variable {X : Cx} {Γ : Ctx} {W : WX} {e a b : Expr} {pos : Pos}
/-! ### str -/
def oStr : ON
  | [.int i] => if i.natAbs < 2 ^ 1900 then some (.str (toString i)) else none
  | [.str x] => some (.str x)
  | _ => none
theorem oStr_ok : OpN Γ (fun xs H Q => (∃ i, xs = [.int i] ∧ i.natAbs.log2 < 1920 ∧ Q (.str (toString i)) H) ∨ ∃ a, xs = [.str a] ∧ Q (.str a) H) oStr := fun hold ρ σ H vs ds d Q e l s k => by
  unfold oStr at e
  split at e
  · split at e
    · rename_i i hi
      cases e
      obtain ⟨v, rfl, s⟩ := one_of l s
      obtain rfl := s.topInt
      refine .inl ⟨_, rfl, ?_, k _ H Ext.refl (s.drop.str _)⟩
      by_cases h0 : i.natAbs = 0
      · rw [h0]; decide
      · exact Nat.lt_trans ((Nat.log2_lt h0).mpr hi) (by decide)
    · cases e
  · cases e
    obtain ⟨v, rfl, s⟩ := one_of l s
    obtain rfl := s.topStr
    exact .inr ⟨_, rfl, k _ H Ext.refl (s.drop.str _)⟩
  · cases e
theorem call_strA : CallR X (.type "str") (fun xs H Q => (∃ i, xs = [.int i] ∧ i.natAbs.log2 < 1920 ∧ Q (.str (toString i)) H) ∨ ∃ a, xs = [.str a] ∧ Q (.str a) H) := CallR.or call_str_int SkE.call_str_str
/-! ### a text's methods of one argument -/
theorem tP_m1 {r : V → List V → Hp → VK → Prop} {o : O2} {f g : PF} (ho : Op2 Γ (fun x y H Q => r x [y] H Q) o) (hs : ∀ x y d, o x y = some d → ∃ z, x = .str z) (σ : L2.St) (H : Hp) (Q : VK) : tP Γ (pB o f g) σ H Q → tM1 r (tP Γ f) (tP Γ g) σ H Q := fun ⟨hold, ρ, s, d, e, k⟩ => by
  obtain ⟨x, y, ex, ey, ez⟩ := pB_some e
  obtain ⟨z, rfl⟩ := hs x y d ez
  refine ⟨hold, ρ, s, _, ex, fun v H1 e1 s1 => ⟨⟨z, s1.topStr⟩, _, ρ, s1, y, ey, fun w H2 e2 s2 => ?_⟩⟩
  exact ho hold ρ σ H2 v w _ y d Q ez s2 fun u H3 e3 s3 => k u H3 ((e1.trans e2).trans e3) s3
def eB1 (o : O2) (f g : EF) : EF := fun ρ => match f ρ with
  | some (.ok (.str z) ρ1) => (match g ρ1 with
      | some (.ok y ρ2) => (o (.str z) y).map (.ok · ρ2)
      | r => r)
  | some (.ok _ _) => none
  | r => r
theorem tE_m1 {r : V → List V → Hp → VK → Prop} {o : O2} {f g : EF} (ho : Op2 Γ (fun x y H Q => r x [y] H Q) o) (σ : L2.St) (H : Hp) (Q : VK) : tE Γ W (eB1 o f g) σ H Q → tM1 r (tE Γ W f) (tE Γ W g) σ H Q := fun ⟨hold, ρ, s, nb, k⟩ => by
    refine ⟨hold, ρ, s, nb, ?_⟩
    unfold eB1 at k
    cases q : f ρ with
    | none => rw [q] at k; exact k.elim
    | some r1 =>
      rw [q] at k
      cases r1 with
      | ex n fs ρ1 => exact k
      | ok x ρ1 =>
        by_cases hx : ∃ z, x = .str z
        · obtain ⟨z, rfl⟩ := hx
          dsimp only at k ⊢
          intro v H1 s1
          refine ⟨⟨z, s1.topStr⟩, _, ρ1, s1, noBrw_cons nb rfl, ?_⟩
          cases q2 : g ρ1 with
          | none => rw [q2] at k; exact k.elim
          | some r2 =>
            rw [q2] at k
            cases r2 with
            | ex n fs ρ2 => exact fun c od H' s' => k c od H' s'.drop
            | ok y ρ2 =>
              dsimp only at k ⊢
              intro w H2 s2
              cases q3 : o (.str z) y with
              | none => rw [q3] at k; exact k.elim
              | some d =>
                rw [q3] at k
                exact ho hold ρ2 σ H2 v w _ y d Q q3 s2 fun u H3 e3 s3 => k u H3 s3
        · cases x <;> first | exact k.elim | exact absurd ⟨_, rfl⟩ hx
/-! ### join -/
def strsOf : List D → Option (List Str)
  | [] => some []
  | .str z :: ds => (strsOf ds).map (z :: ·)
  | _ => none
theorem strsOf_some : ∀ {ds : List D} {ys : List Str}, strsOf ds = some ys → ds = ys.map .str
  | [], ys, h => by cases h; rfl
  | .str z :: ds, ys, h => by
    rw [strsOf, Option.map_eq_some_iff] at h
    obtain ⟨zs, h1, rfl⟩ := h
    rw [strsOf_some h1]; rfl
  | .non :: _, _, h => by cases h
  | .bl _ :: _, _, h => by cases h
  | .int _ :: _, _, h => by cases h
  | .tup _ :: _, _, h => by cases h
  | .lst _ _ :: _, _, h => by cases h
  | .dic _ _ _ :: _, _, h => by cases h
  | .ins _ _ _ :: _, _, h => by cases h
  | .cls _ :: _, _, h => by cases h
  | .exc _ _ :: _, _, h => by cases h
theorem reps_strs {K : PySem.W.Frag} {cn : Nm} {F : Addr → Prop} {H : Hp} : ∀ {ys : List Str} {vs : List V} {fp : Fp}, Reps K cn F H (ys.map .str) vs fp → vs = ys.map V.str
  | [], vs, fp, h => h.1
  | y :: ys, vs, fp, ⟨v, r, f, g, e, _, h1, h2⟩ => by rw [e, h1.1, reps_strs h2]; rfl
def joinD (a : Str) (ds : List D) : Option D := (strsOf ds).bind fun ys => if (ys.map (·.length)).sum + ys.length * a.length ≤ 16777216 then some (.str (Txt.join a ys)) else none
def oJoin : O2
  | .str a, .lst _ ds => joinD a ds
  | .str a, .tup ds => joinD a ds
  | _, _ => none
theorem oJoin_ok : Op2 Γ (fun x y H Q => ∃ a p, ∃ ys : List Str, x = .str a ∧ [y] = [V.ref p] ∧ (SqL Γ.K H p (ys.map V.str) ∨ SqT Γ.K H p (ys.map V.str)) ∧ (ys.map (·.length)).sum + ys.length * a.length ≤ 16777216 ∧ Q (.str (Txt.join a ys)) H) oJoin := fun hold ρ σ H v w x y d Q e s k => by
  obtain ⟨F, fp, gp, h1, h2, _⟩ := s.open2
  unfold oJoin at e
  split at e
  · unfold joinD at e
    obtain ⟨ys, e1, e2⟩ := Option.bind_eq_some_iff.mp e
    split at e2
    · rename_i z
      cases e2
      obtain ⟨p, vs, f', ev, q, r⟩ := h2
      have := strsOf_some e1
      subst this
      obtain rfl := reps_strs r
      exact ⟨_, p, ys, h1.1, by rw [ev], .inl (lst_sq q), z, k _ H Ext.refl (s.drop.drop.str _)⟩
    · cases e2
  · unfold joinD at e
    obtain ⟨ys, e1, e2⟩ := Option.bind_eq_some_iff.mp e
    split at e2
    · rename_i z
      cases e2
      obtain ⟨p, vs, ev, q, r⟩ := h2
      have := strsOf_some e1
      subst this
      obtain rfl := reps_strs r
      exact ⟨_, p, ys, h1.1, by rw [ev], .inr (SqT.of q), z, k _ H Ext.refl (s.drop.drop.str _)⟩
    · cases e2
  · cases e
theorem oJoin_str : ∀ x y d, oJoin x y = some d → ∃ z, x = .str z := by
  intro x y d h
  unfold oJoin at h
  split at h
  · exact ⟨_, rfl⟩
  · exact ⟨_, rfl⟩
  · cases h
theorem d_join {f g : PF} {apos : Pos} (hK : X.K = Γ.K) (ha : PE X a (tP Γ f)) (hb : PE X b (tP Γ g)) (hs : starEach [b] X.env = [(false, eval b X.env)] := by rfl) (hbase : attributeBase a "join" X.env (eval a X.env) = eval a X.env := by rfl) (hline : (apos.endLine == pos.line) = true := by rfl) :
    PE X (.Call (.Attribute a "join" apos) [b] [] pos) (tP Γ (pB oJoin f g)) := PE.wk (pe_join ha hb hs hbase hline) (tP_m1 (by rw [hK]; exact oJoin_ok) oJoin_str)
theorem e_join {f g : EF} {apos : Pos} (hK : X.K = Γ.K) (ha : PE X a (tE Γ W f)) (hb : PE X b (tE Γ W g)) (hs : starEach [b] X.env = [(false, eval b X.env)] := by rfl) (hbase : attributeBase a "join" X.env (eval a X.env) = eval a X.env := by rfl) (hline : (apos.endLine == pos.line) = true := by rfl) :
    PE X (.Call (.Attribute a "join" apos) [b] [] pos) (tE Γ W (eB1 oJoin f g)) := PE.wk (pe_join ha hb hs hbase hline) (tE_m1 (by rw [hK]; exact oJoin_ok))
/-! ### split -/
def oSplit : O2
  | .str a, .str b => if (b.length == 0) = false ∧ a.length + 2 ≤ sizeLine then some (.lst .own ((Txt.split a b).map .str)) else none
  | _, _ => none
theorem oSplit_ok : Op2 Γ (fun x y H Q => ∃ a b, x = .str a ∧ [y] = [V.str b] ∧ (b.length == 0) = false ∧ a.length + 2 ≤ sizeLine ∧ rNewStrs (Txt.split a b) H Q) oSplit := fun hold ρ σ H v w x y d Q e s k => by
  unfold oSplit at e
  split at e
  · split at e
    · rename_i a b z
      cases e
      obtain rfl := s.topStr
      obtain rfl := s.drop.topStr
      refine ⟨_, _, rfl, rfl, z.1, z.2, fun p hp => k _ _ (Ext.upd hp) ?_⟩
      have hr : ∀ (F : Addr → Prop) (H : Hp) (ys : List Str), Reps Γ.K Γ.cn F H (ys.map .str) (ys.map V.str) fp0 := by
        intro F H ys
        induction ys with
        | nil => exact ⟨rfl, fun _ => rfl⟩
        | cons y ys ih => exact ⟨_, _, fp0, fp0, rfl, fun _ => rfl, ⟨rfl, fun _ => rfl⟩, ih⟩
      have := SI.newBlock (vs := []) (ds := []) (hold := hold) (v := .ref p) (d := .lst .own ((Txt.split a b).map .str)) (p := p) (o := .lst ((Txt.split a b).map V.str)) s.drop.drop rfl hp fun F fa r => ⟨_, fun a => by show _ ≤ fa a + _; exact Nat.add_le_add_right (Nat.zero_le _) _, rep_new upd_same (hr F _ _)⟩
      exact this
    · cases e
  · cases e
theorem oSplit_str : ∀ x y d, oSplit x y = some d → ∃ z, x = .str z := by
  intro x y d h
  unfold oSplit at h
  split at h
  · exact ⟨_, rfl⟩
  · cases h
theorem d_split {f g : PF} {apos : Pos} (ha : PE X a (tP Γ f)) (hb : PE X b (tP Γ g)) (hs : starEach [b] X.env = [(false, eval b X.env)] := by rfl) (hbase : attributeBase a "split" X.env (eval a X.env) = eval a X.env := by rfl) (hline : (apos.endLine == pos.line) = true := by rfl) :
    PE X (.Call (.Attribute a "split" apos) [b] [] pos) (tP Γ (pB oSplit f g)) := PE.wk (pe_split ha hb hs hbase hline) (tP_m1 oSplit_ok oSplit_str)
/-! ### several names at once -/
def sUnp (f : EF) (b : BF) : SF := fun ρ => match f ρ with
  | some (.ok d ρ') => if d.noBrw = true then (b d.frz ρ').map .nx else none
  | some (.ex n fs ρ') => some (.ex n fs ρ')
  | none => none
theorem s_unp {tg e : Expr} {f : EF} {bf : BF} {js : List Nat} (he : PE X e (tE Γ W f)) (hg : PG X tg (tB Γ js bf)) (hs : swapsWithSole [tg] e pos.line X.env = pure false := by rfl) (hw : swappedStores [tg] e X.env = pure none := by rfl)
    (h1 : (assignEach [tg] X.env).map (·.2) = [assign tg X.env] := by rfl) : PS X (.Assign [tg] e pos) (tS Γ W (sUnp f bf)) :=
  PS.wk (ps_asg he hg hs hw h1) fun DD σ H ⟨hold, ρ, s, nb, k⟩ => by
    refine ⟨hold, ρ, s, nb, ?_⟩
    unfold sUnp at k
    cases q : f ρ with
    | none => rw [q] at k; exact k.elim
    | some o =>
      rw [q] at k
      cases o with
      | ex n fs ρ' => exact fun c od H' s' => k c od σ H' s'
      | ok d ρ' =>
        dsimp only at k ⊢
        intro v H' s'
        by_cases hd : d.noBrw = true
        · rw [if_pos hd] at k
          cases z : bf d.frz ρ' with
          | none => rw [z] at k; exact k.elim
          | some ρ2 =>
            rw [z] at k
            exact ⟨hold, ρ', d.frz, s'.freeze hd, frz_noBrw d, frz_noOwn d, ρ2, z, fun σ' _ s2 => k σ' H' s2⟩
        · rw [if_neg hd] at k; exact k.elim
end
end DL

end
section
/-! DL21: dicts of flat keys, of tuples of flat keys. -/
open PySem PySem.Spec L2
namespace DL
/-! ### keys -/
def kyF : D → Option Ky
  | .int i => some (.int i)
  | .str x => some (.str x)
  | _ => none
def kyL : List D → Option (List Ky)
  | [] => some []
  | d :: ds => match kyF d, kyL ds with
    | some k, some ks => some (k :: ks)
    | _, _ => none
def kyOf (kd : Kn) (d : D) : Option Ky := match kd, d with
  | .k, d => kyF d
  | .t, .tup ds => (kyL ds).map .tup
  | _, _ => none
theorem kyF_ok {K : PySem.W.Frag} {cn : Nm} {F : Addr → Prop} {H : Hp} {y : D} {v : V} {fp : Fp} {k : Ky} (e : kyF y = some k) (h : Rep K cn F H y v fp) : ∃ key : Key, v = kV key ∧ ofKey key = k := by
  unfold kyF at e
  split at e
  · cases e; exact ⟨.inl _, h.1, rfl⟩
  · cases e; exact ⟨.inr _, h.1, rfl⟩
  · cases e
theorem kyL_ok {K : PySem.W.Frag} {cn : Nm} {F : Addr → Prop} {H : Hp} : ∀ {ds : List D} {vs : List V} {fp : Fp} {ks : List Ky}, kyL ds = some ks → Reps K cn F H ds vs fp → ∃ keys : List Key, vs = keys.map kV ∧ keys.map ofKey = ks
  | [], vs, fp, ks, e, h => by rw [kyL] at e; cases e; exact ⟨[], h.1, rfl⟩
  | d :: ds, vs, fp, ks, e, ⟨v, r, f, g, e1, _, h1, h2⟩ => by
    rw [kyL] at e
    split at e
    · rename_i k ks' e2 e3
      cases e
      obtain ⟨key, ev, ek⟩ := kyF_ok e2 h1
      obtain ⟨keys, er, eks⟩ := kyL_ok e3 h2
      exact ⟨key :: keys, by rw [e1, ev, er]; rfl, by rw [List.map_cons, ek, eks]⟩
    · cases e
theorem ofKey_inj {a b : Key} (h : ofKey a = ofKey b) : a = b := by
  cases a <;> cases b <;> first | (cases h; rfl) | cases h
theorem mapKey_inj : ∀ {a b : List Key}, a.map ofKey = b.map ofKey → a = b
  | [], [], _ => rfl
  | [], y :: b, h => by cases h
  | x :: a, [], h => by cases h
  | x :: a, y :: b, h => by
    simp only [List.map_cons, List.cons.injEq] at h
    rw [ofKey_inj h.1, mapKey_inj h.2]
theorem ofKeys_inj {a b : List Key} (h : ofKeys a = ofKeys b) : a = b := mapKey_inj (by unfold ofKeys at h; exact Ky.tup.inj h)
/-! ### tables -/
def getK (kvs : List (Ky × D)) (k : Ky) : Option D := (kvs.find? fun p => decide (p.1 = k)).map (·.2)
def hasK (kvs : List (Ky × D)) (k : Ky) : Bool := (getK kvs k).isSome
def putD (kvs : List (Ky × D)) (k : Ky) (d : D) : Option (List (Ky × D)) :=
  if kvs.length < sizeLine then (if hasK kvs k = true then (if d.noOwn = true then some (kvs.map fun p => if p.1 = k then (p.1, d) else p) else none) else some (kvs ++ [(k, d)])) else none
section
variable {κ : Type} [DecidableEq κ] {fk : κ → Ky} {K : PySem.W.Frag} {cn : Nm} {F : Addr → Prop} {H : Hp}
theorem repK_get (inj : ∀ a b, fk a = fk b → a = b) : ∀ {kvs : List (Ky × D)} {kv : List (κ × V)} {fp : Fp}, RepK K cn F H kvs (kv.map fun p => (fk p.1, p.2)) fp → ∀ k, (getK kvs (fk k) = none → valV kv k = none) ∧ ∀ d, getK kvs (fk k) = some d → ∃ v g, valV kv k = some v ∧ Rep K cn F H d v g ∧ ∀ a, g a ≤ fp a
  | [], kv, fp, h, k => by
    have : kv = [] := by have := h.1; simpa using this
    subst this
    exact ⟨fun _ => rfl, fun d e => by cases e⟩
  | (k0, d0) :: kvs, [], fp, h, k => by obtain ⟨v, r, f, g, e, _⟩ := h; cases e
  | (k0, d0) :: kvs, p :: kv, fp, ⟨v, r, f, g, e, s, h1, h2⟩, k => by
    simp only [List.map_cons, List.cons.injEq, Prod.mk.injEq] at e
    obtain ⟨⟨ek, ev⟩, er⟩ := e
    subst er
    obtain ⟨i1, i2⟩ := repK_get inj h2 k
    by_cases c : p.1 = k
    · have c' : k0 = fk k := by rw [← ek, c]
      have eg : getK ((k0, d0) :: kvs) (fk k) = some d0 := by unfold getK; rw [List.find?_cons_of_pos (by simpa using c')]; rfl
      rw [eg, valV_pos c]
      refine ⟨fun z => (by cases z), fun d z => ?_⟩
      cases z
      exact ⟨p.2, f, rfl, by rw [ev]; exact h1, fun a => by have := s a; omega⟩
    · have c' : ¬ k0 = fk k := fun z => c (inj _ _ (by rw [ek, z]))
      have eg : getK ((k0, d0) :: kvs) (fk k) = getK kvs (fk k) := by unfold getK; rw [List.find?_cons_of_neg (by simpa using c')]
      rw [eg, valV_neg c]
      refine ⟨i1, fun d z => ?_⟩
      obtain ⟨v', g', a1, a2, a3⟩ := i2 d z
      exact ⟨v', g', a1, a2, fun a => by have := s a; have := a3 a; omega⟩
theorem repK_len : ∀ {kvs : List (Ky × D)} {vs : List (Ky × V)} {fp : Fp}, RepK K cn F H kvs vs fp → kvs.length = vs.length
  | [], vs, fp, h => by rw [h.1]; rfl
  | (k, d) :: kvs, vs, fp, ⟨v, r, f, g, e, _, _, h2⟩ => by rw [e, List.length_cons, List.length_cons, repK_len h2]
theorem repK_snoc {k : Ky} {d : D} {v : V} {fd : Fp} : ∀ {kvs : List (Ky × D)} {vs : List (Ky × V)} {fp : Fp}, RepK K cn F H kvs vs fp → Rep K cn F H d v fd → RepK K cn F H (kvs ++ [(k, d)]) (vs ++ [(k, v)]) (fun a => fp a + fd a)
  | [], vs, fp, h, hd => by
    rw [h.1]
    exact ⟨v, [], fd, fp0, rfl, fun a => by have := h.2 a; show fp a + fd a = fd a + 0; omega, hd, rfl, fun _ => rfl⟩
  | (k0, d0) :: kvs, vs, fp, ⟨v0, r, f, g, e, s, h1, h2⟩, hd => by
    rw [e]
    exact ⟨v0, r ++ [(k, v)], f, fun a => g a + fd a, rfl, fun a => by have := s a; show fp a + fd a = f a + (g a + fd a); omega, h1, repK_snoc h2 hd⟩
theorem repK_upd (inj : ∀ a b, fk a = fk b → a = b) {k : κ} {d : D} {v : V} (hd : Rep K cn F H d v fp0) : ∀ {kvs : List (Ky × D)} {kv : List (κ × V)} {fp : Fp}, RepK K cn F H kvs (kv.map fun p => (fk p.1, p.2)) fp →
    ∃ g, (∀ a, g a ≤ fp a) ∧ RepK K cn F H (kvs.map fun p => if p.1 = fk k then (p.1, d) else p) ((kv.map fun p => if p.1 = k then (p.1, v) else p).map fun p => (fk p.1, p.2)) g
  | [], kv, fp, h => by
    have : kv = [] := by have := h.1; simpa using this
    subst this
    exact ⟨fp, fun _ => Nat.le_refl _, h⟩
  | (k0, d0) :: kvs, [], fp, h => by obtain ⟨v, r, f, g, e, _⟩ := h; cases e
  | (k0, d0) :: kvs, p :: kv, fp, ⟨v0, r, f, g, e, s, h1, h2⟩ => by
    simp only [List.map_cons, List.cons.injEq, Prod.mk.injEq] at e
    obtain ⟨⟨ek, ev⟩, er⟩ := e
    subst er
    obtain ⟨g', le, h'⟩ := repK_upd inj hd h2
    by_cases c : p.1 = k
    · have c' : k0 = fk k := by rw [← ek, c]
      refine ⟨g', fun a => by have := le a; have := s a; omega, ?_⟩
      simp only [List.map_cons, if_pos c, if_pos c']
      exact ⟨v, _, fp0, g', by rw [← ek], fun a => by show g' a = 0 + g' a; omega, hd, h'⟩
    · have c' : ¬ k0 = fk k := fun z => c (inj _ _ (by rw [ek, z]))
      refine ⟨fun a => f a + g' a, fun a => by have := le a; have := s a; show f a + g' a ≤ _; omega, ?_⟩
      simp only [List.map_cons, if_neg c, if_neg c']
      exact ⟨p.2, _, f, g', by rw [← ek], fun a => rfl, by rw [ev]; exact h1, h'⟩
theorem repK_put (inj : ∀ a b, fk a = fk b → a = b) {k : κ} {d : D} {v : V} {fd : Fp} {kvs kvs2 : List (Ky × D)} {kv : List (κ × V)} {fp : Fp} (h : RepK K cn F H kvs (kv.map fun p => (fk p.1, p.2)) fp) (hd : Rep K cn F H d v fd) (e : putD kvs (fk k) d = some kvs2) :
    kv.length < sizeLine ∧ ∃ g, (∀ a, g a ≤ fp a + fd a) ∧ RepK K cn F H kvs2 ((putK kv k v).map fun p => (fk p.1, p.2)) g := by
  have hlen : kvs.length = kv.length := by have := repK_len h; simpa using this
  obtain ⟨i1, i2⟩ := repK_get inj h k
  unfold putD at e
  split at e
  · rename_i hl
    refine ⟨by rw [← hlen]; exact hl, ?_⟩
    unfold hasK at e
    cases q : getK kvs (fk k) with
    | none =>
      rw [q] at e
      have e : some (kvs ++ [(fk k, d)]) = some kvs2 := by simpa using e
      cases e
      have hn : putK kv k v = kv ++ [(k, v)] := putK_new v (i1 q)
      rw [hn, List.map_append]
      exact ⟨_, fun a => Nat.le_refl _, repK_snoc h hd⟩
    | some d0 =>
      rw [q] at e
      obtain ⟨v0, g0, a1, _, _⟩ := i2 d0 q
      by_cases c : d.noOwn = true
      · have e : some (kvs.map fun p => if p.1 = fk k then (p.1, d) else p) = some kvs2 := by simpa [c] using e
        cases e
        have z : fd = fp0 := funext fun a => Rep.zero d v fd hd c a
        rw [z] at hd
        obtain ⟨g, le, h'⟩ := repK_upd inj (k := k) hd h
        have hn : putK kv k v = kv.map fun p => if p.1 = k then (p.1, v) else p := by
          unfold putK
          rw [valV_any, a1]
          rfl
        rw [hn]
        exact ⟨g, fun a => by have := le a; omega, h'⟩
      · simp [c] at e
  · cases e
end
section
variable {Γ : Ctx} {hold : Hold} {ρ : Env} {σ : L2.St} {H : Hp}
/-- what stands at a key -/
theorem dget_ok {K : PySem.W.Frag} {cn : Nm} {F : Addr → Prop} {m : Mk} {kd : Kn} {kvs : List (Ky × D)} {x v : V} {y : D} {fp gp : Fp} {k : Ky} (hm : m ≠ .ro) (hx : Rep K cn F H (.dic m kd kvs) x fp) (hy : Rep K cn F H y v gp) (e : kyOf kd y = some k) :
    ∃ a, x = .ref a ∧ IsD H a ∧ (getK kvs k = none → DGet H a v none) ∧ ∀ d, getK kvs k = some d → ∃ u g, DGet H a v (some u) ∧ Rep K cn F H d u g ∧ ∀ b, g b ≤ fp b := by
  obtain ⟨a, f, ex, hq⟩ := hx
  have at_rd : ∀ {u : HO}, At F H m a u fp f → Rd H a u ∧ ∀ b, f b ≤ fp b := fun {u} q => ⟨q.rd, q.sub⟩
  rcases hq with ⟨rfl, kv, q, r⟩ | ⟨rfl, kv, q, r⟩
  · obtain ⟨rd, le⟩ := at_rd q
    obtain ⟨key, ev, ek⟩ := kyF_ok (show kyF y = some k from e) hy
    subst ek ev
    obtain ⟨i1, i2⟩ := repK_get (fk := ofKey) (fun a b => ofKey_inj) r key
    refine ⟨a, ex, .inl ⟨kv, rd⟩, fun z => .inl ⟨kv, key, rd, rfl, (i1 z).symm⟩, fun d z => ?_⟩
    obtain ⟨u, g, a1, a2, a3⟩ := i2 d z
    exact ⟨u, g, .inl ⟨kv, key, rd, rfl, a1.symm⟩, a2, fun b => Nat.le_trans (a3 b) (le b)⟩
  · obtain ⟨rd, le⟩ := at_rd q
    unfold kyOf at e
    cases y with
    | tup ds =>
      dsimp only at e
      obtain ⟨ks, e1, rfl⟩ := Option.map_eq_some_iff.mp e
      obtain ⟨b, vs, ev, hb, hr⟩ := hy
      obtain ⟨keys, e2, e3⟩ := kyL_ok e1 hr
      subst e2 ev
      obtain ⟨i1, i2⟩ := repK_get (fk := ofKeys) (fun a b => ofKeys_inj) r keys
      have ek : ofKeys keys = .tup ks := by unfold ofKeys; rw [e3]
      rw [ek] at i1 i2
      refine ⟨a, ex, .inr ⟨kv, rd⟩, fun z => .inr ⟨kv, keys, b, rd, rfl, hb, (i1 z).symm⟩, fun d z => ?_⟩
      obtain ⟨u, g, a1, a2, a3⟩ := i2 d z
      exact ⟨u, g, .inr ⟨kv, keys, b, rd, rfl, hb, a1.symm⟩, a2, fun b => Nat.le_trans (a3 b) (le b)⟩
    | _ => cases e
end
end DL

end
section
/-! DL22: rules for dicts. -/
open PySem PySem.Spec L2
namespace DL
section
variable {X : Cx} {Γ : Ctx} {W : WX} {e a b o ix : Expr} {pos : Pos} {hold : Hold} {ρ : Env} {σ : L2.St} {H : Hp}
/-- {} -/
def pNew (kd : Kn) : PF := fun _ => some (.dic .own kd [])
theorem d_new0 (kd : Kn) (hk : kd = .k ∨ kd = .t) : PE X (.Dict [] [] pos) (tP Γ (pNew kd)) := by
  rcases hk with rfl | rfl
  · refine PE.wk pe_dnewK fun σ H Q ⟨hold, ρ, s, d, e, k⟩ => ?_
    cases e
    intro p hp
    exact k _ _ (Ext.upd hp) (SI.newBlock (vs := []) (ds := []) (v := .ref p) (p := p) s rfl hp fun F fa r => ⟨fun b => fp0 b + if b = p then 1 else 0, fun b => by show 0 + _ ≤ fa b + _; omega, p, fp0, rfl, .inl ⟨rfl, [], ⟨upd_same, fun _ => rfl⟩, rfl, fun _ => rfl⟩⟩)
  · refine PE.wk pe_dnewT fun σ H Q ⟨hold, ρ, s, d, e, k⟩ => ?_
    cases e
    intro p hp
    exact k _ _ (Ext.upd hp) (SI.newBlock (vs := []) (ds := []) (v := .ref p) (p := p) s rfl hp fun F fa r => ⟨fun b => fp0 b + if b = p then 1 else 0, fun b => by show 0 + _ ≤ fa b + _; omega, p, fp0, rfl, .inr ⟨rfl, [], ⟨upd_same, fun _ => rfl⟩, rfl, fun _ => rfl⟩⟩)
/-- d[k] -/
def oGetD : O2
  | .dic m kd kvs, y => if m = .ro then none else (kyOf kd y).bind fun k => getK kvs k
  | _, _ => none
theorem oGetD_ok : Op2 Γ (fun x y H Q => ∃ a v, x = .ref a ∧ DGet H a y (some v) ∧ Q v H) oGetD := fun hold ρ σ H v w x y d Q e s k => by
  obtain ⟨F, fp, gp, h1, h2, k1, _⟩ := s.open2
  unfold oGetD at e
  split at e
  · split at e
    · cases e
    · rename_i m kd kvs y hm
      obtain ⟨ky, e1, e2⟩ := Option.bind_eq_some_iff.mp e
      obtain ⟨a, ex, _, _, i2⟩ := dget_ok hm h1 h2 e1
      obtain ⟨u, g, a1, a2, a3⟩ := i2 d e2
      exact ⟨a, u, ex, a1, k u H Ext.refl (k1 _ _ g (fun b => by have := a3 b; omega) a2)⟩
  · cases e
theorem d_getd {f g : PF} (hu : X.A.units + 1 < cLine) (ha : PE X a (tP Γ f)) (hb : PE X b (tP Γ g)) (hs : NoSl b) : PE X (.Subscript a b pos) (tP Γ (pB oGetD f g)) := p_op (pe_dget hu ha hb hs) oGetD_ok
theorem e_getd {f g : EF} (hu : X.A.units + 1 < cLine) (ha : PE X a (tE Γ W f)) (hb : PE X b (tE Γ W g)) (hs : NoSl b) : PE X (.Subscript a b pos) (tE Γ W (eB oGetD f g)) := e_op (pe_dget hu ha hb hs) oGetD_ok
/-- k in d -/
theorem opr_inK (hu : X.A.units + 1 < cLine) : OpR X (compareOp .In) (fun x y H Q => ∃ a o, y = .ref a ∧ DGet H a x o ∧ Q (.bl o.isSome) H) := by
  intro pins s σ H x y v u Q I rx ry h
  obtain ⟨a, o, rfl, g, q⟩ := h
  obtain rfl : u = Value.ref a := ry
  exact d_in hu I g rx fun s' I' => ⟨.bl o.isSome, H, I', rfl, q⟩
theorem opr_notinK (hu : X.A.units + 1 < cLine) : OpR X (compareOp .NotIn) (fun x y H Q => ∃ a o, y = .ref a ∧ DGet H a x o ∧ Q (.bl (!o.isSome)) H) := by
  intro pins s σ H x y v u Q I rx ry h
  obtain ⟨a, o, rfl, g, q⟩ := h
  obtain rfl : u = Value.ref a := ry
  exact d_notIn hu I g rx fun s' I' => ⟨.bl (!o.isSome), H, I', rfl, q⟩
def oInK (neg : Bool) : O2
  | y, .dic m kd kvs => if m = .ro then none else (kyOf kd y).map fun k => .bl (if neg then !hasK kvs k else hasK kvs k)
  | _, _ => none
theorem oInK_ok {neg : Bool} : Op2 Γ (fun x y H Q => ∃ a o, y = .ref a ∧ DGet H a x o ∧ Q (.bl (if neg then !o.isSome else o.isSome)) H) (oInK neg) := fun hold ρ σ H v w x y d Q e s k => by
  obtain ⟨F, fp, gp, h1, h2, k1, _⟩ := s.open2
  unfold oInK at e
  split at e
  · split at e
    · cases e
    · rename_i m kd kvs hm
      obtain ⟨ky, e1, e2⟩ := Option.map_eq_some_iff.mp e
      obtain ⟨a, ex, _, i1, i2⟩ := dget_ok hm h2 h1 e1
      subst e2
      unfold hasK at k
      cases q : getK kvs ky with
      | none => rw [q] at k; exact ⟨a, none, ex, i1 q, k _ H Ext.refl (s.drop.drop.bl _)⟩
      | some d0 =>
        obtain ⟨u, g, a1, _, _⟩ := i2 d0 q
        rw [q] at k
        exact ⟨a, some u, ex, a1, k _ H Ext.refl (s.drop.drop.bl _)⟩
  · cases e
theorem oInK_ok0 : Op2 Γ (fun x y H Q => ∃ a o, y = .ref a ∧ DGet H a x o ∧ Q (.bl o.isSome) H) (oInK false) := fun hold ρ σ H v w x y d Q e s k => oInK_ok (neg := false) hold ρ σ H v w x y d Q e s k
theorem oInK_ok1 : Op2 Γ (fun x y H Q => ∃ a o, y = .ref a ∧ DGet H a x o ∧ Q (.bl (!o.isSome)) H) (oInK true) := fun hold ρ σ H v w x y d Q e s k => oInK_ok (neg := true) hold ρ σ H v w x y d Q e s k
/-- len(d) -/
def oLenK : ON
  | [.dic m .k kvs] => if m = .ro then none else some (.int kvs.length)
  | _ => none
theorem oLenK_ok : OpN Γ (rLenA Γ.K) oLenK := fun hold ρ σ H vs ds d Q e l s k => by
  unfold oLenK at e
  split at e
  · split at e
    · cases e
    · rename_i m kvs hm
      cases e
      obtain ⟨v, rfl, s⟩ := one_of l s
      obtain ⟨F, fp, ⟨a, f, ev, hq⟩, _⟩ := s.open1
      rcases hq with ⟨_, kv, q, r⟩ | ⟨hk, _⟩
      · have hl := repK_len r
        rw [List.length_map] at hl
        exact .inr ⟨a, kv, by rw [ev], q.rd, by rw [← hl]; exact k _ H Ext.refl (s.drop.int _)⟩
      · cases hk
  · cases e
/-- d.get(k) -/
def oGet1 : O2
  | .dic m kd kvs, y => if m = .ro then none else (kyOf kd y).map fun k => (getK kvs k).getD .non
  | _, _ => none
theorem tP_get1 {f g : PF} (σ : L2.St) (H : Hp) (Q : VK) : tP Γ (pB oGet1 f g) σ H Q → tDGet1 (tP Γ f) (tP Γ g) σ H Q := fun ⟨hold, ρ, s, d, e, k⟩ => by
  obtain ⟨x, y, ex, ey, ez⟩ := pB_some e
  refine ⟨hold, ρ, s, x, ex, fun v H1 e1 s1 => ?_⟩
  unfold oGet1 at ez
  cases x with
  | dic m kd kvs =>
    dsimp only at ez
    by_cases hm : m = .ro
    · rw [if_pos hm] at ez; cases ez
    · rw [if_neg hm] at ez
      obtain ⟨ky, e2, e3⟩ := Option.map_eq_some_iff.mp ez
      have hA : ∃ a, v = .ref a ∧ IsD H1 a := by
        obtain ⟨F, fp, ⟨a, f, ev, hq⟩, _⟩ := s1.open1
        rcases hq with ⟨_, kv, q, r⟩ | ⟨_, kv, q, r⟩
        · exact ⟨a, ev, .inl ⟨kv, q.rd⟩⟩
        · exact ⟨a, ev, .inr ⟨kv, q.rd⟩⟩
      obtain ⟨a, ev, hI⟩ := hA
      refine ⟨a, ev, hI, _, ρ, s1, y, ey, fun w H2 x2 s2 => ?_⟩
      obtain ⟨F, fp, gp, h1, h2, k1, _⟩ := s2.open2
      obtain ⟨a', ex', _, i1, i2⟩ := dget_ok hm h1 h2 e2
      rw [ev] at ex'; cases ex'
      cases q : getK kvs ky with
      | none =>
        rw [q] at e3
        refine ⟨none, i1 q, ?_⟩
        exact k .non H2 (e1.trans x2) (by rw [← e3]; exact s2.drop.drop.non)
      | some d0 =>
        obtain ⟨u, g, a1, a2, a3⟩ := i2 d0 q
        rw [q] at e3
        refine ⟨some u, a1, ?_⟩
        exact k u H2 (e1.trans x2) (by rw [← e3]; exact k1 _ _ g (fun b => by have := a3 b; omega) a2)
  | _ => cases ez
theorem d_get1 {f g : PF} {apos : Pos} (hu : X.A.units + 1 < cLine) (ha : PE X a (tP Γ f)) (hb : PE X b (tP Γ g)) (m : M1 X a "get" apos b pos) : PE X (.Call (.Attribute a "get" apos) [b] [] pos) (tP Γ (pB oGet1 f g)) := PE.wk (pe_dget1 hu ha hb m) tP_get1
/-- d[k] = e, d a slot's own -/
def sPutD (i : Nat) (f : EF) (g : PF) : SF := fun ρ => match f ρ with
  | some (.ok d ρ1) => (match getS ρ1 i, g ρ1 with
    | some (.dic .own kd kvs), some y => if d.noBrw = true then ((kyOf kd y).bind fun k => putD kvs k d).map fun kvs2 => .nx (setS ρ1 i (some (.dic .own kd kvs2))) else none
    | _, _ => none)
  | some (.ex n xs ρ1) => some (.ex n xs ρ1)
  | none => none
theorem putD_chk {P : Mk → Bool} {kvs kvs2 : List (Ky × D)} {k : Ky} {d : D} (e : putD kvs k d = some kvs2) (h : D.chkK P kvs = true) (hd : D.chk P d = true) : D.chkK P kvs2 = true := by
  have happ : ∀ (xs : List (Ky × D)), D.chkK P xs = true → D.chkK P (xs ++ [(k, d)]) = true := by
    intro xs
    induction xs with
    | nil => intro _; show (D.chk P d && true) = true; rw [hd]; rfl
    | cons x xs ih => intro h; show (D.chk P x.2 && D.chkK P (xs ++ [(k, d)])) = true; rw [and_l (show (D.chk P x.2 && D.chkK P xs) = true from h), ih (and_r (a := D.chk P x.2) h)]; rfl
  have hmap : ∀ (xs : List (Ky × D)), D.chkK P xs = true → D.chkK P (xs.map fun p => if p.1 = k then (p.1, d) else p) = true := by
    intro xs
    induction xs with
    | nil => intro _; rfl
    | cons x xs ih =>
      intro h
      have h1 : D.chk P x.2 = true := and_l (show (D.chk P x.2 && D.chkK P xs) = true from h)
      have h2 := ih (and_r (a := D.chk P x.2) h)
      rw [List.map_cons]
      by_cases c : x.1 = k
      · rw [if_pos c]; show (D.chk P d && _) = true; rw [hd, h2]; rfl
      · rw [if_neg c]; show (D.chk P x.2 && _) = true; rw [h1, h2]; rfl
  unfold putD at e
  split at e
  · split at e
    · split at e
      · cases e; exact hmap kvs h
      · cases e
    · cases e; exact happ kvs h
  · cases e
theorem s_putd {i : Nat} {f : EF} {g : PF} {value : Expr} {spos : Pos} (hu : X.A.units + 1 < cLine) (hown : Γ.own i = true) (hv : PE X value (tE Γ W f)) (ho : PE X o (tL Γ i l0)) (hi : PE X ix (tP Γ g)) (hs : swapsWith value (some (.Subscript o ix spos)) pos.line X.env = pure false := by rfl) :
    PS X (.Assign [.Subscript o ix spos] value pos) (tS Γ W (sPutD i f g)) :=
  PS.wk (ps_dput hu ho hi hv hs) fun DD σ H ⟨hold, ρ, s, nb, k⟩ => by
    refine ⟨hold, ρ, s, nb, ?_⟩
    unfold sPutD at k
    cases z : f ρ with
    | none => rw [z] at k; exact k
    | some o1 =>
      rw [z] at k
      cases o1 with
      | ex n xs ρ1 => exact fun c od H' s' => k c od σ H' s'
      | ok d ρ1 =>
        dsimp only at k ⊢
        intro v H1 s1
        cases e1 : getS ρ1 i with
        | none => rw [e1] at k; exact k.elim
        | some x =>
          cases e2 : g ρ1 with
          | none =>
            rw [e1, e2] at k
            split at k
            · rename_i hh; cases hh
            all_goals first | exact k.elim | (rename_i hh; split at hh <;> cases hh)
          | some y =>
            rw [e1, e2] at k
            by_cases hx : ∃ kd kvs, x = .dic .own kd kvs
            · obtain ⟨kd, kvs, rfl⟩ := hx
              dsimp only at k
              by_cases c : d.noBrw = true
              · rw [if_pos c] at k
                cases e3 : kyOf kd y with
                | none => rw [e3] at k; exact k.elim
                | some ky =>
                  cases e4 : putD kvs ky d with
                  | none => rw [e3, Option.bind_some, e4] at k; exact k.elim
                  | some kvs2 =>
                    rw [e3, Option.bind_some, e4] at k
                    refine ⟨_, ρ1, s1, [], _, _, rfl, e1, rfl, rfl, fun w H2 x2 s2 hw => ⟨_, ρ1, s2, y, e2, fun u H3 x3 s3 => ?_⟩⟩
                    obtain ⟨r, er, fr⟩ := hw
                    have fr : r = w := fr
                    subst fr
                    -- the key
                    have s4 := s3.drop
                    have nbd : D.chkL (fun m => !m.isBrw) [d] = true := by show (D.chk _ d && true) = true; rw [show D.chk (fun m => !m.isBrw) d = true from c]; rfl
                    obtain ⟨r', w', F, fx, fa, er', fw, hxw, hargs, le1, nF, step⟩ := SI.change (vs := [v]) (args := [d]) (hold := hold) (π := []) s4 rfl nb e1 rfl rfl hown
                    rw [er] at er'; cases er'
                    have fw : r = w' := fw
                    subst fw
                    obtain ⟨_, _, _, hy, _⟩ := s3.open1
                    have hkey : ∃ (Fy : Addr → Prop) (gy : Fp), Rep Γ.K Γ.cn Fy H3 y u gy := by obtain ⟨F', f', h', _⟩ := s3.open1; exact ⟨F', f', h'⟩
                    obtain ⟨Fy, gy, hy⟩ := hkey
                    obtain ⟨a, fk, ev, hq⟩ := hxw
                    subst ev
                    obtain ⟨v1, r1, f1, g1, ea, sa, hd1, hn1⟩ := hargs
                    cases ea
                    have fa1 : ∀ b, fa b = f1 b := fun b => by have := sa b; have := hn1.2 b; omega
                    have nbk : D.chkK (fun m => !m.isBrw) kvs = true := by
                      obtain ⟨F', fh, fs, s5⟩ := s4
                      obtain ⟨_, _, _, _, nb5, _⟩ := s5.ss.get e1
                      exact and_r (a := !Mk.isBrw .own) nb5
                    have nbk2 := putD_chk (P := fun m => !m.isBrw) e4 nbk c
                    have fin : ∀ (u2 : HO) (g2 : Fp) (kd' : Kn), (∀ b, g2 b ≤ fk b + f1 b) → fx a = fk a + 1 → (∀ b, fx b = fk b + if b = a then 1 else 0) → (RepK Γ.K Γ.cn F H3 kvs2 (match u2 with | .dK kv => kv.map fun p => (ofKey p.1, p.2) | .dT kv => kv.map fun p => (ofKeys p.1, p.2) | _ => []) g2) → H3 a ≠ none → Mut (H3 a) → (u2 = u2) →
                        (∀ (Hn : Hp), Hn a = some u2 → RepK Γ.K Γ.cn F Hn kvs2 (match u2 with | .dK kv => kv.map fun p => (ofKey p.1, p.2) | .dT kv => kv.map fun p => (ofKeys p.1, p.2) | _ => []) g2 → Rep Γ.K Γ.cn F Hn (.dic .own kd kvs2) (.ref a) (fun b => g2 b + if b = a then 1 else 0)) → DD.nx σ (upd H3 a u2) := by
                      intro u2 g2 kd' le2 ea1 ea2 hr2 hne mu _ mk
                      have hp : 0 < fx a := by omega
                      have K0 : Keep F F H3 (upd H3 a u2) False := Keep.upd mu (nF a hp)
                      have zp : g2 a = 0 := by have := le2 a; have := le1 a; have := fa1 a; omega
                      have away : ∀ b o', 0 < g2 b → H3 b = some o' → upd H3 a u2 b = some o' := fun b o' ps h => by
                        rw [upd_ne]; exact h
                        rintro rfl; omega
                      have hr3 := RepK.go K0 _ _ _ (fun z => by rw [nbk2] at z; cases z) away hr2
                      have := step a u2 (.dic .own kd kvs2) .non .non (fun b => g2 b + if b = a then 1 else 0) fp0 hp (fun b => by have := le2 b; have := ea2 b; have := fa1 b; show g2 b + _ + 0 ≤ _; omega) (by show ((!Mk.isBrw .own) && D.chkK (fun m => !m.isBrw) kvs2) = true; rw [nbk2]; rfl) (mk _ upd_same hr3) ⟨rfl, fun _ => rfl⟩
                      exact k σ _ this.drop
                    rcases hq with ⟨rfl, kv, q, rr⟩ | ⟨rfl, kv, q, rr⟩
                    · obtain ⟨key, ev2, ek⟩ := kyF_ok (show kyF y = some ky from e3) hy
                      subst ek ev2
                      obtain ⟨hl, g2, le2, hr2⟩ := repK_put (fk := ofKey) (fun a b => ofKey_inj) rr hd1 e4
                      refine ⟨a, _, rfl, .inl ⟨kv, key, q.1, rfl, hl, rfl⟩, fin (.dK (putK kv key v)) g2 .k le2 (by have := q.2 a; simpa using this) q.2 hr2 (by rw [q.1]; simp) (by rw [q.1]; trivial) rfl fun Hn en hr => ⟨a, g2, rfl, .inl ⟨rfl, _, ⟨en, fun _ => rfl⟩, hr⟩⟩⟩
                    · unfold kyOf at e3
                      cases y with
                      | tup ds =>
                        dsimp only at e3
                        obtain ⟨ks, e5, rfl⟩ := Option.map_eq_some_iff.mp e3
                        obtain ⟨bb, vs, ev2, hb, hr⟩ := hy
                        obtain ⟨keys, e6, e7⟩ := kyL_ok e5 hr
                        subst e6 ev2
                        have ek : ofKeys keys = .tup ks := by unfold ofKeys; rw [e7]
                        rw [← ek] at e4
                        obtain ⟨hl, g2, le2, hr2⟩ := repK_put (fk := ofKeys) (fun a b => ofKeys_inj) rr hd1 e4
                        refine ⟨a, _, rfl, .inr ⟨kv, keys, bb, q.1, rfl, hb, hl, rfl⟩, fin (.dT (putK kv keys v)) g2 .t le2 (by have := q.2 a; simpa using this) q.2 hr2 (by rw [q.1]; simp) (by rw [q.1]; trivial) rfl fun Hn en hr => ⟨a, g2, rfl, .inr ⟨rfl, _, ⟨en, fun _ => rfl⟩, hr⟩⟩⟩
                      | _ => cases e3
              · rw [if_neg c] at k; exact k.elim
            · exfalso
              split at k
              · rename_i hh1 hh2; cases hh1; exact hx ⟨_, _, rfl⟩
              · exact k.elim
end
end DL
namespace DL
theorem u1 {k : Nat} {A : Around} (r : Room k A) : A.units + 1 < cLine := by have := r.un; omega
end DL

end
section
/-! DL23: places within places. -/
open PySem PySem.Spec L2
namespace DL
theorem dAt_snocI {k : Nat} {y : D} : ∀ (π : List Stp) {d x : D} {ds : List D}, dAt d π = some x → (x = .tup ds ∨ ∃ m, x = .lst m ds) → dAt d (π ++ [.ix k]) = ds[k]?
  | [], d, x, ds, h, hx => by
    rw [show dAt d [] = some d by cases d <;> rfl] at h
    cases h
    rcases hx with rfl | ⟨m, rfl⟩
    · show (ds[k]?).bind (dAt · []) = _
      cases ds[k]? with
      | none => rfl
      | some z => show dAt z [] = some z; cases z <;> rfl
    · show (ds[k]?).bind (dAt · []) = _
      cases ds[k]? with
      | none => rfl
      | some z => show dAt z [] = some z; cases z <;> rfl
  | s :: π, d, x, ds, h, hx => by
    cases d <;> cases s <;> simp only [dAt, List.cons_append] at h ⊢ <;> first | cases h | skip
    all_goals
      obtain ⟨z, h1, h2⟩ := Option.bind_eq_some_iff.mp h
      rw [h1, Option.bind_some]
      exact dAt_snocI (y := y) π h2 hx
theorem follow_snocI {K : PySem.W.Frag} {H : Hp} {k : Nat} {a : Addr} {xs : List V} {w : V} : ∀ (π : List Stp) {r : V}, follow K H r π (.ref a) → (H a = some (.lst xs) ∨ H a = some (.tup xs)) → xs[k]? = some w → follow K H r (π ++ [.ix k]) w
  | [], r, h, h1, h2 => by
    have : r = .ref a := h
    subst this
    exact ⟨a, xs, w, rfl, h1, h2, rfl⟩
  | .ix j :: π, r, ⟨a', xs', u, e, h, g, f⟩, h1, h2 => ⟨a', xs', u, e, h, g, follow_snocI π f h1 h2⟩
  | .fld j :: π, r, ⟨a', C, dx, fs, u, e, h, g, f⟩, h1, h2 => ⟨a', C, dx, fs, u, e, h, g, follow_snocI π f h1 h2⟩
  | .val j :: π, r, ⟨a', u, e, h, f⟩, h1, h2 => ⟨a', u, e, h, follow_snocI π f h1 h2⟩
theorem okAt_ro : ∀ (π : List Stp) {d : D} {ds : List D} {k : Nat}, dAt d π = some (.lst .ro ds) → okAt d (π ++ [.ix k]) = true → False
  | [], d, ds, k, h, ok => by
    rw [show dAt d [] = some d by cases d <;> rfl] at h
    cases h
    simp [okAt] at ok
  | s :: π, d, ds, k, h, ok => by
    cases d <;> cases s <;> simp only [dAt, List.cons_append, okAt] at h ok <;> first | cases h | skip
    all_goals
      obtain ⟨z, h1, h2⟩ := Option.bind_eq_some_iff.mp h
      rw [h1] at ok
      first
        | exact okAt_ro π h2 ok
        | exact okAt_ro π h2 (and_r ok)
def lIx (i : Nat) (πf : LF) (g : PF) : LF := fun ρ => (πf ρ).bind fun π => (asInt (g ρ)).bind fun j => (getS ρ i).bind fun d => match dAt d π with
  | some (.lst _ ds) => (ixN ds.length j).map fun k => π ++ [.ix k]
  | some (.tup ds) => (ixN ds.length j).map fun k => π ++ [.ix k]
  | _ => none
section
variable {X : Cx} {Γ : Ctx} {W : WX} {e a b o ix : Expr} {es : List Expr} {pos : Pos} {hold : Hold} {ρ : Env} {σ : L2.St} {H : Hp}
theorem lIx_some {i : Nat} {πf : LF} {g : PF} {ρ : Env} {π' : List Stp} {d : D} (h : lIx i πf g ρ = some π') (hd : getS ρ i = some d) : ∃ π j k ds, πf ρ = some π ∧ g ρ = some (.int j) ∧ (dAt d π = some (.tup ds) ∨ ∃ m, dAt d π = some (.lst m ds)) ∧ ixN ds.length j = some k ∧ π' = π ++ [.ix k] := by
  unfold lIx at h
  obtain ⟨π, h1, h⟩ := Option.bind_eq_some_iff.mp h
  obtain ⟨j, h2, h⟩ := Option.bind_eq_some_iff.mp h
  obtain ⟨d', h3, h⟩ := Option.bind_eq_some_iff.mp h
  rw [hd] at h3; cases h3
  split at h
  · rename_i m ds h4
    obtain ⟨k, h5, h6⟩ := Option.map_eq_some_iff.mp h
    exact ⟨π, j, k, ds, h1, asInt_some h2, .inr ⟨m, h4⟩, h5, h6.symm⟩
  · rename_i ds h4
    obtain ⟨k, h5, h6⟩ := Option.map_eq_some_iff.mp h
    exact ⟨π, j, k, ds, h1, asInt_some h2, .inl h4, h5, h6.symm⟩
  · cases h
theorem okAt_front : ∀ (π : List Stp) {d : D} {s : Stp}, okAt d (π ++ [s]) = true → okAt d π = true
  | [], d, s, _ => by cases d <;> rfl
  | t :: π, d, s, h => by
    cases d <;> cases t <;> simp only [List.cons_append, okAt] at h ⊢ <;> first | cases h | skip
    all_goals
      first
        | (rename_i ds j; cases q : ds[j]? with
            | none => rw [q] at h; simp at h
            | some z => rw [q] at h; first | exact okAt_front π h | (rw [and_l h]; exact okAt_front π (and_r h)))
        | (rename_i fs f; cases q : atF f fs with
            | none => rw [q] at h; simp at h
            | some z => rw [q] at h; rw [and_l h]; exact okAt_front π (and_r h))
        | (rename_i kvs j; cases q : atK j kvs with
            | none => rw [q] at h; simp at h
            | some z => rw [q] at h; rw [and_l h]; exact okAt_front π (and_r h))
theorem l_ix {i : Nat} {πf : LF} {g : PF} (hK : X.K = Γ.K) (ho : PE X o (tL Γ i πf)) (hi : PE X ix (tP Γ g)) (hs : PlainIx ix) : PE X (.Subscript o ix pos) (tL Γ i (lIx i πf g)) :=
  PE.wk (pe_ix ix_seq ho hi hs) fun σ H Q ⟨hold, ρ, s, π', d, y, e1, e2, e3, e4, k⟩ => by
    obtain ⟨π, j, kk, ds, h1, h2, h3, h4, rfl⟩ := lIx_some e1 e2
    have hx : ∃ x, dAt d π = some x ∧ (x = .tup ds ∨ ∃ m, x = .lst m ds) := by
      rcases h3 with h3 | ⟨m, h3⟩
      · exact ⟨_, h3, .inl rfl⟩
      · exact ⟨_, h3, .inr ⟨m, rfl⟩⟩
    obtain ⟨x, hx1, hx2⟩ := hx
    have hy : ds[kk]? = some y := by rw [← dAt_snocI (y := y) π hx1 hx2]; exact e3
    refine ⟨hold, ρ, s, π, d, x, h1, e2, hx1, okAt_front π e4, fun v H1 x1 s1 hf => ⟨hold, ρ, s1, _, h2, fun u H2 x2 s2 => ?_⟩⟩
    obtain rfl := s2.topInt
    have s3 := s2.drop
    obtain ⟨r, er, fr⟩ := hf
    have fr := follow_ext x2 π fr
    obtain ⟨F, fh, fs, s4⟩ := id s3
    obtain ⟨r', f0, er', hr, _⟩ := s4.ss.get e2
    rw [er] at er'; cases er'
    obtain ⟨w', f, g', fw, _, hxw, _⟩ := Rep.focus π d r f0 x hr hx1 (okAt_front π e4)
    obtain rfl := follow_det π fw fr
    rcases hx2 with rfl | ⟨m, rfl⟩
    · obtain ⟨a, vs, ev, hq, hr2⟩ := hxw
      subst ev
      obtain ⟨w, fw', ew, hw, _⟩ := hr2.get hy
      refine .inr (.inl ⟨a, vs, j, w, rfl, rfl, by rw [hK]; exact SqT.of hq, ?_, k w H2 (x1.trans x2) s3 ⟨r, er, follow_snocI π fr (.inr hq) ew⟩⟩)
      unfold atI
      rw [← hr2.len, h4]; exact ew
    · obtain ⟨a, vs, f2, ev, hq, hr2⟩ := hxw
      subst ev
      obtain ⟨w, fw', ew, hw, _⟩ := hr2.get hy
      have hm : m ≠ .ro := fun z => by subst z; exact okAt_ro π hx1 e4
      refine .inl ⟨a, vs, j, w, rfl, rfl, by rw [hK]; exact lst_sq hq, ?_, k w H2 (x1.trans x2) s3 ⟨r, er, follow_snocI π fr (.inl (lst_at hq hm)) ew⟩⟩
      unfold atI
      rw [← hr2.len, h4]; exact ew
/-- a method that changes a list at a place -/
def eLp (o : OL) (i : Nat) (πf : LF) (fs : List PF) : EF := fun ρ => match πf ρ, evL fs ρ with
  | some π, some args => if D.chkL (fun m => !m.isBrw) args = true then (match placeL ρ i π with
    | some p => (o p.2 args).map fun q => .ok q.2 (setS ρ i (some (dSet p.1 π (.lst .own q.1))))
    | none => none) else none
  | _, _ => none
theorem e_lmp {r : V → List V → Hp → VK → Prop} {o' : OL} {fs : List PF} {i : Nat} {πf : LF} {nm : Str} {idn : String} {apos cpos : Pos} (ho : OpL Γ r o') (pa : PlainAttrs "list") (slot : Slot "list" nm idn) (hty : typeOf (.builtin idn) = pure (.type "method_descriptor")) (hm : MtR X idn r) (hK : X.K = Γ.K) (hown : Γ.own i = true) (hb : PE X b (tL Γ i πf)) (ha : PA X (e :: es) (tA Γ fs))
    (hbase : attributeBase b nm X.env (eval b X.env) = eval b X.env := by rfl)
    (hfew : ((backTo cpos (starEach (e :: es) X.env)).all (fun x => !x.1) && (backToKw cpos (keywordEach [] X.env)).all (fun x => x.1.isSome)
      && decide ((e :: es).length + ([] : List Keyword).length + (if ([] : List Keyword).isEmpty then 0 else 1) < 30)) = true := by rfl)
    (hline : (apos.endLine == cpos.line) = true := by rfl) (hs : starEach (e :: es) X.env = (false, eval e X.env) :: starEach es X.env := by rfl) (hplain : (backTo cpos (starEach es X.env)).any (·.1) = false := by rfl) :
    PE X (.Call (.Attribute b nm apos) (e :: es) [] cpos) (tE Γ W (eLp o' i πf fs)) :=
  PE.wk (pe_bm pa slot hty hm hb ha hbase hfew hline hs hplain) fun σ H Q ⟨hold, ρ, s, nb, k⟩ => by
    unfold eLp at k
    cases h1 : πf ρ with
    | none => rw [h1] at k; exact k.elim
    | some π =>
      cases h2 : evL fs ρ with
      | none => rw [h1, h2] at k; exact k.elim
      | some args =>
        rw [h1, h2] at k
        dsimp only at k
        by_cases c : D.chkL (fun m => !m.isBrw) args = true
        · rw [if_pos c] at k
          cases h3 : placeL ρ i π with
          | none => rw [h3] at k; exact k.elim
          | some p =>
            obtain ⟨g1, g2, g3⟩ := placeL_some h3
            rw [h3] at k
            dsimp only at k
            cases z : o' p.2 args with
            | none => rw [z] at k; exact k.elim
            | some p2 =>
              rw [z] at k
              refine ⟨hold, ρ, s, π, p.1, _, h1, g1, g2, g3, fun v H1 x1 s1 hf => ?_⟩
              obtain ⟨r0, er, fr⟩ := hf
              have hA : v = v ∧ ∃ a ws, v = .ref a ∧ SqL Γ.K H1 a ws := by
                obtain ⟨F, fh, fs', s4⟩ := id s1
                obtain ⟨r', f0, er', hr, _⟩ := s4.ss.get g1
                rw [er] at er'; cases er'
                obtain ⟨w', f, g', fw, _, hxw, _⟩ := Rep.focus π p.1 r0 f0 _ hr g2 g3
                obtain rfl := follow_det π fw fr
                obtain ⟨a, vs, f2, ev, hq, _⟩ := hxw
                exact ⟨rfl, a, vs, ev, lst_sq hq⟩
              obtain ⟨_, a, ws, ev, hsq⟩ := hA
              subst ev
              refine ⟨.inl ⟨rfl, ws, by rw [hK]; exact hsq⟩, hold, ρ, s1, args, h2, fun vs H2 x2 l s2 => ?_⟩
              exact op_change ho (π := π) s2 l nb g1 g2 g3 hown c z ⟨r0, er, follow_ext x2 π fr⟩ fun u H3 s3 => k u H3 s3
        · rw [if_neg c] at k; exact k.elim
end
end DL

end
section
/-! DL24: defs that call themselves. -/
open PySem PySem.Spec L2
namespace DL
def recD (n : Nat) (lm : List Bool) (b : FF → SF) : Nat → FF
  | 0 => fun _ => none
  | m + 1 => fnD n lm (b (recD n lm b m))
theorem recD_len {n : Nat} {lm : List Bool} {b : FF → SF} : ∀ (m : Nat) (ds : List D), recD n lm b m ds ≠ none → ds.length = lm.length
  | 0, ds, h => absurd rfl h
  | m + 1, ds, h => fnD_len ds h
theorem fn_none {P : Program} {w : World} {K : PySem.W.Frag} {mg : Str → Option Value} {base : Heap} {cn : Nm} {CX : CXT} {k : Nat} {f : Addr} {fd : FuncData} {ps : List Str} {lm : List Bool} : FnOk P w K mg base CX k f fd ps (SpD K cn lm fun _ => none) := by
  constructor
  · intro vs H Q E h
    obtain ⟨_, _, _, _, _, _, _, _, _, k⟩ := h
    exact k.elim
  · intros
    rename_i h
    obtain ⟨_, _, _, _, _, _, _, _, _, k⟩ := h
    exact k.elim
section
variable {X : Cx} {Γ : Ctx} {W : WX} {b : Expr}
theorem e_lmp0 {r : V → List V → Hp → VK → Prop} {o' : OL} {i : Nat} {πf : LF} {nm : Str} {idn : String} {apos cpos : Pos} (ho : OpL Γ r o') (pa : PlainAttrs "list") (slot : Slot "list" nm idn) (hty : typeOf (.builtin idn) = pure (.type "method_descriptor")) (hm : MtR X idn r) (hK : X.K = Γ.K) (hown : Γ.own i = true) (hb : PE X b (tL Γ i πf))
    (hbase : attributeBase b nm X.env (eval b X.env) = eval b X.env := by rfl) (hline : (apos.endLine == cpos.line) = true := by rfl) :
    PE X (.Call (.Attribute b nm apos) [] [] cpos) (tE Γ W (eLp o' i πf [])) :=
  PE.wk (pe_bm0 pa slot hty hm hb hbase hline) fun σ H Q ⟨hold, ρ, s, nb, k⟩ => by
    unfold eLp at k
    cases h1 : πf ρ with
    | none => rw [h1] at k; exact k.elim
    | some π =>
      rw [h1, evL] at k
      dsimp only at k
      rw [if_pos (by rfl)] at k
      cases h3 : placeL ρ i π with
      | none => rw [h3] at k; exact k.elim
      | some p =>
        obtain ⟨g1, g2, g3⟩ := placeL_some h3
        rw [h3] at k
        dsimp only at k
        cases z : o' p.2 [] with
        | none => rw [z] at k; exact k.elim
        | some p2 =>
          rw [z] at k
          refine ⟨hold, ρ, s, π, p.1, _, h1, g1, g2, g3, fun v H1 x1 s1 hf => ?_⟩
          obtain ⟨r0, er, fr⟩ := hf
          have hA : ∃ a ws, v = .ref a ∧ SqL Γ.K H1 a ws := by
            obtain ⟨F, fh, fs', s4⟩ := id s1
            obtain ⟨r', f0, er', hr, _⟩ := s4.ss.get g1
            rw [er] at er'; cases er'
            obtain ⟨w', f, g', fw, _, hxw, _⟩ := Rep.focus π p.1 r0 f0 _ hr g2 g3
            obtain rfl := follow_det π fw fr
            obtain ⟨a, vs, f2, ev, hq, _⟩ := hxw
            exact ⟨a, vs, ev, lst_sq hq⟩
          obtain ⟨a, ws, ev, hsq⟩ := hA
          subst ev
          refine ⟨.inl ⟨rfl, ws, by rw [hK]; exact hsq⟩, ?_⟩
          exact op_change ho (π := π) (vs := []) (args := []) s1 rfl nb g1 g2 g3 hown rfl z ⟨r0, er, fr⟩ fun u H3 s3 => k u H3 s3
end
end DL

end
section
/-! DL25: int of a text. -/
open PySem PySem.Spec L2
namespace DL
section
variable {X : Cx} {Γ : Ctx} {W : WX}
def oIntT : ON
  | [.str z] => if z.length ≤ 640 then (PySem.intText? z).map .int else none
  | ds => oInt ds
def rIntT : List V → Hp → VK → Prop := fun xs H Q => ((∃ i, xs = [.int i] ∧ Q (.int i) H) ∨ ∃ k, xs = [.bl k] ∧ Q (.int (if k then 1 else 0)) H) ∨ ∃ a n, xs = [.str a] ∧ PySem.intText? a = some n ∧ a.length ≤ 640 ∧ Q (.int n) H
theorem call_intT : CallR X (.type "int") rIntT := CallR.or call_int1 call_int_str
theorem oIntT_ok : OpN Γ rIntT oIntT := fun hold ρ σ H vs ds d Q e l s k => by
  unfold oIntT at e
  split at e
  · split at e
    · rename_i z hz
      obtain ⟨n, e1, e2⟩ := Option.map_eq_some_iff.mp e
      cases e2
      obtain ⟨v, rfl, s⟩ := one_of l s
      obtain rfl := s.topStr
      exact .inr ⟨_, n, rfl, e1, hz, k _ H Ext.refl (s.drop.int _)⟩
    · cases e
  · exact .inl (oInt_ok hold ρ σ H vs _ d Q e l s k)
end
end DL

end
section
/-! DL26: any, all, sum, max, min, index; {k: v} with a tuple key; expressions by cases. -/
open PySem PySem.Spec L2
namespace DL
section
variable {X : Cx} {Γ : Ctx} {W : WX} {e a b : Expr} {f g : PF} {pos : Pos}
def blsOf : List D → Option (List Bool)
  | [] => some []
  | .bl z :: ds => (blsOf ds).map (z :: ·)
  | _ => none
theorem blsOf_some : ∀ {ds : List D} {ys : List Bool}, blsOf ds = some ys → ds = ys.map .bl
  | [], ys, h => by cases h; rfl
  | .bl z :: ds, ys, h => by
    rw [blsOf, Option.map_eq_some_iff] at h
    obtain ⟨zs, h1, rfl⟩ := h
    rw [blsOf_some h1]; rfl
  | .non :: _, _, h => by cases h
  | .str _ :: _, _, h => by cases h
  | .int _ :: _, _, h => by cases h
  | .tup _ :: _, _, h => by cases h
  | .lst _ _ :: _, _, h => by cases h
  | .dic _ _ _ :: _, _, h => by cases h
  | .ins _ _ _ :: _, _, h => by cases h
  | .cls _ :: _, _, h => by cases h
  | .exc _ _ :: _, _, h => by cases h
theorem reps_bls {K : PySem.W.Frag} {cn : Nm} {F : Addr → Prop} {H : Hp} : ∀ {ys : List Bool} {vs : List V} {fp : Fp}, Reps K cn F H (ys.map .bl) vs fp → vs = ys.map V.bl
  | [], vs, fp, h => h.1
  | y :: ys, vs, fp, ⟨v, r, f, g, e, _, h1, h2⟩ => by rw [e, h1.1, reps_bls h2]; rfl
def intsOf : List D → Option (List Int)
  | [] => some []
  | .int z :: ds => (intsOf ds).map (z :: ·)
  | _ => none
theorem intsOf_some : ∀ {ds : List D} {ys : List Int}, intsOf ds = some ys → ds = ys.map .int
  | [], ys, h => by cases h; rfl
  | .int z :: ds, ys, h => by
    rw [intsOf, Option.map_eq_some_iff] at h
    obtain ⟨zs, h1, rfl⟩ := h
    rw [intsOf_some h1]; rfl
  | .non :: _, _, h => by cases h
  | .str _ :: _, _, h => by cases h
  | .bl _ :: _, _, h => by cases h
  | .tup _ :: _, _, h => by cases h
  | .lst _ _ :: _, _, h => by cases h
  | .dic _ _ _ :: _, _, h => by cases h
  | .ins _ _ _ :: _, _, h => by cases h
  | .cls _ :: _, _, h => by cases h
  | .exc _ _ :: _, _, h => by cases h
theorem reps_ints {K : PySem.W.Frag} {cn : Nm} {F : Addr → Prop} {H : Hp} : ∀ {ys : List Int} {vs : List V} {fp : Fp}, Reps K cn F H (ys.map .int) vs fp → vs = ys.map V.int
  | [], vs, fp, h => h.1
  | y :: ys, vs, fp, ⟨v, r, f, g, e, _, h1, h2⟩ => by rw [e, h1.1, reps_ints h2]; rfl
/-- any, all of a list of truths -/
def oAny : ON
  | [.lst _ ds] => (blsOf ds).map fun bs => .bl (bs.any id)
  | _ => none
def oAll : ON
  | [.lst _ ds] => (blsOf ds).map fun bs => .bl (bs.all id)
  | _ => none
theorem oAny_ok : OpN Γ (rAny Γ.K) oAny := fun hold ρ σ H vs ds d Q e l s k => by
  unfold oAny at e
  split at e
  · obtain ⟨bs, e1, e2⟩ := Option.map_eq_some_iff.mp e
    cases e2
    obtain ⟨v, rfl, s⟩ := one_of l s
    obtain ⟨F, fp, h, _⟩ := s.open1
    obtain ⟨p, ws, f', ev, q, r⟩ := h
    subst ev
    have := blsOf_some e1
    subst this
    obtain rfl := reps_bls r
    exact ⟨p, bs, rfl, lst_sq q, k _ H Ext.refl (s.drop.bl _)⟩
  · cases e
theorem oAll_ok : OpN Γ (rAll Γ.K) oAll := fun hold ρ σ H vs ds d Q e l s k => by
  unfold oAll at e
  split at e
  · obtain ⟨bs, e1, e2⟩ := Option.map_eq_some_iff.mp e
    cases e2
    obtain ⟨v, rfl, s⟩ := one_of l s
    obtain ⟨F, fp, h, _⟩ := s.open1
    obtain ⟨p, ws, f', ev, q, r⟩ := h
    subst ev
    have := blsOf_some e1
    subst this
    obtain rfl := reps_bls r
    exact ⟨p, bs, rfl, lst_sq q, k _ H Ext.refl (s.drop.bl _)⟩
  · cases e
/-- sum of a list of ints -/
def oSum : ON
  | [.lst _ ds] => (intsOf ds).map fun bs => .int bs.sum
  | _ => none
theorem oSum_ok : OpN Γ (rSum Γ.K) oSum := fun hold ρ σ H vs ds d Q e l s k => by
  unfold oSum at e
  split at e
  · obtain ⟨bs, e1, e2⟩ := Option.map_eq_some_iff.mp e
    cases e2
    obtain ⟨v, rfl, s⟩ := one_of l s
    obtain ⟨F, fp, h, _⟩ := s.open1
    obtain ⟨p, ws, f', ev, q, r⟩ := h
    subst ev
    have := intsOf_some e1
    subst this
    obtain rfl := reps_ints r
    exact ⟨p, bs, rfl, lst_sq q, k _ H Ext.refl (s.drop.int _)⟩
  · cases e
/-- the greatest, the least -/
def maxL : List Int → Int
  | [] => 0
  | x :: xs => xs.foldl (fun m y => if y > m then y else m) x
def minL : List Int → Int
  | [] => 0
  | x :: xs => xs.foldl (fun m y => if y < m then y else m) x
theorem maxL_go : ∀ (xs : List Int) (m : Int), (xs.foldl (fun m y => if y > m then y else m) m = m ∨ xs.foldl (fun m y => if y > m then y else m) m ∈ xs) ∧ m ≤ xs.foldl (fun m y => if y > m then y else m) m ∧ ∀ y ∈ xs, y ≤ xs.foldl (fun m y => if y > m then y else m) m
  | [], m => ⟨.inl rfl, Int.le_refl _, fun y h => by cases h⟩
  | x :: xs, m => by
    obtain ⟨h1, h2, h3⟩ := maxL_go xs (if x > m then x else m)
    rw [List.foldl_cons]
    generalize xs.foldl (fun m y => if y > m then y else m) (if x > m then x else m) = z at *
    by_cases c : x > m
    · rw [if_pos c] at h1 h2
      refine ⟨?_, by omega, fun y h => ?_⟩
      · rcases h1 with h1 | h1
        · exact .inr (by rw [h1]; exact List.mem_cons_self)
        · exact .inr (List.mem_cons_of_mem _ h1)
      · rcases List.mem_cons.mp h with rfl | h
        · exact h2
        · exact h3 y h
    · rw [if_neg c] at h1 h2
      refine ⟨?_, by omega, fun y h => ?_⟩
      · rcases h1 with h1 | h1
        · exact .inl h1
        · exact .inr (List.mem_cons_of_mem _ h1)
      · rcases List.mem_cons.mp h with rfl | h
        · omega
        · exact h3 y h
theorem minL_go : ∀ (xs : List Int) (m : Int), (xs.foldl (fun m y => if y < m then y else m) m = m ∨ xs.foldl (fun m y => if y < m then y else m) m ∈ xs) ∧ xs.foldl (fun m y => if y < m then y else m) m ≤ m ∧ ∀ y ∈ xs, xs.foldl (fun m y => if y < m then y else m) m ≤ y
  | [], m => ⟨.inl rfl, Int.le_refl _, fun y h => by cases h⟩
  | x :: xs, m => by
    obtain ⟨h1, h2, h3⟩ := minL_go xs (if x < m then x else m)
    rw [List.foldl_cons]
    generalize xs.foldl (fun m y => if y < m then y else m) (if x < m then x else m) = z at *
    by_cases c : x < m
    · rw [if_pos c] at h1 h2
      refine ⟨?_, by omega, fun y h => ?_⟩
      · rcases h1 with h1 | h1
        · exact .inr (by rw [h1]; exact List.mem_cons_self)
        · exact .inr (List.mem_cons_of_mem _ h1)
      · rcases List.mem_cons.mp h with rfl | h
        · exact h2
        · exact h3 y h
    · rw [if_neg c] at h1 h2
      refine ⟨?_, by omega, fun y h => ?_⟩
      · rcases h1 with h1 | h1
        · exact .inl h1
        · exact .inr (List.mem_cons_of_mem _ h1)
      · rcases List.mem_cons.mp h with rfl | h
        · omega
        · exact h3 y h
theorem maxL_mem {xs : List Int} (h : xs ≠ []) : maxL xs ∈ xs ∧ ∀ y ∈ xs, y ≤ maxL xs := by
  cases xs with
  | nil => exact absurd rfl h
  | cons x xs =>
    obtain ⟨h1, h2, h3⟩ := maxL_go xs x
    refine ⟨?_, fun y hy => ?_⟩
    · rcases h1 with h1 | h1
      · show List.foldl _ x xs ∈ _
        rw [h1]; exact List.mem_cons_self
      · exact List.mem_cons_of_mem _ h1
    · rcases List.mem_cons.mp hy with rfl | hy
      · exact h2
      · exact h3 y hy
theorem minL_mem {xs : List Int} (h : xs ≠ []) : minL xs ∈ xs ∧ ∀ y ∈ xs, minL xs ≤ y := by
  cases xs with
  | nil => exact absurd rfl h
  | cons x xs =>
    obtain ⟨h1, h2, h3⟩ := minL_go xs x
    refine ⟨?_, fun y hy => ?_⟩
    · rcases h1 with h1 | h1
      · show List.foldl _ x xs ∈ _
        rw [h1]; exact List.mem_cons_self
      · exact List.mem_cons_of_mem _ h1
    · rcases List.mem_cons.mp hy with rfl | hy
      · exact h2
      · exact h3 y hy
def oMaxL : ON
  | [.lst _ ds] => (intsOf ds).bind fun bs => if bs = [] then none else some (.int (maxL bs))
  | _ => none
def oMinL : ON
  | [.lst _ ds] => (intsOf ds).bind fun bs => if bs = [] then none else some (.int (minL bs))
  | _ => none
theorem rMax_uniq {K : PySem.W.Frag} {H : Hp} {Q : VK} {p : Addr} {bs : List Int} (hs : SqL K H p (bs.map V.int)) (hb : bs ≠ []) (k : Q (.int (maxL bs)) H) : rMax K [.ref p] H Q := by
  obtain ⟨h1, h2⟩ := maxL_mem hb
  refine ⟨p, bs, rfl, hs, List.length_pos_iff.mpr hb, fun m hm hy => ?_⟩
  have : m = maxL bs := Int.le_antisymm (h2 m hm) (hy _ h1)
  rw [this]; exact k
theorem rMin_uniq {K : PySem.W.Frag} {H : Hp} {Q : VK} {p : Addr} {bs : List Int} (hs : SqL K H p (bs.map V.int)) (hb : bs ≠ []) (k : Q (.int (minL bs)) H) : rMin K [.ref p] H Q := by
  obtain ⟨h1, h2⟩ := minL_mem hb
  refine ⟨p, bs, rfl, hs, List.length_pos_iff.mpr hb, fun m hm hy => ?_⟩
  have : m = minL bs := Int.le_antisymm (hy _ h1) (h2 m hm)
  rw [this]; exact k
theorem oMaxL_ok : OpN Γ (rMax Γ.K) oMaxL := fun hold ρ σ H vs ds d Q e l s k => by
  unfold oMaxL at e
  split at e
  · obtain ⟨bs, e1, e2⟩ := Option.bind_eq_some_iff.mp e
    split at e2
    · cases e2
    · rename_i hb
      cases e2
      obtain ⟨v, rfl, s⟩ := one_of l s
      obtain ⟨F, fp, h, _⟩ := s.open1
      obtain ⟨p, ws, f', ev, q, r⟩ := h
      subst ev
      have := intsOf_some e1
      subst this
      obtain rfl := reps_ints r
      exact rMax_uniq (lst_sq q) hb (k _ H Ext.refl (s.drop.int _))
  · cases e
theorem oMinL_ok : OpN Γ (rMin Γ.K) oMinL := fun hold ρ σ H vs ds d Q e l s k => by
  unfold oMinL at e
  split at e
  · obtain ⟨bs, e1, e2⟩ := Option.bind_eq_some_iff.mp e
    split at e2
    · cases e2
    · rename_i hb
      cases e2
      obtain ⟨v, rfl, s⟩ := one_of l s
      obtain ⟨F, fp, h, _⟩ := s.open1
      obtain ⟨p, ws, f', ev, q, r⟩ := h
      subst ev
      have := intsOf_some e1
      subst this
      obtain rfl := reps_ints r
      exact rMin_uniq (lst_sq q) hb (k _ H Ext.refl (s.drop.int _))
  · cases e
def oMax2 : ON
  | [.int i, .int j] => some (.int (if j > i then j else i))
  | _ => none
def oMin2 : ON
  | [.int i, .int j] => some (.int (if j < i then j else i))
  | _ => none
theorem oMax2_ok : OpN Γ (fun xs H Q => ∃ i j, xs = [.int i, .int j] ∧ Q (.int (if j > i then j else i)) H) oMax2 := fun hold ρ σ H vs ds d Q e l s k => by
  unfold oMax2 at e
  split at e
  · cases e
    obtain ⟨v, w, rfl, s⟩ := two_of l s
    obtain rfl := s.topInt
    obtain rfl := s.drop.topInt
    exact ⟨_, _, rfl, k _ H Ext.refl (s.drop.drop.int _)⟩
  · cases e
theorem oMin2_ok : OpN Γ (fun xs H Q => ∃ i j, xs = [.int i, .int j] ∧ Q (.int (if j < i then j else i)) H) oMin2 := fun hold ρ σ H vs ds d Q e l s k => by
  unfold oMin2 at e
  split at e
  · cases e
    obtain ⟨v, w, rfl, s⟩ := two_of l s
    obtain rfl := s.topInt
    obtain rfl := s.drop.topInt
    exact ⟨_, _, rfl, k _ H Ext.refl (s.drop.drop.int _)⟩
  · cases e
/-- x.index(y) -/
def oIndex : O2
  | .lst _ ds, y => match pys ds, py y with
    | some ps, some p => if SeqAt.shaped (.list ps) = true ∧ SeqAt.shaped p = true then (ps.findIdx? fun z => PyData.eqv z p).map fun j => .int (j : Nat) else none
    | _, _ => none
  | _, _ => none
theorem d_index {apos cpos : Pos} (hu : X.A.units + 65 < cLine) (hK : X.K = Γ.K) (ha : PE X a (tP Γ f)) (hb : PE X b (tP Γ g))
    (hs : starEach [b] X.env = (false, eval b X.env) :: starEach [] X.env := by rfl)
    (hbase : attributeBase a "index" X.env (eval a X.env) = eval a X.env := by rfl)
    (hfew : ((backTo cpos (starEach [b] X.env)).all (fun x => !x.1) && (backToKw cpos (keywordEach [] X.env)).all (fun x => x.1.isSome)
      && decide (([b] : List Expr).length + ([] : List Keyword).length + (if ([] : List Keyword).isEmpty then 0 else 1) < 30)) = true := by rfl)
    (hline : (apos.endLine == cpos.line) = true := by rfl) (hplain : (backTo cpos (starEach [] X.env)).any (·.1) = false := by rfl) :
    PE X (.Call (.Attribute a "index" apos) [b] [] cpos) (tP Γ (pB oIndex f g)) :=
  PE.wk (pe_bm PySem.F.plainAttrs_list PySem.F.slot_list_index PySem.F.type_list_index (mt_indexD hu) ha (a_cons hb a_nil hs) hbase hfew hline hs hplain) fun σ H Q ⟨hold, ρ, s, d, e, k⟩ => by
    obtain ⟨x, y, ex, ey, ez⟩ := pB_some e
    refine ⟨hold, ρ, s, x, ex, fun v H1 x1 s1 => ?_⟩
    cases x with
    | lst m ds =>
      unfold oIndex at ez
      dsimp only at ez
      cases e1 : pys ds with
      | none => rw [e1] at ez; cases ez
      | some ps =>
        cases e2 : py y with
        | none => rw [e1, e2] at ez; cases ez
        | some p =>
          rw [e1, e2] at ez
          dsimp only at ez
          split at ez
          · rename_i hsh
            obtain ⟨j, e3, e4⟩ := Option.map_eq_some_iff.mp ez
            subst e4
            obtain ⟨F, fp, h, _⟩ := s1.open1
            obtain ⟨q0, ws, f', ev, hq, r⟩ := h
            subst ev
            refine ⟨.inl ⟨rfl, ws, by rw [hK]; exact lst_sq hq⟩, _, ρ, s1, [y], by simp [evL, ey], fun vs H2 x2 hl s2 => ?_⟩
            obtain ⟨w, rfl, s2⟩ := one_of hl s2
            obtain ⟨F2, fp2, gp2, h1, h2, _⟩ := s2.open2
            obtain ⟨hj, hj1, hj2⟩ := List.findIdx?_eq_some_iff_getElem.mp e3
            refine ⟨q0, w, p, ps, j, ps[j], rfl, rfl, ?_, ?_, hsh.1, hsh.2, List.getElem?_eq_getElem hj, hj1, fun mm z' hm hz => ?_, ?_⟩
            · rw [hK]
              exact Rep.dp _ _ _ (.list ps) h1 (by show (pys ds).map _ = _; rw [e1]; rfl)
            · rw [hK]
              exact Rep.dp _ _ _ _ h2 e2
            · obtain ⟨hml, rfl⟩ := List.getElem?_eq_some_iff.mp hz
              have := hj2 mm hm
              exact Bool.eq_false_iff.mpr this
            · exact k _ H2 (x1.trans x2) (s2.drop.drop.int _)
          · cases ez
    | _ => cases ez
/-- a if t else b -/
def eIf (t : TF) (f g : EF) : EF := fun ρ => match t ρ with
  | some (.ok true ρ') => f ρ'
  | some (.ok false ρ') => g ρ'
  | some (.ex n fs ρ') => some (.ex n fs ρ')
  | none => none
theorem e_if {c : Expr} {t : TF} {f g : EF} (hc : PT X c (tT Γ W t)) (ha : PE X a (tE Γ W f)) (hb : PE X b (tE Γ W g)) : PE X (.IfExp c a b pos) (tE Γ W (eIf t f g)) :=
  PE.wk (pe_ifExp hc ha hb) fun σ H Q ⟨hold, ρ, s, nb, k⟩ => by
    unfold eIf at k
    refine ⟨hold, ρ, s, nb, ?_⟩
    cases q : t ρ with
    | none => rw [q] at k; exact k.elim
    | some r =>
      rw [q] at k
      cases r with
      | ex n fs ρ1 => exact k
      | ok b1 ρ1 =>
        cases b1 with
        | true => exact fun H1 s1 => iT ⟨hold, ρ1, s1, nb, k⟩
        | false => exact fun H1 s1 => iF ⟨hold, ρ1, s1, nb, k⟩
end
/-! ### {k: v} with a tuple key -/
def tDisp1T (tk tv : TE) : TE := fun σ H Q => ∀ p, H p = none → tk σ (upd H p (.dT [])) fun x H1 => tv σ H1 fun y H2 => H2 p = some (.dT []) ∧ ∃ b key, x = .ref b ∧ H2 b = some (.tup (key.map kV)) ∧ Q (.ref p) (upd H2 p (.dT [(key, y)]))
theorem pe_disp1T {X : Cx} {pos : Pos} {k v : Expr} {tk tv : TE} (hu : X.A.units + 1 < cLine) (hk : PE X k tk) (hv : PE X v tv) : PE X (.Dict [some k] [v] pos) (tDisp1T tk tv) := by
  refine ⟨fun pins s σ H Q I q => ?_⟩
  have hn := I.hok.fresh (Nat.le_refl s.heap.objs.size)
  have I1 := I.laid (a := s.heap.objs.size) (o := .dT []) (h' := s.heap.push { cls := .type "dict", data := .dict #[] }) (t' := s.toks) (fun _ _ q => Heap.get?_push_of_some _ q) (Nat.le_refl _) (dt_empty s.heap I.big)
  refine wpAny_Dict_any rfl rfl (by simp) (by show 1 ≤ 15; decide) ?_
  refine thn ((pps_cons hk hv pps_nil).run pins _ σ _ (fun ps H2 => match ps with
    | [(x, y)] => H2 s.heap.objs.size = some (.dT []) ∧ ∃ b key, x = .ref b ∧ H2 b = some (.tup (key.map kV)) ∧ Q (.ref s.heap.objs.size) (upd H2 s.heap.objs.size (.dT [(key, y)]))
    | _ => False) I1 (q _ hn)) fun ws s2 ⟨ps, H2, I2, rel, q2⟩ => ?_
  match ps, q2 with
  | [(x, y)], ⟨e, b, key, ex, eb, q3⟩ =>
    subst ex
    cases rel with
    | @cons _ z _ zs hr ht =>
      cases ht
      obtain ⟨z1, z2⟩ := z
      obtain ⟨hr1, hr2⟩ := hr
      cases (show z1 = Value.ref b from hr1)
      obtain ⟨z, hd, xs, rel2, dd⟩ := dt_of I2.hok e
      cases rel2
      show wpAny _ _ (forIn [(Value.ref b, z2)] PUnit.unit _) _ _ _
      rw [List.forIn_cons]
      refine wpAny_bind (wpAny_bind (wpAny_dictSet_heap (hsz := Nat.zero_le _) (show X.A.units < cLine by omega) (key_of I2.hok eb) dd fun h' dd' hs => wpAny_pure ?_))
      show wpAny _ _ (forIn [] PUnit.unit _) _ _ _
      rw [List.forIn_nil]
      refine wpAny_pure ⟨.ref s.heap.objs.size, _, ?_, rfl, q3⟩
      obtain ⟨q, es, ep, hq, h2, h3, h4, _, h5⟩ := dd'
      refine d_write I2 (by rw [e]; exact True.intro) hs ⟨q, hq⟩ ⟨by show 1 ≤ sizeLine; decide, hd, _, (KT.put (H := H2) (kvs := []) (xs := []) .nil key eb hr2).keeps fun c ys ec => ?_, q, es, ep, hq, h2, h3, h4, h5⟩
      rw [upd_ne (ne_of ec e (fun z => nomatch z))]
      exact ec
end DL

end
section
/-! DL27: {k: v} with a tuple key. -/
open PySem PySem.Spec L2
namespace DL
theorem kyT_ok {K : PySem.W.Frag} {cn : Nm} {F : Addr → Prop} {H : Hp} {x : D} {v : V} {fp : Fp} {k : Ky} (e : kyOf .t x = some k) (h : Rep K cn F H x v fp) : ∃ b keys, v = .ref b ∧ H b = some (.tup (keys.map kV)) ∧ ofKeys keys = k := by
  cases x with
  | tup ds =>
    obtain ⟨a, vs, e1, q, r⟩ := h
    obtain ⟨ks, e2, e3⟩ := Option.map_eq_some_iff.mp e
    obtain ⟨keys, ev, ek⟩ := kyL_ok e2 r
    subst e3
    exact ⟨a, keys, e1, by rw [q, ev], by unfold ofKeys; rw [ek]⟩
  | _ => cases e
theorem SI.dic1 {Γ : Ctx} {hold : Hold} {ρ : Env} {σ : L2.St} {H : Hp} {p : Addr} {v w : V} {x y : D} {k : Ky} (s : SI Γ ((w, y) :: (v, x) :: (.ref p, .dic .own .t []) :: hold) ρ σ H) (nb : hold.noBrw) (ny : y.noBrw = true) (ek : kyOf .t x = some k) :
    ∃ b keys, v = .ref b ∧ H p = some (.dT []) ∧ H b = some (.tup (keys.map kV)) ∧ SI Γ ((.ref p, .dic .own .t [(k, y)]) :: hold) ρ σ (upd H p (.dT [(keys, w)])) := by
  obtain ⟨F, fh, fs, s⟩ := s
  obtain ⟨v1, r1, f1, g1, e1, q1, hy, ⟨v2, r2, f2, g2, e2, q2, hx, ⟨v3, r3, f3, g3, e3, q3, ⟨a, f4, ea, hd⟩, hh⟩⟩⟩ := s.hh
  cases e1; cases e2; cases e3; cases ea
  rcases hd with ⟨hk, _⟩ | ⟨_, kv, hd, hr⟩
  · cases hk
  have hkv : kv = [] := by have := hr.1; simpa using this
  subst hkv
  have z4 : ∀ a, f4 a = 0 := hr.2
  obtain ⟨b, keys, ev, hb, hks⟩ := kyT_ok ek hx
  have f3p : f3 p = 1 := by have := hd.2 p; have := z4 p; simp at *; omega
  have n1 := s.nd p
  have pC : 0 < fh p + fs p := by have := q1 p; have := q2 p; have := q3 p; omega
  have zC : f1 p = 0 ∧ f2 p = 0 ∧ g3 p = 0 ∧ fs p = 0 := by have := q1 p; have := q2 p; have := q3 p; omega
  have K0 : Keep F F H (upd H p (.dT [(keys, w)])) False := Keep.upd (by rw [hd.1]; trivial) (s.ow p pC).1
  have away : ∀ {f9 : Fp}, f9 p = 0 → ∀ a o', 0 < f9 a → H a = some o' → upd H p (.dT [(keys, w)]) a = some o' := fun {f9} z a o' pos h => by
    rw [upd_ne]; exact h
    rintro rfl; omega
  refine ⟨b, keys, ev, hd.1, hb, F, fun b => (f1 b + if b = p then 1 else 0) + g3 b, fs, s.mut pC ⟨.ref p, _, fun b => f1 b + if b = p then 1 else 0, g3, rfl, fun b => rfl, ⟨p, f1, rfl, .inr ⟨rfl, [(keys, w)], ⟨upd_same, fun b => rfl⟩, ?_⟩⟩, ?_⟩ (Slots.go K0 (away zC.2.2.2) s.ss) (fun b => ?_) s.mo⟩
  · show RepK _ _ _ _ [(k, y)] [(ofKeys keys, w)] f1
    rw [hks]
    exact ⟨w, [], f1, fp0, rfl, fun _ => rfl, Rep.go K0 _ _ _ (fun z => by rw [ny] at z; cases z) (away zC.1) hy, rfl, fun _ => rfl⟩
  · exact Reps.go K0 _ _ _ (fun z => by rw [show D.chkL (fun m => !m.isBrw) (hold.map (·.2)) = true from nb] at z; cases z) (away zC.2.2.1) hh
  · have := q1 b; have := q2 b; have := q3 b; have := hd.2 b; have := z4 b
    show f1 b + (if b = p then 1 else 0) + g3 b + fs b ≤ fh b + fs b
    omega
def eDic1 (f g : PF) : EF := fun ρ => match f ρ, g ρ with
  | some x, some y => if y.noBrw = true then (kyOf .t x).map fun k => .ok (.dic .own .t [(k, y)]) ρ else none
  | _, _ => none
section
variable {X : Cx} {Γ : Ctx} {W : WX} {a b : Expr} {f g : PF} {pos : Pos}
theorem e_dic1 (hu : X.A.units + 1 < cLine) (ha : PE X a (tP Γ f)) (hb : PE X b (tP Γ g)) : PE X (.Dict [some a] [b] pos) (tE Γ W (eDic1 f g)) :=
  PE.wk (pe_disp1T hu ha hb) fun σ H Q ⟨hold, ρ, s, nb, k⟩ => by
    unfold eDic1 at k
    cases e1 : f ρ with
    | none => rw [e1] at k; exact k.elim
    | some x =>
      cases e2 : g ρ with
      | none => rw [e1, e2] at k; exact k.elim
      | some y =>
        rw [e1, e2] at k
        dsimp only at k
        by_cases ny : y.noBrw = true
        · rw [if_pos ny] at k
          cases e3 : kyOf .t x with
          | none => rw [e3] at k; exact k.elim
          | some ky =>
            rw [e3] at k
            intro p hp
            have s0 : SI Γ ((.ref p, .dic .own .t []) :: hold) ρ σ (upd H p (.dT [])) := SI.newBlock (vs := []) (ds := []) (v := .ref p) (p := p) s rfl hp fun F fa r => ⟨fun b => fp0 b + if b = p then 1 else 0, fun b => by show 0 + _ ≤ fa b + _; omega, p, fp0, rfl, .inr ⟨rfl, [], ⟨upd_same, fun _ => rfl⟩, rfl, fun _ => rfl⟩⟩
            refine ⟨_, ρ, s0, x, e1, fun v H1 x1 s1 => ⟨_, ρ, s1, y, e2, fun w H2 x2 s2 => ?_⟩⟩
            obtain ⟨bb, keys, ev, hp2, hb2, s3⟩ := SI.dic1 s2 nb ny e3
            exact ⟨hp2, bb, keys, ev, hb2, k _ _ s3⟩
        · rw [if_neg ny] at k; exact k.elim
end
end DL

end
section
/-! DL28: list(reversed(x)), x a list. -/
namespace RT
open PySem PySem.Spec PyProof.Rows L2
section
variable {prog : Program} {w : World} {A : Around} {E : Value → Shared → Prop} {s : Shared}
theorem dl_extend_rev {R : Result → Shared → Prop} {it l : Addr} {items : Array Value} (hh : A.handled = none) (hit : s.heap.IsRevIter it l ((items.size : Int) - 1)) (hl : s.heap.IsList l items) (hne : l ≠ it) (hn : items.size ≤ sizeLine) (S : Addr) (res : Value) (c₀ : Nat) (hS : s.heap.get? S = some { cls := .type "list", data := .seq #[] c₀ }) (hSi : S ≠ it) (hSl : S ≠ l)
    (hR : ∀ h' tk acc' c', (∀ b o, b ≠ S → b ≠ it → s.heap.get? b = some o → h'.get? b = some o) → h'.get? S = some { cls := .type "list", dict := none, data := .seq acc' c', slots := #[] } →
      ItemsOf (fun i v => items[items.size - 1 - i]? = some v) acc' items.size → R (.ok (.ret res)) { s with heap := h', toks := tk }) :
    wpAny (model prog w) A.in1 (Builtin.List.listExtendWith (.ref S) (.ref it) res)
      (fun fin s' => match fin with | .done f => R (.ok f) s' | .again c' => c'.quiet = true ∧ codeAny (model prog w) A c' R s') (fun e s' => R (.error e) s') s := by
  have W := (Walks.listRev (prog := prog) (w := w) (A := A.in1) hh it l hne items).toS
  have hSf : S ∉ [it, l] := by simp only [List.mem_cons, List.not_mem_nil, or_false, not_or]; exact ⟨hSi, hSl⟩
  have hT : s.TypeIs (.ref it) "list_reverseiterator" := Heap.IsRevIter.typeIs hit
  have h1 : Builtin.List.listSameRef (.ref S) (.ref it) = false := by simp [Builtin.List.listSameRef, hSi]
  unfold Builtin.List.listExtendWith
  refine wpAny_bind (wpAny_typeOf hT ?_)
  rw [if_neg (by rw [h1]; decide)]
  refine wpAny_bind (wpAny_pyIter_revIter hit ?_)
  refine wpAny_bind (wpAny_holding ?_)
  unfold Builtin.List.listLengthHint
  refine wpAny_bind (wpAny_specialOf hT nolen_lri ?_)
  show wpAny _ A.in1 (specialOf (Value.ref it) (Str.ofString "__length_hint__") >>= _) _ _ _
  refine wpAny_bind (wpAny_specialOf hT hint_lri ?_)
  generalize hid : ("list_reverseiterator.__length_hint__" : String) = id0
  wp_delta
  rw [show splitId id0 = some ("list_reverseiterator", "__length_hint__") from by subst hid; decide +kernel]
  subst hid
  refine wpAny_bind (wpAny_isInstance (b := true) hT (by rw [isSubtype_type]; kernel_rfl) ?_)
  refine wpAny_pure ?_
  rw [if_neg (by decide)]
  have e0 : ((items.size : Nat) : Int) - 1 - ((0 : Nat) : Int) = (items.size : Int) - 1 := by omega
  refine wpAny_pure ⟨plainId_quiet F.plain_extend_loop _, codeAny_extend_loopS W hn _ hSf _ items.size 0 _ _ _ rfl (Nat.zero_le _) ⟨Nat.zero_le _, by rw [e0]; exact hit, hl⟩ hS (ItemsOf.nil _) fun s' acc' c' hm hS' hacc => ?_⟩
  rw [Moved.eq_with hm]
  refine hR s'.heap s'.toks acc' c' (fun b ob hb hb2 e => hm.heap b ob (fun hmem => ?_) e) hS' hacc
  rcases List.mem_cons.mp hmem with e' | hmem
  · exact hb e'
  · exact hb2 (List.mem_singleton.mp hmem)
theorem dl_init_rev {R : Result → Shared → Prop} {it l : Addr} {items : Array Value} (hh : A.handled = none) (hit : s.heap.IsRevIter it l ((items.size : Int) - 1)) (hl : s.heap.IsList l items) (hne : l ≠ it) (hn : items.size ≤ sizeLine) (S : Addr) (hS : s.heap.get? S = some { cls := .type "list", data := .seq #[] }) (hSi : S ≠ it) (hSl : S ≠ l)
    (hR : ∀ h' tk acc' c', (∀ b o, b ≠ S → b ≠ it → s.heap.get? b = some o → h'.get? b = some o) → h'.get? S = some { cls := .type "list", dict := none, data := .seq acc' c', slots := #[] } →
      ItemsOf (fun i v => items[items.size - 1 - i]? = some v) acc' items.size → R (.ok (.ret .none)) { s with heap := h', toks := tk }) :
    wpAny (model prog w) A.in1 (Builtin.«list.__init__» ⟨[.ref S, .ref it], []⟩)
      (fun fin s' => match fin with | .done f => R (.ok f) s' | .again c' => c'.quiet = true ∧ codeAny (model prog w) A c' R s') (fun e s' => R (.error e) s') s := by
  show wpAny _ _ (do let old ← Builtin.List.listItems (.ref S); Builtin.List.listUpdate (.ref S) (fun _ => #[]); letGo old.toList.reverse; Builtin.List.listExtendWith (.ref S) (.ref it) .none) _ _ s
  refine wpAny_bind ?_
  unfold Builtin.List.listItems
  refine wpAny_bind (wpAny_seqItems hS rfl (wpAny_pure ?_))
  show wpAny _ _ (updateSeq S (fun _ => #[]) >>= fun _ => letGo (#[] : Array Value).toList.reverse >>= fun _ => Builtin.List.listExtendWith (.ref S) (.ref it) .none) _ _ s
  refine wpAny_bind (wpAny_updateSeq hS rfl ?_)
  have hS₂ := Heap.get?_update_self (Obj.mapSeq (fun _ => (#[] : Array Value))) hS rfl
  have oth : ∀ b o, b ≠ S → s.heap.get? b = some o → (s.heap.update S (Obj.mapSeq (fun _ => (#[] : Array Value)))).get? b = some o :=
    fun b o hb e => (Heap.get?_update_other _ _ (Ne.symm hb)).trans e
  refine wpAny_bind (wpAny_letGo ?_)
  obtain ⟨ol, ho, hc, n, hd⟩ := id hl
  refine dl_extend_rev hh (hit.at fun o e => oth it o (Ne.symm hSi) e) ⟨ol, oth l ol (Ne.symm hSl) ho, hc, n, hd⟩ hne hn S .none _ hS₂ hSi hSl fun h' tk acc' c' hk hS' hacc => ?_
  exact hR h' tk acc' c' (fun b o hb hb2 e => hk b o hb hb2 (oth b o hb e)) hS' hacc
theorem dl_list_rev {it l : Addr} {items : Array Value} {Q : Value → Shared → Prop} (hh : A.handled = none) (hit : s.heap.IsRevIter it l ((items.size : Int) - 1)) (hl : s.heap.IsList l items) (hne : l ≠ it) (hn : items.size ≤ sizeLine)
    (hQ : ∀ h' tk acc' c', (∀ b o, b ≠ it → s.heap.get? b = some o → h'.get? b = some o) →
      h'.get? s.heap.objs.size = some { cls := .type "list", dict := none, data := .seq acc' c', slots := #[] } → ItemsOf (fun i v => items[items.size - 1 - i]? = some v) acc' items.size → Q (.ref s.heap.objs.size) { s with heap := h', toks := tk }) :
    wpAny (model prog w) A (call (.type "list") [.ref it]) Q E s := by
  refine callType_codes (Q₁ := fun obj s₁ => obj = .ref s.heap.objs.size ∧ s₁ = { s with heap := s.heap.push { cls := .type "list", data := .seq #[] } }) PySem.F.called_list (PySem.F.typeCall_list_1 _) PySem.F.entry_list_init
    (code_list_new _ ⟨rfl, rfl⟩) fun obj s₁ h₁ => ?_
  obtain ⟨rfl, rfl⟩ := h₁
  have hS : (s.heap.push { cls := .type "list", data := .seq #[] }).get? s.heap.objs.size = some { cls := .type "list", data := .seq #[] } := Heap.get?_push_size _ rfl
  obtain ⟨oi, hoi, _⟩ := id hit
  obtain ⟨ol, hol, _⟩ := id hl
  refine ⟨⟨_, hS, rfl⟩, PySem.F.args_list_init_2 _ _, dl_init_rev (A := A.in1) hh (hit.at fun o e => Heap.get?_push_of_some _ e) (hl.push _) hne hn _ hS (Nat.ne_of_gt (Heap.lt_size hoi)) (Nat.ne_of_gt (Heap.lt_size hol)) fun h' tk acc' c' hk hS' hacc => ?_⟩
  exact ⟨rfl, hQ h' tk acc' c' (fun b o hb e => hk b o (Nat.ne_of_lt (Heap.lt_size e)) hb (Heap.get?_push_of_some _ e)) hS' hacc⟩
end
/-- list(reversed(x)), x a list: a new list -/
def tLstRev (K : PySem.W.Frag) (te : TE) : TE := fun σ H Q => te σ H fun v H1 => ∃ (a : Addr) (xs : List V), v = .ref a ∧ SqL K H1 a xs ∧ ∀ q, H1 q = none → Q (.ref q) (upd H1 q (.lst xs.reverse))
theorem pe_lstRev {X : Cx} {e : Expr} {te : TE} {p p2 pos pos2 : Pos} (hc : X.calm = true) (hg : Gl X "list") (hm : X.mg "list" = none) (hg2 : Gl X "reversed") (hm2 : X.mg "reversed" = none) (he : PE X e te)
    (hs : starEach [e] X.env = (false, eval e X.env) :: starEach [] X.env := by rfl)
    (hs2 : starEach [.Call (.Name "reversed" p2) [e] [] pos2] X.env = (false, eval (.Call (.Name "reversed" p2) [e] [] pos2) X.env) :: starEach [] X.env := by rfl) :
    PE X (.Call (.Name "list" p) [.Call (.Name "reversed" p2) [e] [] pos2] [] pos) (tLstRev X.K te) := by
  refine ⟨fun pins s σ H Q I h => ?_⟩
  refine Call_ (ld_blt I hg hm boot_list (PyProof.Rows.callWith_type1 (args_cons (Call_ (ld_blt I hg2 hm2 PyProof.Rows.boot_reversed (PyProof.Rows.callWith_type1 (args_cons (thn (he.run pins s σ H _ I h) fun u s1 ⟨v, H1, I1, r1, q1⟩ => args_nil ?_) hs) hs rfl))) hs2) hs2 rfl))
  obtain ⟨a, xs, ev, hq, q⟩ := q1
  subst ev
  obtain rfl : u = Value.ref a := r1
  obtain ⟨its, rv, p', hz⟩ := I1.list hq
  refine call_reversed_list p'.isList (args_nil ?_)
  have k0 : ∀ b o, s1.heap.get? b = some o → (s1.heap.push (revObj a ((its.toArray.size : Int) - 1))).get? b = some o := fun b o e => Heap.get?_push_of_some _ e
  have I2 : Inv X pins σ H1 { s1 with heap := s1.heap.push (revObj a ((its.toArray.size : Int) - 1)) } := I1.kept (t' := s1.toks) k0
  obtain ⟨f0, f1, f2, f3, f4, f5⟩ := I1.fpOk (H' := H1) (b := s1.heap.objs.size) (Nat.le_refl _) (I1.hok.fresh (Nat.le_refl _))
  have hl := p'.isList
  obtain ⟨ol, hol, _⟩ := id hl
  have hne : a ≠ s1.heap.objs.size := Nat.ne_of_lt (Heap.lt_size hol)
  have hn : its.toArray.size ≤ sizeLine := by rw [List.size_toArray, ← rv.length]; exact hz
  refine dl_list_rev (s := { s1 with heap := s1.heap.push (revObj a ((its.toArray.size : Int) - 1)) }) (I1.ok.hd hc) ⟨_, Heap.get?_push_size _ rfl, rfl, rfl⟩ (hl.push _) hne hn fun h' tk acc c' hk hS' hi => ?_
  have I3 := I2.turnedNew (t' := tk) (ch := [s1.heap.objs.size]) (T := (s1.heap.push (revObj a ((its.toArray.size : Int) - 1))).objs.size) (ob := .lst xs.reverse) (h' := h') (fun b o hb e => hk b o (fun z => hb (by rw [z]; exact List.mem_cons_self)) e) (fun b hb => by
    have : b = s1.heap.objs.size := by simpa using hb
    subst this
    exact ⟨f0, f1, f2, f3, f4, f5⟩) (Nat.le_refl _) (show ObjOk X.prog X.w _ h' _ (.lst xs.reverse) from ⟨by rw [List.length_reverse]; exact hz, acc.toList, c', vals_rev rv hi, by rw [Array.toArray_toList]; exact hS'⟩)
  exact ⟨.ref _, _, I3, rfl, q _ (I2.hok.fresh (Nat.le_refl _))⟩
end RT
namespace DL
open PySem PySem.Spec L2
section
variable {X : Cx} {Γ : Ctx} {W : WX} {e : Expr} {f : PF}
def pLRev (f : PF) : PF := fun ρ => match f ρ with
  | some (.lst _ ds) => some (.lst .own ds.reverse)
  | _ => none
theorem Reps.rev {K : PySem.W.Frag} {cn : Nm} {F : Addr → Prop} {H : Hp} : ∀ {ds : List D} {vs : List V} {fp : Fp}, Reps K cn F H ds vs fp → Reps K cn F H ds.reverse vs.reverse fp
  | [], vs, fp, h => by rw [h.1]; exact ⟨rfl, h.2⟩
  | d :: ds, vs, fp, ⟨v, r, f, g, e, s, h1, h2⟩ => by
    rw [e, List.reverse_cons, List.reverse_cons]
    exact Reps.app (Reps.rev h2) (Reps.one h1) fun a => by rw [s a]; omega
theorem d_lrev {p p2 pos pos2 : Pos} (hK : X.K = Γ.K) (hc : X.calm = true) (hg : Gl X "list") (hm : X.mg "list" = none) (hg2 : Gl X "reversed") (hm2 : X.mg "reversed" = none) (he : PE X e (tP Γ f))
    (hs : starEach [e] X.env = (false, eval e X.env) :: starEach [] X.env := by rfl)
    (hs2 : starEach [.Call (.Name "reversed" p2) [e] [] pos2] X.env = (false, eval (.Call (.Name "reversed" p2) [e] [] pos2) X.env) :: starEach [] X.env := by rfl) :
    PE X (.Call (.Name "list" p) [.Call (.Name "reversed" p2) [e] [] pos2] [] pos) (tP Γ (pLRev f)) :=
  PE.wk (RT.pe_lstRev hc hg hm hg2 hm2 he hs hs2) fun σ H Q ⟨hold, ρ, s, d, e1, k⟩ => by
    unfold pLRev at e1
    split at e1
    · rename_i m ds e2
      cases e1
      refine ⟨hold, ρ, s, _, e2, fun v H1 x1 s1 => ?_⟩
      obtain ⟨F, fp, h1, k1, k2⟩ := s1.open1
      obtain ⟨p, vs, f', ev, q, r⟩ := h1
      rw [hK]
      refine ⟨p, vs, ev, lst_sq q, fun t ht => k _ _ (x1.trans (Ext.upd ht)) (k2 t _ _ _ (fun a => f' a + if a = t then 1 else 0) ht (fun a => by have := lst_le q a; show f' a + _ ≤ fp a + _; omega) (rep_new upd_same ?_))⟩
      exact Reps.go (Ext.upd ht).keep _ _ _ (fun _ => trivial) (fun a o _ => Ext.upd ht a o) (Reps.rev r)
    · cases e1
end
end DL

end
section
/-! DL29: list of a dict with tuple keys; slices whose parts change something. -/
open PySem PySem.Spec L2
namespace DL
section
variable {X : Cx} {Γ : Ctx} {W : WX} {e a b : Expr} {f g : PF} {pos : Pos}
def dKy1 : Ky → D
  | .int i => .int i
  | .str s => .str s
  | .tup _ => .non
def dKyT : Ky → D
  | .tup ks => .tup (ks.map dKy1)
  | k => dKy1 k
theorem rep_key {K : PySem.W.Frag} {cn : Nm} {F : Addr → Prop} {H : Hp} (key : List Key) {b : Addr} (h : H b = some (.tup (key.map kV))) : Rep K cn F H (dKyT (ofKeys key)) (.ref b) fp0 := by
  refine ⟨b, key.map kV, rfl, h, ?_⟩
  have : ∀ ks : List Key, Reps K cn F H ((ks.map ofKey).map dKy1) (ks.map kV) fp0 := by
    intro ks
    induction ks with
    | nil => exact ⟨rfl, fun _ => rfl⟩
    | cons k ks ih =>
      refine ⟨kV k, ks.map kV, fp0, fp0, rfl, fun _ => rfl, ?_, ih⟩
      cases k <;> exact ⟨rfl, fun _ => rfl⟩
  exact this key
def oListK : ON
  | [.dic m .t kvs] => if m = .ro then none else some (.lst .own (kvs.map fun p => dKyT p.1))
  | _ => none
theorem repK_keys {K : PySem.W.Frag} {cn : Nm} {F : Addr → Prop} {H : Hp} : ∀ {kvs : List (Ky × D)} {kv : List (List Key × V)} {fp : Fp}, RepK K cn F H kvs (kv.map fun p => (ofKeys p.1, p.2)) fp → kvs.map (·.1) = kv.map fun p => ofKeys p.1
  | [], kv, fp, h => by
    have : kv = [] := by have := h.1; simpa using this
    subst this; rfl
  | (k, d) :: kvs, [], fp, ⟨v, r, f, g, e, _⟩ => by cases e
  | (k, d) :: kvs, p :: kv, fp, ⟨v, r, f, g, e, s, h1, h2⟩ => by
    rw [List.map_cons] at e
    obtain ⟨e1, e2⟩ := List.cons.inj e
    subst e2
    rw [List.map_cons, List.map_cons, repK_keys h2]
    cases e1
    rfl
theorem oListK_ok : OpN Γ (fun xs H Q => ∃ d kvs, xs = [V.ref d] ∧ Rd H d (.dT kvs) ∧ ∀ p bs, H p = none → IsKeys H kvs bs → Q (.ref p) (upd H p (.lst (bs.map V.ref)))) oListK := fun hold ρ σ H vs ds d Q e l s k => by
  unfold oListK at e
  split at e
  · split at e
    · cases e
    · rename_i m kvs hm
      cases e
      obtain ⟨v, rfl, s⟩ := one_of l s
      obtain ⟨F, fp, h, _⟩ := s.open1
      obtain ⟨a, f, ev, hq⟩ := h
      subst ev
      rcases hq with ⟨hk, _⟩ | ⟨_, kv, hq, hr⟩
      · cases hk
      · have hkeys := repK_keys hr
        refine ⟨a, kv, rfl, hq.rd, fun p bs hp hb => k _ _ (Ext.upd hp) ?_⟩
        refine SI.newBlock (vs := []) (ds := []) (v := .ref p) (p := p) s.drop rfl hp fun F fa r => ⟨fun b => fp0 b + if b = p then 1 else 0, fun b => by show 0 + _ ≤ fa b + _; omega, ?_⟩
        refine rep_new upd_same ?_
        have hx : ∀ b ys, H b = some (.tup ys) → upd H p (HO.lst (bs.map V.ref)) b = some (.tup ys) := fun b ys h => by
          rw [upd_ne]
          · exact h
          · rintro rfl; rw [hp] at h; cases h
        have e1 : (kvs.map fun p => dKyT p.1) = (kv.map fun p => ofKeys p.1).map dKyT := by rw [← hkeys, List.map_map]; rfl
        rw [e1]
        clear hr hkeys e1 r hq
        generalize upd H p (HO.lst (bs.map V.ref)) = H' at hx ⊢
        induction hb with
        | nil => exact ⟨rfl, fun _ => rfl⟩
        | @cons x b xs bs h t ih => exact ⟨.ref b, _, fp0, fp0, rfl, fun _ => rfl, rep_key x.1 (hx _ _ h), ih⟩
  · cases e
/-- a part of a slice that may change something -/
abbrev OEF := Env → Option (Res (Option Int))
def tOE (Γ : Ctx) (W : WX) (p : OEF) : TO := fun σ H Q => ∃ hold ρ, SI Γ hold ρ σ H ∧ hold.noBrw ∧ match p ρ with
  | none => False
  | some (.ok i ρ') => ∀ H', SI Γ hold ρ' σ H' → Q i H'
  | some (.ex n xs ρ') => ∀ c od H', SI Γ hold ρ' σ H' → ExO Γ.cn H' n xs c od → W c od σ H'
def oEN : OEF := fun ρ => some (.ok none ρ)
def oES (f : EF) : OEF := fun ρ => match f ρ with
  | some (.ok (.int i) ρ') => some (.ok (some i) ρ')
  | some (.ex n xs ρ') => some (.ex n xs ρ')
  | _ => none
theorem oe_none : PO X none (tOE Γ W oEN) := PO.wk po_none fun σ H Q ⟨hold, ρ, s, nb, k⟩ => k H s
theorem oe_some {f : EF} (h : PE X e (tE Γ W f)) : PO X (some e) (tOE Γ W (oES f)) := PO.wk (po_some h) fun σ H Q ⟨hold, ρ, s, nb, k⟩ => by
  unfold oES at k
  refine ⟨hold, ρ, s, nb, ?_⟩
  cases q : f ρ with
  | none => rw [q] at k; exact k.elim
  | some r =>
    rw [q] at k
    cases r with
    | ex n xs ρ' => exact k
    | ok d ρ' =>
      cases d with
      | int i => exact fun v H1 s1 => ⟨i, s1.topInt, k H1 s1.drop⟩
      | _ => exact k.elim
def eSl (f : EF) (l h : OEF) : EF := fun ρ => match f ρ with
  | some (.ok x ρ1) => if x.noBrw = true then (match l ρ1 with
    | some (.ok lo ρ2) => (match h ρ2 with
      | some (.ok hi ρ3) => (cutD x lo hi).map (.ok · ρ3)
      | some (.ex n xs ρ3) => some (.ex n xs ρ3)
      | none => none)
    | some (.ex n xs ρ2) => some (.ex n xs ρ2)
    | none => none) else none
  | some (.ex n xs ρ1) => some (.ex n xs ρ1)
  | none => none
theorem e_sl {lo hi : Option Expr} {f : EF} {l h : OEF} {p2 : Pos} (hK : X.K = Γ.K) (ha : PE X a (tE Γ W f)) (hl : PO X lo (tOE Γ W l)) (hh : PO X hi (tOE Γ W h)) : PE X (.Subscript a (.Slice lo hi none p2) pos) (tE Γ W (eSl f l h)) :=
  PE.wk (pe_slice (SlR.or sl_list (SlR.or sl_str sl_tup)) ha hl hh) fun σ H Q ⟨hold, ρ, s, nb, k⟩ => by
    unfold eSl at k
    refine ⟨hold, ρ, s, nb, ?_⟩
    cases q1 : f ρ with
    | none => rw [q1] at k; exact k.elim
    | some r1 =>
      rw [q1] at k
      cases r1 with
      | ex n xs ρ1 => exact k
      | ok x ρ1 =>
        dsimp only at k ⊢
        by_cases nx : x.noBrw = true
        · rw [if_pos nx] at k
          intro v H1 s1
          refine ⟨_, ρ1, s1, noBrw_cons nb nx, ?_⟩
          cases q2 : l ρ1 with
          | none => rw [q2] at k; exact k.elim
          | some r2 =>
            rw [q2] at k
            cases r2 with
            | ex n xs ρ2 => exact fun c od H' s' => k c od H' s'.drop
            | ok i ρ2 =>
              dsimp only at k ⊢
              intro H2 s2
              refine ⟨_, ρ2, s2, noBrw_cons nb nx, ?_⟩
              cases q3 : h ρ2 with
              | none => rw [q3] at k; exact k.elim
              | some r3 =>
                rw [q3] at k
                cases r3 with
                | ex n xs ρ3 => exact fun c od H' s' => k c od H' s'.drop
                | ok j ρ3 =>
                  dsimp only at k ⊢
                  intro H3 s3
                  cases e : cutD x i j with
                  | none => rw [e] at k; exact k.elim
                  | some d =>
                    rw [e] at k
                    have k : ∀ v H', SI Γ ((v, d) :: hold) ρ3 σ H' → Q v H' := k
                    obtain ⟨F, fp, h1, k1, k2⟩ := s3.open1
                    rw [hK]
                    unfold cutD at e
                    split at e
                    · cases e
                      obtain ⟨p, vs, f', ev, q, r⟩ := h1
                      obtain ⟨g, le, hc⟩ := r.cut i j
                      refine .inl ⟨p, vs, ev, lst_sq q, fun t ht => k _ _ (k2 t _ _ _ (fun a => g a + if a = t then 1 else 0) ht (fun a => by have := le a; have := lst_le q a; show g a + _ ≤ fp a + _; omega) (rep_new upd_same ?_))⟩
                      rw [cutL_V]
                      exact Reps.go (Ext.upd ht).keep _ _ _ (fun _ => trivial) (fun a o _ => Ext.upd ht a o) hc
                    · split at e
                      · rename_i z
                        cases e
                        exact .inr (.inl ⟨_, h1.1, z, k _ _ (s3.drop.str _)⟩)
                      · cases e
                    · obtain ⟨p, vs, ev, q, r⟩ := h1
                      split at e
                      · cases e
                      · rename_i ds hz
                        cases e
                        obtain ⟨g, le, hc⟩ := r.cut i j
                        refine .inr (.inr ⟨p, vs, ev, SqT.of q, by rw [← r.len]; exact hz, fun t ht => k _ _ (k2 t _ _ _ g ht (fun a => by have := le a; omega) ⟨t, _, rfl, upd_same, ?_⟩)⟩)
                        rw [cutL_V]
                        exact Reps.go (Ext.upd ht).keep _ _ _ (fun _ => trivial) (fun a o _ => Ext.upd ht a o) hc
                    · cases e
        · rw [if_neg nx] at k; exact k.elim
end
end DL

end
section
/-! DL30: x = y[..] where the thing is then changed by the name x: a block in which the thing is taken out of y and put back at the end. -/
open PySem PySem.Spec L2
namespace DL
@[reducible] def Ctx.al (Γ : Ctx) (x y : Nat) (v r : V) (H : Hp) (F L : Addr → Prop) : Ctx := ⟨Γ.K, Γ.cn, H, F, L, Γ.own, fun i => if i = x then some v else if i = y then some r else Γ.lv i⟩
structure AlS (Γ : Ctx) (x y : Nat) (d : D) (π : List Stp) (Γ' : Ctx) : Prop where
  sh : ∃ v r H F L, Γ' = Γ.al x y v r H F L
  bk : ∀ hold ρ σ H sub, SI Γ' hold ρ σ H → getS ρ x = some sub → SI Γ hold (setS (setS ρ x none) y (some (dSet d π sub))) σ H
  wk : ∀ hold ρ σ H, SI Γ' hold ρ σ H → SI Γ hold ρ σ H
section
variable {Γ : Ctx} {hold : Hold} {ρ : Env} {σ : L2.St} {H : Hp}
theorem SI.out {x y : Nat} {d : D} {ds : List D} {π : List Stp} {r v : V} (s : SI Γ hold ρ σ H) (hi : getS ρ y = some d) (hx : dAt d π = some (.lst .own ds)) (ok : okAt d π = true) (hne : x ≠ y) (hlv : Γ.lv x = none) (ownx : Γ.own x = true) (owny : Γ.own y = true) (hxl : x < ρ.length)
    (er : σ[y]? = some (some r)) (fv : follow Γ.K H r π v) :
    ∃ Γ', AlS Γ x y d π Γ' ∧ SI Γ' hold (setS (setS ρ y none) x (some (.lst .own ds))) (σ.set x (some v)) H := by
  obtain ⟨F, fh, fs, s⟩ := s
  obtain ⟨r', f0, gs, er', hr, nb, e0, hsl⟩ := s.ss.take hi
  rw [er] at er'; cases er'
  obtain ⟨w, f, g, fw, e1, hxw, wd⟩ := Rep.focus π d r f0 _ hr hx ok
  obtain rfl := follow_det π fw fv
  have hf : ∃ p, 0 < f p := by
    obtain ⟨p, ws, f1, ew, q, _⟩ := hxw
    rcases q with q | q
    · exact ⟨p, by have := q.2 p; simp at this; omega⟩
    · cases q.1
  obtain ⟨p, hp⟩ := hf
  have nbs : D.noBrw (.lst .own ds) = true := by
    have : ∀ (π : List Stp) (d x : D), D.chk (fun m => !m.isBrw) d = true → dAt d π = some x → D.chk (fun m => !m.isBrw) x = true := by
      intro π
      induction π with
      | nil => intro d x h e; rw [dAt] at e; cases e; exact h
      | cons t π ih =>
        intro d x h e
        cases d <;> cases t <;> simp [dAt, Option.bind_eq_some_iff] at e
        · obtain ⟨y, h1, h2⟩ := e; exact ih y x (chkL_get _ h h1) h2
        · obtain ⟨y, h1, h2⟩ := e; exact ih y x (chkL_get _ (and_r h) h1) h2
        · obtain ⟨y, h1, h2⟩ := e; exact ih y x (chkK_at _ (and_r h) h1) h2
        · obtain ⟨y, h1, h2⟩ := e; exact ih y x (chkF_at _ _ (and_r h) h1) h2
    exact this π d _ nb hx
  have hlen : x < (setS ρ y none).length := by rw [setS_length]; exact hxl
  obtain ⟨g', le', hsl2⟩ := Slots.put (fp' := gs) x w (.lst .own ds) hsl hlen nbs hxw
  have tot : ∀ a, fh a + g' a + g a ≤ fh a + fs a := fun a => by have := le' a; have := e0 a; have := e1 a; omega
  have mutg : ∀ a, 0 < g a → Mut (H a) := fun a h => Rep.alloc _ _ _ hr a (by have := e1 a; omega)
  have hxs : x < σ.length := by rw [← Slots.len s.ss]; exact hxl
  have s1 : SIx (Γ.al x y w r H F (fun a => 0 < fh a + g' a)) F fh g' hold (setS (setS ρ y none) x (some (.lst .own ds))) (σ.set x (some w)) H := by
    refine ⟨s.hh, hsl2, fun a => by have := tot a; have := s.nd a; omega, fun a h => ⟨(s.ow a (by have := tot a; omega)).1, .inr h⟩, fun j z hz hj => ?_, fun _ h => h, fun _ h => .inl h, s.al, fun _ _ h _ => h, fun _ h => h, fun j z hz => ?_⟩
    · rcases getS_set hz with ⟨e2, e3⟩ | ⟨e2, e3⟩
      · subst e2
        rw [show Γ.own x = true from ownx] at hj; cases hj
      · rcases getS_set e3 with ⟨e4, e5⟩ | ⟨e4, e5⟩
        · cases e5
        · exact s.mo j z e5 hj
    · dsimp only at hz
      by_cases c1 : j = x
      · subst c1
        rw [if_pos rfl] at hz; cases hz
        rw [List.getElem?_set_self hxs]
      · rw [if_neg c1] at hz
        rw [List.getElem?_set_ne (fun z => c1 z.symm)]
        by_cases c2 : j = y
        · subst c2
          rw [if_pos rfl] at hz; cases hz
          exact er
        · rw [if_neg c2] at hz
          exact s.lk j z hz
  have dmn : ∀ a, H a = none → Γ.H0 a = none := fun a h => by
    cases q : Γ.H0 a with
    | none => rfl
    | some o => exact (s.dm a (by rw [q]; exact fun z => nomatch z) h).elim
  have ow0 : ∀ a, (H a = none ∨ 0 < fh a + g' a) → Γ.H0 a = none ∨ Γ.L0 a := fun a h => by
    rcases h with h | h
    · exact .inl (dmn a h)
    · exact (s.ow a (by have := tot a; omega)).2
  have lkb : ∀ {σ2 : L2.St}, (∀ (i : Nat) (v1 : V), (Γ.al x y w r H F (fun a => 0 < fh a + g' a)).lv i = some v1 → σ2[i]? = some (some v1)) → ∀ (i : Nat) (v1 : V), Γ.lv i = some v1 → σ2[i]? = some (some v1) := fun {σ2} lk i v1 h => by
    apply lk
    show (if i = x then some w else if i = y then some r else Γ.lv i) = some v1
    by_cases c1 : i = x
    · subst c1; rw [hlv] at h; cases h
    · rw [if_neg c1]
      by_cases c2 : i = y
      · subst c2
        rw [if_pos rfl]
        have := s.lk i v1 h
        rw [er] at this; cases this; rfl
      · rw [if_neg c2]; exact h
  have F2b : ∀ {F2 : Addr → Prop}, (∀ a, F2 a → F a ∨ H a = none ∨ 0 < fh a + g' a) → ∀ a, F2 a → Γ.F0 a ∨ Γ.H0 a = none ∨ Γ.L0 a := fun {F2} h a q => by
    rcases h a q with z | z
    · exact s.F2 a z
    · exact .inr (ow0 a z)
  have kpb : ∀ {H2 : Hp}, (∀ a o, H a = some o → ¬ (0 < fh a + g' a) → H2 a = some o) → ∀ a o, Γ.H0 a = some o → ¬ Γ.L0 a → H2 a = some o := fun {H2} k a o h n => by
    refine k a o (s.kp a o h n) fun q => ?_
    rcases ow0 a (.inr q) with z | z
    · rw [h] at z; cases z
    · exact n z
  have moB : ∀ {ρ2 : Env}, (∀ i d, getS ρ2 i = some d → Γ.own i = false → d.noOwn = true) → ∀ i d, getS ρ2 i = some d → Γ.own i = false → d.noOwn = true := fun h => h
  refine ⟨_, ⟨⟨w, r, H, F, _, rfl⟩, ?_, ?_⟩, F, fh, g', s1⟩
  · rintro hold2 ρ2 σ2 H2 sub ⟨F2, fh2, fs2, s2⟩ hsub
    have lx : σ2[x]? = some (some w) := s2.lk x w (by show (if x = x then _ else _) = _; rw [if_pos rfl])
    have ly : σ2[y]? = some (some r) := s2.lk y r (by show (if y = x then _ else if y = y then _ else _) = _; rw [if_neg (fun z => hne z.symm), if_pos rfl])
    obtain ⟨w2, f2, gs2, ew2, hr2, nb2, e2, hsl3⟩ := s2.ss.take hsub
    rw [lx] at ew2; cases ew2
    have nL : ∀ a, 0 < g a → ¬ (0 < fh a + g' a) := fun a h q => by have := tot a; have := s.nd a; omega
    have K0 : Keep F F2 H H2 False := by
      refine ⟨s2.F1, fun a o nm h => s2.kp a o h fun q => ?_, fun a u hF h => s2.kp a u h fun q => ?_, fun z => z.elim⟩
      · have := s1.alloc a q; rw [h] at this; exact nm this
      · exact (s.ow a (by have q : 0 < fh a + g' a := q; have := tot a; omega)).1 hF
    have hnew := wd sub f2 F2 H2 K0 nb (fun a o h q => s2.kp a o q (nL a h)) (fun z => by have := z p; omega) hr2
    have hyl : y < (setS ρ2 x none).length := by
      rw [setS_length, Slots.len s2.ss]
      exact (List.getElem?_eq_some_iff.mp ly).1
    obtain ⟨g3, le3, hsl4⟩ := Slots.put (fp' := gs2) y r (dSet d π sub) hsl3 hyl (chk_dSet _ π d sub nb nb2) hnew
    have es : σ2.set y (some r) = σ2 := by
      obtain ⟨hl, e⟩ := List.getElem?_eq_some_iff.mp ly
      rw [← e]; exact List.set_getElem_self hl
    rw [es] at hsl4
    have zer : ∀ a, 0 < g a → fh2 a + fs2 a = 0 := fun a h => by
      by_cases q : 0 < fh2 a + fs2 a
      · rcases (s2.ow a q).2 with z | z
        · have := mutg a h; rw [show H a = none from z] at this; exact this.elim
        · exact (nL a h z).elim
      · omega
    have le4 : ∀ a, fh2 a + g3 a ≤ fh2 a + fs2 a + g a := fun a => by
      have := le3 a; have := e2 a
      have q : g3 a ≤ gs2 a + (f2 a + g a) := le3 a
      omega
    refine ⟨F2, fh2, g3, s2.hh, hsl4, fun a => ?_, fun a h => ?_, fun j z hz hj => ?_, fun a h => s2.F1 a (s.F1 a h), F2b s2.F2, s2.al, kpb s2.kp, fun a h => s2.dm a (s.dm a h), lkb s2.lk⟩
    · by_cases h : 0 < g a
      · have := zer a h; have := le4 a; have := tot a; have := s.nd a; omega
      · have := le4 a; have q : fh2 a + fs2 a ≤ 1 := s2.nd a; omega
    · by_cases q : 0 < g a
      · obtain ⟨o1, o2⟩ := s.ow a (by have := tot a; omega)
        refine ⟨fun z => ?_, o2⟩
        rcases s2.F2 a z with z | z | z
        · exact o1 z
        · have := mutg a q; rw [show H a = none from z] at this; exact this.elim
        · exact nL a q z
      · obtain ⟨o1, o2⟩ := s2.ow a (by have := le4 a; omega)
        exact ⟨o1, ow0 a o2⟩
    · rcases getS_set hz with ⟨e2, e3⟩ | ⟨e2, e3⟩
      · subst e2; rw [owny] at hj; cases hj
      · rcases getS_set e3 with ⟨e4, e5⟩ | ⟨e4, e5⟩
        · cases e5
        · exact s2.mo j z e5 hj
  · rintro hold2 ρ2 σ2 H2 ⟨F2, fh2, fs2, s2⟩
    exact ⟨F2, fh2, fs2, s2.hh, s2.ss, s2.nd, fun a h => ⟨(s2.ow a h).1, ow0 a (s2.ow a h).2⟩, s2.mo, fun a h => s2.F1 a (s.F1 a h), F2b s2.F2, s2.al, kpb s2.kp, fun a h => s2.dm a (s.dm a h), lkb s2.lk⟩
end

/-! ### the block -/
abbrev LE := Env → Option (List Stp × Env)
def tLE (Γ : Ctx) (i : Nat) (q : LE) : TE := fun σ H Q => ∃ hold ρ, SI Γ hold ρ σ H ∧ hold.noBrw ∧ match q ρ with
  | none => False
  | some (π, ρ1) => ∃ d x, getS ρ1 i = some d ∧ dAt d π = some x ∧ okAt d π = true ∧ ∀ v H', SI Γ hold ρ1 σ H' → (∃ r, σ[i]? = some (some r) ∧ follow Γ.K H' r π v) → Q v H'
def leP (πf : LF) : LE := fun ρ => (πf ρ).map fun π => (π, ρ)
def leIx (i : Nat) (g : EF) : LE := fun ρ => match getS ρ i, g ρ with
  | some _, some (.ok (.int j) ρ1) => (match getS ρ1 i with
    | some (.lst _ ds) => (ixN ds.length j).map fun k => ([.ix k], ρ1)
    | _ => none)
  | _, _ => none
abbrev BlF := D → List Stp → SF
def tBl (Γ : Ctx) (W : WX) (x y : Nat) (g : BlF) : TS := fun D σ H => ∃ Γ' d π hold ρ, AlS Γ x y d π Γ' ∧ SI Γ' hold ρ σ H ∧ hold.noBrw ∧ Good Γ W hold D (g d π ρ)
def bCons (g : SF) (h : BlF) : BlF := fun d π ρ => match g ρ with
  | some (.nx ρ') => h d π ρ'
  | r => r
def bEnd (x y : Nat) (h : SF) : BlF := fun d π ρ => match getS ρ x with
  | some sub => h (setS (setS ρ x none) y (some (dSet d π sub)))
  | none => none
def sAl (x y : Nat) (q : LE) (g : BlF) : SF := fun ρ => match q ρ with
  | some (π, ρ1) => (match getS ρ1 y with
    | some d => (match dAt d π with
      | some (.lst .own ds) => if okAt d π = true ∧ x < ρ1.length then g d π (setS (setS ρ1 y none) x (some (.lst .own ds))) else none
      | _ => none)
    | none => none)
  | none => none
section
variable {X : Cx} {Γ : Ctx} {W : WX} {e a b o ix : Expr} {es : List Expr} {pos : Pos} {st : Stmt} {rest : List Stmt}
theorem le_p {i : Nat} {πf : LF} (h : PE X e (tL Γ i πf)) : PE X e (tLE Γ i (leP πf)) := PE.wk h fun σ H Q ⟨hold, ρ, s, nb, k⟩ => by
  unfold leP at k
  cases q : πf ρ with
  | none => rw [q] at k; exact k.elim
  | some π =>
    rw [q] at k
    obtain ⟨d, x, h1, h2, h3, k⟩ := k
    exact ⟨hold, ρ, s, π, d, x, q, h1, h2, h3, fun v H' _ s' hf => k v H' s' hf⟩
/-- an own name, to be looked at behind an index with effects -/
theorem le_ix {i : Nat} {x : Str} {g : EF} {pos' : Pos} (hK : X.K = Γ.K) (hN : X.N[i]? = some x) (hv : Vis X.env.scope x) (hi : PE X ix (tE Γ W g)) (hs : PlainIx ix) (hd : (x == ("__debug__" : Str)) = false := by decide) (hcd : (x == ("__classdict__" : Str)) = false := by decide) : PE X (.Subscript (.Name x pos') ix pos) (tLE Γ i (leIx i g)) :=
  PE.wk (pe_ix ix_seq (pe_var hN hv hd hcd) hi hs) fun σ H Q ⟨hold, ρ, s, nb, k⟩ => by
    unfold leIx at k
    cases q4 : getS ρ i with
    | none => rw [q4] at k; exact k.elim
    | some d4 =>
    rw [q4] at k
    cases q : g ρ with
    | none => rw [q] at k; exact k.elim
    | some r1 =>
      rw [q] at k
      cases r1 with
      | ex n fs ρ1 => exact k.elim
      | ok dj ρ1 =>
        cases dj <;> dsimp only at k <;> first | exact k.elim | skip
        rename_i j
        cases q2 : getS ρ1 i with
        | none => rw [q2] at k; exact k.elim
        | some d =>
          rw [q2] at k
          cases d <;> dsimp only at k <;> first | exact k.elim | skip
          rename_i m ds
          cases q3 : ixN ds.length j with
          | none => rw [q3] at k; exact k.elim
          | some kk =>
            rw [q3] at k
            obtain ⟨d0, y, h1, h2, h3, k⟩ := k
            rw [q2] at h1; cases h1
            have hs0 : ∃ r, σ[i]? = some (some r) := by
              obtain ⟨F, fh, fs, s4⟩ := id s
              obtain ⟨v, f, ev, _⟩ := s4.ss.get q4
              exact ⟨v, ev⟩
            obtain ⟨r, er⟩ := hs0
            refine ⟨r, er, hold, ρ, s, nb, ?_⟩
            rw [q]
            dsimp only
            intro u H2 s2
            obtain rfl := s2.topInt
            have s3 := s2.drop
            obtain ⟨F, fh, fs, s4⟩ := id s3
            obtain ⟨r', f0, er', hr, _⟩ := s4.ss.get q2
            rw [er] at er'; cases er'
            have hy : ds[kk]? = some y := by
              have := h2
              simp only [dAt, Option.bind_eq_some_iff] at this
              obtain ⟨z, hz, e⟩ := this
              cases e; exact hz
            obtain ⟨a, vs, f2, ev, hq, hr2⟩ := hr
            subst ev
            obtain ⟨w, fw', ew, hw, _⟩ := hr2.get hy
            have hm : m ≠ .ro := fun z => by subst z; simp [okAt] at h3
            refine .inl ⟨a, vs, j, w, rfl, rfl, by rw [hK]; exact lst_sq hq, ?_, k w H2 s3 ⟨.ref a, er, follow_snocI [] rfl (.inl (lst_at hq hm)) ew⟩⟩
            unfold atI
            rw [← hr2.len, q3]; exact ew
theorem ss_alC {x y : Nat} {g : SF} {h : BlF} (h1 : ∀ v r H F L, PS X st (tS (Γ.al x y v r H F L) W g)) (h2 : PSs X rest (tBl Γ W x y h)) : PSs X (st :: rest) (tBl Γ W x y (bCons g h)) := by
  refine ⟨fun pins s σ H D I ⟨Γ', d, π, hold, ρ, al, si, nb, k⟩ => ?_⟩
  obtain ⟨v, r, H1, F, L, rfl⟩ := al.sh
  refine (pss_cons (h1 v r H1 F L) h2).run pins s σ H D I ⟨hold, ρ, si, nb, ?_⟩
  unfold bCons at k
  cases q : g ρ with
  | none => rw [q] at k; exact k
  | some o =>
    rw [q] at k
    cases o with
    | nx ρ' => exact fun σ' H' s' => ⟨_, d, π, hold, ρ', al, s', nb, k⟩
    | rt d' ρ' => exact fun w σ' H' s' => k w σ' H' (al.wk _ _ _ _ s')
    | ex n fs ρ' => exact fun c od σ' H' s' he => k c od σ' H' (al.wk _ _ _ _ s') he
theorem ss_alE {x y : Nat} {h : SF} (h1 : PSs X rest (tS Γ W h)) : PSs X rest (tBl Γ W x y (bEnd x y h)) :=
  PSs.wk h1 fun D σ H ⟨Γ', d, π, hold, ρ, al, si, nb, k⟩ => by
    unfold bEnd at k
    cases q : getS ρ x with
    | none => rw [q] at k; exact k.elim
    | some sub => rw [q] at k; exact ⟨hold, _, al.bk _ _ _ _ _ si q, nb, k⟩
theorem ss_al {x y : Nat} {nx : Str} {q : LE} {g : BlF} {pos' : Pos} (hne : x ≠ y) (hl : Γ.lv x = none) (ownx : Γ.own x = true) (owny : Γ.own y = true) (hN : X.N.Nodup) (hi : X.N[x]? = some nx) (hx : Loc X.env.scope nx) (he : PE X e (tLE Γ y q)) (h2 : PSs X rest (tBl Γ W x y g))
    (hs : swapsWith e (some (.Name nx pos')) pos.line X.env = pure false := by rfl) (hf : X.fn nx = true ∨ X.env.scope.names.lookup nx = some .local := by first | exact .inl rfl | exact .inr rfl | assumption) :
    PSs X (.Assign [.Name nx pos'] e pos :: rest) (tS Γ W (sAl x y q g)) :=
  PSs.wk (pss_cons (ps_set hN hi hx he hs hf) h2) fun D σ H ⟨hold, ρ, s, nb, k⟩ => by
    refine ⟨hold, ρ, s, nb, ?_⟩
    unfold sAl at k
    cases q0 : q ρ with
    | none => rw [q0] at k; exact k.elim
    | some p =>
      obtain ⟨π, ρ1⟩ := p
      rw [q0] at k
      dsimp only at k ⊢
      cases q1 : getS ρ1 y with
      | none => rw [q1] at k; exact k.elim
      | some d =>
        rw [q1] at k
        dsimp only at k
        cases q2 : dAt d π with
        | none => rw [q2] at k; exact k.elim
        | some z =>
          rw [q2] at k
          cases z with
          | lst m ds =>
           cases m with
           | own =>
            dsimp only at k
            by_cases c : okAt d π = true ∧ x < ρ1.length
            · rw [if_pos c] at k
              refine ⟨d, _, rfl, q2, c.1, fun v H' s' hf' => ?_⟩
              obtain ⟨r, er, fv⟩ := hf'
              obtain ⟨Γ', al, si⟩ := s'.out q1 q2 c.1 hne hl ownx owny c.2 er fv
              exact ⟨Γ', d, π, hold, _, al, si, nb, k⟩
            · rw [if_neg c] at k; exact k.elim
           | _ => exact k.elim
          | _ => exact k.elim
end
end DL

end
section
/-! DL31: x = [y for y in x if y] where x holds own lists: these go over into the new list. -/
open PySem PySem.Spec L2
namespace DL
def isL : D → Bool | .lst _ _ => true | _ => false
def neL : D → Bool | .lst _ ds => !ds.isEmpty | _ => false
def fl : List D → List V → List V
  | d :: ds, w :: ws => if neL d = true then w :: fl ds ws else fl ds ws
  | _, _ => []
theorem fl_snoc : ∀ {ds : List D} {ws : List V} {d : D} {w : V}, ds.length = ws.length → fl (ds ++ [d]) (ws ++ [w]) = fl ds ws ++ (if neL d = true then [w] else [])
  | [], [], d, w, _ => by show (if neL d = true then [w] else []) = _; rfl
  | [], _ :: _, _, _, h => by cases h
  | _ :: _, [], _, _, h => by cases h
  | a :: ds, b :: ws, d, w, h => by
    show (if neL a = true then b :: fl (ds ++ [d]) (ws ++ [w]) else fl (ds ++ [d]) (ws ++ [w])) = (if neL a = true then b :: fl ds ws else fl ds ws) ++ _
    rw [fl_snoc (by simpa using h)]
    split <;> rfl
theorem fl_len : ∀ (ds : List D) (ws : List V), (fl ds ws).length ≤ ds.length
  | [], ws => by cases ws <;> exact Nat.zero_le _
  | d :: ds, [] => Nat.zero_le _
  | d :: ds, w :: ws => by
    show (if neL d = true then w :: fl ds ws else fl ds ws).length ≤ ds.length + 1
    have := fl_len ds ws
    split
    · rw [List.length_cons]; omega
    · omega
theorem fl_rep {K : PySem.W.Frag} {cn : Nm} {F : Addr → Prop} {H : Hp} : ∀ {ds : List D} {ws : List V} {f : Fp}, Reps K cn F H ds ws f → ∃ g, (∀ a, g a ≤ f a) ∧ Reps K cn F H (ds.filter neL) (fl ds ws) g
  | [], ws, f, h => ⟨f, fun _ => Nat.le_refl _, by rw [h.1]; exact ⟨rfl, h.2⟩⟩
  | d :: ds, ws, f, ⟨v, r, f1, g1, e, s, h1, h2⟩ => by
    subst e
    obtain ⟨g, le, hr⟩ := fl_rep h2
    show ∃ g, _ ∧ Reps K cn F H ((d :: ds).filter neL) (if neL d = true then v :: fl ds r else fl ds r) g
    by_cases c : neL d = true
    · rw [if_pos c, List.filter_cons_of_pos c]
      exact ⟨fun a => f1 a + g a, fun a => by have := s a; have := le a; show f1 a + g a ≤ f a; omega, v, _, f1, g, rfl, fun _ => rfl, h1, hr⟩
    · rw [if_neg c, List.filter_cons_of_neg c]
      exact ⟨g, fun a => by have := s a; have := le a; omega, hr⟩
theorem chkL_filter (p : Mk → Bool) (q : D → Bool) : ∀ {ds : List D}, D.chkL p ds = true → D.chkL p (ds.filter q) = true
  | [], _ => rfl
  | d :: ds, h => by
    by_cases c : q d = true
    · rw [List.filter_cons_of_pos c]
      show (D.chk p d && _) = true
      rw [and_l h, chkL_filter p q (and_r h)]; rfl
    · rw [List.filter_cons_of_neg c]; exact chkL_filter p q (and_r h)
def sMf (i j : Nat) : SF := fun ρ => match getS ρ i with
  | some (.lst .own ds) => if ds.all isL = true ∧ ds.length ≤ sizeLine ∧ j < ρ.length then some (.nx (setS (setS ρ i none) i (some (.lst .own (ds.filter neL))))) else none
  | _ => none
section
variable {X : Cx} {Γ : Ctx} {W : WX}
theorem s_mf {i j : Nat} {y z : Str} {py p1 p2 p3 p4 : Pos} {scope : Scope} {spos pos : Pos} (hK : X.K = Γ.K) (hyv : Γ.lv i = none) (hyo : Γ.own i = true) (hc : X.calm = true) (hN : X.N.Nodup) (hy : X.N[i]? = some y) (hz : X.N[j]? = some z) (hyvis : Vis X.env.scope y) (hyl : X.env.scope.names.lookup y = some .local)
    (hsw : swapsWith (.ListComp (.Name z p1) [⟨.Name z p2, .Name y p3, [.Name z p4], 0⟩] scope pos) (some (.Name y py)) spos.line X.env = pure true) (ok : BlkOk X.N X.env.scope scope [(z, j)])
    (hx : ∀ (s : Shared) (H : Hp) (C : Addr) (cl : List (Str × Addr)) (fp : List Addr), Loc (X.blk s H scope (PySem.compEnvC scope cl C X.env) fp).env.scope z)
    (hf : ∀ (s : Shared) (H : Hp) (C : Addr) (cl : List (Str × Addr)) (fp : List Addr), (X.blk s H scope (PySem.compEnvC scope cl C X.env) fp).fn z = true ∨ (X.blk s H scope (PySem.compEnvC scope cl C X.env) fp).env.scope.names.lookup z = some .local)
    (hv : ∀ (s : Shared) (H : Hp) (C : Addr) (cl : List (Str × Addr)) (fp : List Addr), Vis (X.blk s H scope (PySem.compEnvC scope cl C X.env) fp).env.scope z)
    (hd : (y == ("__debug__" : Str)) = false := by decide) (hcd : (y == ("__classdict__" : Str)) = false := by decide) (hd2 : (z == ("__debug__" : Str)) = false := by decide) (hcd2 : (z == ("__classdict__" : Str)) = false := by decide)
    (hs : ∀ x, foldedSetIterable (.Name y p3) X.env x = pure x := by intro _; rfl) :
    PS X (.Assign [.Name y py] (.ListComp (.Name z p1) [⟨.Name z p2, .Name y p3, [.Name z p4], 0⟩] scope pos) spos) (tS Γ W (sMf i j)) :=
  PS.wk (ps_setLc (tt := fun σ H Q => tVar j σ H fun x H' => ∃ k, TruV X.K x H' k ∧ Q k H') hc hN hy hyl hsw (pi_list (pe_var hy hyvis hd hcd)) ok (fun s H C cl fp => pg_name hN hz (hx s H C cl fp) (hf s H C cl fp)) (fun s H C cl fp => pts_one (pt_truth (X := X.blk s H scope (PySem.compEnvC scope cl C X.env) fp) (pe_var (X := X.blk s H scope (PySem.compEnvC scope cl C X.env) fp) hz (hv s H C cl fp) hd2 hcd2) (by intro _; rfl))) (fun s H C cl fp => pe_var (X := X.blk s H scope (PySem.compEnvC scope cl C X.env) fp) hz (hv s H C cl fp) hd2 hcd2) hs) fun DD σ H ⟨hold, ρ, s, nb, k⟩ => by
    unfold sMf at k
    cases e1 : getS ρ i with
    | none => rw [e1] at k; exact k.elim
    | some d =>
      rw [e1] at k
      cases d with
      | lst m ds =>
        cases m with
        | own =>
          dsimp only at k
          by_cases c : ds.all isL = true ∧ ds.length ≤ sizeLine ∧ j < ρ.length
          case neg => rw [if_neg c] at k; exact k.elim
          rw [if_pos c] at k
          obtain ⟨c1, c2, c3⟩ := c
          have hjl : j < σ.length := by obtain ⟨F, fh, fs, s⟩ := id s; rw [← Slots.len s.ss]; exact c3
          have hil : i < ρ.length := getS_lt e1
          obtain ⟨v, ev, s'⟩ := s.move e1
          have nbd : (D.lst .own ds).noBrw = true := by obtain ⟨F, fh, fs, s⟩ := id s; obtain ⟨_, _, _, _, nb, _⟩ := s.ss.get e1; exact nb
          obtain ⟨F, f1, hrep, _, mk⟩ := s'.open1
          obtain ⟨a, ws, f2, eva, hq, hr⟩ := id hrep
          subst eva
          have hq' : H a = some (.lst ws) ∧ ∀ b, f1 b = f2 b + if b = a then 1 else 0 := by
            rcases hq with q | q
            · exact q
            · cases q.1
          have hl := hr.len
          show tAsg _ _ _ _ _
          refine ⟨_, ev, a, rfl, ⟨ws, by rw [hK]; exact lst_sq hq⟩, fun C hC => ?_⟩
          refine ⟨fun n m H2 => m = ds.length - n ∧ n ≤ ds.length ∧ H2 = upd H C (.lst (fl (ds.take n) (ws.take n))), ⟨ds.length, rfl, Nat.zero_le _, rfl⟩, ?_⟩
          rintro n m H2 ⟨rfl, hn, rfl⟩
          have hne : a ≠ C := by rintro rfl; rw [hC] at hq'; cases hq'.1
          have sq : SqL X.K (upd H C (.lst (fl (ds.take n) (ws.take n)))) a ws := by
            rw [hK]
            exact lst_sq (m := .own) (F := F) (fp := f1) (f := f2) (.inl ⟨by rw [upd_ne hne]; exact hq'.1, hq'.2⟩)
          by_cases hlt : n < ds.length
          · have hlt2 : n < ws.length := by omega
            have ed : ds[n]? = some ds[n] := List.getElem?_eq_getElem hlt
            obtain ⟨w, fw, ew, hw, lw⟩ := hr.get ed
            refine .inr ⟨⟨ws, w, sq, ew⟩, fun H' => H' = upd H C (.lst (fl (ds.take (n + 1)) (ws.take (n + 1)))), fun H' h' => ⟨ds.length - (n + 1), by omega, rfl, hlt, h'⟩, fun x H3 y3 => ?_⟩
            obtain ⟨e3, y3⟩ := y3
            subst e3
            have ex : x = w := by have := y3 ws sq; rw [ew] at this; exact (Option.some.inj this).symm
            subst ex
            have hjw : ((wipe σ ([(z, j)].map (·.2))).set j (some x))[j]? = some (some x) := List.getElem?_set_self (by rw [wipe_length]; exact hjl)
            have tk : fl (ds.take (n + 1)) (ws.take (n + 1)) = fl (ds.take n) (ws.take n) ++ (if neL ds[n] = true then [x] else []) := by
              rw [List.take_add_one, List.take_add_one, ed, ew]
              exact fl_snoc (by rw [List.length_take, List.length_take]; omega)
            refine ⟨wipe_but (js := [j]) ⟨List.length_set, fun q hq => List.getElem?_set_ne (fun z => hq (by rw [z]; exact List.mem_cons_self))⟩ (fun q hq => hq), x, hjw, neL ds[n], ?_, ?_⟩
            · have hil : isL ds[n] = true := List.all_eq_true.mp c1 _ (List.getElem_mem hlt)
              cases q : ds[n] with
              | lst m es =>
                rw [q] at hw
                obtain ⟨b, us, f3, eb, qb, rb⟩ := hw
                subst eb
                refine .inl ⟨us, ?_, ?_⟩
                · show SqL X.K _ b us
                  rw [hK]
                  rcases qb with qb | qb
                  · exact lst_sq (.inl (At.go (br := True) (Ext.upd hC).keep (fun _ => trivial) (fun a o _ h => Ext.upd hC a o h) qb))
                  · exact lst_sq (m := m) (F := F) (fp := fw) (f := f3) (.inr qb)
                · exact reps_empty rb
              | _ => rw [q] at hil; cases hil
            · by_cases cc : neL ds[n] = true
              · rw [if_pos cc] at tk ⊢
                refine ⟨x, hjw, fl (ds.take n) (ws.take n), upd_same, ?_, ?_⟩
                · have := fl_len (ds.take n) (ws.take n)
                  rw [List.length_take] at this
                  omega
                · rw [tk]; exact upd_upd
              · rw [if_neg cc] at tk ⊢
                rw [tk, List.append_nil]
          · have e : n = ds.length := by omega
            subst e
            refine .inl ⟨⟨ws, sq, by omega⟩, ?_⟩
            rw [List.take_of_length_le (Nat.le_refl _), List.take_of_length_le (by omega)]
            have K1 : Keep F F H (upd H C (.lst (fl ds ws))) True := (Ext.upd hC).keep
            have hr' := Reps.go K1 _ _ _ (fun _ => trivial) (fun a o _ h => Ext.upd hC a o h) hr
            obtain ⟨g, le, hg⟩ := fl_rep hr'
            have nbf : (D.lst .own (ds.filter neL)).noBrw = true := by
              show ((!Mk.isBrw .own) && D.chkL _ (ds.filter neL)) = true
              rw [chkL_filter _ _ (and_r (a := !Mk.isBrw .own) nbd)]; rfl
            have s3 := mk C (.lst (fl ds ws)) (.lst .own (ds.filter neL)) (.ref C) (fun b => g b + if b = C then 1 else 0) hC (fun b => by have := le b; have := hq'.2 b; show g b + _ ≤ _; omega) ⟨C, _, g, rfl, .inl ⟨upd_same, fun _ => rfl⟩, hg⟩
            exact k _ _ (s3.store i hyv (by rw [setS_length]; exact hil) nbf fun h => by rw [hyo] at h; cases h)
        | _ => exact k.elim
      | _ => exact k.elim
end
end DL

end
section
/-! DL32: pop(0). -/
open PySem PySem.Spec L2
namespace DL
/-- pop(0) -/
def oPop0 : OL := fun ds args => match args, ds with | [.int i], d :: r => if i = 0 then some (r, d) else none | _, _ => none
theorem oPop0_ok {Γ : Ctx} : OpL Γ rPopAt oPop0 := fun F H a ds ws f args vs fa ds2 d Q e hH hr ha nb nba k => by
  unfold oPop0 at e
  split at e
  · split at e
    · rename_i i x r hi
      subst hi
      cases e
      obtain ⟨v, rfl, hx⟩ := Reps.sing ha
      obtain ⟨w, rr, f1, f2, rfl, s, h1, h2⟩ := hr
      refine ⟨a, w :: rr, 0, 0, w, rfl, by rw [hx.1], hH, by decide, by decide, ?_, rfl, ?_⟩
      · unfold seqIndex?
        simp
      · exact k rr w f2 f1 (fun b => by have := s b; omega) (and_r nb) (and_l nb) h2 h1
    · cases e
  · cases e
end DL

end
section

end
section
open PySem PySem.Spec L2
namespace DL
def b_is_name : SF :=
  (sSeq (sIf (lQ (qOr (qNot (qB (pIsi "str" (dV 0)))) (qOr (qB (pB oEq (dV 0) (dC (.str (Str.ofString ""))))) (qB (pB oGt (pN oLen [(dV 0)]) (dC (.int 8))))))) (sRet (lP (dC (.bl false)))) sNil)
    (sSeq (sFor (iAll (lP (dV 0))) (bN 1) (sIf (lQ (qB (pB (oIn true) (dV 1) (dC (.str (Str.ofString "abcdefghijklmnopqrstuvwxyz")))))) (sRet (lP (dC (.bl false)))) sNil) [1])
    (sRet (lP (dC (.bl true))))))
def d_is_name : FF := fnD 1 [false] b_is_name
theorem d_is_name_len : ∀ ds, d_is_name ds ≠ none → ds.length = 1 := fnD_len (lm := [false])

def b_belt_of : SF :=
  (sSeq (sFor (iAll (lP (pB ixD (dV 0) (dC (.int 0))))) (bN 2) (sIf (lQ (qB (pB oEq (pB ixD (dV 2) (dC (.int 0))) (dV 1)))) (sRet (lP (pN oTup [(pB ixD (dV 2) (dC (.int 0))), (pB ixD (dV 2) (dC (.int 1))), (pB ixD (dV 2) (dC (.int 2))), (pN oList [(pB ixD (dV 2) (dC (.int 3)))])]))) sNil) [2])
    (sRet (lP (dC .non))))
def d_belt_of : FF := fnD 1 [false, false] b_belt_of
theorem d_belt_of_len : ∀ ds, d_belt_of ds ≠ none → ds.length = 2 := fnD_len (lm := [false, false])

def b_ask_outs : SF :=
  (sSeq (sF 2 (eB oAdd (lP (pN oList [(pB ixD (dV 0) (dC (.int 1)))])) (eLc (iAll (lP (dSl (pB ixD (dV 0) (dC (.int 0))) (oS (pB oAdd (dV 1) (dC (.int 1)))) oN))) (bN 5) tYesF (lP (pB ixD (dV 5) (dC (.int 0)))) [5])))
    (sSeq (sF 3 (lP (pB ixD (pB ixD (pB ixD (dV 0) (dC (.int 0))) (dV 1)) (dC (.int 3)))))
    (sSeq (sFor (iRng [(lP (pN oLen [(dV 3)]))]) (bN 4) (sIf (lQ (qOr (qB (pB (oIn true) (pB ixD (dV 3) (dV 4)) (dV 2))) (qB (pB (oIn false) (pB ixD (dV 3) (dV 4)) (dSl (dV 3) oN (oS (dV 4))))))) sStuck sNil) [4])
    (sIf (lQ (qB (pB oEq (pN oLen [(dV 3)]) (dC (.int 0))))) sStuck sNil))))
def d_ask_outs : FF := fnD 4 [false, false] b_ask_outs
theorem d_ask_outs_len : ∀ ds, d_ask_outs ds ≠ none → ds.length = 2 := fnD_len (lm := [false, false])

def b_number_of : SF :=
  (sSeq (sIf (lQ (qOr (qB (pB oEq (dV 0) (dC (.str (Str.ofString ""))))) (qOr (qB (pB oGt (pN oLen [(dV 0)]) (dC (.int 9)))) (qAnd (qB (pB oEq (pB ixD (dV 0) (dC (.int 0))) (dC (.str (Str.ofString "0"))))) (qB (pB oGt (pN oLen [(dV 0)]) (dC (.int 1)))))))) (sRet (lP (dC .non))) sNil)
    (sSeq (sFor (iAll (lP (dV 0))) (bN 1) (sIf (lQ (qB (pB (oIn true) (dV 1) (dC (.str (Str.ofString "0123456789")))))) (sRet (lP (dC .non))) sNil) [1])
    (sRet (lP (pN oIntT [(dV 0)])))))
def d_number_of : FF := fnD 1 [false] b_number_of
theorem d_number_of_len : ∀ ds, d_number_of ds ≠ none → ds.length = 1 := fnD_len (lm := [false])

def b_law_feed_ea1052 : SF :=
  (sSeq (sF 1 (lP (pB oAdd (dSl (dV 0) oN (oS (dC (.int 2)))) (pN oLst [(dC (.int 0)), (dC (.int 0))]))))
    (sRet (lP (pN oLst [(dSl (dV 0) oN (oS (dC (.int 120)))), (dC (.int 0)), (dC (.int 0)), (pB oMod (pB ixD (dV 1) (dC (.int 0))) (dC (.int 2))), (pB ixD (dV 1) (dC (.int 1)))]))))
def d_law_feed_ea1052 : FF := fnD 1 [false] b_law_feed_ea1052
theorem d_law_feed_ea1052_len : ∀ ds, d_law_feed_ea1052 ds ≠ none → ds.length = 1 := fnD_len (lm := [false])

def b_law_draw_664a20 : SF :=
  (sSeq (sIf (lQ (qB (pB oEq (pB ixD (dK 0) (dC (.int 3))) (dC (.int 1))))) (sSeq (sF 2 (lP (pB oMod (pB ixD (dK 0) (dC (.int 4))) (dV 1))))
    (sSeq (sSetL 0 l0 (lP (pB oDiv (pB ixD (dK 0) (dC (.int 4))) (dV 1))) (dC (.int 4)))
    (sRet (lP (dV 2))))) sNil)
    (sSeq (sF 3 (lP (pB ixD (dK 0) (dC (.int 1)))))
    (sSeq (sSetL 0 l0 (lP (pB oAdd (dV 3) (dC (.int 1)))) (dC (.int 1)))
    (sSeq (sF 4 (lP (dV 3)))
    (sSeq (sIf (lQ (qB (pB oGt (pN oLen [(pB ixD (dK 0) (dC (.int 0)))]) (dC (.int 0))))) (sF 4 (lP (pB oAdd (pB ixD (pB ixD (dK 0) (dC (.int 0))) (pB oMod (dV 3) (pN oLen [(pB ixD (dK 0) (dC (.int 0)))]))) (pB oMul (pB oDiv (dV 3) (pN oLen [(pB ixD (dK 0) (dC (.int 0)))])) (dC (.int 31)))))) sNil)
    (sRet (lP (pB oMod (pB oMod (pB oMul (pB oMod (pB oAdd (pB oMul (dV 4) (dC (.int 48271))) (pB oMul (dC (.int 31)) (dV 3))) (dC (.int 1000003))) (dC (.int 69621))) (dC (.int 999983))) (dV 1)))))))))
def d_law_draw_664a20 : FF := fnD 3 [true, false] b_law_draw_664a20
theorem d_law_draw_664a20_len : ∀ ds, d_law_draw_664a20 ds ≠ none → ds.length = 2 := fnD_len (lm := [true, false])

def b_law_name_3d96c8 : SF :=
  (sSeq (sIf (lQ (qB (pB oEq (pB oMod (pB ixD (dV 0) (dC (.int 2))) (dC (.int 5))) (dC (.int 4))))) (sRet (lP (pB ixD (pN oLst [(dC (.str (Str.ofString "ring"))), (dC (.str (Str.ofString "to"))), (dC (.str (Str.ofString "belt"))), (dC (.str (Str.ofString "cart"))), (dC (.str (Str.ofString "rin"))), (dC (.str (Str.ofString "tooo"))), (dC (.str (Str.ofString "carts"))), (dC (.str (Str.ofString "r"))), (dC (.str (Str.ofString "belts"))), (dC (.str (Str.ofString "t"))), (dC (.str (Str.ofString "cartto"))), (dC (.str (Str.ofString "be")))]) (dV 1)))) sNil)
    (sSeq (sIf (lQ (qB (pB oEq (pB oMod (pB ixD (dV 0) (dC (.int 2))) (dC (.int 4))) (dC (.int 3))))) (sRet (lP (pB ixD (pN oLst [(dSl (dC (.str (Str.ofString "zbdgkafe"))) oN (oS (pB oAdd (dV 1) (dC (.int 1))))), (pB oMul (dC (.str (Str.ofString "y"))) (pB oSub (dV 1) (dC (.int 7))))]) (pN oInt [(pB oGt (dV 1) (dC (.int 7)))])))) sNil)
    (sRet (lP (pB oAdd (pB oAdd (pB ixD (pN oLst [(dC (.str (Str.ofString ""))), (dC (.str (Str.ofString "ab"))), (dC (.str (Str.ofString "zzz")))]) (pB oMod (pB ixD (dV 0) (dC (.int 2))) (dC (.int 4)))) (pB ixD (dC (.str (Str.ofString "dbgkafelcjhi"))) (dV 1))) (pB ixD (pN oLst [(dC (.str (Str.ofString ""))), (dC (.str (Str.ofString "ba"))), (dC (.str (Str.ofString "zz")))]) (pB oMod (pB oDiv (pB ixD (dV 0) (dC (.int 2))) (dC (.int 4))) (dC (.int 3)))))))))
def d_law_name_3d96c8 : FF := fnD 0 [false, false] b_law_name_3d96c8
theorem d_law_name_3d96c8_len : ∀ ds, d_law_name_3d96c8 ds ≠ none → ds.length = 2 := fnD_len (lm := [false, false])

def b_reached : SF :=
  (sSeq (sO 2 (lP (pN oList [(pB ixD (pN (oCall d_belt_of) [(dV 0), (dV 1)]) (dC (.int 3)))])))
    (sSeq (sFor (iAll (lP (pB ixD (dV 0) (dC (.int 0))))) (bN 3) (sIf (lQ (qB (pB (oIn false) (pB ixD (dV 3) (dC (.int 0))) (dK 2)))) (sExpr (eL oExt 2 [(lP (pB ixD (dV 3) (dC (.int 3))))])) sNil) [3])
    (sSeq (sF 4 (eLc (iAll (lP (pB ixD (dV 0) (dC (.int 0))))) (bN 3) (lQ (qB (pB (oIn false) (pB ixD (dV 3) (dC (.int 0))) (dK 2)))) (lP (pB ixD (dV 3) (dC (.int 0)))) [3]))
    (sRet (eB oAdd (lP (dV 4)) (eLc (iAll (lP (pB ixD (dV 0) (dC (.int 1))))) (bN 5) (lQ (qB (pB (oIn false) (dV 5) (dK 2)))) (lP (dV 5)) [5]))))))
def d_reached : FF := fnD 4 [false, false] b_reached
theorem d_reached_len : ∀ ds, d_reached ds ≠ none → ds.length = 2 := fnD_len (lm := [false, false])

def b_ask_names : SF :=
  (sSeq (sO 1 (lP (pN oLst [])))
    (sSeq (sFor (iAll (lP (pB ixD (dV 0) (dC (.int 1))))) (bN 2) (sSeq (sIf (lQ (qOr (qNot (qB (pN (oCall d_is_name) [(dV 2)]))) (qB (pB (oIn false) (dV 2) (dK 1))))) sStuck sNil)
    (sExpr (eL oApp 1 [(lP (dV 2))]))) [2])
    (sSeq (sIf (lQ (qB (pB oEq (pN oLen [(pB ixD (dV 0) (dC (.int 1)))]) (dC (.int 0))))) sStuck sNil)
    (sFor (iAll (lP (pB ixD (dV 0) (dC (.int 0))))) (bN 3) (sSeq (sIf (lQ (qOr (qNot (qB (pN (oCall d_is_name) [(pB ixD (dV 3) (dC (.int 0)))]))) (qB (pB (oIn false) (pB ixD (dV 3) (dC (.int 0))) (dK 1))))) sStuck sNil)
    (sSeq (sIf (lQ (qB (pB oLt (pB ixD (dV 3) (dC (.int 1))) (pB oAdd (dC (.int 1)) (pN oInt [(pB ixD (dV 3) (dC (.int 2)))]))))) sStuck sNil)
    (sExpr (eL oApp 1 [(lP (pB ixD (dV 3) (dC (.int 0))))])))) [3]))))
def d_ask_names : FF := fnD 3 [false] b_ask_names
theorem d_ask_names_len : ∀ ds, d_ask_names ds ≠ none → ds.length = 1 := fnD_len (lm := [false])

def b_belt_in : SF :=
  (sSeq (sIf (lQ (qOr (qB (pB oLt (pN oLen [(dV 0)]) (dC (.int 5)))) (qB (pB oNe (pB ixD (dV 0) (dC (.int 3))) (dC (.str (Str.ofString "to"))))))) (sRet (lP (dC .non))) sNil)
    (sSeq (sF 1 (lP (pN (oCall d_number_of) [(pB ixD (dV 0) (dC (.int 2)))])))
    (sSeq (sIf (lQ (qB (pB (oIs false) (dV 1) (dC .non)))) (sRet (lP (dC .non))) sNil)
    (sRet (lP (pN oTup [(pB ixD (dV 0) (dC (.int 1))), (dV 1), (pB oEq (pB ixD (dV 0) (dC (.int 0))) (dC (.str (Str.ofString "ring")))), (dSl (dV 0) (oS (dC (.int 4))) oN)]))))))
def d_belt_in : FF := fnD 1 [false] b_belt_in
theorem d_belt_in_len : ∀ ds, d_belt_in ds ≠ none → ds.length = 1 := fnD_len (lm := [false])

def b_law_outs_609918 : SF :=
  (sSeq (sO 3 (lP (pN oLst [])))
    (sSeq (sFor (iRng [(eB oAdd (lP (dC (.int 1))) (eC d_law_draw_664a20 [.ln 0, .ex (lP (dC (.int 3)))]))]) (bN 4) (sSeq (sF 5 (eB ixD (lP (pB oAdd (dV 1) (dV 2))) (eC d_law_draw_664a20 [.ln 0, .ex (lP (pB oAdd (pN oLen [(dV 1)]) (pN oLen [(dV 2)])))])))
    (sIf (lQ (qB (pB (oIn true) (dV 5) (dK 3)))) (sExpr (eL oIns 3 [(eC d_law_draw_664a20 [.ln 0, .ex (lP (pB oAdd (pN oLen [(dK 3)]) (dC (.int 1))))]), (lP (dV 5))])) sNil)) [4])
    (sSeq (sIf (tAndF (lQ (qB (pB (oIn true) (pB ixD (dV 2) (dC (.int 0))) (dK 3)))) (eT (eB oEq (eN oLen [(eLcO 3 (bN 5) (lQ (qB (pB (oIn false) (dV 5) (dV 1)))) (lP (dV 5)) [5])]) (lP (dC (.int 0)))))) (sExpr (eL oIns 3 [(eC d_law_draw_664a20 [.ln 0, .ex (lP (pB oAdd (pN oLen [(dK 3)]) (dC (.int 1))))]), (lP (pB ixD (dV 2) (dC (.int 0))))])) sNil)
    (sRet (eMv 3)))))
def d_law_outs_609918 : FF := fnD 3 [true, false, false] b_law_outs_609918
theorem d_law_outs_609918_len : ∀ ds, d_law_outs_609918 ds ≠ none → ds.length = 3 := fnD_len (lm := [true, false, false])

def b_law_mixed_d12046 : SF :=
  (sSeq (sO 2 (eN oLst [(lP (pN oLst [])), (eLc (iAll (lP (pB ixD (dV 1) (dC (.int 1))))) (bN 9) tYesF (lP (pB oAdd (dC (.str (Str.ofString "cart "))) (dV 9))) [9])]))
    (sSeq (sFor (iAll (lP (pB ixD (dV 1) (dC (.int 0))))) (bT (bsCons (bN 3) (bsCons (bN 4) (bsCons (bN 5) (bsCons (bN 6) bsNil))))) (sExpr (eLp oApp 2 (lIx 2 l0 (dC (.int 0))) [(pB oJoin (dC (.str (Str.ofString " "))) (pB oAdd (pN oLst [(pB ixD (pN oLst [(dC (.str (Str.ofString "belt"))), (dC (.str (Str.ofString "ring")))]) (pN oInt [(dV 5)])), (dV 3), (pN oStr [(dV 4)]), (dC (.str (Str.ofString "to")))]) (dV 6)))])) [3, 4, 5, 6])
    (sSeq (sO 7 (lP (pN oLst [])))
    (sSeq (sMf 2 8)
    (sSeq (sWhile (lQ (qTr (dK 2))) (sAl 8 2 (leIx 2 (eC d_law_draw_664a20 [.ln 0, .ex (lP (pN oLen [(dK 2)]))])) (bCons (sExpr (eL oApp 7 [(eL oPop0 8 [(lP (dC (.int 0)))])]))
    (bEnd 8 2 (sMf 2 8)))))
    (sRet (lP (pB oJoin (dC (.str (Str.ofString "\n"))) (dK 7)))))))))
def d_law_mixed_d12046 : FF := fnD 8 [true, false] b_law_mixed_d12046
theorem d_law_mixed_d12046_len : ∀ ds, d_law_mixed_d12046 ds ≠ none → ds.length = 2 := fnD_len (lm := [true, false])

def b_right_house : SF :=
  (sSeq (sExpr (lP (pN (oCall d_ask_names) [(dV 0)])))
    (sSeq (sFor (iRng [(lP (pN oLen [(pB ixD (dV 0) (dC (.int 0)))]))]) (bN 1) (sExpr (lP (pN (oCall d_ask_outs) [(dV 0), (dV 1)]))) [1])
    (sSeq (sFor (iAll (lP (pB ixD (dV 0) (dC (.int 0))))) (bN 2) (sIf (lQ (qB (pB (oIn true) (pB ixD (pB ixD (dV 0) (dC (.int 1))) (dC (.int 0))) (pN (oCall d_reached) [(dV 0), (pB ixD (dV 2) (dC (.int 0)))])))) sStuck sNil) [2])
    (sRet (lP (dC (.bl true)))))))
def d_right_house : FF := fnD 2 [false] b_right_house
theorem d_right_house_len : ∀ ds, d_right_house ds ≠ none → ds.length = 1 := fnD_len (lm := [false])

def b_law_house_6861b9 : SF :=
  (sSeq (sF 1 (eC d_law_draw_664a20 [.ln 0, .ex (lP (dC (.int 7)))]))
    (sSeq (sF 2 (eLc (iRng [(eB oAdd (lP (dC (.int 1))) (eC d_law_draw_664a20 [.ln 0, .ex (lP (dC (.int 5)))]))]) (bN 5) tYesF (lP (pN (oCall d_law_name_3d96c8) [(dK 0), (pB oSub (dC (.int 11)) (dV 5))])) [5]))
    (sSeq (sO 3 (lP (pN oLst [])))
    (sSeq (sF 4 (lP (dC (.int 0))))
    (sSeq (sIf (lQ (qB (pB oLt (dV 1) (dC (.int 3))))) (sF 4 (eB oMul (eC d_law_draw_664a20 [.ln 0, .ex (lP (dC (.int 2)))]) (eC d_law_draw_664a20 [.ln 0, .ex (lP (dC (.int 20)))]))) sNil)
    (sSeq (sFor (iRng3 [(lP (pB oSub (dV 1) (dC (.int 1)))), (lP (pNeg (dC (.int 1)))), (lP (pNeg (dC (.int 1))))]) (bN 5) (sSeq (sF 6 (eB oEq (eC d_law_draw_664a20 [.ln 0, .ex (lP (dC (.int 3)))]) (lP (dC (.int 0)))))
    (sSeq (sF 7 (eB oAdd (eB oAdd (lP (pB oAdd (dC (.int 1)) (pN oInt [(dV 6)]))) (eC d_law_draw_664a20 [.ln 0, .ex (lP (dC (.int 4)))])) (lP (pB oMul (dV 4) (pN oInt [(pB oEq (dV 5) (dC (.int 0)))])))))
    (sSeq (sF 8 (eC d_law_outs_609918 [.ln 0, .ex (eLcO 3 (bN 9) tYesF (lP (pB ixD (dV 9) (dC (.int 0)))) [9]), .ex (lP (dV 2))]))
    (sExpr (eL oIns 3 [(lP (dC (.int 0))), (lP (pN oTup [(pN (oCall d_law_name_3d96c8) [(dK 0), (dV 5)]), (dV 7), (dV 6), (dV 8)]))]))))) [5])
    (sRet (eN oTup [(eMv 3), (lP (dV 2))]))))))))
def d_law_house_6861b9 : FF := fnD 9 [true] b_law_house_6861b9
theorem d_law_house_6861b9_len : ∀ ds, d_law_house_6861b9 ds ≠ none → ds.length = 1 := fnD_len (lm := [true])

def b_read_house : SF :=
  (sSeq (sO 1 (lP (pN oLst [])))
    (sSeq (sO 2 (lP (pN oLst [])))
    (sSeq (sF 3 (lP (pB oSplit (dV 0) (dC (.str (Str.ofString "\n"))))))
    (sSeq (sFor (iRng [(lP (pN oLen [(dV 3)]))]) (bN 4) (sSeq (sF 5 (lP (pB oSplit (pB ixD (dV 3) (dV 4)) (dC (.str (Str.ofString " "))))))
    (sSeq (sIf (lQ (qB (pB (oIn false) (dC (.str (Str.ofString ""))) (dV 5)))) sStuck sNil)
    (sIf (lQ (qAnd (qB (pB oEq (pB ixD (dV 5) (dC (.int 0))) (dC (.str (Str.ofString "cart"))))) (qB (pB oEq (pN oLen [(dV 5)]) (dC (.int 2)))))) (sExpr (eL oApp 2 [(lP (pB ixD (dV 5) (dC (.int 1))))])) (sIf (lQ (qOr (qB (pB oEq (pB ixD (dV 5) (dC (.int 0))) (dC (.str (Str.ofString "belt"))))) (qB (pB oEq (pB ixD (dV 5) (dC (.int 0))) (dC (.str (Str.ofString "ring"))))))) (sSeq (sO 6 (lP (pN (oCall d_belt_in) [(dV 5)])))
    (sSeq (sIf (lQ (qB (pB (oIs false) (dK 6) (dC .non)))) sStuck sNil)
    (sExpr (eL oApp 1 [(eMv 6)])))) sStuck)))) [4])
    (sSeq (sO 7 (eN oTup [(eMv 1), (eMv 2)]))
    (sSeq (sExpr (lP (pN (oCall d_right_house) [(dK 7)])))
    (sRet (eMv 7))))))))
def d_read_house : FF := fnD 7 [false] b_read_house
theorem d_read_house_len : ∀ ds, d_read_house ds ≠ none → ds.length = 1 := fnD_len (lm := [false])

def b_law_alike_4156af (rec : FF) : SF :=
  (sSeq (sIf (lQ (qOr (qB (pIsi "tuple" (dV 1))) (qB (pIsi "list" (dV 1))))) (sSeq (sIf (lQ (qOr (qB (pB oNe (pIsi "tuple" (dV 0)) (pIsi "tuple" (dV 1)))) (qB (pB oNe (pIsi "list" (dV 0)) (pIsi "list" (dV 1)))))) (sRet (lP (dC (.bl false)))) sNil)
    (sSeq (sIf (lQ (qB (pB oNe (pN oLen [(dV 0)]) (pN oLen [(dV 1)])))) (sRet (lP (dC (.bl false)))) sNil)
    (sSeq (sFor (iRng [(lP (pN oLen [(dV 1)]))]) (bN 2) (sIf (lQ (qNot (qB (pN (oCall rec) [(pB ixD (dV 0) (dV 2)), (pB ixD (dV 1) (dV 2))])))) (sRet (lP (dC (.bl false)))) sNil) [2])
    (sRet (lP (dC (.bl true))))))) sNil)
    (sSeq (sIf (lQ (qB (pIsi "str" (dV 1)))) (sRet (lP (dAnd (pIsi "str" (dV 0)) (pB oEq (dV 0) (dV 1))))) sNil)
    (sRet (lP (dAnd (pIsi "int" (dV 0)) (dAnd (pB oEq (pIsi "bool" (dV 0)) (pIsi "bool" (dV 1))) (pB oEq (dV 0) (dV 1))))))))
def d_law_alike_4156af : FF := recD 1 [false, false] b_law_alike_4156af 6
theorem d_law_alike_4156af_len : ∀ ds, d_law_alike_4156af ds ≠ none → ds.length = 2 := recD_len (lm := [false, false]) 6

def b_law_9880c8 : SF :=
  (sSeq (sO 1 (lP (pN (oCall d_law_feed_ea1052) [(dV 0)])))
    (sSeq (sSetL 1 l0 (eC d_law_draw_664a20 [.ln 1, .ex (lP (dC (.int 60)))]) (dC (.int 2)))
    (sSeq (sF 2 (eC d_law_house_6861b9 [.ln 1]))
    (sSeq (sF 3 (eC d_law_mixed_d12046 [.ln 1, .ex (lP (dV 2))]))
    (sSeq (sO 4 (lP (pN (oCall d_read_house) [(dV 3)])))
    (sSeq (sIf (lQ (qNot (qB (pN (oCall d_law_alike_4156af) [(dK 4), (dV 2)])))) (sRet (lP (dC (.bl false)))) sNil)
    (sSeq (sIf (lQ (qTr (pB ixD (dK 4) (dC (.int 0))))) (sSeq (sExpr (eLp oApp 4 (lIx 4 (lIx 4 (lIx 4 l0 (dC (.int 0))) (dC (.int 0))) (dC (.int 3))) [(dC (.str (Str.ofString "x")))]))
    (sExpr (eLp oPop 4 (lIx 4 l0 (dC (.int 0))) []))) sNil)
    (sSeq (sExpr (eLp oApp 4 (lIx 4 l0 (dC (.int 1))) [(dC (.str (Str.ofString "y")))]))
    (sRet (lP (pN (oCall d_law_alike_4156af) [(pN (oCall d_read_house) [(dV 3)]), (dV 2)])))))))))))
def d_law_9880c8 : FF := fnD 4 [false] b_law_9880c8
theorem d_law_9880c8_len : ∀ ds, d_law_9880c8 ds ≠ none → ds.length = 1 := fnD_len (lm := [false])
end DL

end
section
open PySem PySem.Spec L2
namespace DL
def topS (i : Nat) : Stmt := PySem.Challenge.pw_carry_k08_houses_read.main.body.getD i (.Pass ⟨0, 0, 0, 0⟩)
section
variable {P : Program} {w : World} {K : PySem.W.Frag} {mg : Str → Option Value} {base : Heap} {cn : Nm}
set_option maxHeartbeats 4000000
abbrev s_is_name : Stmt := topS 9
theorem sc_is_name : FnScope [(Str.ofString "thing"), (Str.ofString "sign")] [(Str.ofString "thing")] (defScope s_is_name) := ⟨rfl, rfl, rfl, by decide +kernel, rfl, by decide +kernel, by decide +kernel⟩
theorem ok_is_name {f : Addr} {fd : FuncData} (F : Fun K (Str.ofString "is_name") (Str.ofString "is_name") s_is_name f fd) (m_isinstance : mg (Str.ofString "isinstance") = none) (m_str : mg (Str.ofString "str") = none) (m_len : mg (Str.ofString "len") = none) {t_LETTERS : Tok} (g_LETTERS : mg (Str.ofString "LETTERS") = some (.str (Str.ofString "abcdefghijklmnopqrstuvwxyz") t_LETTERS)) : FnOk P w K mg base (L2.CX P w) 1 f fd [(Str.ofString "thing")] (SpD K cn [false] d_is_name) :=
  fn_ok (N := [(Str.ofString "thing"), (Str.ofString "sign")]) (n := 1) (lm := [false]) (os := []) (g := b_is_name) F sc_is_name rfl rfl (hos_by (by decide)) fun cdv A outer s H E F0 fp vs hr tk hp =>
    have nd := sc_is_name.nd
    (ss_cons (s_if (lift_t (q_w (w_or (q_not (q_val (d_isi rfl (d_v (i := 0) rfl (by first | exact Or.inl rfl | exact Or.inr (Or.inl rfl) | exact Or.inr (Or.inr rfl)) rfl) (by rfl) m_isinstance (by decide +kernel) (by rfl) m_str (by decide +kernel)))) (w_or (q_cmp (opr_eq (u64 hr)) oEq_ok (d_v (i := 0) rfl (by first | exact Or.inl rfl | exact Or.inr (Or.inl rfl) | exact Or.inr (Or.inr rfl)) rfl) d_str (nomark _)) (w_or1 (q_cmp op_gt oGt_ok (d_fn oLen_ok call_lenA (by rfl) m_len PySem.boot_len (a_cons (d_v (i := 0) rfl (by first | exact Or.inl rfl | exact Or.inr (Or.inl rfl) | exact Or.inr (Or.inr rfl)) rfl) a_nil)) d_int (nomark _))))))) (ss_one (s_ret (lift_e d_bl))) ss_nil)
    (ss_cons (s_for [1] hp rfl (i_all rfl (lift_e (d_v (i := 0) rfl (by first | exact Or.inl rfl | exact Or.inr (Or.inl rfl) | exact Or.inr (Or.inr rfl)) rfl))) (b_n (i := 1) rfl nd rfl (by first | exact Or.inl rfl | exact Or.inr rfl)) (ss_one (s_if (lift_t (q_cmp (opr_notin (u65 hr)) oIn_ok (d_v (i := 1) rfl (by first | exact Or.inl rfl | exact Or.inr (Or.inl rfl) | exact Or.inr (Or.inr rfl)) rfl) (d_gstr (by rfl) g_LETTERS (by exact ⟨_, rfl⟩)) (by rfl))) (ss_one (s_ret (lift_e d_bl))) ss_nil)))
    (ss_one (s_ret (lift_e d_bl)))))

abbrev s_belt_of : Stmt := topS 11
theorem sc_belt_of : FnScope [(Str.ofString "house"), (Str.ofString "name"), (Str.ofString "belt")] [(Str.ofString "house"), (Str.ofString "name")] (defScope s_belt_of) := ⟨rfl, rfl, rfl, by decide +kernel, rfl, by decide +kernel, by decide +kernel⟩
theorem ok_belt_of {f : Addr} {fd : FuncData} (F : Fun K (Str.ofString "belt_of") (Str.ofString "belt_of") s_belt_of f fd) (m_list : mg (Str.ofString "list") = none) : FnOk P w K mg base (L2.CX P w) 1 f fd [(Str.ofString "house"), (Str.ofString "name")] (SpD K cn [false, false] d_belt_of) :=
  fn_ok (N := [(Str.ofString "house"), (Str.ofString "name"), (Str.ofString "belt")]) (n := 1) (lm := [false, false]) (os := []) (g := b_belt_of) F sc_belt_of rfl rfl (hos_by (by decide)) fun cdv A outer s H E F0 fp vs hr tk hp =>
    have nd := sc_belt_of.nd
    (ss_cons (s_for [2] hp rfl (i_all rfl (lift_e (d_ix rfl (d_v (i := 0) rfl (by first | exact Or.inl rfl | exact Or.inr (Or.inl rfl) | exact Or.inr (Or.inr rfl)) rfl) d_int (fun _ _ => rfl)))) (b_n (i := 2) rfl nd rfl (by first | exact Or.inl rfl | exact Or.inr rfl)) (ss_one (s_if (lift_t (q_cmp (opr_eq (u64 hr)) oEq_ok (d_ix rfl (d_v (i := 2) rfl (by first | exact Or.inl rfl | exact Or.inr (Or.inl rfl) | exact Or.inr (Or.inr rfl)) rfl) d_int (fun _ _ => rfl)) (d_v (i := 1) rfl (by first | exact Or.inl rfl | exact Or.inr (Or.inl rfl) | exact Or.inr (Or.inr rfl)) rfl) (nomark _))) (ss_one (s_ret (lift_e (d_tup (a_cons (d_ix rfl (d_v (i := 2) rfl (by first | exact Or.inl rfl | exact Or.inr (Or.inl rfl) | exact Or.inr (Or.inr rfl)) rfl) d_int (fun _ _ => rfl)) (a_cons (d_ix rfl (d_v (i := 2) rfl (by first | exact Or.inl rfl | exact Or.inr (Or.inl rfl) | exact Or.inr (Or.inr rfl)) rfl) d_int (fun _ _ => rfl)) (a_cons (d_ix rfl (d_v (i := 2) rfl (by first | exact Or.inl rfl | exact Or.inr (Or.inl rfl) | exact Or.inr (Or.inr rfl)) rfl) d_int (fun _ _ => rfl)) (a_cons (d_ty oList_ok call_list_of (by rfl) m_list (by decide +kernel) (a_cons (d_ix rfl (d_v (i := 2) rfl (by first | exact Or.inl rfl | exact Or.inr (Or.inl rfl) | exact Or.inr (Or.inr rfl)) rfl) d_int (fun _ _ => rfl)) a_nil)) a_nil)))))))) ss_nil)))
    (ss_one (s_ret (lift_e d_non))))

abbrev s_ask_outs : Stmt := topS 14
theorem sc_ask_outs : FnScope [(Str.ofString "house"), (Str.ofString "k"), (Str.ofString "known"), (Str.ofString "outs"), (Str.ofString "i"), (Str.ofString "belt")] [(Str.ofString "house"), (Str.ofString "k")] (defScope s_ask_outs) := ⟨rfl, rfl, rfl, by decide +kernel, rfl, by decide +kernel, by decide +kernel⟩
theorem ok_ask_outs {f : Addr} {fd : FuncData} (F : Fun K (Str.ofString "ask_outs") (Str.ofString "ask_outs") s_ask_outs f fd) (m_list : mg (Str.ofString "list") = none) (m_range : mg (Str.ofString "range") = none) (m_len : mg (Str.ofString "len") = none) : FnOk P w K mg base (L2.CX P w) 1 f fd [(Str.ofString "house"), (Str.ofString "k")] (SpD K cn [false, false] d_ask_outs) :=
  fn_ok (N := [(Str.ofString "house"), (Str.ofString "k"), (Str.ofString "known"), (Str.ofString "outs"), (Str.ofString "i"), (Str.ofString "belt")]) (n := 4) (lm := [false, false]) (os := []) (g := b_ask_outs) F sc_ask_outs rfl rfl (hos_by (by decide)) fun cdv A outer s H E F0 fp vs hr tk hp =>
    have nd := sc_ask_outs.nd
    (ss_cons (s_f (i := 2) rfl nd rfl (by first | exact Or.inl rfl | exact Or.inr rfl) (e_bin opr_add oAdd_ok (lift_e (d_ty oList_ok call_list_of (by rfl) m_list (by decide +kernel) (a_cons (d_ix rfl (d_v (i := 0) rfl (by first | exact Or.inl rfl | exact Or.inr (Or.inl rfl) | exact Or.inr (Or.inr rfl)) rfl) d_int (fun _ _ => rfl)) a_nil))) (e_lc (own := [((Str.ofString "belt"), 5)]) (js := [5]) (by simp [bodyCtx, lvOf]) (by simp) rfl nd (i_all rfl (lift_e (d_sl rfl (d_ix rfl (d_v (i := 0) rfl (by first | exact Or.inl rfl | exact Or.inr (Or.inl rfl) | exact Or.inr (Or.inr rfl)) rfl) d_int (fun _ _ => rfl)) (o_some (d_bin opr_add oAdd_ok (d_v (i := 1) rfl (by first | exact Or.inl rfl | exact Or.inr (Or.inl rfl) | exact Or.inr (Or.inr rfl)) rfl) d_int)) o_none))) (blkOk_by (by exact rfl)) (fun _ _ _ _ _ => (b_n (i := 5) rfl nd rfl (by first | exact Or.inl rfl | exact Or.inr rfl))) (fun _ _ _ _ _ => ts_nil) (fun _ _ _ _ _ => (lift_e (d_ix rfl (d_v (i := 5) rfl (by first | exact Or.inl rfl | exact Or.inr (Or.inl rfl) | exact Or.inr (Or.inr rfl)) rfl) d_int (fun _ _ => rfl)))))))
    (ss_cons (s_f (i := 3) rfl nd rfl (by first | exact Or.inl rfl | exact Or.inr rfl) (lift_e (d_ix rfl (d_ix rfl (d_ix rfl (d_v (i := 0) rfl (by first | exact Or.inl rfl | exact Or.inr (Or.inl rfl) | exact Or.inr (Or.inr rfl)) rfl) d_int (fun _ _ => rfl)) (d_v (i := 1) rfl (by first | exact Or.inl rfl | exact Or.inr (Or.inl rfl) | exact Or.inr (Or.inr rfl)) rfl) (fun _ _ => rfl)) d_int (fun _ _ => rfl))))
    (ss_cons (s_for [4] hp rfl (i_rng1 (by rfl) m_range (ae_cons (lift_e (d_fn oLen_ok call_lenA (by rfl) m_len PySem.boot_len (a_cons (d_v (i := 3) rfl (by first | exact Or.inl rfl | exact Or.inr (Or.inl rfl) | exact Or.inr (Or.inr rfl)) rfl) a_nil))) ae_nil)) (b_n (i := 4) rfl nd rfl (by first | exact Or.inl rfl | exact Or.inr rfl)) (ss_one (s_if (lift_t (q_w (w_or (q_cmp (opr_notin (u65 hr)) oIn_ok (d_ix rfl (d_v (i := 3) rfl (by first | exact Or.inl rfl | exact Or.inr (Or.inl rfl) | exact Or.inr (Or.inr rfl)) rfl) (d_v (i := 4) rfl (by first | exact Or.inl rfl | exact Or.inr (Or.inl rfl) | exact Or.inr (Or.inr rfl)) rfl) (fun _ _ => rfl)) (d_v (i := 2) rfl (by first | exact Or.inl rfl | exact Or.inr (Or.inl rfl) | exact Or.inr (Or.inr rfl)) rfl) (by rfl)) (w_or1 (q_cmp (opr_in (u65 hr)) oIn_ok (d_ix rfl (d_v (i := 3) rfl (by first | exact Or.inl rfl | exact Or.inr (Or.inl rfl) | exact Or.inr (Or.inr rfl)) rfl) (d_v (i := 4) rfl (by first | exact Or.inl rfl | exact Or.inr (Or.inl rfl) | exact Or.inr (Or.inr rfl)) rfl) (fun _ _ => rfl)) (d_sl rfl (d_v (i := 3) rfl (by first | exact Or.inl rfl | exact Or.inr (Or.inl rfl) | exact Or.inr (Or.inr rfl)) rfl) o_none (o_some (d_v (i := 4) rfl (by first | exact Or.inl rfl | exact Or.inr (Or.inl rfl) | exact Or.inr (Or.inr rfl)) rfl))) (by rfl)))))) (ss_one s_stuck) ss_nil)))
    (ss_one (s_if (lift_t (q_cmp (opr_eq (u64 hr)) oEq_ok (d_fn oLen_ok call_lenA (by rfl) m_len PySem.boot_len (a_cons (d_v (i := 3) rfl (by first | exact Or.inl rfl | exact Or.inr (Or.inl rfl) | exact Or.inr (Or.inr rfl)) rfl) a_nil)) d_int (nomark _))) (ss_one s_stuck) ss_nil)))))

abbrev s_number_of : Stmt := topS 18
theorem sc_number_of : FnScope [(Str.ofString "word"), (Str.ofString "sign")] [(Str.ofString "word")] (defScope s_number_of) := ⟨rfl, rfl, rfl, by decide +kernel, rfl, by decide +kernel, by decide +kernel⟩
theorem ok_number_of {f : Addr} {fd : FuncData} (F : Fun K (Str.ofString "number_of") (Str.ofString "number_of") s_number_of f fd) (m_len : mg (Str.ofString "len") = none) (m_int : mg (Str.ofString "int") = none) {t_FIGURES : Tok} (g_FIGURES : mg (Str.ofString "FIGURES") = some (.str (Str.ofString "0123456789") t_FIGURES)) : FnOk P w K mg base (L2.CX P w) 1 f fd [(Str.ofString "word")] (SpD K cn [false] d_number_of) :=
  fn_ok (N := [(Str.ofString "word"), (Str.ofString "sign")]) (n := 1) (lm := [false]) (os := []) (g := b_number_of) F sc_number_of rfl rfl (hos_by (by decide)) fun cdv A outer s H E F0 fp vs hr tk hp =>
    have nd := sc_number_of.nd
    (ss_cons (s_if (lift_t (q_w (w_or (q_cmp (opr_eq (u64 hr)) oEq_ok (d_v (i := 0) rfl (by first | exact Or.inl rfl | exact Or.inr (Or.inl rfl) | exact Or.inr (Or.inr rfl)) rfl) d_str (nomark _)) (w_or (q_cmp op_gt oGt_ok (d_fn oLen_ok call_lenA (by rfl) m_len PySem.boot_len (a_cons (d_v (i := 0) rfl (by first | exact Or.inl rfl | exact Or.inr (Or.inl rfl) | exact Or.inr (Or.inr rfl)) rfl) a_nil)) d_int (nomark _)) (w_or1 (q_w (w_and (q_cmp (opr_eq (u64 hr)) oEq_ok (d_ix rfl (d_v (i := 0) rfl (by first | exact Or.inl rfl | exact Or.inr (Or.inl rfl) | exact Or.inr (Or.inr rfl)) rfl) d_int (fun _ _ => rfl)) d_str (nomark _)) (w_and1 (q_cmp op_gt oGt_ok (d_fn oLen_ok call_lenA (by rfl) m_len PySem.boot_len (a_cons (d_v (i := 0) rfl (by first | exact Or.inl rfl | exact Or.inr (Or.inl rfl) | exact Or.inr (Or.inr rfl)) rfl) a_nil)) d_int (nomark _)))))))))) (ss_one (s_ret (lift_e d_non))) ss_nil)
    (ss_cons (s_for [1] hp rfl (i_all rfl (lift_e (d_v (i := 0) rfl (by first | exact Or.inl rfl | exact Or.inr (Or.inl rfl) | exact Or.inr (Or.inr rfl)) rfl))) (b_n (i := 1) rfl nd rfl (by first | exact Or.inl rfl | exact Or.inr rfl)) (ss_one (s_if (lift_t (q_cmp (opr_notin (u65 hr)) oIn_ok (d_v (i := 1) rfl (by first | exact Or.inl rfl | exact Or.inr (Or.inl rfl) | exact Or.inr (Or.inr rfl)) rfl) (d_gstr (by rfl) g_FIGURES (by exact ⟨_, rfl⟩)) (by rfl))) (ss_one (s_ret (lift_e d_non))) ss_nil)))
    (ss_one (s_ret (lift_e (d_ty oIntT_ok call_intT (by rfl) m_int (by decide +kernel) (a_cons (d_v (i := 0) rfl (by first | exact Or.inl rfl | exact Or.inr (Or.inl rfl) | exact Or.inr (Or.inr rfl)) rfl) a_nil)))))))

abbrev s_law_feed_ea1052 : Stmt := topS 22
theorem sc_law_feed_ea1052 : FnScope [(Str.ofString "script"), (Str.ofString "cells")] [(Str.ofString "script")] (defScope s_law_feed_ea1052) := ⟨rfl, rfl, rfl, by decide +kernel, rfl, by decide +kernel, by decide +kernel⟩
theorem ok_law_feed_ea1052 {f : Addr} {fd : FuncData} (F : Fun K (Str.ofString "_law_feed") (Str.ofString "_law_feed") s_law_feed_ea1052 f fd) : FnOk P w K mg base (L2.CX P w) 1 f fd [(Str.ofString "script")] (SpD K cn [false] d_law_feed_ea1052) :=
  fn_ok (N := [(Str.ofString "script"), (Str.ofString "cells")]) (n := 1) (lm := [false]) (os := []) (g := b_law_feed_ea1052) F sc_law_feed_ea1052 rfl rfl (hos_by (by decide)) fun cdv A outer s H E F0 fp vs hr tk hp =>
    have nd := sc_law_feed_ea1052.nd
    (ss_cons (s_f (i := 1) rfl nd rfl (by first | exact Or.inl rfl | exact Or.inr rfl) (lift_e (d_bin opr_add oAdd_ok (d_sl rfl (d_v (i := 0) rfl (by first | exact Or.inl rfl | exact Or.inr (Or.inl rfl) | exact Or.inr (Or.inr rfl)) rfl) o_none (o_some d_int)) (d_lst (a_cons d_int (a_cons d_int a_nil))))))
    (ss_one (s_ret (lift_e (d_lst (a_cons (d_sl rfl (d_v (i := 0) rfl (by first | exact Or.inl rfl | exact Or.inr (Or.inl rfl) | exact Or.inr (Or.inr rfl)) rfl) o_none (o_some d_int)) (a_cons d_int (a_cons d_int (a_cons (d_bin op_modN oMod_ok (d_ix rfl (d_v (i := 1) rfl (by first | exact Or.inl rfl | exact Or.inr (Or.inl rfl) | exact Or.inr (Or.inr rfl)) rfl) d_int (fun _ _ => rfl)) d_int) (a_cons (d_ix rfl (d_v (i := 1) rfl (by first | exact Or.inl rfl | exact Or.inr (Or.inl rfl) | exact Or.inr (Or.inr rfl)) rfl) d_int (fun _ _ => rfl)) a_nil))))))))))

abbrev s_law_draw_664a20 : Stmt := topS 23
theorem sc_law_draw_664a20 : FnScope [(Str.ofString "feed"), (Str.ofString "many"), (Str.ofString "found"), (Str.ofString "at"), (Str.ofString "cell")] [(Str.ofString "feed"), (Str.ofString "many")] (defScope s_law_draw_664a20) := ⟨rfl, rfl, rfl, by decide +kernel, rfl, by decide +kernel, by decide +kernel⟩
theorem ok_law_draw_664a20 {f : Addr} {fd : FuncData} (F : Fun K (Str.ofString "_law_draw") (Str.ofString "_law_draw") s_law_draw_664a20 f fd) (m_len : mg (Str.ofString "len") = none) : FnOk P w K mg base (L2.CX P w) 1 f fd [(Str.ofString "feed"), (Str.ofString "many")] (SpD K cn [true, false] d_law_draw_664a20) :=
  fn_ok (N := [(Str.ofString "feed"), (Str.ofString "many"), (Str.ofString "found"), (Str.ofString "at"), (Str.ofString "cell")]) (n := 3) (lm := [true, false]) (os := [0]) (g := b_law_draw_664a20) F sc_law_draw_664a20 rfl rfl (hos_by (by decide)) fun cdv A outer s H E F0 fp vs hr tk hp =>
    have nd := sc_law_draw_664a20.nd
    (ss_cons (s_if (lift_t (q_cmp (opr_eq (u64 hr)) oEq_ok (d_ix rfl (d_k (i := 0) rfl (by first | exact Or.inl rfl | exact Or.inr (Or.inl rfl) | exact Or.inr (Or.inr rfl))) d_int (fun _ _ => rfl)) d_int (nomark _))) (ss_cons (s_f (i := 2) rfl nd rfl (by first | exact Or.inl rfl | exact Or.inr rfl) (lift_e (d_bin op_modN oMod_ok (d_ix rfl (d_k (i := 0) rfl (by first | exact Or.inl rfl | exact Or.inr (Or.inl rfl) | exact Or.inr (Or.inr rfl))) d_int (fun _ _ => rfl)) (d_v (i := 1) rfl (by first | exact Or.inl rfl | exact Or.inr (Or.inl rfl) | exact Or.inr (Or.inr rfl)) rfl))))
    (ss_cons (s_setl (i := 0) rfl rfl (lift_e (d_bin op_fdivN oDiv_ok (d_ix rfl (d_k (i := 0) rfl (by first | exact Or.inl rfl | exact Or.inr (Or.inl rfl) | exact Or.inr (Or.inr rfl))) d_int (fun _ _ => rfl)) (d_v (i := 1) rfl (by first | exact Or.inl rfl | exact Or.inr (Or.inl rfl) | exact Or.inr (Or.inr rfl)) rfl))) (l_var (i := 0) rfl (by first | exact Or.inl rfl | exact Or.inr (Or.inl rfl) | exact Or.inr (Or.inr rfl))) d_int)
    (ss_one (s_ret (lift_e (d_v (i := 2) rfl (by first | exact Or.inl rfl | exact Or.inr (Or.inl rfl) | exact Or.inr (Or.inr rfl)) rfl)))))) ss_nil)
    (ss_cons (s_f (i := 3) rfl nd rfl (by first | exact Or.inl rfl | exact Or.inr rfl) (lift_e (d_ix rfl (d_k (i := 0) rfl (by first | exact Or.inl rfl | exact Or.inr (Or.inl rfl) | exact Or.inr (Or.inr rfl))) d_int (fun _ _ => rfl))))
    (ss_cons (s_setl (i := 0) rfl rfl (lift_e (d_bin opr_add oAdd_ok (d_v (i := 3) rfl (by first | exact Or.inl rfl | exact Or.inr (Or.inl rfl) | exact Or.inr (Or.inr rfl)) rfl) d_int)) (l_var (i := 0) rfl (by first | exact Or.inl rfl | exact Or.inr (Or.inl rfl) | exact Or.inr (Or.inr rfl))) d_int)
    (ss_cons (s_f (i := 4) rfl nd rfl (by first | exact Or.inl rfl | exact Or.inr rfl) (lift_e (d_v (i := 3) rfl (by first | exact Or.inl rfl | exact Or.inr (Or.inl rfl) | exact Or.inr (Or.inr rfl)) rfl)))
    (ss_cons (s_if (lift_t (q_cmp op_gt oGt_ok (d_fn oLen_ok call_lenA (by rfl) m_len PySem.boot_len (a_cons (d_ix rfl (d_k (i := 0) rfl (by first | exact Or.inl rfl | exact Or.inr (Or.inl rfl) | exact Or.inr (Or.inr rfl))) d_int (fun _ _ => rfl)) a_nil)) d_int (nomark _))) (ss_one (s_f (i := 4) rfl nd rfl (by first | exact Or.inl rfl | exact Or.inr rfl) (lift_e (d_bin opr_add oAdd_ok (d_ix rfl (d_ix rfl (d_k (i := 0) rfl (by first | exact Or.inl rfl | exact Or.inr (Or.inl rfl) | exact Or.inr (Or.inr rfl))) d_int (fun _ _ => rfl)) (d_bin op_modN oMod_ok (d_v (i := 3) rfl (by first | exact Or.inl rfl | exact Or.inr (Or.inl rfl) | exact Or.inr (Or.inr rfl)) rfl) (d_fn oLen_ok call_lenA (by rfl) m_len PySem.boot_len (a_cons (d_ix rfl (d_k (i := 0) rfl (by first | exact Or.inl rfl | exact Or.inr (Or.inl rfl) | exact Or.inr (Or.inr rfl))) d_int (fun _ _ => rfl)) a_nil))) (fun _ _ => rfl)) (d_bin opr_mul oMul_ok (d_bin op_fdivN oDiv_ok (d_v (i := 3) rfl (by first | exact Or.inl rfl | exact Or.inr (Or.inl rfl) | exact Or.inr (Or.inr rfl)) rfl) (d_fn oLen_ok call_lenA (by rfl) m_len PySem.boot_len (a_cons (d_ix rfl (d_k (i := 0) rfl (by first | exact Or.inl rfl | exact Or.inr (Or.inl rfl) | exact Or.inr (Or.inr rfl))) d_int (fun _ _ => rfl)) a_nil))) d_int))))) ss_nil)
    (ss_one (s_ret (lift_e (d_bin op_modN oMod_ok (d_bin op_modN oMod_ok (d_bin opr_mul oMul_ok (d_bin op_modN oMod_ok (d_bin opr_add oAdd_ok (d_bin opr_mul oMul_ok (d_v (i := 4) rfl (by first | exact Or.inl rfl | exact Or.inr (Or.inl rfl) | exact Or.inr (Or.inr rfl)) rfl) d_int) (d_bin opr_mul oMul_ok d_int (d_v (i := 3) rfl (by first | exact Or.inl rfl | exact Or.inr (Or.inl rfl) | exact Or.inr (Or.inr rfl)) rfl))) d_int) d_int) d_int) (d_v (i := 1) rfl (by first | exact Or.inl rfl | exact Or.inr (Or.inl rfl) | exact Or.inr (Or.inr rfl)) rfl))))))))))

abbrev s_law_name_3d96c8 : Stmt := topS 24
theorem sc_law_name_3d96c8 : FnScope [(Str.ofString "feed"), (Str.ofString "k")] [(Str.ofString "feed"), (Str.ofString "k")] (defScope s_law_name_3d96c8) := ⟨rfl, rfl, rfl, by decide +kernel, rfl, by decide +kernel, by decide +kernel⟩
theorem ok_law_name_3d96c8 {f : Addr} {fd : FuncData} (F : Fun K (Str.ofString "_law_name") (Str.ofString "_law_name") s_law_name_3d96c8 f fd) (m_int : mg (Str.ofString "int") = none) : FnOk P w K mg base (L2.CX P w) 1 f fd [(Str.ofString "feed"), (Str.ofString "k")] (SpD K cn [false, false] d_law_name_3d96c8) :=
  fn_ok (N := [(Str.ofString "feed"), (Str.ofString "k")]) (n := 0) (lm := [false, false]) (os := []) (g := b_law_name_3d96c8) F sc_law_name_3d96c8 rfl rfl (hos_by (by decide)) fun cdv A outer s H E F0 fp vs hr tk hp =>
    have nd := sc_law_name_3d96c8.nd
    (ss_cons (s_if (lift_t (q_cmp (opr_eq (u64 hr)) oEq_ok (d_bin op_modN oMod_ok (d_ix rfl (d_v (i := 0) rfl (by first | exact Or.inl rfl | exact Or.inr (Or.inl rfl) | exact Or.inr (Or.inr rfl)) rfl) d_int (fun _ _ => rfl)) d_int) d_int (nomark _))) (ss_one (s_ret (lift_e (d_ix rfl (d_lst (a_cons d_str (a_cons d_str (a_cons d_str (a_cons d_str (a_cons d_str (a_cons d_str (a_cons d_str (a_cons d_str (a_cons d_str (a_cons d_str (a_cons d_str (a_cons d_str a_nil))))))))))))) (d_v (i := 1) rfl (by first | exact Or.inl rfl | exact Or.inr (Or.inl rfl) | exact Or.inr (Or.inr rfl)) rfl) (fun _ _ => rfl))))) ss_nil)
    (ss_cons (s_if (lift_t (q_cmp (opr_eq (u64 hr)) oEq_ok (d_bin op_modN oMod_ok (d_ix rfl (d_v (i := 0) rfl (by first | exact Or.inl rfl | exact Or.inr (Or.inl rfl) | exact Or.inr (Or.inr rfl)) rfl) d_int (fun _ _ => rfl)) d_int) d_int (nomark _))) (ss_one (s_ret (lift_e (d_ix rfl (d_lst (a_cons (d_sl rfl d_str o_none (o_some (d_bin opr_add oAdd_ok (d_v (i := 1) rfl (by first | exact Or.inl rfl | exact Or.inr (Or.inl rfl) | exact Or.inr (Or.inr rfl)) rfl) d_int))) (a_cons (d_bin opr_mul oMul_ok d_str (d_bin opr_sub oSub_ok (d_v (i := 1) rfl (by first | exact Or.inl rfl | exact Or.inr (Or.inl rfl) | exact Or.inr (Or.inr rfl)) rfl) d_int)) a_nil))) (d_ty oInt_ok call_int1 (by rfl) m_int (by decide +kernel) (a_cons (d_cmp op_gt oGt_ok (d_v (i := 1) rfl (by first | exact Or.inl rfl | exact Or.inr (Or.inl rfl) | exact Or.inr (Or.inr rfl)) rfl) d_int (nomark _)) a_nil)) (fun _ _ => rfl))))) ss_nil)
    (ss_one (s_ret (lift_e (d_bin opr_add oAdd_ok (d_bin opr_add oAdd_ok (d_ix rfl (d_lst (a_cons d_str (a_cons d_str (a_cons d_str a_nil)))) (d_bin op_modN oMod_ok (d_ix rfl (d_v (i := 0) rfl (by first | exact Or.inl rfl | exact Or.inr (Or.inl rfl) | exact Or.inr (Or.inr rfl)) rfl) d_int (fun _ _ => rfl)) d_int) (fun _ _ => rfl)) (d_ix rfl d_str (d_v (i := 1) rfl (by first | exact Or.inl rfl | exact Or.inr (Or.inl rfl) | exact Or.inr (Or.inr rfl)) rfl) (fun _ _ => rfl))) (d_ix rfl (d_lst (a_cons d_str (a_cons d_str (a_cons d_str a_nil)))) (d_bin op_modN oMod_ok (d_bin op_fdivN oDiv_ok (d_ix rfl (d_v (i := 0) rfl (by first | exact Or.inl rfl | exact Or.inr (Or.inl rfl) | exact Or.inr (Or.inr rfl)) rfl) d_int (fun _ _ => rfl)) d_int) d_int) (fun _ _ => rfl))))))))

abbrev s_reached : Stmt := topS 12
theorem sc_reached : FnScope [(Str.ofString "house"), (Str.ofString "belt"), (Str.ofString "known"), (Str.ofString "other"), (Str.ofString "told"), (Str.ofString "cart")] [(Str.ofString "house"), (Str.ofString "belt")] (defScope s_reached) := ⟨rfl, rfl, rfl, by decide +kernel, rfl, by decide +kernel, by decide +kernel⟩
theorem ok_reached {f : Addr} {fd : FuncData} (F : Fun K (Str.ofString "reached") (Str.ofString "reached") s_reached f fd) {f_belt_of : Addr} {fd_belt_of : FuncData} (G_belt_of : FnOk P w K mg base (L2.CX P w) 1 f_belt_of fd_belt_of [(Str.ofString "house"), (Str.ofString "name")] (SpD K cn [false, false] d_belt_of)) (g_belt_of : mg (Str.ofString "belt_of") = some (.ref f_belt_of)) (k_belt_of : PySem.W.keepIn K (.ref f_belt_of) = true) (b_belt_of : Binds K fd_belt_of [(Str.ofString "house"), (Str.ofString "name")] []) (m_list : mg (Str.ofString "list") = none) : FnOk P w K mg base (L2.CX P w) 2 f fd [(Str.ofString "house"), (Str.ofString "belt")] (SpD K cn [false, false] d_reached) :=
  fn_ok (N := [(Str.ofString "house"), (Str.ofString "belt"), (Str.ofString "known"), (Str.ofString "other"), (Str.ofString "told"), (Str.ofString "cart")]) (n := 4) (lm := [false, false]) (os := [2]) (g := b_reached) F sc_reached rfl rfl (hos_by (by decide)) fun cdv A outer s H E F0 fp vs hr tk hp =>
    have nd := sc_reached.nd
    (ss_cons (s_o (i := 2) rfl rfl nd rfl (by first | exact Or.inl rfl | exact Or.inr rfl) (lift_e (d_ty oList_ok call_list_of (by rfl) m_list (by decide +kernel) (a_cons (d_ix rfl (d_call G_belt_of (fun _ h => by subst h; rfl) (d_belt_of_len) rfl (hr.mono (by first | omega | exact Nat.le_refl _)) (by rfl) g_belt_of k_belt_of b_belt_of tk (a_cons (d_v (i := 0) rfl (by first | exact Or.inl rfl | exact Or.inr (Or.inl rfl) | exact Or.inr (Or.inr rfl)) rfl) (a_cons (d_v (i := 1) rfl (by first | exact Or.inl rfl | exact Or.inr (Or.inl rfl) | exact Or.inr (Or.inr rfl)) rfl) a_nil))) d_int (fun _ _ => rfl)) a_nil))))
    (ss_cons (s_for [3] hp rfl (i_all rfl (lift_e (d_ix rfl (d_v (i := 0) rfl (by first | exact Or.inl rfl | exact Or.inr (Or.inl rfl) | exact Or.inr (Or.inr rfl)) rfl) d_int (fun _ _ => rfl)))) (b_n (i := 3) rfl nd rfl (by first | exact Or.inl rfl | exact Or.inr rfl)) (ss_one (s_if (lift_t (q_cmp (opr_in (u65 hr)) oIn_ok (d_ix rfl (d_v (i := 3) rfl (by first | exact Or.inl rfl | exact Or.inr (Or.inl rfl) | exact Or.inr (Or.inr rfl)) rfl) d_int (fun _ _ => rfl)) (d_k (i := 2) rfl (by first | exact Or.inl rfl | exact Or.inr (Or.inl rfl) | exact Or.inr (Or.inr rfl))) (by rfl))) (ss_one (s_expr (e_lm (i := 2) oExt_ok PySem.F.plainAttrs_list PySem.F.slot_list_extend PySem.F.type_list_extend mt_extend rfl rfl rfl (by first | exact Or.inl rfl | exact Or.inr (Or.inl rfl) | exact Or.inr (Or.inr rfl)) (ae_cons (lift_e (d_ix rfl (d_v (i := 3) rfl (by first | exact Or.inl rfl | exact Or.inr (Or.inl rfl) | exact Or.inr (Or.inr rfl)) rfl) d_int (fun _ _ => rfl))) ae_nil)))) ss_nil)))
    (ss_cons (s_lc true (i := 4) (own := [((Str.ofString "other"), 3)]) (js := [3]) rfl (fun h => by cases h) (by simp [bodyCtx, lvOf]) (by simp) rfl nd rfl rfl (sw_true rfl rfl rfl (by decide +kernel)) (i_all rfl (lift_e (d_ix rfl (d_v (i := 0) rfl (by first | exact Or.inl rfl | exact Or.inr (Or.inl rfl) | exact Or.inr (Or.inr rfl)) rfl) d_int (fun _ _ => rfl)))) (blkOk_by (by exact rfl)) (fun _ _ _ _ _ => (b_n (i := 3) rfl nd rfl (by first | exact Or.inl rfl | exact Or.inr rfl))) (fun _ _ _ _ _ => (ts_one (lift_t (q_cmp (opr_in (u65 hr)) oIn_ok (d_ix rfl (d_v (i := 3) rfl (by first | exact Or.inl rfl | exact Or.inr (Or.inl rfl) | exact Or.inr (Or.inr rfl)) rfl) d_int (fun _ _ => rfl)) (d_k (i := 2) rfl (by first | exact Or.inl rfl | exact Or.inr (Or.inl rfl) | exact Or.inr (Or.inr rfl))) (by rfl))))) (fun _ _ _ _ _ => (lift_e (d_ix rfl (d_v (i := 3) rfl (by first | exact Or.inl rfl | exact Or.inr (Or.inl rfl) | exact Or.inr (Or.inr rfl)) rfl) d_int (fun _ _ => rfl)))))
    (ss_one (s_ret (e_bin opr_add oAdd_ok (lift_e (d_v (i := 4) rfl (by first | exact Or.inl rfl | exact Or.inr (Or.inl rfl) | exact Or.inr (Or.inr rfl)) rfl)) (e_lc (own := [((Str.ofString "cart"), 5)]) (js := [5]) (by simp [bodyCtx, lvOf]) (by simp) rfl nd (i_all rfl (lift_e (d_ix rfl (d_v (i := 0) rfl (by first | exact Or.inl rfl | exact Or.inr (Or.inl rfl) | exact Or.inr (Or.inr rfl)) rfl) d_int (fun _ _ => rfl)))) (blkOk_by (by exact rfl)) (fun _ _ _ _ _ => (b_n (i := 5) rfl nd rfl (by first | exact Or.inl rfl | exact Or.inr rfl))) (fun _ _ _ _ _ => (ts_one (lift_t (q_cmp (opr_in (u65 hr)) oIn_ok (d_v (i := 5) rfl (by first | exact Or.inl rfl | exact Or.inr (Or.inl rfl) | exact Or.inr (Or.inr rfl)) rfl) (d_k (i := 2) rfl (by first | exact Or.inl rfl | exact Or.inr (Or.inl rfl) | exact Or.inr (Or.inr rfl))) (by rfl))))) (fun _ _ _ _ _ => (lift_e (d_v (i := 5) rfl (by first | exact Or.inl rfl | exact Or.inr (Or.inl rfl) | exact Or.inr (Or.inr rfl)) rfl))))))))))

abbrev s_ask_names : Stmt := topS 13
theorem sc_ask_names : FnScope [(Str.ofString "house"), (Str.ofString "taken"), (Str.ofString "cart"), (Str.ofString "belt")] [(Str.ofString "house")] (defScope s_ask_names) := ⟨rfl, rfl, rfl, by decide +kernel, rfl, by decide +kernel, by decide +kernel⟩
theorem ok_ask_names {f : Addr} {fd : FuncData} (F : Fun K (Str.ofString "ask_names") (Str.ofString "ask_names") s_ask_names f fd) {f_is_name : Addr} {fd_is_name : FuncData} (G_is_name : FnOk P w K mg base (L2.CX P w) 1 f_is_name fd_is_name [(Str.ofString "thing")] (SpD K cn [false] d_is_name)) (g_is_name : mg (Str.ofString "is_name") = some (.ref f_is_name)) (k_is_name : PySem.W.keepIn K (.ref f_is_name) = true) (b_is_name : Binds K fd_is_name [(Str.ofString "thing")] []) (m_len : mg (Str.ofString "len") = none) (m_int : mg (Str.ofString "int") = none) : FnOk P w K mg base (L2.CX P w) 2 f fd [(Str.ofString "house")] (SpD K cn [false] d_ask_names) :=
  fn_ok (N := [(Str.ofString "house"), (Str.ofString "taken"), (Str.ofString "cart"), (Str.ofString "belt")]) (n := 3) (lm := [false]) (os := [1]) (g := b_ask_names) F sc_ask_names rfl rfl (hos_by (by decide)) fun cdv A outer s H E F0 fp vs hr tk hp =>
    have nd := sc_ask_names.nd
    (ss_cons (s_o (i := 1) rfl rfl nd rfl (by first | exact Or.inl rfl | exact Or.inr rfl) (lift_e (d_lst a_nil)))
    (ss_cons (s_for [2] hp rfl (i_all rfl (lift_e (d_ix rfl (d_v (i := 0) rfl (by first | exact Or.inl rfl | exact Or.inr (Or.inl rfl) | exact Or.inr (Or.inr rfl)) rfl) d_int (fun _ _ => rfl)))) (b_n (i := 2) rfl nd rfl (by first | exact Or.inl rfl | exact Or.inr rfl)) (ss_cons (s_if (lift_t (q_w (w_or (q_not (q_val (d_call G_is_name (fun _ h => by subst h; rfl) (d_is_name_len) rfl (hr.mono (by first | omega | exact Nat.le_refl _)) (by rfl) g_is_name k_is_name b_is_name tk (a_cons (d_v (i := 2) rfl (by first | exact Or.inl rfl | exact Or.inr (Or.inl rfl) | exact Or.inr (Or.inr rfl)) rfl) a_nil)))) (w_or1 (q_cmp (opr_in (u65 hr)) oIn_ok (d_v (i := 2) rfl (by first | exact Or.inl rfl | exact Or.inr (Or.inl rfl) | exact Or.inr (Or.inr rfl)) rfl) (d_k (i := 1) rfl (by first | exact Or.inl rfl | exact Or.inr (Or.inl rfl) | exact Or.inr (Or.inr rfl))) (by rfl)))))) (ss_one s_stuck) ss_nil)
    (ss_one (s_expr (e_lm (i := 1) oApp_ok PySem.F.plainAttrs_list PySem.F.slot_list_append PySem.F.type_list_append mt_append rfl rfl rfl (by first | exact Or.inl rfl | exact Or.inr (Or.inl rfl) | exact Or.inr (Or.inr rfl)) (ae_cons (lift_e (d_v (i := 2) rfl (by first | exact Or.inl rfl | exact Or.inr (Or.inl rfl) | exact Or.inr (Or.inr rfl)) rfl)) ae_nil))))))
    (ss_cons (s_if (lift_t (q_cmp (opr_eq (u64 hr)) oEq_ok (d_fn oLen_ok call_lenA (by rfl) m_len PySem.boot_len (a_cons (d_ix rfl (d_v (i := 0) rfl (by first | exact Or.inl rfl | exact Or.inr (Or.inl rfl) | exact Or.inr (Or.inr rfl)) rfl) d_int (fun _ _ => rfl)) a_nil)) d_int (nomark _))) (ss_one s_stuck) ss_nil)
    (ss_one (s_for [3] hp rfl (i_all rfl (lift_e (d_ix rfl (d_v (i := 0) rfl (by first | exact Or.inl rfl | exact Or.inr (Or.inl rfl) | exact Or.inr (Or.inr rfl)) rfl) d_int (fun _ _ => rfl)))) (b_n (i := 3) rfl nd rfl (by first | exact Or.inl rfl | exact Or.inr rfl)) (ss_cons (s_if (lift_t (q_w (w_or (q_not (q_val (d_call G_is_name (fun _ h => by subst h; rfl) (d_is_name_len) rfl (hr.mono (by first | omega | exact Nat.le_refl _)) (by rfl) g_is_name k_is_name b_is_name tk (a_cons (d_ix rfl (d_v (i := 3) rfl (by first | exact Or.inl rfl | exact Or.inr (Or.inl rfl) | exact Or.inr (Or.inr rfl)) rfl) d_int (fun _ _ => rfl)) a_nil)))) (w_or1 (q_cmp (opr_in (u65 hr)) oIn_ok (d_ix rfl (d_v (i := 3) rfl (by first | exact Or.inl rfl | exact Or.inr (Or.inl rfl) | exact Or.inr (Or.inr rfl)) rfl) d_int (fun _ _ => rfl)) (d_k (i := 1) rfl (by first | exact Or.inl rfl | exact Or.inr (Or.inl rfl) | exact Or.inr (Or.inr rfl))) (by rfl)))))) (ss_one s_stuck) ss_nil)
    (ss_cons (s_if (lift_t (q_cmp op_lt oLt_ok (d_ix rfl (d_v (i := 3) rfl (by first | exact Or.inl rfl | exact Or.inr (Or.inl rfl) | exact Or.inr (Or.inr rfl)) rfl) d_int (fun _ _ => rfl)) (d_bin opr_add oAdd_ok d_int (d_ty oInt_ok call_int1 (by rfl) m_int (by decide +kernel) (a_cons (d_ix rfl (d_v (i := 3) rfl (by first | exact Or.inl rfl | exact Or.inr (Or.inl rfl) | exact Or.inr (Or.inr rfl)) rfl) d_int (fun _ _ => rfl)) a_nil))) (nomark _))) (ss_one s_stuck) ss_nil)
    (ss_one (s_expr (e_lm (i := 1) oApp_ok PySem.F.plainAttrs_list PySem.F.slot_list_append PySem.F.type_list_append mt_append rfl rfl rfl (by first | exact Or.inl rfl | exact Or.inr (Or.inl rfl) | exact Or.inr (Or.inr rfl)) (ae_cons (lift_e (d_ix rfl (d_v (i := 3) rfl (by first | exact Or.inl rfl | exact Or.inr (Or.inl rfl) | exact Or.inr (Or.inr rfl)) rfl) d_int (fun _ _ => rfl))) ae_nil)))))))))))

abbrev s_belt_in : Stmt := topS 19
theorem sc_belt_in : FnScope [(Str.ofString "words"), (Str.ofString "long")] [(Str.ofString "words")] (defScope s_belt_in) := ⟨rfl, rfl, rfl, by decide +kernel, rfl, by decide +kernel, by decide +kernel⟩
theorem ok_belt_in {f : Addr} {fd : FuncData} (F : Fun K (Str.ofString "belt_in") (Str.ofString "belt_in") s_belt_in f fd) {f_number_of : Addr} {fd_number_of : FuncData} (G_number_of : FnOk P w K mg base (L2.CX P w) 1 f_number_of fd_number_of [(Str.ofString "word")] (SpD K cn [false] d_number_of)) (g_number_of : mg (Str.ofString "number_of") = some (.ref f_number_of)) (k_number_of : PySem.W.keepIn K (.ref f_number_of) = true) (b_number_of : Binds K fd_number_of [(Str.ofString "word")] []) (m_len : mg (Str.ofString "len") = none) : FnOk P w K mg base (L2.CX P w) 2 f fd [(Str.ofString "words")] (SpD K cn [false] d_belt_in) :=
  fn_ok (N := [(Str.ofString "words"), (Str.ofString "long")]) (n := 1) (lm := [false]) (os := []) (g := b_belt_in) F sc_belt_in rfl rfl (hos_by (by decide)) fun cdv A outer s H E F0 fp vs hr tk hp =>
    have nd := sc_belt_in.nd
    (ss_cons (s_if (lift_t (q_w (w_or (q_cmp op_lt oLt_ok (d_fn oLen_ok call_lenA (by rfl) m_len PySem.boot_len (a_cons (d_v (i := 0) rfl (by first | exact Or.inl rfl | exact Or.inr (Or.inl rfl) | exact Or.inr (Or.inr rfl)) rfl) a_nil)) d_int (nomark _)) (w_or1 (q_cmp (opr_ne (u64 hr)) oNe_ok (d_ix rfl (d_v (i := 0) rfl (by first | exact Or.inl rfl | exact Or.inr (Or.inl rfl) | exact Or.inr (Or.inr rfl)) rfl) d_int (fun _ _ => rfl)) d_str (nomark _)))))) (ss_one (s_ret (lift_e d_non))) ss_nil)
    (ss_cons (s_f (i := 1) rfl nd rfl (by first | exact Or.inl rfl | exact Or.inr rfl) (lift_e (d_call G_number_of (fun _ h => by subst h; rfl) (d_number_of_len) rfl (hr.mono (by first | omega | exact Nat.le_refl _)) (by rfl) g_number_of k_number_of b_number_of tk (a_cons (d_ix rfl (d_v (i := 0) rfl (by first | exact Or.inl rfl | exact Or.inr (Or.inl rfl) | exact Or.inr (Or.inr rfl)) rfl) d_int (fun _ _ => rfl)) a_nil))))
    (ss_cons (s_if (lift_t (q_cmp opr_is oIs_ok (d_v (i := 1) rfl (by first | exact Or.inl rfl | exact Or.inr (Or.inl rfl) | exact Or.inr (Or.inr rfl)) rfl) d_non (nomark _))) (ss_one (s_ret (lift_e d_non))) ss_nil)
    (ss_one (s_ret (lift_e (d_tup (a_cons (d_ix rfl (d_v (i := 0) rfl (by first | exact Or.inl rfl | exact Or.inr (Or.inl rfl) | exact Or.inr (Or.inr rfl)) rfl) d_int (fun _ _ => rfl)) (a_cons (d_v (i := 1) rfl (by first | exact Or.inl rfl | exact Or.inr (Or.inl rfl) | exact Or.inr (Or.inr rfl)) rfl) (a_cons (d_cmp (opr_eq (u64 hr)) oEq_ok (d_ix rfl (d_v (i := 0) rfl (by first | exact Or.inl rfl | exact Or.inr (Or.inl rfl) | exact Or.inr (Or.inr rfl)) rfl) d_int (fun _ _ => rfl)) d_str (nomark _)) (a_cons (d_sl rfl (d_v (i := 0) rfl (by first | exact Or.inl rfl | exact Or.inr (Or.inl rfl) | exact Or.inr (Or.inr rfl)) rfl) (o_some d_int) o_none) a_nil)))))))))))

abbrev s_law_outs_609918 : Stmt := topS 25
theorem sc_law_outs_609918 : FnScope [(Str.ofString "feed"), (Str.ofString "later"), (Str.ofString "carts"), (Str.ofString "outs"), (Str.ofString "t"), (Str.ofString "out")] [(Str.ofString "feed"), (Str.ofString "later"), (Str.ofString "carts")] (defScope s_law_outs_609918) := ⟨rfl, rfl, rfl, by decide +kernel, rfl, by decide +kernel, by decide +kernel⟩
theorem ok_law_outs_609918 {f : Addr} {fd : FuncData} (F : Fun K (Str.ofString "_law_outs") (Str.ofString "_law_outs") s_law_outs_609918 f fd) {f_law_draw_664a20 : Addr} {fd_law_draw_664a20 : FuncData} (G_law_draw_664a20 : FnOk P w K mg base (L2.CX P w) 1 f_law_draw_664a20 fd_law_draw_664a20 [(Str.ofString "feed"), (Str.ofString "many")] (SpD K cn [true, false] d_law_draw_664a20)) (g_law_draw_664a20 : mg (Str.ofString "_law_draw") = some (.ref f_law_draw_664a20)) (k_law_draw_664a20 : PySem.W.keepIn K (.ref f_law_draw_664a20) = true) (b_law_draw_664a20 : Binds K fd_law_draw_664a20 [(Str.ofString "feed"), (Str.ofString "many")] []) (m_range : mg (Str.ofString "range") = none) (m_len : mg (Str.ofString "len") = none) : FnOk P w K mg base (L2.CX P w) 2 f fd [(Str.ofString "feed"), (Str.ofString "later"), (Str.ofString "carts")] (SpD K cn [true, false, false] d_law_outs_609918) :=
  fn_ok (N := [(Str.ofString "feed"), (Str.ofString "later"), (Str.ofString "carts"), (Str.ofString "outs"), (Str.ofString "t"), (Str.ofString "out")]) (n := 3) (lm := [true, false, false]) (os := [0, 3]) (g := b_law_outs_609918) F sc_law_outs_609918 rfl rfl (hos_by (by decide)) fun cdv A outer s H E F0 fp vs hr tk hp =>
    have nd := sc_law_outs_609918.nd
    (ss_cons (s_o (i := 3) rfl rfl nd rfl (by first | exact Or.inl rfl | exact Or.inr rfl) (lift_e (d_lst a_nil)))
    (ss_cons (s_for [4] hp rfl (i_rng1 (by rfl) m_range (ae_cons (e_bin opr_add oAdd_ok (lift_e d_int) (e_call G_law_draw_664a20 (by simp [bodyCtx]) rfl (hr.mono (by first | omega | exact Nat.le_refl _)) (by rfl) g_law_draw_664a20 k_law_draw_664a20 b_law_draw_664a20 tk (aa_ln (i := 0) rfl (by first | exact Or.inl rfl | exact Or.inr (Or.inl rfl) | exact Or.inr (Or.inr rfl)) (aa_ex (lift_e d_int) aa_nil)))) ae_nil)) (b_n (i := 4) rfl nd rfl (by first | exact Or.inl rfl | exact Or.inr rfl)) (ss_cons (s_f (i := 5) rfl nd rfl (by first | exact Or.inl rfl | exact Or.inr rfl) (e_ix rfl (lift_e (d_bin opr_add oAdd_ok (d_v (i := 1) rfl (by first | exact Or.inl rfl | exact Or.inr (Or.inl rfl) | exact Or.inr (Or.inr rfl)) rfl) (d_v (i := 2) rfl (by first | exact Or.inl rfl | exact Or.inr (Or.inl rfl) | exact Or.inr (Or.inr rfl)) rfl))) (e_call G_law_draw_664a20 (by simp [bodyCtx]) rfl (hr.mono (by first | omega | exact Nat.le_refl _)) (by rfl) g_law_draw_664a20 k_law_draw_664a20 b_law_draw_664a20 tk (aa_ln (i := 0) rfl (by first | exact Or.inl rfl | exact Or.inr (Or.inl rfl) | exact Or.inr (Or.inr rfl)) (aa_ex (lift_e (d_bin opr_add oAdd_ok (d_fn oLen_ok call_lenA (by rfl) m_len PySem.boot_len (a_cons (d_v (i := 1) rfl (by first | exact Or.inl rfl | exact Or.inr (Or.inl rfl) | exact Or.inr (Or.inr rfl)) rfl) a_nil)) (d_fn oLen_ok call_lenA (by rfl) m_len PySem.boot_len (a_cons (d_v (i := 2) rfl (by first | exact Or.inl rfl | exact Or.inr (Or.inl rfl) | exact Or.inr (Or.inr rfl)) rfl) a_nil)))) aa_nil))) (fun _ _ => rfl)))
    (ss_one (s_if (lift_t (q_cmp (opr_notin (u65 hr)) oIn_ok (d_v (i := 5) rfl (by first | exact Or.inl rfl | exact Or.inr (Or.inl rfl) | exact Or.inr (Or.inr rfl)) rfl) (d_k (i := 3) rfl (by first | exact Or.inl rfl | exact Or.inr (Or.inl rfl) | exact Or.inr (Or.inr rfl))) (by rfl))) (ss_one (s_expr (e_lm (i := 3) oIns_ok PySem.F.plainAttrs_list PySem.F.slot_list_insert PySem.F.type_list_insert mt_insert rfl rfl rfl (by first | exact Or.inl rfl | exact Or.inr (Or.inl rfl) | exact Or.inr (Or.inr rfl)) (ae_cons (e_call G_law_draw_664a20 (by simp [bodyCtx]) rfl (hr.mono (by first | omega | exact Nat.le_refl _)) (by rfl) g_law_draw_664a20 k_law_draw_664a20 b_law_draw_664a20 tk (aa_ln (i := 0) rfl (by first | exact Or.inl rfl | exact Or.inr (Or.inl rfl) | exact Or.inr (Or.inr rfl)) (aa_ex (lift_e (d_bin opr_add oAdd_ok (d_fn oLen_ok call_lenA (by rfl) m_len PySem.boot_len (a_cons (d_k (i := 3) rfl (by first | exact Or.inl rfl | exact Or.inr (Or.inl rfl) | exact Or.inr (Or.inr rfl))) a_nil)) d_int)) aa_nil))) (ae_cons (lift_e (d_v (i := 5) rfl (by first | exact Or.inl rfl | exact Or.inr (Or.inl rfl) | exact Or.inr (Or.inr rfl)) rfl)) ae_nil))))) ss_nil))))
    (ss_cons (s_if (t_w (tw_and (lift_t (q_cmp (opr_notin (u65 hr)) oIn_ok (d_ix rfl (d_v (i := 2) rfl (by first | exact Or.inl rfl | exact Or.inr (Or.inl rfl) | exact Or.inr (Or.inr rfl)) rfl) d_int (fun _ _ => rfl)) (d_k (i := 3) rfl (by first | exact Or.inl rfl | exact Or.inr (Or.inl rfl) | exact Or.inr (Or.inr rfl))) (by rfl))) (tw_and1 (t_cmp (opr_eq (u64 hr)) oEq_ok (e_fn oLen_ok call_lenA (by rfl) m_len PySem.boot_len (ae_cons (e_lcO (i := 3) (own := [((Str.ofString "out"), 5)]) (js := [5]) rfl (by simp [bodyCtx, lvOf]) (by simp) rfl nd (i_own (i := 3) rfl rfl (by first | exact Or.inl rfl | exact Or.inr (Or.inl rfl) | exact Or.inr (Or.inr rfl))) (blkOk_by (by exact rfl)) (fun _ _ _ _ _ => (b_n (i := 5) rfl nd rfl (by first | exact Or.inl rfl | exact Or.inr rfl))) (fun _ _ _ _ _ => (ts_one (lift_t (q_cmp (opr_in (u65 hr)) oIn_ok (d_v (i := 5) rfl (by first | exact Or.inl rfl | exact Or.inr (Or.inl rfl) | exact Or.inr (Or.inr rfl)) rfl) (d_v (i := 1) rfl (by first | exact Or.inl rfl | exact Or.inr (Or.inl rfl) | exact Or.inr (Or.inr rfl)) rfl) (by rfl))))) (fun _ _ _ _ _ => (lift_e (d_v (i := 5) rfl (by first | exact Or.inl rfl | exact Or.inr (Or.inl rfl) | exact Or.inr (Or.inr rfl)) rfl)))) ae_nil)) (lift_e d_int) (nomark _))))) (ss_one (s_expr (e_lm (i := 3) oIns_ok PySem.F.plainAttrs_list PySem.F.slot_list_insert PySem.F.type_list_insert mt_insert rfl rfl rfl (by first | exact Or.inl rfl | exact Or.inr (Or.inl rfl) | exact Or.inr (Or.inr rfl)) (ae_cons (e_call G_law_draw_664a20 (by simp [bodyCtx]) rfl (hr.mono (by first | omega | exact Nat.le_refl _)) (by rfl) g_law_draw_664a20 k_law_draw_664a20 b_law_draw_664a20 tk (aa_ln (i := 0) rfl (by first | exact Or.inl rfl | exact Or.inr (Or.inl rfl) | exact Or.inr (Or.inr rfl)) (aa_ex (lift_e (d_bin opr_add oAdd_ok (d_fn oLen_ok call_lenA (by rfl) m_len PySem.boot_len (a_cons (d_k (i := 3) rfl (by first | exact Or.inl rfl | exact Or.inr (Or.inl rfl) | exact Or.inr (Or.inr rfl))) a_nil)) d_int)) aa_nil))) (ae_cons (lift_e (d_ix rfl (d_v (i := 2) rfl (by first | exact Or.inl rfl | exact Or.inr (Or.inl rfl) | exact Or.inr (Or.inr rfl)) rfl) d_int (fun _ _ => rfl))) ae_nil))))) ss_nil)
    (ss_one (s_ret (e_mv (i := 3) rfl (by first | exact Or.inl rfl | exact Or.inr (Or.inl rfl) | exact Or.inr (Or.inr rfl))))))))

abbrev s_law_mixed_d12046 : Stmt := topS 27
theorem sc_law_mixed_d12046 : FnScope [(Str.ofString "feed"), (Str.ofString "house"), (Str.ofString "rows"), (Str.ofString "name"), (Str.ofString "long"), (Str.ofString "ring"), (Str.ofString "outs"), (Str.ofString "lines"), (Str.ofString "row"), (Str.ofString "cart")] [(Str.ofString "feed"), (Str.ofString "house")] (defScope s_law_mixed_d12046) := ⟨rfl, rfl, rfl, by decide +kernel, rfl, by decide +kernel, by decide +kernel⟩
theorem ok_law_mixed_d12046 {f : Addr} {fd : FuncData} (F : Fun K (Str.ofString "_law_mixed") (Str.ofString "_law_mixed") s_law_mixed_d12046 f fd) {f_law_draw_664a20 : Addr} {fd_law_draw_664a20 : FuncData} (G_law_draw_664a20 : FnOk P w K mg base (L2.CX P w) 1 f_law_draw_664a20 fd_law_draw_664a20 [(Str.ofString "feed"), (Str.ofString "many")] (SpD K cn [true, false] d_law_draw_664a20)) (g_law_draw_664a20 : mg (Str.ofString "_law_draw") = some (.ref f_law_draw_664a20)) (k_law_draw_664a20 : PySem.W.keepIn K (.ref f_law_draw_664a20) = true) (b_law_draw_664a20 : Binds K fd_law_draw_664a20 [(Str.ofString "feed"), (Str.ofString "many")] []) (m_int : mg (Str.ofString "int") = none) (m_str : mg (Str.ofString "str") = none) (m_len : mg (Str.ofString "len") = none) : FnOk P w K mg base (L2.CX P w) 2 f fd [(Str.ofString "feed"), (Str.ofString "house")] (SpD K cn [true, false] d_law_mixed_d12046) :=
  fn_ok (N := [(Str.ofString "feed"), (Str.ofString "house"), (Str.ofString "rows"), (Str.ofString "name"), (Str.ofString "long"), (Str.ofString "ring"), (Str.ofString "outs"), (Str.ofString "lines"), (Str.ofString "row"), (Str.ofString "cart")]) (n := 8) (lm := [true, false]) (os := [0, 2, 7, 8]) (g := b_law_mixed_d12046) F sc_law_mixed_d12046 rfl rfl (hos_by (by decide)) fun cdv A outer s H E F0 fp vs hr tk hp =>
    have nd := sc_law_mixed_d12046.nd
    (ss_cons (s_o (i := 2) rfl rfl nd rfl (by first | exact Or.inl rfl | exact Or.inr rfl) (e_lst (ae_cons (lift_e (d_lst a_nil)) (ae_cons (e_lc (own := [((Str.ofString "cart"), 9)]) (js := [9]) (by simp [bodyCtx, lvOf]) (by simp) rfl nd (i_all rfl (lift_e (d_ix rfl (d_v (i := 1) rfl (by first | exact Or.inl rfl | exact Or.inr (Or.inl rfl) | exact Or.inr (Or.inr rfl)) rfl) d_int (fun _ _ => rfl)))) (blkOk_by (by exact rfl)) (fun _ _ _ _ _ => (b_n (i := 9) rfl nd rfl (by first | exact Or.inl rfl | exact Or.inr rfl))) (fun _ _ _ _ _ => ts_nil) (fun _ _ _ _ _ => (lift_e (d_bin opr_add oAdd_ok d_str (d_v (i := 9) rfl (by first | exact Or.inl rfl | exact Or.inr (Or.inl rfl) | exact Or.inr (Or.inr rfl)) rfl))))) ae_nil))))
    (ss_cons (s_for [3, 4, 5, 6] hp rfl (i_all rfl (lift_e (d_ix rfl (d_v (i := 1) rfl (by first | exact Or.inl rfl | exact Or.inr (Or.inl rfl) | exact Or.inr (Or.inr rfl)) rfl) d_int (fun _ _ => rfl)))) (b_tup rfl rfl (bs_cons (b_n (i := 3) rfl nd rfl (by first | exact Or.inl rfl | exact Or.inr rfl)) (bs_cons (b_n (i := 4) rfl nd rfl (by first | exact Or.inl rfl | exact Or.inr rfl)) (bs_cons (b_n (i := 5) rfl nd rfl (by first | exact Or.inl rfl | exact Or.inr rfl)) (bs_cons (b_n (i := 6) rfl nd rfl (by first | exact Or.inl rfl | exact Or.inr rfl)) bs_nil)))) (bsCons_len (bsCons_len (bsCons_len (bsCons_len bsNil_len))))) (ss_one (s_expr (e_lmp (i := 2) oApp_ok PySem.F.plainAttrs_list PySem.F.slot_list_append PySem.F.type_list_append mt_append rfl rfl (l_ix rfl (l_var (i := 2) rfl (by first | exact Or.inl rfl | exact Or.inr (Or.inl rfl) | exact Or.inr (Or.inr rfl))) d_int (fun _ _ => rfl)) (a_cons (d_join rfl d_str (d_bin opr_add oAdd_ok (d_lst (a_cons (d_ix rfl (d_lst (a_cons d_str (a_cons d_str a_nil))) (d_ty oInt_ok call_int1 (by rfl) m_int (by decide +kernel) (a_cons (d_v (i := 5) rfl (by first | exact Or.inl rfl | exact Or.inr (Or.inl rfl) | exact Or.inr (Or.inr rfl)) rfl) a_nil)) (fun _ _ => rfl)) (a_cons (d_v (i := 3) rfl (by first | exact Or.inl rfl | exact Or.inr (Or.inl rfl) | exact Or.inr (Or.inr rfl)) rfl) (a_cons (d_ty oStr_ok call_strA (by rfl) m_str (by decide +kernel) (a_cons (d_v (i := 4) rfl (by first | exact Or.inl rfl | exact Or.inr (Or.inl rfl) | exact Or.inr (Or.inr rfl)) rfl) a_nil)) (a_cons d_str a_nil))))) (d_v (i := 6) rfl (by first | exact Or.inl rfl | exact Or.inr (Or.inl rfl) | exact Or.inr (Or.inr rfl)) rfl))) a_nil)))))
    (ss_cons (s_o (i := 7) rfl rfl nd rfl (by first | exact Or.inl rfl | exact Or.inr rfl) (lift_e (d_lst a_nil)))
    (ss_cons (s_mf (i := 2) (j := 8) rfl rfl rfl rfl nd rfl rfl (by first | exact Or.inl rfl | exact Or.inr (Or.inl rfl) | exact Or.inr (Or.inr rfl)) rfl (sw_true rfl rfl rfl (by decide +kernel)) (blkOk_by (by exact rfl)) (fun _ _ _ _ _ => (by first | exact Or.inl rfl | exact Or.inr rfl)) (fun _ _ _ _ _ => (by first | exact .inl rfl | exact .inr rfl)) (fun _ _ _ _ _ => (by first | exact Or.inl rfl | exact Or.inr (Or.inl rfl) | exact Or.inr (Or.inr rfl))))
    (ss_cons (s_while hp (lift_t (q_tru rfl (d_k (i := 2) rfl (by first | exact Or.inl rfl | exact Or.inr (Or.inl rfl) | exact Or.inr (Or.inr rfl))))) (ss_al (x := 8) (y := 2) (by decide) rfl rfl rfl nd rfl (by first | exact Or.inl rfl | exact Or.inr rfl) (le_ix (i := 2) rfl rfl (by first | exact Or.inl rfl | exact Or.inr (Or.inl rfl) | exact Or.inr (Or.inr rfl)) (e_call G_law_draw_664a20 (by simp [bodyCtx]) rfl (hr.mono (by first | omega | exact Nat.le_refl _)) (by rfl) g_law_draw_664a20 k_law_draw_664a20 b_law_draw_664a20 tk (aa_ln (i := 0) rfl (by first | exact Or.inl rfl | exact Or.inr (Or.inl rfl) | exact Or.inr (Or.inr rfl)) (aa_ex (lift_e (d_fn oLen_ok call_lenA (by rfl) m_len PySem.boot_len (a_cons (d_k (i := 2) rfl (by first | exact Or.inl rfl | exact Or.inr (Or.inl rfl) | exact Or.inr (Or.inr rfl))) a_nil))) aa_nil))) (fun _ _ => rfl)) (ss_alC (fun _ _ _ _ _ => (s_expr (e_lm (i := 7) oApp_ok PySem.F.plainAttrs_list PySem.F.slot_list_append PySem.F.type_list_append mt_append rfl rfl rfl (by first | exact Or.inl rfl | exact Or.inr (Or.inl rfl) | exact Or.inr (Or.inr rfl)) (ae_cons (e_lm (i := 8) oPop0_ok PySem.F.plainAttrs_list PySem.F.slot_list_pop PySem.F.type_list_pop mt_popAt rfl rfl rfl (by first | exact Or.inl rfl | exact Or.inr (Or.inl rfl) | exact Or.inr (Or.inr rfl)) (ae_cons (lift_e d_int) ae_nil)) ae_nil))))
    (ss_alE (ss_one (s_mf (i := 2) (j := 8) rfl rfl rfl rfl nd rfl rfl (by first | exact Or.inl rfl | exact Or.inr (Or.inl rfl) | exact Or.inr (Or.inr rfl)) rfl (sw_true rfl rfl rfl (by decide +kernel)) (blkOk_by (by exact rfl)) (fun _ _ _ _ _ => (by first | exact Or.inl rfl | exact Or.inr rfl)) (fun _ _ _ _ _ => (by first | exact .inl rfl | exact .inr rfl)) (fun _ _ _ _ _ => (by first | exact Or.inl rfl | exact Or.inr (Or.inl rfl) | exact Or.inr (Or.inr rfl)))))))))
    (ss_one (s_ret (lift_e (d_join rfl d_str (d_k (i := 7) rfl (by first | exact Or.inl rfl | exact Or.inr (Or.inl rfl) | exact Or.inr (Or.inr rfl))))))))))))

abbrev s_right_house : Stmt := topS 15
theorem sc_right_house : FnScope [(Str.ofString "house"), (Str.ofString "k"), (Str.ofString "belt")] [(Str.ofString "house")] (defScope s_right_house) := ⟨rfl, rfl, rfl, by decide +kernel, rfl, by decide +kernel, by decide +kernel⟩
theorem ok_right_house {f : Addr} {fd : FuncData} (F : Fun K (Str.ofString "right_house") (Str.ofString "right_house") s_right_house f fd) {f_ask_names : Addr} {fd_ask_names : FuncData} (G_ask_names : FnOk P w K mg base (L2.CX P w) 2 f_ask_names fd_ask_names [(Str.ofString "house")] (SpD K cn [false] d_ask_names)) (g_ask_names : mg (Str.ofString "ask_names") = some (.ref f_ask_names)) (k_ask_names : PySem.W.keepIn K (.ref f_ask_names) = true) (b_ask_names : Binds K fd_ask_names [(Str.ofString "house")] []) {f_ask_outs : Addr} {fd_ask_outs : FuncData} (G_ask_outs : FnOk P w K mg base (L2.CX P w) 1 f_ask_outs fd_ask_outs [(Str.ofString "house"), (Str.ofString "k")] (SpD K cn [false, false] d_ask_outs)) (g_ask_outs : mg (Str.ofString "ask_outs") = some (.ref f_ask_outs)) (k_ask_outs : PySem.W.keepIn K (.ref f_ask_outs) = true) (b_ask_outs : Binds K fd_ask_outs [(Str.ofString "house"), (Str.ofString "k")] []) {f_reached : Addr} {fd_reached : FuncData} (G_reached : FnOk P w K mg base (L2.CX P w) 2 f_reached fd_reached [(Str.ofString "house"), (Str.ofString "belt")] (SpD K cn [false, false] d_reached)) (g_reached : mg (Str.ofString "reached") = some (.ref f_reached)) (k_reached : PySem.W.keepIn K (.ref f_reached) = true) (b_reached : Binds K fd_reached [(Str.ofString "house"), (Str.ofString "belt")] []) (m_range : mg (Str.ofString "range") = none) (m_len : mg (Str.ofString "len") = none) : FnOk P w K mg base (L2.CX P w) 3 f fd [(Str.ofString "house")] (SpD K cn [false] d_right_house) :=
  fn_ok (N := [(Str.ofString "house"), (Str.ofString "k"), (Str.ofString "belt")]) (n := 2) (lm := [false]) (os := []) (g := b_right_house) F sc_right_house rfl rfl (hos_by (by decide)) fun cdv A outer s H E F0 fp vs hr tk hp =>
    have nd := sc_right_house.nd
    (ss_cons (s_expr (lift_e (d_call G_ask_names (fun _ h => by subst h; rfl) (d_ask_names_len) rfl (hr.mono (by first | omega | exact Nat.le_refl _)) (by rfl) g_ask_names k_ask_names b_ask_names tk (a_cons (d_v (i := 0) rfl (by first | exact Or.inl rfl | exact Or.inr (Or.inl rfl) | exact Or.inr (Or.inr rfl)) rfl) a_nil))))
    (ss_cons (s_for [1] hp rfl (i_rng1 (by rfl) m_range (ae_cons (lift_e (d_fn oLen_ok call_lenA (by rfl) m_len PySem.boot_len (a_cons (d_ix rfl (d_v (i := 0) rfl (by first | exact Or.inl rfl | exact Or.inr (Or.inl rfl) | exact Or.inr (Or.inr rfl)) rfl) d_int (fun _ _ => rfl)) a_nil))) ae_nil)) (b_n (i := 1) rfl nd rfl (by first | exact Or.inl rfl | exact Or.inr rfl)) (ss_one (s_expr (lift_e (d_call G_ask_outs (fun _ h => by subst h; rfl) (d_ask_outs_len) rfl (hr.mono (by first | omega | exact Nat.le_refl _)) (by rfl) g_ask_outs k_ask_outs b_ask_outs tk (a_cons (d_v (i := 0) rfl (by first | exact Or.inl rfl | exact Or.inr (Or.inl rfl) | exact Or.inr (Or.inr rfl)) rfl) (a_cons (d_v (i := 1) rfl (by first | exact Or.inl rfl | exact Or.inr (Or.inl rfl) | exact Or.inr (Or.inr rfl)) rfl) a_nil)))))))
    (ss_cons (s_for [2] hp rfl (i_all rfl (lift_e (d_ix rfl (d_v (i := 0) rfl (by first | exact Or.inl rfl | exact Or.inr (Or.inl rfl) | exact Or.inr (Or.inr rfl)) rfl) d_int (fun _ _ => rfl)))) (b_n (i := 2) rfl nd rfl (by first | exact Or.inl rfl | exact Or.inr rfl)) (ss_one (s_if (lift_t (q_cmp (opr_notin (u65 hr)) oIn_ok (d_ix rfl (d_ix rfl (d_v (i := 0) rfl (by first | exact Or.inl rfl | exact Or.inr (Or.inl rfl) | exact Or.inr (Or.inr rfl)) rfl) d_int (fun _ _ => rfl)) d_int (fun _ _ => rfl)) (d_call G_reached (fun _ h => by subst h; rfl) (d_reached_len) rfl (hr.mono (by first | omega | exact Nat.le_refl _)) (by rfl) g_reached k_reached b_reached tk (a_cons (d_v (i := 0) rfl (by first | exact Or.inl rfl | exact Or.inr (Or.inl rfl) | exact Or.inr (Or.inr rfl)) rfl) (a_cons (d_ix rfl (d_v (i := 2) rfl (by first | exact Or.inl rfl | exact Or.inr (Or.inl rfl) | exact Or.inr (Or.inr rfl)) rfl) d_int (fun _ _ => rfl)) a_nil))) (by rfl))) (ss_one s_stuck) ss_nil)))
    (ss_one (s_ret (lift_e d_bl))))))

abbrev s_law_house_6861b9 : Stmt := topS 26
theorem sc_law_house_6861b9 : FnScope [(Str.ofString "feed"), (Str.ofString "many"), (Str.ofString "carts"), (Str.ofString "belts"), (Str.ofString "wide"), (Str.ofString "k"), (Str.ofString "ring"), (Str.ofString "long"), (Str.ofString "outs"), (Str.ofString "belt")] [(Str.ofString "feed")] (defScope s_law_house_6861b9) := ⟨rfl, rfl, rfl, by decide +kernel, rfl, by decide +kernel, by decide +kernel⟩
theorem ok_law_house_6861b9 {f : Addr} {fd : FuncData} (F : Fun K (Str.ofString "_law_house") (Str.ofString "_law_house") s_law_house_6861b9 f fd) {f_law_draw_664a20 : Addr} {fd_law_draw_664a20 : FuncData} (G_law_draw_664a20 : FnOk P w K mg base (L2.CX P w) 1 f_law_draw_664a20 fd_law_draw_664a20 [(Str.ofString "feed"), (Str.ofString "many")] (SpD K cn [true, false] d_law_draw_664a20)) (g_law_draw_664a20 : mg (Str.ofString "_law_draw") = some (.ref f_law_draw_664a20)) (k_law_draw_664a20 : PySem.W.keepIn K (.ref f_law_draw_664a20) = true) (b_law_draw_664a20 : Binds K fd_law_draw_664a20 [(Str.ofString "feed"), (Str.ofString "many")] []) {f_law_name_3d96c8 : Addr} {fd_law_name_3d96c8 : FuncData} (G_law_name_3d96c8 : FnOk P w K mg base (L2.CX P w) 1 f_law_name_3d96c8 fd_law_name_3d96c8 [(Str.ofString "feed"), (Str.ofString "k")] (SpD K cn [false, false] d_law_name_3d96c8)) (g_law_name_3d96c8 : mg (Str.ofString "_law_name") = some (.ref f_law_name_3d96c8)) (k_law_name_3d96c8 : PySem.W.keepIn K (.ref f_law_name_3d96c8) = true) (b_law_name_3d96c8 : Binds K fd_law_name_3d96c8 [(Str.ofString "feed"), (Str.ofString "k")] []) {f_law_outs_609918 : Addr} {fd_law_outs_609918 : FuncData} (G_law_outs_609918 : FnOk P w K mg base (L2.CX P w) 2 f_law_outs_609918 fd_law_outs_609918 [(Str.ofString "feed"), (Str.ofString "later"), (Str.ofString "carts")] (SpD K cn [true, false, false] d_law_outs_609918)) (g_law_outs_609918 : mg (Str.ofString "_law_outs") = some (.ref f_law_outs_609918)) (k_law_outs_609918 : PySem.W.keepIn K (.ref f_law_outs_609918) = true) (b_law_outs_609918 : Binds K fd_law_outs_609918 [(Str.ofString "feed"), (Str.ofString "later"), (Str.ofString "carts")] []) (m_range : mg (Str.ofString "range") = none) (m_int : mg (Str.ofString "int") = none) : FnOk P w K mg base (L2.CX P w) 3 f fd [(Str.ofString "feed")] (SpD K cn [true] d_law_house_6861b9) :=
  fn_ok (N := [(Str.ofString "feed"), (Str.ofString "many"), (Str.ofString "carts"), (Str.ofString "belts"), (Str.ofString "wide"), (Str.ofString "k"), (Str.ofString "ring"), (Str.ofString "long"), (Str.ofString "outs"), (Str.ofString "belt")]) (n := 9) (lm := [true]) (os := [0, 3]) (g := b_law_house_6861b9) F sc_law_house_6861b9 rfl rfl (hos_by (by decide)) fun cdv A outer s H E F0 fp vs hr tk hp =>
    have nd := sc_law_house_6861b9.nd
    (ss_cons (s_f (i := 1) rfl nd rfl (by first | exact Or.inl rfl | exact Or.inr rfl) (e_call G_law_draw_664a20 (by simp [bodyCtx]) rfl (hr.mono (by first | omega | exact Nat.le_refl _)) (by rfl) g_law_draw_664a20 k_law_draw_664a20 b_law_draw_664a20 tk (aa_ln (i := 0) rfl (by first | exact Or.inl rfl | exact Or.inr (Or.inl rfl) | exact Or.inr (Or.inr rfl)) (aa_ex (lift_e d_int) aa_nil))))
    (ss_cons (s_lc true (i := 2) (own := [((Str.ofString "k"), 5)]) (js := [5]) rfl (fun h => by cases h) (by simp [bodyCtx, lvOf]) (by simp) rfl nd rfl rfl (sw_true rfl rfl rfl (by decide +kernel)) (i_rng1 (by rfl) m_range (ae_cons (e_bin opr_add oAdd_ok (lift_e d_int) (e_call G_law_draw_664a20 (by simp [bodyCtx]) rfl (hr.mono (by first | omega | exact Nat.le_refl _)) (by rfl) g_law_draw_664a20 k_law_draw_664a20 b_law_draw_664a20 tk (aa_ln (i := 0) rfl (by first | exact Or.inl rfl | exact Or.inr (Or.inl rfl) | exact Or.inr (Or.inr rfl)) (aa_ex (lift_e d_int) aa_nil)))) ae_nil)) (blkOk_by (by exact rfl)) (fun _ _ _ _ _ => (b_n (i := 5) rfl nd rfl (by first | exact Or.inl rfl | exact Or.inr rfl))) (fun _ _ _ _ _ => ts_nil) (fun _ _ _ _ _ => (lift_e (d_call G_law_name_3d96c8 (fun _ h => by subst h; rfl) (d_law_name_3d96c8_len) rfl (hr.mono (by first | omega | exact Nat.le_refl _)) (by rfl) g_law_name_3d96c8 k_law_name_3d96c8 b_law_name_3d96c8 takes0 (a_cons (d_k (i := 0) rfl (by first | exact Or.inl rfl | exact Or.inr (Or.inl rfl) | exact Or.inr (Or.inr rfl))) (a_cons (d_bin opr_sub oSub_ok d_int (d_v (i := 5) rfl (by first | exact Or.inl rfl | exact Or.inr (Or.inl rfl) | exact Or.inr (Or.inr rfl)) rfl)) a_nil))))))
    (ss_cons (s_o (i := 3) rfl rfl nd rfl (by first | exact Or.inl rfl | exact Or.inr rfl) (lift_e (d_lst a_nil)))
    (ss_cons (s_f (i := 4) rfl nd rfl (by first | exact Or.inl rfl | exact Or.inr rfl) (lift_e d_int))
    (ss_cons (s_if (lift_t (q_cmp op_lt oLt_ok (d_v (i := 1) rfl (by first | exact Or.inl rfl | exact Or.inr (Or.inl rfl) | exact Or.inr (Or.inr rfl)) rfl) d_int (nomark _))) (ss_one (s_f (i := 4) rfl nd rfl (by first | exact Or.inl rfl | exact Or.inr rfl) (e_bin opr_mul oMul_ok (e_call G_law_draw_664a20 (by simp [bodyCtx]) rfl (hr.mono (by first | omega | exact Nat.le_refl _)) (by rfl) g_law_draw_664a20 k_law_draw_664a20 b_law_draw_664a20 tk (aa_ln (i := 0) rfl (by first | exact Or.inl rfl | exact Or.inr (Or.inl rfl) | exact Or.inr (Or.inr rfl)) (aa_ex (lift_e d_int) aa_nil))) (e_call G_law_draw_664a20 (by simp [bodyCtx]) rfl (hr.mono (by first | omega | exact Nat.le_refl _)) (by rfl) g_law_draw_664a20 k_law_draw_664a20 b_law_draw_664a20 tk (aa_ln (i := 0) rfl (by first | exact Or.inl rfl | exact Or.inr (Or.inl rfl) | exact Or.inr (Or.inr rfl)) (aa_ex (lift_e d_int) aa_nil)))))) ss_nil)
    (ss_cons (s_for [5] hp rfl (i_rng3 (by rfl) m_range (ae_cons (lift_e (d_bin opr_sub oSub_ok (d_v (i := 1) rfl (by first | exact Or.inl rfl | exact Or.inr (Or.inl rfl) | exact Or.inr (Or.inr rfl)) rfl) d_int)) (ae_cons (lift_e (d_neg d_int)) (ae_cons (lift_e (d_neg d_int)) ae_nil)))) (b_n (i := 5) rfl nd rfl (by first | exact Or.inl rfl | exact Or.inr rfl)) (ss_cons (s_f (i := 6) rfl nd rfl (by first | exact Or.inl rfl | exact Or.inr rfl) (e_cmp (opr_eq (u64 hr)) oEq_ok (e_call G_law_draw_664a20 (by simp [bodyCtx]) rfl (hr.mono (by first | omega | exact Nat.le_refl _)) (by rfl) g_law_draw_664a20 k_law_draw_664a20 b_law_draw_664a20 tk (aa_ln (i := 0) rfl (by first | exact Or.inl rfl | exact Or.inr (Or.inl rfl) | exact Or.inr (Or.inr rfl)) (aa_ex (lift_e d_int) aa_nil))) (lift_e d_int) (nomark _)))
    (ss_cons (s_f (i := 7) rfl nd rfl (by first | exact Or.inl rfl | exact Or.inr rfl) (e_bin opr_add oAdd_ok (e_bin opr_add oAdd_ok (lift_e (d_bin opr_add oAdd_ok d_int (d_ty oInt_ok call_int1 (by rfl) m_int (by decide +kernel) (a_cons (d_v (i := 6) rfl (by first | exact Or.inl rfl | exact Or.inr (Or.inl rfl) | exact Or.inr (Or.inr rfl)) rfl) a_nil)))) (e_call G_law_draw_664a20 (by simp [bodyCtx]) rfl (hr.mono (by first | omega | exact Nat.le_refl _)) (by rfl) g_law_draw_664a20 k_law_draw_664a20 b_law_draw_664a20 tk (aa_ln (i := 0) rfl (by first | exact Or.inl rfl | exact Or.inr (Or.inl rfl) | exact Or.inr (Or.inr rfl)) (aa_ex (lift_e d_int) aa_nil)))) (lift_e (d_bin opr_mul oMul_ok (d_v (i := 4) rfl (by first | exact Or.inl rfl | exact Or.inr (Or.inl rfl) | exact Or.inr (Or.inr rfl)) rfl) (d_ty oInt_ok call_int1 (by rfl) m_int (by decide +kernel) (a_cons (d_cmp (opr_eq (u64 hr)) oEq_ok (d_v (i := 5) rfl (by first | exact Or.inl rfl | exact Or.inr (Or.inl rfl) | exact Or.inr (Or.inr rfl)) rfl) d_int (nomark _)) a_nil))))))
    (ss_cons (s_f (i := 8) rfl nd rfl (by first | exact Or.inl rfl | exact Or.inr rfl) (e_call G_law_outs_609918 (by simp [bodyCtx]) rfl (hr.mono (by first | omega | exact Nat.le_refl _)) (by rfl) g_law_outs_609918 k_law_outs_609918 b_law_outs_609918 tk (aa_ln (i := 0) rfl (by first | exact Or.inl rfl | exact Or.inr (Or.inl rfl) | exact Or.inr (Or.inr rfl)) (aa_ex (e_lcO (i := 3) (own := [((Str.ofString "belt"), 9)]) (js := [9]) rfl (by simp [bodyCtx, lvOf]) (by simp) rfl nd (i_own (i := 3) rfl rfl (by first | exact Or.inl rfl | exact Or.inr (Or.inl rfl) | exact Or.inr (Or.inr rfl))) (blkOk_by (by exact rfl)) (fun _ _ _ _ _ => (b_n (i := 9) rfl nd rfl (by first | exact Or.inl rfl | exact Or.inr rfl))) (fun _ _ _ _ _ => ts_nil) (fun _ _ _ _ _ => (lift_e (d_ix rfl (d_v (i := 9) rfl (by first | exact Or.inl rfl | exact Or.inr (Or.inl rfl) | exact Or.inr (Or.inr rfl)) rfl) d_int (fun _ _ => rfl))))) (aa_ex (lift_e (d_v (i := 2) rfl (by first | exact Or.inl rfl | exact Or.inr (Or.inl rfl) | exact Or.inr (Or.inr rfl)) rfl)) aa_nil)))))
    (ss_one (s_expr (e_lm (i := 3) oIns_ok PySem.F.plainAttrs_list PySem.F.slot_list_insert PySem.F.type_list_insert mt_insert rfl rfl rfl (by first | exact Or.inl rfl | exact Or.inr (Or.inl rfl) | exact Or.inr (Or.inr rfl)) (ae_cons (lift_e d_int) (ae_cons (lift_e (d_tup (a_cons (d_call G_law_name_3d96c8 (fun _ h => by subst h; rfl) (d_law_name_3d96c8_len) rfl (hr.mono (by first | omega | exact Nat.le_refl _)) (by rfl) g_law_name_3d96c8 k_law_name_3d96c8 b_law_name_3d96c8 tk (a_cons (d_k (i := 0) rfl (by first | exact Or.inl rfl | exact Or.inr (Or.inl rfl) | exact Or.inr (Or.inr rfl))) (a_cons (d_v (i := 5) rfl (by first | exact Or.inl rfl | exact Or.inr (Or.inl rfl) | exact Or.inr (Or.inr rfl)) rfl) a_nil))) (a_cons (d_v (i := 7) rfl (by first | exact Or.inl rfl | exact Or.inr (Or.inl rfl) | exact Or.inr (Or.inr rfl)) rfl) (a_cons (d_v (i := 6) rfl (by first | exact Or.inl rfl | exact Or.inr (Or.inl rfl) | exact Or.inr (Or.inr rfl)) rfl) (a_cons (d_v (i := 8) rfl (by first | exact Or.inl rfl | exact Or.inr (Or.inl rfl) | exact Or.inr (Or.inr rfl)) rfl) a_nil)))))) ae_nil)))))))))
    (ss_one (s_ret (e_tup (ae_cons (e_mv (i := 3) rfl (by first | exact Or.inl rfl | exact Or.inr (Or.inl rfl) | exact Or.inr (Or.inr rfl))) (ae_cons (lift_e (d_v (i := 2) rfl (by first | exact Or.inl rfl | exact Or.inr (Or.inl rfl) | exact Or.inr (Or.inr rfl)) rfl)) ae_nil)))))))))))

abbrev s_read_house : Stmt := topS 20
theorem sc_read_house : FnScope [(Str.ofString "text"), (Str.ofString "belts"), (Str.ofString "carts"), (Str.ofString "lines"), (Str.ofString "at"), (Str.ofString "words"), (Str.ofString "belt"), (Str.ofString "house")] [(Str.ofString "text")] (defScope s_read_house) := ⟨rfl, rfl, rfl, by decide +kernel, rfl, by decide +kernel, by decide +kernel⟩
theorem ok_read_house {f : Addr} {fd : FuncData} (F : Fun K (Str.ofString "read_house") (Str.ofString "read_house") s_read_house f fd) {f_belt_in : Addr} {fd_belt_in : FuncData} (G_belt_in : FnOk P w K mg base (L2.CX P w) 2 f_belt_in fd_belt_in [(Str.ofString "words")] (SpD K cn [false] d_belt_in)) (g_belt_in : mg (Str.ofString "belt_in") = some (.ref f_belt_in)) (k_belt_in : PySem.W.keepIn K (.ref f_belt_in) = true) (b_belt_in : Binds K fd_belt_in [(Str.ofString "words")] []) {f_right_house : Addr} {fd_right_house : FuncData} (G_right_house : FnOk P w K mg base (L2.CX P w) 3 f_right_house fd_right_house [(Str.ofString "house")] (SpD K cn [false] d_right_house)) (g_right_house : mg (Str.ofString "right_house") = some (.ref f_right_house)) (k_right_house : PySem.W.keepIn K (.ref f_right_house) = true) (b_right_house : Binds K fd_right_house [(Str.ofString "house")] []) (m_range : mg (Str.ofString "range") = none) (m_len : mg (Str.ofString "len") = none) : FnOk P w K mg base (L2.CX P w) 4 f fd [(Str.ofString "text")] (SpD K cn [false] d_read_house) :=
  fn_ok (N := [(Str.ofString "text"), (Str.ofString "belts"), (Str.ofString "carts"), (Str.ofString "lines"), (Str.ofString "at"), (Str.ofString "words"), (Str.ofString "belt"), (Str.ofString "house")]) (n := 7) (lm := [false]) (os := [1, 2, 6, 7]) (g := b_read_house) F sc_read_house rfl rfl (hos_by (by decide)) fun cdv A outer s H E F0 fp vs hr tk hp =>
    have nd := sc_read_house.nd
    (ss_cons (s_o (i := 1) rfl rfl nd rfl (by first | exact Or.inl rfl | exact Or.inr rfl) (lift_e (d_lst a_nil)))
    (ss_cons (s_o (i := 2) rfl rfl nd rfl (by first | exact Or.inl rfl | exact Or.inr rfl) (lift_e (d_lst a_nil)))
    (ss_cons (s_f (i := 3) rfl nd rfl (by first | exact Or.inl rfl | exact Or.inr rfl) (lift_e (d_split (d_v (i := 0) rfl (by first | exact Or.inl rfl | exact Or.inr (Or.inl rfl) | exact Or.inr (Or.inr rfl)) rfl) d_str)))
    (ss_cons (s_for [4] hp rfl (i_rng1 (by rfl) m_range (ae_cons (lift_e (d_fn oLen_ok call_lenA (by rfl) m_len PySem.boot_len (a_cons (d_v (i := 3) rfl (by first | exact Or.inl rfl | exact Or.inr (Or.inl rfl) | exact Or.inr (Or.inr rfl)) rfl) a_nil))) ae_nil)) (b_n (i := 4) rfl nd rfl (by first | exact Or.inl rfl | exact Or.inr rfl)) (ss_cons (s_f (i := 5) rfl nd rfl (by first | exact Or.inl rfl | exact Or.inr rfl) (lift_e (d_split (d_ix rfl (d_v (i := 3) rfl (by first | exact Or.inl rfl | exact Or.inr (Or.inl rfl) | exact Or.inr (Or.inr rfl)) rfl) (d_v (i := 4) rfl (by first | exact Or.inl rfl | exact Or.inr (Or.inl rfl) | exact Or.inr (Or.inr rfl)) rfl) (fun _ _ => rfl)) d_str)))
    (ss_cons (s_if (lift_t (q_cmp (opr_in (u65 hr)) oIn_ok d_str (d_v (i := 5) rfl (by first | exact Or.inl rfl | exact Or.inr (Or.inl rfl) | exact Or.inr (Or.inr rfl)) rfl) (by rfl))) (ss_one s_stuck) ss_nil)
    (ss_one (s_if (lift_t (q_w (w_and (q_cmp (opr_eq (u64 hr)) oEq_ok (d_ix rfl (d_v (i := 5) rfl (by first | exact Or.inl rfl | exact Or.inr (Or.inl rfl) | exact Or.inr (Or.inr rfl)) rfl) d_int (fun _ _ => rfl)) d_str (nomark _)) (w_and1 (q_cmp (opr_eq (u64 hr)) oEq_ok (d_fn oLen_ok call_lenA (by rfl) m_len PySem.boot_len (a_cons (d_v (i := 5) rfl (by first | exact Or.inl rfl | exact Or.inr (Or.inl rfl) | exact Or.inr (Or.inr rfl)) rfl) a_nil)) d_int (nomark _)))))) (ss_one (s_expr (e_lm (i := 2) oApp_ok PySem.F.plainAttrs_list PySem.F.slot_list_append PySem.F.type_list_append mt_append rfl rfl rfl (by first | exact Or.inl rfl | exact Or.inr (Or.inl rfl) | exact Or.inr (Or.inr rfl)) (ae_cons (lift_e (d_ix rfl (d_v (i := 5) rfl (by first | exact Or.inl rfl | exact Or.inr (Or.inl rfl) | exact Or.inr (Or.inr rfl)) rfl) d_int (fun _ _ => rfl))) ae_nil)))) (ss_one (s_if (lift_t (q_w (w_or (q_cmp (opr_eq (u64 hr)) oEq_ok (d_ix rfl (d_v (i := 5) rfl (by first | exact Or.inl rfl | exact Or.inr (Or.inl rfl) | exact Or.inr (Or.inr rfl)) rfl) d_int (fun _ _ => rfl)) d_str (nomark _)) (w_or1 (q_cmp (opr_eq (u64 hr)) oEq_ok (d_ix rfl (d_v (i := 5) rfl (by first | exact Or.inl rfl | exact Or.inr (Or.inl rfl) | exact Or.inr (Or.inr rfl)) rfl) d_int (fun _ _ => rfl)) d_str (nomark _)))))) (ss_cons (s_o (i := 6) rfl rfl nd rfl (by first | exact Or.inl rfl | exact Or.inr rfl) (lift_e (d_call G_belt_in (fun _ h => by subst h; rfl) (d_belt_in_len) rfl (hr.mono (by first | omega | exact Nat.le_refl _)) (by rfl) g_belt_in k_belt_in b_belt_in tk (a_cons (d_v (i := 5) rfl (by first | exact Or.inl rfl | exact Or.inr (Or.inl rfl) | exact Or.inr (Or.inr rfl)) rfl) a_nil))))
    (ss_cons (s_if (lift_t (q_cmp opr_is oIs_ok (d_k (i := 6) rfl (by first | exact Or.inl rfl | exact Or.inr (Or.inl rfl) | exact Or.inr (Or.inr rfl))) d_non (nomark _))) (ss_one s_stuck) ss_nil)
    (ss_one (s_expr (e_lm (i := 1) oApp_ok PySem.F.plainAttrs_list PySem.F.slot_list_append PySem.F.type_list_append mt_append rfl rfl rfl (by first | exact Or.inl rfl | exact Or.inr (Or.inl rfl) | exact Or.inr (Or.inr rfl)) (ae_cons (e_mv (i := 6) rfl (by first | exact Or.inl rfl | exact Or.inr (Or.inl rfl) | exact Or.inr (Or.inr rfl))) ae_nil)))))) (ss_one s_stuck))))))))
    (ss_cons (s_o (i := 7) rfl rfl nd rfl (by first | exact Or.inl rfl | exact Or.inr rfl) (e_tup (ae_cons (e_mv (i := 1) rfl (by first | exact Or.inl rfl | exact Or.inr (Or.inl rfl) | exact Or.inr (Or.inr rfl))) (ae_cons (e_mv (i := 2) rfl (by first | exact Or.inl rfl | exact Or.inr (Or.inl rfl) | exact Or.inr (Or.inr rfl))) ae_nil))))
    (ss_cons (s_expr (lift_e (d_call G_right_house (fun _ h => by subst h; rfl) (d_right_house_len) rfl (hr.mono (by first | omega | exact Nat.le_refl _)) (by rfl) g_right_house k_right_house b_right_house tk (a_cons (d_k (i := 7) rfl (by first | exact Or.inl rfl | exact Or.inr (Or.inl rfl) | exact Or.inr (Or.inr rfl))) a_nil))))
    (ss_one (s_ret (e_mv (i := 7) rfl (by first | exact Or.inl rfl | exact Or.inr (Or.inl rfl) | exact Or.inr (Or.inr rfl)))))))))))

abbrev s_law_alike_4156af : Stmt := topS 28
theorem sc_law_alike_4156af : FnScope [(Str.ofString "found"), (Str.ofString "due"), (Str.ofString "k")] [(Str.ofString "found"), (Str.ofString "due")] (defScope s_law_alike_4156af) := ⟨rfl, rfl, rfl, by decide +kernel, rfl, by decide +kernel, by decide +kernel⟩
theorem okr_law_alike_4156af {f : Addr} {fd : FuncData} (F : Fun K (Str.ofString "_law_alike") (Str.ofString "_law_alike") s_law_alike_4156af f fd) (m_isinstance : mg (Str.ofString "isinstance") = none) (m_tuple : mg (Str.ofString "tuple") = none) (m_list : mg (Str.ofString "list") = none) (m_len : mg (Str.ofString "len") = none) (m_range : mg (Str.ofString "range") = none) (m_str : mg (Str.ofString "str") = none) (m_int : mg (Str.ofString "int") = none) (m_bool : mg (Str.ofString "bool") = none) (g_self : mg (Str.ofString "_law_alike") = some (.ref f)) (k_self : PySem.W.keepIn K (.ref f) = true) (b_self : Binds K fd [(Str.ofString "found"), (Str.ofString "due")] []) : ∀ n : Nat, FnOk P w K mg base (L2.CX P w) (0 + n) f fd [(Str.ofString "found"), (Str.ofString "due")] (SpD K cn [false, false] (recD 1 [false, false] b_law_alike_4156af n))
  | 0 => fn_none
  | n + 1 => by
    have G_self := okr_law_alike_4156af F m_isinstance m_tuple m_list m_len m_range m_str m_int m_bool g_self k_self b_self n
    have rl := recD_len (n := 1) (lm := [false, false]) (b := b_law_alike_4156af) n
    exact fn_ok (N := [(Str.ofString "found"), (Str.ofString "due"), (Str.ofString "k")]) (n := 1) (lm := [false, false]) (os := []) (g := b_law_alike_4156af (recD 1 [false, false] b_law_alike_4156af n)) F sc_law_alike_4156af rfl rfl (hos_by (by decide)) fun cdv A outer s H E F0 fp vs hr tk hp =>
      have nd := sc_law_alike_4156af.nd
      (ss_cons (s_if (lift_t (q_w (w_or (q_val (d_isi rfl (d_v (i := 1) rfl (by first | exact Or.inl rfl | exact Or.inr (Or.inl rfl) | exact Or.inr (Or.inr rfl)) rfl) (by rfl) m_isinstance (by decide +kernel) (by rfl) m_tuple (by decide +kernel))) (w_or1 (q_val (d_isi rfl (d_v (i := 1) rfl (by first | exact Or.inl rfl | exact Or.inr (Or.inl rfl) | exact Or.inr (Or.inr rfl)) rfl) (by rfl) m_isinstance (by decide +kernel) (by rfl) m_list (by decide +kernel))))))) (ss_cons (s_if (lift_t (q_w (w_or (q_cmp (opr_ne (u64 hr)) oNe_ok (d_isi rfl (d_v (i := 0) rfl (by first | exact Or.inl rfl | exact Or.inr (Or.inl rfl) | exact Or.inr (Or.inr rfl)) rfl) (by rfl) m_isinstance (by decide +kernel) (by rfl) m_tuple (by decide +kernel)) (d_isi rfl (d_v (i := 1) rfl (by first | exact Or.inl rfl | exact Or.inr (Or.inl rfl) | exact Or.inr (Or.inr rfl)) rfl) (by rfl) m_isinstance (by decide +kernel) (by rfl) m_tuple (by decide +kernel)) (nomark _)) (w_or1 (q_cmp (opr_ne (u64 hr)) oNe_ok (d_isi rfl (d_v (i := 0) rfl (by first | exact Or.inl rfl | exact Or.inr (Or.inl rfl) | exact Or.inr (Or.inr rfl)) rfl) (by rfl) m_isinstance (by decide +kernel) (by rfl) m_list (by decide +kernel)) (d_isi rfl (d_v (i := 1) rfl (by first | exact Or.inl rfl | exact Or.inr (Or.inl rfl) | exact Or.inr (Or.inr rfl)) rfl) (by rfl) m_isinstance (by decide +kernel) (by rfl) m_list (by decide +kernel)) (nomark _)))))) (ss_one (s_ret (lift_e d_bl))) ss_nil)
    (ss_cons (s_if (lift_t (q_cmp (opr_ne (u64 hr)) oNe_ok (d_fn oLen_ok call_lenA (by rfl) m_len PySem.boot_len (a_cons (d_v (i := 0) rfl (by first | exact Or.inl rfl | exact Or.inr (Or.inl rfl) | exact Or.inr (Or.inr rfl)) rfl) a_nil)) (d_fn oLen_ok call_lenA (by rfl) m_len PySem.boot_len (a_cons (d_v (i := 1) rfl (by first | exact Or.inl rfl | exact Or.inr (Or.inl rfl) | exact Or.inr (Or.inr rfl)) rfl) a_nil)) (nomark _))) (ss_one (s_ret (lift_e d_bl))) ss_nil)
    (ss_cons (s_for [2] hp rfl (i_rng1 (by rfl) m_range (ae_cons (lift_e (d_fn oLen_ok call_lenA (by rfl) m_len PySem.boot_len (a_cons (d_v (i := 1) rfl (by first | exact Or.inl rfl | exact Or.inr (Or.inl rfl) | exact Or.inr (Or.inr rfl)) rfl) a_nil))) ae_nil)) (b_n (i := 2) rfl nd rfl (by first | exact Or.inl rfl | exact Or.inr rfl)) (ss_one (s_if (lift_t (q_not (q_val (d_call G_self (fun _ h => by subst h; rfl) rl rfl (hr.mono (by first | omega | exact Nat.le_refl _)) (by rfl) g_self k_self b_self tk (a_cons (d_ix rfl (d_v (i := 0) rfl (by first | exact Or.inl rfl | exact Or.inr (Or.inl rfl) | exact Or.inr (Or.inr rfl)) rfl) (d_v (i := 2) rfl (by first | exact Or.inl rfl | exact Or.inr (Or.inl rfl) | exact Or.inr (Or.inr rfl)) rfl) (fun _ _ => rfl)) (a_cons (d_ix rfl (d_v (i := 1) rfl (by first | exact Or.inl rfl | exact Or.inr (Or.inl rfl) | exact Or.inr (Or.inr rfl)) rfl) (d_v (i := 2) rfl (by first | exact Or.inl rfl | exact Or.inr (Or.inl rfl) | exact Or.inr (Or.inr rfl)) rfl) (fun _ _ => rfl)) a_nil)))))) (ss_one (s_ret (lift_e d_bl))) ss_nil)))
    (ss_one (s_ret (lift_e d_bl)))))) ss_nil)
    (ss_cons (s_if (lift_t (q_val (d_isi rfl (d_v (i := 1) rfl (by first | exact Or.inl rfl | exact Or.inr (Or.inl rfl) | exact Or.inr (Or.inr rfl)) rfl) (by rfl) m_isinstance (by decide +kernel) (by rfl) m_str (by decide +kernel)))) (ss_one (s_ret (lift_e (d_and (d_isi rfl (d_v (i := 0) rfl (by first | exact Or.inl rfl | exact Or.inr (Or.inl rfl) | exact Or.inr (Or.inr rfl)) rfl) (by rfl) m_isinstance (by decide +kernel) (by rfl) m_str (by decide +kernel)) (d_one (d_cmp (opr_eq (u64 hr)) oEq_ok (d_v (i := 0) rfl (by first | exact Or.inl rfl | exact Or.inr (Or.inl rfl) | exact Or.inr (Or.inr rfl)) rfl) (d_v (i := 1) rfl (by first | exact Or.inl rfl | exact Or.inr (Or.inl rfl) | exact Or.inr (Or.inr rfl)) rfl) (nomark _))))))) ss_nil)
    (ss_one (s_ret (lift_e (d_and (d_isi rfl (d_v (i := 0) rfl (by first | exact Or.inl rfl | exact Or.inr (Or.inl rfl) | exact Or.inr (Or.inr rfl)) rfl) (by rfl) m_isinstance (by decide +kernel) (by rfl) m_int (by decide +kernel)) (d_and (d_cmp (opr_eq (u64 hr)) oEq_ok (d_isi rfl (d_v (i := 0) rfl (by first | exact Or.inl rfl | exact Or.inr (Or.inl rfl) | exact Or.inr (Or.inr rfl)) rfl) (by rfl) m_isinstance (by decide +kernel) (by rfl) m_bool (by decide +kernel)) (d_isi rfl (d_v (i := 1) rfl (by first | exact Or.inl rfl | exact Or.inr (Or.inl rfl) | exact Or.inr (Or.inr rfl)) rfl) (by rfl) m_isinstance (by decide +kernel) (by rfl) m_bool (by decide +kernel)) (nomark _)) (d_one (d_cmp (opr_eq (u64 hr)) oEq_ok (d_v (i := 0) rfl (by first | exact Or.inl rfl | exact Or.inr (Or.inl rfl) | exact Or.inr (Or.inr rfl)) rfl) (d_v (i := 1) rfl (by first | exact Or.inl rfl | exact Or.inr (Or.inl rfl) | exact Or.inr (Or.inr rfl)) rfl) (nomark _))))))))))
theorem ok_law_alike_4156af {f : Addr} {fd : FuncData} (F : Fun K (Str.ofString "_law_alike") (Str.ofString "_law_alike") s_law_alike_4156af f fd) (m_isinstance : mg (Str.ofString "isinstance") = none) (m_tuple : mg (Str.ofString "tuple") = none) (m_list : mg (Str.ofString "list") = none) (m_len : mg (Str.ofString "len") = none) (m_range : mg (Str.ofString "range") = none) (m_str : mg (Str.ofString "str") = none) (m_int : mg (Str.ofString "int") = none) (m_bool : mg (Str.ofString "bool") = none) (g_self : mg (Str.ofString "_law_alike") = some (.ref f)) (k_self : PySem.W.keepIn K (.ref f) = true) (b_self : Binds K fd [(Str.ofString "found"), (Str.ofString "due")] []) : FnOk P w K mg base (L2.CX P w) 6 f fd [(Str.ofString "found"), (Str.ofString "due")] (SpD K cn [false, false] d_law_alike_4156af) := okr_law_alike_4156af F m_isinstance m_tuple m_list m_len m_range m_str m_int m_bool g_self k_self b_self 6

abbrev s_law_9880c8 : Stmt := topS 29
theorem sc_law_9880c8 : FnScope [(Str.ofString "script"), (Str.ofString "feed"), (Str.ofString "house"), (Str.ofString "words"), (Str.ofString "found")] [(Str.ofString "script")] (defScope s_law_9880c8) := ⟨rfl, rfl, rfl, by decide +kernel, rfl, by decide +kernel, by decide +kernel⟩
theorem ok_law_9880c8 {f : Addr} {fd : FuncData} (F : Fun K (Str.ofString "law") (Str.ofString "law") s_law_9880c8 f fd) {f_law_feed_ea1052 : Addr} {fd_law_feed_ea1052 : FuncData} (G_law_feed_ea1052 : FnOk P w K mg base (L2.CX P w) 1 f_law_feed_ea1052 fd_law_feed_ea1052 [(Str.ofString "script")] (SpD K cn [false] d_law_feed_ea1052)) (g_law_feed_ea1052 : mg (Str.ofString "_law_feed") = some (.ref f_law_feed_ea1052)) (k_law_feed_ea1052 : PySem.W.keepIn K (.ref f_law_feed_ea1052) = true) (b_law_feed_ea1052 : Binds K fd_law_feed_ea1052 [(Str.ofString "script")] []) {f_law_draw_664a20 : Addr} {fd_law_draw_664a20 : FuncData} (G_law_draw_664a20 : FnOk P w K mg base (L2.CX P w) 1 f_law_draw_664a20 fd_law_draw_664a20 [(Str.ofString "feed"), (Str.ofString "many")] (SpD K cn [true, false] d_law_draw_664a20)) (g_law_draw_664a20 : mg (Str.ofString "_law_draw") = some (.ref f_law_draw_664a20)) (k_law_draw_664a20 : PySem.W.keepIn K (.ref f_law_draw_664a20) = true) (b_law_draw_664a20 : Binds K fd_law_draw_664a20 [(Str.ofString "feed"), (Str.ofString "many")] []) {f_law_house_6861b9 : Addr} {fd_law_house_6861b9 : FuncData} (G_law_house_6861b9 : FnOk P w K mg base (L2.CX P w) 3 f_law_house_6861b9 fd_law_house_6861b9 [(Str.ofString "feed")] (SpD K cn [true] d_law_house_6861b9)) (g_law_house_6861b9 : mg (Str.ofString "_law_house") = some (.ref f_law_house_6861b9)) (k_law_house_6861b9 : PySem.W.keepIn K (.ref f_law_house_6861b9) = true) (b_law_house_6861b9 : Binds K fd_law_house_6861b9 [(Str.ofString "feed")] []) {f_law_mixed_d12046 : Addr} {fd_law_mixed_d12046 : FuncData} (G_law_mixed_d12046 : FnOk P w K mg base (L2.CX P w) 2 f_law_mixed_d12046 fd_law_mixed_d12046 [(Str.ofString "feed"), (Str.ofString "house")] (SpD K cn [true, false] d_law_mixed_d12046)) (g_law_mixed_d12046 : mg (Str.ofString "_law_mixed") = some (.ref f_law_mixed_d12046)) (k_law_mixed_d12046 : PySem.W.keepIn K (.ref f_law_mixed_d12046) = true) (b_law_mixed_d12046 : Binds K fd_law_mixed_d12046 [(Str.ofString "feed"), (Str.ofString "house")] []) {f_read_house : Addr} {fd_read_house : FuncData} (G_read_house : FnOk P w K mg base (L2.CX P w) 4 f_read_house fd_read_house [(Str.ofString "text")] (SpD K cn [false] d_read_house)) (g_read_house : mg (Str.ofString "read_house") = some (.ref f_read_house)) (k_read_house : PySem.W.keepIn K (.ref f_read_house) = true) (b_read_house : Binds K fd_read_house [(Str.ofString "text")] []) {f_law_alike_4156af : Addr} {fd_law_alike_4156af : FuncData} (G_law_alike_4156af : FnOk P w K mg base (L2.CX P w) 6 f_law_alike_4156af fd_law_alike_4156af [(Str.ofString "found"), (Str.ofString "due")] (SpD K cn [false, false] d_law_alike_4156af)) (g_law_alike_4156af : mg (Str.ofString "_law_alike") = some (.ref f_law_alike_4156af)) (k_law_alike_4156af : PySem.W.keepIn K (.ref f_law_alike_4156af) = true) (b_law_alike_4156af : Binds K fd_law_alike_4156af [(Str.ofString "found"), (Str.ofString "due")] []) : FnOk P w K mg base (L2.CX P w) 7 f fd [(Str.ofString "script")] (SpD K cn [false] d_law_9880c8) :=
  fn_ok (N := [(Str.ofString "script"), (Str.ofString "feed"), (Str.ofString "house"), (Str.ofString "words"), (Str.ofString "found")]) (n := 4) (lm := [false]) (os := [1, 4]) (g := b_law_9880c8) F sc_law_9880c8 rfl rfl (hos_by (by decide)) fun cdv A outer s H E F0 fp vs hr tk hp =>
    have nd := sc_law_9880c8.nd
    (ss_cons (s_o (i := 1) rfl rfl nd rfl (by first | exact Or.inl rfl | exact Or.inr rfl) (lift_e (d_call G_law_feed_ea1052 (fun _ h => by subst h; rfl) (d_law_feed_ea1052_len) rfl (hr.mono (by first | omega | exact Nat.le_refl _)) (by rfl) g_law_feed_ea1052 k_law_feed_ea1052 b_law_feed_ea1052 tk (a_cons (d_v (i := 0) rfl (by first | exact Or.inl rfl | exact Or.inr (Or.inl rfl) | exact Or.inr (Or.inr rfl)) rfl) a_nil))))
    (ss_cons (s_setl (i := 1) rfl rfl (e_call G_law_draw_664a20 (by simp [bodyCtx]) rfl (hr.mono (by first | omega | exact Nat.le_refl _)) (by rfl) g_law_draw_664a20 k_law_draw_664a20 b_law_draw_664a20 tk (aa_ln (i := 1) rfl (by first | exact Or.inl rfl | exact Or.inr (Or.inl rfl) | exact Or.inr (Or.inr rfl)) (aa_ex (lift_e d_int) aa_nil))) (l_var (i := 1) rfl (by first | exact Or.inl rfl | exact Or.inr (Or.inl rfl) | exact Or.inr (Or.inr rfl))) d_int)
    (ss_cons (s_f (i := 2) rfl nd rfl (by first | exact Or.inl rfl | exact Or.inr rfl) (e_call G_law_house_6861b9 (by simp [bodyCtx]) rfl (hr.mono (by first | omega | exact Nat.le_refl _)) (by rfl) g_law_house_6861b9 k_law_house_6861b9 b_law_house_6861b9 tk (aa_ln (i := 1) rfl (by first | exact Or.inl rfl | exact Or.inr (Or.inl rfl) | exact Or.inr (Or.inr rfl)) aa_nil)))
    (ss_cons (s_f (i := 3) rfl nd rfl (by first | exact Or.inl rfl | exact Or.inr rfl) (e_call G_law_mixed_d12046 (by simp [bodyCtx]) rfl (hr.mono (by first | omega | exact Nat.le_refl _)) (by rfl) g_law_mixed_d12046 k_law_mixed_d12046 b_law_mixed_d12046 tk (aa_ln (i := 1) rfl (by first | exact Or.inl rfl | exact Or.inr (Or.inl rfl) | exact Or.inr (Or.inr rfl)) (aa_ex (lift_e (d_v (i := 2) rfl (by first | exact Or.inl rfl | exact Or.inr (Or.inl rfl) | exact Or.inr (Or.inr rfl)) rfl)) aa_nil))))
    (ss_cons (s_o (i := 4) rfl rfl nd rfl (by first | exact Or.inl rfl | exact Or.inr rfl) (lift_e (d_call G_read_house (fun _ h => by subst h; rfl) (d_read_house_len) rfl (hr.mono (by first | omega | exact Nat.le_refl _)) (by rfl) g_read_house k_read_house b_read_house tk (a_cons (d_v (i := 3) rfl (by first | exact Or.inl rfl | exact Or.inr (Or.inl rfl) | exact Or.inr (Or.inr rfl)) rfl) a_nil))))
    (ss_cons (s_if (lift_t (q_not (q_val (d_call G_law_alike_4156af (fun _ h => by subst h; rfl) (d_law_alike_4156af_len) rfl (hr.mono (by first | omega | exact Nat.le_refl _)) (by rfl) g_law_alike_4156af k_law_alike_4156af b_law_alike_4156af tk (a_cons (d_k (i := 4) rfl (by first | exact Or.inl rfl | exact Or.inr (Or.inl rfl) | exact Or.inr (Or.inr rfl))) (a_cons (d_v (i := 2) rfl (by first | exact Or.inl rfl | exact Or.inr (Or.inl rfl) | exact Or.inr (Or.inr rfl)) rfl) a_nil)))))) (ss_one (s_ret (lift_e d_bl))) ss_nil)
    (ss_cons (s_if (lift_t (q_tru rfl (d_ix rfl (d_k (i := 4) rfl (by first | exact Or.inl rfl | exact Or.inr (Or.inl rfl) | exact Or.inr (Or.inr rfl))) d_int (fun _ _ => rfl)))) (ss_cons (s_expr (e_lmp (i := 4) oApp_ok PySem.F.plainAttrs_list PySem.F.slot_list_append PySem.F.type_list_append mt_append rfl rfl (l_ix rfl (l_ix rfl (l_ix rfl (l_var (i := 4) rfl (by first | exact Or.inl rfl | exact Or.inr (Or.inl rfl) | exact Or.inr (Or.inr rfl))) d_int (fun _ _ => rfl)) d_int (fun _ _ => rfl)) d_int (fun _ _ => rfl)) (a_cons d_str a_nil)))
    (ss_one (s_expr (e_lmp0 (i := 4) oPop_ok PySem.F.plainAttrs_list PySem.F.slot_list_pop PySem.F.type_list_pop mt_pop rfl rfl (l_ix rfl (l_var (i := 4) rfl (by first | exact Or.inl rfl | exact Or.inr (Or.inl rfl) | exact Or.inr (Or.inr rfl))) d_int (fun _ _ => rfl)))))) ss_nil)
    (ss_cons (s_expr (e_lmp (i := 4) oApp_ok PySem.F.plainAttrs_list PySem.F.slot_list_append PySem.F.type_list_append mt_append rfl rfl (l_ix rfl (l_var (i := 4) rfl (by first | exact Or.inl rfl | exact Or.inr (Or.inl rfl) | exact Or.inr (Or.inr rfl))) d_int (fun _ _ => rfl)) (a_cons d_str a_nil)))
    (ss_one (s_ret (lift_e (d_call G_law_alike_4156af (fun _ h => by subst h; rfl) (d_law_alike_4156af_len) rfl (hr.mono (by first | omega | exact Nat.le_refl _)) (by rfl) g_law_alike_4156af k_law_alike_4156af b_law_alike_4156af tk (a_cons (d_call G_read_house (fun _ h => by subst h; rfl) (d_read_house_len) rfl (hr.mono (by first | omega | exact Nat.le_refl _)) (by rfl) g_read_house k_read_house b_read_house tk (a_cons (d_v (i := 3) rfl (by first | exact Or.inl rfl | exact Or.inr (Or.inl rfl) | exact Or.inr (Or.inr rfl)) rfl) a_nil)) (a_cons (d_v (i := 2) rfl (by first | exact Or.inl rfl | exact Or.inr (Or.inl rfl) | exact Or.inr (Or.inr rfl)) rfl) a_nil))))))))))))))
end
end DL

end
section
/-! DM1: rules for reading a def's function. -/
open PySem PySem.Spec L2
namespace DL
section
variable {ρ ρ' ρ1 ρ2 : Env} {d e : D} {g h : SF} {f f1 : EF} {p q : PF} {o : O2}
@[simp] theorem fnD_eq {n : Nat} {lm : List Bool} {ds : List D} : fnD n lm g ds = if ds.length = lm.length then fnR lm (g (ds.map some ++ List.replicate n none)) else none := rfl
@[simp] theorem fnR_nx {lm : List Bool} : fnR lm (some (.nx ρ)) = (lents lm ρ).map (.ret .non ·) := rfl
@[simp] theorem fnR_rt {lm : List Bool} : fnR lm (some (.rt d ρ)) = if d.noBrw = true then (lents lm ρ).map (.ret d ·) else none := rfl
@[simp] theorem fnR_ex {lm : List Bool} {n : Str} {fs : List (Str × D)} : fnR lm (some (.ex n fs ρ)) = (lents lm ρ).map (.exc n fs ·) := rfl
@[simp] theorem lents_nil : lents [] ρ = some [] := rfl
@[simp] theorem lents_t {m : List Bool} : lents (true :: m) (some d :: ρ) = (lents m ρ).map (d :: ·) := rfl
@[simp] theorem lents_f {m : List Bool} {x : Option D} : lents (false :: m) (x :: ρ) = lents m ρ := rfl
theorem seq_nx (a : g ρ = some (.nx ρ')) : sSeq g h ρ = h ρ' := by unfold sSeq; rw [a]
theorem seq_rt (a : g ρ = some (.rt d ρ')) : sSeq g h ρ = some (.rt d ρ') := by unfold sSeq; rw [a]
@[simp] theorem sSeq_eq : sSeq g h ρ = match g ρ with | some (.nx ρ') => h ρ' | r => r := rfl
@[simp] theorem sNil_eq : sNil ρ = some (.nx ρ) := rfl
@[simp] theorem sRetN_eq : sRetN ρ = some (.rt .non ρ) := rfl
@[simp] theorem sStuck_eq : sStuck ρ = none := rfl
@[simp] theorem sF_eq {i : Nat} : sF i f ρ = match f ρ with
  | some (.ok d ρ') => if d.noBrw = true ∧ i < ρ'.length then some (.nx (setS ρ' i (some d.frz))) else none
  | some (.ex n fs ρ') => some (.ex n fs ρ')
  | none => none := rfl
@[simp] theorem sO_eq {i : Nat} : sO i f ρ = match f ρ with
  | some (.ok d ρ') => if d.noBrw = true ∧ i < ρ'.length then some (.nx (setS ρ' i (some d))) else none
  | some (.ex n fs ρ') => some (.ex n fs ρ')
  | none => none := rfl
@[simp] theorem sRet_eq : sRet f ρ = match f ρ with
  | some (.ok d ρ') => some (.rt d ρ')
  | some (.ex n fs ρ') => some (.ex n fs ρ')
  | none => none := rfl
@[simp] theorem sExpr_eq : sExpr f ρ = match f ρ with
  | some (.ok _ ρ') => some (.nx ρ')
  | some (.ex n fs ρ') => some (.ex n fs ρ')
  | none => none := rfl
@[simp] theorem sIf_eq {t : TF} : sIf t g h ρ = match t ρ with
  | some (.ok true ρ') => g ρ'
  | some (.ok false ρ') => h ρ'
  | some (.ex n fs ρ') => some (.ex n fs ρ')
  | none => none := by unfold sIf; cases t ρ with | none => rfl | some r => cases r with | ok b ρ' => cases b <;> rfl | ex => rfl
@[simp] theorem lP_eq : lP p ρ = (p ρ).map (.ok · ρ) := rfl
@[simp] theorem lQ_eq {q : QF} : lQ q ρ = (q ρ).map (.ok · ρ) := rfl
@[simp] theorem dC_eq : dC d ρ = some d := rfl
@[simp] theorem dV_eq {i : Nat} : dV i ρ = getS ρ i := rfl
@[simp] theorem dK_eq {i : Nat} : dK i ρ = (getS ρ i).map D.peek := rfl
@[simp] theorem getS_0 {x : Option D} : getS (x :: ρ) 0 = x := rfl
@[simp] theorem getS_s {x : Option D} {n : Nat} : getS (x :: ρ) (n + 1) = getS ρ n := rfl
@[simp] theorem setS_0 {x y : Option D} : setS (x :: ρ) 0 y = y :: ρ := rfl
@[simp] theorem setS_s {x y : Option D} {n : Nat} : setS (x :: ρ) (n + 1) y = x :: setS ρ n y := rfl
@[simp] theorem pB_eq : pB o p q ρ = match p ρ, q ρ with
  | some x, some y => o x y
  | _, _ => none := rfl
@[simp] theorem qB_eq : qB p ρ = match p ρ with | some (.bl b) => some b | _ => none := rfl
@[simp] theorem qNot_eq {q : QF} : qNot q ρ = (q ρ).map (!·) := rfl
@[simp] theorem qAnd_eq {q r : QF} : qAnd q r ρ = match q ρ with | some true => r ρ | some false => some false | none => none := rfl
@[simp] theorem qOr_eq {q r : QF} : qOr q r ρ = match q ρ with | some true => some true | some false => r ρ | none => none := rfl
@[simp] theorem dAnd_eq : dAnd p q ρ = match p ρ with | some (.bl true) => q ρ | some (.bl false) => some (.bl false) | _ => none := rfl
@[simp] theorem dOr_eq : dOr p q ρ = match p ρ with | some (.bl false) => q ρ | some (.bl true) => some (.bl true) | _ => none := rfl
@[simp] theorem dNot_eq : dNot p ρ = match p ρ with | some (.bl b) => some (.bl (!b)) | _ => none := rfl
@[simp] theorem dIf_eq {t : QF} : dIf t p q ρ = match t ρ with | some true => p ρ | some false => q ρ | none => none := rfl
@[simp] theorem pN_eq {o : ON} {fs : List PF} : pN o fs ρ = (evL fs ρ).bind o := rfl
@[simp] theorem evL_nil : evL [] ρ = some [] := rfl
@[simp] theorem evL_cons {fs : List PF} : evL (p :: fs) ρ = match p ρ, evL fs ρ with
    | some d, some ds => some (d :: ds)
    | _, _ => none := rfl
@[simp] theorem evE_nil : evE [] ρ = some (.ok [] ρ) := rfl
@[simp] theorem evE_cons {fs : List EF} : evE (f :: fs) ρ = match f ρ with
    | some (.ok d ρ1) => if d.noBrw = true then (match evE fs ρ1 with
        | some (.ok ds ρ2) => some (.ok (d :: ds) ρ2)
        | r => r) else none
    | some (.ex n xs ρ1) => some (.ex n xs ρ1)
    | none => none := rfl
@[simp] theorem eN_eq {o : ON} {fs : List EF} : eN o fs ρ = match evE fs ρ with
  | some (.ok ds ρ') => (o ds).map (.ok · ρ')
  | some (.ex n xs ρ') => some (.ex n xs ρ')
  | none => none := rfl
@[simp] theorem eT_eq : eT f ρ = match f ρ with
  | some (.ok (.bl b) ρ') => some (.ok b ρ')
  | some (.ex n fs ρ') => some (.ex n fs ρ')
  | _ => none := by unfold eT; cases f ρ with | none => rfl | some r => cases r with | ok b ρ' => cases b <;> rfl | ex => rfl
/-! marks -/
variable {P : Mk → Bool} {m : Mk} {F : Mk → Mk} {ds : List D}
@[simp] theorem chk_non : D.chk P .non = true := rfl
@[simp] theorem chk_bl {b : Bool} : D.chk P (.bl b) = true := rfl
@[simp] theorem chk_int {b : Int} : D.chk P (.int b) = true := rfl
@[simp] theorem chk_str {b : Str} : D.chk P (.str b) = true := rfl
@[simp] theorem chk_tup : D.chk P (.tup ds) = D.chkL P ds := rfl
@[simp] theorem chk_lst : D.chk P (.lst m ds) = (P m && D.chkL P ds) := rfl
@[simp] theorem chkL_nil : D.chkL P [] = true := rfl
@[simp] theorem chkL_cons : D.chkL P (d :: ds) = (D.chk P d && D.chkL P ds) := rfl
@[simp] theorem chkL_append {es : List D} : D.chkL P (ds ++ es) = (D.chkL P ds && D.chkL P es) := chkL_rev P ds es
@[simp] theorem rem_non : D.rem F .non = .non := rfl
@[simp] theorem rem_bl {b : Bool} : D.rem F (.bl b) = .bl b := rfl
@[simp] theorem rem_int {b : Int} : D.rem F (.int b) = .int b := rfl
@[simp] theorem rem_str {b : Str} : D.rem F (.str b) = .str b := rfl
@[simp] theorem rem_tup : D.rem F (.tup ds) = .tup (D.remL F ds) := rfl
@[simp] theorem rem_lst : D.rem F (.lst m ds) = .lst (F m) (D.remL F ds) := rfl
@[simp] theorem remL_nil : D.remL F [] = [] := rfl
@[simp] theorem remL_cons : D.remL F (d :: ds) = D.rem F d :: D.remL F ds := rfl
theorem remL_eq : D.remL F ds = ds.map (D.rem F) := by
  induction ds with
  | nil => rfl
  | cons a ds ih => show D.rem F a :: _ = _; rw [ih]; rfl
@[simp] theorem remL_append {es : List D} : D.remL F (ds ++ es) = D.remL F ds ++ D.remL F es := by rw [remL_eq, remL_eq, remL_eq, List.map_append]
theorem chkL_eq : D.chkL P ds = ds.all (D.chk P) := by
  induction ds with
  | nil => rfl
  | cons a ds ih => show (D.chk P a && _) = _; rw [ih]; rfl
theorem remL_map {α : Type} {k : α → D} {xs : List α} : D.remL F (xs.map k) = xs.map fun x => D.rem F (k x) := by rw [remL_eq, List.map_map]; rfl
theorem chkL_map {α : Type} {k : α → D} {xs : List α} : D.chkL P (xs.map k) = xs.all fun x => D.chk P (k x) := by rw [chkL_eq, List.all_map]; rfl
@[simp] theorem remL_ints {xs : List Int} : D.remL F (xs.map .int) = xs.map .int := by rw [remL_map]; rfl
@[simp] theorem remL_strs {xs : List Str} : D.remL F (xs.map .str) = xs.map .str := by rw [remL_map]; rfl
@[simp] theorem chkL_ints {xs : List Int} : D.chkL P (xs.map .int) = true := by rw [chkL_map]; simp
@[simp] theorem chkL_strs {xs : List Str} : D.chkL P (xs.map .str) = true := by rw [chkL_map]; simp
@[simp] theorem fz_own : fz .own = .frz := rfl
@[simp] theorem fz_frz : fz .frz = .frz := rfl
@[simp] theorem fz_brw : fz .brw = .frz := rfl
@[simp] theorem fz_ro : fz .ro = .ro := rfl
@[simp] theorem pk_own : pk .own = .brw := rfl
@[simp] theorem pk_frz : pk .frz = .frz := rfl
@[simp] theorem pk_brw : pk .brw = .brw := rfl
@[simp] theorem pk_ro : pk .ro = .ro := rfl
@[simp] theorem ib1 : Mk.isBrw .own = false := rfl
@[simp] theorem ib2 : Mk.isBrw .frz = false := rfl
@[simp] theorem ib3 : Mk.isBrw .brw = true := rfl
@[simp] theorem ib4 : Mk.isBrw .ro = false := rfl
@[simp] theorem io1 : Mk.isOwn .own = true := rfl
@[simp] theorem io2 : Mk.isOwn .frz = false := rfl
@[simp] theorem io3 : Mk.isOwn .brw = false := rfl
@[simp] theorem io4 : Mk.isOwn .ro = false := rfl
@[simp] theorem if1 : Mk.isFrz .own = false := rfl
@[simp] theorem if2 : Mk.isFrz .frz = true := rfl
@[simp] theorem if3 : Mk.isFrz .brw = false := rfl
@[simp] theorem if4 : Mk.isFrz .ro = false := rfl
/-! operations -/
@[simp] theorem eqD_str {a b : Str} : eqD (.str a) (.str b) = some (decide (a = b)) := rfl
@[simp] theorem eqD_int {a b : Int} : eqD (.int a) (.int b) = some (decide (a = b)) := rfl
@[simp] theorem eqD_bl {a b : Bool} : eqD (.bl a) (.bl b) = some (decide (a = b)) := rfl
@[simp] theorem oEq_eq : oEq d e = (eqD d e).map .bl := rfl
@[simp] theorem oNe_eq : oNe d e = (eqD d e).map fun b => .bl (!b) := rfl
@[simp] theorem oIs_eq {n : Bool} : oIs n d e = (isD d e).map fun b => .bl (if n then !b else b) := rfl
@[simp] theorem oIn_eq {n : Bool} : oIn n d e = (inD d e).map fun b => .bl (if n then !b else b) := rfl
@[simp] theorem oSub_eq {i j : Int} : oSub (.int i) (.int j) = some (.int (i - j)) := rfl
@[simp] theorem oAdd_int {i j : Int} : oAdd (.int i) (.int j) = some (.int (i + j)) := rfl
@[simp] theorem oAdd_str {a b : Str} : oAdd (.str a) (.str b) = if a.length + b.length ≤ sizeLine then some (.str (a ++ b)) else none := rfl
@[simp] theorem oMul_int {i j : Int} : oMul (.int i) (.int j) = if cMul i j = true then some (.int (i * j)) else none := rfl
@[simp] theorem oDiv_int {i j : Int} : oDiv (.int i) (.int j) = if cDiv i j = true then some (.int (i.fdiv j)) else none := rfl
theorem oMod_int {i j : Int} (h : j ≠ 0) : oMod (.int i) (.int j) = some (.int (i.fmod j)) := by
  show (if decide (j ≠ 0) = true then _ else _) = _
  rw [decide_eq_true h]; rfl
@[simp] theorem oMod_eq {i j : Int} : oMod (.int i) (.int j) = if j = 0 then none else some (.int (i.fmod j)) := by
  by_cases h : j = 0
  · subst h; rfl
  · rw [oMod_int h, if_neg h]
@[simp] theorem oLt_eq {i j : Int} : oLt (.int i) (.int j) = some (.bl (decide (i < j))) := rfl
@[simp] theorem oLe_eq {i j : Int} : oLe (.int i) (.int j) = some (.bl (decide (i ≤ j))) := rfl
@[simp] theorem oGt_eq {i j : Int} : oGt (.int i) (.int j) = some (.bl (decide (j < i))) := rfl
@[simp] theorem oGe_eq {i j : Int} : oGe (.int i) (.int j) = some (.bl (decide (j ≤ i))) := rfl
@[simp] theorem oLen_lst : oLen [.lst m ds] = some (.int ds.length) := rfl
@[simp] theorem oLen_tup : oLen [.tup ds] = some (.int ds.length) := rfl
@[simp] theorem oLen_str {z : Str} : oLen [.str z] = if z.length ≤ sizeLine then some (.int z.length) else none := rfl
@[simp] theorem oInt_int {i : Int} : oInt [.int i] = some (.int i) := rfl
@[simp] theorem oInt_bl {b : Bool} : oInt [.bl b] = some (.int (if b then 1 else 0)) := rfl
@[simp] theorem ixD_lst {i : Int} : ixD (.lst m ds) (.int i) = atI ds i := rfl
@[simp] theorem ixD_tup {i : Int} : ixD (.tup ds) (.int i) = atI ds i := rfl
@[simp] theorem ixD_str {z : Str} {i : Int} : ixD (.str z) (.int i) = if z.length ≤ sizeLine then (atI z.cps.toList i).map fun c => .str ⟨#[c]⟩ else none := rfl
@[simp] theorem isD_bl {a b : Bool} : isD (.bl a) (.bl b) = some (a == b) := rfl
@[simp] theorem isD_nn : isD .non .non = some true := rfl
@[simp] theorem isD_ln : isD (.lst m ds) .non = some false := rfl
@[simp] theorem isD_tn : isD (.tup ds) .non = some false := rfl
@[simp] theorem isD_sn {z : Str} : isD (.str z) .non = some false := rfl
@[simp] theorem isD_in {i : Int} : isD (.int i) .non = some false := rfl
@[simp] theorem isD_bn {i : Bool} : isD (.bl i) .non = some false := rfl
theorem size_big : 1000000 ≤ sizeLine := by decide +kernel
@[simp] theorem oTup_eq : oTup ds = if ds.length ≤ sizeLine then some (.tup ds) else none := rfl
@[simp] theorem oLst_eq : oLst ds = if ds.length ≤ sizeLine then some (.lst .own ds) else none := rfl
/-! items at numerals -/
theorem atI_get {α : Type} {xs : List α} {i : Nat} {x : α} (h : xs[i]? = some x) : atI xs (i : Int) = some x := by
  unfold atI ixN
  have hl : i < xs.length := (List.getElem?_eq_some_iff.mp h).1
  rw [if_pos (by omega), if_pos (by omega)]
  simpa using h
@[simp] theorem atI_0 {α : Type} {x : α} {xs : List α} : atI (x :: xs) 0 = some x := atI_get (i := 0) rfl
@[simp] theorem atI_1 {α : Type} {x y : α} {xs : List α} : atI (y :: x :: xs) 1 = some x := atI_get (i := 1) rfl
@[simp] theorem atI_2 {α : Type} {x y z : α} {xs : List α} : atI (y :: z :: x :: xs) 2 = some x := atI_get (i := 2) rfl
@[simp] theorem atI_3 {α : Type} {x y z w : α} {xs : List α} : atI (y :: z :: w :: x :: xs) 3 = some x := atI_get (i := 3) rfl
@[simp] theorem atI_4 {α : Type} {x y z w u : α} {xs : List α} : atI (y :: z :: w :: u :: x :: xs) 4 = some x := atI_get (i := 4) rfl
theorem atI_map {α β : Type} {k : α → β} {xs : List α} {i : Int} : atI (xs.map k) i = (atI xs i).map k := by
  unfold atI
  rw [List.length_map]
  cases ixN xs.length i with
  | none => rfl
  | some j => simp
end
theorem placeL_0 {ρ : Env} {i : Nat} {ds : List D} (h : getS ρ i = some (.lst .own ds)) : placeL ρ i [] = some (.lst .own ds, ds) := by
  unfold placeL; rw [h]; rfl
@[simp] theorem sSetL_0 {ρ : Env} {i : Nat} {f : EF} {g : PF} : sSetL i l0 f g ρ = match f ρ with
  | some (.ok d ρ1) => (match asInt (g ρ1) with
    | some j => (match ownL (getS ρ1 i) with
      | some ds => if d.noBrw = true then (ixN ds.length j).map fun k => .nx (setS ρ1 i (some (.lst .own (ds.set k d)))) else none
      | none => none)
    | none => none)
  | some (.ex n xs ρ1) => some (.ex n xs ρ1)
  | none => none := by
  unfold sSetL
  cases q : f ρ with
  | none => rfl
  | some r =>
    cases r with
    | ex n xs ρ1 => rfl
    | ok d ρ1 =>
      show (match l0 ρ1, asInt (g ρ1) with | some π, some j => (setL ρ1 i π j d).map Out.nx | _, _ => none) = (match asInt (g ρ1) with
    | some j => (match ownL (getS ρ1 i) with
      | some ds => if d.noBrw = true then (ixN ds.length j).map fun k => Out.nx (setS ρ1 i (some (.lst .own (ds.set k d)))) else none
      | none => none)
    | none => none)
      cases q2 : asInt (g ρ1) with
      | none => rfl
      | some j =>
        show (setL ρ1 i [] j d).map Out.nx = _
        dsimp only
        unfold setL
        cases q3 : ownL (getS ρ1 i) with
        | none =>
          have : placeL ρ1 i [] = none := by
            unfold placeL
            cases q4 : getS ρ1 i with
            | none => rfl
            | some d0 =>
              rw [q4] at q3
              dsimp only
              split
              · show ((ownL (dAt d0 [])).map _) = none
                rw [show dAt d0 [] = some d0 from by cases d0 <;> rfl, q3]; rfl
              · rfl
          rw [this]; rfl
        | some ds =>
          rw [placeL_0 (ownL_some q3)]
          dsimp only
          split
          · rw [Option.map_map]; rfl
          · rfl
@[simp] theorem asInt_int {j : Int} : asInt (some (.int j)) = some j := rfl
@[simp] theorem ownL_own {ds : List D} : ownL (some (.lst .own ds)) = some ds := rfl
theorem ixN_lt {n j : Nat} (h : j < n) : ixN n (j : Int) = some j := by unfold ixN; rw [if_pos (by omega), if_pos (by omega)]; simp
@[simp] theorem ixN_0 {n : Nat} : ixN (n + 1) 0 = some 0 := ixN_lt (j := 0) (by omega)
@[simp] theorem ixN_1 {n : Nat} : ixN (n + 1 + 1) 1 = some 1 := ixN_lt (j := 1) (by omega)
@[simp] theorem ixN_2 {n : Nat} : ixN (n + 1 + 1 + 1) 2 = some 2 := ixN_lt (j := 2) (by omega)
@[simp] theorem ixN_3 {n : Nat} : ixN (n + 1 + 1 + 1 + 1) 3 = some 3 := ixN_lt (j := 3) (by omega)
@[simp] theorem ixN_4 {n : Nat} : ixN (n + 1 + 1 + 1 + 1 + 1) 4 = some 4 := ixN_lt (j := 4) (by omega)
theorem cMul_r {i j : Int} (h : -(2 ^ 64) < j) (h2 : j < 2 ^ 64) : cMul i j = true := by
  unfold cMul; rw [decide_eq_true h, decide_eq_true h2]; simp
theorem cMul_l {i j : Int} (h : -(2 ^ 64) < i) (h2 : i < 2 ^ 64) : cMul i j = true := by
  unfold cMul; rw [decide_eq_true h, decide_eq_true h2]; simp
theorem cDiv_ok {i j : Int} (h : 0 < j) (h2 : j < 1073741824) : cDiv i j = true := by
  unfold cDiv; rw [decide_eq_true (by omega), decide_eq_true (by omega)]; rfl
theorem atI_lt {α : Type} {xs : List α} {i : Int} (h : 0 ≤ i) (h2 : i < xs.length) : ∃ x, atI xs i = some x ∧ x ∈ xs := by
  obtain ⟨k, rfl⟩ := Int.eq_ofNat_of_zero_le h
  have hk : k < xs.length := by omega
  exact ⟨xs[k], atI_get (List.getElem?_eq_getElem hk), List.getElem_mem hk⟩
/-! loops -/
@[simp] theorem bN_eq {i : Nat} {d : D} {ρ : Env} : bN i d ρ = if i < ρ.length then some (setS ρ i (some d)) else none := rfl
@[simp] theorem bT_eq {bs : BFs} {ds : List D} {ρ : Env} : bT bs (.tup ds) ρ = bs ds ρ := rfl
@[simp] theorem bsNil_eq {ρ : Env} : bsNil [] ρ = some ρ := rfl
@[simp] theorem bsCons_eq {b : BF} {bs : BFs} {d : D} {ds : List D} {ρ : Env} : bsCons b bs (d :: ds) ρ = (b d ρ).bind (bs ds) := rfl
@[simp] theorem clrS_nil {ρ : Env} : clrS [] ρ = ρ := rfl
@[simp] theorem clrS_cons {i : Nat} {is : List Nat} {ρ : Env} : clrS (i :: is) ρ = clrS is (setS ρ i none) := rfl
@[simp] theorem clrO_nx {is : List Nat} {ρ : Env} : clrO is (some (.nx ρ)) = some (.nx (clrS is ρ)) := rfl
@[simp] theorem clrO_rt {is : List Nat} {ρ : Env} {d : D} : clrO is (some (.rt d ρ)) = some (.rt d ρ) := rfl
@[simp] theorem clrO_ex {is : List Nat} {ρ : Env} {n : Str} {fs : List (Str × D)} : clrO is (some (.ex n fs ρ)) = some (.ex n fs ρ) := rfl
@[simp] theorem loop_nil {b : BF} {g : SF} {ρ : Env} : loop b g [] ρ = some (.nx ρ) := rfl
@[simp] theorem loop_cons {b : BF} {g : SF} {ρ : Env} {d : D} {ds : List D} : loop b g (d :: ds) ρ = match b d ρ with
    | none => none
    | some ρ1 => match g ρ1 with
      | some (.nx ρ2) => loop b g ds ρ2
      | r => r := rfl
theorem sFor_of {q : IF} {b : BF} {g : SF} {is : List Nat} {ρ ρ' : Env} {d : D} {ds : List D} (h : q ρ = some (.ok (d, ds) ρ')) : sFor q b g is ρ = clrO is (loop b g ds ρ') := by unfold sFor; rw [h]
def Post (N : Env → Prop) (R : Out → Prop) : Option Out → Prop
  | some (.nx ρ) => N ρ
  | some o => R o
  | none => False
theorem loop_post {b : BF} {g : SF} {I : Nat → Env → Prop} {R : Out → Prop} : ∀ {ds : List D} (n : Nat), (∀ k d ρ, ds[k]? = some d → I (n + k) ρ → ∃ ρ1, b d ρ = some ρ1 ∧ Post (I (n + k + 1)) R (g ρ1)) → ∀ ρ, I n ρ → Post (I (n + ds.length)) R (loop b g ds ρ)
  | [], n, _, ρ, h => h
  | d :: ds, n, hs, ρ, h => by
    obtain ⟨ρ1, e, p⟩ := hs 0 d ρ rfl h
    rw [loop_cons, e]
    dsimp only
    cases q : g ρ1 with
    | none => rw [q] at p; exact p
    | some o =>
      rw [q] at p
      cases o with
      | nx ρ2 =>
        have := loop_post (ds := ds) (n + 1) (fun k d ρ e i => by
          have := hs (k + 1) d ρ (by simpa using e) (by rw [show n + (k + 1) = n + 1 + k by omega]; exact i)
          rw [show n + (k + 1) = n + 1 + k by omega] at this
          exact this) ρ2 p
        rw [List.length_cons, show n + (ds.length + 1) = n + 1 + ds.length by omega]
        exact this
      | rt d ρ2 => exact p
      | ex n fs ρ2 => exact p
/-- a loop that always comes to its end -/
theorem loop_inv {b : BF} {g : SF} {I : Nat → Env → Prop} {ds : List D} (hs : ∀ k d ρ, ds[k]? = some d → I k ρ → ∃ ρ1 ρ2, b d ρ = some ρ1 ∧ g ρ1 = some (.nx ρ2) ∧ I (k + 1) ρ2) {ρ : Env} (h : I 0 ρ) : ∃ ρ', loop b g ds ρ = some (.nx ρ') ∧ I ds.length ρ' := by
  have := loop_post (b := b) (g := g) (I := I) (R := fun _ => False) (ds := ds) 0 (fun k d ρ e i => by
    rw [Nat.zero_add] at i ⊢
    obtain ⟨ρ1, ρ2, e1, e2, i2⟩ := hs k d ρ e i
    exact ⟨ρ1, e1, by rw [e2]; exact i2⟩) ρ h
  rw [Nat.zero_add] at this
  cases q : loop b g ds ρ with
  | none => rw [q] at this; exact this.elim
  | some o =>
    rw [q] at this
    cases o with
    | nx ρ' => exact ⟨ρ', rfl, this⟩
    | rt d ρ' => exact this.elim
    | ex n fs ρ' => exact this.elim
theorem whileN_s {t : TF} {g : SF} {n : Nat} {ρ : Env} : whileN t g (n + 1) ρ = match t ρ with
    | some (.ok true ρ') => (match g ρ' with
      | some (.nx ρ2) => whileN t g n ρ2
      | r => r)
    | some (.ok false ρ') => some (.nx ρ')
    | some (.ex m fs ρ') => some (.ex m fs ρ')
    | none => none := rfl
/-- a while loop with a measure -/
theorem while_post {t : TF} {g : SF} {I : Nat → Env → Prop} {N : Env → Prop} {R : Out → Prop} (hs : ∀ m ρ, I m ρ → (∃ ρ', t ρ = some (.ok false ρ') ∧ N ρ') ∨ (∃ ρ', t ρ = some (.ok true ρ') ∧ Post (fun ρ2 => ∃ k, k < m ∧ I k ρ2) R (g ρ'))) : ∀ (n m : Nat) (ρ : Env), m < n → I m ρ → Post N R (whileN t g n ρ)
  | 0, m, ρ, h, _ => absurd h (Nat.not_lt_zero m)
  | n + 1, m, ρ, h, i => by
    rw [whileN_s]
    rcases hs m ρ i with ⟨ρ', e, j⟩ | ⟨ρ', e, j⟩
    · rw [e]; exact j
    · rw [e]
      dsimp only
      cases q : g ρ' with
      | none => rw [q] at j; exact j
      | some o =>
        rw [q] at j
        cases o with
        | nx ρ2 =>
          obtain ⟨k, hk, ik⟩ := j
          exact while_post hs n k ρ2 (by omega) ik
        | rt d ρ2 => exact j
        | ex n fs ρ2 => exact j
theorem sWhile_post {t : TF} {g : SF} {I : Nat → Env → Prop} {N : Env → Prop} {R : Out → Prop} (hs : ∀ m ρ, I m ρ → (∃ ρ', t ρ = some (.ok false ρ') ∧ N ρ') ∨ (∃ ρ', t ρ = some (.ok true ρ') ∧ Post (fun ρ2 => ∃ k, k < m ∧ I k ρ2) R (g ρ'))) {m : Nat} {ρ : Env} (hm : m < fuel) (i : I m ρ) : Post N R (sWhile t g ρ) := while_post hs fuel m ρ hm i
theorem Post.get {N : Env → Prop} {R : Out → Prop} {o : Option Out} (h : Post N R o) (hR : ∀ x, ¬ R x) : ∃ ρ, o = some (.nx ρ) ∧ N ρ := by
  cases o with
  | none => exact h.elim
  | some o => cases o with
    | nx ρ => exact ⟨ρ, rfl, h⟩
    | rt d ρ => exact (hR _ h).elim
    | ex n fs ρ => exact (hR _ h).elim
/-- what is walked -/
theorem iAll_lst {f : EF} {ρ ρ' : Env} {m : Mk} {ds : List D} (h : f ρ = some (.ok (.lst m ds) ρ')) (hb : (D.lst m ds).noBrw = true) : iAll f ρ = some (.ok ((D.lst m ds).frz, D.remL fz ds) ρ') := by
  unfold iAll iSeq
  rw [h]
  dsimp only
  rw [if_pos hb]; rfl
theorem iAll_tup {f : EF} {ρ ρ' : Env} {ds : List D} (h : f ρ = some (.ok (.tup ds) ρ')) (hb : (D.tup ds).noBrw = true) : iAll f ρ = some (.ok ((D.tup ds).frz, D.remL fz ds) ρ') := by
  unfold iAll iSeq
  rw [h]
  dsimp only
  rw [if_pos hb]; rfl
theorem iAll_str {f : EF} {ρ ρ' : Env} {z : Str} (h : f ρ = some (.ok (.str z) ρ')) : iAll f ρ = some (.ok (.str z, strD z) ρ') := by
  unfold iAll
  rw [h]
theorem okR_small {j : Int} (h : -1000000000 ≤ j) (h2 : j ≤ 1000000000) : okR j = true := by
  unfold okR; rw [decide_eq_true (by omega), decide_eq_true (by omega)]; rfl
theorem iRng_1 {f : EF} {ρ ρ' : Env} {j : Int} (h : f ρ = some (.ok (.int j) ρ')) (hj : okR j = true) : iRng [f] ρ = some (.ok (.non, rngD 0 j.toNat) ρ') := by
  unfold iRng
  rw [evE_cons, h]
  simp [rngOf, hj]
theorem rngD_at {lo : Int} {n k : Nat} (h : k < n) : (rngD lo n)[k]? = some (.int (lo + k)) := by
  unfold rngD; rw [List.getElem?_map, List.getElem?_range h]; rfl
end DL

end
section
/-! DM2: calls that lend, comprehensions, in; texts in lists. -/
open PySem PySem.Spec L2
namespace DL
theorem getS_setS_ne : ∀ (ρ : Env) (i j : Nat) (a : Option D), i ≠ j → getS (setS ρ i a) j = getS ρ j
  | [], _, _, _, _ => rfl
  | x :: r, 0, 0, _, h => absurd rfl h
  | x :: r, 0, j + 1, _, _ => rfl
  | x :: r, i + 1, 0, _, _ => rfl
  | x :: r, i + 1, j + 1, a, h => getS_setS_ne r i j a (fun e => h (by rw [e]))
/-- f(x) with x lent -/
theorem eC_l {ff : FF} {i : Nat} {ρ : Env} {d v d' : D} (h : getS ρ i = some d) (h2 : ff [d] = some (.ret v [d'])) : eC ff [.ln i] ρ = some (.ok v (setS ρ i (some d'))) := by
  simp [eC, evA, fill, unfill, h, h2, setS_setS]
/-- f(x, e) with x lent, e an expression that changes nothing -/
theorem eC_le {ff : FF} {i : Nat} {f : EF} {ρ : Env} {d v d' x : D} (h : getS ρ i = some d) (h1 : f ρ = some (.ok x ρ)) (nb : x.noBrw = true) (h2 : ff [d, x.frz] = some (.ret v [d'])) : eC ff [.ln i, .ex f] ρ = some (.ok v (setS ρ i (some d'))) := by
  simp [eC, evA, fill, unfill, h, h1, nb, h2, setS_setS]
theorem eC_lee {ff : FF} {i : Nat} {f g : EF} {ρ : Env} {d v d' x y : D} (h : getS ρ i = some d) (h1 : f ρ = some (.ok x ρ)) (nb : x.noBrw = true) (h3 : g ρ = some (.ok y ρ)) (nb2 : y.noBrw = true) (h2 : ff [d, x.frz, y.frz] = some (.ret v [d'])) : eC ff [.ln i, .ex f, .ex g] ρ = some (.ok v (setS ρ i (some d'))) := by
  simp [eC, evA, fill, unfill, h, h1, nb, h3, nb2, h2, setS_setS]
/-! ### comprehensions that change nothing -/
theorem loopC_pure {b : BF} {t : TF} {f : EF} {is : List Nat} {ρ : Env} (p : D → Bool) (k : D → D) : ∀ (ds acc : List D), (∀ x ∈ ds, ∃ ρ1, b x ρ = some ρ1 ∧ t ρ1 = some (.ok (p x) ρ1) ∧ (p x = true → f ρ1 = some (.ok (k x) ρ1) ∧ (k x).noBrw = true) ∧ clrS is ρ1 = ρ) → acc.length + ds.length ≤ sizeLine →
    loopC b t f is ds acc ρ = some (acc ++ (ds.filter p).map k, ρ)
  | [], acc, _, _ => by simp [loopC]
  | x :: ds, acc, h, hl => by
    obtain ⟨ρ1, e1, e2, e3, e4⟩ := h x List.mem_cons_self
    rw [List.length_cons] at hl
    unfold loopC
    rw [e1]
    dsimp only
    rw [e2]
    cases hp : p x with
    | false =>
      dsimp only
      rw [e4, loopC_pure p k ds acc (fun y hy => h y (List.mem_cons_of_mem _ hy)) (by omega), List.filter_cons_of_neg (by simp [hp])]
    | true =>
      dsimp only
      obtain ⟨e5, e6⟩ := e3 hp
      rw [e5]
      dsimp only
      rw [if_pos ⟨e6, by omega⟩, e4, loopC_pure p k ds _ (fun y hy => h y (List.mem_cons_of_mem _ hy)) (by rw [List.length_append, List.length_singleton]; omega), List.filter_cons_of_pos hp]
      simp
theorem eLc_pure {q : IF} {b : BF} {t : TF} {f : EF} {is : List Nat} {ρ ρ' ρ0 : Env} {d : D} {ds : List D} (p : D → Bool) (k : D → D) (hq : q ρ = some (.ok (d, ds) ρ')) (hc : clrS is ρ' = ρ0) (hc0 : clrS is ρ0 = ρ0)
    (h : ∀ x ∈ ds, ∃ ρ1, b x ρ0 = some ρ1 ∧ t ρ1 = some (.ok (p x) ρ1) ∧ (p x = true → f ρ1 = some (.ok (k x) ρ1) ∧ (k x).noBrw = true) ∧ clrS is ρ1 = ρ0) (hl : ds.length ≤ sizeLine) :
    eLc q b t f is ρ = some (.ok (.lst .own ((ds.filter p).map k)) ρ0) := by
  unfold eLc
  rw [hq]
  dsimp only
  rw [hc, loopC_pure p k ds [] h (by simpa using hl)]
  simp [hc0]
theorem setS_same : ∀ {ρ : Env} {i : Nat} {d : D}, getS ρ i = some d → setS ρ i (some d) = ρ
  | [], _, _, h => by cases h
  | x :: r, 0, d, h => by have : x = some d := h; rw [this]; rfl
  | x :: r, i + 1, d, h => by show x :: _ = x :: _; rw [setS_same (ρ := r) h]
theorem setS_len : ∀ {ρ : Env} {i : Nat} {d : Option D}, (setS ρ i d).length = ρ.length
  | [], _, _ => rfl
  | x :: r, 0, d => rfl
  | x :: r, i + 1, d => by show (setS r i d).length + 1 = _; rw [setS_len]; rfl
theorem eLcO_pure {i : Nat} {b : BF} {t : TF} {f : EF} {is : List Nat} {ρ ρ0 : Env} {ds : List D} (p : D → Bool) (k : D → D) (h0 : getS ρ i = some (.lst .own ds)) (c1 : D.chkL (fun m => !m.isOwn) ds = true) (c2 : D.chkL (fun m => !m.isBrw) ds = true) (hc : clrS is (setS ρ i none) = ρ0) (hc0 : clrS is ρ0 = ρ0)
    (h : ∀ x ∈ ds, ∃ ρ1, b x ρ0 = some ρ1 ∧ t ρ1 = some (.ok (p x) ρ1) ∧ (p x = true → f ρ1 = some (.ok (k x) ρ1) ∧ (k x).noBrw = true) ∧ clrS is ρ1 = ρ0) (hl : ds.length ≤ sizeLine) (hi : i < ρ0.length) :
    eLcO i b t f is ρ = some (.ok (.lst .own ((ds.filter p).map k)) (setS ρ0 i (some (.lst .own ds)))) := by
  unfold eLcO
  rw [h0]
  unfold ownW
  dsimp only
  rw [if_pos ⟨c1, c2⟩]
  dsimp only
  rw [hc, loopC_pure p k ds [] h (by simpa using hl)]
  dsimp only
  rw [hc0, if_pos hi]
  rfl
@[simp] theorem tYesF_eq {ρ : Env} : tYesF ρ = some (.ok true ρ) := rfl
/-! ### in -/
theorem any_str (s : Str) (xs : List Str) : ((xs.map D.str).any fun y => eqF y (.str s)) = decide (s ∈ xs) := by
  induction xs with
  | nil => simp
  | cons x xs ih =>
    rw [List.map_cons, List.any_cons, ih]
    show ((x == s) || _) = _
    by_cases h : x = s
    · subst h; simp
    · have h' : ¬ s = x := fun e => h e.symm
      simp [h, h']
theorem all_str (xs : List Str) : (xs.map D.str).all flatD = true := by
  induction xs with
  | nil => rfl
  | cons x xs ih => rw [List.map_cons, List.all_cons, ih]; rfl
@[simp] theorem inD_strs {s : Str} {m : Mk} {xs : List Str} : inD (.str s) (.lst m (xs.map .str)) = some (decide (s ∈ xs)) := by
  unfold inD
  dsimp only
  rw [all_str]
  show some _ = _
  rw [any_str]
@[simp] theorem oApp_eq {ds : List D} {d : D} : oApp ds [d] = if ds.length < sizeLine then some (ds ++ [d], .non) else none := rfl
@[simp] theorem oIns_eq {ds : List D} {d : D} {i : Int} : oIns ds [.int i, d] = if ds.length < sizeLine ∧ 0 ≤ i ∧ i < 2 ^ 63 then some (ds.take i.toNat ++ [d] ++ ds.drop i.toNat, .non) else none := rfl
@[simp] theorem eL_eq {o : OL} {i : Nat} {fs : List EF} {ρ : Env} : eL o i fs ρ = match ownL (getS ρ i) with
  | some _ => (match evE fs ρ with
    | some (.ok args ρ') => if D.chkL (fun m => !m.isBrw) args = true then (match ownL (getS ρ' i) with
      | some ds => (o ds args).map fun p => .ok p.2 (setS ρ' i (some (.lst .own p.1)))
      | none => none) else none
    | some (.ex n xs ρ') => some (.ex n xs ρ')
    | none => none)
  | none => none := rfl
@[simp] theorem eMv_eq {i : Nat} {ρ : Env} : eMv i ρ = (getS ρ i).map fun d => .ok d (setS ρ i none) := rfl
@[simp] theorem eFz_eq {i : Nat} {ρ : Env} : eFz i ρ = (getS ρ i).map fun d => .ok d.frz (setS ρ i (some d.frz)) := rfl
@[simp] theorem eB_eq {o : O2} {f g : EF} {ρ : Env} : eB o f g ρ = match f ρ with
  | some (.ok d ρ1) => if d.noBrw = true then (match g ρ1 with
    | some (.ok e ρ2) => (o d e).map (.ok · ρ2)
    | some (.ex n xs ρ2) => some (.ex n xs ρ2)
    | none => none) else none
  | some (.ex n xs ρ1) => some (.ex n xs ρ1)
  | none => none := by
  unfold eB
  cases f ρ with
  | none => rfl
  | some r => cases r with
    | ex n xs ρ1 => rfl
    | ok d ρ1 =>
      dsimp only
      split
      · cases g ρ1 with
        | none => rfl
        | some r => cases r <;> rfl
      · rfl
@[simp] theorem tAndF_eq {t u : TF} {ρ : Env} : tAndF t u ρ = match t ρ with | some (.ok true ρ') => u ρ' | r => r := rfl
@[simp] theorem tOrF_eq {t u : TF} {ρ : Env} : tOrF t u ρ = match t ρ with | some (.ok false ρ') => u ρ' | r => r := rfl
@[simp] theorem tNotF_eq {t : TF} {ρ : Env} : tNotF t ρ = match t ρ with | some (.ok b ρ') => some (.ok (!b) ρ') | r => r := rfl
@[simp] theorem pNeg_eq {f : PF} {ρ : Env} : pNeg f ρ = match f ρ with | some (.int i) => some (.int (-i)) | _ => none := rfl
@[simp] theorem oList_lst {m : Mk} {ds : List D} : oList [.lst m ds] = some (.lst .own ds) := rfl
@[simp] theorem oList_tup {ds : List D} : oList [.tup ds] = some (.lst .own ds) := rfl
@[simp] theorem oAdd_lst {m n : Mk} {ds es : List D} : oAdd (.lst m ds) (.lst n es) = if m ≠ .ro ∧ n ≠ .ro ∧ ds.length + es.length ≤ sizeLine then some (.lst .own (ds ++ es)) else none := rfl
@[simp] theorem mk_ne1 : (Mk.own = Mk.ro) = False := by simp
@[simp] theorem mk_ne2 : (Mk.frz = Mk.ro) = False := by simp
@[simp] theorem mk_ne3 : (Mk.brw = Mk.ro) = False := by simp
theorem oCall_nb {f : FF} {ds : List D} {d : D} {ls : List D} (h : f (D.remL fz ds) = some (.ret d ls)) (c : D.chkL (fun m => !m.isBrw) ds = true ∨ d.noFrz = true) : oCall f ds = some d := by
  unfold oCall
  rw [h]
  dsimp only
  rw [if_pos c]
theorem iSeq_lst {f : EF} {ρ ρ' : Env} {m : Mk} {ds : List D} (h : f ρ = some (.ok (.lst m ds) ρ')) (hb : (D.lst m ds).noBrw = true) : iSeq f ρ = some (.ok ((D.lst m ds).frz, D.remL fz ds) ρ') := by
  unfold iSeq
  rw [h]
  dsimp only
  rw [if_pos hb]; rfl
@[simp] theorem chkL_takeS {P : Mk → Bool} {ds : List D} {n : Nat} (h : D.chkL P ds = true) : D.chkL P (ds.take n) = true := by
  rw [chkL_eq] at h ⊢
  exact List.all_eq_true.mpr fun x hx => List.all_eq_true.mp h x (List.mem_of_mem_take hx)
@[simp] theorem chkL_dropS {P : Mk → Bool} {ds : List D} {n : Nat} (h : D.chkL P ds = true) : D.chkL P (ds.drop n) = true := by
  rw [chkL_eq] at h ⊢
  exact List.all_eq_true.mpr fun x hx => List.all_eq_true.mp h x (List.mem_of_mem_drop hx)

theorem getS_setS_eq : ∀ {ρ : Env} {i : Nat} {d : Option D}, i < ρ.length → getS (setS ρ i d) i = d
  | [], _, _, h => by cases h
  | x :: r, 0, d, h => rfl
  | x :: r, i + 1, d, h => getS_setS_eq (ρ := r) (by simpa using h)
end DL

end
section
/-! DM3: more rules for reading a def's function. -/
open PySem PySem.Spec L2
namespace DL
theorem iRng_2 {f g : EF} {ρ ρ1 ρ2 : Env} {i j : Int} (h1 : f ρ = some (.ok (.int i) ρ1)) (h2 : g ρ1 = some (.ok (.int j) ρ2)) (hi : okR i = true) (hj : okR j = true) : iRng [f, g] ρ = some (.ok (.non, rngD i (j - i).toNat) ρ2) := by
  unfold iRng
  rw [evE_cons, h1]
  dsimp only
  rw [if_pos (by rfl), evE_cons, h2]
  simp [rngOf, hi, hj]
theorem blsOf_map (ys : List Bool) : blsOf (ys.map .bl) = some ys := by
  induction ys with
  | nil => rfl
  | cons y ys ih => show (blsOf (ys.map .bl)).map _ = _; rw [ih]; rfl
theorem intsOf_map (ys : List Int) : intsOf (ys.map .int) = some ys := by
  induction ys with
  | nil => rfl
  | cons y ys ih => show (intsOf (ys.map .int)).map _ = _; rw [ih]; rfl
@[simp] theorem oAny_bls {m : Mk} {ys : List Bool} : oAny [.lst m (ys.map .bl)] = some (.bl (ys.any id)) := by
  show (blsOf _).map _ = _
  rw [blsOf_map]; rfl
@[simp] theorem oAll_bls {m : Mk} {ys : List Bool} : oAll [.lst m (ys.map .bl)] = some (.bl (ys.all id)) := by
  show (blsOf _).map _ = _
  rw [blsOf_map]; rfl
@[simp] theorem chkL_bls {P : Mk → Bool} {xs : List Bool} : D.chkL P (xs.map .bl) = true := by rw [chkL_map]; simp
@[simp] theorem remL_bls {F : Mk → Mk} {xs : List Bool} : D.remL F (xs.map .bl) = xs.map .bl := by rw [remL_map]; rfl
@[simp] theorem eIf_eq {t : TF} {f g : EF} {ρ : Env} : eIf t f g ρ = match t ρ with
  | some (.ok true ρ') => f ρ'
  | some (.ok false ρ') => g ρ'
  | some (.ex n fs ρ') => some (.ex n fs ρ')
  | none => none := by unfold eIf; cases t ρ with | none => rfl | some r => cases r with | ok b ρ' => cases b <;> rfl | ex => rfl
theorem sIf_t {t : TF} {g h : SF} {ρ ρ' : Env} (e : t ρ = some (.ok true ρ')) : sIf t g h ρ = g ρ' := by rw [sIf_eq, e]
theorem sIf_f {t : TF} {g h : SF} {ρ ρ' : Env} (e : t ρ = some (.ok false ρ')) : sIf t g h ρ = h ρ' := by rw [sIf_eq, e]
end DL

end
section
/-! MJ0: houses. -/
open PySem PySem.Spec L2
namespace DL
structure Belt where
  name : Str
  long : Int
  ring : Bool
  outs : List Str
def encB (b : Belt) : D := .tup [.str b.name, .int b.long, .bl b.ring, .lst .frz (b.outs.map .str)]
def encH (m : Mk) (bs : List Belt) (cs : List Str) : D := .tup [.lst m (bs.map encB), .lst .frz (cs.map .str)]
def names (bs : List Belt) : List Str := bs.map (·.name)
/-- each belt's outs are carts or belts behind -/
def WFb (cs : List Str) : List Belt → Prop
  | [] => True
  | b :: bs => 1 ≤ b.long ∧ b.long ≤ 100 ∧ (b.ring = true → 2 ≤ b.long) ∧ (∀ o ∈ b.outs, o ∈ names bs ++ cs) ∧ b.outs.Nodup ∧ b.outs.length ≤ 10 ∧ b.outs ≠ [] ∧ (cs[0]? = none ∨ (∃ c0, cs[0]? = some c0 ∧ c0 ∈ b.outs) ∨ ∃ o ∈ b.outs, o ∈ names bs) ∧ WFb cs bs
@[simp] theorem encB_chk {P : Mk → Bool} (h : P .frz = true) {b : Belt} : D.chk P (encB b) = true := by simp [encB, h]
@[simp] theorem encB_rem {b : Belt} : D.rem fz (encB b) = encB b := by simp [encB]
@[simp] theorem encB_rempk {b : Belt} : D.rem pk (encB b) = encB b := by simp [encB]
@[simp] theorem encBs_chk {P : Mk → Bool} (h : P .frz = true) {bs : List Belt} : D.chkL P (bs.map encB) = true := by rw [chkL_map]; simp [h]
@[simp] theorem encBs_rem {bs : List Belt} : D.remL fz (bs.map encB) = bs.map encB := by rw [remL_map]; simp
@[simp] theorem encBs_rempk {bs : List Belt} : D.remL pk (bs.map encB) = bs.map encB := by rw [remL_map]; simp
end DL

end
section
/-! ML0: facts of a house; ==. -/
open PySem PySem.Spec L2
namespace DL
/-- a house as it is drawn -/
structure HOk (bs : List Belt) (cs : List Str) : Prop where
  nd : (names bs).Nodup
  cn : cs.Nodup
  ap : ∀ c ∈ cs, c ∉ names bs
  wf : WFb cs bs
  ne : cs ≠ []
  nl : bs.length ≤ 6
  cl : cs.length ≤ 5
  ok : ∀ s ∈ names bs ++ cs, PyData.canLay0 (.str s) = true ∧ s.length ≤ 8
  nn : Str.ofString "nothing" ∉ names bs
  lt : ∀ s ∈ names bs ++ cs, s.length ≠ 0 ∧ ∀ c ∈ s.cps.toList, 97 ≤ c ∧ c ≤ 122
theorem wf_outs {cs : List Str} : ∀ {bs : List Belt} {b : Belt}, WFb cs bs → b ∈ bs → 1 ≤ b.long ∧ b.long ≤ 100 ∧ (b.ring = true → 2 ≤ b.long) ∧ (∀ o ∈ b.outs, o ∈ names bs ++ cs) ∧ b.outs.Nodup ∧ b.outs.length ≤ 10
  | [], b, _, h => by cases h
  | b :: bs, b', ⟨h1, h2, h3, h4, h5, h6, h7, h8, h9⟩, h => by
    rcases List.mem_cons.mp h with rfl | h
    · refine ⟨h1, h2, h3, fun o ho => ?_, h5, h6⟩
      have := h4 o ho
      rw [List.mem_append] at this ⊢
      rcases this with z | z
      · exact .inl (List.mem_cons_of_mem _ z)
      · exact .inr z
    · obtain ⟨a1, a2, a3, a4, a5, a6⟩ := wf_outs h9 h
      refine ⟨a1, a2, a3, fun o ho => ?_, a5, a6⟩
      have := a4 o ho
      rw [List.mem_append] at this ⊢
      rcases this with z | z
      · exact .inl (List.mem_cons_of_mem _ z)
      · exact .inr z
/-! ### == -/
theorem eqD_refl {x : D} {p : PyData} (h : py x = some p) (h2 : SeqAt.shaped p = true) : eqD x x = some true := by
  have hr : PyData.eqv p p = true := SeqAt.eqv_refl p (SeqAt.canLay_of_shaped h2)
  cases x <;> first | (cases h; done) | (simp [eqD]; done) | (simp [eqD, h, h2, hr]; done)
theorem pys_strs (xs : List Str) : pys (xs.map .str) = some (xs.map .str) := by
  induction xs with
  | nil => rfl
  | cons x xs ih => rw [List.map_cons, pys, ih]; rfl
def pyB (b : Belt) : PyData := .tuple [.str b.name, .int b.long, .bool b.ring, .list (b.outs.map .str)]
theorem py_encB (b : Belt) : py (encB b) = some (pyB b) := by
  unfold encB pyB
  simp [py, pys, pys_strs]
theorem pys_encBs (bs : List Belt) : pys (bs.map encB) = some (bs.map pyB) := by
  induction bs with
  | nil => rfl
  | cons b bs ih => rw [List.map_cons, pys, ih, py_encB]; rfl
theorem lay_strs {xs : List Str} (h : ∀ s ∈ xs, PyData.canLay0 (.str s) = true) : PyData.canLayAll0 (xs.map .str) = true := by
  induction xs with
  | nil => rfl
  | cons x xs ih =>
    rw [List.map_cons, PyData.canLayAll0, h x List.mem_cons_self, ih fun s hs => h s (List.mem_cons_of_mem _ hs)]
    rfl
theorem depth_strs (xs : List Str) : PyData.depthAll (xs.map .str) = 0 := by
  induction xs with
  | nil => rfl
  | cons x xs ih => rw [List.map_cons, PyData.depthAll, ih]; rfl
theorem lay_Bs {xs : List Belt} (h : ∀ b ∈ xs, PyData.canLay0 (.str b.name) = true ∧ ∀ o ∈ b.outs, PyData.canLay0 (.str o) = true) : PyData.canLayAll0 (xs.map pyB) = true := by
  induction xs with
  | nil => rfl
  | cons x xs ih =>
    rw [List.map_cons, PyData.canLayAll0, ih fun s hs => h s (List.mem_cons_of_mem _ hs)]
    obtain ⟨h1, h2⟩ := h x List.mem_cons_self
    simp [pyB, PyData.canLay0, PyData.canLayAll0, lay_strs h2]
    simpa [PyData.canLay0] using h1
theorem depth_Bs (xs : List Belt) : PyData.depthAll (xs.map pyB) ≤ 2 := by
  induction xs with
  | nil => exact Nat.zero_le _
  | cons x xs ih =>
    rw [List.map_cons, PyData.depthAll]
    have : PyData.depth (pyB x) ≤ 2 := by
      simp [pyB, PyData.depth, PyData.depthAll, depth_strs]
    omega
theorem eqD_house {m m' : Mk} {bs : List Belt} {cs : List Str} (h : HOk bs cs) : eqD (encH m bs cs) (encH m bs cs) = some true := by
  refine eqD_refl (p := .tuple [.list (bs.map pyB), .list (cs.map .str)]) (by unfold encH; simp [py, pys, pys_strs, pys_encBs]) ?_
  unfold SeqAt.shaped
  rw [Bool.and_eq_true]
  constructor
  · simp only [PyData.canLay0, PyData.canLayAll0]
    rw [lay_strs fun s hs => (h.ok s (List.mem_append_right _ hs)).1, lay_Bs fun b hb => ⟨(h.ok _ (List.mem_append_left _ (List.mem_map.mpr ⟨b, hb, rfl⟩))).1, fun o ho => (h.ok o ((wf_outs h.wf hb).2.2.2.1 o ho)).1⟩]
    rfl
  · refine decide_eq_true ?_
    have := depth_Bs bs
    simp only [PyData.depth, PyData.depthAll, depth_strs]
    omega
/-- unlike things of a list -/
theorem nodup_le {α : Type} [DecidableEq α] : ∀ {xs ys : List α}, xs.Nodup → (∀ x ∈ xs, x ∈ ys) → xs.length ≤ ys.length
  | [], ys, _, _ => Nat.zero_le _
  | x :: xs, ys, hn, h => by
    have hn' := List.nodup_cons.mp hn
    have hx := h x List.mem_cons_self
    have := nodup_le (xs := xs) (ys := ys.erase x) hn'.2 fun y hy => (List.mem_erase_of_ne (by rintro rfl; exact hn'.1 hy)).mpr (h y (List.mem_cons_of_mem _ hy))
    rw [List.length_erase_of_mem hx] at this
    have := List.length_pos_of_mem hx
    rw [List.length_cons]; omega
theorem cut_from {α : Type} (xs : List α) (k : Nat) (h : k ≤ xs.length) : cutL xs (some (k : Int)) none = xs.drop k := by
  unfold cutL
  rw [HT.sIx_nat, HT.sIx_none, Nat.min_eq_left h]
  exact List.take_of_length_le (by rw [List.length_drop]; omega)
theorem cut_to {α : Type} (xs : List α) (k : Nat) (h : k ≤ xs.length) : cutL xs none (some (k : Int)) = xs.take k := by
  unfold cutL
  rw [HT.sIx_nat, HT.sIx_none, Nat.min_eq_left h]
  simp
end DL

end
section
/-! MP0: walks over a house. -/
open PySem PySem.Spec L2
namespace DL
theorem walk_belts {f : EF} {ρ : Env} {bs : List Belt} (h : f ρ = some (.ok (.lst .frz (bs.map encB)) ρ)) : iAll f ρ = some (.ok (.lst .frz (bs.map encB), bs.map encB) ρ) := by
  have := iAll_lst h (by simp)
  simpa using this
theorem walk_strs {f : EF} {ρ : Env} {m : Mk} {xs : List Str} (h : f ρ = some (.ok (.lst m (xs.map .str)) ρ)) (hm : m = .frz ∨ m = .own) : iAll f ρ = some (.ok (.lst .frz (xs.map .str), xs.map .str) ρ) := by
  rcases hm with rfl | rfl
  · have := iAll_lst h (by simp)
    simpa using this
  · have := iAll_lst h (by simp)
    simpa using this
@[simp] theorem encB_0 {b : Belt} : ixD (encB b) (.int 0) = some (.str b.name) := by simp [encB]
@[simp] theorem encB_1 {b : Belt} : ixD (encB b) (.int 1) = some (.int b.long) := by simp [encB]
@[simp] theorem encB_2 {b : Belt} : ixD (encB b) (.int 2) = some (.bl b.ring) := by simp [encB]
@[simp] theorem encB_3 {b : Belt} : ixD (encB b) (.int 3) = some (.lst .frz (b.outs.map .str)) := by simp [encB]
@[simp] theorem encH_0 {m : Mk} {bs : List Belt} {cs : List Str} : ixD (encH m bs cs) (.int 0) = some (.lst m (bs.map encB)) := by simp [encH]
@[simp] theorem encH_1 {m : Mk} {bs : List Belt} {cs : List Str} : ixD (encH m bs cs) (.int 1) = some (.lst .frz (cs.map .str)) := by simp [encH]
@[simp] theorem encH_rem {bs : List Belt} {cs : List Str} : D.rem fz (encH .frz bs cs) = encH .frz bs cs := by simp [encH]
@[simp] theorem encH_chk {P : Mk → Bool} (h : P .frz = true) {bs : List Belt} {cs : List Str} : D.chk P (encH .frz bs cs) = true := by simp [encH, h]
end DL

end
section
/-! MQ0: a belt by its name. -/
open PySem PySem.Spec L2
namespace DL
theorem find_mem {bs : List Belt} {b : Belt} (hn : (names bs).Nodup) (hb : b ∈ bs) : bs.find? (fun x => x.name == b.name) = some b := by
  induction bs with
  | nil => cases hb
  | cons a bs ih =>
    have hn' : a.name ∉ names bs ∧ (names bs).Nodup := List.nodup_cons.mp hn
    rcases List.mem_cons.mp hb with e | h
    · subst e; rw [List.find?_cons_of_pos (by simp)]
    · rw [List.find?_cons_of_neg]
      · exact ih hn'.2 h
      · intro e
        have e : a.name = b.name := by simpa using e
        exact hn'.1 (by rw [e]; exact List.mem_map.mpr ⟨b, h, rfl⟩)
theorem find_none {bs : List Belt} {n : Str} (h : n ∉ names bs) : bs.find? (fun x => x.name == n) = none := by
  rw [List.find?_eq_none]
  intro b hb e
  have e : b.name = n := by simpa using e
  exact h (by rw [← e]; exact List.mem_map.mpr ⟨b, hb, rfl⟩)
theorem find_some {bs : List Belt} {n : Str} (h : n ∈ names bs) : ∃ b, bs.find? (fun x => x.name == n) = some b := by
  cases q : bs.find? (fun x => x.name == n) with
  | some b => exact ⟨b, rfl⟩
  | none =>
    obtain ⟨b, hb, rfl⟩ := List.mem_map.mp h
    rw [List.find?_eq_none] at q
    exact absurd (by simp) (q b hb)
end DL

end
section
/-! MQ: belt_of. -/
open PySem PySem.Spec L2
namespace DL
def beltR (b : Belt) : D := .tup [.str b.name, .int b.long, .bl b.ring, .lst .own (b.outs.map .str)]
theorem belt_loop (h : D) (n : Str) : ∀ (bs : List Belt) (y : Option D), (∀ b, bs.find? (fun b => b.name == n) = some b → ∃ y', loop (bN 2) (sIf (lQ (qB (pB oEq (pB ixD (dV 2) (dC (.int 0))) (dV 1)))) (sRet (lP (pN oTup [(pB ixD (dV 2) (dC (.int 0))), (pB ixD (dV 2) (dC (.int 1))), (pB ixD (dV 2) (dC (.int 2))), (pN oList [(pB ixD (dV 2) (dC (.int 3)))])]))) sNil) (bs.map encB) [some h, some (.str n), y] = some (.rt (beltR b) [some h, some (.str n), y'])) ∧
    (bs.find? (fun b => b.name == n) = none → ∃ y', loop (bN 2) (sIf (lQ (qB (pB oEq (pB ixD (dV 2) (dC (.int 0))) (dV 1)))) (sRet (lP (pN oTup [(pB ixD (dV 2) (dC (.int 0))), (pB ixD (dV 2) (dC (.int 1))), (pB ixD (dV 2) (dC (.int 2))), (pN oList [(pB ixD (dV 2) (dC (.int 3)))])]))) sNil) (bs.map encB) [some h, some (.str n), y] = some (.nx [some h, some (.str n), y']))
  | [], y => ⟨fun b e => by simp at e, fun _ => ⟨y, rfl⟩⟩
  | b :: bs, y => by
    have hs := size_big
    obtain ⟨i1, i2⟩ := belt_loop h n bs (some (encB b))
    by_cases e : b.name = n
    · refine ⟨fun b' e' => ?_, fun e' => ?_⟩
      · rw [List.find?_cons_of_pos (by simpa using e)] at e'
        cases e'
        exact ⟨some (encB b), by simp [encB, beltR, e, show 4 ≤ sizeLine by omega]⟩
      · rw [List.find?_cons_of_pos (by simpa using e)] at e'; cases e'
    · rw [List.find?_cons_of_neg (by simpa using e)]
      refine ⟨fun b' e' => ?_, fun e' => ?_⟩
      · obtain ⟨y', z⟩ := i1 b' e'
        refine ⟨y', ?_⟩
        rw [← z]
        simp [encB, e]
      · obtain ⟨y', z⟩ := i2 e'
        refine ⟨y', ?_⟩
        rw [← z]
        simp [encB, e]
theorem belt_of_ok (bs : List Belt) (cs : List Str) (n : Str) : d_belt_of [encH .frz bs cs, .str n] = some (.ret (match bs.find? (fun b => b.name == n) with | some b => beltR b | none => .non) []) := by
  have hw : iAll (lP (pB ixD (dV 0) (dC (.int 0)))) [some (encH .frz bs cs), some (.str n), none] = some (.ok (.lst .frz (bs.map encB), bs.map encB) [some (encH .frz bs cs), some (.str n), none]) := by
    have := iAll_lst (f := lP (pB ixD (dV 0) (dC (.int 0)))) (ρ := [some (encH .frz bs cs), some (.str n), none]) (ρ' := [some (encH .frz bs cs), some (.str n), none]) (m := .frz) (ds := bs.map encB) (by simp [encH]) (by simp)
    simpa using this
  obtain ⟨i1, i2⟩ := belt_loop (encH .frz bs cs) n bs none
  show fnR [false, false] (b_belt_of [some (encH .frz bs cs), some (.str n), none]) = _
  unfold b_belt_of
  cases q : bs.find? (fun b => b.name == n) with
  | some b =>
    obtain ⟨y', z⟩ := i1 b q
    rw [seq_rt (d := beltR b) (by rw [sFor_of hw, z]; rfl)]
    simp [beltR]
  | none =>
    obtain ⟨y', z⟩ := i2 q
    rw [seq_nx (by rw [sFor_of hw, z]; rfl)]
    simp
end DL

end
section
/-! MR0: what can be come to. -/
open PySem PySem.Spec L2
namespace DL
/-! ### what can be come to -/
def pass : List Belt → List Str → List Str
  | [], kn => kn
  | b :: bs, kn => pass bs (if b.name ∈ kn then kn ++ b.outs else kn)
def Closed (bs : List Belt) (A : Str → Prop) : Prop := ∀ b ∈ bs, A b.name → ∀ o ∈ b.outs, A o
def Ord (cs : List Str) : List Belt → Prop
  | [] => True
  | b :: bs => (∀ o ∈ b.outs, o ∈ names bs ++ cs) ∧ b.name ∉ names bs ∧ b.name ∉ cs ∧ Ord cs bs
theorem ord_of {cs : List Str} : ∀ {bs : List Belt}, WFb cs bs → (names bs).Nodup → (∀ c ∈ cs, c ∉ names bs) → Ord cs bs
  | [], _, _, _ => trivial
  | b :: bs, ⟨_, _, _, h4, _, _, _, _, h9⟩, hn, ha => by
    have hn' : b.name ∉ names bs ∧ (names bs).Nodup := List.nodup_cons.mp hn
    exact ⟨h4, hn'.1, fun z => ha _ z List.mem_cons_self, ord_of h9 hn'.2 fun c hc z => ha c hc (List.mem_cons_of_mem _ z)⟩
theorem pass_sub : ∀ (bs : List Belt) (kn : List Str) (x : Str), x ∈ kn → x ∈ pass bs kn
  | [], kn, x, h => h
  | b :: bs, kn, x, h => by
    refine pass_sub bs _ x ?_
    split
    · exact List.mem_append_left _ h
    · exact h
theorem pass_min {A : Str → Prop} : ∀ (bs : List Belt) (kn : List Str), Closed bs A → (∀ x ∈ kn, A x) → ∀ x ∈ pass bs kn, A x
  | [], kn, _, h => h
  | b :: bs, kn, hc, h => by
    refine pass_min bs _ (fun b' hb' => hc b' (List.mem_cons_of_mem _ hb')) ?_
    split
    · rename_i hn
      intro x hx
      rcases List.mem_append.mp hx with hx | hx
      · exact h x hx
      · exact hc b List.mem_cons_self (h _ hn) x hx
    · exact h
theorem pass_from {cs : List Str} : ∀ (bs : List Belt) (kn : List Str), Ord cs bs → ∀ x ∈ pass bs kn, x ∈ kn ∨ x ∈ names bs ++ cs
  | [], kn, _, x, h => .inl h
  | b :: bs, kn, ⟨h1, h2, h3, h4⟩, x, h => by
    have up : ∀ z, z ∈ names bs ++ cs → z ∈ names (b :: bs) ++ cs := fun z hz => by
      rcases List.mem_append.mp hz with hz | hz
      · exact List.mem_append_left _ (List.mem_cons_of_mem _ hz)
      · exact List.mem_append_right _ hz
    rcases pass_from bs _ h4 x h with hx | hx
    · split at hx
      · rcases List.mem_append.mp hx with hx | hx
        · exact .inl hx
        · exact .inr (up x (h1 x hx))
      · exact .inl hx
    · exact .inr (up x hx)
theorem pass_closed {cs : List Str} : ∀ (bs : List Belt) (kn : List Str), Ord cs bs → Closed bs (· ∈ pass bs kn)
  | [], kn, _ => fun b hb => by cases hb
  | b :: bs, kn, ⟨h1, h2, h3, h4⟩ => by
    intro b' hb' hn o ho
    rcases List.mem_cons.mp hb' with rfl | hb'
    · have nin : b'.name ∉ names bs ++ cs := fun z => (List.mem_append.mp z).elim h2 h3
      have hk : b'.name ∈ kn := by
        rcases pass_from bs _ h4 _ hn with z | z
        · split at z
          · rename_i q; exact q
          · exact z
        · exact absurd z nin
      show o ∈ pass bs (if b'.name ∈ kn then kn ++ b'.outs else kn)
      rw [if_pos hk]
      exact pass_sub bs _ o (List.mem_append_right _ ho)
    · exact pass_closed bs _ h4 b' hb' hn o ho
/-! ### reached -/
end DL

end
section
/-! MR: reached. -/
open PySem PySem.Spec L2
namespace DL
theorem reached_ok {bs : List Belt} {cs : List Str} (hk : HOk bs cs) {b : Belt} (hb : b ∈ bs) : d_reached [encH .frz bs cs, .str b.name] = some (.ret (.lst .own (((names bs).filter (fun n => decide (n ∈ pass bs b.outs)) ++ cs.filter fun c => decide (c ∈ pass bs b.outs)).map .str)) []) := by
  have hs := size_big
  obtain ⟨a1, a2, a3, a4, a5, a6⟩ := wf_outs hk.wf hb
  have hc5 := hk.cl
  have hb6 := hk.nl
  have hf := find_mem hk.nd hb
  have hb1 : oCall d_belt_of [encH .frz bs cs, .str b.name] = some (beltR b) := by
    refine oCall_nb (ls := []) (by simp only [remL_cons, remL_nil, encH_rem, rem_str]; rw [belt_of_ok, hf]) (.inl (by simp))
  have hx3 : ixD (beltR b) (.int 3) = some (.lst .own (b.outs.map .str)) := by simp [beltR]
  show fnR [false, false] (b_reached [some (encH .frz bs cs), some (.str b.name), none, none, none, none]) = _
  unfold b_reached
  rw [seq_nx (ρ' := [some (encH .frz bs cs), some (.str b.name), some (.lst .own (b.outs.map .str)), none, none, none]) (by simp [hb1, hx3])]
  have L : ∀ (xs : List Belt) (kn : List Str) (y : Option D), (∀ b ∈ xs, b.outs.length ≤ 10) → kn.length + xs.length * 10 ≤ 1000 → ∃ w, loop (bN 3) (sIf (lQ (qB (pB (oIn false) (pB ixD (dV 3) (dC (.int 0))) (dK 2)))) (sExpr (eL oExt 2 [(lP (pB ixD (dV 3) (dC (.int 3))))])) sNil) (xs.map encB) [some (encH .frz bs cs), some (.str b.name), some (.lst .own (kn.map .str)), y, none, none] = some (.nx [some (encH .frz bs cs), some (.str b.name), some (.lst .own ((pass xs kn).map .str)), w, none, none]) := by
    intro xs
    induction xs with
    | nil => intro kn y _ _; exact ⟨y, rfl⟩
    | cons c xs ih =>
      intro kn y ho hl
      rw [List.length_cons] at hl
      have h4 := ho c List.mem_cons_self
      by_cases hc : c.name ∈ kn
      · obtain ⟨w, e⟩ := ih (kn ++ c.outs) (some (encB c)) (fun x hx => ho x (List.mem_cons_of_mem _ hx)) (by rw [List.length_append]; omega)
        refine ⟨w, ?_⟩
        simp only [List.map_cons, loop_cons]
        show _ = some (Out.nx [_, _, some (.lst .own ((pass xs (if c.name ∈ kn then kn ++ c.outs else kn)).map .str)), _, _, _])
        rw [if_pos hc]
        simp [hc, oExt, show kn.length + c.outs.length ≤ sizeLine by omega]
        simpa using e
      · obtain ⟨w, e⟩ := ih kn (some (encB c)) (fun x hx => ho x (List.mem_cons_of_mem _ hx)) (by omega)
        refine ⟨w, ?_⟩
        simp only [List.map_cons, loop_cons]
        show _ = some (Out.nx [_, _, some (.lst .own ((pass xs (if c.name ∈ kn then kn ++ c.outs else kn)).map .str)), _, _, _])
        rw [if_neg hc]
        simp [hc]
        simpa using e
  obtain ⟨w, e⟩ := L bs b.outs none (fun c hc => (wf_outs hk.wf hc).2.2.2.2.2) (by omega)
  rw [seq_nx (ρ' := [some (encH .frz bs cs), some (.str b.name), some (.lst .own ((pass bs b.outs).map .str)), none, none, none]) (by rw [sFor_of (walk_belts (bs := bs) (by simp)), e]; rfl)]
  generalize pass bs b.outs = P at *
  have l1 : eLc (iAll (lP (pB ixD (dV 0) (dC (.int 0))))) (bN 3) (lQ (qB (pB (oIn false) (pB ixD (dV 3) (dC (.int 0))) (dK 2)))) (lP (pB ixD (dV 3) (dC (.int 0)))) [3] [some (encH .frz bs cs), some (.str b.name), some (.lst .own (P.map .str)), none, none, none] = some (.ok (.lst .own (((names bs).filter (fun n => decide (n ∈ P))).map .str)) [some (encH .frz bs cs), some (.str b.name), some (.lst .own (P.map .str)), none, none, none]) := by
    rw [eLc_pure (ρ0 := [some (encH .frz bs cs), some (.str b.name), some (.lst .own (P.map .str)), none, none, none]) (fun x => match x with | .tup (.str n :: _) => decide (n ∈ P) | _ => false) (fun x => match x with | .tup (.str n :: _) => .str n | x => x) (walk_belts (bs := bs) (by simp)) rfl rfl (fun x hx => by
      obtain ⟨c, hc, rfl⟩ := List.mem_map.mp hx
      exact ⟨_, rfl, by simp [encB], fun _ => ⟨by simp [encB], rfl⟩, rfl⟩) (by simp; omega)]
    unfold names
    rw [List.filter_map, List.filter_map, List.map_map, List.map_map]
    rfl
  rw [seq_nx (ρ' := [some (encH .frz bs cs), some (.str b.name), some (.lst .own (P.map .str)), none, some (.lst .frz (((names bs).filter (fun n => decide (n ∈ P))).map .str)), none]) (by rw [sF_eq, l1]; simp)]
  have l2 : ∀ y, eLc (iAll (lP (pB ixD (dV 0) (dC (.int 1))))) (bN 5) (lQ (qB (pB (oIn false) (dV 5) (dK 2)))) (lP (dV 5)) [5] [some (encH .frz bs cs), some (.str b.name), some (.lst .own (P.map .str)), none, y, none] = some (.ok (.lst .own ((cs.filter (fun n => decide (n ∈ P))).map .str)) [some (encH .frz bs cs), some (.str b.name), some (.lst .own (P.map .str)), none, y, none]) := fun y => by
    rw [eLc_pure (ρ0 := [some (encH .frz bs cs), some (.str b.name), some (.lst .own (P.map .str)), none, y, none]) (fun x => match x with | .str n => decide (n ∈ P) | _ => false) id (walk_strs (m := .frz) (xs := cs) (by simp) (.inl rfl)) rfl rfl (fun x hx => by
      obtain ⟨c, hc, rfl⟩ := List.mem_map.mp hx
      exact ⟨_, rfl, by simp, fun _ => ⟨by simp, rfl⟩, rfl⟩) (by simp; omega)]
    rw [List.filter_map, List.map_id]
    rfl
  have n1 : ((names bs).filter (fun n => decide (n ∈ P))).length ≤ 6 := Nat.le_trans (List.length_filter_le _ _) (by unfold names; simpa using hb6)
  have n2 : (cs.filter (fun n => decide (n ∈ P))).length ≤ 5 := Nat.le_trans (List.length_filter_le _ _) hc5
  simp [l2, show ((names bs).filter (fun n => decide (n ∈ P))).length + (cs.filter (fun n => decide (n ∈ P))).length ≤ sizeLine by omega]
end DL

end
section
/-! MF: how far. -/
open PySem PySem.Spec L2
namespace DL
abbrev Tab := List (Str × Option Int)
def lk (t : Tab) (n : Str) : Option (Option Int) := (t.find? fun p => decide (p.1 = n)).map (·.2)
def price (t : Tab) (c o : Str) : Option Int := if o = c then some 0 else (lk t o).join
def step (t : Tab) (c : Str) (best : Option Int) (o : Str) : Option Int := match price t c o with
  | none => best
  | some p => match best with | none => some p | some q => if p < q then some p else some q
def best (t : Tab) (c : Str) (os : List Str) : Option Int := os.foldl (step t c) none
def tabOf (c : Str) : List Belt → Tab
  | [] => []
  | b :: bs => tabOf c bs ++ [(b.name, (best (tabOf c bs) c b.outs).map (· + b.long))]
def optD : Option Int → D | none => .non | some i => .int i
def tabD (t : Tab) : List (Ky × D) := t.map fun p => (Ky.str p.1, optD p.2)
theorem lk_nil (n : Str) : lk [] n = none := rfl
theorem lk_cons (p : Str × Option Int) (t : Tab) (n : Str) : lk (p :: t) n = if p.1 = n then some p.2 else lk t n := by
  unfold lk
  by_cases h : p.1 = n
  · rw [List.find?_cons_of_pos (by simpa using h), if_pos h]; rfl
  · rw [List.find?_cons_of_neg (by simpa using h), if_neg h]
theorem lk_app (t u : Tab) (n : Str) : lk (t ++ u) n = (lk t n).or (lk u n) := by
  induction t with
  | nil => rfl
  | cons p t ih =>
    rw [List.cons_append, lk_cons, lk_cons, ih]
    split <;> rfl
theorem getK_tabD (t : Tab) (n : Str) : getK (tabD t) (.str n) = (lk t n).map optD := by
  unfold tabD getK lk
  induction t with
  | nil => rfl
  | cons p t ih =>
    rw [List.map_cons]
    by_cases h : p.1 = n
    · rw [List.find?_cons_of_pos (by simpa using h), List.find?_cons_of_pos (by simpa using h)]; rfl
    · rw [List.find?_cons_of_neg (by simpa using h), List.find?_cons_of_neg (by simpa using h)]
      exact ih
theorem putD_tabD {t : Tab} {n : Str} {v : Option Int} (h : lk t n = none) (hl : t.length ≤ 1000) : putD (tabD t) (.str n) (optD v) = some (tabD (t ++ [(n, v)])) := by
  have hs := size_big
  unfold putD hasK
  rw [getK_tabD, h, if_pos (by unfold tabD; rw [List.length_map]; omega)]
  unfold tabD
  simp
theorem remK_tabD (F : Mk → Mk) (t : Tab) : D.remK F (tabD t) = tabD t := by
  unfold tabD
  induction t with
  | nil => rfl
  | cons p t ih => rw [List.map_cons]; show (_, D.rem F (optD p.2)) :: D.remK F _ = _; rw [ih]; cases p.2 <;> rfl
theorem chkK_tabD (P : Mk → Bool) (t : Tab) : D.chkK P (tabD t) = true := by
  unfold tabD
  induction t with
  | nil => rfl
  | cons p t ih => rw [List.map_cons]; show (D.chk P (optD p.2) && D.chkK P _) = true; rw [ih]; cases p.2 <;> rfl
@[simp] theorem chk_dicF {P : Mk → Bool} {m : Mk} {kd : Kn} {ks : List (Ky × D)} : D.chk P (.dic m kd ks) = (P m && D.chkK P ks) := rfl
@[simp] theorem rem_dicF {F : Mk → Mk} {m : Mk} {kd : Kn} {ks : List (Ky × D)} : D.rem F (.dic m kd ks) = .dic (F m) kd (D.remK F ks) := rfl
@[simp] theorem chk_optD {P : Mk → Bool} {v : Option Int} : D.chk P (optD v) = true := by cases v <;> rfl
@[simp] theorem rem_optD {F : Mk → Mk} {v : Option Int} : D.rem F (optD v) = optD v := by cases v <;> rfl
theorem get1_tab {m : Mk} (hm : m ≠ .ro) (t : Tab) (n : Str) : oGet1 (.dic m .k (tabD t)) (.str n) = some (optD (lk t n).join) := by
  unfold oGet1
  dsimp only
  rw [if_neg hm]
  show some ((getK (tabD t) (.str n)).getD .non) = _
  rw [getK_tabD]
  cases lk t n with
  | none => rfl
  | some v => cases v <;> rfl
theorem getd_tab {m : Mk} (hm : m ≠ .ro) {t : Tab} {n : Str} {v : Option Int} (h : lk t n = some v) : oGetD (.dic m .k (tabD t)) (.str n) = some (optD v) := by
  unfold oGetD
  dsimp only
  rw [if_neg hm]
  show getK (tabD t) (.str n) = _
  rw [getK_tabD, h]; rfl
/-! ### what a table says -/
theorem lk_names (c : Str) : ∀ (bs : List Belt) (n : Str), (lk (tabOf c bs) n).isSome = decide (n ∈ names bs)
  | [], n => rfl
  | b :: bs, n => by
    show (lk (tabOf c bs ++ [_]) n).isSome = _
    rw [lk_app, Option.isSome_or, lk_names c bs n, lk_cons, lk_nil]
    by_cases h1 : n ∈ names bs
    · have : n ∈ names (b :: bs) := List.mem_cons_of_mem _ h1
      simp [h1, this]
    · by_cases h2 : b.name = n
      · have : n ∈ names (b :: bs) := by rw [← h2]; exact List.mem_cons_self
        simp [h1, h2, this]
      · have : n ∉ names (b :: bs) := fun z => by
          rcases List.mem_cons.mp z with z | z
          · exact h2 z.symm
          · exact h1 z
        simp [h1, h2, this]
theorem lk_none {c : Str} {bs : List Belt} {n : Str} (h : n ∉ names bs) : lk (tabOf c bs) n = none := by
  have := lk_names c bs n
  cases q : lk (tabOf c bs) n with
  | none => rfl
  | some v => rw [q] at this; simp [h] at this
theorem tab_len (c : Str) : ∀ bs : List Belt, (tabOf c bs).length = bs.length
  | [] => rfl
  | b :: bs => by show (tabOf c bs ++ [_]).length = _; rw [List.length_append, tab_len c bs]; rfl
theorem step_cases (t : Tab) (c : Str) (q : Option Int) (o : Str) : (step t c q o = q) ∨ ∃ p, price t c o = some p ∧ step t c q o = some p := by
  unfold step
  cases h : price t c o with
  | none => exact .inl rfl
  | some p =>
    cases q with
    | none => exact .inr ⟨p, rfl, rfl⟩
    | some q =>
      dsimp only
      split
      · exact .inr ⟨p, rfl, rfl⟩
      · exact .inl rfl
theorem foldl_some (t : Tab) (c : Str) : ∀ (os : List Str) (q : Option Int) (v : Int), os.foldl (step t c) q = some v → q = some v ∨ ∃ o ∈ os, price t c o = some v
  | [], q, v, h => .inl h
  | o :: os, q, v, h => by
    rcases foldl_some t c os _ v h with h1 | ⟨o', ho, h1⟩
    · rcases step_cases t c q o with e | ⟨p, e1, e2⟩
      · rw [e] at h1; exact .inl h1
      · rw [e2] at h1; cases h1; exact .inr ⟨o, List.mem_cons_self, e1⟩
    · exact .inr ⟨o', List.mem_cons_of_mem _ ho, h1⟩
theorem best_some {t : Tab} {c : Str} {os : List Str} {v : Int} (h : best t c os = some v) : ∃ o ∈ os, price t c o = some v := by
  rcases foldl_some t c os none v h with h | h
  · cases h
  · exact h
theorem foldl_isSome (t : Tab) (c : Str) : ∀ (os : List Str) (q : Option Int), q.isSome = true → (os.foldl (step t c) q).isSome = true
  | [], q, h => h
  | o :: os, q, h => foldl_isSome t c os _ (by
    rcases step_cases t c q o with e | ⟨p, e1, e2⟩
    · rw [e]; exact h
    · rw [e2]; rfl)
theorem foldl_none (t : Tab) (c : Str) : ∀ (os : List Str) (q : Option Int), os.foldl (step t c) q = none → ∀ o ∈ os, price t c o = none
  | [], q, _, o, h => by cases h
  | o :: os, q, h, o', ho => by
    rcases List.mem_cons.mp ho with rfl | ho
    · cases hp : price t c o' with
      | none => rfl
      | some p =>
        exfalso
        have : (step t c q o').isSome = true := by
          unfold step
          rw [hp]
          cases q with
          | none => rfl
          | some q => dsimp only; split <;> rfl
        have := foldl_isSome t c os _ this
        rw [show os.foldl (step t c) (step t c q o') = none from h] at this
        cases this
    · exact foldl_none t c os _ h o' ho
theorem best_none {t : Tab} {c : Str} {os : List Str} (h : best t c os = none) : ∀ o ∈ os, price t c o = none := foldl_none t c os none h
theorem best_congr {t u : Tab} {c : Str} {os : List Str} (h : ∀ o ∈ os, price t c o = price u c o) : best t c os = best u c os := by
  unfold best
  have : ∀ (os : List Str) (q : Option Int), (∀ o ∈ os, price t c o = price u c o) → os.foldl (step t c) q = os.foldl (step u c) q := by
    intro os
    induction os with
    | nil => intro q _; rfl
    | cons o os ih =>
      intro q h
      have : step t c q o = step u c q o := by unfold step; rw [h o List.mem_cons_self]
      rw [List.foldl_cons, List.foldl_cons, this]
      exact ih _ fun z hz => h z (List.mem_cons_of_mem _ hz)
  exact this os none h
/-- the first equation of the table: a belt's own row, by the whole table -/
theorem tab_row {cs : List Str} {c : Str} : ∀ {bs : List Belt}, Ord cs bs → ∀ b ∈ bs, lk (tabOf c bs) b.name = some ((best (tabOf c bs) c b.outs).map (· + b.long)) ∧ ∀ n, n ∉ names bs → lk (tabOf c bs) n = none
  | [], _, b, h => by cases h
  | a :: bs, ⟨h1, h2, h3, h4⟩, b, hb => by
    refine ⟨?_, fun n hn => lk_none hn⟩
    have pr : ∀ o, o ≠ a.name → price (tabOf c (a :: bs)) c o = price (tabOf c bs) c o := fun o ho => by
      unfold price
      show (if o = c then some 0 else (lk (tabOf c bs ++ [_]) o).join) = _
      rw [lk_app, lk_cons, lk_nil, if_neg (show ¬ a.name = o from fun e => ho e.symm), Option.or_none]
    rcases List.mem_cons.mp hb with rfl | hb
    · have e1 : best (tabOf c (b :: bs)) c b.outs = best (tabOf c bs) c b.outs := best_congr fun o ho => pr o fun e => by
        have := h1 o ho
        rw [e] at this
        exact (List.mem_append.mp this).elim h2 h3
      rw [e1]
      show lk (tabOf c bs ++ [_]) b.name = _
      rw [lk_app, lk_none h2, lk_cons, if_pos rfl]; rfl
    · have ih := (tab_row (c := c) h4 b hb).1
      have hbn : b.name ≠ a.name := fun e => h2 (by rw [← e]; exact List.mem_map.mpr ⟨b, hb, rfl⟩)
      have e1 : best (tabOf c (a :: bs)) c b.outs = best (tabOf c bs) c b.outs := best_congr fun o ho => pr o fun e => by
        have : ∀ {xs : List Belt}, Ord cs xs → b ∈ xs → ∀ o ∈ b.outs, o ∈ names xs ++ cs := by
          intro xs
          induction xs with
          | nil => intro _ h; cases h
          | cons x xs ihx =>
            intro ⟨g1, _, _, g4⟩ hx o ho
            rcases List.mem_cons.mp hx with rfl | hx
            · rcases List.mem_append.mp (g1 o ho) with z | z
              · exact List.mem_append_left _ (List.mem_cons_of_mem _ z)
              · exact List.mem_append_right _ z
            · rcases List.mem_append.mp (ihx g4 hx o ho) with z | z
              · exact List.mem_append_left _ (List.mem_cons_of_mem _ z)
              · exact List.mem_append_right _ z
        have := this h4 hb o ho
        rw [e] at this
        exact (List.mem_append.mp this).elim h2 h3
      rw [e1, ← ih]
      show lk (tabOf c bs ++ [_]) b.name = _
      rw [lk_app, lk_cons, if_neg (fun e => hbn e.symm), lk_nil, Option.or_none]
/-- rows are at least 1, at most 100 a belt -/
theorem tab_pos {c : Str} : ∀ {bs : List Belt}, (∀ b ∈ bs, 1 ≤ b.long ∧ b.long ≤ 100) → ∀ n v, lk (tabOf c bs) n = some (some v) → 1 ≤ v ∧ v ≤ 100 * bs.length
  | [], _, n, v, h => by cases h
  | b :: bs, hb, n, v, h => by
    have ih := tab_pos (c := c) fun x hx => hb x (List.mem_cons_of_mem _ hx)
    have h : lk (tabOf c bs ++ [_]) n = some (some v) := h
    rw [lk_app] at h
    cases q : lk (tabOf c bs) n with
    | some w =>
      rw [q] at h
      have h : some w = some (some v) := h
      cases h
      have := ih n v q
      rw [List.length_cons]; omega
    | none =>
      rw [q, Option.none_or, lk_cons, lk_nil] at h
      split at h
      · have h : (best (tabOf c bs) c b.outs).map (· + b.long) = some v := Option.some.inj h
        obtain ⟨p, hp, e⟩ := Option.map_eq_some_iff.mp h
        obtain ⟨o, _, hpo⟩ := best_some hp
        have hb1 := hb b List.mem_cons_self
        unfold price at hpo
        split at hpo
        · cases hpo; rw [List.length_cons]; omega
        · cases q2 : lk (tabOf c bs) o with
          | none => rw [q2] at hpo; cases hpo
          | some w =>
            rw [q2] at hpo
            have hpo : w = some p := hpo
            subst hpo
            have := ih o p q2
            rw [List.length_cons]; omega
      · cases h
end DL

end
section
/-! MG: begin_fars, far, arm. -/
open PySem PySem.Spec L2
namespace DL
theorem loop_app {b : BF} {g : SF} : ∀ (xs ys : List D) (ρ : Env), loop b g (xs ++ ys) ρ = match loop b g xs ρ with | some (.nx ρ') => loop b g ys ρ' | r => r
  | [], ys, ρ => rfl
  | x :: xs, ys, ρ => by
    rw [List.cons_append, loop_cons, loop_cons]
    cases b x ρ with
    | none => rfl
    | some ρ1 =>
      dsimp only
      cases g ρ1 with
      | none => rfl
      | some o => cases o with
        | nx ρ2 => exact loop_app xs ys ρ2
        | rt d ρ2 => rfl
        | ex n fs ρ2 => rfl
theorem walk_rev {f : EF} {ρ : Env} {bs : List Belt} (h : f ρ = some (.ok (.lst .frz (bs.map encB)) ρ)) : iRev f ρ = some (.ok (.lst .frz (bs.map encB), bs.reverse.map encB) ρ) := by
  unfold iRev
  rw [h]
  simp [itemsD]
@[simp] theorem isD_opt {v : Option Int} : isD (optD v) .non = some v.isNone := by cases v <;> rfl
theorem price_pos {c : Str} {bs : List Belt} (hb : ∀ b ∈ bs, 1 ≤ b.long ∧ b.long ≤ 100) {o : Str} {v : Int} (h : price (tabOf c bs) c o = some v) : 0 ≤ v ∧ v ≤ 100 * bs.length := by
  unfold price at h
  split at h
  · cases h; omega
  · cases q : lk (tabOf c bs) o with
    | none => rw [q] at h; cases h
    | some w =>
      rw [q] at h
      have h : w = some v := h
      subst h
      have := tab_pos hb o v q
      omega
def V (c : Str) (bs : List Belt) (n : Str) : Option Int := (lk (tabOf c bs) n).join
end DL

end
section
/-! MV: the row of a belt. -/
open PySem PySem.Spec L2
namespace DL
theorem V_row {bs : List Belt} {cs : List Str} (hk : HOk bs cs) (c : Str) {b : Belt} (hb : b ∈ bs) : V c bs b.name = (best (tabOf c bs) c b.outs).map (· + b.long) := by
  unfold V
  rw [(tab_row (c := c) (ord_of hk.wf hk.nd hk.ap) b hb).1]; rfl
theorem V_names {c : Str} {bs : List Belt} {n : Str} {v : Int} (h : V c bs n = some v) : n ∈ names bs := by
  unfold V at h
  have := lk_names c bs n
  cases q : lk (tabOf c bs) n with
  | none => rw [q] at h; cases h
  | some w => rw [q] at this; simpa using this.symm
theorem V_le {bs : List Belt} {cs : List Str} (hk : HOk bs cs) {c n : Str} {v : Int} (h : V c bs n = some v) : 1 ≤ v ∧ v ≤ 600 := by
  have hl : lk (tabOf c bs) n = some (some v) := by
    unfold V at h
    cases q : lk (tabOf c bs) n with
    | none => rw [q] at h; cases h
    | some w => rw [q] at h; have h : w = some v := h; rw [h]
  have := tab_pos (fun b hb => ⟨(wf_outs hk.wf hb).1, (wf_outs hk.wf hb).2.1⟩) n v hl
  have := hk.nl
  omega
theorem price_V {c : Str} {bs : List Belt} {o : Str} {p : Int} (h : price (tabOf c bs) c o = some p) : (o = c ∧ p = 0) ∨ (o ≠ c ∧ V c bs o = some p) := by
  unfold price at h
  split at h
  · rename_i e; cases h; exact .inl ⟨e, rfl⟩
  · rename_i e; exact .inr ⟨e, h⟩
theorem fold_le (t : Tab) (c : Str) : ∀ (os : List Str) (q : Option Int), (∀ w, q = some w → ∃ v, os.foldl (DL.step t c) q = some v ∧ v ≤ w) ∧ ∀ o ∈ os, ∀ p, price t c o = some p → ∃ v, os.foldl (DL.step t c) q = some v ∧ v ≤ p
  | [], q => ⟨fun w h => ⟨w, h, Int.le_refl _⟩, fun o h => by cases h⟩
  | x :: os, q => by
    obtain ⟨h1, h2⟩ := fold_le t c os (DL.step t c q x)
    rw [List.foldl_cons]
    refine ⟨fun w hw => ?_, fun o ho p hp => ?_⟩
    · subst hw
      have : ∃ w', DL.step t c (some w) x = some w' ∧ w' ≤ w := by
        unfold DL.step
        cases price t c x with
        | none => exact ⟨w, rfl, Int.le_refl _⟩
        | some p =>
          dsimp only
          split
          · exact ⟨p, rfl, by omega⟩
          · exact ⟨w, rfl, Int.le_refl _⟩
      obtain ⟨w', e, hl⟩ := this
      obtain ⟨v, e2, hl2⟩ := h1 w' e
      exact ⟨v, e2, by omega⟩
    · rcases List.mem_cons.mp ho with rfl | ho
      · have : ∃ w', DL.step t c q o = some w' ∧ w' ≤ p := by
          unfold DL.step
          rw [hp]
          cases q with
          | none => exact ⟨p, rfl, Int.le_refl _⟩
          | some w =>
            dsimp only
            split
            · exact ⟨p, rfl, Int.le_refl _⟩
            · exact ⟨w, rfl, by omega⟩
        obtain ⟨w', e, hl⟩ := this
        obtain ⟨v, e2, hl2⟩ := h1 w' e
        exact ⟨v, e2, by omega⟩
      · exact h2 o ho p hp
theorem best_le {t : Tab} {c : Str} {os : List Str} {o : Str} {p : Int} (ho : o ∈ os) (hp : price t c o = some p) : ∃ v, best t c os = some v ∧ v ≤ p := (fold_le t c os none).2 o ho p hp
end DL

end
section
/-! MT: right_house of a drawn house. -/
open PySem PySem.Spec L2
namespace DL
/-- what is far is come to -/
theorem V_reach {bs : List Belt} {cs : List Str} (hk : HOk bs cs) {c : Str} {A : Str → Prop} (hA : Closed bs A) : ∀ (m : Nat) (n : Str) (v : Int), v.toNat ≤ m → V c bs n = some v → A n → A c
  | 0, n, v, hm, hv, _ => by have := V_le hk hv; omega
  | m + 1, n, v, hm, hv, hn => by
    obtain ⟨b, hb, rfl⟩ := List.mem_map.mp (V_names hv)
    have h1 := V_le hk hv
    rw [V_row hk c hb] at hv
    obtain ⟨p, hp, hpv⟩ := Option.map_eq_some_iff.mp hv
    obtain ⟨o, ho, hpo⟩ := best_some hp
    have hl := (wf_outs hk.wf hb).1
    have hAo := hA b hb hn o ho
    rcases price_V hpo with ⟨rfl, _⟩ | ⟨_, hV⟩
    · exact hAo
    · have := V_le hk hV
      exact V_reach hk hA m o p (by omega) hV hAo
theorem reach_V {bs : List Belt} {cs : List Str} (hk : HOk bs cs) {c : Str} {b : Belt} (hb : b ∈ bs) (h : c ∈ pass bs b.outs) : V c bs b.name ≠ none := by
  intro hV
  have out : ∀ b' ∈ bs, V c bs b'.name = none → ∀ o ∈ b'.outs, o ≠ c ∧ V c bs o = none := by
    intro b' hb' hv o ho
    rw [V_row hk c hb'] at hv
    have hbest : best (tabOf c bs) c b'.outs = none := by
      cases q : best (tabOf c bs) c b'.outs with
      | none => rfl
      | some v => rw [q] at hv; cases hv
    have := best_none hbest o ho
    unfold price at this
    split at this
    · cases this
    · rename_i e; exact ⟨e, this⟩
  have := pass_min (A := fun n => n ≠ c ∧ V c bs n = none) bs b.outs (fun b' hb' hn o ho => out b' hb' hn.2 o ho) (fun o ho => out b hb hV o ho) c h
  exact this.1 rfl
theorem V_pass {bs : List Belt} {cs : List Str} (hk : HOk bs cs) {c : Str} {b : Belt} (hb : b ∈ bs) (h : V c bs b.name ≠ none) : c ∈ pass bs b.outs := by
  have ho := ord_of hk.wf hk.nd hk.ap
  rw [V_row hk c hb] at h
  cases q : best (tabOf c bs) c b.outs with
  | none => rw [q] at h; exact absurd rfl h
  | some v =>
    obtain ⟨o, ho1, ho2⟩ := best_some q
    have hoP := pass_sub bs b.outs o ho1
    rcases price_V ho2 with ⟨rfl, _⟩ | ⟨_, hV⟩
    · exact hoP
    · exact V_reach (A := (· ∈ pass bs b.outs)) hk (pass_closed bs b.outs ho) _ o v (Nat.le_refl _) hV hoP
theorem hand_tab {cs : List Str} {c0 : Str} (h0 : cs[0]? = some c0) : ∀ {bs : List Belt}, WFb cs bs → Ord cs bs → ∀ b ∈ bs, ∃ v, lk (tabOf c0 bs) b.name = some (some v)
  | [], _, _, b, h => by cases h
  | a :: bs, ⟨_, _, _, _, _, _, _, w8, w9⟩, ⟨o1, o2, o3, o4⟩, b, hb => by
    have ih := hand_tab h0 w9 o4
    show ∃ v, lk (tabOf c0 bs ++ [_]) b.name = some (some v)
    rcases List.mem_cons.mp hb with rfl | hb
    · rw [lk_app, lk_none o2, lk_cons, if_pos rfl, Option.none_or]
      cases q : best (tabOf c0 bs) c0 b.outs with
      | some p => exact ⟨p + b.long, rfl⟩
      | none =>
        exfalso
        have hn := best_none q
        rcases w8 with w8 | ⟨c1, e1, w8⟩ | ⟨o, ho, hon⟩
        · rw [h0] at w8; cases w8
        · rw [h0] at e1; cases e1
          have := hn c0 w8
          unfold price at this
          rw [if_pos rfl] at this; cases this
        · obtain ⟨b', hb', rfl⟩ := List.mem_map.mp hon
          obtain ⟨v, hv⟩ := ih b' hb'
          have := hn _ ho
          unfold price at this
          split at this
          · cases this
          · rw [hv] at this; cases this
    · obtain ⟨v, hv⟩ := ih b hb
      exact ⟨v, by rw [lk_app, hv]; rfl⟩
def letters : List Nat := (Str.ofString "abcdefghijklmnopqrstuvwxyz").cps.toList
def due (z : Str) : Bool := decide (0 < z.length) && decide (z.length < 9) && z.cps.toList.all fun c => decide (c ∈ letters)
@[simp] theorem one_len {c : Nat} : (⟨#[c]⟩ : Str).length = 1 := rfl
theorem in_letters {c : Nat} {n : Bool} : oIn n (.str ⟨#[c]⟩) (.str (Str.ofString "abcdefghijklmnopqrstuvwxyz")) = some (.bl (if n then !decide (c ∈ letters) else decide (c ∈ letters))) := by
  simp [inD, letters]
theorem isname_str (z : Str) (hz : z.length ≤ 100) : d_is_name [.str z] = some (.ret (.bl (due z)) []) := by
  have hs := size_big
  have hl : z.cps.toList.length = z.length := rfl
  by_cases h0 : z = Str.ofString ""
  · have : z.length = 0 := by rw [h0]; rfl
    simp [d_is_name, b_is_name, h0, pIsi, isiB, tyD, due, show (Str.ofString "").length = 0 from rfl]
  · have hp : 0 < z.length := by
      rcases Nat.eq_zero_or_pos z.length with h | h
      · exact absurd (by
          obtain ⟨a⟩ := z
          have ha : a = #[] := Array.eq_empty_of_size_eq_zero h
          rw [ha]; rfl) h0
      · exact h
    by_cases h8 : 8 < z.length
    · simp [d_is_name, b_is_name, h0, pIsi, isiB, tyD, due, show z.length ≤ sizeLine by omega, show (8 : Int) < (z.length : Int) by omega, show ¬ z.length < 9 by omega]
    · have key : ∀ (xs : List Nat) (y : Option D), (if xs.all (fun c => decide (c ∈ letters)) = true then ∃ y', loop (bN 1) (sIf (lQ (qB (pB (oIn true) (dV 1) (dC (.str (Str.ofString "abcdefghijklmnopqrstuvwxyz")))))) (sRet (lP (dC (.bl false)))) sNil) (xs.map fun c => D.str ⟨#[c]⟩) [some (.str z), y] = some (.nx [some (.str z), y'])
          else ∃ y', loop (bN 1) (sIf (lQ (qB (pB (oIn true) (dV 1) (dC (.str (Str.ofString "abcdefghijklmnopqrstuvwxyz")))))) (sRet (lP (dC (.bl false)))) sNil) (xs.map fun c => D.str ⟨#[c]⟩) [some (.str z), y] = some (.rt (.bl false) [some (.str z), y'])) := by
        intro xs
        induction xs with
        | nil => intro y; exact ⟨y, rfl⟩
        | cons c xs ih =>
          intro y
          by_cases hc : c ∈ letters
          · have := ih (some (.str ⟨#[c]⟩))
            simpa [hc, -oIn_eq, in_letters] using this
          · simp [hc, -oIn_eq, in_letters]
      have hk := key z.cps.toList none
      have hw : iAll (lP (dV 0)) [some (.str z), none] = some (.ok (.str z, strD z) [some (.str z), none]) := iAll_str rfl
      by_cases ha : z.cps.toList.all (fun c => decide (c ∈ letters)) = true
      · rw [if_pos ha] at hk
        obtain ⟨y', hk⟩ := hk
        show fnR [false] (b_is_name [some (.str z), none]) = _
        unfold b_is_name
        rw [seq_nx (ρ' := [some (.str z), none]) (by simp [h0, pIsi, isiB, tyD, show z.length ≤ sizeLine by omega, show ¬ (8 : Int) < (z.length : Int) by omega])]
        rw [seq_nx (ρ' := [some (.str z), none]) (by rw [sFor_of hw]; unfold strD; rw [hk]; rfl)]
        simp [due, ha, hp, show z.length < 9 by omega]
      · rw [if_neg ha] at hk
        obtain ⟨y', hk⟩ := hk
        show fnR [false] (b_is_name [some (.str z), none]) = _
        unfold b_is_name
        rw [seq_nx (ρ' := [some (.str z), none]) (by simp [h0, pIsi, isiB, tyD, show z.length ≤ sizeLine by omega, show ¬ (8 : Int) < (z.length : Int) by omega])]
        rw [seq_rt (d := .bl false) (ρ' := [some (.str z), y']) (by rw [sFor_of hw]; unfold strD; rw [hk]; rfl)]
        simp [due, ha]

theorem letters_in {c : Nat} (h : 97 ≤ c) (h2 : c ≤ 122) : c ∈ letters := by
  have e : letters = (List.range 26).map (· + 97) := by decide +kernel
  rw [e]
  exact List.mem_map.mpr ⟨c - 97, List.mem_range.mpr (by omega), by omega⟩
theorem due_of {s : Str} (h : s.length ≤ 8) (h2 : s.length ≠ 0 ∧ ∀ c ∈ s.cps.toList, 97 ≤ c ∧ c ≤ 122) : due s = true := by
  unfold due
  rw [decide_eq_true (show 0 < s.length by omega), decide_eq_true (show s.length < 9 by omega)]
  simp only [Bool.true_and]
  exact List.all_eq_true.mpr fun c hc => decide_eq_true (letters_in (h2.2 c hc).1 (h2.2 c hc).2)
theorem name_call {bs : List Belt} {cs : List Str} (hk : HOk bs cs) {s : Str} (hs : s ∈ names bs ++ cs) : oCall d_is_name [.str s] = some (.bl true) := oCall_nb (ls := []) (by
  have h1 := (hk.ok s hs).2
  simp only [remL_cons, remL_nil, rem_str]
  rw [isname_str s (by omega), due_of h1 (hk.lt s hs)]) (.inr rfl)
theorem ask_names_ok {bs : List Belt} {cs : List Str} (hk : HOk bs cs) : d_ask_names [encH .frz bs cs] = some (.ret .non []) := by
  have hs := size_big
  have hc5 := hk.cl
  have hb6 := hk.nl
  have L1 : ∀ (xs tk : List Str) (y2 : Option D), (∀ x ∈ xs, x ∈ names bs ++ cs) → (tk ++ xs).Nodup → tk.length + xs.length ≤ 1000 → ∃ w2, loop (bN 2) (sSeq (sIf (lQ (qOr (qNot (qB (pN (oCall d_is_name) [(dV 2)]))) (qB (pB (oIn false) (dV 2) (dK 1))))) sStuck sNil)
    (sExpr (eL oApp 1 [(lP (dV 2))]))) (xs.map .str) [some (encH .frz bs cs), some (.lst .own (tk.map .str)), y2, none] = some (.nx [some (encH .frz bs cs), some (.lst .own ((tk ++ xs).map .str)), w2, none]) := by
    intro xs
    induction xs with
    | nil => intro tk y2 _ _ _; exact ⟨y2, by simp⟩
    | cons x xs ih =>
      intro tk y2 hx hn hl
      rw [List.length_cons] at hl
      have hn2 : ((tk ++ [x]) ++ xs).Nodup := by rw [List.append_assoc]; exact hn
      obtain ⟨w2, e⟩ := ih (tk ++ [x]) (some (.str x)) (fun z hz => hx z (List.mem_cons_of_mem _ hz)) hn2 (by simp; omega)
      have hxt : x ∉ tk := fun z => (List.nodup_append.mp hn).2.2 x z x List.mem_cons_self rfl
      refine ⟨w2, ?_⟩
      rw [List.map_cons, loop_cons]
      simp [name_call hk (hx x List.mem_cons_self), hxt, show tk.length < sizeLine by omega]
      simpa using e
  have L2 : ∀ (xs : List Belt) (tk : List Str) (y3 : Option D), (∀ x ∈ xs, x ∈ bs) → (tk ++ names xs).Nodup → tk.length + xs.length ≤ 1000 → ∃ w1 w3, loop (bN 3) (sSeq (sIf (lQ (qOr (qNot (qB (pN (oCall d_is_name) [(pB ixD (dV 3) (dC (.int 0)))]))) (qB (pB (oIn false) (pB ixD (dV 3) (dC (.int 0))) (dK 1))))) sStuck sNil)
    (sSeq (sIf (lQ (qB (pB oLt (pB ixD (dV 3) (dC (.int 1))) (pB oAdd (dC (.int 1)) (pN oInt [(pB ixD (dV 3) (dC (.int 2)))]))))) sStuck sNil)
    (sExpr (eL oApp 1 [(lP (pB ixD (dV 3) (dC (.int 0))))])))) (xs.map encB) [some (encH .frz bs cs), some (.lst .own (tk.map .str)), none, y3] = some (.nx [some (encH .frz bs cs), w1, none, w3]) := by
    intro xs
    induction xs with
    | nil => intro tk y3 _ _ _; exact ⟨_, _, rfl⟩
    | cons x xs ih =>
      intro tk y3 hx hn hl
      rw [List.length_cons] at hl
      have hn2 : ((tk ++ [x.name]) ++ names xs).Nodup := by rw [List.append_assoc]; exact hn
      obtain ⟨w1, w3, e⟩ := ih (tk ++ [x.name]) (some (encB x)) (fun z hz => hx z (List.mem_cons_of_mem _ hz)) hn2 (by simp; omega)
      have hxt : x.name ∉ tk := fun z => (List.nodup_append.mp hn).2.2 x.name z x.name (show x.name ∈ names (x :: xs) from List.mem_cons_self) rfl
      have hxb := hx x List.mem_cons_self
      have hw := wf_outs hk.wf hxb
      have hlong : ¬ x.long < 1 + (if x.ring = true then 1 else 0) := by
        have h1 := hw.1
        have h2 := hw.2.2.1
        split
        · rename_i q; have := h2 q; omega
        · omega
      refine ⟨w1, w3, ?_⟩
      rw [List.map_cons, loop_cons]
      simp [name_call hk (List.mem_append_left _ (List.mem_map.mpr ⟨x, hxb, rfl⟩)), hxt, hlong, show tk.length < sizeLine by omega]
      simpa using e
  obtain ⟨w2, e1⟩ := L1 cs [] none (fun x hx => List.mem_append_right _ hx) (by simpa using hk.cn) (by simp; omega)
  have hnd : (cs ++ names bs).Nodup := List.nodup_append.mpr ⟨hk.cn, hk.nd, fun a ha b hb e => hk.ap a ha (by rw [e]; exact hb)⟩
  obtain ⟨w1, w3, e2⟩ := L2 bs cs none (fun x hx => hx) hnd (by omega)
  show fnR [false] (b_ask_names [some (encH .frz bs cs), none, none, none]) = _
  unfold b_ask_names
  rw [seq_nx (ρ' := [some (encH .frz bs cs), some (.lst .own (([] : List Str).map .str)), none, none]) (by simp)]
  rw [seq_nx (ρ' := [some (encH .frz bs cs), some (.lst .own (cs.map .str)), none, none]) (by rw [sFor_of (walk_strs (m := .frz) (xs := cs) (by simp) (.inl rfl)), e1]; rfl)]
  have hne : cs.length ≠ 0 := by have := hk.ne; intro z; exact this (List.eq_nil_of_length_eq_zero z)
  rw [seq_nx (ρ' := [some (encH .frz bs cs), some (.lst .own (cs.map .str)), none, none]) (by simp [hk.ne])]
  rw [sFor_of (walk_belts (bs := bs) (by simp)), e2]
  simp
theorem wf_at {cs : List Str} : ∀ {bs : List Belt} {k : Nat} {b : Belt}, WFb cs bs → bs[k]? = some b → (∀ o ∈ b.outs, o ∈ names (bs.drop (k + 1)) ++ cs) ∧ b.outs.Nodup ∧ b.outs ≠ []
  | [], k, b, _, h => by simp at h
  | a :: bs, 0, b, ⟨_, _, _, h4, h5, _, h7, _, _⟩, h => by
    have h : a = b := by simpa using h
    subst h
    exact ⟨by simpa using h4, h5, h7⟩
  | a :: bs, k + 1, b, ⟨_, _, _, _, _, _, _, _, h9⟩, h => by
    have := wf_at (k := k) h9 (by simpa using h)
    simpa using this
theorem ask_outs_ok {bs : List Belt} {cs : List Str} (hk : HOk bs cs) {k : Nat} (hkl : k < bs.length) : d_ask_outs [encH .frz bs cs, .int (k : Int)] = some (.ret .non []) := by
  have hs := size_big
  have hc5 := hk.cl
  have hb6 := hk.nl
  have hbk : bs[k]? = some bs[k] := List.getElem?_eq_getElem hkl
  obtain ⟨w1, w2, w3⟩ := wf_at hk.wf hbk
  have hb4 := (wf_outs hk.wf (List.getElem_mem hkl)).2.2.2.2.2
  generalize bs[k] = b at *
  have hix : atI (bs.map encB) (k : Int) = some (encB b) := by rw [atI_map, atI_get hbk]; rfl
  have hcut : cutL (bs.map encB) (some ((k : Int) + 1)) none = (bs.drop (k + 1)).map encB := by
    rw [show (k : Int) + 1 = ((k + 1 : Nat) : Int) by omega, cut_from _ _ (by rw [List.length_map]; exact hkl), List.map_drop]
  show fnR [false, false] (b_ask_outs [some (encH .frz bs cs), some (.int k), none, none, none, none]) = _
  unfold b_ask_outs
  have hw : iAll (lP (dSl (pB ixD (dV 0) (dC (.int 0))) (oS (pB oAdd (dV 1) (dC (.int 1)))) oN)) [some (encH .frz bs cs), some (.int k), none, none, none, none] = some (.ok (.lst .frz ((bs.drop (k + 1)).map encB), (bs.drop (k + 1)).map encB) [some (encH .frz bs cs), some (.int k), none, none, none, none]) := by
    have := iAll_lst (f := lP (dSl (pB ixD (dV 0) (dC (.int 0))) (oS (pB oAdd (dV 1) (dC (.int 1)))) oN)) (ρ := [some (encH .frz bs cs), some (.int k), none, none, none, none]) (ρ' := [some (encH .frz bs cs), some (.int k), none, none, none, none]) (m := .own) (ds := (bs.drop (k + 1)).map encB) (by simp [dSl, oS, oN, cutD, hcut]) (by simp [-List.map_drop])
    rw [this, encBs_rem]
    simp [-List.map_drop]
  have hl : eLc (iAll (lP (dSl (pB ixD (dV 0) (dC (.int 0))) (oS (pB oAdd (dV 1) (dC (.int 1)))) oN))) (bN 5) tYesF (lP (pB ixD (dV 5) (dC (.int 0)))) [5] [some (encH .frz bs cs), some (.int k), none, none, none, none] = some (.ok (.lst .own ((names (bs.drop (k + 1))).map .str)) [some (encH .frz bs cs), some (.int k), none, none, none, none]) := by
    rw [eLc_pure (ρ0 := [some (encH .frz bs cs), some (.int k), none, none, none, none]) (fun _ => true) (fun x => match x with | .tup (.str n :: _) => .str n | x => x) hw rfl rfl (fun x hx => by
      obtain ⟨c, hc, rfl⟩ := List.mem_map.mp hx
      exact ⟨_, rfl, rfl, fun _ => ⟨by simp [encB], rfl⟩, rfl⟩) (by simp; omega)]
    rw [List.filter_eq_self.mpr (fun _ _ => rfl), List.map_map]
    unfold names
    rw [List.map_map]
    rfl
  have hnl : (names (bs.drop (k + 1))).length ≤ 6 := by unfold names; simp; omega
  let KN := cs ++ names (bs.drop (k + 1))
  rw [seq_nx (ρ' := [some (encH .frz bs cs), some (.int k), some (.lst .frz (KN.map .str)), none, none, none]) (by simp [hl, KN, show cs.length + (names (bs.drop (k + 1))).length ≤ sizeLine by omega])]
  rw [seq_nx (ρ' := [some (encH .frz bs cs), some (.int k), some (.lst .frz (KN.map .str)), some (.lst .frz (b.outs.map .str)), none, none]) (by simp [hix])]
  obtain ⟨ρ', e, y, rfl⟩ := loop_inv (b := bN 4) (g := (sIf (lQ (qOr (qB (pB (oIn true) (pB ixD (dV 3) (dV 4)) (dV 2))) (qB (pB (oIn false) (pB ixD (dV 3) (dV 4)) (dSl (dV 3) oN (oS (dV 4))))))) sStuck sNil))
    (I := fun _ ρ => ∃ y, ρ = [some (encH .frz bs cs), some (.int k), some (.lst .frz (KN.map .str)), some (.lst .frz (b.outs.map .str)), y, none]) (ds := rngD 0 b.outs.length)
    (fun j d ρ e ⟨y, hρ⟩ => by
      subst hρ
      obtain ⟨hj, rfl⟩ := rngD_get e
      rw [show (0 : Int) + (j : Int) = j by omega]
      have hx : atI (b.outs.map D.str) (j : Int) = some (.str b.outs[j]) := by rw [atI_map, atI_get (List.getElem?_eq_getElem hj)]; rfl
      have h1 : b.outs[j] ∈ KN := by
        have := w1 _ (List.getElem_mem hj)
        exact List.mem_append.mpr ((List.mem_append.mp this).symm)
      have h2 : b.outs[j] ∉ b.outs.take j := fun z => by
        obtain ⟨i, hi, e⟩ := List.mem_take_iff_getElem.mp z
        have := List.pairwise_iff_getElem.mp w2 i j (by omega) hj (by omega)
        exact this e
      have hc : cutL (b.outs.map D.str) none (some (j : Int)) = (b.outs.take j).map .str := by rw [cut_to _ _ (by simp; omega), List.map_take]
      refine ⟨_, [some (encH .frz bs cs), some (.int k), some (.lst .frz (KN.map .str)), some (.lst .frz (b.outs.map .str)), some (.int j), none], rfl, ?_, _, rfl⟩
      simp [hx, h1, dSl, oN, oS, cutD, hc, h2, -List.map_take])
    (ρ := [some (encH .frz bs cs), some (.int k), some (.lst .frz (KN.map .str)), some (.lst .frz (b.outs.map .str)), none, none]) ⟨_, rfl⟩
  rw [seq_nx (ρ' := [some (encH .frz bs cs), some (.int k), some (.lst .frz (KN.map .str)), some (.lst .frz (b.outs.map .str)), none, none]) (by
    have hr : iRng [(lP (pN oLen [(dV 3)]))] [some (encH .frz bs cs), some (.int k), some (.lst .frz (KN.map .str)), some (.lst .frz (b.outs.map .str)), none, none] = some (.ok (.non, rngD 0 b.outs.length) [some (encH .frz bs cs), some (.int k), some (.lst .frz (KN.map .str)), some (.lst .frz (b.outs.map .str)), none, none]) := by
      rw [iRng_1 (j := (b.outs.length : Int)) (ρ' := [some (encH .frz bs cs), some (.int k), some (.lst .frz (KN.map .str)), some (.lst .frz (b.outs.map .str)), none, none]) (by simp) (okR_small (by omega) (by omega))]
      simp
    rw [sFor_of hr, e]; rfl)]
  simp [w3]
theorem hand_reached {bs : List Belt} {cs : List Str} (hk : HOk bs cs) {c0 : Str} (h0 : cs[0]? = some c0) {b : Belt} (hb : b ∈ bs) : c0 ∈ pass bs b.outs := by
  refine V_pass hk hb ?_
  obtain ⟨v, hv⟩ := hand_tab h0 hk.wf (ord_of hk.wf hk.nd hk.ap) b hb
  unfold V
  rw [hv]
  exact fun z => by cases z
theorem reached_call {bs : List Belt} {cs : List Str} (hk : HOk bs cs) {b : Belt} (hb : b ∈ bs) : oCall d_reached [encH .frz bs cs, .str b.name] = some (.lst .own (((names bs).filter (fun n => decide (n ∈ pass bs b.outs)) ++ cs.filter fun c => decide (c ∈ pass bs b.outs)).map .str)) := oCall_nb (ls := []) (by simp only [remL_cons, remL_nil, encH_rem, rem_str]; exact reached_ok hk hb) (.inl (by simp))
theorem right_ok {bs : List Belt} {cs : List Str} (hk : HOk bs cs) : d_right_house [encH .frz bs cs] = some (.ret (.bl true) []) := by
  have hb6 := hk.nl
  have h1 : oCall d_ask_names [encH .frz bs cs] = some .non := oCall_nb (ls := []) (by simp only [remL_cons, remL_nil, encH_rem]; exact ask_names_ok hk) (.inl (by simp))
  have h2 : ∀ k, k < bs.length → oCall d_ask_outs [encH .frz bs cs, .int (k : Int)] = some .non := fun k hkl => oCall_nb (ls := []) (by simp only [remL_cons, remL_nil, encH_rem, rem_int]; exact ask_outs_ok hk hkl) (.inl (by simp))
  obtain ⟨c0, cr, hcs⟩ : ∃ c0 cr, cs = c0 :: cr := by
    have := hk.ne
    cases cs with
    | nil => exact absurd rfl this
    | cons c0 cr => exact ⟨c0, cr, rfl⟩
  have hc0 : atI (cs.map D.str) 0 = some (.str c0) := by rw [hcs]; simp
  have hc0m : c0 ∈ cs := by rw [hcs]; exact List.mem_cons_self
  show fnR [false] (b_right_house [some (encH .frz bs cs), none, none]) = _
  unfold b_right_house
  rw [seq_nx (ρ' := [some (encH .frz bs cs), none, none]) (by simp [h1])]
  obtain ⟨ρ', e, y, rfl⟩ := loop_inv (b := bN 1) (g := (sExpr (lP (pN (oCall d_ask_outs) [(dV 0), (dV 1)])))) (I := fun _ ρ => ∃ y, ρ = [some (encH .frz bs cs), y, none]) (ds := rngD 0 bs.length)
    (fun k d ρ e ⟨y, hρ⟩ => by
      subst hρ
      obtain ⟨hkl, rfl⟩ := rngD_get e
      rw [show (0 : Int) + (k : Int) = k by omega]
      exact ⟨_, [some (encH .frz bs cs), some (.int k), none], rfl, by simp [h2 k hkl], _, rfl⟩)
    (ρ := [some (encH .frz bs cs), none, none]) ⟨_, rfl⟩
  rw [seq_nx (ρ' := [some (encH .frz bs cs), none, none]) (by
    have hr : iRng [(lP (pN oLen [(pB ixD (dV 0) (dC (.int 0)))]))] [some (encH .frz bs cs), none, none] = some (.ok (.non, rngD 0 bs.length) [some (encH .frz bs cs), none, none]) := by
      rw [iRng_1 (j := (bs.length : Int)) (ρ' := [some (encH .frz bs cs), none, none]) (by simp) (okR_small (by omega) (by omega))]
      simp
    rw [sFor_of hr, e]; rfl)]
  obtain ⟨ρ2, e2, y2, rfl⟩ := loop_inv (b := bN 2) (g := (sIf (lQ (qB (pB (oIn true) (pB ixD (pB ixD (dV 0) (dC (.int 1))) (dC (.int 0))) (pN (oCall d_reached) [(dV 0), (pB ixD (dV 2) (dC (.int 0)))])))) sStuck sNil)) (I := fun _ ρ => ∃ y, ρ = [some (encH .frz bs cs), none, y]) (ds := bs.map encB)
    (fun k d ρ e ⟨y, hρ⟩ => by
      subst hρ
      obtain ⟨b, hb, rfl⟩ := List.mem_map.mp (List.mem_of_getElem? e)
      have hr := reached_call hk hb
      have hin : c0 ∈ ((names bs).filter (fun n => decide (n ∈ pass bs b.outs)) ++ cs.filter fun c => decide (c ∈ pass bs b.outs)) :=
        List.mem_append_right _ (List.mem_filter.mpr ⟨hc0m, decide_eq_true (hand_reached hk (by rw [hcs]; rfl) hb)⟩)
      generalize ((names bs).filter (fun n => decide (n ∈ pass bs b.outs)) ++ cs.filter fun c => decide (c ∈ pass bs b.outs)) = L at *
      exact ⟨_, [some (encH .frz bs cs), none, some (encB b)], rfl, by simp [hr, hc0, hin], _, rfl⟩)
    (ρ := [some (encH .frz bs cs), none, none]) ⟨_, rfl⟩
  rw [seq_nx (ρ' := [some (encH .frz bs cs), none, none]) (by rw [sFor_of (walk_belts (bs := bs) (by simp)), e2]; rfl)]
  simp
end DL

end
section
/-! MU: shown_house of a drawn house. -/
open PySem PySem.Spec L2
namespace DL
open TL (tl)
def bWord (b : Belt) : Str := if b.ring = true then Str.ofString "ring" else Str.ofString "belt"
def numS (i : Int) : Str := Str.ofString (toString i)
def bParts (b : Belt) : List Str := [bWord b, b.name, numS b.long, Str.ofString "to"] ++ b.outs
def bLine (b : Belt) : Str := Txt.join (Str.ofString " ") (bParts b)
def cLine' (c : Str) : Str := Str.ofString "cart " ++ c
def hLines (bs : List Belt) (cs : List Str) : List Str := bs.map bLine ++ cs.map cLine'
theorem len_tl (x : Str) : x.length = (tl x).length := rfl
theorem num_len : ∀ i : Nat, i < 101 → (numS (i : Int)).length ≤ 3 := by decide +kernel
theorem strsOf_map (ys : List Str) : strsOf (ys.map .str) = some ys := by
  induction ys with
  | nil => rfl
  | cons y ys ih => rw [List.map_cons, strsOf, ih]; rfl
theorem joinD_strs {a : Str} {ys : List Str} (h : (ys.map (·.length)).sum + ys.length * a.length ≤ 16777216) : joinD a (ys.map .str) = some (.str (Txt.join a ys)) := by
  unfold joinD
  rw [strsOf_map, Option.bind_some, if_pos h]
theorem sum_le {ys : List Str} {n : Nat} (h : ∀ y ∈ ys, y.length ≤ n) : (ys.map (·.length)).sum ≤ ys.length * n := by
  induction ys with
  | nil => simp
  | cons y ys ih =>
    have := h y List.mem_cons_self
    have := ih fun z hz => h z (List.mem_cons_of_mem _ hz)
    simp only [List.map_cons, List.sum_cons, List.length_cons, Nat.add_mul]
    omega
theorem joinL_end : ∀ (ls : List (List Nat)), ls ≠ [] → TL.joinL [10] ls ++ [10] = (ls.map (· ++ [10])).flatten
  | [], h => absurd rfl h
  | [p], _ => by simp [TL.joinL]
  | p :: q :: r, _ => by
    show (p ++ ([10] ++ TL.joinL [10] (q :: r))) ++ [10] = _
    have := joinL_end (q :: r) (by simp)
    simp only [List.append_assoc, List.map_cons, List.flatten_cons] at this ⊢
    rw [this]
theorem joinL_sp (x : List Nat) (ls : List (List Nat)) : TL.joinL [32] (x :: ls) = x ++ (ls.map ([32] ++ ·)).flatten := by
  induction ls generalizing x with
  | nil => simp [TL.joinL]
  | cons q r ih =>
    show x ++ ([32] ++ TL.joinL [32] (q :: r)) = _
    rw [ih q]
    simp
theorem tl_str (s : String) : tl (Str.ofString s) = s.toList.map Char.toNat := TL.tl_ofString s
theorem tl_bLine (b : Belt) : tl (bLine b) = tl (bWord b) ++ [32] ++ tl b.name ++ [32] ++ tl (numS b.long) ++ [32] ++ [116, 111] ++ (b.outs.map fun o => [32] ++ tl o).flatten := by
  unfold bLine bParts
  rw [TL.join_eq, TL.tl_join, tl_str]
  show TL.joinL [32] ((([bWord b, b.name, numS b.long, Str.ofString "to"] ++ b.outs)).map tl) = _
  rw [List.map_append]
  show TL.joinL [32] (tl (bWord b) :: (([tl b.name, tl (numS b.long), tl (Str.ofString "to")]) ++ b.outs.map tl)) = _
  rw [joinL_sp, tl_str "to", List.map_append, List.flatten_append, List.map_map]
  simp
  rfl
structure BOk (b : Belt) : Prop where
  n8 : b.name.length ≤ 8
  l1 : 1 ≤ b.long
  l2 : b.long ≤ 100
  o4 : b.outs.length ≤ 10
  o8 : ∀ o ∈ b.outs, o.length ≤ 8
theorem bok {bs : List Belt} {cs : List Str} (hk : HOk bs cs) {b : Belt} (hb : b ∈ bs) : BOk b := by
  obtain ⟨a1, a2, a3, a4, a5, a6⟩ := wf_outs hk.wf hb
  exact ⟨(hk.ok _ (List.mem_append_left _ (List.mem_map.mpr ⟨b, hb, rfl⟩))).2, a1, a2, a6, fun o ho => (hk.ok o (a4 o ho)).2⟩
theorem num_le {b : Belt} (h : BOk b) : (numS b.long).length ≤ 3 := by
  have := num_len b.long.toNat (by have := h.l2; have := h.l1; omega)
  rwa [Int.toNat_of_nonneg (by have := h.l1; omega)] at this
theorem word_le (b : Belt) : (bWord b).length = 4 := by unfold bWord; split <;> rfl
theorem flat_le {os : List Str} {n : Nat} (h : ∀ o ∈ os, o.length ≤ n) : ((os.map fun o => [32] ++ tl o).flatten).length ≤ os.length * (n + 1) := by
  induction os with
  | nil => simp
  | cons o os ih =>
    have := h o List.mem_cons_self
    have := ih fun z hz => h z (List.mem_cons_of_mem _ hz)
    have e : (tl o).length = o.length := rfl
    simp only [List.map_cons, List.flatten_cons, List.length_append, List.length_cons, List.length_nil, Nat.add_mul, e]
    omega
theorem line_le {b : Belt} (h : BOk b) : (bLine b).length ≤ 120 := by
  rw [len_tl, tl_bLine]
  have h1 := num_le h
  have h2 := word_le b
  have h3 := h.n8
  have h4 := flat_le h.o8
  have h5 := h.o4
  have e1 : (tl (bWord b)).length = (bWord b).length := rfl
  have e2 : (tl b.name).length = b.name.length := rfl
  have e3 : (tl (numS b.long)).length = (numS b.long).length := rfl
  simp only [List.length_append, List.length_cons, List.length_nil, e1, e2, e3]
  omega
end DL

end
section
/-! MX: read_house of what was shown. -/
open PySem PySem.Spec L2
namespace DL
open TL (tl)
def numOk (i : Nat) : Bool := match d_number_of [.str (numS (i : Int))] with
  | some (.ret (.int j) []) => j == (i : Int)
  | _ => false
theorem numOk_all : ∀ i, i < 101 → 1 ≤ i → numOk i = true := by decide +kernel
theorem number_ok {i : Int} (h1 : 1 ≤ i) (h2 : i ≤ 100) : d_number_of [.str (numS i)] = some (.ret (.int i) []) := by
  have := numOk_all i.toNat (by omega) (by omega)
  unfold numOk at this
  rw [Int.toNat_of_nonneg (by omega)] at this
  split at this
  · rename_i j e
    rw [e]
    have : j = i := by simpa using this
    rw [this]
  · cases this
theorem split_sp {parts : List Str} (hne : parts ≠ []) (hp : ∀ p ∈ parts, 32 ∉ tl p) : Txt.split (Txt.join (Str.ofString " ") parts) (Str.ofString " ") = parts := TL.split_join (S := []) rfl (by decide +kernel) hne hp
theorem split_nl {parts : List Str} (hne : parts ≠ []) (hp : ∀ p ∈ parts, 10 ∉ tl p) : Txt.split (Txt.join (Str.ofString "\n") parts) (Str.ofString "\n") = parts := TL.split_join (S := []) rfl (by decide +kernel) hne hp
/-- signs of a line's parts -/
def plainS (x : Str) : Prop := ∀ c ∈ tl x, 48 ≤ c ∧ c ≤ 122
theorem num_plain : ∀ i : Nat, i < 101 → (numS (i : Int)).cps.toList.all (fun c => decide (48 ≤ c ∧ c ≤ 122)) = true := by decide +kernel
theorem plain_name {bs : List Belt} {cs : List Str} (hk : HOk bs cs) {s : Str} (hs : s ∈ names bs ++ cs) : plainS s := fun c hc => by
  have := (hk.lt s hs).2 c hc
  omega
theorem plain_parts {bs : List Belt} {cs : List Str} (hk : HOk bs cs) {b : Belt} (hb : b ∈ bs) : ∀ p ∈ bParts b, plainS p := by
  obtain ⟨a1, a2, a3, a4, a5, a6⟩ := wf_outs hk.wf hb
  intro p hp
  unfold bParts at hp
  simp only [List.mem_append, List.mem_cons, List.not_mem_nil, or_false] at hp
  rcases hp with (rfl | rfl | rfl | rfl) | hp
  · have : ∀ c ∈ tl (bWord b), c = 114 ∨ c = 105 ∨ c = 110 ∨ c = 103 ∨ c = 98 ∨ c = 101 ∨ c = 108 ∨ c = 116 := by
      unfold bWord
      split
      · decide +kernel
      · decide +kernel
    intro c hc
    have := this c hc
    omega
  · exact plain_name hk (List.mem_append_left _ (List.mem_map.mpr ⟨b, hb, rfl⟩))
  · intro c hc
    have := num_plain b.long.toNat (by omega)
    rw [Int.toNat_of_nonneg (by omega)] at this
    exact of_decide_eq_true (List.all_eq_true.mp this c hc)
  · intro c hc
    have : ∀ c ∈ tl (Str.ofString "to"), c = 116 ∨ c = 111 := by decide +kernel
    have := this c hc
    omega
  · exact plain_name hk (a4 p hp)
theorem word_ring (b : Belt) : decide (bWord b = Str.ofString "ring") = b.ring := by
  unfold bWord
  cases b.ring with
  | true => simp
  | false =>
    have : ¬ Str.ofString "belt" = Str.ofString "ring" := by decide +kernel
    simp [this]
theorem belt_in_ok {bs : List Belt} {cs : List Str} (hk : HOk bs cs) {b : Belt} (hb : b ∈ bs) : d_belt_in [.lst .frz ((bParts b).map .str)] = some (.ret (.tup [.str b.name, .int b.long, .bl b.ring, .lst .own (b.outs.map .str)]) []) := by
  have hs := size_big
  obtain ⟨a1, a2, a3, a4, a5, a6⟩ := wf_outs hk.wf hb
  have hne : b.outs ≠ [] := by
    obtain ⟨k, hkb⟩ := List.mem_iff_getElem?.mp hb
    exact (wf_at hk.wf hkb).2.2
  have hlen : 0 < b.outs.length := List.length_pos_iff.mpr hne
  have hn : oCall d_number_of [.str (numS b.long)] = some (.int b.long) := oCall_nb (ls := []) (by simp only [remL_cons, remL_nil, rem_str]; exact number_ok a1 a2) (.inr rfl)
  have e : (bParts b).map D.str = .str (bWord b) :: .str b.name :: .str (numS b.long) :: .str (Str.ofString "to") :: b.outs.map .str := by unfold bParts; simp
  have hcut : cutL (.str (bWord b) :: .str b.name :: .str (numS b.long) :: .str (Str.ofString "to") :: b.outs.map D.str) (some 4) none = b.outs.map .str := by
    rw [show (4 : Int) = ((4 : Nat) : Int) from rfl, cut_from _ _ (by simp)]
    rfl
  rw [e]
  show fnR [false] (b_belt_in [some (.lst .frz (.str (bWord b) :: .str b.name :: .str (numS b.long) :: .str (Str.ofString "to") :: b.outs.map .str)), none]) = _
  unfold b_belt_in
  rw [seq_nx (ρ' := [some (.lst .frz (.str (bWord b) :: .str b.name :: .str (numS b.long) :: .str (Str.ofString "to") :: b.outs.map .str)), none]) (by
    simp [show ¬ (b.outs.length : Int) + 1 + 1 + 1 + 1 < 5 by omega])]
  rw [seq_nx (ρ' := [some (.lst .frz (.str (bWord b) :: .str b.name :: .str (numS b.long) :: .str (Str.ofString "to") :: b.outs.map .str)), some (.int b.long)]) (by simp [hn])]
  rw [seq_nx (ρ' := [some (.lst .frz (.str (bWord b) :: .str b.name :: .str (numS b.long) :: .str (Str.ofString "to") :: b.outs.map .str)), some (.int b.long)]) (by simp)]
  simp [dSl, oS, oN, cutD, hcut, word_ring, show 4 ≤ sizeLine by omega]
theorem cLine_join (c : Str) : cLine' c = Txt.join (Str.ofString " ") [Str.ofString "cart", c] := by
  apply TL.ext_tl
  rw [TL.join_eq, TL.tl_join]
  unfold cLine'
  rw [TL.tl_append, tl_str, tl_str]
  show _ = tl (Str.ofString "cart") ++ ([32] ++ tl c)
  rw [tl_str]
  rfl
theorem ne_empty {s : Str} (h : s.length ≠ 0) : ¬ Str.ofString "" = s := fun e => h (by rw [← e]; rfl)
theorem no_empty {bs : List Belt} {cs : List Str} (hk : HOk bs cs) {b : Belt} (hb : b ∈ bs) : Str.ofString "" ∉ bParts b := by
  obtain ⟨a1, a2, a3, a4, a5, a6⟩ := wf_outs hk.wf hb
  intro h
  unfold bParts at h
  simp only [List.mem_append, List.mem_cons, List.not_mem_nil, or_false] at h
  rcases h with (h | h | h | h) | h
  · have := word_le b; rw [← h] at this; exact absurd this (by decide)
  · exact ne_empty (hk.lt _ (List.mem_append_left _ (List.mem_map.mpr ⟨b, hb, rfl⟩))).1 h
  · have hz : ∀ i : Nat, i < 101 → (numS (i : Int)).length ≠ 0 := by decide +kernel
    have := hz b.long.toNat (by omega)
    rw [Int.toNat_of_nonneg (by omega)] at this
    exact ne_empty this h
  · exact absurd h (by decide +kernel)
  · exact ne_empty (hk.lt _ (a4 _ h)).1 rfl
theorem splitD {a : Str} {ys : List Str} {b : Str} (hb : (b.length == 0) = false) (hl : a.length ≤ 100000) (h : Txt.split a b = ys) : oSplit (.str a) (.str b) = some (.lst .own (ys.map .str)) := by
  have hs := size_big
  unfold oSplit
  dsimp only
  rw [if_pos ⟨hb, by omega⟩, h]
end DL

end
section
/-! MY: alike. -/
open PySem PySem.Spec L2
namespace DL
def alk : Nat → D → Prop
  | 0, _ => False
  | n + 1, x => (∃ s, x = .str s) ∨ (∃ i, x = .int i) ∨ (∃ b, x = .bl b) ∨ (∃ ds, (x = .tup ds ∨ x = .lst .frz ds) ∧ ds.length ≤ 1000 ∧ D.remL fz ds = ds ∧ D.chkL (fun m => !m.isBrw) ds = true ∧ ∀ d ∈ ds, alk n d)
theorem alike_ok : ∀ (n : Nat) (x : D), alk n x → recD 1 [false, false] b_law_alike_4156af n [x, x] = some (.ret (.bl true) [])
  | 0, x, h => h.elim
  | n + 1, x, h => by
    show fnR [false, false] (b_law_alike_4156af (recD 1 [false, false] b_law_alike_4156af n) [some x, some x, none]) = _
    have IH := alike_ok n
    generalize recD 1 [false, false] b_law_alike_4156af n = R at IH ⊢
    unfold b_law_alike_4156af
    rcases h with ⟨s, rfl⟩ | ⟨i, rfl⟩ | ⟨b, rfl⟩ | ⟨ds, hx, hl, hr, hc, hd⟩
    · simp [pIsi, isiB, tyD]
    · simp [pIsi, isiB, tyD]
    · simp [pIsi, isiB, tyD]
    · have hlen : oLen [x] = some (.int ds.length) := by rcases hx with rfl | rfl <;> rfl
      have hix : ∀ (k : Nat) (hk : k < ds.length), ixD x (.int (k : Int)) = some ds[k] := fun k hk => by
        rcases hx with rfl | rfl
        · exact atI_get (List.getElem?_eq_getElem hk)
        · exact atI_get (List.getElem?_eq_getElem hk)
      have hty : (isiB "tuple" x = some true ∧ isiB "list" x = some false) ∨ (isiB "tuple" x = some false ∧ isiB "list" x = some true) := by
        rcases hx with rfl | rfl
        · exact .inl ⟨rfl, rfl⟩
        · exact .inr ⟨rfl, rfl⟩
      have L := loop_inv (b := bN 2) (g := (sIf (lQ (qNot (qB (pN (oCall R) [(pB ixD (dV 0) (dV 2)), (pB ixD (dV 1) (dV 2))])))) (sRet (lP (dC (.bl false)))) sNil)) (I := fun _ ρ => ∃ y, ρ = [some x, some x, y]) (ds := rngD 0 ds.length)
        (fun k d ρ e ⟨y, hρ⟩ => by
          subst hρ
          obtain ⟨hk, rfl⟩ := rngD_get e
          rw [show (0 : Int) + (k : Int) = k by omega]
          have hm := List.getElem_mem hk
          have hrk : D.rem fz ds[k] = ds[k] := by
            rw [remL_eq] at hr
            have := congrArg (fun l => l[k]?) hr
            simpa [hk] using this
          have hcall : oCall R [ds[k], ds[k]] = some (.bl true) := oCall_nb (ls := []) (by simp only [remL_cons, remL_nil, hrk]; exact IH _ (hd _ hm)) (.inr rfl)
          exact ⟨_, [some x, some x, some (.int k)], rfl, by simp [hix k hk, hcall], _, rfl⟩)
        (ρ := [some x, some x, none]) ⟨_, rfl⟩
      obtain ⟨ρ', e, y, rfl⟩ := L
      have hrg : iRng [(lP (pN oLen [(dV 1)]))] [some x, some x, none] = some (.ok (.non, rngD 0 ds.length) [some x, some x, none]) := by
        rw [iRng_1 (j := (ds.length : Int)) (ρ' := [some x, some x, none]) (by simp [hlen]) (okR_small (by omega) (by omega)), Int.toNat_natCast]
      have hT : (lQ (qOr (qB (pIsi "tuple" (dV 1))) (qB (pIsi "list" (dV 1))))) [some x, some x, none] = some (.ok true [some x, some x, none]) := by
        rcases hty with ⟨t1, t2⟩ | ⟨t1, t2⟩ <;> simp [pIsi, t1, t2]
      rw [seq_rt (d := .bl true) (ρ' := [some x, some x, none]) (by
        rw [sIf_eq, hT]
        dsimp only
        rw [seq_nx (ρ' := [some x, some x, none]) (by rcases hty with ⟨t1, t2⟩ | ⟨t1, t2⟩ <;> simp [pIsi, t1, t2])]
        rw [seq_nx (ρ' := [some x, some x, none]) (by simp [hlen])]
        rw [seq_nx (ρ' := [some x, some x, none]) (by rw [sFor_of hrg, e]; rfl)]
        simp)]
      simp
theorem alk_str (n : Nat) (s : Str) : alk (n + 1) (.str s) := .inl ⟨s, rfl⟩
theorem alk_strs (n : Nat) (xs : List Str) (h : xs.length ≤ 1000) : alk (n + 2) (.lst .frz (xs.map .str)) :=
  .inr (.inr (.inr ⟨_, .inr rfl, by simpa using h, by simp, by simp, fun d hd => by obtain ⟨s, _, rfl⟩ := List.mem_map.mp hd; exact alk_str n s⟩))
theorem alk_belt (n : Nat) (b : Belt) (h : b.outs.length ≤ 1000) : alk (n + 3) (encB b) :=
  .inr (.inr (.inr ⟨_, .inl rfl, by simp, by simp, by simp, fun d hd => by
    simp only [List.mem_cons, List.not_mem_nil, or_false] at hd
    rcases hd with rfl | rfl | rfl | rfl
    · exact .inl ⟨_, rfl⟩
    · exact .inr (.inl ⟨_, rfl⟩)
    · exact .inr (.inr (.inl ⟨_, rfl⟩))
    · exact alk_strs n _ h⟩))
theorem alk_house {bs : List Belt} {cs : List Str} (hk : HOk bs cs) : alk 6 (encH .frz bs cs) :=
  .inr (.inr (.inr ⟨_, .inl rfl, by simp, by simp, by simp, fun d hd => by
    simp only [List.mem_cons, List.not_mem_nil, or_false] at hd
    rcases hd with rfl | rfl
    · refine .inr (.inr (.inr ⟨_, .inr rfl, by have := hk.nl; simp; omega, by simp, by simp, fun d hd => ?_⟩))
      obtain ⟨b, hb, rfl⟩ := List.mem_map.mp hd
      exact alk_belt 1 b (by have := (wf_outs hk.wf hb).2.2.2.2.2; omega)
    · exact alk_strs 3 _ (by have := hk.cl; omega)⟩))
theorem alike_house {bs : List Belt} {cs : List Str} (hk : HOk bs cs) : d_law_alike_4156af [encH .frz bs cs, encH .frz bs cs] = some (.ret (.bl true) []) := alike_ok 6 _ (alk_house hk)
end DL

end
section
/-! MZ: read_house of mixed lines. -/
open PySem PySem.Spec L2
namespace DL
open TL (tl)
inductive It where | b (x : Belt) | c (x : Str)
def iLine : It → Str | .b x => bLine x | .c x => cLine' x
def itB : List It → List Belt
  | [] => []
  | .b x :: r => x :: itB r
  | .c _ :: r => itB r
def itC : List It → List Str
  | [] => []
  | .b _ :: r => itC r
  | .c x :: r => x :: itC r
theorem itB_app : ∀ (a b : List It), itB (a ++ b) = itB a ++ itB b
  | [], b => rfl
  | .b x :: r, b => by show x :: itB (r ++ b) = _; rw [itB_app r b]; rfl
  | .c x :: r, b => itB_app r b
theorem itC_app : ∀ (a b : List It), itC (a ++ b) = itC a ++ itC b
  | [], b => rfl
  | .b x :: r, b => itC_app r b
  | .c x :: r, b => by show x :: itC (r ++ b) = _; rw [itC_app r b]; rfl
theorem it_len : ∀ (a : List It), a.length = (itB a).length + (itC a).length
  | [] => rfl
  | .b x :: r => by show r.length + 1 = (itB r).length + 1 + (itC r).length; have := it_len r; omega
  | .c x :: r => by show r.length + 1 = (itB r).length + ((itC r).length + 1); have := it_len r; omega
theorem it_b {x : Belt} : ∀ {a : List It}, It.b x ∈ a → x ∈ itB a
  | .b y :: r, h => by
    rcases List.mem_cons.mp h with h | h
    · cases h; exact List.mem_cons_self
    · exact List.mem_cons_of_mem _ (it_b h)
  | .c y :: r, h => by
    rcases List.mem_cons.mp h with h | h
    · cases h
    · exact it_b (a := r) h
theorem it_c {x : Str} : ∀ {a : List It}, It.c x ∈ a → x ∈ itC a
  | .c y :: r, h => by
    rcases List.mem_cons.mp h with h | h
    · cases h; exact List.mem_cons_self
    · exact List.mem_cons_of_mem _ (it_c h)
  | .b y :: r, h => by
    rcases List.mem_cons.mp h with h | h
    · cases h
    · exact it_c (a := r) h
def encBo (b : Belt) : D := .tup [.str b.name, .int b.long, .bl b.ring, .lst .own (b.outs.map .str)]
@[simp] theorem encBo_rem {b : Belt} : D.rem fz (encBo b) = encB b := by simp [encBo, encB]
@[simp] theorem encBos_rem {bs : List Belt} : D.remL fz (bs.map encBo) = bs.map encB := by rw [remL_map]; simp
@[simp] theorem encBo_nb {b : Belt} : D.chk (fun m => !m.isBrw) (encBo b) = true := by simp [encBo]
@[simp] theorem encBos_nb {bs : List Belt} : D.chkL (fun m => !m.isBrw) (bs.map encBo) = true := by rw [chkL_map]; simp
theorem read_mixed {it : List It} (hk : HOk (itB it) (itC it)) (t : D) : ∃ ρ', loop (bN 4) (sSeq (sF 5 (lP (pB oSplit (pB ixD (dV 3) (dV 4)) (dC (.str (Str.ofString " "))))))
    (sSeq (sIf (lQ (qB (pB (oIn false) (dC (.str (Str.ofString ""))) (dV 5)))) sStuck sNil)
    (sIf (lQ (qAnd (qB (pB oEq (pB ixD (dV 5) (dC (.int 0))) (dC (.str (Str.ofString "cart"))))) (qB (pB oEq (pN oLen [(dV 5)]) (dC (.int 2)))))) (sExpr (eL oApp 2 [(lP (pB ixD (dV 5) (dC (.int 1))))])) (sIf (lQ (qOr (qB (pB oEq (pB ixD (dV 5) (dC (.int 0))) (dC (.str (Str.ofString "belt"))))) (qB (pB oEq (pB ixD (dV 5) (dC (.int 0))) (dC (.str (Str.ofString "ring"))))))) (sSeq (sO 6 (lP (pN (oCall d_belt_in) [(dV 5)])))
    (sSeq (sIf (lQ (qB (pB (oIs false) (dK 6) (dC .non)))) sStuck sNil)
    (sExpr (eL oApp 1 [(eMv 6)])))) sStuck)))) (rngD 0 it.length) [some t, some (.lst .own []), some (.lst .own []), some (.lst .frz ((it.map iLine).map .str)), none, none, none, none] = some (.nx ρ') ∧
    ∃ y4 y5 y6, ρ' = [some t, some (.lst .own ((itB it).map encBo)), some (.lst .own ((itC it).map .str)), some (.lst .frz ((it.map iLine).map .str)), y4, y5, y6, none] := by
  have hs := size_big
  have hb6 := hk.nl
  have hc5 := hk.cl
  have hlen := it_len it
  have L := loop_inv (b := bN 4) (g := (sSeq (sF 5 (lP (pB oSplit (pB ixD (dV 3) (dV 4)) (dC (.str (Str.ofString " "))))))
    (sSeq (sIf (lQ (qB (pB (oIn false) (dC (.str (Str.ofString ""))) (dV 5)))) sStuck sNil)
    (sIf (lQ (qAnd (qB (pB oEq (pB ixD (dV 5) (dC (.int 0))) (dC (.str (Str.ofString "cart"))))) (qB (pB oEq (pN oLen [(dV 5)]) (dC (.int 2)))))) (sExpr (eL oApp 2 [(lP (pB ixD (dV 5) (dC (.int 1))))])) (sIf (lQ (qOr (qB (pB oEq (pB ixD (dV 5) (dC (.int 0))) (dC (.str (Str.ofString "belt"))))) (qB (pB oEq (pB ixD (dV 5) (dC (.int 0))) (dC (.str (Str.ofString "ring"))))))) (sSeq (sO 6 (lP (pN (oCall d_belt_in) [(dV 5)])))
    (sSeq (sIf (lQ (qB (pB (oIs false) (dK 6) (dC .non)))) sStuck sNil)
    (sExpr (eL oApp 1 [(eMv 6)])))) sStuck))))) (ds := rngD 0 it.length)
    (I := fun k ρ => ∃ y4 y5 y6, ρ = [some t, some (.lst .own ((itB (it.take k)).map encBo)), some (.lst .own ((itC (it.take k)).map .str)), some (.lst .frz ((it.map iLine).map .str)), y4, y5, y6, none])
    (fun k d ρ e ⟨y4, y5, y6, hρ⟩ => by
      subst hρ
      obtain ⟨hkl, rfl⟩ := rngD_get e
      rw [show (0 : Int) + (k : Int) = k by omega]
      have hik : it[k]? = some it[k] := List.getElem?_eq_getElem hkl
      have him := List.getElem_mem hkl
      have ht : it.take (k + 1) = it.take k ++ [it[k]] := by rw [List.take_add_one, hik]; rfl
      have hl1 : (itB (it.take k)).length + (itC (it.take k)).length = k := by
        rw [← it_len, List.length_take]; omega
      have hx : atI ((it.map iLine).map D.str) (k : Int) = some (.str (iLine it[k])) := by
        rw [atI_map, atI_get (i := k) (x := iLine it[k]) (by rw [List.getElem?_map, hik]; rfl)]; rfl
      have eB : itB (it.take (k + 1)) = itB (it.take k) ++ itB [it[k]] := by rw [ht, itB_app]
      have eC : itC (it.take (k + 1)) = itC (it.take k) ++ itC [it[k]] := by rw [ht, itC_app]
      rw [eB, eC]
      clear eB eC ht
      generalize it[k] = x at *
      generalize itB (it.take k) = B at *
      generalize itC (it.take k) = C at *
      have hB : B.length < sizeLine := by omega
      have hC : C.length < sizeLine := by omega
      cases x with
      | b b =>
        have hb := it_b him
        have hsp : oSplit (.str (bLine b)) (.str (Str.ofString " ")) = some (.lst .own ((bParts b).map .str)) := splitD rfl (by have := line_le (bok hk hb); omega) (split_sp (by unfold bParts; simp) fun p hp z => by have := plain_parts hk hb p hp 32 z; omega)
        have hbi : oCall d_belt_in [.lst .frz ((bParts b).map .str)] = some (encBo b) := oCall_nb (ls := []) (by simp only [remL_cons, remL_nil, rem_lst, fz_frz, remL_strs]; exact belt_in_ok hk hb) (.inl (by simp))
        have h0 : atI ((bParts b).map D.str) 0 = some (.str (bWord b)) := by unfold bParts; simp
        have hne := no_empty hk hb
        have hw2 : bWord b = Str.ofString "belt" ∨ bWord b = Str.ofString "ring" := by
          unfold bWord; split
          · exact .inr rfl
          · exact .inl rfl
        have n1 : ¬ Str.ofString "belt" = Str.ofString "cart" := by decide +kernel
        have n2 : ¬ Str.ofString "ring" = Str.ofString "cart" := by decide +kernel
        have n3 : ¬ Str.ofString "ring" = Str.ofString "belt" := by decide +kernel
        have hx' : atI ((it.map iLine).map D.str) (k : Int) = some (.str (bLine b)) := hx
        refine ⟨_, [some t, some (.lst .own ((B ++ itB [.b b]).map encBo)), some (.lst .own ((C ++ itC [.b b]).map .str)), some (.lst .frz ((it.map iLine).map .str)), some (.int k), some (.lst .frz ((bParts b).map .str)), none, none], rfl, ?_, _, _, _, rfl⟩
        rw [show itB [It.b b] = [b] from rfl, show itC [It.b b] = [] from rfl, List.append_nil]
        generalize (it.map iLine).map D.str = LL at *
        rcases hw2 with hw2 | hw2
        · simp [hx', hsp, hne, h0, hw2, hbi, hB, n1]
          simp [encBo, hB]
        · simp [hx', hsp, hne, h0, hw2, hbi, hB, n2, n3]
          simp [encBo, hB]
      | c c =>
        have hc := it_c him
        have hcn := hk.ok c (List.mem_append_right _ hc)
        have hcl := hk.lt c (List.mem_append_right _ hc)
        have hsp : oSplit (.str (cLine' c)) (.str (Str.ofString " ")) = some (.lst .own ([Str.ofString "cart", c].map .str)) := splitD rfl (by
          rw [len_tl]; unfold cLine'; rw [TL.tl_append, List.length_append]
          have e1 : (tl c).length = c.length := rfl
          have e2 : (tl (Str.ofString "cart ")).length = 5 := rfl
          omega) (by
          rw [cLine_join]
          refine split_sp (by simp) fun p hp z => ?_
          simp only [List.mem_cons, List.not_mem_nil, or_false] at hp
          rcases hp with rfl | rfl
          · revert z; decide +kernel
          · have := hcl.2 32 z; omega)
        have hce : ¬ Str.ofString "" = c := ne_empty hcl.1
        have hce2 : ¬ Str.ofString "" = Str.ofString "cart" := by decide +kernel
        have hin : inD (.str (Str.ofString "")) (.lst .frz [.str (Str.ofString "cart"), .str c]) = some false := by
          have := inD_strs (s := Str.ofString "") (m := .frz) (xs := [Str.ofString "cart", c])
          simpa [hce, hce2] using this
        have hx' : atI ((it.map iLine).map D.str) (k : Int) = some (.str (cLine' c)) := hx
        refine ⟨_, [some t, some (.lst .own ((B ++ itB [.c c]).map encBo)), some (.lst .own ((C ++ itC [.c c]).map .str)), some (.lst .frz ((it.map iLine).map .str)), some (.int k), some (.lst .frz ([Str.ofString "cart", c].map .str)), y6, none], rfl, ?_, _, _, _, rfl⟩
        rw [show itB [It.c c] = [] from rfl, show itC [It.c c] = [c] from rfl, List.append_nil]
        generalize (it.map iLine).map D.str = LL at *
        simp [hx', hsp, hin, hC]) (ρ := [some t, some (.lst .own []), some (.lst .own []), some (.lst .frz ((it.map iLine).map .str)), none, none, none, none]) ⟨none, none, none, by simp [itB, itC]⟩
  obtain ⟨ρ', e, y4, y5, y6, h⟩ := L
  refine ⟨ρ', e, y4, y5, y6, ?_⟩
  rw [rngD_len] at h
  rw [h, List.take_of_length_le (by omega)]
theorem iline_no {it : List It} (hk : HOk (itB it) (itC it)) : ∀ l ∈ it.map iLine, 10 ∉ tl l := by
  intro l hl h
  obtain ⟨x, hx, rfl⟩ := List.mem_map.mp hl
  cases x with
  | b b =>
    have hb := it_b hx
    have hp := plain_parts hk hb
    have g : ∀ p ∈ bParts b, 10 ∉ tl p := fun p hp' z => by have := hp p hp' 10 z; omega
    have h : 10 ∈ tl (bLine b) := h
    rw [tl_bLine] at h
    simp only [List.mem_append, List.mem_singleton, List.mem_flatten, List.mem_map] at h
    have m1 : bWord b ∈ bParts b := by unfold bParts; simp
    have m2 : b.name ∈ bParts b := by unfold bParts; simp
    have m3 : numS b.long ∈ bParts b := by unfold bParts; simp
    rcases h with ((((((h | h) | h) | h) | h) | h) | h) | ⟨xs, ⟨o, ho, rfl⟩, h⟩
    · exact g _ m1 h
    · omega
    · exact g _ m2 h
    · omega
    · exact g _ m3 h
    · omega
    · revert h; decide
    · rcases List.mem_append.mp h with h | h
      · revert h; decide
      · exact g o (by unfold bParts; exact List.mem_append_right _ ho) h
  | c c =>
    have hc := it_c hx
    have h : 10 ∈ tl (cLine' c) := h
    unfold cLine' at h
    rw [TL.tl_append] at h
    rcases List.mem_append.mp h with h | h
    · revert h; decide +kernel
    · have := (hk.lt c (List.mem_append_right _ hc)).2 10 h; omega
theorem iline_le {it : List It} (hk : HOk (itB it) (itC it)) : ∀ l ∈ it.map iLine, l.length ≤ 120 := by
  intro l hl
  obtain ⟨x, hx, rfl⟩ := List.mem_map.mp hl
  cases x with
  | b b => exact line_le (bok hk (it_b hx))
  | c c =>
    have := (hk.ok c (List.mem_append_right _ (it_c hx))).2
    show (cLine' c).length ≤ 120
    rw [len_tl]
    unfold cLine'
    rw [TL.tl_append, List.length_append]
    have e1 : (tl c).length = c.length := rfl
    have e2 : (tl (Str.ofString "cart ")).length = 5 := rfl
    omega
theorem join_le {ls : List Str} (h : ∀ l ∈ ls, l.length ≤ 120) : (Txt.join (Str.ofString "\n") ls).length ≤ ls.length * 121 := by
  rw [len_tl, TL.join_eq, TL.tl_join, tl_str]
  have h1 : ∀ ls : List (List Nat), (∀ l ∈ ls, l.length ≤ 120) → (TL.joinL [10] ls).length ≤ ls.length * 121 := by
    intro ls
    induction ls with
    | nil => intro _; simp [TL.joinL]
    | cons l ls ih =>
      intro h
      have a1 := h l List.mem_cons_self
      have a2 := ih fun x hx => h x (List.mem_cons_of_mem _ hx)
      cases ls with
      | nil => show l.length ≤ _; simp; omega
      | cons m r =>
        show (l ++ ([10] ++ TL.joinL [10] (m :: r))).length ≤ _
        simp only [List.length_append, List.length_cons, List.length_nil] at a2 ⊢
        omega
  have h2 := h1 (ls.map tl) (fun l hl => by obtain ⟨x, hx, rfl⟩ := List.mem_map.mp hl; exact h x hx)
  rw [List.length_map] at h2
  exact h2
theorem read_ok8 {it : List It} (hk : HOk (itB it) (itC it)) : d_read_house [.str (Txt.join (Str.ofString "\n") (it.map iLine))] = some (.ret (.tup [.lst .own ((itB it).map encBo), .lst .own ((itC it).map .str)]) []) := by
  have hs := size_big
  have hb6 := hk.nl
  have hc5 := hk.cl
  have hlen := it_len it
  have hne : it.map iLine ≠ [] := by
    have := hk.ne
    intro e
    have : it = [] := by simpa using e
    subst this
    exact hk.ne rfl
  have htl : (Txt.join (Str.ofString "\n") (it.map iLine)).length ≤ 100000 := by
    have := join_le (iline_le hk)
    rw [List.length_map] at this
    omega
  have hsp : oSplit (.str (Txt.join (Str.ofString "\n") (it.map iLine))) (.str (Str.ofString "\n")) = some (.lst .own ((it.map iLine).map .str)) := splitD rfl htl (split_nl hne (iline_no hk))
  have hpk : D.remL fz (D.remL pk ((itB it).map encBo)) = (itB it).map encB := by rw [remL_map, remL_map]; simp [encBo, encB]
  have hr : oCall d_right_house [.tup [.lst .brw (D.remL pk ((itB it).map encBo)), .lst .brw ((itC it).map .str)]] = some (.bl true) := oCall_nb (ls := []) (by
    simp only [remL_cons, remL_nil, rem_tup, rem_lst, fz_brw, hpk, remL_strs]
    exact right_ok hk) (.inr rfl)
  generalize Txt.join (Str.ofString "\n") (it.map iLine) = text at *
  obtain ⟨ρ', e, y4, y5, y6, rfl⟩ := read_mixed hk (.str text)
  show fnR [false] (b_read_house [some (.str text), none, none, none, none, none, none, none]) = _
  unfold b_read_house
  have hll : ((it.map iLine).map D.str).length = it.length := by simp
  have hLL : D.remL fz ((it.map iLine).map D.str) = (it.map iLine).map D.str := remL_strs
  have hLb : D.chkL (fun m => !m.isBrw) ((it.map iLine).map D.str) = true := chkL_strs
  generalize (it.map iLine).map D.str = LL at *
  rw [seq_nx (ρ' := [some (.str text), some (.lst .own []), none, none, none, none, none, none]) (by simp)]
  rw [seq_nx (ρ' := [some (.str text), some (.lst .own []), some (.lst .own []), none, none, none, none, none]) (by simp)]
  rw [seq_nx (ρ' := [some (.str text), some (.lst .own []), some (.lst .own []), some (.lst .frz LL), none, none, none, none]) (by simp [hsp, hLL, hLb])]
  rw [seq_nx (ρ' := [some (.str text), some (.lst .own ((itB it).map encBo)), some (.lst .own ((itC it).map .str)), some (.lst .frz LL), none, y5, y6, none]) (by
    have hrg : iRng [(lP (pN oLen [(dV 3)]))] [some (.str text), some (.lst .own []), some (.lst .own []), some (.lst .frz LL), none, none, none, none] = some (.ok (.non, rngD 0 it.length) [some (.str text), some (.lst .own []), some (.lst .own []), some (.lst .frz LL), none, none, none, none]) := by
      rw [iRng_1 (j := ((it.length : Nat) : Int)) (ρ' := [some (.str text), some (.lst .own []), some (.lst .own []), some (.lst .frz LL), none, none, none, none]) (by simp [hll]) (okR_small (by omega) (by omega)), Int.toNat_natCast]
    rw [sFor_of hrg, e]; rfl)]
  simp [hr, show 2 ≤ sizeLine by omega]
end DL

end
section
/-! MH: the drawn house. -/
open PySem PySem.Spec L2
namespace DL
def feedD (ns : List Int) (a f2 md big : Int) : D := .lst .own [.lst .own (ns.map .int), .int a, .int f2, .int md, .int big]
/-- a feed: its kind of names f2 -/
def FD (f2 : Int) (d : D) : Prop := ∃ ns a md big, ns.length ≤ 1000 ∧ d = feedD ns a f2 md big
theorem draw_ok {f2 : Int} {d : D} (hd : FD f2 d) (n : Int) (h : 0 < n) (h2 : n < 1000000) : ∃ v d', FD f2 d' ∧ 0 ≤ v ∧ v < n ∧ d_law_draw_664a20 [d, .int n] = some (.ret (.int v) [d']) := by
  obtain ⟨ns, a, md, big, hn, rfl⟩ := hd
  have hn0 : n ≠ 0 := by omega
  by_cases hm : md = 1
  · refine ⟨big.fmod n, feedD ns a f2 md (big.fdiv n), ⟨ns, _, _, _, hn, rfl⟩, Int.fmod_nonneg_of_pos _ h, Int.fmod_lt_of_pos _ h, ?_⟩
    simp [d_law_draw_664a20, b_law_draw_664a20, feedD, hm, hn0, cDiv_ok h (by omega : n < 1073741824)]
  · by_cases hl : ns = []
    · refine ⟨((((a * 48271 + 31 * a).fmod 1000003) * 69621).fmod 999983).fmod n, feedD ns (a + 1) f2 md big, ⟨ns, _, _, _, hn, rfl⟩, Int.fmod_nonneg_of_pos _ h, Int.fmod_lt_of_pos _ h, ?_⟩
      simp [d_law_draw_664a20, b_law_draw_664a20, feedD, hm, hn0, hl, cMul_r, cMul_l]
    · have hpn : 0 < ns.length := List.length_pos_iff.mpr hl
      have hp : 0 < (ns.length : Int) := by omega
      obtain ⟨c, hc, _⟩ := atI_lt (xs := ns) (Int.fmod_nonneg_of_pos a hp) (Int.fmod_lt_of_pos a hp)
      refine ⟨(((((c + a.fdiv ns.length * 31) * 48271 + 31 * a).fmod 1000003) * 69621).fmod 999983).fmod n, feedD ns (a + 1) f2 md big, ⟨ns, _, _, _, hn, rfl⟩, Int.fmod_nonneg_of_pos _ h, Int.fmod_lt_of_pos _ h, ?_⟩
      have hp0 : (ns.length : Int) ≠ 0 := by omega
      simp [d_law_draw_664a20, b_law_draw_664a20, feedD, hm, hn0, hl, cMul_r, cMul_l, hp, hpn, hp0, atI_map, hc, cDiv_ok hp (by omega)]
/-- the feed at the start, with the kind of names drawn -/
theorem feed_ok (ns : List Int) (hn : ns.length ≤ 1000) : ∃ d, FD 0 d ∧ d_law_feed_ea1052 [.lst .ro (ns.map .int)] = some (.ret d []) := by
  have hs := size_big
  have e2 : ∃ a b : Int, ∃ r, cutL (ns.map D.int) none (some 2) ++ [.int 0, .int 0] = .int a :: .int b :: r := by
    match ns with
    | [] => exact ⟨0, 0, [], rfl⟩
    | [x] => exact ⟨x, 0, [.int 0], rfl⟩
    | x :: y :: r =>
      refine ⟨x, y, [.int 0, .int 0], ?_⟩
      unfold cutL
      simp [HT.sIx]
  obtain ⟨a, b, r, e2⟩ := e2
  have l2 : (cutL (ns.map D.int) none (some 2)).length + 2 ≤ 1002 := by
    unfold cutL; simp; omega
  have e3 : cutL (ns.map D.int) none (some 120) = (cutL ns none (some 120)).map .int := by unfold cutL; simp
  have l3 : (cutL ns none (some 120)).length ≤ 1000 := by unfold cutL; simp; omega
  refine ⟨feedD (cutL ns none (some 120)) 0 0 (a.fmod 2) b, ⟨_, _, _, _, l3, rfl⟩, ?_⟩
  have hr : D.chkL (fun m => !m.isBrw) (D.int a :: D.int b :: r) = true := by
    rw [← e2, chkL_append]
    have : cutL (ns.map D.int) none (some 2) = (cutL ns none (some 2)).map .int := by unfold cutL; simp
    rw [this]; simp
  have hr' : D.chkL (fun m => !m.isBrw) r = true := by simpa using hr
  show fnR [false] (b_law_feed_ea1052 [some (.lst .ro (ns.map .int)), none]) = _
  unfold b_law_feed_ea1052
  rw [seq_nx (ρ' := [some (.lst .ro (ns.map .int)), some (.lst .frz (.int a :: .int b :: D.remL fz r))]) (by
    simp [dSl, oN, oS, cutD, e2, hr', show (cutL (ns.map D.int) none (some 2)).length + 2 ≤ sizeLine by omega, show 2 ≤ sizeLine by omega])]
  simp [dSl, oN, oS, cutD, e3, feedD, show 5 ≤ sizeLine by omega]
/-- feed[2] = _draw(feed, 12) -/
theorem set_kind {f2 : Int} {d : D} (hd : FD f2 d) (k : Int) : ∃ ds d', d = .lst .own ds ∧ ds.length = 5 ∧ FD k d' ∧ d' = .lst .own (ds.set 2 (.int k)) := by
  obtain ⟨ns, a, md, big, hn, rfl⟩ := hd
  exact ⟨_, feedD ns a k md big, rfl, rfl, ⟨ns, a, md, big, hn, rfl⟩, rfl⟩
theorem FD.noBrw {f2 : Int} {d : D} (hd : FD f2 d) : d.noBrw = true := by
  obtain ⟨ns, a, md, big, hn, rfl⟩ := hd
  simp [feedD]
/-! ### names -/
def nm (f2 k : Nat) : Str := match d_law_name_3d96c8 [feedD [] 0 f2 0 0, .int k] with
  | some (.ret (.str z) _) => z
  | _ => ⟨#[]⟩
def nmAll (f2 : Nat) : List Str := (List.range 12).map (nm f2)
theorem nm_nodup : ∀ f2, f2 < 60 → (nmAll f2).Nodup := by decide +kernel
theorem nok0 {ns : List Int} {a md big : Int} {k : Nat} (hk : k < 12) : d_law_name_3d96c8 [(feedD ns a (0 : Nat) md big).frz, .int k] = some (.ret (.str (nm 0 k)) []) := by
  have h2 : k = 0 ∨ k = 1 ∨ k = 2 ∨ k = 3 ∨ k = 4 ∨ k = 5 ∨ k = 6 ∨ k = 7 ∨ k = 8 ∨ k = 9 ∨ k = 10 ∨ k = 11 := by omega
  rcases h2 with rfl | rfl | rfl | rfl | rfl | rfl | rfl | rfl | rfl | rfl | rfl | rfl <;> rfl
theorem nok1 {ns : List Int} {a md big : Int} {k : Nat} (hk : k < 12) : d_law_name_3d96c8 [(feedD ns a (1 : Nat) md big).frz, .int k] = some (.ret (.str (nm 1 k)) []) := by
  have h2 : k = 0 ∨ k = 1 ∨ k = 2 ∨ k = 3 ∨ k = 4 ∨ k = 5 ∨ k = 6 ∨ k = 7 ∨ k = 8 ∨ k = 9 ∨ k = 10 ∨ k = 11 := by omega
  rcases h2 with rfl | rfl | rfl | rfl | rfl | rfl | rfl | rfl | rfl | rfl | rfl | rfl <;> rfl
theorem nok2 {ns : List Int} {a md big : Int} {k : Nat} (hk : k < 12) : d_law_name_3d96c8 [(feedD ns a (2 : Nat) md big).frz, .int k] = some (.ret (.str (nm 2 k)) []) := by
  have h2 : k = 0 ∨ k = 1 ∨ k = 2 ∨ k = 3 ∨ k = 4 ∨ k = 5 ∨ k = 6 ∨ k = 7 ∨ k = 8 ∨ k = 9 ∨ k = 10 ∨ k = 11 := by omega
  rcases h2 with rfl | rfl | rfl | rfl | rfl | rfl | rfl | rfl | rfl | rfl | rfl | rfl <;> rfl
theorem nok3 {ns : List Int} {a md big : Int} {k : Nat} (hk : k < 12) : d_law_name_3d96c8 [(feedD ns a (3 : Nat) md big).frz, .int k] = some (.ret (.str (nm 3 k)) []) := by
  have h2 : k = 0 ∨ k = 1 ∨ k = 2 ∨ k = 3 ∨ k = 4 ∨ k = 5 ∨ k = 6 ∨ k = 7 ∨ k = 8 ∨ k = 9 ∨ k = 10 ∨ k = 11 := by omega
  rcases h2 with rfl | rfl | rfl | rfl | rfl | rfl | rfl | rfl | rfl | rfl | rfl | rfl <;> rfl
theorem nok4 {ns : List Int} {a md big : Int} {k : Nat} (hk : k < 12) : d_law_name_3d96c8 [(feedD ns a (4 : Nat) md big).frz, .int k] = some (.ret (.str (nm 4 k)) []) := by
  have h2 : k = 0 ∨ k = 1 ∨ k = 2 ∨ k = 3 ∨ k = 4 ∨ k = 5 ∨ k = 6 ∨ k = 7 ∨ k = 8 ∨ k = 9 ∨ k = 10 ∨ k = 11 := by omega
  rcases h2 with rfl | rfl | rfl | rfl | rfl | rfl | rfl | rfl | rfl | rfl | rfl | rfl <;> rfl
theorem nok5 {ns : List Int} {a md big : Int} {k : Nat} (hk : k < 12) : d_law_name_3d96c8 [(feedD ns a (5 : Nat) md big).frz, .int k] = some (.ret (.str (nm 5 k)) []) := by
  have h2 : k = 0 ∨ k = 1 ∨ k = 2 ∨ k = 3 ∨ k = 4 ∨ k = 5 ∨ k = 6 ∨ k = 7 ∨ k = 8 ∨ k = 9 ∨ k = 10 ∨ k = 11 := by omega
  rcases h2 with rfl | rfl | rfl | rfl | rfl | rfl | rfl | rfl | rfl | rfl | rfl | rfl <;> rfl
theorem nok6 {ns : List Int} {a md big : Int} {k : Nat} (hk : k < 12) : d_law_name_3d96c8 [(feedD ns a (6 : Nat) md big).frz, .int k] = some (.ret (.str (nm 6 k)) []) := by
  have h2 : k = 0 ∨ k = 1 ∨ k = 2 ∨ k = 3 ∨ k = 4 ∨ k = 5 ∨ k = 6 ∨ k = 7 ∨ k = 8 ∨ k = 9 ∨ k = 10 ∨ k = 11 := by omega
  rcases h2 with rfl | rfl | rfl | rfl | rfl | rfl | rfl | rfl | rfl | rfl | rfl | rfl <;> rfl
theorem nok7 {ns : List Int} {a md big : Int} {k : Nat} (hk : k < 12) : d_law_name_3d96c8 [(feedD ns a (7 : Nat) md big).frz, .int k] = some (.ret (.str (nm 7 k)) []) := by
  have h2 : k = 0 ∨ k = 1 ∨ k = 2 ∨ k = 3 ∨ k = 4 ∨ k = 5 ∨ k = 6 ∨ k = 7 ∨ k = 8 ∨ k = 9 ∨ k = 10 ∨ k = 11 := by omega
  rcases h2 with rfl | rfl | rfl | rfl | rfl | rfl | rfl | rfl | rfl | rfl | rfl | rfl <;> rfl
theorem nok8 {ns : List Int} {a md big : Int} {k : Nat} (hk : k < 12) : d_law_name_3d96c8 [(feedD ns a (8 : Nat) md big).frz, .int k] = some (.ret (.str (nm 8 k)) []) := by
  have h2 : k = 0 ∨ k = 1 ∨ k = 2 ∨ k = 3 ∨ k = 4 ∨ k = 5 ∨ k = 6 ∨ k = 7 ∨ k = 8 ∨ k = 9 ∨ k = 10 ∨ k = 11 := by omega
  rcases h2 with rfl | rfl | rfl | rfl | rfl | rfl | rfl | rfl | rfl | rfl | rfl | rfl <;> rfl
theorem nok9 {ns : List Int} {a md big : Int} {k : Nat} (hk : k < 12) : d_law_name_3d96c8 [(feedD ns a (9 : Nat) md big).frz, .int k] = some (.ret (.str (nm 9 k)) []) := by
  have h2 : k = 0 ∨ k = 1 ∨ k = 2 ∨ k = 3 ∨ k = 4 ∨ k = 5 ∨ k = 6 ∨ k = 7 ∨ k = 8 ∨ k = 9 ∨ k = 10 ∨ k = 11 := by omega
  rcases h2 with rfl | rfl | rfl | rfl | rfl | rfl | rfl | rfl | rfl | rfl | rfl | rfl <;> rfl
theorem nok10 {ns : List Int} {a md big : Int} {k : Nat} (hk : k < 12) : d_law_name_3d96c8 [(feedD ns a (10 : Nat) md big).frz, .int k] = some (.ret (.str (nm 10 k)) []) := by
  have h2 : k = 0 ∨ k = 1 ∨ k = 2 ∨ k = 3 ∨ k = 4 ∨ k = 5 ∨ k = 6 ∨ k = 7 ∨ k = 8 ∨ k = 9 ∨ k = 10 ∨ k = 11 := by omega
  rcases h2 with rfl | rfl | rfl | rfl | rfl | rfl | rfl | rfl | rfl | rfl | rfl | rfl <;> rfl
theorem nok11 {ns : List Int} {a md big : Int} {k : Nat} (hk : k < 12) : d_law_name_3d96c8 [(feedD ns a (11 : Nat) md big).frz, .int k] = some (.ret (.str (nm 11 k)) []) := by
  have h2 : k = 0 ∨ k = 1 ∨ k = 2 ∨ k = 3 ∨ k = 4 ∨ k = 5 ∨ k = 6 ∨ k = 7 ∨ k = 8 ∨ k = 9 ∨ k = 10 ∨ k = 11 := by omega
  rcases h2 with rfl | rfl | rfl | rfl | rfl | rfl | rfl | rfl | rfl | rfl | rfl | rfl <;> rfl
theorem nok12 {ns : List Int} {a md big : Int} {k : Nat} (hk : k < 12) : d_law_name_3d96c8 [(feedD ns a (12 : Nat) md big).frz, .int k] = some (.ret (.str (nm 12 k)) []) := by
  have h2 : k = 0 ∨ k = 1 ∨ k = 2 ∨ k = 3 ∨ k = 4 ∨ k = 5 ∨ k = 6 ∨ k = 7 ∨ k = 8 ∨ k = 9 ∨ k = 10 ∨ k = 11 := by omega
  rcases h2 with rfl | rfl | rfl | rfl | rfl | rfl | rfl | rfl | rfl | rfl | rfl | rfl <;> rfl
theorem nok13 {ns : List Int} {a md big : Int} {k : Nat} (hk : k < 12) : d_law_name_3d96c8 [(feedD ns a (13 : Nat) md big).frz, .int k] = some (.ret (.str (nm 13 k)) []) := by
  have h2 : k = 0 ∨ k = 1 ∨ k = 2 ∨ k = 3 ∨ k = 4 ∨ k = 5 ∨ k = 6 ∨ k = 7 ∨ k = 8 ∨ k = 9 ∨ k = 10 ∨ k = 11 := by omega
  rcases h2 with rfl | rfl | rfl | rfl | rfl | rfl | rfl | rfl | rfl | rfl | rfl | rfl <;> rfl
theorem nok14 {ns : List Int} {a md big : Int} {k : Nat} (hk : k < 12) : d_law_name_3d96c8 [(feedD ns a (14 : Nat) md big).frz, .int k] = some (.ret (.str (nm 14 k)) []) := by
  have h2 : k = 0 ∨ k = 1 ∨ k = 2 ∨ k = 3 ∨ k = 4 ∨ k = 5 ∨ k = 6 ∨ k = 7 ∨ k = 8 ∨ k = 9 ∨ k = 10 ∨ k = 11 := by omega
  rcases h2 with rfl | rfl | rfl | rfl | rfl | rfl | rfl | rfl | rfl | rfl | rfl | rfl <;> rfl
theorem nok15 {ns : List Int} {a md big : Int} {k : Nat} (hk : k < 12) : d_law_name_3d96c8 [(feedD ns a (15 : Nat) md big).frz, .int k] = some (.ret (.str (nm 15 k)) []) := by
  have h2 : k = 0 ∨ k = 1 ∨ k = 2 ∨ k = 3 ∨ k = 4 ∨ k = 5 ∨ k = 6 ∨ k = 7 ∨ k = 8 ∨ k = 9 ∨ k = 10 ∨ k = 11 := by omega
  rcases h2 with rfl | rfl | rfl | rfl | rfl | rfl | rfl | rfl | rfl | rfl | rfl | rfl <;> rfl
theorem nok16 {ns : List Int} {a md big : Int} {k : Nat} (hk : k < 12) : d_law_name_3d96c8 [(feedD ns a (16 : Nat) md big).frz, .int k] = some (.ret (.str (nm 16 k)) []) := by
  have h2 : k = 0 ∨ k = 1 ∨ k = 2 ∨ k = 3 ∨ k = 4 ∨ k = 5 ∨ k = 6 ∨ k = 7 ∨ k = 8 ∨ k = 9 ∨ k = 10 ∨ k = 11 := by omega
  rcases h2 with rfl | rfl | rfl | rfl | rfl | rfl | rfl | rfl | rfl | rfl | rfl | rfl <;> rfl
theorem nok17 {ns : List Int} {a md big : Int} {k : Nat} (hk : k < 12) : d_law_name_3d96c8 [(feedD ns a (17 : Nat) md big).frz, .int k] = some (.ret (.str (nm 17 k)) []) := by
  have h2 : k = 0 ∨ k = 1 ∨ k = 2 ∨ k = 3 ∨ k = 4 ∨ k = 5 ∨ k = 6 ∨ k = 7 ∨ k = 8 ∨ k = 9 ∨ k = 10 ∨ k = 11 := by omega
  rcases h2 with rfl | rfl | rfl | rfl | rfl | rfl | rfl | rfl | rfl | rfl | rfl | rfl <;> rfl
theorem nok18 {ns : List Int} {a md big : Int} {k : Nat} (hk : k < 12) : d_law_name_3d96c8 [(feedD ns a (18 : Nat) md big).frz, .int k] = some (.ret (.str (nm 18 k)) []) := by
  have h2 : k = 0 ∨ k = 1 ∨ k = 2 ∨ k = 3 ∨ k = 4 ∨ k = 5 ∨ k = 6 ∨ k = 7 ∨ k = 8 ∨ k = 9 ∨ k = 10 ∨ k = 11 := by omega
  rcases h2 with rfl | rfl | rfl | rfl | rfl | rfl | rfl | rfl | rfl | rfl | rfl | rfl <;> rfl
theorem nok19 {ns : List Int} {a md big : Int} {k : Nat} (hk : k < 12) : d_law_name_3d96c8 [(feedD ns a (19 : Nat) md big).frz, .int k] = some (.ret (.str (nm 19 k)) []) := by
  have h2 : k = 0 ∨ k = 1 ∨ k = 2 ∨ k = 3 ∨ k = 4 ∨ k = 5 ∨ k = 6 ∨ k = 7 ∨ k = 8 ∨ k = 9 ∨ k = 10 ∨ k = 11 := by omega
  rcases h2 with rfl | rfl | rfl | rfl | rfl | rfl | rfl | rfl | rfl | rfl | rfl | rfl <;> rfl
theorem nok20 {ns : List Int} {a md big : Int} {k : Nat} (hk : k < 12) : d_law_name_3d96c8 [(feedD ns a (20 : Nat) md big).frz, .int k] = some (.ret (.str (nm 20 k)) []) := by
  have h2 : k = 0 ∨ k = 1 ∨ k = 2 ∨ k = 3 ∨ k = 4 ∨ k = 5 ∨ k = 6 ∨ k = 7 ∨ k = 8 ∨ k = 9 ∨ k = 10 ∨ k = 11 := by omega
  rcases h2 with rfl | rfl | rfl | rfl | rfl | rfl | rfl | rfl | rfl | rfl | rfl | rfl <;> rfl
theorem nok21 {ns : List Int} {a md big : Int} {k : Nat} (hk : k < 12) : d_law_name_3d96c8 [(feedD ns a (21 : Nat) md big).frz, .int k] = some (.ret (.str (nm 21 k)) []) := by
  have h2 : k = 0 ∨ k = 1 ∨ k = 2 ∨ k = 3 ∨ k = 4 ∨ k = 5 ∨ k = 6 ∨ k = 7 ∨ k = 8 ∨ k = 9 ∨ k = 10 ∨ k = 11 := by omega
  rcases h2 with rfl | rfl | rfl | rfl | rfl | rfl | rfl | rfl | rfl | rfl | rfl | rfl <;> rfl
theorem nok22 {ns : List Int} {a md big : Int} {k : Nat} (hk : k < 12) : d_law_name_3d96c8 [(feedD ns a (22 : Nat) md big).frz, .int k] = some (.ret (.str (nm 22 k)) []) := by
  have h2 : k = 0 ∨ k = 1 ∨ k = 2 ∨ k = 3 ∨ k = 4 ∨ k = 5 ∨ k = 6 ∨ k = 7 ∨ k = 8 ∨ k = 9 ∨ k = 10 ∨ k = 11 := by omega
  rcases h2 with rfl | rfl | rfl | rfl | rfl | rfl | rfl | rfl | rfl | rfl | rfl | rfl <;> rfl
theorem nok23 {ns : List Int} {a md big : Int} {k : Nat} (hk : k < 12) : d_law_name_3d96c8 [(feedD ns a (23 : Nat) md big).frz, .int k] = some (.ret (.str (nm 23 k)) []) := by
  have h2 : k = 0 ∨ k = 1 ∨ k = 2 ∨ k = 3 ∨ k = 4 ∨ k = 5 ∨ k = 6 ∨ k = 7 ∨ k = 8 ∨ k = 9 ∨ k = 10 ∨ k = 11 := by omega
  rcases h2 with rfl | rfl | rfl | rfl | rfl | rfl | rfl | rfl | rfl | rfl | rfl | rfl <;> rfl
theorem nok24 {ns : List Int} {a md big : Int} {k : Nat} (hk : k < 12) : d_law_name_3d96c8 [(feedD ns a (24 : Nat) md big).frz, .int k] = some (.ret (.str (nm 24 k)) []) := by
  have h2 : k = 0 ∨ k = 1 ∨ k = 2 ∨ k = 3 ∨ k = 4 ∨ k = 5 ∨ k = 6 ∨ k = 7 ∨ k = 8 ∨ k = 9 ∨ k = 10 ∨ k = 11 := by omega
  rcases h2 with rfl | rfl | rfl | rfl | rfl | rfl | rfl | rfl | rfl | rfl | rfl | rfl <;> rfl
theorem nok25 {ns : List Int} {a md big : Int} {k : Nat} (hk : k < 12) : d_law_name_3d96c8 [(feedD ns a (25 : Nat) md big).frz, .int k] = some (.ret (.str (nm 25 k)) []) := by
  have h2 : k = 0 ∨ k = 1 ∨ k = 2 ∨ k = 3 ∨ k = 4 ∨ k = 5 ∨ k = 6 ∨ k = 7 ∨ k = 8 ∨ k = 9 ∨ k = 10 ∨ k = 11 := by omega
  rcases h2 with rfl | rfl | rfl | rfl | rfl | rfl | rfl | rfl | rfl | rfl | rfl | rfl <;> rfl
theorem nok26 {ns : List Int} {a md big : Int} {k : Nat} (hk : k < 12) : d_law_name_3d96c8 [(feedD ns a (26 : Nat) md big).frz, .int k] = some (.ret (.str (nm 26 k)) []) := by
  have h2 : k = 0 ∨ k = 1 ∨ k = 2 ∨ k = 3 ∨ k = 4 ∨ k = 5 ∨ k = 6 ∨ k = 7 ∨ k = 8 ∨ k = 9 ∨ k = 10 ∨ k = 11 := by omega
  rcases h2 with rfl | rfl | rfl | rfl | rfl | rfl | rfl | rfl | rfl | rfl | rfl | rfl <;> rfl
theorem nok27 {ns : List Int} {a md big : Int} {k : Nat} (hk : k < 12) : d_law_name_3d96c8 [(feedD ns a (27 : Nat) md big).frz, .int k] = some (.ret (.str (nm 27 k)) []) := by
  have h2 : k = 0 ∨ k = 1 ∨ k = 2 ∨ k = 3 ∨ k = 4 ∨ k = 5 ∨ k = 6 ∨ k = 7 ∨ k = 8 ∨ k = 9 ∨ k = 10 ∨ k = 11 := by omega
  rcases h2 with rfl | rfl | rfl | rfl | rfl | rfl | rfl | rfl | rfl | rfl | rfl | rfl <;> rfl
theorem nok28 {ns : List Int} {a md big : Int} {k : Nat} (hk : k < 12) : d_law_name_3d96c8 [(feedD ns a (28 : Nat) md big).frz, .int k] = some (.ret (.str (nm 28 k)) []) := by
  have h2 : k = 0 ∨ k = 1 ∨ k = 2 ∨ k = 3 ∨ k = 4 ∨ k = 5 ∨ k = 6 ∨ k = 7 ∨ k = 8 ∨ k = 9 ∨ k = 10 ∨ k = 11 := by omega
  rcases h2 with rfl | rfl | rfl | rfl | rfl | rfl | rfl | rfl | rfl | rfl | rfl | rfl <;> rfl
theorem nok29 {ns : List Int} {a md big : Int} {k : Nat} (hk : k < 12) : d_law_name_3d96c8 [(feedD ns a (29 : Nat) md big).frz, .int k] = some (.ret (.str (nm 29 k)) []) := by
  have h2 : k = 0 ∨ k = 1 ∨ k = 2 ∨ k = 3 ∨ k = 4 ∨ k = 5 ∨ k = 6 ∨ k = 7 ∨ k = 8 ∨ k = 9 ∨ k = 10 ∨ k = 11 := by omega
  rcases h2 with rfl | rfl | rfl | rfl | rfl | rfl | rfl | rfl | rfl | rfl | rfl | rfl <;> rfl
theorem nok30 {ns : List Int} {a md big : Int} {k : Nat} (hk : k < 12) : d_law_name_3d96c8 [(feedD ns a (30 : Nat) md big).frz, .int k] = some (.ret (.str (nm 30 k)) []) := by
  have h2 : k = 0 ∨ k = 1 ∨ k = 2 ∨ k = 3 ∨ k = 4 ∨ k = 5 ∨ k = 6 ∨ k = 7 ∨ k = 8 ∨ k = 9 ∨ k = 10 ∨ k = 11 := by omega
  rcases h2 with rfl | rfl | rfl | rfl | rfl | rfl | rfl | rfl | rfl | rfl | rfl | rfl <;> rfl
theorem nok31 {ns : List Int} {a md big : Int} {k : Nat} (hk : k < 12) : d_law_name_3d96c8 [(feedD ns a (31 : Nat) md big).frz, .int k] = some (.ret (.str (nm 31 k)) []) := by
  have h2 : k = 0 ∨ k = 1 ∨ k = 2 ∨ k = 3 ∨ k = 4 ∨ k = 5 ∨ k = 6 ∨ k = 7 ∨ k = 8 ∨ k = 9 ∨ k = 10 ∨ k = 11 := by omega
  rcases h2 with rfl | rfl | rfl | rfl | rfl | rfl | rfl | rfl | rfl | rfl | rfl | rfl <;> rfl
theorem nok32 {ns : List Int} {a md big : Int} {k : Nat} (hk : k < 12) : d_law_name_3d96c8 [(feedD ns a (32 : Nat) md big).frz, .int k] = some (.ret (.str (nm 32 k)) []) := by
  have h2 : k = 0 ∨ k = 1 ∨ k = 2 ∨ k = 3 ∨ k = 4 ∨ k = 5 ∨ k = 6 ∨ k = 7 ∨ k = 8 ∨ k = 9 ∨ k = 10 ∨ k = 11 := by omega
  rcases h2 with rfl | rfl | rfl | rfl | rfl | rfl | rfl | rfl | rfl | rfl | rfl | rfl <;> rfl
theorem nok33 {ns : List Int} {a md big : Int} {k : Nat} (hk : k < 12) : d_law_name_3d96c8 [(feedD ns a (33 : Nat) md big).frz, .int k] = some (.ret (.str (nm 33 k)) []) := by
  have h2 : k = 0 ∨ k = 1 ∨ k = 2 ∨ k = 3 ∨ k = 4 ∨ k = 5 ∨ k = 6 ∨ k = 7 ∨ k = 8 ∨ k = 9 ∨ k = 10 ∨ k = 11 := by omega
  rcases h2 with rfl | rfl | rfl | rfl | rfl | rfl | rfl | rfl | rfl | rfl | rfl | rfl <;> rfl
theorem nok34 {ns : List Int} {a md big : Int} {k : Nat} (hk : k < 12) : d_law_name_3d96c8 [(feedD ns a (34 : Nat) md big).frz, .int k] = some (.ret (.str (nm 34 k)) []) := by
  have h2 : k = 0 ∨ k = 1 ∨ k = 2 ∨ k = 3 ∨ k = 4 ∨ k = 5 ∨ k = 6 ∨ k = 7 ∨ k = 8 ∨ k = 9 ∨ k = 10 ∨ k = 11 := by omega
  rcases h2 with rfl | rfl | rfl | rfl | rfl | rfl | rfl | rfl | rfl | rfl | rfl | rfl <;> rfl
theorem nok35 {ns : List Int} {a md big : Int} {k : Nat} (hk : k < 12) : d_law_name_3d96c8 [(feedD ns a (35 : Nat) md big).frz, .int k] = some (.ret (.str (nm 35 k)) []) := by
  have h2 : k = 0 ∨ k = 1 ∨ k = 2 ∨ k = 3 ∨ k = 4 ∨ k = 5 ∨ k = 6 ∨ k = 7 ∨ k = 8 ∨ k = 9 ∨ k = 10 ∨ k = 11 := by omega
  rcases h2 with rfl | rfl | rfl | rfl | rfl | rfl | rfl | rfl | rfl | rfl | rfl | rfl <;> rfl
theorem nok36 {ns : List Int} {a md big : Int} {k : Nat} (hk : k < 12) : d_law_name_3d96c8 [(feedD ns a (36 : Nat) md big).frz, .int k] = some (.ret (.str (nm 36 k)) []) := by
  have h2 : k = 0 ∨ k = 1 ∨ k = 2 ∨ k = 3 ∨ k = 4 ∨ k = 5 ∨ k = 6 ∨ k = 7 ∨ k = 8 ∨ k = 9 ∨ k = 10 ∨ k = 11 := by omega
  rcases h2 with rfl | rfl | rfl | rfl | rfl | rfl | rfl | rfl | rfl | rfl | rfl | rfl <;> rfl
theorem nok37 {ns : List Int} {a md big : Int} {k : Nat} (hk : k < 12) : d_law_name_3d96c8 [(feedD ns a (37 : Nat) md big).frz, .int k] = some (.ret (.str (nm 37 k)) []) := by
  have h2 : k = 0 ∨ k = 1 ∨ k = 2 ∨ k = 3 ∨ k = 4 ∨ k = 5 ∨ k = 6 ∨ k = 7 ∨ k = 8 ∨ k = 9 ∨ k = 10 ∨ k = 11 := by omega
  rcases h2 with rfl | rfl | rfl | rfl | rfl | rfl | rfl | rfl | rfl | rfl | rfl | rfl <;> rfl
theorem nok38 {ns : List Int} {a md big : Int} {k : Nat} (hk : k < 12) : d_law_name_3d96c8 [(feedD ns a (38 : Nat) md big).frz, .int k] = some (.ret (.str (nm 38 k)) []) := by
  have h2 : k = 0 ∨ k = 1 ∨ k = 2 ∨ k = 3 ∨ k = 4 ∨ k = 5 ∨ k = 6 ∨ k = 7 ∨ k = 8 ∨ k = 9 ∨ k = 10 ∨ k = 11 := by omega
  rcases h2 with rfl | rfl | rfl | rfl | rfl | rfl | rfl | rfl | rfl | rfl | rfl | rfl <;> rfl
theorem nok39 {ns : List Int} {a md big : Int} {k : Nat} (hk : k < 12) : d_law_name_3d96c8 [(feedD ns a (39 : Nat) md big).frz, .int k] = some (.ret (.str (nm 39 k)) []) := by
  have h2 : k = 0 ∨ k = 1 ∨ k = 2 ∨ k = 3 ∨ k = 4 ∨ k = 5 ∨ k = 6 ∨ k = 7 ∨ k = 8 ∨ k = 9 ∨ k = 10 ∨ k = 11 := by omega
  rcases h2 with rfl | rfl | rfl | rfl | rfl | rfl | rfl | rfl | rfl | rfl | rfl | rfl <;> rfl
theorem nok40 {ns : List Int} {a md big : Int} {k : Nat} (hk : k < 12) : d_law_name_3d96c8 [(feedD ns a (40 : Nat) md big).frz, .int k] = some (.ret (.str (nm 40 k)) []) := by
  have h2 : k = 0 ∨ k = 1 ∨ k = 2 ∨ k = 3 ∨ k = 4 ∨ k = 5 ∨ k = 6 ∨ k = 7 ∨ k = 8 ∨ k = 9 ∨ k = 10 ∨ k = 11 := by omega
  rcases h2 with rfl | rfl | rfl | rfl | rfl | rfl | rfl | rfl | rfl | rfl | rfl | rfl <;> rfl
theorem nok41 {ns : List Int} {a md big : Int} {k : Nat} (hk : k < 12) : d_law_name_3d96c8 [(feedD ns a (41 : Nat) md big).frz, .int k] = some (.ret (.str (nm 41 k)) []) := by
  have h2 : k = 0 ∨ k = 1 ∨ k = 2 ∨ k = 3 ∨ k = 4 ∨ k = 5 ∨ k = 6 ∨ k = 7 ∨ k = 8 ∨ k = 9 ∨ k = 10 ∨ k = 11 := by omega
  rcases h2 with rfl | rfl | rfl | rfl | rfl | rfl | rfl | rfl | rfl | rfl | rfl | rfl <;> rfl
theorem nok42 {ns : List Int} {a md big : Int} {k : Nat} (hk : k < 12) : d_law_name_3d96c8 [(feedD ns a (42 : Nat) md big).frz, .int k] = some (.ret (.str (nm 42 k)) []) := by
  have h2 : k = 0 ∨ k = 1 ∨ k = 2 ∨ k = 3 ∨ k = 4 ∨ k = 5 ∨ k = 6 ∨ k = 7 ∨ k = 8 ∨ k = 9 ∨ k = 10 ∨ k = 11 := by omega
  rcases h2 with rfl | rfl | rfl | rfl | rfl | rfl | rfl | rfl | rfl | rfl | rfl | rfl <;> rfl
theorem nok43 {ns : List Int} {a md big : Int} {k : Nat} (hk : k < 12) : d_law_name_3d96c8 [(feedD ns a (43 : Nat) md big).frz, .int k] = some (.ret (.str (nm 43 k)) []) := by
  have h2 : k = 0 ∨ k = 1 ∨ k = 2 ∨ k = 3 ∨ k = 4 ∨ k = 5 ∨ k = 6 ∨ k = 7 ∨ k = 8 ∨ k = 9 ∨ k = 10 ∨ k = 11 := by omega
  rcases h2 with rfl | rfl | rfl | rfl | rfl | rfl | rfl | rfl | rfl | rfl | rfl | rfl <;> rfl
theorem nok44 {ns : List Int} {a md big : Int} {k : Nat} (hk : k < 12) : d_law_name_3d96c8 [(feedD ns a (44 : Nat) md big).frz, .int k] = some (.ret (.str (nm 44 k)) []) := by
  have h2 : k = 0 ∨ k = 1 ∨ k = 2 ∨ k = 3 ∨ k = 4 ∨ k = 5 ∨ k = 6 ∨ k = 7 ∨ k = 8 ∨ k = 9 ∨ k = 10 ∨ k = 11 := by omega
  rcases h2 with rfl | rfl | rfl | rfl | rfl | rfl | rfl | rfl | rfl | rfl | rfl | rfl <;> rfl
theorem nok45 {ns : List Int} {a md big : Int} {k : Nat} (hk : k < 12) : d_law_name_3d96c8 [(feedD ns a (45 : Nat) md big).frz, .int k] = some (.ret (.str (nm 45 k)) []) := by
  have h2 : k = 0 ∨ k = 1 ∨ k = 2 ∨ k = 3 ∨ k = 4 ∨ k = 5 ∨ k = 6 ∨ k = 7 ∨ k = 8 ∨ k = 9 ∨ k = 10 ∨ k = 11 := by omega
  rcases h2 with rfl | rfl | rfl | rfl | rfl | rfl | rfl | rfl | rfl | rfl | rfl | rfl <;> rfl
theorem nok46 {ns : List Int} {a md big : Int} {k : Nat} (hk : k < 12) : d_law_name_3d96c8 [(feedD ns a (46 : Nat) md big).frz, .int k] = some (.ret (.str (nm 46 k)) []) := by
  have h2 : k = 0 ∨ k = 1 ∨ k = 2 ∨ k = 3 ∨ k = 4 ∨ k = 5 ∨ k = 6 ∨ k = 7 ∨ k = 8 ∨ k = 9 ∨ k = 10 ∨ k = 11 := by omega
  rcases h2 with rfl | rfl | rfl | rfl | rfl | rfl | rfl | rfl | rfl | rfl | rfl | rfl <;> rfl
theorem nok47 {ns : List Int} {a md big : Int} {k : Nat} (hk : k < 12) : d_law_name_3d96c8 [(feedD ns a (47 : Nat) md big).frz, .int k] = some (.ret (.str (nm 47 k)) []) := by
  have h2 : k = 0 ∨ k = 1 ∨ k = 2 ∨ k = 3 ∨ k = 4 ∨ k = 5 ∨ k = 6 ∨ k = 7 ∨ k = 8 ∨ k = 9 ∨ k = 10 ∨ k = 11 := by omega
  rcases h2 with rfl | rfl | rfl | rfl | rfl | rfl | rfl | rfl | rfl | rfl | rfl | rfl <;> rfl
theorem nok48 {ns : List Int} {a md big : Int} {k : Nat} (hk : k < 12) : d_law_name_3d96c8 [(feedD ns a (48 : Nat) md big).frz, .int k] = some (.ret (.str (nm 48 k)) []) := by
  have h2 : k = 0 ∨ k = 1 ∨ k = 2 ∨ k = 3 ∨ k = 4 ∨ k = 5 ∨ k = 6 ∨ k = 7 ∨ k = 8 ∨ k = 9 ∨ k = 10 ∨ k = 11 := by omega
  rcases h2 with rfl | rfl | rfl | rfl | rfl | rfl | rfl | rfl | rfl | rfl | rfl | rfl <;> rfl
theorem nok49 {ns : List Int} {a md big : Int} {k : Nat} (hk : k < 12) : d_law_name_3d96c8 [(feedD ns a (49 : Nat) md big).frz, .int k] = some (.ret (.str (nm 49 k)) []) := by
  have h2 : k = 0 ∨ k = 1 ∨ k = 2 ∨ k = 3 ∨ k = 4 ∨ k = 5 ∨ k = 6 ∨ k = 7 ∨ k = 8 ∨ k = 9 ∨ k = 10 ∨ k = 11 := by omega
  rcases h2 with rfl | rfl | rfl | rfl | rfl | rfl | rfl | rfl | rfl | rfl | rfl | rfl <;> rfl
theorem nok50 {ns : List Int} {a md big : Int} {k : Nat} (hk : k < 12) : d_law_name_3d96c8 [(feedD ns a (50 : Nat) md big).frz, .int k] = some (.ret (.str (nm 50 k)) []) := by
  have h2 : k = 0 ∨ k = 1 ∨ k = 2 ∨ k = 3 ∨ k = 4 ∨ k = 5 ∨ k = 6 ∨ k = 7 ∨ k = 8 ∨ k = 9 ∨ k = 10 ∨ k = 11 := by omega
  rcases h2 with rfl | rfl | rfl | rfl | rfl | rfl | rfl | rfl | rfl | rfl | rfl | rfl <;> rfl
theorem nok51 {ns : List Int} {a md big : Int} {k : Nat} (hk : k < 12) : d_law_name_3d96c8 [(feedD ns a (51 : Nat) md big).frz, .int k] = some (.ret (.str (nm 51 k)) []) := by
  have h2 : k = 0 ∨ k = 1 ∨ k = 2 ∨ k = 3 ∨ k = 4 ∨ k = 5 ∨ k = 6 ∨ k = 7 ∨ k = 8 ∨ k = 9 ∨ k = 10 ∨ k = 11 := by omega
  rcases h2 with rfl | rfl | rfl | rfl | rfl | rfl | rfl | rfl | rfl | rfl | rfl | rfl <;> rfl
theorem nok52 {ns : List Int} {a md big : Int} {k : Nat} (hk : k < 12) : d_law_name_3d96c8 [(feedD ns a (52 : Nat) md big).frz, .int k] = some (.ret (.str (nm 52 k)) []) := by
  have h2 : k = 0 ∨ k = 1 ∨ k = 2 ∨ k = 3 ∨ k = 4 ∨ k = 5 ∨ k = 6 ∨ k = 7 ∨ k = 8 ∨ k = 9 ∨ k = 10 ∨ k = 11 := by omega
  rcases h2 with rfl | rfl | rfl | rfl | rfl | rfl | rfl | rfl | rfl | rfl | rfl | rfl <;> rfl
theorem nok53 {ns : List Int} {a md big : Int} {k : Nat} (hk : k < 12) : d_law_name_3d96c8 [(feedD ns a (53 : Nat) md big).frz, .int k] = some (.ret (.str (nm 53 k)) []) := by
  have h2 : k = 0 ∨ k = 1 ∨ k = 2 ∨ k = 3 ∨ k = 4 ∨ k = 5 ∨ k = 6 ∨ k = 7 ∨ k = 8 ∨ k = 9 ∨ k = 10 ∨ k = 11 := by omega
  rcases h2 with rfl | rfl | rfl | rfl | rfl | rfl | rfl | rfl | rfl | rfl | rfl | rfl <;> rfl
theorem nok54 {ns : List Int} {a md big : Int} {k : Nat} (hk : k < 12) : d_law_name_3d96c8 [(feedD ns a (54 : Nat) md big).frz, .int k] = some (.ret (.str (nm 54 k)) []) := by
  have h2 : k = 0 ∨ k = 1 ∨ k = 2 ∨ k = 3 ∨ k = 4 ∨ k = 5 ∨ k = 6 ∨ k = 7 ∨ k = 8 ∨ k = 9 ∨ k = 10 ∨ k = 11 := by omega
  rcases h2 with rfl | rfl | rfl | rfl | rfl | rfl | rfl | rfl | rfl | rfl | rfl | rfl <;> rfl
theorem nok55 {ns : List Int} {a md big : Int} {k : Nat} (hk : k < 12) : d_law_name_3d96c8 [(feedD ns a (55 : Nat) md big).frz, .int k] = some (.ret (.str (nm 55 k)) []) := by
  have h2 : k = 0 ∨ k = 1 ∨ k = 2 ∨ k = 3 ∨ k = 4 ∨ k = 5 ∨ k = 6 ∨ k = 7 ∨ k = 8 ∨ k = 9 ∨ k = 10 ∨ k = 11 := by omega
  rcases h2 with rfl | rfl | rfl | rfl | rfl | rfl | rfl | rfl | rfl | rfl | rfl | rfl <;> rfl
theorem nok56 {ns : List Int} {a md big : Int} {k : Nat} (hk : k < 12) : d_law_name_3d96c8 [(feedD ns a (56 : Nat) md big).frz, .int k] = some (.ret (.str (nm 56 k)) []) := by
  have h2 : k = 0 ∨ k = 1 ∨ k = 2 ∨ k = 3 ∨ k = 4 ∨ k = 5 ∨ k = 6 ∨ k = 7 ∨ k = 8 ∨ k = 9 ∨ k = 10 ∨ k = 11 := by omega
  rcases h2 with rfl | rfl | rfl | rfl | rfl | rfl | rfl | rfl | rfl | rfl | rfl | rfl <;> rfl
theorem nok57 {ns : List Int} {a md big : Int} {k : Nat} (hk : k < 12) : d_law_name_3d96c8 [(feedD ns a (57 : Nat) md big).frz, .int k] = some (.ret (.str (nm 57 k)) []) := by
  have h2 : k = 0 ∨ k = 1 ∨ k = 2 ∨ k = 3 ∨ k = 4 ∨ k = 5 ∨ k = 6 ∨ k = 7 ∨ k = 8 ∨ k = 9 ∨ k = 10 ∨ k = 11 := by omega
  rcases h2 with rfl | rfl | rfl | rfl | rfl | rfl | rfl | rfl | rfl | rfl | rfl | rfl <;> rfl
theorem nok58 {ns : List Int} {a md big : Int} {k : Nat} (hk : k < 12) : d_law_name_3d96c8 [(feedD ns a (58 : Nat) md big).frz, .int k] = some (.ret (.str (nm 58 k)) []) := by
  have h2 : k = 0 ∨ k = 1 ∨ k = 2 ∨ k = 3 ∨ k = 4 ∨ k = 5 ∨ k = 6 ∨ k = 7 ∨ k = 8 ∨ k = 9 ∨ k = 10 ∨ k = 11 := by omega
  rcases h2 with rfl | rfl | rfl | rfl | rfl | rfl | rfl | rfl | rfl | rfl | rfl | rfl <;> rfl
theorem nok59 {ns : List Int} {a md big : Int} {k : Nat} (hk : k < 12) : d_law_name_3d96c8 [(feedD ns a (59 : Nat) md big).frz, .int k] = some (.ret (.str (nm 59 k)) []) := by
  have h2 : k = 0 ∨ k = 1 ∨ k = 2 ∨ k = 3 ∨ k = 4 ∨ k = 5 ∨ k = 6 ∨ k = 7 ∨ k = 8 ∨ k = 9 ∨ k = 10 ∨ k = 11 := by omega
  rcases h2 with rfl | rfl | rfl | rfl | rfl | rfl | rfl | rfl | rfl | rfl | rfl | rfl <;> rfl
theorem name_ok {f2 k : Nat} {d : D} (hd : FD f2 d) (h : f2 < 60) (hk : k < 12) : d_law_name_3d96c8 [d.frz, .int k] = some (.ret (.str (nm f2 k)) []) := by
  obtain ⟨ns, a, md, big, hn, rfl⟩ := hd
  match f2, h with
  | 0, _ => exact nok0 hk
  | 1, _ => exact nok1 hk
  | 2, _ => exact nok2 hk
  | 3, _ => exact nok3 hk
  | 4, _ => exact nok4 hk
  | 5, _ => exact nok5 hk
  | 6, _ => exact nok6 hk
  | 7, _ => exact nok7 hk
  | 8, _ => exact nok8 hk
  | 9, _ => exact nok9 hk
  | 10, _ => exact nok10 hk
  | 11, _ => exact nok11 hk
  | 12, _ => exact nok12 hk
  | 13, _ => exact nok13 hk
  | 14, _ => exact nok14 hk
  | 15, _ => exact nok15 hk
  | 16, _ => exact nok16 hk
  | 17, _ => exact nok17 hk
  | 18, _ => exact nok18 hk
  | 19, _ => exact nok19 hk
  | 20, _ => exact nok20 hk
  | 21, _ => exact nok21 hk
  | 22, _ => exact nok22 hk
  | 23, _ => exact nok23 hk
  | 24, _ => exact nok24 hk
  | 25, _ => exact nok25 hk
  | 26, _ => exact nok26 hk
  | 27, _ => exact nok27 hk
  | 28, _ => exact nok28 hk
  | 29, _ => exact nok29 hk
  | 30, _ => exact nok30 hk
  | 31, _ => exact nok31 hk
  | 32, _ => exact nok32 hk
  | 33, _ => exact nok33 hk
  | 34, _ => exact nok34 hk
  | 35, _ => exact nok35 hk
  | 36, _ => exact nok36 hk
  | 37, _ => exact nok37 hk
  | 38, _ => exact nok38 hk
  | 39, _ => exact nok39 hk
  | 40, _ => exact nok40 hk
  | 41, _ => exact nok41 hk
  | 42, _ => exact nok42 hk
  | 43, _ => exact nok43 hk
  | 44, _ => exact nok44 hk
  | 45, _ => exact nok45 hk
  | 46, _ => exact nok46 hk
  | 47, _ => exact nok47 hk
  | 48, _ => exact nok48 hk
  | 49, _ => exact nok49 hk
  | 50, _ => exact nok50 hk
  | 51, _ => exact nok51 hk
  | 52, _ => exact nok52 hk
  | 53, _ => exact nok53 hk
  | 54, _ => exact nok54 hk
  | 55, _ => exact nok55 hk
  | 56, _ => exact nok56 hk
  | 57, _ => exact nok57 hk
  | 58, _ => exact nok58 hk
  | 59, _ => exact nok59 hk
  | n + 60, h => exact absurd h (by omega)
end DL

end
section
/-! MI: the drawn house: outs, belts. -/
open PySem PySem.Spec L2
namespace DL
theorem outs_ok {f2 : Int} {d : D} (hd : FD f2 d) (later carts : List Str) (hl : later.length ≤ 1000) (hc : carts.length ≤ 1000) (c0 : Str) (cr : List Str) (hc0 : carts = c0 :: cr) :
    ∃ (outs : List Str) (d' : D), FD f2 d' ∧ (∀ o ∈ outs, o ∈ later ++ carts) ∧ outs.Nodup ∧ outs.length ≤ 4 ∧ outs ≠ [] ∧ (c0 ∈ outs ∨ ∃ o ∈ outs, o ∈ later) ∧
      d_law_outs_609918 [d, .lst .frz (later.map .str), .lst .frz (carts.map .str)] = some (.ret (.lst .own (outs.map .str)) [d']) := by
  have hs := size_big
  obtain ⟨n, d1, hd1, n0, n3, e1⟩ := draw_ok hd 3 (by decide) (by decide)
  have L := loop_inv (b := bN 4) (g := (sSeq (sF 5 (eB ixD (lP (pB oAdd (dV 1) (dV 2))) (eC d_law_draw_664a20 [.ln 0, .ex (lP (pB oAdd (pN oLen [(dV 1)]) (pN oLen [(dV 2)])))])))
    (sIf (lQ (qB (pB (oIn true) (dV 5) (dK 3)))) (sExpr (eL oIns 3 [(eC d_law_draw_664a20 [.ln 0, .ex (lP (pB oAdd (pN oLen [(dK 3)]) (dC (.int 1))))]), (lP (dV 5))])) sNil)))
    (I := fun k ρ => ∃ (d2 : D) (outs : List Str) (y4 y5 : Option D), FD f2 d2 ∧ (∀ o ∈ outs, o ∈ later ++ carts) ∧ outs.Nodup ∧ outs.length ≤ k ∧ (0 < k → outs ≠ []) ∧ ρ = [some d2, some (.lst .frz (later.map .str)), some (.lst .frz (carts.map .str)), some (.lst .own (outs.map .str)), y4, y5])
    (ds := rngD 0 (1 + n).toNat)
    (fun k d ρ e ⟨d2, outs, y4, y5, hd2, ho, hn, hk, hne, hρ⟩ => by
      obtain ⟨hkn, rfl⟩ := rngD_get e
      subst hρ
      have hk3 : k < 3 := by omega
      have hlen : (0 : Int) < (later.length : Int) + (carts.length : Int) := by rw [hc0]; simp; omega
      obtain ⟨v, d3, hd3, v0, v1, e3⟩ := draw_ok hd2 ((later.length : Int) + (carts.length : Int)) hlen (by omega)
      obtain ⟨x, ex, hx⟩ := atI_lt (xs := later ++ carts) v0 (by rw [List.length_append]; omega)
      have exD : atI (later.map D.str ++ carts.map D.str) v = some (.str x) := by rw [← List.map_append, atI_map, ex]; rfl
      have eC1 : ∀ y4 y5 o, eC d_law_draw_664a20 [.ln 0, .ex (lP (pB oAdd (pN oLen [(dV 1)]) (pN oLen [(dV 2)])))] [some d2, some (.lst .frz (later.map .str)), some (.lst .frz (carts.map .str)), o, y4, y5] = some (.ok (.int v) [some d3, some (.lst .frz (later.map .str)), some (.lst .frz (carts.map .str)), o, y4, y5]) := fun y4 y5 o =>
        eC_le (d := d2) (d' := d3) (x := .int ((later.length : Int) + (carts.length : Int))) rfl (by simp) rfl e3
      have hlc : later.length + carts.length ≤ sizeLine := by omega
      by_cases hxo : x ∈ outs
      · refine ⟨_, [some d3, some (.lst .frz (later.map .str)), some (.lst .frz (carts.map .str)), some (.lst .own (outs.map .str)), some (.int (0 + k)), some (.str x)], rfl, ?_, d3, outs, _, _, hd3, ho, hn, by omega, fun _ h => (by rw [h] at hxo; cases hxo), rfl⟩
        simp [eC1, exD, hxo, hlc]
      · obtain ⟨j, d4, hd4, j0, j1, e4⟩ := draw_ok hd3 ((outs.length : Int) + 1) (by omega) (by omega)
        have eC2 : ∀ y4 y5, eC d_law_draw_664a20 [.ln 0, .ex (lP (pB oAdd (pN oLen [(dK 3)]) (dC (.int 1))))] [some d3, some (.lst .frz (later.map .str)), some (.lst .frz (carts.map .str)), some (.lst .own (outs.map .str)), y4, y5] = some (.ok (.int j) [some d4, some (.lst .frz (later.map .str)), some (.lst .frz (carts.map .str)), some (.lst .own (outs.map .str)), y4, y5]) := fun y4 y5 =>
          eC_le (d := d3) (d' := d4) (x := .int ((outs.length : Int) + 1)) rfl (by simp) rfl e4
        refine ⟨_, [some d4, some (.lst .frz (later.map .str)), some (.lst .frz (carts.map .str)), some (.lst .own ((outs.take j.toNat ++ [x] ++ outs.drop j.toNat).map .str)), some (.int (0 + k)), some (.str x)], rfl, ?_, d4, outs.take j.toNat ++ [x] ++ outs.drop j.toNat, _, _, hd4, ?_, ?_, ?_, fun _ h => (by simp at h), rfl⟩
        · simp [eC1, eC2, exD, hxo, hlc, j0, show outs.length < sizeLine by omega, show j < 9223372036854775808 by omega]
        · intro o h
          simp only [List.mem_append, List.mem_singleton] at h
          rcases h with (h | h) | h
          · exact ho o (List.mem_of_mem_take h)
          · rw [h]; exact hx
          · exact ho o (List.mem_of_mem_drop h)
        · have hp : (outs.take j.toNat ++ [x] ++ outs.drop j.toNat).Perm (x :: outs) := by
            have := (List.perm_middle (a := x) (l₁ := outs.take j.toNat) (l₂ := outs.drop j.toNat))
            rw [List.take_append_drop] at this
            simpa using this
          exact hp.nodup_iff.mpr (List.nodup_cons.mpr ⟨hxo, hn⟩)
        · simp; omega)
    (ρ := [some d1, some (.lst .frz (later.map .str)), some (.lst .frz (carts.map .str)), some (.lst .own []), none, none]) ⟨d1, [], _, _, hd1, by simp, by simp, by simp, by simp, rfl⟩
  obtain ⟨ρ1, eLp, d2, outs, y4, y5, hd2, ho, hn, hk, hne, rfl⟩ := L
  rw [rngD_len] at hk hne
  have hne := hne (by omega)
  -- the run
  have run0 : ∀ r, fnR [true, false, false] ((sSeq (sIf (tAndF (lQ (qB (pB (oIn true) (pB ixD (dV 2) (dC (.int 0))) (dK 3)))) (eT (eB oEq (eN oLen [(eLcO 3 (bN 5) (lQ (qB (pB (oIn false) (dV 5) (dV 1)))) (lP (dV 5)) [5])]) (lP (dC (.int 0)))))) (sExpr (eL oIns 3 [(eC d_law_draw_664a20 [.ln 0, .ex (lP (pB oAdd (pN oLen [(dK 3)]) (dC (.int 1))))]), (lP (pB ixD (dV 2) (dC (.int 0))))])) sNil)
    (sRet (eMv 3))) [some d2, some (.lst .frz (later.map .str)), some (.lst .frz (carts.map .str)), some (.lst .own (outs.map .str)), none, y5]) = r → d_law_outs_609918 [d, .lst .frz (later.map .str), .lst .frz (carts.map .str)] = r := by
    intro r hr
    show fnR [true, false, false] (b_law_outs_609918 [some d, some (.lst .frz (later.map .str)), some (.lst .frz (carts.map .str)), none, none, none]) = _
    unfold b_law_outs_609918
    rw [seq_nx (ρ' := [some d, some (.lst .frz (later.map .str)), some (.lst .frz (carts.map .str)), some (.lst .own []), none, none]) (by simp)]
    have eC0 : eC d_law_draw_664a20 [.ln 0, .ex (lP (dC (.int 3)))] [some d, some (.lst .frz (later.map .str)), some (.lst .frz (carts.map .str)), some (.lst .own []), none, none] = some (.ok (.int n) [some d1, some (.lst .frz (later.map .str)), some (.lst .frz (carts.map .str)), some (.lst .own []), none, none]) :=
      eC_le (d := d) (d' := d1) (x := .int 3) rfl (by simp) rfl e1
    rw [seq_nx (ρ' := [some d2, some (.lst .frz (later.map .str)), some (.lst .frz (carts.map .str)), some (.lst .own (outs.map .str)), none, y5]) (by
      rw [sFor_of (iRng_1 (j := 1 + n) (ρ' := [some d1, some (.lst .frz (later.map .str)), some (.lst .frz (carts.map .str)), some (.lst .own []), none, none]) (by simp [eC0]) (okR_small (by omega) (by omega))), eLp]; rfl)]
    exact hr
  have hcat : atI (carts.map D.str) 0 = some (.str c0) := by rw [hc0]; simp
  by_cases hc0o : c0 ∈ outs
  · refine ⟨outs, d2, hd2, ho, hn, by omega, hne, .inl hc0o, run0 _ ?_⟩
    simp [hcat, hc0o]
  · have hLc : ∀ y5, eLcO 3 (bN 5) (lQ (qB (pB (oIn false) (dV 5) (dV 1)))) (lP (dV 5)) [5] [some d2, some (.lst .frz (later.map .str)), some (.lst .frz (carts.map .str)), some (.lst .own (outs.map .str)), none, y5] = some (.ok (.lst .own (((outs.map D.str).filter fun x => (later.map D.str).any fun y => eqF y x).map id)) [some d2, some (.lst .frz (later.map .str)), some (.lst .frz (carts.map .str)), some (.lst .own (outs.map .str)), none, none]) := fun y5 => by
      refine eLcO_pure (ρ0 := [some d2, some (.lst .frz (later.map .str)), some (.lst .frz (carts.map .str)), none, none, none]) _ _ rfl (by simp) (by simp) rfl rfl (fun x hx => ?_) (by simp; omega) (by simp)
      obtain ⟨o, ho', rfl⟩ := List.mem_map.mp hx
      refine ⟨_, rfl, ?_, fun _ => ⟨rfl, rfl⟩, rfl⟩
      rw [any_str]
      simp
    have hfil : ((outs.map D.str).filter fun x => (later.map D.str).any fun y => eqF y x) = (outs.filter fun o => decide (o ∈ later)).map D.str := by
      rw [List.filter_map]
      congr 1
      apply List.filter_congr
      intro o _
      exact any_str o later
    simp only [List.map_id, hfil] at hLc
    by_cases hlen : (outs.filter fun o => decide (o ∈ later)).length = 0
    · obtain ⟨j, d4, hd4, j0, j1, e4⟩ := draw_ok hd2 ((outs.length : Int) + 1) (by omega) (by omega)
      have eC2 : eC d_law_draw_664a20 [.ln 0, .ex (lP (pB oAdd (pN oLen [(dK 3)]) (dC (.int 1))))] [some d2, some (.lst .frz (later.map .str)), some (.lst .frz (carts.map .str)), some (.lst .own (outs.map .str)), none, none] = some (.ok (.int j) [some d4, some (.lst .frz (later.map .str)), some (.lst .frz (carts.map .str)), some (.lst .own (outs.map .str)), none, none]) :=
        eC_le (d := d2) (d' := d4) (x := .int ((outs.length : Int) + 1)) rfl (by simp) rfl e4
      have hp : (outs.take j.toNat ++ [c0] ++ outs.drop j.toNat).Perm (c0 :: outs) := by
        have := (List.perm_middle (a := c0) (l₁ := outs.take j.toNat) (l₂ := outs.drop j.toNat))
        rw [List.take_append_drop] at this
        simpa using this
      refine ⟨outs.take j.toNat ++ [c0] ++ outs.drop j.toNat, d4, hd4, fun o h => ?_, hp.nodup_iff.mpr (List.nodup_cons.mpr ⟨hc0o, hn⟩), ?_, by simp, .inl (by simp), run0 _ ?_⟩
      · rcases List.mem_cons.mp (hp.mem_iff.mp h) with h | h
        · rw [h, hc0]; simp
        · exact ho o h
      · rw [hp.length_eq, List.length_cons]; omega
      · simp [hcat, hc0o, hLc, hlen, eC2, j0, show outs.length < sizeLine by omega, show j < 9223372036854775808 by omega]
    · obtain ⟨o, h1⟩ := List.exists_mem_of_length_pos (Nat.pos_of_ne_zero hlen)
      have h2 := List.mem_filter.mp h1
      refine ⟨outs, d2, hd2, ho, hn, by omega, hne, .inr ⟨o, h2.1, of_decide_eq_true h2.2⟩, run0 _ ?_⟩
      simp [hcat, hc0o, hLc, hlen]
end DL

end
section
/-! MJ: the drawn house: belts and carts. -/
open PySem PySem.Spec L2
namespace DL
/-- the belts' names from the place k on; the carts' names -/
def bnames (f2 k n : Nat) : List Str := (List.range n).map fun i => nm f2 (k + i)
def cnames (f2 n : Nat) : List Str := (List.range n).map fun k => nm f2 (11 - k)
theorem bnames_cons (f2 k n : Nat) : bnames f2 k (n + 1) = nm f2 k :: bnames f2 (k + 1) n := by
  unfold bnames
  rw [List.range_succ_eq_map, List.map_cons, List.map_map]
  congr 1
  apply List.map_congr_left
  intro i _
  show nm f2 (k + (i + 1)) = nm f2 (k + 1 + i)
  rw [show k + (i + 1) = k + 1 + i by omega]
theorem carts_ok {f2 : Nat} (h : f2 < 60) {d1 : D} (hd : FD f2 d1) (n : Nat) (hn : n ≤ 5) (ρ ρ0 : Env) (q : IF) (hq : q ρ = some (.ok (.non, rngD 0 n) ρ0)) (h0 : getS ρ0 0 = some d1) (hc : clrS [5] ρ0 = ρ0) (h5 : 5 < ρ0.length) :
    eLc q (bN 5) tYesF (lP (pN (oCall d_law_name_3d96c8) [(dK 0), (pB oSub (dC (.int 11)) (dV 5))])) [5] ρ = some (.ok (.lst .own ((cnames f2 n).map .str)) ρ0) := by
  have hs := size_big
  have key := eLc_pure (q := q) (b := bN 5) (t := tYesF) (f := lP (pN (oCall d_law_name_3d96c8) [(dK 0), (pB oSub (dC (.int 11)) (dV 5))])) (is := [5]) (fun _ => true) (fun x => match x with | .int k => .str (nm f2 (11 - k.toNat)) | x => x) hq hc hc (fun x hx => by
    obtain ⟨k, hk⟩ := List.mem_iff_getElem?.mp hx
    obtain ⟨hkn, rfl⟩ := rngD_get hk
    rw [show (0 : Int) + (k : Int) = k by omega]
    refine ⟨setS ρ0 5 (some (.int (k : Int))), by simp [h5], rfl, fun _ => ⟨?_, rfl⟩, ?_⟩
    · have hno := name_ok (k := 11 - k) hd h (by omega)
      have e1 : getS (setS ρ0 5 (some (.int (k : Int)))) 0 = some d1 := by rw [getS_setS_ne _ _ _ _ (by decide)]; exact h0
      have e2 : getS (setS ρ0 5 (some (.int (k : Int)))) 5 = some (.int k) := getS_setS_eq h5
      have e3 : D.rem fz (d1.peek) = d1.frz := by
        obtain ⟨ns, a, md, big, hn, rfl⟩ := hd
        simp [feedD]
      have e4 : oCall d_law_name_3d96c8 [d1.peek, .int ((11 : Int) - k)] = some (.str (nm f2 (11 - k))) := oCall_nb (ls := []) (by
        rw [show (11 : Int) - (k : Int) = ((11 - k : Nat) : Int) by omega, ← hno]
        simp only [remL_cons, remL_nil, rem_int, e3]) (.inr rfl)
      simp [e1, e2, e4]
    · show setS (setS ρ0 5 _) 5 none = ρ0
      rw [setS_setS]; exact hc) (by rw [rngD_len]; omega)
  rw [key]
  congr 2
  unfold cnames rngD
  rw [List.filter_eq_self.mpr (fun _ _ => rfl), List.map_map, List.map_map]
  congr 1
  apply List.map_congr_left
  intro k _
  simp
end DL

end
section
/-! MK: the drawn house stands. -/
open PySem PySem.Spec L2
namespace DL
theorem eC_dr {d d' : D} {v n : Int} {r : Env} (he : d_law_draw_664a20 [d, .int n] = some (.ret (.int v) [d'])) : eC d_law_draw_664a20 [.ln 0, .ex (lP (dC (.int n)))] (some d :: r) = some (.ok (.int v) (some d' :: r)) :=
  eC_le (d := d) (d' := d') (x := .int n) rfl rfl rfl he
theorem names_len {f2 k n : Nat} {bs : List Belt} (h : names bs = bnames f2 k n) : bs.length = n := by
  have := congrArg List.length h
  unfold names bnames at this
  simpa using this
theorem rngDn_at {i : Int} {n k : Nat} {d : D} (h : (rngDn i n)[k]? = some d) : k < n ∧ d = .int (i + (k : Int) * -1) := by
  unfold rngDn at h
  rw [List.getElem?_map, Option.map_eq_some_iff] at h
  obtain ⟨j, h1, h2⟩ := h
  obtain ⟨hl, e⟩ := List.getElem?_eq_some_iff.mp h1
  rw [List.length_range] at hl
  rw [List.getElem_range] at e
  exact ⟨hl, by rw [← h2, e]⟩
theorem house_loop {f2 : Nat} (h : f2 < 60) (m : Nat) (hm : m ≤ 6) (wide : Int) (hw : 0 ≤ wide) (hw2 : wide ≤ 19) (cs : List Str) (c0 : Str) (cr : List Str) (hcs : cs = c0 :: cr) (hcl : cs.length ≤ 5) {d : D} (hd : FD f2 d) :
    ∃ ρ', loop (bN 5) (sSeq (sF 6 (eB oEq (eC d_law_draw_664a20 [.ln 0, .ex (lP (dC (.int 3)))]) (lP (dC (.int 0)))))
    (sSeq (sF 7 (eB oAdd (eB oAdd (lP (pB oAdd (dC (.int 1)) (pN oInt [(dV 6)]))) (eC d_law_draw_664a20 [.ln 0, .ex (lP (dC (.int 4)))])) (lP (pB oMul (dV 4) (pN oInt [(pB oEq (dV 5) (dC (.int 0)))])))))
    (sSeq (sF 8 (eC d_law_outs_609918 [.ln 0, .ex (eLcO 3 (bN 9) tYesF (lP (pB ixD (dV 9) (dC (.int 0)))) [9]), .ex (lP (dV 2))]))
    (sExpr (eL oIns 3 [(lP (dC (.int 0))), (lP (pN oTup [(pN (oCall d_law_name_3d96c8) [(dK 0), (dV 5)]), (dV 7), (dV 6), (dV 8)]))]))))) (rngDn ((m : Int) - 1) m) [some d, some (.int m), some (.lst .frz (cs.map .str)), some (.lst .own []), some (.int wide), none, none, none, none, none] = some (.nx ρ') ∧
      ∃ (dj : D) (bs : List Belt) (y5 y6 y7 y8 : Option D), FD f2 dj ∧ names bs = bnames f2 0 m ∧ WFb cs bs ∧ ρ' = [some dj, some (.int m), some (.lst .frz (cs.map .str)), some (.lst .own (bs.map encB)), some (.int wide), y5, y6, y7, y8, none] := by
  have hs := size_big
  have L := loop_inv (ds := rngDn ((m : Int) - 1) m) (b := bN 5) (g := (sSeq (sF 6 (eB oEq (eC d_law_draw_664a20 [.ln 0, .ex (lP (dC (.int 3)))]) (lP (dC (.int 0)))))
    (sSeq (sF 7 (eB oAdd (eB oAdd (lP (pB oAdd (dC (.int 1)) (pN oInt [(dV 6)]))) (eC d_law_draw_664a20 [.ln 0, .ex (lP (dC (.int 4)))])) (lP (pB oMul (dV 4) (pN oInt [(pB oEq (dV 5) (dC (.int 0)))])))))
    (sSeq (sF 8 (eC d_law_outs_609918 [.ln 0, .ex (eLcO 3 (bN 9) tYesF (lP (pB ixD (dV 9) (dC (.int 0)))) [9]), .ex (lP (dV 2))]))
    (sExpr (eL oIns 3 [(lP (dC (.int 0))), (lP (pN oTup [(pN (oCall d_law_name_3d96c8) [(dK 0), (dV 5)]), (dV 7), (dV 6), (dV 8)]))]))))))
    (I := fun j ρ => ∃ (dj : D) (bs : List Belt) (y5 y6 y7 y8 : Option D), FD f2 dj ∧ names bs = bnames f2 (m - j) j ∧ WFb cs bs ∧ ρ = [some dj, some (.int m), some (.lst .frz (cs.map .str)), some (.lst .own (bs.map encB)), some (.int wide), y5, y6, y7, y8, none])
    (fun j x ρ e ⟨dj, bs, y5, y6, y7, y8, hdj, hnm, hwf, hρ⟩ => by
      subst hρ
      obtain ⟨hjm, rfl⟩ := rngDn_at e
      rw [show (m : Int) - 1 + (j : Int) * -1 = ((m - 1 - j : Nat) : Int) by omega]
      obtain ⟨v1, d1, hd1, v10, v11, e1⟩ := draw_ok hdj 3 (by decide) (by decide)
      obtain ⟨v2, d2, hd2, v20, v21, e2⟩ := draw_ok hd1 4 (by decide) (by decide)
      have hbl : bs.length = j := names_len hnm
      have hnl : (names bs).length = j := by rw [hnm]; unfold bnames; simp
      obtain ⟨outs, d3, hd3, ho, hon, hol, hone, hoc, e3⟩ := outs_ok hd2 (names bs) cs (by omega) (by omega) c0 cr hcs
      generalize hk : m - 1 - j = k at *
      have hno := name_ok (k := k) hd3 h (by omega)
      have e4 : D.rem fz (d3.peek) = d3.frz := by
        obtain ⟨ns, a, md, big, hn, rfl⟩ := hd3
        simp [feedD]
      have e5 : oCall d_law_name_3d96c8 [d3.peek, .int (k : Int)] = some (.str (nm f2 k)) := oCall_nb (ls := []) (by
        rw [← hno]; simp only [remL_cons, remL_nil, rem_int, e4]) (.inr rfl)
      let lng : Int := 1 + (if v1 = 0 then 1 else 0) + v2 + wide * (if k = 0 then 1 else 0)
      have hw1 : 0 ≤ wide * (if k = 0 then 1 else 0) ∧ wide * (if k = 0 then 1 else 0) ≤ 19 := by split <;> omega
      have eO : ∀ a5 a6 a7, eC d_law_outs_609918 [.ln 0, .ex (eLcO 3 (bN 9) tYesF (lP (pB ixD (dV 9) (dC (.int 0)))) [9]), .ex (lP (dV 2))] [some d2, some (.int m), some (.lst .frz (cs.map .str)), some (.lst .own (bs.map encB)), some (.int wide), a5, a6, a7, y8, none] = some (.ok (.lst .own (outs.map .str)) [some d3, some (.int m), some (.lst .frz (cs.map .str)), some (.lst .own (bs.map encB)), some (.int wide), a5, a6, a7, y8, none]) := fun a5 a6 a7 => by
        have hl : eLcO 3 (bN 9) tYesF (lP (pB ixD (dV 9) (dC (.int 0)))) [9] [some d2, some (.int m), some (.lst .frz (cs.map .str)), some (.lst .own (bs.map encB)), some (.int wide), a5, a6, a7, y8, none] = some (.ok (.lst .own ((names bs).map .str)) [some d2, some (.int m), some (.lst .frz (cs.map .str)), some (.lst .own (bs.map encB)), some (.int wide), a5, a6, a7, y8, none]) := by
          rw [eLcO_pure (ρ0 := [some d2, some (.int m), some (.lst .frz (cs.map .str)), none, some (.int wide), a5, a6, a7, y8, none]) (fun _ => true) (fun x => match x with | .tup (.str s :: _) => .str s | x => x) rfl (by simp) (by simp) rfl rfl (fun x hx => by
            obtain ⟨b, hb, rfl⟩ := List.mem_map.mp hx
            exact ⟨_, rfl, rfl, fun _ => ⟨by simp [encB], rfl⟩, rfl⟩) (by simp; omega) (by simp)]
          rw [List.filter_eq_self.mpr (fun _ _ => rfl), List.map_map]
          unfold names
          rw [List.map_map]
          rfl
        exact eC_lee (d := d2) (d' := d3) rfl hl (by simp) rfl (by simp) (by simpa using e3)
      refine ⟨_, [some d3, some (.int m), some (.lst .frz (cs.map .str)), some (.lst .own ((⟨nm f2 k, lng, decide (v1 = 0), outs⟩ :: bs).map encB)), some (.int wide), some (.int k), some (.bl (decide (v1 = 0))), some (.int lng), some (.lst .frz (outs.map .str)), none], rfl, ?_, d3, ⟨nm f2 k, lng, decide (v1 = 0), outs⟩ :: bs, _, _, _, _, hd3, ?_, ?_, rfl⟩
      · have hmul : cMul wide (if k = 0 then 1 else 0) = true := cMul_l (by omega) (by omega)
        simp [eC_dr e1, eC_dr e2, eO, e5, hmul, show 4 ≤ sizeLine by omega, show bs.length < sizeLine by omega, encB, lng]
      · show nm f2 k :: names bs = _
        rw [hnm, show m - (j + 1) = k by omega, bnames_cons, show k + 1 = m - j by omega]
      · refine ⟨?_, ?_, ?_, ho, hon, Nat.le_trans hol (by decide), hone, ?_, hwf⟩
        · show 1 ≤ lng
          show 1 ≤ 1 + (if v1 = 0 then 1 else 0) + v2 + wide * (if k = 0 then 1 else 0)
          split <;> omega
        · show 1 + (if v1 = 0 then 1 else 0) + v2 + wide * (if k = 0 then 1 else 0) ≤ 100
          split <;> omega
        · intro hr
          have hr : v1 = 0 := of_decide_eq_true hr
          show 2 ≤ 1 + (if v1 = 0 then 1 else 0) + v2 + wide * (if k = 0 then 1 else 0)
          rw [if_pos hr]; omega
        · rw [hcs]
          rcases hoc with hoc | hoc
          · exact .inr (.inl ⟨c0, rfl, hoc⟩)
          · exact .inr (.inr hoc))
    (ρ := [some d, some (.int m), some (.lst .frz (cs.map .str)), some (.lst .own []), some (.int wide), none, none, none, none, none]) ⟨d, [], none, none, none, none, hd, rfl, trivial, rfl⟩
  obtain ⟨ρ', e, dj, bs, y5, y6, y7, y8, h1, h2, h3, h4⟩ := L
  refine ⟨ρ', e, dj, bs, y5, y6, y7, y8, h1, ?_, h3, h4⟩
  have hl : (rngDn ((m : Int) - 1) m).length = m := by unfold rngDn; simp
  rw [hl, Nat.sub_self] at h2
  exact h2
theorem house_ok {f2 : Nat} (h : f2 < 60) {d : D} (hd : FD f2 d) : ∃ (m n : Nat) (bs : List Belt) (d' : D), m ≤ 6 ∧ 1 ≤ n ∧ n ≤ 5 ∧ FD f2 d' ∧ names bs = bnames f2 0 m ∧ WFb (cnames f2 n) bs ∧ d_law_house_6861b9 [d] = some (.ret (encH .own bs (cnames f2 n)) [d']) := by
  have hs := size_big
  obtain ⟨m, d1, hd1, m0, m1, e1⟩ := draw_ok hd 7 (by decide) (by decide)
  obtain ⟨m, rfl⟩ := Int.eq_ofNat_of_zero_le m0
  obtain ⟨v, d2, hd2, v0, v1, e2⟩ := draw_ok hd1 5 (by decide) (by decide)
  obtain ⟨v, rfl⟩ := Int.eq_ofNat_of_zero_le v0
  have hcl : (cnames f2 (1 + v)).length = 1 + v := by unfold cnames; simp
  obtain ⟨c0, cr, hcs⟩ : ∃ c0 cr, cnames f2 (1 + v) = c0 :: cr := by
    cases q : cnames f2 (1 + v) with
    | nil => rw [q] at hcl; simp at hcl; omega
    | cons c0 cr => exact ⟨c0, cr, rfl⟩
  -- wide
  have hwide : ∃ (wide : Int) (d3 : D), 0 ≤ wide ∧ wide ≤ 19 ∧ FD f2 d3 ∧ ∀ x r, sIf (lQ (qB (pB oLt (dV 1) (dC (.int 3))))) (sF 4 (eB oMul (eC d_law_draw_664a20 [.ln 0, .ex (lP (dC (.int 2)))]) (eC d_law_draw_664a20 [.ln 0, .ex (lP (dC (.int 20)))]))) sNil (some d2 :: some (.int (m : Int)) :: x :: r :: some (.int 0) :: [none, none, none, none, none]) = some (.nx (some d3 :: some (.int (m : Int)) :: x :: r :: some (.int wide) :: [none, none, none, none, none])) := by
    by_cases hm : m < 3
    · obtain ⟨w1, d3, hd3, w10, w11, e3⟩ := draw_ok hd2 2 (by decide) (by decide)
      obtain ⟨w2, d4, hd4, w20, w21, e4⟩ := draw_ok hd3 20 (by decide) (by decide)
      have hw : w1 = 0 ∨ w1 = 1 := by omega
      refine ⟨w1 * w2, d4, ?_, ?_, hd4, fun x r => ?_⟩
      · rcases hw with rfl | rfl <;> omega
      · rcases hw with rfl | rfl <;> omega
      · have hmul : cMul w1 w2 = true := cMul_l (by omega) (by omega)
        simp [show (m : Int) < 3 by omega, eC_dr e3, eC_dr e4, hmul]
    · exact ⟨0, d2, by omega, by omega, hd2, fun x r => by simp [show ¬ (m : Int) < 3 by omega]⟩
  obtain ⟨wide, d3, w0, w19, hd3, ew⟩ := hwide
  obtain ⟨ρ', eLp, dj, bs, y5, y6, y7, y8, hdj, hnm, hwf, rfl⟩ := house_loop h m (by omega) wide w0 w19 (cnames f2 (1 + v)) c0 cr hcs (by omega) hd3
  refine ⟨m, 1 + v, bs, dj, by omega, by omega, by omega, hdj, hnm, hwf, ?_⟩
  show fnR [true] (b_law_house_6861b9 [some d, none, none, none, none, none, none, none, none, none]) = _
  unfold b_law_house_6861b9
  rw [seq_nx (ρ' := [some d1, some (.int m), none, none, none, none, none, none, none, none]) (by simp [eC_dr e1])]
  rw [seq_nx (ρ' := [some d2, some (.int m), some (.lst .frz ((cnames f2 (1 + v)).map .str)), none, none, none, none, none, none, none]) (by
    have := carts_ok h hd2 (1 + v) (by omega) [some d1, some (.int m), none, none, none, none, none, none, none, none] [some d2, some (.int m), none, none, none, none, none, none, none, none] (iRng [(eB oAdd (lP (dC (.int 1))) (eC d_law_draw_664a20 [.ln 0, .ex (lP (dC (.int 5)))]))]) (by
      have := iRng_1 (j := 1 + v) (f := (eB oAdd (lP (dC (.int 1))) (eC d_law_draw_664a20 [.ln 0, .ex (lP (dC (.int 5)))]))) (ρ := [some d1, some (.int m), none, none, none, none, none, none, none, none]) (ρ' := [some d2, some (.int m), none, none, none, none, none, none, none, none]) (by simp [eC_dr e2]) (okR_small (by omega) (by omega))
      rw [this, show ((1 : Int) + (v : Int)).toNat = 1 + v by omega]) rfl rfl (by simp)
    rw [sF_eq, this]
    simp)]
  rw [seq_nx (ρ' := [some d2, some (.int m), some (.lst .frz ((cnames f2 (1 + v)).map .str)), some (.lst .own []), none, none, none, none, none, none]) (by simp)]
  rw [seq_nx (ρ' := [some d2, some (.int m), some (.lst .frz ((cnames f2 (1 + v)).map .str)), some (.lst .own []), some (.int 0), none, none, none, none, none]) (by simp)]
  rw [seq_nx (ew _ _)]
  rw [seq_nx (ρ' := [some dj, some (.int m), some (.lst .frz ((cnames f2 (1 + v)).map .str)), some (.lst .own (bs.map encB)), some (.int wide), none, y6, y7, y8, none]) (by
    have hr : iRng3 [(lP (pB oSub (dV 1) (dC (.int 1)))), (lP (pNeg (dC (.int 1)))), (lP (pNeg (dC (.int 1))))] [some d3, some (.int m), some (.lst .frz ((cnames f2 (1 + v)).map .str)), some (.lst .own []), some (.int wide), none, none, none, none, none] = some (.ok (.non, rngDn ((m : Int) - 1) m) [some d3, some (.int m), some (.lst .frz ((cnames f2 (1 + v)).map .str)), some (.lst .own []), some (.int wide), none, none, none, none, none]) := by
      unfold iRng3
      simp [okR_small (j := (m : Int) - 1) (by omega) (by omega), okR_small (j := -1) (by omega) (by omega), show ((m : Int) - 1 - -1).toNat = m by omega]
    rw [sFor_of hr, eLp]
    rfl)]
  simp [encH, show 2 ≤ sizeLine by omega]
end DL

end
section
/-! ML: facts of a drawn house; ==. -/
open PySem PySem.Spec L2
namespace DL
theorem nm_ok : ∀ f2, f2 < 60 → ∀ k, k < 12 → PyData.canLay0 (.str (nm f2 k)) = true ∧ (nm f2 k).length ≤ 8 := by decide +kernel
theorem nm_lt : ∀ f2, f2 < 60 → ∀ k, k < 12 → (nm f2 k).length ≠ 0 ∧ ∀ c ∈ (nm f2 k).cps.toList, 97 ≤ c ∧ c ≤ 122 := by decide +kernel
theorem nm_nn : ∀ f2, f2 < 60 → ∀ k, k < 12 → nm f2 k ≠ Str.ofString "nothing" := by decide +kernel
theorem nm_inj {f2 i j : Nat} (h : f2 < 60) (hi : i < 12) (hj : j < 12) (e : nm f2 i = nm f2 j) : i = j := by
  have hn := nm_nodup f2 h
  unfold nmAll at hn
  have := List.pairwise_map.mp hn
  rcases Nat.lt_trichotomy i j with hl | hl | hl
  · exfalso
    have h2 : (List.range 12)[i]? = some i := List.getElem?_range hi
    have := List.pairwise_iff_getElem.mp this i j (by simpa using hi) (by simpa using hj) hl
    simp at this
    exact this e
  · exact hl
  · exfalso
    have := List.pairwise_iff_getElem.mp this j i (by simpa using hj) (by simpa using hi) hl
    simp at this
    exact this e.symm
theorem hok_of {f2 m n : Nat} (h : f2 < 60) (hm : m ≤ 6) (hn1 : 1 ≤ n) (hn : n ≤ 5) {bs : List Belt} (hnm : names bs = bnames f2 0 m) (hwf : WFb (cnames f2 n) bs) : HOk bs (cnames f2 n) := by
  have hb : ∀ s, s ∈ names bs → ∃ i, i < m ∧ s = nm f2 i := by
    intro s hs
    rw [hnm] at hs
    unfold bnames at hs
    obtain ⟨i, hi, rfl⟩ := List.mem_map.mp hs
    exact ⟨i, List.mem_range.mp hi, by simp⟩
  have hc : ∀ s, s ∈ cnames f2 n → ∃ i, i < n ∧ s = nm f2 (11 - i) := by
    intro s hs
    unfold cnames at hs
    obtain ⟨i, hi, rfl⟩ := List.mem_map.mp hs
    exact ⟨i, List.mem_range.mp hi, rfl⟩
  refine ⟨?_, ?_, ?_, hwf, ?_, by rw [names_len hnm]; exact hm, ?_, ?_, fun z => (by obtain ⟨i, hi, e⟩ := hb _ z; exact nm_nn f2 h i (by omega) e.symm), fun s hs => (by
    rcases List.mem_append.mp hs with hs | hs
    · obtain ⟨i, hi, rfl⟩ := hb s hs
      exact nm_lt f2 h i (by omega)
    · obtain ⟨i, hi, rfl⟩ := hc s hs
      exact nm_lt f2 h _ (by omega))⟩
  · rw [hnm]
    unfold bnames
    refine List.pairwise_map.mpr (List.pairwise_iff_getElem.mpr fun i j hi hj hl => ?_)
    simp at hi hj
    simp
    intro e
    have := nm_inj h (by omega) (by omega) e
    omega
  · unfold cnames
    refine List.pairwise_map.mpr (List.pairwise_iff_getElem.mpr fun i j hi hj hl => ?_)
    simp at hi hj
    simp
    intro e
    have := nm_inj h (by omega) (by omega) e
    omega
  · intro c h1 h2
    obtain ⟨i, hi, rfl⟩ := hc c h1
    obtain ⟨j, hj, e⟩ := hb _ h2
    have := nm_inj h (by omega) (by omega) e
    omega
  · intro e
    have := congrArg List.length e
    unfold cnames at this
    simp at this
    omega
  · unfold cnames; simpa using hn
  · intro s hs
    rcases List.mem_append.mp hs with hs | hs
    · obtain ⟨i, hi, rfl⟩ := hb s hs
      exact nm_ok f2 h i (by omega)
    · obtain ⟨i, hi, rfl⟩ := hc s hs
      exact nm_ok f2 h _ (by omega)
end DL

end
section
/-! MM: mixed lines. -/
open PySem PySem.Spec L2
namespace DL
open TL (tl)
theorem bline_join {bs : List Belt} {cs : List Str} (hk : HOk bs cs) {b : Belt} (hb : b ∈ bs) : oJoin (.str (Str.ofString " ")) (.lst .own ((bParts b).map .str)) = some (.str (bLine b)) := by
  have hs := size_big
  have hbo := bok hk hb
  show joinD _ _ = _
  rw [joinD_strs]
  · rfl
  · have h1 := sum_le (ys := bParts b) (n := 8) (fun y hy => by
      unfold bParts at hy
      have h1 := num_le hbo
      have h2 := word_le b
      have h3 := hbo.n8
      simp only [List.mem_append, List.mem_cons, List.not_mem_nil, or_false] at hy
      rcases hy with (rfl | rfl | rfl | rfl) | hy
      · omega
      · omega
      · omega
      · decide
      · exact hbo.o8 y hy)
    have h2 : (bParts b).length ≤ 14 := by unfold bParts; have := hbo.o4; simp; omega
    have h3 : (Str.ofString " ").length = 1 := rfl
    rw [h3]; omega
def rowsF (bl cl : List Str) : List D := ([.lst .own (bl.map .str), .lst .own (cl.map .str)]).filter neL
def TT : TF := (lQ (qTr (dK 2)))
def GG : SF := (sAl 8 2 (leIx 2 (eC d_law_draw_664a20 [.ln 0, .ex (lP (pN oLen [(dK 2)]))])) (bCons (sExpr (eL oApp 7 [(eL oPop0 8 [(lP (dC (.int 0)))])]))
    (bEnd 8 2 (sMf 2 8))))
theorem turn_ok {f2 : Int} {feed : D} (hd : FD f2 feed) (h : Option D) {bl cl ls : List Str} (hl : ls.length < 100) (hm : 0 < bl.length + cl.length) :
    ∃ feed' bl' cl' x, FD f2 feed' ∧ ((bl = x :: bl' ∧ cl = cl') ∨ (bl = bl' ∧ cl = x :: cl')) ∧ TT [some feed, h, some (.lst .own (rowsF bl cl)), none, none, none, none, some (.lst .own (ls.map .str)), none, none] = some (.ok true [some feed, h, some (.lst .own (rowsF bl cl)), none, none, none, none, some (.lst .own (ls.map .str)), none, none]) ∧
      GG [some feed, h, some (.lst .own (rowsF bl cl)), none, none, none, none, some (.lst .own (ls.map .str)), none, none] = some (.nx [some feed', h, some (.lst .own (rowsF bl' cl')), none, none, none, none, some (.lst .own ((ls ++ [x]).map .str)), none, none]) := by
  have hs := size_big
  match bl, cl, hm with
  | [], [], hm => exact absurd hm (by simp)
  | [], c :: cl, _ =>
    have e : rowsF [] (c :: cl) = [.lst .own ((c :: cl).map .str)] := rfl
    obtain ⟨v, feed', hd', v0, v1, ed⟩ := draw_ok hd 1 (by decide) (by decide)
    obtain rfl : v = 0 := by omega
    have eCd : eC d_law_draw_664a20 [.ln 0, .ex (lP (pN oLen [(dK 2)]))] [some feed, h, some (.lst .own (rowsF [] (c :: cl))), none, none, none, none, some (.lst .own (ls.map .str)), none, none] = some (.ok (.int 0) [some feed', h, some (.lst .own (rowsF [] (c :: cl))), none, none, none, none, some (.lst .own (ls.map .str)), none, none]) :=
      eC_le (d := feed) (d' := feed') (x := .int 1) rfl (by simp [e]) rfl ed
    refine ⟨feed', [], cl, c, hd', .inr ⟨rfl, rfl⟩, by simp [TT, qTr, truD, e], ?_⟩
    unfold GG sAl leIx
    rw [eCd]
    rw [e]
    have hx : rowsF [] cl = [D.lst .own (cl.map .str)].filter neL := by unfold rowsF; cases cl <;> rfl
    simp [dAt, okAt, ixN, bCons, bEnd, sMf, isL, oPop0, hx, dSet, show ls.length < sizeLine by omega, show ¬ sizeLine = 0 by omega]
  | b :: bl, [], _ =>
    have e : rowsF (b :: bl) [] = [.lst .own ((b :: bl).map .str)] := rfl
    obtain ⟨v, feed', hd', v0, v1, ed⟩ := draw_ok hd 1 (by decide) (by decide)
    obtain rfl : v = 0 := by omega
    have eCd : eC d_law_draw_664a20 [.ln 0, .ex (lP (pN oLen [(dK 2)]))] [some feed, h, some (.lst .own (rowsF (b :: bl) [])), none, none, none, none, some (.lst .own (ls.map .str)), none, none] = some (.ok (.int 0) [some feed', h, some (.lst .own (rowsF (b :: bl) [])), none, none, none, none, some (.lst .own (ls.map .str)), none, none]) :=
      eC_le (d := feed) (d' := feed') (x := .int 1) rfl (by simp [e]) rfl ed
    refine ⟨feed', bl, [], b, hd', .inl ⟨rfl, rfl⟩, by simp [TT, qTr, truD, e], ?_⟩
    unfold GG sAl leIx
    rw [eCd]
    rw [e]
    have hx : rowsF bl [] = [D.lst .own (bl.map .str)].filter neL := by unfold rowsF; cases bl <;> rfl
    simp [dAt, okAt, ixN, bCons, bEnd, sMf, isL, oPop0, hx, dSet, show ls.length < sizeLine by omega, show ¬ sizeLine = 0 by omega]
  | b :: bl, c :: cl, _ =>
    have e : rowsF (b :: bl) (c :: cl) = [.lst .own ((b :: bl).map .str), .lst .own ((c :: cl).map .str)] := rfl
    obtain ⟨v, feed', hd', v0, v1, ed⟩ := draw_ok hd 2 (by decide) (by decide)
    have eCd : eC d_law_draw_664a20 [.ln 0, .ex (lP (pN oLen [(dK 2)]))] [some feed, h, some (.lst .own (rowsF (b :: bl) (c :: cl))), none, none, none, none, some (.lst .own (ls.map .str)), none, none] = some (.ok (.int v) [some feed', h, some (.lst .own (rowsF (b :: bl) (c :: cl))), none, none, none, none, some (.lst .own (ls.map .str)), none, none]) :=
      eC_le (d := feed) (d' := feed') (x := .int 2) rfl (by simp [e]) rfl ed
    have hv : v = 0 ∨ v = 1 := by omega
    rcases hv with rfl | rfl
    · refine ⟨feed', bl, c :: cl, b, hd', .inl ⟨rfl, rfl⟩, by simp [TT, qTr, truD, e], ?_⟩
      unfold GG sAl leIx
      rw [eCd]
      rw [e]
      have hx : rowsF bl (c :: cl) = [D.lst .own (bl.map .str), .lst .own ((c :: cl).map .str)].filter neL := rfl
      simp [dAt, okAt, ixN, bCons, bEnd, sMf, isL, oPop0, hx, dSet, show ls.length < sizeLine by omega, show 2 ≤ sizeLine by omega]
    · refine ⟨feed', b :: bl, cl, c, hd', .inr ⟨rfl, rfl⟩, by simp [TT, qTr, truD, e], ?_⟩
      unfold GG sAl leIx
      rw [eCd]
      rw [e]
      have hx : rowsF (b :: bl) cl = [D.lst .own ((b :: bl).map .str), .lst .own (cl.map .str)].filter neL := rfl
      simp [dAt, okAt, ixN, bCons, bEnd, sMf, isL, oPop0, hx, dSet, show ls.length < sizeLine by omega, show 2 ≤ sizeLine by omega]
theorem mixed_ok {f2 : Int} {feed : D} (hd : FD f2 feed) {bs : List Belt} {cs : List Str} (hk : HOk bs cs) : ∃ it feed', FD f2 feed' ∧ itB it = bs ∧ itC it = cs ∧ d_law_mixed_d12046 [feed, encH .frz bs cs] = some (.ret (.str (Txt.join (Str.ofString "\n") (it.map iLine))) [feed']) := by
  have hs := size_big
  have hb6 := hk.nl
  have hc5 := hk.cl
  let H : Option D := some (encH .frz bs cs)
  -- the rows
  have s1 : (sO 2 (eN oLst [(lP (pN oLst [])), (eLc (iAll (lP (pB ixD (dV 1) (dC (.int 1))))) (bN 9) tYesF (lP (pB oAdd (dC (.str (Str.ofString "cart "))) (dV 9))) [9])])) [some feed, H, none, none, none, none, none, none, none, none] = some (.nx [some feed, H, some (.lst .own [.lst .own ([] : List D), .lst .own ((cs.map cLine').map .str)]), none, none, none, none, none, none, none]) := by
    have key := eLc_pure (b := bN 9) (t := tYesF) (f := (lP (pB oAdd (dC (.str (Str.ofString "cart "))) (dV 9)))) (is := [9]) (ρ0 := [some feed, H, none, none, none, none, none, none, none, none]) (fun _ => true) (fun x => match x with | .str c => .str (cLine' c) | x => x) (walk_strs (m := .frz) (xs := cs) (f := (lP (pB ixD (dV 1) (dC (.int 1))))) (ρ := [some feed, H, none, none, none, none, none, none, none, none]) (by simp [H]) (.inl rfl)) rfl rfl (fun x hx => by
      obtain ⟨c, hc, rfl⟩ := List.mem_map.mp hx
      have := (hk.ok c (List.mem_append_right _ hc)).2
      have e2 : (Str.ofString "cart ").length = 5 := rfl
      exact ⟨_, rfl, rfl, fun _ => ⟨by simp [cLine', show (Str.ofString "cart ").length + c.length ≤ sizeLine by omega], rfl⟩, rfl⟩) (by simp; omega)
    have ef : (List.filter (fun _ => true) (cs.map D.str)).map (fun x => match x with | .str c => .str (cLine' c) | x => x) = (cs.map cLine').map D.str := by
      rw [List.filter_eq_self.mpr (fun _ _ => rfl), List.map_map, List.map_map]; rfl
    rw [ef] at key
    simp [key, -List.map_map, show 2 ≤ sizeLine by omega]
  have L : ∀ (xs : List Belt) (acc : List Str), (∀ b ∈ xs, b ∈ bs) → acc.length + xs.length ≤ 1000 → ∀ y3 y4 y5 y6 : Option D, ∃ w3 w4 w5 w6, loop (bT (bsCons (bN 3) (bsCons (bN 4) (bsCons (bN 5) (bsCons (bN 6) bsNil))))) (sExpr (eLp oApp 2 (lIx 2 l0 (dC (.int 0))) [(pB oJoin (dC (.str (Str.ofString " "))) (pB oAdd (pN oLst [(pB ixD (pN oLst [(dC (.str (Str.ofString "belt"))), (dC (.str (Str.ofString "ring")))]) (pN oInt [(dV 5)])), (dV 3), (pN oStr [(dV 4)]), (dC (.str (Str.ofString "to")))]) (dV 6)))])) (xs.map encB)
      [some feed, H, some (.lst .own [.lst .own (acc.map .str), .lst .own ((cs.map cLine').map .str)]), y3, y4, y5, y6, none, none, none] = some (.nx [some feed, H, some (.lst .own [.lst .own ((acc ++ xs.map bLine).map .str), .lst .own ((cs.map cLine').map .str)]), w3, w4, w5, w6, none, none, none]) := by
    intro xs
    induction xs with
    | nil => intro acc _ _ y3 y4 y5 y6; exact ⟨y3, y4, y5, y6, by simp⟩
    | cons b xs ih =>
      intro acc hb hl y3 y4 y5 y6
      rw [List.length_cons] at hl
      have hbb := hb b List.mem_cons_self
      have hbo := bok hk hbb
      obtain ⟨w3, w4, w5, w6, e⟩ := ih (acc ++ [bLine b]) (fun c hc => hb c (List.mem_cons_of_mem _ hc)) (by simp; omega) (some (.str b.name)) (some (.int b.long)) (some (.bl b.ring)) (some (.lst .frz (b.outs.map .str)))
      refine ⟨w3, w4, w5, w6, ?_⟩
      have hnat : b.long.natAbs < 2 ^ 1900 := Nat.lt_of_le_of_lt (show b.long.natAbs ≤ 100 by have := hbo.l1; have := hbo.l2; omega) (by decide +kernel)
      have hstr : oStr [.int b.long] = some (.str (numS b.long)) := by show (if _ then _ else _) = _; rw [if_pos hnat]; rfl
      have hw : atI [D.str (Str.ofString "belt"), D.str (Str.ofString "ring")] (if b.ring = true then 1 else 0) = some (D.str (bWord b)) := by unfold bWord; split <;> rfl
      have hj := bline_join hk hbb
      have ep : (bParts b).map D.str = [.str (bWord b), .str b.name, .str (numS b.long), .str (Str.ofString "to")] ++ b.outs.map .str := by unfold bParts; simp
      rw [ep] at hj
      simp only [List.cons_append, List.nil_append] at hj
      simp only [List.map_cons, loop_cons]
      rw [show encB b = .tup [.str b.name, .int b.long, .bl b.ring, .lst .frz (b.outs.map .str)] from rfl]
      have e' : loop _ _ _ _ = _ := e
      simp only [List.map_append, List.map_cons, List.map_nil] at e'
      cases hr : b.ring with
      | true =>
        rw [hr] at e'
        have hw' : bWord b = Str.ofString "ring" := by unfold bWord; rw [hr]; rfl
        rw [hw'] at hj
        simp [eLp, lIx, l0, asInt, dAt, ixN, placeL, okAt, ownL, dSet, hstr, hj, show 2 ≤ sizeLine by omega, show 4 ≤ sizeLine by omega, show 4 + b.outs.length ≤ sizeLine by have := hbo.o4; omega, show acc.length < sizeLine by omega]
        simpa using e'
      | false =>
        rw [hr] at e'
        have hw' : bWord b = Str.ofString "belt" := by unfold bWord; rw [hr]; rfl
        rw [hw'] at hj
        simp [eLp, lIx, l0, asInt, dAt, ixN, placeL, okAt, ownL, dSet, hstr, hj, show 2 ≤ sizeLine by omega, show 4 ≤ sizeLine by omega, show 4 + b.outs.length ≤ sizeLine by have := hbo.o4; omega, show acc.length < sizeLine by omega]
        simpa using e'
  obtain ⟨w3, w4, w5, w6, eL⟩ := L bs [] (fun b h => h) (by simp; omega) none none none none
  have hw : iAll (lP (pB ixD (dV 1) (dC (.int 0)))) [some feed, H, some (.lst .own [.lst .own ([] : List D), .lst .own ((cs.map cLine').map .str)]), none, none, none, none, none, none, none] = some (.ok (.lst .frz (bs.map encB), bs.map encB) [some feed, H, some (.lst .own [.lst .own ([] : List D), .lst .own ((cs.map cLine').map .str)]), none, none, none, none, none, none, none]) := walk_belts (by simp [H])
  -- the loop of draws
  have W := sWhile_post (t := TT) (g := GG) (R := fun _ => False)
    (I := fun m ρ => ∃ it fd bl cl, FD f2 fd ∧ m = bl.length + cl.length ∧ itB it ++ bl = bs ∧ itC it ++ cl = cs ∧ ρ = [some fd, H, some (.lst .own (rowsF (bl.map bLine) (cl.map cLine'))), none, none, none, none, some (.lst .own ((it.map iLine).map .str)), none, none])
    (N := fun ρ => ∃ it fd, FD f2 fd ∧ itB it = bs ∧ itC it = cs ∧ ρ = [some fd, H, some (.lst .own []), none, none, none, none, some (.lst .own ((it.map iLine).map .str)), none, none])
    (fun m ρ ⟨it, fd, bl, cl, hfd, hm, eb, ec, hρ⟩ => by
      subst hρ
      by_cases h0 : m = 0
      · left
        have z1 : bl = [] := List.eq_nil_of_length_eq_zero (by omega)
        have z2 : cl = [] := List.eq_nil_of_length_eq_zero (by omega)
        subst z1 z2
        rw [List.append_nil] at eb ec
        exact ⟨_, by simp [TT, qTr, truD, rowsF, neL], it, fd, hfd, eb, ec, rfl⟩
      · right
        have hil := it_len it
        have hbl : (itB it).length + bl.length = bs.length := by rw [← eb, List.length_append]
        have hcl : (itC it).length + cl.length = cs.length := by rw [← ec, List.length_append]
        obtain ⟨fd', bl', cl', x, hfd', hx, e1, e2⟩ := turn_ok hfd H (bl := bl.map bLine) (cl := cl.map cLine') (ls := it.map iLine) (by simp; omega) (by simp; omega)
        refine ⟨_, e1, ?_⟩
        rw [e2]
        rcases hx with ⟨h1, h2⟩ | ⟨h1, h2⟩
        · cases bl with
          | nil => cases h1
          | cons b bl =>
            rw [List.map_cons] at h1
            injection h1 with h3 h4
            subst h3 h4 h2
            exact ⟨bl.length + cl.length, by simp at hm; omega, it ++ [.b b], fd', bl, cl, hfd', rfl, by rw [itB_app, ← eb]; simp [itB], by rw [itC_app, ← ec]; simp [itC], by rw [List.map_append (f := iLine)]; rfl⟩
        · cases cl with
          | nil => cases h2
          | cons c cl =>
            rw [List.map_cons] at h2
            injection h2 with h3 h4
            subst h3 h4 h1
            exact ⟨bl.length + cl.length, by simp at hm; omega, it ++ [.c c], fd', bl, cl, hfd', rfl, by rw [itB_app, ← eb]; simp [itB], by rw [itC_app, ← ec]; simp [itC], by rw [List.map_append (f := iLine)]; rfl⟩)
    (m := bs.length + cs.length) (ρ := [some feed, H, some (.lst .own (rowsF (bs.map bLine) (cs.map cLine'))), none, none, none, none, some (.lst .own []), none, none]) (Nat.lt_of_lt_of_le (show bs.length + cs.length < 100 by omega) (by decide)) ⟨[], feed, bs, cs, hd, rfl, rfl, rfl, rfl⟩
  obtain ⟨ρ', eW, it, fd, hfd, eb, ec, rfl⟩ := W.get (fun _ h => h)
  have hj : joinD (Str.ofString "\n") ((it.map iLine).map .str) = some (.str (Txt.join (Str.ofString "\n") (it.map iLine))) := joinD_strs (by
    have hk2 : HOk (itB it) (itC it) := by rw [eb, ec]; exact hk
    have h1 := sum_le (ys := it.map iLine) (n := 120) (iline_le hk2)
    have h2 := it_len it
    rw [eb, ec] at h2
    rw [List.length_map] at h1 ⊢
    have h3 : (Str.ofString "\n").length = 1 := rfl
    rw [h3]; omega)
  refine ⟨it, fd, hfd, eb, ec, ?_⟩
  show fnR [true, false] (b_law_mixed_d12046 [some feed, H, none, none, none, none, none, none, none, none]) = _
  unfold b_law_mixed_d12046
  rw [seq_nx s1]
  rw [seq_nx (ρ' := [some feed, H, some (.lst .own [.lst .own ((bs.map bLine).map .str), .lst .own ((cs.map cLine').map .str)]), none, none, none, none, none, none, none]) (by
    rw [sFor_of hw]
    have e' : loop _ _ (bs.map encB) [some feed, H, some (.lst .own [.lst .own ([] : List D), .lst .own ((cs.map cLine').map .str)]), none, none, none, none, none, none, none] = _ := eL
    rw [e']; rfl)]
  rw [seq_nx (ρ' := [some feed, H, some (.lst .own [.lst .own ((bs.map bLine).map .str), .lst .own ((cs.map cLine').map .str)]), none, none, none, none, some (.lst .own []), none, none]) (by simp)]
  rw [seq_nx (ρ' := [some feed, H, some (.lst .own (rowsF (bs.map bLine) (cs.map cLine'))), none, none, none, none, some (.lst .own []), none, none]) (by
    simp [sMf, isL, -List.map_map, show 2 ≤ sizeLine by omega]; rfl)]
  rw [seq_nx (ρ' := [some fd, H, some (.lst .own []), none, none, none, none, some (.lst .own ((it.map iLine).map .str)), none, none]) (by exact eW)]
  simp [oJoin, hj, -List.map_map]
end DL

end
section
open PySem PySem.Spec L2
namespace DL
theorem plain (ns : List Int) (hl : ns.length ≤ 63) : ∃ ls, d_law_9880c8 [.lst .ro (ns.map .int)] = some (.ret (.bl true) ls) := by
  have hs := size_big
  obtain ⟨d0, hd0, e0⟩ := feed_ok ns (by omega)
  obtain ⟨f2, d1, hd1, f20, f21, e1⟩ := draw_ok hd0 60 (by decide) (by decide)
  obtain ⟨f2, rfl⟩ := Int.eq_ofNat_of_zero_le f20
  obtain ⟨l1, d2, hl1, hl5, hd2, e2⟩ := set_kind hd1 (f2 : Int)
  obtain ⟨m, n, bs, d3, hm, hn1, hn5, hd3, hnm, hwf, e3⟩ := house_ok (by omega) hd2
  have hk := hok_of (by omega) hm hn1 hn5 hnm hwf
  generalize cnames f2 n = cs at *
  obtain ⟨it, d4, hd4, eb, ec, e4⟩ := mixed_ok hd3 hk
  have hk2 : HOk (itB it) (itC it) := by rw [eb, ec]; exact hk
  have e5 := read_ok8 hk2
  rw [eb, ec] at e5
  have n0 := hd0.noBrw
  have hcall : oCall d_law_feed_ea1052 [.lst .ro (ns.map .int)] = some d0 := oCall_nb (ls := []) (by simpa using e0) (.inl (by simp))
  have eCd : ∀ i r, getS r i = some d0 → eC d_law_draw_664a20 [.ln i, .ex (lP (dC (.int 60)))] r = some (.ok (.int (f2 : Int)) (setS r i (some d1))) := fun i r h =>
    eC_le (d := d0) (d' := d1) (x := .int 60) h rfl rfl e1
  have n1 : D.chkL (fun m => !m.isBrw) (l1.set 2 (.int (f2 : Int))) = true := by
    have := hd2.noBrw
    rw [e2] at this
    simpa using this
  have ix2 : ixN l1.length 2 = some 2 := by rw [hl5]; rfl
  have eCh : ∀ i r, getS r i = some d2 → eC d_law_house_6861b9 [.ln i] r = some (.ok (encH .own bs cs) (setS r i (some d3))) := fun i r h => eC_l h e3
  generalize Txt.join (Str.ofString "\n") (it.map iLine) = W at *
  have hpk : D.remL fz (D.remL pk (bs.map encBo)) = bs.map encB := by rw [remL_map, remL_map]; simp [encBo, encB]
  have h3 : oCall d_read_house [.str W] = some (.tup [.lst .own (bs.map encBo), .lst .own (cs.map .str)]) := oCall_nb (ls := []) (by simp only [remL_cons, remL_nil, rem_str]; exact e5) (.inl (by simp))
  have h4 : oCall d_law_alike_4156af [.tup [.lst .brw (D.remL pk (bs.map encBo)), .lst .brw (cs.map .str)], encH .frz bs cs] = some (.bl true) := oCall_nb (ls := []) (by
    simp only [remL_cons, remL_nil, encH_rem, rem_tup, rem_lst, fz_brw, hpk, remL_strs]
    exact alike_house hk) (.inr rfl)
  have h5 : oCall d_law_alike_4156af [.tup [.lst .own (bs.map encBo), .lst .own (cs.map .str)], encH .frz bs cs] = some (.bl true) := oCall_nb (ls := []) (by
    simp only [remL_cons, remL_nil, encH_rem, rem_tup, rem_lst, fz_own, encBos_rem, remL_strs]
    exact alike_house hk) (.inr rfl)
  have hbl := hk.nl
  have hcl := hk.cl
  refine ⟨[], ?_⟩
  show fnR [false] (b_law_9880c8 [some (.lst .ro (ns.map .int)), none, none, none, none]) = _
  unfold b_law_9880c8
  rw [seq_nx (ρ' := [some (.lst .ro (ns.map .int)), some d0, none, none, none]) (by simp [hcall, n0])]
  rw [seq_nx (ρ' := [some (.lst .ro (ns.map .int)), some d2, none, none, none]) (by rw [sSetL_0, eCd 1 _ rfl]; simp [hl1, ix2, e2])]
  rw [seq_nx (ρ' := [some (.lst .ro (ns.map .int)), some d3, some (encH .frz bs cs), none, none]) (by rw [sF_eq, eCh 1 _ rfl]; simp [encH])]
  rw [seq_nx (ρ' := [some (.lst .ro (ns.map .int)), some d4, some (encH .frz bs cs), some (.str W), none]) (by
    rw [sF_eq, eC_le (d := d3) (d' := d4) (x := encH .frz bs cs) (v := .str W) rfl (by simp) (by simp) (by rw [show (encH .frz bs cs).frz = encH .frz bs cs from encH_rem]; exact e4)]; simp)]
  rw [seq_nx (ρ' := [some (.lst .ro (ns.map .int)), some d4, some (encH .frz bs cs), some (.str W), some (.tup [.lst .own (bs.map encBo), .lst .own (cs.map .str)])]) (by simp [h3])]
  rw [seq_nx (ρ' := [some (.lst .ro (ns.map .int)), some d4, some (encH .frz bs cs), some (.str W), some (.tup [.lst .own (bs.map encBo), .lst .own (cs.map .str)])]) (by simp [h4])]
  obtain ⟨fb, efb⟩ : ∃ fb, (sIf (lQ (qTr (pB ixD (dK 4) (dC (.int 0))))) (sSeq (sExpr (eLp oApp 4 (lIx 4 (lIx 4 (lIx 4 l0 (dC (.int 0))) (dC (.int 0))) (dC (.int 3))) [(dC (.str (Str.ofString "x")))]))
    (sExpr (eLp oPop 4 (lIx 4 l0 (dC (.int 0))) []))) sNil) [some (.lst .ro (ns.map .int)), some d4, some (encH .frz bs cs), some (.str W), some (.tup [.lst .own (bs.map encBo), .lst .own (cs.map .str)])] = some (.nx [some (.lst .ro (ns.map .int)), some d4, some (encH .frz bs cs), some (.str W), some (.tup [.lst .own fb, .lst .own (cs.map .str)])]) := by
    cases bs with
    | nil => exact ⟨[], by simp [qTr, truD]⟩
    | cons b bs =>
      have ho := (bok hk List.mem_cons_self).o4
      refine ⟨(.tup [.str b.name, .int b.long, .bl b.ring, .lst .own (b.outs.map .str ++ [.str (Str.ofString "x")])] :: bs.map encBo).dropLast, ?_⟩
      rw [sIf_t (ρ' := [some (.lst .ro (ns.map .int)), some d4, some (encH .frz (b :: bs) cs), some (.str W), some (.tup [.lst .own ((b :: bs).map encBo), .lst .own (cs.map .str)])]) (by simp [qTr, truD])]
      simp [encBo, eLp, lIx, l0, asInt, dAt, ixN, placeL, okAt, ownL, dSet, oPop, show b.outs.length < sizeLine by omega]
      rfl
  rw [seq_nx efb]
  rw [seq_nx (ρ' := [some (.lst .ro (ns.map .int)), some d4, some (encH .frz bs cs), some (.str W), some (.tup [.lst .own fb, .lst .own (cs.map .str ++ [.str (Str.ofString "y")])])]) (by
    simp [eLp, lIx, l0, asInt, dAt, ixN, placeL, okAt, ownL, dSet, show cs.length < sizeLine by omega])]
  simp [h3, h5]
end DL

end
section
open PySem PySem.Spec L2
namespace DL
open PyProof.Rows
abbrev cn0 : Nm := ⟨fun _ => none, fun _ _ _ => False⟩
theorem all_mk {l : PySem.W.OpenLaw} {w : World} {K : PySem.W.Frag} {h : Heap} {mg : Str → Option Value} {fa : Addr} (X : K.In h) (G : h.Ns mainGlobals mg) (hfa : mg (Str.ofString "law") = some (.ref fa))
    {f0 : Addr} {od0 an0 : Option Addr} {sl0 : Array (Option Value)} {oc0 kV0 dc0 pm0 cd0 ct0 : Value} (a0 : PySem.W.nsIn K mainGlobals (Str.ofString "_law_feed") = some (some (.ref f0))) (l0 : K.lookup f0 = some ⟨oc0, od0, .func (PySem.W.fnOf (Str.ofString "_law_feed") (Str.ofString "_law_feed") (defArgs s_law_feed_ea1052) (defBody s_law_feed_ea1052) (defScope s_law_feed_ea1052) .none kV0 dc0 pm0 an0 cd0 ct0), sl0⟩) (c0 : PySem.W.codeIn K cd0 (Str.ofString "_law_feed") = true) (k0 : PySem.W.keepIn K (.ref f0) = true)
    {f1 : Addr} {od1 an1 : Option Addr} {sl1 : Array (Option Value)} {oc1 kV1 dc1 pm1 cd1 ct1 : Value} (a1 : PySem.W.nsIn K mainGlobals (Str.ofString "_law_draw") = some (some (.ref f1))) (l1 : K.lookup f1 = some ⟨oc1, od1, .func (PySem.W.fnOf (Str.ofString "_law_draw") (Str.ofString "_law_draw") (defArgs s_law_draw_664a20) (defBody s_law_draw_664a20) (defScope s_law_draw_664a20) .none kV1 dc1 pm1 an1 cd1 ct1), sl1⟩) (c1 : PySem.W.codeIn K cd1 (Str.ofString "_law_draw") = true) (k1 : PySem.W.keepIn K (.ref f1) = true)
    {f2 : Addr} {od2 an2 : Option Addr} {sl2 : Array (Option Value)} {oc2 kV2 dc2 pm2 cd2 ct2 : Value} (a2 : PySem.W.nsIn K mainGlobals (Str.ofString "_law_name") = some (some (.ref f2))) (l2 : K.lookup f2 = some ⟨oc2, od2, .func (PySem.W.fnOf (Str.ofString "_law_name") (Str.ofString "_law_name") (defArgs s_law_name_3d96c8) (defBody s_law_name_3d96c8) (defScope s_law_name_3d96c8) .none kV2 dc2 pm2 an2 cd2 ct2), sl2⟩) (c2 : PySem.W.codeIn K cd2 (Str.ofString "_law_name") = true) (k2 : PySem.W.keepIn K (.ref f2) = true)
    {f3 : Addr} {od3 an3 : Option Addr} {sl3 : Array (Option Value)} {oc3 kV3 dc3 pm3 cd3 ct3 : Value} (a3 : PySem.W.nsIn K mainGlobals (Str.ofString "_law_outs") = some (some (.ref f3))) (l3 : K.lookup f3 = some ⟨oc3, od3, .func (PySem.W.fnOf (Str.ofString "_law_outs") (Str.ofString "_law_outs") (defArgs s_law_outs_609918) (defBody s_law_outs_609918) (defScope s_law_outs_609918) .none kV3 dc3 pm3 an3 cd3 ct3), sl3⟩) (c3 : PySem.W.codeIn K cd3 (Str.ofString "_law_outs") = true) (k3 : PySem.W.keepIn K (.ref f3) = true)
    {f4 : Addr} {od4 an4 : Option Addr} {sl4 : Array (Option Value)} {oc4 kV4 dc4 pm4 cd4 ct4 : Value} (a4 : PySem.W.nsIn K mainGlobals (Str.ofString "_law_house") = some (some (.ref f4))) (l4 : K.lookup f4 = some ⟨oc4, od4, .func (PySem.W.fnOf (Str.ofString "_law_house") (Str.ofString "_law_house") (defArgs s_law_house_6861b9) (defBody s_law_house_6861b9) (defScope s_law_house_6861b9) .none kV4 dc4 pm4 an4 cd4 ct4), sl4⟩) (c4 : PySem.W.codeIn K cd4 (Str.ofString "_law_house") = true) (k4 : PySem.W.keepIn K (.ref f4) = true)
    {f5 : Addr} {od5 an5 : Option Addr} {sl5 : Array (Option Value)} {oc5 kV5 dc5 pm5 cd5 ct5 : Value} (a5 : PySem.W.nsIn K mainGlobals (Str.ofString "_law_mixed") = some (some (.ref f5))) (l5 : K.lookup f5 = some ⟨oc5, od5, .func (PySem.W.fnOf (Str.ofString "_law_mixed") (Str.ofString "_law_mixed") (defArgs s_law_mixed_d12046) (defBody s_law_mixed_d12046) (defScope s_law_mixed_d12046) .none kV5 dc5 pm5 an5 cd5 ct5), sl5⟩) (c5 : PySem.W.codeIn K cd5 (Str.ofString "_law_mixed") = true) (k5 : PySem.W.keepIn K (.ref f5) = true)
    {f6 : Addr} {od6 an6 : Option Addr} {sl6 : Array (Option Value)} {oc6 kV6 dc6 pm6 cd6 ct6 : Value} (a6 : PySem.W.nsIn K mainGlobals (Str.ofString "number_of") = some (some (.ref f6))) (l6 : K.lookup f6 = some ⟨oc6, od6, .func (PySem.W.fnOf (Str.ofString "number_of") (Str.ofString "number_of") (defArgs s_number_of) (defBody s_number_of) (defScope s_number_of) .none kV6 dc6 pm6 an6 cd6 ct6), sl6⟩) (c6 : PySem.W.codeIn K cd6 (Str.ofString "number_of") = true) (k6 : PySem.W.keepIn K (.ref f6) = true)
    {f7 : Addr} {od7 an7 : Option Addr} {sl7 : Array (Option Value)} {oc7 kV7 dc7 pm7 cd7 ct7 : Value} (a7 : PySem.W.nsIn K mainGlobals (Str.ofString "belt_in") = some (some (.ref f7))) (l7 : K.lookup f7 = some ⟨oc7, od7, .func (PySem.W.fnOf (Str.ofString "belt_in") (Str.ofString "belt_in") (defArgs s_belt_in) (defBody s_belt_in) (defScope s_belt_in) .none kV7 dc7 pm7 an7 cd7 ct7), sl7⟩) (c7 : PySem.W.codeIn K cd7 (Str.ofString "belt_in") = true) (k7 : PySem.W.keepIn K (.ref f7) = true)
    {f8 : Addr} {od8 an8 : Option Addr} {sl8 : Array (Option Value)} {oc8 kV8 dc8 pm8 cd8 ct8 : Value} (a8 : PySem.W.nsIn K mainGlobals (Str.ofString "is_name") = some (some (.ref f8))) (l8 : K.lookup f8 = some ⟨oc8, od8, .func (PySem.W.fnOf (Str.ofString "is_name") (Str.ofString "is_name") (defArgs s_is_name) (defBody s_is_name) (defScope s_is_name) .none kV8 dc8 pm8 an8 cd8 ct8), sl8⟩) (c8 : PySem.W.codeIn K cd8 (Str.ofString "is_name") = true) (k8 : PySem.W.keepIn K (.ref f8) = true)
    {f9 : Addr} {od9 an9 : Option Addr} {sl9 : Array (Option Value)} {oc9 kV9 dc9 pm9 cd9 ct9 : Value} (a9 : PySem.W.nsIn K mainGlobals (Str.ofString "ask_names") = some (some (.ref f9))) (l9 : K.lookup f9 = some ⟨oc9, od9, .func (PySem.W.fnOf (Str.ofString "ask_names") (Str.ofString "ask_names") (defArgs s_ask_names) (defBody s_ask_names) (defScope s_ask_names) .none kV9 dc9 pm9 an9 cd9 ct9), sl9⟩) (c9 : PySem.W.codeIn K cd9 (Str.ofString "ask_names") = true) (k9 : PySem.W.keepIn K (.ref f9) = true)
    {f10 : Addr} {od10 an10 : Option Addr} {sl10 : Array (Option Value)} {oc10 kV10 dc10 pm10 cd10 ct10 : Value} (a10 : PySem.W.nsIn K mainGlobals (Str.ofString "ask_outs") = some (some (.ref f10))) (l10 : K.lookup f10 = some ⟨oc10, od10, .func (PySem.W.fnOf (Str.ofString "ask_outs") (Str.ofString "ask_outs") (defArgs s_ask_outs) (defBody s_ask_outs) (defScope s_ask_outs) .none kV10 dc10 pm10 an10 cd10 ct10), sl10⟩) (c10 : PySem.W.codeIn K cd10 (Str.ofString "ask_outs") = true) (k10 : PySem.W.keepIn K (.ref f10) = true)
    {f11 : Addr} {od11 an11 : Option Addr} {sl11 : Array (Option Value)} {oc11 kV11 dc11 pm11 cd11 ct11 : Value} (a11 : PySem.W.nsIn K mainGlobals (Str.ofString "belt_of") = some (some (.ref f11))) (l11 : K.lookup f11 = some ⟨oc11, od11, .func (PySem.W.fnOf (Str.ofString "belt_of") (Str.ofString "belt_of") (defArgs s_belt_of) (defBody s_belt_of) (defScope s_belt_of) .none kV11 dc11 pm11 an11 cd11 ct11), sl11⟩) (c11 : PySem.W.codeIn K cd11 (Str.ofString "belt_of") = true) (k11 : PySem.W.keepIn K (.ref f11) = true)
    {f12 : Addr} {od12 an12 : Option Addr} {sl12 : Array (Option Value)} {oc12 kV12 dc12 pm12 cd12 ct12 : Value} (a12 : PySem.W.nsIn K mainGlobals (Str.ofString "reached") = some (some (.ref f12))) (l12 : K.lookup f12 = some ⟨oc12, od12, .func (PySem.W.fnOf (Str.ofString "reached") (Str.ofString "reached") (defArgs s_reached) (defBody s_reached) (defScope s_reached) .none kV12 dc12 pm12 an12 cd12 ct12), sl12⟩) (c12 : PySem.W.codeIn K cd12 (Str.ofString "reached") = true) (k12 : PySem.W.keepIn K (.ref f12) = true)
    {f13 : Addr} {od13 an13 : Option Addr} {sl13 : Array (Option Value)} {oc13 kV13 dc13 pm13 cd13 ct13 : Value} (a13 : PySem.W.nsIn K mainGlobals (Str.ofString "right_house") = some (some (.ref f13))) (l13 : K.lookup f13 = some ⟨oc13, od13, .func (PySem.W.fnOf (Str.ofString "right_house") (Str.ofString "right_house") (defArgs s_right_house) (defBody s_right_house) (defScope s_right_house) .none kV13 dc13 pm13 an13 cd13 ct13), sl13⟩) (c13 : PySem.W.codeIn K cd13 (Str.ofString "right_house") = true) (k13 : PySem.W.keepIn K (.ref f13) = true)
    {f14 : Addr} {od14 an14 : Option Addr} {sl14 : Array (Option Value)} {oc14 kV14 dc14 pm14 cd14 ct14 : Value} (a14 : PySem.W.nsIn K mainGlobals (Str.ofString "read_house") = some (some (.ref f14))) (l14 : K.lookup f14 = some ⟨oc14, od14, .func (PySem.W.fnOf (Str.ofString "read_house") (Str.ofString "read_house") (defArgs s_read_house) (defBody s_read_house) (defScope s_read_house) .none kV14 dc14 pm14 an14 cd14 ct14), sl14⟩) (c14 : PySem.W.codeIn K cd14 (Str.ofString "read_house") = true) (k14 : PySem.W.keepIn K (.ref f14) = true)
    {f15 : Addr} {od15 an15 : Option Addr} {sl15 : Array (Option Value)} {oc15 kV15 dc15 pm15 cd15 ct15 : Value} (a15 : PySem.W.nsIn K mainGlobals (Str.ofString "_law_alike") = some (some (.ref f15))) (l15 : K.lookup f15 = some ⟨oc15, od15, .func (PySem.W.fnOf (Str.ofString "_law_alike") (Str.ofString "_law_alike") (defArgs s_law_alike_4156af) (defBody s_law_alike_4156af) (defScope s_law_alike_4156af) .none kV15 dc15 pm15 an15 cd15 ct15), sl15⟩) (c15 : PySem.W.codeIn K cd15 (Str.ofString "_law_alike") = true) (k15 : PySem.W.keepIn K (.ref f15) = true)
    {f16 : Addr} {od16 an16 : Option Addr} {sl16 : Array (Option Value)} {oc16 kV16 dc16 pm16 cd16 ct16 : Value} (a16 : PySem.W.nsIn K mainGlobals (Str.ofString "law") = some (some (.ref f16))) (l16 : K.lookup f16 = some ⟨oc16, od16, .func (PySem.W.fnOf (Str.ofString "law") (Str.ofString "law") (defArgs s_law_9880c8) (defBody s_law_9880c8) (defScope s_law_9880c8) .none kV16 dc16 pm16 an16 cd16 ct16), sl16⟩) (c16 : PySem.W.codeIn K cd16 (Str.ofString "law") = true) (k16 : PySem.W.keepIn K (.ref f16) = true)
    (z_len : PySem.W.nsIn K mainGlobals (Str.ofString "len") = some none)
    (z_int : PySem.W.nsIn K mainGlobals (Str.ofString "int") = some none)
    (z_range : PySem.W.nsIn K mainGlobals (Str.ofString "range") = some none)
    (z_str : PySem.W.nsIn K mainGlobals (Str.ofString "str") = some none)
    (z_isinstance : PySem.W.nsIn K mainGlobals (Str.ofString "isinstance") = some none)
    (z_list : PySem.W.nsIn K mainGlobals (Str.ofString "list") = some none)
    (z_tuple : PySem.W.nsIn K mainGlobals (Str.ofString "tuple") = some none)
    (z_bool : PySem.W.nsIn K mainGlobals (Str.ofString "bool") = some none)
    {t_FIGURES : Tok} (y_FIGURES : PySem.W.nsIn K mainGlobals (Str.ofString "FIGURES") = some (some (.str (Str.ofString "0123456789") t_FIGURES)))
    {t_LETTERS : Tok} (y_LETTERS : PySem.W.nsIn K mainGlobals (Str.ofString "LETTERS") = some (some (.str (Str.ofString "abcdefghijklmnopqrstuvwxyz") t_LETTERS)))
    : ∃ fd : FuncData, (∀ (s : Shared) (v : Value), BindsTo s fd ⟨[v], []⟩ [("script", v)]) ∧ ∀ base : Heap, K.In base → base.Ns mainGlobals mg → FnOk l.prog w K mg base (L2.CX l.prog w) 7 fa fd [(Str.ofString "script")] (SpD K cn0 [false] d_law_9880c8) := by
  have e := hfa.symm.trans (PySem.W.mg_of X G a16)
  cases e
  have F0 := fun_mk (st := s_law_feed_ea1052) l0 c0 k0
  have b0 := F0.binds (ps := [(Str.ofString "script")]) (fun _ _ _ _ _ _ us hl => match us, hl with | [_], _ => rfl)
  have F1 := fun_mk (st := s_law_draw_664a20) l1 c1 k1
  have b1 := F1.binds (ps := [(Str.ofString "feed"), (Str.ofString "many")]) (fun _ _ _ _ _ _ us hl => match us, hl with | [_, _], _ => rfl)
  have F2 := fun_mk (st := s_law_name_3d96c8) l2 c2 k2
  have b2 := F2.binds (ps := [(Str.ofString "feed"), (Str.ofString "k")]) (fun _ _ _ _ _ _ us hl => match us, hl with | [_, _], _ => rfl)
  have F3 := fun_mk (st := s_law_outs_609918) l3 c3 k3
  have b3 := F3.binds (ps := [(Str.ofString "feed"), (Str.ofString "later"), (Str.ofString "carts")]) (fun _ _ _ _ _ _ us hl => match us, hl with | [_, _, _], _ => rfl)
  have F4 := fun_mk (st := s_law_house_6861b9) l4 c4 k4
  have b4 := F4.binds (ps := [(Str.ofString "feed")]) (fun _ _ _ _ _ _ us hl => match us, hl with | [_], _ => rfl)
  have F5 := fun_mk (st := s_law_mixed_d12046) l5 c5 k5
  have b5 := F5.binds (ps := [(Str.ofString "feed"), (Str.ofString "house")]) (fun _ _ _ _ _ _ us hl => match us, hl with | [_, _], _ => rfl)
  have F6 := fun_mk (st := s_number_of) l6 c6 k6
  have b6 := F6.binds (ps := [(Str.ofString "word")]) (fun _ _ _ _ _ _ us hl => match us, hl with | [_], _ => rfl)
  have F7 := fun_mk (st := s_belt_in) l7 c7 k7
  have b7 := F7.binds (ps := [(Str.ofString "words")]) (fun _ _ _ _ _ _ us hl => match us, hl with | [_], _ => rfl)
  have F8 := fun_mk (st := s_is_name) l8 c8 k8
  have b8 := F8.binds (ps := [(Str.ofString "thing")]) (fun _ _ _ _ _ _ us hl => match us, hl with | [_], _ => rfl)
  have F9 := fun_mk (st := s_ask_names) l9 c9 k9
  have b9 := F9.binds (ps := [(Str.ofString "house")]) (fun _ _ _ _ _ _ us hl => match us, hl with | [_], _ => rfl)
  have F10 := fun_mk (st := s_ask_outs) l10 c10 k10
  have b10 := F10.binds (ps := [(Str.ofString "house"), (Str.ofString "k")]) (fun _ _ _ _ _ _ us hl => match us, hl with | [_, _], _ => rfl)
  have F11 := fun_mk (st := s_belt_of) l11 c11 k11
  have b11 := F11.binds (ps := [(Str.ofString "house"), (Str.ofString "name")]) (fun _ _ _ _ _ _ us hl => match us, hl with | [_, _], _ => rfl)
  have F12 := fun_mk (st := s_reached) l12 c12 k12
  have b12 := F12.binds (ps := [(Str.ofString "house"), (Str.ofString "belt")]) (fun _ _ _ _ _ _ us hl => match us, hl with | [_, _], _ => rfl)
  have F13 := fun_mk (st := s_right_house) l13 c13 k13
  have b13 := F13.binds (ps := [(Str.ofString "house")]) (fun _ _ _ _ _ _ us hl => match us, hl with | [_], _ => rfl)
  have F14 := fun_mk (st := s_read_house) l14 c14 k14
  have b14 := F14.binds (ps := [(Str.ofString "text")]) (fun _ _ _ _ _ _ us hl => match us, hl with | [_], _ => rfl)
  have F15 := fun_mk (st := s_law_alike_4156af) l15 c15 k15
  have b15 := F15.binds (ps := [(Str.ofString "found"), (Str.ofString "due")]) (fun _ _ _ _ _ _ us hl => match us, hl with | [_, _], _ => rfl)
  have F16 := fun_mk (st := s_law_9880c8) l16 c16 k16
  refine ⟨PySem.W.fnOf "law" "law" (defArgs s_law_9880c8) (defBody s_law_9880c8) (defScope s_law_9880c8) .none kV16 dc16 pm16 an16 cd16 ct16, fun s v => .of_eq rfl, fun base _ _ => ?_⟩
  have G0 := ok_law_feed_ea1052 (P := l.prog) (w := w) (mg := mg) (base := base) (cn := cn0) F0
  have G1 := ok_law_draw_664a20 (P := l.prog) (w := w) (mg := mg) (base := base) (cn := cn0) F1 (PySem.W.mg_none_of X G z_len)
  have G2 := ok_law_name_3d96c8 (P := l.prog) (w := w) (mg := mg) (base := base) (cn := cn0) F2 (PySem.W.mg_none_of X G z_int)
  have G3 := ok_law_outs_609918 (P := l.prog) (w := w) (mg := mg) (base := base) (cn := cn0) F3 G1 (PySem.W.mg_of X G a1) F1.kp b1 (PySem.W.mg_none_of X G z_range) (PySem.W.mg_none_of X G z_len)
  have G4 := ok_law_house_6861b9 (P := l.prog) (w := w) (mg := mg) (base := base) (cn := cn0) F4 G1 (PySem.W.mg_of X G a1) F1.kp b1 G2 (PySem.W.mg_of X G a2) F2.kp b2 G3 (PySem.W.mg_of X G a3) F3.kp b3 (PySem.W.mg_none_of X G z_range) (PySem.W.mg_none_of X G z_int)
  have G5 := ok_law_mixed_d12046 (P := l.prog) (w := w) (mg := mg) (base := base) (cn := cn0) F5 G1 (PySem.W.mg_of X G a1) F1.kp b1 (PySem.W.mg_none_of X G z_int) (PySem.W.mg_none_of X G z_str) (PySem.W.mg_none_of X G z_len)
  have G6 := ok_number_of (P := l.prog) (w := w) (mg := mg) (base := base) (cn := cn0) F6 (PySem.W.mg_none_of X G z_len) (PySem.W.mg_none_of X G z_int) (PySem.W.mg_of X G y_FIGURES)
  have G7 := ok_belt_in (P := l.prog) (w := w) (mg := mg) (base := base) (cn := cn0) F7 G6 (PySem.W.mg_of X G a6) F6.kp b6 (PySem.W.mg_none_of X G z_len)
  have G8 := ok_is_name (P := l.prog) (w := w) (mg := mg) (base := base) (cn := cn0) F8 (PySem.W.mg_none_of X G z_isinstance) (PySem.W.mg_none_of X G z_str) (PySem.W.mg_none_of X G z_len) (PySem.W.mg_of X G y_LETTERS)
  have G9 := ok_ask_names (P := l.prog) (w := w) (mg := mg) (base := base) (cn := cn0) F9 G8 (PySem.W.mg_of X G a8) F8.kp b8 (PySem.W.mg_none_of X G z_len) (PySem.W.mg_none_of X G z_int)
  have G10 := ok_ask_outs (P := l.prog) (w := w) (mg := mg) (base := base) (cn := cn0) F10 (PySem.W.mg_none_of X G z_list) (PySem.W.mg_none_of X G z_range) (PySem.W.mg_none_of X G z_len)
  have G11 := ok_belt_of (P := l.prog) (w := w) (mg := mg) (base := base) (cn := cn0) F11 (PySem.W.mg_none_of X G z_list)
  have G12 := ok_reached (P := l.prog) (w := w) (mg := mg) (base := base) (cn := cn0) F12 G11 (PySem.W.mg_of X G a11) F11.kp b11 (PySem.W.mg_none_of X G z_list)
  have G13 := ok_right_house (P := l.prog) (w := w) (mg := mg) (base := base) (cn := cn0) F13 G9 (PySem.W.mg_of X G a9) F9.kp b9 G10 (PySem.W.mg_of X G a10) F10.kp b10 G12 (PySem.W.mg_of X G a12) F12.kp b12 (PySem.W.mg_none_of X G z_range) (PySem.W.mg_none_of X G z_len)
  have G14 := ok_read_house (P := l.prog) (w := w) (mg := mg) (base := base) (cn := cn0) F14 G7 (PySem.W.mg_of X G a7) F7.kp b7 G13 (PySem.W.mg_of X G a13) F13.kp b13 (PySem.W.mg_none_of X G z_range) (PySem.W.mg_none_of X G z_len)
  have G15 := ok_law_alike_4156af (P := l.prog) (w := w) (mg := mg) (base := base) (cn := cn0) F15 (PySem.W.mg_none_of X G z_isinstance) (PySem.W.mg_none_of X G z_tuple) (PySem.W.mg_none_of X G z_list) (PySem.W.mg_none_of X G z_len) (PySem.W.mg_none_of X G z_range) (PySem.W.mg_none_of X G z_str) (PySem.W.mg_none_of X G z_int) (PySem.W.mg_none_of X G z_bool) (PySem.W.mg_of X G a15) F15.kp b15
  have G16 := ok_law_9880c8 (P := l.prog) (w := w) (mg := mg) (base := base) (cn := cn0) F16 G0 (PySem.W.mg_of X G a0) F0.kp b0 G1 (PySem.W.mg_of X G a1) F1.kp b1 G4 (PySem.W.mg_of X G a4) F4.kp b4 G5 (PySem.W.mg_of X G a5) F5.kp b5 G14 (PySem.W.mg_of X G a14) F14.kp b14 G15 (PySem.W.mg_of X G a15) F15.kp b15
  exact G16
end DL
open PySem PySem.W PyProof.Rows
set_option maxHeartbeats 0 in
theorem PySem.Challenge.cw_carry_k08_houses_read_holds : PySem.Challenge.rw_carry_k08_houses_read.Holds := by
  w_on; o_law; k_head; (case hw => w_witness2)
  k_fill
  refine L2.walk_of (l := PySem.Challenge.rw_carry_k08_houses_read) (n := 63) (k := 7) (x := "script") (CX := fun w => L2.CX PySem.Challenge.pw_carry_k08_houses_read w) (sp := fun w => DL.SpD _ DL.cn0 [false] DL.d_law_9880c8) rfl (by decide) rfl ⟨rfl, by decide, by decide⟩ (fun w h Y => PySem.W.kIn_of Y) ?F (fun _ H a ns hl hO hS => by obtain ⟨ls, e⟩ := DL.plain ns hl; exact DL.law_sp hO hS e) (fun _ H s e s1 h => DL.law_cx H s e s1 h)
  case F =>
    intro w mg fa h KX G hmg
    refine' DL.all_mk (l := PySem.Challenge.rw_carry_k08_houses_read) KX G hmg ?a0 ?l0 ?c0 ?k0 ?a1 ?l1 ?c1 ?k1 ?a2 ?l2 ?c2 ?k2 ?a3 ?l3 ?c3 ?k3 ?a4 ?l4 ?c4 ?k4 ?a5 ?l5 ?c5 ?k5 ?a6 ?l6 ?c6 ?k6 ?a7 ?l7 ?c7 ?k7 ?a8 ?l8 ?c8 ?k8 ?a9 ?l9 ?c9 ?k9 ?a10 ?l10 ?c10 ?k10 ?a11 ?l11 ?c11 ?k11 ?a12 ?l12 ?c12 ?k12 ?a13 ?l13 ?c13 ?k13 ?a14 ?l14 ?c14 ?k14 ?a15 ?l15 ?c15 ?k15 ?a16 ?l16 ?c16 ?k16 ?z_len ?z_int ?z_range ?z_str ?z_isinstance ?z_list ?z_tuple ?z_bool ?y_FIGURES ?y_LETTERS
    (case a0 => k_is); (case l0 => k_is); (case c0 => k_is); (case k0 => k_is); (case a1 => k_is); (case l1 => k_is); (case c1 => k_is); (case k1 => k_is); (case a2 => k_is); (case l2 => k_is); (case c2 => k_is); (case k2 => k_is); (case a3 => k_is); (case l3 => k_is); (case c3 => k_is); (case k3 => k_is); (case a4 => k_is); (case l4 => k_is); (case c4 => k_is); (case k4 => k_is); (case a5 => k_is); (case l5 => k_is); (case c5 => k_is); (case k5 => k_is); (case a6 => k_is); (case l6 => k_is); (case c6 => k_is); (case k6 => k_is); (case a7 => k_is); (case l7 => k_is); (case c7 => k_is); (case k7 => k_is); (case a8 => k_is); (case l8 => k_is); (case c8 => k_is); (case k8 => k_is); (case a9 => k_is); (case l9 => k_is); (case c9 => k_is); (case k9 => k_is); (case a10 => k_is); (case l10 => k_is); (case c10 => k_is); (case k10 => k_is); (case a11 => k_is); (case l11 => k_is); (case c11 => k_is); (case k11 => k_is); (case a12 => k_is); (case l12 => k_is); (case c12 => k_is); (case k12 => k_is); (case a13 => k_is); (case l13 => k_is); (case c13 => k_is); (case k13 => k_is); (case a14 => k_is); (case l14 => k_is); (case c14 => k_is); (case k14 => k_is); (case a15 => k_is); (case l15 => k_is); (case c15 => k_is); (case k15 => k_is); (case a16 => k_is); (case l16 => k_is); (case c16 => k_is); (case k16 => k_is); (case z_len => k_is); (case z_int => k_is); (case z_range => k_is); (case z_str => k_is); (case z_isinstance => k_is); (case z_list => k_is); (case z_tuple => k_is); (case z_bool => k_is); (case y_FIGURES => k_is); (case y_LETTERS => k_is)

end
