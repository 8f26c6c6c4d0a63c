import PyProof.Rows.All
import Wide.All
import OpenK.AllK
import Wide.FinOn
import HandS.ForMost
import HandS.ForExc
import HandS.RevRange
import HandS.Conv
import HandS.TupLe
import HandS.TupAny
import HandS.CallSlots
import HandS.Wide
import KE.DataCmp
import KE.DataEq
import KE.DataMinMax
import KE.DataAny
import KE.DataIsa
import KE.DataFind
import KE.SortData
import HandS.IsInst
import PySem.Challenge.RW_evenform_k11_all_rows
set_option Elab.async false
set_option linter.all false
set_option maxRecDepth 100000
/-! EvA: plain data D, how a value stands for it in the abstract heap, the relation of slots and data. -/
namespace Ev
open PySem PySem.Spec PyProof.Rows L2

/-- plain data -/
inductive D where
  | non | bl (b : Bool) | int (i : Int) | str (x : Str)
  | tup (xs : List D) | lst (xs : List D) | scr (xs : List D) | dct (ks : List (List Key)) (ds : List D)
  | exc (c : Str) (ns : List Str) (fs : List D)

/-- how an exception's own record stands (its fields' names) -/
abbrev XR := W.Frag → Hp → Addr → Str → List V → Prop

mutual
/-- the value v stands for d -/
inductive Rep (K : W.Frag) (H : Hp) : V → D → Prop
  | non : Rep K H .non .non
  | bl (b : Bool) : Rep K H (.bl b) (.bl b)
  | int (i : Int) : Rep K H (.int i) (.int i)
  | str (x : Str) : Rep K H (.str x) (.str x)
  | tup {a : Addr} {vs : List V} {ds : List D} : SqT K H a vs → Reps K H vs ds → Rep K H (.ref a) (.tup ds)
  | lst {a : Addr} {vs : List V} {ds : List D} : Rd H a (.lst vs) → Reps K H vs ds → Rep K H (.ref a) (.lst ds)
  | scr {a : Addr} {vs : List V} {ds : List D} : SqL K H a vs → Reps K H vs ds → Rep K H (.ref a) (.scr ds)
  | dct {a : Addr} {ks : List (List Key)} {vs : List V} {ds : List D} : Rd H a (.dT (ks.zip vs)) → ks.length = ds.length → ks.Nodup → Reps K H vs ds → Rep K H (.ref a) (.dct ks ds)
inductive Reps (K : W.Frag) (H : Hp) : List V → List D → Prop
  | nil : Reps K H [] []
  | cons {v : V} {d : D} {vs : List V} {ds : List D} : Rep K H v d → Reps K H vs ds → Reps K H (v :: vs) (d :: ds)
end

theorem Same.sqT {K : W.Frag} {H H' : Hp} {a : Addr} {xs : List V} (e : Same H H') (h : SqT K H a xs) : SqT K H' a xs := by
  rcases h with (h | ⟨o, h⟩) | h
  · exact .inl (.inl (e _ _ h))
  · exact .inl (.inr ⟨o, e _ _ h⟩)
  · exact .inr h
theorem Same.rd {H H' : Hp} {a : Addr} {u : HO} (e : Same H H') (h : Rd H a u) : Rd H' a u := by
  rcases h with h | ⟨o, h⟩
  · exact .inl (e _ _ h)
  · exact .inr ⟨o, e _ _ h⟩

section
variable {K : W.Frag} {H H' : Hp}
mutual
theorem Rep.mono (e : Same H H') : ∀ {v : V} {d : D}, Rep K H v d → Rep K H' v d
  | _, _, .non => .non
  | _, _, .bl b => .bl b
  | _, _, .int i => .int i
  | _, _, .str x => .str x
  | _, _, .tup s r => .tup (Same.sqT e s) (Reps.mono e r)
  | _, _, .lst s r => .lst (Same.rd e s) (Reps.mono e r)
  | _, _, .scr s r => .scr (e.seq s) (Reps.mono e r)
  | _, _, .dct s l n r => .dct (Same.rd e s) l n (Reps.mono e r)
theorem Reps.mono (e : Same H H') : ∀ {vs : List V} {ds : List D}, Reps K H vs ds → Reps K H' vs ds
  | _, _, .nil => .nil
  | _, _, .cons r t => .cons (Rep.mono e r) (Reps.mono e t)
end
theorem Reps.length : ∀ {vs : List V} {ds : List D}, Reps K H vs ds → vs.length = ds.length
  | _, _, .nil => rfl
  | _, _, .cons _ t => congrArg (· + 1) (Reps.length t)
theorem Reps.append : ∀ {vs ws : List V} {ds es : List D}, Reps K H vs ds → Reps K H ws es → Reps K H (vs ++ ws) (ds ++ es)
  | _, _, _, _, .nil, t => t
  | _, _, _, _, .cons r q, t => .cons r (Reps.append q t)
theorem Reps.get : ∀ {vs : List V} {ds : List D} {i : Nat} {d : D}, Reps K H vs ds → ds[i]? = some d → ∃ v, vs[i]? = some v ∧ Rep K H v d
  | _, _, _, _, .nil, e => by simp at e
  | _, _, 0, _, .cons r _, e => by simp at e; subst e; exact ⟨_, rfl, r⟩
  | _, _, i + 1, d, .cons _ t, e => by
    obtain ⟨u, h1, h2⟩ := Reps.get (i := i) (d := d) t (by simpa using e)
    exact ⟨u, by simpa using h1, h2⟩
theorem Reps.getV : ∀ {vs : List V} {ds : List D} {i : Nat} {v : V}, Reps K H vs ds → vs[i]? = some v → ∃ d, ds[i]? = some d ∧ Rep K H v d
  | _, _, _, _, .nil, e => by simp at e
  | _, _, 0, _, .cons r _, e => by simp at e; subst e; exact ⟨_, rfl, r⟩
  | _, _, i + 1, d, .cons _ t, e => by
    obtain ⟨u, h1, h2⟩ := Reps.getV (i := i) (v := d) t (by simpa using e)
    exact ⟨u, by simpa using h1, h2⟩
theorem Reps.take : ∀ {vs : List V} {ds : List D} (n : Nat), Reps K H vs ds → Reps K H (vs.take n) (ds.take n)
  | _, _, 0, _ => .nil
  | _, _, _ + 1, .nil => .nil
  | _, _, n + 1, .cons r t => .cons r (Reps.take n t)
theorem Reps.drop : ∀ {vs : List V} {ds : List D} (n : Nat), Reps K H vs ds → Reps K H (vs.drop n) (ds.drop n)
  | _, _, 0, r => r
  | _, _, _ + 1, .nil => .nil
  | _, _, n + 1, .cons _ t => Reps.drop n t
theorem Reps.set {v : V} {d : D} (r : Rep K H v d) : ∀ {vs : List V} {ds : List D} (i : Nat), Reps K H vs ds → Reps K H (vs.set i v) (ds.set i d)
  | _, _, _, .nil => .nil
  | _, _, 0, .cons _ t => .cons r t
  | _, _, i + 1, .cons q t => .cons q (Reps.set r i t)
end

/-- the frozen part Hf of the heap H grows: nothing that stood is changed, what is new in Hf is new in H, or a tuple -/
structure Grow (Hf H Hf' H' : Hp) : Prop where
  f : Same Hf Hf'
  h : Same H H'
  s : Same Hf' H'
  n : ∀ b o, Hf' b = some o → Hf b = some o ∨ H b = none ∨ ∃ xs, Rd H b (.tup xs)
section
variable {Hf H Hf' H' Hf'' H'' : Hp} {K : W.Frag}
theorem Grow.refl (s : Same Hf H) : Grow Hf H Hf H := ⟨Same.refl _, Same.refl _, s, fun _ _ h => .inl h⟩
theorem Rd.inv {H H' : Hp} {b : Addr} {xs : List V} (e : Same H H') (h : Rd H' b (.tup xs)) : (Rd H b (.tup xs)) ∨ H b = none ∨ H b ≠ none := by
  by_cases q : H b = none
  · exact .inr (.inl q)
  · exact .inr (.inr q)
theorem Grow.trans (a : Grow Hf H Hf' H') (b : Grow Hf' H' Hf'' H'') : Grow Hf H Hf'' H'' :=
  ⟨a.f.trans b.f, a.h.trans b.h, b.s, fun c o h => by
    rcases b.n c o h with q | q | ⟨xs, q⟩
    · exact a.n c o q
    · exact .inr (.inl (a.h.free q))
    · cases e : H c with
      | none => exact .inr (.inl rfl)
      | some u =>
        refine .inr (.inr ⟨xs, ?_⟩)
        have := a.h c u e
        rcases q with q | ⟨z, q⟩
        · rw [this] at q; cases q; exact .inl e
        · rw [this] at q; cases q; exact .inr ⟨z, e⟩⟩
/-- a new object, not frozen -/
theorem Grow.new (s : Same Hf H) {p : Addr} {o : HO} (hp : H p = none) : Grow Hf H Hf (upd H p o) :=
  ⟨Same.refl _, fun b u h => by rw [upd_ne (ne_of_none h hp)]; exact h, fun b u h => by rw [upd_ne (ne_of_none (s b u h) hp)]; exact s b u h, fun _ _ h => .inl h⟩
/-- a new object, frozen -/
theorem Grow.newF (s : Same Hf H) {p : Addr} {o : HO} (hp : H p = none) : Grow Hf H (upd Hf p o) (upd H p o) :=
  ⟨fun b u h => by rw [upd_ne (ne_of_none h (s.free hp))]; exact h, fun b u h => by rw [upd_ne (ne_of_none h hp)]; exact h,
   fun b u h => by
    by_cases e : b = p
    · subst e; rw [upd_same] at h ⊢; exact h
    · rw [upd_ne e] at h ⊢; exact s b u h,
   fun b u h => by
    by_cases e : b = p
    · subst e; exact .inr (.inl hp)
    · rw [upd_ne e] at h; exact .inl h⟩
end

/-- is it a thing that may be changed -/
def D.cont : D → Bool
  | .lst _ => true
  | .dct _ _ => true
  | _ => false

/-- an object whose parts are frozen -/
def Root (K : W.Frag) (Hf H : Hp) (p : Addr) : D → Prop
  | .lst ds => ∃ vs, H p = some (.lst vs) ∧ Reps K Hf vs ds
  | .dct ks ds => ∃ vs, H p = some (.dT (ks.zip vs)) ∧ ks.length = ds.length ∧ ks.Nodup ∧ Reps K Hf vs ds
  | _ => False
theorem Root.rep {K : W.Frag} {Hf H : Hp} {p : Addr} (s : Same Hf H) : ∀ {d : D}, Root K Hf H p d → Rep K H (.ref p) d
  | .lst _, ⟨_, h, r⟩ => .lst (.inl h) (r.mono s)
  | .dct _ _, ⟨_, h, l, n, r⟩ => .dct (.inl h) l n (r.mono s)
theorem Root.grow {K : W.Frag} {Hf H Hf' H' : Hp} {p : Addr} (g : Grow Hf H Hf' H') : ∀ {d : D}, Root K Hf H p d → Root K Hf' H' p d
  | .lst _, ⟨vs, h, r⟩ => ⟨vs, g.h _ _ h, r.mono g.f⟩
  | .dct _ _, ⟨vs, h, l, n, r⟩ => ⟨vs, g.h _ _ h, l, n, r.mono g.f⟩
theorem Root.cont {K : W.Frag} {Hf H : Hp} {p : Addr} : ∀ {d : D}, Root K Hf H p d → d.cont = true
  | .lst _, _ => rfl
  | .dct _ _, _ => rfl
theorem Root.some {K : W.Frag} {Hf H : Hp} {p : Addr} : ∀ {d : D}, Root K Hf H p d → ∃ o, H p = some o ∧ ∀ xs, ¬ Rd H p (.tup xs)
  | .lst _, ⟨vs, h, _⟩ => ⟨_, h, fun xs q => by rcases q with q | ⟨_, q⟩ <;> (rw [h] at q; cases q)⟩
  | .dct _ _, ⟨vs, h, _⟩ => ⟨_, h, fun xs q => by rcases q with q | ⟨_, q⟩ <;> (rw [h] at q; cases q)⟩
theorem Root.stays {K : W.Frag} {Hf H Hf' H' : Hp} {p : Addr} {d : D} (g : Grow Hf H Hf' H') (r : Root K Hf H p d) (h : Hf p = none) : Hf' p = none := by
  obtain ⟨o, e, nt⟩ := r.some
  cases q : Hf' p with
  | none => rfl
  | some u =>
    rcases g.n p u q with z | z | ⟨xs, z⟩
    · rw [h] at z; cases z
    · rw [e] at z; cases z
    · exact absurd z (nt xs)

/-- how a value is held: read only; frozen; nothing else holds it -/
inductive Tag where | B | F | N
  deriving DecidableEq
def TR (K : W.Frag) (t : Tag) (H0 Hf H : Hp) (v : V) (d : D) : Prop :=
  match t with
  | .F => Rep K Hf v d
  | .B => Rep K Hf v d ∨ ∃ p, v = .ref p ∧ Hf p = none ∧ Root K Hf H p d
  | .N => (d.cont = false ∧ Rep K Hf v d) ∨ ∃ p, v = .ref p ∧ H0 p = none ∧ Hf p = none ∧ Root K Hf H p d
section
variable {K : W.Frag} {H0 H1 Hf H Hf' H' : Hp} {v : V} {d : D} {t : Tag}
theorem TR.b : ∀ {t : Tag}, TR K t H0 Hf H v d → TR K .B H1 Hf H v d
  | .B, h => h
  | .F, h => .inl h
  | .N, .inl ⟨_, h⟩ => .inl h
  | .N, .inr ⟨p, h1, _, h2, h3⟩ => .inr ⟨p, h1, h2, h3⟩
theorem TR.grow (g : Grow Hf H Hf' H') : ∀ {t : Tag}, TR K t H0 Hf H v d → TR K t H0 Hf' H' v d
  | .B, .inl h => .inl (h.mono g.f)
  | .B, .inr ⟨p, h1, h2, h3⟩ => .inr ⟨p, h1, h3.stays g h2, h3.grow g⟩
  | .F, h => Rep.mono g.f h
  | .N, .inl ⟨c, h⟩ => .inl ⟨c, h.mono g.f⟩
  | .N, .inr ⟨p, h1, h0, h2, h3⟩ => .inr ⟨p, h1, h0, h3.stays g h2, h3.grow g⟩
theorem TR.back (s : Same H0 H1) : ∀ {t : Tag}, TR K t H1 Hf H v d → TR K t H0 Hf H v d
  | .B, h => h
  | .F, h => h
  | .N, .inl h => .inl h
  | .N, .inr ⟨p, h1, h0, h2, h3⟩ => .inr ⟨p, h1, s.free h0, h2, h3⟩
/-- all that may be read may be read in the whole heap -/
theorem TR.rep (s : Same Hf H) (h : TR K t H0 Hf H v d) : Rep K H v d := by
  have b : TR K .B H0 Hf H v d := h.b
  rcases b with b | ⟨p, rfl, _, r⟩
  · exact b.mono s
  · exact r.rep s
/-- to freeze what nothing else holds -/
theorem TR.freeze {Hs : Hp} (g : Grow Hs H0 Hf H) (h : TR K .N H0 Hf H v d) : ∃ Hf', Grow Hs H0 Hf' H ∧ Same Hf Hf' ∧ Rep K Hf' v d := by
  rcases h with ⟨_, h⟩ | ⟨p, rfl, h0, h2, r⟩
  · exact ⟨Hf, g, Same.refl _, h⟩
  · obtain ⟨o, ho, _⟩ := r.some
    have sm : Same Hf (upd Hf p o) := fun b u e => by rw [upd_ne (ne_of_none e h2)]; exact e
    refine ⟨upd Hf p o, ⟨g.f.trans sm, g.h, fun b u e => ?_, fun b u e => ?_⟩, sm, ?_⟩
    · by_cases q : b = p
      · subst q; rw [upd_same] at e; cases e; exact ho
      · rw [upd_ne q] at e; exact g.s b u e
    · by_cases q : b = p
      · subst q; exact .inr (.inl h0)
      · rw [upd_ne q] at e; exact g.n b u e
    · cases d with
      | lst ds => obtain ⟨vs, e, r⟩ := r; rw [e] at ho; cases ho; exact .lst (.inl upd_same) (r.mono sm)
      | dct ks ds => obtain ⟨vs, e, l, n, r⟩ := r; rw [e] at ho; cases ho; exact .dct (.inl upd_same) l n (r.mono sm)
      | _ => exact r.elim
end
/-! ### slots and data -/
abbrev Env := List (Option D)
structure StRel (K : W.Frag) (ω : List Nat) (HB HE Hf H : Hp) (σ : L2.St) (env : Env) : Prop where
  g : Grow HB HE Hf H
  len : env.length = σ.length
  own : ∀ i ∈ ω, ∀ d, env[i]? = some (some d) → ∃ v, σ[i]? = some (some v) ∧ TR K .N HE Hf H v d
  inj : ∀ i ∈ ω, ∀ j ∈ ω, i ≠ j → ∀ (p : Addr) d e, env[i]? = some (some d) → env[j]? = some (some e) → d.cont = true → e.cont = true → σ[i]? = some (some (.ref p)) → σ[j]? = some (some (.ref p)) → False
  fz : ∀ i, i ∉ ω → ∀ d, env[i]? = some (some d) → ∃ v, σ[i]? = some (some v) ∧ Rep K Hf v d
section
variable {K : W.Frag} {ω ω' : List Nat} {HB HE Hf H Hf' H' : Hp} {σ : L2.St} {env : Env}
theorem StRel.grow (r : StRel K ω HB HE Hf H σ env) (g : Grow Hf H Hf' H') : StRel K ω HB HE Hf' H' σ env :=
  ⟨r.g.trans g, r.len, fun i hi d e => let ⟨v, a, b⟩ := r.own i hi d e; ⟨v, a, b.grow g⟩, r.inj, fun i hi d e => let ⟨v, a, b⟩ := r.fz i hi d e; ⟨v, a, b.mono g.f⟩⟩
theorem StRel.same (r : StRel K ω HB HE Hf H σ env) : Same Hf H := r.g.s
end
end Ev
/-! EvB: programs as plain code; what the code gives, upon plain data. -/
namespace Ev
open PySem PySem.Spec PyProof.Rows L2

/-- what a step gives: nothing that is promised; a value; an exception -/
inductive M (α : Type) where
  | stuck | ok (a : α) | ex (c : Str) (ns : List Str) (fs : List D)
namespace M
def bind {α β : Type} (m : M α) (f : α → M β) : M β := match m with
  | .stuck => .stuck
  | .ok a => f a
  | .ex c ns fs => .ex c ns fs
instance : Monad M := { pure := .ok, bind := bind }
@[simp] theorem ok_bind {α β : Type} (a : α) (f : α → M β) : ((M.ok a : M α) >>= f) = f a := rfl
@[simp] theorem stuck_bind {α β : Type} (f : α → M β) : ((M.stuck : M α) >>= f) = .stuck := rfl
@[simp] theorem ex_bind {α β : Type} (c ns fs) (f : α → M β) : ((M.ex c ns fs : M α) >>= f) = .ex c ns fs := rfl
@[simp] theorem assoc {α β γ : Type} (m : M α) (f : α → M β) (g : β → M γ) : (m >>= f) >>= g = m >>= fun x => f x >>= g := by cases m <;> rfl
@[simp] theorem pure_eq {α : Type} (a : α) : (pure a : M α) = .ok a := rfl
end M
def ofO {α : Type} : Option α → M α
  | some a => .ok a
  | none => .stuck
@[simp] theorem ofO_some {α : Type} (a : α) : ofO (some a) = .ok a := rfl
@[simp] theorem ofO_none {α : Type} : (ofO none : M α) = .stuck := rfl
def grd {α : Type} (b : Bool) (x : α) : Option α := if b then some x else none
@[simp] theorem grd_true {α : Type} (x : α) : grd true x = some x := rfl
@[simp] theorem grd_false {α : Type} (x : α) : grd false x = none := rfl

/-! data as the library has it -/
mutual
def D.py : D → PyData
  | .non => .none
  | .bl b => .bool b
  | .int i => .int i
  | .str x => .str x
  | .tup a => .tuple (D.pys a)
  | .lst a => .list (D.pys a)
  | _ => .dict []
def D.pys : List D → List PyData
  | [] => []
  | a :: r => D.py a :: D.pys r
end
def fits (n : Nat) : Bool := decide (n ≤ 16777216)
/-- a factor within 2^64, or both together below a million bits -/
def mulOk (i j : Int) : Bool := (decide (-(2 ^ 64) < i) && decide (i < 2 ^ 64)) || (decide (-(2 ^ 64) < j) && decide (j < 2 ^ 64)) || decide (i.natAbs.log2 + j.natAbs.log2 < 1000000)
def divOk (j : Int) : Bool := decide (j ≠ 0) && (decide (j.natAbs < 1073741824) || (decide (0 < j) && decide (j.natAbs.log2 < 9000)))
def dAdd : D → D → Option D
  | .int i, .int j => some (.int (i + j))
  | .str x, .str y => grd (fits (x.length + y.length)) ((.str (x ++ y)))
  | .lst x, .lst y => grd (fits (x.length + y.length)) ((.lst (x ++ y)))
  | .tup x, .tup y => grd (fits (x.length + y.length)) ((.tup (x ++ y)))
  | _, _ => none
def dSub : D → D → Option D
  | .int i, .int j => some (.int (i - j))
  | _, _ => none
def dMul : D → D → Option D
  | .int i, .int j => grd (mulOk i j) ((.int (i * j)))
  | .lst x, .int k => grd (decide (-(2 ^ 63) ≤ k) && decide (k < 2 ^ 63) && fits (x.length * k.toNat)) ((.lst (List.replicate k.toNat x).flatten))
  | _, _ => none
def dMod : D → D → Option D
  | .int i, .int j => grd (decide (j ≠ 0)) ((.int (i.fmod j)))
  | _, _ => none
def dDiv : D → D → Option D
  | .int i, .int j => grd (divOk j) (.int (i.fdiv j))
  | _, _ => none
def dPow : D → D → Option D
  | .int i, .int j => grd (decide (0 ≤ j) && decide (j ≤ 1000000) && decide (i.natAbs < 2 ^ 64)) ((.int (i ^ j.toNat)))
  | _, _ => none
def dBin (op : Operator) (a b : D) : Option D := match op with
  | .Add => dAdd a b
  | .Sub => dSub a b
  | .Mult => dMul a b
  | .Mod => dMod a b
  | .FloorDiv => dDiv a b
  | .Pow => dPow a b
  | _ => none
/-- tuples of ints in order -/
def dInts : List D → Option (List Int)
  | [] => some []
  | .int i :: r => (dInts r).map (i :: ·)
  | _ => none
/-- plain, and not too deep -/
def dOk (d : D) : Bool := PyData.plain d.py && decide (PyData.depth d.py ≤ 60)
def isNone : PyData → Bool
  | .none => true
  | _ => false
def dLt (a b : D) : Option Bool := grd (dOk a && dOk b && PySem.W.alike a.py b.py && !isNone a.py) (PySem.W.dataLt a.py b.py)
def dEq (a b : D) : Option Bool := grd (dOk a && dOk b) (PyData.eqv a.py b.py)
def dIn (a b : D) : Option Bool := match b with
  | .lst xs => grd (dOk a && dOk b) (xs.any fun y => PyData.eqv y.py a.py)
  | .tup xs => grd (dOk a && dOk b) (xs.any fun y => PyData.eqv y.py a.py)
  | _ => none
def dCmp (op : CmpOp) (a b : D) : Option Bool := match op with
  | .Lt => dLt a b
  | .Gt => grd (dOk a && dOk b && PySem.W.alike a.py b.py && !isNone a.py) (PySem.W.dataLt b.py a.py)
  | .LtE => grd (dOk a && dOk b && PySem.W.alike a.py b.py && !isNone a.py) (!PySem.W.dataLt b.py a.py)
  | .GtE => grd (dOk a && dOk b && PySem.W.alike a.py b.py && !isNone a.py) (!PySem.W.dataLt a.py b.py)
  | .Eq => dEq a b
  | .NotEq => grd (dOk a && dOk b) (!PyData.eqv a.py b.py)
  | .In => dIn a b
  | .NotIn => (dIn a b).map (!·)
  | _ => none
def dIdx : D → D → Option D
  | .lst xs, .int i => atI xs i
  | .tup xs, .int i => atI xs i
  | .scr xs, .int i => atI xs i
  | _, _ => none
def partOf : Option D → Option (Option Int)
  | none => some none
  | some (.int i) => some (some i)
  | _ => none
/-- xs[lo:hi] -/
def cutD (xs : List D) (lo hi : Option Int) : List D :=
  let a := HT.sIx xs.length 0 lo
  let b := HT.sIx xs.length xs.length hi
  (xs.drop a).take (b - a)
def dSlc (d : D) (lo hi : Option Int) : Option D := match d with
  | .lst xs => some (.lst (cutD xs lo hi))
  | .scr xs => some (.lst (cutD xs lo hi))
  | .tup xs => some (.tup (cutD xs lo hi))
  | _ => none

inductive Ty where | int | bool | list | tuple | str
  deriving DecidableEq
def Ty.name : Ty → String
  | .int => "int"
  | .bool => "bool"
  | .list => "list"
  | .tuple => "tuple"
  | .str => "str"
def Ty.is : Ty → PyData → Bool
  | .int, d => d.isInt
  | .bool, d => d.isBool
  | .list, d => d.isList
  | .tuple, d => d.isTuple
  | .str, d => d.isStr
inductive Blt where | len | tupleOf | listOf | sumOf | min2 | max2 | isa (t : Ty) | absI | intOf
  deriving DecidableEq
def dLen : D → Option D
  | .lst x => some (.int x.length)
  | .tup x => some (.int x.length)
  | .scr x => some (.int x.length)
  | _ => none
def dTupleOf : D → Option D
  | .lst x => some (.tup x)
  | .tup x => some (.tup x)
  | _ => none
def dListOf : D → Option D
  | .lst x => some (.lst x)
  | .scr x => some (.lst x)
  | .tup x => some (.lst x)
  | _ => none
def dSum : D → Option D
  | .lst x => (dInts x).map fun ns => .int ns.sum
  | .tup x => (dInts x).map fun ns => .int ns.sum
  | _ => none
def dMin2 : D → D → Option D
  | .int i, .int j => some (.int (if j < i then j else i))
  | _, _ => none
def dMax2 : D → D → Option D
  | .int i, .int j => some (.int (if i < j then j else i))
  | _, _ => none
def dAbs : D → Option D
  | .int i => some (.int (if i < 0 then -i else i))
  | _ => none
def dIntOf : D → Option D
  | .int i => some (.int i)
  | .bl b => some (.int (if b then 1 else 0))
  | _ => none
def on1 (f : D → Option D) : List D → Option D
  | [d] => f d
  | _ => none
def on2 (f : D → D → Option D) : List D → Option D
  | [d, e] => f d e
  | _ => none
def dBlt : Blt → List D → Option D
  | .len => on1 dLen
  | .tupleOf => on1 dTupleOf
  | .listOf => on1 dListOf
  | .sumOf => on1 dSum
  | .min2 => on2 dMin2
  | .max2 => on2 dMax2
  | .isa t => on1 fun d => grd (PyData.plain d.py) (.bl (t.is d.py))
  | .absI => on1 dAbs
  | .intOf => on1 dIntOf

/-! ### pieces of code's meaning -/
/-- a target: a name's slot, a tuple of slots -/
inductive CP where | one (i : Nat) | many (is : List Nat)
  deriving DecidableEq
abbrev PhiT := Str → List D → M D
/-- the whole numbers a, a + 1, .. -/
def upFrom (a : Int) : Nat → List D
  | 0 => []
  | n + 1 => .int a :: upFrom (a + 1) n
def small (i : Int) : Bool := decide (-(2 ^ 62) ≤ i) && decide (i < 2 ^ 62)
def dRange (a b : D) : Option (List D) := match a, b with
  | .int a, .int b => grd (small a && small b) (upFrom a (b - a).toNat)
  | _, _ => none
def bindP : CP → D → Env → Option Env
  | .one i, d, env => some (env.set i (some d))
  | .many is, .tup ds, env => grd (is.length == ds.length) ((is.zip ds).foldl (fun e p => e.set p.1 (some p.2)) env)
  | _, _, _ => none
def wipeD (env : Env) : List Nat → Env
  | [] => env
  | v :: vs => (wipeD env vs).set v none
/-- the turns of a comprehension -/
def compL (f : D → M (Option D)) : List D → M (List D)
  | [] => .ok []
  | d :: r => match f d with
    | .ok (some x) => match compL f r with
      | .ok xs => .ok (x :: xs)
      | _ => .stuck
    | .ok none => compL f r
    | _ => .stuck
def asB : M D → M Bool
  | .ok (.bl b) => .ok b
  | .ex c ns fs => .ex c ns fs
  | _ => .stuck
inductive Fl where
  | stuck | nx (env : Env) | rt (d : D) | ct (env : Env) | ex (c : Str) (ns : List Str) (fs : List D)
def ofM (m : M D) (f : D → Fl) : Fl := match m with
  | .ok d => f d
  | .stuck => .stuck
  | .ex c ns fs => .ex c ns fs
def ofE (m : M Env) : Fl := match m with
  | .ok d => .nx d
  | .stuck => .stuck
  | .ex c ns fs => .ex c ns fs
def Fl.seq (x : Fl) (f : Env → Fl) : Fl := match x with
  | .nx env => f env
  | .stuck => .stuck
  | .rt d => .rt d
  | .ct env => .ct env
  | .ex c ns fs => .ex c ns fs
/-- a loop over data -/
def forL (f : D → Env → Fl) : List D → Env → Fl
  | [], env => .nx env
  | d :: r, env => match f d env with
    | .nx env' => forL f r env'
    | .ct env' => forL f r env'
    | .rt d => .rt d
    | .ex c ns fs => .ex c ns fs
    | .stuck => .stuck
def whileL (c : Env → M Bool) (f : Env → Fl) : Nat → Env → Fl
  | 0, _ => .stuck
  | n + 1, env => match c env with
    | .ok true => match f env with
      | .nx env' => whileL c f n env'
      | .ct env' => whileL c f n env'
      | .rt d => .rt d
      | .ex c ns fs => .ex c ns fs
      | .stuck => .stuck
    | .ok false => .nx env
    | .ex c ns fs => .ex c ns fs
    | .stuck => .stuck
end Ev
set_option maxHeartbeats 1000000
/-! EvC: each construct's rule, upon plain data. -/
namespace Ev
open PySem PySem.Spec PyProof.Rows L2

theorem fits_le {n : Nat} (h : fits n = true) : n ≤ sizeLine := by
  rw [sizeLine_eq]; exact of_decide_eq_true h
theorem grd_some {α : Type} {b : Bool} {x y : α} (h : grd b x = some y) : b = true ∧ x = y := by
  cases b
  · exact nomatch h
  · exact ⟨rfl, Option.some.inj h⟩

theorem PEi {X : Cx} {e : Expr} {t t' : TE} (h : PE X e t) (hi : ∀ σ H Q, t' σ H Q → t σ H Q) : PE X e t' := ⟨fun pins s σ H Q I q => h.run pins s σ H Q I (hi σ H Q q)⟩
theorem PTi {X : Cx} {e : Expr} {t t' : TT} (h : PT X e t) (hi : ∀ σ H Q, t' σ H Q → t σ H Q) : PT X e t' := ⟨fun pins s σ H Q I q => h.run pins s σ H Q I (hi σ H Q q)⟩
theorem PAi {X : Cx} {e : List Expr} {t t' : TA} (h : PA X e t) (hi : ∀ σ H Q, t' σ H Q → t σ H Q) : PA X e t' := ⟨fun pos pins s σ H Q I q => h.run pos pins s σ H Q I (hi σ H Q q)⟩
theorem PSi {X : Cx} {e : Stmt} {t t' : TS} (h : PS X e t) (hi : ∀ D σ H, t' D σ H → t D σ H) : PS X e t' := ⟨fun pins s σ H D I q => h.run pins s σ H D I (hi D σ H q)⟩
theorem PSsi {X : Cx} {e : List Stmt} {t t' : TS} (h : PSs X e t) (hi : ∀ D σ H, t' D σ H → t D σ H) : PSs X e t' := ⟨fun pins s σ H D I q => h.run pins s σ H D I (hi D σ H q)⟩

/-! ### exceptions -/
/-- the globals that hold classes -/
abbrev GT := Str → Option Value
def ExR (K : W.Frag) (G : GT) (c : Str) (ns : List Str) (fs : List D) (cls : Value) (dd : Option Addr) (Hf H : Hp) : Prop :=
  (∃ C, G c = some (.ref C) ∧ cls = .ref C) ∧ ((ns = [] ∧ fs = [] ∧ dd = none) ∨ ∃ d vs, ns ≠ [] ∧ dd = some d ∧ ns.length = fs.length ∧ H d = some (.xd (ns.zip vs)) ∧ Reps K Hf vs fs)

/-! ### readings upon data -/
def EQ (K : W.Frag) (G : GT) (W : WX) (σ : L2.St) {α : Type} (P : α → Hp → Hp → Prop) (Hf H : Hp) : M α → Prop
  | .stuck => False
  | .ok a => ∀ Hf' H', Grow Hf H Hf' H' → P a Hf' H'
  | .ex c ns fs => ∀ cls dd Hf' H', Grow Hf H Hf' H' → ExR K G c ns fs cls dd Hf' H' → W cls dd σ H'
def PV (K : W.Frag) (t : Tag) (H0 : Hp) (Q : VK) : D → Hp → Hp → Prop := fun d Hf' H' => ∀ v, TR K t H0 Hf' H' v d → Q v H'
def PB (Q : Bool → Hp → Prop) : Bool → Hp → Hp → Prop := fun b _ H' => Q b H'
def PL (K : W.Frag) (t : Tag) (H0 : Hp) (Q : List V → Hp → Prop) : List D → Hp → Hp → Prop := fun ds Hf' H' => ∀ vs, Paired (TR K t H0 Hf' H') vs ds → Q vs H'
def tE (K : W.Frag) (G : GT) (W : WX) (ω : List Nat) (t : Tag) (f : Env → M D) : TE := fun σ H Q => ∃ HB HE Hf env, StRel K ω HB HE Hf H σ env ∧ EQ K G W σ (PV K t H Q) Hf H (f env)
def tEs (K : W.Frag) (G : GT) (W : WX) (ω : List Nat) (t : Tag) (f : Env → M (List D)) : TA := fun σ H Q => ∃ HB HE Hf env, StRel K ω HB HE Hf H σ env ∧ EQ K G W σ (PL K t H Q) Hf H (f env)
def tEb (K : W.Frag) (G : GT) (W : WX) (ω : List Nat) (f : Env → M Bool) : TT := fun σ H Q => ∃ HB HE Hf env, StRel K ω HB HE Hf H σ env ∧ EQ K G W σ (PB Q) Hf H (f env)

section
variable {K : W.Frag} {G : GT} {W : WX} {ω : List Nat} {t u : Tag} {σ : L2.St} {HB HE Hf H Hf1 H1 : Hp} {Q : VK} {env : Env} {α β : Type}
/-- a first step, then the rest -/
theorem EQ.bindA {m : M α} {k : α → M β} {P : β → Hp → Hp → Prop} {R : α → Hp → Hp → Prop} (h : EQ K G W σ P Hf H (m >>= k))
    (hk : ∀ a, (∀ Hf1 H1, Grow Hf H Hf1 H1 → EQ K G W σ P Hf1 H1 (k a)) → ∀ Hf1 H1, Grow Hf H Hf1 H1 → R a Hf1 H1) : EQ K G W σ R Hf H m := by
  cases m with
  | stuck => exact h
  | ok d =>
    refine hk d fun Hf1 H1 g => ?_
    have h' : EQ K G W σ P Hf H (k d) := h
    cases e : k d with
    | stuck => rw [e] at h'; exact h'
    | ok z =>
      rw [e] at h'
      intro Hf2 H2 g2
      exact h' Hf2 H2 (g.trans g2)
    | ex c ns fs =>
      rw [e] at h'
      intro cls dd Hf2 H2 g2 x
      exact h' cls dd Hf2 H2 (g.trans g2) x
  | ex c ns fs => exact h
theorem EQ.bind {m : M α} {k : α → M β} {P : β → Hp → Hp → Prop} {R : α → Hp → Hp → Prop} (h : EQ K G W σ P Hf H (m >>= k))
    (hk : ∀ a Hf1 H1, Grow Hf H Hf1 H1 → EQ K G W σ P Hf1 H1 (k a) → R a Hf1 H1) : EQ K G W σ R Hf H m :=
  h.bindA fun a q Hf1 H1 g => hk a Hf1 H1 g (q Hf1 H1 g)
theorem EQ.imp {m : M α} {P R : α → Hp → Hp → Prop} (h : EQ K G W σ P Hf H m) (hk : ∀ a Hf1 H1, Grow Hf H Hf1 H1 → P a Hf1 H1 → R a Hf1 H1) : EQ K G W σ R Hf H m := by
  cases m with
  | stuck => exact h
  | ok d => exact fun Hf1 H1 g => hk d Hf1 H1 g (h Hf1 H1 g)
  | ex c ns fs => exact h
/-- a step of data that can't raise -/
theorem EQ.ofO {o : Option α} {P : α → Hp → Hp → Prop} (h : EQ K G W σ P Hf H (Ev.ofO o)) : ∃ a, o = some a ∧ ∀ Hf' H', Grow Hf H Hf' H' → P a Hf' H' := by
  cases o with
  | none => exact h.elim
  | some a => exact ⟨a, rfl, h⟩
theorem EQ.ofO_bind {o : Option α} {k : α → M β} {P : β → Hp → Hp → Prop} (h : EQ K G W σ P Hf H (Ev.ofO o >>= k)) : ∃ a, o = some a ∧ EQ K G W σ P Hf H (k a) := by
  cases o with
  | none => exact h.elim
  | some a => exact ⟨a, rfl, h⟩
end

/-! ### operators -/
/-- a rule by values serves an operation upon data -/
def OpS (K : W.Frag) (r : R2) (g : D → D → Option D) (t : Tag) : Prop := ∀ Hf H x y d e z (Q : VK), Same Hf H → TR K .B H Hf H x d → TR K .B H Hf H y e → g d e = some z → (∀ Hf' H', Grow Hf H Hf' H' → PV K t H Q z Hf' H') → r x y H Q
section
variable {X : Cx} {G : GT} {W : WX} {ω : List Nat} {t u v : Tag} {a b : Expr} {fa fb : Env → M D} {pos : Pos}
theorem tE_op {K : PySem.W.Frag} {r : R2} {g : D → D → Option D} (S : OpS K r g t) : ∀ σ H Q, tE K G W ω t (fun env => fa env >>= fun x => fb env >>= fun y => ofO (g x y)) σ H Q → tOp r (tE K G W ω u fa) (tE K G W ω v fb) σ H Q := by
  intro σ H Q ⟨HB, HE, Hf, env, st, h⟩
  refine ⟨HB, HE, Hf, env, st, h.bind fun d Hf1 H1 g1 h1 x rx => ?_⟩
  refine ⟨HB, HE, Hf1, env, st.grow g1, h1.bind fun e Hf2 H2 g2 h2 y ry => ?_⟩
  obtain ⟨z, ez, q⟩ := h2.ofO
  refine S Hf2 H2 x y d e z Q g2.s (rx.b.grow g2) ry.b ez fun Hf3 H3 g3 w hw => ?_
  exact q Hf3 H3 g3 w (hw.back (g1.h.trans g2.h))
theorem se_bin {op : Operator} {r : R2} {g : D → D → Option D} (O : OpR X (binaryOp op) r) (S : OpS X.K r g t) (ha : PE X a (tE X.K G W ω u fa)) (hb : PE X b (tE X.K G W ω v fb)) :
    PE X (.BinOp a op b pos) (tE X.K G W ω t (fun env => fa env >>= fun x => fb env >>= fun y => ofO (g x y))) := PEi (pe_op O ha hb) (tE_op S)
end
def rOr (r s : R2) : R2 := fun x y H Q => r x y H Q ∨ s x y H Q
theorem opr_or {X : Cx} {f : Value → Value → Sem Value} {r s : R2} (h1 : OpR X f r) (h2 : OpR X f s) : OpR X f (rOr r s) := by
  intro pins s0 σ H x y v u Q I rx ry h
  rcases h with h | h
  · exact h1 pins s0 σ H x y v u Q I rx ry h
  · exact h2 pins s0 σ H x y v u Q I rx ry h
section
variable {K : W.Frag} {Hf H H0 : Hp} {x : V} {d : D} {t : Tag}
theorem TR.int {i : Int} (h : TR K t H0 Hf H x (.int i)) (s : Same Hf H) : x = .int i := by cases h.rep s; rfl
theorem TR.str {i : Str} (h : TR K t H0 Hf H x (.str i)) (s : Same Hf H) : x = .str i := by cases h.rep s; rfl
theorem TR.bl {i : Bool} (h : TR K t H0 Hf H x (.bl i)) (s : Same Hf H) : x = .bl i := by cases h.rep s; rfl
theorem TR.non (h : TR K t H0 Hf H x .non) (s : Same Hf H) : x = .non := by cases h.rep s; rfl
/-- a list that may be read: its items are frozen -/
theorem TR.lst {ds : List D} (h : TR K t H0 Hf H x (.lst ds)) (s : Same Hf H) : ∃ a vs, x = .ref a ∧ Rd H a (.lst vs) ∧ Reps K Hf vs ds := by
  have b : TR K .B H0 Hf H x (.lst ds) := h.b
  rcases b with b | ⟨p, rfl, _, vs, e, r⟩
  · cases b with
    | lst q r => exact ⟨_, _, rfl, Same.rd s q, r⟩
  · exact ⟨p, vs, rfl, .inl e, r⟩
theorem TR.dct {ks : List (List Key)} {ds : List D} (h : TR K t H0 Hf H x (.dct ks ds)) (s : Same Hf H) : ∃ a vs, x = .ref a ∧ Rd H a (.dT (ks.zip vs)) ∧ ks.length = ds.length ∧ ks.Nodup ∧ Reps K Hf vs ds := by
  have b : TR K .B H0 Hf H x (.dct ks ds) := h.b
  rcases b with b | ⟨p, rfl, _, vs, e, l, n, r⟩
  · cases b with
    | dct q l n r => exact ⟨_, _, rfl, Same.rd s q, l, n, r⟩
  · exact ⟨p, vs, rfl, .inl e, l, n, r⟩
theorem TR.frz (h : TR K t H0 Hf H x d) (c : d.cont = false) : Rep K Hf x d := by
  have b : TR K .B H0 Hf H x d := h.b
  rcases b with b | ⟨p, rfl, _, r⟩
  · exact b
  · rw [r.cont] at c; cases c
theorem TR.tup {ds : List D} (h : TR K t H0 Hf H x (.tup ds)) (s : Same Hf H) : ∃ a vs, x = .ref a ∧ SqT K H a vs ∧ Reps K Hf vs ds := by
  have b := h.frz rfl
  cases b with
  | tup q r => exact ⟨_, _, rfl, Same.sqT s q, r⟩
theorem TR.scr {ds : List D} (h : TR K t H0 Hf H x (.scr ds)) (s : Same Hf H) : ∃ a vs, x = .ref a ∧ SqL K H a vs ∧ Reps K Hf vs ds := by
  have b := h.frz rfl
  cases b with
  | scr q r => exact ⟨_, _, rfl, s.seq q, r⟩
/-- a new list is nobody's -/
theorem new_lst {p : Addr} {vs : List V} {ds : List D} {Q : VK} (s : Same Hf H) (hp : H p = none) (r : Reps K Hf vs ds) (q : ∀ Hf' H', Grow Hf H Hf' H' → PV K .N H Q (.lst ds) Hf' H') : Q (.ref p) (upd H p (.lst vs)) :=
  q Hf _ (Grow.new s hp) _ (.inr ⟨p, rfl, hp, s.free hp, vs, upd_same, r⟩)
theorem new_tup {p : Addr} {vs : List V} {ds : List D} {Q : VK} (s : Same Hf H) (hp : H p = none) (r : Reps K Hf vs ds) (q : ∀ Hf' H', Grow Hf H Hf' H' → PV K .N H Q (.tup ds) Hf' H') : Q (.ref p) (upd H p (.tup vs)) :=
  q _ _ (Grow.newF s hp (o := .tup vs)) _ (.inl ⟨rfl, .tup (.inl (.inl upd_same)) (r.mono (Grow.newF s hp).f)⟩)
theorem old_flat {v : V} {d : D} {Q : VK} (s : Same Hf H) (c : d.cont = false) (r : Rep K Hf v d) (q : ∀ Hf' H', Grow Hf H Hf' H' → PV K .N H Q d Hf' H') : Q v H := q Hf H (Grow.refl s) v (.inl ⟨c, r⟩)
theorem old_frz {v : V} {d : D} {Q : VK} (s : Same Hf H) (r : Rep K Hf v d) (q : ∀ Hf' H', Grow Hf H Hf' H' → PV K .F H Q d Hf' H') : Q v H := q Hf H (Grow.refl s) v r
end

/-- list + list, whether locked or not -/
def rCatL : R2 := fun x y H Q => ∃ l b xs zs, x = .ref l ∧ y = .ref b ∧ Rd H l (.lst xs) ∧ Rd H b (.lst zs) ∧ xs.length + zs.length ≤ sizeLine ∧ ∀ p, H p = none → Q (.ref p) (upd H p (.lst (xs ++ zs)))
theorem op_catL {X : Cx} : OpR X (binaryOp .Add) rCatL := by
  intro pins s σ H x y v u Q I rx ry h
  obtain ⟨l, b, xs, zs, rfl, rfl, hH, hB, hz, q⟩ := h
  cases rx
  cases ry
  obtain ⟨z, its, n, r, e⟩ := hH.ok I.hok
  obtain ⟨z2, its2, n2, r2, e2⟩ := hB.ok I.hok
  refine PySem.P.add_list e e2 ?_ (by rw [List.size_toArray, List.size_toArray, ← r.length, ← r2.length]; omega)
  have ea : its.toArray ++ its2.toArray = (its ++ its2).toArray := by simp
  rw [ea]
  exact ⟨.ref _, _, I.lnew (t' := s.toks) (r.append r2) (by rw [List.length_append]; omega), rfl, q _ I.fresh⟩
def rAddAll (K : W.Frag) : R2 := rOr (rI0 fun i j => V.int (i + j)) (rOr (fun x y H Q => ∃ i j, x = V.str i ∧ y = V.str j ∧ i.length + j.length ≤ sizeLine ∧ Q (V.str (i ++ j)) H) (rOr rCatL (rCatA K)))
theorem op_addAll {X : Cx} : OpR X (binaryOp .Add) (rAddAll X.K) := opr_or op_add (opr_or op_add_str (opr_or op_catL op_catA))
theorem opS_add {K : W.Frag} : OpS K (rAddAll K) dAdd .N := by
  intro Hf H x y d e z Q s rx ry hz q
  cases d with
  | int i =>
    cases e with
    | int j => cases hz; exact .inl ⟨i, j, rx.int s, ry.int s, old_flat s rfl (.int _) q⟩
    | _ => exact nomatch hz
  | str i =>
    cases e with
    | str j =>
      obtain ⟨h1, h2⟩ := grd_some hz
      subst h2
      exact .inr (.inl ⟨i, j, rx.str s, ry.str s, fits_le h1, old_flat s rfl (.str _) q⟩)
    | _ => exact nomatch hz
  | lst xs =>
    cases e with
    | lst ys =>
      obtain ⟨h1, h2⟩ := grd_some hz
      subst h2
      obtain ⟨a, vs, rfl, ha, ra⟩ := rx.lst s
      obtain ⟨b, ws, rfl, hb, rb⟩ := ry.lst s
      refine .inr (.inr (.inl ⟨a, b, vs, ws, rfl, rfl, ha, hb, ?_, fun p hp => new_lst s hp (ra.append rb) q⟩))
      rw [ra.length, rb.length]
      exact fits_le h1
    | _ => exact nomatch hz
  | tup xs =>
    cases e with
    | tup ys =>
      obtain ⟨h1, h2⟩ := grd_some hz
      subst h2
      obtain ⟨a, vs, ea, ha, ra⟩ := rx.tup s
      obtain ⟨b, ws, eb, hb, rb⟩ := ry.tup s
      subst ea
      subst eb
      refine .inr (.inr (.inr ⟨a, b, vs, ws, rfl, rfl, ha, hb, ?_, fun e => ?_, fun _ e => ?_, fun _ _ p hp => new_tup s hp (ra.append rb) q⟩))
      · rw [ra.length, rb.length]
        exact fits_le h1
      · subst e
        have ex : xs = [] := List.eq_nil_of_length_eq_zero ra.length.symm
        subst ex
        exact old_flat s rfl (ry.frz rfl) q
      · subst e
        have ex : ys = [] := List.eq_nil_of_length_eq_zero rb.length.symm
        subst ex
        exact old_flat s rfl (by rw [List.append_nil]; exact rx.frz rfl) q
    | _ => exact nomatch hz
  | _ => exact nomatch hz
theorem opS_sub {K : W.Frag} : OpS K (rI0 fun i j => V.int (i - j)) dSub .N := by
  intro Hf H x y d e z Q s rx ry hz q
  cases d with
  | int i =>
    cases e with
    | int j => cases hz; exact ⟨i, j, rx.int s, ry.int s, old_flat s rfl (.int _) q⟩
    | _ => exact nomatch hz
  | _ => exact nomatch hz
/-- list * int, whether locked or not -/
def rRepL : R2 := fun x y H Q => ∃ l k xs, x = .ref l ∧ y = .int k ∧ Rd H l (.lst xs) ∧ -(2 ^ 63) ≤ k ∧ k < 2 ^ 63 ∧ xs.length * k.toNat ≤ sizeLine ∧
  ∀ p, H p = none → Q (.ref p) (upd H p (.lst (List.replicate k.toNat xs).flatten))
theorem op_repL {X : Cx} : OpR X (binaryOp .Mult) rRepL := by
  intro pins s σ H x y v u Q I rx ry h
  obtain ⟨l, k, xs, rfl, rfl, hH, h1, h2, hz, q⟩ := h
  cases rx
  obtain ⟨t, rfl⟩ := ry
  obtain ⟨z, its, n, r, e⟩ := hH.ok I.hok
  have hl := r.length
  have hlen : its.toArray.size * k.toNat ≤ sizeLine := by rw [List.size_toArray, ← hl]; exact hz
  have hcap : ¬ its.toArray.size * k.toNat > (2 ^ 63 - 1) / 8 := by
    have : (sizeLine : Nat) ≤ (2 ^ 63 - 1) / 8 := by decide
    omega
  have hfit : ¬ (!Builtin.List.listFitsIndex k) = true := by
    rw [fitsIndex_both h1 h2]
    exact Bool.false_ne_true
  have hlong : ¬ Builtin.List.listTooLong (its.toArray.size * k.toNat) = true := by
    rw [notLongL hlen]
    exact Bool.false_ne_true
  have hnew : List.foldl (fun x1 x2 => x1 ++ x2) #[] (List.replicate (if its.toArray.isEmpty = true then 0 else k.toNat) its.toArray) = (List.replicate k.toNat its).flatten.toArray := by
    have f0 : ∀ m : Nat, List.foldl (fun x1 x2 => x1 ++ x2) #[] (List.replicate m its.toArray) = (List.replicate m its).flatten.toArray := fun m => by
      have := foldl_rep its m []
      rw [List.nil_append] at this
      exact this
    rw [f0]
    cases its with
    | nil => simp
    | cons a r' => rw [if_neg (by simp)]
  refine wpAny_binaryOp_repeat_ref (T := "list") (U := "int") (by decide) ⟨_, e, rfl⟩ (fun s' => typeIs_int s' k t) noFill_list_mul F.fills_int_mul F.slot_int_rmul repeat_list F.slot_int_index.lookup
    (call_meets F.slot_int_rmul (typeIs_int s k t) F.entry_int_rmul (F.args_int_rmul_2 _ _) (int___rmul___int_list k t l its.toArray n)
      ⟨e, rfl, ⟨_, e, rfl⟩, call_meets F.slot_list_mul ⟨_, e, rfl⟩ F.entry_list_mul (F.args_list_mul_2 _ _) (AutoListH.list___mul___list_int_3 l its.toArray n k t hfit hcap hlong) ⟨e, ?_⟩⟩)
  rw [hnew]
  exact ⟨.ref _, _, I.lnew (t' := s.toks) (r.rep k.toNat) (by rw [PyProof.Rows.lm_len_rep_flat, Nat.mul_comm]; exact hz), rfl, q _ I.fresh⟩
theorem Reps.rep {K : W.Frag} {H : Hp} {vs : List V} {ds : List D} (r : Reps K H vs ds) : ∀ n : Nat, Reps K H (List.replicate n vs).flatten (List.replicate n ds).flatten
  | 0 => .nil
  | n + 1 => by
    rw [List.replicate_succ, List.replicate_succ, List.flatten_cons, List.flatten_cons]
    exact r.append (Reps.rep r n)
theorem mulOk_ok {i j : Int} (h : mulOk i j = true) : IntMulOk i j := by
  unfold mulOk at h
  simp only [Bool.or_eq_true, Bool.and_eq_true, decide_eq_true_eq] at h
  rcases h with (h | h) | h
  · exact CMul.ok (.inl h)
  · exact CMul.ok (.inr h)
  · exact CMulW.ok h
theorem op_mulO {X : Cx} : OpR X (binaryOp .Mult) (rI IntMulOk fun i j => .int (i * j)) := opI fun _ _ _ _ _ _ _ hc q => mul_int q hc
theorem opS_mul {K : W.Frag} : OpS K (rOr (rI IntMulOk fun i j => .int (i * j)) rRepL) dMul .N := by
  intro Hf H x y d e z Q s rx ry hz q
  cases d with
  | int i =>
    cases e with
    | int j =>
      obtain ⟨h1, h2⟩ := grd_some hz
      subst h2
      exact .inl ⟨i, j, rx.int s, ry.int s, mulOk_ok h1, old_flat s rfl (.int _) q⟩
    | _ => exact nomatch hz
  | lst xs =>
    cases e with
    | int k =>
      obtain ⟨h1, h2⟩ := grd_some hz
      subst h2
      simp only [Bool.and_eq_true, decide_eq_true_eq] at h1
      obtain ⟨a, vs, rfl, ha, ra⟩ := rx.lst s
      refine .inr ⟨a, k, vs, rfl, ry.int s, ha, h1.1.1, h1.1.2, ?_, fun p hp => new_lst s hp (ra.rep _) q⟩
      rw [ra.length]
      exact fits_le h1.2
    | _ => exact nomatch hz
  | _ => exact nomatch hz
theorem opS_mod {K : W.Frag} : OpS K (rI (fun _ j => j ≠ 0) fun i j => .int (i.fmod j)) dMod .N := by
  intro Hf H x y d e z Q s rx ry hz q
  cases d with
  | int i =>
    cases e with
    | int j =>
      obtain ⟨h1, h2⟩ := grd_some hz
      subst h2
      exact ⟨i, j, rx.int s, ry.int s, of_decide_eq_true h1, old_flat s rfl (.int _) q⟩
    | _ => exact nomatch hz
  | _ => exact nomatch hz
theorem opS_div {K : W.Frag} : OpS K (rOr (rI CDivN fun i j => .int (i.fdiv j)) (rI CDivW fun i j => .int (i / j))) dDiv .N := by
  intro Hf H x y d e z Q s rx ry hz q
  cases d with
  | int i =>
    cases e with
    | int j =>
      obtain ⟨h1, h2⟩ := grd_some hz
      subst h2
      unfold divOk at h1
      simp only [Bool.or_eq_true, Bool.and_eq_true, decide_eq_true_eq] at h1
      rcases h1.2 with h | h
      · exact .inl ⟨i, j, rx.int s, ry.int s, ⟨h1.1, h⟩, old_flat s rfl (.int _) q⟩
      · refine .inr ⟨i, j, rx.int s, ry.int s, h, ?_⟩
        show Q (V.int (i / j)) H
        rw [← Int.fdiv_eq_ediv_of_nonneg i (b := j) (by omega)]
        exact old_flat s rfl (.int _) q
    | _ => exact nomatch hz
  | _ => exact nomatch hz
theorem opS_pow {K : W.Frag} : OpS K (rI CPow fun i j => .int (i ^ j.toNat)) dPow .N := by
  intro Hf H x y d e z Q s rx ry hz q
  cases d with
  | int i =>
    cases e with
    | int j =>
      obtain ⟨h1, h2⟩ := grd_some hz
      subst h2
      simp only [Bool.and_eq_true, decide_eq_true_eq] at h1
      exact ⟨i, j, rx.int s, ry.int s, ⟨h1.1.1, h1.1.2, h1.2⟩, old_flat s rfl (.int _) q⟩
    | _ => exact nomatch hz
  | _ => exact nomatch hz
/-- all binary operators -/
theorem se_binop {X : Cx} {G : GT} {W : WX} {ω : List Nat} {u v : Tag} {a b : Expr} {fa fb : Env → M D} {pos : Pos} {op : Operator} (hop : op = .Add ∨ op = .Sub ∨ op = .Mult ∨ op = .Mod ∨ op = .FloorDiv ∨ op = .Pow)
    (ha : PE X a (tE X.K G W ω u fa)) (hb : PE X b (tE X.K G W ω v fb)) : PE X (.BinOp a op b pos) (tE X.K G W ω .N (fun env => fa env >>= fun x => fb env >>= fun y => ofO (dBin op x y))) := by
  rcases hop with rfl | rfl | rfl | rfl | rfl | rfl
  · exact se_bin op_addAll opS_add ha hb
  · exact se_bin op_sub opS_sub ha hb
  · exact se_bin (opr_or op_mulO op_repL) opS_mul ha hb
  · exact se_bin op_modN opS_mod ha hb
  · exact se_bin (opr_or op_fdivN op_fdivW) opS_div ha hb
  · exact se_bin op_pow opS_pow ha hb
end Ev
set_option maxHeartbeats 1000000
/-! EvD: comparisons, displays, subscripts, calls, upon plain data. -/
namespace Ev
open PySem PySem.Spec PyProof.Rows L2
section
variable {X : Cx} {pins : List (Addr × Obj)} {σ : L2.St} {H : Hp} {s : Shared}
mutual
/-- what stands for plain data reads as the library has it -/
theorem Rep.reads (I : Inv X pins σ H s) : ∀ {v : V} {d : D}, Rep X.K H v d → PyData.plain d.py = true → ∀ {u : Value}, RelV v u → ∃ as, Reads s.heap u d.py as
  | _, _, .non, _, u, r => by cases r; exact ⟨_, .none⟩
  | _, _, .bl b, _, u, r => by cases r; exact ⟨_, .bool b⟩
  | _, _, .int i, _, u, r => by obtain ⟨t, rfl⟩ := r; exact ⟨_, .int i t⟩
  | _, _, .str x, _, u, r => by obtain ⟨t, rfl⟩ := r; exact ⟨_, .str x t⟩
  | _, _, .tup q rs, p, u, r => by
    cases r
    obtain ⟨its, rv, ht, _⟩ := I.tuple q
    obtain ⟨o, h1, h2, n, h3⟩ := ht
    obtain ⟨as, ra⟩ := Reps.reads I rs (by simpa only [D.py, PyData.plain] using p) rv
    exact ⟨as, by rw [D.py]; exact .tuple h1 h2 h3 (by simpa using ra)⟩
  | _, _, .lst q rs, p, u, r => by
    cases r
    obtain ⟨_, its, n, rv, e⟩ := q.ok I.hok
    obtain ⟨as, ra⟩ := Reps.reads I rs (by simpa only [D.py, PyData.plain] using p) rv
    exact ⟨_, by rw [D.py]; exact .list e rfl rfl (by simpa using ra)⟩
  | _, _, .scr q rs, p, u, r => by simp [D.py, PyData.plain] at p
  | _, _, .dct q l n rs, p, u, r => by simp [D.py, PyData.plain] at p
theorem Reps.reads (I : Inv X pins σ H s) : ∀ {vs : List V} {ds : List D}, Reps X.K H vs ds → PyData.plainAll (D.pys ds) = true → ∀ {us : List Value}, Vals vs us → ∃ as, ReadsAll s.heap us (D.pys ds) as
  | _, _, .nil, _, us, r => by cases r; exact ⟨_, .nil⟩
  | _, _, .cons q t, p, us, r => by
    cases r with
    | cons r1 r2 =>
      rw [D.pys, PyData.plainAll, Bool.and_eq_true] at p
      obtain ⟨as, h1⟩ := Rep.reads I q p.1 r1
      obtain ⟨bs, h2⟩ := Reps.reads I t p.2 r2
      exact ⟨_, by rw [D.pys]; exact .cons h1 h2⟩
end
end

theorem RelV.pair {us : List Value} {x y : V} (r : Vals [x, y] us) : ∃ u v, us = [u, v] ∧ RelV x u ∧ RelV y v := by
  cases r with
  | cons r1 r2 => cases r2 with
    | cons r2 r3 => cases r3; exact ⟨_, _, rfl, r1, r2⟩
/-! ### comparisons of data -/
def rD2 (K : W.Frag) (g : D → D → Option Bool) : R2 := fun x y H Q => ∃ d e b, Rep K H x d ∧ Rep K H y e ∧ g d e = some b ∧ Q (.bl b) H
theorem dOk_and {d e : D} {b c : Bool} (h : grd (dOk d && dOk e) b = some c) : (PyData.plain d.py = true ∧ PyData.depth d.py ≤ 60) ∧ (PyData.plain e.py = true ∧ PyData.depth e.py ≤ 60) ∧ b = c := by
  obtain ⟨h1, h2⟩ := grd_some h
  simp only [dOk, Bool.and_eq_true, decide_eq_true_eq] at h1
  exact ⟨h1.1, h1.2, h2⟩
theorem dOk_alike {d e : D} {b c : Bool} (h : grd (dOk d && dOk e && PySem.W.alike d.py e.py && !isNone d.py) b = some c) : (PyData.plain d.py = true ∧ PyData.depth d.py ≤ 60) ∧ (PyData.plain e.py = true ∧ PyData.depth e.py ≤ 60) ∧ PySem.W.alike d.py e.py = true ∧ d.py ≠ .none ∧ b = c := by
  obtain ⟨h1, h2⟩ := grd_some h
  simp only [dOk, Bool.and_eq_true, decide_eq_true_eq] at h1
  refine ⟨h1.1.1.1, h1.1.1.2, h1.1.2, fun e => ?_, h2⟩
  rw [e] at h1
  exact nomatch h1.2
section
variable {X : Cx}
theorem op_dCmp (hu : X.A.units + 64 < cLine) (op : CmpOp) (hop : op = .Lt ∨ op = .Gt ∨ op = .LtE ∨ op = .GtE ∨ op = .Eq ∨ op = .NotEq) : OpR X (compareOp op) (rD2 X.K (dCmp op)) := by
  intro pins s σ H x y v u Q I rx ry ⟨d, e, b, hd, he, hg, q⟩
  rcases hop with rfl | rfl | rfl | rfl | rfl | rfl
  · obtain ⟨p1, p2, al, nn, rfl⟩ := dOk_alike (show grd _ _ = some _ from hg)
    obtain ⟨as, r1⟩ := hd.reads I p1.1 rx
    obtain ⟨bs, r2⟩ := he.reads I p2.1 ry
    exact PySem.W.lt_data r1 r2 al nn (by have := Nat.min_le_left d.py.depth e.py.depth; omega) ⟨.bl _, H, I, rfl, q⟩
  · obtain ⟨p1, p2, al, nn, rfl⟩ := dOk_alike (show grd _ _ = some _ from hg)
    obtain ⟨as, r1⟩ := hd.reads I p1.1 rx
    obtain ⟨bs, r2⟩ := he.reads I p2.1 ry
    exact PySem.W.gt_data r1 r2 al nn (by have := Nat.min_le_left d.py.depth e.py.depth; omega) ⟨.bl _, H, I, rfl, q⟩
  · obtain ⟨p1, p2, al, nn, rfl⟩ := dOk_alike (show grd _ _ = some _ from hg)
    obtain ⟨as, r1⟩ := hd.reads I p1.1 rx
    obtain ⟨bs, r2⟩ := he.reads I p2.1 ry
    exact PySem.W.le_data r1 r2 al nn (by have := Nat.min_le_left d.py.depth e.py.depth; omega) ⟨.bl _, H, I, rfl, q⟩
  · obtain ⟨p1, p2, al, nn, rfl⟩ := dOk_alike (show grd _ _ = some _ from hg)
    obtain ⟨as, r1⟩ := hd.reads I p1.1 rx
    obtain ⟨bs, r2⟩ := he.reads I p2.1 ry
    exact PySem.W.ge_data r1 r2 al nn (by have := Nat.min_le_left d.py.depth e.py.depth; omega) ⟨.bl _, H, I, rfl, q⟩
  · obtain ⟨p1, p2, rfl⟩ := dOk_and (show grd _ _ = some _ from hg)
    obtain ⟨as, r1⟩ := hd.reads I p1.1 rx
    obtain ⟨bs, r2⟩ := he.reads I p2.1 ry
    exact PySem.SeqAt.eq_plain r1 r2 p1.1 p2.1 (by have := Nat.min_le_left d.py.depth e.py.depth; omega) ⟨.bl _, H, I, rfl, q⟩
  · obtain ⟨p1, p2, rfl⟩ := dOk_and (show grd _ _ = some _ from hg)
    obtain ⟨as, r1⟩ := hd.reads I p1.1 rx
    obtain ⟨bs, r2⟩ := he.reads I p2.1 ry
    exact PySem.SeqAt.ne_plain r1 r2 p1.1 p2.1 (by have := Nat.min_le_left d.py.depth e.py.depth; omega) ⟨.bl _, H, I, rfl, q⟩
theorem pys_any (f : PyData → Bool) : ∀ xs : List D, (D.pys xs).any f = xs.any fun y => f y.py
  | [] => by rw [D.pys]; rfl
  | x :: r => by rw [D.pys, List.any_cons, List.any_cons, pys_any f r]
theorem op_dIn (hu : X.A.units + 64 < cLine) : OpR X (compareOp .In) (rD2 X.K dIn) ∧ OpR X (compareOp .NotIn) (rD2 X.K fun a b => (dIn a b).map (!·)) := by
  have key : ∀ {d e : D} {b : Bool}, dIn d e = some b → (∃ xs, (e = .lst xs ∨ e = .tup xs) ∧ b = (D.pys xs).any (fun y => PyData.eqv y d.py) ∧ PyData.plain d.py = true ∧ PyData.plainAll (D.pys xs) = true ∧ PyData.depth d.py ≤ 60) := by
    intro d e b h
    cases e with
    | lst xs =>
      obtain ⟨p1, p2, rfl⟩ := dOk_and h
      exact ⟨xs, .inl rfl, by rw [pys_any], p1.1, by simpa only [D.py, PyData.plain] using p2.1, p1.2⟩
    | tup xs =>
      obtain ⟨p1, p2, rfl⟩ := dOk_and h
      exact ⟨xs, .inr rfl, by rw [pys_any], p1.1, by simpa only [D.py, PyData.plain] using p2.1, p1.2⟩
    | _ => exact nomatch h
  constructor
  · intro pins s σ H x y v u Q I rx ry ⟨d, e, b, hd, he, hg, q⟩
    obtain ⟨xs, hx, rfl, p1, p2, p3⟩ := key hg
    obtain ⟨as, r1⟩ := hd.reads I p1 rx
    rcases hx with rfl | rfl
    · obtain ⟨bs, r2⟩ := he.reads I (by simpa only [D.py, PyData.plain] using p2) ry
      rw [D.py] at r2
      exact PySem.SeqAt.in_list_data r2 r1 p2 p1 (by have := Nat.min_le_right (PyData.depthAll (D.pys xs)) d.py.depth; omega) ⟨.bl _, H, I, rfl, q⟩
    · obtain ⟨bs, r2⟩ := he.reads I (by simpa only [D.py, PyData.plain] using p2) ry
      rw [D.py] at r2
      exact PySem.SeqAt.in_tuple_data r2 r1 p2 p1 (by have := Nat.min_le_right (PyData.depthAll (D.pys xs)) d.py.depth; omega) ⟨.bl _, H, I, rfl, q⟩
  · intro pins s σ H x y v u Q I rx ry ⟨d, e, b, hd, he, hg, q⟩
    have hg : (dIn d e).map (!·) = some b := hg
    cases hb : dIn d e with
    | none => rw [hb] at hg; exact nomatch hg
    | some c =>
      rw [hb] at hg
      cases hg
      obtain ⟨xs, hx, rfl, p1, p2, p3⟩ := key hb
      obtain ⟨as, r1⟩ := hd.reads I p1 rx
      rcases hx with rfl | rfl
      · obtain ⟨bs, r2⟩ := he.reads I (by simpa only [D.py, PyData.plain] using p2) ry
        rw [D.py] at r2
        exact PySem.SeqAt.notIn_list_data r2 r1 p2 p1 (by have := Nat.min_le_right (PyData.depthAll (D.pys xs)) d.py.depth; omega) ⟨.bl _, H, I, rfl, q⟩
      · obtain ⟨bs, r2⟩ := he.reads I (by simpa only [D.py, PyData.plain] using p2) ry
        rw [D.py] at r2
        exact PySem.SeqAt.notIn_tuple_data r2 r1 p2 p1 (by have := Nat.min_le_right (PyData.depthAll (D.pys xs)) d.py.depth; omega) ⟨.bl _, H, I, rfl, q⟩
end
end Ev
set_option maxHeartbeats 1000000
/-! EvE: names, displays, subscripts, calls, tests upon plain data. -/
namespace Ev
open PySem PySem.Spec PyProof.Rows L2
section
variable {X : Cx} {G : GT} {Z : WX} {ω : List Nat} {t u : Tag} {pos : Pos} {e : Expr} {es : List Expr} {f : Env → M D} {fs : Env → M (List D)}
/-! ### names and constants -/
def denV (i : Nat) : Env → M D := fun env => match env[i]? with
    | some (some d) => .ok d
    | _ => .stuck
theorem denV_ok {i : Nat} {env : Env} {d : D} (h : denV i env = .ok d) : env[i]? = some (some d) := by
  unfold denV at h
  split at h
  · rename_i q; cases h; exact q
  · cases h
theorem EQ_stuck {K : W.Frag} {σ : L2.St} {α : Type} {P : α → Hp → Hp → Prop} {Hf H : Hp} {m : M α} (h : EQ K G Z σ P Hf H m) : m ≠ .stuck := fun e => by rw [e] at h; exact h
theorem denV_cases {i : Nat} {env : Env} (h : denV i env ≠ .stuck) : ∃ d, denV i env = .ok d ∧ env[i]? = some (some d) := by
  unfold denV at h ⊢
  split
  · rename_i d q; exact ⟨d, rfl, q⟩
  · rename_i q
    split at h
    · rename_i d q'; exact absurd q' (q d)
    · exact absurd rfl h
theorem se_var {i : Nat} {x : Str} (hN : X.N[i]? = some x) (hv : Vis X.env.scope x) (hd : (x == ("__debug__" : Str)) = false) (hcd : (x == ("__classdict__" : Str)) = false) :
    PE X (.Name x pos) (tE X.K G Z ω (if i ∈ ω then .B else .F) (denV i)) := by
  refine PEi (pe_var hN hv hd hcd) fun σ H Q ⟨HB, HE, Hf, env, st, h⟩ => ?_
  obtain ⟨d, e1, e2⟩ := denV_cases (EQ_stuck h)
  rw [e1] at h
  by_cases hi : i ∈ ω
  · rw [if_pos hi] at h
    obtain ⟨v, e3, r⟩ := st.own i hi d e2
    exact ⟨v, e3, h Hf H (Grow.refl st.g.s) v r.b⟩
  · rw [if_neg hi] at h
    obtain ⟨v, e3, r⟩ := st.fz i hi d e2
    exact ⟨v, e3, h Hf H (Grow.refl st.g.s) v r⟩
theorem se_con {c : V} {d : D} (h : PE X e (tC c)) (hc : d.cont = false) (r : ∀ H, Rep X.K H c d) : PE X e (tE X.K G Z ω .N fun _ => .ok d) :=
  PEi h fun σ H Q ⟨HB, HE, Hf, env, st, h⟩ => h Hf H (Grow.refl st.g.s) c (.inl ⟨hc, r Hf⟩)
/-- to freeze what is nobody's -/
theorem se_F (h : PE X e (tE X.K G Z ω .N f)) : PE X e (tE X.K G Z ω .F f) := PEi h fun σ H Q ⟨HB, HE, Hf, env, st, h⟩ =>
  ⟨HB, HE, Hf, env, st, by
    cases q : f env with
    | stuck => rw [q] at h; exact h
    | ex c ns fs => rw [q] at h; exact h
    | ok d =>
      rw [q] at h
      intro Hf1 H1 g v r
      obtain ⟨Hf2, g2, _, r2⟩ := r.freeze g
      exact h Hf2 H1 g2 v r2⟩
theorem se_B (h : PE X e (tE X.K G Z ω u f)) : PE X e (tE X.K G Z ω .B f) := PEi h fun σ H Q ⟨HB, HE, Hf, env, st, h⟩ =>
  ⟨HB, HE, Hf, env, st, h.imp fun d Hf1 H1 _ p v r => p v r.b⟩
/-! ### lists of expressions -/
theorem sa_nil : PA X [] (tEs X.K G Z ω t fun _ => .ok []) := PAi pa_nil fun σ H Q ⟨HB, HE, Hf, env, st, h⟩ => h Hf H (Grow.refl st.g.s) [] .nil
theorem sa_consB (h1 : PE X e (tE X.K G Z ω u f)) (h2 : PA X es (tEs X.K G Z ω .B fs)) (hs : starEach (e :: es) X.env = (false, eval e X.env) :: starEach es X.env) :
    PA X (e :: es) (tEs X.K G Z ω .B fun env => f env >>= fun d => fs env >>= fun ds => .ok (d :: ds)) := PAi (pa_cons h1 h2 hs) fun σ H Q ⟨HB, HE, Hf, env, st, h⟩ =>
  ⟨HB, HE, Hf, env, st, h.bind fun d Hf1 H1 g1 k1 v r => ⟨HB, HE, Hf1, env, st.grow g1, k1.bind fun ds Hf2 H2 g2 k2 vs rs => k2 Hf2 H2 (Grow.refl g2.s) (v :: vs) (.cons (r.b.grow g2) rs)⟩⟩
theorem Paired.imp {α β : Type} {F F' : α → β → Prop} (h : ∀ a b, F a b → F' a b) : ∀ {xs : List α} {ys : List β}, PySem.Paired F xs ys → PySem.Paired F' xs ys
  | _, _, .nil => .nil
  | _, _, .cons r t => .cons (h _ _ r) (Paired.imp h t)
theorem sa_consF (h1 : PE X e (tE X.K G Z ω .F f)) (h2 : PA X es (tEs X.K G Z ω .F fs)) (hs : starEach (e :: es) X.env = (false, eval e X.env) :: starEach es X.env) :
    PA X (e :: es) (tEs X.K G Z ω .F fun env => f env >>= fun d => fs env >>= fun ds => .ok (d :: ds)) := PAi (pa_cons h1 h2 hs) fun σ H Q ⟨HB, HE, Hf, env, st, h⟩ =>
  ⟨HB, HE, Hf, env, st, h.bind fun d Hf1 H1 g1 k1 v r => ⟨HB, HE, Hf1, env, st.grow g1, k1.bind fun ds Hf2 H2 g2 k2 vs rs => k2 Hf2 H2 (Grow.refl g2.s) (v :: vs) (.cons (r.grow g2) rs)⟩⟩
theorem reps_of {K : W.Frag} {H0 Hf H : Hp} : ∀ {vs : List V} {ds : List D}, Paired (TR K .F H0 Hf H) vs ds → Reps K Hf vs ds
  | _, _, .nil => .nil
  | _, _, .cons r t => .cons r (reps_of t)
/-! ### displays -/
theorem se_tup {k : Nat} (h : PA X es (tEs X.K G Z ω .F fs)) (hl : ∀ env ds, fs env = .ok ds → ds.length ≤ sizeLine) : PE X (.Tuple es k pos) (tE X.K G Z ω .N fun env => fs env >>= fun ds => .ok (.tup ds)) :=
  PEi (pe_tup h) fun σ H Q ⟨HB, HE, Hf, env, st, h⟩ => ⟨HB, HE, Hf, env, st, by
    dsimp only at h
    cases q : fs env with
    | stuck => rw [q] at h; exact h
    | ex c ns fs => rw [q] at h; exact h
    | ok ds =>
      rw [q] at h
      have h : EQ X.K G Z σ (PV X.K .N H Q) Hf H (.ok _) := h
      intro Hf1 H1 g vs rs
      have r := reps_of rs
      refine ⟨by rw [r.length]; exact hl _ _ q, fun p hp => new_tup g.s hp r fun Hf2 H2 g2 v w => h Hf2 H2 (g.trans g2) v (w.back g.h)⟩⟩
theorem se_lst (h : PA X es (tEs X.K G Z ω .F fs)) (hl : ∀ env ds, fs env = .ok ds → ds.length ≤ sizeLine) : PE X (.List es pos) (tE X.K G Z ω .N fun env => fs env >>= fun ds => .ok (.lst ds)) :=
  PEi (pe_lst h) fun σ H Q ⟨HB, HE, Hf, env, st, h⟩ => ⟨HB, HE, Hf, env, st, by
    dsimp only at h
    cases q : fs env with
    | stuck => rw [q] at h; exact h
    | ex c ns fs => rw [q] at h; exact h
    | ok ds =>
      rw [q] at h
      have h : EQ X.K G Z σ (PV X.K .N H Q) Hf H (.ok _) := h
      intro Hf1 H1 g vs rs
      have r := reps_of rs
      refine ⟨by rw [r.length]; exact hl _ _ q, fun p hp => new_lst g.s hp r fun Hf2 H2 g2 v w => h Hf2 H2 (g.trans g2) v (w.back g.h)⟩⟩
/-! ### comparisons -/
def dB (o : Option Bool) : Option D := o.map D.bl
theorem opS_D2 {K : W.Frag} {g : D → D → Option Bool} : OpS K (rD2 K g) (fun a b => dB (g a b)) .N := by
  intro Hf H x y d e z Q s rx ry hz q
  cases hb : g d e with
  | none => simp [dB, hb] at hz
  | some b =>
    simp only [dB, hb, Option.map_some, Option.some.injEq] at hz
    subst hz
    exact ⟨d, e, b, rx.rep s, ry.rep s, hb, old_flat s rfl (.bl _) q⟩
variable {a b : Expr} {fa fb : Env → M D} {v : Tag}
theorem se_cmp {op : CmpOp} {g : D → D → Option Bool} (O : OpR X (compareOp op) (rD2 X.K g)) (ha : PE X a (tE X.K G Z ω u fa)) (hb : PE X b (tE X.K G Z ω v fb)) (hm : behindInMarks op b = false) :
    PE X (.Compare a [op] [b] pos) (tE X.K G Z ω .N fun env => fa env >>= fun x => fb env >>= fun y => ofO (dB (g x y))) := PEi (pe_cmpR O ha hb hm) (tE_op opS_D2)
/-! ### subscripts -/
/-- a subscript: its item is frozen -/
def rIx (K : W.Frag) : R2 := fun x y H Q => ∃ p xs i v, x = .ref p ∧ y = .int i ∧ (SqL K H p xs ∨ SqT K H p xs) ∧ atI xs i = some v ∧ Q v H
theorem ixR_or {r s : R2} (h1 : IxR X r) (h2 : IxR X s) : IxR X (rOr r s) := by
  intro va sl pins s0 σ H x y v u Q I rx ry h hs
  rcases h with h | h
  · exact h1 va sl pins s0 σ H x y v u Q I rx ry h hs
  · exact h2 va sl pins s0 σ H x y v u Q I rx ry h hs
theorem atI_reps {K : W.Frag} {H : Hp} {vs : List V} {ds : List D} {i : Int} {d : D} (r : Reps K H vs ds) (h : atI ds i = some d) : ∃ v, atI vs i = some v ∧ Rep K H v d := by
  unfold atI at h ⊢
  rw [r.length]
  cases e : ixN ds.length i with
  | none => rw [e] at h; exact nomatch h
  | some j =>
    rw [e] at h
    exact r.get h
theorem opS_idx {K : W.Frag} : OpS K (rOr (rIxL K) (rIxT K)) dIdx .F := by
  intro Hf H x y d e z Q s rx ry hz q
  cases e with
  | int i =>
    have ey := ry.int s
    cases d with
    | lst xs =>
      obtain ⟨a, vs, rfl, ha, ra⟩ := rx.lst s
      obtain ⟨v, hv, rv⟩ := atI_reps ra hz
      exact .inl ⟨a, vs, i, v, rfl, ey, .inl ha, hv, old_frz s rv q⟩
    | scr xs =>
      obtain ⟨a, vs, rfl, ha, ra⟩ := rx.scr s
      obtain ⟨v, hv, rv⟩ := atI_reps ra hz
      exact .inl ⟨a, vs, i, v, rfl, ey, ha, hv, old_frz s rv q⟩
    | tup xs =>
      obtain ⟨a, vs, rfl, ha, ra⟩ := rx.tup s
      obtain ⟨v, hv, rv⟩ := atI_reps ra hz
      exact .inr ⟨a, vs, i, v, rfl, ey, ha, hv, old_frz s rv q⟩
    | _ => exact nomatch hz
  | _ => cases d <;> exact nomatch hz
theorem se_idx (ha : PE X a (tE X.K G Z ω u fa)) (hb : PE X b (tE X.K G Z ω v fb)) (hp : PlainIx b) :
    PE X (.Subscript a b pos) (tE X.K G Z ω .F fun env => fa env >>= fun x => fb env >>= fun y => ofO (dIdx x y)) := PEi (pe_ix (ixR_or ix_list ix_tup) ha hb hp) (tE_op opS_idx)
end
end Ev
set_option maxHeartbeats 1000000
/-! EvF: slices, tests, built-ins upon plain data. -/
namespace Ev
open PySem PySem.Spec PyProof.Rows L2
section
variable {X : Cx} {G : GT} {Z : WX} {ω : List Nat} {t u v : Tag} {pos pos' : Pos} {e a b c : Expr} {es : List Expr} {f fa fb fc : Env → M D} {fs : Env → M (List D)}
/-! ### slices -/
theorem slR_or {r s : V → Option Int → Option Int → Hp → VK → Prop} (h1 : SlR X r) (h2 : SlR X s) : SlR X (fun x l h H Q => r x l h H Q ∨ s x l h H Q) := by
  intro pins s0 σ H x v vl vu lo hi sl Q I rx hs pl pu h
  rcases h with h | h
  · exact h1 pins s0 σ H x v vl vu lo hi sl Q I rx hs pl pu h
  · exact h2 pins s0 σ H x v vl vu lo hi sl Q I rx hs pl pu h
def fO (f : Env → M D) : Env → M (Option Int) := fun env => f env >>= fun x => ofO (partOf (some x))
def fN : Env → M (Option Int) := fun _ => .ok none
def tEo (K : PySem.W.Frag) (G : GT) (Z : WX) (ω : List Nat) (f : Env → M (Option Int)) : TO := fun σ H Q => ∃ HB HE Hf env, StRel K ω HB HE Hf H σ env ∧ EQ K G Z σ (fun l _ H' => Q l H') Hf H (f env)
theorem so_none {lo : Option Expr} (h : lo = none) : PO X lo (tEo X.K G Z ω fN) := by
  subst h
  refine ⟨fun pins s σ H Q I h => (po_none (X := X)).run pins s σ H Q I ?_⟩
  obtain ⟨HB, HE, Hf, env, st, h⟩ := h
  exact h Hf H (Grow.refl st.g.s)
theorem so_some (h : PE X e (tE X.K G Z ω u f)) : PO X (some e) (tEo X.K G Z ω (fO f)) := by
  refine ⟨fun pins s σ H Q I q => (po_some h).run pins s σ H Q I ?_⟩
  obtain ⟨HB, HE, Hf, env, st, q⟩ := q
  refine ⟨HB, HE, Hf, env, st, q.bind fun d Hf1 H1 g1 k1 v r => ?_⟩
  cases d with
  | int i => exact ⟨i, r.int g1.s, k1 Hf1 H1 (Grow.refl g1.s)⟩
  | _ => exact k1.elim
theorem cutD_reps {K : PySem.W.Frag} {H : Hp} {vs : List V} {ds : List D} (r : Reps K H vs ds) (lo hi : Option Int) : Reps K H (cutV vs lo hi) (cutD ds lo hi) := by
  unfold cutV cutD
  rw [r.length]
  exact (r.drop _).take _
theorem se_slc {lo hi : Option Expr} {fl fh : Env → M (Option Int)} (h : PE X e (tE X.K G Z ω u f)) (h1 : PO X lo (tEo X.K G Z ω fl)) (h2 : PO X hi (tEo X.K G Z ω fh)) :
    PE X (.Subscript e (.Slice lo hi none pos') pos) (tE X.K G Z ω .N fun env => f env >>= fun x => fl env >>= fun l => fh env >>= fun h => ofO (dSlc x l h)) := by
  refine PEi (pe_slice (slR_or sl_list sl_tupA) h h1 h2) fun σ H Q ⟨HB, HE, Hf, env, st, h⟩ => ?_
  refine ⟨HB, HE, Hf, env, st, h.bind fun d Hf1 H1 g1 k1 x rx => ⟨HB, HE, Hf1, env, st.grow g1, k1.bind fun l Hf2 H2 g2 k2 => ⟨HB, HE, Hf2, env, (st.grow g1).grow g2, k2.bind fun h' Hf3 H3 g3 k3 => ?_⟩⟩⟩
  obtain ⟨z, ez, q⟩ := k3.ofO
  have g := (g1.trans g2).trans g3
  have q' : ∀ Hf' H', Grow Hf3 H3 Hf' H' → PV X.K .N H3 Q z Hf' H' := fun Hf4 H4 g4 w hw => q Hf4 H4 g4 w (hw.back g.h)
  have r3 := (rx.grow g2).grow g3
  cases d with
  | lst xs =>
    cases ez
    obtain ⟨p, vs, rfl, hp, rp⟩ := r3.lst g3.s
    exact .inl ⟨p, vs, rfl, .inl hp, fun p' hp' => new_lst g3.s hp' (cutD_reps rp _ _) q'⟩
  | scr xs =>
    cases ez
    obtain ⟨p, vs, rfl, hp, rp⟩ := r3.scr g3.s
    exact .inl ⟨p, vs, rfl, hp, fun p' hp' => new_lst g3.s hp' (cutD_reps rp _ _) q'⟩
  | tup xs =>
    cases ez
    obtain ⟨p, vs, ep, hp, rp⟩ := r3.tup g3.s
    refine .inr ⟨p, vs, ep, hp, fun hw => ?_, fun _ p' hp' => new_tup g3.s hp' (cutD_reps rp _ _) q'⟩
    have e : cutD xs l h' = xs := by
      unfold cutD
      rw [rp.length] at hw
      rw [hw.1, hw.2]
      simp
    rw [e] at q'
    rw [← ep]
    exact old_flat g3.s rfl (r3.frz rfl) q'
  | _ => exact nomatch ez
/-! ### - a -/
def dNeg : D → Option D
  | .int i => some (.int (-i))
  | _ => none
theorem se_neg (h : PE X a (tE X.K G Z ω u f)) : PE X (.UnaryOp .USub a pos) (tE X.K G Z ω .N fun env => f env >>= fun x => ofO (dNeg x)) := by
  refine PEi (pe_un un_neg h) fun σ H Q ⟨HB, HE, Hf, env, st, h⟩ => ⟨HB, HE, Hf, env, st, h.bind fun d Hf1 H1 g1 k1 x rx => ?_⟩
  obtain ⟨z, ez, q⟩ := k1.ofO
  cases d with
  | int i => cases ez; exact ⟨i, rx.int g1.s, old_flat g1.s rfl (.int _) fun Hf' H' g' w hw => q Hf' H' g' w (hw.back g1.h)⟩
  | _ => exact nomatch ez
/-! ### tests -/
theorem EQ.asB {K : PySem.W.Frag} {σ : L2.St} {Hf H : Hp} {m : M D} {Q : Bool → Hp → Prop} {R : VK} (s : Same Hf H) (h : EQ K G Z σ (PB Q) Hf H (Ev.asB m)) (hr : ∀ b H', Q b H' → R (.bl b) H') : EQ K G Z σ (PV K t H R) Hf H m := by
  cases m with
  | stuck => exact h
  | ex c ns fs => exact h
  | ok d =>
    cases d with
    | bl b => exact fun Hf1 H1 g1 v r => by rw [r.bl g1.s]; exact hr b H1 (h Hf1 H1 g1)
    | _ => exact h.elim
theorem st_val (h : PE X e (tE X.K G Z ω u f)) (he : ∀ whole, isTrue e X.env whole = (do let v ← whole; standAt e.pos; holding [v] (truthy v))) : PT X e (tEb X.K G Z ω fun env => asB (f env)) :=
  PTi (pt_val h he) fun σ H Q ⟨HB, HE, Hf, env, st, h⟩ => ⟨HB, HE, Hf, env, st, h.asB st.g.s fun b H' q => ⟨b, rfl, q⟩⟩
theorem se_not (h : PE X a (tE X.K G Z ω u f)) : PE X (.UnaryOp .Not a pos) (tE X.K G Z ω .N fun env => asB (f env) >>= fun c => .ok (.bl (!c))) := by
  refine PEi (pe_not h) fun σ H Q ⟨HB, HE, Hf, env, st, h⟩ => ⟨HB, HE, Hf, env, st, ?_⟩
  have h2 : EQ X.K G Z σ (PB fun b H' => ∃ c, V.bl b = .bl c ∧ Q (.bl (!c)) H') Hf H (asB (f env)) := h.bind fun b Hf1 H1 g1 k1 => ⟨b, rfl, k1 Hf1 H1 (Grow.refl g1.s) _ (.inl ⟨rfl, .bl _⟩)⟩
  exact h2.asB st.g.s fun b H' q => q
theorem st_not {f : Env → M Bool} (h : PT X a (tEb X.K G Z ω f)) : PT X (.UnaryOp .Not a pos) (tEb X.K G Z ω fun env => f env >>= fun c => .ok (!c)) :=
  PTi (pt_not h) fun σ H Q ⟨HB, HE, Hf, env, st, h⟩ => ⟨HB, HE, Hf, env, st, h.bind fun b Hf1 H1 g1 k1 => k1 Hf1 H1 (Grow.refl g1.s)⟩
theorem st_cmp {op : CmpOp} {g : D → D → Option Bool} (O : OpR X (compareOp op) (rD2 X.K g)) (ha : PE X a (tE X.K G Z ω u fa)) (hb : PE X b (tE X.K G Z ω v fb)) (hm : behindInMarks op b = false) :
    PT X (.Compare a [op] [b] pos) (tEb X.K G Z ω fun env => fa env >>= fun x => fb env >>= fun y => ofO (g x y)) := by
  refine PTi (pt_cmpR O ha hb hm) fun σ H Q ⟨HB, HE, Hf, env, st, h⟩ => ?_
  refine ⟨HB, HE, Hf, env, st, h.bind fun d Hf1 H1 g1 k1 x rx => ⟨HB, HE, Hf1, env, st.grow g1, k1.bind fun e Hf2 H2 g2 k2 y ry => ?_⟩⟩
  obtain ⟨z, ez, q⟩ := k2.ofO
  exact ⟨d, e, z, (rx.grow g2).rep g2.s, ry.rep g2.s, ez, z, rfl, q Hf2 H2 (Grow.refl g2.s)⟩
section
variable {rest : List Expr} {f g : Env → M Bool}
theorem sw_and1 (h : PT X a (tEb X.K G Z ω f)) : PW X (.BoolOp .And [a] pos) (tEb X.K G Z ω f) := pw_and1 h
theorem sw_or1 (h : PT X a (tEb X.K G Z ω f)) : PW X (.BoolOp .Or [a] pos) (tEb X.K G Z ω f) := pw_or1 h
theorem PWi {e : Expr} {t t' : TT} (h : PW X e t) (hi : ∀ σ H Q, t' σ H Q → t σ H Q) : PW X e t' := ⟨fun wh pins s σ H Q I q => h.run wh pins s σ H Q I (hi σ H Q q)⟩
theorem sw_and (ha : PT X a (tEb X.K G Z ω f)) (hb : PW X (.BoolOp .And (b :: rest) pos) (tEb X.K G Z ω g)) : PW X (.BoolOp .And (a :: b :: rest) pos) (tEb X.K G Z ω fun env => f env >>= fun c => if c then g env else .ok false) :=
  PWi (pw_and ha hb) fun σ H Q ⟨HB, HE, Hf, env, st, h⟩ => ⟨HB, HE, Hf, env, st, h.bind fun c Hf1 H1 g1 k1 => by
    cases c with
    | true => exact ⟨HB, HE, Hf1, env, st.grow g1, k1⟩
    | false => exact k1 Hf1 H1 (Grow.refl g1.s)⟩
theorem sw_or (ha : PT X a (tEb X.K G Z ω f)) (hb : PW X (.BoolOp .Or (b :: rest) pos) (tEb X.K G Z ω g)) : PW X (.BoolOp .Or (a :: b :: rest) pos) (tEb X.K G Z ω fun env => f env >>= fun c => if c then .ok true else g env) :=
  PWi (pw_or ha hb) fun σ H Q ⟨HB, HE, Hf, env, st, h⟩ => ⟨HB, HE, Hf, env, st, h.bind fun c Hf1 H1 g1 k1 => by
    cases c with
    | true => exact k1 Hf1 H1 (Grow.refl g1.s)
    | false => exact ⟨HB, HE, Hf1, env, st.grow g1, k1⟩⟩
end
/-- and, or as values -/
theorem se_and {rest : List Expr} (ha : PE X a (tE X.K G Z ω u fa)) (hb : PE X (.BoolOp .And (b :: rest) pos) (tE X.K G Z ω v fb)) :
    PE X (.BoolOp .And (a :: b :: rest) pos) (tE X.K G Z ω v fun env => asB (fa env) >>= fun c => if c then fb env else .ok (.bl false)) := by
  refine PEi (pe_and ha hb) fun σ H Q ⟨HB, HE, Hf, env, st, h⟩ => ⟨HB, HE, Hf, env, st, ?_⟩
  have h2 : EQ X.K G Z σ (PB fun b H' => ∃ c, V.bl b = .bl c ∧ if c = true then tE X.K G Z ω v fb σ H' Q else Q (.bl false) H') Hf H (asB (fa env)) := h.bind fun b Hf1 H1 g1 k1 => by
    cases b with
    | true => exact ⟨true, rfl, HB, HE, Hf1, env, st.grow g1, k1.imp fun d Hf2 H2 g2 p w hw => p w (hw.back g1.h)⟩
    | false =>
      refine ⟨false, rfl, k1 Hf1 H1 (Grow.refl g1.s) (.bl false) ?_⟩
      cases v with
      | B => exact .inl (.bl _)
      | F => exact Rep.bl _
      | N => exact .inl ⟨rfl, .bl _⟩
  exact h2.asB st.g.s fun b H' q => q
theorem se_or {rest : List Expr} (ha : PE X a (tE X.K G Z ω u fa)) (hb : PE X (.BoolOp .Or (b :: rest) pos) (tE X.K G Z ω v fb)) :
    PE X (.BoolOp .Or (a :: b :: rest) pos) (tE X.K G Z ω v fun env => asB (fa env) >>= fun c => if c then .ok (.bl true) else fb env) := by
  refine PEi (pe_or ha hb) fun σ H Q ⟨HB, HE, Hf, env, st, h⟩ => ⟨HB, HE, Hf, env, st, ?_⟩
  have h2 : EQ X.K G Z σ (PB fun b H' => ∃ c, V.bl b = .bl c ∧ if c = true then Q (.bl true) H' else tE X.K G Z ω v fb σ H' Q) Hf H (asB (fa env)) := h.bind fun b Hf1 H1 g1 k1 => by
    cases b with
    | false => exact ⟨false, rfl, HB, HE, Hf1, env, st.grow g1, k1.imp fun d Hf2 H2 g2 p w hw => p w (hw.back g1.h)⟩
    | true =>
      refine ⟨true, rfl, k1 Hf1 H1 (Grow.refl g1.s) (.bl true) ?_⟩
      cases v with
      | B => exact .inl (.bl _)
      | F => exact Rep.bl _
      | N => exact .inl ⟨rfl, .bl _⟩
  exact h2.asB st.g.s fun b H' q => q
theorem se_ite {fc : Env → M Bool} (hc : PT X c (tEb X.K G Z ω fc)) (ha : PE X a (tE X.K G Z ω v fa)) (hb : PE X b (tE X.K G Z ω v fb)) : PE X (.IfExp c a b pos) (tE X.K G Z ω v fun env => fc env >>= fun c => if c then fa env else fb env) :=
  PEi (pe_ifExp hc ha hb) fun σ H Q ⟨HB, HE, Hf, env, st, h⟩ => ⟨HB, HE, Hf, env, st, h.bind fun c Hf1 H1 g1 k1 => by
    cases c with
    | true => exact ⟨HB, HE, Hf1, env, st.grow g1, k1.imp fun d Hf2 H2 g2 p w hw => p w (hw.back g1.h)⟩
    | false => exact ⟨HB, HE, Hf1, env, st.grow g1, k1.imp fun d Hf2 H2 g2 p w hw => p w (hw.back g1.h)⟩⟩
/-- is None -/
def dIsN : D → D
  | .non => .bl true
  | _ => .bl false
def dNotN : D → D
  | .non => .bl false
  | _ => .bl true
theorem isN_eq {K : PySem.W.Frag} {H : Hp} {x : V} {d : D} (r : Rep K H x d) : dIsN d = .bl (decide (x = .non)) ∧ dNotN d = .bl (!decide (x = .non)) := by
  cases r <;> exact ⟨rfl, rfl⟩
theorem se_isN {j pos'} (ha : PE X a (tE X.K G Z ω u fa)) : PE X (.Compare a [.Is] [.Constant .none j pos'] pos) (tE X.K G Z ω .N fun env => fa env >>= fun x => .ok (dIsN x)) :=
  PEi (pe_cmp (pc_isN ha) rfl) fun σ H Q ⟨HB, HE, Hf, env, st, h⟩ => ⟨HB, HE, Hf, env, st, h.bind fun d Hf1 H1 g1 k1 x rx => by
    have e := (isN_eq (rx.rep g1.s)).1
    exact k1 Hf1 H1 (Grow.refl g1.s) _ (by rw [e]; exact .inl ⟨rfl, .bl _⟩)⟩
theorem se_notN {j pos'} (ha : PE X a (tE X.K G Z ω u fa)) : PE X (.Compare a [.IsNot] [.Constant .none j pos'] pos) (tE X.K G Z ω .N fun env => fa env >>= fun x => .ok (dNotN x)) :=
  PEi (pe_cmp (pc_notN ha) rfl) fun σ H Q ⟨HB, HE, Hf, env, st, h⟩ => ⟨HB, HE, Hf, env, st, h.bind fun d Hf1 H1 g1 k1 x rx => by
    have e := (isN_eq (rx.rep g1.s)).2
    exact k1 Hf1 H1 (Grow.refl g1.s) _ (by rw [e]; exact .inl ⟨rfl, .bl _⟩)⟩
theorem st_isN {j pos'} (ha : PE X a (tE X.K G Z ω u fa)) : PT X (.Compare a [.Is] [.Constant .none j pos'] pos) (tEb X.K G Z ω fun env => asB (fa env >>= fun x => .ok (dIsN x))) := by
  refine PTi (pt_cmp (pc_isN ha) rfl) fun σ H Q ⟨HB, HE, Hf, env, st, h⟩ => ⟨HB, HE, Hf, env, st, ?_⟩
  dsimp only at h
  cases q : fa env with
  | stuck => rw [q] at h; exact h
  | ex c ns fs => rw [q] at h; exact h
  | ok d =>
    rw [q] at h
    intro Hf1 H1 g1 x rx
    have e := (isN_eq (rx.rep g1.s)).1
    have h' : EQ X.K G Z σ (PB Q) Hf H (asB (.ok (dIsN d))) := h
    rw [e] at h'
    exact ⟨_, rfl, h' Hf1 H1 g1⟩
theorem st_notN {j pos'} (ha : PE X a (tE X.K G Z ω u fa)) : PT X (.Compare a [.IsNot] [.Constant .none j pos'] pos) (tEb X.K G Z ω fun env => asB (fa env >>= fun x => .ok (dNotN x))) := by
  refine PTi (pt_cmp (pc_notN ha) rfl) fun σ H Q ⟨HB, HE, Hf, env, st, h⟩ => ⟨HB, HE, Hf, env, st, ?_⟩
  dsimp only at h
  cases q : fa env with
  | stuck => rw [q] at h; exact h
  | ex c ns fs => rw [q] at h; exact h
  | ok d =>
    rw [q] at h
    intro Hf1 H1 g1 x rx
    have e := (isN_eq (rx.rep g1.s)).2
    have h' : EQ X.K G Z σ (PB Q) Hf H (asB (.ok (dNotN d))) := h
    rw [e] at h'
    exact ⟨_, rfl, h' Hf1 H1 g1⟩
end
end Ev
set_option maxHeartbeats 1000000
/-! EvG: built-ins and calls upon plain data. -/
namespace Ev
open PySem PySem.Spec PyProof.Rows L2
def CallS (K : W.Frag) (r : List V → Hp → VK → Prop) (g : List D → Option D) (t : Tag) : Prop := ∀ Hf H vs ds z (Q : VK), Same Hf H → Paired (TR K .B H Hf H) vs ds → g ds = some z → (∀ Hf' H', Grow Hf H Hf' H' → PV K t H Q z Hf' H') → r vs H Q
section
variable {X : Cx} {G : GT} {Z : WX} {ω : List Nat} {t u v : Tag} {pos p pos' : Pos} {e a b c : Expr} {es : List Expr} {f fa fb fc : Env → M D} {fs : Env → M (List D)}
theorem tE_cb {K : PySem.W.Frag} {r : List V → Hp → VK → Prop} {g : List D → Option D} (S : CallS K r g t) : ∀ σ H Q, tE K G Z ω t (fun env => fs env >>= fun ds => ofO (g ds)) σ H Q → tCB r (tEs K G Z ω .B fs) σ H Q := by
  intro σ H Q ⟨HB, HE, Hf, env, st, h⟩
  refine ⟨HB, HE, Hf, env, st, h.bind fun ds Hf1 H1 g1 h1 vs rs => ?_⟩
  obtain ⟨z, ez, q⟩ := h1.ofO
  exact S Hf1 H1 vs ds z Q g1.s (Ev.Paired.imp (fun _ _ r => r.b) rs) ez fun Hf3 H3 g3 w hw => q Hf3 H3 g3 w (hw.back g1.h)
theorem one_of {K : PySem.W.Frag} {Hf H : Hp} {vs : List V} {ds : List D} {g : D → Option D} {z : D} (r : Paired (TR K .B H Hf H) vs ds) (h : on1 g ds = some z) : ∃ v d, vs = [v] ∧ ds = [d] ∧ TR K .B H Hf H v d ∧ g d = some z := by
  cases r with
  | nil => exact nomatch h
  | cons r1 r2 => cases r2 with
    | nil => exact ⟨_, _, rfl, rfl, r1, h⟩
    | cons _ _ => exact nomatch h
theorem two_of {K : PySem.W.Frag} {Hf H : Hp} {vs : List V} {ds : List D} {g : D → D → Option D} {z : D} (r : Paired (TR K .B H Hf H) vs ds) (h : on2 g ds = some z) :
    ∃ v w d e, vs = [v, w] ∧ ds = [d, e] ∧ TR K .B H Hf H v d ∧ TR K .B H Hf H w e ∧ g d e = some z := by
  cases r with
  | nil => exact nomatch h
  | cons r1 r2 => cases r2 with
    | nil => exact nomatch h
    | cons r3 r4 => cases r4 with
      | nil => exact ⟨_, _, _, _, rfl, rfl, r1, r3, h⟩
      | cons _ _ => exact nomatch h
/-- sum(t) of a tuple of whole numbers -/
theorem sum_rawT {prog : Program} {w : World} {A : Around} {E : Value → Shared → Prop} {s : Shared} {l : Addr} {its : List Value} {ns : List Int} {Q : Value → Shared → Prop} (hh : A.handled = none) (hl : s.heap.IsTuple l its.toArray) (hi : IntsAre its ns)
    (h : ∀ h' tk t', (∀ b o, s.heap.get? b = some o → h'.get? b = some o) → Q (.int ns.sum t') { s with heap := h', toks := tk }) : wpAny (model prog w) A (call (.builtin "sum") [.ref l]) Q E s := by
  obtain ⟨xs, e⟩ := hi.allInts.items
  have hn : numsOf (intItems xs).toList = ns := by rw [← e]; exact hi.numsOf
  rw [nums_intItems] at hn
  rw [e] at hl
  have hlt : l < s.heap.objs.size := by obtain ⟨_, e, _⟩ := hl; exact Heap.lt_size e
  have hne : l ≠ s.heap.objs.size := Nat.ne_of_lt hlt
  refine call_sum_walkG (wpAny_pyIter_tuple hl ?_)
  refine ⟨_, _, _, _, _, _, numAt xs, rfl, Walks.tuple (A := A.in1) hh s.heap.objs.size l hne (intItems xs), ⟨⟨_, Heap.get?_push_size _ rfl, rfl, rfl⟩, hl.push _⟩, (fun b hb => ?_), (fun _ _ => intItems_at), fun h' tk t' hk => ?_⟩
  · show b < (s.heap.push _).objs.size
    rw [Heap.size_push]
    rcases List.mem_cons.mp hb with rfl | hb
    · exact Nat.lt_succ_self _
    · rcases List.mem_cons.mp hb with rfl | hb
      · exact Nat.lt_succ_of_lt hlt
      · cases hb
  · have := h h' tk t' (fun b o e => hk b o (by intro hm; rw [List.mem_singleton] at hm; exact absurd (Heap.lt_size e) (by rw [hm]; exact Nat.lt_irrefl _)) (Heap.get?_push_of_some _ e))
    rw [show (intItems xs).size = xs.size by simp [intItems], preSum_eq, List.take_of_length_le (by simp), hn]
    exact this
def rSumT (K : PySem.W.Frag) : List V → Hp → VK → Prop := fun vs H Q => ∃ (a : Addr) (ns : List Int), vs = [V.ref a] ∧ SqT K H a (ns.map V.int) ∧ Q (.int ns.sum) H
theorem cr_sumT (hc : X.calm = true) : CallR X (.builtin "sum") (rSumT X.K) := by
  intro pins s σ H vs us Q I r h
  obtain ⟨a, ns, rfl, hs, q⟩ := h
  obtain ⟨its, rv, hl, _⟩ := I.tuple hs
  rw [Vals.ref1 r]
  exact sum_rawT (I.ok.hd hc) hl rv.ints fun h' tk t' hk => ⟨.int _, H, I.kept hk, ⟨_, rfl⟩, q⟩
theorem callR_or {F : Value} {r s : List V → Hp → VK → Prop} (h1 : CallR X F r) (h2 : CallR X F s) : CallR X F (fun xs H Q => r xs H Q ∨ s xs H Q) := by
  intro pins s0 σ H xs us Q I rx h
  rcases h with h | h
  · exact h1 pins s0 σ H xs us Q I rx h
  · exact h2 pins s0 σ H xs us Q I rx h
theorem dInts_reps {K : PySem.W.Frag} {H : Hp} : ∀ {vs : List V} {ds : List D} {ns : List Int}, Reps K H vs ds → dInts ds = some ns → vs = ns.map V.int
  | _, _, _, .nil, h => by cases h; rfl
  | _, _, _, .cons (d := d) (ds := ds) r t, h => by
    cases d with
    | int i =>
      cases r
      cases e : dInts ds with
      | none => rw [dInts, e] at h; exact nomatch h
      | some ms =>
        rw [dInts, e] at h
        cases h
        rw [dInts_reps t e]; rfl
    | _ => exact nomatch h
theorem callS_sum {K : PySem.W.Frag} : CallS K (fun xs H Q => rSum K xs H Q ∨ rSumT K xs H Q) (on1 dSum) .N := by
  intro Hf H vs ds z Q s r hz q
  obtain ⟨v, d, rfl, rfl, r1, h⟩ := one_of r hz
  cases d with
  | lst xs =>
    obtain ⟨a, ws, rfl, ha, ra⟩ := r1.lst s
    cases e : dInts xs with
    | none => simp [dSum, e] at h
    | some ns =>
      simp only [dSum, e, Option.map_some, Option.some.injEq] at h
      subst h
      rw [dInts_reps ra e] at ha
      exact .inl ⟨a, ns, rfl, .inl ha, old_flat s rfl (.int _) q⟩
  | tup xs =>
    obtain ⟨a, ws, rfl, ha, ra⟩ := r1.tup s
    cases e : dInts xs with
    | none => simp [dSum, e] at h
    | some ns =>
      simp only [dSum, e, Option.map_some, Option.some.injEq] at h
      subst h
      rw [dInts_reps ra e] at ha
      exact .inr ⟨a, ns, rfl, ha, old_flat s rfl (.int _) q⟩
  | _ => exact nomatch h
theorem callS_len {K : PySem.W.Frag} : CallS K (fun xs H Q => ∃ p ys, xs = [V.ref p] ∧ (SqL K H p ys ∨ SqT K H p ys) ∧ Q (V.int ys.length) H) (on1 dLen) .N := by
  intro Hf H vs ds z Q s r hz q
  obtain ⟨v, d, rfl, rfl, r1, h⟩ := one_of r hz
  cases d with
  | lst xs =>
    cases h
    obtain ⟨a, ws, rfl, ha, ra⟩ := r1.lst s
    refine ⟨a, ws, rfl, .inl (.inl ha), ?_⟩
    rw [ra.length]
    exact old_flat s rfl (.int _) q
  | scr xs =>
    cases h
    obtain ⟨a, ws, rfl, ha, ra⟩ := r1.scr s
    refine ⟨a, ws, rfl, .inl ha, ?_⟩
    rw [ra.length]
    exact old_flat s rfl (.int _) q
  | tup xs =>
    cases h
    obtain ⟨a, ws, rfl, ha, ra⟩ := r1.tup s
    refine ⟨a, ws, rfl, .inr ha, ?_⟩
    rw [ra.length]
    exact old_flat s rfl (.int _) q
  | _ => exact nomatch h
theorem callS_tuple {K : PySem.W.Frag} : CallS K (fun xs H Q => ∃ p ys, xs = [V.ref p] ∧ ((SqL K H p ys ∧ ∀ (l : Addr), H l = none → Q (V.ref l) (upd H l (HO.tup ys))) ∨ SqT K H p ys ∧ Q (V.ref p) H)) (on1 dTupleOf) .N := by
  intro Hf H vs ds z Q s r hz q
  obtain ⟨v, d, rfl, rfl, r1, h⟩ := one_of r hz
  cases d with
  | lst xs =>
    cases h
    obtain ⟨a, ws, rfl, ha, ra⟩ := r1.lst s
    exact ⟨a, ws, rfl, .inl ⟨.inl ha, fun l hl => new_tup s hl ra q⟩⟩
  | tup xs =>
    cases h
    obtain ⟨a, ws, rfl, ha, ra⟩ := r1.tup s
    exact ⟨a, ws, rfl, .inr ⟨ha, old_flat s rfl (r1.frz rfl) q⟩⟩
  | _ => exact nomatch h
theorem callS_list {K : PySem.W.Frag} : CallS K (fun xs H Q => ∃ p ys, xs = [V.ref p] ∧ (SqL K H p ys ∨ SqT K H p ys) ∧ ∀ (l : Addr), H l = none → Q (V.ref l) (upd H l (HO.lst ys))) (on1 dListOf) .N := by
  intro Hf H vs ds z Q s r hz q
  obtain ⟨v, d, rfl, rfl, r1, h⟩ := one_of r hz
  cases d with
  | lst xs =>
    cases h
    obtain ⟨a, ws, rfl, ha, ra⟩ := r1.lst s
    exact ⟨a, ws, rfl, .inl (.inl ha), fun l hl => new_lst s hl ra q⟩
  | scr xs =>
    cases h
    obtain ⟨a, ws, rfl, ha, ra⟩ := r1.scr s
    exact ⟨a, ws, rfl, .inl ha, fun l hl => new_lst s hl ra q⟩
  | tup xs =>
    cases h
    obtain ⟨a, ws, rfl, ha, ra⟩ := r1.tup s
    exact ⟨a, ws, rfl, .inr ha, fun l hl => new_lst s hl ra q⟩
  | _ => exact nomatch h
theorem callS_min2 {K : PySem.W.Frag} : CallS K (fun xs H Q => ∃ i j, xs = [V.int i, V.int j] ∧ Q (V.int (if j < i then j else i)) H) (on2 dMin2) .N := by
  intro Hf H vs ds z Q s r hz q
  obtain ⟨v, w, d, e, rfl, rfl, r1, r2, h⟩ := two_of r hz
  cases d with
  | int i =>
    cases e with
    | int j => cases h; exact ⟨i, j, by rw [r1.int s, r2.int s], old_flat s rfl (.int _) q⟩
    | _ => exact nomatch h
  | _ => exact nomatch h
theorem callS_max2 {K : PySem.W.Frag} : CallS K (fun xs H Q => ∃ i j, xs = [V.int i, V.int j] ∧ Q (V.int (if j > i then j else i)) H) (on2 dMax2) .N := by
  intro Hf H vs ds z Q s r hz q
  obtain ⟨v, w, d, e, rfl, rfl, r1, r2, h⟩ := two_of r hz
  cases d with
  | int i =>
    cases e with
    | int j => cases h; exact ⟨i, j, by rw [r1.int s, r2.int s], old_flat s rfl (.int _) q⟩
    | _ => exact nomatch h
  | _ => exact nomatch h
theorem callS_abs {K : PySem.W.Frag} : CallS K (fun xs H Q => ∃ i, xs = [V.int i] ∧ Q (V.int (if i < 0 then -i else i)) H) (on1 dAbs) .N := by
  intro Hf H vs ds z Q s r hz q
  obtain ⟨v, d, rfl, rfl, r1, h⟩ := one_of r hz
  cases d with
  | int i => cases h; exact ⟨i, by rw [r1.int s], old_flat s rfl (.int _) q⟩
  | _ => exact nomatch h
theorem callS_int {K : PySem.W.Frag} : CallS K (fun xs H Q => (∃ i, xs = [V.int i] ∧ Q (V.int i) H) ∨ ∃ k, xs = [V.bl k] ∧ Q (V.int (if k = true then 1 else 0)) H) (on1 dIntOf) .N := by
  intro Hf H vs ds z Q s r hz q
  obtain ⟨v, d, rfl, rfl, r1, h⟩ := one_of r hz
  cases d with
  | int i => cases h; exact .inl ⟨i, by rw [r1.int s], old_flat s rfl (.int _) q⟩
  | bl i => cases h; exact .inr ⟨i, by rw [r1.bl s], old_flat s rfl (.int _) q⟩
  | _ => exact nomatch h
/-- the name, and what is asked of a built-in -/
def Blt.nm : Blt → Str
  | .len => "len"
  | .tupleOf => "tuple"
  | .listOf => "list"
  | .sumOf => "sum"
  | .min2 => "min"
  | .max2 => "max"
  | .isa _ => "isinstance"
  | .absI => "abs"
  | .intOf => "int"
theorem se_blt {k : Blt} {x : Str} (hx : x = k.nm) (hi : ∀ t, k ≠ .isa t) (hc : X.calm = true) (hg : Gl X x) (hm : X.mg x = none) (h : PA X (e :: es) (tEs X.K G Z ω .B fs))
    (he : starEach (e :: es) X.env = (false, eval e X.env) :: starEach es X.env) (hpl : (backTo pos (starEach es X.env)).any (·.1) = false) :
    PE X (.Call (.Name x p) (e :: es) [] pos) (tE X.K G Z ω .N fun env => fs env >>= fun ds => ofO (dBlt k ds)) := by
  subst hx
  cases k with
  | len => exact PEi (pe_callB call_len_seq hg hm PySem.boot_len h (by decide) (by decide) he hpl) (tE_cb callS_len)
  | tupleOf => exact PEi (pe_callTy call_tuple_of hg hm (by decide +kernel) h (by decide) (by decide) he hpl) (tE_cb callS_tuple)
  | listOf => exact PEi (pe_callTy call_list_of hg hm (by decide +kernel) h (by decide) (by decide) he hpl) (tE_cb callS_list)
  | sumOf => exact PEi (pe_callB (callR_or (cr_sum hc) (cr_sumT hc)) hg hm (by decide +kernel) h (by decide) (by decide) he hpl) (tE_cb callS_sum)
  | min2 => exact PEi (pe_callB (call_min2 hc) hg hm (by decide +kernel) h (by decide) (by decide) he hpl) (tE_cb callS_min2)
  | max2 => exact PEi (pe_callB (call_max2 hc) hg hm (by decide +kernel) h (by decide) (by decide) he hpl) (tE_cb callS_max2)
  | isa t => exact absurd rfl (hi t)
  | absI => exact PEi (pe_callB call_abs hg hm (by decide +kernel) h (by decide) (by decide) he hpl) (tE_cb callS_abs)
  | intOf => exact PEi (pe_callTy call_int1 hg hm (by decide +kernel) h (by decide) (by decide) he hpl) (tE_cb callS_int)
/-! ### isinstance(x, a built-in class) -/
def rIsaD (K : PySem.W.Frag) (t : Ty) : List V → Hp → VK → Prop := fun xs H Q => ∃ x d, xs = [x, .ty t.name] ∧ Rep K H x d ∧ PyData.plain d.py = true ∧ Q (.bl (t.is d.py)) H
theorem cr_isaD (t : Ty) : CallR X (.builtin "isinstance") (rIsaD X.K t) := by
  intro pins s σ H vs us Q I r ⟨x, d, e, rd, hp, q⟩
  subst e
  obtain ⟨u, w, rfl, r1, r2⟩ := RelV.pair r
  cases r2
  obtain ⟨as, ra⟩ := rd.reads I hp r1
  cases t with
  | int => exact PySem.W.isinstance_int_data ra fun tk _ => ⟨.bl _, H, I.tok tk, rfl, q⟩
  | bool => exact PySem.W.isinstance_bool_data ra fun tk _ => ⟨.bl _, H, I.tok tk, rfl, q⟩
  | list => exact PySem.W.isinstance_list_data ra fun tk _ => ⟨.bl _, H, I.tok tk, rfl, q⟩
  | tuple => exact PySem.W.isinstance_tuple_data ra fun tk _ => ⟨.bl _, H, I.tok tk, rfl, q⟩
  | str => exact PySem.W.isinstance_str_data ra fun tk _ => ⟨.bl _, H, I.tok tk, rfl, q⟩
def Ty.nm : Ty → Str
  | .int => "int"
  | .bool => "bool"
  | .list => "list"
  | .tuple => "tuple"
  | .str => "str"
theorem pe_ty (t : Ty) (hg : Gl X t.nm) (hm : X.mg t.nm = none) : PE X (.Name t.nm p) (tC (.ty t.name)) := by
  cases t with
  | int => exact pe_bltn (u := .type "int") hg hm (by decide +kernel) rfl
  | bool => exact pe_bltn (u := .type "bool") hg hm (by decide +kernel) rfl
  | list => exact pe_bltn (u := .type "list") hg hm (by decide +kernel) rfl
  | tuple => exact pe_bltn (u := .type "tuple") hg hm (by decide +kernel) rfl
  | str => exact pe_bltn (u := .type "str") hg hm (by decide +kernel) rfl
theorem se_isa (t : Ty) {y : Str} (hy : y = t.nm) (hg : Gl X "isinstance") (hm : X.mg "isinstance" = none) (hg2 : Gl X y) (hm2 : X.mg y = none) (h : PE X e (tE X.K G Z ω u f))
    (he : starEach [e, .Name y pos'] X.env = (false, eval e X.env) :: starEach [.Name y pos'] X.env) :
    PE X (.Call (.Name "isinstance" p) [e, .Name y pos'] [] pos) (tE X.K G Z ω .N fun env => f env >>= fun d => ofO (grd (PyData.plain d.py) (.bl (t.is d.py)))) := by
  subst hy
  refine PEi (pe_callB (cr_isaD t) hg hm (by decide +kernel) (pa_cons h (pa_cons (pe_ty t hg2 hm2) pa_nil rfl) he) (by decide) (by decide) he rfl) fun σ H Q ⟨HB, HE, Hf, env, st, h⟩ => ?_
  refine ⟨HB, HE, Hf, env, st, h.bind fun d Hf1 H1 g1 k1 x rx => ?_⟩
  obtain ⟨z, ez, q⟩ := k1.ofO
  obtain ⟨e1, e2⟩ := grd_some ez
  subst e2
  exact ⟨x, d, rfl, rx.rep g1.s, e1, old_flat g1.s rfl (.bl _) fun Hf' H' g' w hw => q Hf' H' g' w (hw.back g1.h)⟩
/-! ### calls of defs -/
def tg (n : Bool) : Tag := if n then .N else .F
/-- what a def promises: it gives what F gives -/
def spP (K : PySem.W.Frag) (G : GT) (n : Bool) (F : List D → M D) : Sp := fun vs H Q E => ∃ Hf ds, Same Hf H ∧ Reps K Hf vs ds ∧ EQ K G (fun c d _ H' => E c d H') [] (PV K (tg n) H Q) Hf H (F ds)
structure FOK (X : Cx) (G : GT) (x : Str) (n : Bool) (F : List D → M D) : Prop where
  ex : ∃ k a fd ps, FnOk X.prog X.w X.K X.mg X.base (L2.CX X.prog X.w) k a fd ps (spP X.K G n F) ∧ Room k X.A ∧ X.mg x = some (.ref a) ∧ PySem.W.keepIn X.K (.ref a) = true ∧ Binds X.K fd ps []
theorem se_call {x : Str} {n : Bool} {F : List D → M D} (T : FOK X G x n F) (tk : Takes X Z) (hg : Gl X x) (h : PA X (e :: es) (tEs X.K G Z ω .F fs))
    (hdb : (x == ("__debug__" : Str)) = false) (he : starEach (e :: es) X.env = (false, eval e X.env) :: starEach es X.env) (hpl : (backTo pos (starEach es X.env)).any (·.1) = false) :
    PE X (.Call (.Name x p) (e :: es) [] pos) (tE X.K G Z ω (tg n) fun env => fs env >>= F) := by
  obtain ⟨k, a, fd, ps, hF, hr, hm, hk, hb⟩ := T.ex
  refine PEi (pe_callS hF hr hg hm hk hb (fun σ => passAt tk σ) h hdb he hpl) fun σ H Q ⟨HB, HE, Hf, env, st, h⟩ => ?_
  refine ⟨HB, HE, Hf, env, st, h.bind fun ds Hf1 H1 g1 k1 vs rs => ?_⟩
  refine ⟨Hf1, ds, g1.s, reps_of rs, ?_⟩
  cases q : F ds with
  | stuck => rw [q] at k1; exact k1
  | ex c ns fs => rw [q] at k1; exact k1
  | ok d => rw [q] at k1; exact fun Hf2 H2 g2 v r => k1 Hf2 H2 g2 v (r.back g1.h)
end
/-! ### calls with what is owned, whose answers hold nothing that may be changed -/
mutual
def D.imm : D → Bool
  | .non => true
  | .bl _ => true
  | .int _ => true
  | .str _ => true
  | .tup xs => D.imms xs
  | _ => false
def D.imms : List D → Bool
  | [] => true
  | d :: r => D.imm d && D.imms r
end
def immM : M D → M D
  | .stuck => .stuck
  | .ok d => if d.imm then .ok d else .stuck
  | .ex c ns fs => if D.imms fs then .ex c ns fs else .stuck
theorem imm_flat {d : D} (h : d.imm = true) : d.cont = false := by cases d <;> first | rfl | cases h
/-- the tuples of H on top of Hf -/
def tupsOn (Hf H : Hp) : Hp := fun b => match H b with
  | some (.tup xs) => some (.tup xs)
  | some (.frz o (.tup xs)) => some (.frz o (.tup xs))
  | _ => Hf b
theorem tupsOn_tup {Hf H : Hp} {a : Addr} {xs : List V} (h : Rd H a (.tup xs)) : Rd (tupsOn Hf H) a (.tup xs) := by
  rcases h with h | ⟨o, h⟩
  · exact .inl (by unfold tupsOn; rw [h])
  · exact .inr ⟨o, by unfold tupsOn; rw [h]⟩
theorem tupsOn_cases {Hf H : Hp} {b : Addr} {o : HO} (h : tupsOn Hf H b = some o) : (H b = some o ∧ ∃ xs, Rd H b (.tup xs)) ∨ Hf b = some o := by
  unfold tupsOn at h
  split at h
  · rename_i xs e; cases h; exact .inl ⟨e, xs, .inl e⟩
  · rename_i u xs e; cases h; exact .inl ⟨e, xs, .inr ⟨_, e⟩⟩
  · exact .inr h
theorem tupsOn_same {Hf H : Hp} (s : Same Hf H) : Same Hf (tupsOn Hf H) := fun b o e => by
  have := s b o e
  unfold tupsOn
  split
  · rename_i xs q; rw [this] at q; exact q.symm
  · rename_i u xs q; rw [this] at q; exact q.symm
  · exact e
theorem tupsOn_sub {Hf H : Hp} (s : Same Hf H) : Same (tupsOn Hf H) H := fun b o e => by
  rcases tupsOn_cases e with ⟨h, _⟩ | h
  · exact h
  · exact s b o h
mutual
theorem imm_rep {K : W.Frag} {Hf H : Hp} : ∀ {v : V} {d : D}, Rep K H v d → d.imm = true → Rep K (tupsOn Hf H) v d
  | _, _, .non, _ => .non
  | _, _, .bl b, _ => .bl b
  | _, _, .int i, _ => .int i
  | _, _, .str x, _ => .str x
  | _, _, .tup s r, h => .tup (by
      rcases s with s | s
      · exact .inl (tupsOn_tup s)
      · exact .inr s) (imm_reps r (by simpa only [D.imm] using h))
  | _, _, .lst s r, h => by cases h
  | _, _, .scr s r, h => by cases h
  | _, _, .dct s l n r, h => by cases h
theorem imm_reps {K : W.Frag} {Hf H : Hp} : ∀ {vs : List V} {ds : List D}, Reps K H vs ds → D.imms ds = true → Reps K (tupsOn Hf H) vs ds
  | _, _, .nil, _ => .nil
  | _, _, .cons r t, h => by
    rw [D.imms, Bool.and_eq_true] at h
    exact .cons (imm_rep r h.1) (imm_reps t h.2)
end
theorem reps_any {K : W.Frag} {t : Tag} {H0 Hf H : Hp} (s : Same Hf H) : ∀ {vs : List V} {ds : List D}, Paired (TR K t H0 Hf H) vs ds → Reps K H vs ds
  | _, _, .nil => .nil
  | _, _, .cons r q => .cons (r.rep s) (reps_any s q)
section
variable {X : Cx} {G : GT} {Z : WX} {ω : List Nat} {pos p : Pos} {e : Expr} {es : List Expr} {fs : Env → M (List D)}
theorem se_callB {x : Str} {n : Bool} {F : List D → M D} (T : FOK X G x n F) (tk : Takes X Z) (hg : Gl X x) (h : PA X (e :: es) (tEs X.K G Z ω .B fs))
    (hdb : (x == ("__debug__" : Str)) = false) (he : starEach (e :: es) X.env = (false, eval e X.env) :: starEach es X.env) (hpl : (backTo pos (starEach es X.env)).any (·.1) = false) :
    PE X (.Call (.Name x p) (e :: es) [] pos) (tE X.K G Z ω .N fun env => fs env >>= fun ds => immM (F ds)) := by
  obtain ⟨k, a, fd, ps, hF, hr, hm, hk, hb⟩ := T.ex
  refine PEi (pe_callS hF hr hg hm hk hb (fun σ => passAt tk σ) h hdb he hpl) fun σ H Q ⟨HB, HE, Hf, env, st, h⟩ => ?_
  refine ⟨HB, HE, Hf, env, st, h.bind fun ds Hf1 H1 g1 k1 vs rs => ?_⟩
  refine ⟨H1, ds, Same.refl _, reps_any g1.s rs, ?_⟩
  have gr : ∀ {Hf2 H2 : Hp}, Grow H1 H1 Hf2 H2 → Grow Hf1 H1 (tupsOn Hf1 H2) H2 := fun {Hf2 H2} g => by
    have s2 : Same Hf1 H2 := g1.s.trans g.h
    refine ⟨tupsOn_same s2, g.h, tupsOn_sub s2, fun b o e => ?_⟩
    rcases tupsOn_cases e with ⟨e1, xs, hx⟩ | e1
    · cases q : H1 b with
      | none => exact .inr (.inl rfl)
      | some u =>
        have := g.h b u q
        refine .inr (.inr ⟨xs, ?_⟩)
        rcases hx with hx | ⟨z, hx⟩
        · rw [this] at hx; cases hx; exact .inl q
        · rw [this] at hx; cases hx; exact .inr ⟨z, q⟩
    · exact .inl e1
  cases q : F ds with
  | stuck => rw [q] at k1; exact k1
  | ex c ns fs =>
    rw [q] at k1
    unfold immM at k1
    dsimp only at k1
    by_cases hi : D.imms fs = true
    · rw [if_pos hi] at k1
      intro cls dd Hf2 H2 g2 ⟨x1, x2⟩
      refine k1 cls dd _ H2 (gr g2) ⟨x1, ?_⟩
      rcases x2 with x2 | ⟨d, ws, y1, y2, y3, y4, y5⟩
      · exact .inl x2
      · exact .inr ⟨d, ws, y1, y2, y3, y4, imm_reps (y5.mono g2.s) hi⟩
    · rw [if_neg hi] at k1; exact k1.elim
  | ok d =>
    rw [q] at k1
    unfold immM at k1
    dsimp only at k1
    by_cases hi : d.imm = true
    · rw [if_pos hi] at k1
      intro Hf2 H2 g2 v r
      exact k1 _ H2 (gr g2) v (.inl ⟨imm_flat hi, imm_rep (r.rep g2.s) hi⟩)
    · rw [if_neg hi] at k1; exact k1.elim
end
end Ev
set_option maxHeartbeats 1000000
/-! EvH: targets, what is walked, comprehensions upon plain data. -/
namespace Ev
open PySem PySem.Spec PyProof.Rows L2
/-! ### slots set -/
section
variable {K : W.Frag} {ω ω' : List Nat} {HB HE Hf H Hf0 H0 Hf1 H1 : Hp} {σ : L2.St} {env : Env}
def drp (ω : List Nat) (i : Nat) : List Nat := ω.filter fun j => decide (j ≠ i)
theorem mem_drp {ω : List Nat} {i j : Nat} : j ∈ drp ω i ↔ j ∈ ω ∧ j ≠ i := by
  unfold drp
  rw [List.mem_filter, decide_eq_true_eq]
theorem StRel.setF (r : StRel K ω HB HE Hf H σ env) {i : Nat} {v : V} {d : D} (rv : Rep K Hf v d) : StRel K (drp ω i) HB HE Hf H (σ.set i (some v)) (env.set i (some d)) where
  g := r.g
  len := by rw [List.length_set, List.length_set]; exact r.len
  own := fun j hj e he => by
    obtain ⟨h1, h2⟩ := mem_drp.mp hj
    rw [List.getElem?_set_ne (Ne.symm h2)] at he
    obtain ⟨w, a, b⟩ := r.own j h1 e he
    exact ⟨w, by rw [List.getElem?_set_ne (Ne.symm h2)]; exact a, b⟩
  inj := fun j hj k hk ne p d e hd he cd ce h1 h2 => by
    obtain ⟨a1, a2⟩ := mem_drp.mp hj
    obtain ⟨b1, b2⟩ := mem_drp.mp hk
    rw [List.getElem?_set_ne (Ne.symm a2)] at hd h1
    rw [List.getElem?_set_ne (Ne.symm b2)] at he h2
    exact r.inj j a1 k b1 ne p d e hd he cd ce h1 h2
  fz := fun j hj e he => by
    by_cases h2 : j = i
    · subst h2
      by_cases hl : j < env.length
      · rw [List.getElem?_set_self hl] at he
        cases he
        exact ⟨v, List.getElem?_set_self (by rw [← r.len]; exact hl), rv⟩
      · rw [List.getElem?_eq_none (by rw [List.length_set]; omega)] at he
        exact nomatch he
    · rw [List.getElem?_set_ne (Ne.symm h2)] at he ⊢
      exact r.fz j (fun h => hj (mem_drp.mpr ⟨h, h2⟩)) e he
/-- .. by what is nobody's: made since (Hf0, H0) -/
theorem StRel.setN (r0 : StRel K ω HB HE Hf0 H0 σ env) (r : StRel K ω HB HE Hf H σ env) {i : Nat} {v : V} {d : D} (rv : TR K .N H0 Hf H v d) : StRel K (i :: drp ω i) HB HE Hf H (σ.set i (some v)) (env.set i (some d)) where
  g := r.g
  len := by rw [List.length_set, List.length_set]; exact r.len
  own := fun j hj e he => by
    by_cases h2 : j = i
    · subst h2
      by_cases hl : j < env.length
      · rw [List.getElem?_set_self hl] at he
        cases he
        exact ⟨v, List.getElem?_set_self (by rw [← r.len]; exact hl), rv.back r0.g.h⟩
      · rw [List.getElem?_eq_none (by rw [List.length_set]; omega)] at he
        exact nomatch he
    · have h1 : j ∈ ω := by
        rcases List.mem_cons.mp hj with h | h
        · exact absurd h h2
        · exact (mem_drp.mp h).1
      rw [List.getElem?_set_ne (Ne.symm h2)] at he ⊢
      exact r.own j h1 e he
  inj := by
    have key : ∀ j, j ∈ ω → j ≠ i → ∀ (p : Addr) e, env[j]? = some (some e) → e.cont = true → σ[j]? = some (some (.ref p)) → d.cont = true → v = .ref p → False := by
      intro j h1 h2 p e he ce hp cd ev
      obtain ⟨w, a, b⟩ := r0.own j h1 e he
      rw [hp] at a
      cases a
      rcases b with ⟨c, _⟩ | ⟨q, e1, _, _, rt⟩
      · rw [ce] at c; cases c
      · cases e1
        obtain ⟨o, e2, _⟩ := rt.some
        rcases rv with ⟨c, _⟩ | ⟨q, e3, e4, _, _⟩
        · rw [cd] at c; cases c
        · rw [e3] at ev; cases ev
          rw [e4] at e2; cases e2
    intro j hj k hk ne p d' e hd he cd ce h1 h2
    by_cases hji : j = i
    · subst hji
      have hki : k ≠ j := fun h => ne h.symm
      have hl : j < env.length := by
        rcases Nat.lt_or_ge j env.length with h | h
        · exact h
        · rw [List.getElem?_eq_none (by rw [List.length_set]; exact h)] at hd; exact nomatch hd
      rw [List.getElem?_set_self hl] at hd
      rw [List.getElem?_set_self (by rw [← r.len]; exact hl)] at h1
      rw [List.getElem?_set_ne (Ne.symm hki)] at he h2
      cases hd
      have h1' : v = .ref p := Option.some.inj (Option.some.inj h1)
      have hk' : k ∈ ω := by
        rcases List.mem_cons.mp hk with h | h
        · exact absurd h hki
        · exact (mem_drp.mp h).1
      exact key k hk' hki p e he ce h2 cd h1'
    · have hj' : j ∈ ω := by
        rcases List.mem_cons.mp hj with h | h
        · exact absurd h hji
        · exact (mem_drp.mp h).1
      rw [List.getElem?_set_ne (Ne.symm hji)] at hd h1
      by_cases hki : k = i
      · subst hki
        have hl : k < env.length := by
          rcases Nat.lt_or_ge k env.length with h | h
          · exact h
          · rw [List.getElem?_eq_none (by rw [List.length_set]; exact h)] at he; exact nomatch he
        rw [List.getElem?_set_self hl] at he
        rw [List.getElem?_set_self (by rw [← r.len]; exact hl)] at h2
        cases he
        exact key j hj' hji p d' hd cd h1 ce (Option.some.inj (Option.some.inj h2))
      · have hk' : k ∈ ω := by
          rcases List.mem_cons.mp hk with h | h
          · exact absurd h hki
          · exact (mem_drp.mp h).1
        rw [List.getElem?_set_ne (Ne.symm hki)] at he h2
        exact r.inj j hj' k hk' ne p d' e hd he cd ce h1 h2
  fz := fun j hj e he => by
    have h2 : j ≠ i := fun h => hj (List.mem_cons.mpr (.inl h))
    rw [List.getElem?_set_ne (Ne.symm h2)] at he ⊢
    exact r.fz j (fun h => hj (List.mem_cons.mpr (.inr (mem_drp.mpr ⟨h, h2⟩)))) e he
/-- an owned slot is frozen -/
theorem StRel.unown (r : StRel K ω HB HE Hf H σ env) (i : Nat) : ∃ Hf', Same Hf Hf' ∧ StRel K (drp ω i) HB HE Hf' H σ env := by
  by_cases hi : i ∈ ω
  · cases he : env[i]? with
    | none =>
      refine ⟨Hf, Same.refl _, ⟨r.g, r.len, fun j hj => r.own j (mem_drp.mp hj).1, fun j hj k hk => r.inj j (mem_drp.mp hj).1 k (mem_drp.mp hk).1, fun j hj e h => ?_⟩⟩
      by_cases h2 : j = i
      · subst h2; rw [he] at h; cases h
      · exact r.fz j (fun h => hj (mem_drp.mpr ⟨h, h2⟩)) e h
    | some od =>
      cases od with
      | none =>
        refine ⟨Hf, Same.refl _, ⟨r.g, r.len, fun j hj => r.own j (mem_drp.mp hj).1, fun j hj k hk => r.inj j (mem_drp.mp hj).1 k (mem_drp.mp hk).1, fun j hj e h => ?_⟩⟩
        by_cases h2 : j = i
        · subst h2; rw [he] at h; cases h
        · exact r.fz j (fun h => hj (mem_drp.mpr ⟨h, h2⟩)) e h
      | some d =>
        obtain ⟨v, ev, rv⟩ := r.own i hi d he
        rcases rv with ⟨hc, rv⟩ | ⟨p, rfl, h0, hp, rt⟩
        · refine ⟨Hf, Same.refl _, ⟨r.g, r.len, fun j hj => r.own j (mem_drp.mp hj).1, fun j hj k hk => r.inj j (mem_drp.mp hj).1 k (mem_drp.mp hk).1, fun j hj e h => ?_⟩⟩
          by_cases h2 : j = i
          · subst h2; rw [he] at h; cases h; exact ⟨v, ev, rv⟩
          · exact r.fz j (fun h => hj (mem_drp.mpr ⟨h, h2⟩)) e h
        · have dc := rt.cont
          obtain ⟨Hf', g', sm, rf⟩ := TR.freeze r.g (.inr ⟨p, rfl, h0, hp, rt⟩)
          -- Hf' may be chosen as Hf with p
          obtain ⟨o, ho, _⟩ := rt.some
          have sm2 : Same Hf (upd Hf p o) := fun b u e => by rw [upd_ne (ne_of_none e hp)]; exact e
          have g2 : Grow HB HE (upd Hf p o) H := ⟨r.g.f.trans sm2, r.g.h, fun b u e => by
            by_cases q : b = p
            · subst q; rw [upd_same] at e; cases e; exact ho
            · rw [upd_ne q] at e; exact r.g.s b u e, fun b u e => by
            by_cases q : b = p
            · subst q; exact .inr (.inl h0)
            · rw [upd_ne q] at e; exact r.g.n b u e⟩
          have rr : Rep K (upd Hf p o) (.ref p) d := by
            cases d with
            | lst ds => obtain ⟨vs, e, r⟩ := rt; rw [e] at ho; cases ho; exact .lst (.inl upd_same) (r.mono sm2)
            | dct ks ds => obtain ⟨vs, e, l, n, r⟩ := rt; rw [e] at ho; cases ho; exact .dct (.inl upd_same) l n (r.mono sm2)
            | _ => exact rt.elim
          refine ⟨upd Hf p o, sm2, ⟨g2, r.len, fun j hj e h => ?_, fun j hj k hk => r.inj j (mem_drp.mp hj).1 k (mem_drp.mp hk).1, fun j hj e h => ?_⟩⟩
          · obtain ⟨h1, h2⟩ := mem_drp.mp hj
            obtain ⟨w, a, b⟩ := r.own j h1 e h
            refine ⟨w, a, ?_⟩
            rcases b with ⟨c, b⟩ | ⟨q, rfl, b0, bq, rq⟩
            · exact .inl ⟨c, b.mono sm2⟩
            · have ne : q ≠ p := fun e' => by
                subst e'
                exact r.inj j h1 i hi h2 q e d h he rq.cont dc a ev
              refine .inr ⟨q, rfl, b0, by rw [upd_ne ne]; exact bq, ?_⟩
              cases e with
              | lst ds => obtain ⟨vs, e, r⟩ := rq; exact ⟨vs, e, r.mono sm2⟩
              | dct ks ds => obtain ⟨vs, e, l, n, r⟩ := rq; exact ⟨vs, e, l, n, r.mono sm2⟩
              | _ => exact rq.elim
          · by_cases h2 : j = i
            · subst h2; rw [he] at h; cases h; exact ⟨_, ev, rr⟩
            · obtain ⟨w, a, b⟩ := r.fz j (fun h => hj (mem_drp.mpr ⟨h, h2⟩)) e h
              exact ⟨w, a, b.mono sm2⟩
  · refine ⟨Hf, Same.refl _, ⟨r.g, r.len, fun j hj => r.own j (mem_drp.mp hj).1, fun j hj k hk => r.inj j (mem_drp.mp hj).1 k (mem_drp.mp hk).1, fun j hj e h => ?_⟩⟩
    by_cases h2 : j ∈ ω
    · exact absurd (mem_drp.mpr ⟨h2, fun e => hi (by rw [← e]; exact h2)⟩) hj
    · exact r.fz j h2 e h
theorem StRel.ext (r : StRel K ω HB HE Hf H σ env) (h : ∀ j, j ∈ ω' ↔ j ∈ ω) : StRel K ω' HB HE Hf H σ env :=
  ⟨r.g, r.len, fun j hj => r.own j ((h j).mp hj), fun j hj k hk => r.inj j ((h j).mp hj) k ((h k).mp hk), fun j hj => r.fz j fun q => hj ((h j).mpr q)⟩
theorem StRel.unowns : ∀ (is : List Nat) {ω : List Nat} {Hf : Hp}, StRel K ω HB HE Hf H σ env → ∃ Hf', Same Hf Hf' ∧ StRel K (ω.filter fun j => !is.contains j) HB HE Hf' H σ env
  | [], ω, Hf, r => ⟨Hf, Same.refl _, r.ext fun j => by simp⟩
  | i :: is, ω, Hf, r => by
    obtain ⟨Hf1, s1, r1⟩ := r.unown i
    obtain ⟨Hf2, s2, r2⟩ := StRel.unowns is r1
    refine ⟨Hf2, s1.trans s2, r2.ext fun j => ?_⟩
    simp only [List.mem_filter, mem_drp, List.contains_cons, Bool.not_or, Bool.and_eq_true, Bool.not_eq_true', beq_eq_false_iff_ne, ne_eq]
    constructor
    · rintro ⟨a, b, c⟩; exact ⟨⟨a, b⟩, c⟩
    · rintro ⟨⟨a, b⟩, c⟩; exact ⟨a, b, c⟩
/-- fewer owned slots -/
theorem StRel.weak (r : StRel K ω HB HE Hf H σ env) (h : ∀ j ∈ ω', j ∈ ω) : ∃ Hf', Same Hf Hf' ∧ StRel K ω' HB HE Hf' H σ env := by
  obtain ⟨Hf1, s1, r1⟩ := StRel.unowns (ω.filter fun j => !ω'.contains j) r
  refine ⟨Hf1, s1, r1.ext fun j => ?_⟩
  simp only [List.mem_filter, Bool.not_eq_true', List.contains_eq_mem, decide_eq_false_iff_not, not_and, decide_eq_true_eq]
  constructor
  · intro q; exact ⟨h j q, fun _ z => z q⟩
  · rintro ⟨a, b⟩
    exact Classical.byContradiction fun z => (b a) z
/-- slots forgotten -/
theorem wipeD_get : ∀ {is : List Nat} {env : Env} {i : Nat} {d : D}, (wipeD env is)[i]? = some (some d) → env[i]? = some (some d) ∧ i ∉ is
  | [], env, i, d, h => ⟨h, fun q => nomatch q⟩
  | v :: vs, env, i, d, h => by
    unfold wipeD at h
    by_cases e : i = v
    · subst e
      by_cases hl : i < (wipeD env vs).length
      · rw [List.getElem?_set_self hl] at h; exact nomatch h
      · rw [List.getElem?_eq_none (by rw [List.length_set]; omega)] at h; exact nomatch h
    · rw [List.getElem?_set_ne (Ne.symm e)] at h
      obtain ⟨a, b⟩ := wipeD_get h
      exact ⟨a, fun q => by rcases List.mem_cons.mp q with q | q; exact e q; exact b q⟩
theorem wipeD_length : ∀ (is : List Nat) (env : Env), (wipeD env is).length = env.length
  | [], _ => rfl
  | v :: vs, env => by unfold wipeD; rw [List.length_set, wipeD_length vs env]
theorem StRel.forget (r : StRel K ω HB HE Hf H σ env) (is : List Nat) : StRel K ω HB HE Hf H σ (wipeD env is) :=
  ⟨r.g, by rw [wipeD_length]; exact r.len, fun j hj d h => r.own j hj d (wipeD_get h).1, fun j hj k hk ne p d e hd he => r.inj j hj k hk ne p d e (wipeD_get hd).1 (wipeD_get he).1, fun j hj d h => r.fz j hj d (wipeD_get h).1⟩
theorem StRel.wipe (r : StRel K ω HB HE Hf H σ env) (is : List Nat) : StRel K ω HB HE Hf H (L2.wipe σ is) (wipeD env is) :=
  ⟨r.g, by rw [wipeD_length, wipe_length]; exact r.len,
   fun j hj d h => by obtain ⟨h1, h2⟩ := wipeD_get h; obtain ⟨v, a, b⟩ := r.own j hj d h1; exact ⟨v, by rw [wipe_out h2]; exact a, b⟩,
   fun j hj k hk ne p d e hd he cd ce h1 h2 => by
    obtain ⟨a1, a2⟩ := wipeD_get hd
    obtain ⟨b1, b2⟩ := wipeD_get he
    rw [wipe_out a2] at h1
    rw [wipe_out b2] at h2
    exact r.inj j hj k hk ne p d e a1 b1 cd ce h1 h2,
   fun j hj d h => by obtain ⟨h1, h2⟩ := wipeD_get h; obtain ⟨v, a, b⟩ := r.fz j hj d h1; exact ⟨v, by rw [wipe_out h2]; exact a, b⟩⟩
end
end Ev
set_option maxHeartbeats 1000000
/-! EvI: targets, what is walked, comprehensions upon plain data. -/
namespace Ev
open PySem PySem.Spec PyProof.Rows L2
/-! ### targets, a frozen value -/
def CP.slots : CP → List Nat
  | .one i => [i]
  | .many is => is
def drps (ω : List Nat) : List Nat → List Nat
  | [] => ω
  | i :: is => drps (drp ω i) is
def setD (env : Env) : List (Nat × D) → Env
  | [] => env
  | p :: r => setD (env.set p.1 (some p.2)) r
theorem setD_foldl : ∀ (l : List (Nat × D)) (env : Env), l.foldl (fun e p => e.set p.1 (some p.2)) env = setD env l
  | [], _ => rfl
  | p :: r, env => by
    show List.foldl _ (env.set p.1 (some p.2)) r = setD (env.set p.1 (some p.2)) r
    exact setD_foldl r _
/-- what a target leaves of the slots -/
def Out (is : List Nat) (σ σ' : L2.St) : Prop := σ'.length = σ.length ∧ ∀ j, j ∉ is → σ'[j]? = σ[j]?
theorem Out.one {σ : L2.St} {i : Nat} {v : V} : Out [i] σ (σ.set i (some v)) := ⟨List.length_set, fun j h => List.getElem?_set_ne (fun e => h (by rw [e]; exact List.mem_singleton_self _))⟩
theorem Out.trans {i : Nat} {is : List Nat} {σ σ1 σ2 : L2.St} (a : Out [i] σ σ1) (b : Out is σ1 σ2) : Out (i :: is) σ σ2 :=
  ⟨b.1.trans a.1, fun j h => (b.2 j fun q => h (List.mem_cons.mpr (.inr q))).trans (a.2 j fun q => h (List.mem_cons.mpr (.inl (List.mem_singleton.mp q))))⟩
theorem Out.wipe {is vs : List Nat} {σ σ' : L2.St} (h : Out is (L2.wipe σ vs) σ') (hs : ∀ i ∈ is, i ∈ vs) : L2.wipe σ' vs = L2.wipe σ vs := by
  have key : ∀ (τ : L2.St) (ws : List Nat) (j : Nat), j ∈ ws → (L2.wipe τ ws)[j]? = if j < τ.length then some none else none := by
    intro τ ws j
    induction ws with
    | nil => intro h; exact nomatch h
    | cons w ws ih =>
      intro hj
      unfold L2.wipe
      by_cases e : j = w
      · subst e
        by_cases hl : j < (L2.wipe τ ws).length
        · rw [List.getElem?_set_self hl, if_pos (by rw [← wipe_length τ ws]; exact hl)]
        · rw [List.getElem?_eq_none (by rw [List.length_set]; omega), if_neg (by rw [← wipe_length τ ws]; exact hl)]
      · rw [List.getElem?_set_ne (Ne.symm e)]
        exact ih (by rcases List.mem_cons.mp hj with q | q; exact absurd q e; exact q)
  apply List.ext_getElem?
  intro j
  have hlen : σ'.length = σ.length := by rw [h.1, wipe_length]
  by_cases hj : j ∈ vs
  · rw [key σ' vs j hj, key σ vs j hj, hlen]
  · rw [wipe_out hj, wipe_out hj, h.2 j (fun q => hj (hs j q)), wipe_out hj]
/-- a target's rule: a frozen value to its slots -/
def TgtOk (K : W.Frag) (tg : CP) (g : TG) : Prop := ∀ ω HB HE Hf H σ env v d env' (Q : L2.St → Hp → Prop), StRel K ω HB HE Hf H σ env → Rep K Hf v d → bindP tg d env = some env' →
  (∀ σ', StRel K (drps ω tg.slots) HB HE Hf H σ' env' → Out tg.slots σ σ' → Q σ' H) → g v σ H Q
def gNs : List Nat → TGs
  | [] => gNil
  | i :: is => gCons (gName i) (gNs is)
def gOf (K : W.Frag) : CP → TG
  | .one i => gName i
  | .many is => gTup K is.length (gNs is)
theorem gNs_ok {K : W.Frag} : ∀ (is : List Nat) {ω HB HE Hf H σ env} {vs : List V} {ds : List D} {Q : L2.St → Hp → Prop}, StRel K ω HB HE Hf H σ env → Reps K Hf vs ds → is.length = ds.length →
    (∀ σ', StRel K (drps ω is) HB HE Hf H σ' (setD env (is.zip ds)) → Out is σ σ' → Q σ' H) → gNs is vs σ H Q
  | [], _, _, _, _, _, _, _, vs, ds, Q, st, r, hl, q => by
    cases r with
    | nil => exact ⟨rfl, q _ st ⟨rfl, fun _ _ => rfl⟩⟩
    | cons _ _ => exact nomatch hl
  | i :: is, _, _, _, _, _, _, _, vs, ds, Q, st, r, hl, q => by
    cases r with
    | nil => exact nomatch hl
    | cons r1 r2 =>
      refine ⟨_, _, rfl, ?_⟩
      exact gNs_ok is (st.setF r1) r2 (Nat.succ.inj hl) fun σ' st' o => q σ' st' (Out.one.trans o)
theorem gOf_ok {K : W.Frag} : ∀ tg : CP, TgtOk K tg (gOf K tg)
  | .one i => fun ω HB HE Hf H σ env v d env' Q st r e q => by
    cases e
    exact q _ (st.setF r) Out.one
  | .many is => fun ω HB HE Hf H σ env v d env' Q st r e q => by
    cases d with
    | tup ds =>
      obtain ⟨h1, h2⟩ := grd_some e
      cases r with
      | tup s rs =>
        have hl : is.length = ds.length := beq_iff_eq.mp h1
        refine ⟨_, _, rfl, Same.sqT st.g.s s, by rw [rs.length]; exact hl.symm, gNs_ok is st rs hl fun σ' st' o => q σ' ?_ o⟩
        rw [← h2, setD_foldl]
        exact st'
    | _ => exact nomatch e
/-- names of an expression as a target -/
inductive Tgt (X : Cx) : Expr → CP → Prop
  | one {i : Nat} {x : Str} {pos : Pos} (hi : X.N[i]? = some x) (hl : Loc X.env.scope x) (hf : X.fn x = true ∨ X.env.scope.names.lookup x = some .local) : Tgt X (.Name x pos) (.one i)
  | many {es : List Expr} {is : List Nat} {k : Nat} {pos : Pos} (h : PGs X es (gNs is)) (h1 : (assignEach es X.env).length = is.length) (h2 : (assignEach es X.env).findIdx? (·.1) = none) : Tgt X (.Tuple es k pos) (.many is)
theorem Tgt.pg {X : Cx} {e : Expr} {tg : CP} (hN : X.N.Nodup) (hc : X.calm = true) (t : Tgt X e tg) : PG X e (gOf X.K tg) := by
  cases t with
  | one hi hl hf => exact pg_name hN hi hl hf
  | many h h1 h2 => exact pg_tup hc h h1 h2
/-! ### what is walked -/
structure ItOk (K : W.Frag) (J : It) (Hf0 : Hp) (ds : List D) : Prop where
  go : ∀ i Hf H, Same Hf0 Hf → Same Hf H → i < ds.length → J.go i H
  stop : ∀ Hf H, Same Hf0 Hf → Same Hf H → J.stop ds.length H
  yld : ∀ i Hf H x H', Same Hf0 Hf → Same Hf H → i < ds.length → J.yld i H x H' → ∃ d Hf', ds[i]? = some d ∧ Grow Hf H Hf' H' ∧ Rep K Hf' x d
def PIt (K : W.Frag) (R : It → Hp → Prop) : List D → Hp → Hp → Prop := fun ds Hf' H' => ∀ J, ItOk K J Hf' ds → R J H'
def tI (K : W.Frag) (G : GT) (Z : WX) (ω : List Nat) (f : Env → M (List D)) : TI := fun σ H R => ∃ HB HE Hf env, StRel K ω HB HE Hf H σ env ∧ EQ K G Z σ (PIt K R) Hf H (f env)
section
variable {X : Cx} {G : GT} {Z : WX} {ω : List Nat} {t u v : Tag} {pos p pos' : Pos} {tg e a b c : Expr} {es : List Expr} {f fa fb fc : Env → M D} {fs : Env → M (List D)}
theorem PIi {w w' : TI} (h : PI X tg e w) (hi : ∀ σ H R, w' σ H R → w σ H R) : PI X tg e w' := ⟨fun pins s σ H R I q => h.run pins s σ H R I (hi σ H R q)⟩
theorem PIor {w w' : TI} (h1 : PI X tg e w) (h2 : PI X tg e w') : PI X tg e (fun σ H R => w σ H R ∨ w' σ H R) := ⟨fun pins s σ H R I q => by
  rcases q with q | q
  · exact h1.run pins s σ H R I q
  · exact h2.run pins s σ H R I q⟩
theorem itl_ok {K : PySem.W.Frag} {Hf : Hp} {a : Addr} {vs : List V} {ds : List D} (h : SqL K Hf a vs) (r : Reps K Hf vs ds) : ItOk K (Itl K a) Hf ds where
  go := fun i Hf' H s1 s2 hi => by
    have hl : i < vs.length := by rw [r.length]; exact hi
    exact ⟨vs, vs[i], s2.seq (s1.seq h), List.getElem?_eq_getElem hl⟩
  stop := fun Hf' H s1 s2 => ⟨vs, s2.seq (s1.seq h), by rw [r.length]; exact Nat.le_refl _⟩
  yld := fun i Hf' H x H' s1 s2 hi hy => by
    obtain ⟨rfl, q⟩ := hy
    obtain ⟨d, h1, h2⟩ := r.getV (q vs (s2.seq (s1.seq h)))
    exact ⟨d, Hf', h1, Grow.refl s2, h2.mono s1⟩
theorem itt_ok {K : PySem.W.Frag} {Hf : Hp} {a : Addr} {vs : List V} {ds : List D} (h : SqT K Hf a vs) (r : Reps K Hf vs ds) : ItOk K (Itt K a) Hf ds where
  go := fun i Hf' H s1 s2 hi => by
    have hl : i < vs.length := by rw [r.length]; exact hi
    exact ⟨vs, vs[i], Same.sqT s2 (Same.sqT s1 h), List.getElem?_eq_getElem hl⟩
  stop := fun Hf' H s1 s2 => ⟨vs, Same.sqT s2 (Same.sqT s1 h), by rw [r.length]; exact Nat.le_refl _⟩
  yld := fun i Hf' H x H' s1 s2 hi hy => by
    obtain ⟨rfl, q⟩ := hy
    obtain ⟨d, h1, h2⟩ := r.getV (q vs (Same.sqT s2 (Same.sqT s1 h)))
    exact ⟨d, Hf', h1, Grow.refl s2, h2.mono s1⟩
def dSeq : D → Option (List D)
  | .lst xs => some xs
  | .tup xs => some xs
  | .scr xs => some xs
  | _ => none
theorem si_val (h : PE X e (tE X.K G Z ω .F f)) : PI X tg e (tI X.K G Z ω fun env => f env >>= fun d => ofO (dSeq d)) := by
  refine PIi (PIor (pi_list h) (pi_tup h)) fun σ H R ⟨HB, HE, Hf, env, st, h⟩ => ?_
  dsimp only at h
  cases q : f env with
  | stuck => rw [q] at h; exact h.elim
  | ex c ns fs => rw [q] at h; exact .inl ⟨HB, HE, Hf, env, st, by rw [q]; exact h⟩
  | ok d =>
    rw [q] at h
    cases d with
    | lst xs =>
      refine .inl ⟨HB, HE, Hf, env, st, ?_⟩
      rw [q]
      intro Hf1 H1 g x rx
      cases rx with
      | lst s rs => exact ⟨_, rfl, ⟨_, g.s.seq (.inl s)⟩, h Hf1 H1 g _ (itl_ok (.inl s) rs)⟩
    | scr xs =>
      refine .inl ⟨HB, HE, Hf, env, st, ?_⟩
      rw [q]
      intro Hf1 H1 g x rx
      cases rx with
      | scr s rs => exact ⟨_, rfl, ⟨_, g.s.seq s⟩, h Hf1 H1 g _ (itl_ok s rs)⟩
    | tup xs =>
      refine .inr ⟨HB, HE, Hf, env, st, ?_⟩
      rw [q]
      intro Hf1 H1 g x rx
      cases rx with
      | tup s rs => exact ⟨_, rfl, ⟨_, Same.sqT g.s s⟩, h Hf1 H1 g _ (itt_ok s rs)⟩
    | _ => exact h.elim
theorem upFrom_length : ∀ (n : Nat) (a : Int), (upFrom a n).length = n
  | 0, _ => rfl
  | n + 1, a => by show (upFrom (a + 1) n).length + 1 = n + 1; rw [upFrom_length n]
theorem upFrom_get : ∀ (n : Nat) (a : Int) (i : Nat), i < n → (upFrom a n)[i]? = some (.int (a + i))
  | 0, _, i, h => by omega
  | n + 1, a, 0, _ => by show some (D.int a) = _; simp
  | n + 1, a, i + 1, h => by
    show (upFrom (a + 1) n)[i]? = _
    rw [upFrom_get n (a + 1) i (by omega)]
    congr 2
    push_cast
    omega
theorem itr_ok {K : PySem.W.Frag} {Hf : Hp} (a : Int) (n : Nat) : ItOk K (Itr a n) Hf (upFrom a n) where
  go := fun i Hf' H s1 s2 hi => by rw [upFrom_length] at hi; exact hi
  stop := fun Hf' H s1 s2 => by show n ≤ (upFrom a n).length; rw [upFrom_length]; exact Nat.le_refl _
  yld := fun i Hf' H x H' s1 s2 hi hy => by
    obtain ⟨rfl, rfl⟩ := hy
    rw [upFrom_length] at hi
    exact ⟨_, Hf', upFrom_get n a i hi, Grow.refl s2, .int _⟩
theorem itc_ok {K : PySem.W.Frag} {Hf : Hp} (a : Int) (n : Nat) : ItOk K (Itc (a + n - 1) (-1) n) Hf (upFrom a n).reverse where
  go := fun i Hf' H s1 s2 hi => by rw [List.length_reverse, upFrom_length] at hi; exact hi
  stop := fun Hf' H s1 s2 => by show n ≤ (upFrom a n).reverse.length; rw [List.length_reverse, upFrom_length]; exact Nat.le_refl _
  yld := fun i Hf' H x H' s1 s2 hi hy => by
    obtain ⟨rfl, rfl⟩ := hy
    rw [List.length_reverse, upFrom_length] at hi
    refine ⟨.int (a + n - 1 + i * -1), Hf', ?_, Grow.refl s2, .int _⟩
    rw [List.getElem?_reverse (by rw [upFrom_length]; exact hi), upFrom_length, upFrom_get n a _ (by omega)]
    congr 2
    omega
theorem dRange_some {a b : D} {ds : List D} (h : dRange a b = some ds) : ∃ i j, a = .int i ∧ b = .int j ∧ (-(2 ^ 62) ≤ i ∧ i < 2 ^ 62) ∧ (-(2 ^ 62) ≤ j ∧ j < 2 ^ 62) ∧ ds = upFrom i (j - i).toNat := by
  cases a with
  | int i =>
    cases b with
    | int j =>
      obtain ⟨h1, h2⟩ := grd_some h
      simp only [small, Bool.and_eq_true, decide_eq_true_eq] at h1
      exact ⟨i, j, rfl, rfl, h1.1, h1.2, h2.symm⟩
    | _ => exact nomatch h
  | _ => exact nomatch h
theorem si_range1 (hg : Gl X "range") (hm : X.mg "range" = none) (h : PE X a (tE X.K G Z ω u fa)) (hs : starEach [a] X.env = [(false, eval a X.env)]) :
    PI X tg (.Call (.Name "range" p) [a] [] pos) (tI X.K G Z ω fun env => fa env >>= fun x => ofO (dRange (.int 0) x)) := by
  refine PIi (pi_range1 hg hm (pa_cons h pa_nil hs) hs) fun σ H R ⟨HB, HE, Hf, env, st, h⟩ => ⟨HB, HE, Hf, env, st, h.bind fun d Hf1 H1 g1 k1 x rx => ?_⟩
  obtain ⟨ds, e, q⟩ := k1.ofO
  obtain ⟨i, j, e1, e2, _, b2, rfl⟩ := dRange_some e
  cases e1
  subst e2
  refine ⟨j, by rw [rx.int g1.s], b2.1, b2.2, ?_⟩
  have := q Hf1 H1 (Grow.refl g1.s) (Itr 0 j.toNat)
  rw [Int.sub_zero] at this
  exact this (itr_ok 0 _)
theorem si_range2 (hg : Gl X "range") (hm : X.mg "range" = none) (h : PE X a (tE X.K G Z ω u fa)) (h' : PE X b (tE X.K G Z ω v fb)) (hs : starEach [a, b] X.env = [(false, eval a X.env), (false, eval b X.env)]) (hs' : starEach [b] X.env = [(false, eval b X.env)]) :
    PI X tg (.Call (.Name "range" p) [a, b] [] pos) (tI X.K G Z ω fun env => fa env >>= fun x => fb env >>= fun y => ofO (dRange x y)) := by
  refine PIi (pi_range2 hg hm (pa_cons h (pa_cons h' pa_nil hs') (by rw [hs, hs'])) hs hs') fun σ H R ⟨HB, HE, Hf, env, st, h⟩ => ⟨HB, HE, Hf, env, st, h.bind fun d Hf1 H1 g1 k1 x rx => ⟨HB, HE, Hf1, env, st.grow g1, k1.bind fun d' Hf2 H2 g2 k2 y ry => ?_⟩⟩
  obtain ⟨ds, e, q⟩ := k2.ofO
  obtain ⟨i, j, rfl, rfl, b1, b2, rfl⟩ := dRange_some e
  exact ⟨i, j, by rw [(rx.grow g2).int g2.s, ry.int g2.s], ⟨b1.1, b1.2, b2.1, b2.2⟩, q Hf2 H2 (Grow.refl g2.s) _ (itr_ok i _)⟩
theorem si_rev1 {pos2 p2 : Pos} (hg : Gl X "range") (hm : X.mg "range" = none) (hg2 : Gl X "reversed") (hm2 : X.mg "reversed" = none) (h : PE X a (tE X.K G Z ω u fa)) (hs : starEach [a] X.env = [(false, eval a X.env)]) :
    PI X tg (.Call (.Name "reversed" p2) [.Call (.Name "range" p) [a] [] pos] [] pos2) (tI X.K G Z ω fun env => fa env >>= fun x => ofO (dRange (.int 0) x) >>= fun ds => .ok ds.reverse) := by
  refine PIi (pi_revR hg2 hm2 (prg_1 hg hm h hs) rfl) fun σ H R ⟨HB, HE, Hf, env, st, h⟩ => ⟨HB, HE, Hf, env, st, h.bind fun d Hf1 H1 g1 k1 x rx => ?_⟩
  obtain ⟨ds, e, q⟩ := k1.ofO_bind
  obtain ⟨i, j, e1, e2, b1, b2, rfl⟩ := dRange_some e
  cases e1
  subst e2
  refine ⟨j, rx.int g1.s, b1.1, b1.2, b2.1, b2.2, q Hf1 H1 (Grow.refl g1.s) _ ?_⟩
  exact itc_ok 0 _
theorem si_rev2 {pos2 p2 : Pos} (hg : Gl X "range") (hm : X.mg "range" = none) (hg2 : Gl X "reversed") (hm2 : X.mg "reversed" = none) (h : PE X a (tE X.K G Z ω u fa)) (h' : PE X b (tE X.K G Z ω v fb)) (hs : starEach [a, b] X.env = [(false, eval a X.env), (false, eval b X.env)]) (hs' : starEach [b] X.env = [(false, eval b X.env)]) :
    PI X tg (.Call (.Name "reversed" p2) [.Call (.Name "range" p) [a, b] [] pos] [] pos2) (tI X.K G Z ω fun env => fa env >>= fun x => fb env >>= fun y => ofO (dRange x y) >>= fun ds => .ok ds.reverse) := by
  refine PIi (pi_revR hg2 hm2 (prg_2 hg hm h h' (by rw [hs, hs']) hs' (by rw [hs']; rfl)) rfl) fun σ H R ⟨HB, HE, Hf, env, st, h⟩ => ⟨HB, HE, Hf, env, st, h.bind fun d Hf1 H1 g1 k1 x rx => ⟨HB, HE, Hf1, env, st.grow g1, k1.bind fun d' Hf2 H2 g2 k2 y ry => ?_⟩⟩
  obtain ⟨ds, e, q⟩ := k2.ofO_bind
  obtain ⟨i, j, rfl, rfl, b1, b2, rfl⟩ := dRange_some e
  exact ⟨i, j, (rx.grow g2).int g2.s, ry.int g2.s, b1.1, b1.2, b2.1, b2.2, q Hf2 H2 (Grow.refl g2.s) _ (itc_ok i _)⟩
end
end Ev
set_option maxHeartbeats 1000000
/-! EvJ: comprehensions upon plain data. -/
namespace Ev
open PySem PySem.Spec PyProof.Rows L2
abbrev Z0 : WX := fun _ _ _ _ => False
section
variable {X : Cx} {G : GT} {Z : WX} {ω : List Nat} {t u v : Tag} {pos p pos' : Pos} {tg e elt it a b c : Expr} {es ifs : List Expr} {f fa fb fc : Env → M D} {fs : Env → M (List D)}
/-- one turn of a comprehension -/
def turnD (tg : CP) (vs : List Nat) (fc : Env → M Bool) (fe : Env → M D) (env : Env) (d : D) : M (Option D) :=
  ofO (bindP tg d (wipeD env vs)) >>= fun env' => fc env' >>= fun c => if c then fe env' >>= fun x => .ok (some x) else .ok none
theorem compL_some {f : D → M (Option D)} {d : D} {r xs : List D} (h : compL f (d :: r) = .ok xs) : ∃ o ys, f d = .ok o ∧ compL f r = .ok ys ∧ xs = (match o with | some x => x :: ys | none => ys) := by
  unfold compL at h
  cases e : f d with
  | stuck => rw [e] at h; exact nomatch h
  | ex c ns fs => rw [e] at h; exact nomatch h
  | ok o =>
    rw [e] at h
    cases o with
    | none => exact ⟨none, xs, rfl, h, rfl⟩
    | some x =>
      dsimp only at h
      cases e2 : compL f r with
      | stuck => rw [e2] at h; exact nomatch h
      | ex c ns fs => rw [e2] at h; exact nomatch h
      | ok ys => rw [e2] at h; cases h; exact ⟨some x, ys, rfl, rfl, rfl⟩
theorem compL_noex {f : D → M (Option D)} : ∀ {ds : List D} {c ns fs}, compL f ds ≠ .ex c ns fs
  | [], _, _, _, h => nomatch h
  | d :: r, c, ns, fs, h => by
    unfold compL at h
    split at h
    · split at h <;> cases h
    · exact compL_noex h
    · cases h
/-- the reading of a comprehension -/
def compRd (tgt : CP) (vs : List Nat) (fc : Env → M Bool) (fe : Env → M D) (fi : Env → M (List D)) : Env → M D := fun env =>
  fi env >>= fun ds => ofO (grd (fits ds.length) ds) >>= fun ds => compL (turnD tgt vs fc fe env) ds >>= fun xs => .ok (.lst xs)
theorem tLc_ok {K : PySem.W.Frag} {tgt : CP} {vs : List Nat} {ω' : List Nat} {fc : Env → M Bool} {fe : Env → M D} {fi : Env → M (List D)} (hv : ∀ i ∈ tgt.slots, i ∈ vs) (hω : drps ω tgt.slots = ω') :
    ∀ σ H Q, tE K G Z ω .N (compRd tgt vs fc fe fi) σ H Q → tLc (tI K G Z ω fi) (gOf K tgt) (tEb K G Z0 ω' fc) (tE K G Z0 ω' .F fe) vs σ H Q := by
  intro σ H Q ⟨HB, HE, Hf, env, st, h⟩
  refine ⟨HB, HE, Hf, env, st, h.bind fun ds Hf1 H1 g1 k1 J hJ D hD => ?_⟩
  obtain ⟨ds', e, k2⟩ := k1.ofO_bind
  obtain ⟨hfit, e2⟩ := grd_some e
  subst e2
  have hfit := fits_le hfit
  cases hc : compL (turnD tgt vs fc fe env) ds with
  | stuck => rw [hc] at k2; exact k2.elim
  | ex c ns fs => exact absurd hc compL_noex
  | ok xs =>
    rw [hc] at k2
    have k2 : ∀ Hf' H', Grow Hf1 H1 Hf' H' → PV K .N H Q (.lst xs) Hf' H' := k2
    refine ⟨fun i m H2 => ∃ Hf2 acc ys zs, i + m = ds.length ∧ Grow Hf1 H1 Hf2 H2 ∧ Hf2 D = none ∧ H2 D = some (.lst acc) ∧ Reps K Hf2 acc ys ∧ acc.length ≤ i ∧ compL (turnD tgt vs fc fe env) (ds.drop i) = .ok zs ∧ xs = ys ++ zs,
      ⟨ds.length, Hf1, [], [], xs, by omega, Grow.new g1.s hD, g1.s.free hD, upd_same, .nil, Nat.le_refl _, hc, rfl⟩, fun i m H2 hW => ?_⟩
    obtain ⟨Hf2, acc, ys, zs, hm, gg, hd0, hd1, racc, hlen, hcz, exs⟩ := hW
    by_cases hi : i < ds.length
    · have hdrop : ds.drop i = ds[i] :: ds.drop (i + 1) := List.drop_eq_getElem_cons hi
      rw [hdrop] at hcz
      obtain ⟨o, ys', eo, ec, ez⟩ := compL_some hcz
      refine .inr ⟨hJ.go i Hf2 H2 gg.f gg.s hi, fun H3 => ∃ Hf3 acc' ys2 zs2, Grow Hf1 H1 Hf3 H3 ∧ Hf3 D = none ∧ H3 D = some (.lst acc') ∧ Reps K Hf3 acc' ys2 ∧ acc'.length ≤ i + 1 ∧ compL (turnD tgt vs fc fe env) (ds.drop (i + 1)) = .ok zs2 ∧ xs = ys2 ++ zs2, fun H3 hN => ?_, fun x H3 hy => ?_⟩
      · obtain ⟨Hf3, acc', ys2, zs2, z1, z2, z3, z4, z5, z6, z7⟩ := hN
        exact ⟨m - 1, by omega, Hf3, acc', ys2, zs2, by omega, z1, z2, z3, z4, z5, z6, z7⟩
      · obtain ⟨d, Hf3, hd, g3, rx⟩ := hJ.yld i Hf2 H2 x H3 gg.f gg.s hi hy
        rw [List.getElem?_eq_getElem hi] at hd
        cases hd
        have rootD : ∀ {Hf' H' : Hp}, Grow Hf2 H2 Hf' H' → Hf' D = none ∧ H' D = some (.lst acc) := fun {Hf' H'} g' =>
          ⟨Root.stays (K := K) (d := .lst ys) g' ⟨acc, hd1, racc⟩ hd0, g'.h _ _ hd1⟩
        -- the turn
        unfold turnD at eo
        cases eb : bindP tgt ds[i] (wipeD env vs) with
        | none => rw [eb] at eo; exact nomatch eo
        | some env' =>
          rw [eb] at eo
          have eo : (fc env' >>= fun c => if c then fe env' >>= fun x => .ok (some x) else .ok none) = .ok o := eo
          have stw := ((st.grow (g1.trans (gg.trans g3))).wipe vs)
          refine gOf_ok tgt ω HB HE Hf3 H3 _ _ x ds[i] env' _ stw rx eb fun σ2 st2 out => ⟨out.wipe hv, ?_⟩
          rw [hω] at st2
          refine ⟨HB, HE, Hf3, env', st2, ?_⟩
          cases ecc : fc env' with
          | stuck => rw [ecc] at eo; exact nomatch eo
          | ex c ns fs => rw [ecc] at eo; exact nomatch eo
          | ok c =>
            rw [ecc] at eo
            intro Hf4 H4 g4
            cases c with
            | false =>
              cases eo
              rw [PB]
              have gt := g3.trans g4
              obtain ⟨q1, q2⟩ := rootD gt
              exact ⟨Hf4, acc, ys, zs, gg.trans gt, q1, q2, racc.mono gt.f, by omega, by rw [ec, ez], exs⟩
            | true =>
              have eo : (fe env' >>= fun x => .ok (some x)) = M.ok o := eo
              refine ⟨HB, HE, Hf4, env', st2.grow g4, ?_⟩
              cases ee : fe env' with
              | stuck => rw [ee] at eo; exact nomatch eo
              | ex c ns fs => rw [ee] at eo; exact nomatch eo
              | ok y =>
                rw [ee] at eo
                cases eo
                intro Hf5 H5 g5 w rw'
                have gt := (g3.trans g4).trans g5
                obtain ⟨q1, q2⟩ := rootD gt
                have ne : ∀ {b o}, Hf5 b = some o → b ≠ D := fun h => ne_of_none h q1
                have hD1 : ∀ {b o}, H1 b = some o → b ≠ D := fun h => ne_of_none h hD
                have gA := gg.trans gt
                refine ⟨acc, q2, Nat.lt_of_le_of_lt hlen (Nat.lt_of_lt_of_le hi hfit), Hf5, acc ++ [w], ys ++ [y], ys', ⟨gA.f, fun b o h => ?_, fun b o h => ?_, gA.n⟩, q1, upd_same, (racc.mono gt.f).append (.cons rw' .nil), ?_, ec, ?_⟩
                · rw [upd_ne (hD1 h)]; exact gA.h b o h
                · rw [upd_ne (ne h)]; exact gA.s b o h
                · rw [List.length_append]; show acc.length + 1 ≤ i + 1; omega
                · rw [exs, ez, List.append_assoc]; rfl
    · have ei : i = ds.length ∨ ds.length < i := by omega
      have hi' : ds.length ≤ i := by omega
      have im : i = ds.length := by omega
      subst im
      rw [List.drop_length] at hcz
      cases hcz
      rw [List.append_nil] at exs
      subst exs
      refine .inl ⟨hJ.stop Hf2 H2 gg.f gg.s, k2 Hf2 H2 gg (.ref D) (.inr ⟨D, rfl, g1.h.free hD, hd0, acc, hd1, racc⟩)⟩
/-- .. as a value -/
theorem se_comp {scope : Scope} {own : List (Str × Nat)} {tgt : CP} {ω' : List Nat} {fc : Env → M Bool} {fe : Env → M D} {fi : Env → M (List D)} (hc : X.calm = true) (hN : X.N.Nodup) (hi : PI X tg it (tI X.K G Z ω fi)) (ok : BlkOk X.N X.env.scope scope own)
    (hv : ∀ i ∈ tgt.slots, i ∈ own.map (·.2)) (hω : drps ω tgt.slots = ω')
    (hg : ∀ s H C cl fp, PG (X.blk s H scope (compEnvC scope cl C X.env) fp) tg (gOf X.K tgt))
    (ht : ∀ s H C cl fp, PTs (X.blk s H scope (compEnvC scope cl C X.env) fp) ifs (tEb X.K G Z0 ω' fc))
    (he : ∀ s H C cl fp, PE (X.blk s H scope (compEnvC scope cl C X.env) fp) elt (tE X.K G Z0 ω' .F fe))
    (hf : ∀ x, foldedSetIterable it X.env x = pure x) :
    PE X (.ListComp elt [⟨tg, it, ifs, 0⟩] scope pos) (tE X.K G Z ω .N (compRd tgt (own.map (·.2)) fc fe fi)) :=
  PEi (pe_lc hc hN hi ok hg ht he hf) (tLc_ok hv hω)
end
end Ev
set_option maxHeartbeats 1000000
/-! EvK: statements upon plain data. -/
namespace Ev
open PySem PySem.Spec PyProof.Rows L2
/-- what is wanted behind a statement's end -/
def FQ (K : W.Frag) (G : GT) (Z : WX) (ω' ωc : List Nat) (n : Bool) (HB HE : Hp) (Dn : Ends) (Hf : Hp) : Fl → Prop
  | .stuck => False
  | .nx env' => ∀ σ' Hf' H', Same Hf Hf' → StRel K ω' HB HE Hf' H' σ' env' → Dn.nx σ' H'
  | .ct env' => ∀ σ' Hf' H', Same Hf Hf' → StRel K ωc HB HE Hf' H' σ' env' → Dn.ct σ' H'
  | .rt d => ∀ v Hf' H', Grow HB HE Hf' H' → TR K (tg n) HE Hf' H' v d → Dn.rt v H'
  | .ex c ns fs => ∀ σ' cls dd Hf' H', Grow HB HE Hf' H' → ExR K G c ns fs cls dd Hf' H' → Z cls dd σ' H'
def tS (K : W.Frag) (G : GT) (Z : WX) (ω ω' ωc : List Nat) (n : Bool) (f : Env → Fl) : TS := fun Dn σ H => ∃ HB HE Hf env, StRel K ω HB HE Hf H σ env ∧ FQ K G Z ω' ωc n HB HE Dn Hf (f env)
section
variable {K : W.Frag} {G : GT} {Z : WX} {ω ω' ω2 ωc ωd : List Nat} {n : Bool} {HB HE Hf H Hf1 H1 : Hp} {Dn D2 : Ends} {σ : L2.St} {env : Env}
theorem FQ.mono {fl : Fl} (h : FQ K G Z ω' ωc n HB HE Dn Hf fl) (s : Same Hf Hf1) : FQ K G Z ω' ωc n HB HE Dn Hf1 fl := by
  cases fl with
  | stuck => exact h
  | nx e => exact fun σ' Hf' H' s' => h σ' Hf' H' (s.trans s')
  | ct e => exact fun σ' Hf' H' s' => h σ' Hf' H' (s.trans s')
  | rt d => exact h
  | ex c ns fs => exact h
theorem FQ.weak {fl : Fl} (h : FQ K G Z ω' ωc n HB HE Dn Hf fl) (hw : ∀ j ∈ ω', j ∈ ω2) (hc : ∀ j ∈ ωc, j ∈ ωd) : FQ K G Z ω2 ωd n HB HE Dn Hf fl := by
  cases fl with
  | stuck => exact h
  | nx e => exact fun σ' Hf' H' s' r => let ⟨Hf2, s2, r2⟩ := r.weak hw; h σ' Hf2 H' (s'.trans s2) r2
  | ct e => exact fun σ' Hf' H' s' r => let ⟨Hf2, s2, r2⟩ := r.weak hc; h σ' Hf2 H' (s'.trans s2) r2
  | rt d => exact h
  | ex c ns fs => exact h
/-- a value of a step, then a flow -/
theorem EQ.toF {m : M D} {k : D → Fl} {P : D → Hp → Hp → Prop} (st : StRel K ω HB HE Hf H σ env) (h : FQ K G Z ω' ωc n HB HE Dn Hf (ofM m k))
    (hk : ∀ d, FQ K G Z ω' ωc n HB HE Dn Hf (k d) → ∀ Hf1 H1, Grow Hf H Hf1 H1 → P d Hf1 H1) : EQ K G Z σ P Hf H m := by
  cases m with
  | stuck => exact h
  | ok d => exact fun Hf1 H1 g => hk d h Hf1 H1 g
  | ex c ns fs => exact fun cls dd Hf1 H1 g x => h σ cls dd Hf1 H1 (st.g.trans g) x
end
section
variable {X : Cx} {G : GT} {Z : WX} {ω ω' ω2 ω3 ωc ωd : List Nat} {n : Bool} {t u v : Tag} {pos p pos' : Pos} {tg e elt it a b c : Expr} {es ifs : List Expr} {f fa fb : Env → M D} {fs : Env → M (List D)} {s : Stmt} {ss ss' : List Stmt} {g g' : Env → Fl}
theorem ss_weak (h : PSs X ss (tS X.K G Z ω ω2 ωd n g)) (hw : ∀ j ∈ ω', j ∈ ω2) (hc : ∀ j ∈ ωc, j ∈ ωd) : PSs X ss (tS X.K G Z ω ω' ωc n g) :=
  PSsi h fun D σ H ⟨HB, HE, Hf, env, st, h⟩ => ⟨HB, HE, Hf, env, st, h.weak hw hc⟩
theorem s1_weak (h : PS X s (tS X.K G Z ω ω2 ωd n g)) (hw : ∀ j ∈ ω', j ∈ ω2) (hc : ∀ j ∈ ωc, j ∈ ωd) : PS X s (tS X.K G Z ω ω' ωc n g) :=
  PSi h fun D σ H ⟨HB, HE, Hf, env, st, h⟩ => ⟨HB, HE, Hf, env, st, h.weak hw hc⟩
/-! ### blocks -/
theorem ss_nil : PSs X [] (tS X.K G Z ω ω ωc n .nx) := PSsi pss_nil fun D σ H ⟨HB, HE, Hf, env, st, h⟩ => h σ Hf H (Same.refl _) st
theorem ss_cons (h1 : PS X s (tS X.K G Z ω ω' ωc n g)) (h2 : PSs X ss (tS X.K G Z ω' ω2 ωc n g')) : PSs X (s :: ss) (tS X.K G Z ω ω2 ωc n fun env => (g env).seq g') :=
  PSsi (pss_cons h1 h2) fun D σ H ⟨HB, HE, Hf, env, st, h⟩ => ⟨HB, HE, Hf, env, st, by
    dsimp only at h
    cases q : g env with
    | stuck => rw [q] at h; exact h.elim
    | nx env' =>
      rw [q] at h
      have h : FQ X.K G Z ω2 ωc n HB HE D Hf (g' env') := h
      exact fun σ' Hf' H' s' st' => ⟨HB, HE, Hf', env', st', h.mono s'⟩
    | ct env' => rw [q] at h; exact h
    | rt d => rw [q] at h; exact h
    | ex c ns fs => rw [q] at h; exact h⟩
theorem ss_freeze {is : List Nat} (h : PSs X ss (tS X.K G Z (ω.filter fun j => !is.contains j) ω' ωc n g)) : PSs X ss (tS X.K G Z ω ω' ωc n g) :=
  PSsi h fun D σ H ⟨HB, HE, Hf, env, st, h⟩ => let ⟨Hf', s', st'⟩ := StRel.unowns is st; ⟨HB, HE, Hf', env, st', h.mono s'⟩
theorem ss_forget {is : List Nat} (h : PSs X ss (tS X.K G Z ω ω' ωc n g)) : PSs X ss (tS X.K G Z ω ω' ωc n fun env => g (wipeD env is)) :=
  PSsi h fun D σ H ⟨HB, HE, Hf, env, st, h⟩ => ⟨HB, HE, Hf, wipeD env is, st.forget is, h⟩
/-! ### a name is set -/
theorem tAsgF {K : PySem.W.Frag} {tgt : CP} : ∀ D σ H, tS K G Z ω (drps ω tgt.slots) ωc n (fun env => ofM (f env) fun d => ofE (ofO (bindP tgt d env))) D σ H → tAsg (tE K G Z ω .F f) (gOf K tgt) D σ H := by
  intro D σ H ⟨HB, HE, Hf, env, st, h⟩
  refine ⟨HB, HE, Hf, env, st, EQ.toF st h fun d hd Hf1 H1 g1 v rv => ?_⟩
  cases q : bindP tgt d env with
  | none => rw [q] at hd; exact hd.elim
  | some env' =>
    rw [q] at hd
    exact gOf_ok tgt ω HB HE Hf1 H1 σ env v d env' D.nx (st.grow g1) rv q fun σ' st' _ => hd σ' Hf1 H1 g1.f st'
theorem tAsgN {K : PySem.W.Frag} {i : Nat} : ∀ D σ H, tS K G Z ω (i :: drp ω i) ωc n (fun env => ofM (f env) fun d => .nx (env.set i (some d))) D σ H → tAsg (tE K G Z ω .N f) (gName i) D σ H := by
  intro D σ H ⟨HB, HE, Hf, env, st, h⟩
  refine ⟨HB, HE, Hf, env, st, EQ.toF st h fun d hd Hf1 H1 g1 v rv => ?_⟩
  exact hd _ Hf1 H1 g1.f (StRel.setN st (st.grow g1) rv)
theorem ss_set {tgt : CP} (h : PE X e (tE X.K G Z ω .F f)) (hp : PG X tg (gOf X.K tgt)) (h1 : swapsWithSole [tg] e pos.line X.env = pure false) (h2 : swappedStores [tg] e X.env = pure none) (h3 : (assignEach [tg] X.env).map (·.2) = [assign tg X.env]) :
    PS X (.Assign [tg] e pos) (tS X.K G Z ω (drps ω tgt.slots) ωc n fun env => ofM (f env) fun d => ofE (ofO (bindP tgt d env))) := PSi (ps_asg h hp h1 h2 h3) tAsgF
theorem ss_setN {i : Nat} {x : Str} (hN : X.N.Nodup) (hi : X.N[i]? = some x) (hl : Loc X.env.scope x) (h : PE X e (tE X.K G Z ω .N f)) (h1 : swapsWith e (some (.Name x p)) pos.line X.env = pure false) (hf : X.fn x = true ∨ X.env.scope.names.lookup x = some .local) :
    PS X (.Assign [.Name x p] e pos) (tS X.K G Z ω (i :: drp ω i) ωc n fun env => ofM (f env) fun d => .nx (env.set i (some d))) := PSi (ps_set hN hi hl h h1 hf) tAsgN
theorem ss_setF {i : Nat} {x : Str} (hN : X.N.Nodup) (hi : X.N[i]? = some x) (hl : Loc X.env.scope x) (h : PE X e (tE X.K G Z ω .F f)) (h1 : swapsWith e (some (.Name x p)) pos.line X.env = pure false) (hf : X.fn x = true ∨ X.env.scope.names.lookup x = some .local) :
    PS X (.Assign [.Name x p] e pos) (tS X.K G Z ω (drp ω i) ωc n fun env => ofM (f env) fun d => .nx (env.set i (some d))) := PSi (ps_set hN hi hl h h1 hf) fun D σ H q => tAsgF (tgt := .one i) D σ H q
/-! ### an item is appended -/
theorem ss_app {i : Nat} {x : Str} {apos cpos : Pos} (hi : X.N[i]? = some x) (hv : Vis X.env.scope x) (hd : (x == ("__debug__" : Str)) = false) (hcd : (x == ("__classdict__" : Str)) = false) (ho : i ∈ ω) (h : PE X e (tE X.K G Z ω .F f))
    (h0 : attributeBase (.Name x p) "append" X.env (eval (.Name x p) X.env) = eval (.Name x p) X.env)
    (h1 : (((backTo cpos (starEach [e] X.env)).all fun x => !x.1) && ((backToKw cpos (keywordEach [] X.env)).all fun x => x.1.isSome) && decide (([e].length + ([] : List Keyword).length + if ([] : List Keyword).isEmpty = true then 0 else 1) < 30)) = true)
    (h2 : (apos.endLine == cpos.line) = true) (h3 : starEach [e] X.env = (false, eval e X.env) :: starEach [] X.env) (h4 : swapsWith (.Call (.Attribute (.Name x p) "append" apos) [e] [] cpos) none pos.line X.env = pure false) :
    PS X (.Expr (.Call (.Attribute (.Name x p) "append" apos) [e] [] cpos) pos) (tS X.K G Z ω ω ωc n fun env => match env[i]? with
      | some (some (.lst xs)) => ofM (f env) fun d => if fits (xs.length + 1) then .nx (env.set i (some (.lst (xs ++ [d])))) else .stuck
      | _ => .stuck) := by
  refine PSi (ps_expr (pe_bm PySem.F.plainAttrs_list PySem.F.slot_list_append PySem.F.type_list_append mt_append (pe_var hi hv hd hcd) (pa_cons h pa_nil h3) h0 h1 h2 h3 rfl) h4) fun D σ H ⟨HB, HE, Hf, env, st, h⟩ => ?_
  dsimp only at h
  split at h
  · rename_i xs ex
    obtain ⟨v, ev, rv⟩ := st.own i ho _ ex
    rcases rv with ⟨c, _⟩ | ⟨q, rfl, hq0, hq1, vs, hq2, rvs⟩
    · exact nomatch c
    refine ⟨_, ev, .inl ⟨rfl, _, .inl (.inl hq2)⟩, HB, HE, Hf, env, st, EQ.toF st h fun d hd Hf1 H1 g1 w rw' => ?_⟩
    by_cases hfit : fits (xs.length + 1) = true
    · rw [if_pos hfit] at hd
      have hl := fits_le hfit
      have rt : Root X.K Hf H q (.lst xs) := ⟨vs, hq2, rvs⟩
      have hn1 := rt.stays g1 hq1
      have hq3 := g1.h _ _ hq2
      have st1 := st.grow g1
      refine ⟨q, vs, w, rfl, rfl, hq3, by rw [rvs.length]; omega, ?_⟩
      have sm : ∀ b o, Hf1 b = some o → b ≠ q := fun b o e => ne_of_none e hn1
      have g2 : Grow HB HE Hf1 (upd H1 q (.lst (vs ++ [w]))) := ⟨st1.g.f, fun b o e => by rw [upd_ne (ne_of_none e hq0)]; exact st1.g.h b o e, fun b o e => by rw [upd_ne (sm b o e)]; exact st1.g.s b o e, st1.g.n⟩
      have hlen : i < env.length := by
        rcases Nat.lt_or_ge i env.length with h | h
        · exact h
        · rw [List.getElem?_eq_none h] at ex; exact nomatch ex
      refine hd σ Hf1 _ g1.f ⟨g2, by rw [List.length_set]; exact st1.len, fun j hj e he => ?_, fun j hj k hk ne pp d' e' hd' he' cd ce h1 h2 => ?_, fun j hj e he => ?_⟩
      · by_cases hji : j = i
        · subst hji
          rw [List.getElem?_set_self hlen] at he
          cases he
          exact ⟨_, ev, .inr ⟨q, rfl, hq0, hn1, _, upd_same, (rvs.mono g1.f).append (.cons rw' .nil)⟩⟩
        · rw [List.getElem?_set_ne (Ne.symm hji)] at he
          obtain ⟨v', a', b'⟩ := st1.own j hj e he
          refine ⟨v', a', ?_⟩
          rcases b' with b' | ⟨q', rfl, z0, z1, z2⟩
          · exact .inl b'
          · have nq : q' ≠ q := fun eq => by
              subst eq
              exact st.inj j hj i ho hji q' e _ he ex z2.cont rfl a' ev
            refine .inr ⟨q', rfl, z0, z1, ?_⟩
            cases e with
            | lst ds => obtain ⟨ws, e1, e2⟩ := z2; exact ⟨ws, by rw [upd_ne nq]; exact e1, e2⟩
            | dct ks ds => obtain ⟨ws, e1, l, nn, e2⟩ := z2; exact ⟨ws, by rw [upd_ne nq]; exact e1, l, nn, e2⟩
            | _ => exact z2.elim
      · have key : ∀ m : Nat, ∀ z, (env.set i (some (.lst (xs ++ [d]))))[m]? = some (some z) → z.cont = true → ∃ z', env[m]? = some (some z') ∧ z'.cont = true := by
          intro m z hz cz
          by_cases hmi : m = i
          · subst hmi; exact ⟨_, ex, rfl⟩
          · rw [List.getElem?_set_ne (Ne.symm hmi)] at hz; exact ⟨z, hz, cz⟩
        obtain ⟨z1, y1, c1⟩ := key j d' hd' cd
        obtain ⟨z2, y2, c2⟩ := key k e' he' ce
        exact st.inj j hj k hk ne pp z1 z2 y1 y2 c1 c2 h1 h2
      · have hji : j ≠ i := fun e => hj (by rw [e]; exact ho)
        rw [List.getElem?_set_ne (Ne.symm hji)] at he
        exact st1.fz j hj e he
    · rw [if_neg hfit] at hd; exact hd.elim
  · exact h.elim
/-! ### others -/
theorem ss_expr (h : PE X e (tE X.K G Z ω .B f)) (h1 : swapsWith e none pos.line X.env = pure false) : PS X (.Expr e pos) (tS X.K G Z ω ω ωc n fun env => ofM (f env) fun _ => .nx env) :=
  PSi (ps_expr h h1) fun D σ H ⟨HB, HE, Hf, env, st, h⟩ => ⟨HB, HE, Hf, env, st, EQ.toF st h fun d hd Hf1 H1 g1 v rv => hd σ Hf1 H1 g1.f (st.grow g1)⟩
theorem ss_if {fc : Env → M Bool} (hc : PT X c (tEb X.K G Z ω fc)) (h1 : PSs X ss (tS X.K G Z ω ω' ωc n g)) (h2 : PSs X ss' (tS X.K G Z ω ω' ωc n g')) :
    PS X (.If c ss ss' pos) (tS X.K G Z ω ω' ωc n fun env => match fc env with
      | .ok true => g env
      | .ok false => g' env
      | .stuck => .stuck
      | .ex c ns fs => .ex c ns fs) :=
  PSi (ps_if hc h1 h2) fun D σ H ⟨HB, HE, Hf, env, st, h⟩ => ⟨HB, HE, Hf, env, st, by
    dsimp only at h
    cases q : fc env with
    | stuck => rw [q] at h; exact h
    | ex c ns fs => rw [q] at h; exact fun cls dd Hf1 H1 g x => h σ cls dd Hf1 H1 (st.g.trans g) x
    | ok b =>
      rw [q] at h
      intro Hf1 H1 g1
      cases b with
      | true => exact ⟨HB, HE, Hf1, env, st.grow g1, FQ.mono (fl := g env) h g1.f⟩
      | false => exact ⟨HB, HE, Hf1, env, st.grow g1, FQ.mono (fl := g' env) h g1.f⟩⟩
theorem ss_ret (h : PE X e (tE X.K G Z ω (Ev.tg n) f)) : PS X (.Return (some e) pos) (tS X.K G Z ω ω' ωc n fun env => ofM (f env) .rt) :=
  PSi (ps_ret h) fun D σ H ⟨HB, HE, Hf, env, st, h⟩ => ⟨HB, HE, Hf, env, st, EQ.toF st h fun d hd Hf1 H1 g1 v rv => hd v Hf1 H1 (st.g.trans g1) (rv.back st.g.h)⟩
/-- the owned slot handed back -/
theorem ss_retO {i : Nat} {x : Str} (hi : X.N[i]? = some x) (hv : Vis X.env.scope x) (hd : (x == ("__debug__" : Str)) = false) (hcd : (x == ("__classdict__" : Str)) = false) (ho : i ∈ ω) :
    PS X (.Return (some (.Name x p)) pos) (tS X.K G Z ω ω' ωc true fun env => ofM (denV i env) .rt) :=
  PSi (ps_ret (pe_var hi hv hd hcd)) fun D σ H ⟨HB, HE, Hf, env, st, h⟩ => by
    dsimp only at h
    obtain ⟨d, e1, e2⟩ := denV_cases (i := i) (env := env) (fun q => by rw [q] at h; exact h)
    rw [e1] at h
    obtain ⟨v, a, b⟩ := st.own i ho d e2
    exact ⟨v, a, h v Hf H st.g b⟩
theorem ss_retN : PS X (.Return none pos) (tS X.K G Z ω ω' ωc n fun _ => .rt .non) :=
  PSi ps_retN fun D σ H ⟨HB, HE, Hf, env, st, h⟩ => h .non Hf H st.g (by cases n; exact Rep.non; exact .inl ⟨rfl, .non⟩)
theorem ss_pass : PS X (.Pass pos) (tS X.K G Z ω ω ωc n .nx) := PSi ps_pass fun D σ H ⟨HB, HE, Hf, env, st, h⟩ => h σ Hf H (Same.refl _) st
theorem ss_cont : PS X (.Continue pos) (tS X.K G Z ω ω' ω n .ct) := PSi ps_continue fun D σ H ⟨HB, HE, Hf, env, st, h⟩ => h σ Hf H (Same.refl _) st
/-! ### loops -/
theorem ss_for {tgt : CP} {fi : Env → M (List D)} (hp : PassesOwn (model X.prog X.w) X.A X.env X.xe) (hc : X.calm = true) (hi : PI X tg it (tI X.K G Z ω fi)) (ht : PG X tg (gOf X.K tgt)) (hω : ∀ j ∈ ω, j ∉ tgt.slots)
    (hb : PSs X ss (tS X.K G Z (drps ω tgt.slots) ω ω n g)) (hf : ∀ x, foldedSetIterable it X.env x = pure x) :
    PS X (.For tg it ss [] pos) (tS X.K G Z ω ω ωc n fun env => match fi env with
      | .ok ds => forL (fun d env => (ofE (ofO (bindP tgt d env))).seq g) ds env
      | .stuck => .stuck
      | .ex c ns fs => .ex c ns fs) := by
  refine PSi (ps_for hp hc hi ht hb hf) fun D σ H ⟨HB, HE, Hf, env, st, h⟩ => ⟨HB, HE, Hf, env, st, ?_⟩
  dsimp only at h
  cases q : fi env with
  | stuck => rw [q] at h; exact h
  | ex c ns fs => rw [q] at h; exact fun cls dd Hf1 H1 g x => h σ cls dd Hf1 H1 (st.g.trans g) x
  | ok ds =>
    rw [q] at h
    intro Hf1 H1 g1 J hJ
    have h : FQ X.K G Z ω ωc n HB HE D Hf (forL (fun d env => (ofE (ofO (bindP tgt d env))).seq g) ds env) := h
    refine ⟨fun i m σ' H' => ∃ env' Hf', i + m = ds.length ∧ Same Hf1 Hf' ∧ StRel X.K ω HB HE Hf' H' σ' env' ∧ FQ X.K G Z ω ωc n HB HE D Hf1 (forL (fun d env => (ofE (ofO (bindP tgt d env))).seq g) (ds.drop i) env'),
      ⟨ds.length, env, Hf1, by omega, Same.refl _, st.grow g1, h.mono g1.f⟩, fun i m σ' H' hW => ?_⟩
    obtain ⟨env', Hf', hm, sm, st', hF⟩ := hW
    by_cases hlt : i < ds.length
    · have hdrop : ds.drop i = ds[i] :: ds.drop (i + 1) := List.drop_eq_getElem_cons hlt
      rw [hdrop] at hF
      refine .inr ⟨hJ.go i Hf' H' sm st'.g.s hlt, fun σ2 H2 => ∃ env2 Hf2, Same Hf1 Hf2 ∧ StRel X.K ω HB HE Hf2 H2 σ2 env2 ∧ FQ X.K G Z ω ωc n HB HE D Hf1 (forL (fun d env => (ofE (ofO (bindP tgt d env))).seq g) (ds.drop (i + 1)) env2), fun σ2 H2 hN => ?_, fun x H2 hy => ?_⟩
      · obtain ⟨env2, Hf2, a, b, c⟩ := hN
        exact ⟨m - 1, by omega, env2, Hf2, by omega, a, b, c⟩
      · obtain ⟨d, Hf2, hd, g2, rx⟩ := hJ.yld i Hf' H' x H2 sm st'.g.s hlt hy
        rw [List.getElem?_eq_getElem hlt] at hd
        cases hd
        unfold forL at hF
        cases eb : bindP tgt ds[i] env' with
        | none => rw [eb] at hF; exact hF.elim
        | some env2 =>
          rw [eb] at hF
          have hF : FQ X.K G Z ω ωc n HB HE D Hf1 (match g env2 with
            | .nx env' => forL (fun d env => (ofE (ofO (bindP tgt d env))).seq g) (ds.drop (i + 1)) env'
            | .ct env' => forL (fun d env => (ofE (ofO (bindP tgt d env))).seq g) (ds.drop (i + 1)) env'
            | .rt d => .rt d
            | .ex c ns fs => .ex c ns fs
            | .stuck => .stuck) := hF
          refine gOf_ok tgt ω HB HE Hf2 H2 σ' env' x ds[i] env2 _ (st'.grow g2) rx eb fun σ3 st3 _ => ?_
          refine ⟨HB, HE, Hf2, env2, st3, ?_⟩
          cases eg : g env2 with
          | stuck => rw [eg] at hF; exact hF.elim
          | nx env3 => rw [eg] at hF; exact fun σ4 Hf4 H4 s4 st4 => ⟨env3, Hf4, (sm.trans g2.f).trans s4, st4, hF⟩
          | ct env3 => rw [eg] at hF; exact fun σ4 Hf4 H4 s4 st4 => ⟨env3, Hf4, (sm.trans g2.f).trans s4, st4, hF⟩
          | rt d => rw [eg] at hF; exact hF
          | ex c ns fs => rw [eg] at hF; exact hF
    · have im : i = ds.length := by omega
      subst im
      rw [List.drop_length] at hF
      exact .inl ⟨hJ.stop Hf' H' sm st'.g.s, hF σ' Hf' H' sm st'⟩
theorem ss_while {fc : Env → M Bool} (hp : PassesOwn (model X.prog X.w) X.A X.env X.xe) (hc : PT X c (tEb X.K G Z ω fc)) (hb : PSs X ss (tS X.K G Z ω ω ω n g)) (k : Nat) :
    PS X (.While c ss [] pos) (tS X.K G Z ω ω ωc n fun env => whileL fc g k env) := by
  refine PSi (ps_while hp hc hb) fun D σ H ⟨HB, HE, Hf, env, st, h⟩ => ?_
  refine ⟨fun m σ' H' => ∃ env' Hf', Same Hf Hf' ∧ StRel X.K ω HB HE Hf' H' σ' env' ∧ FQ X.K G Z ω ωc n HB HE D Hf (whileL fc g m env'), ⟨k, env, Hf, Same.refl _, st, h⟩, fun m σ' H' hW => ?_⟩
  obtain ⟨env', Hf', sm, st', hF⟩ := hW
  refine ⟨HB, HE, Hf', env', st', ?_⟩
  cases m with
  | zero => exact hF.elim
  | succ m =>
    unfold whileL at hF
    cases q : fc env' with
    | stuck => rw [q] at hF; exact hF
    | ex c ns fs => rw [q] at hF; exact fun cls dd Hf1 H1 g x => hF σ' cls dd Hf1 H1 (st'.g.trans g) x
    | ok b =>
      rw [q] at hF
      intro Hf1 H1 g1
      cases b with
      | false =>
        show D.nx σ' H1
        exact hF σ' Hf1 H1 (sm.trans g1.f) (st'.grow g1)
      | true =>
        show ∃ N, _
        dsimp only at hF
        refine ⟨fun σ2 H2 => ∃ env2 Hf2, Same Hf Hf2 ∧ StRel X.K ω HB HE Hf2 H2 σ2 env2 ∧ FQ X.K G Z ω ωc n HB HE D Hf (whileL fc g m env2), fun σ2 H2 hN => ⟨m, Nat.lt_succ_self m, hN⟩, HB, HE, Hf1, env', st'.grow g1, ?_⟩
        cases eg : g env' with
        | stuck => rw [eg] at hF; exact hF.elim
        | nx env3 => rw [eg] at hF; exact fun σ4 Hf4 H4 s4 st4 => ⟨env3, Hf4, (sm.trans g1.f).trans s4, st4, hF⟩
        | ct env3 => rw [eg] at hF; exact fun σ4 Hf4 H4 s4 st4 => ⟨env3, Hf4, (sm.trans g1.f).trans s4, st4, hF⟩
        | rt d => rw [eg] at hF; exact hF
        | ex c ns fs => rw [eg] at hF; exact hF
end
end Ev
set_option maxHeartbeats 1000000
/-! EvL: code, what it gives, and the look whether a text is of that code. -/
namespace Ev
open PySem PySem.Spec PyProof.Rows L2
mutual
inductive CE where
  | var (i : Nat) | con (x : Str)
  | non | bl (b : Bool) | int (i : Int) | str (s : Str)
  | bin (op : Operator) (a b : CE)
  | neg (a : CE) | not (a : CE)
  | cmp (op : CmpOp) (a b : CE)
  | isN (a : CE) | notN (a : CE)
  | and (a b : CE) | or (a b : CE)
  | ite (c a b : CE)
  | tup (xs : CEs) | lst (xs : CEs)
  | idx (a i : CE) | slc (a : CE) (lo hi : CO)
  | call (f : Str) (n : Bool) (xs : CEs) | callB (f : Str) (n : Bool) (xs : CEs)
  | blt (b : Blt) (xs : CEs) | isa (t : Ty) (a : CE)
  | comp (elt : CE) (tg : CP) (it : CI) (ifs : CO) (own : List (Str × Nat))
inductive CEs where | nil | cons (e : CE) (es : CEs)
inductive CO where | none | some (e : CE)
/-- what is walked -/
inductive CI where
  | val (e : CE) | range1 (a : CE) | range2 (a b : CE) | rev1 (a : CE) | rev2 (a b : CE)
end
def CEs.len : CEs → Nat
  | .nil => 0
  | .cons _ es => es.len + 1
mutual
def denE (Φ : PhiT) : CE → Env → M D
  | .var i => denV i
  | .con x => fun _ => Φ x []
  | .non => fun _ => .ok .non
  | .bl b => fun _ => .ok (.bl b)
  | .int i => fun _ => .ok (.int i)
  | .str s => fun _ => .ok (.str s)
  | .bin op a b => fun env => denE Φ a env >>= fun x => denE Φ b env >>= fun y => ofO (dBin op x y)
  | .neg a => fun env => denE Φ a env >>= fun x => ofO (dNeg x)
  | .not a => fun env => asB (denE Φ a env) >>= fun c => .ok (.bl (!c))
  | .cmp op a b => fun env => denE Φ a env >>= fun x => denE Φ b env >>= fun y => ofO (dB (dCmp op x y))
  | .isN a => fun env => denE Φ a env >>= fun x => .ok (dIsN x)
  | .notN a => fun env => denE Φ a env >>= fun x => .ok (dNotN x)
  | .and a b => fun env => asB (denE Φ a env) >>= fun c => if c then denE Φ b env else .ok (.bl false)
  | .or a b => fun env => asB (denE Φ a env) >>= fun c => if c then .ok (.bl true) else denE Φ b env
  | .ite c a b => fun env => asB (denE Φ c env) >>= fun c => if c then denE Φ a env else denE Φ b env
  | .tup xs => fun env => denEs Φ xs env >>= fun ds => .ok (.tup ds)
  | .lst xs => fun env => denEs Φ xs env >>= fun ds => .ok (.lst ds)
  | .idx a i => fun env => denE Φ a env >>= fun x => denE Φ i env >>= fun y => ofO (dIdx x y)
  | .slc a lo hi => fun env => denE Φ a env >>= fun x => denO Φ lo env >>= fun l => denO Φ hi env >>= fun h => ofO (dSlc x l h)
  | .call f _ xs => fun env => denEs Φ xs env >>= Φ f
  | .callB f _ xs => fun env => denEs Φ xs env >>= fun ds => immM (Φ f ds)
  | .blt b xs => fun env => denEs Φ xs env >>= fun ds => ofO (dBlt b ds)
  | .isa t a => fun env => denE Φ a env >>= fun d => ofO (grd (PyData.plain d.py) (.bl (t.is d.py)))
  | .comp elt tg it ifs own => compRd tg (own.map (·.2)) (denC Φ ifs) (denE Φ elt) (denI Φ it)
def denEs (Φ : PhiT) : CEs → Env → M (List D)
  | .nil => fun _ => .ok []
  | .cons e es => fun env => denE Φ e env >>= fun d => denEs Φ es env >>= fun ds => .ok (d :: ds)
def denO (Φ : PhiT) : CO → Env → M (Option Int)
  | .none => fN
  | .some e => fO (denE Φ e)
def denC (Φ : PhiT) : CO → Env → M Bool
  | .none => fun _ => .ok true
  | .some e => fun env => asB (denE Φ e env)
def denI (Φ : PhiT) : CI → Env → M (List D)
  | .val e => fun env => denE Φ e env >>= fun d => ofO (dSeq d)
  | .range1 a => fun env => denE Φ a env >>= fun x => ofO (dRange (.int 0) x)
  | .range2 a b => fun env => denE Φ a env >>= fun x => denE Φ b env >>= fun y => ofO (dRange x y)
  | .rev1 a => fun env => denE Φ a env >>= fun x => ofO (dRange (.int 0) x) >>= fun ds => .ok ds.reverse
  | .rev2 a b => fun env => denE Φ a env >>= fun x => denE Φ b env >>= fun y => ofO (dRange x y) >>= fun ds => .ok ds.reverse
end
/-! ### the look -/
structure Sta where
  N : List Str
  sc : Scope
  ω : List Nat
  fns : List (Str × Bool)
  cons : List Str
  blt : List Str
def kindB (sc : Scope) (x : Str) (k : NameKind) : Bool := decide (sc.names.lookup x = some k)
def visB (sc : Scope) (x : Str) : Bool := kindB sc x .local || kindB sc x .cell || kindB sc x .free
def glB (sc : Scope) (x : Str) : Bool := kindB sc x .globalImplicit
def okName (x : Str) : Bool := !(x == ("__debug__" : Str)) && !(x == ("__classdict__" : Str))
/-- a built-in's name as it stands in the text -/
def bltB (S : Sta) (x : Str) : Bool := glB S.sc x && decide (x ∈ S.blt)
def notStar : Expr → Bool
  | .Starred .. => false
  | _ => true
def notComp : Expr → Bool
  | .ListComp .. => false
  | .SetComp .. => false
  | .DictComp .. => false
  | _ => true
/-- its truth is that of its value -/
def valB : Expr → Bool
  | .Name .. => true
  | .Call .. => true
  | .Subscript .. => true
  | _ => false
def notSet : Expr → Bool
  | .Set .. => false
  | _ => true
def isSlice : Expr → Bool
  | .Slice .. => true
  | _ => false
def binB (op : Operator) : Bool := decide (op = .Add ∨ op = .Sub ∨ op = .Mult ∨ op = .Mod ∨ op = .FloorDiv ∨ op = .Pow)
def cmpB (op : CmpOp) : Bool := decide (op = .Lt ∨ op = .Gt ∨ op = .LtE ∨ op = .GtE ∨ op = .Eq ∨ op = .NotEq ∨ op = .In ∨ op = .NotIn)
def embB : Option Tag → Bool
  | some .N => true
  | some .F => true
  | _ => false
/-- the slot of a target's name -/
def tgtB (N : List Str) (sc : Scope) (fn : Str → Bool) (i : Nat) : Expr → Bool
  | .Name x _ => decide (N[i]? = some x) && (kindB sc x .local || (kindB sc x .cell && fn x))
  | _ => false
def tgtsB (N : List Str) (sc : Scope) (fn : Str → Bool) : List Nat → List Expr → Bool
  | [], [] => true
  | i :: is, e :: es => tgtB N sc fn i e && tgtsB N sc fn is es
  | _, _ => false
def tgB (N : List Str) (sc : Scope) (fn : Str → Bool) : CP → Expr → Bool
  | .one i, e => tgtB N sc fn i e
  | .many is, .Tuple es _ _ => tgtsB N sc fn is es
  | _, _ => false
def fnBlk (scope : Scope) : Str → Bool := fun x => scope.names.lookup x == some .cell
def notIsa : Blt → Bool
  | .isa _ => false
  | _ => true
mutual
def chkE : Nat → Sta → CE → Expr → Option Tag
  | 0, _, _, _ => none
  | k + 1, S, c, e => match c, e with
  | .var i, .Name x _ => grd (decide (S.N[i]? = some x) && visB S.sc x && okName x) (if i ∈ S.ω then .B else .F)
  | .con y, .Name x _ => grd (decide (x = y) && glB S.sc x && decide (x ∈ S.cons) && okName x) .N
  | .non, .Constant .none _ _ => some .N
  | .bl b, .Constant (.bool c) _ _ => grd (b == c) .N
  | .int b, .Constant (.int c) _ _ => grd (decide (b = c)) .N
  | .str b, .Constant (.str c) _ _ => grd (decide (b = c)) .N
  | .bin op a b, .BinOp x o y _ => grd (decide (o = op) && binB op && (chkE k S a x).isSome && (chkE k S b y).isSome) .N
  | .neg a, .UnaryOp .USub x _ => grd (chkE k S a x).isSome .N
  | .not a, .UnaryOp .Not x _ => grd (chkE k S a x).isSome .N
  | .cmp op a b, .Compare x [o] [y] _ => grd (decide (o = op) && cmpB op && notSet y && (chkE k S a x).isSome && (chkE k S b y).isSome) .N
  | .isN a, .Compare x [.Is] [.Constant .none _ _] _ => grd (chkE k S a x).isSome .N
  | .notN a, .Compare x [.IsNot] [.Constant .none _ _] _ => grd (chkE k S a x).isSome .N
  | .and a b, .BoolOp .And (x :: y :: []) _ => if (chkE k S a x).isSome then chkE k S b y else none
  | .and a b, .BoolOp .And (x :: y :: z :: r) pos => if (chkE k S a x).isSome then chkE k S b (.BoolOp .And (y :: z :: r) pos) else none
  | .or a b, .BoolOp .Or (x :: y :: []) _ => if (chkE k S a x).isSome then chkE k S b y else none
  | .or a b, .BoolOp .Or (x :: y :: z :: r) pos => if (chkE k S a x).isSome then chkE k S b (.BoolOp .Or (y :: z :: r) pos) else none
  | .ite c a b, .IfExp x y z _ => grd (chkT k S c x && embB (chkE k S a y) && embB (chkE k S b z)) .F
  | .tup xs, .Tuple es _ _ => grd (chkEs k S true xs es && decide (xs.len ≤ 1000)) .N
  | .lst xs, .List es _ => grd (chkEs k S true xs es && decide (xs.len ≤ 1000)) .N
  | .idx a i, .Subscript x y _ => grd (!isSlice y && (chkE k S a x).isSome && (chkE k S i y).isSome) .F
  | .slc a lo hi, .Subscript x (.Slice l h none _) _ => grd ((chkE k S a x).isSome && chkO k S lo l && chkO k S hi h) .N
  | .call f n xs, .Call (.Name x _) (e :: es) [] _ => grd (decide (x = f) && decide ((f, n) ∈ S.fns) && glB S.sc x && okName x && chkEs k S true xs (e :: es)) (tg n)
  | .callB f n xs, .Call (.Name x _) (e :: es) [] _ => grd (decide (x = f) && decide ((f, n) ∈ S.fns) && glB S.sc x && okName x && chkEs k S false xs (e :: es)) .N
  | .blt b xs, .Call (.Name x _) (e :: es) [] _ => grd (decide (x = b.nm) && bltB S x && chkEs k S false xs (e :: es) && notIsa b) .N
  | .isa t a, .Call (.Name x _) [e, .Name y _] [] _ => grd (decide (x = "isinstance") && bltB S x && decide (y = t.nm) && bltB S y && notStar e && (chkE k S a e).isSome) .N
  | .comp elt tg it ifs own, .ListComp x [⟨t, i, cs, 0⟩] scope _ =>
      grd (blkC S.N S.sc scope own && decide (∀ j ∈ tg.slots, j ∈ own.map (·.2)) && chkI k S it i && tgB S.N (relS scope S.sc) (fnBlk scope) tg t && chkC k { S with sc := relS scope S.sc, ω := drps S.ω tg.slots } ifs cs && embB (chkE k { S with sc := relS scope S.sc, ω := drps S.ω tg.slots } elt x)) .N
  | _, _ => none
/-- a list of expressions; em: each is to be kept -/
def chkEs : Nat → Sta → Bool → CEs → List Expr → Bool
  | 0, _, _, _, _ => false
  | k + 1, S, em, cs, es => match cs, es with
    | .nil, [] => true
    | .cons c cs, e :: es => notStar e && (if em then embB (chkE k S c e) else (chkE k S c e).isSome) && chkEs k S em cs es
    | _, _ => false
def chkO : Nat → Sta → CO → Option Expr → Bool
  | 0, _, _, _ => false
  | k + 1, S, c, o => match c, o with
    | .none, none => true
    | .some c, some e => (chkE k S c e).isSome
    | _, _ => false
def chkC : Nat → Sta → CO → List Expr → Bool
  | 0, _, _, _ => false
  | k + 1, S, c, o => match c, o with
    | .none, [] => true
    | .some c, [e] => chkT k S c e
    | _, _ => false
def chkI : Nat → Sta → CI → Expr → Bool
  | 0, _, _, _ => false
  | k + 1, S, c, e => match c, e with
    | .range1 a, .Call (.Name x _) [e] [] _ => decide (x = "range") && bltB S x && notStar e && (chkE k S a e).isSome
    | .range2 a b, .Call (.Name x _) [e, e'] [] _ => decide (x = "range") && bltB S x && notStar e && notStar e' && (chkE k S a e).isSome && (chkE k S b e').isSome
    | .rev1 a, .Call (.Name y _) [.Call (.Name x _) [e] [] _] [] _ => decide (y = "reversed") && bltB S y && decide (x = "range") && bltB S x && notStar e && (chkE k S a e).isSome
    | .rev2 a b, .Call (.Name y _) [.Call (.Name x _) [e, e'] [] _] [] _ => decide (y = "reversed") && bltB S y && decide (x = "range") && bltB S x && notStar e && notStar e' && (chkE k S a e).isSome && (chkE k S b e').isSome
    | .val c, e => notSet e && embB (chkE k S c e)
    | _, _ => false
/-- as a test -/
def chkT : Nat → Sta → CE → Expr → Bool
  | 0, _, _, _ => false
  | k + 1, S, c, e => match c, e with
    | .not a, .UnaryOp .Not x _ => chkT k S a x
    | .cmp op a b, .Compare x [o] [y] _ => decide (o = op) && cmpB op && notSet y && (chkE k S a x).isSome && (chkE k S b y).isSome
    | .isN a, .Compare x [.Is] [.Constant .none _ _] _ => (chkE k S a x).isSome
    | .notN a, .Compare x [.IsNot] [.Constant .none _ _] _ => (chkE k S a x).isSome
    | .and a b, .BoolOp .And (x :: y :: []) _ => chkT k S a x && chkT k S b y
    | .and a b, .BoolOp .And (x :: y :: z :: r) pos => chkT k S a x && chkT k S b (.BoolOp .And (y :: z :: r) pos)
    | .or a b, .BoolOp .Or (x :: y :: []) _ => chkT k S a x && chkT k S b y
    | .or a b, .BoolOp .Or (x :: y :: z :: r) pos => chkT k S a x && chkT k S b (.BoolOp .Or (y :: z :: r) pos)
    | c, e => valB e && (chkE k S c e).isSome
end
end Ev
set_option maxHeartbeats 4000000
/-! EvM: a text that looks like the code does what the code gives: expressions. -/
namespace Ev
open PySem PySem.Spec PyProof.Rows L2
structure Good (S : Sta) (Φ : PhiT) (G : GT) (X : Cx) (Z : WX) : Prop where
  hN : X.N = S.N
  nd : X.N.Nodup
  hsc : X.env.scope = S.sc
  calm : X.calm = true
  tk : Takes X Z
  hu : X.A.units + 64 < cLine
  fns : ∀ p ∈ S.fns, FOK X G p.1 p.2 (Φ p.1)
  cons : ∀ x ∈ S.cons, ∃ v u d, X.mg x = some u ∧ RelV v u ∧ (∀ H, Rep X.K H v d) ∧ d.cont = false ∧ Φ x [] = .ok d
  blt : ∀ x ∈ S.blt, X.mg x = none
theorem star_ok {e : Expr} (h : notStar e = true) (es : List Expr) (env : PySem.Env) : starEach (e :: es) env = (false, eval e env) :: starEach es env := by
  cases e <;> first | rfl | cases h
section
variable {S : Sta} {Φ : PhiT} {G : GT} {X : Cx} {Z : WX}
theorem Good.gl (g : Good S Φ G X Z) {x : Str} (h : glB S.sc x = true) : Gl X x := by
  show X.env.scope.names.lookup x = _
  rw [g.hsc]
  exact of_decide_eq_true h
theorem Good.vis (g : Good S Φ G X Z) {x : Str} (h : visB S.sc x = true) : Vis X.env.scope x := by
  rw [g.hsc]
  simp only [visB, kindB, Bool.or_eq_true, decide_eq_true_eq] at h
  rcases h with (h | h) | h
  · exact .inl h
  · exact .inr (.inl h)
  · exact .inr (.inr h)
theorem okName_ok {x : Str} (h : okName x = true) : (x == ("__debug__" : Str)) = false ∧ (x == ("__classdict__" : Str)) = false := by
  simpa [okName] using h
theorem Good.bltn (g : Good S Φ G X Z) {x : Str} (h : bltB S x = true) : Gl X x ∧ X.mg x = none := by
  simp only [bltB, Bool.and_eq_true, decide_eq_true_eq] at h
  exact ⟨g.gl h.1, g.blt x h.2⟩
theorem mark_ok {op : CmpOp} {e : Expr} (h : notSet e = true) : behindInMarks op e = false := by
  cases e <;> first | rfl | cases h
theorem fold_ok {e : Expr} (h : notSet e = true) (env : PySem.Env) (x : Value) : foldedSetIterable e env x = pure x := by
  cases e <;> first | rfl | cases h
theorem ix_ok {e : Expr} (h : isSlice e = false) : PlainIx e := by
  cases e <;> first | (intro _ _; rfl) | cases h
theorem val_ok {e : Expr} (h : valB e = true) (env : PySem.Env) (whole : Sem Value) : isTrue e env whole = (do let v ← whole; standAt e.pos; holding [v] (truthy v)) := by
  cases e <;> first | rfl | cases h
theorem op_cmpAll (hu : X.A.units + 64 < cLine) (op : CmpOp) (h : cmpB op = true) : OpR X (compareOp op) (rD2 X.K (dCmp op)) := by
  have h := of_decide_eq_true h
  rcases h with h | h | h | h | h | h | h | h
  · exact op_dCmp hu op (.inl h)
  · exact op_dCmp hu op (.inr (.inl h))
  · exact op_dCmp hu op (.inr (.inr (.inl h)))
  · exact op_dCmp hu op (.inr (.inr (.inr (.inl h))))
  · exact op_dCmp hu op (.inr (.inr (.inr (.inr (.inl h)))))
  · exact op_dCmp hu op (.inr (.inr (.inr (.inr (.inr h)))))
  · subst h; exact (op_dIn hu).1
  · subst h; exact (op_dIn hu).2
/-- a target as it stands -/
theorem tgt_name {N : List Str} {sc : Scope} {fn : Str → Bool} {i : Nat} {e : Expr} (h : tgtB N sc fn i e = true) (hN : X.N = N) (hs : X.env.scope = sc) (hf : ∀ x, fn x = true → X.fn x = true) (nd : X.N.Nodup) : PG X e (gName i) := by
  cases e with
  | Name x pos =>
    simp only [tgtB, Bool.and_eq_true, Bool.or_eq_true, decide_eq_true_eq, kindB] at h
    refine pg_name nd (by rw [hN]; exact h.1) ?_ ?_
    · rw [hs]
      rcases h.2 with q | q
      · exact .inl q
      · exact .inr q.1
    · rcases h.2 with q | q
      · exact .inr (by rw [hs]; exact q)
      · exact .inl (hf x q.2)
  | _ => cases h
theorem tgts_ok {N : List Str} {sc : Scope} {fn : Str → Bool} (hN : X.N = N) (hs : X.env.scope = sc) (hf : ∀ x, fn x = true → X.fn x = true) (nd : X.N.Nodup) : ∀ (is : List Nat) (es : List Expr), tgtsB N sc fn is es = true →
    PGs X es (gNs is) ∧ (assignEach es X.env).length = is.length ∧ (assignEach es X.env).findIdx? (·.1) = none
  | [], [], _ => ⟨pgs_nil, rfl, rfl⟩
  | [], _ :: _, h => nomatch h
  | _ :: _, [], h => nomatch h
  | i :: is, e :: es, h => by
    rw [tgtsB, Bool.and_eq_true] at h
    obtain ⟨a, b, c⟩ := tgts_ok hN hs hf nd is es h.2
    have ea : assignEach (e :: es) X.env = (false, assign e X.env) :: assignEach es X.env := by
      have h1 := h.1
      cases e <;> first | rfl | cases h1
    refine ⟨pgs_cons (tgt_name h.1 hN hs hf nd) a (by rw [ea]; rfl), by rw [ea]; exact congrArg (· + 1) b, ?_⟩
    rw [ea, List.findIdx?_cons, c]
    rfl
theorem tg_ok {N : List Str} {sc : Scope} {fn : Str → Bool} {tg : CP} {e : Expr} (h : tgB N sc fn tg e = true) (hc : X.calm = true) (hN : X.N = N) (hs : X.env.scope = sc) (hf : ∀ x, fn x = true → X.fn x = true) (nd : X.N.Nodup) : PG X e (gOf X.K tg) := by
  cases tg with
  | one i => exact tgt_name h hN hs hf nd
  | many is =>
    cases e with
    | Tuple es k pos =>
      obtain ⟨a, b, c⟩ := tgts_ok hN hs hf nd is es h
      exact pg_tup hc a b c
    | _ => cases h
/-- a comprehension's block -/
theorem Good.blk (g : Good S Φ G X Z) (scope : Scope) (ω' : List Nat) (s : Shared) (H : Hp) (C : Addr) (cl : List (Str × Addr)) (fp : List Addr) :
    Good { S with sc := relS scope S.sc, ω := ω' } Φ G (X.blk s H scope (compEnvC scope cl C X.env) fp) Z0 where
  hN := g.hN
  nd := g.nd
  hsc := by
    show relabel scope X.env = relS scope S.sc
    rw [← g.hsc]
    rfl
  calm := g.calm
  tk := takes0
  hu := g.hu
  fns := fun p hp => let ⟨k, a, fd, ps, h⟩ := (g.fns p hp).ex; ⟨k, a, fd, ps, h⟩
  cons := fun x hx => g.cons x hx
  blt := fun x hx => g.blt x hx
theorem emb_ok {e : Expr} {f : Env → M D} {ω : List Nat} {o : Option Tag} (h : embB o = true) (hp : ∀ t, o = some t → PE X e (tE X.K G Z ω t f)) : PE X e (tE X.K G Z ω .F f) := by
  cases o with
  | none => cases h
  | some t =>
    cases t with
    | B => cases h
    | F => exact hp _ rfl
    | N => exact se_F (hp _ rfl)
theorem some_ok {e : Expr} {f : Env → M D} {ω : List Nat} {o : Option Tag} (h : o.isSome = true) (hp : ∀ t, o = some t → PE X e (tE X.K G Z ω t f)) : PE X e (tE X.K G Z ω .B f) := by
  cases o with
  | none => cases h
  | some t => exact se_B (hp _ rfl)
theorem back_ok {pos : Pos} {env : PySem.Env} : ∀ {es : List Expr}, (∀ e ∈ es, notStar e = true) → (backTo pos (starEach es env)).any (·.1) = false
  | [], _ => rfl
  | e :: es, h => by
    rw [star_ok (h e List.mem_cons_self) es env]
    show (false || (backTo pos (starEach es env)).any (·.1)) = false
    rw [Bool.false_or]
    exact back_ok fun e' h' => h e' (List.mem_cons_of_mem _ h')
theorem chkEs_star : ∀ {k : Nat} {em : Bool} {cs : CEs} {es : List Expr}, chkEs k S em cs es = true → ∀ e ∈ es, notStar e = true
  | 0, _, _, _, h => nomatch h
  | k + 1, em, cs, es, h => by
    intro e he
    unfold chkEs at h
    cases cs with
    | nil => cases es with
      | nil => cases he
      | cons _ _ => cases h
    | cons c cs => cases es with
      | nil => cases he
      | cons e' es =>
        simp only [Bool.and_eq_true] at h
        rcases List.mem_cons.mp he with rfl | he
        · exact h.1.1
        · exact chkEs_star h.2 e he
theorem denEs_len : ∀ {cs : CEs} {env : Env} {ds : List D}, denEs Φ cs env = .ok ds → ds.length = cs.len
  | .nil, _, _, h => by cases h; rfl
  | .cons c cs, env, ds, h => by
    unfold denEs at h
    cases e1 : denE Φ c env with
    | stuck => rw [e1] at h; exact nomatch h
    | ex c ns fs => rw [e1] at h; exact nomatch h
    | ok d =>
      rw [e1] at h
      have h : (denEs Φ cs env >>= fun ds => M.ok (d :: ds)) = .ok ds := h
      cases e2 : denEs Φ cs env with
      | stuck => rw [e2] at h; exact nomatch h
      | ex c ns fs => rw [e2] at h; exact nomatch h
      | ok es =>
        rw [e2] at h
        cases h
        show es.length + 1 = cs.len + 1
        rw [denEs_len e2]
theorem asB_not (m : M D) : asB (asB m >>= fun c => .ok (.bl (!c))) = asB m >>= fun c => .ok (!c) := by
  cases m with
  | stuck => rfl
  | ex c ns fs => rfl
  | ok d => cases d <;> rfl
theorem asB_and (m m' : M D) : asB (asB m >>= fun c => if c then m' else .ok (.bl false)) = asB m >>= fun c => if c then asB m' else .ok false := by
  cases m with
  | stuck => rfl
  | ex c ns fs => rfl
  | ok d =>
    cases d with
    | bl b => cases b <;> rfl
    | _ => rfl
theorem asB_or (m m' : M D) : asB (asB m >>= fun c => if c then .ok (.bl true) else m') = asB m >>= fun c => if c then .ok true else asB m' := by
  cases m with
  | stuck => rfl
  | ex c ns fs => rfl
  | ok d =>
    cases d with
    | bl b => cases b <;> rfl
    | _ => rfl
theorem asB_cmp (m m' : M D) (g : D → D → Option Bool) : asB (m >>= fun x => m' >>= fun y => ofO (dB (g x y))) = m >>= fun x => m' >>= fun y => ofO (g x y) := by
  cases m with
  | stuck => rfl
  | ex c ns fs => rfl
  | ok d =>
    cases m' with
    | stuck => rfl
    | ex c ns fs => rfl
    | ok e =>
      show asB (ofO (dB (g d e))) = ofO (g d e)
      cases g d e <;> rfl
end
end Ev
set_option maxHeartbeats 8000000
/-! EvN: the look at expressions is sound. -/
namespace Ev
open PySem PySem.Spec PyProof.Rows L2
def SE (Φ : PhiT) (G : GT) (k : Nat) : Prop := ∀ {S : Sta} {X : Cx} {Z : WX}, Good S Φ G X Z → ∀ {c : CE} {e : Expr} {t : Tag}, chkE k S c e = some t → PE X e (tE X.K G Z S.ω t (denE Φ c))
def SEs (Φ : PhiT) (G : GT) (k : Nat) : Prop := ∀ {S : Sta} {X : Cx} {Z : WX}, Good S Φ G X Z → ∀ {em : Bool} {c : CEs} {e : List Expr}, chkEs k S em c e = true → PA X e (tEs X.K G Z S.ω (if em then .F else .B) (denEs Φ c))
def SO (Φ : PhiT) (G : GT) (k : Nat) : Prop := ∀ {S : Sta} {X : Cx} {Z : WX}, Good S Φ G X Z → ∀ {c : CO} {e : Option Expr}, chkO k S c e = true → PO X e (tEo X.K G Z S.ω (denO Φ c))
def SC (Φ : PhiT) (G : GT) (k : Nat) : Prop := ∀ {S : Sta} {X : Cx} {Z : WX}, Good S Φ G X Z → ∀ {c : CO} {e : List Expr}, chkC k S c e = true → PTs X e (tEb X.K G Z S.ω (denC Φ c))
def SI (Φ : PhiT) (G : GT) (k : Nat) : Prop := ∀ {S : Sta} {X : Cx} {Z : WX}, Good S Φ G X Z → ∀ {c : CI} {e : Expr} (tg : Expr), chkI k S c e = true → PI X tg e (tI X.K G Z S.ω (denI Φ c)) ∧ notSet e = true
def ST (Φ : PhiT) (G : GT) (k : Nat) : Prop := ∀ {S : Sta} {X : Cx} {Z : WX}, Good S Φ G X Z → ∀ {c : CE} {e : Expr}, chkT k S c e = true → PT X e (tEb X.K G Z S.ω fun env => asB (denE Φ c env))
theorem PTsi {X : Cx} {e : List Expr} {t t' : TT} (h : PTs X e t) (hi : ∀ σ H Q, t' σ H Q → t σ H Q) : PTs X e t' := ⟨fun pins s σ H Q I q => h.run pins s σ H Q I (hi σ H Q q)⟩
section
variable {Φ : PhiT} {G : GT} {k : Nat}
theorem sE (hE : SE Φ G k) (hEs : SEs Φ G k) (hO : SO Φ G k) (hC : SC Φ G k) (hI : SI Φ G k) (hT : ST Φ G k) : SE Φ G (k + 1) := by
  intro S X Z g c e t h
  have any : ∀ {c : CE} {e : Expr}, (chkE k S c e).isSome = true → ∃ t, PE X e (tE X.K G Z S.ω t (denE Φ c)) := fun {c e} hs => by
    cases q : chkE k S c e with
    | none => rw [q] at hs; cases hs
    | some t => exact ⟨t, hE g q⟩
  have emb : ∀ {c : CE} {e : Expr}, embB (chkE k S c e) = true → PE X e (tE X.K G Z S.ω .F (denE Φ c)) := fun {c e} hs => emb_ok hs fun t q => hE g q
  unfold chkE at h
  split at h
  · -- var
    obtain ⟨h1, rfl⟩ := grd_some h
    simp only [Bool.and_eq_true, decide_eq_true_eq] at h1
    obtain ⟨o1, o2⟩ := okName_ok h1.2
    exact se_var (by rw [g.hN]; exact h1.1.1) (g.vis h1.1.2) o1 o2
  · -- con
    rename_i y x pos
    obtain ⟨h1, rfl⟩ := grd_some h
    simp only [Bool.and_eq_true, decide_eq_true_eq] at h1
    obtain ⟨⟨⟨rfl, h2⟩, h3⟩, h4⟩ := h1
    obtain ⟨v, u, d, m1, m2, m3, m4, m5⟩ := g.cons _ h3
    have := se_con (G := G) (Z := Z) (ω := S.ω) (pe_glob (pos := pos) (g.gl h2) m1 m2 (okName_ok h4).1) m4 m3
    show PE X _ (tE X.K G Z S.ω .N fun _ => Φ x [])
    rw [m5]
    exact this
  · cases h; exact se_con pe_non rfl fun _ => .non
  · rename_i b c _ _
    obtain ⟨h1, rfl⟩ := grd_some h
    have e := beq_iff_eq.mp h1
    subst e
    exact se_con pe_bl rfl fun _ => .bl _
  · obtain ⟨h1, rfl⟩ := grd_some h
    have e := of_decide_eq_true h1
    subst e
    exact se_con pe_int rfl fun _ => .int _
  · obtain ⟨h1, rfl⟩ := grd_some h
    have e := of_decide_eq_true h1
    subst e
    exact se_con pe_str rfl fun _ => .str _
  · -- bin
    obtain ⟨h1, rfl⟩ := grd_some h
    simp only [Bool.and_eq_true, decide_eq_true_eq] at h1
    obtain ⟨⟨⟨rfl, h2⟩, h3⟩, h4⟩ := h1
    obtain ⟨t1, p1⟩ := any h3
    obtain ⟨t2, p2⟩ := any h4
    exact se_binop (of_decide_eq_true h2) p1 p2
  · obtain ⟨h1, rfl⟩ := grd_some h
    obtain ⟨t1, p1⟩ := any h1
    exact se_neg p1
  · obtain ⟨h1, rfl⟩ := grd_some h
    obtain ⟨t1, p1⟩ := any h1
    exact se_not p1
  · -- cmp
    obtain ⟨h1, rfl⟩ := grd_some h
    simp only [Bool.and_eq_true, decide_eq_true_eq] at h1
    obtain ⟨⟨⟨⟨rfl, h2⟩, h5⟩, h3⟩, h4⟩ := h1
    obtain ⟨t1, p1⟩ := any h3
    obtain ⟨t2, p2⟩ := any h4
    exact se_cmp (op_cmpAll g.hu _ h2) p1 p2 (mark_ok h5)
  · obtain ⟨h1, rfl⟩ := grd_some h
    obtain ⟨t1, p1⟩ := any h1
    exact se_isN p1
  · obtain ⟨h1, rfl⟩ := grd_some h
    obtain ⟨t1, p1⟩ := any h1
    exact se_notN p1
  · -- and
    split at h
    · rename_i h1
      obtain ⟨t1, p1⟩ := any h1
      exact se_and p1 (pe_one (hE g h))
    · cases h
  · split at h
    · rename_i h1
      obtain ⟨t1, p1⟩ := any h1
      exact se_and p1 (hE g h)
    · cases h
  · split at h
    · rename_i h1
      obtain ⟨t1, p1⟩ := any h1
      exact se_or p1 (pe_one (hE g h))
    · cases h
  · split at h
    · rename_i h1
      obtain ⟨t1, p1⟩ := any h1
      exact se_or p1 (hE g h)
    · cases h
  · -- ite
    obtain ⟨h1, rfl⟩ := grd_some h
    simp only [Bool.and_eq_true] at h1
    exact se_ite (hT g h1.1.1) (emb h1.1.2) (emb h1.2)
  · obtain ⟨h1, rfl⟩ := grd_some h
    simp only [Bool.and_eq_true, decide_eq_true_eq] at h1
    exact se_tup (hEs g h1.1) fun env ds q => by rw [denEs_len q, sizeLine_eq]; omega
  · obtain ⟨h1, rfl⟩ := grd_some h
    simp only [Bool.and_eq_true, decide_eq_true_eq] at h1
    exact se_lst (hEs g h1.1) fun env ds q => by rw [denEs_len q, sizeLine_eq]; omega
  · obtain ⟨h1, rfl⟩ := grd_some h
    simp only [Bool.and_eq_true, Bool.not_eq_true'] at h1
    obtain ⟨t1, p1⟩ := any h1.1.2
    obtain ⟨t2, p2⟩ := any h1.2
    exact se_idx p1 p2 (ix_ok h1.1.1)
  · obtain ⟨h1, rfl⟩ := grd_some h
    simp only [Bool.and_eq_true] at h1
    obtain ⟨t1, p1⟩ := any h1.1.1
    exact se_slc p1 (hO g h1.1.2) (hO g h1.2)
  · -- call
    obtain ⟨h1, rfl⟩ := grd_some h
    simp only [Bool.and_eq_true, decide_eq_true_eq] at h1
    obtain ⟨⟨⟨⟨rfl, h2⟩, h3⟩, h4⟩, h5⟩ := h1
    have hs := chkEs_star h5
    exact se_call (g.fns _ h2) g.tk (g.gl h3) (hEs g h5) (okName_ok h4).1 (star_ok (hs _ List.mem_cons_self) _ _) (back_ok fun e' he' => hs e' (List.mem_cons_of_mem _ he'))
  · -- callB
    obtain ⟨h1, rfl⟩ := grd_some h
    simp only [Bool.and_eq_true, decide_eq_true_eq] at h1
    obtain ⟨⟨⟨⟨rfl, h2⟩, h3⟩, h4⟩, h5⟩ := h1
    have hs := chkEs_star h5
    exact se_callB (g.fns _ h2) g.tk (g.gl h3) (hEs g h5) (okName_ok h4).1 (star_ok (hs _ List.mem_cons_self) _ _) (back_ok fun e' he' => hs e' (List.mem_cons_of_mem _ he'))
  · -- blt
    rename_i b _ _ _ _ _ _
    obtain ⟨h1, rfl⟩ := grd_some h
    simp only [Bool.and_eq_true, decide_eq_true_eq] at h1
    obtain ⟨⟨⟨rfl, h2⟩, h3⟩, h4⟩ := h1
    have hs := chkEs_star h3
    obtain ⟨b1, b2⟩ := g.bltn h2
    exact se_blt rfl (fun t e => by rw [e] at h4; cases h4) g.calm b1 b2 (hEs g h3) (star_ok (hs _ List.mem_cons_self) _ _) (back_ok fun e' he' => hs e' (List.mem_cons_of_mem _ he'))
  · -- isa
    obtain ⟨h1, rfl⟩ := grd_some h
    simp only [Bool.and_eq_true, decide_eq_true_eq] at h1
    obtain ⟨⟨⟨⟨⟨rfl, h2⟩, h3⟩, h4⟩, h5⟩, h6⟩ := h1
    obtain ⟨t1, p1⟩ := any h6
    obtain ⟨b1, b2⟩ := g.bltn h2
    obtain ⟨b3, b4⟩ := g.bltn h4
    exact se_isa _ h3 b1 b2 b3 b4 p1 (star_ok h5 _ _)
  · -- comp
    rename_i elt tg it ifs own x t' i cs scope pos
    obtain ⟨h1, rfl⟩ := grd_some h
    simp only [Bool.and_eq_true, decide_eq_true_eq] at h1
    obtain ⟨⟨⟨⟨⟨h1, h2⟩, h3⟩, h4⟩, h5⟩, h6⟩ := h1
    obtain ⟨i1, i2⟩ := hI g t' h3
    refine se_comp (ω' := drps S.ω tg.slots) g.calm g.nd i1 (by rw [g.hN, g.hsc]; exact blkOk_by h1) h2 rfl (fun s H C cl fp => ?_) (fun s H C cl fp => ?_) (fun s H C cl fp => ?_) (fold_ok i2 X.env)
    · have gb := g.blk scope (drps S.ω tg.slots) s H C cl fp
      exact tg_ok h4 g.calm gb.hN gb.hsc (fun x hx => hx) gb.nd
    · exact hC (g.blk scope (drps S.ω tg.slots) s H C cl fp) h5
    · have gb := g.blk scope (drps S.ω tg.slots) s H C cl fp
      exact emb_ok h6 fun t q => hE gb q
  · cases h
theorem sEs (hE : SE Φ G k) (hEs : SEs Φ G k) : SEs Φ G (k + 1) := by
  intro S X Z g em c e h
  unfold chkEs at h
  split at h
  · exact sa_nil
  · simp only [Bool.and_eq_true] at h
    obtain ⟨⟨h1, h2⟩, h3⟩ := h
    cases em with
    | true => exact sa_consF (emb_ok h2 fun t q => hE g q) (hEs g h3) (star_ok h1 _ _)
    | false => exact sa_consB (some_ok h2 fun t q => hE g q) (hEs g h3) (star_ok h1 _ _)
  · cases h
theorem sO (hE : SE Φ G k) : SO Φ G (k + 1) := by
  intro S X Z g c e h
  unfold chkO at h
  split at h
  · exact so_none rfl
  · exact so_some (some_ok h fun t q => hE g q)
  · cases h
theorem sC (hT : ST Φ G k) : SC Φ G (k + 1) := by
  intro S X Z g c e h
  unfold chkC at h
  split at h
  · exact PTsi pts_nil fun σ H Q ⟨HB, HE, Hf, env, st, h⟩ => h Hf H (Grow.refl st.g.s)
  · exact pts_one (hT g h)
  · cases h
theorem sI (hE : SE Φ G k) : SI Φ G (k + 1) := by
  intro S X Z g c e tg h
  have any : ∀ {c : CE} {e : Expr}, (chkE k S c e).isSome = true → PE X e (tE X.K G Z S.ω .B (denE Φ c)) := fun {c e} hs => some_ok hs fun t q => hE g q
  unfold chkI at h
  split at h
  · simp only [Bool.and_eq_true, decide_eq_true_eq] at h
    obtain ⟨⟨⟨rfl, h2⟩, h3⟩, h4⟩ := h
    obtain ⟨b1, b2⟩ := g.bltn h2
    exact ⟨si_range1 b1 b2 (any h4) (star_ok h3 _ _), rfl⟩
  · simp only [Bool.and_eq_true, decide_eq_true_eq] at h
    obtain ⟨⟨⟨⟨⟨rfl, h2⟩, h3⟩, h3'⟩, h4⟩, h5⟩ := h
    obtain ⟨b1, b2⟩ := g.bltn h2
    exact ⟨si_range2 b1 b2 (any h4) (any h5) (by rw [star_ok h3, star_ok h3']; rfl) (star_ok h3' _ _), rfl⟩
  · simp only [Bool.and_eq_true, decide_eq_true_eq] at h
    obtain ⟨⟨⟨⟨⟨rfl, h2⟩, rfl⟩, h2'⟩, h3⟩, h4⟩ := h
    obtain ⟨b1, b2⟩ := g.bltn h2
    obtain ⟨b3, b4⟩ := g.bltn h2'
    exact ⟨si_rev1 b3 b4 b1 b2 (any h4) (star_ok h3 _ _), rfl⟩
  · simp only [Bool.and_eq_true, decide_eq_true_eq] at h
    obtain ⟨⟨⟨⟨⟨⟨⟨rfl, h2⟩, rfl⟩, h2'⟩, h3⟩, h3'⟩, h4⟩, h5⟩ := h
    obtain ⟨b1, b2⟩ := g.bltn h2
    obtain ⟨b3, b4⟩ := g.bltn h2'
    exact ⟨si_rev2 b3 b4 b1 b2 (any h4) (any h5) (by rw [star_ok h3, star_ok h3']; rfl) (star_ok h3' _ _), rfl⟩
  · simp only [Bool.and_eq_true] at h
    exact ⟨si_val (emb_ok h.2 fun t q => hE g q), h.1⟩
  · cases h
theorem sT (hE : SE Φ G k) (hT : ST Φ G k) : ST Φ G (k + 1) := by
  intro S X Z g c e h
  have any : ∀ {c : CE} {e : Expr}, (chkE k S c e).isSome = true → PE X e (tE X.K G Z S.ω .B (denE Φ c)) := fun {c e} hs => some_ok hs fun t q => hE g q
  unfold chkT at h
  split at h
  · rename_i a x pos
    have := st_not (pos := pos) (hT g h)
    simp only [denE, asB_not]
    exact this
  · simp only [Bool.and_eq_true, decide_eq_true_eq] at h
    obtain ⟨⟨⟨⟨rfl, h2⟩, h5⟩, h3⟩, h4⟩ := h
    simp only [denE, asB_cmp]
    exact st_cmp (op_cmpAll g.hu _ h2) (any h3) (any h4) (mark_ok h5)
  · exact st_isN (any h)
  · exact st_notN (any h)
  · simp only [Bool.and_eq_true] at h
    simp only [denE, asB_and]
    exact (sw_and (hT g h.1) (sw_and1 (hT g h.2))).pt
  · rename_i a b x y z r pos
    simp only [Bool.and_eq_true] at h
    simp only [denE, asB_and]
    refine (sw_and (hT g h.1) ⟨fun wh pins s σ H Q I q => ?_⟩).pt
    exact (hT g h.2).run pins s σ H Q I q
  · simp only [Bool.and_eq_true] at h
    simp only [denE, asB_or]
    exact (sw_or (hT g h.1) (sw_or1 (hT g h.2))).pt
  · rename_i a b x y z r pos
    simp only [Bool.and_eq_true] at h
    simp only [denE, asB_or]
    refine (sw_or (hT g h.1) ⟨fun wh pins s σ H Q I q => ?_⟩).pt
    exact (hT g h.2).run pins s σ H Q I q
  · simp only [Bool.and_eq_true] at h
    exact st_val (any h.2) (val_ok h.1 X.env)
theorem s_all (Φ : PhiT) (G : GT) : ∀ k : Nat, SE Φ G k ∧ SEs Φ G k ∧ SO Φ G k ∧ SC Φ G k ∧ SI Φ G k ∧ ST Φ G k
  | 0 => by
    refine ⟨?_, ?_, ?_, ?_, ?_, ?_⟩
    · intro S X Z g c e t h; unfold chkE at h; cases h
    · intro S X Z g em c e h; unfold chkEs at h; cases h
    · intro S X Z g c e h; unfold chkO at h; cases h
    · intro S X Z g c e h; unfold chkC at h; cases h
    · intro S X Z g c e tg h; unfold chkI at h; cases h
    · intro S X Z g c e h; unfold chkT at h; cases h
  | k + 1 => by
    obtain ⟨a, b, c, d, e, f⟩ := s_all Φ G k
    exact ⟨sE a b c d e f, sEs a b, sO a, sC f, sI a, sT a f⟩
end
end Ev
set_option maxHeartbeats 4000000
/-! EvO: statements as code; the look at them; defs. -/
namespace Ev
open PySem PySem.Spec PyProof.Rows L2
mutual
inductive CS where
  | set (tg : CP) (e : CE) | setN (i : Nat) (e : CE)
  | app (i : Nat) (e : CE)
  | expr (e : CE)
  | ite (c : CE) (a b : CSs)
  | for (tg : CP) (it : CI) (body : CSs)
  | while (c : CE) (body : CSs)
  | ret (e : CE) | retO (i : Nat) | retN | pass | cont
inductive CSs where
  | nil | cons (s : CS) (r : CSs)
  | freeze (is : List Nat) (r : CSs)
  | forget (is : List Nat) (r : CSs)
end
/-- one turn of a for: the target's slots, then the body -/
def stepF (tg : CP) (g : Env → Fl) (d : D) (env : Env) : Fl := (ofE (ofO (bindP tg d env))).seq g
theorem stepF_one (i : Nat) (g : Env → Fl) (d : D) (env : Env) : stepF (.one i) g d env = g (env.set i (some d)) := rfl
theorem stepF_two (i j : Nat) (g : Env → Fl) (d e : D) (env : Env) : stepF (.many [i, j]) g (.tup [d, e]) env = g ((env.set i (some d)).set j (some e)) := rfl
theorem stepF_three (i j k : Nat) (g : Env → Fl) (d e f : D) (env : Env) : stepF (.many [i, j, k]) g (.tup [d, e, f]) env = g (((env.set i (some d)).set j (some e)).set k (some f)) := rfl
mutual
def denS (Φ : PhiT) (n : Nat) : CS → Env → Fl
  | .set tg e => fun env => ofM (denE Φ e env) fun d => ofE (ofO (bindP tg d env))
  | .setN i e => fun env => ofM (denE Φ e env) fun d => .nx (env.set i (some d))
  | .app i e => fun env => match env[i]? with
    | some (some (.lst xs)) => ofM (denE Φ e env) fun d => if fits (xs.length + 1) then .nx (env.set i (some (.lst (xs ++ [d])))) else .stuck
    | _ => .stuck
  | .expr e => fun env => ofM (denE Φ e env) fun _ => .nx env
  | .ite c a b => fun env => match asB (denE Φ c env) with
    | .ok true => denSs Φ n a env
    | .ok false => denSs Φ n b env
    | .stuck => .stuck
    | .ex c ns fs => .ex c ns fs
  | .for tg it body => fun env => match denI Φ it env with
    | .ok ds => forL (stepF tg (denSs Φ n body)) ds env
    | .stuck => .stuck
    | .ex c ns fs => .ex c ns fs
  | .while c body => fun env => whileL (fun env => asB (denE Φ c env)) (denSs Φ n body) n env
  | .ret e => fun env => ofM (denE Φ e env) .rt
  | .retO i => fun env => ofM (denV i env) .rt
  | .retN => fun _ => .rt .non
  | .pass => fun env => .nx env
  | .cont => fun env => .ct env
def denSs (Φ : PhiT) (n : Nat) : CSs → Env → Fl
  | .nil => fun env => .nx env
  | .cons s r => fun env => (denS Φ n s env).seq (denSs Φ n r)
  | .freeze _ r => denSs Φ n r
  | .forget is r => fun env => denSs Φ n r (wipeD env is)
end
/-! ### the look -/
def notTup : Expr → Bool
  | .Tuple .. => false
  | _ => true
def isComp : Expr → Bool
  | .ListComp .. => true
  | _ => false
def subB (a b : List Nat) : Bool := decide (∀ j ∈ a, j ∈ b)
/-- the store of a comprehension to a name stands within its frame -/
def swapB (sc : Scope) (y : Str) (py : Pos) : Expr → Bool
  | .ListComp _ _ scope pos => kindB sc y .local && (py.line == pos.line) && !(scope.names.any fun (n, k) => n == y && (k == .local || k == .cell))
  | _ => false
def inter (a b : List Nat) : List Nat := a.filter fun j => decide (j ∈ b)
def chkTag (t : Option Tag) (n : Bool) : Bool := if n then decide (t = some .N) else embB t
mutual
def chkS : Nat → Sta → List Nat → Bool → CS → Stmt → Option (List Nat)
  | 0, _, _, _, _, _ => none
  | k + 1, S, ωc, n, c, s => match c, s with
    | .set (.one i) e, .Assign [.Name y py] x _ => grd (decide (S.N[i]? = some y) && (kindB S.sc y .local || kindB S.sc y .cell) && embB (chkE k S e x) && (notComp x || swapB S.sc y py x || (isComp x && kindB S.sc y .cell))) (drp S.ω i)
    | .set (.many is) e, .Assign [.Tuple es kk pp] x _ => grd (tgB S.N S.sc (fun _ => true) (.many is) (.Tuple es kk pp) && embB (chkE k S e x) && notComp x && notTup x) (drps S.ω is)
    | .setN i e, .Assign [.Name y py] x _ => grd (decide (S.N[i]? = some y) && (kindB S.sc y .local || kindB S.sc y .cell) && decide (chkE k S e x = some .N) && (notComp x || swapB S.sc y py x || (isComp x && kindB S.sc y .cell))) (i :: drp S.ω i)
    | .app i e, .Expr (.Call (.Attribute (.Name x _) a ap) [y] [] cp) _ => grd (decide (S.N[i]? = some x) && visB S.sc x && okName x && decide (i ∈ S.ω) && decide (a = "append") && (ap.endLine == cp.line) && notStar y && embB (chkE k S e y)) S.ω
    | .expr e, .Expr x _ => grd ((chkE k S e x).isSome && notComp x) S.ω
    | .ite c a b, .If x ss ss' _ => if chkT k S c x then (match chkSs k S ωc n a ss, chkSs k S ωc n b ss' with
      | some w1, some w2 => some (inter w1 w2)
      | _, _ => none) else none
    | .for tg it body, .For t x ss [] _ => if chkI k S it x && tgB S.N S.sc (fun _ => true) tg t && decide (∀ j ∈ S.ω, j ∉ tg.slots) then (match chkSs k { S with ω := drps S.ω tg.slots } S.ω n body ss with
      | some w => grd (subB S.ω w) S.ω
      | none => none) else none
    | .while c body, .While x ss [] _ => if chkT k S c x then (match chkSs k S S.ω n body ss with
      | some w => grd (subB S.ω w) S.ω
      | none => none) else none
    | .ret e, .Return (some x) _ => grd (chkTag (chkE k S e x) n) S.ω
    | .retO i, .Return (some (.Name x _)) _ => grd (decide (S.N[i]? = some x) && visB S.sc x && okName x && decide (i ∈ S.ω) && n) S.ω
    | .retN, .Return none _ => some S.ω
    | .pass, .Pass _ => some S.ω
    | .cont, .Continue _ => grd (subB ωc S.ω) S.ω
    | _, _ => none
def chkSs : Nat → Sta → List Nat → Bool → CSs → List Stmt → Option (List Nat)
  | 0, _, _, _, _, _ => none
  | k + 1, S, ωc, n, c, ss => match c, ss with
    | .nil, [] => some S.ω
    | .cons c cs, s :: ss => match chkS k S ωc n c s with
      | some w => chkSs k { S with ω := w } ωc n cs ss
      | none => none
    | .freeze is cs, ss => chkSs k { S with ω := S.ω.filter fun j => !is.contains j } ωc n cs ss
    | .forget is cs, ss => chkSs k S ωc n cs ss
    | _, _ => none
end
/-! ### it is sound -/
structure GoodS (S : Sta) (Φ : PhiT) (G : GT) (X : Cx) (Z : WX) : Prop extends Good S Φ G X Z where
  po : PassesOwn (model X.prog X.w) X.A X.env X.xe
  fn : ∀ x, X.fn x = true
  kd : X.env.scope.kind = .function
theorem GoodS.omega {S : Sta} {Φ : PhiT} {G : GT} {X : Cx} {Z : WX} (g : GoodS S Φ G X Z) (w : List Nat) : GoodS { S with ω := w } Φ G X Z :=
  ⟨⟨g.hN, g.nd, g.hsc, g.calm, g.tk, g.hu, g.fns, g.cons, g.blt⟩, g.po, g.fn, g.kd⟩
theorem swap_no {e : Expr} (h : notComp e = true) (t : Option Expr) (l : Nat) (env : PySem.Env) : swapsWith e t l env = pure false := by
  cases e <;> first | rfl | cases h
theorem stores_no {e t : Expr} (h : notTup e = true) (env : PySem.Env) : swappedStores [t] e env = pure none := by
  cases t <;> first | rfl | (cases e <;> first | rfl | cases h)
section
variable {Φ : PhiT} {G : GT} {k : Nat}
theorem loc_of {sc : Scope} {x : Str} (h : (kindB sc x .local || kindB sc x .cell) = true) : Loc sc x := by
  simp only [kindB, Bool.or_eq_true, decide_eq_true_eq] at h
  exact h
theorem tE_F {K : PySem.W.Frag} {Z : WX} {ω : List Nat} {f : Env → M D} : ∀ σ H Q, tE K G Z ω .F f σ H Q → tE K G Z ω .N f σ H Q := fun σ H Q ⟨HB, HE, Hf, env, st, h⟩ =>
  ⟨HB, HE, Hf, env, st, by
    cases q : f env with
    | stuck => rw [q] at h; exact h
    | ex c ns fs => rw [q] at h; exact h
    | ok d =>
      rw [q] at h
      intro Hf1 H1 g v r
      obtain ⟨Hf2, g2, _, r2⟩ := r.freeze g
      exact h Hf2 H1 g2 v r2⟩
theorem chkE_comp {S : Sta} {c : CE} {e x : Expr} {gs : List Comprehension} {scope : Scope} {p2 : Pos} {t : Tag} (h : chkE (k + 1) S c e = some t) (he : e = .ListComp x gs scope p2) :
    ∃ elt tg it ifs own t1 i1 cs, c = .comp elt tg it ifs own ∧ gs = [⟨t1, i1, cs, 0⟩] ∧ t = .N ∧ (blkC S.N S.sc scope own && decide (∀ j ∈ CP.slots tg, j ∈ own.map (·.2)) && chkI k S it i1 && tgB S.N (relS scope S.sc) (fnBlk scope) tg t1 && chkC k { S with sc := relS scope S.sc, ω := drps S.ω tg.slots } ifs cs && embB (chkE k { S with sc := relS scope S.sc, ω := drps S.ω tg.slots } elt x)) = true := by
  unfold chkE at h
  split at h <;> first | (cases he; done) | skip
  · rename_i elt tg it ifs own x' t1 i1 cs scope' pos'
    cases he
    obtain ⟨h1, rfl⟩ := grd_some h
    exact ⟨elt, tg, it, ifs, own, t1, i1, cs, rfl, rfl, rfl, h1⟩
  · cases h
/-- a name is set, whatever stands at the right -/
theorem set_any {S : Sta} {X : Cx} {Z : WX} (g : GoodS S Φ G X Z) {i : Nat} {y : Str} {py pos : Pos} {c : CE} {x : Expr} {ω' ωc : List Nat} {n : Bool} {fl : Env → Fl} (hi : S.N[i]? = some y) (hl : (kindB S.sc y .local || kindB S.sc y .cell) = true)
    (hx : (notComp x || swapB S.sc y py x || (isComp x && kindB S.sc y .cell)) = true) {t : Tag} (hE : PE X x (tE X.K G Z S.ω t (denE Φ c))) (hk : chkE k S c x = some t ∨ (t = .F ∧ embB (chkE k S c x) = true))
    (hA : ∀ te, (∀ σ H Q, tE X.K G Z S.ω t (denE Φ c) σ H Q → te σ H Q) → ∀ D σ H, tS X.K G Z S.ω ω' ωc n fl D σ H → tAsg te (gName i) D σ H) :
    PS X (.Assign [.Name y py] x pos) (tS X.K G Z S.ω ω' ωc n fl) := by
  have hN : X.N[i]? = some y := by rw [g.hN]; exact hi
  have hL : Loc X.env.scope y := by rw [g.hsc]; exact loc_of hl
  have simple : swapsWith x (some (.Name y py)) pos.line X.env = pure false → PS X (.Assign [.Name y py] x pos) (tS X.K G Z S.ω ω' ωc n fl) := fun hs =>
    PSi (ps_set g.nd hN hL hE hs (.inl (g.fn y))) (hA _ fun _ _ _ q => q)
  simp only [Bool.or_eq_true, Bool.and_eq_true] at hx
  rcases hx with (hx | hx) | ⟨hx, hc⟩
  · exact simple (swap_no hx _ _ _)
  · -- the store within the comprehension's frame
    cases x with
    | ListComp x gs scope p2 =>
      simp only [swapB, Bool.and_eq_true, Bool.not_eq_true'] at hx
      have hloc : X.env.scope.names.lookup y = some .local := by rw [g.hsc]; exact of_decide_eq_true hx.1.1
      -- what the look says of the comprehension
      have hk' : ∃ t', chkE k S c (.ListComp x gs scope p2) = some t' := by
        rcases hk with h | ⟨_, h⟩
        · exact ⟨_, h⟩
        · cases q : chkE k S c (.ListComp x gs scope p2) with
          | none => rw [q] at h; cases h
          | some t' => exact ⟨t', rfl⟩
      obtain ⟨t', h'⟩ := hk'
      cases k with
      | zero => unfold chkE at h'; cases h'
      | succ k =>
        obtain ⟨sE, sEs, sO, sC, sI, sT⟩ := s_all Φ G k
        obtain ⟨elt, tg, it, ifs, own, t1, i1', cs, rfl, rfl, rfl, h1⟩ := chkE_comp h' rfl
        simp only [Bool.and_eq_true, decide_eq_true_eq] at h1
        obtain ⟨⟨⟨⟨⟨h1, h2⟩, h3⟩, h4⟩, h5⟩, h6⟩ := h1
        obtain ⟨i1, i2⟩ := sI g.toGood t1 h3
        refine PSi (ps_setLc (own := own) (g := gOf X.K tg) (tt := tEb X.K G Z0 (drps S.ω tg.slots) (denC Φ ifs)) (te := tE X.K G Z0 (drps S.ω tg.slots) .F (denE Φ elt)) g.calm g.nd hN hloc (sw_true g.kd hloc hx.1.2 hx.2) i1 (by rw [g.hN, g.hsc]; exact blkOk_by h1) (fun s H C cl fp => ?_) (fun s H C cl fp => ?_) (fun s H C cl fp => ?_) (fold_ok i2 X.env)) (hA _ ?_)
        · have gb := g.toGood.blk scope (drps S.ω tg.slots) s H C cl fp
          exact tg_ok h4 g.calm gb.hN gb.hsc (fun x hx => hx) gb.nd
        · exact sC (g.toGood.blk scope (drps S.ω tg.slots) s H C cl fp) h5
        · have gb := g.toGood.blk scope (drps S.ω tg.slots) s H C cl fp
          exact emb_ok h6 fun t q => sE gb q
        · intro σ H Q q
          refine tLc_ok h2 rfl σ H Q ?_
          rcases hk with h | ⟨rfl, _⟩
          · have : t = .N := Option.some.inj (h.symm.trans h')
            subst this
            exact q
          · exact tE_F σ H Q q
    | _ => cases hx
  · refine simple ?_
    cases x with
    | ListComp x gs scope p2 =>
      have hcl : X.env.kindOf y = some .cell := by
        show X.env.scope.names.lookup y = _
        rw [g.hsc]; exact of_decide_eq_true hc
      show (pure _ : Sem Bool) = pure false
      rw [hcl]
      congr 1
      rw [show ((some NameKind.cell == some NameKind.local) = false) from by decide, Bool.and_false, Bool.false_and, Bool.false_and]
    | _ => cases hx
end
end Ev
set_option maxHeartbeats 8000000
/-! EvP: the look at statements is sound; defs and the law. -/
namespace Ev
open PySem PySem.Spec PyProof.Rows L2
def SS1 (Φ : PhiT) (G : GT) (m k : Nat) : Prop := ∀ {S : Sta} {X : Cx} {Z : WX}, GoodS S Φ G X Z → ∀ {ωc : List Nat} {n : Bool} {c : CS} {s : Stmt} {w : List Nat}, chkS k S ωc n c s = some w → PS X s (tS X.K G Z S.ω w ωc n (denS Φ m c))
def SSs (Φ : PhiT) (G : GT) (m k : Nat) : Prop := ∀ {S : Sta} {X : Cx} {Z : WX}, GoodS S Φ G X Z → ∀ {ωc : List Nat} {n : Bool} {c : CSs} {s : List Stmt} {w : List Nat}, chkSs k S ωc n c s = some w → PSs X s (tS X.K G Z S.ω w ωc n (denSs Φ m c))
theorem inter_l {a b : List Nat} : ∀ j ∈ inter a b, j ∈ a := fun j h => (List.mem_filter.mp h).1
theorem inter_r {a b : List Nat} : ∀ j ∈ inter a b, j ∈ b := fun j h => of_decide_eq_true (List.mem_filter.mp h).2
theorem subB_ok {a b : List Nat} (h : subB a b = true) : ∀ j ∈ a, j ∈ b := of_decide_eq_true h
section
variable {Φ : PhiT} {G : GT} {m k : Nat}
theorem sS1 (hS : SSs Φ G m k) : SS1 Φ G m (k + 1) := by
  intro S X Z g ωc n c s w h
  obtain ⟨sE, sEs, sO, sC, sI, sT⟩ := s_all Φ G k
  unfold chkS at h
  split at h
  · -- set a name
    rename_i i e y py x pos
    obtain ⟨h1, rfl⟩ := grd_some h
    simp only [Bool.and_eq_true, decide_eq_true_eq] at h1
    obtain ⟨⟨⟨h1, h2⟩, h3⟩, h4⟩ := h1
    exact set_any (k := k) (t := .F) g h1 h2 h4 (emb_ok h3 fun t q => sE g.toGood q) (.inr ⟨rfl, h3⟩) fun te ht D σ H q => ht σ H _ (tAsgF (tgt := .one i) D σ H q)
  · -- set several
    rename_i is e es kk pp x pos
    obtain ⟨h1, rfl⟩ := grd_some h
    simp only [Bool.and_eq_true] at h1
    obtain ⟨⟨⟨h1, h2⟩, h3⟩, h4⟩ := h1
    exact ss_set (tgt := .many is) (emb_ok h2 fun t q => sE g.toGood q) (tg_ok h1 g.calm g.hN g.hsc (fun x _ => g.fn x) g.nd) (show swapsWith x (some (.Tuple es kk pp)) pos.line X.env = pure false from swap_no h3 _ _ _) (stores_no h4 _) rfl
  · rename_i i e y py x pos
    obtain ⟨h1, rfl⟩ := grd_some h
    simp only [Bool.and_eq_true, decide_eq_true_eq] at h1
    obtain ⟨⟨⟨h1, h2⟩, h3⟩, h4⟩ := h1
    exact set_any (k := k) (t := .N) g h1 h2 h4 (sE g.toGood h3) (.inl h3) fun te ht D σ H q => ht σ H _ (tAsgN D σ H q)
  · -- append
    rename_i i e x pp a ap y cp pos
    obtain ⟨h1, rfl⟩ := grd_some h
    simp only [Bool.and_eq_true, decide_eq_true_eq] at h1
    obtain ⟨⟨⟨⟨⟨⟨⟨h1, h2⟩, h3⟩, h4⟩, rfl⟩, h6⟩, h7⟩, h8⟩ := h1
    obtain ⟨o1, o2⟩ := okName_ok h3
    refine ss_app (by rw [g.hN]; exact h1) (g.vis h2) o1 o2 h4 (emb_ok h8 fun t q => sE g.toGood q) rfl ?_ h6 (star_ok h7 _ _) (swap_no rfl _ _ _)
    rw [star_ok h7]
    rfl
  · obtain ⟨h1, rfl⟩ := grd_some h
    simp only [Bool.and_eq_true] at h1
    exact ss_expr (some_ok h1.1 fun t q => sE g.toGood q) (swap_no h1.2 _ _ _)
  · -- if
    split at h
    · rename_i hc
      split at h
      · rename_i w1 w2 e1 e2
        cases h
        exact ss_if (sT g.toGood hc) (ss_weak (hS g e1) inter_l fun _ q => q) (ss_weak (hS g e2) inter_r fun _ q => q)
      · cases h
    · cases h
  · -- for
    rename_i tg it body t x ss pos
    split at h
    · rename_i hc
      simp only [Bool.and_eq_true, decide_eq_true_eq] at hc
      obtain ⟨⟨h1, h2⟩, h3⟩ := hc
      split at h
      · rename_i w1 e1
        obtain ⟨h4, rfl⟩ := grd_some h
        obtain ⟨i1, i2⟩ := sI g.toGood t h1
        exact ss_for (tgt := tg) g.po g.calm i1 (tg_ok h2 g.calm g.hN g.hsc (fun x _ => g.fn x) g.nd) h3 (ss_weak (hS (g.omega (drps S.ω tg.slots)) e1) (subB_ok h4) fun _ q => q) (fold_ok i2 X.env)
      · cases h
    · cases h
  · split at h
    · rename_i hc
      split at h
      · rename_i w1 e1
        obtain ⟨h4, rfl⟩ := grd_some h
        exact ss_while g.po (sT g.toGood hc) (ss_weak (hS g e1) (subB_ok h4) fun _ q => q) m
      · cases h
    · cases h
  · -- return
    obtain ⟨h1, rfl⟩ := grd_some h
    refine ss_ret ?_
    cases n with
    | true => exact sE g.toGood (of_decide_eq_true h1)
    | false => exact emb_ok h1 fun t q => sE g.toGood q
  · obtain ⟨h1, rfl⟩ := grd_some h
    simp only [Bool.and_eq_true, decide_eq_true_eq] at h1
    obtain ⟨⟨⟨⟨h1, h2⟩, h3⟩, h4⟩, rfl⟩ := h1
    obtain ⟨o1, o2⟩ := okName_ok h3
    exact ss_retO (by rw [g.hN]; exact h1) (g.vis h2) o1 o2 h4
  · cases h; exact ss_retN
  · cases h; exact ss_pass
  · obtain ⟨h1, rfl⟩ := grd_some h
    exact s1_weak ss_cont (fun _ q => q) (subB_ok h1)
  · cases h
theorem sSs (h1 : SS1 Φ G m k) (hS : SSs Φ G m k) : SSs Φ G m (k + 1) := by
  intro S X Z g ωc n c s w h
  unfold chkSs at h
  split at h
  · cases h; exact ss_nil
  · split at h
    · rename_i w1 e1
      exact ss_cons (h1 g e1) (hS (g.omega w1) h)
    · cases h
  · have t := hS (g.omega _) h
    exact ss_freeze t
  · have t := hS g h
    exact ss_forget t
  · cases h
theorem sS_all (Φ : PhiT) (G : GT) (m : Nat) : ∀ k : Nat, SS1 Φ G m k ∧ SSs Φ G m k
  | 0 => by
    constructor
    · intro S X Z g ωc n c s w h; unfold chkS at h; cases h
    · intro S X Z g ωc n c s w h; unfold chkSs at h; cases h
  | k + 1 => ⟨sS1 (sS_all Φ G m k).2, sSs (sS_all Φ G m k).1 (sS_all Φ G m k).2⟩
end
/-! ### defs -/
/-- a def as code: its names by slot, how many parameters, its body, whether what it hands back is nobody's -/
structure CF where
  N : List Str
  P : Nat
  body : CSs
  isN : Bool
def startD (n : Nat) (ds : List D) : Env := ds.map some ++ List.replicate (n - ds.length) none
def finF : Fl → M D
  | .nx _ => .ok .non
  | .rt d => .ok d
  | .ex c ns fs => .ex c ns fs
  | _ => .stuck
def denF (Φ : PhiT) (n : Nat) (c : CF) (ds : List D) : M D :=
  if ds.length = c.P then finF (denSs Φ n c.body (startD c.N.length ds)) else .stuck
theorem denF_eq {Φ : PhiT} {n : Nat} {c : CF} {ds : List D} (h : ds.length = c.P) : denF Φ n c ds = finF (denSs Φ n c.body (startD c.N.length ds)) := if_pos h
@[simp] theorem finF_nx (e : Env) : finF (.nx e) = .ok .non := rfl
@[simp] theorem finF_rt (d : D) : finF (.rt d) = .ok d := rfl
@[simp] theorem finF_ex (c ns fs) : finF (.ex c ns fs) = .ex c ns fs := rfl
/-- the whole look at a def of the text -/
def chkF (fns : List (Str × Bool)) (cons blt : List Str) (c : CF) (st : Stmt) : Bool :=
  let sc := defScope st
  (match sc.kind with | .function => true | _ => false) && !sc.isCoroutine && !sc.isGenerator && decide c.N.Nodup && decide (c.P ≤ c.N.length) && ((c.N.take c.P).all fun x => kindB sc x .local || kindB sc x .cell) && (sc.names.all fun y => decide (y.2 ≠ .free)) &&
  (chkSs 300 ⟨c.N, sc, [], fns, cons, blt⟩ [] c.isN c.body (defBody st)).isSome

section
variable {P : Program} {w : World} {K : PySem.W.Frag} {mg : Str → Option Value} {base : Heap}
/-- a def that stands behind the top, its promise and its level -/
structure FTa (P : Program) (w : World) (K : PySem.W.Frag) (mg : Str → Option Value) (base : Heap) (a : Addr) (fd : FuncData) (ps : List Str) (lvl : Nat) (x : Str) (n : Bool) (F : List D → M D) : Prop where
  ok : FnOk P w K mg base (L2.CX P w) lvl a fd ps (spP K mg n F)
  gl : mg x = some (.ref a)
  kp : PySem.W.keepIn K (.ref a) = true
  bd : Binds K fd ps []
structure FT (P : Program) (w : World) (K : PySem.W.Frag) (mg : Str → Option Value) (base : Heap) (lvl : Nat) (x : Str) (n : Bool) (F : List D → M D) : Prop where
  ex : ∃ a fd ps, FTa P w K mg base a fd ps lvl x n F
structure CT (K : PySem.W.Frag) (mg : Str → Option Value) (x : Str) (d : D) : Prop where
  ex : ∃ v u, mg x = some u ∧ RelV v u ∧ (∀ H, Rep K H v d) ∧ d.cont = false
theorem FT.mono {l l' : Nat} {x : Str} {n : Bool} {F : List D → M D} (h : FT P w K mg base l x n F) (hl : l ≤ l') : FT P w K mg base l' x n F :=
  let ⟨a, fd, ps, h1, h2, h3, h4⟩ := h.ex
  ⟨a, fd, ps, h1.mono hl, h2, h3, h4⟩
theorem FT.imp {l : Nat} {x : Str} {n : Bool} {F F' : List D → M D} (h : FT P w K mg base l x n F) (hF : ∀ ds, F' ds = .stuck ∨ F' ds = F ds) : FT P w K mg base l x n F' :=
  let ⟨a, fd, ps, h1, h2, h3, h4⟩ := h.ex
  ⟨a, fd, ps, h1.imp fun vs H Q E ⟨Hf, ds, s, r, q⟩ => ⟨Hf, ds, s, r, by
    rcases hF ds with e | e
    · rw [e] at q; exact q.elim
    · rw [e] at q; exact q⟩, h2, h3, h4⟩
theorem FTa.ft {a : Addr} {fd : FuncData} {ps : List Str} {l : Nat} {x : Str} {n : Bool} {F : List D → M D} (h : FTa P w K mg base a fd ps l x n F) : FT P w K mg base l x n F := ⟨a, fd, ps, h⟩
theorem FTa.mono {a : Addr} {fd : FuncData} {ps : List Str} {l l' : Nat} {x : Str} {n : Bool} {F : List D → M D} (h : FTa P w K mg base a fd ps l x n F) (hl : l ≤ l') : FTa P w K mg base a fd ps l' x n F := ⟨h.ok.mono hl, h.gl, h.kp, h.bd⟩
theorem kind_ok {k : ScopeKind} (h : (match k with | .function => true | _ => false) = true) : k = .function := by cases k <;> first | rfl | cases h
theorem start_rel {Hf H : Hp} {vs : List V} {ds : List D} {N : List Str} (s : Same Hf H) (r : Reps K Hf vs ds) (hl : ds.length ≤ N.length) : StRel K [] Hf H Hf H (L2.start N vs) (startD N.length ds) where
  g := Grow.refl s
  len := by unfold startD L2.start; simp only [List.length_append, List.length_map, List.length_replicate, r.length]
  own := fun i hi => nomatch hi
  inj := fun i hi => nomatch hi
  fz := fun i _ d e => by
    unfold startD at e
    unfold L2.start
    by_cases h : i < ds.length
    · rw [List.getElem?_append_left (by rw [List.length_map]; exact h), List.getElem?_map] at e
      cases q : ds[i]? with
      | none => rw [q] at e; exact nomatch e
      | some d' =>
        rw [q] at e
        cases e
        obtain ⟨v, h1, h2⟩ := r.get q
        exact ⟨v, by rw [List.getElem?_append_left (by rw [List.length_map, r.length]; exact h), List.getElem?_map, h1]; rfl, h2⟩
    · rw [List.getElem?_append_right (by rw [List.length_map]; omega), List.getElem?_replicate] at e
      split at e <;> cases e
theorem lookup_mem : ∀ {l : List (Str × NameKind)} {y : Str × NameKind}, y ∈ l → True := fun _ => trivial
/-- THE RULE of a def -/
theorem def_ok {x qual : Str} {st : Stmt} {f : Addr} {fd : FuncData} {fns : List (Str × Bool)} {cons blt : List Str} {c : CF} {lvl : Nat} (F : Fun K x qual st f fd) (hmg : mg x = some (.ref f)) (hc : chkF fns cons blt c st = true) (Φ : PhiT) (m : List D → Nat)
    (hf : ∀ p ∈ fns, FT P w K mg base lvl p.1 p.2 (Φ p.1)) (hk : ∀ y ∈ cons, ∃ d, CT K mg y d ∧ Φ y [] = .ok d) (hb : ∀ y ∈ blt, mg y = none)
    (bind : ∀ (kV doc pm : Value) (an : Option Addr) (cdv ct : Value) (us : List Value), us.length = (c.N.take c.P).length → bindArgs (PySem.W.fnOf x qual (defArgs st) (defBody st) (defScope st) .none kV doc pm an cdv ct) ⟨us, []⟩ = pure ((c.N.take c.P).zip us)) :
    FTa P w K mg base f fd (c.N.take c.P) (lvl + 1) x c.isN (fun ds => denF Φ (m ds) c ds) := by
  simp only [chkF, Bool.and_eq_true, decide_eq_true_eq, Bool.not_eq_true'] at hc
  obtain ⟨⟨⟨⟨⟨⟨⟨c1, c2⟩, c3⟩, c4⟩, c5⟩, c6⟩, c7⟩, c8⟩ := hc
  have hps : (c.N.take c.P).length = c.P := by rw [List.length_take]; omega
  have lenOf : ∀ vs H Q E, spP K mg c.isN (fun ds => denF Φ (m ds) c ds) vs H Q E → ∃ Hf ds, Same Hf H ∧ Reps K Hf vs ds ∧ ds.length = c.P ∧ EQ K mg (fun c d _ H' => E c d H') [] (PV K (tg c.isN) H Q) Hf H (denF Φ (m ds) c ds) := by
    intro vs H Q E ⟨Hf, ds, s, r, q⟩
    refine ⟨Hf, ds, s, r, ?_, q⟩
    by_cases e : ds.length = c.P
    · exact e
    · dsimp only at q
      unfold denF at q
      rw [if_neg e] at q
      exact q.elim
  refine ⟨?_, hmg, F.kp, F.binds bind⟩
  refine F.okX (N := c.N) ⟨kind_ok c1, c2, c3, c4, by rw [hps], fun y hy => ?_, fun y hy => ?_⟩ (fun vs H Q E h => ?_) (fun cdv A outer s H vs Q E hr h => ?_)
  · have := List.all_eq_true.mp c6 y hy
    simpa only [kindB, Bool.or_eq_true, decide_eq_true_eq] using this
  · have := List.all_eq_true.mp c7 y hy
    simpa only [decide_eq_true_eq] using this
  · obtain ⟨Hf, ds, _, r, e, _⟩ := lenOf vs H Q E h
    rw [r.length, e, hps]
  · obtain ⟨Hf, ds, s1, r, e, q⟩ := lenOf vs H Q E h
    cases hw : chkSs 300 ⟨c.N, defScope st, [], fns, cons, blt⟩ [] c.isN c.body (defBody st) with
    | none => rw [hw] at c8; cases c8
    | some w' =>
      have good : GoodS ⟨c.N, defScope st, [], fns, cons, blt⟩ Φ mg (cxOf (L2.CX P w) P w K mg base c.N qual (defScope st) f cdv A outer s H E) (fun cls d _ H' => E cls d H') :=
        { hN := rfl, nd := c4, hsc := rfl, calm := rfl, tk := takes_of rfl rfl rfl rfl, hu := by have := hr.un; show (A.deeper (envOfC qual (defScope st) s.heap.objs.size f cdv)).units + 64 < cLine; omega,
          fns := fun p hp => by
            obtain ⟨a, fd', ps', h1, h2, h3, h4⟩ := (hf p hp).ex
            exact ⟨lvl, a, fd', ps', h1, hr, h2, h3, h4⟩
          cons := fun y hy => by
            obtain ⟨d, ⟨v, u, h1, h2, h3, h4⟩, h5⟩ := hk y hy
            exact ⟨v, u, d, h1, h2, h3, h4, h5⟩
          blt := fun y hy => hb y hy
          po := passes_of rfl, fn := fun _ => rfl, kd := kind_ok c1 }
      refine ⟨_, (sS_all Φ mg (m ds) 300).2 good hw, Hf, H, Hf, startD c.N.length ds, start_rel s1 r (by omega), ?_⟩
      unfold denF at q
      rw [if_pos e] at q
      show FQ K mg (fun cls d _ H' => E cls d H') w' [] c.isN Hf H _ Hf (denSs Φ (m ds) c.body (startD c.N.length ds))
      cases hd : denSs Φ (m ds) c.body (startD c.N.length ds) with
      | stuck => rw [hd] at q; exact q.elim
      | nx env' =>
        rw [hd] at q
        intro σ' Hf' H' s' st'
        exact q Hf' H' st'.g .non (by cases c.isN; exact Rep.non; exact .inl ⟨rfl, .non⟩)
      | ct env' => rw [hd] at q; exact q.elim
      | rt d =>
        rw [hd] at q
        intro v Hf' H' g tr
        exact q Hf' H' g v tr
      | ex cc ns fs =>
        rw [hd] at q
        intro σ' cls dd Hf' H' g x
        exact q cls dd Hf' H' g x
/-- a def of which nothing is promised yet -/
theorem def_none {x qual : Str} {st : Stmt} {f : Addr} {fd : FuncData} {c : CF} (n : Bool) (F : Fun K x qual st f fd) (hmg : mg x = some (.ref f)) (lvl : Nat)
    (bind : ∀ (kV doc pm : Value) (an : Option Addr) (cdv ct : Value) (us : List Value), us.length = (c.N.take c.P).length → bindArgs (PySem.W.fnOf x qual (defArgs st) (defBody st) (defScope st) .none kV doc pm an cdv ct) ⟨us, []⟩ = pure ((c.N.take c.P).zip us)) :
    FTa P w K mg base f fd (c.N.take c.P) lvl x n (fun _ => .stuck) :=
  ⟨⟨fun vs H Q E ⟨Hf, ds, _, _, q⟩ => q.elim, fun A outer s H args us vs Q E hr he hb hv ⟨Hf, ds, _, _, q⟩ => q.elim⟩, hmg, F.kp, F.binds bind⟩
end
/-- a def that calls itself, so deep -/
def recF (Φ : PhiT) (x : Str) (m : Nat → List D → Nat) (c : CF) : Nat → List D → M D
  | 0 => fun _ => .stuck
  | k + 1 => fun ds => denF (fun y => if y = x then recF Φ x m c k else Φ y) (m k ds) c ds
section
variable {P : Program} {w : World} {K : PySem.W.Frag} {mg : Str → Option Value} {base : Heap}
theorem rec_ok {x qual : Str} {st : Stmt} {f : Addr} {fd : FuncData} {fns : List (Str × Bool)} {cons blt : List Str} {c : CF} {lvl : Nat} (F : Fun K x qual st f fd) (hmg : mg x = some (.ref f)) (hc : chkF ((x, c.isN) :: fns) cons blt c st = true) (Φ : PhiT) (m : Nat → List D → Nat)
    (hf : ∀ p ∈ fns, FT P w K mg base lvl p.1 p.2 (Φ p.1)) (hx : ∀ p ∈ fns, p.1 ≠ x) (hk : ∀ y ∈ cons, ∃ d, CT K mg y d ∧ Φ y [] = .ok d) (hkx : ∀ y ∈ cons, y ≠ x) (hb : ∀ y ∈ blt, mg y = none)
    (bind : ∀ (kV doc pm : Value) (an : Option Addr) (cdv ct : Value) (us : List Value), us.length = (c.N.take c.P).length → bindArgs (PySem.W.fnOf x qual (defArgs st) (defBody st) (defScope st) .none kV doc pm an cdv ct) ⟨us, []⟩ = pure ((c.N.take c.P).zip us)) :
    ∀ k, FTa P w K mg base f fd (c.N.take c.P) (lvl + k) x c.isN (recF Φ x m c k)
  | 0 => def_none (c := c) c.isN F hmg _ bind
  | k + 1 => by
    have ih := rec_ok F hmg hc Φ m hf hx hk hkx hb bind k
    refine def_ok (lvl := lvl + k) F hmg hc (fun y => if y = x then recF Φ x m c k else Φ y) (m k) (fun p hp => ?_) (fun y hy => ?_) hb bind
    · rcases List.mem_cons.mp hp with rfl | hp
      · show FT P w K mg base (lvl + k) x c.isN (if x = x then recF Φ x m c k else Φ x)
        rw [if_pos rfl]
        exact ih.ft
      · rw [if_neg (hx p hp)]
        exact (hf p hp).mono (Nat.le_add_right _ _)
    · obtain ⟨d, h1, h2⟩ := hk y hy
      exact ⟨d, h1, by rw [if_neg (hkx y hy)]; exact h2⟩
/-- its promise, the depth by the arguments -/
theorem FTa.any {a : Addr} {fd : FuncData} {ps : List Str} {lvl : Nat} {x : Str} {n : Bool} {Fs : Nat → List D → M D} (d : List D → Nat) {b : Nat} (h : ∀ k, k ≤ b → FTa P w K mg base a fd ps lvl x n (Fs k)) (hd : ∀ ds, d ds ≤ b) : FTa P w K mg base a fd ps lvl x n (fun ds => Fs (d ds) ds) :=
  ⟨⟨fun vs H Q E ⟨Hf, ds, s, r, q⟩ => (h (d ds) (hd ds)).ok.len vs H Q E ⟨Hf, ds, s, r, q⟩, fun A outer s H args us vs Q E hr he hb hv ⟨Hf, ds, s1, r, q⟩ => (h (d ds) (hd ds)).ok.run A outer s H args us vs Q E hr he hb hv ⟨Hf, ds, s1, r, q⟩⟩, (h 0 (Nat.zero_le _)).gl, (h 0 (Nat.zero_le _)).kp, (h 0 (Nat.zero_le _)).bd⟩
end
/-- what the defs that are called give -/
def phiOf : List (Str × (List D → M D)) → PhiT
  | [] => fun _ _ => .stuck
  | (n, F) :: r => fun x => if x = n then F else phiOf r x
theorem FTa.imp {P : Program} {w : World} {K : PySem.W.Frag} {mg : Str → Option Value} {base : Heap} {a : Addr} {fd : FuncData} {ps : List Str} {l : Nat} {x : Str} {n : Bool} {F F' : List D → M D} (h : FTa P w K mg base a fd ps l x n F) (hF : ∀ ds, F' ds = .stuck ∨ F' ds = F ds) : FTa P w K mg base a fd ps l x n F' :=
  ⟨h.ok.imp fun vs H Q E ⟨Hf, ds, s, r, q⟩ => ⟨Hf, ds, s, r, by
    rcases hF ds with e | e
    · rw [e] at q; exact q.elim
    · rw [e] at q; exact q⟩, h.gl, h.kp, h.bd⟩
/-- the script, as data -/
def scrD (ns : List Int) : D := .scr (ns.map D.int)
theorem reps_ints {K : PySem.W.Frag} {H : Hp} : ∀ ns : List Int, Reps K H (ns.map V.int) (ns.map D.int)
  | [] => .nil
  | _ :: r => .cons (.int _) (reps_ints r)
/-- the law's promise, where it gives True -/
theorem law_true {K : PySem.W.Frag} {mg : Str → Option Value} {F : List D → M D} {H : Hp} {a : Addr} {ns : List Int} (h : F [scrD ns] = .ok (.bl true)) (hS : SqL K H a (ns.map V.int)) : spP K mg false F [.ref a] H (fun v _ => v = .bl true) fun _ _ _ => False :=
  ⟨H, [scrD ns], Same.refl _, .cons (.scr hS (reps_ints ns)) .nil, by
    rw [h]
    exact fun Hf' H' g v r => TR.bl r g.s⟩
/-- the law's promise: True, whatever the script -/
def spLaw (K : PySem.W.Frag) : Sp := fun vs H Q _ => ∃ (a : Addr) (ns : List Int), vs = [.ref a] ∧ SqL K H a (ns.map V.int) ∧ ns.length ≤ 63 ∧ ∀ H', Q (.bl true) H'
theorem FTa.law {P : Program} {w : World} {K : PySem.W.Frag} {mg : Str → Option Value} {base : Heap} {a : Addr} {fd : FuncData} {ps : List Str} {l : Nat} {x : Str} {F : List D → M D} (h : FTa P w K mg base a fd ps l x false F) (hF : ∀ ns : List Int, ns.length ≤ 63 → F [scrD ns] = .ok (.bl true)) :
    FnOk P w K mg base (L2.CX P w) l a fd ps (spLaw K) :=
  h.ok.imp fun vs H Q E ⟨a, ns, e, hS, hl, q⟩ => by
    subst e
    refine ⟨H, [scrD ns], Same.refl _, .cons (.scr hS (reps_ints ns)) .nil, ?_⟩
    rw [hF ns hl]
    exact fun Hf' H' g v r => by
      rw [TR.bl r g.s]
      exact q H'
theorem cx_false {P : Program} {w : World} {H : Hp} {s : Shared} {e : Value} {s' : Shared} (h : L2.CX P w [] H s (fun _ _ _ => False) e s') : False := by
  obtain ⟨_, _, _, _, _, _, _, _, _, _, _, _, z⟩ := h
  exact z.elim
end Ev
set_option maxHeartbeats 1000000
/-! EvQ: what the meanings give, step by step; loops; data's order. -/
namespace Ev
open PySem PySem.Spec PyProof.Rows L2
/-! ### steps that fire -/
section
variable {α β : Type}
@[simp] theorem ofM_ok (d : D) (f : D → Fl) : ofM (.ok d) f = f d := rfl
@[simp] theorem ofM_stuck (f : D → Fl) : ofM .stuck f = .stuck := rfl
@[simp] theorem ofM_ex (c ns fs) (f : D → Fl) : ofM (.ex c ns fs) f = .ex c ns fs := rfl
@[simp] theorem ofE_ok (d : Env) : ofE (.ok d) = .nx d := rfl
@[simp] theorem seq_nx (e : Env) (f : Env → Fl) : (Fl.nx e).seq f = f e := rfl
@[simp] theorem seq_rt (d : D) (f : Env → Fl) : (Fl.rt d).seq f = .rt d := rfl
@[simp] theorem seq_ct (e : Env) (f : Env → Fl) : (Fl.ct e).seq f = .ct e := rfl
@[simp] theorem seq_ex (c ns fs) (f : Env → Fl) : (Fl.ex c ns fs).seq f = .ex c ns fs := rfl
@[simp] theorem seq_stuck (f : Env → Fl) : (Fl.stuck).seq f = .stuck := rfl
@[simp] theorem asB_bl (b : Bool) : asB (.ok (.bl b)) = .ok b := rfl
@[simp] theorem asB_ex (c ns fs) : asB (.ex c ns fs) = .ex c ns fs := rfl
@[simp] theorem dB_some (b : Bool) : dB (some b) = some (.bl b) := rfl
@[simp] theorem bindP_one (i : Nat) (d : D) (env : Env) : bindP (.one i) d env = some (env.set i (some d)) := rfl
@[simp] theorem bindP_two (i j : Nat) (d e : D) (env : Env) : bindP (.many [i, j]) (.tup [d, e]) env = some ((env.set i (some d)).set j (some e)) := rfl
@[simp] theorem bindP_three (i j k : Nat) (d e f : D) (env : Env) : bindP (.many [i, j, k]) (.tup [d, e, f]) env = some (((env.set i (some d)).set j (some e)).set k (some f)) := rfl
@[simp] theorem dSeq_lst (xs : List D) : dSeq (.lst xs) = some xs := rfl
@[simp] theorem dSeq_tup (xs : List D) : dSeq (.tup xs) = some xs := rfl
@[simp] theorem dSeq_scr (xs : List D) : dSeq (.scr xs) = some xs := rfl
@[simp] theorem immM_int (i : Int) : immM (.ok (.int i)) = .ok (.int i) := rfl
@[simp] theorem immM_bl (i : Bool) : immM (.ok (.bl i)) = .ok (.bl i) := rfl
@[simp] theorem immM_non : immM (.ok .non) = .ok .non := rfl
@[simp] theorem partOf_int (i : Int) : partOf (some (.int i)) = some (some i) := rfl
/-! ### whole numbers -/
@[simp] theorem add_ii (i j : Int) : dBin .Add (.int i) (.int j) = some (.int (i + j)) := rfl
@[simp] theorem sub_ii (i j : Int) : dBin .Sub (.int i) (.int j) = some (.int (i - j)) := rfl
theorem mul_ii {i j : Int} (h : mulOk i j = true) : dBin .Mult (.int i) (.int j) = some (.int (i * j)) := by
  show grd (mulOk i j) _ = _
  rw [h]; rfl
theorem mulOk_l {i j : Int} (h1 : -(2 ^ 64) < i) (h2 : i < 2 ^ 64) : mulOk i j = true := by
  simp only [mulOk, Bool.or_eq_true, Bool.and_eq_true, decide_eq_true_eq]
  exact .inl (.inl ⟨h1, h2⟩)
theorem mulOk_r {i j : Int} (h1 : -(2 ^ 64) < j) (h2 : j < 2 ^ 64) : mulOk i j = true := by
  simp only [mulOk, Bool.or_eq_true, Bool.and_eq_true, decide_eq_true_eq]
  exact .inl (.inr ⟨h1, h2⟩)
theorem mod_ii {i j : Int} (h : j ≠ 0) : dBin .Mod (.int i) (.int j) = some (.int (i.fmod j)) := by
  show grd (decide (j ≠ 0)) _ = _
  rw [decide_eq_true h]; rfl
theorem div_ii {i j : Int} (h : j ≠ 0) (h2 : j.natAbs < 1073741824) : dBin .FloorDiv (.int i) (.int j) = some (.int (i.fdiv j)) := by
  show grd (divOk j) _ = _
  have : divOk j = true := by
    simp only [divOk, Bool.and_eq_true, Bool.or_eq_true, decide_eq_true_eq]
    exact ⟨h, .inl h2⟩
  rw [this]; rfl
theorem pow_ii {i j : Int} (h : 0 ≤ j) (h2 : j ≤ 1000000) (h3 : i.natAbs < 2 ^ 64) : dBin .Pow (.int i) (.int j) = some (.int (i ^ j.toNat)) := by
  show grd (decide (0 ≤ j) && decide (j ≤ 1000000) && decide (i.natAbs < 2 ^ 64)) _ = _
  rw [decide_eq_true h, decide_eq_true h2, decide_eq_true h3]; rfl
theorem dOk_int (i : Int) : dOk (.int i) = true := by simp only [dOk, D.py, PyData.plain, PyData.depth]; rfl
theorem alike_int (i j : Int) : PySem.W.alike (.int i) (.int j) = true := by simp only [PySem.W.alike]
theorem isN_int (i : Int) : isNone (.int i) = false := rfl
@[simp] theorem lt_ii (i j : Int) : dCmp .Lt (.int i) (.int j) = some (decide (i < j)) := by
  simp only [dCmp, dLt, dOk_int, D.py, alike_int, isN_int, PySem.W.dataLt_int]; rfl
@[simp] theorem gt_ii (i j : Int) : dCmp .Gt (.int i) (.int j) = some (decide (j < i)) := by
  simp only [dCmp, dOk_int, D.py, alike_int, isN_int, PySem.W.dataLt_int]; rfl
@[simp] theorem le_ii (i j : Int) : dCmp .LtE (.int i) (.int j) = some (decide (i ≤ j)) := by
  simp only [dCmp, dOk_int, D.py, alike_int, isN_int, PySem.W.dataLt_int]
  show some _ = _
  congr 1
  by_cases h : j < i
  · rw [decide_eq_true h, decide_eq_false (by omega)]; rfl
  · rw [decide_eq_false h, decide_eq_true (by omega)]; rfl
@[simp] theorem ge_ii (i j : Int) : dCmp .GtE (.int i) (.int j) = some (decide (j ≤ i)) := by
  simp only [dCmp, dOk_int, D.py, alike_int, isN_int, PySem.W.dataLt_int]
  show some _ = _
  congr 1
  by_cases h : i < j
  · rw [decide_eq_true h, decide_eq_false (by omega)]; rfl
  · rw [decide_eq_false h, decide_eq_true (by omega)]; rfl
@[simp] theorem eq_ii (i j : Int) : dCmp .Eq (.int i) (.int j) = some (decide (i = j)) := by
  simp only [dCmp, dEq, dOk_int, D.py, PyData.eqv, Bool.beq_eq_decide_eq]; rfl
@[simp] theorem ne_ii (i j : Int) : dCmp .NotEq (.int i) (.int j) = some (!decide (i = j)) := by
  simp only [dCmp, dOk_int, D.py, PyData.eqv, Bool.beq_eq_decide_eq]; rfl
end
/-! ### loops -/
theorem forL_same {f : D → Env → Fl} {env : Env} : ∀ {ds : List D}, (∀ d ∈ ds, f d env = .nx env) → forL f ds env = .nx env
  | [], _ => rfl
  | d :: r, h => by
    unfold forL
    rw [h d List.mem_cons_self]
    exact forL_same fun d' h' => h d' (List.mem_cons_of_mem _ h')
/-- a loop as a fold of a state -/
theorem forL_fold {σ α : Type} (enc : σ → Env) (encX : α → D) (step : σ → α → σ) {f : D → Env → Fl} : ∀ (xs : List α) (s : σ), (∀ (ys : List α) x (zs : List α), xs = ys ++ x :: zs → f (encX x) (enc (ys.foldl step s)) = .nx (enc (step (ys.foldl step s) x))) → forL f (xs.map encX) (enc s) = .nx (enc (xs.foldl step s))
  | [], _, _ => rfl
  | x :: r, s, h => by
    rw [List.map_cons, List.foldl_cons]
    unfold forL
    have h0 := h [] x r rfl
    rw [List.foldl_nil] at h0
    rw [h0]
    exact forL_fold enc encX step r (step s x) fun ys y zs e => by
      have := h (x :: ys) y zs (by rw [e]; rfl)
      rw [List.foldl_cons] at this
      exact this
/-- .. with what holds of the state -/
theorem forL_inv {σ α : Type} (enc : σ → Env) (encX : α → D) (step : σ → α → σ) (P : Nat → σ → Prop) {f : D → Env → Fl} : ∀ (xs : List α) (k : Nat) (s : σ), P k s → (∀ j (s : σ) x, x ∈ xs → P j s → f (encX x) (enc s) = .nx (enc (step s x)) ∧ P (j + 1) (step s x)) →
    forL f (xs.map encX) (enc s) = .nx (enc (xs.foldl step s)) ∧ P (k + xs.length) (xs.foldl step s)
  | [], k, s, h, _ => ⟨rfl, h⟩
  | x :: r, k, s, h, hs => by
    rw [List.map_cons, List.foldl_cons]
    unfold forL
    obtain ⟨h1, h2⟩ := hs k s x List.mem_cons_self h
    rw [h1]
    have := forL_inv enc encX step P r (k + 1) (step s x) h2 fun j s y hy => hs j s y (List.mem_cons_of_mem _ hy)
    rw [List.length_cons, show k + (r.length + 1) = k + 1 + r.length by omega]
    exact this
/-- a comprehension as a map of what is kept -/
theorem compL_ok {α β : Type} (encX : α → D) (encY : β → D) (g : α → Option β) {f : D → M (Option D)} : ∀ (xs : List α), (∀ x ∈ xs, f (encX x) = .ok ((g x).map encY)) → compL f (xs.map encX) = .ok ((xs.filterMap g).map encY)
  | [], _ => rfl
  | x :: r, h => by
    rw [List.map_cons]
    unfold compL
    rw [h x List.mem_cons_self, List.filterMap_cons]
    have ih := compL_ok encX encY g r fun y hy => h y (List.mem_cons_of_mem _ hy)
    cases g x with
    | none => exact ih
    | some y =>
      show (match compL f (r.map encX) with
        | .ok xs => M.ok (encY y :: xs)
        | _ => .stuck) = _
      rw [ih]; rfl
theorem compL_map {α β : Type} (encX : α → D) (encY : β → D) (g : α → β) {f : D → M (Option D)} (xs : List α) (h : ∀ x ∈ xs, f (encX x) = .ok (some (encY (g x)))) : compL f (xs.map encX) = .ok ((xs.map g).map encY) := by
  have := compL_ok encX encY (fun x => some (g x)) xs h
  rw [this]
  congr 2
  induction xs with
  | nil => rfl
  | cons x r ih => rw [List.filterMap_cons, List.map_cons]; exact congrArg _ (ih (fun y hy => h y (List.mem_cons_of_mem _ hy)) (compL_ok encX encY (fun x => some (g x)) r fun y hy => h y (List.mem_cons_of_mem _ hy)))
/-! ### whole numbers of the script -/
theorem fmod_nat (c : Int) (k : Nat) (hk : 0 < k) : ∃ w : Nat, w < k ∧ c.fmod k = w := by
  have h1 := Int.fmod_nonneg_of_pos c (show (0 : Int) < k by omega)
  have h2 := Int.fmod_lt_of_pos c (show (0 : Int) < k by omega)
  exact ⟨(c.fmod k).toNat, by omega, by omega⟩
theorem mem_cut {ns : List Int} {lo hi : Option Int} {d : D} (h : d ∈ Ev.cutD (ns.map D.int) lo hi) : ∃ c, d = .int c := by
  have h1 := List.mem_of_mem_drop (List.mem_of_mem_take h)
  obtain ⟨c, _, rfl⟩ := List.mem_map.mp h1
  exact ⟨c, rfl⟩
theorem cut_len {xs : List D} {lo hi : Option Int} : (Ev.cutD xs lo hi).length ≤ xs.length := by
  unfold Ev.cutD
  rw [List.length_take, List.length_drop]
  omega
theorem fits_of {n : Nat} (h : n ≤ 16777216) : fits n = true := decide_eq_true h
def isOk (m : M D) (b : Bool) : Bool := match m with
  | .ok (.bl c) => c == b
  | _ => false
theorem isOk_eq {m : M D} {b : Bool} (h : isOk m b = true) : m = .ok (.bl b) := by
  unfold isOk at h
  split at h
  · rw [beq_iff_eq.mp h]
  · cases h
end Ev
set_option maxHeartbeats 4000000
namespace My
open PySem PySem.Spec PyProof.Rows L2 Ev
def e1_rows_below : CE := .bin .Add (.tup (.cons (.var 4) .nil)) (.var 5)
def b1_rows_below : CSs := (.cons (.setN 3 (.bin .Add (.var 3) (.comp (e1_rows_below) (.one 5) (.val (.call "rows_below" true (.cons (.bin .Sub (.var 0) (.var 4)) (.cons (.bin .Sub (.var 1) (.int 1)) (.cons (.var 4) .nil))))) .none [("rest", 5)]))) (.forget [4] .nil))
def c_rows_below : CF := { N := ["weight", "most", "top", "found", "first", "rest"], P := 3, isN := true, body :=
  (.cons (.ite (.cmp .Eq (.var 0) (.int 0)) (.cons (.ret (.lst (.cons (.tup .nil) .nil))) .nil) .nil) (.cons (.setN 3 (.lst .nil)) (.cons (.ite (.cmp .Gt (.var 1) (.int 0)) (.forget [4] (.cons (.for (.one 4) (.rev2 (.int 1) (.bin .Add (.blt .min2 (.cons (.var 0) (.cons (.var 2) .nil))) (.int 1))) b1_rows_below) .nil)) .nil) (.cons (.retO 3) .nil)))) }
def c_rows : CF := { N := ["weight", "most"], P := 2, isN := true, body :=
  (.cons (.ret (.call "rows_below" true (.cons (.var 0) (.cons (.var 1) (.cons (.var 0) .nil))))) .nil) }
def b1__law_many : CSs := (.cons (.set (.one 3) (.bin .Add (.var 3) (.call "_law_many" false (.cons (.bin .Sub (.var 0) (.var 4)) (.cons (.bin .Sub (.var 1) (.int 1)) (.cons (.var 4) .nil)))))) (.forget [4] .nil))
def c__law_many : CF := { N := ["_law_weight", "_law_most", "_law_top", "_law_total", "_law_first"], P := 3, isN := false, body :=
  (.cons (.ite (.cmp .Eq (.var 0) (.int 0)) (.cons (.ret (.int 1)) .nil) .nil) (.cons (.ite (.cmp .Eq (.var 1) (.int 0)) (.cons (.ret (.int 0)) .nil) .nil) (.cons (.set (.one 3) (.int 0)) (.forget [4] (.cons (.for (.one 4) (.range2 (.int 1) (.bin .Add (.blt .min2 (.cons (.var 0) (.cons (.var 2) .nil))) (.int 1))) b1__law_many) (.cons (.ret (.var 3)) .nil)))))) }
def b1__law_good : CSs := (.cons (.ite (.or (.not (.isa .int (.idx (.var 4) (.var 5)))) (.or (.isa .bool (.idx (.var 4) (.var 5))) (.cmp .Lt (.idx (.var 4) (.var 5)) (.int 1)))) (.cons (.ret (.bl false)) .nil) .nil) (.cons (.ite (.and (.cmp .Gt (.var 5) (.int 0)) (.cmp .Gt (.idx (.var 4) (.var 5)) (.idx (.var 4) (.bin .Sub (.var 5) (.int 1))))) (.cons (.ret (.bl false)) .nil) .nil) (.forget [5] .nil)))
def b2__law_good : CSs := (.cons (.set (.one 4) (.idx (.var 0) (.var 3))) (.cons (.ite (.or (.not (.isa .tuple (.var 4))) (.or (.cmp .Gt (.blt .len (.cons (.var 4) .nil)) (.var 2)) (.cmp .NotEq (.blt .sumOf (.cons (.var 4) .nil)) (.var 1)))) (.cons (.ret (.bl false)) .nil) .nil) (.cons (.ite (.and (.cmp .Gt (.var 3) (.int 0)) (.not (.cmp .Gt (.idx (.var 0) (.bin .Sub (.var 3) (.int 1))) (.var 4)))) (.cons (.ret (.bl false)) .nil) .nil) (.forget [5] (.cons (.for (.one 5) (.range1 (.blt .len (.cons (.var 4) .nil))) b1__law_good) (.forget [3, 4, 5] .nil))))))
def c__law_good : CF := { N := ["_law_found", "_law_weight", "_law_most", "_law_k", "_law_row", "_law_j"], P := 3, isN := false, body :=
  (.cons (.ite (.or (.not (.isa .list (.var 0))) (.cmp .NotEq (.blt .len (.cons (.var 0) .nil)) (.call "_law_many" false (.cons (.var 1) (.cons (.var 2) (.cons (.var 1) .nil)))))) (.cons (.ret (.bl false)) .nil) .nil) (.forget [3, 4, 5] (.cons (.for (.one 3) (.range1 (.blt .len (.cons (.var 0) .nil))) b2__law_good) (.cons (.ret (.bl true)) .nil)))) }
def b1_law : CSs := (.cons (.set (.one 2) (.bin .Mod (.var 1) (.int 9))) (.cons (.set (.one 3) (.bin .Mod (.bin .FloorDiv (.var 1) (.int 9)) (.int 10))) (.cons (.setN 4 (.call "rows" true (.cons (.var 2) (.cons (.var 3) .nil)))) (.cons (.ite (.not (.callB "_law_good" false (.cons (.var 4) (.cons (.var 2) (.cons (.var 3) .nil))))) (.cons (.ret (.bl false)) .nil) .nil) (.cons (.app 4 (.tup (.cons (.int 1) .nil))) (.forget [1, 2, 3, 4] .nil))))))
def c_law : CF := { N := ["_law_script", "_law_cell", "_law_weight", "_law_most", "_law_found"], P := 1, isN := false, body :=
  (.forget [1, 2, 3, 4] (.cons (.for (.one 1) (.val (.bin .Add (.slc (.var 0) .none (.some (.int 60))) (.lst (.cons (.bin .Add (.int 8) (.bin .Mult (.int 9) (.int 8))) .nil)))) b1_law) (.cons (.ite (.cmp .NotEq (.call "rows" true (.cons (.int 5) (.cons (.bin .Pow (.int 10) (.int 59)) .nil))) (.call "rows" true (.cons (.int 5) (.cons (.int 5) .nil)))) (.cons (.ret (.bl false)) .nil) .nil) (.cons (.ret (.and (.call "_law_good" false (.cons (.call "rows" true (.cons (.int 8) (.cons (.int 8) .nil))) (.cons (.int 8) (.cons (.int 8) .nil)))) (.and (.cmp .Eq (.call "rows" true (.cons (.int 0) (.cons (.int 0) .nil))) (.lst (.cons (.tup .nil) .nil))) (.cmp .Eq (.call "rows" true (.cons (.int 3) (.cons (.int 0) .nil))) (.lst .nil))))) .nil)))) }
def Phi_rows_below : PhiT := phiOf []
def m_rows_below : Nat → List D → Nat := fun _ _ => 0
def dep_rows_below := 10
def F_rows_below : List D → M D := recF Phi_rows_below "rows_below" m_rows_below c_rows_below 10
theorem fx_rows_below : ∀ ds, F_rows_below ds = .stuck ∨ F_rows_below ds = recF Phi_rows_below "rows_below" m_rows_below c_rows_below dep_rows_below ds := fun _ => .inr rfl
def Phi_rows : PhiT := phiOf [("rows_below", F_rows_below)]
def m_rows : List D → Nat := fun _ => 0
def F_rows := denF Phi_rows 0 c_rows
theorem fx_rows : ∀ ds, F_rows ds = .stuck ∨ F_rows ds = denF Phi_rows (m_rows ds) c_rows ds := fun _ => .inr rfl
def Phi__law_many : PhiT := phiOf []
def m__law_many : Nat → List D → Nat := fun _ _ => 0
def dep__law_many := 10
def F__law_many : List D → M D := recF Phi__law_many "_law_many" m__law_many c__law_many 10
theorem fx__law_many : ∀ ds, F__law_many ds = .stuck ∨ F__law_many ds = recF Phi__law_many "_law_many" m__law_many c__law_many dep__law_many ds := fun _ => .inr rfl
def Phi__law_good : PhiT := phiOf [("_law_many", F__law_many)]
def m__law_good : List D → Nat := fun _ => 0
def F__law_good := denF Phi__law_good 0 c__law_good
theorem fx__law_good : ∀ ds, F__law_good ds = .stuck ∨ F__law_good ds = denF Phi__law_good (m__law_good ds) c__law_good ds := fun _ => .inr rfl
def Phi_law : PhiT := phiOf [("rows", F_rows), ("_law_good", F__law_good)]
def m_law : List D → Nat := fun _ => 0
def F_law := denF Phi_law 0 c_law
theorem fx_law : ∀ ds, F_law ds = .stuck ∨ F_law ds = denF Phi_law (m_law ds) c_law ds := fun _ => .inr rfl
/-- the answer of the law's look at the rows of a weight -/
def goodB (w m : Int) : Bool := match F_rows [.int w, .int m] with
  | .ok (.lst xs) => fits (xs.length + 1) && isOk (F__law_good [.lst xs, .int w, .int m]) true
  | _ => false
theorem good_all : ((List.range 9).all fun w => (List.range 10).all fun m => goodB w m) = true := by decide +kernel
theorem good_at {w m : Nat} (hw : w < 9) (hm : m < 10) : ∃ xs, F_rows [.int w, .int m] = .ok (.lst xs) ∧ fits (xs.length + 1) = true ∧ F__law_good [.lst xs, .int w, .int m] = .ok (.bl true) := by
  have h := List.all_eq_true.mp (List.all_eq_true.mp good_all w (List.mem_range.mpr hw)) m (List.mem_range.mpr hm)
  unfold goodB at h
  split at h
  · rename_i xs e
    rw [Bool.and_eq_true] at h
    exact ⟨xs, e, h.1, isOk_eq h.2⟩
  · cases h
theorem p1 : Phi_law "rows" = F_rows := rfl
theorem p2 : Phi_law "_law_good" = F__law_good := rfl
def last1 : M D := F_rows [.int 5, .int 100000000000000000000000000000000000000000000000000000000000] >>= fun x => F_rows [.int 5, .int 5] >>= fun y => ofO (dB (dCmp .NotEq x y))
theorem last_1 : last1 = .ok (.bl false) := isOk_eq (by decide +kernel)
def last2 : M D := F_rows [.int 8, .int 8] >>= fun d => F__law_good [d, .int 8, .int 8]
theorem last_2 : last2 = .ok (.bl true) := isOk_eq (by decide +kernel)
def last3 : M D := F_rows [.int 0, .int 0] >>= fun x => ofO (dB (dCmp .Eq x (.lst [.tup []])))
theorem last_3 : last3 = .ok (.bl true) := isOk_eq (by decide +kernel)
def last4 : M D := F_rows [.int 3, .int 0] >>= fun x => ofO (dB (dCmp .Eq x (.lst [])))
theorem last_4 : last4 = .ok (.bl true) := isOk_eq (by decide +kernel)
theorem turn (s : D) (c : Int) : denSs Phi_law 0 b1_law [some s, some (.int c), none, none, none] = .nx [some s, none, none, none, none] := by
  obtain ⟨w, h1, h2⟩ := fmod_nat c 9 (by decide)
  obtain ⟨m, h3, h4⟩ := fmod_nat (c.fdiv 9) 10 (by decide)
  obtain ⟨xs, e1, e2, e3⟩ := good_at h1 h3
  have h2 : c.fmod 9 = w := h2
  have h4 : (c.fdiv 9).fmod 10 = m := h4
  unfold b1_law
  simp [denSs, denS, denE, denEs, denV, mod_ii, div_ii, h2, h4, p1, p2, e1, e2, e3, wipeD]
theorem law_holds (ns : List Int) (hl : ns.length ≤ 63) : F_law [scrD ns] = .ok (.bl true) := by
  have hf : fits ((Ev.cutD (ns.map D.int) none (some 60)).length + 1) = true := fits_of (by have := cut_len (xs := ns.map D.int) (lo := none) (hi := some 60); rw [List.length_map] at this; omega)
  have hloop : forL (stepF (.one 1) (denSs Phi_law 0 b1_law)) (Ev.cutD (ns.map D.int) none (some 60) ++ [.int 80]) [some (scrD ns), none, none, none, none] = .nx [some (scrD ns), none, none, none, none] := by
    refine forL_same fun d hd => ?_
    have : ∃ c, d = .int c := by
      rcases List.mem_append.mp hd with h | h
      · exact mem_cut h
      · exact ⟨80, List.mem_singleton.mp h⟩
    obtain ⟨c, rfl⟩ := this
    rw [stepF_one]
    exact turn _ c
  have hds : denI Phi_law (.val (.bin .Add (.slc (.var 0) .none (.some (.int 60))) (.lst (.cons (.bin .Add (.int 8) (.bin .Mult (.int 9) (.int 8))) .nil)))) [some (scrD ns), none, none, none, none] = .ok (Ev.cutD (ns.map D.int) none (some 60) ++ [.int 80]) := by
    simp [denI, denE, denEs, denV, denO, fN, fO, partOf, scrD, dSlc, mul_ii, mulOk_l]
    simp [dBin, dAdd, hf]
  have l1 := last_1
  have l2 := last_2
  have l3 := last_3
  have l4 := last_4
  unfold last1 at l1
  unfold last2 at l2
  unfold last3 at l3
  unfold last4 at l4
  unfold F_law
  rw [denF_eq rfl]
  show finF (denSs Phi_law 0 c_law.body [some (scrD ns), none, none, none, none]) = _
  unfold c_law
  simp only [denSs, denS, hds, wipeD]
  simp [hds, hloop, denE, denEs, p1, p2, pow_ii, l1, l2, l3, l4]
/-! ### the text -/
def topS (i : Nat) : Stmt := PySem.Challenge.pw_evenform_k11_all_rows.main.body.getD i (.Pass ⟨0, 0, 0, 0⟩)
theorem k_rows_below : chkF [("rows_below", true)] [] ["range", "reversed", "min"] c_rows_below (topS 1) = true := by decide +kernel
theorem k_rows : chkF [("rows_below", true)] [] [] c_rows (topS 2) = true := by decide +kernel
theorem k__law_many : chkF [("_law_many", false)] [] ["range", "min"] c__law_many (topS 4) = true := by decide +kernel
theorem k__law_good : chkF [("_law_many", false)] [] ["isinstance", "list", "len", "range", "tuple", "sum", "int", "bool"] c__law_good (topS 5) = true := by decide +kernel
theorem k_law : chkF [("rows", true), ("_law_good", false)] [] [] c_law (topS 6) = true := by decide +kernel
/-! ### the ends -/
theorem all_mk {l : PySem.W.OpenLaw} {w : World} {K : PySem.W.Frag} {h : Heap} {mg : Str → Option Value} {fa : Addr} (X : K.In h) (G : h.Ns mainGlobals mg) (hfa : mg "law" = some (.ref fa))
    {f0 : Addr} {od0 an0 : Option Addr} {sl0 : Array (Option Value)} {oc0 kV0 dc0 pm0 cd0 ct0 : Value}
    (a0 : PySem.W.nsIn K mainGlobals "rows_below" = some (some (.ref f0))) (l0 : K.lookup f0 = some ⟨oc0, od0, .func (PySem.W.fnOf "rows_below" "rows_below" (defArgs (topS 1)) (defBody (topS 1)) (defScope (topS 1)) .none kV0 dc0 pm0 an0 cd0 ct0), sl0⟩) (c0 : PySem.W.codeIn K cd0 "rows_below" = true) (k0 : PySem.W.keepIn K (.ref f0) = true)
    {f1 : Addr} {od1 an1 : Option Addr} {sl1 : Array (Option Value)} {oc1 kV1 dc1 pm1 cd1 ct1 : Value}
    (a1 : PySem.W.nsIn K mainGlobals "rows" = some (some (.ref f1))) (l1 : K.lookup f1 = some ⟨oc1, od1, .func (PySem.W.fnOf "rows" "rows" (defArgs (topS 2)) (defBody (topS 2)) (defScope (topS 2)) .none kV1 dc1 pm1 an1 cd1 ct1), sl1⟩) (c1 : PySem.W.codeIn K cd1 "rows" = true) (k1 : PySem.W.keepIn K (.ref f1) = true)
    {f2 : Addr} {od2 an2 : Option Addr} {sl2 : Array (Option Value)} {oc2 kV2 dc2 pm2 cd2 ct2 : Value}
    (a2 : PySem.W.nsIn K mainGlobals "_law_many" = some (some (.ref f2))) (l2 : K.lookup f2 = some ⟨oc2, od2, .func (PySem.W.fnOf "_law_many" "_law_many" (defArgs (topS 4)) (defBody (topS 4)) (defScope (topS 4)) .none kV2 dc2 pm2 an2 cd2 ct2), sl2⟩) (c2 : PySem.W.codeIn K cd2 "_law_many" = true) (k2 : PySem.W.keepIn K (.ref f2) = true)
    {f3 : Addr} {od3 an3 : Option Addr} {sl3 : Array (Option Value)} {oc3 kV3 dc3 pm3 cd3 ct3 : Value}
    (a3 : PySem.W.nsIn K mainGlobals "_law_good" = some (some (.ref f3))) (l3 : K.lookup f3 = some ⟨oc3, od3, .func (PySem.W.fnOf "_law_good" "_law_good" (defArgs (topS 5)) (defBody (topS 5)) (defScope (topS 5)) .none kV3 dc3 pm3 an3 cd3 ct3), sl3⟩) (c3 : PySem.W.codeIn K cd3 "_law_good" = true) (k3 : PySem.W.keepIn K (.ref f3) = true)
    {f4 : Addr} {od4 an4 : Option Addr} {sl4 : Array (Option Value)} {oc4 kV4 dc4 pm4 cd4 ct4 : Value}
    (a4 : PySem.W.nsIn K mainGlobals "law" = some (some (.ref f4))) (l4 : K.lookup f4 = some ⟨oc4, od4, .func (PySem.W.fnOf "law" "law" (defArgs (topS 6)) (defBody (topS 6)) (defScope (topS 6)) .none kV4 dc4 pm4 an4 cd4 ct4), sl4⟩) (c4 : PySem.W.codeIn K cd4 "law" = true) (k4 : PySem.W.keepIn K (.ref f4) = true)
    (z0 : PySem.W.nsIn K mainGlobals "range" = some none)
    (z1 : PySem.W.nsIn K mainGlobals "reversed" = some none)
    (z2 : PySem.W.nsIn K mainGlobals "min" = some none)
    (z3 : PySem.W.nsIn K mainGlobals "isinstance" = some none)
    (z4 : PySem.W.nsIn K mainGlobals "list" = some none)
    (z5 : PySem.W.nsIn K mainGlobals "len" = some none)
    (z6 : PySem.W.nsIn K mainGlobals "tuple" = some none)
    (z7 : PySem.W.nsIn K mainGlobals "sum" = some none)
    (z8 : PySem.W.nsIn K mainGlobals "int" = some none)
    (z9 : PySem.W.nsIn K mainGlobals "bool" = some none)
    : ∃ fd : FuncData, (∀ (s : Shared) (v : Value), BindsTo s fd ⟨[v], []⟩ [("_law_script", v)]) ∧ ∀ base : Heap, K.In base → base.Ns mainGlobals mg → FnOk l.prog w K mg base (L2.CX l.prog w) 12 fa fd ["_law_script"] (spLaw K) := by
  have e := hfa.symm.trans (PySem.W.mg_of X G a4)
  cases e
  refine ⟨PySem.W.fnOf "law" "law" (defArgs (topS 6)) (defBody (topS 6)) (defScope (topS 6)) .none kV4 dc4 pm4 an4 cd4 ct4, fun s v => .of_eq rfl, fun base _ _ => ?_⟩
  have y0 := PySem.W.mg_none_of X G z0
  have y1 := PySem.W.mg_none_of X G z1
  have y2 := PySem.W.mg_none_of X G z2
  have y3 := PySem.W.mg_none_of X G z3
  have y4 := PySem.W.mg_none_of X G z4
  have y5 := PySem.W.mg_none_of X G z5
  have y6 := PySem.W.mg_none_of X G z6
  have y7 := PySem.W.mg_none_of X G z7
  have y8 := PySem.W.mg_none_of X G z8
  have y9 := PySem.W.mg_none_of X G z9
  have t0 := rec_ok (P := l.prog) (w := w) (base := base) (lvl := 0) (fun_mk (st := topS 1) l0 c0 k0) (PySem.W.mg_of X G a0) k_rows_below Phi_rows_below m_rows_below (fun p hp => nomatch hp) (by simp) (fun y hy => nomatch hy) (fun y hy => nomatch hy) (fun y hy => by
      simp only [List.mem_cons, List.not_mem_nil, or_false] at hy
      rcases hy with rfl | rfl | rfl
      · exact y0
      · exact y1
      · exact y2) (fun _ _ _ _ _ _ us hl => match us, hl with | [_, _, _], _ => rfl) dep_rows_below
  have T0 := t0.ft.imp fx_rows_below
  have t1 := def_ok (P := l.prog) (w := w) (base := base) (lvl := 10) (fun_mk (st := topS 2) l1 c1 k1) (PySem.W.mg_of X G a1) k_rows Phi_rows m_rows (fun p hp => by
      simp only [List.mem_cons, List.not_mem_nil, or_false] at hp
      rcases hp with rfl
      · exact T0.mono (by decide)) (fun y hy => nomatch hy) (fun y hy => nomatch hy) (fun _ _ _ _ _ _ us hl => match us, hl with | [_, _], _ => rfl)
  have T1 := t1.ft.imp fx_rows
  have t2 := rec_ok (P := l.prog) (w := w) (base := base) (lvl := 0) (fun_mk (st := topS 4) l2 c2 k2) (PySem.W.mg_of X G a2) k__law_many Phi__law_many m__law_many (fun p hp => nomatch hp) (by simp) (fun y hy => nomatch hy) (fun y hy => nomatch hy) (fun y hy => by
      simp only [List.mem_cons, List.not_mem_nil, or_false] at hy
      rcases hy with rfl | rfl
      · exact y0
      · exact y2) (fun _ _ _ _ _ _ us hl => match us, hl with | [_, _, _], _ => rfl) dep__law_many
  have T2 := t2.ft.imp fx__law_many
  have t3 := def_ok (P := l.prog) (w := w) (base := base) (lvl := 10) (fun_mk (st := topS 5) l3 c3 k3) (PySem.W.mg_of X G a3) k__law_good Phi__law_good m__law_good (fun p hp => by
      simp only [List.mem_cons, List.not_mem_nil, or_false] at hp
      rcases hp with rfl
      · exact T2.mono (by decide)) (fun y hy => nomatch hy) (fun y hy => by
      simp only [List.mem_cons, List.not_mem_nil, or_false] at hy
      rcases hy with rfl | rfl | rfl | rfl | rfl | rfl | rfl | rfl
      · exact y3
      · exact y4
      · exact y5
      · exact y0
      · exact y6
      · exact y7
      · exact y8
      · exact y9) (fun _ _ _ _ _ _ us hl => match us, hl with | [_, _, _], _ => rfl)
  have T3 := t3.ft.imp fx__law_good
  have t4 := def_ok (P := l.prog) (w := w) (base := base) (lvl := 11) (fun_mk (st := topS 6) l4 c4 k4) (PySem.W.mg_of X G a4) k_law Phi_law m_law (fun p hp => by
      simp only [List.mem_cons, List.not_mem_nil, or_false] at hp
      rcases hp with rfl | rfl
      · exact T1.mono (by decide)
      · exact T3.mono (by decide)) (fun y hy => nomatch hy) (fun y hy => nomatch hy) (fun _ _ _ _ _ _ us hl => match us, hl with | [_], _ => rfl)
  exact (t4.imp fx_law).law law_holds
end My
open PySem PySem.W PyProof.Rows
set_option maxHeartbeats 0 in
theorem PySem.Challenge.cw_evenform_k11_all_rows_holds : PySem.Challenge.rw_evenform_k11_all_rows.Holds := by
  w_on; o_law; k_head; (case hw => w_witness2)
  k_fill
  refine L2.walk_of (l := PySem.Challenge.rw_evenform_k11_all_rows) (n := 63) (k := 12) (x := "_law_script") (CX := fun w => L2.CX PySem.Challenge.rw_evenform_k11_all_rows.prog w) (sp := fun w => Ev.spLaw _) rfl (by decide) rfl ⟨rfl, by decide, by decide⟩ (fun w h Y => PySem.W.kIn_of Y) ?F (fun _ _ a ns hl _ hS => ⟨a, ns, rfl, hS, hl, fun _ => rfl⟩) (fun _ _ _ _ _ h => Ev.cx_false h)
  case F =>
    intro w mg fa h KX G hmg
    refine' My.all_mk KX G hmg ?a0 ?l0 ?c0 ?k0 ?a1 ?l1 ?c1 ?k1 ?a2 ?l2 ?c2 ?k2 ?a3 ?l3 ?c3 ?k3 ?a4 ?l4 ?c4 ?k4 ?z0 ?z1 ?z2 ?z3 ?z4 ?z5 ?z6 ?z7 ?z8 ?z9
    (case a0 => k_is); (case l0 => k_is); (case c0 => k_is); (case k0 => k_is); (case a1 => k_is); (case l1 => k_is); (case c1 => k_is); (case k1 => k_is); (case a2 => k_is); (case l2 => k_is); (case c2 => k_is); (case k2 => k_is); (case a3 => k_is); (case l3 => k_is); (case c3 => k_is); (case k3 => k_is); (case a4 => k_is); (case l4 => k_is); (case c4 => k_is); (case k4 => k_is); (case z0 => k_is); (case z1 => k_is); (case z2 => k_is); (case z3 => k_is); (case z4 => k_is); (case z5 => k_is); (case z6 => k_is); (case z7 => k_is); (case z8 => k_is); (case z9 => k_is)
#print axioms PySem.Challenge.cw_evenform_k11_all_rows_holds
