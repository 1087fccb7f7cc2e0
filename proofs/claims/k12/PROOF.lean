import PyProof.Rows.All
import Wide.All
import OpenK.AllK
import Wide.FinOn
import HandS.ForMost
import HandS.ForExc
import HandS.Walk
import HandS.Codes
import HandS.CallSlots
import HandS.DictComp
import HandS.DeepEq
import HandS.Deep
import KE.DataFind
import HandS.Style
import HandS.Conv
import HandS.Defaults
import HandS.MakeKwOnly
import HandS.HeadHook1
import HandS.HeadHook2
import KE.KStateDown
import Lean
import HandS.Head0
import HandS.Head1
import HandS.Head2
import HandS.HeadEnd
import PySem.Challenge.RW_imagefeeds_k12_written_and_dropped
set_option Elab.async false
set_option linter.all false
set_option maxRecDepth 100000
/-! The mirror's monad, what a value stands for, the state of a def's run, the judgements. -/
namespace DL
open PySem L2
/-! ### the mirror's monad -/
/-- an error: its class by name, its fields -/
inductive Dt where
  | int (i : Int) | str (x : Str) | non | ref
inductive Er where
  | exc (c : Str) (fs : List (Str × Dt))
inductive Out (S α : Type) where
  | ok (a : α) (s : S)
  | err (e : Er) (s : S)
  | stuck
abbrev M (S α : Type) := S → Out S α
def ret {S α : Type} (a : α) : M S α := fun s => .ok a s
def stk {S α : Type} : M S α := fun _ => .stuck
def rse {S α : Type} (e : Er) : M S α := fun s => .err e s
def Out.bnd {S α β : Type} (o : Out S α) (f : α → M S β) : Out S β := match o with
  | .ok a s => f a s
  | .err e s => .err e s
  | .stuck => .stuck
def bnd {S α β : Type} (m : M S α) (f : α → M S β) : M S β := fun s => (m s).bnd f
/-- what is not there: stuck -/
def opt {S α : Type} (o : Option α) : M S α := match o with
  | some a => ret a
  | none => stk
/-- a condition that must hold -/
def grd {S : Type} (b : Bool) : M S Unit := if b then ret () else stk
section
variable {S α β γ : Type}
@[simp] theorem bnd_ret (a : α) (f : α → M S β) : bnd (ret a) f = f a := rfl
@[simp] theorem bnd_stk (f : α → M S β) : bnd stk f = stk := rfl
@[simp] theorem bnd_rse (e : Er) (f : α → M S β) : bnd (rse e) f = rse e := rfl
theorem bnd_assoc (m : M S α) (f : α → M S β) (g : β → M S γ) : bnd (bnd m f) g = bnd m fun a => bnd (f a) g := by
  funext s
  show ((m s).bnd f).bnd g = (m s).bnd fun a => bnd (f a) g
  cases m s <;> rfl
@[simp] theorem opt_some (a : α) : (opt (some a) : M S α) = ret a := rfl
@[simp] theorem opt_none : (opt (none : Option α) : M S α) = stk := rfl
@[simp] theorem grd_true : (grd true : M S Unit) = ret () := rfl
end
/-! ### what a value stands for, by a part of the heap that stands still -/
structure MP (ι : Type) where
  p : ι → Hp → Prop
  mono : ∀ {i : ι} {G G' : Hp}, Same G G' → p i G → p i G'
abbrev Rp (α : Type) := α → MP V
def rI : Rp Int := fun i => ⟨fun v _ => v = .int i, fun _ h => h⟩
def rB : Rp Bool := fun b => ⟨fun v _ => v = .bl b, fun _ h => h⟩
def rS : Rp Str := fun x => ⟨fun v _ => v = .str x, fun _ h => h⟩
def rU : Rp Unit := fun _ => ⟨fun v _ => v = .non, fun _ h => h⟩
/-- the very object at a -/
def rA : Rp Addr := fun a => ⟨fun v _ => v = .ref a, fun _ h => h⟩
theorem Same.rd {G G' : Hp} (e : Same G G') {a : Addr} {u : HO} (h : Rd G a u) : Rd G' a u := by
  rcases h with h | ⟨o, h⟩
  · exact .inl (e _ _ h)
  · exact .inr ⟨o, e _ _ h⟩
theorem Same.sqT {K : PySem.W.Frag} {G G' : Hp} (e : Same G G') {a : Addr} {xs : List V} (h : SqT K G a xs) : SqT K G' a xs := by
  rcases h with h | h
  · exact .inl (Same.rd e h)
  · exact .inr h
/-- lists of values -/
def AllP {α : Type} (r : Rp α) (G : Hp) : List V → List α → Prop := Paired fun v x => (r x).p v G
theorem AllP.mono {α : Type} {r : Rp α} {G G' : Hp} (e : Same G G') : ∀ {vs : List V} {xs : List α}, AllP r G vs xs → AllP r G' vs xs
  | _, _, .nil => .nil
  | _, _, .cons h t => .cons ((r _).mono e h) (AllP.mono e t)
theorem AllP.length {α : Type} {r : Rp α} {G : Hp} {vs : List V} {xs : List α} (h : AllP r G vs xs) : vs.length = xs.length := Paired.length h
theorem AllP.get {α : Type} {r : Rp α} {G : Hp} : ∀ {vs : List V} {xs : List α} {i : Nat} {x : α}, AllP r G vs xs → xs[i]? = some x → ∃ v, vs[i]? = some v ∧ (r x).p v G
  | _, _, _, _, .nil, e => by simp at e
  | _, _, 0, _, .cons h _, e => by simp at e; subst e; exact ⟨_, rfl, h⟩
  | _, _, i + 1, x, .cons _ t, e => by
    obtain ⟨v, h1, h2⟩ := AllP.get (i := i) (x := x) t (by simpa using e)
    exact ⟨v, by simpa using h1, h2⟩
theorem AllP.get' {α : Type} {r : Rp α} {G : Hp} : ∀ {vs : List V} {xs : List α} {i : Nat} {v : V}, AllP r G vs xs → vs[i]? = some v → ∃ x, xs[i]? = some x ∧ (r x).p v G
  | _, _, _, _, .nil, e => by simp at e
  | _, _, 0, _, .cons h _, e => by simp at e; subst e; exact ⟨_, rfl, h⟩
  | _, _, i + 1, v, .cons _ t, e => by
    obtain ⟨x, h1, h2⟩ := AllP.get' (i := i) (v := v) t (by simpa using e)
    exact ⟨x, by simpa using h1, h2⟩
theorem AllP.append {α : Type} {r : Rp α} {G : Hp} : ∀ {vs ws : List V} {xs ys : List α}, AllP r G vs xs → AllP r G ws ys → AllP r G (vs ++ ws) (xs ++ ys)
  | _, _, _, _, .nil, s => s
  | _, _, _, _, .cons h t, s => .cons h (AllP.append t s)
theorem AllP.set {α : Type} {r : Rp α} {G : Hp} {v : V} {x : α} (q : (r x).p v G) : ∀ {vs : List V} {xs : List α} (i : Nat), AllP r G vs xs → AllP r G (vs.set i v) (xs.set i x)
  | _, _, _, .nil => .nil
  | _, _, 0, .cons _ t => .cons q t
  | _, _, i + 1, .cons h t => .cons h (AllP.set q i t)
theorem AllP.take {α : Type} {r : Rp α} {G : Hp} : ∀ {vs : List V} {xs : List α} (n : Nat), AllP r G vs xs → AllP r G (vs.take n) (xs.take n)
  | _, _, 0, _ => .nil
  | _, _, _ + 1, .nil => .nil
  | _, _, n + 1, .cons h t => .cons h (AllP.take n t)
theorem AllP.drop {α : Type} {r : Rp α} {G : Hp} : ∀ {vs : List V} {xs : List α} (n : Nat), AllP r G vs xs → AllP r G (vs.drop n) (xs.drop n)
  | _, _, 0, h => h
  | _, _, _ + 1, .nil => .nil
  | _, _, n + 1, .cons _ t => AllP.drop n t
theorem AllP.reverse {α : Type} {r : Rp α} {G : Hp} : ∀ {vs : List V} {xs : List α}, AllP r G vs xs → AllP r G vs.reverse xs.reverse
  | _, _, .nil => .nil
  | _, _, .cons h t => by
    rw [List.reverse_cons, List.reverse_cons]
    exact AllP.append (AllP.reverse t) (.cons h .nil)
/-- a list that stands still; its content -/
def cL {α : Type} (r : Rp α) : List α → MP HO := fun xs => ⟨fun o G => ∃ vs, o = .lst vs ∧ AllP r G vs xs, fun e ⟨vs, h1, h2⟩ => ⟨vs, h1, h2.mono e⟩⟩
def rL {α : Type} (r : Rp α) : Rp (List α) := fun xs => ⟨fun v G => ∃ a vs, v = .ref a ∧ G a = some (.lst vs) ∧ AllP r G vs xs, fun e ⟨a, vs, h1, h2, h3⟩ => ⟨a, vs, h1, e _ _ h2, h3.mono e⟩⟩
/-- tuples -/
def rT1 {α : Type} (K : PySem.W.Frag) (r : Rp α) : Rp α := fun x => ⟨fun v G => ∃ a u, v = .ref a ∧ SqT K G a [u] ∧ (r x).p u G,
  fun e ⟨a, u, h1, h2, h3⟩ => ⟨a, u, h1, Same.sqT e h2, (r x).mono e h3⟩⟩
def rT2 {α β : Type} (K : PySem.W.Frag) (r1 : Rp α) (r2 : Rp β) : Rp (α × β) := fun x => ⟨fun v G => ∃ a u1 u2, v = .ref a ∧ SqT K G a [u1, u2] ∧ (r1 x.1).p u1 G ∧ (r2 x.2).p u2 G,
  fun e ⟨a, u1, u2, h1, h2, h3, h4⟩ => ⟨a, u1, u2, h1, Same.sqT e h2, (r1 _).mono e h3, (r2 _).mono e h4⟩⟩
def rT3 {α β γ : Type} (K : PySem.W.Frag) (r1 : Rp α) (r2 : Rp β) (r3 : Rp γ) : Rp (α × β × γ) := fun x => ⟨fun v G => ∃ a u1 u2 u3, v = .ref a ∧ SqT K G a [u1, u2, u3] ∧ (r1 x.1).p u1 G ∧ (r2 x.2.1).p u2 G ∧ (r3 x.2.2).p u3 G,
  fun e ⟨a, u1, u2, u3, h1, h2, h3, h4, h5⟩ => ⟨a, u1, u2, u3, h1, Same.sqT e h2, (r1 _).mono e h3, (r2 _).mono e h4, (r3 _).mono e h5⟩⟩
def rT4 {α β γ δ : Type} (K : PySem.W.Frag) (r1 : Rp α) (r2 : Rp β) (r3 : Rp γ) (r4 : Rp δ) : Rp (α × β × γ × δ) := fun x => ⟨fun v G => ∃ a u1 u2 u3 u4, v = .ref a ∧ SqT K G a [u1, u2, u3, u4] ∧ (r1 x.1).p u1 G ∧ (r2 x.2.1).p u2 G ∧ (r3 x.2.2.1).p u3 G ∧ (r4 x.2.2.2).p u4 G,
  fun e ⟨a, u1, u2, u3, u4, h1, h2, h3, h4, h5, h6⟩ => ⟨a, u1, u2, u3, u4, h1, Same.sqT e h2, (r1 _).mono e h3, (r2 _).mono e h4, (r3 _).mono e h5, (r4 _).mono e h6⟩⟩
def rT5 {α β γ δ ε : Type} (K : PySem.W.Frag) (r1 : Rp α) (r2 : Rp β) (r3 : Rp γ) (r4 : Rp δ) (r5 : Rp ε) : Rp (α × β × γ × δ × ε) := fun x => ⟨fun v G => ∃ a u1 u2 u3 u4 u5, v = .ref a ∧ SqT K G a [u1, u2, u3, u4, u5] ∧ (r1 x.1).p u1 G ∧ (r2 x.2.1).p u2 G ∧ (r3 x.2.2.1).p u3 G ∧ (r4 x.2.2.2.1).p u4 G ∧ (r5 x.2.2.2.2).p u5 G,
  fun e ⟨a, u1, u2, u3, u4, u5, h1, h2, h3, h4, h5, h6, h7⟩ => ⟨a, u1, u2, u3, u4, u5, h1, Same.sqT e h2, (r1 _).mono e h3, (r2 _).mono e h4, (r3 _).mono e h5, (r4 _).mono e h6, (r5 _).mono e h7⟩⟩
/-- None or a thing -/
def rO {α : Type} (r : Rp α) : Rp (Option α) := fun x => ⟨fun v G => match x with
    | none => v = .non
    | some y => (r y).p v G, fun {v G G'} e h => by
    cases x with
    | none => exact h
    | some y => exact (r y).mono e h⟩
/-- keys: texts, ints -/
structure KeyT (κ : Type) where
  f : κ → Key
  inj : ∀ {a b : κ}, f a = f b → a = b
def kS : KeyT Str := ⟨Sum.inr, fun h => Sum.inr.inj h⟩
def kI : KeyT Int := ⟨Sum.inl, fun h => Sum.inl.inj h⟩
def KeyT.rp {κ : Type} (k : KeyT κ) : Rp κ := fun x => ⟨fun v _ => v = kV (k.f x), fun _ h => h⟩
section
variable {κ α : Type} {k : KeyT κ}
/-- a dict's pairs; a dict that stands still is locked -/
def AllD (k : KeyT κ) (r : Rp α) (G : Hp) : List (Key × V) → List (κ × α) → Prop := Paired fun p q => p.1 = k.f q.1 ∧ (r q.2).p p.2 G
theorem AllD.mono {r : Rp α} {G G' : Hp} (e : Same G G') : ∀ {vs : List (Key × V)} {xs : List (κ × α)}, AllD k r G vs xs → AllD k r G' vs xs
  | _, _, .nil => .nil
  | _, _, .cons h t => .cons ⟨h.1, (r _).mono e h.2⟩ (AllD.mono e t)
theorem AllD.length {r : Rp α} {G : Hp} {vs : List (Key × V)} {xs : List (κ × α)} (h : AllD k r G vs xs) : vs.length = xs.length := Paired.length h
def cD (k : KeyT κ) (r : Rp α) : List (κ × α) → MP HO := fun xs => ⟨fun o G => ∃ vs, o = .dK vs ∧ AllD k r G vs xs, fun e ⟨vs, h1, h2⟩ => ⟨vs, h1, h2.mono e⟩⟩
def rD (k : KeyT κ) (r : Rp α) : Rp (List (κ × α)) := fun xs => ⟨fun v G => ∃ a od vs, v = .ref a ∧ G a = some (.frz od (.dK vs)) ∧ AllD k r G vs xs, fun e ⟨a, od, vs, h1, h2, h3⟩ => ⟨a, od, vs, h1, e _ _ h2, h3.mono e⟩⟩
end
/-! a dict in the mirror: its pairs in order -/
section
variable {κ α : Type} [DecidableEq κ]
def dget (d : List (κ × α)) (k : κ) : Option α := (d.find? fun kv => decide (kv.1 = k)).map (·.2)
def dput (d : List (κ × α)) (k : κ) (v : α) : List (κ × α) :=
  if (d.any fun kv => decide (kv.1 = k)) = true then d.map (fun kv => if kv.1 = k then (kv.1, v) else kv) else d ++ [(k, v)]
def dhas (d : List (κ × α)) (k : κ) : Bool := (dget d k).isSome
variable {kt : KeyT κ}
theorem AllD.get {r : Rp α} {G : Hp} (k : κ) : ∀ {vs : List (Key × V)} {xs : List (κ × α)}, AllD kt r G vs xs → (dget xs k = none ∧ valV vs (kt.f k) = none) ∨ ∃ x v, dget xs k = some x ∧ valV vs (kt.f k) = some v ∧ (r x).p v G
  | _, _, .nil => .inl ⟨rfl, rfl⟩
  | _, _, .cons (a := p) (b := q) h t => by
    by_cases e : q.1 = k
    · have e' : p.1 = kt.f k := by rw [h.1, e]
      exact .inr ⟨q.2, p.2, by simp [dget, List.find?_cons, e], valV_pos e', h.2⟩
    · have e' : ¬ p.1 = kt.f k := fun z => e (kt.inj (h.1.symm.trans z))
      have z := AllD.get k t
      have z2 : ∀ l : List (κ × α), dget (q :: l) k = dget l k := fun l => by simp [dget, List.find?_cons, e]
      rw [valV_neg e', z2]
      exact z
theorem AllD.any {r : Rp α} {G : Hp} (k : κ) : ∀ {vs : List (Key × V)} {xs : List (κ × α)}, AllD kt r G vs xs → (vs.any fun kv => decide (kv.1 = kt.f k)) = xs.any fun kv => decide (kv.1 = k)
  | _, _, .nil => rfl
  | _, _, .cons (a := p) (b := q) h t => by
    rw [List.any_cons, List.any_cons, AllD.any k t]
    by_cases e : q.1 = k
    · rw [decide_eq_true e, decide_eq_true (by rw [h.1, e])]
    · rw [decide_eq_false e, decide_eq_false fun z => e (kt.inj (h.1.symm.trans z))]
theorem AllD.map {r : Rp α} {G : Hp} {k : κ} {v : V} {x : α} (q : (r x).p v G) : ∀ {vs : List (Key × V)} {xs : List (κ × α)}, AllD kt r G vs xs →
    AllD kt r G (vs.map fun kv => if kv.1 = kt.f k then (kv.1, v) else kv) (xs.map fun kv => if kv.1 = k then (kv.1, x) else kv)
  | _, _, .nil => .nil
  | _, _, .cons (a := a) (b := b) h t => by
    refine .cons ?_ (AllD.map q t)
    dsimp only
    by_cases e : b.1 = k
    · have e' : a.1 = kt.f k := by rw [h.1, e]
      rw [if_pos e, if_pos e']
      exact ⟨h.1, q⟩
    · have e' : ¬ a.1 = kt.f k := fun z => e (kt.inj (h.1.symm.trans z))
      rw [if_neg e, if_neg e']
      exact h
theorem AllD.append {r : Rp α} {G : Hp} : ∀ {vs ws : List (Key × V)} {xs ys : List (κ × α)}, AllD kt r G vs xs → AllD kt r G ws ys → AllD kt r G (vs ++ ws) (xs ++ ys)
  | _, _, _, _, .nil, s => s
  | _, _, _, _, .cons h t, s => .cons h (AllD.append t s)
theorem AllD.put {r : Rp α} {G : Hp} {k : κ} {v : V} {x : α} (q : (r x).p v G) {vs : List (Key × V)} {xs : List (κ × α)} (h : AllD kt r G vs xs) : AllD kt r G (putK vs (kt.f k) v) (dput xs k x) := by
  unfold putK dput
  rw [h.any k]
  by_cases e : (xs.any fun kv => decide (kv.1 = k)) = true
  · rw [if_pos e, if_pos e]
    exact h.map q
  · rw [if_neg e, if_neg e]
    exact h.append (.cons ⟨rfl, q⟩ .nil)
end
/-! ### the state of a def's run -/
/-- at a def's entry: the heap, its still part, the part of the resource -/
structure Fm where
  H0 : Hp
  G0 : Hp
  B0 : Hp
structure Ok (F : Fm) (G B H : Hp) : Prop where
  gh : Same G H
  bh : Same B H
  dj : ∀ a o, G a = some o → B a = none
  g0 : Same F.G0 G
  up : ∀ a o, F.H0 a = some o → ∃ o', H a = some o'
  out : ∀ a o, F.H0 a = some o → F.B0 a = none → H a = some o
  gn : ∀ a o, F.H0 a = some o → F.G0 a = none → F.B0 a = none → G a = none
  bn : ∀ a o, F.H0 a = some o → F.B0 a = none → B a = none
/-- what is known of a slot: a value that stands still; a thing of one's own that may change -/
inductive Asn where
  | fz (A : MP V)
  | lv (L : MP HO)
abbrev Ctx := List (Option Asn)
structure Slots (F : Fm) (hd : Hp) (Γ : Ctx) (σ : St) (G B H : Hp) : Prop where
  len : Γ.length ≤ σ.length
  fz : ∀ (k : Nat) (A : MP V), Γ[k]? = some (some (.fz A)) → ∃ v, σ[k]? = some (some v) ∧ A.p v G
  lv : ∀ (k : Nat) (L : MP HO), Γ[k]? = some (some (.lv L)) → ∃ a o, σ[k]? = some (some (.ref a)) ∧ H a = some o ∧ L.p o G ∧ G a = none ∧ B a = none ∧ F.H0 a = none ∧ hd a = none
  ne : ∀ (k j : Nat) (L L' : MP HO) (a : Addr), Γ[k]? = some (some (.lv L)) → Γ[j]? = some (some (.lv L')) → σ[k]? = some (some (.ref a)) → σ[j]? = some (some (.ref a)) → k = j
/-- the address is none of the changing slots' -/
def Off (Γ : Ctx) (σ : St) (a : Addr) : Prop := ∀ (k : Nat) (L : MP HO), Γ[k]? = some (some (.lv L)) → σ[k]? ≠ some (some (.ref a))
/-- where a piece of text runs: W what is wanted of an error, hd things that are held meanwhile, E what stays known at an error (nothing of it changes), R the resource -/
structure Zc where
  X : Cx
  W : WX
  F : Fm
  hd : Hp
  E : List (Option (MP V))
  S : Type
  R : S → MP Hp
def SlotsE (E : List (Option (MP V))) (σ : St) (G : Hp) : Prop := E.length ≤ σ.length ∧ ∀ (k : Nat) (A : MP V), E[k]? = some (some A) → ∃ v, σ[k]? = some (some v) ∧ A.p v G
structure Sta (Z : Zc) (Γ : Ctx) (s : Z.S) (G B : Hp) (σ : St) (H : Hp) : Prop where
  ok : Ok Z.F G B H
  res : (Z.R s).p B G
  sl : Slots Z.F Z.hd Γ σ G B H
  sle : SlotsE Z.E σ G
  held : Same Z.hd H
  off : ∀ a o, Z.hd a = some o → G a = none ∧ B a = none ∧ Z.F.H0 a = none
/-- an error stands for e -/
def dtV : Dt → V → Prop
  | .int i, v => v = .int i
  | .str x, v => v = .str x
  | .non, v => v = .non
  | .ref, v => ∃ a, v = .ref a
def errIs (mg : Str → Option Value) (e : Er) (cls : Value) (d : Option Addr) (H : Hp) : Prop := match e with
  | .exc c fs => ∃ C, mg c = some (.ref C) ∧ cls = .ref C ∧ (fs = [] ∧ d = none ∨ ∃ dd vs, d = some dd ∧ H dd = some (.xd vs) ∧ Paired (fun v f => v.1 = f.1 ∧ dtV f.2 v.2) vs fs)
/-- what an expression hands on: a value that stands still, or a new thing of one's own -/
inductive Res (α : Type) where
  | fz (r : Rp α)
  | own (c : α → MP HO)
  | vw (k : Nat) (c : α → MP HO)
def Has (Z : Zc) (Γ : Ctx) (σ : St) {α : Type} (ρ : Res α) (x : α) (v : V) (G B H : Hp) : Prop := match ρ with
  | .fz r => (r x).p v G
  | .own c => ∃ a o, v = .ref a ∧ H a = some o ∧ (c x).p o G ∧ G a = none ∧ B a = none ∧ Z.F.H0 a = none ∧ Z.hd a = none ∧ Off Γ σ a
  | .vw k c => Γ[k]? = some (some (.lv (c x))) ∧ σ[k]? = some (some v)
/-- what is wanted of an outcome of an expression -/
def PostE (Z : Zc) (Γ : Ctx) {α : Type} (ρ : Res α) (σ : St) (Q : VK) (G : Hp) : Out Z.S α → Prop
  | .ok x s' => ∀ v H' G' B', Same G G' → Sta Z Γ s' G' B' σ H' → Has Z Γ σ ρ x v G' B' H' → Q v H'
  | .err e s' => ∀ cls d σ' H' G' B', Same G G' → Sta Z [] s' G' B' σ' H' → errIs Z.X.mg e cls d H' → Z.W cls d σ' H'
  | .stuck => False
def tE (Z : Zc) (Γ : Ctx) {α : Type} (m : M Z.S α) (ρ : Res α) : TE := fun σ H Q => ∃ s G B, Sta Z Γ s G B σ H ∧ PostE Z Γ ρ σ Q G (m s)
/-- THE JUDGEMENT of an expression: it gives what the mirror gives -/
structure JE (Z : Zc) (Γ : Ctx) (e : Expr) {α : Type} (m : M Z.S α) (ρ : Res α) : Prop where
  pe : PE Z.X e (tE Z Γ m ρ)
/-- of a test -/
def PostT (Z : Zc) (Γ : Ctx) (σ : St) (Q : Bool → Hp → Prop) (G : Hp) : Out Z.S Bool → Prop
  | .ok b s' => ∀ H' G' B', Same G G' → Sta Z Γ s' G' B' σ H' → Q b H'
  | .err e s' => ∀ cls d σ' H' G' B', Same G G' → Sta Z [] s' G' B' σ' H' → errIs Z.X.mg e cls d H' → Z.W cls d σ' H'
  | .stuck => False
def tT (Z : Zc) (Γ : Ctx) (m : M Z.S Bool) : TT := fun σ H Q => ∃ s G B, Sta Z Γ s G B σ H ∧ PostT Z Γ σ Q G (m s)
structure JT (Z : Zc) (Γ : Ctx) (e : Expr) (m : M Z.S Bool) : Prop where
  pt : PT Z.X e (tT Z Γ m)
/-- how a block ends: behind it, by a return, by break, by continue -/
inductive Fl (T U ρ : Type) where
  | nx (t : T)
  | rt (r : ρ)
  | bk (u : U)
  | ct (u : U)
/-- of a block: Γ' what is known behind it, Γb at a break or continue, ρr what it returns -/
def PostB (Z : Zc) {T U ρ : Type} (Γ' : T → Ctx) (Γb : U → Ctx) (ρr : Res ρ) (D : Ends) (G : Hp) : Out Z.S (Fl T U ρ) → Prop
  | .ok (.nx t) s' => ∀ σ' H' G' B', Same G G' → Sta Z (Γ' t) s' G' B' σ' H' → D.nx σ' H'
  | .ok (.rt r) s' => ∀ v σ' H' G' B', Same G G' → Sta Z [] s' G' B' σ' H' → Has Z [] σ' ρr r v G' B' H' → D.rt v H'
  | .ok (.bk u) s' => ∀ σ' H' G' B', Same G G' → Sta Z (Γb u) s' G' B' σ' H' → D.bk σ' H'
  | .ok (.ct u) s' => ∀ σ' H' G' B', Same G G' → Sta Z (Γb u) s' G' B' σ' H' → D.ct σ' H'
  | .err e s' => ∀ cls d σ' H' G' B', Same G G' → Sta Z [] s' G' B' σ' H' → errIs Z.X.mg e cls d H' → Z.W cls d σ' H'
  | .stuck => False
def tS (Z : Zc) (Γ : Ctx) {T U ρ : Type} (m : M Z.S (Fl T U ρ)) (Γ' : T → Ctx) (Γb : U → Ctx) (ρr : Res ρ) : TS := fun D σ H => ∃ s G B, Sta Z Γ s G B σ H ∧ PostB Z Γ' Γb ρr D G (m s)
structure JB (Z : Zc) (Γ : Ctx) (sts : List Stmt) {T U ρ : Type} (m : M Z.S (Fl T U ρ)) (Γ' : T → Ctx) (Γb : U → Ctx) (ρr : Res ρ) : Prop where
  ps : PSs Z.X sts (tS Z Γ m Γ' Γb ρr)
structure JS (Z : Zc) (Γ : Ctx) (st : Stmt) {T U ρ : Type} (m : M Z.S (Fl T U ρ)) (Γ' : T → Ctx) (Γb : U → Ctx) (ρr : Res ρ) : Prop where
  ps : PS Z.X st (tS Z Γ m Γ' Γb ρr)
/-! ### weakening -/
theorem PE.imp {X : Cx} {e : Expr} {t t' : TE} (h : PE X e t) (i : ∀ σ H Q, t' σ H Q → t σ H Q) : PE X e t' := ⟨fun pins s σ H Q I q => h.run pins s σ H Q I (i σ H Q q)⟩
theorem PT.imp {X : Cx} {e : Expr} {t t' : TT} (h : PT X e t) (i : ∀ σ H Q, t' σ H Q → t σ H Q) : PT X e t' := ⟨fun pins s σ H Q I q => h.run pins s σ H Q I (i σ H Q q)⟩
theorem PS.imp {X : Cx} {e : Stmt} {t t' : TS} (h : PS X e t) (i : ∀ D σ H, t' D σ H → t D σ H) : PS X e t' := ⟨fun pins s σ H D I q => h.run pins s σ H D I (i D σ H q)⟩
theorem PSs.imp {X : Cx} {e : List Stmt} {t t' : TS} (h : PSs X e t) (i : ∀ D σ H, t' D σ H → t D σ H) : PSs X e t' := ⟨fun pins s σ H D I q => h.run pins s σ H D I (i D σ H q)⟩
section
variable {Z : Zc} {Γ : Ctx} {α β : Type} {ρ : Res α} {σ : St} {G G1 B H : Hp}
theorem PostE.mono {Q : VK} {o : Out Z.S α} (e : Same G G1) (h : PostE Z Γ ρ σ Q G o) : PostE Z Γ ρ σ Q G1 o := by
  cases o with
  | ok x s => exact fun v H' G' B' q => h v H' G' B' (e.trans q)
  | err x s => exact fun cls d σ' H' G' B' q => h cls d σ' H' G' B' (e.trans q)
  | stuck => exact h
theorem PostT.mono {Q : Bool → Hp → Prop} {o : Out Z.S Bool} (e : Same G G1) (h : PostT Z Γ σ Q G o) : PostT Z Γ σ Q G1 o := by
  cases o with
  | ok x s => exact fun H' G' B' q => h H' G' B' (e.trans q)
  | err x s => exact fun cls d σ' H' G' B' q => h cls d σ' H' G' B' (e.trans q)
  | stuck => exact h
theorem PostB.mono {T U ρ : Type} {Γ' : T → Ctx} {Γb : U → Ctx} {ρr : Res ρ} {D : Ends} {o : Out Z.S (Fl T U ρ)} (e : Same G G1) (h : PostB Z Γ' Γb ρr D G o) : PostB Z Γ' Γb ρr D G1 o := by
  cases o with
  | ok x s => cases x with
    | nx t => exact fun σ' H' G' B' q => h σ' H' G' B' (e.trans q)
    | rt t => exact fun v σ' H' G' B' q => h v σ' H' G' B' (e.trans q)
    | bk t => exact fun σ' H' G' B' q => h σ' H' G' B' (e.trans q)
    | ct t => exact fun σ' H' G' B' q => h σ' H' G' B' (e.trans q)
  | err x s => exact fun cls d σ' H' G' B' q => h cls d σ' H' G' B' (e.trans q)
  | stuck => exact h
theorem PostE.imp {Q Q' : VK} {o : Out Z.S α} (h : PostE Z Γ ρ σ Q G o) (i : ∀ v H, Q v H → Q' v H) : PostE Z Γ ρ σ Q' G o := by
  cases o with
  | ok x s => exact fun v H' G' B' q r z => i _ _ (h v H' G' B' q r z)
  | err x s => exact h
  | stuck => exact h
theorem PostT.imp {Q Q' : Bool → Hp → Prop} {o : Out Z.S Bool} (h : PostT Z Γ σ Q G o) (i : ∀ v H, Q v H → Q' v H) : PostT Z Γ σ Q' G o := by
  cases o with
  | ok x s => exact fun H' G' B' q r => i _ _ (h H' G' B' q r)
  | err x s => exact h
  | stuck => exact h
theorem tE.imp {m : M Z.S α} {Q Q' : VK} (h : tE Z Γ m ρ σ H Q) (i : ∀ v H, Q v H → Q' v H) : tE Z Γ m ρ σ H Q' := by
  obtain ⟨s, G, B, st, q⟩ := h
  exact ⟨s, G, B, st, PostE.imp q i⟩
theorem tT.imp {m : M Z.S Bool} {Q Q' : Bool → Hp → Prop} (h : tT Z Γ m σ H Q) (i : ∀ v H, Q v H → Q' v H) : tT Z Γ m σ H Q' := by
  obtain ⟨s, G, B, st, q⟩ := h
  exact ⟨s, G, B, st, PostT.imp q i⟩
/-- the first of two: what comes behind it -/
theorem tE_bnd {m : M Z.S α} {f : α → M Z.S β} {ρ' : Res β} {s : Z.S} {Q : VK} (st : Sta Z Γ s G B σ H) (h : PostE Z Γ ρ' σ Q G (bnd m f s)) :
    tE Z Γ m ρ σ H fun v H1 => ∃ x s1 G1 B1, Same G G1 ∧ Sta Z Γ s1 G1 B1 σ H1 ∧ Has Z Γ σ ρ x v G1 B1 H1 ∧ PostE Z Γ ρ' σ Q G1 (f x s1) := by
  refine ⟨s, G, B, st, ?_⟩
  have h : PostE Z Γ ρ' σ Q G ((m s).bnd f) := h
  cases e : m s with
  | ok x s1 =>
    rw [e] at h
    exact fun v H1 G1 B1 g st1 hs => ⟨x, s1, G1, B1, g, st1, hs, PostE.mono g h⟩
  | err x s1 =>
    rw [e] at h
    exact h
  | stuck =>
    rw [e] at h
    exact h
theorem tE_bndT {m : M Z.S α} {f : α → M Z.S Bool} {s : Z.S} {Q : Bool → Hp → Prop} (st : Sta Z Γ s G B σ H) (h : PostT Z Γ σ Q G (bnd m f s)) :
    tE Z Γ m ρ σ H fun v H1 => ∃ x s1 G1 B1, Same G G1 ∧ Sta Z Γ s1 G1 B1 σ H1 ∧ Has Z Γ σ ρ x v G1 B1 H1 ∧ PostT Z Γ σ Q G1 (f x s1) := by
  refine ⟨s, G, B, st, ?_⟩
  have h : PostT Z Γ σ Q G ((m s).bnd f) := h
  cases e : m s with
  | ok x s1 =>
    rw [e] at h
    exact fun v H1 G1 B1 g st1 hs => ⟨x, s1, G1, B1, g, st1, hs, PostT.mono g h⟩
  | err x s1 =>
    rw [e] at h
    exact h
  | stuck =>
    rw [e] at h
    exact h
theorem tE_bndB {T U ρ1 : Type} {Γ' : T → Ctx} {Γb : U → Ctx} {ρr : Res ρ1} {D : Ends} {m : M Z.S α} {f : α → M Z.S (Fl T U ρ1)} {s : Z.S} (st : Sta Z Γ s G B σ H) (h : PostB Z Γ' Γb ρr D G (bnd m f s)) :
    tE Z Γ m ρ σ H fun v H1 => ∃ x s1 G1 B1, Same G G1 ∧ Sta Z Γ s1 G1 B1 σ H1 ∧ Has Z Γ σ ρ x v G1 B1 H1 ∧ PostB Z Γ' Γb ρr D G1 (f x s1) := by
  refine ⟨s, G, B, st, ?_⟩
  have h : PostB Z Γ' Γb ρr D G ((m s).bnd f) := h
  cases e : m s with
  | ok x s1 =>
    rw [e] at h
    exact fun v H1 G1 B1 g st1 hs => ⟨x, s1, G1, B1, g, st1, hs, PostB.mono g h⟩
  | err x s1 =>
    rw [e] at h
    exact h
  | stuck =>
    rw [e] at h
    exact h
theorem tT_bndB {T U ρ1 : Type} {Γ' : T → Ctx} {Γb : U → Ctx} {ρr : Res ρ1} {D : Ends} {m : M Z.S Bool} {f : Bool → M Z.S (Fl T U ρ1)} {s : Z.S} (st : Sta Z Γ s G B σ H) (h : PostB Z Γ' Γb ρr D G (bnd m f s)) :
    tT Z Γ m σ H fun x H1 => ∃ s1 G1 B1, Same G G1 ∧ Sta Z Γ s1 G1 B1 σ H1 ∧ PostB Z Γ' Γb ρr D G1 (f x s1) := by
  refine ⟨s, G, B, st, ?_⟩
  have h : PostB Z Γ' Γb ρr D G ((m s).bnd f) := h
  cases e : m s with
  | ok x s1 =>
    rw [e] at h
    exact fun H1 G1 B1 g st1 => ⟨s1, G1, B1, g, st1, PostB.mono g h⟩
  | err x s1 =>
    rw [e] at h
    exact h
  | stuck =>
    rw [e] at h
    exact h
theorem tT_bndE {m : M Z.S Bool} {f : Bool → M Z.S α} {s : Z.S} {Q : VK} (st : Sta Z Γ s G B σ H) (h : PostE Z Γ ρ σ Q G (bnd m f s)) :
    tT Z Γ m σ H fun x H1 => ∃ s1 G1 B1, Same G G1 ∧ Sta Z Γ s1 G1 B1 σ H1 ∧ PostE Z Γ ρ σ Q G1 (f x s1) := by
  refine ⟨s, G, B, st, ?_⟩
  have h : PostE Z Γ ρ σ Q G ((m s).bnd f) := h
  cases e : m s with
  | ok x s1 =>
    rw [e] at h
    exact fun H1 G1 B1 g st1 => ⟨s1, G1, B1, g, st1, PostE.mono g h⟩
  | err x s1 =>
    rw [e] at h
    exact h
  | stuck =>
    rw [e] at h
    exact h
theorem tT_bndT {m : M Z.S Bool} {f : Bool → M Z.S Bool} {s : Z.S} {Q : Bool → Hp → Prop} (st : Sta Z Γ s G B σ H) (h : PostT Z Γ σ Q G (bnd m f s)) :
    tT Z Γ m σ H fun x H1 => ∃ s1 G1 B1, Same G G1 ∧ Sta Z Γ s1 G1 B1 σ H1 ∧ PostT Z Γ σ Q G1 (f x s1) := by
  refine ⟨s, G, B, st, ?_⟩
  have h : PostT Z Γ σ Q G ((m s).bnd f) := h
  cases e : m s with
  | ok x s1 =>
    rw [e] at h
    exact fun H1 G1 B1 g st1 => ⟨s1, G1, B1, g, st1, PostT.mono g h⟩
  | err x s1 =>
    rw [e] at h
    exact h
  | stuck =>
    rw [e] at h
    exact h
end
/-! ### arguments that are not starred -/
def plainE : Expr → Bool
  | .Starred _ _ => false
  | _ => true
theorem star_of {e : Expr} {es : List Expr} {env : Env} (h : plainE e = true) : starEach (e :: es) env = (false, eval e env) :: starEach es env := by
  cases e with
  | Starred _ _ => cases h
  | _ => rfl
end DL
set_option Elab.async false
set_option linter.all false
set_option maxRecDepth 100000
namespace DL
open PySem L2
/-! ### heaps -/
theorem Same.upd_new {G : Hp} {p : Addr} {o : HO} (h : G p = none) : Same G (upd G p o) := fun b u e => by
  rw [upd_ne (ne_of_none e h)]
  exact e
theorem Same.upd2 {G H : Hp} {p : Addr} {o : HO} (h : Same G H) : Same (upd G p o) (upd H p o) := fun b u e => by
  by_cases q : b = p
  · subst q
    rw [upd_same] at e ⊢
    exact e
  · rw [upd_ne q] at e ⊢
    exact h b u e
theorem Same.upd_r {G H : Hp} {p : Addr} {o : HO} (h : Same G H) (n : G p = none) : Same G (upd H p o) := fun b u e => by
  rw [upd_ne (ne_of_none e n)]
  exact h b u e
theorem Same.upd_l {G H : Hp} {p : Addr} {o : HO} (h : Same G H) (e : H p = some o) : Same (upd G p o) H := fun b u q => by
  by_cases z : b = p
  · subst z
    rw [upd_same] at q
    rw [e]
    exact q
  · rw [upd_ne z] at q
    exact h b u q
section
variable {F : Fm} {G B H : Hp} {p : Addr} {o : HO}
theorem Ok.refl {F : Fm} (gh : Same F.G0 F.H0) (bh : Same F.B0 F.H0) (dj : ∀ a o, F.G0 a = some o → F.B0 a = none) : Ok F F.G0 F.B0 F.H0 :=
  ⟨gh, bh, dj, Same.refl _, fun a o e => ⟨o, e⟩, fun _ _ e _ => e, fun _ _ _ e _ => e, fun _ _ _ e => e⟩
theorem Ok.fresh (h : Ok F G B H) (n : H p = none) : F.H0 p = none := by
  cases e : F.H0 p with
  | none => rfl
  | some o =>
    obtain ⟨o', q⟩ := h.up p o e
    rw [n] at q
    cases q
theorem Ok.laidG (h : Ok F G B H) (n : H p = none) : Ok F (upd G p o) B (upd H p o) where
  gh := Same.upd2 h.gh
  bh := Same.upd_r h.bh (Same.free h.bh n)
  dj := fun a u e => by
    by_cases q : a = p
    · subst q
      exact Same.free h.bh n
    · rw [upd_ne q] at e
      exact h.dj a u e
  g0 := fun a u e => by
    rw [upd_ne (ne_of_none (h.g0 a u e) (Same.free h.gh n))]
    exact h.g0 a u e
  up := fun a u e => by
    obtain ⟨o', q⟩ := h.up a u e
    exact ⟨o', by rw [upd_ne (ne_of_none q n)]; exact q⟩
  out := fun a u e b => by
    have q := h.out a u e b
    rw [upd_ne (ne_of_none q n)]
    exact q
  gn := fun a u e g b => by
    obtain ⟨o', q⟩ := h.up a u e
    rw [upd_ne (ne_of_none q n)]
    exact h.gn a u e g b
  bn := h.bn
theorem Ok.laid (h : Ok F G B H) (n : H p = none) : Ok F G B (upd H p o) where
  gh := Same.upd_r h.gh (Same.free h.gh n)
  bh := Same.upd_r h.bh (Same.free h.bh n)
  dj := h.dj
  g0 := h.g0
  up := fun a u e => by
    obtain ⟨o', q⟩ := h.up a u e
    exact ⟨o', by rw [upd_ne (ne_of_none q n)]; exact q⟩
  out := fun a u e b => by
    have q := h.out a u e b
    rw [upd_ne (ne_of_none q n)]
    exact q
  gn := h.gn
  bn := h.bn
/-- a thing of one's own becomes still -/
theorem Ok.still (h : Ok F G B H) (e : H p = some o) (gp : G p = none) (bp : B p = none) (hp : F.H0 p = none) : Ok F (upd G p o) B H where
  gh := Same.upd_l h.gh e
  bh := h.bh
  dj := fun a u q => by
    by_cases z : a = p
    · subst z
      exact bp
    · rw [upd_ne z] at q
      exact h.dj a u q
  g0 := fun a u q => by
    have q' := h.g0 a u q
    rw [upd_ne (ne_of_none q' gp)]
    exact q'
  up := h.up
  out := h.out
  gn := fun a u q g b => by
    rw [upd_ne (ne_of_none q hp)]
    exact h.gn a u q g b
  bn := h.bn
/-- a thing of one's own changes -/
theorem Ok.change {o' : HO} (h : Ok F G B H) (gp : G p = none) (bp : B p = none) (hp : F.H0 p = none) : Ok F G B (upd H p o') where
  gh := Same.upd_r h.gh gp
  bh := Same.upd_r h.bh bp
  dj := h.dj
  g0 := h.g0
  up := fun a u e => by
    obtain ⟨w, q⟩ := h.up a u e
    exact ⟨w, by rw [upd_ne (ne_of_none e hp)]; exact q⟩
  out := fun a u e b => by
    rw [upd_ne (ne_of_none e hp)]
    exact h.out a u e b
  gn := h.gn
  bn := h.bn
/-- behind a call -/
theorem Ok.call {G' B' H' : Hp} (h : Ok F G B H) (c : Ok ⟨H, G, B⟩ G' B' H') : Ok F G' B' H' where
  gh := c.gh
  bh := c.bh
  dj := c.dj
  g0 := h.g0.trans c.g0
  up := fun a u e => by
    obtain ⟨o', q⟩ := h.up a u e
    exact c.up a o' q
  out := fun a u e b => c.out a u (h.out a u e b) (h.bn a u e b)
  gn := fun a u e g b => by
    obtain ⟨o', q⟩ := h.up a u e
    exact c.gn a o' q (h.gn a u e g b) (h.bn a u e b)
  bn := fun a u e b => c.bn a u (h.out a u e b) (h.bn a u e b)
end
section
variable {Z : Zc} {Γ : Ctx} {s s' : Z.S} {G G' B B' : Hp} {σ : St} {H H' : Hp} {p : Addr} {o : HO}
theorem Sta.laidG (h : Sta Z Γ s G B σ H) (n : H p = none) : Sta Z Γ s (upd G p o) B σ (upd H p o) := by
  have g : Same G (upd G p o) := Same.upd_new (Same.free h.ok.gh n)
  refine ⟨h.ok.laidG n, (Z.R s).mono g h.res, ⟨h.sl.len, fun k A e => ?_, fun k L e => ?_, h.sl.ne⟩, ⟨h.sle.1, fun k A e => ?_⟩, Same.upd_r h.held (Same.free h.held n), fun a u e => ?_⟩
  · obtain ⟨v, h1, h2⟩ := h.sl.fz k A e
    exact ⟨v, h1, A.mono g h2⟩
  · obtain ⟨a, u, h1, h2, h3, h4, h5, h6⟩ := h.sl.lv k L e
    have ne : a ≠ p := ne_of_none h2 n
    exact ⟨a, u, h1, by rw [upd_ne ne]; exact h2, L.mono g h3, by rw [upd_ne ne]; exact h4, h5, h6⟩
  · obtain ⟨v, h1, h2⟩ := h.sle.2 k A e
    exact ⟨v, h1, A.mono g h2⟩
  · obtain ⟨h1, h2⟩ := h.off a u e
    exact ⟨by rw [upd_ne (ne_of_none (h.held a u e) n)]; exact h1, h2⟩
theorem Sta.laid (h : Sta Z Γ s G B σ H) (n : H p = none) : Sta Z Γ s G B σ (upd H p o) := by
  refine ⟨h.ok.laid n, h.res, ⟨h.sl.len, h.sl.fz, fun k L e => ?_, h.sl.ne⟩, h.sle, Same.upd_r h.held (Same.free h.held n), h.off⟩
  obtain ⟨a, u, h1, h2, h3, h4, h5, h6⟩ := h.sl.lv k L e
  exact ⟨a, u, h1, by rw [upd_ne (ne_of_none h2 n)]; exact h2, h3, h4, h5, h6⟩
theorem Sta.offP (h : Sta Z Γ s G B σ H) (n : H p = none) : Off Γ σ p := fun k L e q => by
  obtain ⟨a, u, h1, h2, _⟩ := h.sl.lv k L e
  rw [q] at h1
  have z : p = a := by
    injection h1 with h1
    injection h1 with h1
    injection h1
  rw [← z, n] at h2
  cases h2
/-- a new thing of one's own -/
theorem Sta.own (h : Sta Z Γ s G B σ H) (n : H p = none) {α : Type} {c : α → MP HO} {x : α} (hc : (c x).p o G) : Has Z Γ σ (.own c) x (.ref p) G B (upd H p o) :=
  ⟨p, o, rfl, upd_same, hc, Same.free h.ok.gh n, Same.free h.ok.bh n, h.ok.fresh n, Same.free h.held n, h.offP n⟩
theorem Sta.still (h : Sta Z Γ s G B σ H) (e : H p = some o) (gp : G p = none) (bp : B p = none) (hp : Z.F.H0 p = none) (hh : Z.hd p = none) (f : Off Γ σ p) : Sta Z Γ s (upd G p o) B σ H := by
  have g : Same G (upd G p o) := Same.upd_new gp
  refine ⟨h.ok.still e gp bp hp, (Z.R s).mono g h.res, ⟨h.sl.len, fun k A q => ?_, fun k L q => ?_, h.sl.ne⟩, ⟨h.sle.1, fun k A q => ?_⟩, h.held, fun a u q => ?_⟩
  · obtain ⟨v, h1, h2⟩ := h.sl.fz k A q
    exact ⟨v, h1, A.mono g h2⟩
  · obtain ⟨a, u, h1, h2, h3, h4, h5, h6⟩ := h.sl.lv k L q
    have ne : a ≠ p := fun z => f k L q (by rw [← z]; exact h1)
    exact ⟨a, u, h1, h2, L.mono g h3, by rw [upd_ne ne]; exact h4, h5, h6⟩
  · obtain ⟨v, h1, h2⟩ := h.sle.2 k A q
    exact ⟨v, h1, A.mono g h2⟩
  · obtain ⟨h1, h2⟩ := h.off a u q
    exact ⟨by rw [upd_ne (ne_of_none q hh)]; exact h1, h2⟩
theorem Sta.call (h : Sta Z Γ s G B σ H) (c : Ok ⟨H, G, B⟩ G' B' H') (r : (Z.R s').p B' G') : Sta Z Γ s' G' B' σ H' := by
  refine ⟨h.ok.call c, r, ⟨h.sl.len, fun k A q => ?_, fun k L q => ?_, h.sl.ne⟩, ⟨h.sle.1, fun k A q => ?_⟩, fun a u q => ?_, fun a u q => ?_⟩
  · obtain ⟨v, h1, h2⟩ := h.sl.fz k A q
    exact ⟨v, h1, A.mono c.g0 h2⟩
  · obtain ⟨a, u, h1, h2, h3, h4, h5, h6⟩ := h.sl.lv k L q
    exact ⟨a, u, h1, c.out a u h2 h5, L.mono c.g0 h3, c.gn a u h2 h4 h5, c.bn a u h2 h5, h6⟩
  · obtain ⟨v, h1, h2⟩ := h.sle.2 k A q
    exact ⟨v, h1, A.mono c.g0 h2⟩
  · exact c.out a u (h.held a u q) (h.off a u q).2.1
  · obtain ⟨h1, h2, h3⟩ := h.off a u q
    exact ⟨c.gn a u (h.held a u q) h1 h2, c.bn a u (h.held a u q) h2, h3⟩
/-- less is known -/
def Le (Γ Γ' : Ctx) : Prop := Γ'.length ≤ Γ.length ∧ ∀ (k : Nat) (x : Asn), Γ'[k]? = some (some x) → Γ[k]? = some (some x)
theorem Le.refl (Γ : Ctx) : Le Γ Γ := ⟨Nat.le_refl _, fun _ _ h => h⟩
theorem Le.nil {Γ : Ctx} : Le Γ [] := ⟨Nat.zero_le _, fun k x h => by simp at h⟩
theorem Le.none {a : Option Asn} {Γ Γ' : Ctx} (h : Le Γ Γ') : Le (a :: Γ) (none :: Γ') := ⟨Nat.succ_le_succ h.1, fun k x q => by
  cases k with
  | zero => simp at q
  | succ k => simpa using h.2 k x (by simpa using q)⟩
theorem Le.some {a : Option Asn} {Γ Γ' : Ctx} (h : Le Γ Γ') : Le (a :: Γ) (a :: Γ') := ⟨Nat.succ_le_succ h.1, fun k x q => by
  cases k with
  | zero => simpa using q
  | succ k => simpa using h.2 k x (by simpa using q)⟩
theorem Sta.weak {Γ' : Ctx} (h : Sta Z Γ s G B σ H) (l : Le Γ Γ') : Sta Z Γ' s G B σ H :=
  ⟨h.ok, h.res, ⟨Nat.le_trans l.1 h.sl.len, fun k A q => h.sl.fz k A (l.2 k _ q), fun k L q => h.sl.lv k L (l.2 k _ q), fun k j L L' a q1 q2 => h.sl.ne k j L L' a (l.2 k _ q1) (l.2 j _ q2)⟩, h.sle, h.held, h.off⟩
theorem Sta.nil (h : Sta Z Γ s G B σ H) : Sta Z [] s G B σ H := h.weak Le.nil
/-- a slot that the error's part does not speak of -/
def NoE (E : List (Option (MP V))) (k : Nat) : Prop := ∀ A, E[k]? ≠ some (some A)
theorem NoE.nil {k : Nat} : NoE [] k := fun A h => by simp at h
theorem NoE.one {k : Nat} {A0 : Option (MP V)} : NoE [A0] (k + 1) := fun A h => by simp at h
theorem NoE.ones {A0 : Option (MP V)} {ks : List Nat} (h : ks.all (fun k => decide (0 < k)) = true) : ∀ k ∈ ks, NoE [A0] k := fun k hk => by
  have z := of_decide_eq_true (List.all_eq_true.mp h k hk)
  cases k with
  | zero => cases z
  | succ k => exact NoE.one
theorem set_at {α : Type} {l : List α} {k j : Nat} {x y : α} (h : (l.set k x)[j]? = some y) : (j = k ∧ x = y) ∨ (j ≠ k ∧ l[j]? = some y) := by
  by_cases e : j = k
  · subst e
    rw [List.getElem?_set] at h
    by_cases z : j < l.length
    · simp [z] at h
      exact .inl ⟨rfl, h⟩
    · simp [z] at h
  · rw [List.getElem?_set_ne (Ne.symm e)] at h
    exact .inr ⟨e, h⟩
/-- a name is stored -/
theorem Sta.set {k : Nat} {A : MP V} {v : V} (h : Sta Z Γ s G B σ H) (hk : k < Γ.length) (hE : NoE Z.E k) (q : A.p v G) : Sta Z (Γ.set k (some (.fz A))) s G B (σ.set k (some v)) H := by
  have hk' : k < σ.length := Nat.lt_of_lt_of_le hk h.sl.len
  refine ⟨h.ok, h.res, ⟨by rw [List.length_set, List.length_set]; exact h.sl.len, fun j A' e => ?_, fun j L e => ?_, fun j i L L' a e1 e2 q1 q2 => ?_⟩, ⟨by rw [List.length_set]; exact h.sle.1, fun j A' e => ?_⟩, h.held, h.off⟩
  · rcases set_at e with ⟨rfl, z⟩ | ⟨n, z⟩
    · injection z with z
      injection z with z
      subst z
      exact ⟨v, by rw [List.getElem?_set_self hk'], q⟩
    · obtain ⟨w, h1, h2⟩ := h.sl.fz j A' z
      exact ⟨w, by rw [List.getElem?_set_ne (Ne.symm n)]; exact h1, h2⟩
  · rcases set_at e with ⟨rfl, z⟩ | ⟨n, z⟩
    · injection z with z
      injection z
    · obtain ⟨a, u, h1, r⟩ := h.sl.lv j L z
      exact ⟨a, u, by rw [List.getElem?_set_ne (Ne.symm n)]; exact h1, r⟩
  · rcases set_at e1 with ⟨rfl, z⟩ | ⟨n, z⟩
    · injection z with z
      injection z
    · rcases set_at e2 with ⟨rfl, z2⟩ | ⟨n2, z2⟩
      · injection z2 with z2
        injection z2
      · rw [List.getElem?_set_ne (Ne.symm n)] at q1
        rw [List.getElem?_set_ne (Ne.symm n2)] at q2
        exact h.sl.ne j i L L' a z z2 q1 q2
  · have n : j ≠ k := fun z => hE A' (by rw [← z]; exact e)
    obtain ⟨w, h1, h2⟩ := h.sle.2 j A' e
    exact ⟨w, by rw [List.getElem?_set_ne (Ne.symm n)]; exact h1, h2⟩
/-- a name is stored, a thing of one's own -/
theorem Sta.setO {k : Nat} {α : Type} {c : α → MP HO} {x : α} {v : V} (h : Sta Z Γ s G B σ H) (hk : k < Γ.length) (hE : NoE Z.E k) (q : Has Z Γ σ (.own c) x v G B H) : Sta Z (Γ.set k (some (.lv (c x)))) s G B (σ.set k (some v)) H := by
  obtain ⟨p, o, rfl, e, hc, gp, bp, hp, hh, f⟩ := q
  have hk' : k < σ.length := Nat.lt_of_lt_of_le hk h.sl.len
  refine ⟨h.ok, h.res, ⟨by rw [List.length_set, List.length_set]; exact h.sl.len, fun j A' e => ?_, fun j L e' => ?_, fun j i L L' a e1 e2 q1 q2 => ?_⟩, ⟨by rw [List.length_set]; exact h.sle.1, fun j A' e => ?_⟩, h.held, h.off⟩
  · rcases set_at e with ⟨rfl, z⟩ | ⟨n, z⟩
    · injection z with z
      injection z
    · obtain ⟨w, h1, h2⟩ := h.sl.fz j A' z
      exact ⟨w, by rw [List.getElem?_set_ne (Ne.symm n)]; exact h1, h2⟩
  · rcases set_at e' with ⟨rfl, z⟩ | ⟨n, z⟩
    · injection z with z
      injection z with z
      subst z
      exact ⟨p, o, by rw [List.getElem?_set_self hk'], e, hc, gp, bp, hp, hh⟩
    · obtain ⟨a, u, h1, r⟩ := h.sl.lv j L z
      exact ⟨a, u, by rw [List.getElem?_set_ne (Ne.symm n)]; exact h1, r⟩
  · rcases set_at e1 with ⟨rfl, z⟩ | ⟨n, z⟩
    · rcases set_at e2 with ⟨rfl, z2⟩ | ⟨n2, z2⟩
      · rfl
      · rw [List.getElem?_set_self hk'] at q1
        rw [List.getElem?_set_ne (Ne.symm n2)] at q2
        injection q1 with q1
        injection q1 with q1
        injection q1 with q1
        rw [← q1] at q2
        exact (f i L' z2 q2).elim
    · rcases set_at e2 with ⟨rfl, z2⟩ | ⟨n2, z2⟩
      · rw [List.getElem?_set_self hk'] at q2
        rw [List.getElem?_set_ne (Ne.symm n)] at q1
        injection q2 with q2
        injection q2 with q2
        injection q2 with q2
        rw [← q2] at q1
        exact (f j L z q1).elim
      · rw [List.getElem?_set_ne (Ne.symm n)] at q1
        rw [List.getElem?_set_ne (Ne.symm n2)] at q2
        exact h.sl.ne j i L L' a z z2 q1 q2
  · have n : j ≠ k := fun z => hE A' (by rw [← z]; exact e)
    obtain ⟨w, h1, h2⟩ := h.sle.2 j A' e
    exact ⟨w, by rw [List.getElem?_set_ne (Ne.symm n)]; exact h1, h2⟩
/-- the thing of one's own in slot k changes -/
theorem Sta.change {k : Nat} {L L' : MP HO} {o' : HO} (h : Sta Z Γ s G B σ H) (hk : Γ[k]? = some (some (.lv L))) (hs : σ[k]? = some (some (.ref p))) (q : L'.p o' G) : Sta Z (Γ.set k (some (.lv L'))) s G B σ (upd H p o') := by
  obtain ⟨a, u, h1, h2, h3, gp, bp, hp, hh⟩ := h.sl.lv k L hk
  have ea : a = p := by
    rw [hs] at h1
    injection h1 with h1
    injection h1 with h1
    injection h1 with h1
    exact h1.symm
  subst ea
  refine ⟨h.ok.change gp bp hp, h.res, ⟨by rw [List.length_set]; exact h.sl.len, fun j A' e => ?_, fun j L1 e' => ?_, fun j i L1 L2 b e1 e2 q1 q2 => ?_⟩, h.sle, Same.upd_r h.held hh, h.off⟩
  · rcases set_at e with ⟨rfl, z⟩ | ⟨n, z⟩
    · injection z with z
      injection z
    · exact h.sl.fz j A' z
  · rcases set_at e' with ⟨rfl, z⟩ | ⟨n, z⟩
    · injection z with z
      injection z with z
      subst z
      exact ⟨a, o', hs, upd_same, q, gp, bp, hp, hh⟩
    · obtain ⟨b, w, r1, r2, r3⟩ := h.sl.lv j L1 z
      have ne : b ≠ a := fun y => n (h.sl.ne j k L1 L a z hk (by rw [← y]; exact r1) hs)
      exact ⟨b, w, r1, by rw [upd_ne ne]; exact r2, r3⟩
  · have back : ∀ (j : Nat) (L1 : MP HO), (Γ.set k (some (.lv L')))[j]? = some (some (.lv L1)) → ∃ L2, Γ[j]? = some (some (.lv L2)) := fun j L1 e => by
      rcases set_at e with ⟨rfl, z⟩ | ⟨n, z⟩
      · exact ⟨L, hk⟩
      · exact ⟨L1, z⟩
    obtain ⟨M1, z1⟩ := back j L1 e1
    obtain ⟨M2, z2⟩ := back i L2 e2
    exact h.sl.ne j i M1 M2 b z1 z2 q1 q2
/-- the thing of one's own in slot k becomes still -/
theorem Sta.stillAt {k : Nat} {L : MP HO} {A : MP V} (h : Sta Z Γ s G B σ H) (hk : Γ[k]? = some (some (.lv L))) (hA : ∀ a o G1, σ[k]? = some (some (.ref a)) → L.p o G → G1 = upd G a o → Same G G1 → A.p (.ref a) G1) : ∃ G1, Same G G1 ∧ Sta Z (Γ.set k (some (.fz A))) s G1 B σ H := by
  obtain ⟨a, u, h1, h2, h3, gp, bp, hp, hh⟩ := h.sl.lv k L hk
  have g : Same G (upd G a u) := Same.upd_new gp
  refine ⟨upd G a u, g, h.ok.still h2 gp bp hp, (Z.R s).mono g h.res, ⟨by rw [List.length_set]; exact h.sl.len, fun j A' e => ?_, fun j L1 e' => ?_, fun j i L1 L2 b e1 e2 q1 q2 => ?_⟩, ⟨h.sle.1, fun j A' e => ?_⟩, h.held, fun b w q => ?_⟩
  · rcases set_at e with ⟨rfl, z⟩ | ⟨n, z⟩
    · injection z with z
      injection z with z
      subst z
      exact ⟨_, h1, hA a u _ h1 h3 rfl g⟩
    · obtain ⟨w, h4, h5⟩ := h.sl.fz j A' z
      exact ⟨w, h4, A'.mono g h5⟩
  · rcases set_at e' with ⟨rfl, z⟩ | ⟨n, z⟩
    · injection z with z
      injection z
    · obtain ⟨b, w, r1, r2, r3, r4, r5⟩ := h.sl.lv j L1 z
      have ne : b ≠ a := fun y => n (h.sl.ne j k L1 L a z hk (by rw [← y]; exact r1) h1)
      exact ⟨b, w, r1, r2, L1.mono g r3, by rw [upd_ne ne]; exact r4, r5⟩
  · rcases set_at e1 with ⟨rfl, z⟩ | ⟨n, z⟩
    · injection z with z
      injection z
    · rcases set_at e2 with ⟨rfl, z2⟩ | ⟨n2, z2⟩
      · injection z2 with z2
        injection z2
      · exact h.sl.ne j i L1 L2 b z z2 q1 q2
  · obtain ⟨w, h4, h5⟩ := h.sle.2 j A' e
    exact ⟨w, h4, A'.mono g h5⟩
  · obtain ⟨h1, h2⟩ := h.off b w q
    exact ⟨by rw [upd_ne (ne_of_none q hh)]; exact h1, h2⟩
/-- a dict of one's own in slot k is locked for good (ahead: its content's heap) -/
theorem Sta.lockAt {k : Nat} {L : MP HO} {A : MP V} {o' : HO} (h : Sta Z Γ s G B σ H) (hk : Γ[k]? = some (some (.lv L))) (hs : σ[k]? = some (some (.ref p))) (hA : ∀ G1, G1 = upd G p o' → Same G G1 → A.p (.ref p) G1) : ∃ G1, Same G G1 ∧ Sta Z (Γ.set k (some (.fz A))) s G1 B σ (upd H p o') := by
  have h2 := h.change (L' := ⟨fun o _ => o = o', fun _ q => q⟩) hk hs rfl
  have hk2 : (Γ.set k (some (.lv ⟨fun o _ => o = o', fun _ q => q⟩)))[k]? = some (some (.lv ⟨fun o _ => o = o', fun _ q => q⟩)) := by
    rw [List.getElem?_set_self (List.getElem?_eq_some_iff.mp hk).1]
  obtain ⟨a, u, e1, e2, e3, gp, r⟩ := h2.sl.lv k _ hk2
  have ea : a = p := by
    rw [hs] at e1
    injection e1 with e1
    injection e1 with e1
    injection e1 with e1
    exact e1.symm
  subst ea
  have e3 : u = o' := e3
  subst e3
  have z := h2.stillAt (A := A) hk2 fun b o G1 hb (ho : o = u) e1 g => by
    have eb : b = a := by
      rw [hs] at hb
      injection hb with hb
      injection hb with hb
      injection hb with hb
      exact hb.symm
    rw [eb, ho] at e1
    rw [eb]
    exact hA G1 e1 g
  rw [List.set_set] at z
  exact z
end
end DL
set_option Elab.async false
set_option linter.all false
set_option maxRecDepth 100000
namespace DL
open PySem L2
/-- what every piece of text may lean on -/
structure ZOk (Z : Zc) : Prop where
  calm : Z.X.calm = true
  own : PassesOwn (model Z.X.prog Z.X.w) Z.X.A Z.X.env Z.X.xe
  nd : Z.X.N.Nodup
  tk : Takes Z.X Z.W
section
variable {Z : Zc} {Γ : Ctx} {α β γ : Type} {a b c : Expr} {pos : Pos}
/-! ### names and constants -/
theorem JE.of_ret {e : Expr} {x : α} {ρ : Res α} {t : TE} (h : PE Z.X e t) (i : ∀ s G B σ H (Q : VK), Sta Z Γ s G B σ H → (∀ v H' G' B', Same G G' → Sta Z Γ s G' B' σ H' → Has Z Γ σ ρ x v G' B' H' → Q v H') → t σ H Q) : JE Z Γ e (ret x) ρ :=
  ⟨PE.imp h fun σ H Q ⟨s, G, B, st, q⟩ => i s G B σ H Q st q⟩
theorem je_var {n : Str} {r : Rp α} {x : α} (k : Nat) (hk : Γ[k]? = some (some (.fz (r x)))) (hp : PE Z.X (.Name n pos) (tVar k)) : JE Z Γ (.Name n pos) (ret x) (.fz r) :=
  JE.of_ret hp fun s G B σ H Q st q => by
    obtain ⟨v, h1, h2⟩ := st.sl.fz k _ hk
    exact ⟨v, h1, q v H G B (Same.refl _) st h2⟩
theorem je_int {i : Int} {j : Nat} : JE Z Γ (.Constant (.int i) j pos) (ret i) (.fz rI) :=
  JE.of_ret pe_int fun s G B σ H Q st q => q _ H G B (Same.refl _) st rfl
theorem je_str {x : Str} {j : Nat} : JE Z Γ (.Constant (.str x) j pos) (ret x) (.fz rS) :=
  JE.of_ret pe_str fun s G B σ H Q st q => q _ H G B (Same.refl _) st rfl
theorem je_bl {x : Bool} {j : Nat} : JE Z Γ (.Constant (.bool x) j pos) (ret x) (.fz rB) :=
  JE.of_ret pe_bl fun s G B σ H Q st q => q _ H G B (Same.refl _) st rfl
theorem je_non {j : Nat} : JE Z Γ (.Constant .none j pos) (ret ()) (.fz rU) :=
  JE.of_ret pe_non fun s G B σ H Q st q => q _ H G B (Same.refl _) st rfl
/-- None where a thing may stand -/
theorem je_noneO {j : Nat} {r : Rp α} : JE Z Γ (.Constant .none j pos) (ret (none : Option α)) (.fz (rO r)) :=
  JE.of_ret pe_non fun s G B σ H Q st q => q _ H G B (Same.refl _) st rfl
/-- a thing where None may stand -/
theorem je_someO {e : Expr} {m : M Z.S α} {r : Rp α} (h : JE Z Γ e m (.fz r)) : JE Z Γ e (bnd m fun x => ret (some x)) (.fz (rO r)) :=
  ⟨PE.imp h.pe fun σ H Q ⟨s, G, B, st, q⟩ => by
    refine ⟨s, G, B, st, ?_⟩
    have q : PostE Z Γ (.fz (rO r)) σ Q G ((m s).bnd fun x => ret (some x)) := q
    cases e : m s with
    | ok x s1 =>
      rw [e] at q
      exact fun v H' G' B' g st' hs => q v H' G' B' g st' hs
    | err x s1 =>
      rw [e] at q
      exact q
    | stuck =>
      rw [e] at q
      exact q⟩
theorem je_glob {n : Str} {r : Rp α} {x : α} {v : V} {u : Value} (hg : Gl Z.X n) (hm : Z.X.mg n = some u) (rv : RelV v u) (hr : ∀ G, (r x).p v G) (hd : (n == ("__debug__" : Str)) = false := by decide) : JE Z Γ (.Name n pos) (ret x) (.fz r) :=
  JE.of_ret (pe_glob hg hm rv hd) fun s G B σ H Q st q => q _ H G B (Same.refl _) st (hr G)
/-! ### two operands -/
theorem je_two {e : Expr} {r : R2} {ma : M Z.S α} {mb : M Z.S β} {ρa : Rp α} {ρb : Rp β} (f : α → β → M Z.S γ) (ρ : Res γ) (hp : ∀ ta tb, PE Z.X a ta → PE Z.X b tb → PE Z.X e (tOp r ta tb)) (ha : JE Z Γ a ma (.fz ρa)) (hb : JE Z Γ b mb (.fz ρb))
    (h : ∀ x y v w s G B σ H (Q : VK), Sta Z Γ s G B σ H → (ρa x).p v G → (ρb y).p w G → PostE Z Γ ρ σ Q G (f x y s) → r v w H Q) : JE Z Γ e (bnd ma fun x => bnd mb fun y => f x y) ρ :=
  ⟨PE.imp (hp _ _ ha.pe hb.pe) fun σ H Q ⟨s, G, B, st, q⟩ => by
    refine tE.imp (tE_bnd (ρ := .fz ρa) st q) ?_
    rintro v H1 ⟨x, s1, G1, B1, g1, st1, hx, q1⟩
    refine tE.imp (tE_bnd (ρ := .fz ρb) st1 q1) ?_
    rintro w H2 ⟨y, s3, G3, B3, g3, st3, hy, q3⟩
    exact h x y v w s3 G3 B3 σ H2 Q st3 ((ρa x).mono g3 hx) hy q3⟩
theorem jt_two {e : Expr} {r : R2} {ma : M Z.S α} {mb : M Z.S β} {ρa : Rp α} {ρb : Rp β} (f : α → β → M Z.S Bool) (hp : ∀ ta tb, PE Z.X a ta → PE Z.X b tb → PT Z.X e (tTest (tOp r ta tb))) (ha : JE Z Γ a ma (.fz ρa)) (hb : JE Z Γ b mb (.fz ρb))
    (h : ∀ x y v w s G B σ H (Q : VK), Sta Z Γ s G B σ H → (ρa x).p v G → (ρb y).p w G → PostE Z Γ (.fz rB) σ Q G (f x y s) → r v w H Q) : JT Z Γ e (bnd ma fun x => bnd mb fun y => f x y) :=
  ⟨PT.imp (hp _ _ ha.pe hb.pe) fun σ H Q ⟨s, G, B, st, q⟩ => by
    refine tE.imp (tE_bndT (ρ := .fz ρa) st q) ?_
    rintro v H1 ⟨x, s1, G1, B1, g1, st1, hx, q1⟩
    refine tE.imp (tE_bndT (ρ := .fz ρb) st1 q1) ?_
    rintro w H2 ⟨y, s3, G3, B3, g3, st3, hy, q3⟩
    refine h x y v w s3 G3 B3 σ H2 _ st3 ((ρa x).mono g3 hx) hy ?_
    revert q3
    cases f x y s3 with
    | ok z s4 => exact fun q3 v' H' G' B' g st' (hs : v' = .bl z) => ⟨z, hs, q3 H' G' B' g st'⟩
    | err z s4 => exact fun q3 => q3
    | stuck => exact fun q3 => q3⟩
/-- behind an expression: one more step -/
theorem je_one {e e' : Expr} {t' : TE → TE} {m : M Z.S α} {ρa : Res α} (f : α → M Z.S γ) (ρ : Res γ) (hp : ∀ ta, PE Z.X e ta → PE Z.X e' (t' ta)) (ht : ∀ ta σ H Q, t' ta σ H Q = ta σ H fun v H1 => t' (fun _ H2 Q2 => Q2 v H2) σ H1 Q) (ha : JE Z Γ e m ρa)
    (h : ∀ x v s G B σ H (Q : VK), Sta Z Γ s G B σ H → Has Z Γ σ ρa x v G B H → PostE Z Γ ρ σ Q G (f x s) → t' (fun _ H2 Q2 => Q2 v H2) σ H Q) : JE Z Γ e' (bnd m f) ρ :=
  ⟨PE.imp (hp _ ha.pe) fun σ H Q ⟨s, G, B, st, q⟩ => by
    rw [ht]
    refine tE.imp (tE_bnd (ρ := ρa) st q) ?_
    rintro v H1 ⟨x, s1, G1, B1, g1, st1, hx, q1⟩
    exact h x v s1 G1 B1 σ H1 Q st1 hx q1⟩
variable {ma mb mc : M Z.S Int}
theorem fin {x : α} {ρ : Res α} {s : Z.S} {G B : Hp} {σ : St} {H : Hp} {Q : VK} (q : PostE Z Γ ρ σ Q G (ret x s)) (st : Sta Z Γ s G B σ H) {v : V} (h : Has Z Γ σ ρ x v G B H) : Q v H := q v H G B (Same.refl _) st h
/-- a condition stands ahead -/
theorem grd_of {b : Bool} {f : Unit → M Z.S α} {ρ : Res α} {s : Z.S} {G : Hp} {σ : St} {Q : VK} (q : PostE Z Γ ρ σ Q G (bnd (grd b) f s)) : b = true ∧ PostE Z Γ ρ σ Q G (f () s) := by
  cases b with
  | true => exact ⟨rfl, q⟩
  | false => exact q.elim
theorem opt_of {o : Option α} {f : α → M Z.S β} {ρ : Res β} {s : Z.S} {G : Hp} {σ : St} {Q : VK} (q : PostE Z Γ ρ σ Q G (bnd (opt o) f s)) : ∃ x, o = some x ∧ PostE Z Γ ρ σ Q G (f x s) := by
  cases o with
  | some x => exact ⟨x, rfl, q⟩
  | none => exact q.elim
theorem opt_of' {o : Option α} {ρ : Res α} {s : Z.S} {G : Hp} {σ : St} {Q : VK} (q : PostE Z Γ ρ σ Q G (opt o s)) : ∃ x, o = some x ∧ PostE Z Γ ρ σ Q G (ret x s) := by
  cases o with
  | some x => exact ⟨x, rfl, q⟩
  | none => exact q.elim
/-! ### whole numbers -/
theorem je_add (ha : JE Z Γ a ma (.fz rI)) (hb : JE Z Γ b mb (.fz rI)) : JE Z Γ (.BinOp a .Add b pos) (bnd ma fun x => bnd mb fun y => ret (x + y)) (.fz rI) :=
  je_two (fun x y => ret (x + y)) (.fz rI) (fun _ _ p q => pe_op op_add p q) ha hb fun x y v w s G B σ H Q st hv hw q => ⟨x, y, hv, hw, fin q st rfl⟩
theorem je_sub (ha : JE Z Γ a ma (.fz rI)) (hb : JE Z Γ b mb (.fz rI)) : JE Z Γ (.BinOp a .Sub b pos) (bnd ma fun x => bnd mb fun y => ret (x - y)) (.fz rI) :=
  je_two (fun x y => ret (x - y)) (.fz rI) (fun _ _ p q => pe_op op_sub p q) ha hb fun x y v w s G B σ H Q st hv hw q => ⟨x, y, hv, hw, fin q st rfl⟩
/-- a factor within 64 bits -/
def small64B (i : Int) : Bool := decide (-(2 ^ 64) < i) && decide (i < 2 ^ 64)
theorem small64B_ok {i : Int} (h : small64B i = true) : -(2 ^ 64) < i ∧ i < 2 ^ 64 := by
  have z := Bool.and_eq_true_iff.mp h
  exact ⟨of_decide_eq_true z.1, of_decide_eq_true z.2⟩
def mulM {S : Type} (x y : Int) : M S Int := bnd (grd (small64B x || small64B y)) fun _ => ret (x * y)
theorem je_mul (ha : JE Z Γ a ma (.fz rI)) (hb : JE Z Γ b mb (.fz rI)) : JE Z Γ (.BinOp a .Mult b pos) (bnd ma fun x => bnd mb fun y => mulM x y) (.fz rI) :=
  je_two (fun x y => mulM x y) (.fz rI) (fun _ _ p q => pe_op op_mul p q) ha hb fun x y v w s G B σ H Q st hv hw q => by
    obtain ⟨c, q⟩ := grd_of q
    refine ⟨x, y, hv, hw, ?_, fin q st rfl⟩
    rcases Bool.or_eq_true_iff.mp c with c | c
    · exact .inl (small64B_ok c)
    · exact .inr (small64B_ok c)
def modM {S : Type} (x y : Int) : M S Int := bnd (grd (decide (0 < y))) fun _ => ret (x % y)
theorem je_mod (ha : JE Z Γ a ma (.fz rI)) (hb : JE Z Γ b mb (.fz rI)) : JE Z Γ (.BinOp a .Mod b pos) (bnd ma fun x => bnd mb fun y => modM x y) (.fz rI) :=
  je_two (fun x y => modM x y) (.fz rI) (fun _ _ p q => pe_op op_mod p q) ha hb fun x y v w s G B σ H Q st hv hw q => by
    obtain ⟨c, q⟩ := grd_of q
    exact ⟨x, y, hv, hw, of_decide_eq_true c, fin q st rfl⟩
def fdivM {S : Type} (x y : Int) : M S Int := bnd (grd (decide (0 < y) && decide (y < 1073741824))) fun _ => ret (x / y)
theorem je_fdiv (ha : JE Z Γ a ma (.fz rI)) (hb : JE Z Γ b mb (.fz rI)) : JE Z Γ (.BinOp a .FloorDiv b pos) (bnd ma fun x => bnd mb fun y => fdivM x y) (.fz rI) :=
  je_two (fun x y => fdivM x y) (.fz rI) (fun _ _ p q => pe_op op_fdiv p q) ha hb fun x y v w s G B σ H Q st hv hw q => by
    obtain ⟨c, q⟩ := grd_of q
    have z := Bool.and_eq_true_iff.mp c
    exact ⟨x, y, hv, hw, ⟨of_decide_eq_true z.1, of_decide_eq_true z.2⟩, fin q st rfl⟩
theorem je_neg (ha : JE Z Γ a ma (.fz rI)) : JE Z Γ (.UnaryOp .USub a pos) (bnd ma fun x => ret (-x)) (.fz rI) :=
  je_one (t' := tUn (L2.rU fun i => .int (-i))) (fun x => ret (-x)) (.fz rI) (fun _ p => pe_un un_neg p) (fun _ _ _ _ => rfl) ha fun x v s G B σ H Q st hv q => ⟨x, hv, fin q st rfl⟩
/-! ### comparisons -/
section
variable {r : R2} {op : CmpOp}
theorem je_cmp {ma : M Z.S α} {mb : M Z.S β} {ρa : Rp α} {ρb : Rp β} (f : α → β → Bool) (ho : OpR Z.X (compareOp op) r) (hm : ∀ e, behindInMarks op e = false) (h : ∀ x y v w s G B σ H (Q : VK), Sta Z Γ s G B σ H → (ρa x).p v G → (ρb y).p w G → Q (.bl (f x y)) H → r v w H Q)
    (ha : JE Z Γ a ma (.fz ρa)) (hb : JE Z Γ b mb (.fz ρb)) : JE Z Γ (.Compare a [op] [b] pos) (bnd ma fun x => bnd mb fun y => ret (f x y)) (.fz rB) :=
  je_two (fun x y => ret (f x y)) (.fz rB) (fun _ _ p q => pe_cmpR ho p q (hm _)) ha hb fun x y v w s G B σ H Q st hv hw q => h x y v w s G B σ H Q st hv hw (fin q st rfl)
theorem jt_cmp {ma : M Z.S α} {mb : M Z.S β} {ρa : Rp α} {ρb : Rp β} (f : α → β → Bool) (ho : OpR Z.X (compareOp op) r) (hm : ∀ e, behindInMarks op e = false) (h : ∀ x y v w s G B σ H (Q : VK), Sta Z Γ s G B σ H → (ρa x).p v G → (ρb y).p w G → Q (.bl (f x y)) H → r v w H Q)
    (ha : JE Z Γ a ma (.fz ρa)) (hb : JE Z Γ b mb (.fz ρb)) : JT Z Γ (.Compare a [op] [b] pos) (bnd ma fun x => bnd mb fun y => ret (f x y)) :=
  jt_two (fun x y => ret (f x y)) (fun _ _ p q => pt_cmpR ho p q (hm _)) ha hb fun x y v w s G B σ H Q st hv hw q => h x y v w s G B σ H Q st hv hw (fin q st rfl)
end
/-- the comparisons of whole numbers, texts, bools, as rules of two values -/
structure CmpOk (Z : Zc) (Γ : Ctx) (op : CmpOp) (ρa : Rp α) (ρb : Rp β) (f : α → β → Bool) : Prop where
  ex : ∃ r : R2, OpR Z.X (compareOp op) r ∧ ∀ x y v w s G B σ H (Q : VK), Sta Z Γ s G B σ H → (ρa x).p v G → (ρb y).p w G → Q (.bl (f x y)) H → r v w H Q
theorem je_c {op : CmpOp} {f : α → β → Bool} {ρa : Rp α} {ρb : Rp β} {ma : M Z.S α} {mb : M Z.S β} (c : CmpOk Z Γ op ρa ρb f) (ha : JE Z Γ a ma (.fz ρa)) (hb : JE Z Γ b mb (.fz ρb)) (hm : ∀ e, behindInMarks op e = false := by exact fun e => nomark e) :
    JE Z Γ (.Compare a [op] [b] pos) (bnd ma fun x => bnd mb fun y => ret (f x y)) (.fz rB) := by
  obtain ⟨r, ho, h⟩ := c.ex
  exact je_cmp f ho hm h ha hb
theorem jt_c {op : CmpOp} {f : α → β → Bool} {ρa : Rp α} {ρb : Rp β} {ma : M Z.S α} {mb : M Z.S β} (c : CmpOk Z Γ op ρa ρb f) (ha : JE Z Γ a ma (.fz ρa)) (hb : JE Z Γ b mb (.fz ρb)) (hm : ∀ e, behindInMarks op e = false := by exact fun e => nomark e) :
    JT Z Γ (.Compare a [op] [b] pos) (bnd ma fun x => bnd mb fun y => ret (f x y)) := by
  obtain ⟨r, ho, h⟩ := c.ex
  exact jt_cmp f ho hm h ha hb
theorem c_lt : CmpOk Z Γ .Lt rI rI fun x y => decide (x < y) := ⟨_, op_lt, fun x y v w s G B σ H Q st hv hw q => ⟨x, y, hv, hw, q⟩⟩
theorem c_le : CmpOk Z Γ .LtE rI rI fun x y => decide (x ≤ y) := ⟨_, op_le, fun x y v w s G B σ H Q st hv hw q => ⟨x, y, hv, hw, q⟩⟩
theorem c_gt : CmpOk Z Γ .Gt rI rI fun x y => decide (y < x) := ⟨_, op_gt, fun x y v w s G B σ H Q st hv hw q => ⟨x, y, hv, hw, q⟩⟩
theorem c_ge : CmpOk Z Γ .GtE rI rI fun x y => decide (y ≤ x) := ⟨_, op_ge, fun x y v w s G B σ H Q st hv hw q => ⟨x, y, hv, hw, q⟩⟩
theorem dec_int' (x y : Int) : decide (V.int x = V.int y) = decide (x = y) := by
  by_cases h : x = y
  · subst h; simp
  · rw [decide_eq_false h, decide_eq_false fun z => h (V.int.inj z)]
theorem dec_str' (x y : Str) : decide (V.str x = V.str y) = decide (x = y) := by
  by_cases h : x = y
  · subst h; simp
  · rw [decide_eq_false h, decide_eq_false fun z => h (V.str.inj z)]
theorem dec_bl' (x y : Bool) : decide (V.bl x = V.bl y) = decide (x = y) := by
  by_cases h : x = y
  · subst h; simp
  · rw [decide_eq_false h, decide_eq_false fun z => h (V.bl.inj z)]
theorem c_eqI : CmpOk Z Γ .Eq rI rI fun x y => decide (x = y) := ⟨_, op_eq, fun x y v w s G B σ H Q st (hv : v = .int x) (hw : w = .int y) q => by
  subst hv hw
  exact ⟨rfl, by rw [dec_int']; exact q⟩⟩
theorem c_neI : CmpOk Z Γ .NotEq rI rI fun x y => !decide (x = y) := ⟨_, op_ne, fun x y v w s G B σ H Q st (hv : v = .int x) (hw : w = .int y) q => by
  subst hv hw
  exact ⟨rfl, by rw [dec_int']; exact q⟩⟩
theorem c_eqS : CmpOk Z Γ .Eq rS rS fun x y => decide (x = y) := ⟨_, op_eq, fun x y v w s G B σ H Q st (hv : v = .str x) (hw : w = .str y) q => by
  subst hv hw
  exact ⟨rfl, by rw [dec_str']; exact q⟩⟩
theorem c_neS : CmpOk Z Γ .NotEq rS rS fun x y => !decide (x = y) := ⟨_, op_ne, fun x y v w s G B σ H Q st (hv : v = .str x) (hw : w = .str y) q => by
  subst hv hw
  exact ⟨rfl, by rw [dec_str']; exact q⟩⟩
theorem c_eqB : CmpOk Z Γ .Eq rB rB fun x y => decide (x = y) := ⟨_, op_eq, fun x y v w s G B σ H Q st (hv : v = .bl x) (hw : w = .bl y) q => by
  subst hv hw
  exact ⟨rfl, by rw [dec_bl']; exact q⟩⟩
theorem c_neB : CmpOk Z Γ .NotEq rB rB fun x y => !decide (x = y) := ⟨_, op_ne, fun x y v w s G B σ H Q st (hv : v = .bl x) (hw : w = .bl y) q => by
  subst hv hw
  exact ⟨rfl, by rw [dec_bl']; exact q⟩⟩
/-! ### tests -/
theorem jt_val {e : Expr} {m : M Z.S Bool} (h : JE Z Γ e m (.fz rB)) (he : ∀ whole, isTrue e Z.X.env whole = (do let v ← whole; standAt e.pos; holding [v] (truthy v)) := by intro _; rfl) : JT Z Γ e m :=
  ⟨PT.imp (pt_val h.pe he) fun σ H Q ⟨s, G, B, st, q⟩ => by
    refine ⟨s, G, B, st, ?_⟩
    revert q
    cases m s with
    | ok x s1 => exact fun q v H' G' B' g st' (hs : v = .bl x) => ⟨x, hs, q H' G' B' g st'⟩
    | err x s1 => exact fun q => q
    | stuck => exact fun q => q⟩
theorem jt_not {m : M Z.S Bool} (h : JT Z Γ a m) : JT Z Γ (.UnaryOp .Not a pos) (bnd m fun x => ret (!x)) :=
  ⟨PT.imp (pt_not h.pt) fun σ H Q ⟨s, G, B, st, q⟩ => by
    refine tT.imp (tT_bndT st q) ?_
    rintro x H1 ⟨s1, G1, B1, g1, st1, q1⟩
    exact q1 H1 G1 B1 (Same.refl _) st1⟩
/-- a chain of and, or -/
structure JW (Z : Zc) (Γ : Ctx) (e : Expr) (m : M Z.S Bool) : Prop where
  pw : PW Z.X e (tT Z Γ m)
theorem JW.jt {e : Expr} {m : M Z.S Bool} (h : JW Z Γ e m) : JT Z Γ e m := ⟨h.pw.pt⟩
theorem PW.imp {X : Cx} {e : Expr} {t t' : TT} (h : PW X e t) (i : ∀ σ H Q, t' σ H Q → t σ H Q) : PW X e t' := ⟨fun wh pins s σ H Q I q => h.run wh pins s σ H Q I (i σ H Q q)⟩
variable {rest : List Expr} {m1 m2 : M Z.S Bool}
theorem jw_and1 (h : JT Z Γ a m1) : JW Z Γ (.BoolOp .And [a] pos) m1 := ⟨pw_and1 h.pt⟩
theorem jw_or1 (h : JT Z Γ a m1) : JW Z Γ (.BoolOp .Or [a] pos) m1 := ⟨pw_or1 h.pt⟩
theorem jw_and (h : JT Z Γ a m1) (h2 : JW Z Γ (.BoolOp .And (b :: rest) pos) m2) : JW Z Γ (.BoolOp .And (a :: b :: rest) pos) (bnd m1 fun x => if x then m2 else ret false) :=
  ⟨PW.imp (pw_and h.pt h2.pw) fun σ H Q ⟨s, G, B, st, q⟩ => by
    refine tT.imp (tT_bndT st q) ?_
    rintro x H1 ⟨s1, G1, B1, g1, st1, q1⟩
    cases x with
    | true => exact ⟨s1, G1, B1, st1, q1⟩
    | false => exact q1 H1 G1 B1 (Same.refl _) st1⟩
theorem jw_or (h : JT Z Γ a m1) (h2 : JW Z Γ (.BoolOp .Or (b :: rest) pos) m2) : JW Z Γ (.BoolOp .Or (a :: b :: rest) pos) (bnd m1 fun x => if x then ret true else m2) :=
  ⟨PW.imp (pw_or h.pt h2.pw) fun σ H Q ⟨s, G, B, st, q⟩ => by
    refine tT.imp (tT_bndT st q) ?_
    rintro x H1 ⟨s1, G1, B1, g1, st1, q1⟩
    cases x with
    | true => exact q1 H1 G1 B1 (Same.refl _) st1
    | false => exact ⟨s1, G1, B1, st1, q1⟩⟩
/-- .. as values -/
theorem je_b1 {op : BoolOp} (h : JE Z Γ a m1 (.fz rB)) : JE Z Γ (.BoolOp op [a] pos) m1 (.fz rB) := ⟨pe_one h.pe⟩
theorem je_and (h : JE Z Γ a m1 (.fz rB)) (h2 : JE Z Γ (.BoolOp .And (b :: rest) pos) m2 (.fz rB)) : JE Z Γ (.BoolOp .And (a :: b :: rest) pos) (bnd m1 fun x => if x then m2 else ret false) (.fz rB) :=
  ⟨PE.imp (pe_and h.pe h2.pe) fun σ H Q ⟨s, G, B, st, q⟩ => by
    refine tE.imp (tE_bnd (ρ := .fz rB) st q) ?_
    rintro v H1 ⟨x, s1, G1, B1, g1, st1, hx, q1⟩
    refine ⟨x, hx, ?_⟩
    cases x with
    | true => exact ⟨s1, G1, B1, st1, q1⟩
    | false => exact q1 _ H1 G1 B1 (Same.refl _) st1 rfl⟩
theorem je_or (h : JE Z Γ a m1 (.fz rB)) (h2 : JE Z Γ (.BoolOp .Or (b :: rest) pos) m2 (.fz rB)) : JE Z Γ (.BoolOp .Or (a :: b :: rest) pos) (bnd m1 fun x => if x then ret true else m2) (.fz rB) :=
  ⟨PE.imp (pe_or h.pe h2.pe) fun σ H Q ⟨s, G, B, st, q⟩ => by
    refine tE.imp (tE_bnd (ρ := .fz rB) st q) ?_
    rintro v H1 ⟨x, s1, G1, B1, g1, st1, hx, q1⟩
    refine ⟨x, hx, ?_⟩
    cases x with
    | true => exact q1 _ H1 G1 B1 (Same.refl _) st1 rfl
    | false => exact ⟨s1, G1, B1, st1, q1⟩⟩
theorem je_notV (h : JE Z Γ a m1 (.fz rB)) : JE Z Γ (.UnaryOp .Not a pos) (bnd m1 fun x => ret (!x)) (.fz rB) :=
  je_one (t' := tNotV) (fun x => ret (!x)) (.fz rB) (fun _ p => pe_not p) (fun _ _ _ _ => rfl) h fun x v s G B σ H Q st hv q => ⟨x, hv, fin q st rfl⟩
/-- a if c else b -/
theorem je_if {m1 : M Z.S Bool} {ma mb : M Z.S α} {ρ : Res α} (hc : JT Z Γ c m1) (ha : JE Z Γ a ma ρ) (hb : JE Z Γ b mb ρ) : JE Z Γ (.IfExp c a b pos) (bnd m1 fun x => if x then ma else mb) ρ :=
  ⟨PE.imp (pe_ifExp hc.pt ha.pe hb.pe) fun σ H Q ⟨s, G, B, st, q⟩ => by
    refine tT.imp (tT_bndE st q) ?_
    rintro x H1 ⟨s1, G1, B1, g1, st1, q1⟩
    cases x with
    | true => exact ⟨s1, G1, B1, st1, q1⟩
    | false => exact ⟨s1, G1, B1, st1, q1⟩⟩
/-- a op b op' c -/
theorem jt_chain {op op' : CmpOp} {f g : Int → Int → Bool} (ho : OpR Z.X (compareOp op) (rI0 fun x y => .bl (f x y))) (ho' : OpR Z.X (compareOp op') (rI0 fun x y => .bl (g x y))) (ha : JE Z Γ a ma (.fz rI)) (hb : JE Z Γ b mb (.fz rI)) (hc : JE Z Γ c mc (.fz rI))
    (hm : lastMarks [op, op'] [b, c] = false := by with_unfolding_all rfl) :
    JT Z Γ (.Compare a [op, op'] [b, c] pos) (bnd ma fun x => bnd mb fun y => if f x y then bnd mc fun z => ret (g y z) else ret false) :=
  ⟨PT.imp (pt_chain ho ho' ha.pe hb.pe hc.pe hm) fun σ H Q ⟨s, G, B, st, q⟩ => by
    refine tE.imp (tE_bndT (ρ := .fz rI) st q) ?_
    rintro v H1 ⟨x, s1, G1, B1, g1, st1, hx, q1⟩
    refine tE.imp (tE_bndT (ρ := .fz rI) st1 q1) ?_
    rintro w H2 ⟨y, s2, G2, B2, g2, st2, hy, q2⟩
    refine ⟨x, y, hx, hy, _, rfl, ?_⟩
    revert q2
    cases f x y with
    | true =>
      intro q2
      show (tE Z Γ mc (.fz rI)) σ H2 _
      refine tE.imp (tE_bndT (ρ := .fz rI) st2 q2) ?_
      rintro u H3 ⟨z, s3, G3, B3, g3, st3, hz, q3⟩
      exact ⟨y, z, hy, hz, _, rfl, q3 H3 G3 B3 (Same.refl _) st3⟩
    | false =>
      intro q2
      exact ⟨_, rfl, q2 H2 G2 B2 (Same.refl _) st2⟩⟩
theorem je_chain {op op' : CmpOp} {f g : Int → Int → Bool} (ho : OpR Z.X (compareOp op) (rI0 fun x y => .bl (f x y))) (ho' : OpR Z.X (compareOp op') (rI0 fun x y => .bl (g x y))) (ha : JE Z Γ a ma (.fz rI)) (hb : JE Z Γ b mb (.fz rI)) (hc : JE Z Γ c mc (.fz rI))
    (hm : lastMarks [op, op'] [b, c] = false := by with_unfolding_all rfl) :
    JE Z Γ (.Compare a [op, op'] [b, c] pos) (bnd ma fun x => bnd mb fun y => if f x y then bnd mc fun z => ret (g y z) else ret false) (.fz rB) :=
  ⟨PE.imp (pe_chain ho ho' ha.pe hb.pe hc.pe hm) fun σ H Q ⟨s, G, B, st, q⟩ => by
    refine tE.imp (tE_bnd (ρ := .fz rI) st q) ?_
    rintro v H1 ⟨x, s1, G1, B1, g1, st1, hx, q1⟩
    refine tE.imp (tE_bnd (ρ := .fz rI) st1 q1) ?_
    rintro w H2 ⟨y, s2, G2, B2, g2, st2, hy, q2⟩
    refine ⟨x, y, hx, hy, _, rfl, ?_⟩
    revert q2
    cases f x y with
    | true =>
      intro q2
      show (tE Z Γ mc (.fz rI)) σ H2 _
      refine tE.imp (tE_bnd (ρ := .fz rI) st2 q2) ?_
      rintro u H3 ⟨z, s3, G3, B3, g3, st3, hz, q3⟩
      exact ⟨y, z, hy, hz, q3 _ H3 G3 B3 (Same.refl _) st3 rfl⟩
    | false =>
      intro q2
      exact q2 _ H2 G2 B2 (Same.refl _) st2 rfl⟩
end
end DL
set_option Elab.async false
set_option linter.all false
set_option maxRecDepth 100000
namespace DL
open PySem L2
section
variable {Z : Zc} {Γ : Ctx} {α β γ : Type} {e a b : Expr} {es : List Expr} {pos : Pos}
/-! ### arguments -/
/-- a list of arguments: mk k is the mirror of «the arguments, then k» -/
structure JA (Z : Zc) (Γ : Ctx) (es : List Expr) {α : Type} (mk : (β : Type) → (α → M Z.S β) → M Z.S β) (ra : α → List V → Hp → Prop) : Prop where
  ex : ∃ t : TA, PA Z.X es t ∧ ∀ {β : Type} {k : α → M Z.S β} {ρ : Res β} {s : Z.S} {G B : Hp} {σ : St} {H : Hp} {Q : VK} {R : List V → Hp → Prop}, Sta Z Γ s G B σ H → PostE Z Γ ρ σ Q G (mk β k s) →
    (∀ vs H1 x s1 G1 B1, Same G G1 → Sta Z Γ s1 G1 B1 σ H1 → ra x vs G1 → PostE Z Γ ρ σ Q G1 (k x s1) → R vs H1) → t σ H R
  mono : ∀ {x : α} {vs : List V} {G G' : Hp}, Same G G' → ra x vs G → ra x vs G'
  len : ∀ {x : α} {vs : List V} {G : Hp}, ra x vs G → vs.length = es.length
def raN : Unit → List V → Hp → Prop := fun _ vs _ => vs = []
def raC {α β : Type} (r : Rp α) (ra : β → List V → Hp → Prop) : α × β → List V → Hp → Prop := fun p vs G => ∃ v ws, vs = v :: ws ∧ (r p.1).p v G ∧ ra p.2 ws G
theorem ja_nil : JA Z Γ [] (fun _ k => k ()) raN :=
  ⟨⟨tNil, pa_nil, fun {β k ρ s G B σ H Q R} st q h => h [] H () s G B (Same.refl _) st rfl q⟩, fun _ h => h, fun {x vs G} h => by
    have h : vs = [] := h
    rw [h]
    rfl⟩
theorem ja_cons {m : M Z.S α} {r : Rp α} {mk : (γ : Type) → (β → M Z.S γ) → M Z.S γ} {ra : β → List V → Hp → Prop} (h : JE Z Γ e m (.fz r)) (hr : JA Z Γ es mk ra) (hs : starEach (e :: es) Z.X.env = (false, eval e Z.X.env) :: starEach es Z.X.env := by exact star_of rfl) :
    JA Z Γ (e :: es) (fun δ k => bnd m fun x => mk δ fun y => k (x, y)) (raC r ra) := by
  obtain ⟨t, ht, hq⟩ := hr.ex
  refine ⟨⟨tCons _ t, pa_cons h.pe ht hs, fun {δ k ρ s G B σ H Q R} st q hR => ?_⟩, fun g ⟨v, ws, h1, h2, h3⟩ => ⟨v, ws, h1, (r _).mono g h2, hr.mono g h3⟩, fun ⟨v, ws, h1, h2, h3⟩ => by rw [h1, List.length_cons, List.length_cons, hr.len h3]⟩
  refine tE.imp (tE_bnd (ρ := .fz r) st q) ?_
  rintro v H1 ⟨x, s1, G1, B1, g1, st1, hx, q1⟩
  refine hq st1 q1 fun ws H2 y s2 G2 B2 g2 st2 hy q2 => ?_
  exact hR (v :: ws) H2 (x, y) s2 G2 B2 (g1.trans g2) st2 ⟨v, ws, rfl, (r x).mono g2 hx, hy⟩ q2
/-- arguments of one kind, as a list -/
def raL {α : Type} (r : Rp α) (n : Nat) : List α → List V → Hp → Prop := fun xs vs G => AllP r G vs xs ∧ xs.length = n
theorem jl_nil {r : Rp α} : JA Z Γ [] (fun _ k => k ([] : List α)) (raL r 0) :=
  ⟨⟨tNil, pa_nil, fun {β k ρ s G B σ H Q R} st q h => h [] H [] s G B (Same.refl _) st ⟨.nil, rfl⟩ q⟩, fun g h => ⟨AllP.mono g h.1, h.2⟩, fun {x vs G} h => by
    rw [AllP.length h.1, h.2]
    rfl⟩
theorem jl_cons {n : Nat} {m : M Z.S α} {r : Rp α} {mk : (γ : Type) → (List α → M Z.S γ) → M Z.S γ} (h : JE Z Γ e m (.fz r)) (hr : JA Z Γ es mk (raL r n)) (hs : starEach (e :: es) Z.X.env = (false, eval e Z.X.env) :: starEach es Z.X.env := by exact star_of rfl) :
    JA Z Γ (e :: es) (fun δ k => bnd m fun x => mk δ fun y => k (x :: y)) (raL r (n + 1)) := by
  obtain ⟨t, ht, hq⟩ := hr.ex
  refine ⟨⟨tCons _ t, pa_cons h.pe ht hs, fun {δ k ρ s G B σ H Q R} st q hR => ?_⟩, fun g h => ⟨AllP.mono g h.1, h.2⟩, fun {xs vs G} h => ?_⟩
  · refine tE.imp (tE_bnd (ρ := .fz r) st q) ?_
    rintro v H1 ⟨x, s1, G1, B1, g1, st1, hx, q1⟩
    refine hq st1 q1 fun ws H2 y s2 G2 B2 g2 st2 hy q2 => ?_
    exact hR (v :: ws) H2 (x :: y) s2 G2 B2 (g1.trans g2) st2 ⟨.cons ((r x).mono g2 hx) hy.1, by rw [List.length_cons, hy.2]⟩ q2
  · have z : ∀ ys ws, AllP r G ws ys → ys.length = n → ws.length = es.length := fun ys ws h1 h2 => hr.len ⟨h1, h2⟩
    cases xs with
    | nil => exact absurd h.2 (by simp)
    | cons x xs =>
      cases vs with
      | nil => cases h.1
      | cons v vs =>
        cases h.1 with
        | cons h1 h2 => rw [List.length_cons, List.length_cons, z xs vs h2 (by simpa using h.2)]
/-! ### displays -/
theorem le_line {n : Nat} (h : n ≤ 1000) : n ≤ sizeLine := Nat.le_trans h (by decide)
theorem je_list {n : Nat} {r : Rp α} {mk : (γ : Type) → (List α → M Z.S γ) → M Z.S γ} (h : JA Z Γ es mk (raL r n)) (hn : es.length ≤ 1000 := by decide) : JE Z Γ (.List es pos) (mk _ ret) (.own (cL r)) := by
  obtain ⟨t, ht, hq⟩ := h.ex
  refine ⟨PE.imp (pe_lst ht) fun σ H Q ⟨s, G, B, st, q⟩ => ?_⟩
  refine hq st q fun vs H1 xs s1 G1 B1 g1 st1 hx q1 => ⟨le_line (by rw [h.len hx]; exact hn), fun p hp => ?_⟩
  exact q1 _ _ G1 B1 (Same.refl _) (st1.laid hp) (st1.own hp ⟨vs, rfl, hx.1⟩)
section
variable {K : PySem.W.Frag} {α1 α2 α3 α4 α5 : Type} {r1 : Rp α1} {r2 : Rp α2} {r3 : Rp α3} {r4 : Rp α4} {r5 : Rp α5} {x1 : _}
theorem sqt_new {G : Hp} {p : Addr} {xs : List V} : SqT Z.X.K (upd G p (.tup xs)) p xs := SqT.of upd_same
theorem je_tup2 {mk : (γ : Type) → (α1 × α2 × Unit → M Z.S γ) → M Z.S γ} (h : JA Z Γ es mk (raC r1 (raC r2 raN))) : JE Z Γ (.Tuple es x1 pos) (mk _ fun p => ret (p.1, p.2.1)) (.fz (rT2 Z.X.K r1 r2)) := by
  obtain ⟨t, ht, hq⟩ := h.ex
  refine ⟨PE.imp (pe_tup ht) fun σ H Q ⟨s, G, B, st, q⟩ => ?_⟩
  refine hq st q fun vs H1 xs s1 G1 B1 g1 st1 ⟨v1, w1, e1, h1, v2, w2, e2, h2, e3⟩ q1 => ?_
  have e3 : w2 = [] := e3
  subst e1 e2 e3
  refine ⟨le_line (by simp), fun p hp => ?_⟩
  have g := Same.upd_new (o := .tup [v1, v2]) (Same.free st1.ok.gh hp)
  exact q1 _ _ (upd G1 p (.tup [v1, v2])) B1 g (st1.laidG hp) ⟨p, v1, v2, rfl, sqt_new, (r1 _).mono g h1, (r2 _).mono g h2⟩
theorem je_tup3 {mk : (γ : Type) → (α1 × α2 × α3 × Unit → M Z.S γ) → M Z.S γ} (h : JA Z Γ es mk (raC r1 (raC r2 (raC r3 raN)))) : JE Z Γ (.Tuple es x1 pos) (mk _ fun p => ret (p.1, p.2.1, p.2.2.1)) (.fz (rT3 Z.X.K r1 r2 r3)) := by
  obtain ⟨t, ht, hq⟩ := h.ex
  refine ⟨PE.imp (pe_tup ht) fun σ H Q ⟨s, G, B, st, q⟩ => ?_⟩
  refine hq st q fun vs H1 xs s1 G1 B1 g1 st1 ⟨v1, w1, e1, h1, v2, w2, e2, h2, v3, w3, e3, h3, e4⟩ q1 => ?_
  have e4 : w3 = [] := e4
  subst e1 e2 e3 e4
  refine ⟨le_line (by simp), fun p hp => ?_⟩
  have g := Same.upd_new (o := .tup [v1, v2, v3]) (Same.free st1.ok.gh hp)
  exact q1 _ _ (upd G1 p (.tup [v1, v2, v3])) B1 g (st1.laidG hp) ⟨p, v1, v2, v3, rfl, sqt_new, (r1 _).mono g h1, (r2 _).mono g h2, (r3 _).mono g h3⟩
theorem je_tup4 {mk : (γ : Type) → (α1 × α2 × α3 × α4 × Unit → M Z.S γ) → M Z.S γ} (h : JA Z Γ es mk (raC r1 (raC r2 (raC r3 (raC r4 raN))))) : JE Z Γ (.Tuple es x1 pos) (mk _ fun p => ret (p.1, p.2.1, p.2.2.1, p.2.2.2.1)) (.fz (rT4 Z.X.K r1 r2 r3 r4)) := by
  obtain ⟨t, ht, hq⟩ := h.ex
  refine ⟨PE.imp (pe_tup ht) fun σ H Q ⟨s, G, B, st, q⟩ => ?_⟩
  refine hq st q fun vs H1 xs s1 G1 B1 g1 st1 ⟨v1, w1, e1, h1, v2, w2, e2, h2, v3, w3, e3, h3, v4, w4, e4, h4, e5⟩ q1 => ?_
  have e5 : w4 = [] := e5
  subst e1 e2 e3 e4 e5
  refine ⟨le_line (by simp), fun p hp => ?_⟩
  have g := Same.upd_new (o := .tup [v1, v2, v3, v4]) (Same.free st1.ok.gh hp)
  exact q1 _ _ (upd G1 p (.tup [v1, v2, v3, v4])) B1 g (st1.laidG hp) ⟨p, v1, v2, v3, v4, rfl, sqt_new, (r1 _).mono g h1, (r2 _).mono g h2, (r3 _).mono g h3, (r4 _).mono g h4⟩
theorem je_tup5 {mk : (γ : Type) → (α1 × α2 × α3 × α4 × α5 × Unit → M Z.S γ) → M Z.S γ} (h : JA Z Γ es mk (raC r1 (raC r2 (raC r3 (raC r4 (raC r5 raN)))))) : JE Z Γ (.Tuple es x1 pos) (mk _ fun p => ret (p.1, p.2.1, p.2.2.1, p.2.2.2.1, p.2.2.2.2.1)) (.fz (rT5 Z.X.K r1 r2 r3 r4 r5)) := by
  obtain ⟨t, ht, hq⟩ := h.ex
  refine ⟨PE.imp (pe_tup ht) fun σ H Q ⟨s, G, B, st, q⟩ => ?_⟩
  refine hq st q fun vs H1 xs s1 G1 B1 g1 st1 ⟨v1, w1, e1, h1, v2, w2, e2, h2, v3, w3, e3, h3, v4, w4, e4, h4, v5, w5, e5, h5, e6⟩ q1 => ?_
  have e6 : w5 = [] := e6
  subst e1 e2 e3 e4 e5 e6
  refine ⟨le_line (by simp), fun p hp => ?_⟩
  have g := Same.upd_new (o := .tup [v1, v2, v3, v4, v5]) (Same.free st1.ok.gh hp)
  exact q1 _ _ (upd G1 p (.tup [v1, v2, v3, v4, v5])) B1 g (st1.laidG hp) ⟨p, v1, v2, v3, v4, v5, rfl, sqt_new, (r1 _).mono g h1, (r2 _).mono g h2, (r3 _).mono g h3, (r4 _).mono g h4, (r5 _).mono g h5⟩
end
/-- {} -/
theorem je_dict0 {κ : Type} {k : KeyT κ} {r : Rp α} : JE Z Γ (.Dict [] [] pos) (ret ([] : List (κ × α))) (.own (cD k r)) :=
  JE.of_ret pe_dnewK fun s G B σ H Q st q => fun p hp => q _ _ G B (Same.refl _) (st.laid hp) (st.own hp ⟨[], rfl, .nil⟩)
/-! ### a new thing becomes still -/
theorem je_frzL {m : M Z.S (List α)} {r : Rp α} (h : JE Z Γ e m (.own (cL r))) : JE Z Γ e m (.fz (rL r)) :=
  ⟨PE.imp h.pe fun σ H Q ⟨s, G, B, st, q⟩ => by
    refine ⟨s, G, B, st, ?_⟩
    revert q
    cases m s with
    | ok x s1 =>
      rintro q v H' G' B' g st' ⟨p, o, rfl, e, ⟨vs, rfl, hc⟩, gp, bp, hp, hh, f⟩
      have g' := Same.upd_new (o := .lst vs) gp
      exact q _ H' (upd G' p (.lst vs)) B' (g.trans g') (st'.still e gp bp hp hh f) ⟨p, vs, rfl, upd_same, hc.mono g'⟩
    | err x s1 => exact fun q => q
    | stuck => exact fun q => q⟩
/-- a dict is locked for good -/
theorem je_frzD {κ : Type} {k : KeyT κ} {m : M Z.S (List (κ × α))} {r : Rp α} (h : JE Z Γ e m (.own (cD k r))) : JE Z Γ e m (.fz (rD k r)) := by
  refine ⟨⟨fun pins s0 σ H Q I ⟨s, G, B, st, q⟩ => ?_⟩⟩
  refine thn (h.pe.run pins s0 σ H (fun v H' => ∃ a vs, v = .ref a ∧ H' a = some (.dK vs) ∧ ∀ od, Q v (upd H' a (.frz od (.dK vs)))) I ⟨s, G, B, st, ?_⟩) fun u s' hq => ?_
  · revert q
    cases m s with
    | ok x s1 =>
      rintro q v H' G' B' g st' ⟨p, o, rfl, e, ⟨vs, rfl, hc⟩, gp, bp, hp, hh, f⟩
      refine ⟨p, vs, rfl, e, fun od => ?_⟩
      have g' := Same.upd_new (o := .frz od (.dK vs)) gp
      have st2 : Sta Z Γ s1 G' B' σ (upd H' p (.frz od (.dK vs))) := by
        refine ⟨st'.ok.change gp bp hp, st'.res, ⟨st'.sl.len, st'.sl.fz, fun k L z => ?_, st'.sl.ne⟩, st'.sle, Same.upd_r st'.held hh, st'.off⟩
        obtain ⟨a, w, h1, h2, h3⟩ := st'.sl.lv k L z
        have ne : a ≠ p := fun y => f k L z (by rw [← y]; exact h1)
        exact ⟨a, w, h1, by rw [upd_ne ne]; exact h2, h3⟩
      exact q _ _ (upd G' p (.frz od (.dK vs))) B' (g.trans g') (st2.still upd_same gp bp hp hh f) ⟨p, od, vs, rfl, upd_same, hc.mono g'⟩
    | err x s1 => exact fun q => q
    | stuck => exact fun q => q
  · obtain ⟨v, H', I', r', a, vs, rfl, ea, q'⟩ := hq
    obtain ⟨od, I2⟩ := I'.lock ea True.intro
    exact ⟨_, _, I2, r', q' od⟩
/-! ### items -/
theorem atI_rel {r : Rp α} {G : Hp} {vs : List V} {xs : List α} {i : Int} {x : α} (h : AllP r G vs xs) (e : atI xs i = some x) : ∃ v, atI vs i = some v ∧ (r x).p v G := by
  unfold atI at e ⊢
  rw [h.length]
  cases z : ixN xs.length i with
  | none =>
    rw [z] at e
    cases e
  | some j =>
    rw [z] at e
    exact h.get e
variable {ma : M Z.S α}
theorem je_ixL {r : Rp α} {ma : M Z.S (List α)} {mi : M Z.S Int} (ha : JE Z Γ a ma (.fz (rL r))) (hb : JE Z Γ b mi (.fz rI)) (hs : PlainIx b := by exact fun _ _ => rfl) : JE Z Γ (.Subscript a b pos) (bnd ma fun xs => bnd mi fun i => opt (atI xs i)) (.fz r) :=
  je_two (fun xs i => opt (atI xs i)) (.fz r) (fun _ _ p q => pe_ix ix_list p q hs) ha hb fun xs i v w s G B σ H Q st hv hw q => by
    obtain ⟨x, ex, q⟩ := opt_of' q
    obtain ⟨p, vs, rfl, hp, hvs⟩ := hv
    obtain ⟨y, e1, e2⟩ := atI_rel hvs ex
    exact ⟨p, vs, i, y, rfl, hw, SqL.of (st.ok.gh _ _ hp), e1, fin q st e2⟩
end
end DL
set_option Elab.async false
set_option linter.all false
set_option maxRecDepth 100000
namespace DL
open PySem L2
section
variable {Z : Zc} {Γ : Ctx} {α β γ : Type} {e a b : Expr} {es : List Expr} {pos : Pos}
/-! ### items of tuples -/
section
variable {α1 α2 α3 α4 α5 : Type} {r1 : Rp α1} {r2 : Rp α2} {r3 : Rp α3} {r4 : Rp α4} {r5 : Rp α5}
theorem je_t2_0 {m : M Z.S (α1 × α2)} {j : Nat} {p2 : Pos} (h : JE Z Γ a m (.fz (rT2 Z.X.K r1 r2))) : JE Z Γ (.Subscript a (.Constant (.int 0) j p2) pos) (bnd m fun t => ret t.1) (.fz r1) :=
  je_one (t' := fun t => tOp (rIxT Z.X.K) t (tC (.int 0))) (fun t : α1 × α2 => ret t.1) (.fz r1) (fun _ p => pe_ix ix_tup p pe_int (fun _ _ => rfl)) (fun _ _ _ _ => rfl) h fun x v s G B σ H Q st ⟨p, u1, u2, ev, ht, h1, h2⟩ q =>
    ⟨p, _, 0, _, ev, rfl, Same.sqT st.ok.gh ht, rfl, q _ H G B (Same.refl _) st h1⟩
theorem je_t2_1 {m : M Z.S (α1 × α2)} {j : Nat} {p2 : Pos} (h : JE Z Γ a m (.fz (rT2 Z.X.K r1 r2))) : JE Z Γ (.Subscript a (.Constant (.int 1) j p2) pos) (bnd m fun t => ret t.2) (.fz r2) :=
  je_one (t' := fun t => tOp (rIxT Z.X.K) t (tC (.int 1))) (fun t : α1 × α2 => ret t.2) (.fz r2) (fun _ p => pe_ix ix_tup p pe_int (fun _ _ => rfl)) (fun _ _ _ _ => rfl) h fun x v s G B σ H Q st ⟨p, u1, u2, ev, ht, h1, h2⟩ q =>
    ⟨p, _, 1, _, ev, rfl, Same.sqT st.ok.gh ht, rfl, q _ H G B (Same.refl _) st h2⟩
theorem je_t3_0 {m : M Z.S (α1 × α2 × α3)} {j : Nat} {p2 : Pos} (h : JE Z Γ a m (.fz (rT3 Z.X.K r1 r2 r3))) : JE Z Γ (.Subscript a (.Constant (.int 0) j p2) pos) (bnd m fun t => ret t.1) (.fz r1) :=
  je_one (t' := fun t => tOp (rIxT Z.X.K) t (tC (.int 0))) (fun t : α1 × α2 × α3 => ret t.1) (.fz r1) (fun _ p => pe_ix ix_tup p pe_int (fun _ _ => rfl)) (fun _ _ _ _ => rfl) h fun x v s G B σ H Q st ⟨p, u1, u2, u3, ev, ht, h1, h2, h3⟩ q =>
    ⟨p, _, 0, _, ev, rfl, Same.sqT st.ok.gh ht, rfl, q _ H G B (Same.refl _) st h1⟩
theorem je_t3_1 {m : M Z.S (α1 × α2 × α3)} {j : Nat} {p2 : Pos} (h : JE Z Γ a m (.fz (rT3 Z.X.K r1 r2 r3))) : JE Z Γ (.Subscript a (.Constant (.int 1) j p2) pos) (bnd m fun t => ret t.2.1) (.fz r2) :=
  je_one (t' := fun t => tOp (rIxT Z.X.K) t (tC (.int 1))) (fun t : α1 × α2 × α3 => ret t.2.1) (.fz r2) (fun _ p => pe_ix ix_tup p pe_int (fun _ _ => rfl)) (fun _ _ _ _ => rfl) h fun x v s G B σ H Q st ⟨p, u1, u2, u3, ev, ht, h1, h2, h3⟩ q =>
    ⟨p, _, 1, _, ev, rfl, Same.sqT st.ok.gh ht, rfl, q _ H G B (Same.refl _) st h2⟩
theorem je_t3_2 {m : M Z.S (α1 × α2 × α3)} {j : Nat} {p2 : Pos} (h : JE Z Γ a m (.fz (rT3 Z.X.K r1 r2 r3))) : JE Z Γ (.Subscript a (.Constant (.int 2) j p2) pos) (bnd m fun t => ret t.2.2) (.fz r3) :=
  je_one (t' := fun t => tOp (rIxT Z.X.K) t (tC (.int 2))) (fun t : α1 × α2 × α3 => ret t.2.2) (.fz r3) (fun _ p => pe_ix ix_tup p pe_int (fun _ _ => rfl)) (fun _ _ _ _ => rfl) h fun x v s G B σ H Q st ⟨p, u1, u2, u3, ev, ht, h1, h2, h3⟩ q =>
    ⟨p, _, 2, _, ev, rfl, Same.sqT st.ok.gh ht, rfl, q _ H G B (Same.refl _) st h3⟩
theorem je_t4_0 {m : M Z.S (α1 × α2 × α3 × α4)} {j : Nat} {p2 : Pos} (h : JE Z Γ a m (.fz (rT4 Z.X.K r1 r2 r3 r4))) : JE Z Γ (.Subscript a (.Constant (.int 0) j p2) pos) (bnd m fun t => ret t.1) (.fz r1) :=
  je_one (t' := fun t => tOp (rIxT Z.X.K) t (tC (.int 0))) (fun t : α1 × α2 × α3 × α4 => ret t.1) (.fz r1) (fun _ p => pe_ix ix_tup p pe_int (fun _ _ => rfl)) (fun _ _ _ _ => rfl) h fun x v s G B σ H Q st ⟨p, u1, u2, u3, u4, ev, ht, h1, h2, h3, h4⟩ q =>
    ⟨p, _, 0, _, ev, rfl, Same.sqT st.ok.gh ht, rfl, q _ H G B (Same.refl _) st h1⟩
theorem je_t4_1 {m : M Z.S (α1 × α2 × α3 × α4)} {j : Nat} {p2 : Pos} (h : JE Z Γ a m (.fz (rT4 Z.X.K r1 r2 r3 r4))) : JE Z Γ (.Subscript a (.Constant (.int 1) j p2) pos) (bnd m fun t => ret t.2.1) (.fz r2) :=
  je_one (t' := fun t => tOp (rIxT Z.X.K) t (tC (.int 1))) (fun t : α1 × α2 × α3 × α4 => ret t.2.1) (.fz r2) (fun _ p => pe_ix ix_tup p pe_int (fun _ _ => rfl)) (fun _ _ _ _ => rfl) h fun x v s G B σ H Q st ⟨p, u1, u2, u3, u4, ev, ht, h1, h2, h3, h4⟩ q =>
    ⟨p, _, 1, _, ev, rfl, Same.sqT st.ok.gh ht, rfl, q _ H G B (Same.refl _) st h2⟩
theorem je_t4_2 {m : M Z.S (α1 × α2 × α3 × α4)} {j : Nat} {p2 : Pos} (h : JE Z Γ a m (.fz (rT4 Z.X.K r1 r2 r3 r4))) : JE Z Γ (.Subscript a (.Constant (.int 2) j p2) pos) (bnd m fun t => ret t.2.2.1) (.fz r3) :=
  je_one (t' := fun t => tOp (rIxT Z.X.K) t (tC (.int 2))) (fun t : α1 × α2 × α3 × α4 => ret t.2.2.1) (.fz r3) (fun _ p => pe_ix ix_tup p pe_int (fun _ _ => rfl)) (fun _ _ _ _ => rfl) h fun x v s G B σ H Q st ⟨p, u1, u2, u3, u4, ev, ht, h1, h2, h3, h4⟩ q =>
    ⟨p, _, 2, _, ev, rfl, Same.sqT st.ok.gh ht, rfl, q _ H G B (Same.refl _) st h3⟩
theorem je_t4_3 {m : M Z.S (α1 × α2 × α3 × α4)} {j : Nat} {p2 : Pos} (h : JE Z Γ a m (.fz (rT4 Z.X.K r1 r2 r3 r4))) : JE Z Γ (.Subscript a (.Constant (.int 3) j p2) pos) (bnd m fun t => ret t.2.2.2) (.fz r4) :=
  je_one (t' := fun t => tOp (rIxT Z.X.K) t (tC (.int 3))) (fun t : α1 × α2 × α3 × α4 => ret t.2.2.2) (.fz r4) (fun _ p => pe_ix ix_tup p pe_int (fun _ _ => rfl)) (fun _ _ _ _ => rfl) h fun x v s G B σ H Q st ⟨p, u1, u2, u3, u4, ev, ht, h1, h2, h3, h4⟩ q =>
    ⟨p, _, 3, _, ev, rfl, Same.sqT st.ok.gh ht, rfl, q _ H G B (Same.refl _) st h4⟩
theorem je_t5_0 {m : M Z.S (α1 × α2 × α3 × α4 × α5)} {j : Nat} {p2 : Pos} (h : JE Z Γ a m (.fz (rT5 Z.X.K r1 r2 r3 r4 r5))) : JE Z Γ (.Subscript a (.Constant (.int 0) j p2) pos) (bnd m fun t => ret t.1) (.fz r1) :=
  je_one (t' := fun t => tOp (rIxT Z.X.K) t (tC (.int 0))) (fun t : α1 × α2 × α3 × α4 × α5 => ret t.1) (.fz r1) (fun _ p => pe_ix ix_tup p pe_int (fun _ _ => rfl)) (fun _ _ _ _ => rfl) h fun x v s G B σ H Q st ⟨p, u1, u2, u3, u4, u5, ev, ht, h1, h2, h3, h4, h5⟩ q =>
    ⟨p, _, 0, _, ev, rfl, Same.sqT st.ok.gh ht, rfl, q _ H G B (Same.refl _) st h1⟩
theorem je_t5_1 {m : M Z.S (α1 × α2 × α3 × α4 × α5)} {j : Nat} {p2 : Pos} (h : JE Z Γ a m (.fz (rT5 Z.X.K r1 r2 r3 r4 r5))) : JE Z Γ (.Subscript a (.Constant (.int 1) j p2) pos) (bnd m fun t => ret t.2.1) (.fz r2) :=
  je_one (t' := fun t => tOp (rIxT Z.X.K) t (tC (.int 1))) (fun t : α1 × α2 × α3 × α4 × α5 => ret t.2.1) (.fz r2) (fun _ p => pe_ix ix_tup p pe_int (fun _ _ => rfl)) (fun _ _ _ _ => rfl) h fun x v s G B σ H Q st ⟨p, u1, u2, u3, u4, u5, ev, ht, h1, h2, h3, h4, h5⟩ q =>
    ⟨p, _, 1, _, ev, rfl, Same.sqT st.ok.gh ht, rfl, q _ H G B (Same.refl _) st h2⟩
theorem je_t5_2 {m : M Z.S (α1 × α2 × α3 × α4 × α5)} {j : Nat} {p2 : Pos} (h : JE Z Γ a m (.fz (rT5 Z.X.K r1 r2 r3 r4 r5))) : JE Z Γ (.Subscript a (.Constant (.int 2) j p2) pos) (bnd m fun t => ret t.2.2.1) (.fz r3) :=
  je_one (t' := fun t => tOp (rIxT Z.X.K) t (tC (.int 2))) (fun t : α1 × α2 × α3 × α4 × α5 => ret t.2.2.1) (.fz r3) (fun _ p => pe_ix ix_tup p pe_int (fun _ _ => rfl)) (fun _ _ _ _ => rfl) h fun x v s G B σ H Q st ⟨p, u1, u2, u3, u4, u5, ev, ht, h1, h2, h3, h4, h5⟩ q =>
    ⟨p, _, 2, _, ev, rfl, Same.sqT st.ok.gh ht, rfl, q _ H G B (Same.refl _) st h3⟩
theorem je_t5_3 {m : M Z.S (α1 × α2 × α3 × α4 × α5)} {j : Nat} {p2 : Pos} (h : JE Z Γ a m (.fz (rT5 Z.X.K r1 r2 r3 r4 r5))) : JE Z Γ (.Subscript a (.Constant (.int 3) j p2) pos) (bnd m fun t => ret t.2.2.2.1) (.fz r4) :=
  je_one (t' := fun t => tOp (rIxT Z.X.K) t (tC (.int 3))) (fun t : α1 × α2 × α3 × α4 × α5 => ret t.2.2.2.1) (.fz r4) (fun _ p => pe_ix ix_tup p pe_int (fun _ _ => rfl)) (fun _ _ _ _ => rfl) h fun x v s G B σ H Q st ⟨p, u1, u2, u3, u4, u5, ev, ht, h1, h2, h3, h4, h5⟩ q =>
    ⟨p, _, 3, _, ev, rfl, Same.sqT st.ok.gh ht, rfl, q _ H G B (Same.refl _) st h4⟩
theorem je_t5_4 {m : M Z.S (α1 × α2 × α3 × α4 × α5)} {j : Nat} {p2 : Pos} (h : JE Z Γ a m (.fz (rT5 Z.X.K r1 r2 r3 r4 r5))) : JE Z Γ (.Subscript a (.Constant (.int 4) j p2) pos) (bnd m fun t => ret t.2.2.2.2) (.fz r5) :=
  je_one (t' := fun t => tOp (rIxT Z.X.K) t (tC (.int 4))) (fun t : α1 × α2 × α3 × α4 × α5 => ret t.2.2.2.2) (.fz r5) (fun _ p => pe_ix ix_tup p pe_int (fun _ _ => rfl)) (fun _ _ _ _ => rfl) h fun x v s G B σ H Q st ⟨p, u1, u2, u3, u4, u5, ev, ht, h1, h2, h3, h4, h5⟩ q =>
    ⟨p, _, 4, _, ev, rfl, Same.sqT st.ok.gh ht, rfl, q _ H G B (Same.refl _) st h5⟩
end
/-! ### texts -/
def sgetM {S : Type} (z : Str) (i : Int) : M S Str := bnd (grd (decide (z.length ≤ sizeLine))) fun _ => bnd (opt (atI z.cps.toList i)) fun c => ret ⟨#[c]⟩
theorem je_ixS {ma : M Z.S Str} {mi : M Z.S Int} (ha : JE Z Γ a ma (.fz rS)) (hb : JE Z Γ b mi (.fz rI)) (hs : PlainIx b := by exact fun _ _ => rfl) : JE Z Γ (.Subscript a b pos) (bnd ma fun z => bnd mi fun i => sgetM z i) (.fz rS) :=
  je_two (fun z i => sgetM z i) (.fz rS) (fun _ _ p q => pe_ix ix_str p q hs) ha hb fun z i v w s G B σ H Q st hv hw q => by
    obtain ⟨c1, q⟩ := grd_of q
    obtain ⟨c, ec, q⟩ := opt_of q
    exact ⟨z, i, c, hv, hw, of_decide_eq_true c1, ec, fin q st rfl⟩
def saddM {S : Type} (x y : Str) : M S Str := bnd (grd (decide (x.length + y.length ≤ sizeLine))) fun _ => ret (x ++ y)
theorem je_addS {ma mb : M Z.S Str} (ha : JE Z Γ a ma (.fz rS)) (hb : JE Z Γ b mb (.fz rS)) : JE Z Γ (.BinOp a .Add b pos) (bnd ma fun x => bnd mb fun y => saddM x y) (.fz rS) :=
  je_two (fun x y => saddM x y) (.fz rS) (fun _ _ p q => pe_op op_add_str p q) ha hb fun x y v w s G B σ H Q st hv hw q => by
    obtain ⟨c, q⟩ := grd_of q
    exact ⟨x, y, hv, hw, of_decide_eq_true c, fin q st rfl⟩
/-- a text times 0 or 1 -/
def smulM {S : Type} (x : Str) (n : Int) : M S Str := if n = 0 then ret Str.empty else if n = 1 then ret x else stk
theorem op_mulS01 {X : Cx} : OpR X (binaryOp .Mult) (fun x y H Q => ∃ z n, x = .str z ∧ y = .int n ∧ (n = 0 ∨ n = 1) ∧ Q (.str (if n = 0 then Str.empty else z)) H) := by
  intro pins s σ H x y v u Q I rx ry h
  obtain ⟨z, n, rfl, rfl, hn, q⟩ := h
  obtain ⟨t, rfl⟩ := rx
  obtain ⟨t', rfl⟩ := ry
  have ok : MulOk z n := by
    rcases hn with rfl | rfl
    · exact ⟨by decide, fun h => absurd (by decide) h, fun h => absurd (by decide) h⟩
    · exact ⟨by decide, fun _ h => by simp at h, fun _ h => by simp at h⟩
  refine SB.mul ok fun t2 k => ⟨.str (if n = 0 then Str.empty else z), H, I.tok _, ⟨t2, ?_⟩, q⟩
  rcases hn with rfl | rfl
  · rfl
  · have e : Txt.mul z 1 = z := by
      unfold Txt.mul
      rw [if_neg (by decide)]
      exact if_pos (by simp)
    rw [e]
    rfl
theorem je_mulS {ma : M Z.S Str} {mb : M Z.S Int} (ha : JE Z Γ a ma (.fz rS)) (hb : JE Z Γ b mb (.fz rI)) : JE Z Γ (.BinOp a .Mult b pos) (bnd ma fun x => bnd mb fun n => smulM x n) (.fz rS) :=
  je_two (fun x n => smulM x n) (.fz rS) (fun _ _ p q => pe_op op_mulS01 p q) ha hb fun x n v w s G B σ H Q st hv hw q => by
    by_cases h0 : n = 0
    · subst h0
      have q : PostE Z Γ (.fz rS) σ Q G (ret Str.empty s) := q
      exact ⟨x, 0, hv, hw, .inl rfl, fin q st rfl⟩
    · by_cases h1 : n = 1
      · subst h1
        have q : PostE Z Γ (.fz rS) σ Q G (ret x s) := q
        exact ⟨x, 1, hv, hw, .inr rfl, fin q st rfl⟩
      · have e : (smulM x n : M Z.S Str) = stk := by
          unfold smulM
          rw [if_neg h0, if_neg h1]
        rw [e] at q
        exact q.elim
/-! ### slices -/
def cutA (xs : List α) (lo hi : Option Int) : List α := (xs.drop (HT.sIx xs.length 0 lo)).take (HT.sIx xs.length xs.length hi - HT.sIx xs.length 0 lo)
theorem AllP.cut {r : Rp α} {G : Hp} {vs : List V} {xs : List α} (h : AllP r G vs xs) (lo hi : Option Int) : AllP r G (cutV vs lo hi) (cutA xs lo hi) := by
  unfold cutV cutA
  rw [h.length]
  exact (h.drop _).take _
/-- a slice's ends: left out, or given -/
inductive JO (Z : Zc) (Γ : Ctx) : Option Expr → ((γ : Type) → (Option Int → M Z.S γ) → M Z.S γ) → Prop
  | non : JO Z Γ none (fun _ k => k none)
  | som {e : Expr} {m : M Z.S Int} (h : JE Z Γ e m (.fz rI)) : JO Z Γ (some e) (fun _ k => bnd m fun i => k (some i))
theorem JO.ex {o : Option Expr} {mk : (γ : Type) → (Option Int → M Z.S γ) → M Z.S γ} (h : JO Z Γ o mk) : ∃ t : TO, PO Z.X o t ∧ ∀ {β : Type} {k : Option Int → M Z.S β} {ρ : Res β} {s : Z.S} {G B : Hp} {σ : St} {H : Hp} {Q : VK} {R : Option Int → Hp → Prop}, Sta Z Γ s G B σ H → PostE Z Γ ρ σ Q G (mk β k s) →
    (∀ i H1 s1 G1 B1, Same G G1 → Sta Z Γ s1 G1 B1 σ H1 → PostE Z Γ ρ σ Q G1 (k i s1) → R i H1) → t σ H R := by
  cases h with
  | non => exact ⟨tNoPart, po_none, fun {β k ρ s G B σ H Q R} st q h => h none H s G B (Same.refl _) st q⟩
  | som h =>
    refine ⟨_, po_some h.pe, fun {β k ρ s G B σ H Q R} st q h => ?_⟩
    refine tE.imp (tE_bnd (ρ := .fz rI) st q) ?_
    rintro v H1 ⟨x, s1, G1, B1, g1, st1, hx, q1⟩
    exact ⟨x, hx, h (some x) H1 s1 G1 B1 g1 st1 q1⟩
theorem je_slL {lo hi : Option Expr} {mlo mhi : (γ : Type) → (Option Int → M Z.S γ) → M Z.S γ} {p2 : Pos} {r : Rp α} {m : M Z.S (List α)} (h : JE Z Γ e m (.fz (rL r))) (hl : JO Z Γ lo mlo) (hh : JO Z Γ hi mhi) :
    JE Z Γ (.Subscript e (.Slice lo hi none p2) pos) (bnd m fun xs => mlo _ fun l => mhi _ fun h => ret (cutA xs l h)) (.own (cL r)) := by
  obtain ⟨tl, pl, hl⟩ := hl.ex
  obtain ⟨th, ph, hh⟩ := hh.ex
  refine ⟨PE.imp (pe_slice sl_list h.pe pl ph) fun σ H Q ⟨s, G, B, st, q⟩ => ?_⟩
  refine tE.imp (tE_bnd (ρ := .fz (rL r)) st q) ?_
  rintro v H1 ⟨xs, s1, G1, B1, g1, st1, hx, q1⟩
  refine hl st1 q1 fun l H2 s2 G2 B2 g2 st2 q2 => ?_
  refine hh st2 q2 fun h H3 s3 G3 B3 g3 st3 q3 => ?_
  obtain ⟨p, vs, rfl, hp, hvs⟩ := ((rL r) xs).mono (g2.trans g3) hx
  refine ⟨p, vs, rfl, SqL.of (st3.ok.gh _ _ hp), fun p' np => ?_⟩
  exact q3 _ _ G3 B3 (Same.refl _) (st3.laid np) (st3.own np ⟨_, rfl, hvs.cut l h⟩)
def sslM {S : Type} (z : Str) (l h : Option Int) : M S Str := bnd (grd (decide (z.length ≤ sizeLine))) fun _ => ret (cutS z l h)
theorem je_slS {lo hi : Option Expr} {mlo mhi : (γ : Type) → (Option Int → M Z.S γ) → M Z.S γ} {p2 : Pos} {m : M Z.S Str} (h : JE Z Γ e m (.fz rS)) (hl : JO Z Γ lo mlo) (hh : JO Z Γ hi mhi) :
    JE Z Γ (.Subscript e (.Slice lo hi none p2) pos) (bnd m fun z => mlo _ fun l => mhi _ fun h => sslM z l h) (.fz rS) := by
  obtain ⟨tl, pl, hl⟩ := hl.ex
  obtain ⟨th, ph, hh⟩ := hh.ex
  refine ⟨PE.imp (pe_slice sl_str h.pe pl ph) fun σ H Q ⟨s, G, B, st, q⟩ => ?_⟩
  refine tE.imp (tE_bnd (ρ := .fz rS) st q) ?_
  rintro v H1 ⟨z, s1, G1, B1, g1, st1, hx, q1⟩
  refine hl st1 q1 fun l H2 s2 G2 B2 g2 st2 q2 => ?_
  refine hh st2 q2 fun h H3 s3 G3 B3 g3 st3 q3 => ?_
  obtain ⟨c, q3⟩ := grd_of q3
  exact ⟨z, hx, of_decide_eq_true c, fin q3 st3 rfl⟩
/-- xs[::-1] -/
theorem je_rev {k : Nat} {p1 p2 p3 : Pos} {r : Rp α} {m : M Z.S (List α)} (h : JE Z Γ e m (.fz (rL r))) : JE Z Γ (.Subscript e (.Slice none none (some (.UnaryOp .USub (.Constant (.int 1) k p1) p2)) p3) pos) (bnd m fun xs => ret xs.reverse) (.own (cL r)) :=
  je_one (t' := tRevL Z.X.K) (fun xs => ret xs.reverse) (.own (cL r)) (fun _ p => pe_revL p) (fun _ _ _ _ => rfl) h fun xs v s G B σ H Q st ⟨p, vs, ev, hp, hvs⟩ q =>
    ⟨p, vs, ev, SqL.of (st.ok.gh _ _ hp), fun p' np => q _ _ G B (Same.refl _) (st.laid np) (st.own np ⟨_, rfl, AllP.reverse hvs⟩)⟩
/-! ### sums of lists -/
def lcatM {S : Type} (xs ys : List α) : M S (List α) := bnd (grd (decide (xs.length + ys.length ≤ sizeLine))) fun _ => ret (xs ++ ys)
theorem je_cat {r : Rp α} {ma mb : M Z.S (List α)} (ha : JE Z Γ a ma (.fz (rL r))) (hb : JE Z Γ b mb (.fz (rL r))) : JE Z Γ (.BinOp a .Add b pos) (bnd ma fun x => bnd mb fun y => lcatM x y) (.own (cL r)) :=
  je_two (fun x y => lcatM x y) (.own (cL r)) (fun _ _ p q => pe_op op_cat p q) ha hb fun x y v w s G B σ H Q st ⟨p, vs, ev, hp, hvs⟩ ⟨p', ws, ew, hp', hws⟩ q => by
    obtain ⟨c, q⟩ := grd_of q
    refine ⟨p, p', vs, ws, ev, ew, st.ok.gh _ _ hp, st.ok.gh _ _ hp', by rw [hvs.length, hws.length]; exact of_decide_eq_true c, fun p2 np => ?_⟩
    exact q _ _ G B (Same.refl _) (st.laid np) (st.own np ⟨_, rfl, hvs.append hws⟩)
/-! ### calls of built-ins -/
theorem je_cb {id : String} {x : Str} {p : Pos} {r : List V → Hp → VK → Prop} {mk : (γ : Type) → (α → M Z.S γ) → M Z.S γ} {ra : α → List V → Hp → Prop} (f : α → M Z.S β) (ρ : Res β) (hc : CallR Z.X (.builtin id) r) (hg : Gl Z.X x) (hm : Z.X.mg x = none) (hv : bootBuiltins x = some (.builtin id)) (ha : JA Z Γ (e :: es) mk ra)
    (h : ∀ x vs s G B σ H (Q : VK), Sta Z Γ s G B σ H → ra x vs G → PostE Z Γ ρ σ Q G (f x s) → r vs H Q) (hn : x ≠ "__name__" := by decide) (hdb : (x == ("__debug__" : Str)) = false := by decide)
    (he : starEach (e :: es) Z.X.env = (false, eval e Z.X.env) :: starEach es Z.X.env := by exact star_of rfl) (hpl : (backTo pos (starEach es Z.X.env)).any (·.1) = false := by rfl) : JE Z Γ (.Call (.Name x p) (e :: es) [] pos) (mk _ f) ρ := by
  obtain ⟨t, ht, hq⟩ := ha.ex
  refine ⟨PE.imp (pe_callB hc hg hm hv ht hn hdb he hpl) fun σ H Q ⟨s, G, B, st, q⟩ => ?_⟩
  exact hq st q fun vs H1 x s1 G1 B1 g1 st1 hx q1 => h x vs s1 G1 B1 σ H1 Q st1 hx q1
theorem je_ct {T : String} {x : Str} {p : Pos} {r : List V → Hp → VK → Prop} {mk : (γ : Type) → (α → M Z.S γ) → M Z.S γ} {ra : α → List V → Hp → Prop} (f : α → M Z.S β) (ρ : Res β) (hc : CallR Z.X (.type T) r) (hg : Gl Z.X x) (hm : Z.X.mg x = none) (hv : bootBuiltins x = some (.type T)) (ha : JA Z Γ (e :: es) mk ra)
    (h : ∀ x vs s G B σ H (Q : VK), Sta Z Γ s G B σ H → ra x vs G → PostE Z Γ ρ σ Q G (f x s) → r vs H Q) (hn : x ≠ "__name__" := by decide) (hdb : (x == ("__debug__" : Str)) = false := by decide)
    (he : starEach (e :: es) Z.X.env = (false, eval e Z.X.env) :: starEach es Z.X.env := by exact star_of rfl) (hpl : (backTo pos (starEach es Z.X.env)).any (·.1) = false := by rfl) : JE Z Γ (.Call (.Name x p) (e :: es) [] pos) (mk _ f) ρ := by
  obtain ⟨t, ht, hq⟩ := ha.ex
  refine ⟨PE.imp (pe_callTy hc hg hm hv ht hn hdb he hpl) fun σ H Q ⟨s, G, B, st, q⟩ => ?_⟩
  exact hq st q fun vs H1 x s1 G1 B1 g1 st1 hx q1 => h x vs s1 G1 B1 σ H1 Q st1 hx q1
theorem ra1 {r : Rp α} {x : α × Unit} {vs : List V} {G : Hp} (h : raC r raN x vs G) : ∃ v, vs = [v] ∧ (r x.1).p v G := by
  obtain ⟨v, ws, e1, h1, e2⟩ := h
  have e2 : ws = [] := e2
  subst e1 e2
  exact ⟨v, rfl, h1⟩
theorem ra2 {r1 : Rp α} {r2 : Rp β} {x : α × β × Unit} {vs : List V} {G : Hp} (h : raC r1 (raC r2 raN) x vs G) : ∃ v w, vs = [v, w] ∧ (r1 x.1).p v G ∧ (r2 x.2.1).p w G := by
  obtain ⟨v, ws, e1, h1, w, us, e2, h2, e3⟩ := h
  have e3 : us = [] := e3
  subst e1 e2 e3
  exact ⟨v, w, rfl, h1, h2⟩
section
variable {p : Pos} {n : Str} {m : M Z.S Int} {m2 : M Z.S Int} {he : Bool}
theorem je_lenL {r : Rp α} {m : M Z.S (List α)} (hg : Gl Z.X "len") (hm : Z.X.mg "len" = none) (h : JE Z Γ e m (.fz (rL r))) (he : starEach [e] Z.X.env = (false, eval e Z.X.env) :: starEach [] Z.X.env := by exact star_of rfl) : JE Z Γ (.Call (.Name "len" p) [e] [] pos) (bnd m fun xs => ret (xs.length : Int)) (.fz rI) :=
  je_cb (fun x : List α × Unit => ret (x.1.length : Int)) (.fz rI) call_len_seq hg hm boot_len (ja_cons h ja_nil he) (fun x vs s G B σ H Q st hx q => by
    obtain ⟨v, rfl, a, ws, rfl, ha, hw⟩ := ra1 hx
    exact ⟨a, ws, rfl, .inl (SqL.of (st.ok.gh _ _ ha)), fin q st (by rw [hw.length]; rfl)⟩) (he := he)
theorem je_lenS {m : M Z.S Str} (hg : Gl Z.X "len") (hm : Z.X.mg "len" = none) (h : JE Z Γ e m (.fz rS)) (he : starEach [e] Z.X.env = (false, eval e Z.X.env) :: starEach [] Z.X.env := by exact star_of rfl) : JE Z Γ (.Call (.Name "len" p) [e] [] pos) (bnd m fun z => bnd (grd (decide (z.length ≤ sizeLine))) fun _ => ret (z.length : Int)) (.fz rI) :=
  je_cb (fun x : Str × Unit => bnd (grd (decide (x.1.length ≤ sizeLine))) fun _ => ret (x.1.length : Int)) (.fz rI) call_len_str hg hm boot_len (ja_cons h ja_nil he) (fun x vs s G B σ H Q st hx q => by
    obtain ⟨v, rfl, hv⟩ := ra1 hx
    obtain ⟨c, q⟩ := grd_of q
    exact ⟨x.1, by rw [show v = .str x.1 from hv], of_decide_eq_true c, fin q st rfl⟩) (he := he)
theorem je_intI (hg : Gl Z.X "int") (hm : Z.X.mg "int" = none) (h : JE Z Γ e m (.fz rI)) (he : starEach [e] Z.X.env = (false, eval e Z.X.env) :: starEach [] Z.X.env := by exact star_of rfl) : JE Z Γ (.Call (.Name "int" p) [e] [] pos) (bnd m fun x => ret x) (.fz rI) :=
  je_ct (fun x : Int × Unit => ret x.1) (.fz rI) call_int1 hg hm (by decide +kernel) (ja_cons h ja_nil he) (fun x vs s G B σ H Q st hx q => by
    obtain ⟨v, rfl, hv⟩ := ra1 hx
    exact .inl ⟨x.1, by rw [show v = .int x.1 from hv], fin q st rfl⟩) (he := he)
theorem je_intB {m : M Z.S Bool} (hg : Gl Z.X "int") (hm : Z.X.mg "int" = none) (h : JE Z Γ e m (.fz rB)) (he : starEach [e] Z.X.env = (false, eval e Z.X.env) :: starEach [] Z.X.env := by exact star_of rfl) : JE Z Γ (.Call (.Name "int" p) [e] [] pos) (bnd m fun x => ret (if x then (1 : Int) else 0)) (.fz rI) :=
  je_ct (fun x : Bool × Unit => ret (if x.1 then (1 : Int) else 0)) (.fz rI) call_int1 hg hm (by decide +kernel) (ja_cons h ja_nil he) (fun x vs s G B σ H Q st hx q => by
    obtain ⟨v, rfl, hv⟩ := ra1 hx
    exact .inr ⟨x.1, by rw [show v = .bl x.1 from hv], fin q st rfl⟩) (he := he)
theorem je_abs (hg : Gl Z.X "abs") (hm : Z.X.mg "abs" = none) (h : JE Z Γ e m (.fz rI)) (he : starEach [e] Z.X.env = (false, eval e Z.X.env) :: starEach [] Z.X.env := by exact star_of rfl) : JE Z Γ (.Call (.Name "abs" p) [e] [] pos) (bnd m fun x => ret (if x < 0 then -x else x)) (.fz rI) :=
  je_cb (fun x : Int × Unit => ret (if x.1 < 0 then -x.1 else x.1)) (.fz rI) call_abs hg hm (by decide +kernel) (ja_cons h ja_nil he) (fun x vs s G B σ H Q st hx q => by
    obtain ⟨v, rfl, hv⟩ := ra1 hx
    exact ⟨x.1, by rw [show v = .int x.1 from hv], fin q st rfl⟩) (he := he)
theorem je_max2 (z : ZOk Z) (hg : Gl Z.X "max") (hm : Z.X.mg "max" = none) (h : JE Z Γ a m (.fz rI)) (h2 : JE Z Γ b m2 (.fz rI)) (he : starEach [a, b] Z.X.env = (false, eval a Z.X.env) :: starEach [b] Z.X.env := by exact star_of rfl) (he2 : starEach [b] Z.X.env = (false, eval b Z.X.env) :: starEach [] Z.X.env := by exact star_of rfl) (hpl : (backTo pos (starEach [b] Z.X.env)).any (·.1) = false := by rfl) :
    JE Z Γ (.Call (.Name "max" p) [a, b] [] pos) (bnd m fun x => bnd m2 fun y => ret (if y > x then y else x)) (.fz rI) :=
  je_cb (fun x : Int × Int × Unit => ret (if x.2.1 > x.1 then x.2.1 else x.1)) (.fz rI) (call_max2 z.calm) hg hm (by decide +kernel) (ja_cons h (ja_cons h2 ja_nil he2) he) (fun x vs s G B σ H Q st hx q => by
    obtain ⟨v, w, rfl, hv, hw⟩ := ra2 hx
    exact ⟨x.1, x.2.1, by rw [show v = .int x.1 from hv, show w = .int x.2.1 from hw], fin q st rfl⟩) (he := he) (hpl := hpl)
theorem je_listL {r : Rp α} {m : M Z.S (List α)} (hg : Gl Z.X "list") (hm : Z.X.mg "list" = none) (h : JE Z Γ e m (.fz (rL r))) (he : starEach [e] Z.X.env = (false, eval e Z.X.env) :: starEach [] Z.X.env := by exact star_of rfl) : JE Z Γ (.Call (.Name "list" p) [e] [] pos) (bnd m fun xs => ret xs) (.own (cL r)) :=
  je_ct (fun x : List α × Unit => ret x.1) (.own (cL r)) call_list_of hg hm (by decide +kernel) (ja_cons h ja_nil he) (fun x vs s G B σ H Q st hx q => by
    obtain ⟨v, rfl, a, ws, rfl, ha, hw⟩ := ra1 hx
    exact ⟨a, ws, rfl, .inl (SqL.of (st.ok.gh _ _ ha)), fun l nl => q _ _ G B (Same.refl _) (st.laid nl) (st.own nl ⟨_, rfl, hw⟩)⟩) (he := he)
theorem bls_of {G : Hp} : ∀ {vs : List V} {bs : List Bool}, AllP rB G vs bs → vs = bs.map V.bl
  | _, _, .nil => rfl
  | _, _, .cons h t => by rw [show _ = V.bl _ from h, bls_of t]; rfl
theorem ints_of {G : Hp} : ∀ {vs : List V} {bs : List Int}, AllP rI G vs bs → vs = bs.map V.int
  | _, _, .nil => rfl
  | _, _, .cons h t => by rw [show _ = V.int _ from h, ints_of t]; rfl
theorem strs_of {G : Hp} : ∀ {vs : List V} {bs : List Str}, AllP rS G vs bs → vs = bs.map V.str
  | _, _, .nil => rfl
  | _, _, .cons h t => by rw [show _ = V.str _ from h, strs_of t]; rfl
theorem je_all (z : ZOk Z) {m : M Z.S (List Bool)} (hg : Gl Z.X "all") (hm : Z.X.mg "all" = none) (h : JE Z Γ e m (.fz (rL rB))) (he : starEach [e] Z.X.env = (false, eval e Z.X.env) :: starEach [] Z.X.env := by exact star_of rfl) : JE Z Γ (.Call (.Name "all" p) [e] [] pos) (bnd m fun xs => ret (xs.all id)) (.fz rB) :=
  je_cb (fun x : List Bool × Unit => ret (x.1.all id)) (.fz rB) (cr_all z.calm) hg hm (by decide +kernel) (ja_cons h ja_nil he) (fun x vs s G B σ H Q st hx q => by
    obtain ⟨v, rfl, a, ws, rfl, ha, hw⟩ := ra1 hx
    exact ⟨a, x.1, rfl, SqL.of (by rw [← bls_of hw]; exact st.ok.gh _ _ ha), fin q st rfl⟩) (he := he)
theorem je_any (z : ZOk Z) {m : M Z.S (List Bool)} (hg : Gl Z.X "any") (hm : Z.X.mg "any" = none) (h : JE Z Γ e m (.fz (rL rB))) (he : starEach [e] Z.X.env = (false, eval e Z.X.env) :: starEach [] Z.X.env := by exact star_of rfl) : JE Z Γ (.Call (.Name "any" p) [e] [] pos) (bnd m fun xs => ret (xs.any id)) (.fz rB) :=
  je_cb (fun x : List Bool × Unit => ret (x.1.any id)) (.fz rB) (cr_any z.calm) hg hm (by decide +kernel) (ja_cons h ja_nil he) (fun x vs s G B σ H Q st hx q => by
    obtain ⟨v, rfl, a, ws, rfl, ha, hw⟩ := ra1 hx
    exact ⟨a, x.1, rfl, SqL.of (by rw [← bls_of hw]; exact st.ok.gh _ _ ha), fin q st rfl⟩) (he := he)
theorem je_sum (z : ZOk Z) {m : M Z.S (List Int)} (hg : Gl Z.X "sum") (hm : Z.X.mg "sum" = none) (h : JE Z Γ e m (.fz (rL rI))) (he : starEach [e] Z.X.env = (false, eval e Z.X.env) :: starEach [] Z.X.env := by exact star_of rfl) : JE Z Γ (.Call (.Name "sum" p) [e] [] pos) (bnd m fun xs => ret xs.sum) (.fz rI) :=
  je_cb (fun x : List Int × Unit => ret x.1.sum) (.fz rI) (cr_sum z.calm) hg hm (by decide +kernel) (ja_cons h ja_nil he) (fun x vs s G B σ H Q st hx q => by
    obtain ⟨v, rfl, a, ws, rfl, ha, hw⟩ := ra1 hx
    exact ⟨a, x.1, rfl, SqL.of (by rw [← ints_of hw]; exact st.ok.gh _ _ ha), fin q st rfl⟩) (he := he)
/-- sep.join(xs) -/
def joinM {S : Type} (a : Str) (ys : List Str) : M S Str := bnd (grd (decide ((ys.map (·.length)).sum + ys.length * a.length ≤ 16777216))) fun _ => ret (Txt.join a ys)
theorem je_join {apos : Pos} {ma : M Z.S Str} {mb : M Z.S (List Str)} (ha : JE Z Γ a ma (.fz rS)) (hb : JE Z Γ b mb (.fz (rL rS))) (hs : starEach [b] Z.X.env = [(false, eval b Z.X.env)] := by exact star_of rfl) (hbase : attributeBase a "join" Z.X.env (eval a Z.X.env) = eval a Z.X.env := by rfl) (hline : (apos.endLine == pos.line) = true := by rfl) :
    JE Z Γ (.Call (.Attribute a "join" apos) [b] [] pos) (bnd ma fun x => bnd mb fun ys => joinM x ys) (.fz rS) := by
  refine ⟨PE.imp (pe_join ha.pe hb.pe hs hbase hline) fun σ H Q ⟨s, G, B, st, q⟩ => ?_⟩
  refine tE.imp (tE_bnd (ρ := .fz rS) st q) ?_
  rintro v H1 ⟨x, s1, G1, B1, g1, st1, hx, q1⟩
  refine ⟨⟨x, hx⟩, ?_⟩
  refine tE.imp (tE_bnd (ρ := .fz (rL rS)) st1 q1) ?_
  rintro w H2 ⟨ys, s2, G2, B2, g2, st2, ⟨p', ws, rfl, hp, hws⟩, q2⟩
  obtain ⟨c, q2⟩ := grd_of q2
  exact ⟨x, p', ys, hx, rfl, .inl (SqL.of (by rw [← strs_of hws]; exact st2.ok.gh _ _ hp)), of_decide_eq_true c, fin q2 st2 rfl⟩
end
end
end DL
set_option Elab.async false
set_option linter.all false
set_option maxRecDepth 100000
namespace DL
open PySem L2
/-! ### == and != of data -/
structure DEq (K : PySem.W.Frag) {α : Type} [DecidableEq α] (r : Rp α) (n : Nat) where
  ok : α → Bool
  d : α → PyData
  dp : ∀ {x : α} {v : V} {G H : Hp}, Same G H → (r x).p v G → Dp K H v (d x)
  lay : ∀ x, ok x = true → (d x).canLay0 = true
  dep : ∀ x, (d x).depth ≤ n
  eq : ∀ x y, PyData.eqv (d x) (d y) = decide (x = y)
section
variable {K : PySem.W.Frag}
theorem beq_dec {α : Type} [BEq α] [LawfulBEq α] [DecidableEq α] (x y : α) : (x == y) = decide (x = y) := by
  by_cases h : x = y
  · subst h; simp
  · rw [decide_eq_false h]
    exact beq_eq_false_iff_ne.mpr h
def dI : DEq K rI 0 := ⟨fun _ => true, .int, fun {x v G H} _ (h : v = .int x) => by rw [h]; exact .int x, fun _ _ => rfl, fun _ => Nat.le_refl _, fun x y => by show (x == y) = _; exact beq_dec x y⟩
def dS : DEq K rS 0 := ⟨PyData.strOk, .str, fun {x v G H} _ (h : v = .str x) => by rw [h]; exact .str x, fun _ h => h, fun _ => Nat.le_refl _, fun x y => by show (x == y) = _; exact beq_dec x y⟩
def dB : DEq K rB 0 := ⟨fun _ => true, .bool, fun {x v G H} _ (h : v = .bl x) => by rw [h]; exact .bl x, fun _ _ => rfl, fun _ => Nat.le_refl _, fun x y => by show (x == y) = _; exact beq_dec x y⟩
def dU : DEq K rU 0 := ⟨fun _ => true, fun _ => .none, fun {x v G H} _ (h : v = .non) => by rw [h]; exact .non, fun _ _ => rfl, fun _ => Nat.le_refl _, fun x y => by simp [PyData.eqv]⟩
variable {α β γ δ : Type} [DecidableEq α] [DecidableEq β] [DecidableEq γ] [DecidableEq δ]
theorem dpAll {r : Rp α} {n : Nat} (D : DEq K r n) {G H : Hp} (g : Same G H) : ∀ {vs : List V} {xs : List α}, AllP r G vs xs → DpAll K H vs (xs.map D.d)
  | _, _, .nil => .nil
  | _, _, .cons h t => .cons (D.dp g h) (dpAll D g t)
theorem layAll {r : Rp α} {n : Nat} (D : DEq K r n) : ∀ xs : List α, xs.all D.ok = true → PyData.canLayAll0 (xs.map D.d) = true
  | [], _ => rfl
  | x :: xs, h => by
    rw [List.all_cons, Bool.and_eq_true_iff] at h
    show ((D.d x).canLay0 && PyData.canLayAll0 (xs.map D.d)) = true
    rw [D.lay x h.1, layAll D xs h.2]
    rfl
theorem depAll {r : Rp α} {n : Nat} (D : DEq K r n) : ∀ xs : List α, PyData.depthAll (xs.map D.d) ≤ n
  | [] => Nat.zero_le _
  | x :: xs => by
    show max (D.d x).depth (PyData.depthAll (xs.map D.d)) ≤ n
    exact Nat.max_le.mpr ⟨D.dep x, depAll D xs⟩
theorem eqAll {r : Rp α} {n : Nat} (D : DEq K r n) : ∀ xs ys : List α, PyData.eqvAll (xs.map D.d) (ys.map D.d) = decide (xs = ys)
  | [], [] => rfl
  | [], _ :: _ => rfl
  | _ :: _, [] => rfl
  | x :: xs, y :: ys => by
    show (PyData.eqv (D.d x) (D.d y) && PyData.eqvAll (xs.map D.d) (ys.map D.d)) = _
    rw [D.eq, eqAll D xs ys]
    by_cases h : x = y
    · subst h; simp
    · simp [h]
def dL {r : Rp α} {n : Nat} (D : DEq K r n) : DEq K (rL r) (n + 1) :=
  ⟨fun xs => xs.all D.ok, fun xs => .list (xs.map D.d), fun {x v G H} g ⟨a, vs, ev, ha, hv⟩ => by rw [ev]; exact .lst (SqL.of (g _ _ ha)) (dpAll D g hv), fun xs h => layAll D xs h, fun xs => Nat.succ_le_succ (depAll D xs), fun xs ys => eqAll D xs ys⟩
theorem max2_le {a b m n : Nat} (h1 : a ≤ m) (h2 : b ≤ n) : max a b ≤ max m n := by omega
def dT2 {r1 : Rp α} {r2 : Rp β} {n1 n2 : Nat} (D1 : DEq K r1 n1) (D2 : DEq K r2 n2) : DEq K (rT2 K r1 r2) (max n1 n2 + 1) :=
  ⟨fun x => D1.ok x.1 && D2.ok x.2, fun x => .tuple [D1.d x.1, D2.d x.2], fun {x v G H} g ⟨a, u1, u2, ev, ha, h1, h2⟩ => by rw [ev]; exact .tup (Same.sqT g ha) (.cons (D1.dp g h1) (.cons (D2.dp g h2) .nil)),
   fun x h => by
    have h := Bool.and_eq_true_iff.mp h
    show ((D1.d x.1).canLay0 && ((D2.d x.2).canLay0 && true)) = true
    rw [D1.lay _ h.1, D2.lay _ h.2]; rfl,
   fun x => by
    have h1 := D1.dep x.1
    have h2 := D2.dep x.2
    show max (D1.d x.1).depth (max (D2.d x.2).depth 0) + 1 ≤ _
    omega,
   fun x y => by
    show (PyData.eqv _ _ && (PyData.eqv _ _ && true)) = _
    rw [D1.eq, D2.eq]
    obtain ⟨x1, x2⟩ := x
    obtain ⟨y1, y2⟩ := y
    by_cases e1 : x1 = y1 <;> by_cases e2 : x2 = y2 <;> simp [e1, e2]⟩
def dT3 {r1 : Rp α} {r2 : Rp β} {r3 : Rp γ} {n1 n2 n3 : Nat} (D1 : DEq K r1 n1) (D2 : DEq K r2 n2) (D3 : DEq K r3 n3) : DEq K (rT3 K r1 r2 r3) (max n1 (max n2 n3) + 1) :=
  ⟨fun x => D1.ok x.1 && (D2.ok x.2.1 && D3.ok x.2.2), fun x => .tuple [D1.d x.1, D2.d x.2.1, D3.d x.2.2], fun {x v G H} g ⟨a, u1, u2, u3, ev, ha, h1, h2, h3⟩ => by rw [ev]; exact .tup (Same.sqT g ha) (.cons (D1.dp g h1) (.cons (D2.dp g h2) (.cons (D3.dp g h3) .nil))),
   fun x h => by
    have h := Bool.and_eq_true_iff.mp h
    have h' := Bool.and_eq_true_iff.mp h.2
    show ((D1.d x.1).canLay0 && ((D2.d x.2.1).canLay0 && ((D3.d x.2.2).canLay0 && true))) = true
    rw [D1.lay _ h.1, D2.lay _ h'.1, D3.lay _ h'.2]; rfl,
   fun x => by
    have h1 := D1.dep x.1
    have h2 := D2.dep x.2.1
    have h3 := D3.dep x.2.2
    show max (D1.d x.1).depth (max (D2.d x.2.1).depth (max (D3.d x.2.2).depth 0)) + 1 ≤ _
    omega,
   fun x y => by
    show (PyData.eqv _ _ && (PyData.eqv _ _ && (PyData.eqv _ _ && true))) = _
    rw [D1.eq, D2.eq, D3.eq]
    obtain ⟨x1, x2, x3⟩ := x
    obtain ⟨y1, y2, y3⟩ := y
    by_cases e1 : x1 = y1 <;> by_cases e2 : x2 = y2 <;> by_cases e3 : x3 = y3 <;> simp [e1, e2, e3]⟩
def dO {r : Rp α} {n : Nat} (D : DEq K r n) (hn : ∀ x, PyData.eqv .none (D.d x) = false ∧ PyData.eqv (D.d x) .none = false) : DEq K (rO r) n :=
  ⟨fun x => match x with
    | none => true
    | some y => D.ok y, fun x => match x with
    | none => .none
    | some y => D.d y, fun {x v G H} g h => by
    cases x with
    | none =>
      have h : v = .non := h
      rw [h]; exact .non
    | some y => exact D.dp g h,
   fun x h => by
    cases x with
    | none => rfl
    | some y => exact D.lay y h,
   fun x => by
    cases x with
    | none => exact Nat.zero_le _
    | some y => exact D.dep y,
   fun x y => by
    cases x with
    | none => cases y with
      | none => rfl
      | some y => show PyData.eqv .none (D.d y) = _; rw [(hn y).1]; simp
    | some x => cases y with
      | none => show PyData.eqv (D.d x) .none = _; rw [(hn x).2]; simp
      | some y => show PyData.eqv (D.d x) (D.d y) = _; rw [D.eq]; simp⟩
end
section
variable {Z : Zc} {Γ : Ctx} {α β γ : Type} {e a b : Expr} {es : List Expr} {pos : Pos} [DecidableEq α]
def eqM {S : Type} (ok : α → Bool) (x y : α) : M S Bool := bnd (grd (ok x && ok y)) fun _ => ret (decide (x = y))
def neM {S : Type} (ok : α → Bool) (x y : α) : M S Bool := bnd (grd (ok x && ok y)) fun _ => ret (!decide (x = y))
theorem shaped_of {K : PySem.W.Frag} {r : Rp α} {n : Nat} (D : DEq K r n) (hn : n ≤ 60) {x : α} (h : D.ok x = true) : SeqAt.shaped (D.d x) = true := by
  unfold SeqAt.shaped
  rw [D.lay x h, decide_eq_true (Nat.le_trans (D.dep x) (Nat.le_trans hn (by decide)))]
  rfl
theorem je_eqD {r : Rp α} {n : Nat} (D : DEq Z.X.K r n) (hn : n ≤ 60) (hu : Z.X.A.units + 65 < cLine) {ma mb : M Z.S α} (ha : JE Z Γ a ma (.fz r)) (hb : JE Z Γ b mb (.fz r)) : JE Z Γ (.Compare a [.Eq] [b] pos) (bnd ma fun x => bnd mb fun y => eqM D.ok x y) (.fz rB) :=
  je_two (fun x y => eqM D.ok x y) (.fz rB) (fun _ _ p q => pe_cmpR (op_eqD (by omega)) p q (nomark _)) ha hb fun x y v w s G B σ H Q st hv hw q => by
    obtain ⟨c, q⟩ := grd_of q
    have c := Bool.and_eq_true_iff.mp c
    exact ⟨D.d x, D.d y, D.dp st.ok.gh hv, D.dp st.ok.gh hw, shaped_of D hn c.1, shaped_of D hn c.2, by rw [D.eq]; exact fin q st rfl⟩
theorem jt_eqD {r : Rp α} {n : Nat} (D : DEq Z.X.K r n) (hn : n ≤ 60) (hu : Z.X.A.units + 65 < cLine) {ma mb : M Z.S α} (ha : JE Z Γ a ma (.fz r)) (hb : JE Z Γ b mb (.fz r)) : JT Z Γ (.Compare a [.Eq] [b] pos) (bnd ma fun x => bnd mb fun y => eqM D.ok x y) :=
  jt_two (fun x y => eqM D.ok x y) (fun _ _ p q => pt_cmpR (op_eqD (by omega)) p q (nomark _)) ha hb fun x y v w s G B σ H Q st hv hw q => by
    obtain ⟨c, q⟩ := grd_of q
    have c := Bool.and_eq_true_iff.mp c
    exact ⟨D.d x, D.d y, D.dp st.ok.gh hv, D.dp st.ok.gh hw, shaped_of D hn c.1, shaped_of D hn c.2, by rw [D.eq]; exact fin q st rfl⟩
theorem je_neD {r : Rp α} {n : Nat} (D : DEq Z.X.K r n) (hn : n ≤ 60) (hu : Z.X.A.units + 65 < cLine) {ma mb : M Z.S α} (ha : JE Z Γ a ma (.fz r)) (hb : JE Z Γ b mb (.fz r)) : JE Z Γ (.Compare a [.NotEq] [b] pos) (bnd ma fun x => bnd mb fun y => neM D.ok x y) (.fz rB) :=
  je_two (fun x y => neM D.ok x y) (.fz rB) (fun _ _ p q => pe_cmpR (op_neD (by omega)) p q (nomark _)) ha hb fun x y v w s G B σ H Q st hv hw q => by
    obtain ⟨c, q⟩ := grd_of q
    have c := Bool.and_eq_true_iff.mp c
    exact ⟨D.d x, D.d y, D.dp st.ok.gh hv, D.dp st.ok.gh hw, shaped_of D hn c.1, shaped_of D hn c.2, by rw [D.eq]; exact fin q st rfl⟩
theorem jt_neD {r : Rp α} {n : Nat} (D : DEq Z.X.K r n) (hn : n ≤ 60) (hu : Z.X.A.units + 65 < cLine) {ma mb : M Z.S α} (ha : JE Z Γ a ma (.fz r)) (hb : JE Z Γ b mb (.fz r)) : JT Z Γ (.Compare a [.NotEq] [b] pos) (bnd ma fun x => bnd mb fun y => neM D.ok x y) :=
  jt_two (fun x y => neM D.ok x y) (fun _ _ p q => pt_cmpR (op_neD (by omega)) p q (nomark _)) ha hb fun x y v w s G B σ H Q st hv hw q => by
    obtain ⟨c, q⟩ := grd_of q
    have c := Bool.and_eq_true_iff.mp c
    exact ⟨D.d x, D.d y, D.dp st.ok.gh hv, D.dp st.ok.gh hw, shaped_of D hn c.1, shaped_of D hn c.2, by rw [D.eq]; exact fin q st rfl⟩
/-! ### in, not in -/
/-- a rep of flat values: equal values of equal things -/
structure FlatR {α : Type} [DecidableEq α] (r : Rp α) : Prop where
  flat : ∀ {x : α} {v : V} {G : Hp}, (r x).p v G → flatV v = true
  eq : ∀ {x y : α} {v w : V} {G : Hp}, (r x).p v G → (r y).p w G → eqV v w = decide (x = y)
theorem flI : FlatR rI := ⟨fun {x v G} (h : v = .int x) => by rw [h]; rfl, fun {x y v w G} (h : v = .int x) (h' : w = .int y) => by rw [h, h']; show (x == y) = _; exact beq_dec x y⟩
theorem flS : FlatR rS := ⟨fun {x v G} (h : v = .str x) => by rw [h]; rfl, fun {x y v w G} (h : v = .str x) (h' : w = .str y) => by rw [h, h']; show (x == y) = _; exact beq_dec x y⟩
theorem flat_all {r : Rp α} (F : FlatR r) {G : Hp} : ∀ {vs : List V} {xs : List α}, AllP r G vs xs → vs.all flatV = true
  | _, _, .nil => rfl
  | _, _, .cons h t => by rw [List.all_cons, F.flat h, flat_all F t]; rfl
theorem in_all {r : Rp α} (F : FlatR r) {G : Hp} {x : α} {v : V} (hx : (r x).p v G) : ∀ {vs : List V} {xs : List α}, AllP r G vs xs → inV v vs = decide (x ∈ xs)
  | _, _, .nil => rfl
  | _, _, .cons (a := w) (b := y) (l₁ := ws) (l₂ := ys) h t => by
    show (eqV w v || inV v ws) = _
    rw [F.eq h hx, in_all F hx t]
    by_cases e : y = x
    · subst e; simp
    · have e' : ¬ x = y := fun z => e z.symm
      simp [e, e']
theorem c_inL {r : Rp α} (F : FlatR r) : CmpOk Z Γ .In r (rL r) fun x xs => decide (x ∈ xs) := ⟨_, op_in_seq, fun x xs v w s G B σ H Q st hv ⟨p, ws, ew, hp, hws⟩ q =>
  ⟨p, ws, ew, .inl (SqL.of (st.ok.gh _ _ hp)), F.flat hv, flat_all F hws, by rw [in_all F hv hws]; exact q⟩⟩
theorem c_ninL {r : Rp α} (F : FlatR r) : CmpOk Z Γ .NotIn r (rL r) fun x xs => !decide (x ∈ xs) := ⟨_, op_notIn_seq, fun x xs v w s G B σ H Q st hv ⟨p, ws, ew, hp, hws⟩ q =>
  ⟨p, ws, ew, .inl (SqL.of (st.ok.gh _ _ hp)), F.flat hv, flat_all F hws, by rw [in_all F hv hws]; exact q⟩⟩
/-- of data -/
theorem dany {K : PySem.W.Frag} {r : Rp α} {n : Nat} (D : DEq K r n) (x : α) : ∀ xs : List α, ((xs.map D.d).any fun z => PyData.eqv z (D.d x)) = decide (x ∈ xs)
  | [] => rfl
  | y :: ys => by
    rw [List.map_cons, List.any_cons, D.eq, dany D x ys]
    by_cases e : y = x
    · subst e; simp
    · have e' : ¬ x = y := fun z => e z.symm
      simp [e, e']
def inM {S : Type} (ok : α → Bool) (x : α) (xs : List α) : M S Bool := bnd (grd (ok x && xs.all ok)) fun _ => ret (decide (x ∈ xs))
def ninM {S : Type} (ok : α → Bool) (x : α) (xs : List α) : M S Bool := bnd (grd (ok x && xs.all ok)) fun _ => ret (!decide (x ∈ xs))
theorem je_inD {r : Rp α} {n : Nat} (D : DEq Z.X.K r n) (hn : n ≤ 59) (hu : Z.X.A.units + 65 < cLine) {ma : M Z.S α} {mb : M Z.S (List α)} (ha : JE Z Γ a ma (.fz r)) (hb : JE Z Γ b mb (.fz (rL r))) (hm : behindInMarks .In b = false := by rfl) : JE Z Γ (.Compare a [.In] [b] pos) (bnd ma fun x => bnd mb fun y => inM D.ok x y) (.fz rB) :=
  je_two (fun x y => inM D.ok x y) (.fz rB) (fun _ _ p q => pe_cmpR (op_inD hu) p q hm) ha hb fun x y v w s G B σ H Q st hv hw q => by
    obtain ⟨c, q⟩ := grd_of q
    have c := Bool.and_eq_true_iff.mp c
    exact ⟨D.d x, y.map D.d, D.dp st.ok.gh hv, (dL D).dp st.ok.gh hw, shaped_of D (by omega) c.1, shaped_of (dL D) (by omega) (x := y) c.2, by rw [dany]; exact fin q st rfl⟩
theorem jt_inD {r : Rp α} {n : Nat} (D : DEq Z.X.K r n) (hn : n ≤ 59) (hu : Z.X.A.units + 65 < cLine) {ma : M Z.S α} {mb : M Z.S (List α)} (ha : JE Z Γ a ma (.fz r)) (hb : JE Z Γ b mb (.fz (rL r))) (hm : behindInMarks .In b = false := by rfl) : JT Z Γ (.Compare a [.In] [b] pos) (bnd ma fun x => bnd mb fun y => inM D.ok x y) :=
  jt_two (fun x y => inM D.ok x y) (fun _ _ p q => pt_cmpR (op_inD hu) p q hm) ha hb fun x y v w s G B σ H Q st hv hw q => by
    obtain ⟨c, q⟩ := grd_of q
    have c := Bool.and_eq_true_iff.mp c
    exact ⟨D.d x, y.map D.d, D.dp st.ok.gh hv, (dL D).dp st.ok.gh hw, shaped_of D (by omega) c.1, shaped_of (dL D) (by omega) (x := y) c.2, by rw [dany]; exact fin q st rfl⟩
theorem je_ninD {r : Rp α} {n : Nat} (D : DEq Z.X.K r n) (hn : n ≤ 59) (hu : Z.X.A.units + 65 < cLine) {ma : M Z.S α} {mb : M Z.S (List α)} (ha : JE Z Γ a ma (.fz r)) (hb : JE Z Γ b mb (.fz (rL r))) (hm : behindInMarks .NotIn b = false := by rfl) : JE Z Γ (.Compare a [.NotIn] [b] pos) (bnd ma fun x => bnd mb fun y => ninM D.ok x y) (.fz rB) :=
  je_two (fun x y => ninM D.ok x y) (.fz rB) (fun _ _ p q => pe_cmpR (op_notInD hu) p q hm) ha hb fun x y v w s G B σ H Q st hv hw q => by
    obtain ⟨c, q⟩ := grd_of q
    have c := Bool.and_eq_true_iff.mp c
    exact ⟨D.d x, y.map D.d, D.dp st.ok.gh hv, (dL D).dp st.ok.gh hw, shaped_of D (by omega) c.1, shaped_of (dL D) (by omega) (x := y) c.2, by rw [dany]; exact fin q st rfl⟩
theorem jt_ninD {r : Rp α} {n : Nat} (D : DEq Z.X.K r n) (hn : n ≤ 59) (hu : Z.X.A.units + 65 < cLine) {ma : M Z.S α} {mb : M Z.S (List α)} (ha : JE Z Γ a ma (.fz r)) (hb : JE Z Γ b mb (.fz (rL r))) (hm : behindInMarks .NotIn b = false := by rfl) : JT Z Γ (.Compare a [.NotIn] [b] pos) (bnd ma fun x => bnd mb fun y => ninM D.ok x y) :=
  jt_two (fun x y => ninM D.ok x y) (fun _ _ p q => pt_cmpR (op_notInD hu) p q hm) ha hb fun x y v w s G B σ H Q st hv hw q => by
    obtain ⟨c, q⟩ := grd_of q
    have c := Bool.and_eq_true_iff.mp c
    exact ⟨D.d x, y.map D.d, D.dp st.ok.gh hv, (dL D).dp st.ok.gh hw, shaped_of D (by omega) c.1, shaped_of (dL D) (by omega) (x := y) c.2, by rw [dany]; exact fin q st rfl⟩
/-- one sign in a text -/
def inSM {S : Type} (c z : Str) : M S Bool := bnd (opt (match c.cps.toList with | [x] => some x | _ => none)) fun x => ret (decide (x ∈ z.cps.toList))
end
end DL
set_option Elab.async false
set_option linter.all false
set_option maxRecDepth 100000
namespace DL
open PySem L2
section
variable {Z : Zc} {Γ : Ctx} {α β γ : Type} {e a b : Expr} {es : List Expr} {pos : Pos} {κ : Type} [DecidableEq κ] {kt : KeyT κ}
/-! ### dicts that stand still -/
theorem dget_of {r : Rp α} {d : List (κ × α)} {k : κ} {v w : V} {G H : Hp} (g : Same G H) (hd : (rD kt r d).p v G) (hk : (kt.rp k).p w G) : ∃ p o, v = .ref p ∧ DGet H p w o ∧ ((dget d k = none ∧ o = none) ∨ ∃ x u, dget d k = some x ∧ o = some u ∧ (r x).p u G) := by
  obtain ⟨p, od, vs, rfl, hp, hv⟩ := hd
  refine ⟨p, valV vs (kt.f k), rfl, .inl ⟨vs, kt.f k, .inr ⟨od, g _ _ hp⟩, hk, rfl⟩, ?_⟩
  rcases hv.get k with ⟨h1, h2⟩ | ⟨x, u, h1, h2, h3⟩
  · exact .inl ⟨h1, h2⟩
  · exact .inr ⟨x, u, h1, h2, h3⟩
theorem je_dget {r : Rp α} (hu : Z.X.A.units + 65 < cLine) {md : M Z.S (List (κ × α))} {mk : M Z.S κ} (hd : JE Z Γ a md (.fz (rD kt r))) (hk : JE Z Γ b mk (.fz kt.rp)) (hs : NoSl b := by exact fun _ _ => rfl) : JE Z Γ (.Subscript a b pos) (bnd md fun d => bnd mk fun k => opt (dget d k)) (.fz r) := by
  refine ⟨PE.imp (pe_dget (by omega) hd.pe hk.pe hs) fun σ H Q ⟨s, G, B, st, q⟩ => ?_⟩
  refine tE.imp (tE_bnd (ρ := .fz (rD kt r)) st q) ?_
  rintro v H1 ⟨d, s1, G1, B1, g1, st1, hx, q1⟩
  refine tE.imp (tE_bnd (ρ := .fz kt.rp) st1 q1) ?_
  rintro w H2 ⟨k, s2, G2, B2, g2, st2, hy, q2⟩
  obtain ⟨x, ex, q2⟩ := opt_of' q2
  obtain ⟨p, o, rfl, hg, z⟩ := dget_of st2.ok.gh ((rD kt r d).mono g2 hx) hy
  rcases z with ⟨z1, z2⟩ | ⟨x', u, z1, z2, z3⟩
  · rw [ex] at z1
    cases z1
  · rw [ex] at z1
    cases z1
    subst z2
    exact ⟨p, u, rfl, hg, fin q2 st2 z3⟩
theorem je_din {r : Rp α} (hu : Z.X.A.units + 65 < cLine) {md : M Z.S (List (κ × α))} {mk : M Z.S κ} (hk : JE Z Γ a mk (.fz kt.rp)) (hd : JE Z Γ b md (.fz (rD kt r))) (hm : behindInMarks .In b = false := by rfl) : JE Z Γ (.Compare a [.In] [b] pos) (bnd mk fun k => bnd md fun d => ret (dhas d k)) (.fz rB) := by
  refine ⟨PE.imp (pe_cmp (pc_din (by omega) hk.pe hd.pe) hm) fun σ H Q ⟨s, G, B, st, q⟩ => ?_⟩
  refine tE.imp (tE_bnd (ρ := .fz kt.rp) st q) ?_
  rintro v H1 ⟨k, s1, G1, B1, g1, st1, hx, q1⟩
  refine tE.imp (tE_bnd (ρ := .fz (rD kt r)) st1 q1) ?_
  rintro w H2 ⟨d, s2, G2, B2, g2, st2, hy, q2⟩
  obtain ⟨p, o, rfl, hg, z⟩ := dget_of st2.ok.gh hy ((kt.rp k).mono g2 hx)
  refine ⟨p, o, rfl, hg, ?_⟩
  rcases z with ⟨z1, rfl⟩ | ⟨x', u, z1, rfl, z3⟩
  · exact fin q2 st2 (by unfold dhas; rw [z1]; rfl)
  · exact fin q2 st2 (by unfold dhas; rw [z1]; rfl)
theorem jt_din {r : Rp α} (hu : Z.X.A.units + 65 < cLine) {md : M Z.S (List (κ × α))} {mk : M Z.S κ} (hk : JE Z Γ a mk (.fz kt.rp)) (hd : JE Z Γ b md (.fz (rD kt r))) (hm : behindInMarks .In b = false := by rfl) : JT Z Γ (.Compare a [.In] [b] pos) (bnd mk fun k => bnd md fun d => ret (dhas d k)) := by
  refine ⟨PT.imp (pt_cmp (pc_din (by omega) hk.pe hd.pe) hm) fun σ H Q ⟨s, G, B, st, q⟩ => ?_⟩
  refine tE.imp (tE_bndT (ρ := .fz kt.rp) st q) ?_
  rintro v H1 ⟨k, s1, G1, B1, g1, st1, hx, q1⟩
  refine tE.imp (tE_bndT (ρ := .fz (rD kt r)) st1 q1) ?_
  rintro w H2 ⟨d, s2, G2, B2, g2, st2, hy, q2⟩
  obtain ⟨p, o, rfl, hg, z⟩ := dget_of st2.ok.gh hy ((kt.rp k).mono g2 hx)
  refine ⟨p, o, rfl, hg, dhas d k, ?_, q2 H2 G2 B2 (Same.refl _) st2⟩
  rcases z with ⟨z1, rfl⟩ | ⟨x', u, z1, rfl, z3⟩
  · unfold dhas; rw [z1]; rfl
  · unfold dhas; rw [z1]; rfl
theorem je_dnin {r : Rp α} (hu : Z.X.A.units + 65 < cLine) {md : M Z.S (List (κ × α))} {mk : M Z.S κ} (hk : JE Z Γ a mk (.fz kt.rp)) (hd : JE Z Γ b md (.fz (rD kt r))) (hm : behindInMarks .NotIn b = false := by rfl) : JE Z Γ (.Compare a [.NotIn] [b] pos) (bnd mk fun k => bnd md fun d => ret (!dhas d k)) (.fz rB) := by
  refine ⟨PE.imp (pe_cmp (pc_dnotin (by omega) hk.pe hd.pe) hm) fun σ H Q ⟨s, G, B, st, q⟩ => ?_⟩
  refine tE.imp (tE_bnd (ρ := .fz kt.rp) st q) ?_
  rintro v H1 ⟨k, s1, G1, B1, g1, st1, hx, q1⟩
  refine tE.imp (tE_bnd (ρ := .fz (rD kt r)) st1 q1) ?_
  rintro w H2 ⟨d, s2, G2, B2, g2, st2, hy, q2⟩
  obtain ⟨p, o, rfl, hg, z⟩ := dget_of st2.ok.gh hy ((kt.rp k).mono g2 hx)
  refine ⟨p, o, rfl, hg, ?_⟩
  rcases z with ⟨z1, rfl⟩ | ⟨x', u, z1, rfl, z3⟩
  · exact fin q2 st2 (by unfold dhas; rw [z1]; rfl)
  · exact fin q2 st2 (by unfold dhas; rw [z1]; rfl)
theorem jt_dnin {r : Rp α} (hu : Z.X.A.units + 65 < cLine) {md : M Z.S (List (κ × α))} {mk : M Z.S κ} (hk : JE Z Γ a mk (.fz kt.rp)) (hd : JE Z Γ b md (.fz (rD kt r))) (hm : behindInMarks .NotIn b = false := by rfl) : JT Z Γ (.Compare a [.NotIn] [b] pos) (bnd mk fun k => bnd md fun d => ret (!dhas d k)) := by
  refine ⟨PT.imp (pt_cmp (pc_dnotin (by omega) hk.pe hd.pe) hm) fun σ H Q ⟨s, G, B, st, q⟩ => ?_⟩
  refine tE.imp (tE_bndT (ρ := .fz kt.rp) st q) ?_
  rintro v H1 ⟨k, s1, G1, B1, g1, st1, hx, q1⟩
  refine tE.imp (tE_bndT (ρ := .fz (rD kt r)) st1 q1) ?_
  rintro w H2 ⟨d, s2, G2, B2, g2, st2, hy, q2⟩
  obtain ⟨p, o, rfl, hg, z⟩ := dget_of st2.ok.gh hy ((kt.rp k).mono g2 hx)
  refine ⟨p, o, rfl, hg, !dhas d k, ?_, q2 H2 G2 B2 (Same.refl _) st2⟩
  rcases z with ⟨z1, rfl⟩ | ⟨x', u, z1, rfl, z3⟩
  · unfold dhas; rw [z1]; rfl
  · unfold dhas; rw [z1]; rfl
/-- dict(d): a copy -/
theorem call_dict_copy {X : Cx} : CallR X (.type "dict") (fun xs H Q => ∃ p kvs, xs = [.ref p] ∧ Rd H p (.dK kvs) ∧ ∀ q, H q = none → Q (.ref q) (upd H q (.dK kvs))) := by
  intro pins s σ H xs us Q I r h
  obtain ⟨p, kvs, rfl, hp, q⟩ := h
  obtain ⟨u, rfl, ru⟩ := vals1 r
  cases ru
  exact d_copyOf I hp fun p2 s' n I' => ⟨.ref p2, _, I', rfl, q p2 n⟩
theorem je_dictD {p : Pos} {r : Rp α} {m : M Z.S (List (κ × α))} (hg : Gl Z.X "dict") (hm : Z.X.mg "dict" = none) (h : JE Z Γ e m (.fz (rD kt r))) (he : starEach [e] Z.X.env = (false, eval e Z.X.env) :: starEach [] Z.X.env := by exact star_of rfl) : JE Z Γ (.Call (.Name "dict" p) [e] [] pos) (bnd m fun d => ret d) (.own (cD kt r)) :=
  je_ct (fun x : List (κ × α) × Unit => ret x.1) (.own (cD kt r)) call_dict_copy hg hm (by decide +kernel) (ja_cons h ja_nil he) (fun x vs s G B σ H Q st hx q => by
    obtain ⟨v, rfl, a, od, ws, rfl, ha, hw⟩ := ra1 hx
    exact ⟨a, ws, rfl, .inr ⟨od, st.ok.gh _ _ ha⟩, fun l nl => q _ _ G B (Same.refl _) (st.laid nl) (st.own nl ⟨_, rfl, hw⟩)⟩) (he := he)
/-- list(d) -/
theorem call_list_rd {X : Cx} (hc : X.calm = true) : CallR X (.type "list") (fun xs H Q => ∃ p kvs, xs = [.ref p] ∧ Rd H p (.dK kvs) ∧ ∀ q, H q = none → Q (.ref q) (upd H q (.lst (kvs.map fun kv => kV kv.1)))) := by
  intro pins s σ H xs us Q I r h
  obtain ⟨p, kvs, e, hk, q⟩ := h
  subst e
  obtain ⟨u, eu, rx⟩ := vals1 r
  subst eu
  obtain rfl : u = Value.ref p := rx
  obtain ⟨z, lo, vs, rk, hd⟩ := (show ObjOk X.prog X.w H s.heap p (.dK kvs) from hk.ok I.hok)
  obtain ⟨ep, hat⟩ := hd.dictAt
  have hl : kvs.length = vs.length := Paired.length rk
  refine PySem.W.kdl_call (PySem.W.kdl_dict (knd := mixKind X.prog X.w) (kvs := vs) (ep := ep) lo) (I.ok.hd hc) hat (by rw [← hl]; exact z) fun h' tk acc' c' hkeep hS hacc => ?_
  refine ⟨.ref s.heap.objs.size, upd H s.heap.objs.size (.lst (kvs.map fun kv => kV kv.1)), I.laid hkeep (Nat.le_refl _) (show ObjOk X.prog X.w _ _ _ (.lst (kvs.map fun kv => kV kv.1)) from ⟨?_, acc'.toList, c', ?_, ?_⟩), rfl, q _ (I.hok.fresh (Nat.le_refl _))⟩
  · rw [List.length_map]; exact z
  · have el : acc'.toList.length = acc'.size := by simp
    refine vals_of_at (by rw [List.length_map, el, hacc.1, hl]) fun j x w h1 h2 => ?_
    obtain ⟨k, y, hky, hi⟩ := hacc.2 j w (by rw [← Array.getElem?_toList]; exact h2)
    have e1 : (kvs.map (·.1))[j]? = some k := by
      rw [KV.keys rk, List.getElem?_map, hky] <;> rfl
    have e2 : (kvs.map fun kv => kV kv.1)[j]? = some (kV k) := by
      have e3 : (kvs.map fun kv => kV kv.1) = (kvs.map (·.1)).map kV := by rw [List.map_map] <;> rfl
      rw [e3, List.getElem?_map, e1] <;> rfl
    rw [e2] at h1
    cases h1
    exact keyIs_rel hi
  · rw [Array.toArray_toList]; exact hS
theorem AllD.keys {r : Rp α} {G : Hp} : ∀ {vs : List (Key × V)} {xs : List (κ × α)}, AllD kt r G vs xs → AllP kt.rp G (vs.map fun kv => kV kv.1) (xs.map (·.1))
  | _, _, .nil => .nil
  | _, _, .cons h t => .cons (show kV _ = kV _ by rw [h.1]) (AllD.keys t)
theorem AllD.vals {r : Rp α} {G : Hp} : ∀ {vs : List (Key × V)} {xs : List (κ × α)}, AllD kt r G vs xs → AllP r G (vs.map (·.2)) (xs.map (·.2))
  | _, _, .nil => .nil
  | _, _, .cons h t => .cons h.2 (AllD.vals t)
theorem je_listD (z : ZOk Z) {p : Pos} {r : Rp α} {m : M Z.S (List (κ × α))} (hg : Gl Z.X "list") (hm : Z.X.mg "list" = none) (h : JE Z Γ e m (.fz (rD kt r))) (he : starEach [e] Z.X.env = (false, eval e Z.X.env) :: starEach [] Z.X.env := by exact star_of rfl) : JE Z Γ (.Call (.Name "list" p) [e] [] pos) (bnd m fun d => ret (d.map (·.1))) (.own (cL kt.rp)) :=
  je_ct (fun x : List (κ × α) × Unit => ret (x.1.map (·.1))) (.own (cL kt.rp)) (call_list_rd z.calm) hg hm (by decide +kernel) (ja_cons h ja_nil he) (fun x vs s G B σ H Q st hx q => by
    obtain ⟨v, rfl, a, od, ws, rfl, ha, hw⟩ := ra1 hx
    exact ⟨a, ws, rfl, .inr ⟨od, st.ok.gh _ _ ha⟩, fun l nl => q _ _ G B (Same.refl _) (st.laid nl) (st.own nl ⟨_, rfl, hw.keys⟩)⟩) (he := he)
/-! ### what is walked -/
def YI {α : Type} (xs : List α) (r : Rp α) (G : Hp) : Nat → Hp → V → Hp → Prop := fun i H v H' => ∃ x, xs[i]? = some x ∧ ((H' = H ∧ (r x).p v G) ∨ ∃ T vs, v = .ref T ∧ H T = none ∧ H' = upd H T (.tup vs) ∧ ∀ G', Same G G' → G' T = some (.tup vs) → (r x).p v G')
def WalkI {α : Type} (J : It) (xs : List α) (r : Rp α) (G : Hp) : Prop := Walk J xs.length (fun H => Same G H) (YI xs r G)
def PostI (Z : Zc) (Γ : Ctx) (r : Rp α) (σ : St) (R : It → Hp → Prop) (G : Hp) : Out Z.S (List α) → Prop
  | .ok xs s' => ∀ J H' G' B', Same G G' → Sta Z Γ s' G' B' σ H' → WalkI J xs r G' → R J H'
  | .err e s' => ∀ cls d σ' H' G' B', Same G G' → Sta Z [] s' G' B' σ' H' → errIs Z.X.mg e cls d H' → Z.W cls d σ' H'
  | .stuck => False
structure JI (Z : Zc) (Γ : Ctx) (tg iter : Expr) {α : Type} (m : M Z.S (List α)) (r : Rp α) : Prop where
  ex : ∃ wi : TI, PI Z.X tg iter wi ∧ ∀ {s : Z.S} {G B : Hp} {σ : St} {H : Hp} {R : It → Hp → Prop}, Sta Z Γ s G B σ H → PostI Z Γ r σ R G (m s) → wi σ H R
variable {tg : Expr}
/-- by a thing that is evaluated first -/
theorem ji_of {iter : Expr} {wi : TE → TI} {m : M Z.S β} {rb : Rp β} (f : β → M Z.S (List α)) {r : Rp α} (h : JE Z Γ e m (.fz rb)) (hp : ∀ t, PE Z.X e t → PI Z.X tg iter (wi t)) (hw : ∀ t σ H R, wi t σ H R = t σ H fun v H1 => wi (fun _ H2 Q2 => Q2 v H2) σ H1 R)
    (hq : ∀ x v s G B σ H R, Sta Z Γ s G B σ H → (rb x).p v G → PostI Z Γ r σ R G (f x s) → wi (fun _ H2 Q2 => Q2 v H2) σ H R) : JI Z Γ tg iter (bnd m f) r := by
  refine ⟨wi _, hp _ h.pe, fun {s G B σ H R} st q => ?_⟩
  rw [hw]
  refine ⟨s, G, B, st, ?_⟩
  have q : PostI Z Γ r σ R G ((m s).bnd f) := q
  revert q
  cases m s with
  | ok x s1 =>
    intro q v H1 G1 B1 g1 st1 hx
    refine hq x v s1 G1 B1 σ H1 R st1 hx ?_
    revert q
    show PostI Z Γ r σ R G (f x s1) → PostI Z Γ r σ R G1 (f x s1)
    cases f x s1 with
    | ok y s2 => exact fun q J H' G' B' g => q J H' G' B' (g1.trans g)
    | err y s2 => exact fun q cls d σ' H' G' B' g => q cls d σ' H' G' B' (g1.trans g)
    | stuck => exact fun q => q
  | err x s1 => exact fun q => q
  | stuck => exact fun q => q
theorem finI {xs : List α} {r : Rp α} {s : Z.S} {G B : Hp} {σ : St} {H : Hp} {R : It → Hp → Prop} (q : PostI Z Γ r σ R G (ret xs s)) (st : Sta Z Γ s G B σ H) {J : It} (w : WalkI J xs r G) : R J H := q J H G B (Same.refl _) st w
theorem walkI_list {r : Rp α} {G : Hp} {p : Addr} {vs : List V} {xs : List α} (K : PySem.W.Frag) (hp : SqL K G p vs) (hv : AllP r G vs xs) : WalkI (Itl K p) xs r G := by
  unfold WalkI
  rw [← hv.length]
  refine Walk.mono walk_list (fun H g => Same.seq g hp) fun i H x H' hi g ⟨e, hx⟩ => ?_
  obtain ⟨y, h1, h2⟩ := hv.get' hx
  exact ⟨y, h1, .inl ⟨e, h2⟩⟩
theorem ji_list {r : Rp α} {m : M Z.S (List α)} (h : JE Z Γ e m (.fz (rL r))) : JI Z Γ tg e (bnd m fun xs => ret xs) r :=
  ji_of (wi := iList Z.X.K) (fun xs => ret xs) h (fun _ p => pi_list p) (fun _ _ _ _ => rfl) fun xs v s G B σ H R st ⟨p, vs, ev, hp, hv⟩ q =>
    ⟨p, ev, ⟨vs, SqL.of (st.ok.gh _ _ hp)⟩, finI q st (walkI_list _ (SqL.of hp) hv)⟩
theorem ji_tup2 {r : Rp α} {m : M Z.S (α × α)} (h : JE Z Γ e m (.fz (rT2 Z.X.K r r))) : JI Z Γ tg e (bnd m fun t => ret [t.1, t.2]) r :=
  ji_of (wi := iTup Z.X.K) (fun t : α × α => ret [t.1, t.2]) h (fun _ p => pi_tup p) (fun _ _ _ _ => rfl) fun t v s G B σ H R st ⟨p, u1, u2, ev, hp, h1, h2⟩ q => by
    refine ⟨p, ev, ⟨_, Same.sqT st.ok.gh hp⟩, finI q st ?_⟩
    have hv : AllP r G [u1, u2] [t.1, t.2] := .cons h1 (.cons h2 .nil)
    refine Walk.mono (walk_tup (xs := [u1, u2])) (fun H g => Same.sqT g hp) fun i H x H' hi g ⟨e, hx⟩ => ?_
    obtain ⟨y, h1, h2⟩ := hv.get' hx
    exact ⟨y, h1, .inl ⟨e, h2⟩⟩
/-- range(n) -/
def rangeM {S : Type} (lo hi : Int) : M S (List Int) := bnd (grd (decide (-(2 ^ 62) ≤ lo) && decide (lo < 2 ^ 62) && decide (-(2 ^ 62) ≤ hi) && decide (hi < 2 ^ 62))) fun _ => ret ((List.range (hi - lo).toNat).map fun (i : Nat) => lo + (i : Int))
theorem walkI_range {G : Hp} (lo : Int) (n : Nat) : WalkI (Itr lo n) ((List.range n).map fun (i : Nat) => lo + (i : Int)) rI G := by
  unfold WalkI
  rw [List.length_map, List.length_range]
  refine Walk.mono walk_range (fun H g => trivial) fun i H x H' hi g ⟨e, hx⟩ => ?_
  exact ⟨lo + (i : Int), by rw [List.getElem?_map, List.getElem?_range hi]; rfl, .inl ⟨e, hx⟩⟩
theorem grd_ofI {b : Bool} {f : Unit → M Z.S (List α)} {r : Rp α} {s : Z.S} {G : Hp} {σ : St} {R : It → Hp → Prop} (q : PostI Z Γ r σ R G (bnd (grd b) f s)) : b = true ∧ PostI Z Γ r σ R G (f () s) := by
  cases b with
  | true => exact ⟨rfl, q⟩
  | false => exact q.elim
theorem ji_range1 {p : Pos} {m : M Z.S Int} (hg : Gl Z.X "range") (hm : Z.X.mg "range" = none) (h : JE Z Γ e m (.fz rI)) (hs : starEach [e] Z.X.env = [(false, eval e Z.X.env)] := by exact star_of rfl) : JI Z Γ tg (.Call (.Name "range" p) [e] [] pos) (bnd m fun n => rangeM 0 n) rI :=
  ji_of (wi := fun t => iRng1 (tCons t tNil)) (fun n => rangeM 0 n) h (fun _ p => pi_range1 hg hm (pa_cons p pa_nil hs) hs) (fun _ _ _ _ => rfl) fun n v s G B σ H R st (hv : v = .int n) q => by
    obtain ⟨c, q⟩ := grd_ofI q
    simp only [Bool.and_eq_true, decide_eq_true_eq] at c
    have q2 : PostI Z Γ rI σ R G (ret ((List.range n.toNat).map fun (i : Nat) => (0 : Int) + (i : Int)) s) := by
      have e : (n - 0).toNat = n.toNat := by rw [Int.sub_zero]
      rw [← e]
      exact q
    exact ⟨n, by rw [hv], c.1.2, c.2, finI q2 st (walkI_range 0 n.toNat)⟩
theorem ji_keys {r : Rp α} {m : M Z.S (List (κ × α))} (h : JE Z Γ e m (.fz (rD kt r))) : JI Z Γ tg e (bnd m fun d => ret (d.map (·.1))) kt.rp :=
  ji_of (wi := iKeys) (fun d : List (κ × α) => ret (d.map (·.1))) h (fun _ p => pi_keys p) (fun _ _ _ _ => rfl) fun d v s G B σ H R st ⟨p, od, vs, ev, hp, hv⟩ q => by
    refine ⟨p, od, ev, .inl ⟨vs, st.ok.gh _ _ hp, finI q st ?_⟩⟩
    unfold WalkI
    rw [List.length_map, ← hv.length]
    refine Walk.mono walk_keys (fun H g => g _ _ hp) fun i H x H' hi g ⟨e, k, w, h1, h2⟩ => ?_
    have h3 : (vs.map fun kv => kV kv.1)[i]? = some x := by rw [List.getElem?_map, h1, h2]; rfl
    obtain ⟨y, h4, h5⟩ := (AllD.keys hv).get' h3
    exact ⟨y, h4, .inl ⟨e, h5⟩⟩
theorem ji_values {apos : Pos} {r : Rp α} {m : M Z.S (List (κ × α))} (h : JE Z Γ e m (.fz (rD kt r))) (hbase : attributeBase e "values" Z.X.env (eval e Z.X.env) = eval e Z.X.env := by rfl) (hline : (apos.endLine == pos.line) = true := by rfl) : JI Z Γ tg (.Call (.Attribute e "values" apos) [] [] pos) (bnd m fun d => ret (d.map (·.2))) r :=
  ji_of (wi := iVals) (fun d : List (κ × α) => ret (d.map (·.2))) h (fun _ p => pi_values p hbase hline) (fun _ _ _ _ => rfl) fun d v s G B σ H R st ⟨p, od, vs, ev, hp, hv⟩ q => by
    refine ⟨p, od, vs, ev, st.ok.gh _ _ hp, finI q st ?_⟩
    unfold WalkI
    rw [List.length_map, ← hv.length]
    refine Walk.mono walk_values (fun H g => g _ _ hp) fun i H x H' hi g ⟨e, k, h1⟩ => ?_
    have h3 : (vs.map (·.2))[i]? = some x := by rw [List.getElem?_map, h1]; rfl
    obtain ⟨y, h4, h5⟩ := (AllD.vals hv).get' h3
    exact ⟨y, h4, .inl ⟨e, h5⟩⟩
theorem AllD.at {r : Rp α} {G : Hp} : ∀ {vs : List (Key × V)} {xs : List (κ × α)} {i : Nat} {p : Key × V}, AllD kt r G vs xs → vs[i]? = some p → ∃ x, xs[i]? = some x ∧ p.1 = kt.f x.1 ∧ (r x.2).p p.2 G
  | _, _, _, _, .nil, e => by simp at e
  | _, _, 0, _, .cons h _, e => by simp at e; subst e; exact ⟨_, rfl, h.1, h.2⟩
  | _, _, i + 1, p, .cons _ t, e => by
    obtain ⟨x, h1, h2⟩ := AllD.at (i := i) (p := p) t (by simpa using e)
    exact ⟨x, by simpa using h1, h2⟩
theorem ji_items {elts : List Expr} {kk : _} {tpos : Pos} {apos : Pos} {r : Rp α} {m : M Z.S (List (κ × α))} (h : JE Z Γ e m (.fz (rD kt r))) (hbase : attributeBase e "items" Z.X.env (eval e Z.X.env) = eval e Z.X.env := by rfl) (hline : (apos.endLine == pos.line) = true := by rfl) : JI Z Γ (.Tuple elts kk tpos) (.Call (.Attribute e "items" apos) [] [] pos) (bnd m fun d => ret d) (rT2 Z.X.K kt.rp r) :=
  ji_of (wi := iItems) (fun d : List (κ × α) => ret d) h (fun _ p => pi_items p hbase hline) (fun _ _ _ _ => rfl) fun d v s G B σ H R st ⟨p, od, vs, ev, hp, hv⟩ q => by
    refine ⟨p, od, vs, ev, st.ok.gh _ _ hp, finI q st ?_⟩
    unfold WalkI
    rw [← hv.length]
    refine Walk.mono walk_items (fun H g => g _ _ hp) fun i H x H' hi g ⟨T, y, w, h1, h2, h3, h4, h5⟩ => ?_
    dsimp only at h4 h5
    cases hvi : vs[i]? with
    | none =>
      rw [hvi] at h4
      cases h4
    | some kv =>
      rw [hvi] at h4 h5
      obtain ⟨z, h6, h7, h8⟩ := AllD.at hv hvi
      refine ⟨z, h6, .inr ⟨T, [y, w], h1, h2, h3, fun G' g' hT => ⟨T, y, w, h1, SqT.of hT, ?_, ?_⟩⟩⟩
      · have e4 : kV kv.1 = y := Option.some.inj h4
        show y = kV (kt.f z.1)
        rw [← e4, h7]
      · have e5 : kv.2 = w := Option.some.inj h5
        rw [← e5]
        exact (r z.2).mono g' h8
/-- zip of a tuple of two and a tuple of two: not here; a text, sign by sign -/
theorem ji_str {m : M Z.S Str} (h : JE Z Γ e m (.fz rS)) : JI Z Γ tg e (bnd m fun z => ret (z.cps.toList.map fun c => (⟨#[c]⟩ : Str))) rS :=
  ji_of (wi := iStr) (fun z : Str => ret (z.cps.toList.map fun c => (⟨#[c]⟩ : Str))) h (fun _ p => pi_str p) (fun _ _ _ _ => rfl) fun z v s G B σ H R st (hv : v = .str z) q => by
    refine ⟨z, hv, finI q st ?_⟩
    unfold WalkI
    rw [List.length_map, Array.length_toList]
    refine Walk.mono walk_str (fun H g => trivial) fun i H x H' hi g ⟨e, c, h1, h2⟩ => ?_
    refine ⟨⟨#[c]⟩, ?_, .inl ⟨e, h2⟩⟩
    rw [List.getElem?_map, Array.getElem?_toList, h1]
    rfl
end
end DL
set_option Elab.async false
set_option linter.all false
set_option maxRecDepth 100000
namespace DL
open PySem L2
section
variable {Z : Zc} {Γ : Ctx} {α β γ T U ρ : Type} {e a b c : Expr} {es : List Expr} {pos : Pos} {Γ' : T → Ctx} {Γb : U → Ctx} {ρr : Res ρ} {rest : List Stmt}
/-! ### blocks -/
/-- the end of a block -/
theorem jb_nil {t : T} (l : Le Γ (Γ' t)) : JB Z Γ [] (ret (Fl.nx t : Fl T U ρ)) Γ' Γb ρr :=
  ⟨PSs.imp pss_nil fun D σ H ⟨s, G, B, st, q⟩ => q σ H G B (Same.refl _) (st.weak l)⟩
/-- a statement, then the rest: the rest's mirror behind each of its ends -/
def Fl.go {S T T1 U ρ : Type} (f : T1 → M S (Fl T U ρ)) : Fl T1 U ρ → M S (Fl T U ρ)
  | .nx t => f t
  | .rt r => ret (.rt r)
  | .bk u => ret (.bk u)
  | .ct u => ret (.ct u)
def thenB {S T T1 U ρ : Type} (m : M S (Fl T1 U ρ)) (f : T1 → M S (Fl T U ρ)) : M S (Fl T U ρ) := bnd m (Fl.go f)
theorem jb_seq {st : Stmt} {T1 : Type} {Γ1 : T1 → Ctx} {m : M Z.S (Fl T1 U ρ)} {f : T1 → M Z.S (Fl T U ρ)} (h : JS Z Γ st m Γ1 Γb ρr) (hr : ∀ t, JB Z (Γ1 t) rest (f t) Γ' Γb ρr) : JB Z Γ (st :: rest) (thenB m f) Γ' Γb ρr := by
  refine ⟨⟨fun pins s0 σ H D I ⟨s, G, B, sta, q⟩ => ?_⟩⟩
  have q : PostB Z Γ' Γb ρr D G ((m s).bnd (Fl.go f)) := q
  refine wpAny_execs_cons (thn (h.ps.run pins s0 σ H { D with nx := fun σ' H' => ∃ t, (tS Z (Γ1 t) (f t) Γ' Γb ρr) D σ' H' } I ⟨s, G, B, sta, ?_⟩) fun fl s1 hq => ?_)
  · revert q
    cases m s with
    | ok x s1 =>
      cases x with
      | nx t => exact fun q σ' H' G' B' g st' => ⟨t, s1, G', B', st', PostB.mono g q⟩
      | rt r => exact fun q => q
      | bk u => exact fun q => q
      | ct u => exact fun q => q
    | err x s1 => exact fun q => q
    | stuck => exact fun q => q
  · cases fl with
    | next =>
      obtain ⟨σ', H', I', t, z⟩ := hq
      exact (hr t).ps.run pins s1 σ' H' D I' z
    | ret v => exact hq
    | brk => exact hq
    | cont => exact hq
theorem jb_one {st : Stmt} {m : M Z.S (Fl T U ρ)} (h : JS Z Γ st m Γ' Γb ρr) : JB Z Γ [st] m Γ' Γb ρr := ⟨pss_one h.ps⟩
/-- less is known ahead -/
theorem JB.weak {sts : List Stmt} {Γ0 : Ctx} {m : M Z.S (Fl T U ρ)} (h : JB Z Γ sts m Γ' Γb ρr) (l : Le Γ0 Γ) : JB Z Γ0 sts m Γ' Γb ρr := ⟨PSs.imp h.ps fun D σ H ⟨s, G, B, st, q⟩ => ⟨s, G, B, st.weak l, q⟩⟩
/-! ### blocks that do not fall through -/
def NoNx {S T U ρ : Type} (m : M S (Fl T U ρ)) : Prop := ∀ s t s', m s ≠ .ok (.nx t) s'
theorem nn_rt {S T U ρ : Type} {r : ρ} : NoNx (ret (.rt r) : M S (Fl T U ρ)) := fun s t s' h => by cases h
theorem nn_bk {S T U ρ : Type} {u : U} : NoNx (ret (.bk u) : M S (Fl T U ρ)) := fun s t s' h => by cases h
theorem nn_ct {S T U ρ : Type} {u : U} : NoNx (ret (.ct u) : M S (Fl T U ρ)) := fun s t s' h => by cases h
theorem nn_rse {S T U ρ : Type} {e : Er} : NoNx (rse e : M S (Fl T U ρ)) := fun s t s' h => by cases h
theorem nn_stk {S T U ρ : Type} : NoNx (stk : M S (Fl T U ρ)) := fun s t s' h => by cases h
theorem nn_bnd {S α T U ρ : Type} {m : M S α} {f : α → M S (Fl T U ρ)} (h : ∀ a, NoNx (f a)) : NoNx (bnd m f) := fun s t s' q => by
  have q : (m s).bnd f = .ok (.nx t) s' := q
  cases e : m s with
  | ok a s1 =>
    rw [e] at q
    exact h a s1 t s' q
  | err a s1 =>
    rw [e] at q
    cases q
  | stuck =>
    rw [e] at q
    cases q
theorem nn_if {S T U ρ : Type} {c : Bool} {a b : M S (Fl T U ρ)} (h1 : NoNx a) (h2 : NoNx b) : NoNx (if c then a else b) := by
  cases c
  · exact h2
  · exact h1
theorem nn_then {S T1 T U ρ : Type} {m : M S (Fl T1 U ρ)} {f : T1 → M S (Fl T U ρ)} (h : ∀ t, NoNx (f t)) : NoNx (thenB m f) := nn_bnd fun fl => by
  cases fl with
  | nx t => exact h t
  | rt r => exact nn_rt
  | bk u => exact nn_bk
  | ct u => exact nn_ct
/-- the mirror by another name -/
theorem JB.eq {sts : List Stmt} {m m' : M Z.S (Fl T U ρ)} (h : JB Z Γ sts m Γ' Γb ρr) (e : m = m') : JB Z Γ sts m' Γ' Γb ρr := e ▸ h
/-! ### simple statements ahead of a rest -/
/-- x = e -/
theorem jb_set {i : Nat} {x : Str} {pos' : Pos} {r : Rp α} {m : M Z.S α} {f : α → M Z.S (Fl T U ρ)} (z : ZOk Z) (hi : Z.X.N[i]? = some x) (hx : Loc Z.X.env.scope x) (he : JE Z Γ e m (.fz r)) (hr : ∀ v, JB Z (Γ.set i (some (.fz (r v)))) rest (f v) Γ' Γb ρr) (hk : i < Γ.length := by exact Nat.le_of_ble_eq_true rfl) (hE : NoE Z.E i := by first | exact NoE.nil | exact NoE.one)
    (hs : swapsWith e (some (.Name x pos')) pos.line Z.X.env = pure false := by rfl) (hf : Z.X.fn x = true ∨ Z.X.env.scope.names.lookup x = some .local := by first | exact .inl rfl | exact .inr rfl) : JB Z Γ (.Assign [.Name x pos'] e pos :: rest) (bnd m f) Γ' Γb ρr := by
  refine ⟨⟨fun pins s0 σ H D I ⟨s, G, B, sta, q⟩ => ?_⟩⟩
  refine wpAny_execs_cons (thn ((ps_set z.nd hi hx he.pe hs hf).run pins s0 σ H { D with nx := fun σ' H' => ∃ v, (tS Z (Γ.set i (some (.fz (r v)))) (f v) Γ' Γb ρr) D σ' H' } I ?_) fun fl s1 hq => ?_)
  · refine tE.imp (tE_bndB (ρ := .fz r) sta q) ?_
    rintro v H1 ⟨y, s1, G1, B1, g1, st1, hy, q1⟩
    exact ⟨y, s1, G1, B1, st1.set hk hE hy, q1⟩
  · cases fl with
    | next =>
      obtain ⟨σ', H', I', v, zz⟩ := hq
      exact (hr v).ps.run pins s1 σ' H' D I' zz
    | ret v => exact hq
    | brk => exact hq
    | cont => exact hq
/-- x = e, a new thing of one's own -/
theorem jb_setO {i : Nat} {x : Str} {pos' : Pos} {c : α → MP HO} {m : M Z.S α} {f : α → M Z.S (Fl T U ρ)} (z : ZOk Z) (hi : Z.X.N[i]? = some x) (hx : Loc Z.X.env.scope x) (he : JE Z Γ e m (.own c)) (hr : ∀ v, JB Z (Γ.set i (some (.lv (c v)))) rest (f v) Γ' Γb ρr) (hk : i < Γ.length := by exact Nat.le_of_ble_eq_true rfl) (hE : NoE Z.E i := by first | exact NoE.nil | exact NoE.one)
    (hs : swapsWith e (some (.Name x pos')) pos.line Z.X.env = pure false := by rfl) (hf : Z.X.fn x = true ∨ Z.X.env.scope.names.lookup x = some .local := by first | exact .inl rfl | exact .inr rfl) : JB Z Γ (.Assign [.Name x pos'] e pos :: rest) (bnd m f) Γ' Γb ρr := by
  refine ⟨⟨fun pins s0 σ H D I ⟨s, G, B, sta, q⟩ => ?_⟩⟩
  refine wpAny_execs_cons (thn ((ps_set z.nd hi hx he.pe hs hf).run pins s0 σ H { D with nx := fun σ' H' => ∃ v, (tS Z (Γ.set i (some (.lv (c v)))) (f v) Γ' Γb ρr) D σ' H' } I ?_) fun fl s1 hq => ?_)
  · refine tE.imp (tE_bndB (ρ := .own c) sta q) ?_
    rintro v H1 ⟨y, s1, G1, B1, g1, st1, hy, q1⟩
    exact ⟨y, s1, G1, B1, st1.setO hk hE hy, q1⟩
  · cases fl with
    | next =>
      obtain ⟨σ', H', I', v, zz⟩ := hq
      exact (hr v).ps.run pins s1 σ' H' D I' zz
    | ret v => exact hq
    | brk => exact hq
    | cont => exact hq
/-- return e -/
theorem js_ret {m : M Z.S ρ} {r : Rp ρ} (he : JE Z Γ e m (.fz r)) : JS Z Γ (.Return (some e) pos) (bnd m fun v => ret (Fl.rt v : Fl T U ρ)) Γ' Γb (.fz r) :=
  ⟨PS.imp (ps_ret he.pe) fun D σ H ⟨s, G, B, st, q⟩ => by
    refine tE.imp (tE_bndB (ρ := .fz r) st q) ?_
    rintro v H1 ⟨y, s1, G1, B1, g1, st1, hy, q1⟩
    exact q1 v σ H1 G1 B1 (Same.refl _) st1.nil hy⟩
theorem js_retO {m : M Z.S ρ} {c : ρ → MP HO} (he : JE Z Γ e m (.own c)) : JS Z Γ (.Return (some e) pos) (bnd m fun v => ret (Fl.rt v : Fl T U ρ)) Γ' Γb (.own c) :=
  ⟨PS.imp (ps_ret he.pe) fun D σ H ⟨s, G, B, st, q⟩ => by
    refine tE.imp (tE_bndB (ρ := .own c) st q) ?_
    rintro v H1 ⟨y, s1, G1, B1, g1, st1, ⟨p, o, h1, h2, h3, h4, h5, h6, h7, h8⟩, q1⟩
    exact q1 v σ H1 G1 B1 (Same.refl _) st1.nil ⟨p, o, h1, h2, h3, h4, h5, h6, h7, fun k L z => by simp at z⟩⟩
/-- return x, x a thing of one's own -/
theorem js_retV {c : α → MP HO} {x : α} {n : Str} {pn : Pos} (k : Nat) (hk : Γ[k]? = some (some (.lv (c x)))) (hp : PE Z.X (.Name n pn) (tVar k)) : JS Z Γ (.Return (some (.Name n pn)) pos) (ret (Fl.rt x : Fl T U α)) Γ' Γb (.own c) :=
  ⟨PS.imp (ps_ret hp) fun D σ H ⟨s, G, B, st, q⟩ => by
    obtain ⟨p, o, h1, h2, h3, h4, h5, h6, h7⟩ := st.sl.lv k _ hk
    exact ⟨_, h1, q _ σ H G B (Same.refl _) st.nil ⟨p, o, rfl, h2, h3, h4, h5, h6, h7, fun k L z => by simp at z⟩⟩⟩
theorem js_retN : JS Z Γ (.Return none pos) (ret (Fl.rt () : Fl T U Unit)) Γ' Γb (.fz rU) :=
  ⟨PS.imp ps_retN fun D σ H ⟨s, G, B, st, q⟩ => q _ σ H G B (Same.refl _) st.nil rfl⟩
theorem js_pass {t : T} (l : Le Γ (Γ' t)) : JS Z Γ (.Pass pos) (ret (Fl.nx t : Fl T U ρ)) Γ' Γb ρr :=
  ⟨PS.imp ps_pass fun D σ H ⟨s, G, B, st, q⟩ => q σ H G B (Same.refl _) (st.weak l)⟩
theorem js_break {u : U} (l : Le Γ (Γb u)) : JS Z Γ (.Break pos) (ret (Fl.bk u : Fl T U ρ)) Γ' Γb ρr :=
  ⟨PS.imp ps_break fun D σ H ⟨s, G, B, st, q⟩ => q σ H G B (Same.refl _) (st.weak l)⟩
theorem js_continue {u : U} (l : Le Γ (Γb u)) : JS Z Γ (.Continue pos) (ret (Fl.ct u : Fl T U ρ)) Γ' Γb ρr :=
  ⟨PS.imp ps_continue fun D σ H ⟨s, G, B, st, q⟩ => q σ H G B (Same.refl _) (st.weak l)⟩
/-- e; rest -/
theorem jb_expr {r : Res α} {m : M Z.S α} {f : M Z.S (Fl T U ρ)} (he : JE Z Γ e m r) (hr : JB Z Γ rest f Γ' Γb ρr) (hs : swapsWith e none pos.line Z.X.env = pure false := by rfl) : JB Z Γ (.Expr e pos :: rest) (bnd m fun _ => f) Γ' Γb ρr := by
  refine ⟨⟨fun pins s0 σ H D I ⟨s, G, B, sta, q⟩ => ?_⟩⟩
  refine wpAny_execs_cons (thn ((ps_expr he.pe hs).run pins s0 σ H { D with nx := (tS Z Γ f Γ' Γb ρr) D } I ?_) fun fl s1 hq => ?_)
  · refine tE.imp (tE_bndB (ρ := r) sta q) ?_
    rintro v H1 ⟨y, s1, G1, B1, g1, st1, hy, q1⟩
    exact ⟨s1, G1, B1, st1, q1⟩
  · cases fl with
    | next =>
      obtain ⟨σ', H', I', zz⟩ := hq
      exact hr.ps.run pins s1 σ' H' D I' zz
    | ret v => exact hq
    | brk => exact hq
    | cont => exact hq
/-- if -/
theorem js_if {sa sb : List Stmt} {mc : M Z.S Bool} {ma mb : M Z.S (Fl T U ρ)} (hc : JT Z Γ c mc) (ha : JB Z Γ sa ma Γ' Γb ρr) (hb : JB Z Γ sb mb Γ' Γb ρr) : JS Z Γ (.If c sa sb pos) (bnd mc fun x => if x then ma else mb) Γ' Γb ρr :=
  ⟨PS.imp (ps_if hc.pt ha.ps hb.ps) fun D σ H ⟨s, G, B, st, q⟩ => by
    refine tT.imp (tT_bndB st q) ?_
    rintro x H1 ⟨s1, G1, B1, g1, st1, q1⟩
    cases x with
    | true => exact ⟨s1, G1, B1, st1, q1⟩
    | false => exact ⟨s1, G1, B1, st1, q1⟩⟩
/-- if c: (a block that doesn't fall through), then the rest -/
theorem jb_ifR {sa : List Stmt} {mc : M Z.S Bool} {ma f : M Z.S (Fl T U ρ)} (hc : JT Z Γ c mc) (ha : JB Z Γ sa ma Γ' Γb ρr) (hn : NoNx ma) (hr : JB Z Γ rest f Γ' Γb ρr) : JB Z Γ (.If c sa [] pos :: rest) (bnd mc fun x => if x then ma else f) Γ' Γb ρr := by
  refine ⟨⟨fun pins s0 σ H D I ⟨s, G, B, sta, q⟩ => ?_⟩⟩
  refine wpAny_execs_cons (thn ((ps_if hc.pt ha.ps pss_nil).run pins s0 σ H { D with nx := (tS Z Γ f Γ' Γb ρr) D } I ?_) fun fl s1 hq => ?_)
  · refine tT.imp (tT_bndB sta q) ?_
    rintro x H1 ⟨s1, G1, B1, g1, st1, q1⟩
    cases x with
    | true =>
      refine ⟨s1, G1, B1, st1, ?_⟩
      have q1 : PostB Z Γ' Γb ρr D G1 (ma s1) := q1
      cases e : ma s1 with
      | ok y s2 =>
        rw [e] at q1
        cases y with
        | nx t => exact (hn _ _ _ e).elim
        | rt r => exact q1
        | bk u => exact q1
        | ct u => exact q1
      | err y s2 =>
        rw [e] at q1
        exact q1
      | stuck =>
        rw [e] at q1
        exact q1
    | false => exact ⟨s1, G1, B1, st1, q1⟩
  · cases fl with
    | next =>
      obtain ⟨σ', H', I', zz⟩ := hq
      exact hr.ps.run pins s1 σ' H' D I' zz
    | ret v => exact hq
    | brk => exact hq
    | cont => exact hq
/-! ### targets -/
structure JG (Z : Zc) (tg : Expr) {α : Type} (r : Rp α) (ks : List Nat) (u : α → Ctx → Ctx) (g : TG) : Prop where
  pg : PG Z.X tg g
  keep : ∀ (x : α) (Γ : Ctx) (k : Nat), k ∉ ks → (u x Γ)[k]? = Γ[k]?
  go : ∀ {Γ : Ctx} {x : α} {v : V} {s : Z.S} {G B : Hp} {σ : St} {H : Hp} {Q : St → Hp → Prop}, Sta Z Γ s G B σ H → (r x).p v G → (∀ k ∈ ks, k < Γ.length ∧ NoE Z.E k) → (∀ σ', Sta Z (u x Γ) s G B σ' H → wipe σ' ks = wipe σ ks → Q σ' H) → g v σ H Q
theorem wipe_set1 {σ : St} {k : Nat} {v : Option V} : wipe (σ.set k v) [k] = wipe σ [k] := by
  show (σ.set k v).set k none = σ.set k none
  rw [List.set_set]
theorem jg_name {i : Nat} {x : Str} {p : Pos} {r : Rp α} (nd : Z.X.N.Nodup) (hi : Z.X.N[i]? = some x) (hx : Loc Z.X.env.scope x) (hf : Z.X.fn x = true ∨ Z.X.env.scope.names.lookup x = some .local := by first | exact .inl rfl | exact .inr rfl) : JG Z (.Name x p) r [i] (fun a Γ => Γ.set i (some (.fz (r a)))) (gName i) :=
  ⟨pg_name nd hi hx hf, fun x Γ k hk => List.getElem?_set_ne (fun z => hk (by simp [z])), fun {Γ x v s G B σ H Q} st hv hk q => q _ (st.set (hk i List.mem_cons_self).1 (hk i List.mem_cons_self).2 hv) wipe_set1⟩
theorem wipe_comm {σ : St} {v : Option V} {k : Nat} : ∀ {ks : List Nat}, k ∈ ks → wipe (σ.set k v) ks = wipe σ ks := by
  intro ks
  induction ks with
  | nil => intro h; cases h
  | cons j ks ih =>
    intro h
    show (wipe (σ.set k v) ks).set j none = (wipe σ ks).set j none
    by_cases e : k ∈ ks
    · rw [ih e]
    · have e' : k = j := by
        rcases List.mem_cons.mp h with z | z
        · exact z
        · exact absurd z e
      subst e'
      have out : ∀ (l : List Nat), k ∉ l → (wipe (σ.set k v) l) = (wipe σ l).set k v := by
        intro l
        induction l with
        | nil => intro _; rfl
        | cons i l ih =>
          intro hl
          have h1 : k ≠ i := fun z => hl (by rw [z]; exact List.mem_cons_self)
          have h2 : k ∉ l := fun z => hl (List.mem_cons_of_mem _ z)
          show (wipe (σ.set k v) l).set i none = ((wipe σ l).set i none).set k v
          rw [ih h2, List.set_comm _ _ h1]
      rw [out ks e, List.set_set]
section
variable {α1 α2 α3 α4 α5 : Type} {r1 : Rp α1} {r2 : Rp α2} {r3 : Rp α3} {r4 : Rp α4} {r5 : Rp α5} {kk : _} {p1 p2 p3 p4 p5 p0 : Pos} {n1 n2 n3 n4 n5 : Str} {i1 i2 i3 i4 i5 : Nat}
/-- a local name's place -/
structure Lc (Z : Zc) (i : Nat) (x : Str) : Prop where
  hi : Z.X.N[i]? = some x
  hx : Loc Z.X.env.scope x
  hf : Z.X.fn x = true ∨ Z.X.env.scope.names.lookup x = some .local
theorem Lc.pg {i : Nat} {x : Str} {p : Pos} (l : Lc Z i x) (nd : Z.X.N.Nodup) : PG Z.X (.Name x p) (gName i) := pg_name nd l.hi l.hx l.hf
theorem jg_tup2 (z : ZOk Z) (l1 : Lc Z i1 n1) (l2 : Lc Z i2 n2) :
    JG Z (.Tuple [.Name n1 p1, .Name n2 p2] kk p0) (rT2 Z.X.K r1 r2) [i1, i2] (fun a Γ => (Γ.set i1 (some (.fz (r1 a.1)))).set i2 (some (.fz (r2 a.2)))) (gTup Z.X.K 2 (gCons (gName i1) (gCons (gName i2) gNil))) := by
  refine ⟨pg_tup z.calm (pgs_cons (l1.pg z.nd) (pgs_cons (l2.pg z.nd) pgs_nil)), fun x Γ k hk => by
    simp only [List.mem_cons, not_or, List.not_mem_nil, not_false_eq_true, and_true] at hk
    rw [List.getElem?_set_ne (Ne.symm hk.2), List.getElem?_set_ne (Ne.symm hk.1)], fun {Γ x v s G B σ H Q} st ⟨p, u1, u2, ev, hp, h1, h2⟩ hk q => ?_⟩
  refine ⟨p, _, ev, Same.sqT st.ok.gh hp, rfl, u1, _, rfl, u2, _, rfl, rfl, ?_⟩
  have k1 := hk i1 (by simp)
  have k2 := hk i2 (by simp)
  refine q _ ((st.set k1.1 k1.2 h1).set (by rw [List.length_set]; exact k2.1) k2.2 h2) ?_
  rw [wipe_comm (by simp), wipe_comm (by simp)]
theorem jg_tup3 (z : ZOk Z) (l1 : Lc Z i1 n1) (l2 : Lc Z i2 n2) (l3 : Lc Z i3 n3) :
    JG Z (.Tuple [.Name n1 p1, .Name n2 p2, .Name n3 p3] kk p0) (rT3 Z.X.K r1 r2 r3) [i1, i2, i3] (fun a Γ => (((Γ.set i1 (some (.fz (r1 (a.1))))).set i2 (some (.fz (r2 (a.2.1))))).set i3 (some (.fz (r3 (a.2.2)))))) (gTup Z.X.K 3 (gCons (gName i1) (gCons (gName i2) (gCons (gName i3) gNil)))) := by
  refine ⟨pg_tup z.calm (pgs_cons (l1.pg z.nd) (pgs_cons (l2.pg z.nd) (pgs_cons (l3.pg z.nd) pgs_nil))), fun x Γ k hk => by
    simp only [List.mem_cons, not_or, List.not_mem_nil, not_false_eq_true, and_true] at hk
    rw [List.getElem?_set_ne (Ne.symm hk.2.2), List.getElem?_set_ne (Ne.symm hk.2.1), List.getElem?_set_ne (Ne.symm hk.1)], fun {Γ x v s G B σ H Q} st ⟨p, u1, u2, u3, ev, hp, h1, h2, h3⟩ hk q => ?_⟩
  refine ⟨p, _, ev, Same.sqT st.ok.gh hp, rfl, u1, _, rfl, u2, _, rfl, u3, _, rfl, rfl, ?_⟩
  have k1 := hk i1 (by simp)
  have k2 := hk i2 (by simp)
  have k3 := hk i3 (by simp)
  refine q _ (((st.set k1.1 k1.2 h1).set (by simp only [List.length_set]; exact k2.1) k2.2 h2).set (by simp only [List.length_set]; exact k3.1) k3.2 h3) ?_
  rw [wipe_comm (by simp), wipe_comm (by simp), wipe_comm (by simp)]
theorem jg_tup4 (z : ZOk Z) (l1 : Lc Z i1 n1) (l2 : Lc Z i2 n2) (l3 : Lc Z i3 n3) (l4 : Lc Z i4 n4) :
    JG Z (.Tuple [.Name n1 p1, .Name n2 p2, .Name n3 p3, .Name n4 p4] kk p0) (rT4 Z.X.K r1 r2 r3 r4) [i1, i2, i3, i4] (fun a Γ => ((((Γ.set i1 (some (.fz (r1 (a.1))))).set i2 (some (.fz (r2 (a.2.1))))).set i3 (some (.fz (r3 (a.2.2.1))))).set i4 (some (.fz (r4 (a.2.2.2)))))) (gTup Z.X.K 4 (gCons (gName i1) (gCons (gName i2) (gCons (gName i3) (gCons (gName i4) gNil))))) := by
  refine ⟨pg_tup z.calm (pgs_cons (l1.pg z.nd) (pgs_cons (l2.pg z.nd) (pgs_cons (l3.pg z.nd) (pgs_cons (l4.pg z.nd) pgs_nil)))), fun x Γ k hk => by
    simp only [List.mem_cons, not_or, List.not_mem_nil, not_false_eq_true, and_true] at hk
    rw [List.getElem?_set_ne (Ne.symm hk.2.2.2), List.getElem?_set_ne (Ne.symm hk.2.2.1), List.getElem?_set_ne (Ne.symm hk.2.1), List.getElem?_set_ne (Ne.symm hk.1)], fun {Γ x v s G B σ H Q} st ⟨p, u1, u2, u3, u4, ev, hp, h1, h2, h3, h4⟩ hk q => ?_⟩
  refine ⟨p, _, ev, Same.sqT st.ok.gh hp, rfl, u1, _, rfl, u2, _, rfl, u3, _, rfl, u4, _, rfl, rfl, ?_⟩
  have k1 := hk i1 (by simp)
  have k2 := hk i2 (by simp)
  have k3 := hk i3 (by simp)
  have k4 := hk i4 (by simp)
  refine q _ ((((st.set k1.1 k1.2 h1).set (by simp only [List.length_set]; exact k2.1) k2.2 h2).set (by simp only [List.length_set]; exact k3.1) k3.2 h3).set (by simp only [List.length_set]; exact k4.1) k4.2 h4) ?_
  rw [wipe_comm (by simp), wipe_comm (by simp), wipe_comm (by simp), wipe_comm (by simp)]
theorem jg_tup5 (z : ZOk Z) (l1 : Lc Z i1 n1) (l2 : Lc Z i2 n2) (l3 : Lc Z i3 n3) (l4 : Lc Z i4 n4) (l5 : Lc Z i5 n5) :
    JG Z (.Tuple [.Name n1 p1, .Name n2 p2, .Name n3 p3, .Name n4 p4, .Name n5 p5] kk p0) (rT5 Z.X.K r1 r2 r3 r4 r5) [i1, i2, i3, i4, i5] (fun a Γ => (((((Γ.set i1 (some (.fz (r1 (a.1))))).set i2 (some (.fz (r2 (a.2.1))))).set i3 (some (.fz (r3 (a.2.2.1))))).set i4 (some (.fz (r4 (a.2.2.2.1))))).set i5 (some (.fz (r5 (a.2.2.2.2)))))) (gTup Z.X.K 5 (gCons (gName i1) (gCons (gName i2) (gCons (gName i3) (gCons (gName i4) (gCons (gName i5) gNil)))))) := by
  refine ⟨pg_tup z.calm (pgs_cons (l1.pg z.nd) (pgs_cons (l2.pg z.nd) (pgs_cons (l3.pg z.nd) (pgs_cons (l4.pg z.nd) (pgs_cons (l5.pg z.nd) pgs_nil))))), fun x Γ k hk => by
    simp only [List.mem_cons, not_or, List.not_mem_nil, not_false_eq_true, and_true] at hk
    rw [List.getElem?_set_ne (Ne.symm hk.2.2.2.2), List.getElem?_set_ne (Ne.symm hk.2.2.2.1), List.getElem?_set_ne (Ne.symm hk.2.2.1), List.getElem?_set_ne (Ne.symm hk.2.1), List.getElem?_set_ne (Ne.symm hk.1)], fun {Γ x v s G B σ H Q} st ⟨p, u1, u2, u3, u4, u5, ev, hp, h1, h2, h3, h4, h5⟩ hk q => ?_⟩
  refine ⟨p, _, ev, Same.sqT st.ok.gh hp, rfl, u1, _, rfl, u2, _, rfl, u3, _, rfl, u4, _, rfl, u5, _, rfl, rfl, ?_⟩
  have k1 := hk i1 (by simp)
  have k2 := hk i2 (by simp)
  have k3 := hk i3 (by simp)
  have k4 := hk i4 (by simp)
  have k5 := hk i5 (by simp)
  refine q _ (((((st.set k1.1 k1.2 h1).set (by simp only [List.length_set]; exact k2.1) k2.2 h2).set (by simp only [List.length_set]; exact k3.1) k3.2 h3).set (by simp only [List.length_set]; exact k4.1) k4.2 h4).set (by simp only [List.length_set]; exact k5.1) k5.2 h5) ?_
  rw [wipe_comm (by simp), wipe_comm (by simp), wipe_comm (by simp), wipe_comm (by simp), wipe_comm (by simp)]
end
end
end DL
set_option Elab.async false
set_option linter.all false
set_option maxRecDepth 100000
namespace DL
open PySem L2
section
variable {Z : Zc} {Γ : Ctx} {α β γ T U ρ : Type} {e a b c : Expr} {es : List Expr} {pos : Pos} {Γ' : T → Ctx} {Γb : U → Ctx} {ρr : Res ρ} {rest : List Stmt}
/-! ### a thing of one's own, read in its slot -/
theorem je_live {n : Str} {c : α → MP HO} {x : α} (k : Nat) (hk : Γ[k]? = some (some (.lv (c x)))) (hp : PE Z.X (.Name n pos) (tVar k)) : JE Z Γ (.Name n pos) (ret x) (.vw k c) :=
  JE.of_ret hp fun s G B σ H Q st q => by
    obtain ⟨p, o, h1, h2⟩ := st.sl.lv k _ hk
    exact ⟨_, h1, q _ H G B (Same.refl _) st ⟨hk, h1⟩⟩
theorem Sta.vw {s : Z.S} {G B : Hp} {σ : St} {H : Hp} {k : Nat} {c : α → MP HO} {x : α} {v : V} (st : Sta Z Γ s G B σ H) (h : Has Z Γ σ (.vw k c) x v G B H) : ∃ p o, v = .ref p ∧ H p = some o ∧ (c x).p o G := by
  obtain ⟨h1, h2⟩ := h
  obtain ⟨p, o, h3, h4, h5, _⟩ := st.sl.lv k _ h1
  rw [h2] at h3
  injection h3 with h3
  injection h3 with h3
  exact ⟨p, o, h3, h4, h5⟩
theorem je_twoV {e : Expr} {r : R2} {k : Nat} {ca : α → MP HO} {ma : M Z.S α} {mb : M Z.S β} {ρb : Rp β} (f : α → β → M Z.S γ) (ρ : Res γ) (hp : ∀ ta tb, PE Z.X a ta → PE Z.X b tb → PE Z.X e (tOp r ta tb)) (ha : JE Z Γ a ma (.vw k ca)) (hb : JE Z Γ b mb (.fz ρb))
    (h : ∀ x y p o w s G B σ H (Q : VK), Sta Z Γ s G B σ H → H p = some o → (ca x).p o G → (ρb y).p w G → PostE Z Γ ρ σ Q G (f x y s) → r (.ref p) w H Q) : JE Z Γ e (bnd ma fun x => bnd mb fun y => f x y) ρ :=
  ⟨PE.imp (hp _ _ ha.pe hb.pe) fun σ H Q ⟨s, G, B, st, q⟩ => by
    refine tE.imp (tE_bnd (ρ := .vw k ca) st q) ?_
    rintro v H1 ⟨x, s1, G1, B1, g1, st1, hx, q1⟩
    refine tE.imp (tE_bnd (ρ := .fz ρb) st1 q1) ?_
    rintro w H2 ⟨y, s3, G3, B3, g3, st3, hy, q3⟩
    obtain ⟨p, o, rfl, hp, hc⟩ := st3.vw (B := B3) (H := H2) (show Has Z Γ σ (.vw k ca) x v G3 B3 H2 from hx)
    exact h x y p o w s3 G3 B3 σ H2 Q st3 hp hc hy q3⟩
theorem je_twoW {e : Expr} {r : R2} {k : Nat} {cb : β → MP HO} {ma : M Z.S α} {mb : M Z.S β} {ρa : Rp α} (f : α → β → M Z.S γ) (ρ : Res γ) (hp : ∀ ta tb, PE Z.X a ta → PE Z.X b tb → PE Z.X e (tOp r ta tb)) (ha : JE Z Γ a ma (.fz ρa)) (hb : JE Z Γ b mb (.vw k cb))
    (h : ∀ x y p o v s G B σ H (Q : VK), Sta Z Γ s G B σ H → (ρa x).p v G → H p = some o → (cb y).p o G → PostE Z Γ ρ σ Q G (f x y s) → r v (.ref p) H Q) : JE Z Γ e (bnd ma fun x => bnd mb fun y => f x y) ρ :=
  ⟨PE.imp (hp _ _ ha.pe hb.pe) fun σ H Q ⟨s, G, B, st, q⟩ => by
    refine tE.imp (tE_bnd (ρ := .fz ρa) st q) ?_
    rintro v H1 ⟨x, s1, G1, B1, g1, st1, hx, q1⟩
    refine tE.imp (tE_bnd (ρ := .vw k cb) st1 q1) ?_
    rintro w H2 ⟨y, s3, G3, B3, g3, st3, hy, q3⟩
    obtain ⟨p, o, rfl, hp, hc⟩ := st3.vw hy
    exact h x y p o v s3 G3 B3 σ H2 Q st3 ((ρa x).mono g3 hx) hp hc q3⟩
theorem jt_twoW {e : Expr} {r : R2} {k : Nat} {cb : β → MP HO} {ma : M Z.S α} {mb : M Z.S β} {ρa : Rp α} (f : α → β → M Z.S Bool) (hp : ∀ ta tb, PE Z.X a ta → PE Z.X b tb → PT Z.X e (tTest (tOp r ta tb))) (ha : JE Z Γ a ma (.fz ρa)) (hb : JE Z Γ b mb (.vw k cb))
    (h : ∀ x y p o v s G B σ H (Q : VK), Sta Z Γ s G B σ H → (ρa x).p v G → H p = some o → (cb y).p o G → PostE Z Γ (.fz rB) σ Q G (f x y s) → r v (.ref p) H Q) : JT Z Γ e (bnd ma fun x => bnd mb fun y => f x y) :=
  ⟨PT.imp (hp _ _ ha.pe hb.pe) fun σ H Q ⟨s, G, B, st, q⟩ => by
    refine tE.imp (tE_bndT (ρ := .fz ρa) st q) ?_
    rintro v H1 ⟨x, s1, G1, B1, g1, st1, hx, q1⟩
    refine tE.imp (tE_bndT (ρ := .vw k cb) st1 q1) ?_
    rintro w H2 ⟨y, s3, G3, B3, g3, st3, hy, q3⟩
    obtain ⟨p, o, rfl, hp, hc⟩ := st3.vw hy
    refine h x y p o v s3 G3 B3 σ H2 _ st3 ((ρa x).mono g3 hx) hp hc ?_
    revert q3
    cases f x y s3 with
    | ok z s4 => exact fun q3 v' H' G' B' g st' (hs : v' = .bl z) => ⟨z, hs, q3 H' G' B' g st'⟩
    | err z s4 => exact fun q3 => q3
    | stuck => exact fun q3 => q3⟩
theorem je_ixV {k : Nat} {r : Rp α} {ma : M Z.S (List α)} {mi : M Z.S Int} (ha : JE Z Γ a ma (.vw k (cL r))) (hb : JE Z Γ b mi (.fz rI)) (hs : PlainIx b := by exact fun _ _ => rfl) : JE Z Γ (.Subscript a b pos) (bnd ma fun xs => bnd mi fun i => opt (atI xs i)) (.fz r) :=
  je_twoV (fun xs i => opt (atI xs i)) (.fz r) (fun _ _ p q => pe_ix ix_list p q hs) ha hb fun xs i p o w s G B σ H Q st hp ⟨vs, eo, hvs⟩ hw q => by
    subst eo
    obtain ⟨x, ex, q⟩ := opt_of' q
    obtain ⟨y, e1, e2⟩ := atI_rel hvs ex
    exact ⟨p, vs, i, y, rfl, hw, SqL.of hp, e1, fin q st e2⟩
section
variable [DecidableEq α] {k : Nat}
theorem je_inV {r : Rp α} (F : FlatR r) {ma : M Z.S α} {mb : M Z.S (List α)} (ha : JE Z Γ a ma (.fz r)) (hb : JE Z Γ b mb (.vw k (cL r))) (hm : behindInMarks .In b = false := by rfl) : JE Z Γ (.Compare a [.In] [b] pos) (bnd ma fun x => bnd mb fun y => ret (decide (x ∈ y))) (.fz rB) :=
  je_twoW (fun x y => ret (decide (x ∈ y))) (.fz rB) (fun _ _ p q => pe_cmpR op_in_seq p q hm) ha hb fun x y p o v s G B σ H Q st hv hp ⟨ws, eo, hws⟩ q => by
    subst eo
    exact ⟨p, ws, rfl, .inl (SqL.of hp), F.flat hv, flat_all F hws, by rw [in_all F hv hws]; exact fin q st rfl⟩
theorem jt_inV {r : Rp α} (F : FlatR r) {ma : M Z.S α} {mb : M Z.S (List α)} (ha : JE Z Γ a ma (.fz r)) (hb : JE Z Γ b mb (.vw k (cL r))) (hm : behindInMarks .In b = false := by rfl) : JT Z Γ (.Compare a [.In] [b] pos) (bnd ma fun x => bnd mb fun y => ret (decide (x ∈ y))) :=
  jt_twoW (fun x y => ret (decide (x ∈ y))) (fun _ _ p q => pt_cmpR op_in_seq p q hm) ha hb fun x y p o v s G B σ H Q st hv hp ⟨ws, eo, hws⟩ q => by
    subst eo
    exact ⟨p, ws, rfl, .inl (SqL.of hp), F.flat hv, flat_all F hws, by rw [in_all F hv hws]; exact fin q st rfl⟩
theorem jt_ninV {r : Rp α} (F : FlatR r) {ma : M Z.S α} {mb : M Z.S (List α)} (ha : JE Z Γ a ma (.fz r)) (hb : JE Z Γ b mb (.vw k (cL r))) (hm : behindInMarks .NotIn b = false := by rfl) : JT Z Γ (.Compare a [.NotIn] [b] pos) (bnd ma fun x => bnd mb fun y => ret (!decide (x ∈ y))) :=
  jt_twoW (fun x y => ret (!decide (x ∈ y))) (fun _ _ p q => pt_cmpR op_notIn_seq p q hm) ha hb fun x y p o v s G B σ H Q st hv hp ⟨ws, eo, hws⟩ q => by
    subst eo
    exact ⟨p, ws, rfl, .inl (SqL.of hp), F.flat hv, flat_all F hws, by rw [in_all F hv hws]; exact fin q st rfl⟩
end
theorem je_lenV {k : Nat} {p : Pos} {r : Rp α} {m : M Z.S (List α)} (hg : Gl Z.X "len") (hm : Z.X.mg "len" = none) (h : JE Z Γ e m (.vw k (cL r))) (hs : starEach [e] Z.X.env = (false, eval e Z.X.env) :: starEach [] Z.X.env := by exact star_of rfl) (hpl : (backTo pos (starEach [] Z.X.env)).any (·.1) = false := by rfl) : JE Z Γ (.Call (.Name "len" p) [e] [] pos) (bnd m fun xs => ret (xs.length : Int)) (.fz rI) :=
  je_one (t' := fun t => tCB (fun xs H Q => ∃ p ys, xs = [.ref p] ∧ (SqL Z.X.K H p ys ∨ SqT Z.X.K H p ys) ∧ Q (.int ys.length) H) (tCons t tNil)) (fun xs => ret (xs.length : Int)) (.fz rI) (fun _ p => pe_callB call_len_seq hg hm boot_len (pa_cons p pa_nil hs) (he := hs) (hpl := hpl)) (fun _ _ _ _ => rfl) h fun xs v s G B σ H Q st hv q => by
    obtain ⟨p, o, rfl, hp, ws, rfl, hw⟩ := st.vw hv
    exact ⟨p, ws, rfl, .inl (SqL.of hp), fin q st (by rw [hw.length]; rfl)⟩
theorem je_slV {k : Nat} {lo hi : Option Expr} {mlo mhi : (γ : Type) → (Option Int → M Z.S γ) → M Z.S γ} {p2 : Pos} {r : Rp α} {m : M Z.S (List α)} (h : JE Z Γ e m (.vw k (cL r))) (hl : JO Z Γ lo mlo) (hh : JO Z Γ hi mhi) :
    JE Z Γ (.Subscript e (.Slice lo hi none p2) pos) (bnd m fun xs => mlo _ fun l => mhi _ fun h => ret (cutA xs l h)) (.own (cL r)) := by
  obtain ⟨tl, pl, hl⟩ := hl.ex
  obtain ⟨th, ph, hh⟩ := hh.ex
  refine ⟨PE.imp (pe_slice sl_list h.pe pl ph) fun σ H Q ⟨s, G, B, st, q⟩ => ?_⟩
  refine tE.imp (tE_bnd (ρ := .vw k (cL r)) st q) ?_
  rintro v H1 ⟨xs, s1, G1, B1, g1, st1, hx, q1⟩
  refine hl st1 q1 fun l H2 s2 G2 B2 g2 st2 q2 => ?_
  refine hh st2 q2 fun h H3 s3 G3 B3 g3 st3 q3 => ?_
  obtain ⟨p, o, rfl, hp, vs, rfl, hvs⟩ := st3.vw (B := B3) (H := H3) (show Has Z Γ σ (.vw k (cL r)) xs v G3 B3 H3 from hx)
  refine ⟨p, vs, rfl, SqL.of hp, fun p' np => ?_⟩
  exact q3 _ _ G3 B3 (Same.refl _) (st3.laid np) (st3.own np ⟨_, rfl, hvs.cut l h⟩)
section
variable {κ : Type} [DecidableEq κ] {kt : KeyT κ} {k : Nat}
theorem dgetV_of {r : Rp α} {d : List (κ × α)} {key : κ} {p : Addr} {o : HO} {w : V} {G H : Hp} (hp : H p = some o) (hd : (cD kt r d).p o G) (hk : (kt.rp key).p w G) : ∃ ov, DGet H p w ov ∧ ((dget d key = none ∧ ov = none) ∨ ∃ x u, dget d key = some x ∧ ov = some u ∧ (r x).p u G) := by
  obtain ⟨vs, rfl, hv⟩ := hd
  refine ⟨valV vs (kt.f key), .inl ⟨vs, kt.f key, .inl hp, hk, rfl⟩, ?_⟩
  rcases hv.get key with ⟨h1, h2⟩ | ⟨x, u, h1, h2, h3⟩
  · exact .inl ⟨h1, h2⟩
  · exact .inr ⟨x, u, h1, h2, h3⟩
theorem je_dgetV {r : Rp α} (hu : Z.X.A.units + 65 < cLine) {md : M Z.S (List (κ × α))} {mk : M Z.S κ} (hd : JE Z Γ a md (.vw k (cD kt r))) (hk : JE Z Γ b mk (.fz kt.rp)) (hs : NoSl b := by exact fun _ _ => rfl) : JE Z Γ (.Subscript a b pos) (bnd md fun d => bnd mk fun k => opt (dget d k)) (.fz r) := by
  refine ⟨PE.imp (pe_dget (by omega) hd.pe hk.pe hs) fun σ H Q ⟨s, G, B, st, q⟩ => ?_⟩
  refine tE.imp (tE_bnd (ρ := .vw k (cD kt r)) st q) ?_
  rintro v H1 ⟨d, s1, G1, B1, g1, st1, hx, q1⟩
  refine tE.imp (tE_bnd (ρ := .fz kt.rp) st1 q1) ?_
  rintro w H2 ⟨key, s2, G2, B2, g2, st2, hy, q2⟩
  obtain ⟨x, ex, q2⟩ := opt_of' q2
  obtain ⟨p, o, rfl, hp, hc⟩ := st2.vw (B := B2) (H := H2) (show Has Z Γ σ (.vw k (cD kt r)) d v G2 B2 H2 from hx)
  obtain ⟨ov, hg, z⟩ := dgetV_of hp hc hy
  rcases z with ⟨z1, z2⟩ | ⟨x', u, z1, z2, z3⟩
  · rw [ex] at z1
    cases z1
  · rw [ex] at z1
    cases z1
    subst z2
    exact ⟨p, u, rfl, hg, fin q2 st2 z3⟩
theorem jt_dinV {r : Rp α} (hu : Z.X.A.units + 65 < cLine) {md : M Z.S (List (κ × α))} {mk : M Z.S κ} (hk : JE Z Γ a mk (.fz kt.rp)) (hd : JE Z Γ b md (.vw k (cD kt r))) (hm : behindInMarks .In b = false := by rfl) : JT Z Γ (.Compare a [.In] [b] pos) (bnd mk fun k => bnd md fun d => ret (dhas d k)) := by
  refine ⟨PT.imp (pt_cmp (pc_din (by omega) hk.pe hd.pe) hm) fun σ H Q ⟨s, G, B, st, q⟩ => ?_⟩
  refine tE.imp (tE_bndT (ρ := .fz kt.rp) st q) ?_
  rintro v H1 ⟨key, s1, G1, B1, g1, st1, hx, q1⟩
  refine tE.imp (tE_bndT (ρ := .vw k (cD kt r)) st1 q1) ?_
  rintro w H2 ⟨d, s2, G2, B2, g2, st2, hy, q2⟩
  obtain ⟨p, o, rfl, hp, hc⟩ := st2.vw hy
  obtain ⟨ov, hg, z⟩ := dgetV_of hp hc ((kt.rp key).mono g2 hx)
  refine ⟨p, ov, rfl, hg, dhas d key, ?_, q2 H2 G2 B2 (Same.refl _) st2⟩
  rcases z with ⟨z1, rfl⟩ | ⟨x', u, z1, rfl, z3⟩
  · unfold dhas; rw [z1]; rfl
  · unfold dhas; rw [z1]; rfl
theorem jt_dninV {r : Rp α} (hu : Z.X.A.units + 65 < cLine) {md : M Z.S (List (κ × α))} {mk : M Z.S κ} (hk : JE Z Γ a mk (.fz kt.rp)) (hd : JE Z Γ b md (.vw k (cD kt r))) (hm : behindInMarks .NotIn b = false := by rfl) : JT Z Γ (.Compare a [.NotIn] [b] pos) (bnd mk fun k => bnd md fun d => ret (!dhas d k)) := by
  refine ⟨PT.imp (pt_cmp (pc_dnotin (by omega) hk.pe hd.pe) hm) fun σ H Q ⟨s, G, B, st, q⟩ => ?_⟩
  refine tE.imp (tE_bndT (ρ := .fz kt.rp) st q) ?_
  rintro v H1 ⟨key, s1, G1, B1, g1, st1, hx, q1⟩
  refine tE.imp (tE_bndT (ρ := .vw k (cD kt r)) st1 q1) ?_
  rintro w H2 ⟨d, s2, G2, B2, g2, st2, hy, q2⟩
  obtain ⟨p, o, rfl, hp, hc⟩ := st2.vw hy
  obtain ⟨ov, hg, z⟩ := dgetV_of hp hc ((kt.rp key).mono g2 hx)
  refine ⟨p, ov, rfl, hg, !dhas d key, ?_, q2 H2 G2 B2 (Same.refl _) st2⟩
  rcases z with ⟨z1, rfl⟩ | ⟨x', u, z1, rfl, z3⟩
  · unfold dhas; rw [z1]; rfl
  · unfold dhas; rw [z1]; rfl
end
/-! ### a thing of one's own changes -/
/-- a statement that changes the thing in slot k, then the rest -/
theorem jb_chg {k : Nat} {st : Stmt} {t : TS} {L : MP HO} {cc : β → MP HO} {m : M Z.S β} {f : β → M Z.S (Fl T U ρ)} (hk : Γ[k]? = some (some (.lv L))) (hp : PS Z.X st t)
    (h : ∀ s G B σ H (D : Ends), Sta Z Γ s G B σ H → ∀ p, σ[k]? = some (some (.ref p)) → PostB Z Γ' Γb ρr D G (bnd m f s) →
      (∀ y s1 G1 B1 H1 o', Same G G1 → Sta Z Γ s1 G1 B1 σ H1 → (cc y).p o' G1 → PostB Z Γ' Γb ρr D G1 (f y s1) → (tS Z (Γ.set k (some (.lv (cc y)))) (f y) Γ' Γb ρr) D σ (upd H1 p o')) → t { D with nx := fun σ' H' => ∃ y, (tS Z (Γ.set k (some (.lv (cc y)))) (f y) Γ' Γb ρr) D σ' H' } σ H)
    (hr : ∀ y, JB Z (Γ.set k (some (.lv (cc y)))) rest (f y) Γ' Γb ρr) : JB Z Γ (st :: rest) (bnd m f) Γ' Γb ρr := by
  refine ⟨⟨fun pins s0 σ H D I ⟨s, G, B, sta, q⟩ => ?_⟩⟩
  refine wpAny_execs_cons (thn (hp.run pins s0 σ H { D with nx := fun σ' H' => ∃ y, (tS Z (Γ.set k (some (.lv (cc y)))) (f y) Γ' Γb ρr) D σ' H' } I ?_) fun fl s1 hq => ?_)
  · obtain ⟨p, o, h1, h2, _⟩ := sta.sl.lv k _ hk
    refine h s G B σ H D sta p h1 q fun y s1 G1 B1 H1 o' g1 st1 hc q1 => ?_
    exact ⟨s1, G1, B1, st1.change hk h1 hc, q1⟩
  · cases fl with
    | next =>
      obtain ⟨σ', H', I', y, zz⟩ := hq
      exact (hr y).ps.run pins s1 σ' H' D I' zz
    | ret v => exact hq
    | brk => exact hq
    | cont => exact hq
/-- the address of slot k again -/
theorem Sta.at_ {s : Z.S} {G B : Hp} {σ : St} {H : Hp} {k : Nat} {L : MP HO} {p : Addr} (st : Sta Z Γ s G B σ H) (hk : Γ[k]? = some (some (.lv L))) (hs : σ[k]? = some (some (.ref p))) : ∃ o, H p = some o ∧ L.p o G := by
  obtain ⟨a, o, h1, h2, h3, _⟩ := st.sl.lv k _ hk
  rw [hs] at h1
  injection h1 with h1
  injection h1 with h1
  injection h1 with h1
  subst h1
  exact ⟨o, h2, h3⟩
theorem grd_ofB {T U ρ : Type} {Γ' : T → Ctx} {Γb : U → Ctx} {ρr : Res ρ} {D : Ends} {b : Bool} {f : Unit → M Z.S (Fl T U ρ)} {s : Z.S} {G : Hp} (q : PostB Z Γ' Γb ρr D G (bnd (grd b) f s)) : b = true ∧ PostB Z Γ' Γb ρr D G (f () s) := by
  cases b with
  | true => exact ⟨rfl, q⟩
  | false => exact q.elim
theorem opt_ofB {T U ρ : Type} {Γ' : T → Ctx} {Γb : U → Ctx} {ρr : Res ρ} {D : Ends} {o : Option α} {f : α → M Z.S (Fl T U ρ)} {s : Z.S} {G : Hp} (q : PostB Z Γ' Γb ρr D G (bnd (opt o) f s)) : ∃ x, o = some x ∧ PostB Z Γ' Γb ρr D G (f x s) := by
  cases o with
  | some x => exact ⟨x, rfl, q⟩
  | none => exact q.elim
/-- xs.append(e) -/
def appM {S : Type} (xs : List α) (x : α) : M S (List α) := bnd (grd (decide (xs.length < sizeLine))) fun _ => ret (xs ++ [x])
theorem jb_append {k : Nat} {n : Str} {pn apos pos2 : Pos} {r : Rp α} {xs : List α} {m : M Z.S α} {f : List α → M Z.S (Fl T U ρ)} (hk : Γ[k]? = some (some (.lv (cL r xs)))) (hn : PE Z.X (.Name n pn) (tVar k)) (he : JE Z Γ e m (.fz r)) (hr : ∀ y, JB Z (Γ.set k (some (.lv (cL r y)))) rest (f y) Γ' Γb ρr)
    (hp : PS Z.X (.Expr (.Call (.Attribute (.Name n pn) "append" apos) [e] [] pos) pos2) (tDrop (tBM Z.X.K "list" rAppend (tVar k) (tCons (tE Z Γ m (.fz r)) tNil)))) : JB Z Γ (.Expr (.Call (.Attribute (.Name n pn) "append" apos) [e] [] pos) pos2 :: rest) (bnd m fun x => bnd (appM xs x) f) Γ' Γb ρr := by
  have e1 : (bnd m fun x => bnd (appM xs x) f) = bnd (bnd m fun x => appM xs x) f := by rw [bnd_assoc]
  rw [e1]
  refine jb_chg (m := bnd m fun x => appM xs x) (cc := cL r) hk hp (fun s G B σ H D st p hs q fin => ?_) hr
  obtain ⟨o, ho, ws, rfl, hws⟩ := st.at_ hk hs
  refine ⟨_, hs, .inl ⟨rfl, ws, SqL.of ho⟩, ?_⟩
  rw [bnd_assoc] at q
  refine tE.imp (tE_bndB (ρ := .fz r) st q) ?_
  rintro v H1 ⟨y, s1, G1, B1, g1, st1, hy, q1⟩
  obtain ⟨o1, ho1, ws1, rfl, hws1⟩ := st1.at_ hk hs
  unfold appM at q1
  rw [bnd_assoc] at q1
  obtain ⟨c, q1⟩ := grd_ofB q1
  refine ⟨p, ws1, v, rfl, rfl, ho1, by rw [hws1.length]; exact of_decide_eq_true c, xs ++ [y], ?_⟩
  exact fin (xs ++ [y]) s1 G1 B1 H1 _ g1 st1 ⟨_, rfl, hws1.append (.cons hy .nil)⟩ q1
/-- xs[i] = e -/
def setM {S : Type} (xs : List α) (i : Int) (x : α) : M S (List α) := bnd (opt (ixN xs.length i)) fun j => ret (xs.set j x)
theorem jb_setix {k : Nat} {n : Str} {pn ps : Pos} {r : Rp α} {xs : List α} {m : M Z.S α} {mi : M Z.S Int} {f : List α → M Z.S (Fl T U ρ)} (hk : Γ[k]? = some (some (.lv (cL r xs)))) (hn : PE Z.X (.Name n pn) (tVar k)) (he : JE Z Γ e m (.fz r)) (hi : JE Z Γ b mi (.fz rI)) (hr : ∀ y, JB Z (Γ.set k (some (.lv (cL r y)))) rest (f y) Γ' Γb ρr)
    (hp : PS Z.X (.Assign [.Subscript (.Name n pn) b ps] e pos) (tAsg (tE Z Γ m (.fz r)) (gSub (tVar k) (tE Z Γ mi (.fz rI)) rSetL))) : JB Z Γ (.Assign [.Subscript (.Name n pn) b ps] e pos :: rest) (bnd m fun x => bnd mi fun i => bnd (setM xs i x) f) Γ' Γb ρr := by
  have e1 : (bnd m fun x => bnd mi fun i => bnd (setM xs i x) f) = bnd (bnd m fun x => bnd mi fun i => setM xs i x) f := by rw [bnd_assoc]; congr 1; funext x; rw [bnd_assoc]
  rw [e1]
  refine jb_chg (m := bnd m fun x => bnd mi fun i => setM xs i x) (cc := cL r) hk hp (fun s G B σ H D st p hs q fin => ?_) hr
  rw [bnd_assoc] at q
  refine tE.imp (tE_bndB (ρ := .fz r) st q) ?_
  rintro v H1 ⟨y, s1, G1, B1, g1, st1, hy, q1⟩
  refine ⟨_, hs, ?_⟩
  rw [bnd_assoc] at q1
  refine tE.imp (tE_bndB (ρ := .fz rI) st1 q1) ?_
  rintro w H2 ⟨i, s2, G2, B2, g2, st2, hi, q2⟩
  obtain ⟨o1, ho1, ws1, rfl, hws1⟩ := st2.at_ hk hs
  unfold setM at q2
  rw [bnd_assoc] at q2
  obtain ⟨j, ej, q2⟩ := opt_ofB q2
  refine ⟨p, ws1, i, j, rfl, hi, ho1, by rw [hws1.length]; exact ej, xs.set j y, ?_⟩
  exact fin (xs.set j y) s2 G2 B2 H2 _ (g1.trans g2) st2 ⟨_, rfl, hws1.set ((r y).mono g2 hy) j⟩ q2
/-- d[k] = e -/
def dputM {S κ : Type} [DecidableEq κ] (d : List (κ × α)) (k : κ) (x : α) : M S (List (κ × α)) := bnd (grd (decide (d.length < sizeLine))) fun _ => ret (dput d k x)
theorem jb_dput {κ : Type} [DecidableEq κ] {kt : KeyT κ} {k : Nat} {n : Str} {pn ps : Pos} {r : Rp α} {d : List (κ × α)} {m : M Z.S α} {mi : M Z.S κ} {f : List (κ × α) → M Z.S (Fl T U ρ)} (hk : Γ[k]? = some (some (.lv (cD kt r d)))) (hn : PE Z.X (.Name n pn) (tVar k)) (he : JE Z Γ e m (.fz r)) (hi : JE Z Γ b mi (.fz kt.rp)) (hr : ∀ y, JB Z (Γ.set k (some (.lv (cD kt r y)))) rest (f y) Γ' Γb ρr)
    (hp : PS Z.X (.Assign [.Subscript (.Name n pn) b ps] e pos) (sDPut (tVar k) (tE Z Γ mi (.fz kt.rp)) (tE Z Γ m (.fz r)))) : JB Z Γ (.Assign [.Subscript (.Name n pn) b ps] e pos :: rest) (bnd m fun x => bnd mi fun i => bnd (dputM d i x) f) Γ' Γb ρr := by
  have e1 : (bnd m fun x => bnd mi fun i => bnd (dputM d i x) f) = bnd (bnd m fun x => bnd mi fun i => dputM d i x) f := by rw [bnd_assoc]; congr 1; funext x; rw [bnd_assoc]
  rw [e1]
  refine jb_chg (m := bnd m fun x => bnd mi fun i => dputM d i x) (cc := cD kt r) hk hp (fun s G B σ H D st p hs q fin => ?_) hr
  rw [bnd_assoc] at q
  refine tE.imp (tE_bndB (ρ := .fz r) st q) ?_
  rintro v H1 ⟨y, s1, G1, B1, g1, st1, hy, q1⟩
  refine ⟨_, hs, ?_⟩
  rw [bnd_assoc] at q1
  refine tE.imp (tE_bndB (ρ := .fz kt.rp) st1 q1) ?_
  rintro w H2 ⟨i, s2, G2, B2, g2, st2, hi, q2⟩
  obtain ⟨o1, ho1, ws1, rfl, hws1⟩ := st2.at_ hk hs
  unfold dputM at q2
  rw [bnd_assoc] at q2
  obtain ⟨c, q2⟩ := grd_ofB q2
  refine ⟨p, _, rfl, .inl ⟨ws1, kt.f i, ho1, hi, by rw [hws1.length]; exact of_decide_eq_true c, rfl⟩, dput d i y, ?_⟩
  exact fin (dput d i y) s2 G2 B2 H2 _ (g1.trans g2) st2 ⟨_, rfl, hws1.put ((r y).mono g2 hy)⟩ q2
/-! ### ahead of a block: a thing of one's own becomes still -/
theorem jb_frzL {k : Nat} {sts : List Stmt} {r : Rp α} {xs : List α} {m : M Z.S (Fl T U ρ)} (hk : Γ[k]? = some (some (.lv (cL r xs)))) (h : JB Z (Γ.set k (some (.fz (rL r xs)))) sts m Γ' Γb ρr) : JB Z Γ sts m Γ' Γb ρr :=
  ⟨PSs.imp h.ps fun D σ H ⟨s, G, B, st, q⟩ => by
    obtain ⟨G1, g1, st1⟩ := st.stillAt (A := rL r xs) hk fun a o G1 _ ⟨vs, eo, hv⟩ e g => by
      subst eo e
      exact ⟨a, vs, rfl, upd_same, hv.mono g⟩
    exact ⟨s, G1, B, st1, PostB.mono g1 q⟩⟩
theorem jb_frzD {κ : Type} {kt : KeyT κ} {k : Nat} {sts : List Stmt} {r : Rp α} {d : List (κ × α)} {m : M Z.S (Fl T U ρ)} (hk : Γ[k]? = some (some (.lv (cD kt r d)))) (h : JB Z (Γ.set k (some (.fz (rD kt r d)))) sts m Γ' Γb ρr) : JB Z Γ sts m Γ' Γb ρr := by
  refine ⟨⟨fun pins s0 σ H D I ⟨s, G, B, st, q⟩ => ?_⟩⟩
  obtain ⟨p, o, h1, h2, ⟨vs, eo, hv⟩, _⟩ := st.sl.lv k _ hk
  subst eo
  obtain ⟨od, I2⟩ := I.lock h2 True.intro
  obtain ⟨G1, g1, st1⟩ := st.lockAt (A := rD kt r d) (o' := .frz od (.dK vs)) hk h1 fun G1 e g => by
    subst e
    exact ⟨p, od, vs, rfl, upd_same, hv.mono g⟩
  exact h.ps.run pins s0 σ _ D I2 ⟨s, G1, B, st1, PostB.mono g1 q⟩
end
end DL
set_option Elab.async false
set_option linter.all false
set_option maxRecDepth 100000
namespace DL
open PySem L2
section
variable {Z : Zc} {Γ : Ctx} {α β γ T U ρ : Type} {e a b c : Expr} {es : List Expr} {pos : Pos} {Γb : U → Ctx} {ρr : Res ρ} {rest : List Stmt}
/-! ### for -/
def Fl.loop {S T U ρ : Type} (f : T → M S (Fl T U ρ)) : Fl T T ρ → M S (Fl T U ρ)
  | .nx t => f t
  | .ct t => f t
  | .bk t => ret (.nx t)
  | .rt r => ret (.rt r)
def forL {S α T U ρ : Type} (body : α → T → M S (Fl T T ρ)) : List α → T → M S (Fl T U ρ)
  | [], t => ret (.nx t)
  | x :: xs, t => bnd (body x t) (Fl.loop (forL body xs))
theorem js_for {tg iter : Expr} {body : List Stmt} {m : M Z.S (List α)} {r : Rp α} {ks : List Nat} {u : α → Ctx → Ctx} {g : TG} {Γl : T → Ctx} {mb : α → T → M Z.S (Fl T T ρ)} {t0 : T} {n : Nat} (z : ZOk Z) (hi : JI Z Γ tg iter m r) (hg : JG Z tg r ks u g) (hl : Le Γ (Γl t0)) (hb : ∀ x t, JB Z (u x (Γl t)) body (mb x t) Γl Γl ρr)
    (hn : ∀ t, (Γl t).length = n := by intro _; rfl) (hks : ks.all (fun k => decide (k < n)) = true := by decide) (hE : ∀ k ∈ ks, NoE Z.E k := by first | exact fun _ _ => NoE.nil | exact NoE.ones rfl) (hs : ∀ x, foldedSetIterable iter Z.X.env x = pure x := by intro _; rfl) :
    JS Z Γ (.For tg iter body [] pos) (bnd m fun xs => forL mb xs t0) Γl Γb ρr := by
  obtain ⟨wi, pi, hwi⟩ := hi.ex
  have kk : ∀ t, ∀ k ∈ ks, k < (Γl t).length ∧ NoE Z.E k := fun t k hk => ⟨by rw [hn t]; exact of_decide_eq_true (List.all_eq_true.mp hks k hk), hE k hk⟩
  have hbb : PSs Z.X body (fun D σ H => ∃ x t, tS Z (u x (Γl t)) (mb x t) Γl Γl ρr D σ H) := ⟨fun pins s σ H D I ⟨x, t, h⟩ => (hb x t).ps.run pins s σ H D I h⟩
  refine ⟨PS.imp (ps_for z.own z.calm pi hg.pg hbb hs) fun D σ H ⟨s, G, B, st, q⟩ => ?_⟩
  refine hwi st ?_
  have q : PostB Z Γl Γb ρr D G ((m s).bnd fun xs => forL mb xs t0) := q
  revert q
  cases m s with
  | err x s1 => exact fun q => q
  | stuck => exact fun q => q
  | ok xs s1 =>
    intro q J H1 G1 B1 g1 st1 w
    have q : PostB Z Γl Γb ρr D G (forL mb xs t0 s1) := q
    refine for_it w (g := g) (tb := fun D σ H => ∃ x t, tS Z (u x (Γl t)) (mb x t) Γl Γl ρr D σ H) (D := D) (fun i σ' H' => ∃ t s' G' B', Same G1 G' ∧ Sta Z (Γl t) s' G' B' σ' H' ∧ PostB Z Γl Γb ρr D G' (forL mb (xs.drop i) t s')) ⟨t0, s1, G1, B1, Same.refl _, st1.weak hl, PostB.mono g1 q⟩
      (fun i σ' H' _ ⟨t, s', G', B', g', st', _⟩ => g'.trans st'.ok.gh) ?_ ?_
    · rintro i v σ' H' H2 hi ⟨t, s', G', B', g', st', q'⟩ ⟨x, hx, hy⟩
      have ed : xs.drop i = x :: xs.drop (i + 1) := by
        obtain ⟨h1, h2⟩ := List.getElem?_eq_some_iff.mp hx
        rw [← h2]
        exact List.drop_eq_getElem_cons h1
      rw [ed] at q'
      have main : ∀ G2 H3, Same G' G2 → Sta Z (Γl t) s' G2 B' σ' H3 → (r x).p v G2 → g v σ' H3 fun σ2 H4 => ∃ x t, tS Z (u x (Γl t)) (mb x t) Γl Γl ρr { D with nx := fun σ' H' => ∃ t s' G' B', Same G1 G' ∧ Sta Z (Γl t) s' G' B' σ' H' ∧ PostB Z Γl Γb ρr D G' (forL mb (xs.drop (i + 1)) t s'), ct := fun σ' H' => ∃ t s' G' B', Same G1 G' ∧ Sta Z (Γl t) s' G' B' σ' H' ∧ PostB Z Γl Γb ρr D G' (forL mb (xs.drop (i + 1)) t s'), bk := D.nx } σ2 H4 := by
        intro G2 H3 g2 st2 hv
        refine hg.go st2 hv (kk t) fun σ2 st3 _ => ⟨x, t, s', G2, B', st3, ?_⟩
        have q2 : PostB Z Γl Γb ρr D G2 ((mb x t s').bnd (Fl.loop (forL mb (xs.drop (i + 1))))) := PostB.mono g2 q'
        revert q2
        cases mb x t s' with
        | ok y s2 =>
          cases y with
          | nx t' => exact fun q2 σ3 H5 G3 B3 g3 st4 => ⟨t', s2, G3, B3, (g'.trans g2).trans g3, st4, PostB.mono g3 q2⟩
          | ct t' => exact fun q2 σ3 H5 G3 B3 g3 st4 => ⟨t', s2, G3, B3, (g'.trans g2).trans g3, st4, PostB.mono g3 q2⟩
          | bk t' => exact fun q2 => q2
          | rt y => exact fun q2 => q2
        | err y s2 => exact fun q2 => q2
        | stuck => exact fun q2 => q2
      rcases hy with ⟨rfl, hv⟩ | ⟨A, vs, rfl, hA, rfl, hv⟩
      · exact main G' H2 (Same.refl _) st' ((r x).mono g' hv)
      · have gA : Same G' (upd G' A (.tup vs)) := Same.upd_new (Same.free st'.ok.gh hA)
        exact main (upd G' A (.tup vs)) _ gA (st'.laidG hA) (hv _ (g'.trans gA) upd_same)
    · rintro σ' H' ⟨t, s', G', B', g', st', q'⟩
      rw [List.drop_length] at q'
      exact q' σ' H' G' B' (Same.refl _) st'
/-! ### comprehensions -/
/-- no error may leave -/
def nox {S α : Type} (m : M S α) : M S α := fun s => match m s with
  | .ok a s' => .ok a s'
  | _ => .stuck
@[simp] theorem nox_ret {S α : Type} (a : α) : nox (ret a : M S α) = ret a := rfl
@[simp] theorem nox_stk {S α : Type} : nox (stk : M S α) = stk := rfl
theorem nox_bnd {S α β : Type} (m : M S α) (f : α → M S β) : nox (bnd m f) = bnd (nox m) fun a => nox (f a) := by
  funext s
  show nox (bnd m f) s = (nox m s).bnd fun a => nox (f a)
  unfold nox bnd
  cases m s <;> rfl
def compL {S α β : Type} (mt : α → M S Bool) (me : α → M S β) : List α → M S (List β)
  | [] => ret []
  | x :: xs => bnd (nox (mt x)) fun c => if c then bnd (nox (me x)) fun y => bnd (compL mt me xs) fun ys => ret (y :: ys) else compL mt me xs
def compM {S α β : Type} (mt : α → M S Bool) (me : α → M S β) (xs : List α) : M S (List β) := bnd (grd (decide (xs.length ≤ sizeLine))) fun _ => compL mt me xs
/-- the block of a comprehension, the list so far held at D -/
abbrev Zc.blk (Z : Zc) (s : Shared) (H : Hp) (scope : Scope) (cl : List (Str × Addr)) (C : Addr) (fp : List Addr) (D : Addr) (acc : HO) : Zc :=
  { Z with X := Z.X.blk s H scope (compEnvC scope cl C Z.X.env) fp, W := fun _ _ _ _ => False, hd := upd Z.hd D acc, E := [] }
theorem ZOk.blk (z : ZOk Z) {s : Shared} {H : Hp} {scope : Scope} {cl : List (Str × Addr)} {C : Addr} {fp : List Addr} {D : Addr} {acc : HO} : ZOk (Z.blk s H scope cl C fp D acc) :=
  ⟨z.calm, PassesOwn.never, z.nd, takes0⟩
def wipeC (Γ : Ctx) : List Nat → Ctx
  | [] => Γ
  | v :: vs => (wipeC Γ vs).set v none
theorem wipeC_length (Γ : Ctx) : ∀ vs : List Nat, (wipeC Γ vs).length = Γ.length
  | [] => rfl
  | v :: vs => by unfold wipeC; rw [List.length_set, wipeC_length Γ vs]
theorem wipeC_some {k : Nat} {x : Asn} : ∀ {vs : List Nat}, (wipeC Γ vs)[k]? = some (some x) → Γ[k]? = some (some x) ∧ k ∉ vs
  | [], h => ⟨h, by simp⟩
  | v :: vs, h => by
    unfold wipeC at h
    rcases set_at h with ⟨_, z⟩ | ⟨n, z⟩
    · cases z
    · obtain ⟨h1, h2⟩ := wipeC_some z
      exact ⟨h1, by simp only [List.mem_cons, not_or]; exact ⟨n, h2⟩⟩
theorem wipe_wipe {σ : St} {vs : List Nat} : wipe (wipe σ vs) vs = wipe σ vs := by
  have h : ∀ ws : List Nat, (∀ k ∈ ws, k ∈ vs) → wipe (wipe σ ws) vs = wipe σ vs := by
    intro ws
    induction ws with
    | nil => intro _; rfl
    | cons k ws ih =>
      intro hk
      show wipe ((wipe σ ws).set k none) vs = wipe σ vs
      rw [wipe_comm (hk k List.mem_cons_self), ih fun j hj => hk j (List.mem_cons_of_mem _ hj)]
  exact h vs fun _ h => h
/-- the block as the state sees it -/
abbrev Zc.b0 (Z : Zc) (D : Addr) (acc : HO) : Zc := { Z with W := fun _ _ _ _ => False, hd := upd Z.hd D acc, E := [] }
theorem Sta.wiped {s : Z.S} {G B : Hp} {σ : St} {H : Hp} {vs : List Nat} {D : Addr} {acc : HO} (st : Sta Z Γ s G B σ H) (hw : wipeC Γ vs = Γ) (hD : H D = some acc) (gD : G D = none) (bD : B D = none) (fD : Z.F.H0 D = none) (oD : Off Γ σ D) :
    Sta (Z.b0 D acc) Γ s G B (wipe σ vs) H := by
  have nv : ∀ {k : Nat} {x : Asn}, Γ[k]? = some (some x) → k ∉ vs := fun {k x} e => (wipeC_some (by rw [hw]; exact e)).2
  refine ⟨st.ok, st.res, ⟨by rw [wipe_length]; exact st.sl.len, fun k A e => ?_, fun k L e => ?_, fun k j L L' a e1 e2 q1 q2 => ?_⟩, ⟨Nat.zero_le _, fun k A e => by simp at e⟩, fun a o e => ?_, fun a o e => ?_⟩
  · rw [wipe_out (nv e)]
    exact st.sl.fz k A e
  · rw [wipe_out (nv e)]
    obtain ⟨p, o, h3, h4, h5, h6, h7, h8, h9⟩ := st.sl.lv k L e
    have ne : p ≠ D := fun z => oD k L e (by rw [← z]; exact h3)
    exact ⟨p, o, h3, h4, h5, h6, h7, h8, by show upd Z.hd D acc p = none; rw [upd_ne ne]; exact h9⟩
  · rw [wipe_out (nv e1)] at q1
    rw [wipe_out (nv e2)] at q2
    exact st.sl.ne k j L L' a e1 e2 q1 q2
  · have e : upd Z.hd D acc a = some o := e
    by_cases z : a = D
    · subst z
      rw [upd_same] at e
      cases e
      exact hD
    · rw [upd_ne z] at e
      exact st.held a o e
  · have e : upd Z.hd D acc a = some o := e
    by_cases z : a = D
    · subst z
      exact ⟨gD, bD, fD⟩
    · rw [upd_ne z] at e
      exact st.off a o e
/-- back from the block: the slots as they were -/
theorem Sta.unwiped {Γ2 : Ctx} {s0 s : Z.S} {G0 B0 G B : Hp} {σ σ2 : St} {H0 H : Hp} {vs : List Nat} {D : Addr} {acc : HO} (st0 : Sta Z Γ s0 G0 B0 σ H0) (st : Sta (Z.b0 D acc) Γ2 s G B σ2 H) (hw : wipeC Γ vs = Γ) (g : Same G0 G) (hdD : Z.hd D = none)
    (hk : ∀ k, k ∉ vs → Γ2[k]? = Γ[k]?) (hσ : wipe σ2 vs = wipe σ vs) : Sta Z Γ s G B σ H := by
  have nv : ∀ {k : Nat} {x : Asn}, Γ[k]? = some (some x) → k ∉ vs := fun {k x} e => (wipeC_some (by rw [hw]; exact e)).2
  have sl : ∀ {k : Nat}, k ∉ vs → σ2[k]? = σ[k]? := fun {k} h => by rw [← wipe_out (σ := σ2) h, hσ, wipe_out h]
  refine ⟨st.ok, st.res, ⟨st0.sl.len, fun k A e => ?_, fun k L e => ?_, st0.sl.ne⟩, ⟨st0.sle.1, fun k A e => ?_⟩, fun a o e => ?_, fun a o e => ?_⟩
  · rw [← sl (nv e)]
    exact st.sl.fz k A (by rw [hk k (nv e)]; exact e)
  · rw [← sl (nv e)]
    obtain ⟨p, o, h1, h2, h3, h4, h5, h6, h7⟩ := st.sl.lv k L (by rw [hk k (nv e)]; exact e)
    refine ⟨p, o, h1, h2, h3, h4, h5, h6, ?_⟩
    have h7 : upd Z.hd D acc p = none := h7
    by_cases z : p = D
    · rw [z]
      exact hdD
    · rw [upd_ne z] at h7
      exact h7
  · obtain ⟨v, h1, h2⟩ := st0.sle.2 k A e
    exact ⟨v, h1, A.mono g h2⟩
  · have ne : a ≠ D := ne_of_none e hdD
    exact st.held a o (by show upd Z.hd D acc a = some o; rw [upd_ne ne]; exact e)
  · have ne : a ≠ D := ne_of_none e hdD
    exact st.off a o (by show upd Z.hd D acc a = some o; rw [upd_ne ne]; exact e)
/-- the same state by another context of the machine -/
theorem Sta.of {Z1 Z2 : Zc} (e1 : Z1 = { Z2 with X := Z1.X, W := Z1.W }) {s : Z2.S} {G B : Hp} {σ : St} {H : Hp} (st : Sta Z2 Γ s G B σ H) : Sta { Z2 with X := Z1.X, W := Z1.W } Γ s G B σ H := ⟨st.ok, st.res, st.sl, st.sle, st.held, st.off⟩
section
variable {s0 : Shared} {H0 : Hp} {scope : Scope} {cl : List (Str × Addr)} {C : Addr} {fp : List Addr} {D : Addr} {acc : HO}
theorem blk_to {s : Z.S} {G B : Hp} {σ : St} {H : Hp} (st : Sta (Z.b0 D acc) Γ s G B σ H) : Sta (Z.blk s0 H0 scope cl C fp D acc) Γ s G B σ H := ⟨st.ok, st.res, st.sl, st.sle, st.held, st.off⟩
theorem blk_from {s : Z.S} {G B : Hp} {σ : St} {H : Hp} (st : Sta (Z.blk s0 H0 scope cl C fp D acc) Γ s G B σ H) : Sta (Z.b0 D acc) Γ s G B σ H := ⟨st.ok, st.res, st.sl, st.sle, st.held, st.off⟩
theorem tE_blk {m : M Z.S α} {r : Rp α} {σ : St} {H : Hp} {Q : VK} (h : tE (Z.b0 D acc) Γ m (.fz r) σ H Q) : tE (Z.blk s0 H0 scope cl C fp D acc) Γ m (.fz r) σ H Q := by
  obtain ⟨s, G, B, st, q⟩ := h
  refine ⟨s, G, B, blk_to st, ?_⟩
  revert q
  show PostE (Z.b0 D acc) Γ (.fz r) σ Q G (m s) → PostE (Z.blk s0 H0 scope cl C fp D acc) Γ (.fz r) σ Q G (m s)
  cases m s with
  | ok x s1 => exact fun q v H' G' B' g st' hs => q v H' G' B' g (blk_from st') hs
  | err x s1 => exact fun q cls d σ' H' G' B' g st' he => q cls d σ' H' G' B' g (blk_from st') he
  | stuck => exact fun q => q
theorem tT_blk {m : M Z.S Bool} {σ : St} {H : Hp} {Q : Bool → Hp → Prop} (h : tT (Z.b0 D acc) Γ m σ H Q) : tT (Z.blk s0 H0 scope cl C fp D acc) Γ m σ H Q := by
  obtain ⟨s, G, B, st, q⟩ := h
  refine ⟨s, G, B, blk_to st, ?_⟩
  revert q
  show PostT (Z.b0 D acc) Γ σ Q G (m s) → PostT (Z.blk s0 H0 scope cl C fp D acc) Γ σ Q G (m s)
  cases m s with
  | ok x s1 => exact fun q H' G' B' g st' => q H' G' B' g (blk_from st')
  | err x s1 => exact fun q cls d σ' H' G' B' g st' he => q cls d σ' H' G' B' g (blk_from st') he
  | stuck => exact fun q => q
end
/-- the tests of a comprehension -/
structure JTs (Z : Zc) (Γ : Ctx) (ifs : List Expr) (m : M Z.S Bool) : Prop where
  ps : PTs Z.X ifs (tT Z Γ m)
theorem jts_nil : JTs Z Γ [] (ret true) := ⟨⟨fun pins s σ H Q I ⟨s1, G, B, st, q⟩ => pts_nil.run pins s σ H Q I (q H G B (Same.refl _) st)⟩⟩
theorem jts_one {m : M Z.S Bool} (h : JT Z Γ c m) : JTs Z Γ [c] m := ⟨pts_one h.pt⟩
/-- what is left of a comprehension, the items so far ahead -/
def leftL {S α β : Type} (mt : α → M S Bool) (me : α → M S β) (acc : List β) (xs : List α) : M S (List β) := bnd (compL mt me xs) fun ys => ret (acc ++ ys)
theorem leftL_cons {S α β : Type} (mt : α → M S Bool) (me : α → M S β) (acc : List β) (x : α) (xs : List α) :
    leftL mt me acc (x :: xs) = bnd (nox (mt x)) fun c => if c then bnd (nox (me x)) fun y => leftL mt me (acc ++ [y]) xs else leftL mt me acc xs := by
  show bnd (bnd (nox (mt x)) fun c => if c then bnd (nox (me x)) fun y => bnd (compL mt me xs) fun ys => ret (y :: ys) else compL mt me xs) (fun ys => ret (acc ++ ys)) = _
  rw [bnd_assoc]
  congr 1
  funext c
  cases c with
  | false => rfl
  | true =>
    show bnd (bnd (nox (me x)) fun y => bnd (compL mt me xs) fun ys => ret (y :: ys)) (fun ys => ret (acc ++ ys)) = bnd (nox (me x)) fun y => leftL mt me (acc ++ [y]) xs
    rw [bnd_assoc]
    congr 1
    funext y
    rw [bnd_assoc]
    unfold leftL
    congr 1
    funext ys
    rw [bnd_ret, List.append_assoc]
    rfl
theorem nox_post {Q : VK} {r : Rp β} {f : β → M Z.S γ} {ρ : Res γ} {m : M Z.S β} {s : Z.S} {G : Hp} {σ : St} (q : PostE Z Γ ρ σ Q G (bnd (nox m) f s)) : ∃ y s1, m s = .ok y s1 ∧ PostE Z Γ ρ σ Q G (f y s1) := by
  have q : PostE Z Γ ρ σ Q G ((nox m s).bnd f) := q
  unfold nox at q
  cases e : m s with
  | ok y s1 =>
    rw [e] at q
    exact ⟨y, s1, rfl, q⟩
  | err y s1 =>
    rw [e] at q
    exact q.elim
  | stuck =>
    rw [e] at q
    exact q.elim
theorem comp_core {tg iter elt : Expr} {ifs : List Expr} {scope : Scope} {own : List (Str × Nat)} {m : M Z.S (List α)} {r : Rp α} {rb : Rp β} {u : α → Ctx → Ctx} {g : TG} {mt : α → M Z.S Bool} {me : α → M Z.S β} (z : ZOk Z) (hi : JI Z Γ tg iter m r) 
    (hg : ∀ (s : Shared) (H : Hp) (C : Addr) (cl : List (Str × Addr)) (fp : List Addr) (D : Addr) (acc : HO), JG (Z.blk s H scope cl C fp D acc) tg r (own.map (·.2)) u g)
    (ht : ∀ (s : Shared) (H : Hp) (C : Addr) (cl : List (Str × Addr)) (fp : List Addr) (D : Addr) (acc : HO) (x : α), JTs (Z.blk s H scope cl C fp D acc) (u x Γ) ifs (mt x))
    (he : ∀ (s : Shared) (H : Hp) (C : Addr) (cl : List (Str × Addr)) (fp : List Addr) (D : Addr) (acc : HO) (x : α), JE (Z.blk s H scope cl C fp D acc) (u x Γ) elt (me x) (.fz rb))
    (hw : wipeC Γ (own.map (·.2)) = Γ := by rfl) (hks : (own.map (·.2)).all (fun k => decide (k < Γ.length)) = true := by rfl) :
    ∃ (wi : TI) (tt : TT) (te : TE), PI Z.X tg iter wi ∧ (∀ (s : Shared) (H : Hp) (C : Addr) (cl : List (Str × Addr)) (fp : List Addr), PG (Z.X.blk s H scope (compEnvC scope cl C Z.X.env) fp) tg g) ∧
      (∀ (s : Shared) (H : Hp) (C : Addr) (cl : List (Str × Addr)) (fp : List Addr), PTs (Z.X.blk s H scope (compEnvC scope cl C Z.X.env) fp) ifs tt) ∧
      (∀ (s : Shared) (H : Hp) (C : Addr) (cl : List (Str × Addr)) (fp : List Addr), PE (Z.X.blk s H scope (compEnvC scope cl C Z.X.env) fp) elt te) ∧
      ∀ σ H Q, tE Z Γ (bnd m fun xs => compM mt me xs) (.own (cL rb)) σ H Q → tLc wi g tt te (own.map (·.2)) σ H Q := by
  obtain ⟨wi, pi, hwi⟩ := hi.ex
  have kk : ∀ k ∈ own.map (·.2), k < Γ.length ∧ NoE [] k := fun k hk => ⟨of_decide_eq_true (List.all_eq_true.mp hks k hk), NoE.nil⟩
  have ht2 : ∀ (s : Shared) (H : Hp) (C : Addr) (cl : List (Str × Addr)) (fp : List Addr), PTs (Z.X.blk s H scope (compEnvC scope cl C Z.X.env) fp) ifs (fun σ H Q => ∃ D acc x, tT (Z.b0 D acc) (u x Γ) (mt x) σ H Q) := fun s H C cl fp =>
    ⟨fun pins s1 σ H1 Q I ⟨D, acc, x, h⟩ => (ht s H C cl fp D acc x).ps.run pins s1 σ H1 Q I (tT_blk h)⟩
  have he2 : ∀ (s : Shared) (H : Hp) (C : Addr) (cl : List (Str × Addr)) (fp : List Addr), PE (Z.X.blk s H scope (compEnvC scope cl C Z.X.env) fp) elt (fun σ H Q => ∃ D acc x, tE (Z.b0 D acc) (u x Γ) (me x) (.fz rb) σ H Q) := fun s H C cl fp =>
    ⟨fun pins s1 σ H1 Q I ⟨D, acc, x, h⟩ => (he s H C cl fp D acc x).pe.run pins s1 σ H1 Q I (tE_blk h)⟩
  refine ⟨wi, _, _, pi, fun s H C cl fp => (hg s H C cl fp 0 (.lst [])).pg, ht2, he2, fun σ H Q ⟨s, G, B, st, q⟩ => ?_⟩
  refine hwi st ?_
  have q : PostE Z Γ (.own (cL rb)) σ Q G ((m s).bnd fun xs => compM mt me xs) := q
  revert q
  cases m s with
  | err x s1 => exact fun q => q
  | stuck => exact fun q => q
  | ok xs s1 =>
    intro q J H1 G1 B1 g1 st1 w D nD
    have q : PostE Z Γ (.own (cL rb)) σ Q G (bnd (grd (decide (xs.length ≤ sizeLine))) (fun _ => compL mt me xs) s1) := q
    obtain ⟨cz, q⟩ := grd_of q
    have hz := of_decide_eq_true cz
    have q0 : PostE Z Γ (.own (cL rb)) σ Q G1 (leftL mt me [] xs s1) := by
      have e : leftL mt me [] xs = compL mt me xs := by
        unfold leftL
        funext s2
        show (compL mt me xs s2).bnd _ = _
        cases compL mt me xs s2 <;> rfl
      rw [e]
      exact PostE.mono g1 q
    have hdD : Z.hd D = none := Same.free st1.held nD
    refine lc_it w (g := g) (tt := fun σ H Q => ∃ D acc x, tT (Z.b0 D acc) (u x Γ) (mt x) σ H Q) (te := fun σ H Q => ∃ D acc x, tE (Z.b0 D acc) (u x Γ) (me x) (.fz rb) σ H Q) (vs := own.map (·.2)) (σ := σ) (Qd := fun H => Q (.ref D) H) (fun i H' => ∃ acc accV s' G' B', Same G1 G' ∧ Sta Z Γ s' G' B' σ H' ∧ H' D = some (.lst accV) ∧ AllP rb G' accV acc ∧ acc.length ≤ i ∧ G' D = none ∧ B' D = none ∧ Z.F.H0 D = none ∧ Off Γ σ D ∧ PostE Z Γ (.own (cL rb)) σ Q G' (leftL mt me acc (xs.drop i) s'))
      ⟨[], [], s1, G1, B1, Same.refl _, st1.laid nD, upd_same, .nil, Nat.le_refl _, Same.free st1.ok.gh nD, Same.free st1.ok.bh nD, st1.ok.fresh nD, st1.offP nD, q0⟩
      (fun i H' _ ⟨_, _, _, G', _, g', st', _⟩ => g'.trans st'.ok.gh) ?_ ?_
    · rintro i v H2 H3 hlt ⟨acc, accV, s', G', B', g', st', hD, ha, hl, gD, bD, fD, oD, q'⟩ ⟨x, hx, hy⟩
      have ed : xs.drop i = x :: xs.drop (i + 1) := by
        obtain ⟨h1, h2⟩ := List.getElem?_eq_some_iff.mp hx
        rw [← h2]
        exact List.drop_eq_getElem_cons h1
      rw [ed, leftL_cons] at q'
      obtain ⟨cb, s2, ec, q'⟩ := nox_post (r := rB) q'
      have main : ∀ G2 H4, Same G' G2 → Sta Z Γ s' G2 B' σ H4 → H4 D = some (.lst accV) → G2 D = none → (r x).p v G2 → g v (wipe σ (own.map (·.2))) H4 fun σ2 H5 => wipe σ2 (own.map (·.2)) = wipe σ (own.map (·.2)) ∧ (fun σ H Q => ∃ D acc x, tT (Z.b0 D acc) (u x Γ) (mt x) σ H Q) σ2 H5 fun b H6 =>
          if b = true then (fun σ H Q => ∃ D acc x, tE (Z.b0 D acc) (u x Γ) (me x) (.fz rb) σ H Q) σ2 H6 fun y H7 => ∃ acc, H7 D = some (.lst acc) ∧ acc.length < sizeLine ∧ (fun i H' => ∃ acc accV s' G' B', Same G1 G' ∧ Sta Z Γ s' G' B' σ H' ∧ H' D = some (.lst accV) ∧ AllP rb G' accV acc ∧ acc.length ≤ i ∧ G' D = none ∧ B' D = none ∧ Z.F.H0 D = none ∧ Off Γ σ D ∧ PostE Z Γ (.own (cL rb)) σ Q G' (leftL mt me acc (xs.drop i) s')) (i + 1) (upd H7 D (.lst (acc ++ [y])))
          else (fun i H' => ∃ acc accV s' G' B', Same G1 G' ∧ Sta Z Γ s' G' B' σ H' ∧ H' D = some (.lst accV) ∧ AllP rb G' accV acc ∧ acc.length ≤ i ∧ G' D = none ∧ B' D = none ∧ Z.F.H0 D = none ∧ Off Γ σ D ∧ PostE Z Γ (.own (cL rb)) σ Q G' (leftL mt me acc (xs.drop i) s')) (i + 1) H6 := by
        intro G2 H4 g2 st2 hD2 gD2 hv
        refine (hg Z.X.s_0 Z.X.H_0 0 [] [] D (.lst accV)).go (blk_to (st2.wiped hw hD2 gD2 bD fD oD)) hv kk fun σ2 st3 hσ2 => ?_
        rw [wipe_wipe] at hσ2
        refine ⟨hσ2, D, .lst accV, x, s', G2, B', blk_from st3, ?_⟩
        rw [ec]
        intro H6 G3 B3 g3 st4
        have hD4 : H6 D = some (.lst accV) := st4.held D _ (by show upd Z.hd D (.lst accV) D = _; exact upd_same)
        have off4 := st4.off D (.lst accV) (by show upd Z.hd D (.lst accV) D = _; exact upd_same)
        have st4' := st2.unwiped st4 hw g3 hdD ((hg Z.X.s_0 Z.X.H_0 0 [] [] D (.lst accV)).keep x Γ) hσ2
        have q4 : PostE Z Γ (.own (cL rb)) σ Q G3 ((if cb then bnd (nox (me x)) fun y => leftL mt me (acc ++ [y]) (xs.drop (i + 1)) else leftL mt me acc (xs.drop (i + 1))) s2) := PostE.mono (g2.trans g3) q'
        cases cb with
        | false => exact ⟨acc, accV, s2, G3, B3, (g'.trans g2).trans g3, st4', hD4, ha.mono (g2.trans g3), by omega, off4.1, off4.2.1, fD, oD, q4⟩
        | true =>
          have q4 : PostE Z Γ (.own (cL rb)) σ Q G3 (bnd (nox (me x)) (fun y => leftL mt me (acc ++ [y]) (xs.drop (i + 1))) s2) := q4
          obtain ⟨y, s3, ey, q4⟩ := nox_post (r := rb) q4
          refine ⟨D, .lst accV, x, s2, G3, B3, st4, ?_⟩
          rw [ey]
          intro yv H7 G5 B5 g5 st5 hy5
          have hD5 : H7 D = some (.lst accV) := st5.held D _ (by show upd Z.hd D (.lst accV) D = _; exact upd_same)
          have off5 := st5.off D (.lst accV) (by show upd Z.hd D (.lst accV) D = _; exact upd_same)
          have st5' := st4'.unwiped st5 hw g5 hdD ((hg Z.X.s_0 Z.X.H_0 0 [] [] D (.lst accV)).keep x Γ) hσ2
          have hlen : accV.length < sizeLine := by rw [ha.length]; omega
          refine ⟨accV, hD5, hlen, acc ++ [y], accV ++ [yv], s3, G5, B5, ((g'.trans g2).trans g3).trans g5, ?_, upd_same, (ha.mono ((g2.trans g3).trans g5)).append (.cons hy5 .nil), by rw [List.length_append]; simp; omega, off5.1, off5.2.1, fD, oD, PostE.mono g5 q4⟩
          refine ⟨st5'.ok.change off5.1 off5.2.1 fD, st5'.res, ⟨st5'.sl.len, st5'.sl.fz, fun k L e => ?_, st5'.sl.ne⟩, st5'.sle, Same.upd_r st5'.held hdD, st5'.off⟩
          obtain ⟨p, o, k1, k2, k3⟩ := st5'.sl.lv k L e
          have ne : p ≠ D := fun zz => oD k L e (by rw [← zz]; exact k1)
          exact ⟨p, o, k1, by rw [upd_ne ne]; exact k2, k3⟩
      rcases hy with ⟨rfl, hv⟩ | ⟨A, vs, rfl, hA, rfl, hv⟩
      · exact main G' H3 (Same.refl _) st' hD gD ((r x).mono g' hv)
      · have gA : Same G' (upd G' A (.tup vs)) := Same.upd_new (Same.free st'.ok.gh hA)
        have ne : D ≠ A := ne_of_none hD hA
        exact main (upd G' A (.tup vs)) _ gA (st'.laidG hA) (by rw [upd_ne ne]; exact hD) (by rw [upd_ne ne]; exact gD) (hv _ (g'.trans gA) upd_same)
    · rintro H' ⟨acc, accV, s', G', B', g', st', hD, ha, hl, gD, bD, fD, oD, q'⟩
      rw [List.drop_length] at q'
      have q' : PostE Z Γ (.own (cL rb)) σ Q G' (ret (acc ++ []) s') := q'
      rw [List.append_nil] at q'
      exact q' (.ref D) H' G' B' (Same.refl _) st' ⟨D, .lst accV, rfl, hD, ⟨accV, rfl, ha⟩, gD, bD, fD, hdD, oD⟩
theorem je_comp {tg iter elt : Expr} {ifs : List Expr} {scope : Scope} {own : List (Str × Nat)} {m : M Z.S (List α)} {r : Rp α} {rb : Rp β} {u : α → Ctx → Ctx} {g : TG} (z : ZOk Z) (hi : JI Z Γ tg iter m r) (mt : α → M Z.S Bool) (me : α → M Z.S β) (ok : BlkOk Z.X.N Z.X.env.scope scope own)
    (hg : ∀ (s : Shared) (H : Hp) (C : Addr) (cl : List (Str × Addr)) (fp : List Addr) (D : Addr) (acc : HO), JG (Z.blk s H scope cl C fp D acc) tg r (own.map (·.2)) u g)
    (ht : ∀ (s : Shared) (H : Hp) (C : Addr) (cl : List (Str × Addr)) (fp : List Addr) (D : Addr) (acc : HO) (x : α), JTs (Z.blk s H scope cl C fp D acc) (u x Γ) ifs (mt x))
    (he : ∀ (s : Shared) (H : Hp) (C : Addr) (cl : List (Str × Addr)) (fp : List Addr) (D : Addr) (acc : HO) (x : α), JE (Z.blk s H scope cl C fp D acc) (u x Γ) elt (me x) (.fz rb))
    (hw : wipeC Γ (own.map (·.2)) = Γ := by rfl) (hks : (own.map (·.2)).all (fun k => decide (k < Γ.length)) = true := by rfl) (hs : ∀ x, foldedSetIterable iter Z.X.env x = pure x := by intro _; rfl) :
    JE Z Γ (.ListComp elt [⟨tg, iter, ifs, 0⟩] scope pos) (bnd m fun xs => compM mt me xs) (.own (cL rb)) := by
  obtain ⟨wi, tt, te, pi, pg, pt, pe, h⟩ := comp_core z hi hg ht he hw hks
  exact ⟨PE.imp (pe_lc z.calm z.nd pi ok pg pt pe hs) h⟩
/-- y = [..], y a local, on one line -/
theorem jb_setLc {T : Type} {Γ' : T → Ctx} {y : Str} {py spos : Pos} {i : Nat} {f : List β → M Z.S (Fl T U ρ)} {tg iter elt : Expr} {ifs : List Expr} {scope : Scope} {own : List (Str × Nat)} {m : M Z.S (List α)} {r : Rp α} {rb : Rp β} {u : α → Ctx → Ctx} {g : TG} (z : ZOk Z) (hi : JI Z Γ tg iter m r) (mt : α → M Z.S Bool) (me : α → M Z.S β) (ok : BlkOk Z.X.N Z.X.env.scope scope own)
    (hg : ∀ (s : Shared) (H : Hp) (C : Addr) (cl : List (Str × Addr)) (fp : List Addr) (D : Addr) (acc : HO), JG (Z.blk s H scope cl C fp D acc) tg r (own.map (·.2)) u g)
    (ht : ∀ (s : Shared) (H : Hp) (C : Addr) (cl : List (Str × Addr)) (fp : List Addr) (D : Addr) (acc : HO) (x : α), JTs (Z.blk s H scope cl C fp D acc) (u x Γ) ifs (mt x))
    (he : ∀ (s : Shared) (H : Hp) (C : Addr) (cl : List (Str × Addr)) (fp : List Addr) (D : Addr) (acc : HO) (x : α), JE (Z.blk s H scope cl C fp D acc) (u x Γ) elt (me x) (.fz rb))
    (hw : wipeC Γ (own.map (·.2)) = Γ := by rfl) (hks : (own.map (·.2)).all (fun k => decide (k < Γ.length)) = true := by rfl) (hs : ∀ x, foldedSetIterable iter Z.X.env x = pure x := by intro _; rfl)
    (hy : Z.X.N[i]? = some y) (hyl : Z.X.env.scope.names.lookup y = some .local) (hr : ∀ v, JB Z (Γ.set i (some (.lv (cL rb v)))) rest (f v) Γ' Γb ρr) (hsw : swapsWith (.ListComp elt [⟨tg, iter, ifs, 0⟩] scope pos) (some (.Name y py)) spos.line Z.X.env = pure true) (hki : i < Γ.length := by exact Nat.le_of_ble_eq_true rfl) (hE : NoE Z.E i := by first | exact NoE.nil | exact NoE.one) :
    JB Z Γ (.Assign [.Name y py] (.ListComp elt [⟨tg, iter, ifs, 0⟩] scope pos) spos :: rest) (bnd (bnd m fun xs => compM mt me xs) f) Γ' Γb ρr := by
  obtain ⟨wi, tt, te, pi, pg, pt, pe, h⟩ := comp_core z hi hg ht he hw hks
  refine ⟨⟨fun pins s0 σ H D I ⟨s, G, B, sta, q⟩ => ?_⟩⟩
  refine wpAny_execs_cons (thn ((ps_setLc z.calm z.nd hy hyl hsw pi ok pg pt pe hs).run pins s0 σ H { D with nx := fun σ' H' => ∃ v, (tS Z (Γ.set i (some (.lv (cL rb v)))) (f v) Γ' Γb ρr) D σ' H' } I ?_) fun fl s1 hq => ?_)
  · refine h _ _ _ (tE.imp (tE_bndB (ρ := .own (cL rb)) sta q) ?_)
    rintro v H1 ⟨y, s1, G1, B1, g1, st1, hy, q1⟩
    exact ⟨y, s1, G1, B1, st1.setO hki hE hy, q1⟩
  · cases fl with
    | next =>
      obtain ⟨σ', H', I', v, zz⟩ := hq
      exact (hr v).ps.run pins s1 σ' H' D I' zz
    | ret v => exact hq
    | brk => exact hq
    | cont => exact hq
end
end DL
set_option Elab.async false
set_option linter.all false
set_option maxRecDepth 100000
namespace DL
open PySem PySem.Spec PyProof.Rows L2
/-! ### promises -/
abbrev CapT := (S : Type) → (S → MP Hp) → Type
structure NoCap (S : Type) (R : S → MP Hp) : Type where
def HasF (F : Fm) {α : Type} (ρ : Res α) (x : α) (v : V) (G B H : Hp) : Prop := match ρ with
  | .fz r => (r x).p v G
  | .own c => ∃ a o, v = .ref a ∧ H a = some o ∧ (c x).p o G ∧ G a = none ∧ B a = none ∧ F.H0 a = none
  | .vw _ _ => False
def PostF (mg : Str → Option Value) {S β : Type} (R : S → MP Hp) (F : Fm) (ρ : Res β) (Q : VK) (E : XK) : Out S β → Prop
  | .ok x s' => ∀ v H' G' B', Ok F G' B' H' → (R s').p B' G' → HasF F ρ x v G' B' H' → Q v H'
  | .err e s' => ∀ cls d H' G' B', Ok F G' B' H' → (R s').p B' G' → errIs mg e cls d H' → E cls d H'
  | .stuck => False
def spC (mg : Str → Option Value) {Cap : CapT} {α β : Type} (ra : (S : Type) → (R : S → MP Hp) → Cap S R → α → List V → Hp → Prop) (ρ : Res β) (f : (S : Type) → (R : S → MP Hp) → Cap S R → α → M S β) : Sp := fun vs H Q E =>
  ∃ (S : Type) (R : S → MP Hp) (c : Cap S R) (s : S) (G B : Hp) (x : α), Same G H ∧ Same B H ∧ (∀ a o, G a = some o → B a = none) ∧ (R s).p B G ∧ ra S R c x vs G ∧ PostF mg R ⟨H, G, B⟩ ρ Q E (f S R c x s)
/-- a def by its name -/
structure FnC (P : Program) (w : World) (K : PySem.W.Frag) (mg : Str → Option Value) (base : Heap) (n : Str) (k : Nat) (sp : Sp) : Prop where
  ex : ∃ f fd ps, FnOk P w K mg base (L2.CX P w) k f fd ps sp ∧ mg n = some (.ref f) ∧ PySem.W.keepIn K (.ref f) = true ∧ Binds K fd ps []
section
variable {Z : Zc} {Γ : Ctx} {α β γ T U ρ : Type} {e a b c : Expr} {es : List Expr} {pos p : Pos}
theorem sp_run {Cap : CapT} {ra : (S : Type) → (R : S → MP Hp) → Cap S R → α → List V → Hp → Prop} {ρ : Res β} {f : (S : Type) → (R : S → MP Hp) → Cap S R → α → M S β} (cp : Cap Z.S Z.R) {x : α} {vs : List V} {s : Z.S} {G B : Hp} {σ : L2.St} {H : Hp} {Q : VK} (hρ : ∀ k c, ρ ≠ .vw k c)
    (st : Sta Z Γ s G B σ H) (hx : ra Z.S Z.R cp x vs G) (q : PostE Z Γ ρ σ Q G (f Z.S Z.R cp x s)) : spC Z.X.mg ra ρ f vs H Q (WE Z.W σ) := by
  refine ⟨Z.S, Z.R, cp, s, G, B, x, st.ok.gh, st.ok.bh, st.ok.dj, st.res, hx, ?_⟩
  revert q
  cases f Z.S Z.R cp x s with
  | ok y s1 =>
    intro q v H' G' B' ok r h
    refine q v H' G' B' ok.g0 (st.call ok r) ?_
    cases ρ with
    | fz r => exact h
    | own c =>
      obtain ⟨A, o, h1, h2, h3, h4, h5, h6⟩ := h
      exact ⟨A, o, h1, h2, h3, h4, h5, st.ok.fresh h6, Same.free st.held h6, st.offP h6⟩
    | vw k c => exact (hρ k c rfl).elim
  | err y s1 => exact fun q cls d H' G' B' ok r h => q cls d σ H' G' B' ok.g0 (st.call ok r).nil h
  | stuck => exact fun q => q
theorem je_call {Cap : CapT} {ra : (S : Type) → (R : S → MP Hp) → Cap S R → α → List V → Hp → Prop} {ρ : Res β} {f : (S : Type) → (R : S → MP Hp) → Cap S R → α → M S β} {n : Str} {k j : Nat} {mk : (γ : Type) → (α → M Z.S γ) → M Z.S γ} (z : ZOk Z) (F : FnC Z.X.prog Z.X.w Z.X.K Z.X.mg Z.X.base n j (spC Z.X.mg ra ρ f))
    (hr : Room k Z.X.A) (cp : Cap Z.S Z.R) (ha : JA Z Γ (e :: es) mk (ra Z.S Z.R cp)) (hg : Gl Z.X n := by rfl) (hj : j ≤ k := by decide) (hρ : ∀ k c, ρ ≠ .vw k c := by intro _ _ h; cases h) (hdb : (n == ("__debug__" : Str)) = false := by decide) (he : starEach (e :: es) Z.X.env = (false, eval e Z.X.env) :: starEach es Z.X.env := by exact star_of rfl) (hpl : (backTo pos (starEach es Z.X.env)).any (·.1) = false := by rfl) :
    JE Z Γ (.Call (.Name n p) (e :: es) [] pos) (mk _ (f Z.S Z.R cp)) ρ := by
  obtain ⟨fa, fd, ps, F1, hm, hk, hb⟩ := F.ex
  obtain ⟨t, ht, hq⟩ := ha.ex
  refine ⟨PE.imp (pe_callS F1 (hr.mono hj) hg hm hk hb (fun σ => passAt z.tk σ) ht hdb he hpl) fun σ H Q ⟨s, G, B, st, q⟩ => ?_⟩
  exact hq st q fun vs H1 x s1 G1 B1 g1 st1 hx q1 => sp_run cp hρ st1 hx q1
/-! ### a def keeps its promise -/
def StartOk (Γ : Ctx) (vs : List V) (G : Hp) : Prop := ∀ (k : Nat) (y : Asn), Γ[k]? = some (some y) → ∃ A v, y = .fz A ∧ vs[k]? = some v ∧ A.p v G
theorem so_nil {vs : List V} {G : Hp} : StartOk [] vs G := fun k y h => by simp at h
theorem so_none {Γ : Ctx} {vs : List V} {G : Hp} (h : StartOk Γ vs.tail G) : StartOk (none :: Γ) vs G := fun k y q => by
  cases k with
  | zero => simp at q
  | succ k =>
    obtain ⟨A, v, h1, h2, h3⟩ := h k y (by simpa using q)
    refine ⟨A, v, h1, ?_, h3⟩
    cases vs with
    | nil => simp at h2
    | cons w vs => simpa using h2
theorem so_some {Γ : Ctx} {A : MP V} {v : V} {vs : List V} {G : Hp} (ha : A.p v G) (h : StartOk Γ vs G) : StartOk (some (.fz A) :: Γ) (v :: vs) G := fun k y q => by
  cases k with
  | zero =>
    have e : Asn.fz A = y := by simpa using q
    exact ⟨A, v, e.symm, rfl, ha⟩
  | succ k =>
    obtain ⟨A', v', h1, h2, h3⟩ := h k y (by simpa using q)
    exact ⟨A', v', h1, by simpa using h2, h3⟩
theorem so_rep {n : Nat} {vs : List V} {G : Hp} : StartOk (List.replicate n none) vs G := fun k y q => by
  rw [List.getElem?_replicate] at q
  split at q
  · cases q
  · cases q
/-- where a def's body runs -/
abbrev ZF (P : Program) (w : World) (K : PySem.W.Frag) (mg : Str → Option Value) (base : Heap) (N : List Str) (qual : Str) (scope : Scope) (f : Addr) (cdv : Value) (A : Around) (outer : List Env) (s : Shared) (H : Hp) (E : XK) (F : Fm) (S : Type) (R : S → MP Hp) : Zc :=
  ⟨cxOf (L2.CX P w) P w K mg base N qual scope f cdv A outer s H E, fun cls d _ H => E cls d H, F, fun _ => none, [], S, R⟩
theorem zf_ok {P : Program} {w : World} {K : PySem.W.Frag} {mg : Str → Option Value} {base : Heap} {N : List Str} {qual : Str} {scope : Scope} {f : Addr} {cdv : Value} {A : Around} {outer : List Env} {s : Shared} {H : Hp} {E : XK} {F : Fm} {S : Type} {R : S → MP Hp} (nd : N.Nodup) :
    ZOk (ZF P w K mg base N qual scope f cdv A outer s H E F S R) := ⟨rfl, passes_of rfl, nd, takes_of rfl rfl rfl rfl⟩
/-- what comes out of a body -/
def Fl.out {S T β : Type} : Fl T Empty β → M S β
  | .rt r => ret r
  | _ => stk
def runF {S T β : Type} (m : M S (Fl T Empty β)) : M S β := bnd m Fl.out
def Fl.outU {S T : Type} : Fl T Empty Unit → M S Unit
  | .rt r => ret r
  | .nx _ => ret ()
  | _ => stk
def runU {S T : Type} (m : M S (Fl T Empty Unit)) : M S Unit := bnd m Fl.outU
theorem start_sta {P : Program} {w : World} {K : PySem.W.Frag} {mg : Str → Option Value} {base : Heap} {N : List Str} {qual : Str} {scope : Scope} {f : Addr} {cdv : Value} {A : Around} {outer : List Env} {s0 : Shared} {H : Hp} {E : XK} {S : Type} {R : S → MP Hp} {s : S} {G B : Hp} {vs : List V} {Γ0 : Ctx}
    (gh : Same G H) (bh : Same B H) (dj : ∀ a o, G a = some o → B a = none) (r : (R s).p B G) (hl : Γ0.length ≤ N.length) (hv : vs.length ≤ N.length) (h : StartOk Γ0 vs G) : Sta (ZF P w K mg base N qual scope f cdv A outer s0 H E ⟨H, G, B⟩ S R) Γ0 s G B (L2.start N vs) H := by
  have sl : (L2.start N vs).length = N.length := by
    unfold L2.start
    rw [List.length_append, List.length_map, List.length_replicate]
    omega
  have at_ : ∀ (k : Nat) (v : V), vs[k]? = some v → (L2.start N vs)[k]? = some (some v) := fun k v e => by
    unfold L2.start
    obtain ⟨h1, h2⟩ := List.getElem?_eq_some_iff.mp e
    rw [List.getElem?_append_left (by rw [List.length_map]; exact h1), List.getElem?_map, e]
    rfl
  refine ⟨Ok.refl (F := ⟨H, G, B⟩) gh bh dj, r, ⟨by rw [sl]; exact hl, fun k A' e => ?_, fun k L e => ?_, fun k j L L' a e => ?_⟩, ⟨Nat.zero_le _, fun k A' e => by simp at e⟩, (fun a o e => by cases e), (fun a o e => by cases e)⟩
  · obtain ⟨A2, v, h1, h2, h3⟩ := h k _ e
    cases h1
    exact ⟨v, at_ k v h2, h3⟩
  · obtain ⟨A2, v, h1, h2, h3⟩ := h k _ e
    cases h1
  · obtain ⟨A2, v, h1, h2, h3⟩ := h k _ e
    cases h1
section
variable {P : Program} {w : World} {K : PySem.W.Frag} {mg : Str → Option Value} {base : Heap} {x qual : Str} {params : Arguments} {body : List Stmt} {scope : Scope} {dvs : List V} {kws : List (Str × V)} {fa : Addr} {fd : FuncData} {N ps : List Str} {k : Nat}
theorem fn_mk {Cap : CapT} {ra : (S : Type) → (R : S → MP Hp) → Cap S R → α → List V → Hp → Prop} {ρ : Res β} {f : (S : Type) → (R : S → MP Hp) → Cap S R → α → M S β} {mb : (S : Type) → (R : S → MP Hp) → Cap S R → α → M S (Fl T Empty β)} {Γ0 : (S : Type) → (R : S → MP Hp) → Cap S R → α → Ctx} {Γ' : T → Ctx} {Γb : Empty → Ctx}
    (F : FunD K x qual params body scope dvs kws fa fd) (S : FnScope N ps scope) (hlen : ∀ S R c x vs G, ra S R c x vs G → vs.length = ps.length) (hf : ∀ S R c x, f S R c x = runF (mb S R c x)) (hΓ : ∀ S R c x vs G, ra S R c x vs G → StartOk (Γ0 S R c x) vs G) (hN : ∀ S R c x, (Γ0 S R c x).length ≤ N.length) (hps : ps.length ≤ N.length)
    (hb : ∀ (cdv : Value) (A : Around) (outer : List Env) (s : Shared) (H : Hp) (E : XK) (Fm : Fm) (S : Type) (R : S → MP Hp) (c : Cap S R) (y : α), Room k (A.deeper (envOfC qual scope s.heap.objs.size fa cdv)) → ZOk (ZF P w K mg base N qual scope fa cdv A outer s H E Fm S R) →
      JB (ZF P w K mg base N qual scope fa cdv A outer s H E Fm S R) (Γ0 S R c y) body (mb S R c y) Γ' Γb ρ) : FnOk P w K mg base (L2.CX P w) (k + 1) fa fd ps (spC mg ra ρ f) := by
  refine F.ok S (fun vs H Q E ⟨S', R, c, s, G, B, y, gh, bh, dj, r, hra, q⟩ => hlen S' R c y vs G hra) fun cdv A outer s0 H vs Q E hr ⟨S', R, c, s, G, B, y, gh, bh, dj, r, hra, q⟩ => ?_
  have z : ZOk (ZF P w K mg base N qual scope fa cdv A outer s0 H E ⟨H, G, B⟩ S' R) := zf_ok S.nd
  refine ⟨_, (hb cdv A outer s0 H E ⟨H, G, B⟩ S' R c y hr z).ps, s, G, B, start_sta gh bh dj r (hN S' R c y) (by rw [hlen S' R c y vs G hra]; exact hps) (hΓ S' R c y vs G hra), ?_⟩
  rw [hf] at q
  have q : PostF mg R ⟨H, G, B⟩ ρ Q E ((mb S' R c y s).bnd Fl.out) := q
  revert q
  cases mb S' R c y s with
  | ok fl s1 =>
    cases fl with
    | rt v =>
      intro q u σ' H' G' B' g st h
      refine q u H' G' B' st.ok st.res ?_
      cases ρ with
      | fz r => exact h
      | own cc =>
        obtain ⟨a, o, h1, h2, h3, h4, h5, h6, _⟩ := h
        exact ⟨a, o, h1, h2, h3, h4, h5, h6⟩
      | vw j cc =>
        obtain ⟨h1, _⟩ := h
        simp at h1
    | nx t => exact fun q => q.elim
    | bk u => exact fun q => q.elim
    | ct u => exact fun q => q.elim
  | err e s1 => exact fun q cls d σ' H' G' B' g st h => q cls d H' G' B' st.ok st.res h
  | stuck => exact fun q => q
theorem fn_mkU {Cap : CapT} {ra : (S : Type) → (R : S → MP Hp) → Cap S R → α → List V → Hp → Prop} {f : (S : Type) → (R : S → MP Hp) → Cap S R → α → M S Unit} {mb : (S : Type) → (R : S → MP Hp) → Cap S R → α → M S (Fl T Empty Unit)} {Γ0 : (S : Type) → (R : S → MP Hp) → Cap S R → α → Ctx} {Γ' : T → Ctx} {Γb : Empty → Ctx}
    (F : FunD K x qual params body scope dvs kws fa fd) (S : FnScope N ps scope) (hlen : ∀ S R c x vs G, ra S R c x vs G → vs.length = ps.length) (hf : ∀ S R c x, f S R c x = runU (mb S R c x)) (hΓ : ∀ S R c x vs G, ra S R c x vs G → StartOk (Γ0 S R c x) vs G) (hN : ∀ S R c x, (Γ0 S R c x).length ≤ N.length) (hps : ps.length ≤ N.length)
    (hb : ∀ (cdv : Value) (A : Around) (outer : List Env) (s : Shared) (H : Hp) (E : XK) (Fm : Fm) (S : Type) (R : S → MP Hp) (c : Cap S R) (y : α), Room k (A.deeper (envOfC qual scope s.heap.objs.size fa cdv)) → ZOk (ZF P w K mg base N qual scope fa cdv A outer s H E Fm S R) →
      JB (ZF P w K mg base N qual scope fa cdv A outer s H E Fm S R) (Γ0 S R c y) body (mb S R c y) Γ' Γb (.fz rU)) : FnOk P w K mg base (L2.CX P w) (k + 1) fa fd ps (spC mg ra (.fz rU) f) := by
  refine F.ok S (fun vs H Q E ⟨S', R, c, s, G, B, y, gh, bh, dj, r, hra, q⟩ => hlen S' R c y vs G hra) fun cdv A outer s0 H vs Q E hr ⟨S', R, c, s, G, B, y, gh, bh, dj, r, hra, q⟩ => ?_
  have z : ZOk (ZF P w K mg base N qual scope fa cdv A outer s0 H E ⟨H, G, B⟩ S' R) := zf_ok S.nd
  refine ⟨_, (hb cdv A outer s0 H E ⟨H, G, B⟩ S' R c y hr z).ps, s, G, B, start_sta gh bh dj r (hN S' R c y) (by rw [hlen S' R c y vs G hra]; exact hps) (hΓ S' R c y vs G hra), ?_⟩
  rw [hf] at q
  have q : PostF mg R ⟨H, G, B⟩ (.fz rU) Q E ((mb S' R c y s).bnd Fl.outU) := q
  revert q
  cases mb S' R c y s with
  | ok fl s1 =>
    cases fl with
    | rt v => exact fun q u σ' H' G' B' g st h => q u H' G' B' st.ok st.res h
    | nx t => exact fun q σ' H' G' B' g st => q .non H' G' B' st.ok st.res rfl
    | bk u => exact fun q => q.elim
    | ct u => exact fun q => q.elim
  | err e s1 => exact fun q cls d σ' H' G' B' g st h => q cls d H' G' B' st.ok st.res h
  | stuck => exact fun q => q
end
/-! ### the bag of draws -/
structure Bag where
  scr : List Int
  at_ : Int
  val : Int
  mix : Int
  cnt : Int
structure BagIn (S : Type) where
  get : S → Bag
  set : S → Bag → S
def rBag (ab : Addr) : Rp Unit := fun _ => ⟨fun v _ => v = .ref ab, fun _ h => h⟩
/-- the resource holds a bag at ab; its numbers at al -/
structure BagR {S : Type} (b : BagIn S) (R : S → MP Hp) (ab al : Addr) : Prop where
  has : ∀ {s : S} {B G : Hp}, (R s).p B G → B ab = some (.lst [.ref al, .int (b.get s).at_, .int (b.get s).val, .int (b.get s).mix, .int (b.get s).cnt]) ∧ B al = some (.lst ((b.get s).scr.map V.int))
  put : ∀ {s : S} {B G : Hp} (i v m n : Int), (R s).p B G → (R (b.set s ⟨(b.get s).scr, i, v, m, n⟩)).p (upd B ab (.lst [.ref al, .int i, .int v, .int m, .int n])) G
structure BagC (S : Type) (R : S → MP Hp) : Type where
  b : BagIn S
  ab : Addr
  al : Addr
  ok : BagR b R ab al
end
end DL
set_option Elab.async false
set_option linter.all false
set_option maxRecDepth 100000
namespace DL
open PySem PySem.Spec PyProof.Rows L2
/-! ### list.remove of a flat thing -/
section
variable {X : Cx}
def rRemV : V → List V → Hp → VK → Prop := fun x vs H Q => ∃ (l : Addr) (ys : List V) (y : V) (j : Nat) (z : V), x = .ref l ∧ vs = [y] ∧ H l = some (.lst ys) ∧ flatV y = true ∧ ys.all flatV = true ∧ ys[j]? = some z ∧ eqV z y = true ∧
  (∀ (m : Nat) (z' : V), m < j → ys[m]? = some z' → eqV z' y = false) ∧ Q .non (upd H l (.lst (ys.eraseIdx j)))
theorem mt_removeV : MtM X "list.remove" rRemV := by
  intro pins s σ H x xs v us Q I rx rxs h
  obtain ⟨l, ys, y, j, z, rfl, rfl, hH, fy, fys, hz, hzj, hno, q⟩ := h
  cases rx
  cases rxs with
  | cons ry rt =>
    rename_i uy ut
    cases rt
    obtain ⟨zl, its, n, r, hl, e⟩ := I.lstM hH
    obtain ⟨u, hu, ru⟩ := r.get hz
    obtain ⟨hjl, hje⟩ := List.getElem?_eq_some_iff.mp hu
    have hvl := r.length
    have hj : j < its.toArray.size := by simpa using hjl
    have hsl := sizeLine_eq
    refine call_meets PySem.F.slot_list_remove ⟨_, e, rfl⟩ PySem.F.entry_list_remove (PySem.F.args_list_remove_2 _ _)
      (PySem.SeqAt.list_removeAt l its.toArray n _ _ uy (eqU y) j hj ?_ ?_ (by rw [List.size_toArray]; omega)) ⟨e, fun u' hu' => mem_eqAt ry fy r fys u' (by simpa using hu'), ?_⟩
    · have e1 : its.toArray[j] = u := by simpa using hje
      rw [e1, eqU_of ru (flat_at fys hz)]
      exact hzj
    · intro m hm hmj
      have hml : m < its.length := by simpa using hm
      have hmy : m < ys.length := by omega
      have hy' : ys[m]? = some ys[m] := List.getElem?_eq_getElem hmy
      obtain ⟨u2, hu2, ru2⟩ := r.get hy'
      obtain ⟨_, hme⟩ := List.getElem?_eq_some_iff.mp hu2
      have e1 : its.toArray[m] = u2 := by simpa using hme
      rw [e1, eqU_of ru2 (flat_at fys hy')]
      exact hno m _ hmj hy'
    · refine ⟨.non, _, I.lset (its' := its.eraseIdx j) (t' := s.toks) hH e ?_ (r.eraseIdx j) ?_, rfl, q⟩
      · show its.toArray.eraseIdxIfInBounds j = (its.eraseIdx j).toArray
        rw [List.eraseIdxIfInBounds_toArray]
      · have z2 := len_erase ys j
        omega
end
section
variable {Z : Zc} {Γ : Ctx} {α β γ T U ρ : Type} {e a b c : Expr} {es : List Expr} {pos p : Pos} {Γ' : T → Ctx} {Γb : U → Ctx} {ρr : Res ρ} {rest : List Stmt}
/-! ### arguments -/
theorem len_raN {x : Unit} {vs : List V} {G : Hp} (h : raN x vs G) : vs.length = 0 := by rw [show vs = [] from h]; rfl
theorem len_raC {r : Rp α} {ra : β → List V → Hp → Prop} {n : Nat} (h : ∀ {x vs G}, ra x vs G → vs.length = n) {x : α × β} {vs : List V} {G : Hp} (q : raC r ra x vs G) : vs.length = n + 1 := by
  obtain ⟨v, ws, rfl, _, h2⟩ := q
  rw [List.length_cons, h h2]
theorem so_raN {n : Nat} {x : Unit} {vs : List V} {G : Hp} (h : raN x vs G) : StartOk (List.replicate n none) vs G := so_rep
theorem so_raC {r : Rp α} {ra : β → List V → Hp → Prop} {Γ0 : Ctx} {x : α × β} {vs : List V} {G : Hp} (h : ∀ {ws}, ra x.2 ws G → StartOk Γ0 ws G) (q : raC r ra x vs G) : StartOk (some (.fz (r x.1)) :: Γ0) vs G := by
  obtain ⟨v, ws, rfl, h1, h2⟩ := q
  exact so_some h1 (h h2)
theorem Room.hu {k : Nat} {A : Around} (r : Room k A) : A.units + 65 < cLine := by have := r.un; omega
/-! ### texts and numbers of the module -/
theorem je_globS {n x : Str} (hg : Gl Z.X n) (hm : ∃ t, Z.X.mg n = some (.str x t)) (hd : (n == ("__debug__" : Str)) = false := by decide) : JE Z Γ (.Name n pos) (ret x) (.fz rS) := by
  obtain ⟨t, hm⟩ := hm
  exact je_glob (v := .str x) hg hm ⟨t, rfl⟩ (fun _ => rfl) hd
theorem je_globI {n : Str} {x : Int} (hg : Gl Z.X n) (hm : ∃ t, Z.X.mg n = some (.int x t)) (hd : (n == ("__debug__" : Str)) = false := by decide) : JE Z Γ (.Name n pos) (ret x) (.fz rI) := by
  obtain ⟨t, hm⟩ := hm
  exact je_glob (v := .int x) hg hm ⟨t, rfl⟩ (fun _ => rfl) hd
/-! ### one sign in a text -/
theorem sign_of {c : Str} {x : Nat} (h : (match c.cps.toList with | [x] => some x | _ => none) = some x) : c = ⟨#[x]⟩ := by
  obtain ⟨⟨l⟩⟩ := c
  match l, h with
  | [y], h => 
    injection h with h
    rw [h]
theorem je_inSg {ma mb : M Z.S Str} (ha : JE Z Γ a ma (.fz rS)) (hb : JE Z Γ b mb (.fz rS)) (hm : behindInMarks .In b = false := by rfl) : JE Z Γ (.Compare a [.In] [b] pos) (bnd ma fun x => bnd mb fun y => inSM x y) (.fz rB) :=
  je_two (fun x y => inSM x y) (.fz rB) (fun _ _ p q => pe_cmpR op_in_sign p q hm) ha hb fun x y v w s G B σ H Q st hv hw q => by
    obtain ⟨c, ec, q⟩ := opt_of q
    exact ⟨c, y, by rw [show v = .str x from hv, sign_of ec], hw, fin q st rfl⟩
theorem jt_inSg {ma mb : M Z.S Str} (ha : JE Z Γ a ma (.fz rS)) (hb : JE Z Γ b mb (.fz rS)) (hm : behindInMarks .In b = false := by rfl) : JT Z Γ (.Compare a [.In] [b] pos) (bnd ma fun x => bnd mb fun y => inSM x y) :=
  jt_two (fun x y => inSM x y) (fun _ _ p q => pt_cmpR op_in_sign p q hm) ha hb fun x y v w s G B σ H Q st hv hw q => by
    obtain ⟨c, ec, q⟩ := opt_of q
    exact ⟨c, y, by rw [show v = .str x from hv, sign_of ec], hw, fin q st rfl⟩
def ninSM {S : Type} (c z : Str) : M S Bool := bnd (opt (match c.cps.toList with | [x] => some x | _ => none)) fun x => ret (!decide (x ∈ z.cps.toList))
theorem je_ninSg {ma mb : M Z.S Str} (ha : JE Z Γ a ma (.fz rS)) (hb : JE Z Γ b mb (.fz rS)) (hm : behindInMarks .NotIn b = false := by rfl) : JE Z Γ (.Compare a [.NotIn] [b] pos) (bnd ma fun x => bnd mb fun y => ninSM x y) (.fz rB) :=
  je_two (fun x y => ninSM x y) (.fz rB) (fun _ _ p q => pe_cmpR op_notIn_sign p q hm) ha hb fun x y v w s G B σ H Q st hv hw q => by
    obtain ⟨c, ec, q⟩ := opt_of q
    exact ⟨c, y, by rw [show v = .str x from hv, sign_of ec], hw, fin q st rfl⟩
theorem jt_ninSg {ma mb : M Z.S Str} (ha : JE Z Γ a ma (.fz rS)) (hb : JE Z Γ b mb (.fz rS)) (hm : behindInMarks .NotIn b = false := by rfl) : JT Z Γ (.Compare a [.NotIn] [b] pos) (bnd ma fun x => bnd mb fun y => ninSM x y) :=
  jt_two (fun x y => ninSM x y) (fun _ _ p q => pt_cmpR op_notIn_sign p q hm) ha hb fun x y v w s G B σ H Q st hv hw q => by
    obtain ⟨c, ec, q⟩ := opt_of q
    exact ⟨c, y, by rw [show v = .str x from hv, sign_of ec], hw, fin q st rfl⟩
/-! ### is None -/
theorem rO_non {r : Rp α} {x : Option α} {v : V} {G : Hp} (nn : ∀ {y : α} {v : V} {G : Hp}, (r y).p v G → v ≠ .non) (h : (rO r x).p v G) : decide (v = .non) = x.isNone := by
  cases x with
  | none => rw [show v = .non from h]; rfl
  | some y => rw [decide_eq_false (nn (show (r y).p v G from h))]; rfl
theorem jt_isN {j : Nat} {p2 : Pos} {r : Rp α} {m : M Z.S (Option α)} (nn : ∀ {y : α} {v : V} {G : Hp}, (r y).p v G → v ≠ .non) (h : JE Z Γ a m (.fz (rO r))) : JT Z Γ (.Compare a [.Is] [.Constant .none j p2] pos) (bnd m fun x => bnd (ret ()) fun _ => ret x.isNone) :=
  jt_two (ρb := rU) (fun x _ => ret x.isNone) (fun _ _ p q => pt_cmpR op_isN p q (nomark _)) h je_non fun x y v w s G B σ H Q st hv hw q => ⟨hw, by rw [rO_non nn hv]; exact fin q st rfl⟩
/-! ### unpacking, remove, reverse -/
theorem jb_unpack {tg : Expr} {r : Rp α} {ks : List Nat} {u : α → Ctx → Ctx} {g : TG} {m : M Z.S α} {f : α → M Z.S (Fl T U ρ)} (he : JE Z Γ e m (.fz r)) (hg : JG Z tg r ks u g) (hr : ∀ v, JB Z (u v Γ) rest (f v) Γ' Γb ρr) (hp : ∀ te, PE Z.X e te → PS Z.X (.Assign [tg] e pos) (tAsg te g)) (hks : ks.all (fun k => decide (k < Γ.length)) = true := by rfl) (hE : ∀ k ∈ ks, NoE Z.E k := by first | exact fun _ _ => NoE.nil | exact NoE.ones rfl) : JB Z Γ (.Assign [tg] e pos :: rest) (bnd m f) Γ' Γb ρr := by
  refine ⟨⟨fun pins s0 σ H D I ⟨s, G, B, sta, q⟩ => ?_⟩⟩
  refine wpAny_execs_cons (thn ((hp _ he.pe).run pins s0 σ H { D with nx := fun σ' H' => ∃ v, (tS Z (u v Γ) (f v) Γ' Γb ρr) D σ' H' } I ?_) fun fl s1 hq => ?_)
  · refine tE.imp (tE_bndB (ρ := .fz r) sta q) ?_
    rintro v H1 ⟨y, s1, G1, B1, g1, st1, hy, q1⟩
    exact hg.go st1 hy (fun k hk => ⟨of_decide_eq_true (List.all_eq_true.mp hks k hk), hE k hk⟩) fun σ' st2 _ => ⟨y, s1, G1, B1, st2, q1⟩
  · cases fl with
    | next =>
      obtain ⟨σ', H', I', v, zz⟩ := hq
      exact (hr v).ps.run pins s1 σ' H' D I' zz
    | ret v => exact hq
    | brk => exact hq
    | cont => exact hq
def remM {S : Type} [DecidableEq α] (xs : List α) (x : α) : M S (List α) := bnd (grd (decide (x ∈ xs))) fun _ => ret (xs.erase x)
theorem rem_all [DecidableEq α] {r : Rp α} (F : FlatR r) {G : Hp} {x : α} {v : V} (hx : (r x).p v G) : ∀ {vs : List V} {xs : List α}, AllP r G vs xs → x ∈ xs → ∃ j z, vs[j]? = some z ∧ eqV z v = true ∧ (∀ (m : Nat) (z' : V), m < j → vs[m]? = some z' → eqV z' v = false) ∧ AllP r G (vs.eraseIdx j) (xs.erase x)
  | _, _, .nil => fun h => by cases h
  | _, _, .cons (a := w) (b := y) (l₁ := ws) (l₂ := ys) h t => fun hm => by
    by_cases e : y = x
    · refine ⟨0, w, rfl, by rw [F.eq h hx, decide_eq_true e], fun m z' hm => by omega, ?_⟩
      rw [e, List.erase_cons_head]
      exact t
    · have hm' : x ∈ ys := by
        rcases List.mem_cons.mp hm with z | z
        · exact absurd z.symm e
        · exact z
      obtain ⟨j, z, h1, h2, h3, h4⟩ := rem_all F hx t hm'
      refine ⟨j + 1, z, by simpa using h1, h2, fun m z' hmj hz => ?_, ?_⟩
      · cases m with
        | zero =>
          have : w = z' := by simpa using hz
          rw [← this, F.eq h hx, decide_eq_false e]
        | succ m => exact h3 m z' (by omega) (by simpa using hz)
      · rw [List.erase_cons_tail (by simpa using e)]
        exact .cons h h4
theorem jb_remove [DecidableEq α] {k : Nat} {n : Str} {pn apos pos2 : Pos} {r : Rp α} (F : FlatR r) {xs : List α} {m : M Z.S α} {f : List α → M Z.S (Fl T U ρ)} (hk : Γ[k]? = some (some (.lv (cL r xs)))) (hn : PE Z.X (.Name n pn) (tVar k)) (he : JE Z Γ e m (.fz r)) (hr : ∀ y, JB Z (Γ.set k (some (.lv (cL r y)))) rest (f y) Γ' Γb ρr)
    (hp : PS Z.X (.Expr (.Call (.Attribute (.Name n pn) "remove" apos) [e] [] pos) pos2) (tDrop (tBM Z.X.K "list" rRemV (tVar k) (tCons (tE Z Γ m (.fz r)) tNil)))) : JB Z Γ (.Expr (.Call (.Attribute (.Name n pn) "remove" apos) [e] [] pos) pos2 :: rest) (bnd m fun x => bnd (remM xs x) f) Γ' Γb ρr := by
  have e1 : (bnd m fun x => bnd (remM xs x) f) = bnd (bnd m fun x => remM xs x) f := by rw [bnd_assoc]
  rw [e1]
  refine jb_chg (m := bnd m fun x => remM xs x) (cc := cL r) hk hp (fun s G B σ H D st p hs q fin => ?_) hr
  obtain ⟨o, ho, ws, rfl, hws⟩ := st.at_ hk hs
  refine ⟨_, hs, .inl ⟨rfl, ws, SqL.of ho⟩, ?_⟩
  rw [bnd_assoc] at q
  refine tE.imp (tE_bndB (ρ := .fz r) st q) ?_
  rintro v H1 ⟨y, s1, G1, B1, g1, st1, hy, q1⟩
  obtain ⟨o1, ho1, ws1, rfl, hws1⟩ := st1.at_ hk hs
  unfold remM at q1
  rw [bnd_assoc] at q1
  obtain ⟨c, q1⟩ := grd_ofB q1
  obtain ⟨j, z, h1, h2, h3, h4⟩ := rem_all F hy hws1 (of_decide_eq_true c)
  refine ⟨p, ws1, v, j, z, rfl, rfl, ho1, F.flat hy, flat_all F hws1, h1, h2, h3, xs.erase y, ?_⟩
  exact fin (xs.erase y) s1 G1 B1 H1 _ g1 st1 ⟨_, rfl, h4⟩ q1
theorem all_rev {r : Rp α} {G : Hp} : ∀ {vs : List V} {xs : List α}, AllP r G vs xs → AllP r G vs.reverse xs.reverse
  | _, _, .nil => .nil
  | _, _, .cons h t => by
    rw [List.reverse_cons, List.reverse_cons]
    exact (all_rev t).append (.cons h .nil)
theorem jb_reverse {k : Nat} {n : Str} {pn apos pos2 : Pos} {r : Rp α} {xs : List α} {f : List α → M Z.S (Fl T U ρ)} (hk : Γ[k]? = some (some (.lv (cL r xs)))) (hn : PE Z.X (.Name n pn) (tVar k)) (hr : ∀ y, JB Z (Γ.set k (some (.lv (cL r y)))) rest (f y) Γ' Γb ρr)
    (hp : PS Z.X (.Expr (.Call (.Attribute (.Name n pn) "reverse" apos) [] [] pos) pos2) (tDrop (tBM0 Z.X.K "list" rReverse (tVar k)))) : JB Z Γ (.Expr (.Call (.Attribute (.Name n pn) "reverse" apos) [] [] pos) pos2 :: rest) (bnd (ret xs.reverse) f) Γ' Γb ρr := by
  refine jb_chg (m := ret xs.reverse) (cc := cL r) hk hp (fun s G B σ H D st p hs q fin => ?_) hr
  obtain ⟨o, ho, ws, rfl, hws⟩ := st.at_ hk hs
  refine ⟨_, hs, .inl ⟨rfl, ws, SqL.of ho⟩, p, ws, rfl, rfl, ho, xs.reverse, ?_⟩
  exact fin xs.reverse s G B H _ (Same.refl _) st ⟨_, rfl, all_rev hws⟩ q
theorem jb_pass {f : M Z.S (Fl T U ρ)} (h : JB Z Γ rest f Γ' Γb ρr) : JB Z Γ (.Pass pos :: rest) f Γ' Γb ρr := by
  refine ⟨⟨fun pins s0 σ H D I ⟨s, G, B, sta, q⟩ => ?_⟩⟩
  refine wpAny_execs_cons (thn (ps_pass.run pins s0 σ H { D with nx := (tS Z Γ f Γ' Γb ρr) D } I ⟨s, G, B, sta, q⟩) fun fl s1 hq => ?_)
  cases fl with
  | next =>
    obtain ⟨σ', H', I', zz⟩ := hq
    exact h.ps.run pins s1 σ' H' D I' zz
  | ret v => exact hq
  | brk => exact hq
  | cont => exact hq
end
end DL
namespace DL
open PySem L2
/-- what is known, by another name -/
theorem jb_cx {Z : Zc} {Γ Γ2 : Ctx} {T U ρ : Type} {sts : List Stmt} {m : M Z.S (Fl T U ρ)} {Γ' : T → Ctx} {Γb : U → Ctx} {ρr : Res ρ} (h : JB Z Γ2 sts m Γ' Γb ρr) (e : Γ = Γ2 := by rfl) : JB Z Γ sts m Γ' Γb ρr := e ▸ h
end DL
namespace DL
open PySem L2
theorem Room.hu1 {k : Nat} {A : Around} (r : Room k A) : A.units + 1 < cLine := by have := r.un; omega
section
variable {Z : Zc} {Γ : Ctx} {α : Type} {a b : Expr} {pos : Pos} [DecidableEq α]
theorem je_inL {r : Rp α} (F : FlatR r) {ma : M Z.S α} {mb : M Z.S (List α)} (ha : JE Z Γ a ma (.fz r)) (hb : JE Z Γ b mb (.fz (rL r))) (hm : behindInMarks .In b = false := by rfl) : JE Z Γ (.Compare a [.In] [b] pos) (bnd ma fun x => bnd mb fun y => ret (decide (x ∈ y))) (.fz rB) :=
  je_two (fun x y => ret (decide (x ∈ y))) (.fz rB) (fun _ _ p q => pe_cmpR op_in_seq p q hm) ha hb fun x y v w s G B σ H Q st hv ⟨p, ws, ew, hp, hws⟩ q =>
    ⟨p, ws, ew, .inl (SqL.of (st.ok.gh _ _ hp)), F.flat hv, flat_all F hws, by rw [in_all F hv hws]; exact fin q st rfl⟩
theorem jt_inL {r : Rp α} (F : FlatR r) {ma : M Z.S α} {mb : M Z.S (List α)} (ha : JE Z Γ a ma (.fz r)) (hb : JE Z Γ b mb (.fz (rL r))) (hm : behindInMarks .In b = false := by rfl) : JT Z Γ (.Compare a [.In] [b] pos) (bnd ma fun x => bnd mb fun y => ret (decide (x ∈ y))) :=
  jt_two (fun x y => ret (decide (x ∈ y))) (fun _ _ p q => pt_cmpR op_in_seq p q hm) ha hb fun x y v w s G B σ H Q st hv ⟨p, ws, ew, hp, hws⟩ q =>
    ⟨p, ws, ew, .inl (SqL.of (st.ok.gh _ _ hp)), F.flat hv, flat_all F hws, by rw [in_all F hv hws]; exact fin q st rfl⟩
theorem je_ninL {r : Rp α} (F : FlatR r) {ma : M Z.S α} {mb : M Z.S (List α)} (ha : JE Z Γ a ma (.fz r)) (hb : JE Z Γ b mb (.fz (rL r))) (hm : behindInMarks .NotIn b = false := by rfl) : JE Z Γ (.Compare a [.NotIn] [b] pos) (bnd ma fun x => bnd mb fun y => ret (!decide (x ∈ y))) (.fz rB) :=
  je_two (fun x y => ret (!decide (x ∈ y))) (.fz rB) (fun _ _ p q => pe_cmpR op_notIn_seq p q hm) ha hb fun x y v w s G B σ H Q st hv ⟨p, ws, ew, hp, hws⟩ q =>
    ⟨p, ws, ew, .inl (SqL.of (st.ok.gh _ _ hp)), F.flat hv, flat_all F hws, by rw [in_all F hv hws]; exact fin q st rfl⟩
theorem jt_ninL {r : Rp α} (F : FlatR r) {ma : M Z.S α} {mb : M Z.S (List α)} (ha : JE Z Γ a ma (.fz r)) (hb : JE Z Γ b mb (.fz (rL r))) (hm : behindInMarks .NotIn b = false := by rfl) : JT Z Γ (.Compare a [.NotIn] [b] pos) (bnd ma fun x => bnd mb fun y => ret (!decide (x ∈ y))) :=
  jt_two (fun x y => ret (!decide (x ∈ y))) (fun _ _ p q => pt_cmpR op_notIn_seq p q hm) ha hb fun x y v w s G B σ H Q st hv ⟨p, ws, ew, hp, hws⟩ q =>
    ⟨p, ws, ew, .inl (SqL.of (st.ok.gh _ _ hp)), F.flat hv, flat_all F hws, by rw [in_all F hv hws]; exact fin q st rfl⟩
end
end DL
namespace DL
theorem ret_bnd {S α β : Type} (a : α) (f : α → M S β) : bnd (ret a) f = f a := funext fun s => by
  unfold bnd ret
  exact rfl
end DL
set_option Elab.async false
set_option linter.all false
set_option maxRecDepth 100000
namespace DL
open PySem PySem.Spec PyProof.Rows L2
/-! ### what is never reached -/
section
variable {Z : Zc} {Γ : Ctx} {α β γ T U ρ : Type} {e a b c : Expr} {es : List Expr} {pos p : Pos} {Γ' : T → Ctx} {Γb : U → Ctx} {ρr : Res ρ} {rest : List Stmt}
theorem je_stk {r : Res α} : JE Z Γ e (stk : M Z.S α) r := ⟨⟨fun pins s σ H Q I ⟨s0, G, B, st, q⟩ => q.elim⟩⟩
theorem js_stk {st : Stmt} : JS Z Γ st (stk : M Z.S (Fl T U ρ)) Γ' Γb ρr := ⟨⟨fun pins s σ H D I ⟨s0, G, B, st, q⟩ => q.elim⟩⟩
theorem jb_stk {sts : List Stmt} : JB Z Γ sts (stk : M Z.S (Fl T U ρ)) Γ' Γb ρr := ⟨⟨fun pins s σ H D I ⟨s0, G, B, st, q⟩ => q.elim⟩⟩
end
/-! ### instances: attributes -/
def FP (G : Hp) : List (Str × V) → List (Str × MP V) → Prop := Paired fun v f => v.1 = f.1 ∧ f.2.p v.2 G
theorem FP.mono {G G' : Hp} (e : Same G G') : ∀ {vs : List (Str × V)} {fs : List (Str × MP V)}, FP G vs fs → FP G' vs fs
  | _, _, .nil => .nil
  | _, _, .cons h t => .cons ⟨h.1, (MP.mono _) e h.2⟩ (FP.mono e t)
theorem FP.get {G : Hp} {f : Str} {A : MP V} : ∀ {vs : List (Str × V)} {fs : List (Str × MP V)}, FP G vs fs → fs.lookup f = some A → ∃ v, vs.lookup f = some v ∧ A.p v G
  | _, _, .nil => fun h => by cases h
  | (n, v) :: vs, (m, B) :: fs, .cons h t => fun q => by
    have e : n = m := h.1
    subst e
    rw [List.lookup_cons] at q ⊢
    cases hb : f == n with
    | true =>
      rw [hb] at q
      injection q with q
      subst q
      exact ⟨v, rfl, h.2⟩
    | false =>
      rw [hb] at q
      exact FP.get t q
def putM (f : Str) (A : MP V) : List (Str × MP V) → List (Str × MP V)
  | [] => [(f, A)]
  | (g, x) :: r => if g = f then (g, A) :: r else (g, x) :: putM f A r
theorem FP.put {G : Hp} {f : Str} {A : MP V} {v : V} (q : A.p v G) : ∀ {vs : List (Str × V)} {fs : List (Str × MP V)}, FP G vs fs → FP G (putF f v vs) (putM f A fs)
  | _, _, .nil => .cons ⟨rfl, q⟩ .nil
  | (n, w) :: vs, (m, B) :: fs, .cons h t => by
    have e : n = m := h.1
    subst e
    show FP G (if n = f then (n, v) :: vs else (n, w) :: putF f v vs) (if n = f then (n, A) :: fs else (n, B) :: putM f A fs)
    by_cases e : n = f
    · rw [if_pos e, if_pos e]
      exact .cons ⟨rfl, q⟩ t
    · rw [if_neg e, if_neg e]
      exact .cons h (FP.put q t)
/-- an instance that stands still -/
def rObj {α : Type} (C : Addr) (fs : α → List (Str × MP V)) : Rp α := fun x => ⟨fun v G => ∃ a dx vs, v = .ref a ∧ G a = some (.ins C dx vs) ∧ FP G vs (fs x), fun e ⟨a, dx, vs, h1, h2, h3⟩ => ⟨a, dx, vs, h1, e _ _ h2, h3.mono e⟩⟩
/-- an instance that may change -/
def cObj {α : Type} (C dx : Addr) (fs : α → List (Str × MP V)) : α → MP HO := fun x => ⟨fun o G => ∃ vs, o = .ins C dx vs ∧ FP G vs (fs x), fun e ⟨vs, h1, h2⟩ => ⟨vs, h1, h2.mono e⟩⟩
section
variable {Z : Zc} {Γ : Ctx} {α β γ T U ρ : Type} {e a b c : Expr} {es : List Expr} {pos p : Pos} {Γ' : T → Ctx} {Γb : U → Ctx} {ρr : Res ρ} {rest : List Stmt}
theorem je_fld {C : Addr} {fs : α → List (Str × MP V)} {f : Str} {r : Rp β} {g : α → β} {m : M Z.S α} (cl : Cls Z.X.K C) (na : NoAttr Z.X.K C f) (h : JE Z Γ e m (.fz (rObj C fs))) (hl : ∀ x, (fs x).lookup f = some (r (g x)) := by intro _; rfl) (hb : attributeBase e f Z.X.env (eval e Z.X.env) = eval e Z.X.env := by rfl) :
    JE Z Γ (.Attribute e f pos) (bnd m fun x => ret (g x)) (.fz r) :=
  je_one (t' := fun t => tFld Z.X.K t f) (fun x => ret (g x)) (.fz r) (fun _ p => pe_fld p hb) (fun _ _ _ _ => rfl) h fun x v s G B σ H Q st hv q => by
    obtain ⟨a, dx, vs, rfl, ha, hp⟩ := hv
    obtain ⟨u, hu, hr⟩ := hp.get (hl x)
    exact ⟨a, C, dx, vs, u, rfl, st.ok.gh _ _ ha, cl, na, hu, fin q st hr⟩
/-- self.f = e, self a thing of one's own -/
theorem jb_fset {k : Nat} {n : Str} {pn pa : Pos} {C dx : Addr} {fs : List (Str × MP V)} {f : Str} {r : Rp α} {m : M Z.S α} {g : α → M Z.S (Fl T U ρ)} (cl : Cls Z.X.K C) (na : NoAttr Z.X.K C f) (hk : Γ[k]? = some (some (.lv (cObj C dx (fun fs => fs) fs)))) (hn : PE Z.X (.Name n pn) (tVar k)) (he : JE Z Γ e m (.fz r))
    (hr : ∀ y, JB Z (Γ.set k (some (.lv (cObj C dx (fun fs => fs) (putM f (r y) fs))))) rest (g y) Γ' Γb ρr) (hlen : decide (fs.length < 1000) = true := by rfl) (hs : swapsWith e (some (.Attribute (.Name n pn) f pa)) pos.line Z.X.env = pure false := by rfl) :
    JB Z Γ (.Assign [.Attribute (.Name n pn) f pa] e pos :: rest) (bnd m g) Γ' Γb ρr := by
  refine jb_chg (cc := fun y => cObj C dx (fun fs => fs) (putM f (r y) fs)) hk (ps_fld hn he.pe hs) (fun s G B σ H D st p hp q fin => ?_) hr
  refine tE.imp (tE_bndB (ρ := .fz r) st q) ?_
  rintro v H1 ⟨y, s1, G1, B1, g1, st1, hy, q1⟩
  obtain ⟨o1, ho1, vs, rfl, hv⟩ := st1.at_ hk hp
  have hl : vs.length = fs.length := Paired.length hv
  refine ⟨_, hp, p, C, dx, vs, rfl, ho1, cl, na, by rw [hl]; exact of_decide_eq_true hlen, y, ?_⟩
  exact fin y s1 G1 B1 H1 _ g1 st1 ⟨_, rfl, hv.put hy⟩ q1
end
/-! ### a class's __init__ -/
def rSelf (a : Addr) : MP V := ⟨fun v _ => v = .ref a, fun _ h => h⟩
/-- where an __init__ runs: self stays self -/
abbrev ZFI (P : Program) (w : World) (K : PySem.W.Frag) (mg : Str → Option Value) (base : Heap) (N : List Str) (qual : Str) (scope : Scope) (f : Addr) (cdv : Value) (A : Around) (outer : List Env) (s : Shared) (H : Hp) (E : XK) (F : Fm) (S : Type) (R : S → MP Hp) (a : Addr) : Zc :=
  ⟨cxOf (L2.CX P w) P w K mg base N qual scope f cdv A outer s H E, fun cls d _ H => E cls d H, F, fun _ => none, [some (rSelf a)], S, R⟩
theorem zfi_ok {P : Program} {w : World} {K : PySem.W.Frag} {mg : Str → Option Value} {base : Heap} {N : List Str} {qual : Str} {scope : Scope} {f : Addr} {cdv : Value} {A : Around} {outer : List Env} {s : Shared} {H : Hp} {E : XK} {F : Fm} {S : Type} {R : S → MP Hp} {a : Addr} (nd : N.Nodup) :
    ZOk (ZFI P w K mg base N qual scope f cdv A outer s H E F S R a) := ⟨rfl, passes_of rfl, nd, takes_of rfl rfl rfl rfl⟩
def rem (H : Hp) (a : Addr) : Hp := fun b => if b = a then none else H b
theorem rem_some {H : Hp} {a b : Addr} {o : HO} (h : rem H a b = some o) : b ≠ a ∧ H b = some o := by
  unfold rem at h
  by_cases e : b = a
  · rw [if_pos e] at h
    cases h
  · rw [if_neg e] at h
    exact ⟨e, h⟩
theorem rem_self {H : Hp} {a : Addr} : rem H a a = none := if_pos rfl
/-- the very instance at a, still -/
def rObjAt {α : Type} (a C : Addr) (fs : α → List (Str × MP V)) : Rp α := fun x => ⟨fun v G => v = .ref a ∧ ∃ dx vs, G a = some (.ins C dx vs) ∧ FP G vs (fs x), fun e ⟨h1, dx, vs, h2, h3⟩ => ⟨h1, dx, vs, e _ _ h2, h3.mono e⟩⟩
def PostM (mg : Str → Option Value) {S β : Type} (R : S → MP Hp) (F : Fm) (a C : Addr) (fs : β → List (Str × MP V)) (Q : VK) (E : XK) : Out S β → Prop
  | .ok x s' => ∀ H' G' B', Ok F G' B' H' → (R s').p B' G' → (rObjAt a C fs x).p (.ref a) G' → Q .non H'
  | .err e s' => ∀ cls d H' G' B', Ok F G' B' H' → (R s').p B' G' → errIs mg e cls d H' → E cls d H'
  | .stuck => False
def spI (mg : Str → Option Value) {Cap : CapT} {α β : Type} (C : Addr) (ra : (S : Type) → (R : S → MP Hp) → Cap S R → α → List V → Hp → Prop) (fs : β → List (Str × MP V)) (f : (S : Type) → (R : S → MP Hp) → Cap S R → α → M S β) : Sp := fun vs H Q E =>
  ∃ (S : Type) (R : S → MP Hp) (c : Cap S R) (s : S) (G B : Hp) (x : α) (a dx : Addr) (ws : List V), vs = .ref a :: ws ∧ H a = some (.ins C dx []) ∧ G a = none ∧ B a = none ∧ Same G H ∧ Same B H ∧ (∀ a o, G a = some o → B a = none) ∧ (R s).p B G ∧ ra S R c x ws G ∧ PostM mg R ⟨rem H a, G, B⟩ a C fs Q E (f S R c x s)
def Fl.outI {S β ρ : Type} : Fl β Empty ρ → M S β
  | .nx t => ret t
  | _ => stk
def runI {S β ρ : Type} (m : M S (Fl β Empty ρ)) : M S β := bnd m Fl.outI
section
variable {α β : Type} {P : Program} {w : World} {K : PySem.W.Frag} {mg : Str → Option Value} {base : Heap} {x qual : Str} {params : Arguments} {body : List Stmt} {scope : Scope} {dvs : List V} {kws : List (Str × V)} {fa : Addr} {fd : FuncData} {N ps : List Str} {k : Nat}
theorem fn_mkI {Cap : CapT} {C : Addr} {ra : (S : Type) → (R : S → MP Hp) → Cap S R → α → List V → Hp → Prop} {fs : β → List (Str × MP V)} {f : (S : Type) → (R : S → MP Hp) → Cap S R → α → M S β} {mb : (S : Type) → (R : S → MP Hp) → Cap S R → α → M S (Fl β Empty Unit)} {Γ0 : (S : Type) → (R : S → MP Hp) → Cap S R → α → Ctx} {Γb : Empty → Ctx}
    (F : FunD K x qual params body scope dvs kws fa fd) (S : FnScope N ps scope) (hlen : ∀ S R c x vs G, ra S R c x vs G → vs.length + 1 = ps.length) (hf : ∀ S R c x, f S R c x = runI (mb S R c x)) (hΓ : ∀ S R c x vs G, ra S R c x vs G → StartOk (Γ0 S R c x) vs G) (hN : ∀ S R c x, (Γ0 S R c x).length + 1 ≤ N.length) (hps : ps.length ≤ N.length)
    (hb : ∀ (cdv : Value) (A : Around) (outer : List Env) (s : Shared) (H : Hp) (E : XK) (Fm : Fm) (S : Type) (R : S → MP Hp) (c : Cap S R) (y : α) (a dx : Addr), Room k (A.deeper (envOfC qual scope s.heap.objs.size fa cdv)) → ZOk (ZFI P w K mg base N qual scope fa cdv A outer s H E Fm S R a) →
      JB (ZFI P w K mg base N qual scope fa cdv A outer s H E Fm S R a) (some (.lv (cObj C dx (fun fs => fs) [])) :: Γ0 S R c y) body (mb S R c y) (fun t => [some (.lv (cObj C dx (fun fs => fs) (fs t)))]) Γb (.fz rU)) : FnOk P w K mg base (L2.CX P w) (k + 1) fa fd ps (spI mg C ra fs f) := by
  refine F.ok S (fun vs H Q E ⟨S', R, c, s, G, B, y, a, dx, ws, ev, ha, ga, ba, gh, bh, dj, r, hra, q⟩ => by rw [ev, List.length_cons]; exact hlen S' R c y ws G hra) fun cdv A outer s0 H vs Q E hr ⟨S', R, c, s, G, B, y, a, dx, ws, ev, ha, ga, ba, gh, bh, dj, r, hra, q⟩ => ?_
  subst ev
  have z : ZOk (ZFI P w K mg base N qual scope fa cdv A outer s0 H E ⟨rem H a, G, B⟩ S' R a) := zfi_ok S.nd
  have hl1 := hlen S' R c y ws G hra
  have sl : (L2.start N (V.ref a :: ws)).length = N.length := by
    unfold L2.start
    rw [List.length_append, List.length_map, List.length_replicate, List.length_cons]
    omega
  have at_ : ∀ (k : Nat) (v : V), (V.ref a :: ws)[k]? = some v → (L2.start N (V.ref a :: ws))[k]? = some (some v) := fun k v e => by
    unfold L2.start
    obtain ⟨h1, h2⟩ := List.getElem?_eq_some_iff.mp e
    rw [List.getElem?_append_left (by rw [List.length_map]; exact h1), List.getElem?_map, e]
    rfl
  have st : Sta (ZFI P w K mg base N qual scope fa cdv A outer s0 H E ⟨rem H a, G, B⟩ S' R a) (some (.lv (cObj C dx (fun fs => fs) [])) :: Γ0 S' R c y) s G B (L2.start N (V.ref a :: ws)) H := by
    have so := hΓ S' R c y ws G hra
    refine ⟨⟨gh, bh, dj, Same.refl _, fun b o e => ⟨o, (rem_some e).2⟩, fun b o e _ => (rem_some e).2, fun b o e g _ => g, fun b o e g => g⟩, r, ⟨?_, fun k A' e => ?_, fun k L e => ?_, fun k j L L' b e1 e2 q1 q2 => ?_⟩, ⟨?_, fun k A' e => ?_⟩, (fun a o e => by cases e), (fun a o e => by cases e)⟩
    · rw [sl, List.length_cons]
      exact hN S' R c y
    · cases k with
      | zero => simp at e
      | succ k =>
        obtain ⟨A2, v, h1, h2, h3⟩ := so k _ (by simpa using e)
        cases h1
        exact ⟨v, at_ (k + 1) v (by simpa using h2), h3⟩
    · cases k with
      | zero =>
        have e : Asn.lv (cObj C dx (fun fs => fs) []) = Asn.lv L := by simpa using e
        injection e with e
        subst e
        exact ⟨a, _, at_ 0 _ rfl, ha, ⟨[], rfl, .nil⟩, ga, ba, rem_self, rfl⟩
      | succ k =>
        obtain ⟨A2, v, h1, h2, h3⟩ := so k _ (by simpa using e)
        cases h1
    · cases k with
      | zero =>
        cases j with
        | zero => rfl
        | succ j =>
          obtain ⟨A2, v, h1, h2, h3⟩ := so j _ (by simpa using e2)
          cases h1
      | succ k =>
        obtain ⟨A2, v, h1, h2, h3⟩ := so k _ (by simpa using e1)
        cases h1
    · rw [sl]
      show 1 ≤ N.length
      omega
    · cases k with
      | zero =>
        have e : rSelf a = A' := by simpa using e
        subst e
        exact ⟨_, at_ 0 _ rfl, rfl⟩
      | succ k => simp at e
  refine ⟨_, (hb cdv A outer s0 H E ⟨rem H a, G, B⟩ S' R c y a dx hr z).ps, s, G, B, st, ?_⟩
  rw [hf] at q
  have q : PostM mg R ⟨rem H a, G, B⟩ a C fs Q E ((mb S' R c y s).bnd Fl.outI) := q
  revert q
  cases mb S' R c y s with
  | ok fl s1 =>
    cases fl with
    | nx t =>
      intro q σ' H' G' B' g st'
      obtain ⟨b, o, h1, h2, h3, h4, h5, h6, _⟩ := st'.sl.lv 0 _ rfl
      obtain ⟨v, k1, k2⟩ := st'.sle.2 0 _ rfl
      have k2 : v = .ref a := k2
      rw [h1, k2] at k1
      injection k1 with k1
      injection k1 with k1
      injection k1 with k1
      subst k1
      have gg := Same.upd_new (o := o) h4
      obtain ⟨vs, rfl, hv⟩ := h3
      exact q H' (upd G' _ _) B' (st'.ok.still h2 h4 h5 rem_self) ((R s1).mono gg st'.res) ⟨rfl, dx, vs, upd_same, hv.mono gg⟩
    | rt v => exact fun q => q.elim
    | bk u => exact fun q => q.elim
    | ct u => exact fun q => q.elim
  | err e s1 => exact fun q cls d σ' H' G' B' g st h => q cls d H' G' B' st.ok st.res h
  | stuck => exact fun q => q
end
end DL
set_option Elab.async false
set_option linter.all false
set_option maxRecDepth 100000
set_option maxHeartbeats 4000000
namespace DL
open PySem PySem.Spec PyProof.Rows L2
/-! ### a draw -/
def absI (i : Int) : Int := if i < 0 then -i else i
def drawA (b : Bag) : Int × Int × Int := if b.val = 0 ∧ b.at_ < b.scr.length then
    (b.at_ + 1, (2 * absI (b.scr.getD b.at_.toNat 0) + (if b.scr.getD b.at_.toNat 0 < 0 then 1 else 0)) * (if 10 ^ 18 ≤ absI (b.scr.getD b.at_.toNat 0) then 1 else 0), (b.mix * 48271 + b.scr.getD b.at_.toNat 0 * 69621 + 11) % 2147483647)
  else (b.at_, b.val, b.mix)
def drawX (m c : Int) : Int := (((m + c * 40692) % 2147483647) ^ 3 + c * 16807 + 7) % 2147483629
def drawB (b : Bag) (n : Int) : Int × Bag := if 0 < (drawA b).2.1 then ((drawA b).2.1 % n, ⟨b.scr, (drawA b).1, (drawA b).2.1 / n, (drawA b).2.2, b.cnt + 1⟩)
  else ((drawX (drawA b).2.2 (b.cnt + 1)) ^ 2 % 2147483587 / 8 % n, ⟨b.scr, (drawA b).1, (drawA b).2.1, (drawA b).2.2, b.cnt + 1⟩)
def drawM {S : Type} (b : BagIn S) (n : Int) : M S Int := fun s => if 0 < n ∧ n < 1073741824 ∧ 0 ≤ (b.get s).at_ then .ok (drawB (b.get s) n).1 (b.set s (drawB (b.get s) n).2) else .stuck
theorem b01 (b : Bool) : -(2 ^ 64) < (if b = true then (1 : Int) else 0) ∧ (if b = true then (1 : Int) else 0) < 2 ^ 64 := by
  cases b <;> decide
theorem atI_pos {α : Type} {xs : List α} {i : Int} {d : α} (h0 : 0 ≤ i) (h1 : i < xs.length) : atI xs i = some (xs.getD i.toNat d) := by
  obtain ⟨n, rfl⟩ := Int.eq_ofNat_of_zero_le h0
  have hn : n < xs.length := by omega
  have e : xs[n]? = some (xs.getD n d) := by simp [List.getD, hn]
  exact atI_nat e
end DL
namespace Lw
open PySem PySem.Spec PyProof.Rows L2 DL
def top (i : Nat) : Stmt := PySem.Challenge.pw_imagefeeds_k12_written_and_dropped.main.body.getD i (.Pass ⟨0, 0, 0, 0⟩)
abbrev sDraw : Stmt := top 22
abbrev FnP (K : PySem.W.Frag) (x qual : Str) (st : Stmt) (dvs : List V) (kws : List (Str × V)) (f : Addr) (fd : FuncData) : Prop := FunD K x qual (defArgs st) (defBody st) (defScope st) dvs kws f fd
abbrev raDraw (S : Type) (R : S → MP Hp) (c : BagC S R) : Unit × Int × Unit → List V → Hp → Prop := raC (rBag c.ab) (raC rI raN)
abbrev fDraw (S : Type) (R : S → MP Hp) (c : BagC S R) (x : Unit × Int × Unit) : M S Int := drawM c.b x.2.1
section
variable {P : Program} {w : World} {K : PySem.W.Frag} {mg : Str → Option Value} {base : Heap}
theorem scDraw : FnScope ["_law_bag_here", "_law_size_here", "_law_cell", "_law_digit", "_law_mixed"] ["_law_bag_here", "_law_size_here"] (defScope sDraw) := ⟨rfl, rfl, rfl, by decide +kernel, rfl, by decide +kernel, by decide +kernel⟩
theorem ok_draw {f : Addr} {fd : FuncData} (F : FnP K "_law_draw" "_law_draw" sDraw [] [] f fd) (gl : mg "len" = none) (ga : mg "abs" = none) (gi : mg "int" = none) : FnOk P w K mg base (L2.CX P w) 1 f fd ["_law_bag_here", "_law_size_here"] (spC mg raDraw (.fz rI) fDraw) := by
  refine F.ok scDraw (fun vs H Q E ⟨S, R, c, s, G, B, x, gh, bh, dj, r, hra, q⟩ => ?_) (fun cdv A outer s0 H vs Q E hr ⟨S, R, c, s, G, B, x, gh, bh, dj, r, hra, q⟩ => ?_)
  · obtain ⟨v, u, rfl, h1, h2⟩ := ra2 hra
    rfl
  · obtain ⟨v, u, rfl, h1, h2⟩ := ra2 hra
    obtain ⟨_, n, _⟩ := x
    have h1 : v = .ref c.ab := h1
    have h2 : u = .int n := h2
    subst h1 h2
    obtain ⟨hab, hal⟩ := c.ok.has r
    obtain ⟨bg, eb⟩ : ∃ bg, c.b.get s = bg := ⟨_, rfl⟩
    rw [eb] at hab hal
    have q : PostF mg R ⟨H, G, B⟩ (.fz rI) Q E (if 0 < n ∧ n < 1073741824 ∧ 0 ≤ (c.b.get s).at_ then .ok (drawB (c.b.get s) n).1 (c.b.set s (drawB (c.b.get s) n).2) else .stuck) := q
    rw [eb] at q
    by_cases hc : 0 < n ∧ n < 1073741824 ∧ 0 ≤ bg.at_
    case neg =>
      rw [if_neg hc] at q
      exact q.elim
    rw [if_pos hc] at q
    obtain ⟨hn, hn2, ha0⟩ := hc
    have hH : H c.ab = some (.lst [.ref c.al, .int bg.at_, .int bg.val, .int bg.mix, .int bg.cnt]) := bh _ _ hab
    have hL : H c.al = some (.lst (bg.scr.map V.int)) := bh _ _ hal
    have ne : c.al ≠ c.ab := fun z => by
      rw [z, hH] at hL
      injection hL with hL
      injection hL with hL
      cases hs : bg.scr with
      | nil => rw [hs] at hL; cases hL
      | cons y ys =>
        rw [hs] at hL
        injection hL with h1 h2
        cases h1
    -- what is behind every way
    have fin : ∀ (d : Int) (i v m k : Int), drawB bg n = (d, ⟨bg.scr, i, v, m, k⟩) → Q (.int d) (upd H c.ab (.lst [.ref c.al, .int i, .int v, .int m, .int k])) := by
      intro d i v m k e
      rw [e] at q
      have pr := c.ok.put i v m k r
      rw [eb] at pr
      refine q _ _ G (upd B c.ab (.lst [.ref c.al, .int i, .int v, .int m, .int k])) ?_ pr rfl
      have gn : G c.ab = none := by
        cases e2 : G c.ab with
        | none => rfl
        | some o =>
          have z := dj _ _ e2
          rw [hab] at z
          cases z
      refine ⟨Same.upd_r gh gn, Same.upd2 bh, fun a o e2 => ?_, Same.refl _, fun a o e2 => ?_, fun a o e2 e3 => ?_, fun a o _ e3 _ => e3, fun a o e2 e3 => ?_⟩
      · rw [upd_ne (ne_of_none e2 gn)]
        exact dj a o e2
      · by_cases z : a = c.ab
        · exact ⟨_, by rw [z]; exact upd_same⟩
        · exact ⟨o, by rw [upd_ne z]; exact e2⟩
      · have z : a ≠ c.ab := fun z => by
          have e3 : B a = none := e3
          rw [z, hab] at e3
          cases e3
        rw [upd_ne z]
        exact e2
      · have z : a ≠ c.ab := fun z => by
          have e3 : B a = none := e3
          rw [z, hab] at e3
          cases e3
        rw [upd_ne z]
        exact e3
    have nd := scDraw.nd
    refine ⟨_, pss_cons (ps_asg (pe_op op_add (pe_ix ix_list (pv 0) pe_int (fun _ _ => rfl)) pe_int) (pg_sub (pv 0) pe_int set_list))
      (C8.pss_cut (ps_if (PW.pt (pw_and (pt_cmpR op_eq (pe_ix ix_list (pv 0) pe_int (fun _ _ => rfl)) pe_int (nomark _)) (pw_and1 (pt_cmpR op_lt (pe_ix ix_list (pv 0) pe_int (fun _ _ => rfl)) (pe_callB call_len_seq (by rfl) gl boot_len (pa_cons (pe_ix ix_list (pv 0) pe_int (fun _ _ => rfl)) pa_nil)) (nomark _)))))
        (pss_cons (ps_set (i := 2) nd rfl (.inl rfl) (pe_ix ix_list (pe_ix ix_list (pv 0) pe_int (fun _ _ => rfl)) (pe_ix ix_list (pv 0) pe_int (fun _ _ => rfl)) (fun _ _ => rfl)))
        (pss_cons (ps_asg (pe_op op_add (pe_ix ix_list (pv 0) pe_int (fun _ _ => rfl)) pe_int) (pg_sub (pv 0) pe_int set_list))
        (pss_cons (ps_asg (pe_op op_mul (pe_op op_add (pe_op op_mul pe_int (pe_callB call_abs (by rfl) ga (by decide +kernel) (pa_cons (pv 2) pa_nil))) (pe_callTy call_int1 (by rfl) gi (by decide +kernel) (pa_cons (pe_cmpR op_lt (pv 2) pe_int (nomark _)) pa_nil)))
          (pe_callTy call_int1 (by rfl) gi (by decide +kernel) (pa_cons (pe_cmpR op_ge (pe_callB call_abs (by rfl) ga (by decide +kernel) (pa_cons (pv 2) pa_nil)) (pe_op op_pow pe_int pe_int) (nomark _)) pa_nil))) (pg_sub (pv 0) pe_int set_list))
        (pss_one (ps_asg (pe_op op_mod (pe_callTy call_int1 (by rfl) gi (by decide +kernel) (pa_cons (pe_op op_add (pe_op op_add (pe_op op_mul (pe_ix ix_list (pv 0) pe_int (fun _ _ => rfl)) pe_int) (pe_op op_mul (pv 2) pe_int)) pe_int) pa_nil)) pe_int) (pg_sub (pv 0) pe_int set_list))))))
        pss_nil)
      (pss_cons (ps_set (i := 3) nd rfl (.inl rfl) (pe_op op_mod (pe_callTy call_int1 (by rfl) gi (by decide +kernel) (pa_cons (pe_ix ix_list (pv 0) pe_int (fun _ _ => rfl)) pa_nil)) (pv 1)))
      (pss_cons (ps_if (pt_cmpR op_gt (pe_ix ix_list (pv 0) pe_int (fun _ _ => rfl)) pe_int (nomark _))
        (pss_cons (ps_asg (pe_op op_fdiv (pe_ix ix_list (pv 0) pe_int (fun _ _ => rfl)) (pv 1)) (pg_sub (pv 0) pe_int set_list)) (pss_one (ps_ret (pv 3)))) pss_nil)
      (pss_cons (ps_set (i := 4) nd rfl (.inl rfl) (pe_op op_mod (pe_callTy call_int1 (by rfl) gi (by decide +kernel) (pa_cons (pe_op op_add (pe_ix ix_list (pv 0) pe_int (fun _ _ => rfl)) (pe_op op_mul (pe_ix ix_list (pv 0) pe_int (fun _ _ => rfl)) pe_int)) pa_nil)) pe_int))
      (pss_cons (ps_set (i := 4) nd rfl (.inl rfl) (pe_op op_mod (pe_callTy call_int1 (by rfl) gi (by decide +kernel) (pa_cons (pe_op op_add (pe_op op_add (pe_op op_pow (pv 4) pe_int) (pe_op op_mul (pe_ix ix_list (pv 0) pe_int (fun _ _ => rfl)) pe_int)) pe_int) pa_nil)) pe_int))
      (pss_one (ps_ret (pe_op op_mod (pe_op op_fdiv (pe_op op_mod (pe_callTy call_int1 (by rfl) gi (by decide +kernel) (pa_cons (pe_op op_pow (pv 4) pe_int) pa_nil)) pe_int) pe_int) (pv 1))))))))), ?_⟩
    have a4 : ∀ (i v m k : Int), atI [V.ref c.al, .int i, .int v, .int m, .int k] 4 = some (.int k) := fun _ _ _ _ => rfl
    refine ⟨_, rfl, c.ab, _, 4, _, rfl, rfl, SqL.of hH, rfl, _, _, rfl, rfl, _, rfl, c.ab, _, 4, 4, rfl, rfl, hH, rfl, ?_⟩
    refine ⟨fun σ' H' => ∃ (i v m : Int) (cl : Option V), drawA bg = (i, v, m) ∧ σ' = [some (.ref c.ab), some (.int n), cl, none, none] ∧ H' = upd H c.ab (.lst [.ref c.al, .int i, .int v, .int m, .int (bg.cnt + 1)]), ?_, ?_⟩
    · have hH1 : (upd H c.ab (.lst [.ref c.al, .int bg.at_, .int bg.val, .int bg.mix, .int (bg.cnt + 1)])) c.ab = some (.lst [.ref c.al, .int bg.at_, .int bg.val, .int bg.mix, .int (bg.cnt + 1)]) := upd_same
      have hL1 : (upd H c.ab (.lst [.ref c.al, .int bg.at_, .int bg.val, .int bg.mix, .int (bg.cnt + 1)])) c.al = some (.lst (bg.scr.map V.int)) := by rw [upd_ne ne]; exact hL
      refine ⟨_, rfl, c.ab, _, 2, _, rfl, rfl, SqL.of hH1, rfl, rfl, _, rfl, ?_⟩
      rw [dec_int']
      by_cases hv : bg.val = 0
      · rw [decide_eq_true hv]
        refine iteT ?_
        refine ⟨_, rfl, c.ab, _, 1, _, rfl, rfl, SqL.of hH1, rfl, _, rfl, c.ab, _, 0, _, rfl, rfl, SqL.of hH1, rfl, c.al, _, rfl, .inl (SqL.of hL1), _, _, rfl, rfl, _, rfl, ?_⟩
        rw [List.length_map]
        by_cases hlt : bg.at_ < bg.scr.length
        · rw [decide_eq_true hlt]
          refine iteT ?_
          have hx : atI (bg.scr.map V.int) bg.at_ = some (.int (bg.scr.getD bg.at_.toNat 0)) := by
            have z := atI_pos (xs := bg.scr.map V.int) (d := V.int 0) ha0 (by rw [List.length_map]; exact hlt)
            rw [z]
            congr 1
            simp [List.getD]
          have hcell : ∃ cell, bg.scr.getD bg.at_.toNat 0 = cell := ⟨_, rfl⟩
          obtain ⟨cell, ec⟩ := hcell
          rw [ec] at hx
          refine ⟨_, rfl, c.ab, _, 0, _, rfl, rfl, SqL.of hH1, rfl, _, rfl, c.ab, _, 1, _, rfl, rfl, SqL.of hH1, rfl, c.al, _, bg.at_, _, rfl, rfl, SqL.of hL1, hx, ?_⟩
          refine ⟨_, rfl, c.ab, _, 1, _, rfl, rfl, SqL.of hH1, rfl, _, _, rfl, rfl, _, rfl, c.ab, _, 1, 1, rfl, rfl, hH1, rfl, ?_⟩
          refine ⟨_, rfl, cell, rfl, 2, _, rfl, rfl, .inl ⟨by decide, by decide⟩, ?_⟩
          refine ⟨_, rfl, cell, 0, rfl, rfl, .inr ⟨_, rfl, _, _, rfl, rfl, ?_⟩⟩
          refine ⟨_, rfl, cell, rfl, 10, 18, rfl, rfl, ⟨by decide, by decide, by decide⟩, _, _, rfl, rfl, .inr ⟨_, rfl, _, _, rfl, rfl, .inr ?_, ?_⟩⟩
          · exact b01 _
          refine ⟨_, rfl, c.ab, _, 2, 2, rfl, rfl, upd_same, rfl, ?_⟩
          refine ⟨_, rfl, c.ab, _, 3, _, rfl, rfl, SqL.of upd_same, rfl, _, 48271, rfl, rfl, .inr ⟨by decide, by decide⟩, _, rfl, cell, 69621, rfl, rfl, .inr ⟨by decide, by decide⟩, _, _, rfl, rfl, _, _, rfl, rfl, ?_⟩
          refine .inl ⟨_, rfl, _, 2147483647, rfl, rfl, (by show (0 : Int) < 2147483647; decide), ?_⟩
          refine ⟨_, rfl, c.ab, _, 3, 3, rfl, rfl, upd_same, rfl, ?_⟩
          refine ⟨bg.at_ + 1, (2 * absI cell + (if cell < 0 then 1 else 0)) * (if 10 ^ 18 ≤ absI cell then 1 else 0), (bg.mix * 48271 + cell * 69621 + 11) % 2147483647, some (.int cell), ?_, rfl, ?_⟩
          · unfold drawA
            rw [if_pos ⟨hv, hlt⟩, ec]
          · rw [upd_upd, upd_upd, upd_upd]
            congr 1
            congr 1
            simp only [List.set_cons_succ, List.set_cons_zero, decide_eq_true_eq]
            rfl
        · rw [decide_eq_false hlt]
          refine iteF ?_
          exact ⟨bg.at_, bg.val, bg.mix, none, if_neg fun z => hlt z.2, rfl, rfl⟩
      · rw [decide_eq_false hv]
        refine iteF (iteF ?_)
        exact ⟨bg.at_, bg.val, bg.mix, none, if_neg fun z => hv z.1, rfl, rfl⟩
    · rintro σ' H' ⟨i, v, m, cl, ed, rfl, rfl⟩
      have hH1 : (upd H c.ab (.lst [.ref c.al, .int i, .int v, .int m, .int (bg.cnt + 1)])) c.ab = some (.lst [.ref c.al, .int i, .int v, .int m, .int (bg.cnt + 1)]) := upd_same
      refine ⟨_, rfl, c.ab, _, 2, _, rfl, rfl, SqL.of hH1, rfl, .inl ⟨_, rfl, _, rfl, _, _, rfl, rfl, hn, ?_⟩⟩
      refine ⟨_, rfl, c.ab, _, 2, _, rfl, rfl, SqL.of hH1, rfl, _, _, rfl, rfl, _, rfl, ?_⟩
      by_cases hv : 0 < v
      · rw [decide_eq_true hv]
        refine iteT ?_
        refine ⟨_, rfl, c.ab, _, 2, _, rfl, rfl, SqL.of hH1, rfl, _, rfl, _, _, rfl, rfl, ⟨hn, hn2⟩, _, rfl, c.ab, _, 2, 2, rfl, rfl, hH1, rfl, _, rfl, ?_⟩
        rw [upd_upd]
        refine fin _ i (v / n) m (bg.cnt + 1) ?_
        unfold drawB
        rw [ed]
        exact if_pos hv
      · rw [decide_eq_false hv]
        refine iteF ?_
        refine ⟨_, rfl, c.ab, _, 3, _, rfl, rfl, SqL.of hH1, rfl, _, rfl, c.ab, _, 4, _, rfl, rfl, SqL.of hH1, rfl, _, 40692, rfl, rfl, .inr ⟨by decide, by decide⟩, _, _, rfl, rfl, .inl ⟨_, rfl, _, 2147483647, rfl, rfl, (by show (0 : Int) < 2147483647; decide), ?_⟩⟩
        have b1 : ((m + (bg.cnt + 1) * 40692) % 2147483647).natAbs < 2 ^ 64 := by
          have h1 := Int.emod_nonneg (m + (bg.cnt + 1) * 40692) (show (2147483647 : Int) ≠ 0 by decide)
          have h2 := Int.emod_lt_of_pos (m + (bg.cnt + 1) * 40692) (show (0 : Int) < 2147483647 by decide)
          omega
        refine ⟨_, rfl, _, 3, rfl, rfl, ⟨by decide, by decide, b1⟩, _, rfl, c.ab, _, 4, _, rfl, rfl, SqL.of hH1, rfl, _, 16807, rfl, rfl, .inr ⟨by decide, by decide⟩, _, _, rfl, rfl, _, 7, rfl, rfl, .inl ⟨_, rfl, _, 2147483629, rfl, rfl, (by show (0 : Int) < 2147483629; decide), ?_⟩⟩
        have b2 : (drawX m (bg.cnt + 1)).natAbs < 2 ^ 64 := by
          unfold drawX
          have h1 := Int.emod_nonneg (((m + (bg.cnt + 1) * 40692) % 2147483647) ^ 3 + (bg.cnt + 1) * 16807 + 7) (show (2147483629 : Int) ≠ 0 by decide)
          have h2 := Int.emod_lt_of_pos (((m + (bg.cnt + 1) * 40692) % 2147483647) ^ 3 + (bg.cnt + 1) * 16807 + 7) (show (0 : Int) < 2147483629 by decide)
          omega
        refine ⟨_, rfl, drawX m (bg.cnt + 1), 2, rfl, rfl, ⟨by decide, by decide, b2⟩, .inl ⟨_, rfl, _, 2147483587, rfl, rfl, (by show (0 : Int) < 2147483587; decide), _, 8, rfl, rfl, ⟨by decide, by decide⟩, _, rfl, _, n, rfl, rfl, hn, ?_⟩⟩
        refine fin _ i v m (bg.cnt + 1) ?_
        unfold drawB
        rw [ed]
        exact if_neg hv
end
end Lw
set_option Elab.async false
set_option linter.all false
set_option maxRecDepth 100000
namespace DL
open PySem PySem.Spec PyProof.Rows L2
/-! ### keywords -/
structure JK (Z : Zc) (Γ : Ctx) (kws : List Keyword) {α : Type} (mk : (β : Type) → (α → M Z.S β) → M Z.S β) (ra : α → List V → Hp → Prop) : Prop where
  ex : ∃ t : TA, PK Z.X kws t ∧ ∀ {β : Type} {k : α → M Z.S β} {ρ : Res β} {s : Z.S} {G B : Hp} {σ : L2.St} {H : Hp} {Q : VK} {R : List V → Hp → Prop}, Sta Z Γ s G B σ H → PostE Z Γ ρ σ Q G (mk β k s) →
    (∀ vs H1 x s1 G1 B1, Same G G1 → Sta Z Γ s1 G1 B1 σ H1 → ra x vs G1 → PostE Z Γ ρ σ Q G1 (k x s1) → R vs H1) → t σ H R
  mono : ∀ {x : α} {vs : List V} {G G' : Hp}, Same G G' → ra x vs G → ra x vs G'
  len : ∀ {x : α} {vs : List V} {G : Hp}, ra x vs G → vs.length = kws.length
section
variable {Z : Zc} {Γ : Ctx} {α β γ T U ρ : Type} {e a b c o : Expr} {es : List Expr} {kws : List Keyword} {pos p apos : Pos}
theorem jk_nil : JK Z Γ [] (fun _ k => k ()) raN :=
  ⟨⟨tNil, pk_nil, fun {β k ρ s G B σ H Q R} st q h => h [] H () s G B (Same.refl _) st rfl q⟩, fun _ h => h, fun {x vs G} h => by
    have h : vs = [] := h
    rw [h]
    rfl⟩
theorem jk_cons {nm : Option Str} {kp : Pos} {m : M Z.S α} {r : Rp α} {mk : (γ : Type) → (β → M Z.S γ) → M Z.S γ} {ra : β → List V → Hp → Prop} (h : JE Z Γ e m (.fz r)) (hr : JK Z Γ kws mk ra) :
    JK Z Γ (⟨nm, e, kp⟩ :: kws) (fun δ k => bnd m fun x => mk δ fun y => k (x, y)) (raC r ra) := by
  obtain ⟨t, ht, hq⟩ := hr.ex
  refine ⟨⟨tCons _ t, pk_cons h.pe ht, fun {δ k ρ s G B σ H Q R} st q hR => ?_⟩, fun g ⟨v, ws, h1, h2, h3⟩ => ⟨v, ws, h1, (r _).mono g h2, hr.mono g h3⟩, fun ⟨v, ws, h1, h2, h3⟩ => by rw [h1, List.length_cons, List.length_cons, hr.len h3]⟩
  refine tE.imp (tE_bnd (ρ := .fz r) st q) ?_
  rintro v H1 ⟨x, s1, G1, B1, g1, st1, hx, q1⟩
  refine hq st1 q1 fun ws H2 y s2 G2 B2 g2 st2 hy q2 => ?_
  exact hR (v :: ws) H2 (x, y) s2 G2 B2 (g1.trans g2) st2 ⟨v, ws, rfl, (r x).mono g2 hx, hy⟩ q2
/-! arguments, then keywords, then defaults -/
theorem jn_n {ra : β → List V → Hp → Prop} {x : Unit} {y : β} {vs zs : List V} {G : Hp} (h1 : raN x vs G) (h2 : ra y zs G) : ra y (vs ++ zs) G := by
  have h1 : vs = [] := h1
  rw [h1]
  exact h2
theorem jn_c {r : Rp α} {ra : γ → List V → Hp → Prop} {ra' : ρ → List V → Hp → Prop} {x : α × γ} {z : ρ} {vs zs : List V} {G : Hp} (h : ∀ {ws : List V}, ra x.2 ws G → ra' z (ws ++ zs) G) (h1 : raC r ra x vs G) : raC r ra' (x.1, z) (vs ++ zs) G := by
  obtain ⟨v, ws, rfl, h2, h3⟩ := h1
  exact ⟨v, ws ++ zs, rfl, h2, h h3⟩
/-! ### a new instance -/
section
variable {X : Cx} {CX : CXT} {k : Nat} {f C : Addr} {fd : FuncData} {ps : List Str} {sp : Sp} {E : XK}
theorem run_mk {pins : List (Addr × Obj)} {σ : L2.St} {H : Hp} {s : Shared} {Q : VK} {us : List Value} {kw : List (Str × Value)} {gV : V → List V} {gU : Value → List Value} (M : Mk X.K C f) (F : FnOk X.prog X.w X.K X.mg X.base CX k f fd ps sp)
    (hr : Room (k + 1) X.A) (hx : PassesAt CX X σ E) (hb : ∀ (s' : Shared) (a : Addr), X.K.In s'.heap → BindsTo s' fd ⟨.ref a :: us, kw⟩ (ps.zip (gU (.ref a)))) (rel : ∀ a, Vals (gV (.ref a)) (gU (.ref a))) (I : Inv X pins σ H s)
    (h : ∀ x dx, H x = none → H dx = none → dx ≠ x → sp (gV (.ref x)) (upd (upd H dx (.own x)) x (.ins C dx [])) (fun v H2 => v = .non ∧ Q (.ref x) H2) E) : wpAny (model X.prog X.w) X.A (call (.ref C) us kw) (EP X pins σ Q) X.xe s := by
  have hq := h (s.heap.objs.size + 1) s.heap.objs.size (I.hok.fresh (Nat.le_succ _)) (I.hok.fresh (Nat.le_refl _)) (Nat.ne_of_lt (Nat.lt_succ_self _))
  have J := Inv.made (C := C) I
  refine wpAny_call (make_map (f := f) I.kIn M.makes M.init (beq_iff_eq.mp M.fn) (codeAny_mono (F.run _ X.stack _ _ ⟨.ref (s.heap.objs.size + 1) :: us, kw⟩ _ _ _ E (hr.make C us kw) (J.env0.make C us kw) (hb _ _ J.kIn) (rel _) hq) fun r s' hz => ?_))
  cases r with
  | error e => exact hx pins _ _ e s' J hz
  | ok fl =>
    cases fl with
    | ret u =>
      obtain ⟨v, H', J3, rv, ev, q3⟩ := J.after hz
      subst ev
      exact ⟨rv, V.ref (s.heap.objs.size + 1), H', J3, rfl, q3⟩
    | next => exact hz.elim
    | brk => exact hz.elim
    | cont => exact hz.elim
end
/-- a class by its name: C(..) of np arguments and the keywords ks -/
structure MkC (P : Program) (w : World) (K : PySem.W.Frag) (mg : Str → Option Value) (base : Heap) (n : Str) (k : Nat) (C : Addr) (np : Nat) (ks : List Str) (gV : List V → List V → List V) (sp : Sp) : Prop where
  ex : ∃ f fd ps g, FnOk P w K mg base (L2.CX P w) k f fd ps sp ∧ mg n = some (.ref C) ∧ Mk K C f ∧ KBn K fd ps (np + 1) ks g gV
theorem Ok.less {H1 H2 G B G' B' H' : Hp} (h : Ok ⟨H2, G, B⟩ G' B' H') (l : Same H1 H2) : Ok ⟨H1, G, B⟩ G' B' H' :=
  ⟨h.gh, h.bh, h.dj, h.g0, fun a o e => h.up a o (l a o e), fun a o e b => h.out a o (l a o e) b, fun a o e g b => h.gn a o (l a o e) g b, fun a o e b => h.bn a o (l a o e) b⟩
theorem mk_post {Cap : CapT} {C : Addr} {ra : (S : Type) → (R : S → MP Hp) → Cap S R → α → List V → Hp → Prop} {fs : β → List (Str × MP V)} {f : (S : Type) → (R : S → MP Hp) → Cap S R → α → M S β} (cp : Cap Z.S Z.R) {x : α} {ws : List V} {s : Z.S} {G B : Hp} {σ : L2.St} {H : Hp} {Q : VK} {a dx : Addr}
    (st : Sta Z Γ s G B σ H) (na : H a = none) (nd : H dx = none) (ne : dx ≠ a) (hra : ra Z.S Z.R cp x ws G) (q : PostE Z Γ (.fz (rObj C fs)) σ Q G (f Z.S Z.R cp x s)) :
    spI Z.X.mg C ra fs f (.ref a :: ws) (upd (upd H dx (.own a)) a (.ins C dx [])) (fun v H2 => v = .non ∧ Q (.ref a) H2) (WE Z.W σ) := by
  have ga := Same.free st.ok.gh na
  have gd := Same.free st.ok.gh nd
  have ba := Same.free st.ok.bh na
  have bd := Same.free st.ok.bh nd
  have lss : Same H (rem (upd (upd H dx (.own a)) a (.ins C dx [])) a) := fun b o e => by
    have n1 := ne_of_none e na
    have n2 := ne_of_none e nd
    unfold rem
    rw [if_neg n1, upd_ne n1, upd_ne n2]
    exact e
  refine ⟨Z.S, Z.R, cp, s, G, B, x, a, dx, ws, rfl, upd_same, ga, ba, Same.upd_r (Same.upd_r st.ok.gh gd) ga, Same.upd_r (Same.upd_r st.ok.bh bd) ba, st.ok.dj, st.res, hra, ?_⟩
  revert q
  cases f Z.S Z.R cp x s with
  | ok y s1 =>
    intro q H' G' B' ok r h
    obtain ⟨h1, dx', vs, h2, h3⟩ := h
    have ok' := ok.less lss
    exact ⟨rfl, q _ H' G' B' ok'.g0 (st.call ok' r) ⟨a, dx', vs, rfl, h2, h3⟩⟩
  | err y s1 =>
    intro q cls d H' G' B' ok r h
    have ok' := ok.less lss
    exact q cls d σ H' G' B' ok'.g0 (st.call ok' r).nil h
  | stuck => exact fun q => q
/-- C(e, ..) -/
theorem je_mk {Cap : CapT} {C : Addr} {ra : (S : Type) → (R : S → MP Hp) → Cap S R → α → List V → Hp → Prop} {fs : β → List (Str × MP V)} {f : (S : Type) → (R : S → MP Hp) → Cap S R → α → M S β} {n : Str} {k j np : Nat} {gV : List V → List V → List V} {mk : (γ : Type) → (α → M Z.S γ) → M Z.S γ}
    (z : ZOk Z) (MC : MkC Z.X.prog Z.X.w Z.X.K Z.X.mg Z.X.base n j C np [] gV (spI Z.X.mg C ra fs f)) (hr : Room k Z.X.A) (cp : Cap Z.S Z.R) (ha : JA Z Γ (e :: es) mk (ra Z.S Z.R cp)) (hgV : ∀ vs : List V, gV vs [] = vs := by intro _; first | rfl | exact List.append_nil _) (hnp : (e :: es).length = np := by rfl) (hg : Gl Z.X n := by rfl) (hj : j + 1 ≤ k := by decide)
    (hdb : (n == ("__debug__" : Str)) = false := by decide) (he : starEach (e :: es) Z.X.env = (false, eval e Z.X.env) :: starEach es Z.X.env := by exact star_of rfl) (hpl : (backTo pos (starEach es Z.X.env)).any (·.1) = false := by rfl) :
    JE Z Γ (.Call (.Name n p) (e :: es) [] pos) (mk _ (f Z.S Z.R cp)) (.fz (rObj C fs)) := by
  obtain ⟨fa, fd, ps, g, F1, hm, Mc, kb⟩ := MC.ex
  obtain ⟨t, ht, hq⟩ := ha.ex
  refine ⟨⟨fun pins s0 σ H Q I ⟨s, G, B, st, q⟩ => ?_⟩⟩
  refine wpAny_Call_Name_kw (ld_glob I hg hm ?_ hdb)
  refine PySem.W.callWith_K (h₀ := Z.X.base) I.ok.mod.kin Mc.kp (thn (ht.run pos pins s0 σ H (fun vs H1 => ∃ x s1 G1 B1, Sta Z Γ s1 G1 B1 σ H1 ∧ ra Z.S Z.R cp x vs G1 ∧ PostE Z Γ (.fz (rObj C fs)) σ Q G1 (f Z.S Z.R cp x s1)) I
    (hq st q fun vs H1 x s1 G1 B1 g1 st1 hx q1 => ⟨x, s1, G1, B1, st1, hx, q1⟩)) fun us s1 ⟨vs, H1, I1, r, x, t1, G1, B1, st1, hx, q1⟩ => ⟨I1.kIn, ?_⟩) he hpl
  have hl : vs.length = np := by rw [ha.len hx, hnp]
  refine run_mk (gV := fun a => gV (a :: vs) []) (gU := fun a => g (a :: us) []) Mc F1 (hr.mono hj) (passAt z.tk σ) (fun s' a X => kb.to s' (.ref a :: us) [] X (by rw [List.length_cons, ← r.length, hl]) rfl) (fun a => kb.rel (.cons rfl r) .nil) I1 fun a dx na nd ne => ?_
  have e1 : gV (.ref a :: vs) [] = .ref a :: vs := hgV _
  rw [e1]
  exact mk_post cp st1 na nd ne hx q1
/-- C(e, .., k = v, ..) -/
theorem je_mkK {αp αk : Type} {Cap : CapT} {C : Addr} {ra : (S : Type) → (R : S → MP Hp) → Cap S R → α → List V → Hp → Prop} {fs : β → List (Str × MP V)} {f : (S : Type) → (R : S → MP Hp) → Cap S R → α → M S β} {n : Str} {k j np : Nat} {ks : List Str} {gV : List V → List V → List V}
    {mkp : (γ : Type) → (αp → M Z.S γ) → M Z.S γ} {mkk : (γ : Type) → (αk → M Z.S γ) → M Z.S γ} {rap : αp → List V → Hp → Prop} {rak : αk → List V → Hp → Prop} (z : ZOk Z) (MC : MkC Z.X.prog Z.X.w Z.X.K Z.X.mg Z.X.base n j C np ks gV (spI Z.X.mg C ra fs f)) (hr : Room k Z.X.A) (cp : Cap Z.S Z.R)
    (ha : JA Z Γ (e :: es) mkp rap) (hk : JK Z Γ kws mkk rak) (jn : αp → αk → α) (hjn : ∀ {x : αp} {y : αk} {vs zs : List V} {G : Hp} (a : V), rap x vs G → rak y zs G → ∃ ws, gV (a :: vs) zs = a :: ws ∧ ra Z.S Z.R cp (jn x y) ws G)
    (hnp : (e :: es).length = np := by rfl) (hg : Gl Z.X n := by rfl) (hj : j + 1 ≤ k := by decide) (hall : (backToKw pos (keywordEach kws Z.X.env)).all (·.1.isSome) = true := by rfl) (hks : (backToKw pos (keywordEach kws Z.X.env)).filterMap (·.1) = ks := by rfl) (hkl : kws.length = ks.length := by rfl)
    (hdb : (n == ("__debug__" : Str)) = false := by decide) (he : starEach (e :: es) Z.X.env = (false, eval e Z.X.env) :: starEach es Z.X.env := by exact star_of rfl) (hpl : ((backTo pos (starEach (e :: es) Z.X.env)).any (·.1) || (backToKw pos (keywordEach kws Z.X.env)).any (·.1.isNone)) = false := by rfl) :
    JE Z Γ (.Call (.Name n p) (e :: es) kws pos) (mkp _ fun x => mkk _ fun y => f Z.S Z.R cp (jn x y)) (.fz (rObj C fs)) := by
  obtain ⟨fa, fd, ps, g, F1, hm, Mc, kb⟩ := MC.ex
  obtain ⟨t, ht, hq⟩ := ha.ex
  obtain ⟨tk, htk, hqk⟩ := hk.ex
  refine ⟨⟨fun pins s0 σ H Q I ⟨s, G, B, st, q⟩ => ?_⟩⟩
  refine wpAny_Call_Name_kw (ld_glob I hg hm ?_ hdb)
  refine PySem.W.callWith_KW (h₀ := Z.X.base) I.ok.mod.kin Mc.kp hall (thn (ht.run pos pins s0 σ H (fun vs H1 => ∃ x s1 G1 B1, Sta Z Γ s1 G1 B1 σ H1 ∧ rap x vs G1 ∧ PostE Z Γ (.fz (rObj C fs)) σ Q G1 (mkk _ (fun y => f Z.S Z.R cp (jn x y)) s1)) I
    (hq st q fun vs H1 x s1 G1 B1 g1 st1 hx q1 => ⟨x, s1, G1, B1, st1, hx, q1⟩)) fun us s1 ⟨vs, H1, I1, r, x, t1, G1, B1, st1, hx, q1⟩ => ?_) hpl he
  refine thn (htk.run pos pins s1 σ H1 (fun zs H2 => ∃ y s2 G2 B2, Same G1 G2 ∧ Sta Z Γ s2 G2 B2 σ H2 ∧ rak y zs G2 ∧ PostE Z Γ (.fz (rObj C fs)) σ Q G2 (f Z.S Z.R cp (jn x y) s2)) I1
    (hqk st1 q1 fun zs H2 y s2 G2 B2 g2 st2 hy q2 => ⟨y, s2, G2, B2, g2, st2, hy, q2⟩)) fun us2 s2 ⟨zs, H2, I2, rz, y, t2, G2, B2, g2, st2, hy, q2⟩ => ⟨I2.kIn, ?_⟩
  rw [hks]
  have hl : vs.length = np := by rw [ha.len hx, hnp]
  have hl2 : zs.length = ks.length := by rw [hk.len hy, hkl]
  refine run_mk (gV := fun a => gV (a :: vs) zs) (gU := fun a => g (a :: us) us2) Mc F1 (hr.mono hj) (passAt z.tk σ) (fun s' a X => kb.to s' (.ref a :: us) us2 X (by rw [List.length_cons, ← r.length, hl]) (by rw [← rz.length, hl2])) (fun a => kb.rel (.cons rfl r) rz) I2 fun a dx na nd ne => ?_
  obtain ⟨ws, e1, h1⟩ := hjn (.ref a) (ha.mono g2 hx) hy
  rw [e1]
  exact mk_post cp st2 na nd ne h1 q2
/-! ### methods -/
/-- a class's method by its name -/
structure MtC (P : Program) (w : World) (K : PySem.W.Frag) (mg : Str → Option Value) (base : Heap) (C : Addr) (m : Str) (k : Nat) (sp : Sp) : Prop where
  ex : ∃ f fd ps, FnOk P w K mg base (L2.CX P w) k f fd ps sp ∧ Meth K C m f ∧ Binds K fd ps []
/-- self is an instance whose own dict hides no method m, where the guard lets pass -/
structure SelfOk (Z : Zc) (C : Addr) (m : Str) {α : Type} (rs : Rp α) (gd : M Z.S Unit) : Prop where
  two : ∀ s, gd s = .ok () s ∨ gd s = .stuck
  so : ∀ {s : Z.S} {G B H : Hp} {y : α} {v : V}, gd s = .ok () s → Same G H → Same B H → (Z.R s).p B G → (rs y).p v G → ∃ a dx fs, v = .ref a ∧ H a = some (.ins C dx fs) ∧ fs.lookup m = none
theorem SelfOk.at_ {C : Addr} {m : Str} {rs : Rp α} {gd : M Z.S Unit} (so : SelfOk Z C m rs gd) {k : Unit → M Z.S β} {ρ : Res β} {s : Z.S} {G B : Hp} {σ : L2.St} {H : Hp} {Q : VK} {y : α} {v : V} (st : Sta Z Γ s G B σ H) (hv : (rs y).p v G) (q : PostE Z Γ ρ σ Q G (bnd gd k s)) :
    (∃ a dx fs, v = .ref a ∧ H a = some (.ins C dx fs) ∧ fs.lookup m = none) ∧ PostE Z Γ ρ σ Q G (k () s) := by
  have q : PostE Z Γ ρ σ Q G ((gd s).bnd k) := q
  rcases so.two s with e | e
  · rw [e] at q
    exact ⟨so.so e st.ok.gh st.ok.bh st.res hv, q⟩
  · rw [e] at q
    exact q.elim
theorem FP.none {G : Hp} {f : Str} : ∀ {vs : List (Str × V)} {fs : List (Str × MP V)}, FP G vs fs → fs.lookup f = none → vs.lookup f = none
  | _, _, .nil => fun h => rfl
  | (n, v) :: vs, (m, B) :: fs, .cons h t => fun q => by
    have e : n = m := h.1
    subst e
    rw [List.lookup_cons] at q ⊢
    cases hb : f == n with
    | true =>
      rw [hb] at q
      cases q
    | false =>
      rw [hb] at q
      exact FP.none t q
theorem so_obj {C : Addr} {m : Str} {fs : α → List (Str × MP V)} (hl : ∀ x, (fs x).lookup m = none := by intro _; rfl) : SelfOk Z C m (rObj C fs) (ret ()) := ⟨fun _ => .inl rfl, fun {s G B H y v} _ g b r h => by
  obtain ⟨a, dx, vs, rfl, h1, h2⟩ := h
  exact ⟨a, dx, vs, rfl, g _ _ h1, h2.none (hl y)⟩⟩
abbrev MEq (env : Env) (o : Expr) (m : Str) (apos : Pos) (args : List Expr) (pos : Pos) (pl : Sem Bool) : Prop :=
  eval (.Call (.Attribute o m apos) args [] pos) env = (eval o env >>= fun ov => standAt apos.atName >>= fun _ => holding [ov] (getMethod ov m pl) >>= fun fx => callWith pos fx.1 fx.2 (backTo pos (starEach args env)) (backToKw pos (keywordEach [] env)))
theorem je_meth {pl : Sem Bool} {αs : Type} {Cap : CapT} {C : Addr} {rs : Rp αs} {ra1 : α → List V → Hp → Prop} {ra : (S : Type) → (R : S → MP Hp) → Cap S R → αs × α → List V → Hp → Prop} {ρ : Res β} {f : (S : Type) → (R : S → MP Hp) → Cap S R → αs × α → M S β} {m : Str} {k j : Nat} {ms : M Z.S αs} {mk : (γ : Type) → (α → M Z.S γ) → M Z.S γ} (z : ZOk Z)
    (F : MtC Z.X.prog Z.X.w Z.X.K Z.X.mg Z.X.base C m j (spC Z.X.mg ra ρ f)) (hr : Room k Z.X.A) (cp : Cap Z.S Z.R) (cl : Cls Z.X.K C) {gd : M Z.S Unit} (so : SelfOk Z C m rs gd) (ho : JE Z Γ o ms (.fz rs)) (ha : JA Z Γ (e :: es) mk ra1) (hra : ra Z.S Z.R cp = raC rs ra1 := by rfl) (hj : j ≤ k := by decide) (hρ : ∀ k c, ρ ≠ .vw k c := by intro _ _ h; cases h)
    (he : starEach (e :: es) Z.X.env = (false, eval e Z.X.env) :: starEach es Z.X.env := by exact star_of rfl) (hpl : (backTo pos (starEach es Z.X.env)).any (·.1) = false := by rfl) (ht : MEq Z.X.env o m apos (e :: es) pos pl := by rfl) :
    JE Z Γ (.Call (.Attribute o m apos) (e :: es) [] pos) (bnd ms fun x => bnd gd fun _ => mk _ fun y => f Z.S Z.R cp (x, y)) ρ := by
  obtain ⟨fa, fd, ps, F1, hm, hb⟩ := F.ex
  obtain ⟨t, htt, hq⟩ := ha.ex
  refine ⟨⟨fun pins s0 σ H Q I ⟨s, G, B, st, q⟩ => ?_⟩⟩
  refine PySem.W.methodCall_KW (pl := pl) (thn (ho.pe.run pins s0 σ H _ I (tE_bnd (ρ := .fz rs) st q)) ?_) ht
  rintro u s1 ⟨v, H1, I1, rv, x, t1, G1, B1, g1, st1, hx, q1⟩
  obtain ⟨⟨a, dx, fs, rfl, ea, l⟩, q1⟩ := so.at_ st1 hx q1
  obtain rfl : u = Value.ref a := rv
  refine getmeth_ok I1 ea cl hm l ?_
  refine PySem.W.callWith_K (first := [.ref a]) (h₀ := Z.X.base) I.ok.mod.kin hm.kp (thn (htt.run pos pins s1 σ H1 (fun vs H2 => ∃ y s2 G2 B2, Same G1 G2 ∧ Sta Z Γ s2 G2 B2 σ H2 ∧ ra1 y vs G2 ∧ PostE Z Γ ρ σ Q G2 (f Z.S Z.R cp (x, y) s2)) I1
    (hq st1 q1 fun vs H2 y s2 G2 B2 g2 st2 hy q2 => ⟨y, s2, G2, B2, g2, st2, hy, q2⟩)) fun us s2 ⟨vs, H2, I2, r, y, t2, G2, B2, g2, st2, hy, q2⟩ => ⟨I2.kIn, ?_⟩) he hpl
  refine run_fnS (us := .ref a :: us) (vs := .ref a :: vs) (E := WE Z.W) F1 (hr.mono hj) hb (passAt z.tk σ) I2 (.cons rfl r) (sp_run cp hρ st2 ?_ q2)
  rw [hra]
  exact ⟨_, vs, rfl, (rs x).mono g2 hx, hy⟩
theorem je_meth0 {pl : Sem Bool} {αs : Type} {Cap : CapT} {C : Addr} {rs : Rp αs} {ra : (S : Type) → (R : S → MP Hp) → Cap S R → αs × Unit → List V → Hp → Prop} {ρ : Res β} {f : (S : Type) → (R : S → MP Hp) → Cap S R → αs × Unit → M S β} {m : Str} {k j : Nat} {ms : M Z.S αs} (z : ZOk Z)
    (F : MtC Z.X.prog Z.X.w Z.X.K Z.X.mg Z.X.base C m j (spC Z.X.mg ra ρ f)) (hr : Room k Z.X.A) (cp : Cap Z.S Z.R) (cl : Cls Z.X.K C) {gd : M Z.S Unit} (so : SelfOk Z C m rs gd) (ho : JE Z Γ o ms (.fz rs)) (hra : ra Z.S Z.R cp = raC rs raN := by rfl) (hj : j ≤ k := by decide) (hρ : ∀ k c, ρ ≠ .vw k c := by intro _ _ h; cases h) (ht : MEq Z.X.env o m apos [] pos pl := by rfl) :
    JE Z Γ (.Call (.Attribute o m apos) [] [] pos) (bnd ms fun x => bnd gd fun _ => f Z.S Z.R cp (x, ())) ρ := by
  obtain ⟨fa, fd, ps, F1, hm, hb⟩ := F.ex
  refine ⟨⟨fun pins s0 σ H Q I ⟨s, G, B, st, q⟩ => ?_⟩⟩
  refine PySem.W.methodCall_KW (pl := pl) (thn (ho.pe.run pins s0 σ H _ I (tE_bnd (ρ := .fz rs) st q)) ?_) ht
  rintro u s1 ⟨v, H1, I1, rv, x, t1, G1, B1, g1, st1, hx, q1⟩
  obtain ⟨⟨a, dx, fs, rfl, ea, l⟩, q1⟩ := so.at_ st1 hx q1
  obtain rfl : u = Value.ref a := rv
  refine getmeth_ok I1 ea cl hm l ?_
  refine PySem.W.callWith_K0 (first := [.ref a]) I1.kIn hm.kp (run_fnS (us := [.ref a]) (vs := [.ref a]) (E := WE Z.W) F1 (hr.mono hj) hb (passAt z.tk σ) I1 (.cons rfl .nil) (sp_run cp hρ st1 ?_ q1))
  rw [hra]
  exact ⟨_, [], rfl, hx, rfl⟩
end
end DL
set_option Elab.async false
set_option linter.all false
set_option maxRecDepth 100000
namespace DL
open PySem PySem.Spec PyProof.Rows L2
/-! ### an instance that changes: its fields -/
/-- a thing of one's own: its content; what it stands for when it is still -/
structure OwK where
  L : MP HO
  A : MP V
  lk : Bool
  frz : ∀ {a : Addr} {o : HO} {G G1 : Hp}, L.p o G → Same G G1 → (lk = false → G1 a = some o) → (lk = true → ∃ od, G1 a = some (.frz od o)) → A.p (.ref a) G1
  mu : ∀ {o : HO} {G : Hp}, L.p o G → lk = true → Mut (some o)
def owL {α : Type} (r : Rp α) (xs : List α) : OwK := ⟨cL r xs, rL r xs, false, fun {a o G G1} ⟨vs, e, h⟩ g h1 _ => ⟨a, vs, rfl, by rw [h1 rfl, e], h.mono g⟩, fun _ h => by cases h⟩
def owD {κ α : Type} (k : KeyT κ) (r : Rp α) (d : List (κ × α)) : OwK := ⟨cD k r d, rD k r d, true, fun {a o G G1} ⟨vs, e, h⟩ g _ h2 => by
  obtain ⟨od, e2⟩ := h2 rfl
  exact ⟨a, od, vs, rfl, by rw [e2, e], h.mono g⟩, fun {o G} ⟨vs, e, _⟩ _ => by rw [e]; exact True.intro⟩
inductive Fd where
  | fz (A : MP V)
  | ow (O : OwK)
def Fd.A : Fd → MP V
  | .fz A => A
  | .ow O => O.A
inductive FsP (G B : Hp) : List (Str × V) → List (Str × Fd) → List Addr → Prop
  | nil : FsP G B [] [] []
  | fz {f : Str} {v : V} {A : MP V} {vs : List (Str × V)} {fs : List (Str × Fd)} {as : List Addr} (h : A.p v G) (t : FsP G B vs fs as) : FsP G B ((f, v) :: vs) ((f, .fz A) :: fs) as
  | ow {f : Str} {a : Addr} {o : HO} {O : OwK} {vs : List (Str × V)} {fs : List (Str × Fd)} {as : List Addr} (hb : B a = some o) (h : O.L.p o G) (t : FsP G B vs fs as) : FsP G B ((f, .ref a) :: vs) ((f, .ow O) :: fs) (a :: as)
section
variable {G G' B B' : Hp}
theorem FsP.mono (e : Same G G') : ∀ {vs fs as}, FsP G B vs fs as → FsP G' B vs fs as
  | _, _, _, .nil => .nil
  | _, _, _, .fz (A := A) h t => .fz (A.mono e h) (FsP.mono e t)
  | _, _, _, .ow (O := O) hb h t => .ow hb (O.L.mono e h) (FsP.mono e t)
theorem FsP.frame : ∀ {vs fs as}, FsP G B vs fs as → (∀ a ∈ as, B' a = B a) → FsP G B' vs fs as
  | _, _, _, .nil, _ => .nil
  | _, _, _, .fz h t, e => .fz h (FsP.frame t e)
  | _, _, _, .ow hb h t, e => .ow (by rw [e _ List.mem_cons_self]; exact hb) h (FsP.frame t fun a ha => e a (List.mem_cons_of_mem _ ha))
theorem FsP.names : ∀ {vs fs as}, FsP G B vs fs as → vs.map (·.1) = fs.map (·.1)
  | _, _, _, .nil => rfl
  | _, _, _, .fz h t => by rw [List.map_cons, List.map_cons, FsP.names t]
  | _, _, _, .ow hb h t => by rw [List.map_cons, List.map_cons, FsP.names t]
theorem FsP.length {vs fs as} (h : FsP G B vs fs as) : vs.length = fs.length := by
  have z := congrArg List.length h.names
  rw [List.length_map, List.length_map] at z
  exact z
theorem FsP.some_ : ∀ {vs fs as}, FsP G B vs fs as → ∀ a ∈ as, ∃ o, B a = some o
  | _, _, _, .nil, _, h => by cases h
  | _, _, _, .fz h t, a, ha => FsP.some_ t a ha
  | _, _, _, .ow hb h t, a, ha => by
    rcases List.mem_cons.mp ha with z | z
    · rw [z]; exact ⟨_, hb⟩
    · exact FsP.some_ t a z
theorem FsP.fz_at {f : Str} {A : MP V} : ∀ {vs fs as} {i : Nat}, FsP G B vs fs as → fs[i]? = some (f, .fz A) → ∃ v, vs[i]? = some (f, v) ∧ A.p v G
  | _, _, _, _, .nil, e => by simp at e
  | _, _, _, 0, .fz h t, e => by
    simp only [List.getElem?_cons_zero, Option.some.injEq, Prod.mk.injEq, Fd.fz.injEq] at e
    obtain ⟨e1, e2⟩ := e
    subst e1 e2
    exact ⟨_, rfl, h⟩
  | _, _, _, 0, .ow hb h t, e => by
    simp only [List.getElem?_cons_zero, Option.some.injEq, Prod.mk.injEq] at e
    cases e.2
  | _, _, _, i + 1, .fz h t, e => by
    obtain ⟨v, h1, h2⟩ := FsP.fz_at (i := i) t (by simpa using e)
    exact ⟨v, by simpa using h1, h2⟩
  | _, _, _, i + 1, .ow hb h t, e => by
    obtain ⟨v, h1, h2⟩ := FsP.fz_at (i := i) t (by simpa using e)
    exact ⟨v, by simpa using h1, h2⟩
/-- a field's thing, and what stands there when it is changed -/
theorem FsP.ow_at {f : Str} {O : OwK} : ∀ {vs fs as} {i : Nat}, FsP G B vs fs as → as.Nodup → fs[i]? = some (f, .ow O) → ∃ a o, vs[i]? = some (f, .ref a) ∧ a ∈ as ∧ B a = some o ∧ O.L.p o G ∧ ∀ {G' : Hp} {O' : OwK} {o' : HO}, Same G G' → O'.L.p o' G' → FsP G' (upd B a o') vs (fs.set i (f, .ow O')) as
  | _, _, _, _, .nil, _, e => by simp at e
  | _, _, _, 0, .fz h t, _, e => by
    simp only [List.getElem?_cons_zero, Option.some.injEq, Prod.mk.injEq] at e
    cases e.2
  | _, _, _, 0, .ow (a := a) (as := as) hb h t, nd, e => by
    simp only [List.getElem?_cons_zero, Option.some.injEq, Prod.mk.injEq, Fd.ow.injEq] at e
    obtain ⟨e1, e2⟩ := e
    subst e1 e2
    refine ⟨_, _, rfl, List.mem_cons_self, hb, h, fun {G' O' o'} g h' => ?_⟩
    refine .ow upd_same h' ((t.mono g).frame fun b hb => ?_)
    rw [upd_ne fun z => (List.nodup_cons.mp nd).1 (by rw [← z]; exact hb)]
  | _, _, _, i + 1, .fz (A := A) h t, nd, e => by
    obtain ⟨a, o, h1, h2, h3, h4, h5⟩ := FsP.ow_at (i := i) t nd (by simpa using e)
    exact ⟨a, o, by simpa using h1, h2, h3, h4, fun {G' O' o'} g h' => .fz (A.mono g h) (h5 g h')⟩
  | _, _, _, i + 1, .ow (O := O1) hb h t, nd, e => by
    obtain ⟨n1, n2⟩ := List.nodup_cons.mp nd
    obtain ⟨a, o, h1, h2, h3, h4, h5⟩ := FsP.ow_at (i := i) t n2 (by simpa using e)
    refine ⟨a, o, by simpa using h1, List.mem_cons_of_mem _ h2, h3, h4, fun {G' O' o'} g h' => .ow ?_ (O1.L.mono g h) (h5 g h')⟩
    rw [upd_ne fun z => n1 (by rw [z]; exact h2)]
    exact hb
theorem FsP.fz_set {f : Str} {A A' : MP V} {v : V} (hv : A'.p v G) : ∀ {vs fs as} {i : Nat}, FsP G B vs fs as → fs[i]? = some (f, .fz A) → FsP G B (vs.set i (f, v)) (fs.set i (f, .fz A')) as
  | _, _, _, _, .nil, e => by simp at e
  | _, _, _, 0, .fz h t, e => .fz hv t
  | _, _, _, 0, .ow hb h t, e => by
    simp only [List.getElem?_cons_zero, Option.some.injEq, Prod.mk.injEq] at e
    cases e.2
  | _, _, _, i + 1, .fz h t, e => .fz h (FsP.fz_set hv (i := i) t (by simpa using e))
  | _, _, _, i + 1, .ow hb h t, e => .ow hb h (FsP.fz_set hv (i := i) t (by simpa using e))
theorem FsP.snocF {f : Str} {A : MP V} {v : V} (hv : A.p v G) : ∀ {vs fs as}, FsP G B vs fs as → FsP G B (vs ++ [(f, v)]) (fs ++ [(f, .fz A)]) as
  | _, _, _, .nil => .fz hv .nil
  | _, _, _, .fz h t => .fz h (FsP.snocF hv t)
  | _, _, _, .ow hb h t => .ow hb h (FsP.snocF hv t)
theorem FsP.snocO {f : Str} {O : OwK} {a : Addr} {o : HO} (hb : B a = some o) (hv : O.L.p o G) : ∀ {vs fs as}, FsP G B vs fs as → FsP G B (vs ++ [(f, .ref a)]) (fs ++ [(f, .ow O)]) (as ++ [a])
  | _, _, _, .nil => .ow hb hv .nil
  | _, _, _, .fz h t => .fz h (FsP.snocO hb hv t)
  | _, _, _, .ow hb' h t => .ow hb' h (FsP.snocO hb hv t)
end
/-! lists of attributes -/
theorem look_nd {f : Str} {v : V} : ∀ {vs : List (Str × V)} {i : Nat}, (vs.map (·.1)).Nodup → vs[i]? = some (f, v) → vs.lookup f = some v
  | [], _, _, e => by simp at e
  | (g, w) :: vs, 0, _, e => by
    simp only [List.getElem?_cons_zero, Option.some.injEq, Prod.mk.injEq] at e
    rw [← e.1, ← e.2, List.lookup_cons]
    simp
  | (g, w) :: vs, i + 1, nd, e => by
    rw [List.map_cons, List.nodup_cons] at nd
    have e' : vs[i]? = some (f, v) := by simpa using e
    have z : f ≠ g := fun z => nd.1 (by
      rw [← z]
      exact List.mem_map.mpr ⟨(f, v), List.mem_of_getElem? e', rfl⟩)
    rw [List.lookup_cons, beq_eq_false_iff_ne.mpr z]
    exact look_nd nd.2 e'
theorem look_no {f : Str} : ∀ {vs : List (Str × V)}, f ∉ vs.map (·.1) → vs.lookup f = none
  | [], _ => rfl
  | (g, w) :: vs, h => by
    rw [List.map_cons, List.mem_cons, not_or] at h
    rw [List.lookup_cons, beq_eq_false_iff_ne.mpr h.1]
    exact look_no h.2
theorem putF_new {f : Str} {v : V} : ∀ {vs : List (Str × V)}, f ∉ vs.map (·.1) → putF f v vs = vs ++ [(f, v)]
  | [], _ => rfl
  | (g, w) :: vs, h => by
    rw [List.map_cons, List.mem_cons, not_or] at h
    show (if g = f then _ else _) = _
    rw [if_neg fun z => h.1 z.symm, putF_new h.2]
    rfl
theorem putF_old {f : Str} {v w : V} : ∀ {vs : List (Str × V)} {i : Nat}, (vs.map (·.1)).Nodup → vs[i]? = some (f, w) → putF f v vs = vs.set i (f, v)
  | [], _, _, e => by simp at e
  | (g, u) :: vs, 0, _, e => by
    simp only [List.getElem?_cons_zero, Option.some.injEq, Prod.mk.injEq] at e
    show (if g = f then _ else _) = _
    rw [if_pos e.1, e.1]
    rfl
  | (g, u) :: vs, i + 1, nd, e => by
    rw [List.map_cons, List.nodup_cons] at nd
    have e' : vs[i]? = some (f, w) := by simpa using e
    have z : g ≠ f := fun z => nd.1 (by
      rw [z]
      exact List.mem_map.mpr ⟨(f, w), List.mem_of_getElem? e', rfl⟩)
    show (if g = f then _ else _) = _
    rw [if_neg z, putF_old nd.2 e']
    rfl
/-! ### the resource -/
def remL (B : Hp) (l : List Addr) : Hp := fun a => if a ∈ l then none else B a
theorem remL_in {B : Hp} {l : List Addr} {a : Addr} (h : a ∈ l) : remL B l a = none := if_pos h
theorem remL_out {B : Hp} {l : List Addr} {a : Addr} (h : a ∉ l) : remL B l a = B a := if_neg h
structure ObjAt (x C dx : Addr) (fs : List (Str × Fd)) (vs : List (Str × V)) (as : List Addr) (B G : Hp) : Prop where
  at_ : B x = some (.ins C dx vs)
  fsp : FsP G B vs fs as
  nd : (x :: as).Nodup
/-- a class's fields in the order in which they come -/
structure CD (T : Type) where
  all : T → List (Str × Fd)
  names : List Str
  hn : ∀ t, (all t).map (·.1) = names
  nd : names.Nodup
/-- where an instance's fields are kept: their values, how many there are -/
structure OL (S T : Type) where
  get : S → Option (T × Nat)
  set : S → T × Nat → S
structure ObjR {S T : Type} (l : OL S T) (R : S → MP Hp) (x C dx : Addr) (d : CD T) : Prop where
  has : ∀ {s : S} {B G : Hp} {t : T} {n : Nat}, (R s).p B G → l.get s = some (t, n) → ∃ vs as, ObjAt x C dx ((d.all t).take n) vs as B G ∧
    ∀ {B' G' : Hp} {t' : T} {n' : Nat} {vs' : List (Str × V)} {as' : List Addr}, Same G G' → ObjAt x C dx ((d.all t').take n') vs' as' B' G' → (∀ a, a ∉ x :: as → a ∉ x :: as' → B' a = B a) → (∀ a ∈ as', a ∉ as → B a = none) → (∀ a ∈ as, a ∉ as' → B' a = none) → (R (l.set s (t', n'))).p B' G'
section
variable {S T τ : Type}
def getA (l : OL S T) (i : Nat) (g : T → τ) : M S τ := fun s => match l.get s with
  | some (t, n) => if i < n then .ok (g t) s else .stuck
  | none => .stuck
def putA (l : OL S T) (i : Nat) (u : T → τ → T) (y : τ) : M S Unit := fun s => match l.get s with
  | some (t, n) => if i < n then .ok () (l.set s (u t y, n)) else .stuck
  | none => .stuck
def newA (l : OL S T) (i : Nat) (u : T → τ → T) (y : τ) : M S Unit := fun s => match l.get s with
  | some (t, n) => if i = n then .ok () (l.set s (u t y, n + 1)) else .stuck
  | none => .stuck
def hereA (l : OL S T) : M S Unit := fun s => if (l.get s).isSome then .ok () s else .stuck
def frzA (l : OL S T) (dr : S → S) (N : Nat) : M S T := fun s => match l.get s with
  | some (t, n) => if n = N then .ok t (dr s) else .stuck
  | none => .stuck
end
theorem CD.take {T : Type} (d : CD T) (t : T) (n : Nat) : ((d.all t).take n).map (·.1) = d.names.take n := by rw [List.map_take, d.hn]
theorem ObjAt.names {T : Type} {d : CD T} {t : T} {n : Nat} {x C dx : Addr} {vs : List (Str × V)} {as : List Addr} {B G : Hp} (h : ObjAt x C dx ((d.all t).take n) vs as B G) : vs.map (·.1) = d.names.take n := by rw [h.fsp.names, d.take]
theorem ObjAt.ndn {T : Type} {d : CD T} {t : T} {n : Nat} {x C dx : Addr} {vs : List (Str × V)} {as : List Addr} {B G : Hp} (h : ObjAt x C dx ((d.all t).take n) vs as B G) : (vs.map (·.1)).Nodup := by
  rw [h.names]
  exact (List.take_sublist _ _).nodup d.nd
/-! the object's address -/
def rSelfU (x : Addr) : Rp Unit := fun _ => ⟨fun v _ => v = .ref x, fun _ h => h⟩
section
variable {Z : Zc} {Γ : Ctx} {α β γ T U ρ τ : Type} {e a b c o : Expr} {es : List Expr} {pos p apos : Pos} {Γ' : T → Ctx} {Γb : U → Ctx} {ρr : Res ρ} {rest : List Stmt} {Tt : Type} {l : OL Z.S Tt} {x C dx : Addr} {d : CD Tt} {i : Nat} {f : Str}
theorem so_am {m : Str} (cap : ObjR l Z.R x C dx d) (hm : m ∉ d.names := by exact of_decide_eq_true rfl) : SelfOk Z C m (rSelfU x) (hereA l) := ⟨fun s => by
    unfold hereA
    by_cases h : (l.get s).isSome = true
    · rw [if_pos h]; exact .inl rfl
    · rw [if_neg h]; exact .inr rfl, fun {s G B H y v} gd g b r h => by
    have h : v = .ref x := h
    unfold hereA at gd
    cases e : l.get s with
    | none => rw [e] at gd; cases gd
    | some q =>
      obtain ⟨t, n⟩ := q
      obtain ⟨vs, as, oa, _⟩ := cap.has r e
      refine ⟨x, dx, vs, h, b _ _ oa.at_, look_no fun z => hm ?_⟩
      rw [oa.names] at z
      exact List.mem_of_mem_take z⟩
/-- what a read of a field knows -/
theorem getA_of {g : Tt → τ} {k : τ → M Z.S β} {ρ : Res β} {s : Z.S} {G : Hp} {σ : L2.St} {Q : VK} (q : PostE Z Γ ρ σ Q G (bnd (getA l i g) k s)) : ∃ t n, l.get s = some (t, n) ∧ i < n ∧ PostE Z Γ ρ σ Q G (k (g t) s) := by
  have q : PostE Z Γ ρ σ Q G ((getA l i g s).bnd k) := q
  unfold getA at q
  cases e : l.get s with
  | none => rw [e] at q; exact q.elim
  | some tn =>
    obtain ⟨t, n⟩ := tn
    rw [e] at q
    dsimp only at q
    by_cases h : i < n
    · rw [if_pos h] at q
      exact ⟨t, n, rfl, h, q⟩
    · rw [if_neg h] at q
      exact q.elim
theorem getA_of' {g : Tt → τ} {ρ : Res τ} {s : Z.S} {G : Hp} {σ : L2.St} {Q : VK} (q : PostE Z Γ ρ σ Q G (getA l i g s)) : ∃ t n, l.get s = some (t, n) ∧ i < n ∧ PostE Z Γ ρ σ Q G (ret (g t) s) := by
  refine getA_of (k := ret) ?_
  show PostE Z Γ ρ σ Q G ((getA l i g s).bnd ret)
  revert q
  cases getA l i g s with
  | ok _ _ => exact fun q => q
  | err _ _ => exact fun q => q
  | stuck => exact fun q => q
theorem getA_ofT {g : Tt → τ} {k : τ → M Z.S Bool} {s : Z.S} {G : Hp} {σ : L2.St} {Q : Bool → Hp → Prop} (q : PostT Z Γ σ Q G (bnd (getA l i g) k s)) : ∃ t n, l.get s = some (t, n) ∧ i < n ∧ PostT Z Γ σ Q G (k (g t) s) := by
  have q : PostT Z Γ σ Q G ((getA l i g s).bnd k) := q
  unfold getA at q
  cases e : l.get s with
  | none => rw [e] at q; exact q.elim
  | some tn =>
    obtain ⟨t, n⟩ := tn
    rw [e] at q
    dsimp only at q
    by_cases h : i < n
    · rw [if_pos h] at q
      exact ⟨t, n, rfl, h, q⟩
    · rw [if_neg h] at q
      exact q.elim
theorem take_at {α : Type} {xs : List α} {i n : Nat} {y : α} (h : xs[i]? = some y) (hi : i < n) : (xs.take n)[i]? = some y := by rw [List.getElem?_take_of_lt hi]; exact h
/-- self.f, a value -/
theorem je_amF {r : Rp β} {m : M Z.S Unit} (g : Tt → β) (cap : ObjR l Z.R x C dx d) (cl : Cls Z.X.K C) (na : NoAttr Z.X.K C f) (h : JE Z Γ e m (.fz (rSelfU x))) (hi : ∀ t, (d.all t)[i]? = some (f, .fz (r (g t))) := by intro _; rfl) (hb : attributeBase e f Z.X.env (eval e Z.X.env) = eval e Z.X.env := by rfl) :
    JE Z Γ (.Attribute e f pos) (bnd m fun _ => getA l i g) (.fz r) :=
  je_one (t' := fun t => tFld Z.X.K t f) (fun _ => getA l i g) (.fz r) (fun _ p => pe_fld p hb) (fun _ _ _ _ => rfl) h fun _ v s G B σ H Q st hv q => by
    obtain ⟨t, n, e, hn, q⟩ := getA_of' q
    obtain ⟨vs, as, oa, _⟩ := cap.has st.res e
    obtain ⟨u, h1, h2⟩ := oa.fsp.fz_at (take_at (hi t) hn)
    exact ⟨x, C, dx, vs, u, hv, st.ok.bh _ _ oa.at_, cl, na, look_nd oa.ndn h1, fin q st h2⟩
/-- a field's thing of one's own -/
theorem am_at {O : Tt → OwK} (cap : ObjR l Z.R x C dx d) (hi : ∀ t, (d.all t)[i]? = some (f, .ow (O t))) {s : Z.S} {G B : Hp} {t : Tt} {n : Nat} (r : (Z.R s).p B G) (e : l.get s = some (t, n)) (hn : i < n) : ∃ vs q o, B x = some (.ins C dx vs) ∧ vs.lookup f = some (.ref q) ∧ B q = some o ∧ (O t).L.p o G ∧
    ∀ {G' : Hp} {t' : Tt} {o' : HO}, Same G G' → (∀ j, j ≠ i → (d.all t')[j]? = (d.all t)[j]?) → (O t').L.p o' G' → (Z.R (l.set s (t', n))).p (upd B q o') G' := by
  obtain ⟨vs, as, oa, up⟩ := cap.has r e
  obtain ⟨n1, n2⟩ := List.nodup_cons.mp oa.nd
  obtain ⟨q, o, h1, h2, h3, h4, h5⟩ := oa.fsp.ow_at n2 (take_at (hi t) hn)
  refine ⟨vs, q, o, oa.at_, look_nd oa.ndn h1, h3, h4, fun {G' t' o'} g hj ho => ?_⟩
  have e1 : ((d.all t).take n).set i (f, .ow (O t')) = (d.all t').take n := by
    apply List.ext_getElem?
    intro j
    by_cases z : j = i
    · subst z
      have hl : j < ((d.all t).take n).length := (List.getElem?_eq_some_iff.mp (take_at (hi t) hn)).1
      rw [List.getElem?_set_self hl, take_at (hi t') hn]
    · rw [List.getElem?_set_ne (Ne.symm z)]
      by_cases z2 : j < n
      · rw [List.getElem?_take_of_lt z2, List.getElem?_take_of_lt z2, hj j z]
      · rw [List.getElem?_eq_none (by rw [List.length_take]; omega), List.getElem?_eq_none (by rw [List.length_take]; omega)]
  have nx : x ≠ q := fun z => n1 (by rw [z]; exact h2)
  refine up (as' := as) (vs' := vs) g ⟨by rw [upd_ne nx]; exact oa.at_, by rw [← e1]; exact h5 g ho, oa.nd⟩ (fun b hb _ => ?_) (fun b hb hb' => absurd hb hb') (fun b hb hb' => absurd hb hb')
  rw [upd_ne fun z => hb (by rw [z]; exact List.mem_cons_of_mem _ h2)]
end
end DL
set_option Elab.async false
set_option linter.all false
set_option maxRecDepth 100000
namespace DL
open PySem PySem.Spec PyProof.Rows L2
/-! ### expressions that change nothing -/
def rdM {S α : Type} (pm : S → Option α) : M S α := fun s => match pm s with
  | some y => .ok y s
  | none => .stuck
@[simp] theorem rdM_some {S α : Type} (x : α) : (rdM (fun _ : S => some x)) = ret x := rfl
structure JP (Z : Zc) (Γ : Ctx) (e : Expr) {α : Type} (pm : Z.S → Option α) (r : Rp α) : Prop where
  ex : ∃ t, PE Z.X e t ∧ ∀ {s : Z.S} {G B : Hp} {σ : L2.St} {H : Hp} {Q : VK}, Sta Z Γ s G B σ H → ∀ y, pm s = some y → (∀ v H' G', Same G G' → Sta Z Γ s G' B σ H' → (r y).p v G' → Q v H') → t σ H Q
section
variable {Z : Zc} {Γ : Ctx} {α β γ T U ρ τ : Type} {e a b c o : Expr} {es : List Expr} {pos p apos : Pos} {Γ' : T → Ctx} {Γb : U → Ctx} {ρr : Res ρ} {rest : List Stmt} {Tt : Type} {l : OL Z.S Tt} {x C dx : Addr} {d : CD Tt} {i : Nat} {f : Str}
theorem rdM_of {pm : Z.S → Option α} {k : α → M Z.S β} {ρ : Res β} {s : Z.S} {G : Hp} {σ : L2.St} {Q : VK} (q : PostE Z Γ ρ σ Q G (bnd (rdM pm) k s)) : ∃ y, pm s = some y ∧ PostE Z Γ ρ σ Q G (k y s) := by
  have q : PostE Z Γ ρ σ Q G ((rdM pm s).bnd k) := q
  unfold rdM at q
  cases e : pm s with
  | none => rw [e] at q; exact q.elim
  | some y => rw [e] at q; exact ⟨y, rfl, q⟩
theorem JP.je {pm : Z.S → Option α} {r : Rp α} (h : JP Z Γ e pm r) : JE Z Γ e (rdM pm) (.fz r) := by
  obtain ⟨t, pt, ht⟩ := h.ex
  refine ⟨PE.imp pt fun σ H Q ⟨s, G, B, st, q⟩ => ?_⟩
  have q : PostE Z Γ (.fz r) σ Q G (rdM pm s) := q
  unfold rdM at q
  cases e : pm s with
  | none => rw [e] at q; exact q.elim
  | some y =>
    rw [e] at q
    exact ht st y e fun v H' G' g st' hv => q v H' G' B g st' hv
theorem jp_var {n : Str} {r : Rp α} {y : α} (k : Nat) (hk : Γ[k]? = some (some (.fz (r y)))) (hp : PE Z.X (.Name n pos) (tVar k)) : JP Z Γ (.Name n pos) (fun _ => some y) r :=
  ⟨_, hp, fun {s G B σ H Q} st z ez q => by
    cases ez
    obtain ⟨v, h1, h2⟩ := st.sl.fz k _ hk
    exact ⟨v, h1, q v H G (Same.refl _) st h2⟩⟩
theorem jp_int {n : Int} {j : Nat} : JP Z Γ (.Constant (.int n) j pos) (fun _ => some n) rI :=
  ⟨_, pe_int, fun {s G B σ H Q} st z ez q => by
    cases ez
    exact q _ H G (Same.refl _) st rfl⟩
theorem jp_str {n : Str} {j : Nat} : JP Z Γ (.Constant (.str n) j pos) (fun _ => some n) rS :=
  ⟨_, pe_str, fun {s G B σ H Q} st z ez q => by
    cases ez
    exact q _ H G (Same.refl _) st rfl⟩
/-- e.f of an instance that stands still -/
theorem jp_fld {C : Addr} {fs : α → List (Str × MP V)} {r : Rp β} {pm : Z.S → Option α} (g : α → β) (cl : Cls Z.X.K C) (na : NoAttr Z.X.K C f) (h : JP Z Γ e pm (rObj C fs)) (hl : ∀ x, (fs x).lookup f = some (r (g x)) := by intro _; rfl) (hb : attributeBase e f Z.X.env (eval e Z.X.env) = eval e Z.X.env := by rfl) :
    JP Z Γ (.Attribute e f pos) (fun s => (pm s).map g) r := by
  obtain ⟨t, pt, ht⟩ := h.ex
  refine ⟨_, pe_fld pt hb, fun {s G B σ H Q} st z ez q => ?_⟩
  cases e1 : pm s with
  | none => rw [e1] at ez; cases ez
  | some y =>
    rw [e1] at ez
    have ez : g y = z := Option.some.inj ez
    subst ez
    refine ht st y e1 fun v H' G' g' st' hv => ?_
    obtain ⟨a, dx, vs, rfl, ha, hp⟩ := hv
    obtain ⟨u, hu, hr⟩ := hp.get (hl y)
    exact ⟨a, C, dx, vs, u, rfl, st'.ok.gh _ _ ha, cl, na, hu, q u H' G' g' st' hr⟩
/-- self.f, a value -/
theorem jp_amF {r : Rp β} (g : Tt → β) (cap : ObjR l Z.R x C dx d) (cl : Cls Z.X.K C) (na : NoAttr Z.X.K C f) {pm : Z.S → Option Unit} (h : JP Z Γ e pm (rSelfU x)) (hi : ∀ t, (d.all t)[i]? = some (f, .fz (r (g t))) := by intro _; rfl) (hb : attributeBase e f Z.X.env (eval e Z.X.env) = eval e Z.X.env := by rfl) :
    JP Z Γ (.Attribute e f pos) (fun s => (pm s).bind fun _ => (l.get s).bind fun q => if i < q.2 then some (g q.1) else none) r := by
  obtain ⟨t, pt, ht⟩ := h.ex
  refine ⟨_, pe_fld pt hb, fun {s G B σ H Q} st z ez q => ?_⟩
  cases e1 : pm s with
  | none => rw [e1] at ez; cases ez
  | some y =>
    rw [e1] at ez
    cases e2 : l.get s with
    | none => rw [e2] at ez; cases ez
    | some tn =>
      obtain ⟨tt, n⟩ := tn
      rw [e2] at ez
      have ez : (if i < n then some (g tt) else none) = some z := ez
      by_cases hn : i < n
      · rw [if_pos hn] at ez
        cases ez
        refine ht st y e1 fun v H' G' g' st' hv => ?_
        obtain ⟨vs, as, oa, _⟩ := cap.has st'.res e2
        obtain ⟨u, h1, h2⟩ := oa.fsp.fz_at (take_at (hi tt) hn)
        exact ⟨x, C, dx, vs, u, hv, st'.ok.bh _ _ oa.at_, cl, na, look_nd oa.ndn h1, q u H' G' g' st' h2⟩
      · rw [if_neg hn] at ez
        cases ez
section
variable {α1 α2 : Type} {r1 : Rp α1} {r2 : Rp α2} {pm : Z.S → Option (α1 × α2)}
theorem jp_t2_0 {j : Nat} {p2 : Pos} (h : JP Z Γ a pm (rT2 Z.X.K r1 r2)) : JP Z Γ (.Subscript a (.Constant (.int 0) j p2) pos) (fun s => (pm s).map (·.1)) r1 := by
  obtain ⟨t, pt, ht⟩ := h.ex
  refine ⟨_, pe_ix ix_tup pt pe_int (fun _ _ => rfl), fun {s G B σ H Q} st z ez q => ?_⟩
  cases e1 : pm s with
  | none => rw [e1] at ez; cases ez
  | some y =>
    rw [e1] at ez
    have ez : y.1 = z := Option.some.inj ez
    subst ez
    refine ht st y e1 fun v H' G' g' st' ⟨p, u1, u2, ev, ht, h1, h2⟩ => ?_
    exact ⟨p, _, 0, _, ev, rfl, Same.sqT st'.ok.gh ht, rfl, q _ H' G' g' st' h1⟩
theorem jp_t2_1 {j : Nat} {p2 : Pos} (h : JP Z Γ a pm (rT2 Z.X.K r1 r2)) : JP Z Γ (.Subscript a (.Constant (.int 1) j p2) pos) (fun s => (pm s).map (·.2)) r2 := by
  obtain ⟨t, pt, ht⟩ := h.ex
  refine ⟨_, pe_ix ix_tup pt pe_int (fun _ _ => rfl), fun {s G B σ H Q} st z ez q => ?_⟩
  cases e1 : pm s with
  | none => rw [e1] at ez; cases ez
  | some y =>
    rw [e1] at ez
    have ez : y.2 = z := Option.some.inj ez
    subst ez
    refine ht st y e1 fun v H' G' g' st' ⟨p, u1, u2, ev, ht, h1, h2⟩ => ?_
    exact ⟨p, _, 1, _, ev, rfl, Same.sqT st'.ok.gh ht, rfl, q _ H' G' g' st' h2⟩
end
/-! ### dicts in fields -/
section
variable {κ : Type} [DecidableEq κ] {kt : KeyT κ} {r : Rp α} {g : Tt → List (κ × α)}
theorem je_amIn (cap : ObjR l Z.R x C dx d) (cl : Cls Z.X.K C) (na : NoAttr Z.X.K C f) (hu : Z.X.A.units + 65 < cLine) {mk : M Z.S κ} {m : M Z.S Unit} (g : Tt → List (κ × α)) (hk : JE Z Γ a mk (.fz kt.rp)) (h : JE Z Γ e m (.fz (rSelfU x))) (hi : ∀ t, (d.all t)[i]? = some (f, .ow (owD kt r (g t))) := by intro _; rfl)
    (hb : attributeBase e f Z.X.env (eval e Z.X.env) = eval e Z.X.env := by rfl) (hm : behindInMarks .In (.Attribute e f p) = false := by rfl) :
    JE Z Γ (.Compare a [.In] [.Attribute e f p] pos) (bnd mk fun k => bnd m fun _ => bnd (getA l i g) fun dd => ret (dhas dd k)) (.fz rB) := by
  refine ⟨PE.imp (pe_cmp (pc_din (by omega) hk.pe (pe_fld h.pe hb)) hm) fun σ H Q ⟨s, G, B, st, q⟩ => ?_⟩
  refine tE.imp (tE_bnd (ρ := .fz kt.rp) st q) ?_
  rintro v H1 ⟨key, s1, G1, B1, g1, st1, hx, q1⟩
  refine tE.imp (tE_bnd (ρ := .fz (rSelfU x)) st1 q1) ?_
  rintro w H2 ⟨_, s2, G2, B2, g2, st2, hy, q2⟩
  obtain ⟨t, n, e1, hn, q2⟩ := getA_of q2
  obtain ⟨vs, ad, od, h1, h2, h3, h4, _⟩ := am_at cap hi st2.res e1 hn
  obtain ⟨ov, hg, z⟩ := dgetV_of (H := H2) (st2.ok.bh _ _ h3) h4 ((kt.rp key).mono g2 hx)
  refine ⟨x, C, dx, vs, _, hy, st2.ok.bh _ _ h1, cl, na, h2, ad, ov, rfl, hg, ?_⟩
  rcases z with ⟨z1, rfl⟩ | ⟨x', u, z1, rfl, z3⟩
  · exact fin q2 st2 (by unfold dhas; rw [z1]; rfl)
  · exact fin q2 st2 (by unfold dhas; rw [z1]; rfl)
theorem jt_amIn (cap : ObjR l Z.R x C dx d) (cl : Cls Z.X.K C) (na : NoAttr Z.X.K C f) (hu : Z.X.A.units + 65 < cLine) {mk : M Z.S κ} {m : M Z.S Unit} (g : Tt → List (κ × α)) (hk : JE Z Γ a mk (.fz kt.rp)) (h : JE Z Γ e m (.fz (rSelfU x))) (hi : ∀ t, (d.all t)[i]? = some (f, .ow (owD kt r (g t))) := by intro _; rfl)
    (hb : attributeBase e f Z.X.env (eval e Z.X.env) = eval e Z.X.env := by rfl) (hm : behindInMarks .In (.Attribute e f p) = false := by rfl) :
    JT Z Γ (.Compare a [.In] [.Attribute e f p] pos) (bnd mk fun k => bnd m fun _ => bnd (getA l i g) fun dd => ret (dhas dd k)) := by
  refine ⟨PT.imp (pt_cmp (pc_din (by omega) hk.pe (pe_fld h.pe hb)) hm) fun σ H Q ⟨s, G, B, st, q⟩ => ?_⟩
  refine tE.imp (tE_bndT (ρ := .fz kt.rp) st q) ?_
  rintro v H1 ⟨key, s1, G1, B1, g1, st1, hx, q1⟩
  refine tE.imp (tE_bndT (ρ := .fz (rSelfU x)) st1 q1) ?_
  rintro w H2 ⟨_, s2, G2, B2, g2, st2, hy, q2⟩
  obtain ⟨t, n, e1, hn, q2⟩ := getA_ofT q2
  obtain ⟨vs, ad, od, h1, h2, h3, h4, _⟩ := am_at cap hi st2.res e1 hn
  obtain ⟨ov, hg, z⟩ := dgetV_of (H := H2) (st2.ok.bh _ _ h3) h4 ((kt.rp key).mono g2 hx)
  refine ⟨x, C, dx, vs, _, hy, st2.ok.bh _ _ h1, cl, na, h2, ad, ov, rfl, hg, dhas (g t) key, ?_, q2 H2 G2 B2 (Same.refl _) st2⟩
  rcases z with ⟨z1, rfl⟩ | ⟨x', u, z1, rfl, z3⟩
  · unfold dhas; rw [z1]; rfl
  · unfold dhas; rw [z1]; rfl
theorem jt_amNin (cap : ObjR l Z.R x C dx d) (cl : Cls Z.X.K C) (na : NoAttr Z.X.K C f) (hu : Z.X.A.units + 65 < cLine) {mk : M Z.S κ} {m : M Z.S Unit} (g : Tt → List (κ × α)) (hk : JE Z Γ a mk (.fz kt.rp)) (h : JE Z Γ e m (.fz (rSelfU x))) (hi : ∀ t, (d.all t)[i]? = some (f, .ow (owD kt r (g t))) := by intro _; rfl)
    (hb : attributeBase e f Z.X.env (eval e Z.X.env) = eval e Z.X.env := by rfl) (hm : behindInMarks .NotIn (.Attribute e f p) = false := by rfl) :
    JT Z Γ (.Compare a [.NotIn] [.Attribute e f p] pos) (bnd mk fun k => bnd m fun _ => bnd (getA l i g) fun dd => ret (!dhas dd k)) := by
  refine ⟨PT.imp (pt_cmp (pc_dnotin (by omega) hk.pe (pe_fld h.pe hb)) hm) fun σ H Q ⟨s, G, B, st, q⟩ => ?_⟩
  refine tE.imp (tE_bndT (ρ := .fz kt.rp) st q) ?_
  rintro v H1 ⟨key, s1, G1, B1, g1, st1, hx, q1⟩
  refine tE.imp (tE_bndT (ρ := .fz (rSelfU x)) st1 q1) ?_
  rintro w H2 ⟨_, s2, G2, B2, g2, st2, hy, q2⟩
  obtain ⟨t, n, e1, hn, q2⟩ := getA_ofT q2
  obtain ⟨vs, ad, od, h1, h2, h3, h4, _⟩ := am_at cap hi st2.res e1 hn
  obtain ⟨ov, hg, z⟩ := dgetV_of (H := H2) (st2.ok.bh _ _ h3) h4 ((kt.rp key).mono g2 hx)
  refine ⟨x, C, dx, vs, _, hy, st2.ok.bh _ _ h1, cl, na, h2, ad, ov, rfl, hg, !dhas (g t) key, ?_, q2 H2 G2 B2 (Same.refl _) st2⟩
  rcases z with ⟨z1, rfl⟩ | ⟨x', u, z1, rfl, z3⟩
  · unfold dhas; rw [z1]; rfl
  · unfold dhas; rw [z1]; rfl
/-- self.f[b] -/
theorem je_amGet (cap : ObjR l Z.R x C dx d) (cl : Cls Z.X.K C) (na : NoAttr Z.X.K C f) (hu : Z.X.A.units + 65 < cLine) {pk : Z.S → Option κ} {m : M Z.S Unit} (g : Tt → List (κ × α)) (h : JE Z Γ e m (.fz (rSelfU x))) (hk : JP Z Γ b pk kt.rp) (hi : ∀ t, (d.all t)[i]? = some (f, .ow (owD kt r (g t))) := by intro _; rfl)
    (hb : attributeBase e f Z.X.env (eval e Z.X.env) = eval e Z.X.env := by rfl) (hs : NoSl b := by exact fun _ _ => rfl) :
    JE Z Γ (.Subscript (.Attribute e f p) b pos) (bnd m fun _ => bnd (rdM pk) fun k => bnd (getA l i g) fun dd => opt (dget dd k)) (.fz r) := by
  obtain ⟨tk, ptk, htk⟩ := hk.ex
  refine ⟨PE.imp (pe_dget (by omega) (pe_fld h.pe hb) ptk hs) fun σ H Q ⟨s, G, B, st, q⟩ => ?_⟩
  refine tE.imp (tE_bnd (ρ := .fz (rSelfU x)) st q) ?_
  rintro w H1 ⟨_, s1, G1, B1, g1, st1, hy, q1⟩
  obtain ⟨key, ek, q1⟩ := rdM_of q1
  obtain ⟨t, n, e1, hn, q1⟩ := getA_of q1
  obtain ⟨vs, ad, od, h1, h2, h3, h4, _⟩ := am_at cap hi st1.res e1 hn
  refine ⟨x, C, dx, vs, _, hy, st1.ok.bh _ _ h1, cl, na, h2, ?_⟩
  refine htk st1 key ek fun v H2 G2 g2 st2 hv => ?_
  obtain ⟨y, ey, q1⟩ := opt_of' q1
  obtain ⟨ov, hg, z⟩ := dgetV_of (H := H2) (st2.ok.bh _ _ h3) ((owD kt r (g t)).L.mono g2 h4) hv
  rcases z with ⟨z1, z2⟩ | ⟨x', u, z1, z2, z3⟩
  · rw [ey] at z1
    cases z1
  · rw [ey] at z1
    cases z1
    subst z2
    exact ⟨ad, u, rfl, hg, q1 u H2 G2 B1 g2 st2 z3⟩
/-- self.f[b] = v -/
def dputA {S T : Type} (l : OL S T) (i : Nat) (g : T → List (κ × α)) (u : T → List (κ × α) → T) (k : κ) (y : α) : M S Unit := bnd (getA l i g) fun dd => bnd (dputM dd k y) fun d2 => putA l i u d2
theorem getA_ofB {T U ρ : Type} {Γ' : T → Ctx} {Γb : U → Ctx} {ρr : Res ρ} {D : Ends} {g : Tt → τ} {k : τ → M Z.S (Fl T U ρ)} {s : Z.S} {G : Hp} (q : PostB Z Γ' Γb ρr D G (bnd (getA l i g) k s)) : ∃ t n, l.get s = some (t, n) ∧ i < n ∧ PostB Z Γ' Γb ρr D G (k (g t) s) := by
  have q : PostB Z Γ' Γb ρr D G ((getA l i g s).bnd k) := q
  unfold getA at q
  cases e : l.get s with
  | none => rw [e] at q; exact q.elim
  | some tn =>
    obtain ⟨t, n⟩ := tn
    rw [e] at q
    dsimp only at q
    by_cases h : i < n
    · rw [if_pos h] at q
      exact ⟨t, n, rfl, h, q⟩
    · rw [if_neg h] at q
      exact q.elim
theorem rdM_ofB {T U ρ : Type} {Γ' : T → Ctx} {Γb : U → Ctx} {ρr : Res ρ} {D : Ends} {pm : Z.S → Option α} {k : α → M Z.S (Fl T U ρ)} {s : Z.S} {G : Hp} (q : PostB Z Γ' Γb ρr D G (bnd (rdM pm) k s)) : ∃ y, pm s = some y ∧ PostB Z Γ' Γb ρr D G (k y s) := by
  have q : PostB Z Γ' Γb ρr D G ((rdM pm s).bnd k) := q
  unfold rdM at q
  cases e : pm s with
  | none => rw [e] at q; exact q.elim
  | some y => rw [e] at q; exact ⟨y, rfl, q⟩
theorem putA_ofB {T U ρ : Type} {Γ' : T → Ctx} {Γb : U → Ctx} {ρr : Res ρ} {D : Ends} {u : Tt → τ → Tt} {y : τ} {k : Unit → M Z.S (Fl T U ρ)} {s : Z.S} {G : Hp} {t : Tt} {n : Nat} (e : l.get s = some (t, n)) (hn : i < n) (q : PostB Z Γ' Γb ρr D G (bnd (putA l i u y) k s)) : PostB Z Γ' Γb ρr D G (k () (l.set s (u t y, n))) := by
  have q : PostB Z Γ' Γb ρr D G ((putA l i u y s).bnd k) := q
  unfold putA at q
  rw [e] at q
  dsimp only at q
  rw [if_pos hn] at q
  exact q
/-- what the resource holds changes -/
theorem Sta.am {s s' : Z.S} {G B : Hp} {σ : L2.St} {H : Hp} {q : Addr} {o o' : HO} (st : Sta Z Γ s G B σ H) (hq : B q = some o) (r : (Z.R s').p (upd B q o') G) : Sta Z Γ s' G (upd B q o') σ (upd H q o') := by
  have gq : G q = none := by
    cases e : G q with
    | none => rfl
    | some u =>
      have z := st.ok.dj _ _ e
      rw [hq] at z
      cases z
  have nb : ∀ {b : Addr}, B b = none → b ≠ q := fun {b} e z => by rw [z, hq] at e; cases e
  refine ⟨⟨Same.upd_r st.ok.gh gq, Same.upd2 st.ok.bh, fun b u e => ?_, st.ok.g0, fun b u e => ?_, fun b u e e2 => ?_, st.ok.gn, fun b u e e2 => ?_⟩, r, ⟨st.sl.len, st.sl.fz, fun k L e => ?_, st.sl.ne⟩, st.sle, fun b u e => ?_, fun b u e => ?_⟩
  · rw [upd_ne (ne_of_none e gq)]
    exact st.ok.dj b u e
  · by_cases z : b = q
    · exact ⟨o', by rw [z]; exact upd_same⟩
    · rw [upd_ne z]
      exact st.ok.up b u e
  · rw [upd_ne (nb (st.ok.bn b u e e2))]
    exact st.ok.out b u e e2
  · rw [upd_ne (nb (st.ok.bn b u e e2))]
    exact st.ok.bn b u e e2
  · obtain ⟨c, w, h1, h2, h3, h4, h5, h6⟩ := st.sl.lv k L e
    exact ⟨c, w, h1, by rw [upd_ne (nb h5)]; exact h2, h3, h4, by rw [upd_ne (nb h5)]; exact h5, h6⟩
  · rw [upd_ne (nb (st.off b u e).2.1)]
    exact st.held b u e
  · obtain ⟨h1, h2, h3⟩ := st.off b u e
    exact ⟨h1, by rw [upd_ne (nb h2)]; exact h2, h3⟩
theorem jb_amPut (cap : ObjR l Z.R x C dx d) (cl : Cls Z.X.K C) (na : NoAttr Z.X.K C f) (hu : Z.X.A.units + 1 < cLine) {p1 p2 : Pos} {pk : Z.S → Option κ} {m : M Z.S Unit} {mv : M Z.S α} {F : M Z.S (Fl T U ρ)} (g : Tt → List (κ × α)) (u : Tt → List (κ × α) → Tt) (hv : JE Z Γ e mv (.fz r)) (h : JE Z Γ o m (.fz (rSelfU x))) (hk : JP Z Γ b pk kt.rp)
    (hr : JB Z Γ rest F Γ' Γb ρr) (hi : ∀ t, (d.all t)[i]? = some (f, .ow (owD kt r (g t))) := by intro _; rfl) (hg : ∀ t y, g (u t y) = y := by intro _ _; rfl) (hd : ∀ t y j, j ≠ i → (d.all (u t y))[j]? = (d.all t)[j]?) (hb : attributeBase o f Z.X.env (eval o Z.X.env) = eval o Z.X.env := by rfl)
    (hs : swapsWith e (some (.Subscript (.Attribute o f p1) b p2)) pos.line Z.X.env = pure false := by rfl) :
    JB Z Γ (.Assign [.Subscript (.Attribute o f p1) b p2] e pos :: rest) (bnd mv fun y => bnd m fun _ => bnd (rdM pk) fun k => bnd (dputA l i g u k y) fun _ => F) Γ' Γb ρr := by
  obtain ⟨tk, ptk, htk⟩ := hk.ex
  refine ⟨⟨fun pins s0 σ H D I ⟨s, G, B, st, q⟩ => ?_⟩⟩
  refine wpAny_execs_cons (thn ((ps_dput hu (pe_fld h.pe hb) ptk hv.pe hs).run pins s0 σ H { D with nx := (tS Z Γ F Γ' Γb ρr) D } I ?_) fun fl s1 hq => ?_)
  · refine tE.imp (tE_bndB (ρ := .fz r) st q) ?_
    rintro v H1 ⟨y, s1, G1, B1, g1, st1, hy, q1⟩
    refine tE.imp (tE_bndB (ρ := .fz (rSelfU x)) st1 q1) ?_
    rintro w H2 ⟨_, s2, G2, B2, g2, st2, hw, q2⟩
    obtain ⟨key, ek, q2⟩ := rdM_ofB q2
    unfold dputA at q2
    rw [bnd_assoc] at q2
    obtain ⟨t, n, e1, hn, q2⟩ := getA_ofB q2
    obtain ⟨vs, ad, od, h1, h2, h3, ⟨ws, eo, hws⟩, up⟩ := am_at cap hi st2.res e1 hn
    subst eo
    refine ⟨x, C, dx, vs, _, hw, st2.ok.bh _ _ h1, cl, na, h2, ?_⟩
    refine htk st2 key ek fun v3 H3 G3 g3 st3 hv3 => ?_
    unfold dputM at q2
    rw [bnd_assoc, bnd_assoc] at q2
    obtain ⟨c, q2⟩ := grd_ofB q2
    rw [bnd_ret] at q2
    have q3 := putA_ofB e1 hn q2
    have hws3 := hws.mono g3
    refine ⟨ad, _, rfl, .inl ⟨ws, kt.f key, st3.ok.bh _ _ h3, hv3, by rw [hws.length]; exact of_decide_eq_true c, rfl⟩, ?_⟩
    refine ⟨_, G3, _, st3.am h3 (up (t' := u t (dput (g t) key y)) g3 (hd t _) ?_), PostB.mono g3 q3⟩
    refine ⟨_, rfl, ?_⟩
    rw [hg]
    exact hws3.put ((r y).mono (g2.trans g3) hy)
  · cases fl with
    | next =>
      obtain ⟨σ', H', I', zz⟩ := hq
      exact hr.ps.run pins s1 σ' H' D I' zz
    | ret v => exact hq
    | brk => exact hq
    | cont => exact hq
end
end
end DL
set_option Elab.async false
set_option linter.all false
set_option maxRecDepth 100000
namespace DL
open PySem PySem.Spec PyProof.Rows L2
/-! ### the state without its resource -/
abbrev Zc.free (Z : Zc) : Zc := { Z with S := Unit, R := fun _ => ⟨fun _ _ => True, fun _ h => h⟩ }
section
variable {Z : Zc} {Γ : Ctx} {s : Z.S} {G B : Hp} {σ : L2.St} {H : Hp}
theorem Sta.forget (st : Sta Z Γ s G B σ H) : Sta Z.free Γ () G B σ H := ⟨st.ok, True.intro, ⟨st.sl.len, st.sl.fz, st.sl.lv, st.sl.ne⟩, st.sle, st.held, st.off⟩
theorem Sta.recall (st : Sta Z.free Γ () G B σ H) (r : (Z.R s).p B G) : Sta Z Γ s G B σ H := ⟨st.ok, r, ⟨st.sl.len, st.sl.fz, st.sl.lv, st.sl.ne⟩, st.sle, st.held, st.off⟩
/-- a thing of one's own goes to the resource -/
theorem Sta.give {q : Addr} {o : HO} (st : Sta Z.free Γ () G B σ H) (hq : H q = some o) (gq : G q = none) (fq : Z.F.H0 q = none) (dq : Z.hd q = none) (f : Off Γ σ q) : Sta Z.free Γ () G (upd B q o) σ H := by
  refine ⟨⟨st.ok.gh, Same.upd_l st.ok.bh hq, fun b u e => ?_, st.ok.g0, st.ok.up, st.ok.out, st.ok.gn, fun b u e e2 => ?_⟩, True.intro, ⟨st.sl.len, st.sl.fz, fun k L e => ?_, st.sl.ne⟩, st.sle, st.held, fun b u e => ?_⟩
  · rw [upd_ne (ne_of_none e gq)]
    exact st.ok.dj b u e
  · rw [upd_ne (ne_of_none e fq)]
    exact st.ok.bn b u e e2
  · obtain ⟨c, w, h1, h2, h3, h4, h5, h6⟩ := st.sl.lv k L e
    have ne : c ≠ q := fun z => f k L e (by rw [← z]; exact h1)
    exact ⟨c, w, h1, h2, h3, h4, by rw [upd_ne ne]; exact h5, h6⟩
  · obtain ⟨h1, h2, h3⟩ := st.off b u e
    exact ⟨h1, by rw [upd_ne (ne_of_none e dq)]; exact h2, h3⟩
/-- the state's names, one known better -/
theorem Sta.know {k : Nat} {A : MP V} {v : V} {y : Option Asn} (st : Sta Z Γ s G B σ H) (hy : ∀ L, y ≠ some (.lv L)) (hk : Γ[k]? = some y) (hs : σ[k]? = some (some v)) (h : A.p v G) : Sta Z (Γ.set k (some (.fz A))) s G B σ H := by
  have back : ∀ (j : Nat) (L : MP HO), (Γ.set k (some (.fz A)))[j]? = some (some (.lv L)) → Γ[j]? = some (some (.lv L)) := fun j L e => by
    rcases set_at e with ⟨rfl, z⟩ | ⟨n, z⟩
    · injection z with z
      injection z
    · exact z
  refine ⟨st.ok, st.res, ⟨by rw [List.length_set]; exact st.sl.len, fun j A' e => ?_, fun j L e => st.sl.lv j L (back j L e), fun j i L L' a e1 e2 => st.sl.ne j i L L' a (back j L e1) (back i L' e2)⟩, st.sle, st.held, st.off⟩
  rcases set_at e with ⟨rfl, z⟩ | ⟨n, z⟩
  · injection z with z
    injection z with z
    subst z
    exact ⟨v, hs, h⟩
  · exact st.sl.fz j A' z
end
section
variable {Z : Zc} {Γ : Ctx} {α β γ T U ρ τ : Type} {e a b c o : Expr} {es : List Expr} {pos p apos : Pos} {Γ' : T → Ctx} {Γb : U → Ctx} {ρr : Res ρ} {rest : List Stmt} {Tt : Type} {l : OL Z.S Tt} {x C dx : Addr} {d : CD Tt} {i : Nat} {f : Str}
theorem newA_ofB {D : Ends} {u : Tt → τ → Tt} {y : τ} {k : Unit → M Z.S (Fl T U ρ)} {s : Z.S} {G : Hp} (q : PostB Z Γ' Γb ρr D G (bnd (newA l i u y) k s)) : ∃ t, l.get s = some (t, i) ∧ PostB Z Γ' Γb ρr D G (k () (l.set s (u t y, i + 1))) := by
  have q : PostB Z Γ' Γb ρr D G ((newA l i u y s).bnd k) := q
  unfold newA at q
  cases e : l.get s with
  | none => rw [e] at q; exact q.elim
  | some tn =>
    obtain ⟨t, n⟩ := tn
    rw [e] at q
    dsimp only at q
    by_cases h : i = n
    · subst h
      rw [if_pos rfl] at q
      exact ⟨t, rfl, q⟩
    · rw [if_neg h] at q
      exact q.elim
theorem CD.grow {t t' : Tt} {F : Fd} (hi : (d.all t')[i]? = some (f, F)) (hd : ∀ j, j ≠ i → (d.all t')[j]? = (d.all t)[j]?) : (d.all t').take (i + 1) = (d.all t).take i ++ [(f, F)] := by
  have e : (d.all t').take i = (d.all t).take i := by
    apply List.ext_getElem?
    intro j
    by_cases z : j < i
    · rw [List.getElem?_take_of_lt z, List.getElem?_take_of_lt z, hd j (by omega)]
    · rw [List.getElem?_eq_none (by rw [List.length_take]; omega), List.getElem?_eq_none (by rw [List.length_take]; omega)]
  rw [List.take_add_one, hi, e]
  rfl
theorem CD.newn (hi : d.names[i]? = some f) {vs : List (Str × V)} (h : vs.map (·.1) = d.names.take i) : f ∉ vs.map (·.1) := by
  rw [h]
  intro z
  obtain ⟨h1, h2⟩ := List.getElem?_eq_some_iff.mp hi
  obtain ⟨j, hj, e⟩ := List.mem_iff_getElem.mp z
  rw [List.length_take] at hj
  rw [List.getElem_take] at e
  have z2 := List.pairwise_iff_getElem.mp d.nd j i (by omega) h1 (by omega)
  exact z2 (by rw [e, h2])
/-- self.f = e, the first time, a value -/
theorem jb_amNewF (cap : ObjR l Z.R x C dx d) (cl : Cls Z.X.K C) (na : NoAttr Z.X.K C f) {p1 : Pos} {r : Rp α} {m : M Z.S Unit} {mv : M Z.S α} {F : M Z.S (Fl T U ρ)} (g : Tt → α) (u : Tt → α → Tt) (hv : JE Z Γ e mv (.fz r)) (h : JE Z Γ o m (.fz (rSelfU x))) (hr : JB Z Γ rest F Γ' Γb ρr)
    (hd : ∀ t y j, j ≠ i → (d.all (u t y))[j]? = (d.all t)[j]?) (hi : ∀ t, (d.all t)[i]? = some (f, .fz (r (g t))) := by intro _; rfl) (hg : ∀ t y, g (u t y) = y := by intro _ _; rfl) (hf : d.names[i]? = some f := by rfl) (hlen : d.names.length < 1000 := by exact of_decide_eq_true rfl)
    (hs : swapsWith e (some (.Attribute o f p1)) pos.line Z.X.env = pure false := by rfl) :
    JB Z Γ (.Assign [.Attribute o f p1] e pos :: rest) (bnd mv fun y => bnd m fun _ => bnd (newA l i u y) fun _ => F) Γ' Γb ρr := by
  refine ⟨⟨fun pins s0 σ H D I ⟨s, G, B, st, q⟩ => ?_⟩⟩
  refine wpAny_execs_cons (thn ((ps_fld h.pe hv.pe hs).run pins s0 σ H { D with nx := (tS Z Γ F Γ' Γb ρr) D } I ?_) fun fl s1 hq => ?_)
  · refine tE.imp (tE_bndB (ρ := .fz r) st q) ?_
    rintro v H1 ⟨y, s1, G1, B1, g1, st1, hy, q1⟩
    refine tE.imp (tE_bndB (ρ := .fz (rSelfU x)) st1 q1) ?_
    rintro w H2 ⟨_, s2, G2, B2, g2, st2, hw, q2⟩
    obtain ⟨t, e1, q2⟩ := newA_ofB q2
    obtain ⟨vs, as, oa, up⟩ := cap.has st2.res e1
    have hnew := CD.newn hf oa.names
    have ll : vs.length < 1000 := by
      have z := congrArg List.length oa.names
      rw [List.length_map, List.length_take] at z
      omega
    refine ⟨x, C, dx, vs, hw, st2.ok.bh _ _ oa.at_, cl, na, ll, _, G2, _, st2.am oa.at_ ?_, q2⟩
    have hf2 := hi (u t y)
    rw [hg] at hf2
    have n1 := (List.nodup_cons.mp oa.nd).1
    refine up (as' := as) (vs' := vs ++ [(f, v)]) (Same.refl _) ⟨by rw [upd_same, putF_new hnew], ?_, oa.nd⟩ (fun b hb _ => ?_) (fun b hb hb' => absurd hb hb') (fun b hb hb' => absurd hb hb')
    · rw [CD.grow hf2 (hd t y)]
      refine FsP.snocF ((r y).mono g2 hy) (oa.fsp.frame fun b hb => ?_)
      rw [upd_ne fun z => n1 (by rw [← z]; exact hb)]
    · rw [upd_ne fun z => hb (by rw [z]; exact List.mem_cons_self)]
  · cases fl with
    | next =>
      obtain ⟨σ', H', I', zz⟩ := hq
      exact hr.ps.run pins s1 σ' H' D I' zz
    | ret v => exact hq
    | brk => exact hq
    | cont => exact hq
/-- self.f = e, the first time, a new thing of one's own -/
theorem jb_amNewO (cap : ObjR l Z.R x C dx d) (cl : Cls Z.X.K C) (na : NoAttr Z.X.K C f) {p1 pn : Pos} {k0 : Nat} {n0 : Str} {cc : α → MP HO} {O : α → OwK} {mv : M Z.S α} {F : M Z.S (Fl T U ρ)} (g : Tt → α) (u : Tt → α → Tt) (hv : JE Z Γ e mv (.own cc)) (h0 : Γ[k0]? = some (some (.fz (rSelfU x ())))) (hn : PE Z.X (.Name n0 pn) (tVar k0)) (hr : JB Z Γ rest F Γ' Γb ρr)
    (hd : ∀ t y j, j ≠ i → (d.all (u t y))[j]? = (d.all t)[j]?) (hO : ∀ y, (O y).L = cc y := by intro _; rfl) (hi : ∀ t, (d.all t)[i]? = some (f, .ow (O (g t))) := by intro _; rfl) (hg : ∀ t y, g (u t y) = y := by intro _ _; rfl) (hf : d.names[i]? = some f := by rfl) (hlen : d.names.length < 1000 := by exact of_decide_eq_true rfl)
    (hs : swapsWith e (some (.Attribute (.Name n0 pn) f p1)) pos.line Z.X.env = pure false := by rfl) :
    JB Z Γ (.Assign [.Attribute (.Name n0 pn) f p1] e pos :: rest) (bnd mv fun y => bnd (newA l i u y) fun _ => F) Γ' Γb ρr := by
  refine ⟨⟨fun pins s0 σ H D I ⟨s, G, B, st, q⟩ => ?_⟩⟩
  refine wpAny_execs_cons (thn ((ps_fld hn hv.pe hs).run pins s0 σ H { D with nx := (tS Z Γ F Γ' Γb ρr) D } I ?_) fun fl s1 hq => ?_)
  · refine tE.imp (tE_bndB (ρ := .own cc) st q) ?_
    rintro v H1 ⟨y, s1, G1, B1, g1, st1, ⟨q, o, rfl, hq, hc, gq, bq, fq, dq, off⟩, q1⟩
    obtain ⟨w, hw, ew⟩ := st1.sl.fz k0 _ h0
    have ew : w = .ref x := ew
    subst ew
    refine ⟨_, hw, ?_⟩
    obtain ⟨t, e1, q1⟩ := newA_ofB q1
    obtain ⟨vs, as, oa, up⟩ := cap.has st1.res e1
    have hnew := CD.newn hf oa.names
    have ll : vs.length < 1000 := by
      have z := congrArg List.length oa.names
      rw [List.length_map, List.length_take] at z
      omega
    have nx : x ≠ q := fun z => by
      have z2 := oa.at_
      rw [z, bq] at z2
      cases z2
    have qas : q ∉ as := fun z => by
      obtain ⟨o', e'⟩ := oa.fsp.some_ q z
      rw [bq] at e'
      cases e'
    have n1 := (List.nodup_cons.mp oa.nd).1
    have n2 := (List.nodup_cons.mp oa.nd).2
    have sta := Sta.am (Z := Z.free) (s' := ()) (st1.forget.give hq gq fq dq off) (q := x) (o' := .ins C dx (putF f (.ref q) vs)) (by rw [upd_ne nx]; exact oa.at_) True.intro
    refine ⟨x, C, dx, vs, rfl, st1.ok.bh _ _ oa.at_, cl, na, ll, _, G1, _, sta.recall ?_, q1⟩
    have hf2 := hi (u t y)
    rw [hg] at hf2
    refine up (as' := as ++ [q]) (vs' := vs ++ [(f, .ref q)]) (Same.refl _) ⟨by rw [upd_same, putF_new hnew], ?_, ?_⟩ (fun b hb hb' => ?_) (fun b hb hb' => ?_) (fun b hb hb' => absurd (List.mem_append_left _ hb) hb')
    · rw [CD.grow hf2 (hd t y)]
      refine FsP.snocO (o := o) ?_ (by rw [hO]; exact hc) (oa.fsp.frame fun b hb => ?_)
      · rw [upd_ne (Ne.symm nx), upd_same]
      · rw [upd_ne fun z => n1 (by rw [← z]; exact hb), upd_ne fun z => qas (by rw [← z]; exact hb)]
    · rw [List.nodup_cons, List.mem_append, not_or, List.nodup_append]
      refine ⟨⟨n1, by simpa using nx⟩, n2, by simp, fun a ha b hb z => ?_⟩
      rw [List.mem_singleton] at hb
      rw [hb] at z
      exact qas (by rw [← z]; exact ha)
    · have b1 : b ≠ x := fun z => hb (by rw [z]; exact List.mem_cons_self)
      have b2 : b ≠ q := fun z => hb' (by rw [z]; simp)
      rw [upd_ne b1, upd_ne b2]
    · rcases List.mem_append.mp hb with z | z
      · exact absurd z hb'
      · rw [List.mem_singleton.mp z]
        exact bq
  · cases fl with
    | next =>
      obtain ⟨σ', H', I', zz⟩ := hq
      exact hr.ps.run pins s1 σ' H' D I' zz
    | ret v => exact hq
    | brk => exact hq
    | cont => exact hq
/-! ### an instance becomes still -/
theorem frz_all {X : Cx} {pins : List (Addr × Obj)} {σ : L2.St} {s0 : Shared} {B : Hp} : ∀ {vs : List (Str × V)} {fs : List (Str × Fd)} {as : List Addr} {G H : Hp}, FsP G B vs fs as → as.Nodup → Inv X pins σ H s0 → (∀ a ∈ as, G a = none) → Same G H → (∀ a ∈ as, H a = B a) →
    ∃ G' H', Inv X pins σ H' s0 ∧ Same G G' ∧ Same G' H' ∧ (∀ a, a ∉ as → G' a = G a ∧ H' a = H a) ∧ (∀ a ∈ as, ∃ u, H' a = some u) ∧ FP G' vs (fs.map fun q => (q.1, q.2.A))
  | _, _, _, G, H, .nil, _, I, _, g, _ => ⟨G, H, I, Same.refl _, g, fun _ _ => ⟨rfl, rfl⟩, (fun _ h => by cases h), .nil⟩
  | _, _, _, G, H, .fz (A := A) h t, nd, I, gn, g, hb => by
    obtain ⟨G', H', I', g1, g2, h1, h2, h3⟩ := frz_all t nd I gn g hb
    exact ⟨G', H', I', g1, g2, h1, h2, .cons ⟨rfl, A.mono g1 h⟩ h3⟩
  | _, _, _, G, H, @FsP.ow _ _ f a o O vs fs as ha h t, nd, I, gn, g, hb => by
    obtain ⟨n1, n2⟩ := List.nodup_cons.mp nd
    have ga := gn a List.mem_cons_self
    have ea : H a = some o := by rw [hb a List.mem_cons_self]; exact ha
    have main : ∀ (o1 : HO) (H1 : Hp), Inv X pins σ H1 s0 → H1 a = some o1 → (∀ b, b ≠ a → H1 b = H b) → ((O.lk = false → o1 = o) ∧ (O.lk = true → ∃ od, o1 = .frz od o)) →
        ∃ G' H', Inv X pins σ H' s0 ∧ Same G G' ∧ Same G' H' ∧ (∀ b, b ∉ a :: as → G' b = G b ∧ H' b = H b) ∧ (∀ b ∈ a :: as, ∃ u, H' b = some u) ∧ FP G' ((f, .ref a) :: vs) (((f, Fd.ow O) :: fs).map fun q => (q.1, q.2.A)) := by
      intro o1 H1 I1 e1 e2 e3
      have g1 : Same G (upd G a o1) := Same.upd_new ga
      have g2 : Same (upd G a o1) H1 := fun b u q => by
        by_cases z : b = a
        · subst z
          rw [upd_same] at q
          rw [e1]
          exact q
        · rw [upd_ne z] at q
          rw [e2 b z]
          exact g b u q
      obtain ⟨G', H', I', k1, k2, k3, k4, k5⟩ := frz_all (t.mono g1) n2 I1 (fun b hb' => by rw [upd_ne fun z => n1 (by rw [← z]; exact hb')]; exact gn b (List.mem_cons_of_mem _ hb')) g2 (fun b hb' => by rw [e2 b fun z => n1 (by rw [← z]; exact hb')]; exact hb b (List.mem_cons_of_mem _ hb'))
      have eG : G' a = some o1 := by rw [(k3 a n1).1, upd_same]
      refine ⟨G', H', I', g1.trans k1, k2, fun b hb' => ?_, fun b hb' => ?_, .cons ⟨rfl, O.frz h (g1.trans k1) (fun z => by rw [eG, e3.1 z]) (fun z => ?_)⟩ k5⟩
      · rw [List.mem_cons, not_or] at hb'
        obtain ⟨m1, m2⟩ := k3 b hb'.2
        exact ⟨by rw [m1, upd_ne hb'.1], by rw [m2, e2 b hb'.1]⟩
      · rcases List.mem_cons.mp hb' with z | z
        · rw [z]
          exact ⟨o1, k2 _ _ eG⟩
        · exact k4 b z
      · obtain ⟨od, e4⟩ := e3.2 z
        exact ⟨od, by rw [eG, e4]⟩
    cases hl : O.lk with
    | false => exact main o H I ea (fun _ _ => rfl) ⟨fun _ => rfl, fun z => by rw [hl] at z; cases z⟩
    | true =>
      obtain ⟨od, I2⟩ := I.lock ea (O.mu h hl)
      exact main (.frz od o) _ I2 upd_same (fun b hb' => upd_ne hb') ⟨fun z => (by rw [hl] at z; cases z), fun _ => ⟨od, rfl⟩⟩
/-- the instance may leave the resource -/
structure ObjD {S T : Type} (l : OL S T) (R : S → MP Hp) (x C dx : Addr) (d : CD T) (dr : S → S) : Prop where
  out : ∀ {s : S} {B G : Hp} {t : T} {n : Nat}, (R s).p B G → l.get s = some (t, n) → ∃ vs as, ObjAt x C dx ((d.all t).take n) vs as B G ∧ ∀ {G' : Hp}, Same G G' → (R (dr s)).p (remL B (x :: as)) G'
theorem jb_amFrz {sts : List Stmt} {dr : Z.S → Z.S} {fsT : Tt → List (Str × MP V)} {k0 : Nat} {N : Nat} {m : Tt → M Z.S (Fl T U ρ)} (cap : ObjD l Z.R x C dx d dr) (h0 : Γ[k0]? = some (some (.fz (rSelfU x ())))) (h : ∀ t, JB Z (Γ.set k0 (some (.fz (rObjAt x C fsT t)))) sts (m t) Γ' Γb ρr)
    (hN : d.names.length = N := by rfl) (hfs : ∀ t, fsT t = (d.all t).map fun q => (q.1, q.2.A) := by intro _; rfl) : JB Z Γ sts (bnd (frzA l dr N) m) Γ' Γb ρr := by
  refine ⟨⟨fun pins s0 σ H D I ⟨s, G, B, st, q⟩ => ?_⟩⟩
  have q : PostB Z Γ' Γb ρr D G ((frzA l dr N s).bnd m) := q
  unfold frzA at q
  cases e : l.get s with
  | none => rw [e] at q; exact q.elim
  | some tn =>
    obtain ⟨t, n⟩ := tn
    rw [e] at q
    dsimp only at q
    by_cases hn : n = N
    case neg =>
      rw [if_neg hn] at q
      exact q.elim
    rw [if_pos hn] at q
    have q : PostB Z Γ' Γb ρr D G (m t (dr s)) := q
    obtain ⟨vs, as, oa, out⟩ := cap.out st.res e
    have eall : (d.all t).take n = d.all t := by
      apply List.take_of_length_le
      have z := congrArg List.length (d.hn t)
      rw [List.length_map] at z
      omega
    have fsp := oa.fsp
    rw [eall] at fsp
    obtain ⟨n1, n2⟩ := List.nodup_cons.mp oa.nd
    have gb : ∀ b u, B b = some u → G b = none := fun b u eb => by
      cases eg : G b with
      | none => rfl
      | some w =>
        have z := st.ok.dj b w eg
        rw [eb] at z
        cases z
    obtain ⟨G1, H1, I1, k1, k2, k3, k4, k5⟩ := frz_all fsp n2 I (fun b hb => by
      obtain ⟨u, eu⟩ := fsp.some_ b hb
      exact gb b u eu) st.ok.gh (fun b hb => by
      obtain ⟨u, eu⟩ := fsp.some_ b hb
      rw [eu, st.ok.bh b u eu])
    have gx : G1 x = none := by rw [(k3 x n1).1]; exact gb x _ oa.at_
    have hx1 : H1 x = some (.ins C dx vs) := by rw [(k3 x n1).2]; exact st.ok.bh _ _ oa.at_
    have g2 : Same G1 (upd G1 x (.ins C dx vs)) := Same.upd_new gx
    have g3 := k1.trans g2
    have nb : ∀ {b : Addr}, B b = none → b ∉ x :: as := fun {b} eb z => by
      rcases List.mem_cons.mp z with z | z
      · rw [z, oa.at_] at eb
        cases eb
      · obtain ⟨u, eu⟩ := fsp.some_ b z
        rw [eu] at eb
        cases eb
    have same : ∀ {b : Addr}, b ∉ x :: as → upd G1 x (.ins C dx vs) b = G b ∧ H1 b = H b := fun {b} hb => by
      rw [List.mem_cons, not_or] at hb
      obtain ⟨m1, m2⟩ := k3 b hb.2
      exact ⟨by rw [upd_ne hb.1, m1], m2⟩
    have live : ∀ {b : Addr} {w : HO}, H b = some w → ∃ w', H1 b = some w' := fun {b w} eb => by
      by_cases z : b ∈ as
      · exact k4 b z
      · exact ⟨w, by rw [(k3 b z).2]; exact eb⟩
    have st' : Sta Z Γ (dr s) (upd G1 x (.ins C dx vs)) (remL B (x :: as)) σ H1 := by
      refine ⟨⟨Same.upd_l k2 hx1, fun b u eb => ?_, fun b u eb => ?_, fun b u eb => g3 _ _ (st.ok.g0 b u eb), fun b u eb => ?_, fun b u eb e2 => ?_, fun b u eb e2 e3 => ?_, fun b u eb e2 => ?_⟩, out g3, ⟨st.sl.len, fun k A ek => ?_, fun k L ek => ?_, st.sl.ne⟩, ⟨st.sle.1, fun k A ek => ?_⟩, fun b u eb => ?_, fun b u eb => ?_⟩
      · by_cases z : b ∈ x :: as
        · rw [remL_in z] at eb
          cases eb
        · rw [remL_out z] at eb
          rw [(same z).2]
          exact st.ok.bh b u eb
      · by_cases z : b ∈ x :: as
        · exact remL_in z
        · rw [(same z).1] at eb
          rw [remL_out z]
          exact st.ok.dj b u eb
      · obtain ⟨w, ew⟩ := st.ok.up b u eb
        exact live ew
      · rw [(same (nb (st.ok.bn b u eb e2))).2]
        exact st.ok.out b u eb e2
      · rw [(same (nb (st.ok.bn b u eb e3))).1]
        exact st.ok.gn b u eb e2 e3
      · rw [remL_out (nb (st.ok.bn b u eb e2))]
        exact st.ok.bn b u eb e2
      · obtain ⟨v, m1, m2⟩ := st.sl.fz k A ek
        exact ⟨v, m1, A.mono g3 m2⟩
      · obtain ⟨c, w, m1, m2, m3, m4, m5, m6⟩ := st.sl.lv k L ek
        exact ⟨c, w, m1, by rw [(same (nb m5)).2]; exact m2, L.mono g3 m3, by rw [(same (nb m5)).1]; exact m4, by rw [remL_out (nb m5)]; exact m5, m6⟩
      · obtain ⟨v, m1, m2⟩ := st.sle.2 k A ek
        exact ⟨v, m1, A.mono g3 m2⟩
      · rw [(same (nb (st.off b u eb).2.1)).2]
        exact st.held b u eb
      · obtain ⟨m1, m2, m3⟩ := st.off b u eb
        exact ⟨by rw [(same (nb m2)).1]; exact m1, by rw [remL_out (nb m2)]; exact m2, m3⟩
    obtain ⟨w, hw, ew⟩ := st.sl.fz k0 _ h0
    have ew : w = .ref x := ew
    subst ew
    refine (h t).ps.run pins s0 σ H1 D I1 ⟨dr s, _, _, st'.know (fun L z => by cases z) h0 hw ⟨rfl, dx, vs, upd_same, ?_⟩, PostB.mono g3 q⟩
    rw [hfs]
    exact k5.mono g2
end
/-! ### an __init__ whose instance changes meanwhile -/
abbrev Opn (S T : Type) := S × Option (T × Nat)
def opnL {S T : Type} : OL (Opn S T) T := ⟨fun s => s.2, fun s p => (s.1, some p)⟩
def opnD {S T : Type} : Opn S T → Opn S T := fun s => (s.1, none)
theorem ObjAt.mono {x C dx : Addr} {fs : List (Str × Fd)} {vs : List (Str × V)} {as : List Addr} {B G G' : Hp} (h : ObjAt x C dx fs vs as B G) (g : Same G G') : ObjAt x C dx fs vs as B G' := ⟨h.at_, h.fsp.mono g, h.nd⟩
def RO {S T : Type} (R : S → MP Hp) (x C dx : Addr) (d : CD T) : Opn S T → MP Hp := fun s => ⟨fun B G => match s.2 with
    | none => (R s.1).p B G
    | some (t, n) => ∃ vs as, ObjAt x C dx ((d.all t).take n) vs as B G ∧ (R s.1).p (remL B (x :: as)) G, fun {B G G'} e h => by
    obtain ⟨s, q⟩ := s
    cases q with
    | none => exact (R s).mono e h
    | some tn =>
      obtain ⟨t, n⟩ := tn
      obtain ⟨vs, as, h1, h2⟩ := h
      exact ⟨vs, as, h1.mono e, (R s).mono e h2⟩⟩
theorem cap_opn {S T : Type} {R : S → MP Hp} {x C dx : Addr} {d : CD T} : ObjR opnL (RO R x C dx d) x C dx d := ⟨fun {s B G t n} r e => by
  obtain ⟨s, q⟩ := s
  have e : q = some (t, n) := e
  subst e
  obtain ⟨vs, as, h1, h2⟩ := r
  refine ⟨vs, as, h1, fun {B' G' t' n' vs' as'} g o' e1 e2 e3 => ⟨vs', as', o', ?_⟩⟩
  have eB : remL B' (x :: as') = remL B (x :: as) := by
    funext b
    by_cases z : b ∈ x :: as
    · by_cases z' : b ∈ x :: as'
      · rw [remL_in z, remL_in z']
      · rw [remL_in z, remL_out z']
        rcases List.mem_cons.mp z with w | w
        · exact absurd (by rw [w]; exact List.mem_cons_self) z'
        · exact e3 b w fun w2 => z' (List.mem_cons_of_mem _ w2)
    · by_cases z' : b ∈ x :: as'
      · rw [remL_out z, remL_in z']
        rcases List.mem_cons.mp z' with w | w
        · exact absurd (by rw [w]; exact List.mem_cons_self) z
        · exact (e2 b w fun w2 => z (List.mem_cons_of_mem _ w2)).symm
      · rw [remL_out z, remL_out z', e1 b z z']
  show (R s).p (remL B' (x :: as')) G'
  rw [eB]
  exact (R s).mono g h2⟩
theorem cap_opnD {S T : Type} {R : S → MP Hp} {x C dx : Addr} {d : CD T} : ObjD opnL (RO R x C dx d) x C dx d opnD := ⟨fun {s B G t n} r e => by
  obtain ⟨s, q⟩ := s
  have e : q = some (t, n) := e
  subst e
  obtain ⟨vs, as, h1, h2⟩ := r
  exact ⟨vs, as, h1, fun {G'} g => (R s).mono g h2⟩⟩
def runO {S T : Type} (t0 : T) (m : M (Opn S T) (Fl T Empty Unit)) : M S T := fun s => match m (s, some (t0, 0)) with
  | .ok (.nx t) (s', none) => .ok t s'
  | .ok _ _ => .stuck
  | .err e s' => .err e s'.1
  | .stuck => .stuck
theorem Ok.shut {H G B G' B' H' : Hp} {x : Addr} {o : HO} (h : Ok ⟨H, G, upd B x o⟩ G' B' H') : Ok ⟨rem H x, G, B⟩ G' B' H' :=
  ⟨h.gh, h.bh, h.dj, h.g0, fun a u e => h.up a u (rem_some e).2, fun a u e b => h.out a u (rem_some e).2 (by show upd B x o a = none; rw [upd_ne (rem_some e).1]; exact b),
   fun a u e g b => h.gn a u (rem_some e).2 g (by show upd B x o a = none; rw [upd_ne (rem_some e).1]; exact b), fun a u e b => h.bn a u (rem_some e).2 (by show upd B x o a = none; rw [upd_ne (rem_some e).1]; exact b)⟩
theorem none_of {B B' : Hp} {a : Addr} (l : ∀ a o, B' a = some o → B a = some o) (h : B a = none) : B' a = none := by
  cases e : B' a with
  | none => rfl
  | some u =>
    rw [l a u e] at h
    cases h
theorem Ok.cut {F : Fm} {G B B' H : Hp} (h : Ok F G B H) (l : ∀ a o, B' a = some o → B a = some o) : Ok F G B' H :=
  ⟨h.gh, fun a o e => h.bh a o (l a o e), fun a o e => (none_of l (h.dj a o e)), h.g0, h.up, h.out, h.gn, fun a o e b => none_of l (h.bn a o e b)⟩
section
variable {α T : Type} {P : Program} {w : World} {K : PySem.W.Frag} {mg : Str → Option Value} {base : Heap} {x qual : Str} {params : Arguments} {body : List Stmt} {scope : Scope} {dvs : List V} {kws : List (Str × V)} {fa : Addr} {fd : FuncData} {N ps : List Str} {k : Nat}
theorem fn_mkO {Cap : CapT} {C : Addr} {cd : CD T} {t0 : T} {ra : (S : Type) → (R : S → MP Hp) → Cap S R → α → List V → Hp → Prop} {fs : T → List (Str × MP V)} {f : (S : Type) → (R : S → MP Hp) → Cap S R → α → M S T} {mb : (S : Type) → (R : S → MP Hp) → Cap S R → α → M (Opn S T) (Fl T Empty Unit)} {Γ0 : (S : Type) → (R : S → MP Hp) → Cap S R → α → Ctx} {Γb : Empty → Ctx}
    (F : FunD K x qual params body scope dvs kws fa fd) (S : FnScope N ps scope) (hlen : ∀ S R c x vs G, ra S R c x vs G → vs.length + 1 = ps.length) (hf : ∀ S R c x, f S R c x = runO t0 (mb S R c x)) (hΓ : ∀ S R c x vs G, ra S R c x vs G → StartOk (Γ0 S R c x) vs G) (hN : ∀ S R c x, (Γ0 S R c x).length + 1 ≤ N.length) (hps : ps.length ≤ N.length)
    (hb : ∀ (cdv : Value) (A : Around) (outer : List Env) (s : Shared) (H : Hp) (E : XK) (Fm : Fm) (S : Type) (R : S → MP Hp) (c : Cap S R) (y : α) (a dx : Addr), Room k (A.deeper (envOfC qual scope s.heap.objs.size fa cdv)) → ZOk (ZF P w K mg base N qual scope fa cdv A outer s H E Fm (Opn S T) (RO R a C dx cd)) →
      JB (ZF P w K mg base N qual scope fa cdv A outer s H E Fm (Opn S T) (RO R a C dx cd)) (some (.fz (rSelfU a ())) :: Γ0 S R c y) body (mb S R c y) (fun t => [some (.fz (rObjAt a C fs t))]) Γb (.fz rU)) : FnOk P w K mg base (L2.CX P w) (k + 1) fa fd ps (spI mg C ra fs f) := by
  refine F.ok S (fun vs H Q E ⟨S', R, c, s, G, B, y, a, dx, ws, ev, ha, ga, ba, gh, bh, dj, r, hra, q⟩ => by rw [ev, List.length_cons]; exact hlen S' R c y ws G hra) fun cdv A outer s0 H vs Q E hr ⟨S', R, c, s, G, B, y, a, dx, ws, ev, ha, ga, ba, gh, bh, dj, r, hra, q⟩ => ?_
  subst ev
  have hl1 := hlen S' R c y ws G hra
  have r0 : (RO R a C dx cd (s, some (t0, 0))).p (upd B a (.ins C dx [])) G := by
    refine ⟨[], [], ⟨upd_same, .nil, by simp⟩, ?_⟩
    have eB : remL (upd B a (.ins C dx [])) [a] = B := by
      funext b
      by_cases z : b = a
      · rw [remL_in (by rw [z]; simp), z, ba]
      · rw [remL_out (by simpa using z), upd_ne z]
    show (R s).p (remL (upd B a (.ins C dx [])) [a]) G
    rw [eB]
    exact r
  have st := start_sta (P := P) (w := w) (K := K) (mg := mg) (base := base) (N := N) (qual := qual) (scope := scope) (f := fa) (cdv := cdv) (A := A) (outer := outer) (s0 := s0) (E := E) (R := RO R a C dx cd) (Γ0 := some (.fz (rSelfU a ())) :: Γ0 S' R c y) (vs := .ref a :: ws) gh (Same.upd_l bh ha) (fun b u e => by rw [upd_ne (ne_of_none e ga)]; exact dj b u e) r0
    (by rw [List.length_cons]; exact hN S' R c y) (by rw [List.length_cons, hl1]; exact hps) (so_some rfl (hΓ S' R c y ws G hra))
  refine ⟨_, (hb cdv A outer s0 H E ⟨H, G, upd B a (.ins C dx [])⟩ S' R c y a dx hr (zf_ok S.nd)).ps, _, G, _, st, ?_⟩
  rw [hf] at q
  unfold runO at q
  revert q
  cases mb S' R c y (s, some (t0, 0)) with
  | ok fl s1 =>
    obtain ⟨s1, q1⟩ := s1
    cases fl with
    | nx t =>
      cases q1 with
      | none =>
        intro q σ' H' G' B' g st'
        obtain ⟨v, h1, h2, h3⟩ := st'.sl.fz 0 _ rfl
        exact q H' G' B' st'.ok.shut st'.res ⟨rfl, h3⟩
      | some _ => exact fun q => q.elim
    | rt v => exact fun q => q.elim
    | bk u => exact fun q => q.elim
    | ct u => exact fun q => q.elim
  | err e s1 =>
    obtain ⟨s1, q1⟩ := s1
    intro q cls d σ' H' G' B' g st' h
    cases q1 with
    | none => exact q cls d H' G' B' st'.ok.shut st'.res h
    | some tn =>
      obtain ⟨vs, as, _, h2⟩ := st'.res
      refine q cls d H' G' (remL B' (a :: as)) (st'.ok.shut.cut fun b u e => ?_) h2 h
      by_cases z : b ∈ a :: as
      · rw [remL_in z] at e
        cases e
      · rw [remL_out z] at e
        exact e
  | stuck => exact fun q => q
end
end DL
set_option Elab.async false
set_option linter.all false
set_option maxRecDepth 100000
namespace DL
open PySem PySem.Spec PyProof.Rows L2
section
variable {Z : Zc} {Γ : Ctx} {α β γ T U ρ τ : Type} {e a b c o : Expr} {es : List Expr} {pos p apos : Pos} {Γ' : T → Ctx} {Γb : U → Ctx} {ρr : Res ρ} {rest : List Stmt} {Tt : Type} {l : OL Z.S Tt} {x C dx : Addr} {d : CD Tt} {i : Nat} {f : Str}
/-- self.f = e, again, a value -/
theorem jb_amSetF (cap : ObjR l Z.R x C dx d) (cl : Cls Z.X.K C) (na : NoAttr Z.X.K C f) {p1 : Pos} {r : Rp α} {m : M Z.S Unit} {mv : M Z.S α} {F : M Z.S (Fl T U ρ)} (g : Tt → α) (u : Tt → α → Tt) (hv : JE Z Γ e mv (.fz r)) (h : JE Z Γ o m (.fz (rSelfU x))) (hr : JB Z Γ rest F Γ' Γb ρr)
    (hd : ∀ t y j, j ≠ i → (d.all (u t y))[j]? = (d.all t)[j]?) (hi : ∀ t, (d.all t)[i]? = some (f, .fz (r (g t))) := by intro _; rfl) (hg : ∀ t y, g (u t y) = y := by intro _ _; rfl) (hlen : d.names.length < 1000 := by exact of_decide_eq_true rfl)
    (hs : swapsWith e (some (.Attribute o f p1)) pos.line Z.X.env = pure false := by rfl) :
    JB Z Γ (.Assign [.Attribute o f p1] e pos :: rest) (bnd mv fun y => bnd m fun _ => bnd (putA l i u y) fun _ => F) Γ' Γb ρr := by
  refine ⟨⟨fun pins s0 σ H D I ⟨s, G, B, st, q⟩ => ?_⟩⟩
  refine wpAny_execs_cons (thn ((ps_fld h.pe hv.pe hs).run pins s0 σ H { D with nx := (tS Z Γ F Γ' Γb ρr) D } I ?_) fun fl s1 hq => ?_)
  · refine tE.imp (tE_bndB (ρ := .fz r) st q) ?_
    rintro v H1 ⟨y, s1, G1, B1, g1, st1, hy, q1⟩
    refine tE.imp (tE_bndB (ρ := .fz (rSelfU x)) st1 q1) ?_
    rintro w H2 ⟨_, s2, G2, B2, g2, st2, hw, q2⟩
    have q2' : PostB Z Γ' Γb ρr D G2 ((putA l i u y s2).bnd fun _ => F) := q2
    cases e1 : l.get s2 with
    | none =>
      unfold putA at q2'
      rw [e1] at q2'
      exact q2'.elim
    | some tn =>
      obtain ⟨t, n⟩ := tn
      by_cases hn : i < n
      case neg =>
        unfold putA at q2'
        rw [e1] at q2'
        dsimp only at q2'
        rw [if_neg hn] at q2'
        exact q2'.elim
      have q2 := putA_ofB e1 hn q2
      obtain ⟨vs, as, oa, up⟩ := cap.has st2.res e1
      have ll : vs.length < 1000 := by
        have z := congrArg List.length oa.names
        rw [List.length_map, List.length_take] at z
        omega
      obtain ⟨u0, h1, h2⟩ := oa.fsp.fz_at (take_at (hi t) hn)
      refine ⟨x, C, dx, vs, hw, st2.ok.bh _ _ oa.at_, cl, na, ll, _, G2, _, st2.am oa.at_ ?_, q2⟩
      have hf2 := hi (u t y)
      rw [hg] at hf2
      have n1 := (List.nodup_cons.mp oa.nd).1
      have e2 : ((d.all t).take n).set i (f, .fz (r y)) = (d.all (u t y)).take n := by
        apply List.ext_getElem?
        intro j
        by_cases z : j = i
        · subst z
          have hl : j < ((d.all t).take n).length := (List.getElem?_eq_some_iff.mp (take_at (hi t) hn)).1
          rw [List.getElem?_set_self hl, take_at hf2 hn]
        · rw [List.getElem?_set_ne (Ne.symm z)]
          by_cases z2 : j < n
          · rw [List.getElem?_take_of_lt z2, List.getElem?_take_of_lt z2, hd t y j z]
          · rw [List.getElem?_eq_none (by rw [List.length_take]; omega), List.getElem?_eq_none (by rw [List.length_take]; omega)]
      refine up (as' := as) (vs' := vs.set i (f, v)) (Same.refl _) ⟨by rw [upd_same, putF_old oa.ndn h1], ?_, oa.nd⟩ (fun b hb _ => ?_) (fun b hb hb' => absurd hb hb') (fun b hb hb' => absurd hb hb')
      · rw [← e2]
        refine FsP.fz_set ((r y).mono g2 hy) (oa.fsp.frame fun b hb => ?_) (take_at (hi t) hn)
        rw [upd_ne fun z => n1 (by rw [← z]; exact hb)]
      · rw [upd_ne fun z => hb (by rw [z]; exact List.mem_cons_self)]
  · cases fl with
    | next =>
      obtain ⟨σ', H', I', zz⟩ := hq
      exact hr.ps.run pins s1 σ' H' D I' zz
    | ret v => exact hq
    | brk => exact hq
    | cont => exact hq
end
/-! ### == of dicts -/
section
variable {κ α : Type} [DecidableEq κ] [DecidableEq α]
def dEqB (x y : List (κ × α)) : Bool := (x.length == y.length) && x.all fun q => decide (dget y q.1 = some q.2)
def deqM {S : Type} (ok : α → Bool) (x y : List (κ × α)) : M S Bool := bnd (grd ((x.all fun q => ok q.2) && (y.all fun q => ok q.2))) fun _ => ret (dEqB x y)
def dneM {S : Type} (ok : α → Bool) (x y : List (κ × α)) : M S Bool := bnd (grd ((x.all fun q => ok q.2) && (y.all fun q => ok q.2))) fun _ => ret (!dEqB x y)
theorem dget_mem {d : List (κ × α)} {k : κ} {x : α} (h : dget d k = some x) : ∃ q ∈ d, q.2 = x := by
  unfold dget at h
  cases e : d.find? fun kv => decide (kv.1 = k) with
  | none => rw [e] at h; cases h
  | some q =>
    rw [e] at h
    exact ⟨q, List.mem_of_find?_eq_some e, Option.some.inj h⟩
variable {X : Cx} {kt : KeyT κ} {r : Rp α} {n : Nat}
theorem hits_dd (D : DEq X.K r n) (hn : n ≤ 60) (hu : X.A.units + 65 < cLine) {pins : List (Addr × Obj)} {σ : L2.St} {H : Hp} {s : Shared} (I : Inv X pins σ H s) {G : Hp} (g : Same G H) {ls : List (Key × V)} {vb : List (Key × Value)} {d2 : List (κ × α)} (rb : KV ls vb) (h2 : AllD kt r G ls d2) (o2 : (d2.all fun q => D.ok q.2) = true) :
    ∀ {ks : List (Key × V)} {va : List (Key × Value)} {d1 : List (κ × α)}, KV ks va → AllD kt r G ks d1 → (d1.all fun q => D.ok q.2) = true → PySem.W.KeqHits X.A.in1 s vb va (d1.all fun q => decide (dget d2 q.1 = some q.2))
  | _, _, _, .nil, .nil, _ => .nil
  | _, (key, v) :: va, _, .cons (a := p) h t, .cons (b := q) h1 t1, o1 => by
    obtain ⟨k1, k2⟩ := h
    have k1 : p.1 = key := k1
    rw [List.all_cons, Bool.and_eq_true_iff] at o1
    rw [List.all_cons]
    have ek : key = kt.f q.1 := by rw [← k1, h1.1]
    have rr : RelO (valV ls key) (valueAt vb key) := rb.val key
    have rest := hits_dd D hn hu I g rb h2 o2 t t1 o1.2
    rcases h2.get q.1 with ⟨z1, z2⟩ | ⟨x', u, z1, z2, z3⟩
    · rw [ek, z2] at rr
      have e0 := RelO.none_of rr
      rw [← ek] at e0
      rw [z1, decide_eq_false (by simp), Bool.false_and]
      exact .miss e0
    · rw [ek, z2] at rr
      obtain ⟨y, hy, ry⟩ := RelO.some_of rr
      rw [← ek] at hy
      have hx' : D.ok x' = true := by
        obtain ⟨q', m1, m2⟩ := dget_mem z1
        rw [← m2]
        exact List.all_eq_true.mp o2 q' m1
      obtain ⟨as, r1⟩ := Dp.reads I _ _ _ (D.dp g h1.2) k2
      obtain ⟨bs, r2⟩ := Dp.reads I _ _ _ (D.dp g z3) ry
      have ee : decide (dget d2 q.1 = some q.2) = PyData.eqv (D.d q.2) (D.d x') := by
        rw [D.eq, z1]
        by_cases w : x' = q.2
        · rw [decide_eq_true w.symm, decide_eq_true (by rw [w])]
        · rw [decide_eq_false (fun w2 : some x' = some q.2 => w (Option.some.inj w2)), decide_eq_false (fun w2 : q.2 = x' => w w2.symm)]
      rw [ee]
      exact .hit hy (PySem.W.keq_at r1 r2 (shaped_of D hn o1.1) (shaped_of D hn hx') (by show X.A.units + 1 + 64 < cLine; omega)) rest
theorem op_eqDD (D : DEq X.K r n) (hn : n ≤ 60) (hu : X.A.units + 65 < cLine) : OpR X (compareOp .Eq) (fun v w H Q => ∃ G d1 d2, Same G H ∧ (rD kt r d1).p v G ∧ (rD kt r d2).p w G ∧ (d1.all fun q => D.ok q.2) = true ∧ (d2.all fun q => D.ok q.2) = true ∧ Q (.bl (dEqB d1 d2)) H) := by
  intro pins s σ H x y v u Q I rx ry h
  obtain ⟨G, d1, d2, g, ⟨a, od, ks, rfl, ha, h1⟩, ⟨b, od', ls, rfl, hb, h2⟩, o1, o2, q⟩ := h
  obtain rfl : v = Value.ref a := rx
  obtain rfl : u = Value.ref b := ry
  obtain ⟨_, ya, va, ra, da⟩ := (show ObjOk X.prog X.w H s.heap a (.dK ks) from Rd.ok (.inr ⟨od, g _ _ ha⟩) I.hok)
  obtain ⟨_, yb, vb, rb, db⟩ := (show ObjOk X.prog X.w H s.heap b (.dK ls) from Rd.ok (.inr ⟨od', g _ _ hb⟩) I.hok)
  refine PySem.W.keq_eq (knd := mixKind X.prog X.w) (r := d1.all fun q => decide (dget d2 q.1 = some q.2)) ya yb da db (by omega) (fun _ => hits_dd D hn hu I g rb h2 o2 ra h1 o1) (fin_bl I q ?_)
  unfold dEqB
  rw [← h1.length, ← h2.length, ra.length, rb.length]
theorem op_neDD (D : DEq X.K r n) (hn : n ≤ 60) (hu : X.A.units + 65 < cLine) : OpR X (compareOp .NotEq) (fun v w H Q => ∃ G d1 d2, Same G H ∧ (rD kt r d1).p v G ∧ (rD kt r d2).p w G ∧ (d1.all fun q => D.ok q.2) = true ∧ (d2.all fun q => D.ok q.2) = true ∧ Q (.bl (!dEqB d1 d2)) H) := by
  intro pins s σ H x y v u Q I rx ry h
  obtain ⟨G, d1, d2, g, ⟨a, od, ks, rfl, ha, h1⟩, ⟨b, od', ls, rfl, hb, h2⟩, o1, o2, q⟩ := h
  obtain rfl : v = Value.ref a := rx
  obtain rfl : u = Value.ref b := ry
  obtain ⟨_, ya, va, ra, da⟩ := (show ObjOk X.prog X.w H s.heap a (.dK ks) from Rd.ok (.inr ⟨od, g _ _ ha⟩) I.hok)
  obtain ⟨_, yb, vb, rb, db⟩ := (show ObjOk X.prog X.w H s.heap b (.dK ls) from Rd.ok (.inr ⟨od', g _ _ hb⟩) I.hok)
  refine PySem.W.keq_ne (knd := mixKind X.prog X.w) (r := d1.all fun q => decide (dget d2 q.1 = some q.2)) ya yb da db (by omega) (fun _ => hits_dd D hn hu I g rb h2 o2 ra h1 o1) (fin_bl I q ?_)
  unfold dEqB
  rw [← h1.length, ← h2.length, ra.length, rb.length]
end
section
variable {Z : Zc} {Γ : Ctx} {κ α : Type} [DecidableEq κ] [DecidableEq α] {a b : Expr} {pos : Pos} {kt : KeyT κ} {r : Rp α} {n : Nat}
theorem je_eqDD (D : DEq Z.X.K r n) (hn : n ≤ 60) (hu : Z.X.A.units + 65 < cLine) {ma mb : M Z.S (List (κ × α))} (ha : JE Z Γ a ma (.fz (rD kt r))) (hb : JE Z Γ b mb (.fz (rD kt r))) : JE Z Γ (.Compare a [.Eq] [b] pos) (bnd ma fun x => bnd mb fun y => deqM D.ok x y) (.fz rB) :=
  je_two (fun x y => deqM D.ok x y) (.fz rB) (fun _ _ p q => pe_cmpR (op_eqDD (kt := kt) D hn hu) p q (nomark _)) ha hb fun x y v w s G B σ H Q st hv hw q => by
    obtain ⟨c, q⟩ := grd_of q
    have c := Bool.and_eq_true_iff.mp c
    exact ⟨G, x, y, st.ok.gh, hv, hw, c.1, c.2, fin q st rfl⟩
theorem jt_eqDD (D : DEq Z.X.K r n) (hn : n ≤ 60) (hu : Z.X.A.units + 65 < cLine) {ma mb : M Z.S (List (κ × α))} (ha : JE Z Γ a ma (.fz (rD kt r))) (hb : JE Z Γ b mb (.fz (rD kt r))) : JT Z Γ (.Compare a [.Eq] [b] pos) (bnd ma fun x => bnd mb fun y => deqM D.ok x y) :=
  jt_two (fun x y => deqM D.ok x y) (fun _ _ p q => pt_cmpR (op_eqDD (kt := kt) D hn hu) p q (nomark _)) ha hb fun x y v w s G B σ H Q st hv hw q => by
    obtain ⟨c, q⟩ := grd_of q
    have c := Bool.and_eq_true_iff.mp c
    exact ⟨G, x, y, st.ok.gh, hv, hw, c.1, c.2, fin q st rfl⟩
theorem je_neDD (D : DEq Z.X.K r n) (hn : n ≤ 60) (hu : Z.X.A.units + 65 < cLine) {ma mb : M Z.S (List (κ × α))} (ha : JE Z Γ a ma (.fz (rD kt r))) (hb : JE Z Γ b mb (.fz (rD kt r))) : JE Z Γ (.Compare a [.NotEq] [b] pos) (bnd ma fun x => bnd mb fun y => dneM D.ok x y) (.fz rB) :=
  je_two (fun x y => dneM D.ok x y) (.fz rB) (fun _ _ p q => pe_cmpR (op_neDD (kt := kt) D hn hu) p q (nomark _)) ha hb fun x y v w s G B σ H Q st hv hw q => by
    obtain ⟨c, q⟩ := grd_of q
    have c := Bool.and_eq_true_iff.mp c
    exact ⟨G, x, y, st.ok.gh, hv, hw, c.1, c.2, fin q st rfl⟩
theorem jt_neDD (D : DEq Z.X.K r n) (hn : n ≤ 60) (hu : Z.X.A.units + 65 < cLine) {ma mb : M Z.S (List (κ × α))} (ha : JE Z Γ a ma (.fz (rD kt r))) (hb : JE Z Γ b mb (.fz (rD kt r))) : JT Z Γ (.Compare a [.NotEq] [b] pos) (bnd ma fun x => bnd mb fun y => dneM D.ok x y) :=
  jt_two (fun x y => dneM D.ok x y) (fun _ _ p q => pt_cmpR (op_neDD (kt := kt) D hn hu) p q (nomark _)) ha hb fun x y v w s G B σ H Q st hv hw q => by
    obtain ⟨c, q⟩ := grd_of q
    have c := Bool.and_eq_true_iff.mp c
    exact ⟨G, x, y, st.ok.gh, hv, hw, c.1, c.2, fin q st rfl⟩
end
end DL
set_option Elab.async false
set_option linter.all false
set_option maxRecDepth 100000
namespace DL
open PySem PySem.Spec PyProof.Rows L2
/-! ### dict comprehensions -/
def dcompL {S α κ β : Type} [DecidableEq κ] (mt : α → M S Bool) (mk : α → M S κ) (mv : α → M S β) : List α → List (κ × β) → M S (List (κ × β))
  | [], acc => ret acc
  | x :: xs, acc => bnd (nox (mt x)) fun c => if c then bnd (nox (mk x)) fun k => bnd (nox (mv x)) fun y => dcompL mt mk mv xs (dput acc k y) else dcompL mt mk mv xs acc
def dcompM {S α κ β : Type} [DecidableEq κ] (mt : α → M S Bool) (mk : α → M S κ) (mv : α → M S β) (xs : List α) : M S (List (κ × β)) := bnd (grd (decide (xs.length ≤ sizeLine))) fun _ => dcompL mt mk mv xs []
theorem dput_len {κ β : Type} [DecidableEq κ] (d : List (κ × β)) (k : κ) (y : β) : (dput d k y).length ≤ d.length + 1 := by
  unfold dput
  by_cases h : (d.any fun kv => decide (kv.1 = k)) = true
  · rw [if_pos h, List.length_map]; omega
  · rw [if_neg h, List.length_append]; simp
theorem walk_turns {J : It} {n : Nat} {G : Hp → Prop} {Y : Nat → Hp → V → Hp → Prop} (w : Walk J n G Y) {P : Nat → Hp → (Hp → Prop) → V → Hp → Prop} {Q : Hp → Prop} {H0 : Hp} (Pv : Nat → Hp → Prop) (h0 : Pv 0 H0) (hG : ∀ i H, i ≤ n → Pv i H → G H) (hs : ∀ i x H H', i < n → Pv i H → Y i H x H' → P i H (Pv (i + 1)) x H') (hd : ∀ H, Pv n H → Q H) :
    ∃ W : Nat → Nat → Hp → Prop, (∃ m, W 0 m H0) ∧ ∀ i m H, W i m H → (J.stop i H ∧ Q H) ∨ (J.go i H ∧ ∃ Nx : Hp → Prop, (∀ H', Nx H' → ∃ m', m' < m ∧ W (i + 1) m' H') ∧ ∀ x H', J.yld i H x H' → P i H Nx x H') := by
  refine ⟨fun i m H => i ≤ n ∧ Pv i H ∧ m + i = n, ⟨n, Nat.zero_le _, h0, rfl⟩, ?_⟩
  rintro i m H ⟨hi, pv, em⟩
  have gh := hG i H hi pv
  rcases Nat.lt_or_ge i n with hlt | hge
  · exact .inr ⟨w.goes i H hlt gh, Pv (i + 1), fun H' pv' => ⟨n - (i + 1), by omega, hlt, pv', by omega⟩, fun x H' y => hs i x H H' hlt pv (w.yields i H x H' hlt gh y)⟩
  · have e : i = n := by omega
    subst e
    exact .inl ⟨w.stops H gh, hd H pv⟩
section
variable {Z : Zc} {Γ : Ctx} {α β γ T U ρ κ : Type} [DecidableEq κ] {kt : KeyT κ} {e a b c : Expr} {es : List Expr} {pos : Pos} {Γb : U → Ctx} {ρr : Res ρ} {rest : List Stmt}
theorem je_dcomp {tg iter kx vx : Expr} {ifs : List Expr} {scope : Scope} {own : List (Str × Nat)} {m : M Z.S (List α)} {r : Rp α} {rb : Rp β} {u : α → Ctx → Ctx} {g : TG} (z : ZOk Z) (hi : JI Z Γ tg iter m r) (mt : α → M Z.S Bool) (mk : α → M Z.S κ) (mv : α → M Z.S β) (ok : BlkOk Z.X.N Z.X.env.scope scope own)
    (hg : ∀ (s : Shared) (H : Hp) (C : Addr) (cl : List (Str × Addr)) (fp : List Addr) (D : Addr) (acc : HO), JG (Z.blk s H scope cl C fp D acc) tg r (own.map (·.2)) u g)
    (ht : ∀ (s : Shared) (H : Hp) (C : Addr) (cl : List (Str × Addr)) (fp : List Addr) (D : Addr) (acc : HO) (x : α), JTs (Z.blk s H scope cl C fp D acc) (u x Γ) ifs (mt x))
    (hk : ∀ (s : Shared) (H : Hp) (C : Addr) (cl : List (Str × Addr)) (fp : List Addr) (D : Addr) (acc : HO) (x : α), JE (Z.blk s H scope cl C fp D acc) (u x Γ) kx (mk x) (.fz kt.rp))
    (he : ∀ (s : Shared) (H : Hp) (C : Addr) (cl : List (Str × Addr)) (fp : List Addr) (D : Addr) (acc : HO) (x : α), JE (Z.blk s H scope cl C fp D acc) (u x Γ) vx (mv x) (.fz rb))
    (hw : wipeC Γ (own.map (·.2)) = Γ := by rfl) (hks : (own.map (·.2)).all (fun k => decide (k < Γ.length)) = true := by rfl) (hs : ∀ x, foldedSetIterable iter Z.X.env x = pure x := by intro _; rfl) :
    JE Z Γ (.DictComp kx vx [⟨tg, iter, ifs, 0⟩] scope pos) (bnd m fun xs => dcompM mt mk mv xs) (.own (cD kt rb)) := by
  obtain ⟨wi, pi, hwi⟩ := hi.ex
  have kk : ∀ k ∈ own.map (·.2), k < Γ.length ∧ NoE [] k := fun k hk => ⟨of_decide_eq_true (List.all_eq_true.mp hks k hk), NoE.nil⟩
  have ht2 : ∀ (s : Shared) (H : Hp) (C : Addr) (cl : List (Str × Addr)) (fp : List Addr), PTs (Z.X.blk s H scope (compEnvC scope cl C Z.X.env) fp) ifs (fun σ H Q => ∃ D acc x, tT (Z.b0 D acc) (u x Γ) (mt x) σ H Q) := fun s H C cl fp =>
    ⟨fun pins s1 σ H1 Q I ⟨D, acc, x, h⟩ => (ht s H C cl fp D acc x).ps.run pins s1 σ H1 Q I (tT_blk h)⟩
  have hk2 : ∀ (s : Shared) (H : Hp) (C : Addr) (cl : List (Str × Addr)) (fp : List Addr), PE (Z.X.blk s H scope (compEnvC scope cl C Z.X.env) fp) kx (fun σ H Q => ∃ D acc x, tE (Z.b0 D acc) (u x Γ) (mk x) (.fz kt.rp) σ H Q) := fun s H C cl fp =>
    ⟨fun pins s1 σ H1 Q I ⟨D, acc, x, h⟩ => (hk s H C cl fp D acc x).pe.run pins s1 σ H1 Q I (tE_blk h)⟩
  have he2 : ∀ (s : Shared) (H : Hp) (C : Addr) (cl : List (Str × Addr)) (fp : List Addr), PE (Z.X.blk s H scope (compEnvC scope cl C Z.X.env) fp) vx (fun σ H Q => ∃ D acc x, tE (Z.b0 D acc) (u x Γ) (mv x) (.fz rb) σ H Q) := fun s H C cl fp =>
    ⟨fun pins s1 σ H1 Q I ⟨D, acc, x, h⟩ => (he s H C cl fp D acc x).pe.run pins s1 σ H1 Q I (tE_blk h)⟩
  refine ⟨PE.imp (pe_dc z.calm z.nd pi ok (fun s H C cl fp => (hg s H C cl fp 0 (.lst [])).pg) ht2 hk2 he2 hs) fun σ H Q ⟨s, G, B, st, q⟩ => ?_⟩
  refine hwi st ?_
  have q : PostE Z Γ (.own (cD kt rb)) σ Q G ((m s).bnd fun xs => dcompM mt mk mv xs) := q
  revert q
  cases m s with
  | err x s1 => exact fun q => q
  | stuck => exact fun q => q
  | ok xs s1 =>
    intro q J H1 G1 B1 g1 st1 w D nD
    have q : PostE Z Γ (.own (cD kt rb)) σ Q G (bnd (grd (decide (xs.length ≤ sizeLine))) (fun _ => dcompL mt mk mv xs []) s1) := q
    obtain ⟨cz, q⟩ := grd_of q
    have hz := of_decide_eq_true cz
    have q0 : PostE Z Γ (.own (cD kt rb)) σ Q G1 (dcompL mt mk mv xs [] s1) := PostE.mono g1 q
    have hdD : Z.hd D = none := Same.free st1.held nD
    let Pv : Nat → Hp → Prop := fun i H' => ∃ acc accV s' G' B', Same G1 G' ∧ Sta Z Γ s' G' B' σ H' ∧ H' D = some (.dK accV) ∧ AllD kt rb G' accV acc ∧ acc.length ≤ i ∧ G' D = none ∧ B' D = none ∧ Z.F.H0 D = none ∧ Off Γ σ D ∧ PostE Z Γ (.own (cD kt rb)) σ Q G' (dcompL mt mk mv (xs.drop i) acc s')
    refine walk_turns w (Q := fun H => Q (.ref D) H) (P := fun i H Nx x H' => g x (wipe σ (own.map (·.2))) H' fun σ2 H2 => wipe σ2 (own.map (·.2)) = wipe σ (own.map (·.2)) ∧ (fun σ H Q => ∃ D acc x, tT (Z.b0 D acc) (u x Γ) (mt x) σ H Q) σ2 H2 fun b H3 =>
        if b = true then (fun σ H Q => ∃ D acc x, tE (Z.b0 D acc) (u x Γ) (mk x) (.fz kt.rp) σ H Q) σ2 H3 fun y H4 => (fun σ H Q => ∃ D acc x, tE (Z.b0 D acc) (u x Γ) (mv x) (.fz rb) σ H Q) σ2 H4 fun z H5 => ∃ kvs k, y = kV k ∧ H5 D = some (.dK kvs) ∧ kvs.length < sizeLine ∧ Nx (upd H5 D (.dK (putK kvs k z))) else Nx H3) Pv
      ⟨[], [], s1, G1, B1, Same.refl _, st1.laid nD, upd_same, .nil, Nat.le_refl _, Same.free st1.ok.gh nD, Same.free st1.ok.bh nD, st1.ok.fresh nD, st1.offP nD, q0⟩
      (fun i H' _ ⟨_, _, _, G', _, g', st', _⟩ => g'.trans st'.ok.gh) ?_ ?_
    · rintro i v H2 H3 hlt ⟨acc, accV, s', G', B', g', st', hD, ha, hl, gD, bD, fD, oD, q'⟩ ⟨x, hx, hy⟩
      have ed : xs.drop i = x :: xs.drop (i + 1) := by
        obtain ⟨h1, h2⟩ := List.getElem?_eq_some_iff.mp hx
        rw [← h2]
        exact List.drop_eq_getElem_cons h1
      rw [ed] at q'
      have q' : PostE Z Γ (.own (cD kt rb)) σ Q G' (bnd (nox (mt x)) (fun c => if c then bnd (nox (mk x)) fun k => bnd (nox (mv x)) fun y => dcompL mt mk mv (xs.drop (i + 1)) (dput acc k y) else dcompL mt mk mv (xs.drop (i + 1)) acc) s') := q'
      obtain ⟨cb, s2, ec, q'⟩ := nox_post (r := rB) q'
      have main : ∀ G2 H4, Same G' G2 → Sta Z Γ s' G2 B' σ H4 → H4 D = some (.dK accV) → G2 D = none → (r x).p v G2 → g v (wipe σ (own.map (·.2))) H4 fun σ2 H5 => wipe σ2 (own.map (·.2)) = wipe σ (own.map (·.2)) ∧ (fun σ H Q => ∃ D acc x, tT (Z.b0 D acc) (u x Γ) (mt x) σ H Q) σ2 H5 fun b H6 =>
          if b = true then (fun σ H Q => ∃ D acc x, tE (Z.b0 D acc) (u x Γ) (mk x) (.fz kt.rp) σ H Q) σ2 H6 fun y H7 => (fun σ H Q => ∃ D acc x, tE (Z.b0 D acc) (u x Γ) (mv x) (.fz rb) σ H Q) σ2 H7 fun z H8 => ∃ kvs k, y = kV k ∧ H8 D = some (.dK kvs) ∧ kvs.length < sizeLine ∧ Pv (i + 1) (upd H8 D (.dK (putK kvs k z)))
          else Pv (i + 1) H6 := by
        intro G2 H4 g2 st2 hD2 gD2 hv
        refine (hg Z.X.s_0 Z.X.H_0 0 [] [] D (.dK accV)).go (blk_to (st2.wiped hw hD2 gD2 bD fD oD)) hv kk fun σ2 st3 hσ2 => ?_
        rw [wipe_wipe] at hσ2
        refine ⟨hσ2, D, .dK accV, x, s', G2, B', blk_from st3, ?_⟩
        rw [ec]
        intro H6 G3 B3 g3 st4
        have hup : upd Z.hd D (.dK accV) D = some (.dK accV) := upd_same
        have hD4 : H6 D = some (.dK accV) := st4.held D _ hup
        have off4 := st4.off D (.dK accV) hup
        have st4' := st2.unwiped st4 hw g3 hdD ((hg Z.X.s_0 Z.X.H_0 0 [] [] D (.dK accV)).keep x Γ) hσ2
        have q4 : PostE Z Γ (.own (cD kt rb)) σ Q G3 ((if cb then bnd (nox (mk x)) fun k => bnd (nox (mv x)) fun y => dcompL mt mk mv (xs.drop (i + 1)) (dput acc k y) else dcompL mt mk mv (xs.drop (i + 1)) acc) s2) := PostE.mono (g2.trans g3) q'
        cases cb with
        | false => exact ⟨acc, accV, s2, G3, B3, (g'.trans g2).trans g3, st4', hD4, ha.mono (g2.trans g3), by omega, off4.1, off4.2.1, fD, oD, q4⟩
        | true =>
          have q4 : PostE Z Γ (.own (cD kt rb)) σ Q G3 (bnd (nox (mk x)) (fun k => bnd (nox (mv x)) fun y => dcompL mt mk mv (xs.drop (i + 1)) (dput acc k y)) s2) := q4
          obtain ⟨key, s3, ek, q4⟩ := nox_post (r := kt.rp) q4
          obtain ⟨y, s4, ey, q4⟩ := nox_post (r := rb) q4
          refine ⟨D, .dK accV, x, s2, G3, B3, st4, ?_⟩
          rw [ek]
          intro kv H7 G4 B4 g4 st5 hk5
          refine ⟨D, .dK accV, x, s3, G4, B4, st5, ?_⟩
          rw [ey]
          intro yv H8 G5 B5 g5 st6 hy6
          have hD5 : H8 D = some (.dK accV) := st6.held D _ hup
          have off5 := st6.off D (.dK accV) hup
          have st5' := st4'.unwiped st6 hw (g4.trans g5) hdD ((hg Z.X.s_0 Z.X.H_0 0 [] [] D (.dK accV)).keep x Γ) hσ2
          have hlen : accV.length < sizeLine := by rw [ha.length]; omega
          have gg := ((g2.trans g3).trans g4).trans g5
          have hlp := dput_len acc key y
          refine ⟨accV, kt.f key, hk5, hD5, hlen, dput acc key y, putK accV (kt.f key) yv, s4, G5, B5, g'.trans gg, ?_, upd_same, (ha.mono gg).put hy6, by omega, off5.1, off5.2.1, fD, oD, PostE.mono (g4.trans g5) q4⟩
          refine ⟨st5'.ok.change off5.1 off5.2.1 fD, st5'.res, ⟨st5'.sl.len, st5'.sl.fz, fun k L e => ?_, st5'.sl.ne⟩, st5'.sle, Same.upd_r st5'.held hdD, st5'.off⟩
          obtain ⟨p, o, k1, k2, k3⟩ := st5'.sl.lv k L e
          have ne : p ≠ D := fun zz => oD k L e (by rw [← zz]; exact k1)
          exact ⟨p, o, k1, by rw [upd_ne ne]; exact k2, k3⟩
      rcases hy with ⟨rfl, hv⟩ | ⟨A, vs, rfl, hA, rfl, hv⟩
      · exact main G' H3 (Same.refl _) st' hD gD ((r x).mono g' hv)
      · have gA : Same G' (upd G' A (.tup vs)) := Same.upd_new (Same.free st'.ok.gh hA)
        have ne : D ≠ A := ne_of_none hD hA
        exact main (upd G' A (.tup vs)) _ gA (st'.laidG hA) (by rw [upd_ne ne]; exact hD) (by rw [upd_ne ne]; exact gD) (hv _ (g'.trans gA) upd_same)
    · rintro H' ⟨acc, accV, s', G', B', g', st', hD, ha, hl, gD, bD, fD, oD, q'⟩
      rw [List.drop_length] at q'
      exact q' (.ref D) H' G' B' (Same.refl _) st' ⟨D, .dK accV, rfl, hD, ⟨accV, rfl, ha⟩, gD, bD, fD, hdD, oD⟩
end
end DL
set_option Elab.async false
set_option linter.all false
set_option maxRecDepth 100000
namespace DL
open PySem PySem.Spec PyProof.Rows L2
/-- where a method's instance is kept -/
structure AmC (T : Type) (C : Addr) (d : CD T) (S : Type) (R : S → MP Hp) : Type where
  l : OL S T
  x : Addr
  dx : Addr
  ok : ObjR l R x C dx d
section
variable {Z : Zc} {Γ : Ctx} {α : Type} {e : Expr} {T U ρ : Type} {Γ' : T → Ctx} {Γb : U → Ctx} {ρr : Res ρ} {rest : List Stmt} {pos p2 : Pos}
theorem je_at {C a : Addr} {fs : α → List (Str × MP V)} {m : M Z.S α} (h : JE Z Γ e m (.fz (rObjAt a C fs))) : JE Z Γ e m (.fz (rObj C fs)) :=
  ⟨PE.imp h.pe fun σ H Q ⟨s, G, B, st, q⟩ => by
    refine ⟨s, G, B, st, ?_⟩
    revert q
    cases m s with
    | ok x s1 => exact fun q v H' G' B' g st' ⟨h1, dx, vs, h2, h3⟩ => q v H' G' B' g st' ⟨a, dx, vs, h1, h2, h3⟩
    | err x s1 => exact fun q => q
    | stuck => exact fun q => q⟩
/-- a text that stands alone -/
theorem jb_doc {x : Str} {j : Nat} {f : M Z.S (Fl T U ρ)} (h : JB Z Γ rest f Γ' Γb ρr) : JB Z Γ (.Expr (.Constant (.str x) j p2) pos :: rest) f Γ' Γb ρr := by
  have z := jb_expr (pos := pos) (je_str (x := x) (j := j) (pos := p2)) h
  exact z
theorem rO_nonN {r : Rp α} {x : Option α} {v : V} {G : Hp} (nn : ∀ {y : α} {v : V} {G : Hp}, (r y).p v G → v ≠ .non) (h : (rO r x).p v G) : (!decide (v = .non)) = x.isSome := by
  rw [rO_non nn h]
  cases x <;> rfl
/-- if x is not None: x is then a thing -/
theorem nn_rD {κ β : Type} {k : KeyT κ} {r : Rp β} {y : List (κ × β)} {v : V} {G : Hp} (h : (rD k r y).p v G) : v ≠ .non := by
  obtain ⟨a, od, vs, rfl, _⟩ := h
  exact fun z => by cases z
theorem nn_rI {y : Int} {v : V} {G : Hp} (h : (rI y).p v G) : v ≠ .non := by
  rw [show v = .int y from h]
  exact fun z => by cases z
theorem nn_rS {y : Str} {v : V} {G : Hp} (h : (rS y).p v G) : v ≠ .non := by
  rw [show v = .str y from h]
  exact fun z => by cases z
theorem nn_rL {β : Type} {r : Rp β} {y : List β} {v : V} {G : Hp} (h : (rL r y).p v G) : v ≠ .non := by
  obtain ⟨a, vs, rfl, _⟩ := h
  exact fun z => by cases z
theorem nn_rObj {C : Addr} {fs : α → List (Str × MP V)} {y : α} {v : V} {G : Hp} (h : (rObj C fs y).p v G) : v ≠ .non := by
  obtain ⟨a, dx, vs, rfl, _⟩ := h
  exact fun z => by cases z
end
end DL
namespace DL
open PySem PySem.Spec PyProof.Rows L2
section
variable {Z : Zc} {Γ : Ctx} {α : Type} {e a : Expr} {pos : Pos}
/-- what may be None and is a thing -/
theorem je_unO {r : Rp α} {m : M Z.S (Option α)} (h : JE Z Γ e m (.fz (rO r))) : JE Z Γ e (bnd m fun x => opt x) (.fz r) :=
  ⟨PE.imp h.pe fun σ H Q ⟨s, G, B, st, q⟩ => by
    refine ⟨s, G, B, st, ?_⟩
    have q : PostE Z Γ (.fz r) σ Q G ((m s).bnd fun x => opt x) := q
    revert q
    cases m s with
    | ok x s1 =>
      cases x with
      | none => exact fun q => q.elim
      | some y => exact fun q v H' G' B' g st' hs => q v H' G' B' g st' hs
    | err x s1 => exact fun q => q
    | stuck => exact fun q => q⟩
theorem jt_notN {j : Nat} {p2 : Pos} {r : Rp α} {m : M Z.S (Option α)} (nn : ∀ {y : α} {v : V} {G : Hp}, (r y).p v G → v ≠ .non) (h : JE Z Γ a m (.fz (rO r))) : JT Z Γ (.Compare a [.IsNot] [.Constant .none j p2] pos) (bnd m fun x => bnd (ret ()) fun _ => ret x.isSome) :=
  jt_two (ρb := rU) (fun x _ => ret x.isSome) (fun _ _ p q => pt_cmpR op_notN p q (nomark _)) h je_non fun x y v w s G B σ H Q st hv hw q => ⟨hw, by rw [rO_nonN nn hv]; exact fin q st rfl⟩
theorem je_isN {j : Nat} {p2 : Pos} {r : Rp α} {m : M Z.S (Option α)} (nn : ∀ {y : α} {v : V} {G : Hp}, (r y).p v G → v ≠ .non) (h : JE Z Γ a m (.fz (rO r))) : JE Z Γ (.Compare a [.Is] [.Constant .none j p2] pos) (bnd m fun x => bnd (ret ()) fun _ => ret x.isNone) (.fz rB) :=
  je_two (ρb := rU) (fun x _ => ret x.isNone) (.fz rB) (fun _ _ p q => pe_cmpR op_isN p q (nomark _)) h je_non fun x y v w s G B σ H Q st hv hw q => ⟨hw, by rw [rO_non nn hv]; exact fin q st rfl⟩
theorem je_notN {j : Nat} {p2 : Pos} {r : Rp α} {m : M Z.S (Option α)} (nn : ∀ {y : α} {v : V} {G : Hp}, (r y).p v G → v ≠ .non) (h : JE Z Γ a m (.fz (rO r))) : JE Z Γ (.Compare a [.IsNot] [.Constant .none j p2] pos) (bnd m fun x => bnd (ret ()) fun _ => ret x.isSome) (.fz rB) :=
  je_two (ρb := rU) (fun x _ => ret x.isSome) (.fz rB) (fun _ _ p q => pe_cmpR op_notN p q (nomark _)) h je_non fun x y v w s G B σ H Q st hv hw q => ⟨hw, by rw [rO_nonN nn hv]; exact fin q st rfl⟩
end
end DL
namespace DL
open PySem L2
/-- the mirror by another name -/
theorem JE.eqm {Z : Zc} {Γ : Ctx} {α : Type} {e : Expr} {m m' : M Z.S α} {ρ : Res α} (h : JE Z Γ e m ρ) (q : m = m') : JE Z Γ e m' ρ := q ▸ h
end DL
namespace DL
open PySem PySem.Spec PyProof.Rows L2
/-! ### expressions whose value is known -/
structure JC (Z : Zc) (Γ : Ctx) (e : Expr) {α : Type} (y : α) (r : Rp α) : Prop where
  jp : JP Z Γ e (fun _ => some y) r
section
variable {Z : Zc} {Γ : Ctx} {α β γ T U ρ τ : Type} {e a b c o : Expr} {es : List Expr} {pos p apos : Pos} {Γ' : T → Ctx} {Γb : U → Ctx} {ρr : Res ρ} {rest : List Stmt} {Tt : Type} {l : OL Z.S Tt} {x C dx : Addr} {d : CD Tt} {i : Nat} {f : Str}
theorem jc_var {n : Str} {r : Rp α} {y : α} (k : Nat) (hk : Γ[k]? = some (some (.fz (r y)))) (hp : PE Z.X (.Name n pos) (tVar k)) : JC Z Γ (.Name n pos) y r := ⟨jp_var k hk hp⟩
theorem jc_int {n : Int} {j : Nat} : JC Z Γ (.Constant (.int n) j pos) n rI := ⟨jp_int⟩
theorem jc_str {n : Str} {j : Nat} : JC Z Γ (.Constant (.str n) j pos) n rS := ⟨jp_str⟩
theorem jc_fld {C : Addr} {fs : α → List (Str × MP V)} {r : Rp β} {y : α} (g : α → β) (cl : Cls Z.X.K C) (na : NoAttr Z.X.K C f) (h : JC Z Γ e y (rObj C fs)) (hl : ∀ x, (fs x).lookup f = some (r (g x)) := by intro _; rfl) (hb : attributeBase e f Z.X.env (eval e Z.X.env) = eval e Z.X.env := by rfl) : JC Z Γ (.Attribute e f pos) (g y) r := ⟨jp_fld g cl na h.jp hl hb⟩
section
variable {α1 α2 : Type} {r1 : Rp α1} {r2 : Rp α2} {y : α1 × α2}
theorem jc_t2_0 {j : Nat} {p2 : Pos} (h : JC Z Γ a y (rT2 Z.X.K r1 r2)) : JC Z Γ (.Subscript a (.Constant (.int 0) j p2) pos) y.1 r1 := ⟨jp_t2_0 h.jp⟩
theorem jc_t2_1 {j : Nat} {p2 : Pos} (h : JC Z Γ a y (rT2 Z.X.K r1 r2)) : JC Z Γ (.Subscript a (.Constant (.int 1) j p2) pos) y.2 r2 := ⟨jp_t2_1 h.jp⟩
end
section
variable {κ : Type} [DecidableEq κ] {kt : KeyT κ} {r : Rp α} {key : κ}
theorem je_amGetC (cap : ObjR l Z.R x C dx d) (cl : Cls Z.X.K C) (na : NoAttr Z.X.K C f) (hu : Z.X.A.units + 65 < cLine) {m : M Z.S Unit} (g : Tt → List (κ × α)) (h : JE Z Γ e m (.fz (rSelfU x))) (hk : JC Z Γ b key kt.rp) (hi : ∀ t, (d.all t)[i]? = some (f, .ow (owD kt r (g t))) := by intro _; rfl)
    (hb : attributeBase e f Z.X.env (eval e Z.X.env) = eval e Z.X.env := by rfl) (hs : NoSl b := by exact fun _ _ => rfl) :
    JE Z Γ (.Subscript (.Attribute e f p) b pos) (bnd m fun _ => bnd (getA l i g) fun dd => opt (dget dd key)) (.fz r) := je_amGet cap cl na hu g h hk.jp hi hb hs
theorem jb_amPutC (cap : ObjR l Z.R x C dx d) (cl : Cls Z.X.K C) (na : NoAttr Z.X.K C f) (hu : Z.X.A.units + 1 < cLine) {p1 p2 : Pos} {m : M Z.S Unit} {mv : M Z.S α} {F : M Z.S (Fl T U ρ)} (g : Tt → List (κ × α)) (u : Tt → List (κ × α) → Tt) (hv : JE Z Γ e mv (.fz r)) (h : JE Z Γ o m (.fz (rSelfU x))) (hk : JC Z Γ b key kt.rp)
    (hr : JB Z Γ rest F Γ' Γb ρr) (hd : ∀ t y j, j ≠ i → (d.all (u t y))[j]? = (d.all t)[j]?) (hi : ∀ t, (d.all t)[i]? = some (f, .ow (owD kt r (g t))) := by intro _; rfl) (hg : ∀ t y, g (u t y) = y := by intro _ _; rfl) (hb : attributeBase o f Z.X.env (eval o Z.X.env) = eval o Z.X.env := by rfl)
    (hs : swapsWith e (some (.Subscript (.Attribute o f p1) b p2)) pos.line Z.X.env = pure false := by rfl) :
    JB Z Γ (.Assign [.Subscript (.Attribute o f p1) b p2] e pos :: rest) (bnd mv fun y => bnd m fun _ => bnd (dputA l i g u key y) fun _ => F) Γ' Γb ρr := jb_amPut cap cl na hu g u hv h hk.jp hr hi hg hd hb hs
end
end
end DL
set_option Elab.async false
set_option linter.all false
set_option maxRecDepth 100000
namespace DL
open PySem PySem.Spec PyProof.Rows L2
/-! ### the law: its bag, its end -/
def bag0 (ns : List Int) : Bag := ⟨ns, 0, 0, 17, 0⟩
def bagO (al : Addr) (b : Bag) : HO := .lst [.ref al, .int b.at_, .int b.val, .int b.mix, .int b.cnt]
def bagR (ab al : Addr) : Bag → MP Hp := fun b => ⟨fun B _ => B ab = some (bagO al b) ∧ B al = some (.lst (b.scr.map V.int)), fun _ h => h⟩
def bagI : BagIn Bag := ⟨fun b => b, fun _ b => b⟩
def bagC (ab al : Addr) (ne : al ≠ ab) : BagC Bag (bagR ab al) := ⟨bagI, ab, al, ⟨fun h => h, fun i v m n h => ⟨upd_same, by rw [upd_ne ne]; exact h.2⟩⟩⟩
def spBag (K : PySem.W.Frag) : Sp := fun vs H Q _ => ∃ (a : Addr) (ns : List Int), vs = [.ref a] ∧ SqL K H a (ns.map V.int) ∧ ∀ al ab, H al = none → H ab = none → al ≠ ab → Q (.ref ab) (upd (upd H al (.lst (ns.map V.int))) ab (bagO al (bag0 ns)))
def spLaw (K : PySem.W.Frag) : Sp := fun vs H Q _ => ∃ (a : Addr) (ns : List Int), vs = [.ref a] ∧ SqL K H a (ns.map V.int) ∧ ns.length ≤ 63 ∧ ∀ H', Q (.bl true) H'
section
variable {P : Program} {w : World} {K : PySem.W.Frag} {mg : Str → Option Value} {base : Heap} {f fa fb : Addr} {fd fdb : FuncData} {k : Nat} {ps : List Str} {sp : Sp}
theorem FnOk.noE (F : FnOk P w K mg base (L2.CX P w) k f fd ps sp) (h : ∀ vs H Q E, sp vs H Q E → sp vs H Q fun _ _ _ => False) : FnOk P w K mg base CX0 k f fd ps sp :=
  ⟨F.len, fun A outer s H args us vs Q E hr he hb hv hs => codeAny_mono (F.run A outer s H args us vs Q (fun _ _ _ => False) hr he hb hv (h _ _ _ _ hs)) fun r s' q => by
    cases r with
    | error e =>
      obtain ⟨_, _, _, _, _, _, _, _, _, _, _, _, z⟩ := (show L2.CX P w outer H s (fun _ _ _ => False) e s' from q)
      exact z.elim
    | ok fl => cases fl <;> exact q⟩
theorem FnC.of {n : Str} (F : FnOk P w K mg base (L2.CX P w) k f fd ps sp) (g : mg n = some (.ref f)) (kp : PySem.W.keepIn K (.ref f) = true) (b : Binds K fd ps []) : FnC P w K mg base n k sp := ⟨f, fd, ps, F, g, kp, b⟩
theorem kbn_all {n : Nat} (b : Binds K fd ps []) (hn : ps.length = n) : KBn K fd ps n [] (fun us ws => us ++ ws) (fun vs zs => vs ++ zs) :=
  ⟨fun s us ws X l1 l2 => by
    have e : ws = [] := List.eq_nil_of_length_eq_zero l2
    subst e
    have z := b s us X (by rw [List.append_nil, l1, hn])
    exact z, fun r1 r2 => r1.append r2⟩
theorem law_glue {N : List Str} {params : Arguments} {body rest : List Stmt} {scope : Scope} {x : Str} {p1 p2 p3 p4 p5 : Pos} {i : Nat} {Γ0 : Addr → Ctx} {mb : M Bag (Fl Unit Empty Bool)} (F : FunD K "law" "law" params body scope [] [] fa fd) (S : FnScope N ["_law_script"] scope)
    (Fb : FnOk P w K mg base (L2.CX P w) 1 fb fdb ["_law_script"] (spBag K)) (gB : mg "_law_bag" = some (.ref fb)) (kB : PySem.W.keepIn K (.ref fb) = true) (bB : Binds K fdb ["_law_script"] [])
    (hbody : body = .Assign [.Name x p1] (.Call (.Name "_law_bag" p2) [.Name "_law_script" p3] [] p4) p5 :: rest)
    (hk : 1 ≤ k) (hi : N[i]? = some x) (hi0 : i ≠ 0) (hx : Loc scope x)
    (hpv : ∀ (cdv : Value) (A : Around) (outer : List Env) (s : Shared) (H : Hp) (E : XK), PE (cxOf (L2.CX P w) P w K mg base N "law" scope fa cdv A outer s H E) (.Name "_law_script" p3) (tVar 0))
    (hf : ∀ (cdv : Value) (A : Around) (outer : List Env) (s : Shared) (H : Hp) (E : XK), (cxOf (L2.CX P w) P w K mg base N "law" scope fa cdv A outer s H E).fn x = true ∨ scope.names.lookup x = some .local)
    (hs : ∀ (cdv : Value) (A : Around) (outer : List Env) (s : Shared) (H : Hp) (E : XK), swapsWith (.Call (.Name "_law_bag" p2) [.Name "_law_script" p3] [] p4) (some (.Name x p1)) p5.line (cxOf (L2.CX P w) P w K mg base N "law" scope fa cdv A outer s H E).env = pure false)
    (hg : ∀ (cdv : Value) (A : Around) (outer : List Env) (s : Shared) (H : Hp) (E : XK), Gl (cxOf (L2.CX P w) P w K mg base N "law" scope fa cdv A outer s H E) "_law_bag")
    (hΓ : ∀ ab (j : Nat) (y : Asn), (Γ0 ab)[j]? = some (some y) → j = i ∧ y = .fz (rBag ab ())) (hΓl : ∀ ab, (Γ0 ab).length ≤ N.length)
    (hb : ∀ (cdv : Value) (A : Around) (outer : List Env) (s : Shared) (H : Hp) (E : XK) (Fm : Fm) (ab al : Addr) (ne : al ≠ ab), Room k (A.deeper (envOfC "law" scope s.heap.objs.size fa cdv)) → ZOk (ZF P w K mg base N "law" scope fa cdv A outer s H E Fm Bag (bagR ab al)) →
      JB (ZF P w K mg base N "law" scope fa cdv A outer s H E Fm Bag (bagR ab al)) (Γ0 ab) rest mb (fun _ => []) (fun e => nomatch e) (.fz rB))
    (good : ∀ ns : List Int, ns.length ≤ 63 → ∃ b, mb (bag0 ns) = .ok (.rt true) b) : FnOk P w K mg base CX0 (k + 1) fa fd ["_law_script"] (spLaw K) := by
  refine FnOk.noE (F.ok S (fun vs H Q E ⟨a, ns, ev, _⟩ => by rw [ev]; rfl) fun cdv A outer s H vs Q E hr ⟨a, ns, ev, hS, hl, hQ⟩ => ?_) fun vs H Q E h => h
  subst ev
  have hlen : 1 ≤ N.length := by
    obtain ⟨h1, _⟩ := List.getElem?_eq_some_iff.mp hi
    omega
  obtain ⟨hiN, _⟩ := List.getElem?_eq_some_iff.mp hi
  rw [hbody]
  let X : Cx := cxOf (L2.CX P w) P w K mg base N "law" scope fa cdv A outer s H E
  have tk : Takes X (fun cls d _ H => E cls d H) := takes_of rfl rfl rfl rfl
  have call : PE X (.Call (.Name "_law_bag" p2) [.Name "_law_script" p3] [] p4) (tCallS (spBag K) (WE fun cls d _ H => E cls d H) (tCons (tVar 0) tNil)) :=
    pe_callS (X := X) Fb (hr.mono hk) (hg cdv A outer s H E) gB kB bB (fun σ => passAt tk σ) (pa_cons (hpv cdv A outer s H E) pa_nil) (by decide) rfl rfl
  have first : PS X (.Assign [.Name x p1] (.Call (.Name "_law_bag" p2) [.Name "_law_script" p3] [] p4) p5) _ := ps_set (X := X) (i := i) S.nd hi hx call (hs cdv A outer s H E) (hf cdv A outer s H E)
  have restT : PSs X rest (fun D σ H' => ∃ ab al Fm, al ≠ ab ∧ tS (ZF P w K mg base N "law" scope fa cdv A outer s H E Fm Bag (bagR ab al)) (Γ0 ab) mb (fun _ => []) (fun e => nomatch e) (.fz rB) D σ H') :=
    ⟨fun pins s1 σ H' D I ⟨ab, al, Fm, ne, h⟩ => (hb cdv A outer s H E Fm ab al ne hr (zf_ok S.nd)).ps.run pins s1 σ H' D I h⟩
  have sl : (L2.start N [V.ref a]).length = N.length := by
    unfold L2.start
    rw [List.length_append, List.length_map, List.length_replicate, List.length_cons, List.length_nil]
    omega
  have s0 : (L2.start N [V.ref a])[0]? = some (some (V.ref a)) := rfl
  refine ⟨_, pss_cons first restT, ?_⟩
  refine ⟨_, s0, a, ns, rfl, hS, fun al ab nal nab ne => ?_⟩
  let B : Hp := upd (upd (fun _ => none) al (.lst (ns.map V.int))) ab (bagO al (bag0 ns))
  let H1 : Hp := upd (upd H al (.lst (ns.map V.int))) ab (bagO al (bag0 ns))
  have bh : Same B H1 := Same.upd2 (Same.upd2 fun b o e => by cases e)
  refine ⟨ab, al, ⟨H1, fun _ => none, B⟩, ne, bag0 ns, fun _ => none, B, ?_, ?_⟩
  · refine ⟨Ok.refl (F := ⟨H1, fun _ => none, B⟩) (fun b o e => by cases e) bh (fun b o e => by cases e), ⟨upd_same, by show upd _ ab _ al = _; rw [upd_ne ne, upd_same]; rfl⟩, ⟨?_, fun j A' e => ?_, fun j L e => ?_, fun j j' L L' c e => ?_⟩, ⟨Nat.zero_le _, fun j A' e => by simp at e⟩, (fun b o e => by cases e), fun b o e => by cases e⟩
    · rw [List.length_set, sl]
      exact hΓl ab
    · obtain ⟨rfl, hy⟩ := hΓ ab j _ e
      cases hy
      exact ⟨.ref ab, by rw [List.getElem?_set_self (by rw [sl]; exact hiN)], rfl⟩
    · obtain ⟨_, hy⟩ := hΓ ab j _ e
      cases hy
    · obtain ⟨_, hy⟩ := hΓ ab j _ e
      cases hy
  · obtain ⟨b1, eb⟩ := good ns hl
    rw [eb]
    intro v σ' H' G' B' g st h
    have h : v = .bl true := h
    rw [h]
    exact hQ H'
end
end DL
set_option Elab.async false
set_option linter.all false
set_option maxRecDepth 100000
namespace DL
open PySem L2
/-! ### the mathematics of mirrors: what a draw-using mirror gives -/
def BOk (b : Bag) : Prop := 0 ≤ b.at_
/-- from a good bag: a value with Q, and a good bag -/
def Gv {α : Type} (m : M Bag α) (Q : α → Prop) : Prop := ∀ s, BOk s → ∃ a s', m s = .ok a s' ∧ BOk s' ∧ Q a
section
variable {α β γ T U ρ : Type}
theorem Gv.imp {m : M Bag α} {Q Q' : α → Prop} (h : Gv m Q) (i : ∀ a, Q a → Q' a) : Gv m Q' := fun s hs => by
  obtain ⟨a, s', h1, h2, h3⟩ := h s hs
  exact ⟨a, s', h1, h2, i a h3⟩
theorem gv_ret {a : α} {Q : α → Prop} (h : Q a) : Gv (ret a) Q := fun s hs => ⟨a, s, rfl, hs, h⟩
theorem gv_bnd {m : M Bag α} {f : α → M Bag β} {P : α → Prop} {Q : β → Prop} (h : Gv m P) (k : ∀ a, P a → Gv (f a) Q) : Gv (bnd m f) Q := fun s hs => by
  obtain ⟨a, s', h1, h2, h3⟩ := h s hs
  obtain ⟨b, s2, k1, k2, k3⟩ := k a h3 s' h2
  exact ⟨b, s2, by show (m s).bnd f = _; rw [h1]; exact k1, k2, k3⟩
/-- .. of what is to be shown of the rest -/
theorem gv_on {m : M Bag α} {f : α → M Bag β} {Q : β → Prop} (h : Gv m fun a => Gv (f a) Q) : Gv (bnd m f) Q := gv_bnd h fun _ h => h
theorem gv_opt {o : Option α} {a : α} {Q : α → Prop} (e : o = some a) (h : Q a) : Gv (opt o) Q := by
  subst e
  exact gv_ret h
theorem gv_grd {b : Bool} {Q : Unit → Prop} (e : b = true) (h : Q ()) : Gv (grd b) Q := by
  subst e
  exact gv_ret h
theorem gv_ite {c : Bool} {a b : M Bag α} {Q : α → Prop} (h1 : c = true → Gv a Q) (h2 : c = false → Gv b Q) : Gv (if c then a else b) Q := by
  cases c with
  | true => exact h1 rfl
  | false => exact h2 rfl
theorem gv_draw {n : Int} {Q : Int → Prop} (h0 : 0 < n) (h1 : n < 1073741824) (h : ∀ d, 0 ≤ d → d < n → Q d) : Gv (drawM bagI n) Q := fun s hs => by
  have main : ∀ d b', drawB s n = (d, b') → 0 ≤ d → d < n → BOk b' → ∃ a s', drawM bagI n s = .ok a s' ∧ BOk s' ∧ Q a := fun d b' e k0 k1 kb => by
    refine ⟨d, b', ?_, kb, h d k0 k1⟩
    show (if 0 < n ∧ n < 1073741824 ∧ 0 ≤ s.at_ then Out.ok (drawB s n).1 (drawB s n).2 else .stuck) = _
    rw [if_pos ⟨h0, h1, hs⟩, e]
  have ha : 0 ≤ (drawA s).1 := by
    unfold drawA
    by_cases c : s.val = 0 ∧ s.at_ < s.scr.length
    · rw [if_pos c]
      show 0 ≤ s.at_ + 1
      have : 0 ≤ s.at_ := hs
      omega
    · rw [if_neg c]
      exact hs
  have e : drawB s n = drawB s n := rfl
  conv at e => rhs; unfold drawB
  by_cases c : 0 < (drawA s).2.1
  · rw [if_pos c] at e
    exact main _ _ e (Int.emod_nonneg _ (by omega)) (Int.emod_lt_of_pos _ h0) ha
  · rw [if_neg c] at e
    exact main _ _ e (Int.emod_nonneg _ (by omega)) (Int.emod_lt_of_pos _ h0) ha
theorem gv_then {m : M Bag (Fl T U ρ)} {f : T → M Bag (Fl γ U ρ)} {P : T → Prop} {Q : Fl γ U ρ → Prop} (h : Gv m fun fl => ∃ t, fl = .nx t ∧ P t) (k : ∀ t, P t → Gv (f t) Q) : Gv (thenB m f) Q :=
  gv_bnd h fun fl ⟨t, e, p⟩ => by
    subst e
    exact k t p
/-- what a block returns -/
theorem gv_run {m : M Bag (Fl T Empty β)} {Q : β → Prop} (h : Gv m fun fl => ∃ r, fl = .rt r ∧ Q r) : Gv (runF m) Q := gv_bnd h fun fl ⟨r, e, q⟩ => by
  subst e
  exact gv_ret q
theorem gv_rt {r : β} {Q : β → Prop} (h : Q r) : Gv (ret (.rt r) : M Bag (Fl T U β)) fun fl => ∃ r, fl = .rt r ∧ Q r := gv_ret ⟨r, rfl, h⟩
theorem gv_nx {t : T} {P : T → Prop} (h : P t) : Gv (ret (.nx t) : M Bag (Fl T U β)) fun fl => ∃ t, fl = .nx t ∧ P t := gv_ret ⟨t, rfl, h⟩
/-- a for, each turn to its end -/
theorem gv_for {body : α → T → M Bag (Fl T T ρ)} (I : List α → T → Prop) {xs : List α} {t0 : T} (h0 : I [] t0) (h : ∀ pre x post t, xs = pre ++ x :: post → I pre t → Gv (body x t) fun fl => ∃ t', fl = .nx t' ∧ I (pre ++ [x]) t') :
    Gv (forL body xs t0 : M Bag (Fl T U ρ)) fun fl => ∃ t, fl = .nx t ∧ I xs t := by
  have main : ∀ (post pre : List α) (t : T), xs = pre ++ post → I pre t → Gv (forL body post t : M Bag (Fl T U ρ)) fun fl => ∃ t, fl = .nx t ∧ I xs t := by
    intro post
    induction post with
    | nil =>
      intro pre t e i
      rw [List.append_nil] at e
      subst e
      exact gv_nx i
    | cons x post ih =>
      intro pre t e i
      refine gv_bnd (h pre x post t e i) fun fl ⟨t', e', i'⟩ => ?_
      subst e'
      exact ih (pre ++ [x]) t' (by rw [e, List.append_assoc]; rfl) i'
  exact main xs [] t0 rfl h0
/-- a comprehension, item by item -/
theorem gv_compL {mt : α → M Bag Bool} {me : α → M Bag β} (R : α → List β → Prop) : ∀ {xs : List α}, (∀ x ∈ xs, Gv (nox (mt x)) fun c => if c then Gv (nox (me x)) fun y => R x [y] else R x []) → Gv (compL mt me xs) fun ys => ∃ yss : List (List β), ys = yss.flatten ∧ Paired R xs yss
  | [], _ => gv_ret ⟨[], rfl, .nil⟩
  | x :: xs, h => by
    refine gv_bnd (h x List.mem_cons_self) fun c hc => ?_
    have ih := gv_compL (mt := mt) (me := me) R (xs := xs) fun y hy => h y (List.mem_cons_of_mem _ hy)
    cases c with
    | true =>
      have hc : Gv (nox (me x)) fun y => R x [y] := hc
      refine gv_bnd hc fun y hy => gv_bnd ih fun ys ⟨yss, e, p⟩ => gv_ret ⟨[y] :: yss, by rw [e]; rfl, .cons hy p⟩
    | false => exact ih.imp fun ys ⟨yss, e, p⟩ => ⟨[] :: yss, by rw [e]; rfl, .cons hc p⟩
theorem gv_nox {m : M Bag α} {Q : α → Prop} (h : Gv m Q) : Gv (nox m) Q := fun s hs => by
  obtain ⟨a, s', h1, h2, h3⟩ := h s hs
  exact ⟨a, s', by unfold nox; rw [h1], h2, h3⟩
/-- every item is kept: as many, each with P -/
theorem gv_compA {me : α → M Bag β} {P : β → Prop} {xs : List α} (hz : xs.length ≤ sizeLine) (h : ∀ x ∈ xs, Gv (me x) P) : Gv (compM (fun _ => ret true) me xs) fun ys => ys.length = xs.length ∧ ∀ y ∈ ys, P y := by
  refine gv_bnd (P := fun _ => True) (gv_grd (decide_eq_true hz) True.intro) fun _ _ => ?_
  have main : ∀ {zs : List α}, (∀ x ∈ zs, Gv (me x) P) → Gv (compL (fun _ => ret true) me zs) fun ys => ys.length = zs.length ∧ ∀ y ∈ ys, P y := by
    intro zs
    induction zs with
    | nil => exact fun _ => gv_ret ⟨rfl, fun y hy => by cases hy⟩
    | cons x zs ih =>
      intro h
      refine gv_bnd (P := fun c => c = true) (gv_nox (gv_ret rfl)) fun c hc => ?_
      subst hc
      refine gv_bnd (gv_nox (h x List.mem_cons_self)) fun y hy => gv_bnd (ih fun z hz => h z (List.mem_cons_of_mem _ hz)) fun ys ⟨l, a⟩ => gv_ret ⟨by rw [List.length_cons, List.length_cons, l], fun z hz => ?_⟩
      rcases List.mem_cons.mp hz with e | e
      · rw [e]; exact hy
      · exact a z e
  exact main h
end
/-! ### mirrors without draws: equations -/
section
variable {S α β : Type}
theorem compL_ret {mt : α → M S Bool} {me : α → M S β} {c : α → Bool} {g : α → β} : ∀ {xs : List α}, (∀ x ∈ xs, mt x = ret (c x)) → (∀ x ∈ xs, c x = true → me x = ret (g x)) → compL mt me xs = ret ((xs.filter c).map g)
  | [], _, _ => rfl
  | x :: xs, h1, h2 => by
    have ih := compL_ret (mt := mt) (me := me) (c := c) (g := g) (xs := xs) (fun y hy => h1 y (List.mem_cons_of_mem _ hy)) (fun y hy => h2 y (List.mem_cons_of_mem _ hy))
    show bnd (nox (mt x)) _ = _
    rw [h1 x List.mem_cons_self, nox_ret, ret_bnd]
    cases e : c x with
    | true =>
      rw [List.filter_cons_of_pos e, List.map_cons]
      show bnd (nox (me x)) _ = _
      rw [h2 x List.mem_cons_self e, nox_ret, ret_bnd, ih, ret_bnd]
    | false =>
      rw [List.filter_cons_of_neg (by rw [e]; exact Bool.false_ne_true)]
      exact ih
theorem compM_ret {mt : α → M S Bool} {me : α → M S β} {c : α → Bool} {g : α → β} {xs : List α} (hz : xs.length ≤ sizeLine) (h1 : ∀ x ∈ xs, mt x = ret (c x)) (h2 : ∀ x ∈ xs, c x = true → me x = ret (g x)) : compM mt me xs = ret ((xs.filter c).map g) := by
  unfold compM
  rw [decide_eq_true hz, grd_true, ret_bnd, compL_ret h1 h2]
/-- all items -/
theorem compM_all {me : α → M S β} {g : α → β} {xs : List α} (hz : xs.length ≤ sizeLine) (h2 : ∀ x ∈ xs, me x = ret (g x)) : compM (fun _ => ret true) me xs = ret (xs.map g) := by
  rw [compM_ret (c := fun _ => true) hz (fun _ _ => rfl) (fun x hx _ => h2 x hx)]
  congr 2
  exact List.filter_eq_self.mpr fun _ _ => rfl
theorem runF_rt {T : Type} (r : β) : runF (ret (.rt r) : M S (Fl T Empty β)) = ret r := rfl
theorem runF_bnd {T : Type} (m : M S α) (f : α → M S (Fl T Empty β)) : runF (bnd m f) = bnd m fun a => runF (f a) := by
  unfold runF
  rw [bnd_assoc]
theorem runF_ite {T : Type} {c : Bool} (a b : M S (Fl T Empty β)) : runF (if c then a else b) = if c then runF a else runF b := by cases c <;> rfl
theorem thenB_nx {T T1 U ρ : Type} (t : T1) (f : T1 → M S (Fl T U ρ)) : thenB (ret (.nx t)) f = f t := ret_bnd _ _
theorem thenB_rt {T T1 U ρ : Type} (r : ρ) (f : T1 → M S (Fl T U ρ)) : thenB (ret (.rt r)) f = ret (.rt r) := ret_bnd _ _
theorem thenB_bnd {T T1 U ρ : Type} (m : M S α) (g : α → M S (Fl T1 U ρ)) (f : T1 → M S (Fl T U ρ)) : thenB (bnd m g) f = bnd m fun a => thenB (g a) f := by
  unfold thenB
  rw [bnd_assoc]
theorem thenB_ite {T T1 U ρ : Type} {c : Bool} (a b : M S (Fl T1 U ρ)) (f : T1 → M S (Fl T U ρ)) : thenB (if c then a else b) f = if c then thenB a f else thenB b f := by cases c <;> rfl
theorem forL_cons {T U ρ : Type} (body : α → T → M S (Fl T T ρ)) (x : α) (xs : List α) (t : T) : (forL body (x :: xs) t : M S (Fl T U ρ)) = bnd (body x t) (Fl.loop (forL body xs)) := rfl
/-- a for whose turns are a step each -/
theorem forL_step {T U ρ : Type} {body : α → T → M S (Fl T T ρ)} {step : α → T → T} : ∀ {xs : List α} {t : T}, (∀ pre x post, xs = pre ++ x :: post → body x (pre.foldl (fun t x => step x t) t) = ret (.nx (step x (pre.foldl (fun t x => step x t) t)))) → (forL body xs t : M S (Fl T U ρ)) = ret (.nx (xs.foldl (fun t x => step x t) t))
  | [], t, _ => rfl
  | x :: xs, t, h => by
    have h0 : body x t = ret (.nx (step x t)) := h [] x xs rfl
    rw [forL_cons, h0, ret_bnd]
    show forL body xs (step x t) = _
    rw [forL_step (xs := xs) (t := step x t) fun pre y post e => h (x :: pre) y post (by rw [e]; rfl)]
    rfl
end
/-! ### dicts -/
section
variable {κ α β : Type} [DecidableEq κ]
theorem dget_nil (k : κ) : dget ([] : List (κ × α)) k = none := rfl
theorem dget_cons (q : κ × α) (d : List (κ × α)) (k : κ) : dget (q :: d) k = if q.1 = k then some q.2 else dget d k := by
  unfold dget
  rw [List.find?_cons]
  by_cases h : q.1 = k
  · rw [decide_eq_true h, if_pos h]; rfl
  · rw [decide_eq_false h, if_neg h]
theorem dget_append (d e : List (κ × α)) (k : κ) : dget (d ++ e) k = (dget d k).or (dget e k) := by
  induction d with
  | nil => simp [dget_nil]
  | cons q d ih =>
    rw [List.cons_append, dget_cons, dget_cons, ih]
    by_cases h : q.1 = k
    · rw [if_pos h, if_pos h]; rfl
    · rw [if_neg h, if_neg h]
theorem dget_none {d : List (κ × α)} {k : κ} : dget d k = none ↔ k ∉ d.map (·.1) := by
  induction d with
  | nil => simp [dget_nil]
  | cons q d ih =>
    rw [dget_cons, List.map_cons, List.mem_cons, not_or]
    by_cases h : q.1 = k
    · rw [if_pos h]
      exact ⟨fun z => (by cases z), fun z => absurd h.symm z.1⟩
    · rw [if_neg h, ih]
      exact ⟨fun z => ⟨fun w => h w.symm, z⟩, fun z => z.2⟩
theorem dhas_iff {d : List (κ × α)} {k : κ} : dhas d k = true ↔ k ∈ d.map (·.1) := by
  unfold dhas
  cases e : dget d k with
  | none =>
    have z := dget_none.mp e
    exact ⟨fun w => (by cases w), fun w => absurd w z⟩
  | some x =>
    refine ⟨fun _ => ?_, fun _ => rfl⟩
    rcases Decidable.em (k ∈ d.map (·.1)) with h | h
    · exact h
    · rw [dget_none.mpr h] at e
      cases e
theorem dhas_dec (d : List (κ × α)) (k : κ) : dhas d k = decide (k ∈ d.map (·.1)) := by
  by_cases h : k ∈ d.map (·.1)
  · rw [decide_eq_true h]; exact dhas_iff.mpr h
  · rw [decide_eq_false h]
    cases e : dhas d k with
    | false => rfl
    | true => exact absurd (dhas_iff.mp e) h
theorem dput_new {d : List (κ × α)} {k : κ} {v : α} (h : k ∉ d.map (·.1)) : dput d k v = d ++ [(k, v)] := by
  unfold dput
  rw [if_neg]
  intro z
  obtain ⟨q, h1, h2⟩ := List.any_eq_true.mp z
  exact h (List.mem_map.mpr ⟨q, h1, of_decide_eq_true h2⟩)
theorem dget_mem' {d : List (κ × α)} {k : κ} {x : α} (h : dget d k = some x) : (k, x) ∈ d := by
  induction d with
  | nil => cases h
  | cons q d ih =>
    rw [dget_cons] at h
    by_cases e : q.1 = k
    · rw [if_pos e] at h
      cases h
      rw [← e]
      exact List.mem_cons_self
    · rw [if_neg e] at h
      exact List.mem_cons_of_mem _ (ih h)
theorem dget_of_mem {d : List (κ × α)} (nd : (d.map (·.1)).Nodup) {k : κ} {x : α} (h : (k, x) ∈ d) : dget d k = some x := by
  induction d with
  | nil => cases h
  | cons q d ih =>
    rw [List.map_cons, List.nodup_cons] at nd
    rw [dget_cons]
    rcases List.mem_cons.mp h with e | e
    · rw [← e, if_pos rfl]
    · rw [if_neg fun z => nd.1 (by rw [z]; exact List.mem_map.mpr ⟨(k, x), e, rfl⟩)]
      exact ih nd.2 e
end
end DL
set_option Elab.async false
set_option linter.all false
set_option maxRecDepth 100000
namespace DL
open PySem L2
/-! ### texts as lists of signs -/
def mk (l : List Nat) : Str := ⟨l.toArray⟩
def sg (x : Str) : List Nat := x.cps.toList
@[simp] theorem sg_mk (l : List Nat) : sg (mk l) = l := rfl
theorem mk_sg (x : Str) : mk (sg x) = x := rfl
theorem sg_inj {x y : Str} (h : sg x = sg y) : x = y := by rw [← mk_sg x, ← mk_sg y, h]
theorem len_sg (x : Str) : x.length = (sg x).length := by unfold sg Str.length; rw [Array.length_toList]
theorem app_sg (x y : Str) : x ++ y = mk (sg x ++ sg y) := by
  apply sg_inj
  show (x.cps ++ y.cps).toList = _
  rw [Array.toList_append]
  rfl
theorem sg_app (x y : Str) : sg (x ++ y) = sg x ++ sg y := by rw [app_sg, sg_mk]
/-- letters -/
def Lets (x : Str) : Prop := ∀ c ∈ sg x, 97 ≤ c ∧ c ≤ 122
structure VName (x : Str) : Prop where
  lo : 1 ≤ (sg x).length
  hi : (sg x).length ≤ 12
  le : Lets x
def LET : Str := "abcdefghijklmnopqrstuvwxyz"
theorem sg_LET : sg LET = (List.range 26).map (97 + ·) := by decide +kernel
theorem atI_lt {α : Type} {xs : List α} {i : Int} (h0 : 0 ≤ i) (h1 : i < xs.length) : atI xs i = xs[i.toNat]? := by
  obtain ⟨n, rfl⟩ := Int.eq_ofNat_of_zero_le h0
  have hn : n < xs.length := by omega
  have e : xs[n]? = some xs[n] := List.getElem?_eq_getElem hn
  rw [atI_nat e]
  exact e.symm
theorem gv_at {α : Type} {xs : List α} {d : Int} {Q : α → Prop} (h0 : 0 ≤ d) (h1 : d < xs.length) (h : ∀ x ∈ xs, Q x) : Gv (opt (atI xs d)) Q := by
  have hn : d.toNat < xs.length := by omega
  rw [atI_lt h0 h1, List.getElem?_eq_getElem hn]
  exact gv_ret (h _ (List.getElem_mem hn))
theorem sline : sizeLine = 16777216 := by decide
theorem sget_LET {S : Type} {i : Int} (h0 : 0 ≤ i) (h1 : i < 26) : (sgetM LET i : M S Str) = ret (mk [97 + i.toNat]) := by
  unfold sgetM
  rw [decide_eq_true (show LET.length ≤ sizeLine by decide +kernel), grd_true, ret_bnd]
  have e : atI LET.cps.toList i = some (97 + i.toNat) := by
    rw [show LET.cps.toList = (List.range 26).map (97 + ·) from sg_LET, atI_lt h0 (by rw [List.length_map, List.length_range]; exact h1), List.getElem?_map, List.getElem?_range (by omega)]
    rfl
  rw [e, opt_some, ret_bnd]
  rfl
theorem sadd_of {S : Type} {x y : Str} (h : (sg x).length + (sg y).length ≤ 1000) : (saddM x y : M S Str) = ret (mk (sg x ++ sg y)) := by
  unfold saddM
  rw [decide_eq_true (show x.length + y.length ≤ sizeLine by rw [len_sg, len_sg, sline]; omega), grd_true, ret_bnd, app_sg]
theorem cut_lo (x : Str) {p : Int} (h0 : 0 ≤ p) (h1 : p ≤ (sg x).length) : cutS x none (some p) = mk ((sg x).take p.toNat) := by
  obtain ⟨n, rfl⟩ := Int.eq_ofNat_of_zero_le h0
  have hn : n ≤ (sg x).length := by omega
  unfold cutS
  have e1 : HT.sIx x.length 0 none = 0 := rfl
  have e2 : HT.sIx x.length x.length (some (n : Int)) = n := by rw [HT.sIx_nat, len_sg]; omega
  rw [e1, e2]
  rfl
theorem cut_hi (x : Str) {p : Int} (h0 : 0 ≤ p) (h1 : p ≤ (sg x).length) : cutS x (some p) none = mk ((sg x).drop p.toNat) := by
  obtain ⟨n, rfl⟩ := Int.eq_ofNat_of_zero_le h0
  have hn : n ≤ (sg x).length := by omega
  unfold cutS
  have e1 : HT.sIx x.length x.length none = x.length := rfl
  have e2 : HT.sIx x.length 0 (some (n : Int)) = n := by rw [HT.sIx_nat, len_sg]; omega
  rw [e1, e2]
  apply sg_inj
  show ((sg x).drop n).take (x.length - n) = (sg x).drop (n : Int).toNat
  rw [len_sg, Int.toNat_natCast]
  exact List.take_of_length_le (by rw [List.length_drop]; omega)
theorem sslM_of {S : Type} {x : Str} {l h : Option Int} (hx : (sg x).length ≤ 1000) : (sslM x l h : M S Str) = ret (cutS x l h) := by
  unfold sslM
  rw [decide_eq_true (show x.length ≤ sizeLine by rw [len_sg, sline]; omega), grd_true, ret_bnd]
theorem joinE_sg : ∀ ys : List Str, sg (Str.join "" ys) = (ys.map sg).flatten
  | [] => rfl
  | [x] => by
    show sg x = [sg x].flatten
    simp
  | x :: y :: r => by
    show sg (x ++ "" ++ Str.join "" (y :: r)) = _
    rw [sg_app, sg_app, joinE_sg (y :: r), List.map_cons, List.flatten_cons]
    have e : sg "" = [] := by decide +kernel
    rw [e, List.append_nil]
    rfl
theorem joinM_of {S : Type} {ys : List Str} (h1 : ∀ y ∈ ys, (sg y).length = 1) (h2 : ys.length ≤ 1000) : (joinM "" ys : M S Str) = ret (mk (ys.map sg).flatten) := by
  have e0 : ("" : Str).length = 0 := by decide +kernel
  have es : (ys.map (·.length)).sum = ys.length := by
    clear h2
    induction ys with
    | nil => rfl
    | cons y ys ih =>
      rw [List.map_cons, List.sum_cons, List.length_cons, ih fun z hz => h1 z (List.mem_cons_of_mem _ hz), len_sg, h1 y List.mem_cons_self]
      omega
  unfold joinM
  rw [decide_eq_true (by rw [es, e0]; omega), grd_true, ret_bnd]
  congr 1
  apply sg_inj
  show sg (Txt.join "" ys) = _
  rw [TL.join_eq, joinE_sg, sg_mk]
/-! ### lists -/
theorem nd_ix {α : Type} {l : List α} (h : ∀ (i j : Nat) (x y : α), i < j → l[i]? = some x → l[j]? = some y → x ≠ y) : l.Nodup := by
  refine List.pairwise_iff_getElem.mpr fun i j hi hj hij => ?_
  exact h i j _ _ hij (List.getElem?_eq_getElem hi) (List.getElem?_eq_getElem hj)
theorem ix_nd {α : Type} {l : List α} (nd : l.Nodup) {i j : Nat} {x : α} (h1 : l[i]? = some x) (h2 : l[j]? = some x) : i = j := by
  obtain ⟨a1, b1⟩ := List.getElem?_eq_some_iff.mp h1
  obtain ⟨a2, b2⟩ := List.getElem?_eq_some_iff.mp h2
  rcases Nat.lt_trichotomy i j with h | h | h
  · exact absurd (b1.trans b2.symm) (List.pairwise_iff_getElem.mp nd i j a1 a2 h)
  · exact h
  · exact absurd (b2.trans b1.symm) (List.pairwise_iff_getElem.mp nd j i a2 a1 h)
theorem nd_set {α : Type} {l : List α} (nd : l.Nodup) {w : α} (h : w ∉ l) (k : Nat) : (l.set k w).Nodup := by
  refine nd_ix fun i j x y hij h1 h2 => ?_
  rcases set_at h1 with ⟨rfl, e1⟩ | ⟨n1, e1⟩
  · rcases set_at h2 with ⟨e, _⟩ | ⟨n2, e2⟩
    · omega
    · rw [← e1]
      exact fun z => h (by rw [z]; exact List.mem_of_getElem? e2)
  · rcases set_at h2 with ⟨rfl, e2⟩ | ⟨n2, e2⟩
    · rw [← e2]
      exact fun z => h (by rw [← z]; exact List.mem_of_getElem? e1)
    · exact fun z => by
        rw [← z] at e2
        have := ix_nd nd e1 e2
        omega
theorem mem_set {α : Type} {l : List α} {k : Nat} {w x : α} (h : x ∈ l.set k w) : x = w ∨ x ∈ l := by
  rcases List.mem_or_eq_of_mem_set h with z | z
  · exact .inr z
  · exact .inl z
theorem setM_of {S α : Type} {xs : List α} {i : Int} {x : α} (h0 : 0 ≤ i) (h1 : i < xs.length) : (setM xs i x : M S (List α)) = ret (xs.set i.toNat x) := by
  unfold setM
  have e : ixN xs.length i = some i.toNat := by
    unfold ixN
    rw [if_pos h0, if_pos h1]
  rw [e, opt_some, ret_bnd]
theorem appM_of {S α : Type} {xs : List α} {x : α} (h : xs.length ≤ 1000) : (appM xs x : M S (List α)) = ret (xs ++ [x]) := by
  unfold appM
  rw [decide_eq_true (show xs.length < sizeLine by rw [sline]; omega), grd_true, ret_bnd]
theorem rangeM_of {S : Type} {n : Int} (h0 : 0 ≤ n) (h1 : n ≤ 1000000) : (rangeM 0 n : M S (List Int)) = ret ((List.range n.toNat).map fun (i : Nat) => (i : Int)) := by
  unfold rangeM
  rw [show (decide (-(2 ^ 62) ≤ (0 : Int)) && decide ((0 : Int) < 2 ^ 62) && decide (-(2 ^ 62) ≤ n) && decide (n < 2 ^ 62)) = true from by
    simp only [Bool.and_eq_true, decide_eq_true_eq]
    omega, grd_true, ret_bnd]
  congr 1
  rw [show (n - 0).toNat = n.toNat by omega]
  exact List.map_congr_left fun i _ => by omega
theorem modM_of {S : Type} {x y : Int} (h : 0 < y) : (modM x y : M S Int) = ret (x % y) := by
  unfold modM
  rw [decide_eq_true h, grd_true, ret_bnd]
theorem mulM_of {S : Type} {x y : Int} (h : -(2 ^ 64) < x) (h2 : x < 2 ^ 64) : (mulM x y : M S Int) = ret (x * y) := by
  unfold mulM small64B
  rw [decide_eq_true h, decide_eq_true h2]
  rfl
theorem fdivM_of {S : Type} {x y : Int} (h : 0 < y) (h2 : y < 1073741824) : (fdivM x y : M S Int) = ret (x / y) := by
  unfold fdivM
  rw [decide_eq_true h, decide_eq_true h2]
  rfl
end DL
set_option Elab.async false
set_option linter.all false
set_option maxRecDepth 100000
set_option maxHeartbeats 4000000
namespace Lw
open PySem PySem.Spec PyProof.Rows L2 DL
structure D_Column where
  name : Str
  width : Int
  modulus : Int
deriving DecidableEq
def d0_Column : D_Column := ⟨"", 0, 0⟩
def cd_Column (K : PySem.W.Frag) : CD D_Column := ⟨fun t => [("name", .fz (rS t.name)), ("width", .fz (rI t.width)), ("modulus", .fz (rI t.modulus))], ["name", "width", "modulus"], fun _ => rfl, by decide⟩
theorem hd_Column_name (K : PySem.W.Frag) : ∀ (t : D_Column) (y : Str) (j : Nat), j ≠ 0 → ((cd_Column K).all { t with name := y })[j]? = ((cd_Column K).all t)[j]? := by
  intro t y j hj
  rcases j with _ | _ | _ | _ <;> first | rfl | exact absurd rfl hj
theorem hd_Column_width (K : PySem.W.Frag) : ∀ (t : D_Column) (y : Int) (j : Nat), j ≠ 1 → ((cd_Column K).all { t with width := y })[j]? = ((cd_Column K).all t)[j]? := by
  intro t y j hj
  rcases j with _ | _ | _ | _ <;> first | rfl | exact absurd rfl hj
theorem hd_Column_modulus (K : PySem.W.Frag) : ∀ (t : D_Column) (y : Int) (j : Nat), j ≠ 2 → ((cd_Column K).all { t with modulus := y })[j]? = ((cd_Column K).all t)[j]? := by
  intro t y j hj
  rcases j with _ | _ | _ | _ <;> first | rfl | exact absurd rfl hj
def fs_Column (K : PySem.W.Frag) (t : D_Column) : List (Str × MP V) := [("name", rS t.name), ("width", rI t.width), ("modulus", rI t.modulus)]
abbrev r_Column (K : PySem.W.Frag) : Rp D_Column := rObj (He.ga K "Column") (fs_Column K)
structure D_Kind where
  name : Str
  source : Str
  target : Str
  weight : Int
  carried : List (Str × (Str × Int))
deriving DecidableEq
def d0_Kind : D_Kind := ⟨"", "", "", 0, []⟩
def cd_Kind (K : PySem.W.Frag) : CD D_Kind := ⟨fun t => [("name", .fz (rS t.name)), ("source", .fz (rS t.source)), ("target", .fz (rS t.target)), ("weight", .fz (rI t.weight)), ("carried", .fz ((rD kS (rT2 K rS rI)) t.carried))], ["name", "source", "target", "weight", "carried"], fun _ => rfl, by decide⟩
theorem hd_Kind_name (K : PySem.W.Frag) : ∀ (t : D_Kind) (y : Str) (j : Nat), j ≠ 0 → ((cd_Kind K).all { t with name := y })[j]? = ((cd_Kind K).all t)[j]? := by
  intro t y j hj
  rcases j with _ | _ | _ | _ | _ | _ <;> first | rfl | exact absurd rfl hj
theorem hd_Kind_source (K : PySem.W.Frag) : ∀ (t : D_Kind) (y : Str) (j : Nat), j ≠ 1 → ((cd_Kind K).all { t with source := y })[j]? = ((cd_Kind K).all t)[j]? := by
  intro t y j hj
  rcases j with _ | _ | _ | _ | _ | _ <;> first | rfl | exact absurd rfl hj
theorem hd_Kind_target (K : PySem.W.Frag) : ∀ (t : D_Kind) (y : Str) (j : Nat), j ≠ 2 → ((cd_Kind K).all { t with target := y })[j]? = ((cd_Kind K).all t)[j]? := by
  intro t y j hj
  rcases j with _ | _ | _ | _ | _ | _ <;> first | rfl | exact absurd rfl hj
theorem hd_Kind_weight (K : PySem.W.Frag) : ∀ (t : D_Kind) (y : Int) (j : Nat), j ≠ 3 → ((cd_Kind K).all { t with weight := y })[j]? = ((cd_Kind K).all t)[j]? := by
  intro t y j hj
  rcases j with _ | _ | _ | _ | _ | _ <;> first | rfl | exact absurd rfl hj
theorem hd_Kind_carried (K : PySem.W.Frag) : ∀ (t : D_Kind) (y : List (Str × (Str × Int))) (j : Nat), j ≠ 4 → ((cd_Kind K).all { t with carried := y })[j]? = ((cd_Kind K).all t)[j]? := by
  intro t y j hj
  rcases j with _ | _ | _ | _ | _ | _ <;> first | rfl | exact absurd rfl hj
def fs_Kind (K : PySem.W.Frag) (t : D_Kind) : List (Str × MP V) := [("name", rS t.name), ("source", rS t.source), ("target", rS t.target), ("weight", rI t.weight), ("carried", (rD kS (rT2 K rS rI)) t.carried)]
abbrev r_Kind (K : PySem.W.Frag) : Rp D_Kind := rObj (He.ga K "Kind") (fs_Kind K)
structure D_Cycle where
  column_sizes : List (Str × (Int × Int))
  kind_ends : List (Str × (Str × Str))
  kind_weights : List (Str × Int)
  kind_carried : List (Str × (List (Str × (Str × Int))))
deriving DecidableEq
def d0_Cycle : D_Cycle := ⟨[], [], [], []⟩
def cd_Cycle (K : PySem.W.Frag) : CD D_Cycle := ⟨fun t => [("column_sizes", .ow (owD kS (rT2 K rI rI) t.column_sizes)), ("kind_ends", .ow (owD kS (rT2 K rS rS) t.kind_ends)), ("kind_weights", .ow (owD kS rI t.kind_weights)), ("kind_carried", .ow (owD kS (rD kS (rT2 K rS rI)) t.kind_carried))], ["column_sizes", "kind_ends", "kind_weights", "kind_carried"], fun _ => rfl, by decide⟩
theorem hd_Cycle_column_sizes (K : PySem.W.Frag) : ∀ (t : D_Cycle) (y : List (Str × (Int × Int))) (j : Nat), j ≠ 0 → ((cd_Cycle K).all { t with column_sizes := y })[j]? = ((cd_Cycle K).all t)[j]? := by
  intro t y j hj
  rcases j with _ | _ | _ | _ | _ <;> first | rfl | exact absurd rfl hj
theorem hd_Cycle_kind_ends (K : PySem.W.Frag) : ∀ (t : D_Cycle) (y : List (Str × (Str × Str))) (j : Nat), j ≠ 1 → ((cd_Cycle K).all { t with kind_ends := y })[j]? = ((cd_Cycle K).all t)[j]? := by
  intro t y j hj
  rcases j with _ | _ | _ | _ | _ <;> first | rfl | exact absurd rfl hj
theorem hd_Cycle_kind_weights (K : PySem.W.Frag) : ∀ (t : D_Cycle) (y : List (Str × Int)) (j : Nat), j ≠ 2 → ((cd_Cycle K).all { t with kind_weights := y })[j]? = ((cd_Cycle K).all t)[j]? := by
  intro t y j hj
  rcases j with _ | _ | _ | _ | _ <;> first | rfl | exact absurd rfl hj
theorem hd_Cycle_kind_carried (K : PySem.W.Frag) : ∀ (t : D_Cycle) (y : List (Str × (List (Str × (Str × Int))))) (j : Nat), j ≠ 3 → ((cd_Cycle K).all { t with kind_carried := y })[j]? = ((cd_Cycle K).all t)[j]? := by
  intro t y j hj
  rcases j with _ | _ | _ | _ | _ <;> first | rfl | exact absurd rfl hj
def fs_Cycle (K : PySem.W.Frag) (t : D_Cycle) : List (Str × MP V) := [("column_sizes", (rD kS (rT2 K rI rI)) t.column_sizes), ("kind_ends", (rD kS (rT2 K rS rS)) t.kind_ends), ("kind_weights", (rD kS rI) t.kind_weights), ("kind_carried", (rD kS (rD kS (rT2 K rS rI))) t.kind_carried)]
abbrev r_Cycle (K : PySem.W.Frag) : Rp D_Cycle := rObj (He.ga K "Cycle") (fs_Cycle K)
structure Txt (K : PySem.W.Frag) (mg : Str → Option Value) : Prop where
  f_any : mg "any" = none
  f_dict : mg "dict" = none
  f_int : mg "int" = none
  f_len : mg "len" = none
  f_list : mg "list" = none
  f_max : mg "max" = none
  f_range : mg "range" = none
  gABSENT : ∃ t, mg "ABSENT" = some (.str "absent" t)
  gGREATEST_AMOUNT : ∃ t, mg "GREATEST_AMOUNT" = some (.int 1000000 t)
  gGREATEST_SIZE : ∃ t, mg "GREATEST_SIZE" = some (.int 1000 t)
  gLETTERS : ∃ t, mg "LETTERS" = some (.str "abcdefghijklmnopqrstuvwxyz" t)
  gLONGEST_NAME : ∃ t, mg "LONGEST_NAME" = some (.int 12 t)
  gMOST_COLUMNS : ∃ t, mg "MOST_COLUMNS" = some (.int 6 t)
  gMOST_KINDS : ∃ t, mg "MOST_KINDS" = some (.int 12 t)
  cl_Column : Cls K (He.ga K "Column")
  na_Column_name : NoAttr K (He.ga K "Column") "name"
  na_Column_width : NoAttr K (He.ga K "Column") "width"
  na_Column_modulus : NoAttr K (He.ga K "Column") "modulus"
  cl_Kind : Cls K (He.ga K "Kind")
  na_Kind_name : NoAttr K (He.ga K "Kind") "name"
  na_Kind_source : NoAttr K (He.ga K "Kind") "source"
  na_Kind_target : NoAttr K (He.ga K "Kind") "target"
  na_Kind_weight : NoAttr K (He.ga K "Kind") "weight"
  na_Kind_carried : NoAttr K (He.ga K "Kind") "carried"
  cl_Cycle : Cls K (He.ga K "Cycle")
  na_Cycle_column_sizes : NoAttr K (He.ga K "Cycle") "column_sizes"
  na_Cycle_kind_ends : NoAttr K (He.ga K "Cycle") "kind_ends"
  na_Cycle_kind_weights : NoAttr K (He.ga K "Cycle") "kind_weights"
  na_Cycle_kind_carried : NoAttr K (He.ga K "Cycle") "kind_carried"
abbrev ra_draw (K : PySem.W.Frag) := raDraw
abbrev sp_draw (K : PySem.W.Frag) (mg : Str → Option Value) : Sp := spC mg raDraw (.fz rI) fDraw
abbrev draw_m {S : Type} (b : BagIn S) (n : Int) : M S Int := drawM b n
abbrev st_names : Stmt := (top 23)
theorem sc_names : FnScope ["_law_bag_here", "_law_count", "_law_words", "_law_letters", "_law_size_here", "_law_stem", "_law_k", "_law_place", "_law_shift", "_law_longer", "_law_names_here", "_law_name", "_law_spot", "_law_word"] ["_law_bag_here", "_law_count", "_law_words"] (defScope st_names) := ⟨rfl, rfl, rfl, by decide +kernel, rfl, by decide +kernel, by decide +kernel⟩
def names_mb {S : Type} (b : BagIn S) (count1 : Int) (words2 : List Str) : M S (Fl Unit Empty (List Str)) := bnd (bnd (draw_m b (5 : Int)) fun v12 => opt (atI [(0 : Int), (1 : Int), (2 : Int), (3 : Int), (10 : Int)] v12)) fun size13 => bnd (bnd (bnd (rangeM 0 size13) fun v20 => compM (fun x15 => ret true) (fun x15 => bnd (draw_m b (26 : Int)) fun v19 => sgetM ("abcdefghijklmnopqrstuvwxyz" : Str) v19) v20) fun v22 => joinM ("" : Str) v22) fun stem23 => bnd (draw_m b (size13 + (1 : Int))) fun place28 => bnd (draw_m b (26 : Int)) fun shift31 => bnd (draw_m b (4 : Int)) fun longer34 => thenB (bnd (rangeM 0 count1) fun v114 => forL (fun (x38 : Int) (t37 : (List Str)) => bnd (bnd (bnd (sslM stem23 none (some place28)) fun v50 => bnd (bnd (bnd (bnd (bnd (mulM (7 : Int) x38) fun v44 => ret (shift31 + v44)) fun v45 => ret v45) fun v46 => modM v46 (26 : Int)) fun v49 => sgetM ("abcdefghijklmnopqrstuvwxyz" : Str) v49) fun v51 => saddM v50 v51) fun v54 => bnd (sslM stem23 (some place28) none) fun v55 => saddM v54 v55) fun name56 => bnd (bnd (bnd (sgetM ("abcdefghijklmnopqrstuvwxyz" : Str) shift31) fun v66 => bnd (bnd (bnd (modM x38 (3 : Int)) fun v63 => ret (decide (v63 = longer34))) fun v65 => ret (if v65 then (1 : Int) else 0)) fun v67 => smulM v66 v67) fun v69 => saddM name56 v69) fun v70 => bnd (appM t37 v70) fun names57 => ret (.nx names57)) v114 ([] : List Str)) fun (t71 : (List Str)) => thenB (bnd (if (decide ((1 : Int) < count1)) then (if (decide (size13 < (4 : Int))) then (ret (decide (longer34 = (3 : Int)))) else ret false) else ret false) fun v80 => if v80 then (bnd (bnd (opt (atI t71 (0 : Int))) fun v88 => bnd (bnd (draw_m b (26 : Int)) fun v87 => sgetM ("abcdefghijklmnopqrstuvwxyz" : Str) v87) fun v89 => saddM v88 v89) fun v90 => bnd (setM t71 (1 : Int) v90) fun names92 => ret (.nx names92)) else (ret (.nx t71))) fun (t81 : (List Str)) => bnd (bnd (mulM (4 : Int) count1) fun v96 => draw_m b v96) fun spot97 => bnd (bnd (draw_m b (List.length words2 : Int)) fun v102 => opt (atI words2 v102)) fun word103 => thenB (bnd (if (decide (spot97 < count1)) then (ret (!decide (word103 ∈ t81))) else ret false) fun v109 => if v109 then (bnd (setM t81 spot97 word103) fun names113 => ret (.nx names113)) else (ret (.nx t81))) fun (t110 : (List Str)) => ret (.rt t110)
def names_m {S : Type} (b : BagIn S) (count1 : Int) (words2 : List Str) : M S (List Str) := runF (names_mb b count1 words2)
abbrev ra_names (K : PySem.W.Frag) (S : Type) (R : S → MP Hp) (c : BagC S R) : Unit × Int × (List Str) × Unit → List V → Hp → Prop := (raC (rBag c.ab) (raC rI (raC (rL rS) raN)))
abbrev f_names (S : Type) (R : S → MP Hp) (c : BagC S R) (y : Unit × Int × (List Str) × Unit) : M S (List Str) := names_m c.b y.2.1 y.2.2.1
abbrev sp_names (K : PySem.W.Frag) (mg : Str → Option Value) : Sp := spC mg (ra_names K) (.own (cL rS)) f_names
theorem cut_names_0 {P : Program} {w : World} {K : PySem.W.Frag} {mg : Str → Option Value} {base : Heap} {f : Addr} {cdv : Value} {A : Around} {outer : List Env} {s : Shared} {H : Hp} {E : XK} {Fm : Fm} {S : Type} {R : S → MP Hp} (cp : BagC S R) (T : Txt K mg) (C_draw : FnC P w K mg base "_law_draw" 1 (sp_draw K mg)) (hr : Room 1 (A.deeper (envOfC "_law_names" (defScope st_names) s.heap.objs.size f cdv))) (z : ZOk (ZF P w K mg base ["_law_bag_here", "_law_count", "_law_words", "_law_letters", "_law_size_here", "_law_stem", "_law_k", "_law_place", "_law_shift", "_law_longer", "_law_names_here", "_law_name", "_law_spot", "_law_word"] "_law_names" (defScope st_names) f cdv A outer s H E Fm S R)) (hu : (A.deeper (envOfC "_law_names" (defScope st_names) s.heap.objs.size f cdv)).units + 65 < cLine) (hu1 : (A.deeper (envOfC "_law_names" (defScope st_names) s.heap.objs.size f cdv)).units + 1 < cLine) (count1 : Int) (words2 : List Str) (letters3 : Str) (size13 : Int) (stem23 : Str) (place28 : Int) (shift31 : Int) (longer34 : Int) (t110 : (List Str)) (spot97 : Int) (word103 : Str) : JB (ZF P w K mg base ["_law_bag_here", "_law_count", "_law_words", "_law_letters", "_law_size_here", "_law_stem", "_law_k", "_law_place", "_law_shift", "_law_longer", "_law_names_here", "_law_name", "_law_spot", "_law_word"] "_law_names" (defScope st_names) f cdv A outer s H E Fm S R) [some (.fz ((rBag cp.ab) ())), some (.fz (rI count1)), some (.fz ((rL rS) words2)), some (.fz (rS letters3)), some (.fz (rI size13)), some (.fz (rS stem23)), none, some (.fz (rI place28)), some (.fz (rI shift31)), some (.fz (rI longer34)), some (.lv ((cL rS) t110)), none, some (.fz (rI spot97)), some (.fz (rS word103))] (List.drop 12 (defBody st_names)) (ret (.rt t110) : M S (Fl Unit Empty (List Str))) (fun _ => []) (fun e => nomatch e) (.own (cL rS)) := (jb_one (js_retV (c := (cL rS)) (x := t110) 10 rfl (pv 10)))
theorem cut_names_1 {P : Program} {w : World} {K : PySem.W.Frag} {mg : Str → Option Value} {base : Heap} {f : Addr} {cdv : Value} {A : Around} {outer : List Env} {s : Shared} {H : Hp} {E : XK} {Fm : Fm} {S : Type} {R : S → MP Hp} (cp : BagC S R) (T : Txt K mg) (C_draw : FnC P w K mg base "_law_draw" 1 (sp_draw K mg)) (hr : Room 1 (A.deeper (envOfC "_law_names" (defScope st_names) s.heap.objs.size f cdv))) (z : ZOk (ZF P w K mg base ["_law_bag_here", "_law_count", "_law_words", "_law_letters", "_law_size_here", "_law_stem", "_law_k", "_law_place", "_law_shift", "_law_longer", "_law_names_here", "_law_name", "_law_spot", "_law_word"] "_law_names" (defScope st_names) f cdv A outer s H E Fm S R)) (hu : (A.deeper (envOfC "_law_names" (defScope st_names) s.heap.objs.size f cdv)).units + 65 < cLine) (hu1 : (A.deeper (envOfC "_law_names" (defScope st_names) s.heap.objs.size f cdv)).units + 1 < cLine) (count1 : Int) (words2 : List Str) (letters3 : Str) (size13 : Int) (stem23 : Str) (place28 : Int) (shift31 : Int) (longer34 : Int) (t81 : (List Str)) (spot97 : Int) (word103 : Str) : JB (ZF P w K mg base ["_law_bag_here", "_law_count", "_law_words", "_law_letters", "_law_size_here", "_law_stem", "_law_k", "_law_place", "_law_shift", "_law_longer", "_law_names_here", "_law_name", "_law_spot", "_law_word"] "_law_names" (defScope st_names) f cdv A outer s H E Fm S R) [some (.fz ((rBag cp.ab) ())), some (.fz (rI count1)), some (.fz ((rL rS) words2)), some (.fz (rS letters3)), some (.fz (rI size13)), some (.fz (rS stem23)), none, some (.fz (rI place28)), some (.fz (rI shift31)), some (.fz (rI longer34)), some (.lv ((cL rS) t81)), none, some (.fz (rI spot97)), some (.fz (rS word103))] (List.drop 11 (defBody st_names)) (thenB (bnd (bnd (bnd (ret spot97) fun v104 => bnd (ret count1) fun v105 => ret (decide (v104 < v105))) fun v108 => if v108 then (bnd (ret word103) fun v106 => bnd (ret t81) fun v107 => ret (!decide (v106 ∈ v107))) else ret false) fun v109 => if v109 then (bnd (ret word103) fun v111 => bnd (ret spot97) fun v112 => bnd (setM t81 v112 v111) fun names113 => ret (.nx names113)) else (ret (.nx t81))) fun (t110 : (List Str)) => ret (.rt t110) : M S (Fl Unit Empty (List Str))) (fun _ => []) (fun e => nomatch e) (.own (cL rS)) := (jb_seq (Γ1 := fun t110 : (List Str) => [some (.fz ((rBag cp.ab) ())), some (.fz (rI count1)), some (.fz ((rL rS) words2)), some (.fz (rS letters3)), some (.fz (rI size13)), some (.fz (rS stem23)), none, some (.fz (rI place28)), some (.fz (rI shift31)), some (.fz (rI longer34)), some (.lv ((cL rS) t110)), none, some (.fz (rI spot97)), some (.fz (rS word103))]) (js_if (JW.jt (jw_and (jt_c c_lt (je_var (r := rI) (x := spot97) 12 rfl (pv 12)) (je_var (r := rI) (x := count1) 1 rfl (pv 1))) (jw_and1 (jt_ninV flS (je_var (r := rS) (x := word103) 13 rfl (pv 13)) (je_live (c := (cL rS)) (x := t81) 10 rfl (pv 10)))))) (jb_cx (Γ2 := [some (.fz ((rBag cp.ab) ())), some (.fz (rI count1)), some (.fz ((rL rS) words2)), some (.fz (rS letters3)), some (.fz (rI size13)), some (.fz (rS stem23)), none, some (.fz (rI place28)), some (.fz (rI shift31)), some (.fz (rI longer34)), some (.lv ((cL rS) t81)), none, some (.fz (rI spot97)), some (.fz (rS word103))]) (jb_setix (k := 10) rfl (pv 10) (je_var (r := rS) (x := word103) 13 rfl (pv 13)) (je_var (r := rI) (x := spot97) 12 rfl (pv 12)) (fun names113 => (jb_cx (Γ2 := [some (.fz ((rBag cp.ab) ())), some (.fz (rI count1)), some (.fz ((rL rS) words2)), some (.fz (rS letters3)), some (.fz (rI size13)), some (.fz (rS stem23)), none, some (.fz (rI place28)), some (.fz (rI shift31)), some (.fz (rI longer34)), some (.lv ((cL rS) names113)), none, some (.fz (rI spot97)), some (.fz (rS word103))]) (jb_nil (t := names113) (Le.some (Le.some (Le.some (Le.some (Le.some (Le.some (Le.none (Le.some (Le.some (Le.some (Le.some (Le.none (Le.some (Le.some Le.nil))))))))))))))))) (ps_asg (JE.pe (je_var (r := rS) (x := word103) 13 rfl (pv 13))) (pg_sub (pv 10) (JE.pe (je_var (r := rI) (x := spot97) 12 rfl (pv 12))) set_list)))) (jb_cx (Γ2 := [some (.fz ((rBag cp.ab) ())), some (.fz (rI count1)), some (.fz ((rL rS) words2)), some (.fz (rS letters3)), some (.fz (rI size13)), some (.fz (rS stem23)), none, some (.fz (rI place28)), some (.fz (rI shift31)), some (.fz (rI longer34)), some (.lv ((cL rS) t81)), none, some (.fz (rI spot97)), some (.fz (rS word103))]) (jb_nil (t := t81) (Le.some (Le.some (Le.some (Le.some (Le.some (Le.some (Le.none (Le.some (Le.some (Le.some (Le.some (Le.none (Le.some (Le.some Le.nil))))))))))))))))) (fun t110 => (jb_cx (Γ2 := [some (.fz ((rBag cp.ab) ())), some (.fz (rI count1)), some (.fz ((rL rS) words2)), some (.fz (rS letters3)), some (.fz (rI size13)), some (.fz (rS stem23)), none, some (.fz (rI place28)), some (.fz (rI shift31)), some (.fz (rI longer34)), some (.lv ((cL rS) t110)), none, some (.fz (rI spot97)), some (.fz (rS word103))]) (cut_names_0 cp T C_draw hr z hu hu1 count1 words2 letters3 size13 stem23 place28 shift31 longer34 t110 spot97 word103))))
theorem cut_names_2 {P : Program} {w : World} {K : PySem.W.Frag} {mg : Str → Option Value} {base : Heap} {f : Addr} {cdv : Value} {A : Around} {outer : List Env} {s : Shared} {H : Hp} {E : XK} {Fm : Fm} {S : Type} {R : S → MP Hp} (cp : BagC S R) (T : Txt K mg) (C_draw : FnC P w K mg base "_law_draw" 1 (sp_draw K mg)) (hr : Room 1 (A.deeper (envOfC "_law_names" (defScope st_names) s.heap.objs.size f cdv))) (z : ZOk (ZF P w K mg base ["_law_bag_here", "_law_count", "_law_words", "_law_letters", "_law_size_here", "_law_stem", "_law_k", "_law_place", "_law_shift", "_law_longer", "_law_names_here", "_law_name", "_law_spot", "_law_word"] "_law_names" (defScope st_names) f cdv A outer s H E Fm S R)) (hu : (A.deeper (envOfC "_law_names" (defScope st_names) s.heap.objs.size f cdv)).units + 65 < cLine) (hu1 : (A.deeper (envOfC "_law_names" (defScope st_names) s.heap.objs.size f cdv)).units + 1 < cLine) (count1 : Int) (words2 : List Str) (letters3 : Str) (size13 : Int) (stem23 : Str) (place28 : Int) (shift31 : Int) (longer34 : Int) (t81 : (List Str)) (spot97 : Int) : JB (ZF P w K mg base ["_law_bag_here", "_law_count", "_law_words", "_law_letters", "_law_size_here", "_law_stem", "_law_k", "_law_place", "_law_shift", "_law_longer", "_law_names_here", "_law_name", "_law_spot", "_law_word"] "_law_names" (defScope st_names) f cdv A outer s H E Fm S R) [some (.fz ((rBag cp.ab) ())), some (.fz (rI count1)), some (.fz ((rL rS) words2)), some (.fz (rS letters3)), some (.fz (rI size13)), some (.fz (rS stem23)), none, some (.fz (rI place28)), some (.fz (rI shift31)), some (.fz (rI longer34)), some (.lv ((cL rS) t81)), none, some (.fz (rI spot97)), none] (List.drop 10 (defBody st_names)) (bnd (bnd (ret words2) fun v101 => bnd (bnd (ret ()) fun v99 => bnd (bnd (ret words2) fun v98 => ret (List.length v98 : Int)) fun v100 => draw_m cp.b v100) fun v102 => opt (atI v101 v102)) fun word103 => thenB (bnd (bnd (bnd (ret spot97) fun v104 => bnd (ret count1) fun v105 => ret (decide (v104 < v105))) fun v108 => if v108 then (bnd (ret word103) fun v106 => bnd (ret t81) fun v107 => ret (!decide (v106 ∈ v107))) else ret false) fun v109 => if v109 then (bnd (ret word103) fun v111 => bnd (ret spot97) fun v112 => bnd (setM t81 v112 v111) fun names113 => ret (.nx names113)) else (ret (.nx t81))) fun (t110 : (List Str)) => ret (.rt t110) : M S (Fl Unit Empty (List Str))) (fun _ => []) (fun e => nomatch e) (.own (cL rS)) := (jb_set (i := 13) z rfl (by first | exact .inl rfl | exact .inr rfl) (je_ixL (je_var (r := (rL rS)) (x := words2) 2 rfl (pv 2)) (je_call z C_draw hr cp (ja_cons (je_var (r := rBag cp.ab) (x := ()) 0 rfl (pv 0)) (ja_cons (je_lenL (by rfl) T.f_len (je_var (r := (rL rS)) (x := words2) 2 rfl (pv 2))) ja_nil)))) (fun word103 => (jb_cx (Γ2 := [some (.fz ((rBag cp.ab) ())), some (.fz (rI count1)), some (.fz ((rL rS) words2)), some (.fz (rS letters3)), some (.fz (rI size13)), some (.fz (rS stem23)), none, some (.fz (rI place28)), some (.fz (rI shift31)), some (.fz (rI longer34)), some (.lv ((cL rS) t81)), none, some (.fz (rI spot97)), some (.fz (rS word103))]) (cut_names_1 cp T C_draw hr z hu hu1 count1 words2 letters3 size13 stem23 place28 shift31 longer34 t81 spot97 word103))))
theorem cut_names_3 {P : Program} {w : World} {K : PySem.W.Frag} {mg : Str → Option Value} {base : Heap} {f : Addr} {cdv : Value} {A : Around} {outer : List Env} {s : Shared} {H : Hp} {E : XK} {Fm : Fm} {S : Type} {R : S → MP Hp} (cp : BagC S R) (T : Txt K mg) (C_draw : FnC P w K mg base "_law_draw" 1 (sp_draw K mg)) (hr : Room 1 (A.deeper (envOfC "_law_names" (defScope st_names) s.heap.objs.size f cdv))) (z : ZOk (ZF P w K mg base ["_law_bag_here", "_law_count", "_law_words", "_law_letters", "_law_size_here", "_law_stem", "_law_k", "_law_place", "_law_shift", "_law_longer", "_law_names_here", "_law_name", "_law_spot", "_law_word"] "_law_names" (defScope st_names) f cdv A outer s H E Fm S R)) (hu : (A.deeper (envOfC "_law_names" (defScope st_names) s.heap.objs.size f cdv)).units + 65 < cLine) (hu1 : (A.deeper (envOfC "_law_names" (defScope st_names) s.heap.objs.size f cdv)).units + 1 < cLine) (count1 : Int) (words2 : List Str) (letters3 : Str) (size13 : Int) (stem23 : Str) (place28 : Int) (shift31 : Int) (longer34 : Int) (t81 : (List Str)) : JB (ZF P w K mg base ["_law_bag_here", "_law_count", "_law_words", "_law_letters", "_law_size_here", "_law_stem", "_law_k", "_law_place", "_law_shift", "_law_longer", "_law_names_here", "_law_name", "_law_spot", "_law_word"] "_law_names" (defScope st_names) f cdv A outer s H E Fm S R) [some (.fz ((rBag cp.ab) ())), some (.fz (rI count1)), some (.fz ((rL rS) words2)), some (.fz (rS letters3)), some (.fz (rI size13)), some (.fz (rS stem23)), none, some (.fz (rI place28)), some (.fz (rI shift31)), some (.fz (rI longer34)), some (.lv ((cL rS) t81)), none, none, none] (List.drop 9 (defBody st_names)) (bnd (bnd (ret ()) fun v95 => bnd (bnd (ret (4 : Int)) fun v93 => bnd (ret count1) fun v94 => mulM v93 v94) fun v96 => draw_m cp.b v96) fun spot97 => bnd (bnd (ret words2) fun v101 => bnd (bnd (ret ()) fun v99 => bnd (bnd (ret words2) fun v98 => ret (List.length v98 : Int)) fun v100 => draw_m cp.b v100) fun v102 => opt (atI v101 v102)) fun word103 => thenB (bnd (bnd (bnd (ret spot97) fun v104 => bnd (ret count1) fun v105 => ret (decide (v104 < v105))) fun v108 => if v108 then (bnd (ret word103) fun v106 => bnd (ret t81) fun v107 => ret (!decide (v106 ∈ v107))) else ret false) fun v109 => if v109 then (bnd (ret word103) fun v111 => bnd (ret spot97) fun v112 => bnd (setM t81 v112 v111) fun names113 => ret (.nx names113)) else (ret (.nx t81))) fun (t110 : (List Str)) => ret (.rt t110) : M S (Fl Unit Empty (List Str))) (fun _ => []) (fun e => nomatch e) (.own (cL rS)) := (jb_set (i := 12) z rfl (by first | exact .inl rfl | exact .inr rfl) (je_call z C_draw hr cp (ja_cons (je_var (r := rBag cp.ab) (x := ()) 0 rfl (pv 0)) (ja_cons (je_mul je_int (je_var (r := rI) (x := count1) 1 rfl (pv 1))) ja_nil))) (fun spot97 => (jb_cx (Γ2 := [some (.fz ((rBag cp.ab) ())), some (.fz (rI count1)), some (.fz ((rL rS) words2)), some (.fz (rS letters3)), some (.fz (rI size13)), some (.fz (rS stem23)), none, some (.fz (rI place28)), some (.fz (rI shift31)), some (.fz (rI longer34)), some (.lv ((cL rS) t81)), none, some (.fz (rI spot97)), none]) (cut_names_2 cp T C_draw hr z hu hu1 count1 words2 letters3 size13 stem23 place28 shift31 longer34 t81 spot97))))
theorem cut_names_4 {P : Program} {w : World} {K : PySem.W.Frag} {mg : Str → Option Value} {base : Heap} {f : Addr} {cdv : Value} {A : Around} {outer : List Env} {s : Shared} {H : Hp} {E : XK} {Fm : Fm} {S : Type} {R : S → MP Hp} (cp : BagC S R) (T : Txt K mg) (C_draw : FnC P w K mg base "_law_draw" 1 (sp_draw K mg)) (hr : Room 1 (A.deeper (envOfC "_law_names" (defScope st_names) s.heap.objs.size f cdv))) (z : ZOk (ZF P w K mg base ["_law_bag_here", "_law_count", "_law_words", "_law_letters", "_law_size_here", "_law_stem", "_law_k", "_law_place", "_law_shift", "_law_longer", "_law_names_here", "_law_name", "_law_spot", "_law_word"] "_law_names" (defScope st_names) f cdv A outer s H E Fm S R)) (hu : (A.deeper (envOfC "_law_names" (defScope st_names) s.heap.objs.size f cdv)).units + 65 < cLine) (hu1 : (A.deeper (envOfC "_law_names" (defScope st_names) s.heap.objs.size f cdv)).units + 1 < cLine) (count1 : Int) (words2 : List Str) (letters3 : Str) (size13 : Int) (stem23 : Str) (place28 : Int) (shift31 : Int) (longer34 : Int) (t71 : (List Str)) : JB (ZF P w K mg base ["_law_bag_here", "_law_count", "_law_words", "_law_letters", "_law_size_here", "_law_stem", "_law_k", "_law_place", "_law_shift", "_law_longer", "_law_names_here", "_law_name", "_law_spot", "_law_word"] "_law_names" (defScope st_names) f cdv A outer s H E Fm S R) [some (.fz ((rBag cp.ab) ())), some (.fz (rI count1)), some (.fz ((rL rS) words2)), some (.fz (rS letters3)), some (.fz (rI size13)), some (.fz (rS stem23)), none, some (.fz (rI place28)), some (.fz (rI shift31)), some (.fz (rI longer34)), some (.lv ((cL rS) t71)), none, none, none] (List.drop 8 (defBody st_names)) (thenB (bnd (bnd (bnd (ret count1) fun v72 => bnd (ret (1 : Int)) fun v73 => ret (decide (v73 < v72))) fun v79 => if v79 then (bnd (bnd (ret size13) fun v74 => bnd (ret (4 : Int)) fun v75 => ret (decide (v74 < v75))) fun v78 => if v78 then (bnd (ret longer34) fun v76 => bnd (ret (3 : Int)) fun v77 => ret (decide (v76 = v77))) else ret false) else ret false) fun v80 => if v80 then (bnd (bnd (bnd (ret t71) fun v82 => bnd (ret (0 : Int)) fun v83 => opt (atI v82 v83)) fun v88 => bnd (bnd (ret letters3) fun v86 => bnd (bnd (ret ()) fun v84 => bnd (ret (26 : Int)) fun v85 => draw_m cp.b v85) fun v87 => sgetM v86 v87) fun v89 => saddM v88 v89) fun v90 => bnd (ret (1 : Int)) fun v91 => bnd (setM t71 v91 v90) fun names92 => ret (.nx names92)) else (ret (.nx t71))) fun (t81 : (List Str)) => bnd (bnd (ret ()) fun v95 => bnd (bnd (ret (4 : Int)) fun v93 => bnd (ret count1) fun v94 => mulM v93 v94) fun v96 => draw_m cp.b v96) fun spot97 => bnd (bnd (ret words2) fun v101 => bnd (bnd (ret ()) fun v99 => bnd (bnd (ret words2) fun v98 => ret (List.length v98 : Int)) fun v100 => draw_m cp.b v100) fun v102 => opt (atI v101 v102)) fun word103 => thenB (bnd (bnd (bnd (ret spot97) fun v104 => bnd (ret count1) fun v105 => ret (decide (v104 < v105))) fun v108 => if v108 then (bnd (ret word103) fun v106 => bnd (ret t81) fun v107 => ret (!decide (v106 ∈ v107))) else ret false) fun v109 => if v109 then (bnd (ret word103) fun v111 => bnd (ret spot97) fun v112 => bnd (setM t81 v112 v111) fun names113 => ret (.nx names113)) else (ret (.nx t81))) fun (t110 : (List Str)) => ret (.rt t110) : M S (Fl Unit Empty (List Str))) (fun _ => []) (fun e => nomatch e) (.own (cL rS)) := (jb_seq (Γ1 := fun t81 : (List Str) => [some (.fz ((rBag cp.ab) ())), some (.fz (rI count1)), some (.fz ((rL rS) words2)), some (.fz (rS letters3)), some (.fz (rI size13)), some (.fz (rS stem23)), none, some (.fz (rI place28)), some (.fz (rI shift31)), some (.fz (rI longer34)), some (.lv ((cL rS) t81)), none, none, none]) (js_if (JW.jt (jw_and (jt_c c_gt (je_var (r := rI) (x := count1) 1 rfl (pv 1)) je_int) (jw_and (jt_c c_lt (je_var (r := rI) (x := size13) 4 rfl (pv 4)) je_int) (jw_and1 (jt_c c_eqI (je_var (r := rI) (x := longer34) 9 rfl (pv 9)) je_int))))) (jb_cx (Γ2 := [some (.fz ((rBag cp.ab) ())), some (.fz (rI count1)), some (.fz ((rL rS) words2)), some (.fz (rS letters3)), some (.fz (rI size13)), some (.fz (rS stem23)), none, some (.fz (rI place28)), some (.fz (rI shift31)), some (.fz (rI longer34)), some (.lv ((cL rS) t71)), none, none, none]) (jb_setix (k := 10) rfl (pv 10) (je_addS (je_ixV (je_live (c := (cL rS)) (x := t71) 10 rfl (pv 10)) je_int) (je_ixS (je_var (r := rS) (x := letters3) 3 rfl (pv 3)) (je_call z C_draw hr cp (ja_cons (je_var (r := rBag cp.ab) (x := ()) 0 rfl (pv 0)) (ja_cons je_int ja_nil))))) je_int (fun names92 => (jb_cx (Γ2 := [some (.fz ((rBag cp.ab) ())), some (.fz (rI count1)), some (.fz ((rL rS) words2)), some (.fz (rS letters3)), some (.fz (rI size13)), some (.fz (rS stem23)), none, some (.fz (rI place28)), some (.fz (rI shift31)), some (.fz (rI longer34)), some (.lv ((cL rS) names92)), none, none, none]) (jb_nil (t := names92) (Le.some (Le.some (Le.some (Le.some (Le.some (Le.some (Le.none (Le.some (Le.some (Le.some (Le.some (Le.none (Le.none (Le.none Le.nil))))))))))))))))) (ps_asg (JE.pe (je_addS (je_ixV (je_live (c := (cL rS)) (x := t71) 10 rfl (pv 10)) je_int) (je_ixS (je_var (r := rS) (x := letters3) 3 rfl (pv 3)) (je_call z C_draw hr cp (ja_cons (je_var (r := rBag cp.ab) (x := ()) 0 rfl (pv 0)) (ja_cons je_int ja_nil)))))) (pg_sub (pv 10) (JE.pe je_int) set_list)))) (jb_cx (Γ2 := [some (.fz ((rBag cp.ab) ())), some (.fz (rI count1)), some (.fz ((rL rS) words2)), some (.fz (rS letters3)), some (.fz (rI size13)), some (.fz (rS stem23)), none, some (.fz (rI place28)), some (.fz (rI shift31)), some (.fz (rI longer34)), some (.lv ((cL rS) t71)), none, none, none]) (jb_nil (t := t71) (Le.some (Le.some (Le.some (Le.some (Le.some (Le.some (Le.none (Le.some (Le.some (Le.some (Le.some (Le.none (Le.none (Le.none Le.nil))))))))))))))))) (fun t81 => (jb_cx (Γ2 := [some (.fz ((rBag cp.ab) ())), some (.fz (rI count1)), some (.fz ((rL rS) words2)), some (.fz (rS letters3)), some (.fz (rI size13)), some (.fz (rS stem23)), none, some (.fz (rI place28)), some (.fz (rI shift31)), some (.fz (rI longer34)), some (.lv ((cL rS) t81)), none, none, none]) (cut_names_3 cp T C_draw hr z hu hu1 count1 words2 letters3 size13 stem23 place28 shift31 longer34 t81))))
theorem cut_names_5 {P : Program} {w : World} {K : PySem.W.Frag} {mg : Str → Option Value} {base : Heap} {f : Addr} {cdv : Value} {A : Around} {outer : List Env} {s : Shared} {H : Hp} {E : XK} {Fm : Fm} {S : Type} {R : S → MP Hp} (cp : BagC S R) (T : Txt K mg) (C_draw : FnC P w K mg base "_law_draw" 1 (sp_draw K mg)) (hr : Room 1 (A.deeper (envOfC "_law_names" (defScope st_names) s.heap.objs.size f cdv))) (z : ZOk (ZF P w K mg base ["_law_bag_here", "_law_count", "_law_words", "_law_letters", "_law_size_here", "_law_stem", "_law_k", "_law_place", "_law_shift", "_law_longer", "_law_names_here", "_law_name", "_law_spot", "_law_word"] "_law_names" (defScope st_names) f cdv A outer s H E Fm S R)) (hu : (A.deeper (envOfC "_law_names" (defScope st_names) s.heap.objs.size f cdv)).units + 65 < cLine) (hu1 : (A.deeper (envOfC "_law_names" (defScope st_names) s.heap.objs.size f cdv)).units + 1 < cLine) (count1 : Int) (words2 : List Str) (letters3 : Str) (size13 : Int) (stem23 : Str) (place28 : Int) (shift31 : Int) (longer34 : Int) (names35 : List Str) : JB (ZF P w K mg base ["_law_bag_here", "_law_count", "_law_words", "_law_letters", "_law_size_here", "_law_stem", "_law_k", "_law_place", "_law_shift", "_law_longer", "_law_names_here", "_law_name", "_law_spot", "_law_word"] "_law_names" (defScope st_names) f cdv A outer s H E Fm S R) [some (.fz ((rBag cp.ab) ())), some (.fz (rI count1)), some (.fz ((rL rS) words2)), some (.fz (rS letters3)), some (.fz (rI size13)), some (.fz (rS stem23)), none, some (.fz (rI place28)), some (.fz (rI shift31)), some (.fz (rI longer34)), some (.lv ((cL rS) names35)), none, none, none] (List.drop 7 (defBody st_names)) (thenB (bnd (bnd (ret count1) fun v36 => rangeM 0 v36) fun v114 => forL (fun (x38 : Int) (t37 : (List Str)) => bnd (bnd (bnd (bnd (ret stem23) fun v39 => bnd (ret place28) fun v40 => sslM v39 none (some v40)) fun v50 => bnd (bnd (ret letters3) fun v48 => bnd (bnd (bnd (bnd (ret shift31) fun v43 => bnd (bnd (ret (7 : Int)) fun v41 => bnd (ret x38) fun v42 => mulM v41 v42) fun v44 => ret (v43 + v44)) fun v45 => ret v45) fun v46 => bnd (ret (26 : Int)) fun v47 => modM v46 v47) fun v49 => sgetM v48 v49) fun v51 => saddM v50 v51) fun v54 => bnd (bnd (ret stem23) fun v52 => bnd (ret place28) fun v53 => sslM v52 (some v53) none) fun v55 => saddM v54 v55) fun name56 => bnd (bnd (ret name56) fun v68 => bnd (bnd (bnd (ret letters3) fun v58 => bnd (ret shift31) fun v59 => sgetM v58 v59) fun v66 => bnd (bnd (bnd (bnd (bnd (ret x38) fun v60 => ret v60) fun v61 => bnd (ret (3 : Int)) fun v62 => modM v61 v62) fun v63 => bnd (ret longer34) fun v64 => ret (decide (v63 = v64))) fun v65 => ret (if v65 then (1 : Int) else 0)) fun v67 => smulM v66 v67) fun v69 => saddM v68 v69) fun v70 => bnd (appM t37 v70) fun names57 => ret (.nx names57)) v114 names35) fun (t71 : (List Str)) => thenB (bnd (bnd (bnd (ret count1) fun v72 => bnd (ret (1 : Int)) fun v73 => ret (decide (v73 < v72))) fun v79 => if v79 then (bnd (bnd (ret size13) fun v74 => bnd (ret (4 : Int)) fun v75 => ret (decide (v74 < v75))) fun v78 => if v78 then (bnd (ret longer34) fun v76 => bnd (ret (3 : Int)) fun v77 => ret (decide (v76 = v77))) else ret false) else ret false) fun v80 => if v80 then (bnd (bnd (bnd (ret t71) fun v82 => bnd (ret (0 : Int)) fun v83 => opt (atI v82 v83)) fun v88 => bnd (bnd (ret letters3) fun v86 => bnd (bnd (ret ()) fun v84 => bnd (ret (26 : Int)) fun v85 => draw_m cp.b v85) fun v87 => sgetM v86 v87) fun v89 => saddM v88 v89) fun v90 => bnd (ret (1 : Int)) fun v91 => bnd (setM t71 v91 v90) fun names92 => ret (.nx names92)) else (ret (.nx t71))) fun (t81 : (List Str)) => bnd (bnd (ret ()) fun v95 => bnd (bnd (ret (4 : Int)) fun v93 => bnd (ret count1) fun v94 => mulM v93 v94) fun v96 => draw_m cp.b v96) fun spot97 => bnd (bnd (ret words2) fun v101 => bnd (bnd (ret ()) fun v99 => bnd (bnd (ret words2) fun v98 => ret (List.length v98 : Int)) fun v100 => draw_m cp.b v100) fun v102 => opt (atI v101 v102)) fun word103 => thenB (bnd (bnd (bnd (ret spot97) fun v104 => bnd (ret count1) fun v105 => ret (decide (v104 < v105))) fun v108 => if v108 then (bnd (ret word103) fun v106 => bnd (ret t81) fun v107 => ret (!decide (v106 ∈ v107))) else ret false) fun v109 => if v109 then (bnd (ret word103) fun v111 => bnd (ret spot97) fun v112 => bnd (setM t81 v112 v111) fun names113 => ret (.nx names113)) else (ret (.nx t81))) fun (t110 : (List Str)) => ret (.rt t110) : M S (Fl Unit Empty (List Str))) (fun _ => []) (fun e => nomatch e) (.own (cL rS)) := (jb_seq (Γ1 := fun t37 : (List Str) => [some (.fz ((rBag cp.ab) ())), some (.fz (rI count1)), some (.fz ((rL rS) words2)), some (.fz (rS letters3)), some (.fz (rI size13)), some (.fz (rS stem23)), none, some (.fz (rI place28)), some (.fz (rI shift31)), some (.fz (rI longer34)), some (.lv ((cL rS) t37)), none, none, none]) (js_for (n := 14) (t0 := names35) z (ji_range1 (by rfl) T.f_range (je_var (r := rI) (x := count1) 1 rfl (pv 1))) (jg_name (i := 6) (z).nd rfl (by first | exact .inl rfl | exact .inr rfl)) (Le.some (Le.some (Le.some (Le.some (Le.some (Le.some (Le.none (Le.some (Le.some (Le.some (Le.some (Le.none (Le.none (Le.none Le.nil)))))))))))))) (fun x38 t37 => (jb_cx (Γ2 := [some (.fz ((rBag cp.ab) ())), some (.fz (rI count1)), some (.fz ((rL rS) words2)), some (.fz (rS letters3)), some (.fz (rI size13)), some (.fz (rS stem23)), some (.fz (rI x38)), some (.fz (rI place28)), some (.fz (rI shift31)), some (.fz (rI longer34)), some (.lv ((cL rS) t37)), none, none, none]) (jb_set (i := 11) z rfl (by first | exact .inl rfl | exact .inr rfl) (je_addS (je_addS (je_slS (je_var (r := rS) (x := stem23) 5 rfl (pv 5)) JO.non (JO.som (je_var (r := rI) (x := place28) 7 rfl (pv 7)))) (je_ixS (je_var (r := rS) (x := letters3) 3 rfl (pv 3)) (je_mod (je_intI (by rfl) T.f_int (je_add (je_var (r := rI) (x := shift31) 8 rfl (pv 8)) (je_mul je_int (je_var (r := rI) (x := x38) 6 rfl (pv 6))))) je_int))) (je_slS (je_var (r := rS) (x := stem23) 5 rfl (pv 5)) (JO.som (je_var (r := rI) (x := place28) 7 rfl (pv 7))) JO.non)) (fun name56 => (jb_cx (Γ2 := [some (.fz ((rBag cp.ab) ())), some (.fz (rI count1)), some (.fz ((rL rS) words2)), some (.fz (rS letters3)), some (.fz (rI size13)), some (.fz (rS stem23)), some (.fz (rI x38)), some (.fz (rI place28)), some (.fz (rI shift31)), some (.fz (rI longer34)), some (.lv ((cL rS) t37)), some (.fz (rS name56)), none, none]) (jb_append (k := 10) rfl (pv 10) (je_addS (je_var (r := rS) (x := name56) 11 rfl (pv 11)) (je_mulS (je_ixS (je_var (r := rS) (x := letters3) 3 rfl (pv 3)) (je_var (r := rI) (x := shift31) 8 rfl (pv 8))) (je_intB (by rfl) T.f_int (je_c c_eqI (je_mod (je_intI (by rfl) T.f_int (je_var (r := rI) (x := x38) 6 rfl (pv 6))) je_int) (je_var (r := rI) (x := longer34) 9 rfl (pv 9)))))) (fun names57 => (jb_cx (Γ2 := [some (.fz ((rBag cp.ab) ())), some (.fz (rI count1)), some (.fz ((rL rS) words2)), some (.fz (rS letters3)), some (.fz (rI size13)), some (.fz (rS stem23)), some (.fz (rI x38)), some (.fz (rI place28)), some (.fz (rI shift31)), some (.fz (rI longer34)), some (.lv ((cL rS) names57)), some (.fz (rS name56)), none, none]) (jb_nil (t := names57) (Le.some (Le.some (Le.some (Le.some (Le.some (Le.some (Le.none (Le.some (Le.some (Le.some (Le.some (Le.none (Le.none (Le.none Le.nil))))))))))))))))) (ps_expr (pe_bm PySem.F.plainAttrs_list PySem.F.slot_list_append PySem.F.type_list_append mt_append (pv 10) (pa_cons (JE.pe (je_addS (je_var (r := rS) (x := name56) 11 rfl (pv 11)) (je_mulS (je_ixS (je_var (r := rS) (x := letters3) 3 rfl (pv 3)) (je_var (r := rI) (x := shift31) 8 rfl (pv 8))) (je_intB (by rfl) T.f_int (je_c c_eqI (je_mod (je_intI (by rfl) T.f_int (je_var (r := rI) (x := x38) 6 rfl (pv 6))) je_int) (je_var (r := rI) (x := longer34) 9 rfl (pv 9))))))) pa_nil)))))))))) (fun t71 => (jb_cx (Γ2 := [some (.fz ((rBag cp.ab) ())), some (.fz (rI count1)), some (.fz ((rL rS) words2)), some (.fz (rS letters3)), some (.fz (rI size13)), some (.fz (rS stem23)), none, some (.fz (rI place28)), some (.fz (rI shift31)), some (.fz (rI longer34)), some (.lv ((cL rS) t71)), none, none, none]) (cut_names_4 cp T C_draw hr z hu hu1 count1 words2 letters3 size13 stem23 place28 shift31 longer34 t71))))
theorem cut_names_6 {P : Program} {w : World} {K : PySem.W.Frag} {mg : Str → Option Value} {base : Heap} {f : Addr} {cdv : Value} {A : Around} {outer : List Env} {s : Shared} {H : Hp} {E : XK} {Fm : Fm} {S : Type} {R : S → MP Hp} (cp : BagC S R) (T : Txt K mg) (C_draw : FnC P w K mg base "_law_draw" 1 (sp_draw K mg)) (hr : Room 1 (A.deeper (envOfC "_law_names" (defScope st_names) s.heap.objs.size f cdv))) (z : ZOk (ZF P w K mg base ["_law_bag_here", "_law_count", "_law_words", "_law_letters", "_law_size_here", "_law_stem", "_law_k", "_law_place", "_law_shift", "_law_longer", "_law_names_here", "_law_name", "_law_spot", "_law_word"] "_law_names" (defScope st_names) f cdv A outer s H E Fm S R)) (hu : (A.deeper (envOfC "_law_names" (defScope st_names) s.heap.objs.size f cdv)).units + 65 < cLine) (hu1 : (A.deeper (envOfC "_law_names" (defScope st_names) s.heap.objs.size f cdv)).units + 1 < cLine) (count1 : Int) (words2 : List Str) (letters3 : Str) (size13 : Int) (stem23 : Str) (place28 : Int) (shift31 : Int) (longer34 : Int) : JB (ZF P w K mg base ["_law_bag_here", "_law_count", "_law_words", "_law_letters", "_law_size_here", "_law_stem", "_law_k", "_law_place", "_law_shift", "_law_longer", "_law_names_here", "_law_name", "_law_spot", "_law_word"] "_law_names" (defScope st_names) f cdv A outer s H E Fm S R) [some (.fz ((rBag cp.ab) ())), some (.fz (rI count1)), some (.fz ((rL rS) words2)), some (.fz (rS letters3)), some (.fz (rI size13)), some (.fz (rS stem23)), none, some (.fz (rI place28)), some (.fz (rI shift31)), some (.fz (rI longer34)), none, none, none, none] (List.drop 6 (defBody st_names)) (bnd (ret ([] : List Str)) fun names35 => thenB (bnd (bnd (ret count1) fun v36 => rangeM 0 v36) fun v114 => forL (fun (x38 : Int) (t37 : (List Str)) => bnd (bnd (bnd (bnd (ret stem23) fun v39 => bnd (ret place28) fun v40 => sslM v39 none (some v40)) fun v50 => bnd (bnd (ret letters3) fun v48 => bnd (bnd (bnd (bnd (ret shift31) fun v43 => bnd (bnd (ret (7 : Int)) fun v41 => bnd (ret x38) fun v42 => mulM v41 v42) fun v44 => ret (v43 + v44)) fun v45 => ret v45) fun v46 => bnd (ret (26 : Int)) fun v47 => modM v46 v47) fun v49 => sgetM v48 v49) fun v51 => saddM v50 v51) fun v54 => bnd (bnd (ret stem23) fun v52 => bnd (ret place28) fun v53 => sslM v52 (some v53) none) fun v55 => saddM v54 v55) fun name56 => bnd (bnd (ret name56) fun v68 => bnd (bnd (bnd (ret letters3) fun v58 => bnd (ret shift31) fun v59 => sgetM v58 v59) fun v66 => bnd (bnd (bnd (bnd (bnd (ret x38) fun v60 => ret v60) fun v61 => bnd (ret (3 : Int)) fun v62 => modM v61 v62) fun v63 => bnd (ret longer34) fun v64 => ret (decide (v63 = v64))) fun v65 => ret (if v65 then (1 : Int) else 0)) fun v67 => smulM v66 v67) fun v69 => saddM v68 v69) fun v70 => bnd (appM t37 v70) fun names57 => ret (.nx names57)) v114 names35) fun (t71 : (List Str)) => thenB (bnd (bnd (bnd (ret count1) fun v72 => bnd (ret (1 : Int)) fun v73 => ret (decide (v73 < v72))) fun v79 => if v79 then (bnd (bnd (ret size13) fun v74 => bnd (ret (4 : Int)) fun v75 => ret (decide (v74 < v75))) fun v78 => if v78 then (bnd (ret longer34) fun v76 => bnd (ret (3 : Int)) fun v77 => ret (decide (v76 = v77))) else ret false) else ret false) fun v80 => if v80 then (bnd (bnd (bnd (ret t71) fun v82 => bnd (ret (0 : Int)) fun v83 => opt (atI v82 v83)) fun v88 => bnd (bnd (ret letters3) fun v86 => bnd (bnd (ret ()) fun v84 => bnd (ret (26 : Int)) fun v85 => draw_m cp.b v85) fun v87 => sgetM v86 v87) fun v89 => saddM v88 v89) fun v90 => bnd (ret (1 : Int)) fun v91 => bnd (setM t71 v91 v90) fun names92 => ret (.nx names92)) else (ret (.nx t71))) fun (t81 : (List Str)) => bnd (bnd (ret ()) fun v95 => bnd (bnd (ret (4 : Int)) fun v93 => bnd (ret count1) fun v94 => mulM v93 v94) fun v96 => draw_m cp.b v96) fun spot97 => bnd (bnd (ret words2) fun v101 => bnd (bnd (ret ()) fun v99 => bnd (bnd (ret words2) fun v98 => ret (List.length v98 : Int)) fun v100 => draw_m cp.b v100) fun v102 => opt (atI v101 v102)) fun word103 => thenB (bnd (bnd (bnd (ret spot97) fun v104 => bnd (ret count1) fun v105 => ret (decide (v104 < v105))) fun v108 => if v108 then (bnd (ret word103) fun v106 => bnd (ret t81) fun v107 => ret (!decide (v106 ∈ v107))) else ret false) fun v109 => if v109 then (bnd (ret word103) fun v111 => bnd (ret spot97) fun v112 => bnd (setM t81 v112 v111) fun names113 => ret (.nx names113)) else (ret (.nx t81))) fun (t110 : (List Str)) => ret (.rt t110) : M S (Fl Unit Empty (List Str))) (fun _ => []) (fun e => nomatch e) (.own (cL rS)) := (jb_setO (i := 10) z rfl (by first | exact .inl rfl | exact .inr rfl) (je_list (jl_nil (r := rS))) (fun names35 => (jb_cx (Γ2 := [some (.fz ((rBag cp.ab) ())), some (.fz (rI count1)), some (.fz ((rL rS) words2)), some (.fz (rS letters3)), some (.fz (rI size13)), some (.fz (rS stem23)), none, some (.fz (rI place28)), some (.fz (rI shift31)), some (.fz (rI longer34)), some (.lv ((cL rS) names35)), none, none, none]) (cut_names_5 cp T C_draw hr z hu hu1 count1 words2 letters3 size13 stem23 place28 shift31 longer34 names35))))
theorem cut_names_7 {P : Program} {w : World} {K : PySem.W.Frag} {mg : Str → Option Value} {base : Heap} {f : Addr} {cdv : Value} {A : Around} {outer : List Env} {s : Shared} {H : Hp} {E : XK} {Fm : Fm} {S : Type} {R : S → MP Hp} (cp : BagC S R) (T : Txt K mg) (C_draw : FnC P w K mg base "_law_draw" 1 (sp_draw K mg)) (hr : Room 1 (A.deeper (envOfC "_law_names" (defScope st_names) s.heap.objs.size f cdv))) (z : ZOk (ZF P w K mg base ["_law_bag_here", "_law_count", "_law_words", "_law_letters", "_law_size_here", "_law_stem", "_law_k", "_law_place", "_law_shift", "_law_longer", "_law_names_here", "_law_name", "_law_spot", "_law_word"] "_law_names" (defScope st_names) f cdv A outer s H E Fm S R)) (hu : (A.deeper (envOfC "_law_names" (defScope st_names) s.heap.objs.size f cdv)).units + 65 < cLine) (hu1 : (A.deeper (envOfC "_law_names" (defScope st_names) s.heap.objs.size f cdv)).units + 1 < cLine) (count1 : Int) (words2 : List Str) (letters3 : Str) (size13 : Int) (stem23 : Str) (place28 : Int) (shift31 : Int) : JB (ZF P w K mg base ["_law_bag_here", "_law_count", "_law_words", "_law_letters", "_law_size_here", "_law_stem", "_law_k", "_law_place", "_law_shift", "_law_longer", "_law_names_here", "_law_name", "_law_spot", "_law_word"] "_law_names" (defScope st_names) f cdv A outer s H E Fm S R) [some (.fz ((rBag cp.ab) ())), some (.fz (rI count1)), some (.fz ((rL rS) words2)), some (.fz (rS letters3)), some (.fz (rI size13)), some (.fz (rS stem23)), none, some (.fz (rI place28)), some (.fz (rI shift31)), none, none, none, none, none] (List.drop 5 (defBody st_names)) (bnd (bnd (ret ()) fun v32 => bnd (ret (4 : Int)) fun v33 => draw_m cp.b v33) fun longer34 => bnd (ret ([] : List Str)) fun names35 => thenB (bnd (bnd (ret count1) fun v36 => rangeM 0 v36) fun v114 => forL (fun (x38 : Int) (t37 : (List Str)) => bnd (bnd (bnd (bnd (ret stem23) fun v39 => bnd (ret place28) fun v40 => sslM v39 none (some v40)) fun v50 => bnd (bnd (ret letters3) fun v48 => bnd (bnd (bnd (bnd (ret shift31) fun v43 => bnd (bnd (ret (7 : Int)) fun v41 => bnd (ret x38) fun v42 => mulM v41 v42) fun v44 => ret (v43 + v44)) fun v45 => ret v45) fun v46 => bnd (ret (26 : Int)) fun v47 => modM v46 v47) fun v49 => sgetM v48 v49) fun v51 => saddM v50 v51) fun v54 => bnd (bnd (ret stem23) fun v52 => bnd (ret place28) fun v53 => sslM v52 (some v53) none) fun v55 => saddM v54 v55) fun name56 => bnd (bnd (ret name56) fun v68 => bnd (bnd (bnd (ret letters3) fun v58 => bnd (ret shift31) fun v59 => sgetM v58 v59) fun v66 => bnd (bnd (bnd (bnd (bnd (ret x38) fun v60 => ret v60) fun v61 => bnd (ret (3 : Int)) fun v62 => modM v61 v62) fun v63 => bnd (ret longer34) fun v64 => ret (decide (v63 = v64))) fun v65 => ret (if v65 then (1 : Int) else 0)) fun v67 => smulM v66 v67) fun v69 => saddM v68 v69) fun v70 => bnd (appM t37 v70) fun names57 => ret (.nx names57)) v114 names35) fun (t71 : (List Str)) => thenB (bnd (bnd (bnd (ret count1) fun v72 => bnd (ret (1 : Int)) fun v73 => ret (decide (v73 < v72))) fun v79 => if v79 then (bnd (bnd (ret size13) fun v74 => bnd (ret (4 : Int)) fun v75 => ret (decide (v74 < v75))) fun v78 => if v78 then (bnd (ret longer34) fun v76 => bnd (ret (3 : Int)) fun v77 => ret (decide (v76 = v77))) else ret false) else ret false) fun v80 => if v80 then (bnd (bnd (bnd (ret t71) fun v82 => bnd (ret (0 : Int)) fun v83 => opt (atI v82 v83)) fun v88 => bnd (bnd (ret letters3) fun v86 => bnd (bnd (ret ()) fun v84 => bnd (ret (26 : Int)) fun v85 => draw_m cp.b v85) fun v87 => sgetM v86 v87) fun v89 => saddM v88 v89) fun v90 => bnd (ret (1 : Int)) fun v91 => bnd (setM t71 v91 v90) fun names92 => ret (.nx names92)) else (ret (.nx t71))) fun (t81 : (List Str)) => bnd (bnd (ret ()) fun v95 => bnd (bnd (ret (4 : Int)) fun v93 => bnd (ret count1) fun v94 => mulM v93 v94) fun v96 => draw_m cp.b v96) fun spot97 => bnd (bnd (ret words2) fun v101 => bnd (bnd (ret ()) fun v99 => bnd (bnd (ret words2) fun v98 => ret (List.length v98 : Int)) fun v100 => draw_m cp.b v100) fun v102 => opt (atI v101 v102)) fun word103 => thenB (bnd (bnd (bnd (ret spot97) fun v104 => bnd (ret count1) fun v105 => ret (decide (v104 < v105))) fun v108 => if v108 then (bnd (ret word103) fun v106 => bnd (ret t81) fun v107 => ret (!decide (v106 ∈ v107))) else ret false) fun v109 => if v109 then (bnd (ret word103) fun v111 => bnd (ret spot97) fun v112 => bnd (setM t81 v112 v111) fun names113 => ret (.nx names113)) else (ret (.nx t81))) fun (t110 : (List Str)) => ret (.rt t110) : M S (Fl Unit Empty (List Str))) (fun _ => []) (fun e => nomatch e) (.own (cL rS)) := (jb_set (i := 9) z rfl (by first | exact .inl rfl | exact .inr rfl) (je_call z C_draw hr cp (ja_cons (je_var (r := rBag cp.ab) (x := ()) 0 rfl (pv 0)) (ja_cons je_int ja_nil))) (fun longer34 => (jb_cx (Γ2 := [some (.fz ((rBag cp.ab) ())), some (.fz (rI count1)), some (.fz ((rL rS) words2)), some (.fz (rS letters3)), some (.fz (rI size13)), some (.fz (rS stem23)), none, some (.fz (rI place28)), some (.fz (rI shift31)), some (.fz (rI longer34)), none, none, none, none]) (cut_names_6 cp T C_draw hr z hu hu1 count1 words2 letters3 size13 stem23 place28 shift31 longer34))))
theorem cut_names_8 {P : Program} {w : World} {K : PySem.W.Frag} {mg : Str → Option Value} {base : Heap} {f : Addr} {cdv : Value} {A : Around} {outer : List Env} {s : Shared} {H : Hp} {E : XK} {Fm : Fm} {S : Type} {R : S → MP Hp} (cp : BagC S R) (T : Txt K mg) (C_draw : FnC P w K mg base "_law_draw" 1 (sp_draw K mg)) (hr : Room 1 (A.deeper (envOfC "_law_names" (defScope st_names) s.heap.objs.size f cdv))) (z : ZOk (ZF P w K mg base ["_law_bag_here", "_law_count", "_law_words", "_law_letters", "_law_size_here", "_law_stem", "_law_k", "_law_place", "_law_shift", "_law_longer", "_law_names_here", "_law_name", "_law_spot", "_law_word"] "_law_names" (defScope st_names) f cdv A outer s H E Fm S R)) (hu : (A.deeper (envOfC "_law_names" (defScope st_names) s.heap.objs.size f cdv)).units + 65 < cLine) (hu1 : (A.deeper (envOfC "_law_names" (defScope st_names) s.heap.objs.size f cdv)).units + 1 < cLine) (count1 : Int) (words2 : List Str) (letters3 : Str) (size13 : Int) (stem23 : Str) (place28 : Int) : JB (ZF P w K mg base ["_law_bag_here", "_law_count", "_law_words", "_law_letters", "_law_size_here", "_law_stem", "_law_k", "_law_place", "_law_shift", "_law_longer", "_law_names_here", "_law_name", "_law_spot", "_law_word"] "_law_names" (defScope st_names) f cdv A outer s H E Fm S R) [some (.fz ((rBag cp.ab) ())), some (.fz (rI count1)), some (.fz ((rL rS) words2)), some (.fz (rS letters3)), some (.fz (rI size13)), some (.fz (rS stem23)), none, some (.fz (rI place28)), none, none, none, none, none, none] (List.drop 4 (defBody st_names)) (bnd (bnd (ret ()) fun v29 => bnd (ret (26 : Int)) fun v30 => draw_m cp.b v30) fun shift31 => bnd (bnd (ret ()) fun v32 => bnd (ret (4 : Int)) fun v33 => draw_m cp.b v33) fun longer34 => bnd (ret ([] : List Str)) fun names35 => thenB (bnd (bnd (ret count1) fun v36 => rangeM 0 v36) fun v114 => forL (fun (x38 : Int) (t37 : (List Str)) => bnd (bnd (bnd (bnd (ret stem23) fun v39 => bnd (ret place28) fun v40 => sslM v39 none (some v40)) fun v50 => bnd (bnd (ret letters3) fun v48 => bnd (bnd (bnd (bnd (ret shift31) fun v43 => bnd (bnd (ret (7 : Int)) fun v41 => bnd (ret x38) fun v42 => mulM v41 v42) fun v44 => ret (v43 + v44)) fun v45 => ret v45) fun v46 => bnd (ret (26 : Int)) fun v47 => modM v46 v47) fun v49 => sgetM v48 v49) fun v51 => saddM v50 v51) fun v54 => bnd (bnd (ret stem23) fun v52 => bnd (ret place28) fun v53 => sslM v52 (some v53) none) fun v55 => saddM v54 v55) fun name56 => bnd (bnd (ret name56) fun v68 => bnd (bnd (bnd (ret letters3) fun v58 => bnd (ret shift31) fun v59 => sgetM v58 v59) fun v66 => bnd (bnd (bnd (bnd (bnd (ret x38) fun v60 => ret v60) fun v61 => bnd (ret (3 : Int)) fun v62 => modM v61 v62) fun v63 => bnd (ret longer34) fun v64 => ret (decide (v63 = v64))) fun v65 => ret (if v65 then (1 : Int) else 0)) fun v67 => smulM v66 v67) fun v69 => saddM v68 v69) fun v70 => bnd (appM t37 v70) fun names57 => ret (.nx names57)) v114 names35) fun (t71 : (List Str)) => thenB (bnd (bnd (bnd (ret count1) fun v72 => bnd (ret (1 : Int)) fun v73 => ret (decide (v73 < v72))) fun v79 => if v79 then (bnd (bnd (ret size13) fun v74 => bnd (ret (4 : Int)) fun v75 => ret (decide (v74 < v75))) fun v78 => if v78 then (bnd (ret longer34) fun v76 => bnd (ret (3 : Int)) fun v77 => ret (decide (v76 = v77))) else ret false) else ret false) fun v80 => if v80 then (bnd (bnd (bnd (ret t71) fun v82 => bnd (ret (0 : Int)) fun v83 => opt (atI v82 v83)) fun v88 => bnd (bnd (ret letters3) fun v86 => bnd (bnd (ret ()) fun v84 => bnd (ret (26 : Int)) fun v85 => draw_m cp.b v85) fun v87 => sgetM v86 v87) fun v89 => saddM v88 v89) fun v90 => bnd (ret (1 : Int)) fun v91 => bnd (setM t71 v91 v90) fun names92 => ret (.nx names92)) else (ret (.nx t71))) fun (t81 : (List Str)) => bnd (bnd (ret ()) fun v95 => bnd (bnd (ret (4 : Int)) fun v93 => bnd (ret count1) fun v94 => mulM v93 v94) fun v96 => draw_m cp.b v96) fun spot97 => bnd (bnd (ret words2) fun v101 => bnd (bnd (ret ()) fun v99 => bnd (bnd (ret words2) fun v98 => ret (List.length v98 : Int)) fun v100 => draw_m cp.b v100) fun v102 => opt (atI v101 v102)) fun word103 => thenB (bnd (bnd (bnd (ret spot97) fun v104 => bnd (ret count1) fun v105 => ret (decide (v104 < v105))) fun v108 => if v108 then (bnd (ret word103) fun v106 => bnd (ret t81) fun v107 => ret (!decide (v106 ∈ v107))) else ret false) fun v109 => if v109 then (bnd (ret word103) fun v111 => bnd (ret spot97) fun v112 => bnd (setM t81 v112 v111) fun names113 => ret (.nx names113)) else (ret (.nx t81))) fun (t110 : (List Str)) => ret (.rt t110) : M S (Fl Unit Empty (List Str))) (fun _ => []) (fun e => nomatch e) (.own (cL rS)) := (jb_set (i := 8) z rfl (by first | exact .inl rfl | exact .inr rfl) (je_call z C_draw hr cp (ja_cons (je_var (r := rBag cp.ab) (x := ()) 0 rfl (pv 0)) (ja_cons je_int ja_nil))) (fun shift31 => (jb_cx (Γ2 := [some (.fz ((rBag cp.ab) ())), some (.fz (rI count1)), some (.fz ((rL rS) words2)), some (.fz (rS letters3)), some (.fz (rI size13)), some (.fz (rS stem23)), none, some (.fz (rI place28)), some (.fz (rI shift31)), none, none, none, none, none]) (cut_names_7 cp T C_draw hr z hu hu1 count1 words2 letters3 size13 stem23 place28 shift31))))
theorem cut_names_9 {P : Program} {w : World} {K : PySem.W.Frag} {mg : Str → Option Value} {base : Heap} {f : Addr} {cdv : Value} {A : Around} {outer : List Env} {s : Shared} {H : Hp} {E : XK} {Fm : Fm} {S : Type} {R : S → MP Hp} (cp : BagC S R) (T : Txt K mg) (C_draw : FnC P w K mg base "_law_draw" 1 (sp_draw K mg)) (hr : Room 1 (A.deeper (envOfC "_law_names" (defScope st_names) s.heap.objs.size f cdv))) (z : ZOk (ZF P w K mg base ["_law_bag_here", "_law_count", "_law_words", "_law_letters", "_law_size_here", "_law_stem", "_law_k", "_law_place", "_law_shift", "_law_longer", "_law_names_here", "_law_name", "_law_spot", "_law_word"] "_law_names" (defScope st_names) f cdv A outer s H E Fm S R)) (hu : (A.deeper (envOfC "_law_names" (defScope st_names) s.heap.objs.size f cdv)).units + 65 < cLine) (hu1 : (A.deeper (envOfC "_law_names" (defScope st_names) s.heap.objs.size f cdv)).units + 1 < cLine) (count1 : Int) (words2 : List Str) (letters3 : Str) (size13 : Int) (stem23 : Str) : JB (ZF P w K mg base ["_law_bag_here", "_law_count", "_law_words", "_law_letters", "_law_size_here", "_law_stem", "_law_k", "_law_place", "_law_shift", "_law_longer", "_law_names_here", "_law_name", "_law_spot", "_law_word"] "_law_names" (defScope st_names) f cdv A outer s H E Fm S R) [some (.fz ((rBag cp.ab) ())), some (.fz (rI count1)), some (.fz ((rL rS) words2)), some (.fz (rS letters3)), some (.fz (rI size13)), some (.fz (rS stem23)), none, none, none, none, none, none, none, none] (List.drop 3 (defBody st_names)) (bnd (bnd (ret ()) fun v26 => bnd (bnd (ret size13) fun v24 => bnd (ret (1 : Int)) fun v25 => ret (v24 + v25)) fun v27 => draw_m cp.b v27) fun place28 => bnd (bnd (ret ()) fun v29 => bnd (ret (26 : Int)) fun v30 => draw_m cp.b v30) fun shift31 => bnd (bnd (ret ()) fun v32 => bnd (ret (4 : Int)) fun v33 => draw_m cp.b v33) fun longer34 => bnd (ret ([] : List Str)) fun names35 => thenB (bnd (bnd (ret count1) fun v36 => rangeM 0 v36) fun v114 => forL (fun (x38 : Int) (t37 : (List Str)) => bnd (bnd (bnd (bnd (ret stem23) fun v39 => bnd (ret place28) fun v40 => sslM v39 none (some v40)) fun v50 => bnd (bnd (ret letters3) fun v48 => bnd (bnd (bnd (bnd (ret shift31) fun v43 => bnd (bnd (ret (7 : Int)) fun v41 => bnd (ret x38) fun v42 => mulM v41 v42) fun v44 => ret (v43 + v44)) fun v45 => ret v45) fun v46 => bnd (ret (26 : Int)) fun v47 => modM v46 v47) fun v49 => sgetM v48 v49) fun v51 => saddM v50 v51) fun v54 => bnd (bnd (ret stem23) fun v52 => bnd (ret place28) fun v53 => sslM v52 (some v53) none) fun v55 => saddM v54 v55) fun name56 => bnd (bnd (ret name56) fun v68 => bnd (bnd (bnd (ret letters3) fun v58 => bnd (ret shift31) fun v59 => sgetM v58 v59) fun v66 => bnd (bnd (bnd (bnd (bnd (ret x38) fun v60 => ret v60) fun v61 => bnd (ret (3 : Int)) fun v62 => modM v61 v62) fun v63 => bnd (ret longer34) fun v64 => ret (decide (v63 = v64))) fun v65 => ret (if v65 then (1 : Int) else 0)) fun v67 => smulM v66 v67) fun v69 => saddM v68 v69) fun v70 => bnd (appM t37 v70) fun names57 => ret (.nx names57)) v114 names35) fun (t71 : (List Str)) => thenB (bnd (bnd (bnd (ret count1) fun v72 => bnd (ret (1 : Int)) fun v73 => ret (decide (v73 < v72))) fun v79 => if v79 then (bnd (bnd (ret size13) fun v74 => bnd (ret (4 : Int)) fun v75 => ret (decide (v74 < v75))) fun v78 => if v78 then (bnd (ret longer34) fun v76 => bnd (ret (3 : Int)) fun v77 => ret (decide (v76 = v77))) else ret false) else ret false) fun v80 => if v80 then (bnd (bnd (bnd (ret t71) fun v82 => bnd (ret (0 : Int)) fun v83 => opt (atI v82 v83)) fun v88 => bnd (bnd (ret letters3) fun v86 => bnd (bnd (ret ()) fun v84 => bnd (ret (26 : Int)) fun v85 => draw_m cp.b v85) fun v87 => sgetM v86 v87) fun v89 => saddM v88 v89) fun v90 => bnd (ret (1 : Int)) fun v91 => bnd (setM t71 v91 v90) fun names92 => ret (.nx names92)) else (ret (.nx t71))) fun (t81 : (List Str)) => bnd (bnd (ret ()) fun v95 => bnd (bnd (ret (4 : Int)) fun v93 => bnd (ret count1) fun v94 => mulM v93 v94) fun v96 => draw_m cp.b v96) fun spot97 => bnd (bnd (ret words2) fun v101 => bnd (bnd (ret ()) fun v99 => bnd (bnd (ret words2) fun v98 => ret (List.length v98 : Int)) fun v100 => draw_m cp.b v100) fun v102 => opt (atI v101 v102)) fun word103 => thenB (bnd (bnd (bnd (ret spot97) fun v104 => bnd (ret count1) fun v105 => ret (decide (v104 < v105))) fun v108 => if v108 then (bnd (ret word103) fun v106 => bnd (ret t81) fun v107 => ret (!decide (v106 ∈ v107))) else ret false) fun v109 => if v109 then (bnd (ret word103) fun v111 => bnd (ret spot97) fun v112 => bnd (setM t81 v112 v111) fun names113 => ret (.nx names113)) else (ret (.nx t81))) fun (t110 : (List Str)) => ret (.rt t110) : M S (Fl Unit Empty (List Str))) (fun _ => []) (fun e => nomatch e) (.own (cL rS)) := (jb_set (i := 7) z rfl (by first | exact .inl rfl | exact .inr rfl) (je_call z C_draw hr cp (ja_cons (je_var (r := rBag cp.ab) (x := ()) 0 rfl (pv 0)) (ja_cons (je_add (je_var (r := rI) (x := size13) 4 rfl (pv 4)) je_int) ja_nil))) (fun place28 => (jb_cx (Γ2 := [some (.fz ((rBag cp.ab) ())), some (.fz (rI count1)), some (.fz ((rL rS) words2)), some (.fz (rS letters3)), some (.fz (rI size13)), some (.fz (rS stem23)), none, some (.fz (rI place28)), none, none, none, none, none, none]) (cut_names_8 cp T C_draw hr z hu hu1 count1 words2 letters3 size13 stem23 place28))))
theorem cut_names_10 {P : Program} {w : World} {K : PySem.W.Frag} {mg : Str → Option Value} {base : Heap} {f : Addr} {cdv : Value} {A : Around} {outer : List Env} {s : Shared} {H : Hp} {E : XK} {Fm : Fm} {S : Type} {R : S → MP Hp} (cp : BagC S R) (T : Txt K mg) (C_draw : FnC P w K mg base "_law_draw" 1 (sp_draw K mg)) (hr : Room 1 (A.deeper (envOfC "_law_names" (defScope st_names) s.heap.objs.size f cdv))) (z : ZOk (ZF P w K mg base ["_law_bag_here", "_law_count", "_law_words", "_law_letters", "_law_size_here", "_law_stem", "_law_k", "_law_place", "_law_shift", "_law_longer", "_law_names_here", "_law_name", "_law_spot", "_law_word"] "_law_names" (defScope st_names) f cdv A outer s H E Fm S R)) (hu : (A.deeper (envOfC "_law_names" (defScope st_names) s.heap.objs.size f cdv)).units + 65 < cLine) (hu1 : (A.deeper (envOfC "_law_names" (defScope st_names) s.heap.objs.size f cdv)).units + 1 < cLine) (count1 : Int) (words2 : List Str) (letters3 : Str) (size13 : Int) : JB (ZF P w K mg base ["_law_bag_here", "_law_count", "_law_words", "_law_letters", "_law_size_here", "_law_stem", "_law_k", "_law_place", "_law_shift", "_law_longer", "_law_names_here", "_law_name", "_law_spot", "_law_word"] "_law_names" (defScope st_names) f cdv A outer s H E Fm S R) [some (.fz ((rBag cp.ab) ())), some (.fz (rI count1)), some (.fz ((rL rS) words2)), some (.fz (rS letters3)), some (.fz (rI size13)), none, none, none, none, none, none, none, none, none] (List.drop 2 (defBody st_names)) (bnd (bnd (ret ("" : Str)) fun v21 => bnd (bnd (bnd (ret size13) fun v14 => rangeM 0 v14) fun v20 => compM (fun x15 => ret true) (fun x15 => bnd (ret letters3) fun v18 => bnd (bnd (ret ()) fun v16 => bnd (ret (26 : Int)) fun v17 => draw_m cp.b v17) fun v19 => sgetM v18 v19) v20) fun v22 => joinM v21 v22) fun stem23 => bnd (bnd (ret ()) fun v26 => bnd (bnd (ret size13) fun v24 => bnd (ret (1 : Int)) fun v25 => ret (v24 + v25)) fun v27 => draw_m cp.b v27) fun place28 => bnd (bnd (ret ()) fun v29 => bnd (ret (26 : Int)) fun v30 => draw_m cp.b v30) fun shift31 => bnd (bnd (ret ()) fun v32 => bnd (ret (4 : Int)) fun v33 => draw_m cp.b v33) fun longer34 => bnd (ret ([] : List Str)) fun names35 => thenB (bnd (bnd (ret count1) fun v36 => rangeM 0 v36) fun v114 => forL (fun (x38 : Int) (t37 : (List Str)) => bnd (bnd (bnd (bnd (ret stem23) fun v39 => bnd (ret place28) fun v40 => sslM v39 none (some v40)) fun v50 => bnd (bnd (ret letters3) fun v48 => bnd (bnd (bnd (bnd (ret shift31) fun v43 => bnd (bnd (ret (7 : Int)) fun v41 => bnd (ret x38) fun v42 => mulM v41 v42) fun v44 => ret (v43 + v44)) fun v45 => ret v45) fun v46 => bnd (ret (26 : Int)) fun v47 => modM v46 v47) fun v49 => sgetM v48 v49) fun v51 => saddM v50 v51) fun v54 => bnd (bnd (ret stem23) fun v52 => bnd (ret place28) fun v53 => sslM v52 (some v53) none) fun v55 => saddM v54 v55) fun name56 => bnd (bnd (ret name56) fun v68 => bnd (bnd (bnd (ret letters3) fun v58 => bnd (ret shift31) fun v59 => sgetM v58 v59) fun v66 => bnd (bnd (bnd (bnd (bnd (ret x38) fun v60 => ret v60) fun v61 => bnd (ret (3 : Int)) fun v62 => modM v61 v62) fun v63 => bnd (ret longer34) fun v64 => ret (decide (v63 = v64))) fun v65 => ret (if v65 then (1 : Int) else 0)) fun v67 => smulM v66 v67) fun v69 => saddM v68 v69) fun v70 => bnd (appM t37 v70) fun names57 => ret (.nx names57)) v114 names35) fun (t71 : (List Str)) => thenB (bnd (bnd (bnd (ret count1) fun v72 => bnd (ret (1 : Int)) fun v73 => ret (decide (v73 < v72))) fun v79 => if v79 then (bnd (bnd (ret size13) fun v74 => bnd (ret (4 : Int)) fun v75 => ret (decide (v74 < v75))) fun v78 => if v78 then (bnd (ret longer34) fun v76 => bnd (ret (3 : Int)) fun v77 => ret (decide (v76 = v77))) else ret false) else ret false) fun v80 => if v80 then (bnd (bnd (bnd (ret t71) fun v82 => bnd (ret (0 : Int)) fun v83 => opt (atI v82 v83)) fun v88 => bnd (bnd (ret letters3) fun v86 => bnd (bnd (ret ()) fun v84 => bnd (ret (26 : Int)) fun v85 => draw_m cp.b v85) fun v87 => sgetM v86 v87) fun v89 => saddM v88 v89) fun v90 => bnd (ret (1 : Int)) fun v91 => bnd (setM t71 v91 v90) fun names92 => ret (.nx names92)) else (ret (.nx t71))) fun (t81 : (List Str)) => bnd (bnd (ret ()) fun v95 => bnd (bnd (ret (4 : Int)) fun v93 => bnd (ret count1) fun v94 => mulM v93 v94) fun v96 => draw_m cp.b v96) fun spot97 => bnd (bnd (ret words2) fun v101 => bnd (bnd (ret ()) fun v99 => bnd (bnd (ret words2) fun v98 => ret (List.length v98 : Int)) fun v100 => draw_m cp.b v100) fun v102 => opt (atI v101 v102)) fun word103 => thenB (bnd (bnd (bnd (ret spot97) fun v104 => bnd (ret count1) fun v105 => ret (decide (v104 < v105))) fun v108 => if v108 then (bnd (ret word103) fun v106 => bnd (ret t81) fun v107 => ret (!decide (v106 ∈ v107))) else ret false) fun v109 => if v109 then (bnd (ret word103) fun v111 => bnd (ret spot97) fun v112 => bnd (setM t81 v112 v111) fun names113 => ret (.nx names113)) else (ret (.nx t81))) fun (t110 : (List Str)) => ret (.rt t110) : M S (Fl Unit Empty (List Str))) (fun _ => []) (fun e => nomatch e) (.own (cL rS)) := (jb_set (i := 5) z rfl (by first | exact .inl rfl | exact .inr rfl) (je_join je_str (je_frzL (je_comp (own := [("_law_k", 6)]) z (ji_range1 (by rfl) T.f_range (je_var (r := rI) (x := size13) 4 rfl (pv 4))) (fun (x15 : Int) => ret true) (fun (x15 : Int) => bnd (ret letters3) fun v18 => bnd (bnd (ret ()) fun v16 => bnd (ret (26 : Int)) fun v17 => draw_m cp.b v17) fun v19 => sgetM v18 v19) (blkOk_by (N := ["_law_bag_here", "_law_count", "_law_words", "_law_letters", "_law_size_here", "_law_stem", "_law_k", "_law_place", "_law_shift", "_law_longer", "_law_names_here", "_law_name", "_law_spot", "_law_word"]) (sc := defScope st_names) (by decide +kernel)) (fun _ _ _ _ _ _ _ => by exact (jg_name (i := 6) ((ZOk.blk z)).nd rfl (by first | exact .inl rfl | exact .inr rfl))) (fun _ _ _ _ _ _ _ x15 => jts_nil) (fun _ _ _ _ _ _ _ x15 => (je_ixS (je_var (r := rS) (x := letters3) 3 rfl (pv 3)) (je_call (ZOk.blk z) C_draw hr cp (ja_cons (je_var (r := rBag cp.ab) (x := ()) 0 rfl (pv 0)) (ja_cons je_int ja_nil)))))))) (fun stem23 => (jb_cx (Γ2 := [some (.fz ((rBag cp.ab) ())), some (.fz (rI count1)), some (.fz ((rL rS) words2)), some (.fz (rS letters3)), some (.fz (rI size13)), some (.fz (rS stem23)), none, none, none, none, none, none, none, none]) (cut_names_9 cp T C_draw hr z hu hu1 count1 words2 letters3 size13 stem23))))
theorem cut_names_11 {P : Program} {w : World} {K : PySem.W.Frag} {mg : Str → Option Value} {base : Heap} {f : Addr} {cdv : Value} {A : Around} {outer : List Env} {s : Shared} {H : Hp} {E : XK} {Fm : Fm} {S : Type} {R : S → MP Hp} (cp : BagC S R) (T : Txt K mg) (C_draw : FnC P w K mg base "_law_draw" 1 (sp_draw K mg)) (hr : Room 1 (A.deeper (envOfC "_law_names" (defScope st_names) s.heap.objs.size f cdv))) (z : ZOk (ZF P w K mg base ["_law_bag_here", "_law_count", "_law_words", "_law_letters", "_law_size_here", "_law_stem", "_law_k", "_law_place", "_law_shift", "_law_longer", "_law_names_here", "_law_name", "_law_spot", "_law_word"] "_law_names" (defScope st_names) f cdv A outer s H E Fm S R)) (hu : (A.deeper (envOfC "_law_names" (defScope st_names) s.heap.objs.size f cdv)).units + 65 < cLine) (hu1 : (A.deeper (envOfC "_law_names" (defScope st_names) s.heap.objs.size f cdv)).units + 1 < cLine) (count1 : Int) (words2 : List Str) (letters3 : Str) : JB (ZF P w K mg base ["_law_bag_here", "_law_count", "_law_words", "_law_letters", "_law_size_here", "_law_stem", "_law_k", "_law_place", "_law_shift", "_law_longer", "_law_names_here", "_law_name", "_law_spot", "_law_word"] "_law_names" (defScope st_names) f cdv A outer s H E Fm S R) [some (.fz ((rBag cp.ab) ())), some (.fz (rI count1)), some (.fz ((rL rS) words2)), some (.fz (rS letters3)), none, none, none, none, none, none, none, none, none, none] (List.drop 1 (defBody st_names)) (bnd (bnd (bnd (ret (0 : Int)) fun v4 => bnd (ret (1 : Int)) fun v5 => bnd (ret (2 : Int)) fun v6 => bnd (ret (3 : Int)) fun v7 => bnd (ret (10 : Int)) fun v8 => ret [v4, v5, v6, v7, v8]) fun v11 => bnd (bnd (ret ()) fun v9 => bnd (ret (5 : Int)) fun v10 => draw_m cp.b v10) fun v12 => opt (atI v11 v12)) fun size13 => bnd (bnd (ret ("" : Str)) fun v21 => bnd (bnd (bnd (ret size13) fun v14 => rangeM 0 v14) fun v20 => compM (fun x15 => ret true) (fun x15 => bnd (ret letters3) fun v18 => bnd (bnd (ret ()) fun v16 => bnd (ret (26 : Int)) fun v17 => draw_m cp.b v17) fun v19 => sgetM v18 v19) v20) fun v22 => joinM v21 v22) fun stem23 => bnd (bnd (ret ()) fun v26 => bnd (bnd (ret size13) fun v24 => bnd (ret (1 : Int)) fun v25 => ret (v24 + v25)) fun v27 => draw_m cp.b v27) fun place28 => bnd (bnd (ret ()) fun v29 => bnd (ret (26 : Int)) fun v30 => draw_m cp.b v30) fun shift31 => bnd (bnd (ret ()) fun v32 => bnd (ret (4 : Int)) fun v33 => draw_m cp.b v33) fun longer34 => bnd (ret ([] : List Str)) fun names35 => thenB (bnd (bnd (ret count1) fun v36 => rangeM 0 v36) fun v114 => forL (fun (x38 : Int) (t37 : (List Str)) => bnd (bnd (bnd (bnd (ret stem23) fun v39 => bnd (ret place28) fun v40 => sslM v39 none (some v40)) fun v50 => bnd (bnd (ret letters3) fun v48 => bnd (bnd (bnd (bnd (ret shift31) fun v43 => bnd (bnd (ret (7 : Int)) fun v41 => bnd (ret x38) fun v42 => mulM v41 v42) fun v44 => ret (v43 + v44)) fun v45 => ret v45) fun v46 => bnd (ret (26 : Int)) fun v47 => modM v46 v47) fun v49 => sgetM v48 v49) fun v51 => saddM v50 v51) fun v54 => bnd (bnd (ret stem23) fun v52 => bnd (ret place28) fun v53 => sslM v52 (some v53) none) fun v55 => saddM v54 v55) fun name56 => bnd (bnd (ret name56) fun v68 => bnd (bnd (bnd (ret letters3) fun v58 => bnd (ret shift31) fun v59 => sgetM v58 v59) fun v66 => bnd (bnd (bnd (bnd (bnd (ret x38) fun v60 => ret v60) fun v61 => bnd (ret (3 : Int)) fun v62 => modM v61 v62) fun v63 => bnd (ret longer34) fun v64 => ret (decide (v63 = v64))) fun v65 => ret (if v65 then (1 : Int) else 0)) fun v67 => smulM v66 v67) fun v69 => saddM v68 v69) fun v70 => bnd (appM t37 v70) fun names57 => ret (.nx names57)) v114 names35) fun (t71 : (List Str)) => thenB (bnd (bnd (bnd (ret count1) fun v72 => bnd (ret (1 : Int)) fun v73 => ret (decide (v73 < v72))) fun v79 => if v79 then (bnd (bnd (ret size13) fun v74 => bnd (ret (4 : Int)) fun v75 => ret (decide (v74 < v75))) fun v78 => if v78 then (bnd (ret longer34) fun v76 => bnd (ret (3 : Int)) fun v77 => ret (decide (v76 = v77))) else ret false) else ret false) fun v80 => if v80 then (bnd (bnd (bnd (ret t71) fun v82 => bnd (ret (0 : Int)) fun v83 => opt (atI v82 v83)) fun v88 => bnd (bnd (ret letters3) fun v86 => bnd (bnd (ret ()) fun v84 => bnd (ret (26 : Int)) fun v85 => draw_m cp.b v85) fun v87 => sgetM v86 v87) fun v89 => saddM v88 v89) fun v90 => bnd (ret (1 : Int)) fun v91 => bnd (setM t71 v91 v90) fun names92 => ret (.nx names92)) else (ret (.nx t71))) fun (t81 : (List Str)) => bnd (bnd (ret ()) fun v95 => bnd (bnd (ret (4 : Int)) fun v93 => bnd (ret count1) fun v94 => mulM v93 v94) fun v96 => draw_m cp.b v96) fun spot97 => bnd (bnd (ret words2) fun v101 => bnd (bnd (ret ()) fun v99 => bnd (bnd (ret words2) fun v98 => ret (List.length v98 : Int)) fun v100 => draw_m cp.b v100) fun v102 => opt (atI v101 v102)) fun word103 => thenB (bnd (bnd (bnd (ret spot97) fun v104 => bnd (ret count1) fun v105 => ret (decide (v104 < v105))) fun v108 => if v108 then (bnd (ret word103) fun v106 => bnd (ret t81) fun v107 => ret (!decide (v106 ∈ v107))) else ret false) fun v109 => if v109 then (bnd (ret word103) fun v111 => bnd (ret spot97) fun v112 => bnd (setM t81 v112 v111) fun names113 => ret (.nx names113)) else (ret (.nx t81))) fun (t110 : (List Str)) => ret (.rt t110) : M S (Fl Unit Empty (List Str))) (fun _ => []) (fun e => nomatch e) (.own (cL rS)) := (jb_set (i := 4) z rfl (by first | exact .inl rfl | exact .inr rfl) (je_ixL (je_frzL (je_list (jl_cons je_int (jl_cons je_int (jl_cons je_int (jl_cons je_int (jl_cons je_int (jl_nil (r := rI))))))))) (je_call z C_draw hr cp (ja_cons (je_var (r := rBag cp.ab) (x := ()) 0 rfl (pv 0)) (ja_cons je_int ja_nil)))) (fun size13 => (jb_cx (Γ2 := [some (.fz ((rBag cp.ab) ())), some (.fz (rI count1)), some (.fz ((rL rS) words2)), some (.fz (rS letters3)), some (.fz (rI size13)), none, none, none, none, none, none, none, none, none]) (cut_names_10 cp T C_draw hr z hu hu1 count1 words2 letters3 size13))))
theorem ok_names {P : Program} {w : World} {K : PySem.W.Frag} {mg : Str → Option Value} {base : Heap} {f : Addr} {fd : FuncData} (F : FnP K "_law_names" "_law_names" st_names [] [] f fd) (T : Txt K mg) (C_draw : FnC P w K mg base "_law_draw" 1 (sp_draw K mg)) : FnOk P w K mg base (L2.CX P w) 2 f fd ["_law_bag_here", "_law_count", "_law_words"] (sp_names K mg) := by
  refine fn_mk (k := 1) (mb := fun S R c y => names_mb c.b y.2.1 y.2.2.1) (Γ0 := fun S R c y => [some (.fz ((rBag c.ab) y.1)), some (.fz (rI y.2.1)), some (.fz ((rL rS) y.2.2.1)), none, none, none, none, none, none, none, none, none, none, none]) (Γ' := fun _ => []) (Γb := fun e => nomatch e) F sc_names (fun S R c y vs G h => (len_raC (len_raC (len_raC len_raN))) h) (fun _ _ _ _ => rfl) (fun S R c y vs G h => (so_raC (so_raC (so_raC (so_raN (n := 11))))) h) (fun _ _ _ _ => by exact Nat.le_of_ble_eq_true rfl) (by exact Nat.le_of_ble_eq_true rfl) ?_
  intro cdv A outer s H E Fm S R cp y hr z
  have hu := DL.Room.hu hr
  have hu1 := DL.Room.hu1 hr
  obtain ⟨_, count1, words2, _⟩ := y
  exact JB.eq (m := (bnd (ret ("abcdefghijklmnopqrstuvwxyz" : Str)) fun letters3 => bnd (bnd (bnd (ret (0 : Int)) fun v4 => bnd (ret (1 : Int)) fun v5 => bnd (ret (2 : Int)) fun v6 => bnd (ret (3 : Int)) fun v7 => bnd (ret (10 : Int)) fun v8 => ret [v4, v5, v6, v7, v8]) fun v11 => bnd (bnd (ret ()) fun v9 => bnd (ret (5 : Int)) fun v10 => draw_m cp.b v10) fun v12 => opt (atI v11 v12)) fun size13 => bnd (bnd (ret ("" : Str)) fun v21 => bnd (bnd (bnd (ret size13) fun v14 => rangeM 0 v14) fun v20 => compM (fun x15 => ret true) (fun x15 => bnd (ret letters3) fun v18 => bnd (bnd (ret ()) fun v16 => bnd (ret (26 : Int)) fun v17 => draw_m cp.b v17) fun v19 => sgetM v18 v19) v20) fun v22 => joinM v21 v22) fun stem23 => bnd (bnd (ret ()) fun v26 => bnd (bnd (ret size13) fun v24 => bnd (ret (1 : Int)) fun v25 => ret (v24 + v25)) fun v27 => draw_m cp.b v27) fun place28 => bnd (bnd (ret ()) fun v29 => bnd (ret (26 : Int)) fun v30 => draw_m cp.b v30) fun shift31 => bnd (bnd (ret ()) fun v32 => bnd (ret (4 : Int)) fun v33 => draw_m cp.b v33) fun longer34 => bnd (ret ([] : List Str)) fun names35 => thenB (bnd (bnd (ret count1) fun v36 => rangeM 0 v36) fun v114 => forL (fun (x38 : Int) (t37 : (List Str)) => bnd (bnd (bnd (bnd (ret stem23) fun v39 => bnd (ret place28) fun v40 => sslM v39 none (some v40)) fun v50 => bnd (bnd (ret letters3) fun v48 => bnd (bnd (bnd (bnd (ret shift31) fun v43 => bnd (bnd (ret (7 : Int)) fun v41 => bnd (ret x38) fun v42 => mulM v41 v42) fun v44 => ret (v43 + v44)) fun v45 => ret v45) fun v46 => bnd (ret (26 : Int)) fun v47 => modM v46 v47) fun v49 => sgetM v48 v49) fun v51 => saddM v50 v51) fun v54 => bnd (bnd (ret stem23) fun v52 => bnd (ret place28) fun v53 => sslM v52 (some v53) none) fun v55 => saddM v54 v55) fun name56 => bnd (bnd (ret name56) fun v68 => bnd (bnd (bnd (ret letters3) fun v58 => bnd (ret shift31) fun v59 => sgetM v58 v59) fun v66 => bnd (bnd (bnd (bnd (bnd (ret x38) fun v60 => ret v60) fun v61 => bnd (ret (3 : Int)) fun v62 => modM v61 v62) fun v63 => bnd (ret longer34) fun v64 => ret (decide (v63 = v64))) fun v65 => ret (if v65 then (1 : Int) else 0)) fun v67 => smulM v66 v67) fun v69 => saddM v68 v69) fun v70 => bnd (appM t37 v70) fun names57 => ret (.nx names57)) v114 names35) fun (t71 : (List Str)) => thenB (bnd (bnd (bnd (ret count1) fun v72 => bnd (ret (1 : Int)) fun v73 => ret (decide (v73 < v72))) fun v79 => if v79 then (bnd (bnd (ret size13) fun v74 => bnd (ret (4 : Int)) fun v75 => ret (decide (v74 < v75))) fun v78 => if v78 then (bnd (ret longer34) fun v76 => bnd (ret (3 : Int)) fun v77 => ret (decide (v76 = v77))) else ret false) else ret false) fun v80 => if v80 then (bnd (bnd (bnd (ret t71) fun v82 => bnd (ret (0 : Int)) fun v83 => opt (atI v82 v83)) fun v88 => bnd (bnd (ret letters3) fun v86 => bnd (bnd (ret ()) fun v84 => bnd (ret (26 : Int)) fun v85 => draw_m cp.b v85) fun v87 => sgetM v86 v87) fun v89 => saddM v88 v89) fun v90 => bnd (ret (1 : Int)) fun v91 => bnd (setM t71 v91 v90) fun names92 => ret (.nx names92)) else (ret (.nx t71))) fun (t81 : (List Str)) => bnd (bnd (ret ()) fun v95 => bnd (bnd (ret (4 : Int)) fun v93 => bnd (ret count1) fun v94 => mulM v93 v94) fun v96 => draw_m cp.b v96) fun spot97 => bnd (bnd (ret words2) fun v101 => bnd (bnd (ret ()) fun v99 => bnd (bnd (ret words2) fun v98 => ret (List.length v98 : Int)) fun v100 => draw_m cp.b v100) fun v102 => opt (atI v101 v102)) fun word103 => thenB (bnd (bnd (bnd (ret spot97) fun v104 => bnd (ret count1) fun v105 => ret (decide (v104 < v105))) fun v108 => if v108 then (bnd (ret word103) fun v106 => bnd (ret t81) fun v107 => ret (!decide (v106 ∈ v107))) else ret false) fun v109 => if v109 then (bnd (ret word103) fun v111 => bnd (ret spot97) fun v112 => bnd (setM t81 v112 v111) fun names113 => ret (.nx names113)) else (ret (.nx t81))) fun (t110 : (List Str)) => ret (.rt t110) : M S (Fl Unit Empty (List Str)))) (jb_cx (Γ2 := [some (.fz ((rBag cp.ab) ())), some (.fz (rI count1)), some (.fz ((rL rS) words2)), none, none, none, none, none, none, none, none, none, none, none]) (jb_set (i := 3) z rfl (by first | exact .inl rfl | exact .inr rfl) je_str (fun letters3 => (jb_cx (Γ2 := [some (.fz ((rBag cp.ab) ())), some (.fz (rI count1)), some (.fz ((rL rS) words2)), some (.fz (rS letters3)), none, none, none, none, none, none, none, none, none, none]) (cut_names_11 cp T C_draw hr z hu hu1 count1 words2 letters3))))) (by simp only [ret_bnd, rdM_some, names_mb])
abbrev st_ring : Stmt := (top 24)
theorem sc_ring : FnScope ["_law_bag_here"] ["_law_bag_here"] (defScope st_ring) := ⟨rfl, rfl, rfl, by decide +kernel, rfl, by decide +kernel, by decide +kernel⟩
def ring_mb {S : Type} (b : BagIn S) : M S (Fl Unit Empty Int) := bnd (bnd (bnd (draw_m b (6 : Int)) fun v3 => ret (decide (v3 = (5 : Int)))) fun v18 => if v18 then (bnd (draw_m b (999 : Int)) fun v8 => ret ((2 : Int) + v8)) else (bnd (draw_m b (5 : Int)) fun v17 => opt (atI [(0 : Int), (0 : Int), (2 : Int), (3 : Int), (10 : Int)] v17))) fun v19 => ret (.rt v19)
def ring_m {S : Type} (b : BagIn S) : M S Int := runF (ring_mb b)
abbrev ra_ring (K : PySem.W.Frag) (S : Type) (R : S → MP Hp) (c : BagC S R) : Unit × Unit → List V → Hp → Prop := (raC (rBag c.ab) raN)
abbrev f_ring (S : Type) (R : S → MP Hp) (c : BagC S R) (y : Unit × Unit) : M S Int := ring_m c.b
abbrev sp_ring (K : PySem.W.Frag) (mg : Str → Option Value) : Sp := spC mg (ra_ring K) (.fz rI) f_ring
theorem ok_ring {P : Program} {w : World} {K : PySem.W.Frag} {mg : Str → Option Value} {base : Heap} {f : Addr} {fd : FuncData} (F : FnP K "_law_ring" "_law_ring" st_ring [] [] f fd) (T : Txt K mg) (C_draw : FnC P w K mg base "_law_draw" 1 (sp_draw K mg)) : FnOk P w K mg base (L2.CX P w) 2 f fd ["_law_bag_here"] (sp_ring K mg) := by
  refine fn_mk (k := 1) (mb := fun S R c y => ring_mb c.b) (Γ0 := fun S R c y => [some (.fz ((rBag c.ab) y.1))]) (Γ' := fun _ => []) (Γb := fun e => nomatch e) F sc_ring (fun S R c y vs G h => (len_raC len_raN) h) (fun _ _ _ _ => rfl) (fun S R c y vs G h => (so_raC (so_raN (n := 0))) h) (fun _ _ _ _ => by exact Nat.le_of_ble_eq_true rfl) (by exact Nat.le_of_ble_eq_true rfl) ?_
  intro cdv A outer s H E Fm S R cp y hr z
  have hu := DL.Room.hu hr
  have hu1 := DL.Room.hu1 hr
  obtain ⟨_, _⟩ := y
  exact JB.eq (m := (bnd (bnd (bnd (bnd (ret ()) fun v1 => bnd (ret (6 : Int)) fun v2 => draw_m cp.b v2) fun v3 => bnd (ret (5 : Int)) fun v4 => ret (decide (v3 = v4))) fun v18 => if v18 then (bnd (ret (2 : Int)) fun v7 => bnd (bnd (ret ()) fun v5 => bnd (ret (999 : Int)) fun v6 => draw_m cp.b v6) fun v8 => ret (v7 + v8)) else (bnd (bnd (ret (0 : Int)) fun v9 => bnd (ret (0 : Int)) fun v10 => bnd (ret (2 : Int)) fun v11 => bnd (ret (3 : Int)) fun v12 => bnd (ret (10 : Int)) fun v13 => ret [v9, v10, v11, v12, v13]) fun v16 => bnd (bnd (ret ()) fun v14 => bnd (ret (5 : Int)) fun v15 => draw_m cp.b v15) fun v17 => opt (atI v16 v17))) fun v19 => ret (.rt v19) : M S (Fl Unit Empty Int))) (jb_cx (Γ2 := [some (.fz ((rBag cp.ab) ()))]) (jb_one (js_ret (je_if (jt_c c_eqI (je_call z C_draw hr cp (ja_cons (je_var (r := rBag cp.ab) (x := ()) 0 rfl (pv 0)) (ja_cons je_int ja_nil))) je_int) (je_add je_int (je_call z C_draw hr cp (ja_cons (je_var (r := rBag cp.ab) (x := ()) 0 rfl (pv 0)) (ja_cons je_int ja_nil)))) (je_ixL (je_frzL (je_list (jl_cons je_int (jl_cons je_int (jl_cons je_int (jl_cons je_int (jl_cons je_int (jl_nil (r := rI))))))))) (je_call z C_draw hr cp (ja_cons (je_var (r := rBag cp.ab) (x := ()) 0 rfl (pv 0)) (ja_cons je_int ja_nil)))))))) (by simp only [ret_bnd, rdM_some, ring_mb])
abbrev st_size : Stmt := (top 25)
theorem sc_size : FnScope ["_law_bag_here"] ["_law_bag_here"] (defScope st_size) := ⟨rfl, rfl, rfl, by decide +kernel, rfl, by decide +kernel, by decide +kernel⟩
def size_mb {S : Type} (b : BagIn S) : M S (Fl Unit Empty Int) := bnd (bnd (bnd (bnd (bnd (draw_m b (8 : Int)) fun v5 => fdivM v5 (7 : Int)) fun v8 => opt (atI [(8 : Int), (1000 : Int)] v8)) fun v10 => draw_m b v10) fun v12 => ret ((1 : Int) + v12)) fun v13 => ret (.rt v13)
def size_m {S : Type} (b : BagIn S) : M S Int := runF (size_mb b)
abbrev ra_size (K : PySem.W.Frag) (S : Type) (R : S → MP Hp) (c : BagC S R) : Unit × Unit → List V → Hp → Prop := (raC (rBag c.ab) raN)
abbrev f_size (S : Type) (R : S → MP Hp) (c : BagC S R) (y : Unit × Unit) : M S Int := size_m c.b
abbrev sp_size (K : PySem.W.Frag) (mg : Str → Option Value) : Sp := spC mg (ra_size K) (.fz rI) f_size
theorem ok_size {P : Program} {w : World} {K : PySem.W.Frag} {mg : Str → Option Value} {base : Heap} {f : Addr} {fd : FuncData} (F : FnP K "_law_size" "_law_size" st_size [] [] f fd) (T : Txt K mg) (C_draw : FnC P w K mg base "_law_draw" 1 (sp_draw K mg)) : FnOk P w K mg base (L2.CX P w) 2 f fd ["_law_bag_here"] (sp_size K mg) := by
  refine fn_mk (k := 1) (mb := fun S R c y => size_mb c.b) (Γ0 := fun S R c y => [some (.fz ((rBag c.ab) y.1))]) (Γ' := fun _ => []) (Γb := fun e => nomatch e) F sc_size (fun S R c y vs G h => (len_raC len_raN) h) (fun _ _ _ _ => rfl) (fun S R c y vs G h => (so_raC (so_raN (n := 0))) h) (fun _ _ _ _ => by exact Nat.le_of_ble_eq_true rfl) (by exact Nat.le_of_ble_eq_true rfl) ?_
  intro cdv A outer s H E Fm S R cp y hr z
  have hu := DL.Room.hu hr
  have hu1 := DL.Room.hu1 hr
  obtain ⟨_, _⟩ := y
  exact JB.eq (m := (bnd (bnd (ret (1 : Int)) fun v11 => bnd (bnd (ret ()) fun v9 => bnd (bnd (bnd (ret (8 : Int)) fun v1 => bnd (ret (1000 : Int)) fun v2 => ret [v1, v2]) fun v7 => bnd (bnd (bnd (ret ()) fun v3 => bnd (ret (8 : Int)) fun v4 => draw_m cp.b v4) fun v5 => bnd (ret (7 : Int)) fun v6 => fdivM v5 v6) fun v8 => opt (atI v7 v8)) fun v10 => draw_m cp.b v10) fun v12 => ret (v11 + v12)) fun v13 => ret (.rt v13) : M S (Fl Unit Empty Int))) (jb_cx (Γ2 := [some (.fz ((rBag cp.ab) ()))]) (jb_one (js_ret (je_add je_int (je_call z C_draw hr cp (ja_cons (je_var (r := rBag cp.ab) (x := ()) 0 rfl (pv 0)) (ja_cons (je_ixL (je_frzL (je_list (jl_cons je_int (jl_cons je_int (jl_nil (r := rI)))))) (je_fdiv (je_call z C_draw hr cp (ja_cons (je_var (r := rBag cp.ab) (x := ()) 0 rfl (pv 0)) (ja_cons je_int ja_nil))) je_int)) ja_nil))))))) (by simp only [ret_bnd, rdM_some, size_mb])
abbrev st_columns : Stmt := (top 26)
theorem sc_columns : FnScope ["_law_bag_here", "_law_most", "_law_names_here", "_law_ring_here", "_law_columns_here", "_law_name", "_law_other"] ["_law_bag_here", "_law_most"] (defScope st_columns) := ⟨rfl, rfl, rfl, by decide +kernel, rfl, by decide +kernel, by decide +kernel⟩
def columns_mb {S : Type} (b : BagIn S) (most1 : Int) : M S (Fl Unit Empty (List (Str × Int × Int))) := bnd (bnd (bnd (draw_m b most1) fun v5 => ret ((1 : Int) + v5)) fun v11 => names_m b v11 [("before" : Str), ("after" : Str), ("absent" : Str), ("carry" : Str)]) fun names13 => bnd (ring_m b) fun ring15 => thenB (forL (fun (x19 : Str) (t18 : (List (Str × Int × Int))) => bnd (bnd (bnd (draw_m b (4 : Int)) fun v22 => ret (decide (v22 = (3 : Int)))) fun v25 => if v25 then (ring_m b) else (ret ring15)) fun other26 => bnd (bnd (size_m b) fun v30 => ret (x19, v30, other26)) fun v32 => bnd (appM t18 v32) fun columns27 => ret (.nx columns27)) names13 ([] : List (Str × Int × Int))) fun (t33 : (List (Str × Int × Int))) => ret (.rt t33)
def columns_m {S : Type} (b : BagIn S) (most1 : Int) : M S (List (Str × Int × Int)) := runF (columns_mb b most1)
abbrev ra_columns (K : PySem.W.Frag) (S : Type) (R : S → MP Hp) (c : BagC S R) : Unit × Int × Unit → List V → Hp → Prop := (raC (rBag c.ab) (raC rI raN))
abbrev f_columns (S : Type) (R : S → MP Hp) (c : BagC S R) (y : Unit × Int × Unit) : M S (List (Str × Int × Int)) := columns_m c.b y.2.1
abbrev sp_columns (K : PySem.W.Frag) (mg : Str → Option Value) : Sp := spC mg (ra_columns K) (.own (cL (rT3 K rS rI rI))) f_columns
theorem cut_columns_0 {P : Program} {w : World} {K : PySem.W.Frag} {mg : Str → Option Value} {base : Heap} {f : Addr} {cdv : Value} {A : Around} {outer : List Env} {s : Shared} {H : Hp} {E : XK} {Fm : Fm} {S : Type} {R : S → MP Hp} (cp : BagC S R) (T : Txt K mg) (C_names : FnC P w K mg base "_law_names" 2 (sp_names K mg)) (C_draw : FnC P w K mg base "_law_draw" 1 (sp_draw K mg)) (C_ring : FnC P w K mg base "_law_ring" 2 (sp_ring K mg)) (C_size : FnC P w K mg base "_law_size" 2 (sp_size K mg)) (hr : Room 2 (A.deeper (envOfC "_law_columns" (defScope st_columns) s.heap.objs.size f cdv))) (z : ZOk (ZF P w K mg base ["_law_bag_here", "_law_most", "_law_names_here", "_law_ring_here", "_law_columns_here", "_law_name", "_law_other"] "_law_columns" (defScope st_columns) f cdv A outer s H E Fm S R)) (hu : (A.deeper (envOfC "_law_columns" (defScope st_columns) s.heap.objs.size f cdv)).units + 65 < cLine) (hu1 : (A.deeper (envOfC "_law_columns" (defScope st_columns) s.heap.objs.size f cdv)).units + 1 < cLine) (most1 : Int) (names13 : List Str) (ring15 : Int) (t33 : (List (Str × Int × Int))) : JB (ZF P w K mg base ["_law_bag_here", "_law_most", "_law_names_here", "_law_ring_here", "_law_columns_here", "_law_name", "_law_other"] "_law_columns" (defScope st_columns) f cdv A outer s H E Fm S R) [some (.fz ((rBag cp.ab) ())), some (.fz (rI most1)), some (.fz ((rL rS) names13)), some (.fz (rI ring15)), some (.lv ((cL (rT3 K rS rI rI)) t33)), none, none] (List.drop 4 (defBody st_columns)) (ret (.rt t33) : M S (Fl Unit Empty (List (Str × Int × Int)))) (fun _ => []) (fun e => nomatch e) (.own (cL (rT3 K rS rI rI))) := (jb_one (js_retV (c := (cL (rT3 K rS rI rI))) (x := t33) 4 rfl (pv 4)))
theorem cut_columns_1 {P : Program} {w : World} {K : PySem.W.Frag} {mg : Str → Option Value} {base : Heap} {f : Addr} {cdv : Value} {A : Around} {outer : List Env} {s : Shared} {H : Hp} {E : XK} {Fm : Fm} {S : Type} {R : S → MP Hp} (cp : BagC S R) (T : Txt K mg) (C_names : FnC P w K mg base "_law_names" 2 (sp_names K mg)) (C_draw : FnC P w K mg base "_law_draw" 1 (sp_draw K mg)) (C_ring : FnC P w K mg base "_law_ring" 2 (sp_ring K mg)) (C_size : FnC P w K mg base "_law_size" 2 (sp_size K mg)) (hr : Room 2 (A.deeper (envOfC "_law_columns" (defScope st_columns) s.heap.objs.size f cdv))) (z : ZOk (ZF P w K mg base ["_law_bag_here", "_law_most", "_law_names_here", "_law_ring_here", "_law_columns_here", "_law_name", "_law_other"] "_law_columns" (defScope st_columns) f cdv A outer s H E Fm S R)) (hu : (A.deeper (envOfC "_law_columns" (defScope st_columns) s.heap.objs.size f cdv)).units + 65 < cLine) (hu1 : (A.deeper (envOfC "_law_columns" (defScope st_columns) s.heap.objs.size f cdv)).units + 1 < cLine) (most1 : Int) (names13 : List Str) (ring15 : Int) (columns16 : List (Str × Int × Int)) : JB (ZF P w K mg base ["_law_bag_here", "_law_most", "_law_names_here", "_law_ring_here", "_law_columns_here", "_law_name", "_law_other"] "_law_columns" (defScope st_columns) f cdv A outer s H E Fm S R) [some (.fz ((rBag cp.ab) ())), some (.fz (rI most1)), some (.fz ((rL rS) names13)), some (.fz (rI ring15)), some (.lv ((cL (rT3 K rS rI rI)) columns16)), none, none] (List.drop 3 (defBody st_columns)) (thenB (bnd (bnd (ret names13) fun v17 => ret v17) fun v34 => forL (fun (x19 : Str) (t18 : (List (Str × Int × Int))) => bnd (bnd (bnd (bnd (ret ()) fun v20 => bnd (ret (4 : Int)) fun v21 => draw_m cp.b v21) fun v22 => bnd (ret (3 : Int)) fun v23 => ret (decide (v22 = v23))) fun v25 => if v25 then (bnd (ret ()) fun v24 => ring_m cp.b) else (ret ring15)) fun other26 => bnd (bnd (ret x19) fun v29 => bnd (bnd (ret ()) fun v28 => size_m cp.b) fun v30 => bnd (ret other26) fun v31 => ret (v29, v30, v31)) fun v32 => bnd (appM t18 v32) fun columns27 => ret (.nx columns27)) v34 columns16) fun (t33 : (List (Str × Int × Int))) => ret (.rt t33) : M S (Fl Unit Empty (List (Str × Int × Int)))) (fun _ => []) (fun e => nomatch e) (.own (cL (rT3 K rS rI rI))) := (jb_seq (Γ1 := fun t18 : (List (Str × Int × Int)) => [some (.fz ((rBag cp.ab) ())), some (.fz (rI most1)), some (.fz ((rL rS) names13)), some (.fz (rI ring15)), some (.lv ((cL (rT3 K rS rI rI)) t18)), none, none]) (js_for (n := 7) (t0 := columns16) z (ji_list (je_var (r := (rL rS)) (x := names13) 2 rfl (pv 2))) (jg_name (i := 5) (z).nd rfl (by first | exact .inl rfl | exact .inr rfl)) (Le.some (Le.some (Le.some (Le.some (Le.some (Le.none (Le.none Le.nil))))))) (fun x19 t18 => (jb_cx (Γ2 := [some (.fz ((rBag cp.ab) ())), some (.fz (rI most1)), some (.fz ((rL rS) names13)), some (.fz (rI ring15)), some (.lv ((cL (rT3 K rS rI rI)) t18)), some (.fz (rS x19)), none]) (jb_set (i := 6) z rfl (by first | exact .inl rfl | exact .inr rfl) (je_if (jt_c c_eqI (je_call z C_draw hr cp (ja_cons (je_var (r := rBag cp.ab) (x := ()) 0 rfl (pv 0)) (ja_cons je_int ja_nil))) je_int) (je_call z C_ring hr cp (ja_cons (je_var (r := rBag cp.ab) (x := ()) 0 rfl (pv 0)) ja_nil)) (je_var (r := rI) (x := ring15) 3 rfl (pv 3))) (fun other26 => (jb_cx (Γ2 := [some (.fz ((rBag cp.ab) ())), some (.fz (rI most1)), some (.fz ((rL rS) names13)), some (.fz (rI ring15)), some (.lv ((cL (rT3 K rS rI rI)) t18)), some (.fz (rS x19)), some (.fz (rI other26))]) (jb_append (k := 4) rfl (pv 4) (je_tup3 (ja_cons (je_var (r := rS) (x := x19) 5 rfl (pv 5)) (ja_cons (je_call z C_size hr cp (ja_cons (je_var (r := rBag cp.ab) (x := ()) 0 rfl (pv 0)) ja_nil)) (ja_cons (je_var (r := rI) (x := other26) 6 rfl (pv 6)) ja_nil)))) (fun columns27 => (jb_cx (Γ2 := [some (.fz ((rBag cp.ab) ())), some (.fz (rI most1)), some (.fz ((rL rS) names13)), some (.fz (rI ring15)), some (.lv ((cL (rT3 K rS rI rI)) columns27)), some (.fz (rS x19)), some (.fz (rI other26))]) (jb_nil (t := columns27) (Le.some (Le.some (Le.some (Le.some (Le.some (Le.none (Le.none Le.nil)))))))))) (ps_expr (pe_bm PySem.F.plainAttrs_list PySem.F.slot_list_append PySem.F.type_list_append mt_append (pv 4) (pa_cons (JE.pe (je_tup3 (ja_cons (je_var (r := rS) (x := x19) 5 rfl (pv 5)) (ja_cons (je_call z C_size hr cp (ja_cons (je_var (r := rBag cp.ab) (x := ()) 0 rfl (pv 0)) ja_nil)) (ja_cons (je_var (r := rI) (x := other26) 6 rfl (pv 6)) ja_nil))))) pa_nil)))))))))) (fun t33 => (jb_cx (Γ2 := [some (.fz ((rBag cp.ab) ())), some (.fz (rI most1)), some (.fz ((rL rS) names13)), some (.fz (rI ring15)), some (.lv ((cL (rT3 K rS rI rI)) t33)), none, none]) (cut_columns_0 cp T C_names C_draw C_ring C_size hr z hu hu1 most1 names13 ring15 t33))))
theorem cut_columns_2 {P : Program} {w : World} {K : PySem.W.Frag} {mg : Str → Option Value} {base : Heap} {f : Addr} {cdv : Value} {A : Around} {outer : List Env} {s : Shared} {H : Hp} {E : XK} {Fm : Fm} {S : Type} {R : S → MP Hp} (cp : BagC S R) (T : Txt K mg) (C_names : FnC P w K mg base "_law_names" 2 (sp_names K mg)) (C_draw : FnC P w K mg base "_law_draw" 1 (sp_draw K mg)) (C_ring : FnC P w K mg base "_law_ring" 2 (sp_ring K mg)) (C_size : FnC P w K mg base "_law_size" 2 (sp_size K mg)) (hr : Room 2 (A.deeper (envOfC "_law_columns" (defScope st_columns) s.heap.objs.size f cdv))) (z : ZOk (ZF P w K mg base ["_law_bag_here", "_law_most", "_law_names_here", "_law_ring_here", "_law_columns_here", "_law_name", "_law_other"] "_law_columns" (defScope st_columns) f cdv A outer s H E Fm S R)) (hu : (A.deeper (envOfC "_law_columns" (defScope st_columns) s.heap.objs.size f cdv)).units + 65 < cLine) (hu1 : (A.deeper (envOfC "_law_columns" (defScope st_columns) s.heap.objs.size f cdv)).units + 1 < cLine) (most1 : Int) (names13 : List Str) (ring15 : Int) : JB (ZF P w K mg base ["_law_bag_here", "_law_most", "_law_names_here", "_law_ring_here", "_law_columns_here", "_law_name", "_law_other"] "_law_columns" (defScope st_columns) f cdv A outer s H E Fm S R) [some (.fz ((rBag cp.ab) ())), some (.fz (rI most1)), some (.fz ((rL rS) names13)), some (.fz (rI ring15)), none, none, none] (List.drop 2 (defBody st_columns)) (bnd (ret ([] : List (Str × Int × Int))) fun columns16 => thenB (bnd (bnd (ret names13) fun v17 => ret v17) fun v34 => forL (fun (x19 : Str) (t18 : (List (Str × Int × Int))) => bnd (bnd (bnd (bnd (ret ()) fun v20 => bnd (ret (4 : Int)) fun v21 => draw_m cp.b v21) fun v22 => bnd (ret (3 : Int)) fun v23 => ret (decide (v22 = v23))) fun v25 => if v25 then (bnd (ret ()) fun v24 => ring_m cp.b) else (ret ring15)) fun other26 => bnd (bnd (ret x19) fun v29 => bnd (bnd (ret ()) fun v28 => size_m cp.b) fun v30 => bnd (ret other26) fun v31 => ret (v29, v30, v31)) fun v32 => bnd (appM t18 v32) fun columns27 => ret (.nx columns27)) v34 columns16) fun (t33 : (List (Str × Int × Int))) => ret (.rt t33) : M S (Fl Unit Empty (List (Str × Int × Int)))) (fun _ => []) (fun e => nomatch e) (.own (cL (rT3 K rS rI rI))) := (jb_setO (i := 4) z rfl (by first | exact .inl rfl | exact .inr rfl) (je_list (jl_nil (r := (rT3 K rS rI rI)))) (fun columns16 => (jb_cx (Γ2 := [some (.fz ((rBag cp.ab) ())), some (.fz (rI most1)), some (.fz ((rL rS) names13)), some (.fz (rI ring15)), some (.lv ((cL (rT3 K rS rI rI)) columns16)), none, none]) (cut_columns_1 cp T C_names C_draw C_ring C_size hr z hu hu1 most1 names13 ring15 columns16))))
theorem cut_columns_3 {P : Program} {w : World} {K : PySem.W.Frag} {mg : Str → Option Value} {base : Heap} {f : Addr} {cdv : Value} {A : Around} {outer : List Env} {s : Shared} {H : Hp} {E : XK} {Fm : Fm} {S : Type} {R : S → MP Hp} (cp : BagC S R) (T : Txt K mg) (C_names : FnC P w K mg base "_law_names" 2 (sp_names K mg)) (C_draw : FnC P w K mg base "_law_draw" 1 (sp_draw K mg)) (C_ring : FnC P w K mg base "_law_ring" 2 (sp_ring K mg)) (C_size : FnC P w K mg base "_law_size" 2 (sp_size K mg)) (hr : Room 2 (A.deeper (envOfC "_law_columns" (defScope st_columns) s.heap.objs.size f cdv))) (z : ZOk (ZF P w K mg base ["_law_bag_here", "_law_most", "_law_names_here", "_law_ring_here", "_law_columns_here", "_law_name", "_law_other"] "_law_columns" (defScope st_columns) f cdv A outer s H E Fm S R)) (hu : (A.deeper (envOfC "_law_columns" (defScope st_columns) s.heap.objs.size f cdv)).units + 65 < cLine) (hu1 : (A.deeper (envOfC "_law_columns" (defScope st_columns) s.heap.objs.size f cdv)).units + 1 < cLine) (most1 : Int) (names13 : List Str) : JB (ZF P w K mg base ["_law_bag_here", "_law_most", "_law_names_here", "_law_ring_here", "_law_columns_here", "_law_name", "_law_other"] "_law_columns" (defScope st_columns) f cdv A outer s H E Fm S R) [some (.fz ((rBag cp.ab) ())), some (.fz (rI most1)), some (.fz ((rL rS) names13)), none, none, none, none] (List.drop 1 (defBody st_columns)) (bnd (bnd (ret ()) fun v14 => ring_m cp.b) fun ring15 => bnd (ret ([] : List (Str × Int × Int))) fun columns16 => thenB (bnd (bnd (ret names13) fun v17 => ret v17) fun v34 => forL (fun (x19 : Str) (t18 : (List (Str × Int × Int))) => bnd (bnd (bnd (bnd (ret ()) fun v20 => bnd (ret (4 : Int)) fun v21 => draw_m cp.b v21) fun v22 => bnd (ret (3 : Int)) fun v23 => ret (decide (v22 = v23))) fun v25 => if v25 then (bnd (ret ()) fun v24 => ring_m cp.b) else (ret ring15)) fun other26 => bnd (bnd (ret x19) fun v29 => bnd (bnd (ret ()) fun v28 => size_m cp.b) fun v30 => bnd (ret other26) fun v31 => ret (v29, v30, v31)) fun v32 => bnd (appM t18 v32) fun columns27 => ret (.nx columns27)) v34 columns16) fun (t33 : (List (Str × Int × Int))) => ret (.rt t33) : M S (Fl Unit Empty (List (Str × Int × Int)))) (fun _ => []) (fun e => nomatch e) (.own (cL (rT3 K rS rI rI))) := (jb_set (i := 3) z rfl (by first | exact .inl rfl | exact .inr rfl) (je_call z C_ring hr cp (ja_cons (je_var (r := rBag cp.ab) (x := ()) 0 rfl (pv 0)) ja_nil)) (fun ring15 => (jb_cx (Γ2 := [some (.fz ((rBag cp.ab) ())), some (.fz (rI most1)), some (.fz ((rL rS) names13)), some (.fz (rI ring15)), none, none, none]) (cut_columns_2 cp T C_names C_draw C_ring C_size hr z hu hu1 most1 names13 ring15))))
theorem ok_columns {P : Program} {w : World} {K : PySem.W.Frag} {mg : Str → Option Value} {base : Heap} {f : Addr} {fd : FuncData} (F : FnP K "_law_columns" "_law_columns" st_columns [] [] f fd) (T : Txt K mg) (C_names : FnC P w K mg base "_law_names" 2 (sp_names K mg)) (C_draw : FnC P w K mg base "_law_draw" 1 (sp_draw K mg)) (C_ring : FnC P w K mg base "_law_ring" 2 (sp_ring K mg)) (C_size : FnC P w K mg base "_law_size" 2 (sp_size K mg)) : FnOk P w K mg base (L2.CX P w) 3 f fd ["_law_bag_here", "_law_most"] (sp_columns K mg) := by
  refine fn_mk (k := 2) (mb := fun S R c y => columns_mb c.b y.2.1) (Γ0 := fun S R c y => [some (.fz ((rBag c.ab) y.1)), some (.fz (rI y.2.1)), none, none, none, none, none]) (Γ' := fun _ => []) (Γb := fun e => nomatch e) F sc_columns (fun S R c y vs G h => (len_raC (len_raC len_raN)) h) (fun _ _ _ _ => rfl) (fun S R c y vs G h => (so_raC (so_raC (so_raN (n := 5)))) h) (fun _ _ _ _ => by exact Nat.le_of_ble_eq_true rfl) (by exact Nat.le_of_ble_eq_true rfl) ?_
  intro cdv A outer s H E Fm S R cp y hr z
  have hu := DL.Room.hu hr
  have hu1 := DL.Room.hu1 hr
  obtain ⟨_, most1, _⟩ := y
  exact JB.eq (m := (bnd (bnd (ret ()) fun v10 => bnd (bnd (ret (1 : Int)) fun v4 => bnd (bnd (ret ()) fun v2 => bnd (ret most1) fun v3 => draw_m cp.b v3) fun v5 => ret (v4 + v5)) fun v11 => bnd (bnd (ret ("before" : Str)) fun v6 => bnd (ret ("after" : Str)) fun v7 => bnd (ret ("absent" : Str)) fun v8 => bnd (ret ("carry" : Str)) fun v9 => ret [v6, v7, v8, v9]) fun v12 => names_m cp.b v11 v12) fun names13 => bnd (bnd (ret ()) fun v14 => ring_m cp.b) fun ring15 => bnd (ret ([] : List (Str × Int × Int))) fun columns16 => thenB (bnd (bnd (ret names13) fun v17 => ret v17) fun v34 => forL (fun (x19 : Str) (t18 : (List (Str × Int × Int))) => bnd (bnd (bnd (bnd (ret ()) fun v20 => bnd (ret (4 : Int)) fun v21 => draw_m cp.b v21) fun v22 => bnd (ret (3 : Int)) fun v23 => ret (decide (v22 = v23))) fun v25 => if v25 then (bnd (ret ()) fun v24 => ring_m cp.b) else (ret ring15)) fun other26 => bnd (bnd (ret x19) fun v29 => bnd (bnd (ret ()) fun v28 => size_m cp.b) fun v30 => bnd (ret other26) fun v31 => ret (v29, v30, v31)) fun v32 => bnd (appM t18 v32) fun columns27 => ret (.nx columns27)) v34 columns16) fun (t33 : (List (Str × Int × Int))) => ret (.rt t33) : M S (Fl Unit Empty (List (Str × Int × Int))))) (jb_cx (Γ2 := [some (.fz ((rBag cp.ab) ())), some (.fz (rI most1)), none, none, none, none, none]) (jb_set (i := 2) z rfl (by first | exact .inl rfl | exact .inr rfl) (je_frzL (je_call z C_names hr cp (ja_cons (je_var (r := rBag cp.ab) (x := ()) 0 rfl (pv 0)) (ja_cons (je_add je_int (je_call z C_draw hr cp (ja_cons (je_var (r := rBag cp.ab) (x := ()) 0 rfl (pv 0)) (ja_cons (je_var (r := rI) (x := most1) 1 rfl (pv 1)) ja_nil)))) (ja_cons (je_frzL (je_list (jl_cons je_str (jl_cons je_str (jl_cons je_str (jl_cons je_str (jl_nil (r := rS)))))))) ja_nil))))) (fun names13 => (jb_cx (Γ2 := [some (.fz ((rBag cp.ab) ())), some (.fz (rI most1)), some (.fz ((rL rS) names13)), none, none, none, none]) (cut_columns_3 cp T C_names C_draw C_ring C_size hr z hu hu1 most1 names13))))) (by simp only [ret_bnd, rdM_some, columns_mb])
abbrev st_moved : Stmt := (top 27)
theorem sc_moved : FnScope ["_law_bag_here", "_law_columns_here", "_law_moved_here", "_law_free", "_law_name", "_law_wide", "_law_ring_here", "_law_choice", "_law_takes", "_law_other", "_law_far", "_law_amount", "_law_column"] ["_law_bag_here", "_law_columns_here"] (defScope st_moved) := ⟨rfl, rfl, rfl, by decide +kernel, rfl, by decide +kernel, by decide +kernel⟩
def moved_mb {S : Type} (b : BagIn S) (columns1 : List (Str × Int × Int)) : M S (Fl Unit Empty (List (Str × (Str × Int)))) := bnd (compM (fun x4 => ret true) (fun x4 => ret x4.1) columns1) fun free7 => thenB (forL (fun (x10 : Str × Int × Int) (t9 : (List (Str × (Str × Int))) × (List Str)) => bnd (draw_m b (5 : Int)) fun choice13 => bnd (compM (fun x15 => if (decide (x15.1 ∈ t9.2)) then (ret (decide (x15.2.2 = x10.2.2))) else ret false) (fun x15 => ret x15.1) columns1) fun takes25 => bnd (if (decide ((1 : Int) < choice13)) then (neM (fun xs => List.all xs PyData.strOk) takes25 ([] : List Str)) else ret false) fun v31 => if v31 then (bnd (bnd (draw_m b (List.length takes25 : Int)) fun v36 => opt (atI takes25 v36)) fun other37 => thenB (bnd (if (decide ((3 : Int) < choice13)) then (ret (decide (x10.1 ∈ takes25))) else ret false) fun v43 => if v43 then (ret (.nx x10.1)) else (ret (.nx other37))) fun (t44 : Str) => bnd (bnd (draw_m b (6 : Int)) fun v48 => ret (decide (v48 = (5 : Int)))) fun far50 => bnd (if far50 then (bnd (draw_m b (2000001 : Int)) fun v53 => ret (v53 - (1000000 : Int))) else (bnd (draw_m b (4 : Int)) fun v63 => opt (atI [(0 : Int), (0 : Int), (1 : Int), (-(1 : Int))] v63))) fun amount65 => bnd (dputM t9.1 x10.1 (t44, amount65)) fun moved70 => bnd (remM t9.2 t44) fun free71 => ret (.nx (moved70, free71))) else (ret (.nx (t9.1, t9.2)))) columns1 (([] : List (Str × (Str × Int))), free7)) fun (t73 : (List (Str × (Str × Int))) × (List Str)) => ret (.rt t73.1)
def moved_m {S : Type} (b : BagIn S) (columns1 : List (Str × Int × Int)) : M S (List (Str × (Str × Int))) := runF (moved_mb b columns1)
abbrev ra_moved (K : PySem.W.Frag) (S : Type) (R : S → MP Hp) (c : BagC S R) : Unit × (List (Str × Int × Int)) × Unit → List V → Hp → Prop := (raC (rBag c.ab) (raC (rL (rT3 K rS rI rI)) raN))
abbrev f_moved (S : Type) (R : S → MP Hp) (c : BagC S R) (y : Unit × (List (Str × Int × Int)) × Unit) : M S (List (Str × (Str × Int))) := moved_m c.b y.2.1
abbrev sp_moved (K : PySem.W.Frag) (mg : Str → Option Value) : Sp := spC mg (ra_moved K) (.own (cD kS (rT2 K rS rI))) f_moved
theorem cut_moved_0 {P : Program} {w : World} {K : PySem.W.Frag} {mg : Str → Option Value} {base : Heap} {f : Addr} {cdv : Value} {A : Around} {outer : List Env} {s : Shared} {H : Hp} {E : XK} {Fm : Fm} {S : Type} {R : S → MP Hp} (cp : BagC S R) (T : Txt K mg) (C_draw : FnC P w K mg base "_law_draw" 1 (sp_draw K mg)) (hr : Room 1 (A.deeper (envOfC "_law_moved" (defScope st_moved) s.heap.objs.size f cdv))) (z : ZOk (ZF P w K mg base ["_law_bag_here", "_law_columns_here", "_law_moved_here", "_law_free", "_law_name", "_law_wide", "_law_ring_here", "_law_choice", "_law_takes", "_law_other", "_law_far", "_law_amount", "_law_column"] "_law_moved" (defScope st_moved) f cdv A outer s H E Fm S R)) (hu : (A.deeper (envOfC "_law_moved" (defScope st_moved) s.heap.objs.size f cdv)).units + 65 < cLine) (hu1 : (A.deeper (envOfC "_law_moved" (defScope st_moved) s.heap.objs.size f cdv)).units + 1 < cLine) (columns1 : List (Str × Int × Int)) (t73 : (List (Str × (Str × Int))) × (List Str)) : JB (ZF P w K mg base ["_law_bag_here", "_law_columns_here", "_law_moved_here", "_law_free", "_law_name", "_law_wide", "_law_ring_here", "_law_choice", "_law_takes", "_law_other", "_law_far", "_law_amount", "_law_column"] "_law_moved" (defScope st_moved) f cdv A outer s H E Fm S R) [some (.fz ((rBag cp.ab) ())), some (.fz ((rL (rT3 K rS rI rI)) columns1)), some (.lv ((cD kS (rT2 K rS rI)) t73.1)), some (.lv ((cL rS) t73.2)), none, none, none, none, none, none, none, none, none] (List.drop 3 (defBody st_moved)) (ret (.rt t73.1) : M S (Fl Unit Empty (List (Str × (Str × Int))))) (fun _ => []) (fun e => nomatch e) (.own (cD kS (rT2 K rS rI))) := (jb_one (js_retV (c := (cD kS (rT2 K rS rI))) (x := t73.1) 2 rfl (pv 2)))
theorem cut_moved_1 {P : Program} {w : World} {K : PySem.W.Frag} {mg : Str → Option Value} {base : Heap} {f : Addr} {cdv : Value} {A : Around} {outer : List Env} {s : Shared} {H : Hp} {E : XK} {Fm : Fm} {S : Type} {R : S → MP Hp} (cp : BagC S R) (T : Txt K mg) (C_draw : FnC P w K mg base "_law_draw" 1 (sp_draw K mg)) (hr : Room 1 (A.deeper (envOfC "_law_moved" (defScope st_moved) s.heap.objs.size f cdv))) (z : ZOk (ZF P w K mg base ["_law_bag_here", "_law_columns_here", "_law_moved_here", "_law_free", "_law_name", "_law_wide", "_law_ring_here", "_law_choice", "_law_takes", "_law_other", "_law_far", "_law_amount", "_law_column"] "_law_moved" (defScope st_moved) f cdv A outer s H E Fm S R)) (hu : (A.deeper (envOfC "_law_moved" (defScope st_moved) s.heap.objs.size f cdv)).units + 65 < cLine) (hu1 : (A.deeper (envOfC "_law_moved" (defScope st_moved) s.heap.objs.size f cdv)).units + 1 < cLine) (columns1 : List (Str × Int × Int)) (moved2 : List (Str × (Str × Int))) (free7 : List Str) : JB (ZF P w K mg base ["_law_bag_here", "_law_columns_here", "_law_moved_here", "_law_free", "_law_name", "_law_wide", "_law_ring_here", "_law_choice", "_law_takes", "_law_other", "_law_far", "_law_amount", "_law_column"] "_law_moved" (defScope st_moved) f cdv A outer s H E Fm S R) [some (.fz ((rBag cp.ab) ())), some (.fz ((rL (rT3 K rS rI rI)) columns1)), some (.lv ((cD kS (rT2 K rS rI)) moved2)), some (.lv ((cL rS) free7)), none, none, none, none, none, none, none, none, none] (List.drop 2 (defBody st_moved)) (thenB (bnd (bnd (ret columns1) fun v8 => ret v8) fun v74 => forL (fun (x10 : Str × Int × Int) (t9 : (List (Str × (Str × Int))) × (List Str)) => bnd (bnd (ret ()) fun v11 => bnd (ret (5 : Int)) fun v12 => draw_m cp.b v12) fun choice13 => bnd (bnd (bnd (ret columns1) fun v14 => ret v14) fun v24 => compM (fun x15 => bnd (bnd (bnd (ret x15) fun v16 => ret v16.1) fun v17 => bnd (ret t9.2) fun v18 => ret (decide (v17 ∈ v18))) fun v22 => if v22 then (bnd (bnd (ret x15) fun v19 => ret v19.2.2) fun v20 => bnd (ret x10.2.2) fun v21 => ret (decide (v20 = v21))) else ret false) (fun x15 => bnd (ret x15) fun v23 => ret v23.1) v24) fun takes25 => bnd (bnd (bnd (ret choice13) fun v26 => bnd (ret (1 : Int)) fun v27 => ret (decide (v27 < v26))) fun v30 => if v30 then (bnd (ret takes25) fun v28 => bnd (ret ([] : List Str)) fun v29 => neM (fun xs => List.all xs PyData.strOk) v28 v29) else ret false) fun v31 => if v31 then (bnd (bnd (ret takes25) fun v35 => bnd (bnd (ret ()) fun v33 => bnd (bnd (ret takes25) fun v32 => ret (List.length v32 : Int)) fun v34 => draw_m cp.b v34) fun v36 => opt (atI v35 v36)) fun other37 => thenB (bnd (bnd (bnd (ret choice13) fun v38 => bnd (ret (3 : Int)) fun v39 => ret (decide (v39 < v38))) fun v42 => if v42 then (bnd (ret x10.1) fun v40 => bnd (ret takes25) fun v41 => ret (decide (v40 ∈ v41))) else ret false) fun v43 => if v43 then (bnd (ret x10.1) fun other45 => ret (.nx other45)) else (ret (.nx other37))) fun (t44 : Str) => bnd (bnd (bnd (ret ()) fun v46 => bnd (ret (6 : Int)) fun v47 => draw_m cp.b v47) fun v48 => bnd (ret (5 : Int)) fun v49 => ret (decide (v48 = v49))) fun far50 => bnd (bnd (ret far50) fun v64 => if v64 then (bnd (bnd (ret ()) fun v51 => bnd (ret (2000001 : Int)) fun v52 => draw_m cp.b v52) fun v53 => bnd (ret (1000000 : Int)) fun v54 => ret (v53 - v54)) else (bnd (bnd (ret (0 : Int)) fun v56 => bnd (ret (0 : Int)) fun v57 => bnd (ret (1 : Int)) fun v58 => bnd (bnd (ret (1 : Int)) fun v55 => ret (-v55)) fun v59 => ret [v56, v57, v58, v59]) fun v62 => bnd (bnd (ret ()) fun v60 => bnd (ret (4 : Int)) fun v61 => draw_m cp.b v61) fun v63 => opt (atI v62 v63))) fun amount65 => bnd (bnd (ret t44) fun v66 => bnd (ret amount65) fun v67 => ret (v66, v67)) fun v68 => bnd (ret x10.1) fun v69 => bnd (dputM t9.1 v69 v68) fun moved70 => bnd (ret t44) fun v72 => bnd (remM t9.2 v72) fun free71 => ret (.nx (moved70, free71))) else (ret (.nx (t9.1, t9.2)))) v74 (moved2, free7)) fun (t73 : (List (Str × (Str × Int))) × (List Str)) => ret (.rt t73.1) : M S (Fl Unit Empty (List (Str × (Str × Int))))) (fun _ => []) (fun e => nomatch e) (.own (cD kS (rT2 K rS rI))) := (jb_seq (Γ1 := fun t9 : (List (Str × (Str × Int))) × (List Str) => [some (.fz ((rBag cp.ab) ())), some (.fz ((rL (rT3 K rS rI rI)) columns1)), some (.lv ((cD kS (rT2 K rS rI)) t9.1)), some (.lv ((cL rS) t9.2)), none, none, none, none, none, none, none, none, none]) (js_for (n := 13) (t0 := (moved2, free7)) z (ji_list (je_var (r := (rL (rT3 K rS rI rI))) (x := columns1) 1 rfl (pv 1))) (jg_tup3 (r1 := rS) (r2 := rI) (r3 := rI) z (i1 := 4) (i2 := 5) (i3 := 6) ⟨rfl, (by first | exact .inl rfl | exact .inr rfl), (by first | exact .inl rfl | exact .inr rfl)⟩ ⟨rfl, (by first | exact .inl rfl | exact .inr rfl), (by first | exact .inl rfl | exact .inr rfl)⟩ ⟨rfl, (by first | exact .inl rfl | exact .inr rfl), (by first | exact .inl rfl | exact .inr rfl)⟩) (Le.some (Le.some (Le.some (Le.some (Le.none (Le.none (Le.none (Le.none (Le.none (Le.none (Le.none (Le.none (Le.none Le.nil))))))))))))) (fun x10 t9 => (jb_cx (Γ2 := [some (.fz ((rBag cp.ab) ())), some (.fz ((rL (rT3 K rS rI rI)) columns1)), some (.lv ((cD kS (rT2 K rS rI)) t9.1)), some (.lv ((cL rS) t9.2)), some (.fz (rS x10.1)), some (.fz (rI x10.2.1)), some (.fz (rI x10.2.2)), none, none, none, none, none, none]) (jb_set (i := 7) z rfl (by first | exact .inl rfl | exact .inr rfl) (je_call z C_draw hr cp (ja_cons (je_var (r := rBag cp.ab) (x := ()) 0 rfl (pv 0)) (ja_cons je_int ja_nil))) (fun choice13 => (jb_cx (Γ2 := [some (.fz ((rBag cp.ab) ())), some (.fz ((rL (rT3 K rS rI rI)) columns1)), some (.lv ((cD kS (rT2 K rS rI)) t9.1)), some (.lv ((cL rS) t9.2)), some (.fz (rS x10.1)), some (.fz (rI x10.2.1)), some (.fz (rI x10.2.2)), some (.fz (rI choice13)), none, none, none, none, none]) (jb_setLc (i := 8) (own := [("_law_column", 12)]) z (ji_list (je_var (r := (rL (rT3 K rS rI rI))) (x := columns1) 1 rfl (pv 1))) (fun (x15 : Str × Int × Int) => bnd (bnd (bnd (ret x15) fun v16 => ret v16.1) fun v17 => bnd (ret t9.2) fun v18 => ret (decide (v17 ∈ v18))) fun v22 => if v22 then (bnd (bnd (ret x15) fun v19 => ret v19.2.2) fun v20 => bnd (ret x10.2.2) fun v21 => ret (decide (v20 = v21))) else ret false) (fun (x15 : Str × Int × Int) => bnd (ret x15) fun v23 => ret v23.1) (blkOk_by (N := ["_law_bag_here", "_law_columns_here", "_law_moved_here", "_law_free", "_law_name", "_law_wide", "_law_ring_here", "_law_choice", "_law_takes", "_law_other", "_law_far", "_law_amount", "_law_column"]) (sc := defScope st_moved) (by decide +kernel)) (fun _ _ _ _ _ _ _ => by exact (jg_name (i := 12) ((ZOk.blk z)).nd rfl (by first | exact .inl rfl | exact .inr rfl))) (fun _ _ _ _ _ _ _ x15 => (jts_one (JW.jt (jw_and (jt_inV flS (je_t3_0 (je_var (r := (rT3 K rS rI rI)) (x := x15) 12 rfl (pv 12))) (je_live (c := (cL rS)) (x := t9.2) 3 rfl (pv 3))) (jw_and1 (jt_c c_eqI (je_t3_2 (je_var (r := (rT3 K rS rI rI)) (x := x15) 12 rfl (pv 12))) (je_var (r := rI) (x := x10.2.2) 6 rfl (pv 6)))))))) (fun _ _ _ _ _ _ _ x15 => (je_t3_0 (je_var (r := (rT3 K rS rI rI)) (x := x15) 12 rfl (pv 12)))) (hy := rfl) (hyl := rfl) (hr := fun takes25 => (jb_frzL (k := 8) rfl (jb_cx (Γ2 := [some (.fz ((rBag cp.ab) ())), some (.fz ((rL (rT3 K rS rI rI)) columns1)), some (.lv ((cD kS (rT2 K rS rI)) t9.1)), some (.lv ((cL rS) t9.2)), some (.fz (rS x10.1)), some (.fz (rI x10.2.1)), some (.fz (rI x10.2.2)), some (.fz (rI choice13)), some (.fz ((rL rS) takes25)), none, none, none, none]) (jb_one (js_if (JW.jt (jw_and (jt_c c_gt (je_var (r := rI) (x := choice13) 7 rfl (pv 7)) je_int) (jw_and1 (jt_neD (dL dS) (by decide) hu (je_var (r := (rL rS)) (x := takes25) 8 rfl (pv 8)) (je_frzL (je_list (jl_nil (r := rS)))))))) (jb_cx (Γ2 := [some (.fz ((rBag cp.ab) ())), some (.fz ((rL (rT3 K rS rI rI)) columns1)), some (.lv ((cD kS (rT2 K rS rI)) t9.1)), some (.lv ((cL rS) t9.2)), some (.fz (rS x10.1)), some (.fz (rI x10.2.1)), some (.fz (rI x10.2.2)), some (.fz (rI choice13)), some (.fz ((rL rS) takes25)), none, none, none, none]) (jb_set (i := 9) z rfl (by first | exact .inl rfl | exact .inr rfl) (je_ixL (je_var (r := (rL rS)) (x := takes25) 8 rfl (pv 8)) (je_call z C_draw hr cp (ja_cons (je_var (r := rBag cp.ab) (x := ()) 0 rfl (pv 0)) (ja_cons (je_lenL (by rfl) T.f_len (je_var (r := (rL rS)) (x := takes25) 8 rfl (pv 8))) ja_nil)))) (fun other37 => (jb_cx (Γ2 := [some (.fz ((rBag cp.ab) ())), some (.fz ((rL (rT3 K rS rI rI)) columns1)), some (.lv ((cD kS (rT2 K rS rI)) t9.1)), some (.lv ((cL rS) t9.2)), some (.fz (rS x10.1)), some (.fz (rI x10.2.1)), some (.fz (rI x10.2.2)), some (.fz (rI choice13)), some (.fz ((rL rS) takes25)), some (.fz (rS other37)), none, none, none]) (jb_seq (Γ1 := fun t44 : Str => [some (.fz ((rBag cp.ab) ())), some (.fz ((rL (rT3 K rS rI rI)) columns1)), some (.lv ((cD kS (rT2 K rS rI)) t9.1)), some (.lv ((cL rS) t9.2)), some (.fz (rS x10.1)), some (.fz (rI x10.2.1)), some (.fz (rI x10.2.2)), some (.fz (rI choice13)), some (.fz ((rL rS) takes25)), some (.fz (rS t44)), none, none, none]) (js_if (JW.jt (jw_and (jt_c c_gt (je_var (r := rI) (x := choice13) 7 rfl (pv 7)) je_int) (jw_and1 (jt_inL flS (je_var (r := rS) (x := x10.1) 4 rfl (pv 4)) (je_var (r := (rL rS)) (x := takes25) 8 rfl (pv 8)))))) (jb_cx (Γ2 := [some (.fz ((rBag cp.ab) ())), some (.fz ((rL (rT3 K rS rI rI)) columns1)), some (.lv ((cD kS (rT2 K rS rI)) t9.1)), some (.lv ((cL rS) t9.2)), some (.fz (rS x10.1)), some (.fz (rI x10.2.1)), some (.fz (rI x10.2.2)), some (.fz (rI choice13)), some (.fz ((rL rS) takes25)), some (.fz (rS other37)), none, none, none]) (jb_set (i := 9) z rfl (by first | exact .inl rfl | exact .inr rfl) (je_var (r := rS) (x := x10.1) 4 rfl (pv 4)) (fun other45 => (jb_cx (Γ2 := [some (.fz ((rBag cp.ab) ())), some (.fz ((rL (rT3 K rS rI rI)) columns1)), some (.lv ((cD kS (rT2 K rS rI)) t9.1)), some (.lv ((cL rS) t9.2)), some (.fz (rS x10.1)), some (.fz (rI x10.2.1)), some (.fz (rI x10.2.2)), some (.fz (rI choice13)), some (.fz ((rL rS) takes25)), some (.fz (rS other45)), none, none, none]) (jb_nil (t := other45) (Le.some (Le.some (Le.some (Le.some (Le.some (Le.some (Le.some (Le.some (Le.some (Le.some (Le.none (Le.none (Le.none Le.nil)))))))))))))))))) (jb_cx (Γ2 := [some (.fz ((rBag cp.ab) ())), some (.fz ((rL (rT3 K rS rI rI)) columns1)), some (.lv ((cD kS (rT2 K rS rI)) t9.1)), some (.lv ((cL rS) t9.2)), some (.fz (rS x10.1)), some (.fz (rI x10.2.1)), some (.fz (rI x10.2.2)), some (.fz (rI choice13)), some (.fz ((rL rS) takes25)), some (.fz (rS other37)), none, none, none]) (jb_nil (t := other37) (Le.some (Le.some (Le.some (Le.some (Le.some (Le.some (Le.some (Le.some (Le.some (Le.some (Le.none (Le.none (Le.none Le.nil)))))))))))))))) (fun t44 => (jb_cx (Γ2 := [some (.fz ((rBag cp.ab) ())), some (.fz ((rL (rT3 K rS rI rI)) columns1)), some (.lv ((cD kS (rT2 K rS rI)) t9.1)), some (.lv ((cL rS) t9.2)), some (.fz (rS x10.1)), some (.fz (rI x10.2.1)), some (.fz (rI x10.2.2)), some (.fz (rI choice13)), some (.fz ((rL rS) takes25)), some (.fz (rS t44)), none, none, none]) (jb_set (i := 10) z rfl (by first | exact .inl rfl | exact .inr rfl) (je_c c_eqI (je_call z C_draw hr cp (ja_cons (je_var (r := rBag cp.ab) (x := ()) 0 rfl (pv 0)) (ja_cons je_int ja_nil))) je_int) (fun far50 => (jb_cx (Γ2 := [some (.fz ((rBag cp.ab) ())), some (.fz ((rL (rT3 K rS rI rI)) columns1)), some (.lv ((cD kS (rT2 K rS rI)) t9.1)), some (.lv ((cL rS) t9.2)), some (.fz (rS x10.1)), some (.fz (rI x10.2.1)), some (.fz (rI x10.2.2)), some (.fz (rI choice13)), some (.fz ((rL rS) takes25)), some (.fz (rS t44)), some (.fz (rB far50)), none, none]) (jb_set (i := 11) z rfl (by first | exact .inl rfl | exact .inr rfl) (je_if (jt_val (je_var (r := rB) (x := far50) 10 rfl (pv 10))) (je_sub (je_call z C_draw hr cp (ja_cons (je_var (r := rBag cp.ab) (x := ()) 0 rfl (pv 0)) (ja_cons je_int ja_nil))) je_int) (je_ixL (je_frzL (je_list (jl_cons je_int (jl_cons je_int (jl_cons je_int (jl_cons (je_neg je_int) (jl_nil (r := rI)))))))) (je_call z C_draw hr cp (ja_cons (je_var (r := rBag cp.ab) (x := ()) 0 rfl (pv 0)) (ja_cons je_int ja_nil))))) (fun amount65 => (jb_cx (Γ2 := [some (.fz ((rBag cp.ab) ())), some (.fz ((rL (rT3 K rS rI rI)) columns1)), some (.lv ((cD kS (rT2 K rS rI)) t9.1)), some (.lv ((cL rS) t9.2)), some (.fz (rS x10.1)), some (.fz (rI x10.2.1)), some (.fz (rI x10.2.2)), some (.fz (rI choice13)), some (.fz ((rL rS) takes25)), some (.fz (rS t44)), some (.fz (rB far50)), some (.fz (rI amount65)), none]) (jb_dput (kt := kS) (k := 2) rfl (pv 2) (je_tup2 (ja_cons (je_var (r := rS) (x := t44) 9 rfl (pv 9)) (ja_cons (je_var (r := rI) (x := amount65) 11 rfl (pv 11)) ja_nil))) (je_var (r := rS) (x := x10.1) 4 rfl (pv 4)) (fun moved70 => (jb_cx (Γ2 := [some (.fz ((rBag cp.ab) ())), some (.fz ((rL (rT3 K rS rI rI)) columns1)), some (.lv ((cD kS (rT2 K rS rI)) moved70)), some (.lv ((cL rS) t9.2)), some (.fz (rS x10.1)), some (.fz (rI x10.2.1)), some (.fz (rI x10.2.2)), some (.fz (rI choice13)), some (.fz ((rL rS) takes25)), some (.fz (rS t44)), some (.fz (rB far50)), some (.fz (rI amount65)), none]) (jb_remove flS (k := 3) rfl (pv 3) (je_var (r := rS) (x := t44) 9 rfl (pv 9)) (fun free71 => (jb_cx (Γ2 := [some (.fz ((rBag cp.ab) ())), some (.fz ((rL (rT3 K rS rI rI)) columns1)), some (.lv ((cD kS (rT2 K rS rI)) moved70)), some (.lv ((cL rS) free71)), some (.fz (rS x10.1)), some (.fz (rI x10.2.1)), some (.fz (rI x10.2.2)), some (.fz (rI choice13)), some (.fz ((rL rS) takes25)), some (.fz (rS t44)), some (.fz (rB far50)), some (.fz (rI amount65)), none]) (jb_nil (t := (moved70, free71)) (Le.some (Le.some (Le.some (Le.some (Le.none (Le.none (Le.none (Le.none (Le.none (Le.none (Le.none (Le.none (Le.none Le.nil)))))))))))))))) (ps_expr (pe_bm PySem.F.plainAttrs_list PySem.F.slot_list_remove PySem.F.type_list_remove mt_removeV (pv 3) (pa_cons (JE.pe (je_var (r := rS) (x := t44) 9 rfl (pv 9))) pa_nil)))))) (ps_dput hu1 (pv 2) (JE.pe (je_var (r := rS) (x := x10.1) 4 rfl (pv 4))) (JE.pe (je_tup2 (ja_cons (je_var (r := rS) (x := t44) 9 rfl (pv 9)) (ja_cons (je_var (r := rI) (x := amount65) 11 rfl (pv 11)) ja_nil)))) rfl))))))))))))))) (jb_cx (Γ2 := [some (.fz ((rBag cp.ab) ())), some (.fz ((rL (rT3 K rS rI rI)) columns1)), some (.lv ((cD kS (rT2 K rS rI)) t9.1)), some (.lv ((cL rS) t9.2)), some (.fz (rS x10.1)), some (.fz (rI x10.2.1)), some (.fz (rI x10.2.2)), some (.fz (rI choice13)), some (.fz ((rL rS) takes25)), none, none, none, none]) (jb_nil (t := (t9.1, t9.2)) (Le.some (Le.some (Le.some (Le.some (Le.none (Le.none (Le.none (Le.none (Le.none (Le.none (Le.none (Le.none (Le.none Le.nil)))))))))))))))))))) (hsw := sw_true rfl rfl rfl (by decide +kernel))))))))) (fun t73 => (jb_cx (Γ2 := [some (.fz ((rBag cp.ab) ())), some (.fz ((rL (rT3 K rS rI rI)) columns1)), some (.lv ((cD kS (rT2 K rS rI)) t73.1)), some (.lv ((cL rS) t73.2)), none, none, none, none, none, none, none, none, none]) (cut_moved_0 cp T C_draw hr z hu hu1 columns1 t73))))
theorem cut_moved_2 {P : Program} {w : World} {K : PySem.W.Frag} {mg : Str → Option Value} {base : Heap} {f : Addr} {cdv : Value} {A : Around} {outer : List Env} {s : Shared} {H : Hp} {E : XK} {Fm : Fm} {S : Type} {R : S → MP Hp} (cp : BagC S R) (T : Txt K mg) (C_draw : FnC P w K mg base "_law_draw" 1 (sp_draw K mg)) (hr : Room 1 (A.deeper (envOfC "_law_moved" (defScope st_moved) s.heap.objs.size f cdv))) (z : ZOk (ZF P w K mg base ["_law_bag_here", "_law_columns_here", "_law_moved_here", "_law_free", "_law_name", "_law_wide", "_law_ring_here", "_law_choice", "_law_takes", "_law_other", "_law_far", "_law_amount", "_law_column"] "_law_moved" (defScope st_moved) f cdv A outer s H E Fm S R)) (hu : (A.deeper (envOfC "_law_moved" (defScope st_moved) s.heap.objs.size f cdv)).units + 65 < cLine) (hu1 : (A.deeper (envOfC "_law_moved" (defScope st_moved) s.heap.objs.size f cdv)).units + 1 < cLine) (columns1 : List (Str × Int × Int)) (moved2 : List (Str × (Str × Int))) : JB (ZF P w K mg base ["_law_bag_here", "_law_columns_here", "_law_moved_here", "_law_free", "_law_name", "_law_wide", "_law_ring_here", "_law_choice", "_law_takes", "_law_other", "_law_far", "_law_amount", "_law_column"] "_law_moved" (defScope st_moved) f cdv A outer s H E Fm S R) [some (.fz ((rBag cp.ab) ())), some (.fz ((rL (rT3 K rS rI rI)) columns1)), some (.lv ((cD kS (rT2 K rS rI)) moved2)), none, none, none, none, none, none, none, none, none, none] (List.drop 1 (defBody st_moved)) (bnd (bnd (bnd (ret columns1) fun v3 => ret v3) fun v6 => compM (fun x4 => ret true) (fun x4 => bnd (ret x4) fun v5 => ret v5.1) v6) fun free7 => thenB (bnd (bnd (ret columns1) fun v8 => ret v8) fun v74 => forL (fun (x10 : Str × Int × Int) (t9 : (List (Str × (Str × Int))) × (List Str)) => bnd (bnd (ret ()) fun v11 => bnd (ret (5 : Int)) fun v12 => draw_m cp.b v12) fun choice13 => bnd (bnd (bnd (ret columns1) fun v14 => ret v14) fun v24 => compM (fun x15 => bnd (bnd (bnd (ret x15) fun v16 => ret v16.1) fun v17 => bnd (ret t9.2) fun v18 => ret (decide (v17 ∈ v18))) fun v22 => if v22 then (bnd (bnd (ret x15) fun v19 => ret v19.2.2) fun v20 => bnd (ret x10.2.2) fun v21 => ret (decide (v20 = v21))) else ret false) (fun x15 => bnd (ret x15) fun v23 => ret v23.1) v24) fun takes25 => bnd (bnd (bnd (ret choice13) fun v26 => bnd (ret (1 : Int)) fun v27 => ret (decide (v27 < v26))) fun v30 => if v30 then (bnd (ret takes25) fun v28 => bnd (ret ([] : List Str)) fun v29 => neM (fun xs => List.all xs PyData.strOk) v28 v29) else ret false) fun v31 => if v31 then (bnd (bnd (ret takes25) fun v35 => bnd (bnd (ret ()) fun v33 => bnd (bnd (ret takes25) fun v32 => ret (List.length v32 : Int)) fun v34 => draw_m cp.b v34) fun v36 => opt (atI v35 v36)) fun other37 => thenB (bnd (bnd (bnd (ret choice13) fun v38 => bnd (ret (3 : Int)) fun v39 => ret (decide (v39 < v38))) fun v42 => if v42 then (bnd (ret x10.1) fun v40 => bnd (ret takes25) fun v41 => ret (decide (v40 ∈ v41))) else ret false) fun v43 => if v43 then (bnd (ret x10.1) fun other45 => ret (.nx other45)) else (ret (.nx other37))) fun (t44 : Str) => bnd (bnd (bnd (ret ()) fun v46 => bnd (ret (6 : Int)) fun v47 => draw_m cp.b v47) fun v48 => bnd (ret (5 : Int)) fun v49 => ret (decide (v48 = v49))) fun far50 => bnd (bnd (ret far50) fun v64 => if v64 then (bnd (bnd (ret ()) fun v51 => bnd (ret (2000001 : Int)) fun v52 => draw_m cp.b v52) fun v53 => bnd (ret (1000000 : Int)) fun v54 => ret (v53 - v54)) else (bnd (bnd (ret (0 : Int)) fun v56 => bnd (ret (0 : Int)) fun v57 => bnd (ret (1 : Int)) fun v58 => bnd (bnd (ret (1 : Int)) fun v55 => ret (-v55)) fun v59 => ret [v56, v57, v58, v59]) fun v62 => bnd (bnd (ret ()) fun v60 => bnd (ret (4 : Int)) fun v61 => draw_m cp.b v61) fun v63 => opt (atI v62 v63))) fun amount65 => bnd (bnd (ret t44) fun v66 => bnd (ret amount65) fun v67 => ret (v66, v67)) fun v68 => bnd (ret x10.1) fun v69 => bnd (dputM t9.1 v69 v68) fun moved70 => bnd (ret t44) fun v72 => bnd (remM t9.2 v72) fun free71 => ret (.nx (moved70, free71))) else (ret (.nx (t9.1, t9.2)))) v74 (moved2, free7)) fun (t73 : (List (Str × (Str × Int))) × (List Str)) => ret (.rt t73.1) : M S (Fl Unit Empty (List (Str × (Str × Int))))) (fun _ => []) (fun e => nomatch e) (.own (cD kS (rT2 K rS rI))) := (jb_setO (i := 3) z rfl (by first | exact .inl rfl | exact .inr rfl) (je_comp (own := [("_law_column", 12)]) z (ji_list (je_var (r := (rL (rT3 K rS rI rI))) (x := columns1) 1 rfl (pv 1))) (fun (x4 : Str × Int × Int) => ret true) (fun (x4 : Str × Int × Int) => bnd (ret x4) fun v5 => ret v5.1) (blkOk_by (N := ["_law_bag_here", "_law_columns_here", "_law_moved_here", "_law_free", "_law_name", "_law_wide", "_law_ring_here", "_law_choice", "_law_takes", "_law_other", "_law_far", "_law_amount", "_law_column"]) (sc := defScope st_moved) (by decide +kernel)) (fun _ _ _ _ _ _ _ => by exact (jg_name (i := 12) ((ZOk.blk z)).nd rfl (by first | exact .inl rfl | exact .inr rfl))) (fun _ _ _ _ _ _ _ x4 => jts_nil) (fun _ _ _ _ _ _ _ x4 => (je_t3_0 (je_var (r := (rT3 K rS rI rI)) (x := x4) 12 rfl (pv 12))))) (fun free7 => (jb_cx (Γ2 := [some (.fz ((rBag cp.ab) ())), some (.fz ((rL (rT3 K rS rI rI)) columns1)), some (.lv ((cD kS (rT2 K rS rI)) moved2)), some (.lv ((cL rS) free7)), none, none, none, none, none, none, none, none, none]) (cut_moved_1 cp T C_draw hr z hu hu1 columns1 moved2 free7))))
theorem ok_moved {P : Program} {w : World} {K : PySem.W.Frag} {mg : Str → Option Value} {base : Heap} {f : Addr} {fd : FuncData} (F : FnP K "_law_moved" "_law_moved" st_moved [] [] f fd) (T : Txt K mg) (C_draw : FnC P w K mg base "_law_draw" 1 (sp_draw K mg)) : FnOk P w K mg base (L2.CX P w) 2 f fd ["_law_bag_here", "_law_columns_here"] (sp_moved K mg) := by
  refine fn_mk (k := 1) (mb := fun S R c y => moved_mb c.b y.2.1) (Γ0 := fun S R c y => [some (.fz ((rBag c.ab) y.1)), some (.fz ((rL (rT3 K rS rI rI)) y.2.1)), none, none, none, none, none, none, none, none, none, none, none]) (Γ' := fun _ => []) (Γb := fun e => nomatch e) F sc_moved (fun S R c y vs G h => (len_raC (len_raC len_raN)) h) (fun _ _ _ _ => rfl) (fun S R c y vs G h => (so_raC (so_raC (so_raN (n := 11)))) h) (fun _ _ _ _ => by exact Nat.le_of_ble_eq_true rfl) (by exact Nat.le_of_ble_eq_true rfl) ?_
  intro cdv A outer s H E Fm S R cp y hr z
  have hu := DL.Room.hu hr
  have hu1 := DL.Room.hu1 hr
  obtain ⟨_, columns1, _⟩ := y
  exact JB.eq (m := (bnd (ret ([] : List (Str × (Str × Int)))) fun moved2 => bnd (bnd (bnd (ret columns1) fun v3 => ret v3) fun v6 => compM (fun x4 => ret true) (fun x4 => bnd (ret x4) fun v5 => ret v5.1) v6) fun free7 => thenB (bnd (bnd (ret columns1) fun v8 => ret v8) fun v74 => forL (fun (x10 : Str × Int × Int) (t9 : (List (Str × (Str × Int))) × (List Str)) => bnd (bnd (ret ()) fun v11 => bnd (ret (5 : Int)) fun v12 => draw_m cp.b v12) fun choice13 => bnd (bnd (bnd (ret columns1) fun v14 => ret v14) fun v24 => compM (fun x15 => bnd (bnd (bnd (ret x15) fun v16 => ret v16.1) fun v17 => bnd (ret t9.2) fun v18 => ret (decide (v17 ∈ v18))) fun v22 => if v22 then (bnd (bnd (ret x15) fun v19 => ret v19.2.2) fun v20 => bnd (ret x10.2.2) fun v21 => ret (decide (v20 = v21))) else ret false) (fun x15 => bnd (ret x15) fun v23 => ret v23.1) v24) fun takes25 => bnd (bnd (bnd (ret choice13) fun v26 => bnd (ret (1 : Int)) fun v27 => ret (decide (v27 < v26))) fun v30 => if v30 then (bnd (ret takes25) fun v28 => bnd (ret ([] : List Str)) fun v29 => neM (fun xs => List.all xs PyData.strOk) v28 v29) else ret false) fun v31 => if v31 then (bnd (bnd (ret takes25) fun v35 => bnd (bnd (ret ()) fun v33 => bnd (bnd (ret takes25) fun v32 => ret (List.length v32 : Int)) fun v34 => draw_m cp.b v34) fun v36 => opt (atI v35 v36)) fun other37 => thenB (bnd (bnd (bnd (ret choice13) fun v38 => bnd (ret (3 : Int)) fun v39 => ret (decide (v39 < v38))) fun v42 => if v42 then (bnd (ret x10.1) fun v40 => bnd (ret takes25) fun v41 => ret (decide (v40 ∈ v41))) else ret false) fun v43 => if v43 then (bnd (ret x10.1) fun other45 => ret (.nx other45)) else (ret (.nx other37))) fun (t44 : Str) => bnd (bnd (bnd (ret ()) fun v46 => bnd (ret (6 : Int)) fun v47 => draw_m cp.b v47) fun v48 => bnd (ret (5 : Int)) fun v49 => ret (decide (v48 = v49))) fun far50 => bnd (bnd (ret far50) fun v64 => if v64 then (bnd (bnd (ret ()) fun v51 => bnd (ret (2000001 : Int)) fun v52 => draw_m cp.b v52) fun v53 => bnd (ret (1000000 : Int)) fun v54 => ret (v53 - v54)) else (bnd (bnd (ret (0 : Int)) fun v56 => bnd (ret (0 : Int)) fun v57 => bnd (ret (1 : Int)) fun v58 => bnd (bnd (ret (1 : Int)) fun v55 => ret (-v55)) fun v59 => ret [v56, v57, v58, v59]) fun v62 => bnd (bnd (ret ()) fun v60 => bnd (ret (4 : Int)) fun v61 => draw_m cp.b v61) fun v63 => opt (atI v62 v63))) fun amount65 => bnd (bnd (ret t44) fun v66 => bnd (ret amount65) fun v67 => ret (v66, v67)) fun v68 => bnd (ret x10.1) fun v69 => bnd (dputM t9.1 v69 v68) fun moved70 => bnd (ret t44) fun v72 => bnd (remM t9.2 v72) fun free71 => ret (.nx (moved70, free71))) else (ret (.nx (t9.1, t9.2)))) v74 (moved2, free7)) fun (t73 : (List (Str × (Str × Int))) × (List Str)) => ret (.rt t73.1) : M S (Fl Unit Empty (List (Str × (Str × Int)))))) (jb_cx (Γ2 := [some (.fz ((rBag cp.ab) ())), some (.fz ((rL (rT3 K rS rI rI)) columns1)), none, none, none, none, none, none, none, none, none, none, none]) (jb_setO (i := 2) z rfl (by first | exact .inl rfl | exact .inr rfl) (je_dict0 (k := kS) (r := (rT2 K rS rI))) (fun moved2 => (jb_cx (Γ2 := [some (.fz ((rBag cp.ab) ())), some (.fz ((rL (rT3 K rS rI rI)) columns1)), some (.lv ((cD kS (rT2 K rS rI)) moved2)), none, none, none, none, none, none, none, none, none, none]) (cut_moved_2 cp T C_draw hr z hu hu1 columns1 moved2))))) (by simp only [ret_bnd, rdM_some, moved_mb])
abbrev st_plan : Stmt := (top 28)
theorem sc_plan : FnScope ["_law_bag_here", "_law_most_columns", "_law_most_kinds", "_law_columns_here", "_law_states", "_law_shapes", "_law_k", "_law_choice", "_law_ends", "_law_place", "_law_names_here", "_law_kinds"] ["_law_bag_here", "_law_most_columns", "_law_most_kinds"] (defScope st_plan) := ⟨rfl, rfl, rfl, by decide +kernel, rfl, by decide +kernel, by decide +kernel⟩
def plan_mb {S : Type} (b : BagIn S) (most_columns1 : Int) (most_kinds2 : Int) : M S (Fl Unit Empty ((List (Str × Int × Int)) × (List (Str × Str × Str × Int × (List (Str × (Str × Int))))))) := bnd (columns_m b most_columns1) fun columns5 => bnd (bnd (bnd (bnd (bnd (fdivM most_kinds2 (9 : Int)) fun v11 => opt (atI [(3 : Int), (7 : Int)] v11)) fun v13 => draw_m b v13) fun v15 => ret ((1 : Int) + v15)) fun v21 => names_m b v21 [("write" : Str), ("drop" : Str), ("before" : Str), ("after" : Str)]) fun states23 => thenB (bnd (bnd (bnd (draw_m b most_kinds2) fun v29 => bnd (draw_m b (2 : Int)) fun v30 => ret (if v30 > v29 then v30 else v29)) fun v31 => rangeM 0 v31) fun v144 => forL (fun (x33 : Int) (t32 : (List (Str × Str × (List (Str × (Str × Int)))))) => bnd (draw_m b (8 : Int)) fun choice36 => bnd (bnd (bnd (draw_m b (List.length states23 : Int)) fun v41 => opt (atI states23 v41)) fun v47 => bnd (bnd (draw_m b (List.length states23 : Int)) fun v46 => opt (atI states23 v46)) fun v48 => ret [v47, v48]) fun ends49 => if (decide (choice36 < (3 : Int))) then (bnd (opt (atI [(0 : Int), (1 : Int), (1 : Int)] choice36)) fun v59 => bnd (setM ends49 v59 ("absent" : Str)) fun ends60 => bnd (bnd (opt (atI ends60 (0 : Int))) fun v66 => bnd (opt (atI ends60 (1 : Int))) fun v67 => ret (v66, v67, ([] : List (Str × (Str × Int))))) fun v69 => bnd (appM t32 v69) fun shapes61 => ret (.nx shapes61)) else (bnd (bnd (opt (atI ends49 (0 : Int))) fun v77 => bnd (opt (atI ends49 (1 : Int))) fun v78 => bnd (moved_m b columns5) fun v79 => ret (v77, v78, v79)) fun v80 => bnd (appM t32 v80) fun shapes70 => ret (.nx shapes70))) v144 ([] : List (Str × Str × (List (Str × (Str × Int)))))) fun (t81 : (List (Str × Str × (List (Str × (Str × Int)))))) => bnd (draw_m b ((List.length t81 : Int) + (1 : Int))) fun place87 => bnd (bnd (bnd (bnd (bnd (bnd (draw_m b (List.length states23 : Int)) fun v94 => opt (atI states23 v94)) fun v96 => ret (("absent" : Str), v96, ([] : List (Str × (Str × Int))))) fun v98 => ret [v98]) fun v100 => lcatM (cutA t81 none (some place87)) v100) fun v103 => lcatM v103 (cutA t81 (some place87) none)) fun shapes105 => bnd (names_m b (List.length shapes105 : Int) [("write" : Str), ("before" : Str), ("absent" : Str), ("drop" : Str)]) fun names114 => thenB (bnd (rangeM 0 (List.length shapes105 : Int)) fun v143 => forL (fun (x119 : Int) (t118 : (List (Str × Str × Str × Int × (List (Str × (Str × Int)))))) => bnd (bnd (opt (atI names114 x119)) fun v133 => bnd (bnd (opt (atI shapes105 x119)) fun v125 => ret v125.1) fun v134 => bnd (bnd (opt (atI shapes105 x119)) fun v128 => ret v128.2.1) fun v135 => bnd (size_m b) fun v136 => bnd (bnd (opt (atI shapes105 x119)) fun v132 => ret v132.2.2) fun v137 => ret (v133, v134, v135, v136, v137)) fun v138 => bnd (appM t118 v138) fun kinds120 => ret (.nx kinds120)) v143 ([] : List (Str × Str × Str × Int × (List (Str × (Str × Int)))))) fun (t139 : (List (Str × Str × Str × Int × (List (Str × (Str × Int)))))) => ret (.rt (columns5, t139))
def plan_m {S : Type} (b : BagIn S) (most_columns1 : Int) (most_kinds2 : Int) : M S ((List (Str × Int × Int)) × (List (Str × Str × Str × Int × (List (Str × (Str × Int)))))) := runF (plan_mb b most_columns1 most_kinds2)
abbrev ra_plan (K : PySem.W.Frag) (S : Type) (R : S → MP Hp) (c : BagC S R) : Unit × Int × Int × Unit → List V → Hp → Prop := (raC (rBag c.ab) (raC rI (raC rI raN)))
abbrev f_plan (S : Type) (R : S → MP Hp) (c : BagC S R) (y : Unit × Int × Int × Unit) : M S ((List (Str × Int × Int)) × (List (Str × Str × Str × Int × (List (Str × (Str × Int)))))) := plan_m c.b y.2.1 y.2.2.1
abbrev sp_plan (K : PySem.W.Frag) (mg : Str → Option Value) : Sp := spC mg (ra_plan K) (.fz (rT2 K (rL (rT3 K rS rI rI)) (rL (rT5 K rS rS rS rI (rD kS (rT2 K rS rI)))))) f_plan
theorem cut_plan_0 {P : Program} {w : World} {K : PySem.W.Frag} {mg : Str → Option Value} {base : Heap} {f : Addr} {cdv : Value} {A : Around} {outer : List Env} {s : Shared} {H : Hp} {E : XK} {Fm : Fm} {S : Type} {R : S → MP Hp} (cp : BagC S R) (T : Txt K mg) (C_columns : FnC P w K mg base "_law_columns" 3 (sp_columns K mg)) (C_names : FnC P w K mg base "_law_names" 2 (sp_names K mg)) (C_draw : FnC P w K mg base "_law_draw" 1 (sp_draw K mg)) (C_moved : FnC P w K mg base "_law_moved" 2 (sp_moved K mg)) (C_size : FnC P w K mg base "_law_size" 2 (sp_size K mg)) (hr : Room 3 (A.deeper (envOfC "_law_plan" (defScope st_plan) s.heap.objs.size f cdv))) (z : ZOk (ZF P w K mg base ["_law_bag_here", "_law_most_columns", "_law_most_kinds", "_law_columns_here", "_law_states", "_law_shapes", "_law_k", "_law_choice", "_law_ends", "_law_place", "_law_names_here", "_law_kinds"] "_law_plan" (defScope st_plan) f cdv A outer s H E Fm S R)) (hu : (A.deeper (envOfC "_law_plan" (defScope st_plan) s.heap.objs.size f cdv)).units + 65 < cLine) (hu1 : (A.deeper (envOfC "_law_plan" (defScope st_plan) s.heap.objs.size f cdv)).units + 1 < cLine) (most_columns1 : Int) (most_kinds2 : Int) (columns5 : List (Str × Int × Int)) (states23 : List Str) (shapes105 : List (Str × Str × (List (Str × (Str × Int))))) (place87 : Int) (names114 : List Str) (t139 : (List (Str × Str × Str × Int × (List (Str × (Str × Int)))))) : JB (ZF P w K mg base ["_law_bag_here", "_law_most_columns", "_law_most_kinds", "_law_columns_here", "_law_states", "_law_shapes", "_law_k", "_law_choice", "_law_ends", "_law_place", "_law_names_here", "_law_kinds"] "_law_plan" (defScope st_plan) f cdv A outer s H E Fm S R) [some (.fz ((rBag cp.ab) ())), some (.fz (rI most_columns1)), some (.fz (rI most_kinds2)), some (.fz ((rL (rT3 K rS rI rI)) columns5)), some (.fz ((rL rS) states23)), some (.lv ((cL (rT3 K rS rS (rD kS (rT2 K rS rI)))) shapes105)), none, none, none, some (.fz (rI place87)), some (.fz ((rL rS) names114)), some (.fz ((rL (rT5 K rS rS rS rI (rD kS (rT2 K rS rI)))) t139))] (List.drop 9 (defBody st_plan)) (bnd (bnd (ret columns5) fun v140 => bnd (ret t139) fun v141 => ret (v140, v141)) fun v142 => ret (.rt v142) : M S (Fl Unit Empty ((List (Str × Int × Int)) × (List (Str × Str × Str × Int × (List (Str × (Str × Int)))))))) (fun _ => []) (fun e => nomatch e) (.fz (rT2 K (rL (rT3 K rS rI rI)) (rL (rT5 K rS rS rS rI (rD kS (rT2 K rS rI)))))) := (jb_one (js_ret (je_tup2 (ja_cons (je_var (r := (rL (rT3 K rS rI rI))) (x := columns5) 3 rfl (pv 3)) (ja_cons (je_var (r := (rL (rT5 K rS rS rS rI (rD kS (rT2 K rS rI))))) (x := t139) 11 rfl (pv 11)) ja_nil)))))
theorem cut_plan_1 {P : Program} {w : World} {K : PySem.W.Frag} {mg : Str → Option Value} {base : Heap} {f : Addr} {cdv : Value} {A : Around} {outer : List Env} {s : Shared} {H : Hp} {E : XK} {Fm : Fm} {S : Type} {R : S → MP Hp} (cp : BagC S R) (T : Txt K mg) (C_columns : FnC P w K mg base "_law_columns" 3 (sp_columns K mg)) (C_names : FnC P w K mg base "_law_names" 2 (sp_names K mg)) (C_draw : FnC P w K mg base "_law_draw" 1 (sp_draw K mg)) (C_moved : FnC P w K mg base "_law_moved" 2 (sp_moved K mg)) (C_size : FnC P w K mg base "_law_size" 2 (sp_size K mg)) (hr : Room 3 (A.deeper (envOfC "_law_plan" (defScope st_plan) s.heap.objs.size f cdv))) (z : ZOk (ZF P w K mg base ["_law_bag_here", "_law_most_columns", "_law_most_kinds", "_law_columns_here", "_law_states", "_law_shapes", "_law_k", "_law_choice", "_law_ends", "_law_place", "_law_names_here", "_law_kinds"] "_law_plan" (defScope st_plan) f cdv A outer s H E Fm S R)) (hu : (A.deeper (envOfC "_law_plan" (defScope st_plan) s.heap.objs.size f cdv)).units + 65 < cLine) (hu1 : (A.deeper (envOfC "_law_plan" (defScope st_plan) s.heap.objs.size f cdv)).units + 1 < cLine) (most_columns1 : Int) (most_kinds2 : Int) (columns5 : List (Str × Int × Int)) (states23 : List Str) (shapes105 : List (Str × Str × (List (Str × (Str × Int))))) (place87 : Int) (names114 : List Str) (t139 : (List (Str × Str × Str × Int × (List (Str × (Str × Int)))))) : JB (ZF P w K mg base ["_law_bag_here", "_law_most_columns", "_law_most_kinds", "_law_columns_here", "_law_states", "_law_shapes", "_law_k", "_law_choice", "_law_ends", "_law_place", "_law_names_here", "_law_kinds"] "_law_plan" (defScope st_plan) f cdv A outer s H E Fm S R) [some (.fz ((rBag cp.ab) ())), some (.fz (rI most_columns1)), some (.fz (rI most_kinds2)), some (.fz ((rL (rT3 K rS rI rI)) columns5)), some (.fz ((rL rS) states23)), some (.lv ((cL (rT3 K rS rS (rD kS (rT2 K rS rI)))) shapes105)), none, none, none, some (.fz (rI place87)), some (.fz ((rL rS) names114)), some (.lv ((cL (rT5 K rS rS rS rI (rD kS (rT2 K rS rI)))) t139))] (List.drop 9 (defBody st_plan)) (bnd (bnd (ret columns5) fun v140 => bnd (ret t139) fun v141 => ret (v140, v141)) fun v142 => ret (.rt v142) : M S (Fl Unit Empty ((List (Str × Int × Int)) × (List (Str × Str × Str × Int × (List (Str × (Str × Int)))))))) (fun _ => []) (fun e => nomatch e) (.fz (rT2 K (rL (rT3 K rS rI rI)) (rL (rT5 K rS rS rS rI (rD kS (rT2 K rS rI)))))) := (jb_frzL (k := 11) rfl (jb_cx (Γ2 := [some (.fz ((rBag cp.ab) ())), some (.fz (rI most_columns1)), some (.fz (rI most_kinds2)), some (.fz ((rL (rT3 K rS rI rI)) columns5)), some (.fz ((rL rS) states23)), some (.lv ((cL (rT3 K rS rS (rD kS (rT2 K rS rI)))) shapes105)), none, none, none, some (.fz (rI place87)), some (.fz ((rL rS) names114)), some (.fz ((rL (rT5 K rS rS rS rI (rD kS (rT2 K rS rI)))) t139))]) (cut_plan_0 cp T C_columns C_names C_draw C_moved C_size hr z hu hu1 most_columns1 most_kinds2 columns5 states23 shapes105 place87 names114 t139)))
theorem cut_plan_2 {P : Program} {w : World} {K : PySem.W.Frag} {mg : Str → Option Value} {base : Heap} {f : Addr} {cdv : Value} {A : Around} {outer : List Env} {s : Shared} {H : Hp} {E : XK} {Fm : Fm} {S : Type} {R : S → MP Hp} (cp : BagC S R) (T : Txt K mg) (C_columns : FnC P w K mg base "_law_columns" 3 (sp_columns K mg)) (C_names : FnC P w K mg base "_law_names" 2 (sp_names K mg)) (C_draw : FnC P w K mg base "_law_draw" 1 (sp_draw K mg)) (C_moved : FnC P w K mg base "_law_moved" 2 (sp_moved K mg)) (C_size : FnC P w K mg base "_law_size" 2 (sp_size K mg)) (hr : Room 3 (A.deeper (envOfC "_law_plan" (defScope st_plan) s.heap.objs.size f cdv))) (z : ZOk (ZF P w K mg base ["_law_bag_here", "_law_most_columns", "_law_most_kinds", "_law_columns_here", "_law_states", "_law_shapes", "_law_k", "_law_choice", "_law_ends", "_law_place", "_law_names_here", "_law_kinds"] "_law_plan" (defScope st_plan) f cdv A outer s H E Fm S R)) (hu : (A.deeper (envOfC "_law_plan" (defScope st_plan) s.heap.objs.size f cdv)).units + 65 < cLine) (hu1 : (A.deeper (envOfC "_law_plan" (defScope st_plan) s.heap.objs.size f cdv)).units + 1 < cLine) (most_columns1 : Int) (most_kinds2 : Int) (columns5 : List (Str × Int × Int)) (states23 : List Str) (shapes105 : List (Str × Str × (List (Str × (Str × Int))))) (place87 : Int) (names114 : List Str) (kinds115 : List (Str × Str × Str × Int × (List (Str × (Str × Int))))) : JB (ZF P w K mg base ["_law_bag_here", "_law_most_columns", "_law_most_kinds", "_law_columns_here", "_law_states", "_law_shapes", "_law_k", "_law_choice", "_law_ends", "_law_place", "_law_names_here", "_law_kinds"] "_law_plan" (defScope st_plan) f cdv A outer s H E Fm S R) [some (.fz ((rBag cp.ab) ())), some (.fz (rI most_columns1)), some (.fz (rI most_kinds2)), some (.fz ((rL (rT3 K rS rI rI)) columns5)), some (.fz ((rL rS) states23)), some (.lv ((cL (rT3 K rS rS (rD kS (rT2 K rS rI)))) shapes105)), none, none, none, some (.fz (rI place87)), some (.fz ((rL rS) names114)), some (.lv ((cL (rT5 K rS rS rS rI (rD kS (rT2 K rS rI)))) kinds115))] (List.drop 8 (defBody st_plan)) (thenB (bnd (bnd (bnd (ret shapes105) fun v116 => ret (List.length v116 : Int)) fun v117 => rangeM 0 v117) fun v143 => forL (fun (x119 : Int) (t118 : (List (Str × Str × Str × Int × (List (Str × (Str × Int)))))) => bnd (bnd (bnd (ret names114) fun v121 => bnd (ret x119) fun v122 => opt (atI v121 v122)) fun v133 => bnd (bnd (bnd (ret shapes105) fun v123 => bnd (ret x119) fun v124 => opt (atI v123 v124)) fun v125 => ret v125.1) fun v134 => bnd (bnd (bnd (ret shapes105) fun v126 => bnd (ret x119) fun v127 => opt (atI v126 v127)) fun v128 => ret v128.2.1) fun v135 => bnd (bnd (ret ()) fun v129 => size_m cp.b) fun v136 => bnd (bnd (bnd (ret shapes105) fun v130 => bnd (ret x119) fun v131 => opt (atI v130 v131)) fun v132 => ret v132.2.2) fun v137 => ret (v133, v134, v135, v136, v137)) fun v138 => bnd (appM t118 v138) fun kinds120 => ret (.nx kinds120)) v143 kinds115) fun (t139 : (List (Str × Str × Str × Int × (List (Str × (Str × Int)))))) => bnd (bnd (ret columns5) fun v140 => bnd (ret t139) fun v141 => ret (v140, v141)) fun v142 => ret (.rt v142) : M S (Fl Unit Empty ((List (Str × Int × Int)) × (List (Str × Str × Str × Int × (List (Str × (Str × Int)))))))) (fun _ => []) (fun e => nomatch e) (.fz (rT2 K (rL (rT3 K rS rI rI)) (rL (rT5 K rS rS rS rI (rD kS (rT2 K rS rI)))))) := (jb_seq (Γ1 := fun t118 : (List (Str × Str × Str × Int × (List (Str × (Str × Int))))) => [some (.fz ((rBag cp.ab) ())), some (.fz (rI most_columns1)), some (.fz (rI most_kinds2)), some (.fz ((rL (rT3 K rS rI rI)) columns5)), some (.fz ((rL rS) states23)), some (.lv ((cL (rT3 K rS rS (rD kS (rT2 K rS rI)))) shapes105)), none, none, none, some (.fz (rI place87)), some (.fz ((rL rS) names114)), some (.lv ((cL (rT5 K rS rS rS rI (rD kS (rT2 K rS rI)))) t118))]) (js_for (n := 12) (t0 := kinds115) z (ji_range1 (by rfl) T.f_range (je_lenV (by rfl) T.f_len (je_live (c := (cL (rT3 K rS rS (rD kS (rT2 K rS rI))))) (x := shapes105) 5 rfl (pv 5)))) (jg_name (i := 6) (z).nd rfl (by first | exact .inl rfl | exact .inr rfl)) (Le.some (Le.some (Le.some (Le.some (Le.some (Le.some (Le.none (Le.none (Le.none (Le.some (Le.some (Le.some Le.nil)))))))))))) (fun x119 t118 => (jb_cx (Γ2 := [some (.fz ((rBag cp.ab) ())), some (.fz (rI most_columns1)), some (.fz (rI most_kinds2)), some (.fz ((rL (rT3 K rS rI rI)) columns5)), some (.fz ((rL rS) states23)), some (.lv ((cL (rT3 K rS rS (rD kS (rT2 K rS rI)))) shapes105)), some (.fz (rI x119)), none, none, some (.fz (rI place87)), some (.fz ((rL rS) names114)), some (.lv ((cL (rT5 K rS rS rS rI (rD kS (rT2 K rS rI)))) t118))]) (jb_append (k := 11) rfl (pv 11) (je_tup5 (ja_cons (je_ixL (je_var (r := (rL rS)) (x := names114) 10 rfl (pv 10)) (je_var (r := rI) (x := x119) 6 rfl (pv 6))) (ja_cons (je_t3_0 (je_ixV (je_live (c := (cL (rT3 K rS rS (rD kS (rT2 K rS rI))))) (x := shapes105) 5 rfl (pv 5)) (je_var (r := rI) (x := x119) 6 rfl (pv 6)))) (ja_cons (je_t3_1 (je_ixV (je_live (c := (cL (rT3 K rS rS (rD kS (rT2 K rS rI))))) (x := shapes105) 5 rfl (pv 5)) (je_var (r := rI) (x := x119) 6 rfl (pv 6)))) (ja_cons (je_call z C_size hr cp (ja_cons (je_var (r := rBag cp.ab) (x := ()) 0 rfl (pv 0)) ja_nil)) (ja_cons (je_t3_2 (je_ixV (je_live (c := (cL (rT3 K rS rS (rD kS (rT2 K rS rI))))) (x := shapes105) 5 rfl (pv 5)) (je_var (r := rI) (x := x119) 6 rfl (pv 6)))) ja_nil)))))) (fun kinds120 => (jb_cx (Γ2 := [some (.fz ((rBag cp.ab) ())), some (.fz (rI most_columns1)), some (.fz (rI most_kinds2)), some (.fz ((rL (rT3 K rS rI rI)) columns5)), some (.fz ((rL rS) states23)), some (.lv ((cL (rT3 K rS rS (rD kS (rT2 K rS rI)))) shapes105)), some (.fz (rI x119)), none, none, some (.fz (rI place87)), some (.fz ((rL rS) names114)), some (.lv ((cL (rT5 K rS rS rS rI (rD kS (rT2 K rS rI)))) kinds120))]) (jb_nil (t := kinds120) (Le.some (Le.some (Le.some (Le.some (Le.some (Le.some (Le.none (Le.none (Le.none (Le.some (Le.some (Le.some Le.nil))))))))))))))) (ps_expr (pe_bm PySem.F.plainAttrs_list PySem.F.slot_list_append PySem.F.type_list_append mt_append (pv 11) (pa_cons (JE.pe (je_tup5 (ja_cons (je_ixL (je_var (r := (rL rS)) (x := names114) 10 rfl (pv 10)) (je_var (r := rI) (x := x119) 6 rfl (pv 6))) (ja_cons (je_t3_0 (je_ixV (je_live (c := (cL (rT3 K rS rS (rD kS (rT2 K rS rI))))) (x := shapes105) 5 rfl (pv 5)) (je_var (r := rI) (x := x119) 6 rfl (pv 6)))) (ja_cons (je_t3_1 (je_ixV (je_live (c := (cL (rT3 K rS rS (rD kS (rT2 K rS rI))))) (x := shapes105) 5 rfl (pv 5)) (je_var (r := rI) (x := x119) 6 rfl (pv 6)))) (ja_cons (je_call z C_size hr cp (ja_cons (je_var (r := rBag cp.ab) (x := ()) 0 rfl (pv 0)) ja_nil)) (ja_cons (je_t3_2 (je_ixV (je_live (c := (cL (rT3 K rS rS (rD kS (rT2 K rS rI))))) (x := shapes105) 5 rfl (pv 5)) (je_var (r := rI) (x := x119) 6 rfl (pv 6)))) ja_nil))))))) pa_nil))))))) (fun t139 => (jb_cx (Γ2 := [some (.fz ((rBag cp.ab) ())), some (.fz (rI most_columns1)), some (.fz (rI most_kinds2)), some (.fz ((rL (rT3 K rS rI rI)) columns5)), some (.fz ((rL rS) states23)), some (.lv ((cL (rT3 K rS rS (rD kS (rT2 K rS rI)))) shapes105)), none, none, none, some (.fz (rI place87)), some (.fz ((rL rS) names114)), some (.lv ((cL (rT5 K rS rS rS rI (rD kS (rT2 K rS rI)))) t139))]) (cut_plan_1 cp T C_columns C_names C_draw C_moved C_size hr z hu hu1 most_columns1 most_kinds2 columns5 states23 shapes105 place87 names114 t139))))
theorem cut_plan_3 {P : Program} {w : World} {K : PySem.W.Frag} {mg : Str → Option Value} {base : Heap} {f : Addr} {cdv : Value} {A : Around} {outer : List Env} {s : Shared} {H : Hp} {E : XK} {Fm : Fm} {S : Type} {R : S → MP Hp} (cp : BagC S R) (T : Txt K mg) (C_columns : FnC P w K mg base "_law_columns" 3 (sp_columns K mg)) (C_names : FnC P w K mg base "_law_names" 2 (sp_names K mg)) (C_draw : FnC P w K mg base "_law_draw" 1 (sp_draw K mg)) (C_moved : FnC P w K mg base "_law_moved" 2 (sp_moved K mg)) (C_size : FnC P w K mg base "_law_size" 2 (sp_size K mg)) (hr : Room 3 (A.deeper (envOfC "_law_plan" (defScope st_plan) s.heap.objs.size f cdv))) (z : ZOk (ZF P w K mg base ["_law_bag_here", "_law_most_columns", "_law_most_kinds", "_law_columns_here", "_law_states", "_law_shapes", "_law_k", "_law_choice", "_law_ends", "_law_place", "_law_names_here", "_law_kinds"] "_law_plan" (defScope st_plan) f cdv A outer s H E Fm S R)) (hu : (A.deeper (envOfC "_law_plan" (defScope st_plan) s.heap.objs.size f cdv)).units + 65 < cLine) (hu1 : (A.deeper (envOfC "_law_plan" (defScope st_plan) s.heap.objs.size f cdv)).units + 1 < cLine) (most_columns1 : Int) (most_kinds2 : Int) (columns5 : List (Str × Int × Int)) (states23 : List Str) (shapes105 : List (Str × Str × (List (Str × (Str × Int))))) (place87 : Int) (names114 : List Str) : JB (ZF P w K mg base ["_law_bag_here", "_law_most_columns", "_law_most_kinds", "_law_columns_here", "_law_states", "_law_shapes", "_law_k", "_law_choice", "_law_ends", "_law_place", "_law_names_here", "_law_kinds"] "_law_plan" (defScope st_plan) f cdv A outer s H E Fm S R) [some (.fz ((rBag cp.ab) ())), some (.fz (rI most_columns1)), some (.fz (rI most_kinds2)), some (.fz ((rL (rT3 K rS rI rI)) columns5)), some (.fz ((rL rS) states23)), some (.lv ((cL (rT3 K rS rS (rD kS (rT2 K rS rI)))) shapes105)), none, none, none, some (.fz (rI place87)), some (.fz ((rL rS) names114)), none] (List.drop 7 (defBody st_plan)) (bnd (ret ([] : List (Str × Str × Str × Int × (List (Str × (Str × Int)))))) fun kinds115 => thenB (bnd (bnd (bnd (ret shapes105) fun v116 => ret (List.length v116 : Int)) fun v117 => rangeM 0 v117) fun v143 => forL (fun (x119 : Int) (t118 : (List (Str × Str × Str × Int × (List (Str × (Str × Int)))))) => bnd (bnd (bnd (ret names114) fun v121 => bnd (ret x119) fun v122 => opt (atI v121 v122)) fun v133 => bnd (bnd (bnd (ret shapes105) fun v123 => bnd (ret x119) fun v124 => opt (atI v123 v124)) fun v125 => ret v125.1) fun v134 => bnd (bnd (bnd (ret shapes105) fun v126 => bnd (ret x119) fun v127 => opt (atI v126 v127)) fun v128 => ret v128.2.1) fun v135 => bnd (bnd (ret ()) fun v129 => size_m cp.b) fun v136 => bnd (bnd (bnd (ret shapes105) fun v130 => bnd (ret x119) fun v131 => opt (atI v130 v131)) fun v132 => ret v132.2.2) fun v137 => ret (v133, v134, v135, v136, v137)) fun v138 => bnd (appM t118 v138) fun kinds120 => ret (.nx kinds120)) v143 kinds115) fun (t139 : (List (Str × Str × Str × Int × (List (Str × (Str × Int)))))) => bnd (bnd (ret columns5) fun v140 => bnd (ret t139) fun v141 => ret (v140, v141)) fun v142 => ret (.rt v142) : M S (Fl Unit Empty ((List (Str × Int × Int)) × (List (Str × Str × Str × Int × (List (Str × (Str × Int)))))))) (fun _ => []) (fun e => nomatch e) (.fz (rT2 K (rL (rT3 K rS rI rI)) (rL (rT5 K rS rS rS rI (rD kS (rT2 K rS rI)))))) := (jb_setO (i := 11) z rfl (by first | exact .inl rfl | exact .inr rfl) (je_list (jl_nil (r := (rT5 K rS rS rS rI (rD kS (rT2 K rS rI)))))) (fun kinds115 => (jb_cx (Γ2 := [some (.fz ((rBag cp.ab) ())), some (.fz (rI most_columns1)), some (.fz (rI most_kinds2)), some (.fz ((rL (rT3 K rS rI rI)) columns5)), some (.fz ((rL rS) states23)), some (.lv ((cL (rT3 K rS rS (rD kS (rT2 K rS rI)))) shapes105)), none, none, none, some (.fz (rI place87)), some (.fz ((rL rS) names114)), some (.lv ((cL (rT5 K rS rS rS rI (rD kS (rT2 K rS rI)))) kinds115))]) (cut_plan_2 cp T C_columns C_names C_draw C_moved C_size hr z hu hu1 most_columns1 most_kinds2 columns5 states23 shapes105 place87 names114 kinds115))))
theorem cut_plan_4 {P : Program} {w : World} {K : PySem.W.Frag} {mg : Str → Option Value} {base : Heap} {f : Addr} {cdv : Value} {A : Around} {outer : List Env} {s : Shared} {H : Hp} {E : XK} {Fm : Fm} {S : Type} {R : S → MP Hp} (cp : BagC S R) (T : Txt K mg) (C_columns : FnC P w K mg base "_law_columns" 3 (sp_columns K mg)) (C_names : FnC P w K mg base "_law_names" 2 (sp_names K mg)) (C_draw : FnC P w K mg base "_law_draw" 1 (sp_draw K mg)) (C_moved : FnC P w K mg base "_law_moved" 2 (sp_moved K mg)) (C_size : FnC P w K mg base "_law_size" 2 (sp_size K mg)) (hr : Room 3 (A.deeper (envOfC "_law_plan" (defScope st_plan) s.heap.objs.size f cdv))) (z : ZOk (ZF P w K mg base ["_law_bag_here", "_law_most_columns", "_law_most_kinds", "_law_columns_here", "_law_states", "_law_shapes", "_law_k", "_law_choice", "_law_ends", "_law_place", "_law_names_here", "_law_kinds"] "_law_plan" (defScope st_plan) f cdv A outer s H E Fm S R)) (hu : (A.deeper (envOfC "_law_plan" (defScope st_plan) s.heap.objs.size f cdv)).units + 65 < cLine) (hu1 : (A.deeper (envOfC "_law_plan" (defScope st_plan) s.heap.objs.size f cdv)).units + 1 < cLine) (most_columns1 : Int) (most_kinds2 : Int) (columns5 : List (Str × Int × Int)) (states23 : List Str) (shapes105 : List (Str × Str × (List (Str × (Str × Int))))) (place87 : Int) : JB (ZF P w K mg base ["_law_bag_here", "_law_most_columns", "_law_most_kinds", "_law_columns_here", "_law_states", "_law_shapes", "_law_k", "_law_choice", "_law_ends", "_law_place", "_law_names_here", "_law_kinds"] "_law_plan" (defScope st_plan) f cdv A outer s H E Fm S R) [some (.fz ((rBag cp.ab) ())), some (.fz (rI most_columns1)), some (.fz (rI most_kinds2)), some (.fz ((rL (rT3 K rS rI rI)) columns5)), some (.fz ((rL rS) states23)), some (.lv ((cL (rT3 K rS rS (rD kS (rT2 K rS rI)))) shapes105)), none, none, none, some (.fz (rI place87)), none, none] (List.drop 6 (defBody st_plan)) (bnd (bnd (ret ()) fun v111 => bnd (bnd (ret shapes105) fun v106 => ret (List.length v106 : Int)) fun v112 => bnd (bnd (ret ("write" : Str)) fun v107 => bnd (ret ("before" : Str)) fun v108 => bnd (ret ("absent" : Str)) fun v109 => bnd (ret ("drop" : Str)) fun v110 => ret [v107, v108, v109, v110]) fun v113 => names_m cp.b v112 v113) fun names114 => bnd (ret ([] : List (Str × Str × Str × Int × (List (Str × (Str × Int)))))) fun kinds115 => thenB (bnd (bnd (bnd (ret shapes105) fun v116 => ret (List.length v116 : Int)) fun v117 => rangeM 0 v117) fun v143 => forL (fun (x119 : Int) (t118 : (List (Str × Str × Str × Int × (List (Str × (Str × Int)))))) => bnd (bnd (bnd (ret names114) fun v121 => bnd (ret x119) fun v122 => opt (atI v121 v122)) fun v133 => bnd (bnd (bnd (ret shapes105) fun v123 => bnd (ret x119) fun v124 => opt (atI v123 v124)) fun v125 => ret v125.1) fun v134 => bnd (bnd (bnd (ret shapes105) fun v126 => bnd (ret x119) fun v127 => opt (atI v126 v127)) fun v128 => ret v128.2.1) fun v135 => bnd (bnd (ret ()) fun v129 => size_m cp.b) fun v136 => bnd (bnd (bnd (ret shapes105) fun v130 => bnd (ret x119) fun v131 => opt (atI v130 v131)) fun v132 => ret v132.2.2) fun v137 => ret (v133, v134, v135, v136, v137)) fun v138 => bnd (appM t118 v138) fun kinds120 => ret (.nx kinds120)) v143 kinds115) fun (t139 : (List (Str × Str × Str × Int × (List (Str × (Str × Int)))))) => bnd (bnd (ret columns5) fun v140 => bnd (ret t139) fun v141 => ret (v140, v141)) fun v142 => ret (.rt v142) : M S (Fl Unit Empty ((List (Str × Int × Int)) × (List (Str × Str × Str × Int × (List (Str × (Str × Int)))))))) (fun _ => []) (fun e => nomatch e) (.fz (rT2 K (rL (rT3 K rS rI rI)) (rL (rT5 K rS rS rS rI (rD kS (rT2 K rS rI)))))) := (jb_set (i := 10) z rfl (by first | exact .inl rfl | exact .inr rfl) (je_frzL (je_call z C_names hr cp (ja_cons (je_var (r := rBag cp.ab) (x := ()) 0 rfl (pv 0)) (ja_cons (je_lenV (by rfl) T.f_len (je_live (c := (cL (rT3 K rS rS (rD kS (rT2 K rS rI))))) (x := shapes105) 5 rfl (pv 5))) (ja_cons (je_frzL (je_list (jl_cons je_str (jl_cons je_str (jl_cons je_str (jl_cons je_str (jl_nil (r := rS)))))))) ja_nil))))) (fun names114 => (jb_cx (Γ2 := [some (.fz ((rBag cp.ab) ())), some (.fz (rI most_columns1)), some (.fz (rI most_kinds2)), some (.fz ((rL (rT3 K rS rI rI)) columns5)), some (.fz ((rL rS) states23)), some (.lv ((cL (rT3 K rS rS (rD kS (rT2 K rS rI)))) shapes105)), none, none, none, some (.fz (rI place87)), some (.fz ((rL rS) names114)), none]) (cut_plan_3 cp T C_columns C_names C_draw C_moved C_size hr z hu hu1 most_columns1 most_kinds2 columns5 states23 shapes105 place87 names114))))
theorem cut_plan_5 {P : Program} {w : World} {K : PySem.W.Frag} {mg : Str → Option Value} {base : Heap} {f : Addr} {cdv : Value} {A : Around} {outer : List Env} {s : Shared} {H : Hp} {E : XK} {Fm : Fm} {S : Type} {R : S → MP Hp} (cp : BagC S R) (T : Txt K mg) (C_columns : FnC P w K mg base "_law_columns" 3 (sp_columns K mg)) (C_names : FnC P w K mg base "_law_names" 2 (sp_names K mg)) (C_draw : FnC P w K mg base "_law_draw" 1 (sp_draw K mg)) (C_moved : FnC P w K mg base "_law_moved" 2 (sp_moved K mg)) (C_size : FnC P w K mg base "_law_size" 2 (sp_size K mg)) (hr : Room 3 (A.deeper (envOfC "_law_plan" (defScope st_plan) s.heap.objs.size f cdv))) (z : ZOk (ZF P w K mg base ["_law_bag_here", "_law_most_columns", "_law_most_kinds", "_law_columns_here", "_law_states", "_law_shapes", "_law_k", "_law_choice", "_law_ends", "_law_place", "_law_names_here", "_law_kinds"] "_law_plan" (defScope st_plan) f cdv A outer s H E Fm S R)) (hu : (A.deeper (envOfC "_law_plan" (defScope st_plan) s.heap.objs.size f cdv)).units + 65 < cLine) (hu1 : (A.deeper (envOfC "_law_plan" (defScope st_plan) s.heap.objs.size f cdv)).units + 1 < cLine) (most_columns1 : Int) (most_kinds2 : Int) (columns5 : List (Str × Int × Int)) (states23 : List Str) (t81 : (List (Str × Str × (List (Str × (Str × Int)))))) (place87 : Int) : JB (ZF P w K mg base ["_law_bag_here", "_law_most_columns", "_law_most_kinds", "_law_columns_here", "_law_states", "_law_shapes", "_law_k", "_law_choice", "_law_ends", "_law_place", "_law_names_here", "_law_kinds"] "_law_plan" (defScope st_plan) f cdv A outer s H E Fm S R) [some (.fz ((rBag cp.ab) ())), some (.fz (rI most_columns1)), some (.fz (rI most_kinds2)), some (.fz ((rL (rT3 K rS rI rI)) columns5)), some (.fz ((rL rS) states23)), some (.lv ((cL (rT3 K rS rS (rD kS (rT2 K rS rI)))) t81)), none, none, none, some (.fz (rI place87)), none, none] (List.drop 5 (defBody st_plan)) (bnd (bnd (bnd (bnd (ret t81) fun v88 => bnd (ret place87) fun v89 => ret (cutA v88 none (some v89))) fun v99 => bnd (bnd (bnd (ret ("absent" : Str)) fun v95 => bnd (bnd (ret states23) fun v93 => bnd (bnd (ret ()) fun v91 => bnd (bnd (ret states23) fun v90 => ret (List.length v90 : Int)) fun v92 => draw_m cp.b v92) fun v94 => opt (atI v93 v94)) fun v96 => bnd (ret ([] : List (Str × (Str × Int)))) fun v97 => ret (v95, v96, v97)) fun v98 => ret [v98]) fun v100 => lcatM v99 v100) fun v103 => bnd (bnd (ret t81) fun v101 => bnd (ret place87) fun v102 => ret (cutA v101 (some v102) none)) fun v104 => lcatM v103 v104) fun shapes105 => bnd (bnd (ret ()) fun v111 => bnd (bnd (ret shapes105) fun v106 => ret (List.length v106 : Int)) fun v112 => bnd (bnd (ret ("write" : Str)) fun v107 => bnd (ret ("before" : Str)) fun v108 => bnd (ret ("absent" : Str)) fun v109 => bnd (ret ("drop" : Str)) fun v110 => ret [v107, v108, v109, v110]) fun v113 => names_m cp.b v112 v113) fun names114 => bnd (ret ([] : List (Str × Str × Str × Int × (List (Str × (Str × Int)))))) fun kinds115 => thenB (bnd (bnd (bnd (ret shapes105) fun v116 => ret (List.length v116 : Int)) fun v117 => rangeM 0 v117) fun v143 => forL (fun (x119 : Int) (t118 : (List (Str × Str × Str × Int × (List (Str × (Str × Int)))))) => bnd (bnd (bnd (ret names114) fun v121 => bnd (ret x119) fun v122 => opt (atI v121 v122)) fun v133 => bnd (bnd (bnd (ret shapes105) fun v123 => bnd (ret x119) fun v124 => opt (atI v123 v124)) fun v125 => ret v125.1) fun v134 => bnd (bnd (bnd (ret shapes105) fun v126 => bnd (ret x119) fun v127 => opt (atI v126 v127)) fun v128 => ret v128.2.1) fun v135 => bnd (bnd (ret ()) fun v129 => size_m cp.b) fun v136 => bnd (bnd (bnd (ret shapes105) fun v130 => bnd (ret x119) fun v131 => opt (atI v130 v131)) fun v132 => ret v132.2.2) fun v137 => ret (v133, v134, v135, v136, v137)) fun v138 => bnd (appM t118 v138) fun kinds120 => ret (.nx kinds120)) v143 kinds115) fun (t139 : (List (Str × Str × Str × Int × (List (Str × (Str × Int)))))) => bnd (bnd (ret columns5) fun v140 => bnd (ret t139) fun v141 => ret (v140, v141)) fun v142 => ret (.rt v142) : M S (Fl Unit Empty ((List (Str × Int × Int)) × (List (Str × Str × Str × Int × (List (Str × (Str × Int)))))))) (fun _ => []) (fun e => nomatch e) (.fz (rT2 K (rL (rT3 K rS rI rI)) (rL (rT5 K rS rS rS rI (rD kS (rT2 K rS rI)))))) := (jb_setO (i := 5) z rfl (by first | exact .inl rfl | exact .inr rfl) (je_cat (je_frzL (je_cat (je_frzL (je_slV (je_live (c := (cL (rT3 K rS rS (rD kS (rT2 K rS rI))))) (x := t81) 5 rfl (pv 5)) JO.non (JO.som (je_var (r := rI) (x := place87) 9 rfl (pv 9))))) (je_frzL (je_list (jl_cons (je_tup3 (ja_cons je_str (ja_cons (je_ixL (je_var (r := (rL rS)) (x := states23) 4 rfl (pv 4)) (je_call z C_draw hr cp (ja_cons (je_var (r := rBag cp.ab) (x := ()) 0 rfl (pv 0)) (ja_cons (je_lenL (by rfl) T.f_len (je_var (r := (rL rS)) (x := states23) 4 rfl (pv 4))) ja_nil)))) (ja_cons (je_frzD (je_dict0 (k := kS) (r := (rT2 K rS rI)))) ja_nil)))) (jl_nil (r := (rT3 K rS rS (rD kS (rT2 K rS rI)))))))))) (je_frzL (je_slV (je_live (c := (cL (rT3 K rS rS (rD kS (rT2 K rS rI))))) (x := t81) 5 rfl (pv 5)) (JO.som (je_var (r := rI) (x := place87) 9 rfl (pv 9))) JO.non))) (fun shapes105 => (jb_cx (Γ2 := [some (.fz ((rBag cp.ab) ())), some (.fz (rI most_columns1)), some (.fz (rI most_kinds2)), some (.fz ((rL (rT3 K rS rI rI)) columns5)), some (.fz ((rL rS) states23)), some (.lv ((cL (rT3 K rS rS (rD kS (rT2 K rS rI)))) shapes105)), none, none, none, some (.fz (rI place87)), none, none]) (cut_plan_4 cp T C_columns C_names C_draw C_moved C_size hr z hu hu1 most_columns1 most_kinds2 columns5 states23 shapes105 place87))))
theorem cut_plan_6 {P : Program} {w : World} {K : PySem.W.Frag} {mg : Str → Option Value} {base : Heap} {f : Addr} {cdv : Value} {A : Around} {outer : List Env} {s : Shared} {H : Hp} {E : XK} {Fm : Fm} {S : Type} {R : S → MP Hp} (cp : BagC S R) (T : Txt K mg) (C_columns : FnC P w K mg base "_law_columns" 3 (sp_columns K mg)) (C_names : FnC P w K mg base "_law_names" 2 (sp_names K mg)) (C_draw : FnC P w K mg base "_law_draw" 1 (sp_draw K mg)) (C_moved : FnC P w K mg base "_law_moved" 2 (sp_moved K mg)) (C_size : FnC P w K mg base "_law_size" 2 (sp_size K mg)) (hr : Room 3 (A.deeper (envOfC "_law_plan" (defScope st_plan) s.heap.objs.size f cdv))) (z : ZOk (ZF P w K mg base ["_law_bag_here", "_law_most_columns", "_law_most_kinds", "_law_columns_here", "_law_states", "_law_shapes", "_law_k", "_law_choice", "_law_ends", "_law_place", "_law_names_here", "_law_kinds"] "_law_plan" (defScope st_plan) f cdv A outer s H E Fm S R)) (hu : (A.deeper (envOfC "_law_plan" (defScope st_plan) s.heap.objs.size f cdv)).units + 65 < cLine) (hu1 : (A.deeper (envOfC "_law_plan" (defScope st_plan) s.heap.objs.size f cdv)).units + 1 < cLine) (most_columns1 : Int) (most_kinds2 : Int) (columns5 : List (Str × Int × Int)) (states23 : List Str) (t81 : (List (Str × Str × (List (Str × (Str × Int)))))) : JB (ZF P w K mg base ["_law_bag_here", "_law_most_columns", "_law_most_kinds", "_law_columns_here", "_law_states", "_law_shapes", "_law_k", "_law_choice", "_law_ends", "_law_place", "_law_names_here", "_law_kinds"] "_law_plan" (defScope st_plan) f cdv A outer s H E Fm S R) [some (.fz ((rBag cp.ab) ())), some (.fz (rI most_columns1)), some (.fz (rI most_kinds2)), some (.fz ((rL (rT3 K rS rI rI)) columns5)), some (.fz ((rL rS) states23)), some (.lv ((cL (rT3 K rS rS (rD kS (rT2 K rS rI)))) t81)), none, none, none, none, none, none] (List.drop 4 (defBody st_plan)) (bnd (bnd (ret ()) fun v85 => bnd (bnd (bnd (ret t81) fun v82 => ret (List.length v82 : Int)) fun v83 => bnd (ret (1 : Int)) fun v84 => ret (v83 + v84)) fun v86 => draw_m cp.b v86) fun place87 => bnd (bnd (bnd (bnd (ret t81) fun v88 => bnd (ret place87) fun v89 => ret (cutA v88 none (some v89))) fun v99 => bnd (bnd (bnd (ret ("absent" : Str)) fun v95 => bnd (bnd (ret states23) fun v93 => bnd (bnd (ret ()) fun v91 => bnd (bnd (ret states23) fun v90 => ret (List.length v90 : Int)) fun v92 => draw_m cp.b v92) fun v94 => opt (atI v93 v94)) fun v96 => bnd (ret ([] : List (Str × (Str × Int)))) fun v97 => ret (v95, v96, v97)) fun v98 => ret [v98]) fun v100 => lcatM v99 v100) fun v103 => bnd (bnd (ret t81) fun v101 => bnd (ret place87) fun v102 => ret (cutA v101 (some v102) none)) fun v104 => lcatM v103 v104) fun shapes105 => bnd (bnd (ret ()) fun v111 => bnd (bnd (ret shapes105) fun v106 => ret (List.length v106 : Int)) fun v112 => bnd (bnd (ret ("write" : Str)) fun v107 => bnd (ret ("before" : Str)) fun v108 => bnd (ret ("absent" : Str)) fun v109 => bnd (ret ("drop" : Str)) fun v110 => ret [v107, v108, v109, v110]) fun v113 => names_m cp.b v112 v113) fun names114 => bnd (ret ([] : List (Str × Str × Str × Int × (List (Str × (Str × Int)))))) fun kinds115 => thenB (bnd (bnd (bnd (ret shapes105) fun v116 => ret (List.length v116 : Int)) fun v117 => rangeM 0 v117) fun v143 => forL (fun (x119 : Int) (t118 : (List (Str × Str × Str × Int × (List (Str × (Str × Int)))))) => bnd (bnd (bnd (ret names114) fun v121 => bnd (ret x119) fun v122 => opt (atI v121 v122)) fun v133 => bnd (bnd (bnd (ret shapes105) fun v123 => bnd (ret x119) fun v124 => opt (atI v123 v124)) fun v125 => ret v125.1) fun v134 => bnd (bnd (bnd (ret shapes105) fun v126 => bnd (ret x119) fun v127 => opt (atI v126 v127)) fun v128 => ret v128.2.1) fun v135 => bnd (bnd (ret ()) fun v129 => size_m cp.b) fun v136 => bnd (bnd (bnd (ret shapes105) fun v130 => bnd (ret x119) fun v131 => opt (atI v130 v131)) fun v132 => ret v132.2.2) fun v137 => ret (v133, v134, v135, v136, v137)) fun v138 => bnd (appM t118 v138) fun kinds120 => ret (.nx kinds120)) v143 kinds115) fun (t139 : (List (Str × Str × Str × Int × (List (Str × (Str × Int)))))) => bnd (bnd (ret columns5) fun v140 => bnd (ret t139) fun v141 => ret (v140, v141)) fun v142 => ret (.rt v142) : M S (Fl Unit Empty ((List (Str × Int × Int)) × (List (Str × Str × Str × Int × (List (Str × (Str × Int)))))))) (fun _ => []) (fun e => nomatch e) (.fz (rT2 K (rL (rT3 K rS rI rI)) (rL (rT5 K rS rS rS rI (rD kS (rT2 K rS rI)))))) := (jb_set (i := 9) z rfl (by first | exact .inl rfl | exact .inr rfl) (je_call z C_draw hr cp (ja_cons (je_var (r := rBag cp.ab) (x := ()) 0 rfl (pv 0)) (ja_cons (je_add (je_lenV (by rfl) T.f_len (je_live (c := (cL (rT3 K rS rS (rD kS (rT2 K rS rI))))) (x := t81) 5 rfl (pv 5))) je_int) ja_nil))) (fun place87 => (jb_cx (Γ2 := [some (.fz ((rBag cp.ab) ())), some (.fz (rI most_columns1)), some (.fz (rI most_kinds2)), some (.fz ((rL (rT3 K rS rI rI)) columns5)), some (.fz ((rL rS) states23)), some (.lv ((cL (rT3 K rS rS (rD kS (rT2 K rS rI)))) t81)), none, none, none, some (.fz (rI place87)), none, none]) (cut_plan_5 cp T C_columns C_names C_draw C_moved C_size hr z hu hu1 most_columns1 most_kinds2 columns5 states23 t81 place87))))
theorem cut_plan_7 {P : Program} {w : World} {K : PySem.W.Frag} {mg : Str → Option Value} {base : Heap} {f : Addr} {cdv : Value} {A : Around} {outer : List Env} {s : Shared} {H : Hp} {E : XK} {Fm : Fm} {S : Type} {R : S → MP Hp} (cp : BagC S R) (T : Txt K mg) (C_columns : FnC P w K mg base "_law_columns" 3 (sp_columns K mg)) (C_names : FnC P w K mg base "_law_names" 2 (sp_names K mg)) (C_draw : FnC P w K mg base "_law_draw" 1 (sp_draw K mg)) (C_moved : FnC P w K mg base "_law_moved" 2 (sp_moved K mg)) (C_size : FnC P w K mg base "_law_size" 2 (sp_size K mg)) (hr : Room 3 (A.deeper (envOfC "_law_plan" (defScope st_plan) s.heap.objs.size f cdv))) (z : ZOk (ZF P w K mg base ["_law_bag_here", "_law_most_columns", "_law_most_kinds", "_law_columns_here", "_law_states", "_law_shapes", "_law_k", "_law_choice", "_law_ends", "_law_place", "_law_names_here", "_law_kinds"] "_law_plan" (defScope st_plan) f cdv A outer s H E Fm S R)) (hu : (A.deeper (envOfC "_law_plan" (defScope st_plan) s.heap.objs.size f cdv)).units + 65 < cLine) (hu1 : (A.deeper (envOfC "_law_plan" (defScope st_plan) s.heap.objs.size f cdv)).units + 1 < cLine) (most_columns1 : Int) (most_kinds2 : Int) (columns5 : List (Str × Int × Int)) (states23 : List Str) (shapes24 : List (Str × Str × (List (Str × (Str × Int))))) : JB (ZF P w K mg base ["_law_bag_here", "_law_most_columns", "_law_most_kinds", "_law_columns_here", "_law_states", "_law_shapes", "_law_k", "_law_choice", "_law_ends", "_law_place", "_law_names_here", "_law_kinds"] "_law_plan" (defScope st_plan) f cdv A outer s H E Fm S R) [some (.fz ((rBag cp.ab) ())), some (.fz (rI most_columns1)), some (.fz (rI most_kinds2)), some (.fz ((rL (rT3 K rS rI rI)) columns5)), some (.fz ((rL rS) states23)), some (.lv ((cL (rT3 K rS rS (rD kS (rT2 K rS rI)))) shapes24)), none, none, none, none, none, none] (List.drop 3 (defBody st_plan)) (thenB (bnd (bnd (bnd (bnd (ret ()) fun v25 => bnd (ret most_kinds2) fun v26 => draw_m cp.b v26) fun v29 => bnd (bnd (ret ()) fun v27 => bnd (ret (2 : Int)) fun v28 => draw_m cp.b v28) fun v30 => ret (if v30 > v29 then v30 else v29)) fun v31 => rangeM 0 v31) fun v144 => forL (fun (x33 : Int) (t32 : (List (Str × Str × (List (Str × (Str × Int)))))) => bnd (bnd (ret ()) fun v34 => bnd (ret (8 : Int)) fun v35 => draw_m cp.b v35) fun choice36 => bnd (bnd (bnd (ret states23) fun v40 => bnd (bnd (ret ()) fun v38 => bnd (bnd (ret states23) fun v37 => ret (List.length v37 : Int)) fun v39 => draw_m cp.b v39) fun v41 => opt (atI v40 v41)) fun v47 => bnd (bnd (ret states23) fun v45 => bnd (bnd (ret ()) fun v43 => bnd (bnd (ret states23) fun v42 => ret (List.length v42 : Int)) fun v44 => draw_m cp.b v44) fun v46 => opt (atI v45 v46)) fun v48 => ret [v47, v48]) fun ends49 => bnd (bnd (ret choice36) fun v50 => bnd (ret (3 : Int)) fun v51 => ret (decide (v50 < v51))) fun v52 => if v52 then (bnd (ret ("absent" : Str)) fun v58 => bnd (bnd (bnd (ret (0 : Int)) fun v53 => bnd (ret (1 : Int)) fun v54 => bnd (ret (1 : Int)) fun v55 => ret [v53, v54, v55]) fun v56 => bnd (ret choice36) fun v57 => opt (atI v56 v57)) fun v59 => bnd (setM ends49 v59 v58) fun ends60 => bnd (bnd (bnd (ret ends60) fun v62 => bnd (ret (0 : Int)) fun v63 => opt (atI v62 v63)) fun v66 => bnd (bnd (ret ends60) fun v64 => bnd (ret (1 : Int)) fun v65 => opt (atI v64 v65)) fun v67 => bnd (ret ([] : List (Str × (Str × Int)))) fun v68 => ret (v66, v67, v68)) fun v69 => bnd (appM t32 v69) fun shapes61 => ret (.nx shapes61)) else (bnd (bnd (bnd (ret ends49) fun v71 => bnd (ret (0 : Int)) fun v72 => opt (atI v71 v72)) fun v77 => bnd (bnd (ret ends49) fun v73 => bnd (ret (1 : Int)) fun v74 => opt (atI v73 v74)) fun v78 => bnd (bnd (ret ()) fun v75 => bnd (ret columns5) fun v76 => moved_m cp.b v76) fun v79 => ret (v77, v78, v79)) fun v80 => bnd (appM t32 v80) fun shapes70 => ret (.nx shapes70))) v144 shapes24) fun (t81 : (List (Str × Str × (List (Str × (Str × Int)))))) => bnd (bnd (ret ()) fun v85 => bnd (bnd (bnd (ret t81) fun v82 => ret (List.length v82 : Int)) fun v83 => bnd (ret (1 : Int)) fun v84 => ret (v83 + v84)) fun v86 => draw_m cp.b v86) fun place87 => bnd (bnd (bnd (bnd (ret t81) fun v88 => bnd (ret place87) fun v89 => ret (cutA v88 none (some v89))) fun v99 => bnd (bnd (bnd (ret ("absent" : Str)) fun v95 => bnd (bnd (ret states23) fun v93 => bnd (bnd (ret ()) fun v91 => bnd (bnd (ret states23) fun v90 => ret (List.length v90 : Int)) fun v92 => draw_m cp.b v92) fun v94 => opt (atI v93 v94)) fun v96 => bnd (ret ([] : List (Str × (Str × Int)))) fun v97 => ret (v95, v96, v97)) fun v98 => ret [v98]) fun v100 => lcatM v99 v100) fun v103 => bnd (bnd (ret t81) fun v101 => bnd (ret place87) fun v102 => ret (cutA v101 (some v102) none)) fun v104 => lcatM v103 v104) fun shapes105 => bnd (bnd (ret ()) fun v111 => bnd (bnd (ret shapes105) fun v106 => ret (List.length v106 : Int)) fun v112 => bnd (bnd (ret ("write" : Str)) fun v107 => bnd (ret ("before" : Str)) fun v108 => bnd (ret ("absent" : Str)) fun v109 => bnd (ret ("drop" : Str)) fun v110 => ret [v107, v108, v109, v110]) fun v113 => names_m cp.b v112 v113) fun names114 => bnd (ret ([] : List (Str × Str × Str × Int × (List (Str × (Str × Int)))))) fun kinds115 => thenB (bnd (bnd (bnd (ret shapes105) fun v116 => ret (List.length v116 : Int)) fun v117 => rangeM 0 v117) fun v143 => forL (fun (x119 : Int) (t118 : (List (Str × Str × Str × Int × (List (Str × (Str × Int)))))) => bnd (bnd (bnd (ret names114) fun v121 => bnd (ret x119) fun v122 => opt (atI v121 v122)) fun v133 => bnd (bnd (bnd (ret shapes105) fun v123 => bnd (ret x119) fun v124 => opt (atI v123 v124)) fun v125 => ret v125.1) fun v134 => bnd (bnd (bnd (ret shapes105) fun v126 => bnd (ret x119) fun v127 => opt (atI v126 v127)) fun v128 => ret v128.2.1) fun v135 => bnd (bnd (ret ()) fun v129 => size_m cp.b) fun v136 => bnd (bnd (bnd (ret shapes105) fun v130 => bnd (ret x119) fun v131 => opt (atI v130 v131)) fun v132 => ret v132.2.2) fun v137 => ret (v133, v134, v135, v136, v137)) fun v138 => bnd (appM t118 v138) fun kinds120 => ret (.nx kinds120)) v143 kinds115) fun (t139 : (List (Str × Str × Str × Int × (List (Str × (Str × Int)))))) => bnd (bnd (ret columns5) fun v140 => bnd (ret t139) fun v141 => ret (v140, v141)) fun v142 => ret (.rt v142) : M S (Fl Unit Empty ((List (Str × Int × Int)) × (List (Str × Str × Str × Int × (List (Str × (Str × Int)))))))) (fun _ => []) (fun e => nomatch e) (.fz (rT2 K (rL (rT3 K rS rI rI)) (rL (rT5 K rS rS rS rI (rD kS (rT2 K rS rI)))))) := (jb_seq (Γ1 := fun t32 : (List (Str × Str × (List (Str × (Str × Int))))) => [some (.fz ((rBag cp.ab) ())), some (.fz (rI most_columns1)), some (.fz (rI most_kinds2)), some (.fz ((rL (rT3 K rS rI rI)) columns5)), some (.fz ((rL rS) states23)), some (.lv ((cL (rT3 K rS rS (rD kS (rT2 K rS rI)))) t32)), none, none, none, none, none, none]) (js_for (n := 12) (t0 := shapes24) z (ji_range1 (by rfl) T.f_range (je_max2 z (by rfl) T.f_max (je_call z C_draw hr cp (ja_cons (je_var (r := rBag cp.ab) (x := ()) 0 rfl (pv 0)) (ja_cons (je_var (r := rI) (x := most_kinds2) 2 rfl (pv 2)) ja_nil))) (je_call z C_draw hr cp (ja_cons (je_var (r := rBag cp.ab) (x := ()) 0 rfl (pv 0)) (ja_cons je_int ja_nil))))) (jg_name (i := 6) (z).nd rfl (by first | exact .inl rfl | exact .inr rfl)) (Le.some (Le.some (Le.some (Le.some (Le.some (Le.some (Le.none (Le.none (Le.none (Le.none (Le.none (Le.none Le.nil)))))))))))) (fun x33 t32 => (jb_cx (Γ2 := [some (.fz ((rBag cp.ab) ())), some (.fz (rI most_columns1)), some (.fz (rI most_kinds2)), some (.fz ((rL (rT3 K rS rI rI)) columns5)), some (.fz ((rL rS) states23)), some (.lv ((cL (rT3 K rS rS (rD kS (rT2 K rS rI)))) t32)), some (.fz (rI x33)), none, none, none, none, none]) (jb_set (i := 7) z rfl (by first | exact .inl rfl | exact .inr rfl) (je_call z C_draw hr cp (ja_cons (je_var (r := rBag cp.ab) (x := ()) 0 rfl (pv 0)) (ja_cons je_int ja_nil))) (fun choice36 => (jb_cx (Γ2 := [some (.fz ((rBag cp.ab) ())), some (.fz (rI most_columns1)), some (.fz (rI most_kinds2)), some (.fz ((rL (rT3 K rS rI rI)) columns5)), some (.fz ((rL rS) states23)), some (.lv ((cL (rT3 K rS rS (rD kS (rT2 K rS rI)))) t32)), some (.fz (rI x33)), some (.fz (rI choice36)), none, none, none, none]) (jb_setO (i := 8) z rfl (by first | exact .inl rfl | exact .inr rfl) (je_list (jl_cons (je_ixL (je_var (r := (rL rS)) (x := states23) 4 rfl (pv 4)) (je_call z C_draw hr cp (ja_cons (je_var (r := rBag cp.ab) (x := ()) 0 rfl (pv 0)) (ja_cons (je_lenL (by rfl) T.f_len (je_var (r := (rL rS)) (x := states23) 4 rfl (pv 4))) ja_nil)))) (jl_cons (je_ixL (je_var (r := (rL rS)) (x := states23) 4 rfl (pv 4)) (je_call z C_draw hr cp (ja_cons (je_var (r := rBag cp.ab) (x := ()) 0 rfl (pv 0)) (ja_cons (je_lenL (by rfl) T.f_len (je_var (r := (rL rS)) (x := states23) 4 rfl (pv 4))) ja_nil)))) (jl_nil (r := rS))))) (fun ends49 => (jb_cx (Γ2 := [some (.fz ((rBag cp.ab) ())), some (.fz (rI most_columns1)), some (.fz (rI most_kinds2)), some (.fz ((rL (rT3 K rS rI rI)) columns5)), some (.fz ((rL rS) states23)), some (.lv ((cL (rT3 K rS rS (rD kS (rT2 K rS rI)))) t32)), some (.fz (rI x33)), some (.fz (rI choice36)), some (.lv ((cL rS) ends49)), none, none, none]) (jb_one (js_if (jt_c c_lt (je_var (r := rI) (x := choice36) 7 rfl (pv 7)) je_int) (jb_cx (Γ2 := [some (.fz ((rBag cp.ab) ())), some (.fz (rI most_columns1)), some (.fz (rI most_kinds2)), some (.fz ((rL (rT3 K rS rI rI)) columns5)), some (.fz ((rL rS) states23)), some (.lv ((cL (rT3 K rS rS (rD kS (rT2 K rS rI)))) t32)), some (.fz (rI x33)), some (.fz (rI choice36)), some (.lv ((cL rS) ends49)), none, none, none]) (jb_setix (k := 8) rfl (pv 8) je_str (je_ixL (je_frzL (je_list (jl_cons je_int (jl_cons je_int (jl_cons je_int (jl_nil (r := rI))))))) (je_var (r := rI) (x := choice36) 7 rfl (pv 7))) (fun ends60 => (jb_cx (Γ2 := [some (.fz ((rBag cp.ab) ())), some (.fz (rI most_columns1)), some (.fz (rI most_kinds2)), some (.fz ((rL (rT3 K rS rI rI)) columns5)), some (.fz ((rL rS) states23)), some (.lv ((cL (rT3 K rS rS (rD kS (rT2 K rS rI)))) t32)), some (.fz (rI x33)), some (.fz (rI choice36)), some (.lv ((cL rS) ends60)), none, none, none]) (jb_append (k := 5) rfl (pv 5) (je_tup3 (ja_cons (je_ixV (je_live (c := (cL rS)) (x := ends60) 8 rfl (pv 8)) je_int) (ja_cons (je_ixV (je_live (c := (cL rS)) (x := ends60) 8 rfl (pv 8)) je_int) (ja_cons (je_frzD (je_dict0 (k := kS) (r := (rT2 K rS rI)))) ja_nil)))) (fun shapes61 => (jb_cx (Γ2 := [some (.fz ((rBag cp.ab) ())), some (.fz (rI most_columns1)), some (.fz (rI most_kinds2)), some (.fz ((rL (rT3 K rS rI rI)) columns5)), some (.fz ((rL rS) states23)), some (.lv ((cL (rT3 K rS rS (rD kS (rT2 K rS rI)))) shapes61)), some (.fz (rI x33)), some (.fz (rI choice36)), some (.lv ((cL rS) ends60)), none, none, none]) (jb_nil (t := shapes61) (Le.some (Le.some (Le.some (Le.some (Le.some (Le.some (Le.none (Le.none (Le.none (Le.none (Le.none (Le.none Le.nil))))))))))))))) (ps_expr (pe_bm PySem.F.plainAttrs_list PySem.F.slot_list_append PySem.F.type_list_append mt_append (pv 5) (pa_cons (JE.pe (je_tup3 (ja_cons (je_ixV (je_live (c := (cL rS)) (x := ends60) 8 rfl (pv 8)) je_int) (ja_cons (je_ixV (je_live (c := (cL rS)) (x := ends60) 8 rfl (pv 8)) je_int) (ja_cons (je_frzD (je_dict0 (k := kS) (r := (rT2 K rS rI)))) ja_nil))))) pa_nil)))))) (ps_asg (JE.pe je_str) (pg_sub (pv 8) (JE.pe (je_ixL (je_frzL (je_list (jl_cons je_int (jl_cons je_int (jl_cons je_int (jl_nil (r := rI))))))) (je_var (r := rI) (x := choice36) 7 rfl (pv 7)))) set_list)))) (jb_cx (Γ2 := [some (.fz ((rBag cp.ab) ())), some (.fz (rI most_columns1)), some (.fz (rI most_kinds2)), some (.fz ((rL (rT3 K rS rI rI)) columns5)), some (.fz ((rL rS) states23)), some (.lv ((cL (rT3 K rS rS (rD kS (rT2 K rS rI)))) t32)), some (.fz (rI x33)), some (.fz (rI choice36)), some (.lv ((cL rS) ends49)), none, none, none]) (jb_append (k := 5) rfl (pv 5) (je_tup3 (ja_cons (je_ixV (je_live (c := (cL rS)) (x := ends49) 8 rfl (pv 8)) je_int) (ja_cons (je_ixV (je_live (c := (cL rS)) (x := ends49) 8 rfl (pv 8)) je_int) (ja_cons (je_frzD (je_call z C_moved hr cp (ja_cons (je_var (r := rBag cp.ab) (x := ()) 0 rfl (pv 0)) (ja_cons (je_var (r := (rL (rT3 K rS rI rI))) (x := columns5) 3 rfl (pv 3)) ja_nil)))) ja_nil)))) (fun shapes70 => (jb_cx (Γ2 := [some (.fz ((rBag cp.ab) ())), some (.fz (rI most_columns1)), some (.fz (rI most_kinds2)), some (.fz ((rL (rT3 K rS rI rI)) columns5)), some (.fz ((rL rS) states23)), some (.lv ((cL (rT3 K rS rS (rD kS (rT2 K rS rI)))) shapes70)), some (.fz (rI x33)), some (.fz (rI choice36)), some (.lv ((cL rS) ends49)), none, none, none]) (jb_nil (t := shapes70) (Le.some (Le.some (Le.some (Le.some (Le.some (Le.some (Le.none (Le.none (Le.none (Le.none (Le.none (Le.none Le.nil))))))))))))))) (ps_expr (pe_bm PySem.F.plainAttrs_list PySem.F.slot_list_append PySem.F.type_list_append mt_append (pv 5) (pa_cons (JE.pe (je_tup3 (ja_cons (je_ixV (je_live (c := (cL rS)) (x := ends49) 8 rfl (pv 8)) je_int) (ja_cons (je_ixV (je_live (c := (cL rS)) (x := ends49) 8 rfl (pv 8)) je_int) (ja_cons (je_frzD (je_call z C_moved hr cp (ja_cons (je_var (r := rBag cp.ab) (x := ()) 0 rfl (pv 0)) (ja_cons (je_var (r := (rL (rT3 K rS rI rI))) (x := columns5) 3 rfl (pv 3)) ja_nil)))) ja_nil))))) pa_nil)))))))))))))))) (fun t81 => (jb_cx (Γ2 := [some (.fz ((rBag cp.ab) ())), some (.fz (rI most_columns1)), some (.fz (rI most_kinds2)), some (.fz ((rL (rT3 K rS rI rI)) columns5)), some (.fz ((rL rS) states23)), some (.lv ((cL (rT3 K rS rS (rD kS (rT2 K rS rI)))) t81)), none, none, none, none, none, none]) (cut_plan_6 cp T C_columns C_names C_draw C_moved C_size hr z hu hu1 most_columns1 most_kinds2 columns5 states23 t81))))
theorem cut_plan_8 {P : Program} {w : World} {K : PySem.W.Frag} {mg : Str → Option Value} {base : Heap} {f : Addr} {cdv : Value} {A : Around} {outer : List Env} {s : Shared} {H : Hp} {E : XK} {Fm : Fm} {S : Type} {R : S → MP Hp} (cp : BagC S R) (T : Txt K mg) (C_columns : FnC P w K mg base "_law_columns" 3 (sp_columns K mg)) (C_names : FnC P w K mg base "_law_names" 2 (sp_names K mg)) (C_draw : FnC P w K mg base "_law_draw" 1 (sp_draw K mg)) (C_moved : FnC P w K mg base "_law_moved" 2 (sp_moved K mg)) (C_size : FnC P w K mg base "_law_size" 2 (sp_size K mg)) (hr : Room 3 (A.deeper (envOfC "_law_plan" (defScope st_plan) s.heap.objs.size f cdv))) (z : ZOk (ZF P w K mg base ["_law_bag_here", "_law_most_columns", "_law_most_kinds", "_law_columns_here", "_law_states", "_law_shapes", "_law_k", "_law_choice", "_law_ends", "_law_place", "_law_names_here", "_law_kinds"] "_law_plan" (defScope st_plan) f cdv A outer s H E Fm S R)) (hu : (A.deeper (envOfC "_law_plan" (defScope st_plan) s.heap.objs.size f cdv)).units + 65 < cLine) (hu1 : (A.deeper (envOfC "_law_plan" (defScope st_plan) s.heap.objs.size f cdv)).units + 1 < cLine) (most_columns1 : Int) (most_kinds2 : Int) (columns5 : List (Str × Int × Int)) (states23 : List Str) : JB (ZF P w K mg base ["_law_bag_here", "_law_most_columns", "_law_most_kinds", "_law_columns_here", "_law_states", "_law_shapes", "_law_k", "_law_choice", "_law_ends", "_law_place", "_law_names_here", "_law_kinds"] "_law_plan" (defScope st_plan) f cdv A outer s H E Fm S R) [some (.fz ((rBag cp.ab) ())), some (.fz (rI most_columns1)), some (.fz (rI most_kinds2)), some (.fz ((rL (rT3 K rS rI rI)) columns5)), some (.fz ((rL rS) states23)), none, none, none, none, none, none, none] (List.drop 2 (defBody st_plan)) (bnd (ret ([] : List (Str × Str × (List (Str × (Str × Int)))))) fun shapes24 => thenB (bnd (bnd (bnd (bnd (ret ()) fun v25 => bnd (ret most_kinds2) fun v26 => draw_m cp.b v26) fun v29 => bnd (bnd (ret ()) fun v27 => bnd (ret (2 : Int)) fun v28 => draw_m cp.b v28) fun v30 => ret (if v30 > v29 then v30 else v29)) fun v31 => rangeM 0 v31) fun v144 => forL (fun (x33 : Int) (t32 : (List (Str × Str × (List (Str × (Str × Int)))))) => bnd (bnd (ret ()) fun v34 => bnd (ret (8 : Int)) fun v35 => draw_m cp.b v35) fun choice36 => bnd (bnd (bnd (ret states23) fun v40 => bnd (bnd (ret ()) fun v38 => bnd (bnd (ret states23) fun v37 => ret (List.length v37 : Int)) fun v39 => draw_m cp.b v39) fun v41 => opt (atI v40 v41)) fun v47 => bnd (bnd (ret states23) fun v45 => bnd (bnd (ret ()) fun v43 => bnd (bnd (ret states23) fun v42 => ret (List.length v42 : Int)) fun v44 => draw_m cp.b v44) fun v46 => opt (atI v45 v46)) fun v48 => ret [v47, v48]) fun ends49 => bnd (bnd (ret choice36) fun v50 => bnd (ret (3 : Int)) fun v51 => ret (decide (v50 < v51))) fun v52 => if v52 then (bnd (ret ("absent" : Str)) fun v58 => bnd (bnd (bnd (ret (0 : Int)) fun v53 => bnd (ret (1 : Int)) fun v54 => bnd (ret (1 : Int)) fun v55 => ret [v53, v54, v55]) fun v56 => bnd (ret choice36) fun v57 => opt (atI v56 v57)) fun v59 => bnd (setM ends49 v59 v58) fun ends60 => bnd (bnd (bnd (ret ends60) fun v62 => bnd (ret (0 : Int)) fun v63 => opt (atI v62 v63)) fun v66 => bnd (bnd (ret ends60) fun v64 => bnd (ret (1 : Int)) fun v65 => opt (atI v64 v65)) fun v67 => bnd (ret ([] : List (Str × (Str × Int)))) fun v68 => ret (v66, v67, v68)) fun v69 => bnd (appM t32 v69) fun shapes61 => ret (.nx shapes61)) else (bnd (bnd (bnd (ret ends49) fun v71 => bnd (ret (0 : Int)) fun v72 => opt (atI v71 v72)) fun v77 => bnd (bnd (ret ends49) fun v73 => bnd (ret (1 : Int)) fun v74 => opt (atI v73 v74)) fun v78 => bnd (bnd (ret ()) fun v75 => bnd (ret columns5) fun v76 => moved_m cp.b v76) fun v79 => ret (v77, v78, v79)) fun v80 => bnd (appM t32 v80) fun shapes70 => ret (.nx shapes70))) v144 shapes24) fun (t81 : (List (Str × Str × (List (Str × (Str × Int)))))) => bnd (bnd (ret ()) fun v85 => bnd (bnd (bnd (ret t81) fun v82 => ret (List.length v82 : Int)) fun v83 => bnd (ret (1 : Int)) fun v84 => ret (v83 + v84)) fun v86 => draw_m cp.b v86) fun place87 => bnd (bnd (bnd (bnd (ret t81) fun v88 => bnd (ret place87) fun v89 => ret (cutA v88 none (some v89))) fun v99 => bnd (bnd (bnd (ret ("absent" : Str)) fun v95 => bnd (bnd (ret states23) fun v93 => bnd (bnd (ret ()) fun v91 => bnd (bnd (ret states23) fun v90 => ret (List.length v90 : Int)) fun v92 => draw_m cp.b v92) fun v94 => opt (atI v93 v94)) fun v96 => bnd (ret ([] : List (Str × (Str × Int)))) fun v97 => ret (v95, v96, v97)) fun v98 => ret [v98]) fun v100 => lcatM v99 v100) fun v103 => bnd (bnd (ret t81) fun v101 => bnd (ret place87) fun v102 => ret (cutA v101 (some v102) none)) fun v104 => lcatM v103 v104) fun shapes105 => bnd (bnd (ret ()) fun v111 => bnd (bnd (ret shapes105) fun v106 => ret (List.length v106 : Int)) fun v112 => bnd (bnd (ret ("write" : Str)) fun v107 => bnd (ret ("before" : Str)) fun v108 => bnd (ret ("absent" : Str)) fun v109 => bnd (ret ("drop" : Str)) fun v110 => ret [v107, v108, v109, v110]) fun v113 => names_m cp.b v112 v113) fun names114 => bnd (ret ([] : List (Str × Str × Str × Int × (List (Str × (Str × Int)))))) fun kinds115 => thenB (bnd (bnd (bnd (ret shapes105) fun v116 => ret (List.length v116 : Int)) fun v117 => rangeM 0 v117) fun v143 => forL (fun (x119 : Int) (t118 : (List (Str × Str × Str × Int × (List (Str × (Str × Int)))))) => bnd (bnd (bnd (ret names114) fun v121 => bnd (ret x119) fun v122 => opt (atI v121 v122)) fun v133 => bnd (bnd (bnd (ret shapes105) fun v123 => bnd (ret x119) fun v124 => opt (atI v123 v124)) fun v125 => ret v125.1) fun v134 => bnd (bnd (bnd (ret shapes105) fun v126 => bnd (ret x119) fun v127 => opt (atI v126 v127)) fun v128 => ret v128.2.1) fun v135 => bnd (bnd (ret ()) fun v129 => size_m cp.b) fun v136 => bnd (bnd (bnd (ret shapes105) fun v130 => bnd (ret x119) fun v131 => opt (atI v130 v131)) fun v132 => ret v132.2.2) fun v137 => ret (v133, v134, v135, v136, v137)) fun v138 => bnd (appM t118 v138) fun kinds120 => ret (.nx kinds120)) v143 kinds115) fun (t139 : (List (Str × Str × Str × Int × (List (Str × (Str × Int)))))) => bnd (bnd (ret columns5) fun v140 => bnd (ret t139) fun v141 => ret (v140, v141)) fun v142 => ret (.rt v142) : M S (Fl Unit Empty ((List (Str × Int × Int)) × (List (Str × Str × Str × Int × (List (Str × (Str × Int)))))))) (fun _ => []) (fun e => nomatch e) (.fz (rT2 K (rL (rT3 K rS rI rI)) (rL (rT5 K rS rS rS rI (rD kS (rT2 K rS rI)))))) := (jb_setO (i := 5) z rfl (by first | exact .inl rfl | exact .inr rfl) (je_list (jl_nil (r := (rT3 K rS rS (rD kS (rT2 K rS rI)))))) (fun shapes24 => (jb_cx (Γ2 := [some (.fz ((rBag cp.ab) ())), some (.fz (rI most_columns1)), some (.fz (rI most_kinds2)), some (.fz ((rL (rT3 K rS rI rI)) columns5)), some (.fz ((rL rS) states23)), some (.lv ((cL (rT3 K rS rS (rD kS (rT2 K rS rI)))) shapes24)), none, none, none, none, none, none]) (cut_plan_7 cp T C_columns C_names C_draw C_moved C_size hr z hu hu1 most_columns1 most_kinds2 columns5 states23 shapes24))))
theorem cut_plan_9 {P : Program} {w : World} {K : PySem.W.Frag} {mg : Str → Option Value} {base : Heap} {f : Addr} {cdv : Value} {A : Around} {outer : List Env} {s : Shared} {H : Hp} {E : XK} {Fm : Fm} {S : Type} {R : S → MP Hp} (cp : BagC S R) (T : Txt K mg) (C_columns : FnC P w K mg base "_law_columns" 3 (sp_columns K mg)) (C_names : FnC P w K mg base "_law_names" 2 (sp_names K mg)) (C_draw : FnC P w K mg base "_law_draw" 1 (sp_draw K mg)) (C_moved : FnC P w K mg base "_law_moved" 2 (sp_moved K mg)) (C_size : FnC P w K mg base "_law_size" 2 (sp_size K mg)) (hr : Room 3 (A.deeper (envOfC "_law_plan" (defScope st_plan) s.heap.objs.size f cdv))) (z : ZOk (ZF P w K mg base ["_law_bag_here", "_law_most_columns", "_law_most_kinds", "_law_columns_here", "_law_states", "_law_shapes", "_law_k", "_law_choice", "_law_ends", "_law_place", "_law_names_here", "_law_kinds"] "_law_plan" (defScope st_plan) f cdv A outer s H E Fm S R)) (hu : (A.deeper (envOfC "_law_plan" (defScope st_plan) s.heap.objs.size f cdv)).units + 65 < cLine) (hu1 : (A.deeper (envOfC "_law_plan" (defScope st_plan) s.heap.objs.size f cdv)).units + 1 < cLine) (most_columns1 : Int) (most_kinds2 : Int) (columns5 : List (Str × Int × Int)) : JB (ZF P w K mg base ["_law_bag_here", "_law_most_columns", "_law_most_kinds", "_law_columns_here", "_law_states", "_law_shapes", "_law_k", "_law_choice", "_law_ends", "_law_place", "_law_names_here", "_law_kinds"] "_law_plan" (defScope st_plan) f cdv A outer s H E Fm S R) [some (.fz ((rBag cp.ab) ())), some (.fz (rI most_columns1)), some (.fz (rI most_kinds2)), some (.fz ((rL (rT3 K rS rI rI)) columns5)), none, none, none, none, none, none, none, none] (List.drop 1 (defBody st_plan)) (bnd (bnd (ret ()) fun v20 => bnd (bnd (ret (1 : Int)) fun v14 => bnd (bnd (ret ()) fun v12 => bnd (bnd (bnd (ret (3 : Int)) fun v6 => bnd (ret (7 : Int)) fun v7 => ret [v6, v7]) fun v10 => bnd (bnd (ret most_kinds2) fun v8 => bnd (ret (9 : Int)) fun v9 => fdivM v8 v9) fun v11 => opt (atI v10 v11)) fun v13 => draw_m cp.b v13) fun v15 => ret (v14 + v15)) fun v21 => bnd (bnd (ret ("write" : Str)) fun v16 => bnd (ret ("drop" : Str)) fun v17 => bnd (ret ("before" : Str)) fun v18 => bnd (ret ("after" : Str)) fun v19 => ret [v16, v17, v18, v19]) fun v22 => names_m cp.b v21 v22) fun states23 => bnd (ret ([] : List (Str × Str × (List (Str × (Str × Int)))))) fun shapes24 => thenB (bnd (bnd (bnd (bnd (ret ()) fun v25 => bnd (ret most_kinds2) fun v26 => draw_m cp.b v26) fun v29 => bnd (bnd (ret ()) fun v27 => bnd (ret (2 : Int)) fun v28 => draw_m cp.b v28) fun v30 => ret (if v30 > v29 then v30 else v29)) fun v31 => rangeM 0 v31) fun v144 => forL (fun (x33 : Int) (t32 : (List (Str × Str × (List (Str × (Str × Int)))))) => bnd (bnd (ret ()) fun v34 => bnd (ret (8 : Int)) fun v35 => draw_m cp.b v35) fun choice36 => bnd (bnd (bnd (ret states23) fun v40 => bnd (bnd (ret ()) fun v38 => bnd (bnd (ret states23) fun v37 => ret (List.length v37 : Int)) fun v39 => draw_m cp.b v39) fun v41 => opt (atI v40 v41)) fun v47 => bnd (bnd (ret states23) fun v45 => bnd (bnd (ret ()) fun v43 => bnd (bnd (ret states23) fun v42 => ret (List.length v42 : Int)) fun v44 => draw_m cp.b v44) fun v46 => opt (atI v45 v46)) fun v48 => ret [v47, v48]) fun ends49 => bnd (bnd (ret choice36) fun v50 => bnd (ret (3 : Int)) fun v51 => ret (decide (v50 < v51))) fun v52 => if v52 then (bnd (ret ("absent" : Str)) fun v58 => bnd (bnd (bnd (ret (0 : Int)) fun v53 => bnd (ret (1 : Int)) fun v54 => bnd (ret (1 : Int)) fun v55 => ret [v53, v54, v55]) fun v56 => bnd (ret choice36) fun v57 => opt (atI v56 v57)) fun v59 => bnd (setM ends49 v59 v58) fun ends60 => bnd (bnd (bnd (ret ends60) fun v62 => bnd (ret (0 : Int)) fun v63 => opt (atI v62 v63)) fun v66 => bnd (bnd (ret ends60) fun v64 => bnd (ret (1 : Int)) fun v65 => opt (atI v64 v65)) fun v67 => bnd (ret ([] : List (Str × (Str × Int)))) fun v68 => ret (v66, v67, v68)) fun v69 => bnd (appM t32 v69) fun shapes61 => ret (.nx shapes61)) else (bnd (bnd (bnd (ret ends49) fun v71 => bnd (ret (0 : Int)) fun v72 => opt (atI v71 v72)) fun v77 => bnd (bnd (ret ends49) fun v73 => bnd (ret (1 : Int)) fun v74 => opt (atI v73 v74)) fun v78 => bnd (bnd (ret ()) fun v75 => bnd (ret columns5) fun v76 => moved_m cp.b v76) fun v79 => ret (v77, v78, v79)) fun v80 => bnd (appM t32 v80) fun shapes70 => ret (.nx shapes70))) v144 shapes24) fun (t81 : (List (Str × Str × (List (Str × (Str × Int)))))) => bnd (bnd (ret ()) fun v85 => bnd (bnd (bnd (ret t81) fun v82 => ret (List.length v82 : Int)) fun v83 => bnd (ret (1 : Int)) fun v84 => ret (v83 + v84)) fun v86 => draw_m cp.b v86) fun place87 => bnd (bnd (bnd (bnd (ret t81) fun v88 => bnd (ret place87) fun v89 => ret (cutA v88 none (some v89))) fun v99 => bnd (bnd (bnd (ret ("absent" : Str)) fun v95 => bnd (bnd (ret states23) fun v93 => bnd (bnd (ret ()) fun v91 => bnd (bnd (ret states23) fun v90 => ret (List.length v90 : Int)) fun v92 => draw_m cp.b v92) fun v94 => opt (atI v93 v94)) fun v96 => bnd (ret ([] : List (Str × (Str × Int)))) fun v97 => ret (v95, v96, v97)) fun v98 => ret [v98]) fun v100 => lcatM v99 v100) fun v103 => bnd (bnd (ret t81) fun v101 => bnd (ret place87) fun v102 => ret (cutA v101 (some v102) none)) fun v104 => lcatM v103 v104) fun shapes105 => bnd (bnd (ret ()) fun v111 => bnd (bnd (ret shapes105) fun v106 => ret (List.length v106 : Int)) fun v112 => bnd (bnd (ret ("write" : Str)) fun v107 => bnd (ret ("before" : Str)) fun v108 => bnd (ret ("absent" : Str)) fun v109 => bnd (ret ("drop" : Str)) fun v110 => ret [v107, v108, v109, v110]) fun v113 => names_m cp.b v112 v113) fun names114 => bnd (ret ([] : List (Str × Str × Str × Int × (List (Str × (Str × Int)))))) fun kinds115 => thenB (bnd (bnd (bnd (ret shapes105) fun v116 => ret (List.length v116 : Int)) fun v117 => rangeM 0 v117) fun v143 => forL (fun (x119 : Int) (t118 : (List (Str × Str × Str × Int × (List (Str × (Str × Int)))))) => bnd (bnd (bnd (ret names114) fun v121 => bnd (ret x119) fun v122 => opt (atI v121 v122)) fun v133 => bnd (bnd (bnd (ret shapes105) fun v123 => bnd (ret x119) fun v124 => opt (atI v123 v124)) fun v125 => ret v125.1) fun v134 => bnd (bnd (bnd (ret shapes105) fun v126 => bnd (ret x119) fun v127 => opt (atI v126 v127)) fun v128 => ret v128.2.1) fun v135 => bnd (bnd (ret ()) fun v129 => size_m cp.b) fun v136 => bnd (bnd (bnd (ret shapes105) fun v130 => bnd (ret x119) fun v131 => opt (atI v130 v131)) fun v132 => ret v132.2.2) fun v137 => ret (v133, v134, v135, v136, v137)) fun v138 => bnd (appM t118 v138) fun kinds120 => ret (.nx kinds120)) v143 kinds115) fun (t139 : (List (Str × Str × Str × Int × (List (Str × (Str × Int)))))) => bnd (bnd (ret columns5) fun v140 => bnd (ret t139) fun v141 => ret (v140, v141)) fun v142 => ret (.rt v142) : M S (Fl Unit Empty ((List (Str × Int × Int)) × (List (Str × Str × Str × Int × (List (Str × (Str × Int)))))))) (fun _ => []) (fun e => nomatch e) (.fz (rT2 K (rL (rT3 K rS rI rI)) (rL (rT5 K rS rS rS rI (rD kS (rT2 K rS rI)))))) := (jb_set (i := 4) z rfl (by first | exact .inl rfl | exact .inr rfl) (je_frzL (je_call z C_names hr cp (ja_cons (je_var (r := rBag cp.ab) (x := ()) 0 rfl (pv 0)) (ja_cons (je_add je_int (je_call z C_draw hr cp (ja_cons (je_var (r := rBag cp.ab) (x := ()) 0 rfl (pv 0)) (ja_cons (je_ixL (je_frzL (je_list (jl_cons je_int (jl_cons je_int (jl_nil (r := rI)))))) (je_fdiv (je_var (r := rI) (x := most_kinds2) 2 rfl (pv 2)) je_int)) ja_nil)))) (ja_cons (je_frzL (je_list (jl_cons je_str (jl_cons je_str (jl_cons je_str (jl_cons je_str (jl_nil (r := rS)))))))) ja_nil))))) (fun states23 => (jb_cx (Γ2 := [some (.fz ((rBag cp.ab) ())), some (.fz (rI most_columns1)), some (.fz (rI most_kinds2)), some (.fz ((rL (rT3 K rS rI rI)) columns5)), some (.fz ((rL rS) states23)), none, none, none, none, none, none, none]) (cut_plan_8 cp T C_columns C_names C_draw C_moved C_size hr z hu hu1 most_columns1 most_kinds2 columns5 states23))))
theorem ok_plan {P : Program} {w : World} {K : PySem.W.Frag} {mg : Str → Option Value} {base : Heap} {f : Addr} {fd : FuncData} (F : FnP K "_law_plan" "_law_plan" st_plan [] [] f fd) (T : Txt K mg) (C_columns : FnC P w K mg base "_law_columns" 3 (sp_columns K mg)) (C_names : FnC P w K mg base "_law_names" 2 (sp_names K mg)) (C_draw : FnC P w K mg base "_law_draw" 1 (sp_draw K mg)) (C_moved : FnC P w K mg base "_law_moved" 2 (sp_moved K mg)) (C_size : FnC P w K mg base "_law_size" 2 (sp_size K mg)) : FnOk P w K mg base (L2.CX P w) 4 f fd ["_law_bag_here", "_law_most_columns", "_law_most_kinds"] (sp_plan K mg) := by
  refine fn_mk (k := 3) (mb := fun S R c y => plan_mb c.b y.2.1 y.2.2.1) (Γ0 := fun S R c y => [some (.fz ((rBag c.ab) y.1)), some (.fz (rI y.2.1)), some (.fz (rI y.2.2.1)), none, none, none, none, none, none, none, none, none]) (Γ' := fun _ => []) (Γb := fun e => nomatch e) F sc_plan (fun S R c y vs G h => (len_raC (len_raC (len_raC len_raN))) h) (fun _ _ _ _ => rfl) (fun S R c y vs G h => (so_raC (so_raC (so_raC (so_raN (n := 9))))) h) (fun _ _ _ _ => by exact Nat.le_of_ble_eq_true rfl) (by exact Nat.le_of_ble_eq_true rfl) ?_
  intro cdv A outer s H E Fm S R cp y hr z
  have hu := DL.Room.hu hr
  have hu1 := DL.Room.hu1 hr
  obtain ⟨_, most_columns1, most_kinds2, _⟩ := y
  exact JB.eq (m := (bnd (bnd (ret ()) fun v3 => bnd (ret most_columns1) fun v4 => columns_m cp.b v4) fun columns5 => bnd (bnd (ret ()) fun v20 => bnd (bnd (ret (1 : Int)) fun v14 => bnd (bnd (ret ()) fun v12 => bnd (bnd (bnd (ret (3 : Int)) fun v6 => bnd (ret (7 : Int)) fun v7 => ret [v6, v7]) fun v10 => bnd (bnd (ret most_kinds2) fun v8 => bnd (ret (9 : Int)) fun v9 => fdivM v8 v9) fun v11 => opt (atI v10 v11)) fun v13 => draw_m cp.b v13) fun v15 => ret (v14 + v15)) fun v21 => bnd (bnd (ret ("write" : Str)) fun v16 => bnd (ret ("drop" : Str)) fun v17 => bnd (ret ("before" : Str)) fun v18 => bnd (ret ("after" : Str)) fun v19 => ret [v16, v17, v18, v19]) fun v22 => names_m cp.b v21 v22) fun states23 => bnd (ret ([] : List (Str × Str × (List (Str × (Str × Int)))))) fun shapes24 => thenB (bnd (bnd (bnd (bnd (ret ()) fun v25 => bnd (ret most_kinds2) fun v26 => draw_m cp.b v26) fun v29 => bnd (bnd (ret ()) fun v27 => bnd (ret (2 : Int)) fun v28 => draw_m cp.b v28) fun v30 => ret (if v30 > v29 then v30 else v29)) fun v31 => rangeM 0 v31) fun v144 => forL (fun (x33 : Int) (t32 : (List (Str × Str × (List (Str × (Str × Int)))))) => bnd (bnd (ret ()) fun v34 => bnd (ret (8 : Int)) fun v35 => draw_m cp.b v35) fun choice36 => bnd (bnd (bnd (ret states23) fun v40 => bnd (bnd (ret ()) fun v38 => bnd (bnd (ret states23) fun v37 => ret (List.length v37 : Int)) fun v39 => draw_m cp.b v39) fun v41 => opt (atI v40 v41)) fun v47 => bnd (bnd (ret states23) fun v45 => bnd (bnd (ret ()) fun v43 => bnd (bnd (ret states23) fun v42 => ret (List.length v42 : Int)) fun v44 => draw_m cp.b v44) fun v46 => opt (atI v45 v46)) fun v48 => ret [v47, v48]) fun ends49 => bnd (bnd (ret choice36) fun v50 => bnd (ret (3 : Int)) fun v51 => ret (decide (v50 < v51))) fun v52 => if v52 then (bnd (ret ("absent" : Str)) fun v58 => bnd (bnd (bnd (ret (0 : Int)) fun v53 => bnd (ret (1 : Int)) fun v54 => bnd (ret (1 : Int)) fun v55 => ret [v53, v54, v55]) fun v56 => bnd (ret choice36) fun v57 => opt (atI v56 v57)) fun v59 => bnd (setM ends49 v59 v58) fun ends60 => bnd (bnd (bnd (ret ends60) fun v62 => bnd (ret (0 : Int)) fun v63 => opt (atI v62 v63)) fun v66 => bnd (bnd (ret ends60) fun v64 => bnd (ret (1 : Int)) fun v65 => opt (atI v64 v65)) fun v67 => bnd (ret ([] : List (Str × (Str × Int)))) fun v68 => ret (v66, v67, v68)) fun v69 => bnd (appM t32 v69) fun shapes61 => ret (.nx shapes61)) else (bnd (bnd (bnd (ret ends49) fun v71 => bnd (ret (0 : Int)) fun v72 => opt (atI v71 v72)) fun v77 => bnd (bnd (ret ends49) fun v73 => bnd (ret (1 : Int)) fun v74 => opt (atI v73 v74)) fun v78 => bnd (bnd (ret ()) fun v75 => bnd (ret columns5) fun v76 => moved_m cp.b v76) fun v79 => ret (v77, v78, v79)) fun v80 => bnd (appM t32 v80) fun shapes70 => ret (.nx shapes70))) v144 shapes24) fun (t81 : (List (Str × Str × (List (Str × (Str × Int)))))) => bnd (bnd (ret ()) fun v85 => bnd (bnd (bnd (ret t81) fun v82 => ret (List.length v82 : Int)) fun v83 => bnd (ret (1 : Int)) fun v84 => ret (v83 + v84)) fun v86 => draw_m cp.b v86) fun place87 => bnd (bnd (bnd (bnd (ret t81) fun v88 => bnd (ret place87) fun v89 => ret (cutA v88 none (some v89))) fun v99 => bnd (bnd (bnd (ret ("absent" : Str)) fun v95 => bnd (bnd (ret states23) fun v93 => bnd (bnd (ret ()) fun v91 => bnd (bnd (ret states23) fun v90 => ret (List.length v90 : Int)) fun v92 => draw_m cp.b v92) fun v94 => opt (atI v93 v94)) fun v96 => bnd (ret ([] : List (Str × (Str × Int)))) fun v97 => ret (v95, v96, v97)) fun v98 => ret [v98]) fun v100 => lcatM v99 v100) fun v103 => bnd (bnd (ret t81) fun v101 => bnd (ret place87) fun v102 => ret (cutA v101 (some v102) none)) fun v104 => lcatM v103 v104) fun shapes105 => bnd (bnd (ret ()) fun v111 => bnd (bnd (ret shapes105) fun v106 => ret (List.length v106 : Int)) fun v112 => bnd (bnd (ret ("write" : Str)) fun v107 => bnd (ret ("before" : Str)) fun v108 => bnd (ret ("absent" : Str)) fun v109 => bnd (ret ("drop" : Str)) fun v110 => ret [v107, v108, v109, v110]) fun v113 => names_m cp.b v112 v113) fun names114 => bnd (ret ([] : List (Str × Str × Str × Int × (List (Str × (Str × Int)))))) fun kinds115 => thenB (bnd (bnd (bnd (ret shapes105) fun v116 => ret (List.length v116 : Int)) fun v117 => rangeM 0 v117) fun v143 => forL (fun (x119 : Int) (t118 : (List (Str × Str × Str × Int × (List (Str × (Str × Int)))))) => bnd (bnd (bnd (ret names114) fun v121 => bnd (ret x119) fun v122 => opt (atI v121 v122)) fun v133 => bnd (bnd (bnd (ret shapes105) fun v123 => bnd (ret x119) fun v124 => opt (atI v123 v124)) fun v125 => ret v125.1) fun v134 => bnd (bnd (bnd (ret shapes105) fun v126 => bnd (ret x119) fun v127 => opt (atI v126 v127)) fun v128 => ret v128.2.1) fun v135 => bnd (bnd (ret ()) fun v129 => size_m cp.b) fun v136 => bnd (bnd (bnd (ret shapes105) fun v130 => bnd (ret x119) fun v131 => opt (atI v130 v131)) fun v132 => ret v132.2.2) fun v137 => ret (v133, v134, v135, v136, v137)) fun v138 => bnd (appM t118 v138) fun kinds120 => ret (.nx kinds120)) v143 kinds115) fun (t139 : (List (Str × Str × Str × Int × (List (Str × (Str × Int)))))) => bnd (bnd (ret columns5) fun v140 => bnd (ret t139) fun v141 => ret (v140, v141)) fun v142 => ret (.rt v142) : M S (Fl Unit Empty ((List (Str × Int × Int)) × (List (Str × Str × Str × Int × (List (Str × (Str × Int))))))))) (jb_cx (Γ2 := [some (.fz ((rBag cp.ab) ())), some (.fz (rI most_columns1)), some (.fz (rI most_kinds2)), none, none, none, none, none, none, none, none, none]) (jb_set (i := 3) z rfl (by first | exact .inl rfl | exact .inr rfl) (je_frzL (je_call z C_columns hr cp (ja_cons (je_var (r := rBag cp.ab) (x := ()) 0 rfl (pv 0)) (ja_cons (je_var (r := rI) (x := most_columns1) 1 rfl (pv 1)) ja_nil)))) (fun columns5 => (jb_cx (Γ2 := [some (.fz ((rBag cp.ab) ())), some (.fz (rI most_columns1)), some (.fz (rI most_kinds2)), some (.fz ((rL (rT3 K rS rI rI)) columns5)), none, none, none, none, none, none, none, none]) (cut_plan_9 cp T C_columns C_names C_draw C_moved C_size hr z hu hu1 most_columns1 most_kinds2 columns5))))) (by simp only [ret_bnd, rdM_some, plan_mb])
abbrev st_written : Stmt := (top 30)
theorem sc_written : FnScope ["_law_plan_here", "_law_kind", "_law_column"] ["_law_plan_here", "_law_kind"] (defScope st_written) := ⟨rfl, rfl, rfl, by decide +kernel, rfl, by decide +kernel, by decide +kernel⟩
def written_mb {S : Type} (plan1 : (List (Str × Int × Int)) × (List (Str × Str × Str × Int × (List (Str × (Str × Int)))))) (kind2 : Str × Str × Str × Int × (List (Str × (Str × Int)))) : M S (Fl Unit Empty (List (Str × Int × Int))) := bnd (compM (fun x5 => if (!dhas kind2.2.2.2.2 x5.1) then (ret (!decide (kind2.2.2.1 = ("absent" : Str)))) else ret false) (fun x5 => ret x5) plan1.1) fun v15 => ret (.rt v15)
def written_m {S : Type} (plan1 : (List (Str × Int × Int)) × (List (Str × Str × Str × Int × (List (Str × (Str × Int)))))) (kind2 : Str × Str × Str × Int × (List (Str × (Str × Int)))) : M S (List (Str × Int × Int)) := runF (written_mb plan1 kind2)
abbrev ra_written (K : PySem.W.Frag) (S : Type) (R : S → MP Hp) (c : NoCap S R) : ((List (Str × Int × Int)) × (List (Str × Str × Str × Int × (List (Str × (Str × Int)))))) × (Str × Str × Str × Int × (List (Str × (Str × Int)))) × Unit → List V → Hp → Prop := (raC (rT2 K (rL (rT3 K rS rI rI)) (rL (rT5 K rS rS rS rI (rD kS (rT2 K rS rI))))) (raC (rT5 K rS rS rS rI (rD kS (rT2 K rS rI))) raN))
abbrev f_written (S : Type) (R : S → MP Hp) (c : NoCap S R) (y : ((List (Str × Int × Int)) × (List (Str × Str × Str × Int × (List (Str × (Str × Int)))))) × (Str × Str × Str × Int × (List (Str × (Str × Int)))) × Unit) : M S (List (Str × Int × Int)) := written_m y.1 y.2.1
abbrev sp_written (K : PySem.W.Frag) (mg : Str → Option Value) : Sp := spC mg (ra_written K) (.own (cL (rT3 K rS rI rI))) f_written
theorem ok_written {P : Program} {w : World} {K : PySem.W.Frag} {mg : Str → Option Value} {base : Heap} {f : Addr} {fd : FuncData} (F : FnP K "_law_written" "_law_written" st_written [] [] f fd) (T : Txt K mg) : FnOk P w K mg base (L2.CX P w) 1 f fd ["_law_plan_here", "_law_kind"] (sp_written K mg) := by
  refine fn_mk (k := 0) (mb := fun S R c y => written_mb y.1 y.2.1) (Γ0 := fun S R c y => [some (.fz ((rT2 K (rL (rT3 K rS rI rI)) (rL (rT5 K rS rS rS rI (rD kS (rT2 K rS rI))))) y.1)), some (.fz ((rT5 K rS rS rS rI (rD kS (rT2 K rS rI))) y.2.1)), none]) (Γ' := fun _ => []) (Γb := fun e => nomatch e) F sc_written (fun S R c y vs G h => (len_raC (len_raC len_raN)) h) (fun _ _ _ _ => rfl) (fun S R c y vs G h => (so_raC (so_raC (so_raN (n := 1)))) h) (fun _ _ _ _ => by exact Nat.le_of_ble_eq_true rfl) (by exact Nat.le_of_ble_eq_true rfl) ?_
  intro cdv A outer s H E Fm S R cp y hr z
  have hu := DL.Room.hu hr
  have hu1 := DL.Room.hu1 hr
  obtain ⟨plan1, kind2, _⟩ := y
  exact JB.eq (m := (bnd (bnd (bnd (bnd (ret plan1) fun v3 => ret v3.1) fun v4 => ret v4) fun v14 => compM (fun x5 => bnd (bnd (bnd (ret x5) fun v6 => ret v6.1) fun v8 => bnd (bnd (ret kind2) fun v7 => ret v7.2.2.2.2) fun v9 => ret (!dhas v9 v8)) fun v13 => if v13 then (bnd (bnd (ret kind2) fun v10 => ret v10.2.2.1) fun v11 => bnd (ret ("absent" : Str)) fun v12 => ret (!decide (v11 = v12))) else ret false) (fun x5 => ret x5) v14) fun v15 => ret (.rt v15) : M S (Fl Unit Empty (List (Str × Int × Int))))) (jb_cx (Γ2 := [some (.fz ((rT2 K (rL (rT3 K rS rI rI)) (rL (rT5 K rS rS rS rI (rD kS (rT2 K rS rI))))) plan1)), some (.fz ((rT5 K rS rS rS rI (rD kS (rT2 K rS rI))) kind2)), none]) (jb_one (js_retO (je_comp (own := [("_law_column", 2)]) z (ji_list (je_t2_0 (je_var (r := (rT2 K (rL (rT3 K rS rI rI)) (rL (rT5 K rS rS rS rI (rD kS (rT2 K rS rI)))))) (x := plan1) 0 rfl (pv 0)))) (fun (x5 : Str × Int × Int) => bnd (bnd (bnd (ret x5) fun v6 => ret v6.1) fun v8 => bnd (bnd (ret kind2) fun v7 => ret v7.2.2.2.2) fun v9 => ret (!dhas v9 v8)) fun v13 => if v13 then (bnd (bnd (ret kind2) fun v10 => ret v10.2.2.1) fun v11 => bnd (ret ("absent" : Str)) fun v12 => ret (!decide (v11 = v12))) else ret false) (fun (x5 : Str × Int × Int) => ret x5) (blkOk_by (N := ["_law_plan_here", "_law_kind", "_law_column"]) (sc := defScope st_written) (by decide +kernel)) (fun _ _ _ _ _ _ _ => by exact (jg_name (i := 2) ((ZOk.blk z)).nd rfl (by first | exact .inl rfl | exact .inr rfl))) (fun _ _ _ _ _ _ _ x5 => (jts_one (JW.jt (jw_and (jt_dnin (kt := kS) hu (je_t3_0 (je_var (r := (rT3 K rS rI rI)) (x := x5) 2 rfl (pv 2))) (je_t5_4 (je_var (r := (rT5 K rS rS rS rI (rD kS (rT2 K rS rI)))) (x := kind2) 1 rfl (pv 1)))) (jw_and1 (jt_c c_neS (je_t5_2 (je_var (r := (rT5 K rS rS rS rI (rD kS (rT2 K rS rI)))) (x := kind2) 1 rfl (pv 1))) je_str)))))) (fun _ _ _ _ _ _ _ x5 => (je_var (r := (rT3 K rS rI rI)) (x := x5) 2 rfl (pv 2))))))) (by simp only [ret_bnd, rdM_some, written_mb])
abbrev st_dropped : Stmt := (top 32)
theorem sc_dropped : FnScope ["_law_plan_here", "_law_kind", "_law_passed", "_law_name", "_law_column"] ["_law_plan_here", "_law_kind"] (defScope st_dropped) := ⟨rfl, rfl, rfl, by decide +kernel, rfl, by decide +kernel, by decide +kernel⟩
def dropped_mb {S : Type} (plan1 : (List (Str × Int × Int)) × (List (Str × Str × Str × Int × (List (Str × (Str × Int)))))) (kind2 : Str × Str × Str × Int × (List (Str × (Str × Int)))) : M S (Fl Unit Empty (List Str)) := if (decide (kind2.2.1 = ("absent" : Str))) then (ret (.rt ([] : List Str))) else (bnd (compM (fun x10 => ret true) (fun x10 => bnd (opt (dget kind2.2.2.2.2 x10)) fun v14 => ret v14.1) (List.map (·.1) kind2.2.2.2.2)) fun passed16 => bnd (compM (fun x19 => ret (!decide (x19.1 ∈ passed16))) (fun x19 => ret x19.1) plan1.1) fun v25 => ret (.rt v25))
def dropped_m {S : Type} (plan1 : (List (Str × Int × Int)) × (List (Str × Str × Str × Int × (List (Str × (Str × Int)))))) (kind2 : Str × Str × Str × Int × (List (Str × (Str × Int)))) : M S (List Str) := runF (dropped_mb plan1 kind2)
abbrev ra_dropped (K : PySem.W.Frag) (S : Type) (R : S → MP Hp) (c : NoCap S R) : ((List (Str × Int × Int)) × (List (Str × Str × Str × Int × (List (Str × (Str × Int)))))) × (Str × Str × Str × Int × (List (Str × (Str × Int)))) × Unit → List V → Hp → Prop := (raC (rT2 K (rL (rT3 K rS rI rI)) (rL (rT5 K rS rS rS rI (rD kS (rT2 K rS rI))))) (raC (rT5 K rS rS rS rI (rD kS (rT2 K rS rI))) raN))
abbrev f_dropped (S : Type) (R : S → MP Hp) (c : NoCap S R) (y : ((List (Str × Int × Int)) × (List (Str × Str × Str × Int × (List (Str × (Str × Int)))))) × (Str × Str × Str × Int × (List (Str × (Str × Int)))) × Unit) : M S (List Str) := dropped_m y.1 y.2.1
abbrev sp_dropped (K : PySem.W.Frag) (mg : Str → Option Value) : Sp := spC mg (ra_dropped K) (.own (cL rS)) f_dropped
theorem cut_dropped_0 {P : Program} {w : World} {K : PySem.W.Frag} {mg : Str → Option Value} {base : Heap} {f : Addr} {cdv : Value} {A : Around} {outer : List Env} {s : Shared} {H : Hp} {E : XK} {Fm : Fm} {S : Type} {R : S → MP Hp} (T : Txt K mg) (hr : Room 0 (A.deeper (envOfC "_law_dropped" (defScope st_dropped) s.heap.objs.size f cdv))) (z : ZOk (ZF P w K mg base ["_law_plan_here", "_law_kind", "_law_passed", "_law_name", "_law_column"] "_law_dropped" (defScope st_dropped) f cdv A outer s H E Fm S R)) (hu : (A.deeper (envOfC "_law_dropped" (defScope st_dropped) s.heap.objs.size f cdv)).units + 65 < cLine) (hu1 : (A.deeper (envOfC "_law_dropped" (defScope st_dropped) s.heap.objs.size f cdv)).units + 1 < cLine) (plan1 : (List (Str × Int × Int)) × (List (Str × Str × Str × Int × (List (Str × (Str × Int)))))) (kind2 : Str × Str × Str × Int × (List (Str × (Str × Int)))) (passed16 : List Str) : JB (ZF P w K mg base ["_law_plan_here", "_law_kind", "_law_passed", "_law_name", "_law_column"] "_law_dropped" (defScope st_dropped) f cdv A outer s H E Fm S R) [some (.fz ((rT2 K (rL (rT3 K rS rI rI)) (rL (rT5 K rS rS rS rI (rD kS (rT2 K rS rI))))) plan1)), some (.fz ((rT5 K rS rS rS rI (rD kS (rT2 K rS rI))) kind2)), some (.fz ((rL rS) passed16)), none, none] (List.drop 2 (defBody st_dropped)) (bnd (bnd (bnd (bnd (ret plan1) fun v17 => ret v17.1) fun v18 => ret v18) fun v24 => compM (fun x19 => bnd (bnd (ret x19) fun v20 => ret v20.1) fun v21 => bnd (ret passed16) fun v22 => ret (!decide (v21 ∈ v22))) (fun x19 => bnd (ret x19) fun v23 => ret v23.1) v24) fun v25 => ret (.rt v25) : M S (Fl Unit Empty (List Str))) (fun _ => []) (fun e => nomatch e) (.own (cL rS)) := (jb_one (js_retO (je_comp (own := [("_law_column", 4)]) z (ji_list (je_t2_0 (je_var (r := (rT2 K (rL (rT3 K rS rI rI)) (rL (rT5 K rS rS rS rI (rD kS (rT2 K rS rI)))))) (x := plan1) 0 rfl (pv 0)))) (fun (x19 : Str × Int × Int) => bnd (bnd (ret x19) fun v20 => ret v20.1) fun v21 => bnd (ret passed16) fun v22 => ret (!decide (v21 ∈ v22))) (fun (x19 : Str × Int × Int) => bnd (ret x19) fun v23 => ret v23.1) (blkOk_by (N := ["_law_plan_here", "_law_kind", "_law_passed", "_law_name", "_law_column"]) (sc := defScope st_dropped) (by decide +kernel)) (fun _ _ _ _ _ _ _ => by exact (jg_name (i := 4) ((ZOk.blk z)).nd rfl (by first | exact .inl rfl | exact .inr rfl))) (fun _ _ _ _ _ _ _ x19 => (jts_one (jt_ninL flS (je_t3_0 (je_var (r := (rT3 K rS rI rI)) (x := x19) 4 rfl (pv 4))) (je_var (r := (rL rS)) (x := passed16) 2 rfl (pv 2))))) (fun _ _ _ _ _ _ _ x19 => (je_t3_0 (je_var (r := (rT3 K rS rI rI)) (x := x19) 4 rfl (pv 4)))))))
theorem cut_dropped_1 {P : Program} {w : World} {K : PySem.W.Frag} {mg : Str → Option Value} {base : Heap} {f : Addr} {cdv : Value} {A : Around} {outer : List Env} {s : Shared} {H : Hp} {E : XK} {Fm : Fm} {S : Type} {R : S → MP Hp} (T : Txt K mg) (hr : Room 0 (A.deeper (envOfC "_law_dropped" (defScope st_dropped) s.heap.objs.size f cdv))) (z : ZOk (ZF P w K mg base ["_law_plan_here", "_law_kind", "_law_passed", "_law_name", "_law_column"] "_law_dropped" (defScope st_dropped) f cdv A outer s H E Fm S R)) (hu : (A.deeper (envOfC "_law_dropped" (defScope st_dropped) s.heap.objs.size f cdv)).units + 65 < cLine) (hu1 : (A.deeper (envOfC "_law_dropped" (defScope st_dropped) s.heap.objs.size f cdv)).units + 1 < cLine) (plan1 : (List (Str × Int × Int)) × (List (Str × Str × Str × Int × (List (Str × (Str × Int)))))) (kind2 : Str × Str × Str × Int × (List (Str × (Str × Int)))) : JB (ZF P w K mg base ["_law_plan_here", "_law_kind", "_law_passed", "_law_name", "_law_column"] "_law_dropped" (defScope st_dropped) f cdv A outer s H E Fm S R) [some (.fz ((rT2 K (rL (rT3 K rS rI rI)) (rL (rT5 K rS rS rS rI (rD kS (rT2 K rS rI))))) plan1)), some (.fz ((rT5 K rS rS rS rI (rD kS (rT2 K rS rI))) kind2)), none, none, none] (List.drop 1 (defBody st_dropped)) (bnd (bnd (bnd (bnd (ret kind2) fun v8 => ret v8.2.2.2.2) fun v9 => ret (List.map (·.1) v9)) fun v15 => compM (fun x10 => ret true) (fun x10 => bnd (bnd (bnd (ret kind2) fun v11 => ret v11.2.2.2.2) fun v12 => bnd (ret x10) fun v13 => opt (dget v12 v13)) fun v14 => ret v14.1) v15) fun passed16 => bnd (bnd (bnd (bnd (ret plan1) fun v17 => ret v17.1) fun v18 => ret v18) fun v24 => compM (fun x19 => bnd (bnd (ret x19) fun v20 => ret v20.1) fun v21 => bnd (ret passed16) fun v22 => ret (!decide (v21 ∈ v22))) (fun x19 => bnd (ret x19) fun v23 => ret v23.1) v24) fun v25 => ret (.rt v25) : M S (Fl Unit Empty (List Str))) (fun _ => []) (fun e => nomatch e) (.own (cL rS)) := (jb_setO (i := 2) z rfl (by first | exact .inl rfl | exact .inr rfl) (je_comp (own := [("_law_name", 3)]) z (ji_keys (kt := kS) (je_t5_4 (je_var (r := (rT5 K rS rS rS rI (rD kS (rT2 K rS rI)))) (x := kind2) 1 rfl (pv 1)))) (fun (x10 : Str) => ret true) (fun (x10 : Str) => bnd (bnd (bnd (ret kind2) fun v11 => ret v11.2.2.2.2) fun v12 => bnd (ret x10) fun v13 => opt (dget v12 v13)) fun v14 => ret v14.1) (blkOk_by (N := ["_law_plan_here", "_law_kind", "_law_passed", "_law_name", "_law_column"]) (sc := defScope st_dropped) (by decide +kernel)) (fun _ _ _ _ _ _ _ => by exact (jg_name (i := 3) ((ZOk.blk z)).nd rfl (by first | exact .inl rfl | exact .inr rfl))) (fun _ _ _ _ _ _ _ x10 => jts_nil) (fun _ _ _ _ _ _ _ x10 => (je_t2_0 (je_dget (kt := kS) hu (je_t5_4 (je_var (r := (rT5 K rS rS rS rI (rD kS (rT2 K rS rI)))) (x := kind2) 1 rfl (pv 1))) (je_var (r := rS) (x := x10) 3 rfl (pv 3)))))) (fun passed16 => (jb_frzL (k := 2) rfl (jb_cx (Γ2 := [some (.fz ((rT2 K (rL (rT3 K rS rI rI)) (rL (rT5 K rS rS rS rI (rD kS (rT2 K rS rI))))) plan1)), some (.fz ((rT5 K rS rS rS rI (rD kS (rT2 K rS rI))) kind2)), some (.fz ((rL rS) passed16)), none, none]) (cut_dropped_0 T hr z hu hu1 plan1 kind2 passed16)))))
theorem ok_dropped {P : Program} {w : World} {K : PySem.W.Frag} {mg : Str → Option Value} {base : Heap} {f : Addr} {fd : FuncData} (F : FnP K "_law_dropped" "_law_dropped" st_dropped [] [] f fd) (T : Txt K mg) : FnOk P w K mg base (L2.CX P w) 1 f fd ["_law_plan_here", "_law_kind"] (sp_dropped K mg) := by
  refine fn_mk (k := 0) (mb := fun S R c y => dropped_mb y.1 y.2.1) (Γ0 := fun S R c y => [some (.fz ((rT2 K (rL (rT3 K rS rI rI)) (rL (rT5 K rS rS rS rI (rD kS (rT2 K rS rI))))) y.1)), some (.fz ((rT5 K rS rS rS rI (rD kS (rT2 K rS rI))) y.2.1)), none, none, none]) (Γ' := fun _ => []) (Γb := fun e => nomatch e) F sc_dropped (fun S R c y vs G h => (len_raC (len_raC len_raN)) h) (fun _ _ _ _ => rfl) (fun S R c y vs G h => (so_raC (so_raC (so_raN (n := 3)))) h) (fun _ _ _ _ => by exact Nat.le_of_ble_eq_true rfl) (by exact Nat.le_of_ble_eq_true rfl) ?_
  intro cdv A outer s H E Fm S R cp y hr z
  have hu := DL.Room.hu hr
  have hu1 := DL.Room.hu1 hr
  obtain ⟨plan1, kind2, _⟩ := y
  exact JB.eq (m := (bnd (bnd (bnd (ret kind2) fun v3 => ret v3.2.1) fun v4 => bnd (ret ("absent" : Str)) fun v5 => ret (decide (v4 = v5))) fun v6 => if v6 then (bnd (ret ([] : List Str)) fun v7 => ret (.rt v7)) else (bnd (bnd (bnd (bnd (ret kind2) fun v8 => ret v8.2.2.2.2) fun v9 => ret (List.map (·.1) v9)) fun v15 => compM (fun x10 => ret true) (fun x10 => bnd (bnd (bnd (ret kind2) fun v11 => ret v11.2.2.2.2) fun v12 => bnd (ret x10) fun v13 => opt (dget v12 v13)) fun v14 => ret v14.1) v15) fun passed16 => bnd (bnd (bnd (bnd (ret plan1) fun v17 => ret v17.1) fun v18 => ret v18) fun v24 => compM (fun x19 => bnd (bnd (ret x19) fun v20 => ret v20.1) fun v21 => bnd (ret passed16) fun v22 => ret (!decide (v21 ∈ v22))) (fun x19 => bnd (ret x19) fun v23 => ret v23.1) v24) fun v25 => ret (.rt v25)) : M S (Fl Unit Empty (List Str)))) (jb_cx (Γ2 := [some (.fz ((rT2 K (rL (rT3 K rS rI rI)) (rL (rT5 K rS rS rS rI (rD kS (rT2 K rS rI))))) plan1)), some (.fz ((rT5 K rS rS rS rI (rD kS (rT2 K rS rI))) kind2)), none, none, none]) (jb_ifR (jt_c c_eqS (je_t5_1 (je_var (r := (rT5 K rS rS rS rI (rD kS (rT2 K rS rI)))) (x := kind2) 1 rfl (pv 1))) je_str) (jb_cx (Γ2 := [some (.fz ((rT2 K (rL (rT3 K rS rI rI)) (rL (rT5 K rS rS rS rI (rD kS (rT2 K rS rI))))) plan1)), some (.fz ((rT5 K rS rS rS rI (rD kS (rT2 K rS rI))) kind2)), none, none, none]) (jb_one (js_retO (je_list (jl_nil (r := rS)))))) (by repeat' first | exact nn_rt | exact nn_rse | exact nn_ct | exact nn_bk | exact nn_stk | refine nn_if ?_ ?_ | (refine nn_bnd ?_; intro _) | (refine nn_then ?_; intro _)) (jb_cx (Γ2 := [some (.fz ((rT2 K (rL (rT3 K rS rI rI)) (rL (rT5 K rS rS rS rI (rD kS (rT2 K rS rI))))) plan1)), some (.fz ((rT5 K rS rS rS rI (rD kS (rT2 K rS rI))) kind2)), none, none, none]) (cut_dropped_1 T hr z hu hu1 plan1 kind2)))) (by simp only [ret_bnd, rdM_some, dropped_mb])
abbrev st_turned_moves : Stmt := (top 31)
theorem sc_turned_moves : FnScope ["_law_plan_here", "_law_kinds", "_law_kind", "_law_moved_here", "_law_name"] ["_law_plan_here"] (defScope st_turned_moves) := ⟨rfl, rfl, rfl, by decide +kernel, rfl, by decide +kernel, by decide +kernel⟩
def turned_moves_mb {S : Type} (plan1 : (List (Str × Int × Int)) × (List (Str × Str × Str × Int × (List (Str × (Str × Int)))))) : M S (Fl Unit Empty ((List (Str × Int × Int)) × (List (Str × Str × Str × Int × (List (Str × (Str × Int))))))) := thenB (forL (fun (x6 : Str × Str × Str × Int × (List (Str × (Str × Int)))) (t5 : (List (Str × Str × Str × Int × (List (Str × (Str × Int)))))) => thenB (forL (fun (x13 : Str) (t12 : (List (Str × (Str × Int)))) => bnd (opt (dget x6.2.2.2.2 x13)) fun v17 => bnd (dputM t12 x13 v17) fun moved19 => ret (.nx moved19)) (List.reverse (List.map (·.1) x6.2.2.2.2)) ([] : List (Str × (Str × Int)))) fun (t20 : (List (Str × (Str × Int)))) => bnd (appM t5 (x6.1, x6.2.1, x6.2.2.1, x6.2.2.2.1, t20)) fun kinds21 => ret (.nx kinds21)) plan1.2 ([] : List (Str × Str × Str × Int × (List (Str × (Str × Int)))))) fun (t33 : (List (Str × Str × Str × Int × (List (Str × (Str × Int)))))) => ret (.rt (plan1.1, t33))
def turned_moves_m {S : Type} (plan1 : (List (Str × Int × Int)) × (List (Str × Str × Str × Int × (List (Str × (Str × Int)))))) : M S ((List (Str × Int × Int)) × (List (Str × Str × Str × Int × (List (Str × (Str × Int)))))) := runF (turned_moves_mb plan1)
abbrev ra_turned_moves (K : PySem.W.Frag) (S : Type) (R : S → MP Hp) (c : NoCap S R) : ((List (Str × Int × Int)) × (List (Str × Str × Str × Int × (List (Str × (Str × Int)))))) × Unit → List V → Hp → Prop := (raC (rT2 K (rL (rT3 K rS rI rI)) (rL (rT5 K rS rS rS rI (rD kS (rT2 K rS rI))))) raN)
abbrev f_turned_moves (S : Type) (R : S → MP Hp) (c : NoCap S R) (y : ((List (Str × Int × Int)) × (List (Str × Str × Str × Int × (List (Str × (Str × Int)))))) × Unit) : M S ((List (Str × Int × Int)) × (List (Str × Str × Str × Int × (List (Str × (Str × Int)))))) := turned_moves_m y.1
abbrev sp_turned_moves (K : PySem.W.Frag) (mg : Str → Option Value) : Sp := spC mg (ra_turned_moves K) (.fz (rT2 K (rL (rT3 K rS rI rI)) (rL (rT5 K rS rS rS rI (rD kS (rT2 K rS rI)))))) f_turned_moves
theorem cut_turned_moves_0 {P : Program} {w : World} {K : PySem.W.Frag} {mg : Str → Option Value} {base : Heap} {f : Addr} {cdv : Value} {A : Around} {outer : List Env} {s : Shared} {H : Hp} {E : XK} {Fm : Fm} {S : Type} {R : S → MP Hp} (T : Txt K mg) (hr : Room 0 (A.deeper (envOfC "_law_turned_moves" (defScope st_turned_moves) s.heap.objs.size f cdv))) (z : ZOk (ZF P w K mg base ["_law_plan_here", "_law_kinds", "_law_kind", "_law_moved_here", "_law_name"] "_law_turned_moves" (defScope st_turned_moves) f cdv A outer s H E Fm S R)) (hu : (A.deeper (envOfC "_law_turned_moves" (defScope st_turned_moves) s.heap.objs.size f cdv)).units + 65 < cLine) (hu1 : (A.deeper (envOfC "_law_turned_moves" (defScope st_turned_moves) s.heap.objs.size f cdv)).units + 1 < cLine) (plan1 : (List (Str × Int × Int)) × (List (Str × Str × Str × Int × (List (Str × (Str × Int)))))) (t33 : (List (Str × Str × Str × Int × (List (Str × (Str × Int)))))) : JB (ZF P w K mg base ["_law_plan_here", "_law_kinds", "_law_kind", "_law_moved_here", "_law_name"] "_law_turned_moves" (defScope st_turned_moves) f cdv A outer s H E Fm S R) [some (.fz ((rT2 K (rL (rT3 K rS rI rI)) (rL (rT5 K rS rS rS rI (rD kS (rT2 K rS rI))))) plan1)), some (.fz ((rL (rT5 K rS rS rS rI (rD kS (rT2 K rS rI)))) t33)), none, none, none] (List.drop 2 (defBody st_turned_moves)) (bnd (bnd (bnd (ret plan1) fun v34 => ret v34.1) fun v35 => bnd (ret t33) fun v36 => ret (v35, v36)) fun v37 => ret (.rt v37) : M S (Fl Unit Empty ((List (Str × Int × Int)) × (List (Str × Str × Str × Int × (List (Str × (Str × Int)))))))) (fun _ => []) (fun e => nomatch e) (.fz (rT2 K (rL (rT3 K rS rI rI)) (rL (rT5 K rS rS rS rI (rD kS (rT2 K rS rI)))))) := (jb_one (js_ret (je_tup2 (ja_cons (je_t2_0 (je_var (r := (rT2 K (rL (rT3 K rS rI rI)) (rL (rT5 K rS rS rS rI (rD kS (rT2 K rS rI)))))) (x := plan1) 0 rfl (pv 0))) (ja_cons (je_var (r := (rL (rT5 K rS rS rS rI (rD kS (rT2 K rS rI))))) (x := t33) 1 rfl (pv 1)) ja_nil)))))
theorem cut_turned_moves_1 {P : Program} {w : World} {K : PySem.W.Frag} {mg : Str → Option Value} {base : Heap} {f : Addr} {cdv : Value} {A : Around} {outer : List Env} {s : Shared} {H : Hp} {E : XK} {Fm : Fm} {S : Type} {R : S → MP Hp} (T : Txt K mg) (hr : Room 0 (A.deeper (envOfC "_law_turned_moves" (defScope st_turned_moves) s.heap.objs.size f cdv))) (z : ZOk (ZF P w K mg base ["_law_plan_here", "_law_kinds", "_law_kind", "_law_moved_here", "_law_name"] "_law_turned_moves" (defScope st_turned_moves) f cdv A outer s H E Fm S R)) (hu : (A.deeper (envOfC "_law_turned_moves" (defScope st_turned_moves) s.heap.objs.size f cdv)).units + 65 < cLine) (hu1 : (A.deeper (envOfC "_law_turned_moves" (defScope st_turned_moves) s.heap.objs.size f cdv)).units + 1 < cLine) (plan1 : (List (Str × Int × Int)) × (List (Str × Str × Str × Int × (List (Str × (Str × Int)))))) (t33 : (List (Str × Str × Str × Int × (List (Str × (Str × Int)))))) : JB (ZF P w K mg base ["_law_plan_here", "_law_kinds", "_law_kind", "_law_moved_here", "_law_name"] "_law_turned_moves" (defScope st_turned_moves) f cdv A outer s H E Fm S R) [some (.fz ((rT2 K (rL (rT3 K rS rI rI)) (rL (rT5 K rS rS rS rI (rD kS (rT2 K rS rI))))) plan1)), some (.lv ((cL (rT5 K rS rS rS rI (rD kS (rT2 K rS rI)))) t33)), none, none, none] (List.drop 2 (defBody st_turned_moves)) (bnd (bnd (bnd (ret plan1) fun v34 => ret v34.1) fun v35 => bnd (ret t33) fun v36 => ret (v35, v36)) fun v37 => ret (.rt v37) : M S (Fl Unit Empty ((List (Str × Int × Int)) × (List (Str × Str × Str × Int × (List (Str × (Str × Int)))))))) (fun _ => []) (fun e => nomatch e) (.fz (rT2 K (rL (rT3 K rS rI rI)) (rL (rT5 K rS rS rS rI (rD kS (rT2 K rS rI)))))) := (jb_frzL (k := 1) rfl (jb_cx (Γ2 := [some (.fz ((rT2 K (rL (rT3 K rS rI rI)) (rL (rT5 K rS rS rS rI (rD kS (rT2 K rS rI))))) plan1)), some (.fz ((rL (rT5 K rS rS rS rI (rD kS (rT2 K rS rI)))) t33)), none, none, none]) (cut_turned_moves_0 T hr z hu hu1 plan1 t33)))
theorem cut_turned_moves_2 {P : Program} {w : World} {K : PySem.W.Frag} {mg : Str → Option Value} {base : Heap} {f : Addr} {cdv : Value} {A : Around} {outer : List Env} {s : Shared} {H : Hp} {E : XK} {Fm : Fm} {S : Type} {R : S → MP Hp} (T : Txt K mg) (hr : Room 0 (A.deeper (envOfC "_law_turned_moves" (defScope st_turned_moves) s.heap.objs.size f cdv))) (z : ZOk (ZF P w K mg base ["_law_plan_here", "_law_kinds", "_law_kind", "_law_moved_here", "_law_name"] "_law_turned_moves" (defScope st_turned_moves) f cdv A outer s H E Fm S R)) (hu : (A.deeper (envOfC "_law_turned_moves" (defScope st_turned_moves) s.heap.objs.size f cdv)).units + 65 < cLine) (hu1 : (A.deeper (envOfC "_law_turned_moves" (defScope st_turned_moves) s.heap.objs.size f cdv)).units + 1 < cLine) (plan1 : (List (Str × Int × Int)) × (List (Str × Str × Str × Int × (List (Str × (Str × Int)))))) (kinds2 : List (Str × Str × Str × Int × (List (Str × (Str × Int))))) : JB (ZF P w K mg base ["_law_plan_here", "_law_kinds", "_law_kind", "_law_moved_here", "_law_name"] "_law_turned_moves" (defScope st_turned_moves) f cdv A outer s H E Fm S R) [some (.fz ((rT2 K (rL (rT3 K rS rI rI)) (rL (rT5 K rS rS rS rI (rD kS (rT2 K rS rI))))) plan1)), some (.lv ((cL (rT5 K rS rS rS rI (rD kS (rT2 K rS rI)))) kinds2)), none, none, none] (List.drop 1 (defBody st_turned_moves)) (thenB (bnd (bnd (bnd (ret plan1) fun v3 => ret v3.2) fun v4 => ret v4) fun v38 => forL (fun (x6 : Str × Str × Str × Int × (List (Str × (Str × Int)))) (t5 : (List (Str × Str × Str × Int × (List (Str × (Str × Int)))))) => bnd (ret ([] : List (Str × (Str × Int)))) fun moved7 => thenB (bnd (bnd (bnd (bnd (bnd (ret x6) fun v8 => ret v8.2.2.2.2) fun v9 => ret (List.map (·.1) v9)) fun v10 => ret (List.reverse v10)) fun v11 => ret v11) fun v32 => forL (fun (x13 : Str) (t12 : (List (Str × (Str × Int)))) => bnd (bnd (bnd (ret x6) fun v14 => ret v14.2.2.2.2) fun v15 => bnd (ret x13) fun v16 => opt (dget v15 v16)) fun v17 => bnd (ret x13) fun v18 => bnd (dputM t12 v18 v17) fun moved19 => ret (.nx moved19)) v32 moved7) fun (t20 : (List (Str × (Str × Int)))) => bnd (bnd (bnd (ret x6) fun v22 => ret v22.1) fun v26 => bnd (bnd (ret x6) fun v23 => ret v23.2.1) fun v27 => bnd (bnd (ret x6) fun v24 => ret v24.2.2.1) fun v28 => bnd (bnd (ret x6) fun v25 => ret v25.2.2.2.1) fun v29 => bnd (ret t20) fun v30 => ret (v26, v27, v28, v29, v30)) fun v31 => bnd (appM t5 v31) fun kinds21 => ret (.nx kinds21)) v38 kinds2) fun (t33 : (List (Str × Str × Str × Int × (List (Str × (Str × Int)))))) => bnd (bnd (bnd (ret plan1) fun v34 => ret v34.1) fun v35 => bnd (ret t33) fun v36 => ret (v35, v36)) fun v37 => ret (.rt v37) : M S (Fl Unit Empty ((List (Str × Int × Int)) × (List (Str × Str × Str × Int × (List (Str × (Str × Int)))))))) (fun _ => []) (fun e => nomatch e) (.fz (rT2 K (rL (rT3 K rS rI rI)) (rL (rT5 K rS rS rS rI (rD kS (rT2 K rS rI)))))) := (jb_seq (Γ1 := fun t5 : (List (Str × Str × Str × Int × (List (Str × (Str × Int))))) => [some (.fz ((rT2 K (rL (rT3 K rS rI rI)) (rL (rT5 K rS rS rS rI (rD kS (rT2 K rS rI))))) plan1)), some (.lv ((cL (rT5 K rS rS rS rI (rD kS (rT2 K rS rI)))) t5)), none, none, none]) (js_for (n := 5) (t0 := kinds2) z (ji_list (je_t2_1 (je_var (r := (rT2 K (rL (rT3 K rS rI rI)) (rL (rT5 K rS rS rS rI (rD kS (rT2 K rS rI)))))) (x := plan1) 0 rfl (pv 0)))) (jg_name (i := 2) (z).nd rfl (by first | exact .inl rfl | exact .inr rfl)) (Le.some (Le.some (Le.none (Le.none (Le.none Le.nil))))) (fun x6 t5 => (jb_cx (Γ2 := [some (.fz ((rT2 K (rL (rT3 K rS rI rI)) (rL (rT5 K rS rS rS rI (rD kS (rT2 K rS rI))))) plan1)), some (.lv ((cL (rT5 K rS rS rS rI (rD kS (rT2 K rS rI)))) t5)), some (.fz ((rT5 K rS rS rS rI (rD kS (rT2 K rS rI))) x6)), none, none]) (jb_setO (i := 3) z rfl (by first | exact .inl rfl | exact .inr rfl) (je_dict0 (k := kS) (r := (rT2 K rS rI))) (fun moved7 => (jb_cx (Γ2 := [some (.fz ((rT2 K (rL (rT3 K rS rI rI)) (rL (rT5 K rS rS rS rI (rD kS (rT2 K rS rI))))) plan1)), some (.lv ((cL (rT5 K rS rS rS rI (rD kS (rT2 K rS rI)))) t5)), some (.fz ((rT5 K rS rS rS rI (rD kS (rT2 K rS rI))) x6)), some (.lv ((cD kS (rT2 K rS rI)) moved7)), none]) (jb_seq (Γ1 := fun t12 : (List (Str × (Str × Int))) => [some (.fz ((rT2 K (rL (rT3 K rS rI rI)) (rL (rT5 K rS rS rS rI (rD kS (rT2 K rS rI))))) plan1)), some (.lv ((cL (rT5 K rS rS rS rI (rD kS (rT2 K rS rI)))) t5)), some (.fz ((rT5 K rS rS rS rI (rD kS (rT2 K rS rI))) x6)), some (.lv ((cD kS (rT2 K rS rI)) t12)), none]) (js_for (n := 5) (t0 := moved7) z (ji_list (je_frzL (je_rev (je_frzL (je_listD z (by rfl) T.f_list (je_t5_4 (je_var (r := (rT5 K rS rS rS rI (rD kS (rT2 K rS rI)))) (x := x6) 2 rfl (pv 2)))))))) (jg_name (i := 4) (z).nd rfl (by first | exact .inl rfl | exact .inr rfl)) (Le.some (Le.some (Le.some (Le.some (Le.none Le.nil))))) (fun x13 t12 => (jb_cx (Γ2 := [some (.fz ((rT2 K (rL (rT3 K rS rI rI)) (rL (rT5 K rS rS rS rI (rD kS (rT2 K rS rI))))) plan1)), some (.lv ((cL (rT5 K rS rS rS rI (rD kS (rT2 K rS rI)))) t5)), some (.fz ((rT5 K rS rS rS rI (rD kS (rT2 K rS rI))) x6)), some (.lv ((cD kS (rT2 K rS rI)) t12)), some (.fz (rS x13))]) (jb_dput (kt := kS) (k := 3) rfl (pv 3) (je_dget (kt := kS) hu (je_t5_4 (je_var (r := (rT5 K rS rS rS rI (rD kS (rT2 K rS rI)))) (x := x6) 2 rfl (pv 2))) (je_var (r := rS) (x := x13) 4 rfl (pv 4))) (je_var (r := rS) (x := x13) 4 rfl (pv 4)) (fun moved19 => (jb_cx (Γ2 := [some (.fz ((rT2 K (rL (rT3 K rS rI rI)) (rL (rT5 K rS rS rS rI (rD kS (rT2 K rS rI))))) plan1)), some (.lv ((cL (rT5 K rS rS rS rI (rD kS (rT2 K rS rI)))) t5)), some (.fz ((rT5 K rS rS rS rI (rD kS (rT2 K rS rI))) x6)), some (.lv ((cD kS (rT2 K rS rI)) moved19)), some (.fz (rS x13))]) (jb_nil (t := moved19) (Le.some (Le.some (Le.some (Le.some (Le.none Le.nil)))))))) (ps_dput hu1 (pv 3) (JE.pe (je_var (r := rS) (x := x13) 4 rfl (pv 4))) (JE.pe (je_dget (kt := kS) hu (je_t5_4 (je_var (r := (rT5 K rS rS rS rI (rD kS (rT2 K rS rI)))) (x := x6) 2 rfl (pv 2))) (je_var (r := rS) (x := x13) 4 rfl (pv 4)))) rfl))))) (fun t20 => (jb_cx (Γ2 := [some (.fz ((rT2 K (rL (rT3 K rS rI rI)) (rL (rT5 K rS rS rS rI (rD kS (rT2 K rS rI))))) plan1)), some (.lv ((cL (rT5 K rS rS rS rI (rD kS (rT2 K rS rI)))) t5)), some (.fz ((rT5 K rS rS rS rI (rD kS (rT2 K rS rI))) x6)), some (.lv ((cD kS (rT2 K rS rI)) t20)), none]) (jb_frzD (k := 3) rfl (jb_cx (Γ2 := [some (.fz ((rT2 K (rL (rT3 K rS rI rI)) (rL (rT5 K rS rS rS rI (rD kS (rT2 K rS rI))))) plan1)), some (.lv ((cL (rT5 K rS rS rS rI (rD kS (rT2 K rS rI)))) t5)), some (.fz ((rT5 K rS rS rS rI (rD kS (rT2 K rS rI))) x6)), some (.fz ((rD kS (rT2 K rS rI)) t20)), none]) (jb_append (k := 1) rfl (pv 1) (je_tup5 (ja_cons (je_t5_0 (je_var (r := (rT5 K rS rS rS rI (rD kS (rT2 K rS rI)))) (x := x6) 2 rfl (pv 2))) (ja_cons (je_t5_1 (je_var (r := (rT5 K rS rS rS rI (rD kS (rT2 K rS rI)))) (x := x6) 2 rfl (pv 2))) (ja_cons (je_t5_2 (je_var (r := (rT5 K rS rS rS rI (rD kS (rT2 K rS rI)))) (x := x6) 2 rfl (pv 2))) (ja_cons (je_t5_3 (je_var (r := (rT5 K rS rS rS rI (rD kS (rT2 K rS rI)))) (x := x6) 2 rfl (pv 2))) (ja_cons (je_var (r := (rD kS (rT2 K rS rI))) (x := t20) 3 rfl (pv 3)) ja_nil)))))) (fun kinds21 => (jb_cx (Γ2 := [some (.fz ((rT2 K (rL (rT3 K rS rI rI)) (rL (rT5 K rS rS rS rI (rD kS (rT2 K rS rI))))) plan1)), some (.lv ((cL (rT5 K rS rS rS rI (rD kS (rT2 K rS rI)))) kinds21)), some (.fz ((rT5 K rS rS rS rI (rD kS (rT2 K rS rI))) x6)), some (.fz ((rD kS (rT2 K rS rI)) t20)), none]) (jb_nil (t := kinds21) (Le.some (Le.some (Le.none (Le.none (Le.none Le.nil)))))))) (ps_expr (pe_bm PySem.F.plainAttrs_list PySem.F.slot_list_append PySem.F.type_list_append mt_append (pv 1) (pa_cons (JE.pe (je_tup5 (ja_cons (je_t5_0 (je_var (r := (rT5 K rS rS rS rI (rD kS (rT2 K rS rI)))) (x := x6) 2 rfl (pv 2))) (ja_cons (je_t5_1 (je_var (r := (rT5 K rS rS rS rI (rD kS (rT2 K rS rI)))) (x := x6) 2 rfl (pv 2))) (ja_cons (je_t5_2 (je_var (r := (rT5 K rS rS rS rI (rD kS (rT2 K rS rI)))) (x := x6) 2 rfl (pv 2))) (ja_cons (je_t5_3 (je_var (r := (rT5 K rS rS rS rI (rD kS (rT2 K rS rI)))) (x := x6) 2 rfl (pv 2))) (ja_cons (je_var (r := (rD kS (rT2 K rS rI))) (x := t20) 3 rfl (pv 3)) ja_nil))))))) pa_nil))))))))))))))) (fun t33 => (jb_cx (Γ2 := [some (.fz ((rT2 K (rL (rT3 K rS rI rI)) (rL (rT5 K rS rS rS rI (rD kS (rT2 K rS rI))))) plan1)), some (.lv ((cL (rT5 K rS rS rS rI (rD kS (rT2 K rS rI)))) t33)), none, none, none]) (cut_turned_moves_1 T hr z hu hu1 plan1 t33))))
theorem ok_turned_moves {P : Program} {w : World} {K : PySem.W.Frag} {mg : Str → Option Value} {base : Heap} {f : Addr} {fd : FuncData} (F : FnP K "_law_turned_moves" "_law_turned_moves" st_turned_moves [] [] f fd) (T : Txt K mg) : FnOk P w K mg base (L2.CX P w) 1 f fd ["_law_plan_here"] (sp_turned_moves K mg) := by
  refine fn_mk (k := 0) (mb := fun S R c y => turned_moves_mb y.1) (Γ0 := fun S R c y => [some (.fz ((rT2 K (rL (rT3 K rS rI rI)) (rL (rT5 K rS rS rS rI (rD kS (rT2 K rS rI))))) y.1)), none, none, none, none]) (Γ' := fun _ => []) (Γb := fun e => nomatch e) F sc_turned_moves (fun S R c y vs G h => (len_raC len_raN) h) (fun _ _ _ _ => rfl) (fun S R c y vs G h => (so_raC (so_raN (n := 4))) h) (fun _ _ _ _ => by exact Nat.le_of_ble_eq_true rfl) (by exact Nat.le_of_ble_eq_true rfl) ?_
  intro cdv A outer s H E Fm S R cp y hr z
  have hu := DL.Room.hu hr
  have hu1 := DL.Room.hu1 hr
  obtain ⟨plan1, _⟩ := y
  exact JB.eq (m := (bnd (ret ([] : List (Str × Str × Str × Int × (List (Str × (Str × Int)))))) fun kinds2 => thenB (bnd (bnd (bnd (ret plan1) fun v3 => ret v3.2) fun v4 => ret v4) fun v38 => forL (fun (x6 : Str × Str × Str × Int × (List (Str × (Str × Int)))) (t5 : (List (Str × Str × Str × Int × (List (Str × (Str × Int)))))) => bnd (ret ([] : List (Str × (Str × Int)))) fun moved7 => thenB (bnd (bnd (bnd (bnd (bnd (ret x6) fun v8 => ret v8.2.2.2.2) fun v9 => ret (List.map (·.1) v9)) fun v10 => ret (List.reverse v10)) fun v11 => ret v11) fun v32 => forL (fun (x13 : Str) (t12 : (List (Str × (Str × Int)))) => bnd (bnd (bnd (ret x6) fun v14 => ret v14.2.2.2.2) fun v15 => bnd (ret x13) fun v16 => opt (dget v15 v16)) fun v17 => bnd (ret x13) fun v18 => bnd (dputM t12 v18 v17) fun moved19 => ret (.nx moved19)) v32 moved7) fun (t20 : (List (Str × (Str × Int)))) => bnd (bnd (bnd (ret x6) fun v22 => ret v22.1) fun v26 => bnd (bnd (ret x6) fun v23 => ret v23.2.1) fun v27 => bnd (bnd (ret x6) fun v24 => ret v24.2.2.1) fun v28 => bnd (bnd (ret x6) fun v25 => ret v25.2.2.2.1) fun v29 => bnd (ret t20) fun v30 => ret (v26, v27, v28, v29, v30)) fun v31 => bnd (appM t5 v31) fun kinds21 => ret (.nx kinds21)) v38 kinds2) fun (t33 : (List (Str × Str × Str × Int × (List (Str × (Str × Int)))))) => bnd (bnd (bnd (ret plan1) fun v34 => ret v34.1) fun v35 => bnd (ret t33) fun v36 => ret (v35, v36)) fun v37 => ret (.rt v37) : M S (Fl Unit Empty ((List (Str × Int × Int)) × (List (Str × Str × Str × Int × (List (Str × (Str × Int))))))))) (jb_cx (Γ2 := [some (.fz ((rT2 K (rL (rT3 K rS rI rI)) (rL (rT5 K rS rS rS rI (rD kS (rT2 K rS rI))))) plan1)), none, none, none, none]) (jb_setO (i := 1) z rfl (by first | exact .inl rfl | exact .inr rfl) (je_list (jl_nil (r := (rT5 K rS rS rS rI (rD kS (rT2 K rS rI)))))) (fun kinds2 => (jb_cx (Γ2 := [some (.fz ((rT2 K (rL (rT3 K rS rI rI)) (rL (rT5 K rS rS rS rI (rD kS (rT2 K rS rI))))) plan1)), some (.lv ((cL (rT5 K rS rS rS rI (rD kS (rT2 K rS rI)))) kinds2)), none, none, none]) (cut_turned_moves_2 T hr z hu hu1 plan1 kinds2))))) (by simp only [ret_bnd, rdM_some, turned_moves_mb])
abbrev st_valid_name : Stmt := (top 17)
theorem sc_valid_name : FnScope ["name", "letter"] ["name"] (defScope st_valid_name) := ⟨rfl, rfl, rfl, by decide +kernel, rfl, by decide +kernel, by decide +kernel⟩
def valid_name_mb {S : Type} (name1 : Str) : M S (Fl Unit Empty Bool) := bnd (bnd (bnd (bnd (grd (decide (Str.length name1 ≤ sizeLine))) fun _ => ret (Str.length name1 : Int)) fun v4 => if decide ((1 : Int) ≤ v4) then (ret (decide (v4 ≤ (12 : Int)))) else ret false) fun v6 => ret (!v6)) fun v7 => if v7 then (ret (.rt false)) else (thenB (forL (fun (x11 : Str) (t10 : Unit) => bnd (ninSM x11 ("abcdefghijklmnopqrstuvwxyz" : Str)) fun v14 => if v14 then (ret (.rt false)) else (ret (.nx ()))) (List.map (fun c => (⟨#[c]⟩ : Str)) (Array.toList (Str.cps name1))) ()) fun (t16 : Unit) => ret (.rt true))
def valid_name_m {S : Type} (name1 : Str) : M S Bool := runF (valid_name_mb name1)
abbrev ra_valid_name (K : PySem.W.Frag) (S : Type) (R : S → MP Hp) (c : NoCap S R) : Str × Unit → List V → Hp → Prop := (raC rS raN)
abbrev f_valid_name (S : Type) (R : S → MP Hp) (c : NoCap S R) (y : Str × Unit) : M S Bool := valid_name_m y.1
abbrev sp_valid_name (K : PySem.W.Frag) (mg : Str → Option Value) : Sp := spC mg (ra_valid_name K) (.fz rB) f_valid_name
theorem cut_valid_name_0 {P : Program} {w : World} {K : PySem.W.Frag} {mg : Str → Option Value} {base : Heap} {f : Addr} {cdv : Value} {A : Around} {outer : List Env} {s : Shared} {H : Hp} {E : XK} {Fm : Fm} {S : Type} {R : S → MP Hp} (T : Txt K mg) (hr : Room 0 (A.deeper (envOfC "valid_name" (defScope st_valid_name) s.heap.objs.size f cdv))) (z : ZOk (ZF P w K mg base ["name", "letter"] "valid_name" (defScope st_valid_name) f cdv A outer s H E Fm S R)) (hu : (A.deeper (envOfC "valid_name" (defScope st_valid_name) s.heap.objs.size f cdv)).units + 65 < cLine) (hu1 : (A.deeper (envOfC "valid_name" (defScope st_valid_name) s.heap.objs.size f cdv)).units + 1 < cLine) (name1 : Str) : JB (ZF P w K mg base ["name", "letter"] "valid_name" (defScope st_valid_name) f cdv A outer s H E Fm S R) [some (.fz (rS name1)), none] (List.drop 2 (defBody st_valid_name)) (bnd (ret true) fun v17 => ret (.rt v17) : M S (Fl Unit Empty Bool)) (fun _ => []) (fun e => nomatch e) (.fz rB) := (jb_one (js_ret je_bl))
theorem cut_valid_name_1 {P : Program} {w : World} {K : PySem.W.Frag} {mg : Str → Option Value} {base : Heap} {f : Addr} {cdv : Value} {A : Around} {outer : List Env} {s : Shared} {H : Hp} {E : XK} {Fm : Fm} {S : Type} {R : S → MP Hp} (T : Txt K mg) (hr : Room 0 (A.deeper (envOfC "valid_name" (defScope st_valid_name) s.heap.objs.size f cdv))) (z : ZOk (ZF P w K mg base ["name", "letter"] "valid_name" (defScope st_valid_name) f cdv A outer s H E Fm S R)) (hu : (A.deeper (envOfC "valid_name" (defScope st_valid_name) s.heap.objs.size f cdv)).units + 65 < cLine) (hu1 : (A.deeper (envOfC "valid_name" (defScope st_valid_name) s.heap.objs.size f cdv)).units + 1 < cLine) (name1 : Str) : JB (ZF P w K mg base ["name", "letter"] "valid_name" (defScope st_valid_name) f cdv A outer s H E Fm S R) [some (.fz (rS name1)), none] (List.drop 1 (defBody st_valid_name)) (thenB (bnd (bnd (ret name1) fun v9 => ret (List.map (fun c => (⟨#[c]⟩ : Str)) (Array.toList (Str.cps v9)))) fun v18 => forL (fun (x11 : Str) (t10 : Unit) => bnd (bnd (ret x11) fun v12 => bnd (ret ("abcdefghijklmnopqrstuvwxyz" : Str)) fun v13 => ninSM v12 v13) fun v14 => if v14 then (bnd (ret false) fun v15 => ret (.rt v15)) else (ret (.nx ()))) v18 ()) fun (t16 : Unit) => bnd (ret true) fun v17 => ret (.rt v17) : M S (Fl Unit Empty Bool)) (fun _ => []) (fun e => nomatch e) (.fz rB) := (jb_seq (Γ1 := fun t10 : Unit => [some (.fz (rS name1)), none]) (js_for (n := 2) (t0 := ()) z (ji_str (je_var (r := rS) (x := name1) 0 rfl (pv 0))) (jg_name (i := 1) (z).nd rfl (by first | exact .inl rfl | exact .inr rfl)) (Le.some (Le.none Le.nil)) (fun x11 t10 => (jb_cx (Γ2 := [some (.fz (rS name1)), some (.fz (rS x11))]) (jb_ifR (jt_ninSg (je_var (r := rS) (x := x11) 1 rfl (pv 1)) (je_globS (x := "abcdefghijklmnopqrstuvwxyz") (by rfl) T.gLETTERS)) (jb_cx (Γ2 := [some (.fz (rS name1)), some (.fz (rS x11))]) (jb_one (js_ret je_bl))) (by repeat' first | exact nn_rt | exact nn_rse | exact nn_ct | exact nn_bk | exact nn_stk | refine nn_if ?_ ?_ | (refine nn_bnd ?_; intro _) | (refine nn_then ?_; intro _)) (jb_cx (Γ2 := [some (.fz (rS name1)), some (.fz (rS x11))]) (jb_nil (t := ()) (Le.some (Le.none Le.nil)))))))) (fun t16 => (jb_cx (Γ2 := [some (.fz (rS name1)), none]) (cut_valid_name_0 T hr z hu hu1 name1))))
theorem ok_valid_name {P : Program} {w : World} {K : PySem.W.Frag} {mg : Str → Option Value} {base : Heap} {f : Addr} {fd : FuncData} (F : FnP K "valid_name" "valid_name" st_valid_name [] [] f fd) (T : Txt K mg) : FnOk P w K mg base (L2.CX P w) 1 f fd ["name"] (sp_valid_name K mg) := by
  refine fn_mk (k := 0) (mb := fun S R c y => valid_name_mb y.1) (Γ0 := fun S R c y => [some (.fz (rS y.1)), none]) (Γ' := fun _ => []) (Γb := fun e => nomatch e) F sc_valid_name (fun S R c y vs G h => (len_raC len_raN) h) (fun _ _ _ _ => rfl) (fun S R c y vs G h => (so_raC (so_raN (n := 1))) h) (fun _ _ _ _ => by exact Nat.le_of_ble_eq_true rfl) (by exact Nat.le_of_ble_eq_true rfl) ?_
  intro cdv A outer s H E Fm S R cp y hr z
  have hu := DL.Room.hu hr
  have hu1 := DL.Room.hu1 hr
  obtain ⟨name1, _⟩ := y
  exact JB.eq (m := (bnd (bnd (bnd (ret (1 : Int)) fun v3 => bnd (bnd (ret name1) fun v2 => bnd (grd (decide (Str.length v2 ≤ sizeLine))) fun _ => ret (Str.length v2 : Int)) fun v4 => if decide (v3 ≤ v4) then (bnd (ret (12 : Int)) fun v5 => ret (decide (v4 ≤ v5))) else ret false) fun v6 => ret (!v6)) fun v7 => if v7 then (bnd (ret false) fun v8 => ret (.rt v8)) else (thenB (bnd (bnd (ret name1) fun v9 => ret (List.map (fun c => (⟨#[c]⟩ : Str)) (Array.toList (Str.cps v9)))) fun v18 => forL (fun (x11 : Str) (t10 : Unit) => bnd (bnd (ret x11) fun v12 => bnd (ret ("abcdefghijklmnopqrstuvwxyz" : Str)) fun v13 => ninSM v12 v13) fun v14 => if v14 then (bnd (ret false) fun v15 => ret (.rt v15)) else (ret (.nx ()))) v18 ()) fun (t16 : Unit) => bnd (ret true) fun v17 => ret (.rt v17)) : M S (Fl Unit Empty Bool))) (jb_cx (Γ2 := [some (.fz (rS name1)), none]) (jb_ifR (jt_not (jt_chain op_le op_le je_int (je_lenS (by rfl) T.f_len (je_var (r := rS) (x := name1) 0 rfl (pv 0))) (je_globI (x := 12) (by rfl) T.gLONGEST_NAME))) (jb_cx (Γ2 := [some (.fz (rS name1)), none]) (jb_one (js_ret je_bl))) (by repeat' first | exact nn_rt | exact nn_rse | exact nn_ct | exact nn_bk | exact nn_stk | refine nn_if ?_ ?_ | (refine nn_bnd ?_; intro _) | (refine nn_then ?_; intro _)) (jb_cx (Γ2 := [some (.fz (rS name1)), none]) (cut_valid_name_1 T hr z hu hu1 name1)))) (by simp only [ret_bnd, rdM_some, valid_name_mb])
abbrev st_valid_column : Stmt := (top 18)
theorem sc_valid_column : FnScope ["column"] ["column"] (defScope st_valid_column) := ⟨rfl, rfl, rfl, by decide +kernel, rfl, by decide +kernel, by decide +kernel⟩
def valid_column_mb {S : Type} (column1 : D_Column) : M S (Fl Unit Empty Bool) := bnd (bnd (bnd (valid_name_m (D_Column.name column1)) fun v4 => ret (!v4)) fun v10 => if v10 then ret true else (bnd (if decide ((1 : Int) ≤ (D_Column.width column1)) then (ret (decide ((D_Column.width column1) ≤ (1000 : Int)))) else ret false) fun v9 => ret (!v9))) fun v11 => if v11 then (ret (.rt false)) else (bnd (if (decide ((D_Column.modulus column1) = (0 : Int))) then ret true else (if decide ((2 : Int) ≤ (D_Column.modulus column1)) then (ret (decide ((D_Column.modulus column1) ≤ (1000 : Int)))) else ret false)) fun v21 => ret (.rt v21))
def valid_column_m {S : Type} (column1 : D_Column) : M S Bool := runF (valid_column_mb column1)
abbrev ra_valid_column (K : PySem.W.Frag) (S : Type) (R : S → MP Hp) (c : NoCap S R) : D_Column × Unit → List V → Hp → Prop := (raC (r_Column K) raN)
abbrev f_valid_column (S : Type) (R : S → MP Hp) (c : NoCap S R) (y : D_Column × Unit) : M S Bool := valid_column_m y.1
abbrev sp_valid_column (K : PySem.W.Frag) (mg : Str → Option Value) : Sp := spC mg (ra_valid_column K) (.fz rB) f_valid_column
theorem cut_valid_column_0 {P : Program} {w : World} {K : PySem.W.Frag} {mg : Str → Option Value} {base : Heap} {f : Addr} {cdv : Value} {A : Around} {outer : List Env} {s : Shared} {H : Hp} {E : XK} {Fm : Fm} {S : Type} {R : S → MP Hp} (T : Txt K mg) (C_valid_name : FnC P w K mg base "valid_name" 1 (sp_valid_name K mg)) (hr : Room 1 (A.deeper (envOfC "valid_column" (defScope st_valid_column) s.heap.objs.size f cdv))) (z : ZOk (ZF P w K mg base ["column"] "valid_column" (defScope st_valid_column) f cdv A outer s H E Fm S R)) (hu : (A.deeper (envOfC "valid_column" (defScope st_valid_column) s.heap.objs.size f cdv)).units + 65 < cLine) (hu1 : (A.deeper (envOfC "valid_column" (defScope st_valid_column) s.heap.objs.size f cdv)).units + 1 < cLine) (column1 : D_Column) : JB (ZF P w K mg base ["column"] "valid_column" (defScope st_valid_column) f cdv A outer s H E Fm S R) [some (.fz ((r_Column K) column1))] (List.drop 1 (defBody st_valid_column)) (bnd (bnd (bnd (bnd (ret column1) fun v13 => ret (D_Column.modulus v13)) fun v14 => bnd (ret (0 : Int)) fun v15 => ret (decide (v14 = v15))) fun v20 => if v20 then ret true else (bnd (ret (2 : Int)) fun v17 => bnd (bnd (ret column1) fun v16 => ret (D_Column.modulus v16)) fun v18 => if decide (v17 ≤ v18) then (bnd (ret (1000 : Int)) fun v19 => ret (decide (v18 ≤ v19))) else ret false)) fun v21 => ret (.rt v21) : M S (Fl Unit Empty Bool)) (fun _ => []) (fun e => nomatch e) (.fz rB) := (jb_one (js_ret (je_or (je_c c_eqI (je_fld (r := rI) (g := fun x => x.modulus) T.cl_Column T.na_Column_modulus (je_var (r := (r_Column K)) (x := column1) 0 rfl (pv 0))) je_int) (je_b1 (je_chain op_le op_le je_int (je_fld (r := rI) (g := fun x => x.modulus) T.cl_Column T.na_Column_modulus (je_var (r := (r_Column K)) (x := column1) 0 rfl (pv 0))) (je_globI (x := 1000) (by rfl) T.gGREATEST_SIZE))))))
theorem ok_valid_column {P : Program} {w : World} {K : PySem.W.Frag} {mg : Str → Option Value} {base : Heap} {f : Addr} {fd : FuncData} (F : FnP K "valid_column" "valid_column" st_valid_column [] [] f fd) (T : Txt K mg) (C_valid_name : FnC P w K mg base "valid_name" 1 (sp_valid_name K mg)) : FnOk P w K mg base (L2.CX P w) 2 f fd ["column"] (sp_valid_column K mg) := by
  refine fn_mk (k := 1) (mb := fun S R c y => valid_column_mb y.1) (Γ0 := fun S R c y => [some (.fz ((r_Column K) y.1))]) (Γ' := fun _ => []) (Γb := fun e => nomatch e) F sc_valid_column (fun S R c y vs G h => (len_raC len_raN) h) (fun _ _ _ _ => rfl) (fun S R c y vs G h => (so_raC (so_raN (n := 0))) h) (fun _ _ _ _ => by exact Nat.le_of_ble_eq_true rfl) (by exact Nat.le_of_ble_eq_true rfl) ?_
  intro cdv A outer s H E Fm S R cp y hr z
  have hu := DL.Room.hu hr
  have hu1 := DL.Room.hu1 hr
  obtain ⟨column1, _⟩ := y
  exact JB.eq (m := (bnd (bnd (bnd (bnd (bnd (ret column1) fun v2 => ret (D_Column.name v2)) fun v3 => valid_name_m v3) fun v4 => ret (!v4)) fun v10 => if v10 then ret true else (bnd (bnd (ret (1 : Int)) fun v6 => bnd (bnd (ret column1) fun v5 => ret (D_Column.width v5)) fun v7 => if decide (v6 ≤ v7) then (bnd (ret (1000 : Int)) fun v8 => ret (decide (v7 ≤ v8))) else ret false) fun v9 => ret (!v9))) fun v11 => if v11 then (bnd (ret false) fun v12 => ret (.rt v12)) else (bnd (bnd (bnd (bnd (ret column1) fun v13 => ret (D_Column.modulus v13)) fun v14 => bnd (ret (0 : Int)) fun v15 => ret (decide (v14 = v15))) fun v20 => if v20 then ret true else (bnd (ret (2 : Int)) fun v17 => bnd (bnd (ret column1) fun v16 => ret (D_Column.modulus v16)) fun v18 => if decide (v17 ≤ v18) then (bnd (ret (1000 : Int)) fun v19 => ret (decide (v18 ≤ v19))) else ret false)) fun v21 => ret (.rt v21)) : M S (Fl Unit Empty Bool))) (jb_cx (Γ2 := [some (.fz ((r_Column K) column1))]) (jb_ifR (JW.jt (jw_or (jt_not (jt_val (je_call z C_valid_name hr ⟨⟩ (ja_cons (je_fld (r := rS) (g := fun x => x.name) T.cl_Column T.na_Column_name (je_var (r := (r_Column K)) (x := column1) 0 rfl (pv 0))) ja_nil)))) (jw_or1 (jt_not (jt_chain op_le op_le je_int (je_fld (r := rI) (g := fun x => x.width) T.cl_Column T.na_Column_width (je_var (r := (r_Column K)) (x := column1) 0 rfl (pv 0))) (je_globI (x := 1000) (by rfl) T.gGREATEST_SIZE)))))) (jb_cx (Γ2 := [some (.fz ((r_Column K) column1))]) (jb_one (js_ret je_bl))) (by repeat' first | exact nn_rt | exact nn_rse | exact nn_ct | exact nn_bk | exact nn_stk | refine nn_if ?_ ?_ | (refine nn_bnd ?_; intro _) | (refine nn_then ?_; intro _)) (jb_cx (Γ2 := [some (.fz ((r_Column K) column1))]) (cut_valid_column_0 T C_valid_name hr z hu hu1 column1)))) (by simp only [ret_bnd, rdM_some, valid_column_mb])
abbrev st_Column_init : Stmt := (inClass (top 15) 0)
theorem sc_Column_init : FnScope ["self", "name", "width", "modulus"] ["self", "name", "width", "modulus"] (defScope st_Column_init) := ⟨rfl, rfl, rfl, by decide +kernel, rfl, by decide +kernel, by decide +kernel⟩
def Column_init_mb {S : Type} (name1 : Str) (width2 : Int) (modulus3 : Int) : M (Opn S D_Column) (Fl D_Column Empty Unit) := bnd (newA opnL 0 (fun (t : D_Column) y => { t with name := y }) name1) fun _ => bnd (newA opnL 1 (fun (t : D_Column) y => { t with width := y }) width2) fun _ => bnd (newA opnL 2 (fun (t : D_Column) y => { t with modulus := y }) modulus3) fun _ => bnd (frzA opnL opnD 3) fun (self7 : D_Column) => ret (.nx self7)
def Column_init_m {S : Type} (name1 : Str) (width2 : Int) (modulus3 : Int) : M S D_Column := runO d0_Column (Column_init_mb name1 width2 modulus3)
abbrev ra_Column_init (K : PySem.W.Frag) (S : Type) (R : S → MP Hp) (c : NoCap S R) : Str × Int × Int × Unit → List V → Hp → Prop := (raC rS (raC rI (raC rI raN)))
abbrev f_Column_init (S : Type) (R : S → MP Hp) (c : NoCap S R) (y : Str × Int × Int × Unit) : M S D_Column := Column_init_m y.1 y.2.1 y.2.2.1
abbrev sp_Column_init (K : PySem.W.Frag) (mg : Str → Option Value) : Sp := spI mg (He.ga K "Column") (ra_Column_init K) (fs_Column K) f_Column_init
theorem cut_Column_init_0 {P : Program} {w : World} {K : PySem.W.Frag} {mg : Str → Option Value} {base : Heap} {f : Addr} {cdv : Value} {A : Around} {outer : List Env} {s : Shared} {H : Hp} {E : XK} {Fm : Fm} {S : Type} {R : S → MP Hp} {a dx : Addr} (T : Txt K mg) (hr : Room 0 (A.deeper (envOfC "Column.__init__" (defScope st_Column_init) s.heap.objs.size f cdv))) (z : ZOk (ZF P w K mg base ["self", "name", "width", "modulus"] "Column.__init__" (defScope st_Column_init) f cdv A outer s H E Fm (Opn S D_Column) (RO R a (He.ga K "Column") dx (cd_Column K)))) (hu : (A.deeper (envOfC "Column.__init__" (defScope st_Column_init) s.heap.objs.size f cdv)).units + 65 < cLine) (hu1 : (A.deeper (envOfC "Column.__init__" (defScope st_Column_init) s.heap.objs.size f cdv)).units + 1 < cLine) (name1 : Str) (width2 : Int) (modulus3 : Int) : JB (ZF P w K mg base ["self", "name", "width", "modulus"] "Column.__init__" (defScope st_Column_init) f cdv A outer s H E Fm (Opn S D_Column) (RO R a (He.ga K "Column") dx (cd_Column K))) [some (.fz (rSelfU a ())), some (.fz (rS name1)), some (.fz (rI width2)), some (.fz (rI modulus3))] (List.drop 2 (defBody st_Column_init)) (bnd (ret modulus3) fun modulus6 => bnd (ret ()) fun _ => bnd (newA opnL 2 (fun (t : D_Column) y => { t with modulus := y }) modulus6) fun _ => bnd (frzA opnL opnD 3) fun (self7 : D_Column) => ret (.nx self7) : M (Opn S D_Column) (Fl D_Column Empty Unit)) (fun t => [some (.fz (rObjAt a (He.ga K "Column") (fs_Column K) t))]) (fun e => nomatch e) (.fz rU) := (jb_amNewF (i := 2) (r := rI) cap_opn T.cl_Column T.na_Column_modulus (fun t : D_Column => t.modulus) (fun (t : D_Column) y => { t with modulus := y }) (je_var (r := rI) (x := modulus3) 3 rfl (pv 3)) (je_var (r := rSelfU a) (x := ()) 0 rfl (pv 0)) (jb_cx (Γ2 := [some (.fz (rSelfU a ())), some (.fz (rS name1)), some (.fz (rI width2)), some (.fz (rI modulus3))]) (jb_amFrz (fsT := fs_Column K) (k0 := 0) cap_opnD rfl (fun self7 => (jb_cx (Γ2 := [some (.fz ((rObjAt a (He.ga K "Column") (fs_Column K)) self7)), some (.fz (rS name1)), some (.fz (rI width2)), some (.fz (rI modulus3))]) (jb_nil (t := self7) (Le.some Le.nil)))))) (hd_Column_modulus K))
theorem cut_Column_init_1 {P : Program} {w : World} {K : PySem.W.Frag} {mg : Str → Option Value} {base : Heap} {f : Addr} {cdv : Value} {A : Around} {outer : List Env} {s : Shared} {H : Hp} {E : XK} {Fm : Fm} {S : Type} {R : S → MP Hp} {a dx : Addr} (T : Txt K mg) (hr : Room 0 (A.deeper (envOfC "Column.__init__" (defScope st_Column_init) s.heap.objs.size f cdv))) (z : ZOk (ZF P w K mg base ["self", "name", "width", "modulus"] "Column.__init__" (defScope st_Column_init) f cdv A outer s H E Fm (Opn S D_Column) (RO R a (He.ga K "Column") dx (cd_Column K)))) (hu : (A.deeper (envOfC "Column.__init__" (defScope st_Column_init) s.heap.objs.size f cdv)).units + 65 < cLine) (hu1 : (A.deeper (envOfC "Column.__init__" (defScope st_Column_init) s.heap.objs.size f cdv)).units + 1 < cLine) (name1 : Str) (width2 : Int) (modulus3 : Int) : JB (ZF P w K mg base ["self", "name", "width", "modulus"] "Column.__init__" (defScope st_Column_init) f cdv A outer s H E Fm (Opn S D_Column) (RO R a (He.ga K "Column") dx (cd_Column K))) [some (.fz (rSelfU a ())), some (.fz (rS name1)), some (.fz (rI width2)), some (.fz (rI modulus3))] (List.drop 1 (defBody st_Column_init)) (bnd (ret width2) fun width5 => bnd (ret ()) fun _ => bnd (newA opnL 1 (fun (t : D_Column) y => { t with width := y }) width5) fun _ => bnd (ret modulus3) fun modulus6 => bnd (ret ()) fun _ => bnd (newA opnL 2 (fun (t : D_Column) y => { t with modulus := y }) modulus6) fun _ => bnd (frzA opnL opnD 3) fun (self7 : D_Column) => ret (.nx self7) : M (Opn S D_Column) (Fl D_Column Empty Unit)) (fun t => [some (.fz (rObjAt a (He.ga K "Column") (fs_Column K) t))]) (fun e => nomatch e) (.fz rU) := (jb_amNewF (i := 1) (r := rI) cap_opn T.cl_Column T.na_Column_width (fun t : D_Column => t.width) (fun (t : D_Column) y => { t with width := y }) (je_var (r := rI) (x := width2) 2 rfl (pv 2)) (je_var (r := rSelfU a) (x := ()) 0 rfl (pv 0)) (jb_cx (Γ2 := [some (.fz (rSelfU a ())), some (.fz (rS name1)), some (.fz (rI width2)), some (.fz (rI modulus3))]) (cut_Column_init_0 T hr z hu hu1 name1 width2 modulus3)) (hd_Column_width K))
theorem ok_Column_init {P : Program} {w : World} {K : PySem.W.Frag} {mg : Str → Option Value} {base : Heap} {f : Addr} {fd : FuncData} (F : FnP K "__init__" "Column.__init__" st_Column_init [] [("width", (.int 1)), ("modulus", (.int 0))] f fd) (T : Txt K mg) : FnOk P w K mg base (L2.CX P w) 1 f fd ["self", "name", "width", "modulus"] (sp_Column_init K mg) := by
  refine fn_mkO (k := 0) (cd := cd_Column K) (t0 := d0_Column) (mb := fun S R c y => Column_init_mb y.1 y.2.1 y.2.2.1) (Γ0 := fun S R c y => [some (.fz (rS y.1)), some (.fz (rI y.2.1)), some (.fz (rI y.2.2.1))]) (Γb := fun e => nomatch e) F sc_Column_init (fun S R c y vs G h => congrArg (· + 1) ((len_raC (len_raC (len_raC len_raN))) h)) (fun _ _ _ _ => rfl) (fun S R c y vs G h => (so_raC (so_raC (so_raC (so_raN (n := 0))))) h) (fun _ _ _ _ => by exact Nat.le_of_ble_eq_true rfl) (by exact Nat.le_of_ble_eq_true rfl) ?_
  intro cdv A outer s H E Fm S R cp y a dx hr z
  have hu := DL.Room.hu hr
  have hu1 := DL.Room.hu1 hr
  obtain ⟨name1, width2, modulus3, _⟩ := y
  exact JB.eq (m := (bnd (ret name1) fun name4 => bnd (ret ()) fun _ => bnd (newA opnL 0 (fun (t : D_Column) y => { t with name := y }) name4) fun _ => bnd (ret width2) fun width5 => bnd (ret ()) fun _ => bnd (newA opnL 1 (fun (t : D_Column) y => { t with width := y }) width5) fun _ => bnd (ret modulus3) fun modulus6 => bnd (ret ()) fun _ => bnd (newA opnL 2 (fun (t : D_Column) y => { t with modulus := y }) modulus6) fun _ => bnd (frzA opnL opnD 3) fun (self7 : D_Column) => ret (.nx self7) : M (Opn S D_Column) (Fl D_Column Empty Unit))) (jb_cx (Γ2 := [some (.fz (rSelfU a ())), some (.fz (rS name1)), some (.fz (rI width2)), some (.fz (rI modulus3))]) (jb_amNewF (i := 0) (r := rS) cap_opn T.cl_Column T.na_Column_name (fun t : D_Column => t.name) (fun (t : D_Column) y => { t with name := y }) (je_var (r := rS) (x := name1) 1 rfl (pv 1)) (je_var (r := rSelfU a) (x := ()) 0 rfl (pv 0)) (jb_cx (Γ2 := [some (.fz (rSelfU a ())), some (.fz (rS name1)), some (.fz (rI width2)), some (.fz (rI modulus3))]) (cut_Column_init_1 T hr z hu hu1 name1 width2 modulus3)) (hd_Column_name K))) (by simp only [ret_bnd, rdM_some, Column_init_mb])
abbrev st_Kind_init : Stmt := (inClass (top 16) 0)
theorem sc_Kind_init : FnScope ["self", "name", "source", "target", "weight", "carried"] ["self", "name", "source", "target", "weight", "carried"] (defScope st_Kind_init) := ⟨rfl, rfl, rfl, by decide +kernel, rfl, by decide +kernel, by decide +kernel⟩
def Kind_init_mb {S : Type} (name1 : Str) (source2 : Str) (target3 : Str) (weight4 : Int) (carried5 : Option (List (Str × (Str × Int)))) : M (Opn S D_Kind) (Fl D_Kind Empty Unit) := bnd (newA opnL 0 (fun (t : D_Kind) y => { t with name := y }) name1) fun _ => bnd (newA opnL 1 (fun (t : D_Kind) y => { t with source := y }) source2) fun _ => bnd (newA opnL 2 (fun (t : D_Kind) y => { t with target := y }) target3) fun _ => bnd (newA opnL 3 (fun (t : D_Kind) y => { t with weight := y }) weight4) fun _ => bnd (newA opnL 4 (fun (t : D_Kind) y => { t with carried := y }) ([] : List (Str × (Str × Int)))) fun _ => if (Option.isSome carried5) then (bnd (bnd (opt carried5) fun v14 => ret v14) fun carried15 => bnd (putA opnL 4 (fun (t : D_Kind) y => { t with carried := y }) carried15) fun _ => bnd (frzA opnL opnD 5) fun (self16 : D_Kind) => ret (.nx self16)) else (bnd (frzA opnL opnD 5) fun (self17 : D_Kind) => ret (.nx self17))
def Kind_init_m {S : Type} (name1 : Str) (source2 : Str) (target3 : Str) (weight4 : Int) (carried5 : Option (List (Str × (Str × Int)))) : M S D_Kind := runO d0_Kind (Kind_init_mb name1 source2 target3 weight4 carried5)
abbrev ra_Kind_init (K : PySem.W.Frag) (S : Type) (R : S → MP Hp) (c : NoCap S R) : Str × Str × Str × Int × (Option (List (Str × (Str × Int)))) × Unit → List V → Hp → Prop := (raC rS (raC rS (raC rS (raC rI (raC (rO (rD kS (rT2 K rS rI))) raN)))))
abbrev f_Kind_init (S : Type) (R : S → MP Hp) (c : NoCap S R) (y : Str × Str × Str × Int × (Option (List (Str × (Str × Int)))) × Unit) : M S D_Kind := Kind_init_m y.1 y.2.1 y.2.2.1 y.2.2.2.1 y.2.2.2.2.1
abbrev sp_Kind_init (K : PySem.W.Frag) (mg : Str → Option Value) : Sp := spI mg (He.ga K "Kind") (ra_Kind_init K) (fs_Kind K) f_Kind_init
theorem cut_Kind_init_0 {P : Program} {w : World} {K : PySem.W.Frag} {mg : Str → Option Value} {base : Heap} {f : Addr} {cdv : Value} {A : Around} {outer : List Env} {s : Shared} {H : Hp} {E : XK} {Fm : Fm} {S : Type} {R : S → MP Hp} {a dx : Addr} (T : Txt K mg) (hr : Room 0 (A.deeper (envOfC "Kind.__init__" (defScope st_Kind_init) s.heap.objs.size f cdv))) (z : ZOk (ZF P w K mg base ["self", "name", "source", "target", "weight", "carried"] "Kind.__init__" (defScope st_Kind_init) f cdv A outer s H E Fm (Opn S D_Kind) (RO R a (He.ga K "Kind") dx (cd_Kind K)))) (hu : (A.deeper (envOfC "Kind.__init__" (defScope st_Kind_init) s.heap.objs.size f cdv)).units + 65 < cLine) (hu1 : (A.deeper (envOfC "Kind.__init__" (defScope st_Kind_init) s.heap.objs.size f cdv)).units + 1 < cLine) (name1 : Str) (source2 : Str) (target3 : Str) (weight4 : Int) (carried5 : Option (List (Str × (Str × Int)))) : JB (ZF P w K mg base ["self", "name", "source", "target", "weight", "carried"] "Kind.__init__" (defScope st_Kind_init) f cdv A outer s H E Fm (Opn S D_Kind) (RO R a (He.ga K "Kind") dx (cd_Kind K))) [some (.fz (rSelfU a ())), some (.fz (rS name1)), some (.fz (rS source2)), some (.fz (rS target3)), some (.fz (rI weight4)), some (.fz ((rO (rD kS (rT2 K rS rI))) carried5))] (List.drop 5 (defBody st_Kind_init)) (bnd (bnd (ret carried5) fun v11 => bnd (ret ()) fun _ => ret (Option.isSome v11)) fun v12 => if v12 then (bnd (bnd (bnd (ret carried5) fun v13 => opt v13) fun v14 => ret v14) fun carried15 => bnd (ret ()) fun _ => bnd (putA opnL 4 (fun (t : D_Kind) y => { t with carried := y }) carried15) fun _ => bnd (frzA opnL opnD 5) fun (self16 : D_Kind) => ret (.nx self16)) else (bnd (frzA opnL opnD 5) fun (self17 : D_Kind) => ret (.nx self17)) : M (Opn S D_Kind) (Fl D_Kind Empty Unit)) (fun t => [some (.fz (rObjAt a (He.ga K "Kind") (fs_Kind K) t))]) (fun e => nomatch e) (.fz rU) := (jb_one (js_if (jt_notN nn_rD (je_var (r := (rO (rD kS (rT2 K rS rI)))) (x := carried5) 5 rfl (pv 5))) (jb_cx (Γ2 := [some (.fz (rSelfU a ())), some (.fz (rS name1)), some (.fz (rS source2)), some (.fz (rS target3)), some (.fz (rI weight4)), some (.fz ((rO (rD kS (rT2 K rS rI))) carried5))]) (jb_amSetF (i := 4) (r := (rD kS (rT2 K rS rI))) cap_opn T.cl_Kind T.na_Kind_carried (fun t : D_Kind => t.carried) (fun (t : D_Kind) y => { t with carried := y }) (je_frzD (je_dictD (by rfl) T.f_dict (je_unO (je_var (r := (rO (rD kS (rT2 K rS rI)))) (x := carried5) 5 rfl (pv 5))))) (je_var (r := rSelfU a) (x := ()) 0 rfl (pv 0)) (jb_cx (Γ2 := [some (.fz (rSelfU a ())), some (.fz (rS name1)), some (.fz (rS source2)), some (.fz (rS target3)), some (.fz (rI weight4)), some (.fz ((rO (rD kS (rT2 K rS rI))) carried5))]) (jb_amFrz (fsT := fs_Kind K) (k0 := 0) cap_opnD rfl (fun self16 => (jb_cx (Γ2 := [some (.fz ((rObjAt a (He.ga K "Kind") (fs_Kind K)) self16)), some (.fz (rS name1)), some (.fz (rS source2)), some (.fz (rS target3)), some (.fz (rI weight4)), some (.fz ((rO (rD kS (rT2 K rS rI))) carried5))]) (jb_nil (t := self16) (Le.some Le.nil)))))) (hd_Kind_carried K))) (jb_cx (Γ2 := [some (.fz (rSelfU a ())), some (.fz (rS name1)), some (.fz (rS source2)), some (.fz (rS target3)), some (.fz (rI weight4)), some (.fz ((rO (rD kS (rT2 K rS rI))) carried5))]) (jb_amFrz (fsT := fs_Kind K) (k0 := 0) cap_opnD rfl (fun self17 => (jb_cx (Γ2 := [some (.fz ((rObjAt a (He.ga K "Kind") (fs_Kind K)) self17)), some (.fz (rS name1)), some (.fz (rS source2)), some (.fz (rS target3)), some (.fz (rI weight4)), some (.fz ((rO (rD kS (rT2 K rS rI))) carried5))]) (jb_nil (t := self17) (Le.some Le.nil))))))))
theorem cut_Kind_init_1 {P : Program} {w : World} {K : PySem.W.Frag} {mg : Str → Option Value} {base : Heap} {f : Addr} {cdv : Value} {A : Around} {outer : List Env} {s : Shared} {H : Hp} {E : XK} {Fm : Fm} {S : Type} {R : S → MP Hp} {a dx : Addr} (T : Txt K mg) (hr : Room 0 (A.deeper (envOfC "Kind.__init__" (defScope st_Kind_init) s.heap.objs.size f cdv))) (z : ZOk (ZF P w K mg base ["self", "name", "source", "target", "weight", "carried"] "Kind.__init__" (defScope st_Kind_init) f cdv A outer s H E Fm (Opn S D_Kind) (RO R a (He.ga K "Kind") dx (cd_Kind K)))) (hu : (A.deeper (envOfC "Kind.__init__" (defScope st_Kind_init) s.heap.objs.size f cdv)).units + 65 < cLine) (hu1 : (A.deeper (envOfC "Kind.__init__" (defScope st_Kind_init) s.heap.objs.size f cdv)).units + 1 < cLine) (name1 : Str) (source2 : Str) (target3 : Str) (weight4 : Int) (carried5 : Option (List (Str × (Str × Int)))) : JB (ZF P w K mg base ["self", "name", "source", "target", "weight", "carried"] "Kind.__init__" (defScope st_Kind_init) f cdv A outer s H E Fm (Opn S D_Kind) (RO R a (He.ga K "Kind") dx (cd_Kind K))) [some (.fz (rSelfU a ())), some (.fz (rS name1)), some (.fz (rS source2)), some (.fz (rS target3)), some (.fz (rI weight4)), some (.fz ((rO (rD kS (rT2 K rS rI))) carried5))] (List.drop 4 (defBody st_Kind_init)) (bnd (ret ([] : List (Str × (Str × Int)))) fun carried10 => bnd (ret ()) fun _ => bnd (newA opnL 4 (fun (t : D_Kind) y => { t with carried := y }) carried10) fun _ => bnd (bnd (ret carried5) fun v11 => bnd (ret ()) fun _ => ret (Option.isSome v11)) fun v12 => if v12 then (bnd (bnd (bnd (ret carried5) fun v13 => opt v13) fun v14 => ret v14) fun carried15 => bnd (ret ()) fun _ => bnd (putA opnL 4 (fun (t : D_Kind) y => { t with carried := y }) carried15) fun _ => bnd (frzA opnL opnD 5) fun (self16 : D_Kind) => ret (.nx self16)) else (bnd (frzA opnL opnD 5) fun (self17 : D_Kind) => ret (.nx self17)) : M (Opn S D_Kind) (Fl D_Kind Empty Unit)) (fun t => [some (.fz (rObjAt a (He.ga K "Kind") (fs_Kind K) t))]) (fun e => nomatch e) (.fz rU) := (jb_amNewF (i := 4) (r := (rD kS (rT2 K rS rI))) cap_opn T.cl_Kind T.na_Kind_carried (fun t : D_Kind => t.carried) (fun (t : D_Kind) y => { t with carried := y }) (je_frzD (je_dict0 (k := kS) (r := (rT2 K rS rI)))) (je_var (r := rSelfU a) (x := ()) 0 rfl (pv 0)) (jb_cx (Γ2 := [some (.fz (rSelfU a ())), some (.fz (rS name1)), some (.fz (rS source2)), some (.fz (rS target3)), some (.fz (rI weight4)), some (.fz ((rO (rD kS (rT2 K rS rI))) carried5))]) (cut_Kind_init_0 T hr z hu hu1 name1 source2 target3 weight4 carried5)) (hd_Kind_carried K))
theorem cut_Kind_init_2 {P : Program} {w : World} {K : PySem.W.Frag} {mg : Str → Option Value} {base : Heap} {f : Addr} {cdv : Value} {A : Around} {outer : List Env} {s : Shared} {H : Hp} {E : XK} {Fm : Fm} {S : Type} {R : S → MP Hp} {a dx : Addr} (T : Txt K mg) (hr : Room 0 (A.deeper (envOfC "Kind.__init__" (defScope st_Kind_init) s.heap.objs.size f cdv))) (z : ZOk (ZF P w K mg base ["self", "name", "source", "target", "weight", "carried"] "Kind.__init__" (defScope st_Kind_init) f cdv A outer s H E Fm (Opn S D_Kind) (RO R a (He.ga K "Kind") dx (cd_Kind K)))) (hu : (A.deeper (envOfC "Kind.__init__" (defScope st_Kind_init) s.heap.objs.size f cdv)).units + 65 < cLine) (hu1 : (A.deeper (envOfC "Kind.__init__" (defScope st_Kind_init) s.heap.objs.size f cdv)).units + 1 < cLine) (name1 : Str) (source2 : Str) (target3 : Str) (weight4 : Int) (carried5 : Option (List (Str × (Str × Int)))) : JB (ZF P w K mg base ["self", "name", "source", "target", "weight", "carried"] "Kind.__init__" (defScope st_Kind_init) f cdv A outer s H E Fm (Opn S D_Kind) (RO R a (He.ga K "Kind") dx (cd_Kind K))) [some (.fz (rSelfU a ())), some (.fz (rS name1)), some (.fz (rS source2)), some (.fz (rS target3)), some (.fz (rI weight4)), some (.fz ((rO (rD kS (rT2 K rS rI))) carried5))] (List.drop 3 (defBody st_Kind_init)) (bnd (ret weight4) fun weight9 => bnd (ret ()) fun _ => bnd (newA opnL 3 (fun (t : D_Kind) y => { t with weight := y }) weight9) fun _ => bnd (ret ([] : List (Str × (Str × Int)))) fun carried10 => bnd (ret ()) fun _ => bnd (newA opnL 4 (fun (t : D_Kind) y => { t with carried := y }) carried10) fun _ => bnd (bnd (ret carried5) fun v11 => bnd (ret ()) fun _ => ret (Option.isSome v11)) fun v12 => if v12 then (bnd (bnd (bnd (ret carried5) fun v13 => opt v13) fun v14 => ret v14) fun carried15 => bnd (ret ()) fun _ => bnd (putA opnL 4 (fun (t : D_Kind) y => { t with carried := y }) carried15) fun _ => bnd (frzA opnL opnD 5) fun (self16 : D_Kind) => ret (.nx self16)) else (bnd (frzA opnL opnD 5) fun (self17 : D_Kind) => ret (.nx self17)) : M (Opn S D_Kind) (Fl D_Kind Empty Unit)) (fun t => [some (.fz (rObjAt a (He.ga K "Kind") (fs_Kind K) t))]) (fun e => nomatch e) (.fz rU) := (jb_amNewF (i := 3) (r := rI) cap_opn T.cl_Kind T.na_Kind_weight (fun t : D_Kind => t.weight) (fun (t : D_Kind) y => { t with weight := y }) (je_var (r := rI) (x := weight4) 4 rfl (pv 4)) (je_var (r := rSelfU a) (x := ()) 0 rfl (pv 0)) (jb_cx (Γ2 := [some (.fz (rSelfU a ())), some (.fz (rS name1)), some (.fz (rS source2)), some (.fz (rS target3)), some (.fz (rI weight4)), some (.fz ((rO (rD kS (rT2 K rS rI))) carried5))]) (cut_Kind_init_1 T hr z hu hu1 name1 source2 target3 weight4 carried5)) (hd_Kind_weight K))
theorem cut_Kind_init_3 {P : Program} {w : World} {K : PySem.W.Frag} {mg : Str → Option Value} {base : Heap} {f : Addr} {cdv : Value} {A : Around} {outer : List Env} {s : Shared} {H : Hp} {E : XK} {Fm : Fm} {S : Type} {R : S → MP Hp} {a dx : Addr} (T : Txt K mg) (hr : Room 0 (A.deeper (envOfC "Kind.__init__" (defScope st_Kind_init) s.heap.objs.size f cdv))) (z : ZOk (ZF P w K mg base ["self", "name", "source", "target", "weight", "carried"] "Kind.__init__" (defScope st_Kind_init) f cdv A outer s H E Fm (Opn S D_Kind) (RO R a (He.ga K "Kind") dx (cd_Kind K)))) (hu : (A.deeper (envOfC "Kind.__init__" (defScope st_Kind_init) s.heap.objs.size f cdv)).units + 65 < cLine) (hu1 : (A.deeper (envOfC "Kind.__init__" (defScope st_Kind_init) s.heap.objs.size f cdv)).units + 1 < cLine) (name1 : Str) (source2 : Str) (target3 : Str) (weight4 : Int) (carried5 : Option (List (Str × (Str × Int)))) : JB (ZF P w K mg base ["self", "name", "source", "target", "weight", "carried"] "Kind.__init__" (defScope st_Kind_init) f cdv A outer s H E Fm (Opn S D_Kind) (RO R a (He.ga K "Kind") dx (cd_Kind K))) [some (.fz (rSelfU a ())), some (.fz (rS name1)), some (.fz (rS source2)), some (.fz (rS target3)), some (.fz (rI weight4)), some (.fz ((rO (rD kS (rT2 K rS rI))) carried5))] (List.drop 2 (defBody st_Kind_init)) (bnd (ret target3) fun target8 => bnd (ret ()) fun _ => bnd (newA opnL 2 (fun (t : D_Kind) y => { t with target := y }) target8) fun _ => bnd (ret weight4) fun weight9 => bnd (ret ()) fun _ => bnd (newA opnL 3 (fun (t : D_Kind) y => { t with weight := y }) weight9) fun _ => bnd (ret ([] : List (Str × (Str × Int)))) fun carried10 => bnd (ret ()) fun _ => bnd (newA opnL 4 (fun (t : D_Kind) y => { t with carried := y }) carried10) fun _ => bnd (bnd (ret carried5) fun v11 => bnd (ret ()) fun _ => ret (Option.isSome v11)) fun v12 => if v12 then (bnd (bnd (bnd (ret carried5) fun v13 => opt v13) fun v14 => ret v14) fun carried15 => bnd (ret ()) fun _ => bnd (putA opnL 4 (fun (t : D_Kind) y => { t with carried := y }) carried15) fun _ => bnd (frzA opnL opnD 5) fun (self16 : D_Kind) => ret (.nx self16)) else (bnd (frzA opnL opnD 5) fun (self17 : D_Kind) => ret (.nx self17)) : M (Opn S D_Kind) (Fl D_Kind Empty Unit)) (fun t => [some (.fz (rObjAt a (He.ga K "Kind") (fs_Kind K) t))]) (fun e => nomatch e) (.fz rU) := (jb_amNewF (i := 2) (r := rS) cap_opn T.cl_Kind T.na_Kind_target (fun t : D_Kind => t.target) (fun (t : D_Kind) y => { t with target := y }) (je_var (r := rS) (x := target3) 3 rfl (pv 3)) (je_var (r := rSelfU a) (x := ()) 0 rfl (pv 0)) (jb_cx (Γ2 := [some (.fz (rSelfU a ())), some (.fz (rS name1)), some (.fz (rS source2)), some (.fz (rS target3)), some (.fz (rI weight4)), some (.fz ((rO (rD kS (rT2 K rS rI))) carried5))]) (cut_Kind_init_2 T hr z hu hu1 name1 source2 target3 weight4 carried5)) (hd_Kind_target K))
theorem cut_Kind_init_4 {P : Program} {w : World} {K : PySem.W.Frag} {mg : Str → Option Value} {base : Heap} {f : Addr} {cdv : Value} {A : Around} {outer : List Env} {s : Shared} {H : Hp} {E : XK} {Fm : Fm} {S : Type} {R : S → MP Hp} {a dx : Addr} (T : Txt K mg) (hr : Room 0 (A.deeper (envOfC "Kind.__init__" (defScope st_Kind_init) s.heap.objs.size f cdv))) (z : ZOk (ZF P w K mg base ["self", "name", "source", "target", "weight", "carried"] "Kind.__init__" (defScope st_Kind_init) f cdv A outer s H E Fm (Opn S D_Kind) (RO R a (He.ga K "Kind") dx (cd_Kind K)))) (hu : (A.deeper (envOfC "Kind.__init__" (defScope st_Kind_init) s.heap.objs.size f cdv)).units + 65 < cLine) (hu1 : (A.deeper (envOfC "Kind.__init__" (defScope st_Kind_init) s.heap.objs.size f cdv)).units + 1 < cLine) (name1 : Str) (source2 : Str) (target3 : Str) (weight4 : Int) (carried5 : Option (List (Str × (Str × Int)))) : JB (ZF P w K mg base ["self", "name", "source", "target", "weight", "carried"] "Kind.__init__" (defScope st_Kind_init) f cdv A outer s H E Fm (Opn S D_Kind) (RO R a (He.ga K "Kind") dx (cd_Kind K))) [some (.fz (rSelfU a ())), some (.fz (rS name1)), some (.fz (rS source2)), some (.fz (rS target3)), some (.fz (rI weight4)), some (.fz ((rO (rD kS (rT2 K rS rI))) carried5))] (List.drop 1 (defBody st_Kind_init)) (bnd (ret source2) fun source7 => bnd (ret ()) fun _ => bnd (newA opnL 1 (fun (t : D_Kind) y => { t with source := y }) source7) fun _ => bnd (ret target3) fun target8 => bnd (ret ()) fun _ => bnd (newA opnL 2 (fun (t : D_Kind) y => { t with target := y }) target8) fun _ => bnd (ret weight4) fun weight9 => bnd (ret ()) fun _ => bnd (newA opnL 3 (fun (t : D_Kind) y => { t with weight := y }) weight9) fun _ => bnd (ret ([] : List (Str × (Str × Int)))) fun carried10 => bnd (ret ()) fun _ => bnd (newA opnL 4 (fun (t : D_Kind) y => { t with carried := y }) carried10) fun _ => bnd (bnd (ret carried5) fun v11 => bnd (ret ()) fun _ => ret (Option.isSome v11)) fun v12 => if v12 then (bnd (bnd (bnd (ret carried5) fun v13 => opt v13) fun v14 => ret v14) fun carried15 => bnd (ret ()) fun _ => bnd (putA opnL 4 (fun (t : D_Kind) y => { t with carried := y }) carried15) fun _ => bnd (frzA opnL opnD 5) fun (self16 : D_Kind) => ret (.nx self16)) else (bnd (frzA opnL opnD 5) fun (self17 : D_Kind) => ret (.nx self17)) : M (Opn S D_Kind) (Fl D_Kind Empty Unit)) (fun t => [some (.fz (rObjAt a (He.ga K "Kind") (fs_Kind K) t))]) (fun e => nomatch e) (.fz rU) := (jb_amNewF (i := 1) (r := rS) cap_opn T.cl_Kind T.na_Kind_source (fun t : D_Kind => t.source) (fun (t : D_Kind) y => { t with source := y }) (je_var (r := rS) (x := source2) 2 rfl (pv 2)) (je_var (r := rSelfU a) (x := ()) 0 rfl (pv 0)) (jb_cx (Γ2 := [some (.fz (rSelfU a ())), some (.fz (rS name1)), some (.fz (rS source2)), some (.fz (rS target3)), some (.fz (rI weight4)), some (.fz ((rO (rD kS (rT2 K rS rI))) carried5))]) (cut_Kind_init_3 T hr z hu hu1 name1 source2 target3 weight4 carried5)) (hd_Kind_source K))
theorem ok_Kind_init {P : Program} {w : World} {K : PySem.W.Frag} {mg : Str → Option Value} {base : Heap} {f : Addr} {fd : FuncData} (F : FnP K "__init__" "Kind.__init__" st_Kind_init [] [("weight", (.int 1)), ("carried", .non)] f fd) (T : Txt K mg) : FnOk P w K mg base (L2.CX P w) 1 f fd ["self", "name", "source", "target", "weight", "carried"] (sp_Kind_init K mg) := by
  refine fn_mkO (k := 0) (cd := cd_Kind K) (t0 := d0_Kind) (mb := fun S R c y => Kind_init_mb y.1 y.2.1 y.2.2.1 y.2.2.2.1 y.2.2.2.2.1) (Γ0 := fun S R c y => [some (.fz (rS y.1)), some (.fz (rS y.2.1)), some (.fz (rS y.2.2.1)), some (.fz (rI y.2.2.2.1)), some (.fz ((rO (rD kS (rT2 K rS rI))) y.2.2.2.2.1))]) (Γb := fun e => nomatch e) F sc_Kind_init (fun S R c y vs G h => congrArg (· + 1) ((len_raC (len_raC (len_raC (len_raC (len_raC len_raN))))) h)) (fun _ _ _ _ => rfl) (fun S R c y vs G h => (so_raC (so_raC (so_raC (so_raC (so_raC (so_raN (n := 0))))))) h) (fun _ _ _ _ => by exact Nat.le_of_ble_eq_true rfl) (by exact Nat.le_of_ble_eq_true rfl) ?_
  intro cdv A outer s H E Fm S R cp y a dx hr z
  have hu := DL.Room.hu hr
  have hu1 := DL.Room.hu1 hr
  obtain ⟨name1, source2, target3, weight4, carried5, _⟩ := y
  exact JB.eq (m := (bnd (ret name1) fun name6 => bnd (ret ()) fun _ => bnd (newA opnL 0 (fun (t : D_Kind) y => { t with name := y }) name6) fun _ => bnd (ret source2) fun source7 => bnd (ret ()) fun _ => bnd (newA opnL 1 (fun (t : D_Kind) y => { t with source := y }) source7) fun _ => bnd (ret target3) fun target8 => bnd (ret ()) fun _ => bnd (newA opnL 2 (fun (t : D_Kind) y => { t with target := y }) target8) fun _ => bnd (ret weight4) fun weight9 => bnd (ret ()) fun _ => bnd (newA opnL 3 (fun (t : D_Kind) y => { t with weight := y }) weight9) fun _ => bnd (ret ([] : List (Str × (Str × Int)))) fun carried10 => bnd (ret ()) fun _ => bnd (newA opnL 4 (fun (t : D_Kind) y => { t with carried := y }) carried10) fun _ => bnd (bnd (ret carried5) fun v11 => bnd (ret ()) fun _ => ret (Option.isSome v11)) fun v12 => if v12 then (bnd (bnd (bnd (ret carried5) fun v13 => opt v13) fun v14 => ret v14) fun carried15 => bnd (ret ()) fun _ => bnd (putA opnL 4 (fun (t : D_Kind) y => { t with carried := y }) carried15) fun _ => bnd (frzA opnL opnD 5) fun (self16 : D_Kind) => ret (.nx self16)) else (bnd (frzA opnL opnD 5) fun (self17 : D_Kind) => ret (.nx self17)) : M (Opn S D_Kind) (Fl D_Kind Empty Unit))) (jb_cx (Γ2 := [some (.fz (rSelfU a ())), some (.fz (rS name1)), some (.fz (rS source2)), some (.fz (rS target3)), some (.fz (rI weight4)), some (.fz ((rO (rD kS (rT2 K rS rI))) carried5))]) (jb_amNewF (i := 0) (r := rS) cap_opn T.cl_Kind T.na_Kind_name (fun t : D_Kind => t.name) (fun (t : D_Kind) y => { t with name := y }) (je_var (r := rS) (x := name1) 1 rfl (pv 1)) (je_var (r := rSelfU a) (x := ()) 0 rfl (pv 0)) (jb_cx (Γ2 := [some (.fz (rSelfU a ())), some (.fz (rS name1)), some (.fz (rS source2)), some (.fz (rS target3)), some (.fz (rI weight4)), some (.fz ((rO (rD kS (rT2 K rS rI))) carried5))]) (cut_Kind_init_4 T hr z hu hu1 name1 source2 target3 weight4 carried5)) (hd_Kind_name K))) (by simp only [ret_bnd, rdM_some, Kind_init_mb])
abbrev st_Cycle_allows_am : Stmt := (inClass (top 19) 1)
theorem sc_Cycle_allows_am : FnScope ["self", "kind", "used", "column", "pair", "other", "amount"] ["self", "kind"] (defScope st_Cycle_allows_am) := ⟨rfl, rfl, rfl, by decide +kernel, rfl, by decide +kernel, by decide +kernel⟩
def Cycle_allows_am_mb {S : Type} (l : OL S D_Cycle) (kind1 : D_Kind) : M S (Fl Unit Empty Bool) := bnd (bnd (bnd (valid_name_m (D_Kind.name kind1)) fun v4 => ret (!v4)) fun v12 => if v12 then ret true else (bnd (bnd (valid_name_m (D_Kind.source kind1)) fun v7 => ret (!v7)) fun v11 => if v11 then ret true else (bnd (valid_name_m (D_Kind.target kind1)) fun v10 => ret (!v10)))) fun v13 => if v13 then (ret (.rt false)) else (bnd (bnd (if decide ((1 : Int) ≤ (D_Kind.weight kind1)) then (ret (decide ((D_Kind.weight kind1) ≤ (1000 : Int)))) else ret false) fun v19 => ret (!v19)) fun v20 => if v20 then (ret (.rt false)) else (bnd (if (decide ((D_Kind.source kind1) = ("absent" : Str))) then ret true else (ret (decide ((D_Kind.target kind1) = ("absent" : Str))))) fun v29 => if v29 then (bnd (if (!decide ((D_Kind.source kind1) = (D_Kind.target kind1))) then (deqM (fun (x : Str × Int) => PyData.strOk (x.1) && (fun _ => true) (x.2)) (D_Kind.carried kind1) ([] : List (Str × (Str × Int)))) else ret false) fun v38 => ret (.rt v38)) else (thenB (forL (fun (x43 : Str × (Str × Int)) (t42 : (List Str)) => bnd (bnd (bnd (getA l 0 (fun t : D_Cycle => t.column_sizes)) fun v46 => ret (!dhas v46 x43.1)) fun v54 => if v54 then ret true else (bnd (bnd (getA l 0 (fun t : D_Cycle => t.column_sizes)) fun v49 => ret (!dhas v49 x43.2.1)) fun v53 => if v53 then ret true else (ret (decide (x43.2.1 ∈ t42))))) fun v55 => if v55 then (ret (.rt false)) else (bnd (bnd (bnd (bnd (getA l 0 (fun t : D_Cycle => t.column_sizes)) fun v57 => opt (dget v57 x43.1)) fun v59 => ret v59.2) fun v63 => bnd (bnd (bnd (getA l 0 (fun t : D_Cycle => t.column_sizes)) fun v60 => opt (dget v60 x43.2.1)) fun v62 => ret v62.2) fun v64 => ret (!decide (v63 = v64))) fun v65 => if v65 then (ret (.rt false)) else (bnd (bnd (if decide ((-(1000000 : Int)) ≤ x43.2.2) then (ret (decide (x43.2.2 ≤ (1000000 : Int)))) else ret false) fun v71 => ret (!v71)) fun v72 => if v72 then (ret (.rt false)) else (bnd (appM t42 x43.2.1) fun used74 => ret (.nx used74))))) (D_Kind.carried kind1) ([] : List Str)) fun (t76 : (List Str)) => ret (.rt true))))
def Cycle_allows_am_m {S : Type} (l : OL S D_Cycle) (kind1 : D_Kind) : M S Bool := runF (Cycle_allows_am_mb l kind1)
abbrev ra_Cycle_allows_am (K : PySem.W.Frag) (S : Type) (R : S → MP Hp) (c : (AmC D_Cycle (He.ga K "Cycle") (cd_Cycle K)) S R) : Unit × D_Kind × Unit → List V → Hp → Prop := (raC (rSelfU c.x) (raC (r_Kind K) raN))
abbrev f_Cycle_allows_am (K : PySem.W.Frag) (S : Type) (R : S → MP Hp) (c : (AmC D_Cycle (He.ga K "Cycle") (cd_Cycle K)) S R) (y : Unit × D_Kind × Unit) : M S Bool := Cycle_allows_am_m c.l y.2.1
abbrev sp_Cycle_allows_am (K : PySem.W.Frag) (mg : Str → Option Value) : Sp := spC mg (ra_Cycle_allows_am K) (.fz rB) (f_Cycle_allows_am K)
theorem cut_Cycle_allows_am_0 {P : Program} {w : World} {K : PySem.W.Frag} {mg : Str → Option Value} {base : Heap} {f : Addr} {cdv : Value} {A : Around} {outer : List Env} {s : Shared} {H : Hp} {E : XK} {Fm : Fm} {S : Type} {R : S → MP Hp} (cp : (AmC D_Cycle (He.ga K "Cycle") (cd_Cycle K)) S R) (T : Txt K mg) (C_valid_name : FnC P w K mg base "valid_name" 1 (sp_valid_name K mg)) (hr : Room 1 (A.deeper (envOfC "Cycle.allows" (defScope st_Cycle_allows_am) s.heap.objs.size f cdv))) (z : ZOk (ZF P w K mg base ["self", "kind", "used", "column", "pair", "other", "amount"] "Cycle.allows" (defScope st_Cycle_allows_am) f cdv A outer s H E Fm S R)) (hu : (A.deeper (envOfC "Cycle.allows" (defScope st_Cycle_allows_am) s.heap.objs.size f cdv)).units + 65 < cLine) (hu1 : (A.deeper (envOfC "Cycle.allows" (defScope st_Cycle_allows_am) s.heap.objs.size f cdv)).units + 1 < cLine) (kind1 : D_Kind) (t76 : (List Str)) : JB (ZF P w K mg base ["self", "kind", "used", "column", "pair", "other", "amount"] "Cycle.allows" (defScope st_Cycle_allows_am) f cdv A outer s H E Fm S R) [some (.fz (rSelfU cp.x ())), some (.fz ((r_Kind K) kind1)), some (.lv ((cL rS) t76)), none, none, none, none] (List.drop 5 (defBody st_Cycle_allows_am)) (bnd (ret true) fun v77 => ret (.rt v77) : M S (Fl Unit Empty Bool)) (fun _ => []) (fun e => nomatch e) (.fz rB) := (jb_one (js_ret je_bl))
theorem cut_Cycle_allows_am_1 {P : Program} {w : World} {K : PySem.W.Frag} {mg : Str → Option Value} {base : Heap} {f : Addr} {cdv : Value} {A : Around} {outer : List Env} {s : Shared} {H : Hp} {E : XK} {Fm : Fm} {S : Type} {R : S → MP Hp} (cp : (AmC D_Cycle (He.ga K "Cycle") (cd_Cycle K)) S R) (T : Txt K mg) (C_valid_name : FnC P w K mg base "valid_name" 1 (sp_valid_name K mg)) (hr : Room 1 (A.deeper (envOfC "Cycle.allows" (defScope st_Cycle_allows_am) s.heap.objs.size f cdv))) (z : ZOk (ZF P w K mg base ["self", "kind", "used", "column", "pair", "other", "amount"] "Cycle.allows" (defScope st_Cycle_allows_am) f cdv A outer s H E Fm S R)) (hu : (A.deeper (envOfC "Cycle.allows" (defScope st_Cycle_allows_am) s.heap.objs.size f cdv)).units + 65 < cLine) (hu1 : (A.deeper (envOfC "Cycle.allows" (defScope st_Cycle_allows_am) s.heap.objs.size f cdv)).units + 1 < cLine) (kind1 : D_Kind) (used39 : List Str) : JB (ZF P w K mg base ["self", "kind", "used", "column", "pair", "other", "amount"] "Cycle.allows" (defScope st_Cycle_allows_am) f cdv A outer s H E Fm S R) [some (.fz (rSelfU cp.x ())), some (.fz ((r_Kind K) kind1)), some (.lv ((cL rS) used39)), none, none, none, none] (List.drop 4 (defBody st_Cycle_allows_am)) (thenB (bnd (bnd (bnd (ret kind1) fun v40 => ret (D_Kind.carried v40)) fun v41 => ret v41) fun v78 => forL (fun (x43 : Str × (Str × Int)) (t42 : (List Str)) => bnd (ret x43.2) fun v44 => bnd (bnd (bnd (ret x43.1) fun v45 => bnd (ret ()) fun _ => bnd (getA cp.l 0 (fun t : D_Cycle => t.column_sizes)) fun v46 => ret (!dhas v46 v45)) fun v54 => if v54 then ret true else (bnd (bnd (ret v44.1) fun v48 => bnd (ret ()) fun _ => bnd (getA cp.l 0 (fun t : D_Cycle => t.column_sizes)) fun v49 => ret (!dhas v49 v48)) fun v53 => if v53 then ret true else (bnd (ret v44.1) fun v51 => bnd (ret t42) fun v52 => ret (decide (v51 ∈ v52))))) fun v55 => if v55 then (bnd (ret false) fun v56 => ret (.rt v56)) else (bnd (bnd (bnd (bnd (ret ()) fun _ => bnd (getA cp.l 0 (fun t : D_Cycle => t.column_sizes)) fun v57 => opt (dget v57 x43.1)) fun v59 => ret v59.2) fun v63 => bnd (bnd (bnd (ret ()) fun _ => bnd (getA cp.l 0 (fun t : D_Cycle => t.column_sizes)) fun v60 => opt (dget v60 v44.1)) fun v62 => ret v62.2) fun v64 => ret (!decide (v63 = v64))) fun v65 => if v65 then (bnd (ret false) fun v66 => ret (.rt v66)) else (bnd (bnd (bnd (bnd (ret (1000000 : Int)) fun v67 => ret (-v67)) fun v68 => bnd (ret v44.2) fun v69 => if decide (v68 ≤ v69) then (bnd (ret (1000000 : Int)) fun v70 => ret (decide (v69 ≤ v70))) else ret false) fun v71 => ret (!v71)) fun v72 => if v72 then (bnd (ret false) fun v73 => ret (.rt v73)) else (bnd (ret v44.1) fun v75 => bnd (appM t42 v75) fun used74 => ret (.nx used74))))) v78 used39) fun (t76 : (List Str)) => bnd (ret true) fun v77 => ret (.rt v77) : M S (Fl Unit Empty Bool)) (fun _ => []) (fun e => nomatch e) (.fz rB) := (jb_seq (Γ1 := fun t42 : (List Str) => [some (.fz (rSelfU cp.x ())), some (.fz ((r_Kind K) kind1)), some (.lv ((cL rS) t42)), none, none, none, none]) (js_for (n := 7) (t0 := used39) z (ji_items (kt := kS) (je_fld (r := (rD kS (rT2 K rS rI))) (g := fun x => x.carried) T.cl_Kind T.na_Kind_carried (je_var (r := (r_Kind K)) (x := kind1) 1 rfl (pv 1)))) (jg_tup2 (r1 := rS) (r2 := (rT2 K rS rI)) z (i1 := 3) (i2 := 4) ⟨rfl, (by first | exact .inl rfl | exact .inr rfl), (by first | exact .inl rfl | exact .inr rfl)⟩ ⟨rfl, (by first | exact .inl rfl | exact .inr rfl), (by first | exact .inl rfl | exact .inr rfl)⟩) (Le.some (Le.some (Le.some (Le.none (Le.none (Le.none (Le.none Le.nil))))))) (fun x43 t42 => (jb_cx (Γ2 := [some (.fz (rSelfU cp.x ())), some (.fz ((r_Kind K) kind1)), some (.lv ((cL rS) t42)), some (.fz (rS x43.1)), some (.fz ((rT2 K rS rI) x43.2)), none, none]) (jb_unpack (je_var (r := (rT2 K rS rI)) (x := x43.2) 4 rfl (pv 4)) (jg_tup2 (r1 := rS) (r2 := rI) z (i1 := 5) (i2 := 6) ⟨rfl, (by first | exact .inl rfl | exact .inr rfl), (by first | exact .inl rfl | exact .inr rfl)⟩ ⟨rfl, (by first | exact .inl rfl | exact .inr rfl), (by first | exact .inl rfl | exact .inr rfl)⟩) (fun v44 => (jb_cx (Γ2 := [some (.fz (rSelfU cp.x ())), some (.fz ((r_Kind K) kind1)), some (.lv ((cL rS) t42)), some (.fz (rS x43.1)), some (.fz ((rT2 K rS rI) x43.2)), some (.fz (rS v44.1)), some (.fz (rI v44.2))]) (jb_ifR (JW.jt (jw_or (jt_amNin (i := 0) (kt := kS) (r := (rT2 K rI rI)) cp.ok T.cl_Cycle T.na_Cycle_column_sizes hu (fun t : D_Cycle => t.column_sizes) (je_var (r := rS) (x := x43.1) 3 rfl (pv 3)) (je_var (r := rSelfU cp.x) (x := ()) 0 rfl (pv 0))) (jw_or (jt_amNin (i := 0) (kt := kS) (r := (rT2 K rI rI)) cp.ok T.cl_Cycle T.na_Cycle_column_sizes hu (fun t : D_Cycle => t.column_sizes) (je_var (r := rS) (x := v44.1) 5 rfl (pv 5)) (je_var (r := rSelfU cp.x) (x := ()) 0 rfl (pv 0))) (jw_or1 (jt_inV flS (je_var (r := rS) (x := v44.1) 5 rfl (pv 5)) (je_live (c := (cL rS)) (x := t42) 2 rfl (pv 2))))))) (jb_cx (Γ2 := [some (.fz (rSelfU cp.x ())), some (.fz ((r_Kind K) kind1)), some (.lv ((cL rS) t42)), some (.fz (rS x43.1)), some (.fz ((rT2 K rS rI) x43.2)), some (.fz (rS v44.1)), some (.fz (rI v44.2))]) (jb_one (js_ret je_bl))) (by repeat' first | exact nn_rt | exact nn_rse | exact nn_ct | exact nn_bk | exact nn_stk | refine nn_if ?_ ?_ | (refine nn_bnd ?_; intro _) | (refine nn_then ?_; intro _)) (jb_cx (Γ2 := [some (.fz (rSelfU cp.x ())), some (.fz ((r_Kind K) kind1)), some (.lv ((cL rS) t42)), some (.fz (rS x43.1)), some (.fz ((rT2 K rS rI) x43.2)), some (.fz (rS v44.1)), some (.fz (rI v44.2))]) (jb_ifR (jt_c c_neI (je_t2_1 (je_amGetC (i := 0) (kt := kS) (r := (rT2 K rI rI)) cp.ok T.cl_Cycle T.na_Cycle_column_sizes hu (fun t : D_Cycle => t.column_sizes) (je_var (r := rSelfU cp.x) (x := ()) 0 rfl (pv 0)) (jc_var (r := rS) (y := x43.1) 3 rfl (pv 3)))) (je_t2_1 (je_amGetC (i := 0) (kt := kS) (r := (rT2 K rI rI)) cp.ok T.cl_Cycle T.na_Cycle_column_sizes hu (fun t : D_Cycle => t.column_sizes) (je_var (r := rSelfU cp.x) (x := ()) 0 rfl (pv 0)) (jc_var (r := rS) (y := v44.1) 5 rfl (pv 5))))) (jb_cx (Γ2 := [some (.fz (rSelfU cp.x ())), some (.fz ((r_Kind K) kind1)), some (.lv ((cL rS) t42)), some (.fz (rS x43.1)), some (.fz ((rT2 K rS rI) x43.2)), some (.fz (rS v44.1)), some (.fz (rI v44.2))]) (jb_one (js_ret je_bl))) (by repeat' first | exact nn_rt | exact nn_rse | exact nn_ct | exact nn_bk | exact nn_stk | refine nn_if ?_ ?_ | (refine nn_bnd ?_; intro _) | (refine nn_then ?_; intro _)) (jb_cx (Γ2 := [some (.fz (rSelfU cp.x ())), some (.fz ((r_Kind K) kind1)), some (.lv ((cL rS) t42)), some (.fz (rS x43.1)), some (.fz ((rT2 K rS rI) x43.2)), some (.fz (rS v44.1)), some (.fz (rI v44.2))]) (jb_ifR (jt_not (jt_chain op_le op_le (je_neg (je_globI (x := 1000000) (by rfl) T.gGREATEST_AMOUNT)) (je_var (r := rI) (x := v44.2) 6 rfl (pv 6)) (je_globI (x := 1000000) (by rfl) T.gGREATEST_AMOUNT))) (jb_cx (Γ2 := [some (.fz (rSelfU cp.x ())), some (.fz ((r_Kind K) kind1)), some (.lv ((cL rS) t42)), some (.fz (rS x43.1)), some (.fz ((rT2 K rS rI) x43.2)), some (.fz (rS v44.1)), some (.fz (rI v44.2))]) (jb_one (js_ret je_bl))) (by repeat' first | exact nn_rt | exact nn_rse | exact nn_ct | exact nn_bk | exact nn_stk | refine nn_if ?_ ?_ | (refine nn_bnd ?_; intro _) | (refine nn_then ?_; intro _)) (jb_cx (Γ2 := [some (.fz (rSelfU cp.x ())), some (.fz ((r_Kind K) kind1)), some (.lv ((cL rS) t42)), some (.fz (rS x43.1)), some (.fz ((rT2 K rS rI) x43.2)), some (.fz (rS v44.1)), some (.fz (rI v44.2))]) (jb_append (k := 2) rfl (pv 2) (je_var (r := rS) (x := v44.1) 5 rfl (pv 5)) (fun used74 => (jb_cx (Γ2 := [some (.fz (rSelfU cp.x ())), some (.fz ((r_Kind K) kind1)), some (.lv ((cL rS) used74)), some (.fz (rS x43.1)), some (.fz ((rT2 K rS rI) x43.2)), some (.fz (rS v44.1)), some (.fz (rI v44.2))]) (jb_nil (t := used74) (Le.some (Le.some (Le.some (Le.none (Le.none (Le.none (Le.none Le.nil)))))))))) (ps_expr (pe_bm PySem.F.plainAttrs_list PySem.F.slot_list_append PySem.F.type_list_append mt_append (pv 2) (pa_cons (JE.pe (je_var (r := rS) (x := v44.1) 5 rfl (pv 5))) pa_nil)))))))))))) (fun _ hp => ps_asg hp (jg_tup2 (r1 := rS) (r2 := rI) z (i1 := 5) (i2 := 6) ⟨rfl, (by first | exact .inl rfl | exact .inr rfl), (by first | exact .inl rfl | exact .inr rfl)⟩ ⟨rfl, (by first | exact .inl rfl | exact .inr rfl), (by first | exact .inl rfl | exact .inr rfl)⟩).pg))))) (fun t76 => (jb_cx (Γ2 := [some (.fz (rSelfU cp.x ())), some (.fz ((r_Kind K) kind1)), some (.lv ((cL rS) t76)), none, none, none, none]) (cut_Cycle_allows_am_0 cp T C_valid_name hr z hu hu1 kind1 t76))))
theorem cut_Cycle_allows_am_2 {P : Program} {w : World} {K : PySem.W.Frag} {mg : Str → Option Value} {base : Heap} {f : Addr} {cdv : Value} {A : Around} {outer : List Env} {s : Shared} {H : Hp} {E : XK} {Fm : Fm} {S : Type} {R : S → MP Hp} (cp : (AmC D_Cycle (He.ga K "Cycle") (cd_Cycle K)) S R) (T : Txt K mg) (C_valid_name : FnC P w K mg base "valid_name" 1 (sp_valid_name K mg)) (hr : Room 1 (A.deeper (envOfC "Cycle.allows" (defScope st_Cycle_allows_am) s.heap.objs.size f cdv))) (z : ZOk (ZF P w K mg base ["self", "kind", "used", "column", "pair", "other", "amount"] "Cycle.allows" (defScope st_Cycle_allows_am) f cdv A outer s H E Fm S R)) (hu : (A.deeper (envOfC "Cycle.allows" (defScope st_Cycle_allows_am) s.heap.objs.size f cdv)).units + 65 < cLine) (hu1 : (A.deeper (envOfC "Cycle.allows" (defScope st_Cycle_allows_am) s.heap.objs.size f cdv)).units + 1 < cLine) (kind1 : D_Kind) : JB (ZF P w K mg base ["self", "kind", "used", "column", "pair", "other", "amount"] "Cycle.allows" (defScope st_Cycle_allows_am) f cdv A outer s H E Fm S R) [some (.fz (rSelfU cp.x ())), some (.fz ((r_Kind K) kind1)), none, none, none, none, none] (List.drop 3 (defBody st_Cycle_allows_am)) (bnd (ret ([] : List Str)) fun used39 => thenB (bnd (bnd (bnd (ret kind1) fun v40 => ret (D_Kind.carried v40)) fun v41 => ret v41) fun v78 => forL (fun (x43 : Str × (Str × Int)) (t42 : (List Str)) => bnd (ret x43.2) fun v44 => bnd (bnd (bnd (ret x43.1) fun v45 => bnd (ret ()) fun _ => bnd (getA cp.l 0 (fun t : D_Cycle => t.column_sizes)) fun v46 => ret (!dhas v46 v45)) fun v54 => if v54 then ret true else (bnd (bnd (ret v44.1) fun v48 => bnd (ret ()) fun _ => bnd (getA cp.l 0 (fun t : D_Cycle => t.column_sizes)) fun v49 => ret (!dhas v49 v48)) fun v53 => if v53 then ret true else (bnd (ret v44.1) fun v51 => bnd (ret t42) fun v52 => ret (decide (v51 ∈ v52))))) fun v55 => if v55 then (bnd (ret false) fun v56 => ret (.rt v56)) else (bnd (bnd (bnd (bnd (ret ()) fun _ => bnd (getA cp.l 0 (fun t : D_Cycle => t.column_sizes)) fun v57 => opt (dget v57 x43.1)) fun v59 => ret v59.2) fun v63 => bnd (bnd (bnd (ret ()) fun _ => bnd (getA cp.l 0 (fun t : D_Cycle => t.column_sizes)) fun v60 => opt (dget v60 v44.1)) fun v62 => ret v62.2) fun v64 => ret (!decide (v63 = v64))) fun v65 => if v65 then (bnd (ret false) fun v66 => ret (.rt v66)) else (bnd (bnd (bnd (bnd (ret (1000000 : Int)) fun v67 => ret (-v67)) fun v68 => bnd (ret v44.2) fun v69 => if decide (v68 ≤ v69) then (bnd (ret (1000000 : Int)) fun v70 => ret (decide (v69 ≤ v70))) else ret false) fun v71 => ret (!v71)) fun v72 => if v72 then (bnd (ret false) fun v73 => ret (.rt v73)) else (bnd (ret v44.1) fun v75 => bnd (appM t42 v75) fun used74 => ret (.nx used74))))) v78 used39) fun (t76 : (List Str)) => bnd (ret true) fun v77 => ret (.rt v77) : M S (Fl Unit Empty Bool)) (fun _ => []) (fun e => nomatch e) (.fz rB) := (jb_setO (i := 2) z rfl (by first | exact .inl rfl | exact .inr rfl) (je_list (jl_nil (r := rS))) (fun used39 => (jb_cx (Γ2 := [some (.fz (rSelfU cp.x ())), some (.fz ((r_Kind K) kind1)), some (.lv ((cL rS) used39)), none, none, none, none]) (cut_Cycle_allows_am_1 cp T C_valid_name hr z hu hu1 kind1 used39))))
theorem cut_Cycle_allows_am_3 {P : Program} {w : World} {K : PySem.W.Frag} {mg : Str → Option Value} {base : Heap} {f : Addr} {cdv : Value} {A : Around} {outer : List Env} {s : Shared} {H : Hp} {E : XK} {Fm : Fm} {S : Type} {R : S → MP Hp} (cp : (AmC D_Cycle (He.ga K "Cycle") (cd_Cycle K)) S R) (T : Txt K mg) (C_valid_name : FnC P w K mg base "valid_name" 1 (sp_valid_name K mg)) (hr : Room 1 (A.deeper (envOfC "Cycle.allows" (defScope st_Cycle_allows_am) s.heap.objs.size f cdv))) (z : ZOk (ZF P w K mg base ["self", "kind", "used", "column", "pair", "other", "amount"] "Cycle.allows" (defScope st_Cycle_allows_am) f cdv A outer s H E Fm S R)) (hu : (A.deeper (envOfC "Cycle.allows" (defScope st_Cycle_allows_am) s.heap.objs.size f cdv)).units + 65 < cLine) (hu1 : (A.deeper (envOfC "Cycle.allows" (defScope st_Cycle_allows_am) s.heap.objs.size f cdv)).units + 1 < cLine) (kind1 : D_Kind) : JB (ZF P w K mg base ["self", "kind", "used", "column", "pair", "other", "amount"] "Cycle.allows" (defScope st_Cycle_allows_am) f cdv A outer s H E Fm S R) [some (.fz (rSelfU cp.x ())), some (.fz ((r_Kind K) kind1)), none, none, none, none, none] (List.drop 2 (defBody st_Cycle_allows_am)) (bnd (bnd (bnd (bnd (ret kind1) fun v22 => ret (D_Kind.source v22)) fun v23 => bnd (ret ("absent" : Str)) fun v24 => ret (decide (v23 = v24))) fun v28 => if v28 then ret true else (bnd (bnd (ret kind1) fun v25 => ret (D_Kind.target v25)) fun v26 => bnd (ret ("absent" : Str)) fun v27 => ret (decide (v26 = v27)))) fun v29 => if v29 then (bnd (bnd (bnd (bnd (ret kind1) fun v30 => ret (D_Kind.source v30)) fun v32 => bnd (bnd (ret kind1) fun v31 => ret (D_Kind.target v31)) fun v33 => ret (!decide (v32 = v33))) fun v37 => if v37 then (bnd (bnd (ret kind1) fun v34 => ret (D_Kind.carried v34)) fun v35 => bnd (ret ([] : List (Str × (Str × Int)))) fun v36 => deqM (fun (x : Str × Int) => PyData.strOk (x.1) && (fun _ => true) (x.2)) v35 v36) else ret false) fun v38 => ret (.rt v38)) else (bnd (ret ([] : List Str)) fun used39 => thenB (bnd (bnd (bnd (ret kind1) fun v40 => ret (D_Kind.carried v40)) fun v41 => ret v41) fun v78 => forL (fun (x43 : Str × (Str × Int)) (t42 : (List Str)) => bnd (ret x43.2) fun v44 => bnd (bnd (bnd (ret x43.1) fun v45 => bnd (ret ()) fun _ => bnd (getA cp.l 0 (fun t : D_Cycle => t.column_sizes)) fun v46 => ret (!dhas v46 v45)) fun v54 => if v54 then ret true else (bnd (bnd (ret v44.1) fun v48 => bnd (ret ()) fun _ => bnd (getA cp.l 0 (fun t : D_Cycle => t.column_sizes)) fun v49 => ret (!dhas v49 v48)) fun v53 => if v53 then ret true else (bnd (ret v44.1) fun v51 => bnd (ret t42) fun v52 => ret (decide (v51 ∈ v52))))) fun v55 => if v55 then (bnd (ret false) fun v56 => ret (.rt v56)) else (bnd (bnd (bnd (bnd (ret ()) fun _ => bnd (getA cp.l 0 (fun t : D_Cycle => t.column_sizes)) fun v57 => opt (dget v57 x43.1)) fun v59 => ret v59.2) fun v63 => bnd (bnd (bnd (ret ()) fun _ => bnd (getA cp.l 0 (fun t : D_Cycle => t.column_sizes)) fun v60 => opt (dget v60 v44.1)) fun v62 => ret v62.2) fun v64 => ret (!decide (v63 = v64))) fun v65 => if v65 then (bnd (ret false) fun v66 => ret (.rt v66)) else (bnd (bnd (bnd (bnd (ret (1000000 : Int)) fun v67 => ret (-v67)) fun v68 => bnd (ret v44.2) fun v69 => if decide (v68 ≤ v69) then (bnd (ret (1000000 : Int)) fun v70 => ret (decide (v69 ≤ v70))) else ret false) fun v71 => ret (!v71)) fun v72 => if v72 then (bnd (ret false) fun v73 => ret (.rt v73)) else (bnd (ret v44.1) fun v75 => bnd (appM t42 v75) fun used74 => ret (.nx used74))))) v78 used39) fun (t76 : (List Str)) => bnd (ret true) fun v77 => ret (.rt v77)) : M S (Fl Unit Empty Bool)) (fun _ => []) (fun e => nomatch e) (.fz rB) := (jb_ifR (JW.jt (jw_or (jt_c c_eqS (je_fld (r := rS) (g := fun x => x.source) T.cl_Kind T.na_Kind_source (je_var (r := (r_Kind K)) (x := kind1) 1 rfl (pv 1))) (je_globS (x := "absent") (by rfl) T.gABSENT)) (jw_or1 (jt_c c_eqS (je_fld (r := rS) (g := fun x => x.target) T.cl_Kind T.na_Kind_target (je_var (r := (r_Kind K)) (x := kind1) 1 rfl (pv 1))) (je_globS (x := "absent") (by rfl) T.gABSENT))))) (jb_cx (Γ2 := [some (.fz (rSelfU cp.x ())), some (.fz ((r_Kind K) kind1)), none, none, none, none, none]) (jb_one (js_ret (je_and (je_c c_neS (je_fld (r := rS) (g := fun x => x.source) T.cl_Kind T.na_Kind_source (je_var (r := (r_Kind K)) (x := kind1) 1 rfl (pv 1))) (je_fld (r := rS) (g := fun x => x.target) T.cl_Kind T.na_Kind_target (je_var (r := (r_Kind K)) (x := kind1) 1 rfl (pv 1)))) (je_b1 (je_eqDD (kt := kS) (dT2 dS dI) (by decide) hu (je_fld (r := (rD kS (rT2 K rS rI))) (g := fun x => x.carried) T.cl_Kind T.na_Kind_carried (je_var (r := (r_Kind K)) (x := kind1) 1 rfl (pv 1))) (je_frzD (je_dict0 (k := kS) (r := (rT2 K rS rI)))))))))) (by repeat' first | exact nn_rt | exact nn_rse | exact nn_ct | exact nn_bk | exact nn_stk | refine nn_if ?_ ?_ | (refine nn_bnd ?_; intro _) | (refine nn_then ?_; intro _)) (jb_cx (Γ2 := [some (.fz (rSelfU cp.x ())), some (.fz ((r_Kind K) kind1)), none, none, none, none, none]) (cut_Cycle_allows_am_2 cp T C_valid_name hr z hu hu1 kind1)))
theorem cut_Cycle_allows_am_4 {P : Program} {w : World} {K : PySem.W.Frag} {mg : Str → Option Value} {base : Heap} {f : Addr} {cdv : Value} {A : Around} {outer : List Env} {s : Shared} {H : Hp} {E : XK} {Fm : Fm} {S : Type} {R : S → MP Hp} (cp : (AmC D_Cycle (He.ga K "Cycle") (cd_Cycle K)) S R) (T : Txt K mg) (C_valid_name : FnC P w K mg base "valid_name" 1 (sp_valid_name K mg)) (hr : Room 1 (A.deeper (envOfC "Cycle.allows" (defScope st_Cycle_allows_am) s.heap.objs.size f cdv))) (z : ZOk (ZF P w K mg base ["self", "kind", "used", "column", "pair", "other", "amount"] "Cycle.allows" (defScope st_Cycle_allows_am) f cdv A outer s H E Fm S R)) (hu : (A.deeper (envOfC "Cycle.allows" (defScope st_Cycle_allows_am) s.heap.objs.size f cdv)).units + 65 < cLine) (hu1 : (A.deeper (envOfC "Cycle.allows" (defScope st_Cycle_allows_am) s.heap.objs.size f cdv)).units + 1 < cLine) (kind1 : D_Kind) : JB (ZF P w K mg base ["self", "kind", "used", "column", "pair", "other", "amount"] "Cycle.allows" (defScope st_Cycle_allows_am) f cdv A outer s H E Fm S R) [some (.fz (rSelfU cp.x ())), some (.fz ((r_Kind K) kind1)), none, none, none, none, none] (List.drop 1 (defBody st_Cycle_allows_am)) (bnd (bnd (bnd (ret (1 : Int)) fun v16 => bnd (bnd (ret kind1) fun v15 => ret (D_Kind.weight v15)) fun v17 => if decide (v16 ≤ v17) then (bnd (ret (1000 : Int)) fun v18 => ret (decide (v17 ≤ v18))) else ret false) fun v19 => ret (!v19)) fun v20 => if v20 then (bnd (ret false) fun v21 => ret (.rt v21)) else (bnd (bnd (bnd (bnd (ret kind1) fun v22 => ret (D_Kind.source v22)) fun v23 => bnd (ret ("absent" : Str)) fun v24 => ret (decide (v23 = v24))) fun v28 => if v28 then ret true else (bnd (bnd (ret kind1) fun v25 => ret (D_Kind.target v25)) fun v26 => bnd (ret ("absent" : Str)) fun v27 => ret (decide (v26 = v27)))) fun v29 => if v29 then (bnd (bnd (bnd (bnd (ret kind1) fun v30 => ret (D_Kind.source v30)) fun v32 => bnd (bnd (ret kind1) fun v31 => ret (D_Kind.target v31)) fun v33 => ret (!decide (v32 = v33))) fun v37 => if v37 then (bnd (bnd (ret kind1) fun v34 => ret (D_Kind.carried v34)) fun v35 => bnd (ret ([] : List (Str × (Str × Int)))) fun v36 => deqM (fun (x : Str × Int) => PyData.strOk (x.1) && (fun _ => true) (x.2)) v35 v36) else ret false) fun v38 => ret (.rt v38)) else (bnd (ret ([] : List Str)) fun used39 => thenB (bnd (bnd (bnd (ret kind1) fun v40 => ret (D_Kind.carried v40)) fun v41 => ret v41) fun v78 => forL (fun (x43 : Str × (Str × Int)) (t42 : (List Str)) => bnd (ret x43.2) fun v44 => bnd (bnd (bnd (ret x43.1) fun v45 => bnd (ret ()) fun _ => bnd (getA cp.l 0 (fun t : D_Cycle => t.column_sizes)) fun v46 => ret (!dhas v46 v45)) fun v54 => if v54 then ret true else (bnd (bnd (ret v44.1) fun v48 => bnd (ret ()) fun _ => bnd (getA cp.l 0 (fun t : D_Cycle => t.column_sizes)) fun v49 => ret (!dhas v49 v48)) fun v53 => if v53 then ret true else (bnd (ret v44.1) fun v51 => bnd (ret t42) fun v52 => ret (decide (v51 ∈ v52))))) fun v55 => if v55 then (bnd (ret false) fun v56 => ret (.rt v56)) else (bnd (bnd (bnd (bnd (ret ()) fun _ => bnd (getA cp.l 0 (fun t : D_Cycle => t.column_sizes)) fun v57 => opt (dget v57 x43.1)) fun v59 => ret v59.2) fun v63 => bnd (bnd (bnd (ret ()) fun _ => bnd (getA cp.l 0 (fun t : D_Cycle => t.column_sizes)) fun v60 => opt (dget v60 v44.1)) fun v62 => ret v62.2) fun v64 => ret (!decide (v63 = v64))) fun v65 => if v65 then (bnd (ret false) fun v66 => ret (.rt v66)) else (bnd (bnd (bnd (bnd (ret (1000000 : Int)) fun v67 => ret (-v67)) fun v68 => bnd (ret v44.2) fun v69 => if decide (v68 ≤ v69) then (bnd (ret (1000000 : Int)) fun v70 => ret (decide (v69 ≤ v70))) else ret false) fun v71 => ret (!v71)) fun v72 => if v72 then (bnd (ret false) fun v73 => ret (.rt v73)) else (bnd (ret v44.1) fun v75 => bnd (appM t42 v75) fun used74 => ret (.nx used74))))) v78 used39) fun (t76 : (List Str)) => bnd (ret true) fun v77 => ret (.rt v77))) : M S (Fl Unit Empty Bool)) (fun _ => []) (fun e => nomatch e) (.fz rB) := (jb_ifR (jt_not (jt_chain op_le op_le je_int (je_fld (r := rI) (g := fun x => x.weight) T.cl_Kind T.na_Kind_weight (je_var (r := (r_Kind K)) (x := kind1) 1 rfl (pv 1))) (je_globI (x := 1000) (by rfl) T.gGREATEST_SIZE))) (jb_cx (Γ2 := [some (.fz (rSelfU cp.x ())), some (.fz ((r_Kind K) kind1)), none, none, none, none, none]) (jb_one (js_ret je_bl))) (by repeat' first | exact nn_rt | exact nn_rse | exact nn_ct | exact nn_bk | exact nn_stk | refine nn_if ?_ ?_ | (refine nn_bnd ?_; intro _) | (refine nn_then ?_; intro _)) (jb_cx (Γ2 := [some (.fz (rSelfU cp.x ())), some (.fz ((r_Kind K) kind1)), none, none, none, none, none]) (cut_Cycle_allows_am_3 cp T C_valid_name hr z hu hu1 kind1)))
theorem ok_Cycle_allows_am {P : Program} {w : World} {K : PySem.W.Frag} {mg : Str → Option Value} {base : Heap} {f : Addr} {fd : FuncData} (F : FnP K "allows" "Cycle.allows" st_Cycle_allows_am [] [] f fd) (T : Txt K mg) (C_valid_name : FnC P w K mg base "valid_name" 1 (sp_valid_name K mg)) : FnOk P w K mg base (L2.CX P w) 2 f fd ["self", "kind"] (sp_Cycle_allows_am K mg) := by
  refine fn_mk (k := 1) (mb := fun S R c y => Cycle_allows_am_mb c.l y.2.1) (Γ0 := fun S R c y => [some (.fz ((rSelfU c.x) y.1)), some (.fz ((r_Kind K) y.2.1)), none, none, none, none, none]) (Γ' := fun _ => []) (Γb := fun e => nomatch e) F sc_Cycle_allows_am (fun S R c y vs G h => (len_raC (len_raC len_raN)) h) (fun _ _ _ _ => rfl) (fun S R c y vs G h => (so_raC (so_raC (so_raN (n := 5)))) h) (fun _ _ _ _ => by exact Nat.le_of_ble_eq_true rfl) (by exact Nat.le_of_ble_eq_true rfl) ?_
  intro cdv A outer s H E Fm S R cp y hr z
  have hu := DL.Room.hu hr
  have hu1 := DL.Room.hu1 hr
  obtain ⟨_, kind1, _⟩ := y
  exact JB.eq (m := (bnd (bnd (bnd (bnd (bnd (ret kind1) fun v2 => ret (D_Kind.name v2)) fun v3 => valid_name_m v3) fun v4 => ret (!v4)) fun v12 => if v12 then ret true else (bnd (bnd (bnd (bnd (ret kind1) fun v5 => ret (D_Kind.source v5)) fun v6 => valid_name_m v6) fun v7 => ret (!v7)) fun v11 => if v11 then ret true else (bnd (bnd (bnd (ret kind1) fun v8 => ret (D_Kind.target v8)) fun v9 => valid_name_m v9) fun v10 => ret (!v10)))) fun v13 => if v13 then (bnd (ret false) fun v14 => ret (.rt v14)) else (bnd (bnd (bnd (ret (1 : Int)) fun v16 => bnd (bnd (ret kind1) fun v15 => ret (D_Kind.weight v15)) fun v17 => if decide (v16 ≤ v17) then (bnd (ret (1000 : Int)) fun v18 => ret (decide (v17 ≤ v18))) else ret false) fun v19 => ret (!v19)) fun v20 => if v20 then (bnd (ret false) fun v21 => ret (.rt v21)) else (bnd (bnd (bnd (bnd (ret kind1) fun v22 => ret (D_Kind.source v22)) fun v23 => bnd (ret ("absent" : Str)) fun v24 => ret (decide (v23 = v24))) fun v28 => if v28 then ret true else (bnd (bnd (ret kind1) fun v25 => ret (D_Kind.target v25)) fun v26 => bnd (ret ("absent" : Str)) fun v27 => ret (decide (v26 = v27)))) fun v29 => if v29 then (bnd (bnd (bnd (bnd (ret kind1) fun v30 => ret (D_Kind.source v30)) fun v32 => bnd (bnd (ret kind1) fun v31 => ret (D_Kind.target v31)) fun v33 => ret (!decide (v32 = v33))) fun v37 => if v37 then (bnd (bnd (ret kind1) fun v34 => ret (D_Kind.carried v34)) fun v35 => bnd (ret ([] : List (Str × (Str × Int)))) fun v36 => deqM (fun (x : Str × Int) => PyData.strOk (x.1) && (fun _ => true) (x.2)) v35 v36) else ret false) fun v38 => ret (.rt v38)) else (bnd (ret ([] : List Str)) fun used39 => thenB (bnd (bnd (bnd (ret kind1) fun v40 => ret (D_Kind.carried v40)) fun v41 => ret v41) fun v78 => forL (fun (x43 : Str × (Str × Int)) (t42 : (List Str)) => bnd (ret x43.2) fun v44 => bnd (bnd (bnd (ret x43.1) fun v45 => bnd (ret ()) fun _ => bnd (getA cp.l 0 (fun t : D_Cycle => t.column_sizes)) fun v46 => ret (!dhas v46 v45)) fun v54 => if v54 then ret true else (bnd (bnd (ret v44.1) fun v48 => bnd (ret ()) fun _ => bnd (getA cp.l 0 (fun t : D_Cycle => t.column_sizes)) fun v49 => ret (!dhas v49 v48)) fun v53 => if v53 then ret true else (bnd (ret v44.1) fun v51 => bnd (ret t42) fun v52 => ret (decide (v51 ∈ v52))))) fun v55 => if v55 then (bnd (ret false) fun v56 => ret (.rt v56)) else (bnd (bnd (bnd (bnd (ret ()) fun _ => bnd (getA cp.l 0 (fun t : D_Cycle => t.column_sizes)) fun v57 => opt (dget v57 x43.1)) fun v59 => ret v59.2) fun v63 => bnd (bnd (bnd (ret ()) fun _ => bnd (getA cp.l 0 (fun t : D_Cycle => t.column_sizes)) fun v60 => opt (dget v60 v44.1)) fun v62 => ret v62.2) fun v64 => ret (!decide (v63 = v64))) fun v65 => if v65 then (bnd (ret false) fun v66 => ret (.rt v66)) else (bnd (bnd (bnd (bnd (ret (1000000 : Int)) fun v67 => ret (-v67)) fun v68 => bnd (ret v44.2) fun v69 => if decide (v68 ≤ v69) then (bnd (ret (1000000 : Int)) fun v70 => ret (decide (v69 ≤ v70))) else ret false) fun v71 => ret (!v71)) fun v72 => if v72 then (bnd (ret false) fun v73 => ret (.rt v73)) else (bnd (ret v44.1) fun v75 => bnd (appM t42 v75) fun used74 => ret (.nx used74))))) v78 used39) fun (t76 : (List Str)) => bnd (ret true) fun v77 => ret (.rt v77)))) : M S (Fl Unit Empty Bool))) (jb_cx (Γ2 := [some (.fz (rSelfU cp.x ())), some (.fz ((r_Kind K) kind1)), none, none, none, none, none]) (jb_ifR (JW.jt (jw_or (jt_not (jt_val (je_call z C_valid_name hr ⟨⟩ (ja_cons (je_fld (r := rS) (g := fun x => x.name) T.cl_Kind T.na_Kind_name (je_var (r := (r_Kind K)) (x := kind1) 1 rfl (pv 1))) ja_nil)))) (jw_or (jt_not (jt_val (je_call z C_valid_name hr ⟨⟩ (ja_cons (je_fld (r := rS) (g := fun x => x.source) T.cl_Kind T.na_Kind_source (je_var (r := (r_Kind K)) (x := kind1) 1 rfl (pv 1))) ja_nil)))) (jw_or1 (jt_not (jt_val (je_call z C_valid_name hr ⟨⟩ (ja_cons (je_fld (r := rS) (g := fun x => x.target) T.cl_Kind T.na_Kind_target (je_var (r := (r_Kind K)) (x := kind1) 1 rfl (pv 1))) ja_nil)))))))) (jb_cx (Γ2 := [some (.fz (rSelfU cp.x ())), some (.fz ((r_Kind K) kind1)), none, none, none, none, none]) (jb_one (js_ret je_bl))) (by repeat' first | exact nn_rt | exact nn_rse | exact nn_ct | exact nn_bk | exact nn_stk | refine nn_if ?_ ?_ | (refine nn_bnd ?_; intro _) | (refine nn_then ?_; intro _)) (jb_cx (Γ2 := [some (.fz (rSelfU cp.x ())), some (.fz ((r_Kind K) kind1)), none, none, none, none, none]) (cut_Cycle_allows_am_4 cp T C_valid_name hr z hu hu1 kind1)))) (by simp only [ret_bnd, rdM_some, Cycle_allows_am_mb])
abbrev st_Cycle_init : Stmt := (inClass (top 19) 0)
theorem sc_Cycle_init : FnScope ["self", "columns", "kinds", "column", "kind", "name", "pair", "ends"] ["self", "columns", "kinds"] (defScope st_Cycle_init) := ⟨rfl, rfl, rfl, by decide +kernel, rfl, by decide +kernel, by decide +kernel⟩
def Cycle_init_mb {S : Type} (columns1 : List D_Column) (kinds2 : List D_Kind) : M (Opn S D_Cycle) (Fl D_Cycle Empty Unit) := bnd (bnd (bnd (if decide ((1 : Int) ≤ (List.length columns1 : Int)) then (ret (decide ((List.length columns1 : Int) ≤ (6 : Int)))) else ret false) fun v7 => ret (!v7)) fun v13 => if v13 then ret true else (bnd (if decide ((1 : Int) ≤ (List.length kinds2 : Int)) then (ret (decide ((List.length kinds2 : Int) ≤ (12 : Int)))) else ret false) fun v12 => ret (!v12))) fun v14 => if v14 then (stk) else (bnd (newA opnL 0 (fun (t : D_Cycle) y => { t with column_sizes := y }) ([] : List (Str × (Int × Int)))) fun _ => thenB (forL (fun (x18 : D_Column) (t17 : Unit) => bnd (bnd (bnd (valid_column_m x18) fun v20 => ret (!v20)) fun v25 => if v25 then ret true else (bnd (getA opnL 0 (fun t : D_Cycle => t.column_sizes)) fun v23 => ret (dhas v23 (D_Column.name x18)))) fun v26 => if v26 then (stk) else (bnd (dputA opnL 0 (fun t : D_Cycle => t.column_sizes) (fun (t : D_Cycle) y => { t with column_sizes := y }) (D_Column.name x18) ((D_Column.width x18), (D_Column.modulus x18))) fun _ => ret (.nx ()))) columns1 ()) fun (t33 : Unit) => bnd (newA opnL 1 (fun (t : D_Cycle) y => { t with kind_ends := y }) ([] : List (Str × (Str × Str)))) fun _ => bnd (newA opnL 2 (fun (t : D_Cycle) y => { t with kind_weights := y }) ([] : List (Str × Int))) fun _ => bnd (newA opnL 3 (fun (t : D_Cycle) y => { t with kind_carried := y }) ([] : List (Str × (List (Str × (Str × Int)))))) fun _ => thenB (forL (fun (x39 : D_Kind) (t38 : Unit) => bnd (bnd (bnd (getA opnL 1 (fun t : D_Cycle => t.kind_ends)) fun v42 => ret (dhas v42 (D_Kind.name x39))) fun v47 => if v47 then ret true else (bnd (bnd (hereA opnL) fun _ => Cycle_allows_am_m opnL x39) fun v46 => ret (!v46))) fun v48 => if v48 then (stk) else (bnd (dputA opnL 1 (fun t : D_Cycle => t.kind_ends) (fun (t : D_Cycle) y => { t with kind_ends := y }) (D_Kind.name x39) ((D_Kind.source x39), (D_Kind.target x39))) fun _ => bnd (dputA opnL 2 (fun t : D_Cycle => t.kind_weights) (fun (t : D_Cycle) y => { t with kind_weights := y }) (D_Kind.name x39) (D_Kind.weight x39)) fun _ => bnd (dcompM (fun (x56 : Str × (Str × Int)) => ret true) (fun (x56 : Str × (Str × Int)) => ret x56.1) (fun (x56 : Str × (Str × Int)) => ret (x56.2.1, x56.2.2)) (D_Kind.carried x39)) fun v62 => bnd (dputA opnL 3 (fun t : D_Cycle => t.kind_carried) (fun (t : D_Cycle) y => { t with kind_carried := y }) (D_Kind.name x39) v62) fun _ => ret (.nx ()))) kinds2 ()) fun (t68 : Unit) => bnd (frzA opnL opnD 4) fun (self69 : D_Cycle) => bnd (bnd (bnd (compM (fun x72 => ret true) (fun x72 => ret (decide (x72.1 = ("absent" : Str)))) (List.map (·.2) (D_Cycle.kind_ends self69))) fun v77 => ret (List.any v77 id)) fun v78 => ret (!v78)) fun v79 => if v79 then (stk) else (ret (.nx self69)))
def Cycle_init_m {S : Type} (columns1 : List D_Column) (kinds2 : List D_Kind) : M S D_Cycle := runO d0_Cycle (Cycle_init_mb columns1 kinds2)
abbrev ra_Cycle_init (K : PySem.W.Frag) (S : Type) (R : S → MP Hp) (c : NoCap S R) : (List D_Column) × (List D_Kind) × Unit → List V → Hp → Prop := (raC (rL (r_Column K)) (raC (rL (r_Kind K)) raN))
abbrev f_Cycle_init (S : Type) (R : S → MP Hp) (c : NoCap S R) (y : (List D_Column) × (List D_Kind) × Unit) : M S D_Cycle := Cycle_init_m y.1 y.2.1
abbrev sp_Cycle_init (K : PySem.W.Frag) (mg : Str → Option Value) : Sp := spI mg (He.ga K "Cycle") (ra_Cycle_init K) (fs_Cycle K) f_Cycle_init
theorem cut_Cycle_init_0 {P : Program} {w : World} {K : PySem.W.Frag} {mg : Str → Option Value} {base : Heap} {f : Addr} {cdv : Value} {A : Around} {outer : List Env} {s : Shared} {H : Hp} {E : XK} {Fm : Fm} {S : Type} {R : S → MP Hp} {a dx : Addr} (T : Txt K mg) (C_valid_column : FnC P w K mg base "valid_column" 2 (sp_valid_column K mg)) (C_Cycle_allows_am : MtC P w K mg base (He.ga K "Cycle") "allows" 2 (sp_Cycle_allows_am K mg)) (hr : Room 2 (A.deeper (envOfC "Cycle.__init__" (defScope st_Cycle_init) s.heap.objs.size f cdv))) (z : ZOk (ZF P w K mg base ["self", "columns", "kinds", "column", "kind", "name", "pair", "ends"] "Cycle.__init__" (defScope st_Cycle_init) f cdv A outer s H E Fm (Opn S D_Cycle) (RO R a (He.ga K "Cycle") dx (cd_Cycle K)))) (hu : (A.deeper (envOfC "Cycle.__init__" (defScope st_Cycle_init) s.heap.objs.size f cdv)).units + 65 < cLine) (hu1 : (A.deeper (envOfC "Cycle.__init__" (defScope st_Cycle_init) s.heap.objs.size f cdv)).units + 1 < cLine) (self69 : D_Cycle) (columns1 : List D_Column) (kinds2 : List D_Kind) : JB (ZF P w K mg base ["self", "columns", "kinds", "column", "kind", "name", "pair", "ends"] "Cycle.__init__" (defScope st_Cycle_init) f cdv A outer s H E Fm (Opn S D_Cycle) (RO R a (He.ga K "Cycle") dx (cd_Cycle K))) [some (.fz ((rObjAt a (He.ga K "Cycle") (fs_Cycle K)) self69)), some (.fz ((rL (r_Column K)) columns1)), some (.fz ((rL (r_Kind K)) kinds2)), none, none, none, none, none] (List.drop 7 (defBody st_Cycle_init)) (bnd (bnd (bnd (bnd (bnd (bnd (ret self69) fun v70 => ret (D_Cycle.kind_ends v70)) fun v71 => ret (List.map (·.2) v71)) fun v76 => compM (fun x72 => ret true) (fun x72 => bnd (bnd (ret x72) fun v73 => ret v73.1) fun v74 => bnd (ret ("absent" : Str)) fun v75 => ret (decide (v74 = v75))) v76) fun v77 => ret (List.any v77 id)) fun v78 => ret (!v78)) fun v79 => if v79 then (stk) else (ret (.nx self69)) : M (Opn S D_Cycle) (Fl D_Cycle Empty Unit)) (fun t => [some (.fz (rObjAt a (He.ga K "Cycle") (fs_Cycle K) t))]) (fun e => nomatch e) (.fz rU) := (jb_ifR (jt_not (jt_val (je_any z (by rfl) T.f_any (je_frzL (je_comp (own := [("ends", 7)]) z (ji_values (kt := kS) (je_fld (r := (rD kS (rT2 K rS rS))) (g := fun x => x.kind_ends) T.cl_Cycle T.na_Cycle_kind_ends (je_at (je_var (r := (rObjAt a (He.ga K "Cycle") (fs_Cycle K))) (x := self69) 0 rfl (pv 0))))) (fun (x72 : Str × Str) => ret true) (fun (x72 : Str × Str) => bnd (bnd (ret x72) fun v73 => ret v73.1) fun v74 => bnd (ret ("absent" : Str)) fun v75 => ret (decide (v74 = v75))) (blkOk_by (N := ["self", "columns", "kinds", "column", "kind", "name", "pair", "ends"]) (sc := defScope st_Cycle_init) (by decide +kernel)) (fun _ _ _ _ _ _ _ => by exact (jg_name (i := 7) ((ZOk.blk z)).nd rfl (by first | exact .inl rfl | exact .inr rfl))) (fun _ _ _ _ _ _ _ x72 => jts_nil) (fun _ _ _ _ _ _ _ x72 => (je_c c_eqS (je_t2_0 (je_var (r := (rT2 K rS rS)) (x := x72) 7 rfl (pv 7))) (je_globS (x := "absent") (by rfl) T.gABSENT)))))))) (jb_cx (Γ2 := [some (.fz ((rObjAt a (He.ga K "Cycle") (fs_Cycle K)) self69)), some (.fz ((rL (r_Column K)) columns1)), some (.fz ((rL (r_Kind K)) kinds2)), none, none, none, none, none]) (jb_one js_stk)) (by repeat' first | exact nn_rt | exact nn_rse | exact nn_ct | exact nn_bk | exact nn_stk | refine nn_if ?_ ?_ | (refine nn_bnd ?_; intro _) | (refine nn_then ?_; intro _)) (jb_cx (Γ2 := [some (.fz ((rObjAt a (He.ga K "Cycle") (fs_Cycle K)) self69)), some (.fz ((rL (r_Column K)) columns1)), some (.fz ((rL (r_Kind K)) kinds2)), none, none, none, none, none]) (jb_nil (t := self69) (Le.some Le.nil))))
theorem cut_Cycle_init_1 {P : Program} {w : World} {K : PySem.W.Frag} {mg : Str → Option Value} {base : Heap} {f : Addr} {cdv : Value} {A : Around} {outer : List Env} {s : Shared} {H : Hp} {E : XK} {Fm : Fm} {S : Type} {R : S → MP Hp} {a dx : Addr} (T : Txt K mg) (C_valid_column : FnC P w K mg base "valid_column" 2 (sp_valid_column K mg)) (C_Cycle_allows_am : MtC P w K mg base (He.ga K "Cycle") "allows" 2 (sp_Cycle_allows_am K mg)) (hr : Room 2 (A.deeper (envOfC "Cycle.__init__" (defScope st_Cycle_init) s.heap.objs.size f cdv))) (z : ZOk (ZF P w K mg base ["self", "columns", "kinds", "column", "kind", "name", "pair", "ends"] "Cycle.__init__" (defScope st_Cycle_init) f cdv A outer s H E Fm (Opn S D_Cycle) (RO R a (He.ga K "Cycle") dx (cd_Cycle K)))) (hu : (A.deeper (envOfC "Cycle.__init__" (defScope st_Cycle_init) s.heap.objs.size f cdv)).units + 65 < cLine) (hu1 : (A.deeper (envOfC "Cycle.__init__" (defScope st_Cycle_init) s.heap.objs.size f cdv)).units + 1 < cLine) (columns1 : List D_Column) (kinds2 : List D_Kind) : JB (ZF P w K mg base ["self", "columns", "kinds", "column", "kind", "name", "pair", "ends"] "Cycle.__init__" (defScope st_Cycle_init) f cdv A outer s H E Fm (Opn S D_Cycle) (RO R a (He.ga K "Cycle") dx (cd_Cycle K))) [some (.fz (rSelfU a ())), some (.fz ((rL (r_Column K)) columns1)), some (.fz ((rL (r_Kind K)) kinds2)), none, none, none, none, none] (List.drop 7 (defBody st_Cycle_init)) (bnd (frzA opnL opnD 4) fun (self69 : D_Cycle) => bnd (bnd (bnd (bnd (bnd (bnd (ret self69) fun v70 => ret (D_Cycle.kind_ends v70)) fun v71 => ret (List.map (·.2) v71)) fun v76 => compM (fun x72 => ret true) (fun x72 => bnd (bnd (ret x72) fun v73 => ret v73.1) fun v74 => bnd (ret ("absent" : Str)) fun v75 => ret (decide (v74 = v75))) v76) fun v77 => ret (List.any v77 id)) fun v78 => ret (!v78)) fun v79 => if v79 then (stk) else (ret (.nx self69)) : M (Opn S D_Cycle) (Fl D_Cycle Empty Unit)) (fun t => [some (.fz (rObjAt a (He.ga K "Cycle") (fs_Cycle K) t))]) (fun e => nomatch e) (.fz rU) := (jb_amFrz (fsT := fs_Cycle K) (k0 := 0) cap_opnD rfl (fun self69 => (jb_cx (Γ2 := [some (.fz ((rObjAt a (He.ga K "Cycle") (fs_Cycle K)) self69)), some (.fz ((rL (r_Column K)) columns1)), some (.fz ((rL (r_Kind K)) kinds2)), none, none, none, none, none]) (cut_Cycle_init_0 T C_valid_column C_Cycle_allows_am hr z hu hu1 self69 columns1 kinds2))))
theorem cut_Cycle_init_2 {P : Program} {w : World} {K : PySem.W.Frag} {mg : Str → Option Value} {base : Heap} {f : Addr} {cdv : Value} {A : Around} {outer : List Env} {s : Shared} {H : Hp} {E : XK} {Fm : Fm} {S : Type} {R : S → MP Hp} {a dx : Addr} (T : Txt K mg) (C_valid_column : FnC P w K mg base "valid_column" 2 (sp_valid_column K mg)) (C_Cycle_allows_am : MtC P w K mg base (He.ga K "Cycle") "allows" 2 (sp_Cycle_allows_am K mg)) (hr : Room 2 (A.deeper (envOfC "Cycle.__init__" (defScope st_Cycle_init) s.heap.objs.size f cdv))) (z : ZOk (ZF P w K mg base ["self", "columns", "kinds", "column", "kind", "name", "pair", "ends"] "Cycle.__init__" (defScope st_Cycle_init) f cdv A outer s H E Fm (Opn S D_Cycle) (RO R a (He.ga K "Cycle") dx (cd_Cycle K)))) (hu : (A.deeper (envOfC "Cycle.__init__" (defScope st_Cycle_init) s.heap.objs.size f cdv)).units + 65 < cLine) (hu1 : (A.deeper (envOfC "Cycle.__init__" (defScope st_Cycle_init) s.heap.objs.size f cdv)).units + 1 < cLine) (columns1 : List D_Column) (kinds2 : List D_Kind) : JB (ZF P w K mg base ["self", "columns", "kinds", "column", "kind", "name", "pair", "ends"] "Cycle.__init__" (defScope st_Cycle_init) f cdv A outer s H E Fm (Opn S D_Cycle) (RO R a (He.ga K "Cycle") dx (cd_Cycle K))) [some (.fz (rSelfU a ())), some (.fz ((rL (r_Column K)) columns1)), some (.fz ((rL (r_Kind K)) kinds2)), none, none, none, none, none] (List.drop 6 (defBody st_Cycle_init)) (thenB (bnd (bnd (ret kinds2) fun v37 => ret v37) fun v80 => forL (fun (x39 : D_Kind) (t38 : Unit) => bnd (bnd (bnd (bnd (ret x39) fun v40 => ret (D_Kind.name v40)) fun v41 => bnd (ret ()) fun _ => bnd (getA opnL 1 (fun t : D_Cycle => t.kind_ends)) fun v42 => ret (dhas v42 v41)) fun v47 => if v47 then ret true else (bnd (bnd (ret ()) fun v45 => bnd (hereA opnL) fun _ => bnd (ret x39) fun v44 => Cycle_allows_am_m opnL v44) fun v46 => ret (!v46))) fun v48 => if v48 then (stk) else (bnd (bnd (bnd (ret x39) fun v49 => ret (D_Kind.source v49)) fun v51 => bnd (bnd (ret x39) fun v50 => ret (D_Kind.target v50)) fun v52 => ret (v51, v52)) fun v66 => bnd (ret ()) fun _ => bnd (dputA opnL 1 (fun t : D_Cycle => t.kind_ends) (fun (t : D_Cycle) y => { t with kind_ends := y }) (D_Kind.name x39) v66) fun _ => bnd (bnd (ret x39) fun v53 => ret (D_Kind.weight v53)) fun v64 => bnd (ret ()) fun _ => bnd (dputA opnL 2 (fun t : D_Cycle => t.kind_weights) (fun (t : D_Cycle) y => { t with kind_weights := y }) (D_Kind.name x39) v64) fun _ => bnd (bnd (bnd (bnd (ret x39) fun v54 => ret (D_Kind.carried v54)) fun v55 => ret v55) fun v61 => dcompM (fun (x56 : Str × (Str × Int)) => ret true) (fun (x56 : Str × (Str × Int)) => ret x56.1) (fun (x56 : Str × (Str × Int)) => bnd (bnd (ret x56.2) fun v57 => ret v57.1) fun v59 => bnd (bnd (ret x56.2) fun v58 => ret v58.2) fun v60 => ret (v59, v60)) v61) fun v62 => bnd (ret ()) fun _ => bnd (dputA opnL 3 (fun t : D_Cycle => t.kind_carried) (fun (t : D_Cycle) y => { t with kind_carried := y }) (D_Kind.name x39) v62) fun _ => ret (.nx ()))) v80 ()) fun (t68 : Unit) => bnd (frzA opnL opnD 4) fun (self69 : D_Cycle) => bnd (bnd (bnd (bnd (bnd (bnd (ret self69) fun v70 => ret (D_Cycle.kind_ends v70)) fun v71 => ret (List.map (·.2) v71)) fun v76 => compM (fun x72 => ret true) (fun x72 => bnd (bnd (ret x72) fun v73 => ret v73.1) fun v74 => bnd (ret ("absent" : Str)) fun v75 => ret (decide (v74 = v75))) v76) fun v77 => ret (List.any v77 id)) fun v78 => ret (!v78)) fun v79 => if v79 then (stk) else (ret (.nx self69)) : M (Opn S D_Cycle) (Fl D_Cycle Empty Unit)) (fun t => [some (.fz (rObjAt a (He.ga K "Cycle") (fs_Cycle K) t))]) (fun e => nomatch e) (.fz rU) := (jb_seq (Γ1 := fun t38 : Unit => [some (.fz (rSelfU a ())), some (.fz ((rL (r_Column K)) columns1)), some (.fz ((rL (r_Kind K)) kinds2)), none, none, none, none, none]) (js_for (n := 8) (t0 := ()) z (ji_list (je_var (r := (rL (r_Kind K))) (x := kinds2) 2 rfl (pv 2))) (jg_name (i := 4) (z).nd rfl (by first | exact .inl rfl | exact .inr rfl)) (Le.some (Le.some (Le.some (Le.none (Le.none (Le.none (Le.none (Le.none Le.nil)))))))) (fun x39 t38 => (jb_cx (Γ2 := [some (.fz (rSelfU a ())), some (.fz ((rL (r_Column K)) columns1)), some (.fz ((rL (r_Kind K)) kinds2)), none, some (.fz ((r_Kind K) x39)), none, none, none]) (jb_ifR (JW.jt (jw_or (jt_amIn (i := 1) (kt := kS) (r := (rT2 K rS rS)) cap_opn T.cl_Cycle T.na_Cycle_kind_ends hu (fun t : D_Cycle => t.kind_ends) (je_fld (r := rS) (g := fun x => x.name) T.cl_Kind T.na_Kind_name (je_var (r := (r_Kind K)) (x := x39) 4 rfl (pv 4))) (je_var (r := rSelfU a) (x := ()) 0 rfl (pv 0))) (jw_or1 (jt_not (jt_val (je_meth z C_Cycle_allows_am hr ⟨opnL, a, dx, cap_opn⟩ T.cl_Cycle (so_am cap_opn) (je_var (r := rSelfU a) (x := ()) 0 rfl (pv 0)) (ja_cons (je_var (r := (r_Kind K)) (x := x39) 4 rfl (pv 4)) ja_nil))))))) (jb_cx (Γ2 := [some (.fz (rSelfU a ())), some (.fz ((rL (r_Column K)) columns1)), some (.fz ((rL (r_Kind K)) kinds2)), none, some (.fz ((r_Kind K) x39)), none, none, none]) (jb_one js_stk)) (by repeat' first | exact nn_rt | exact nn_rse | exact nn_ct | exact nn_bk | exact nn_stk | refine nn_if ?_ ?_ | (refine nn_bnd ?_; intro _) | (refine nn_then ?_; intro _)) (jb_cx (Γ2 := [some (.fz (rSelfU a ())), some (.fz ((rL (r_Column K)) columns1)), some (.fz ((rL (r_Kind K)) kinds2)), none, some (.fz ((r_Kind K) x39)), none, none, none]) (jb_amPutC (i := 1) (kt := kS) (r := (rT2 K rS rS)) cap_opn T.cl_Cycle T.na_Cycle_kind_ends hu1 (fun t : D_Cycle => t.kind_ends) (fun (t : D_Cycle) y => { t with kind_ends := y }) (je_tup2 (ja_cons (je_fld (r := rS) (g := fun x => x.source) T.cl_Kind T.na_Kind_source (je_var (r := (r_Kind K)) (x := x39) 4 rfl (pv 4))) (ja_cons (je_fld (r := rS) (g := fun x => x.target) T.cl_Kind T.na_Kind_target (je_var (r := (r_Kind K)) (x := x39) 4 rfl (pv 4))) ja_nil))) (je_var (r := rSelfU a) (x := ()) 0 rfl (pv 0)) (jc_fld (r := rS) (fun x => x.name) T.cl_Kind T.na_Kind_name (jc_var (r := (r_Kind K)) (y := x39) 4 rfl (pv 4))) (jb_cx (Γ2 := [some (.fz (rSelfU a ())), some (.fz ((rL (r_Column K)) columns1)), some (.fz ((rL (r_Kind K)) kinds2)), none, some (.fz ((r_Kind K) x39)), none, none, none]) (jb_amPutC (i := 2) (kt := kS) (r := rI) cap_opn T.cl_Cycle T.na_Cycle_kind_weights hu1 (fun t : D_Cycle => t.kind_weights) (fun (t : D_Cycle) y => { t with kind_weights := y }) (je_fld (r := rI) (g := fun x => x.weight) T.cl_Kind T.na_Kind_weight (je_var (r := (r_Kind K)) (x := x39) 4 rfl (pv 4))) (je_var (r := rSelfU a) (x := ()) 0 rfl (pv 0)) (jc_fld (r := rS) (fun x => x.name) T.cl_Kind T.na_Kind_name (jc_var (r := (r_Kind K)) (y := x39) 4 rfl (pv 4))) (jb_cx (Γ2 := [some (.fz (rSelfU a ())), some (.fz ((rL (r_Column K)) columns1)), some (.fz ((rL (r_Kind K)) kinds2)), none, some (.fz ((r_Kind K) x39)), none, none, none]) (jb_amPutC (i := 3) (kt := kS) (r := (rD kS (rT2 K rS rI))) cap_opn T.cl_Cycle T.na_Cycle_kind_carried hu1 (fun t : D_Cycle => t.kind_carried) (fun (t : D_Cycle) y => { t with kind_carried := y }) (je_frzD (je_dcomp (own := [("name", 5), ("pair", 6)]) (g := gTup K 2 (gCons (gName 5) (gCons (gName 6) gNil))) (kt := kS) z (ji_items (kt := kS) (je_fld (r := (rD kS (rT2 K rS rI))) (g := fun x => x.carried) T.cl_Kind T.na_Kind_carried (je_var (r := (r_Kind K)) (x := x39) 4 rfl (pv 4)))) (fun (x56 : Str × (Str × Int)) => ret true) (fun (x56 : Str × (Str × Int)) => ret x56.1) (fun (x56 : Str × (Str × Int)) => bnd (bnd (ret x56.2) fun v57 => ret v57.1) fun v59 => bnd (bnd (ret x56.2) fun v58 => ret v58.2) fun v60 => ret (v59, v60)) (blkOk_by (N := ["self", "columns", "kinds", "column", "kind", "name", "pair", "ends"]) (sc := defScope st_Cycle_init) (by decide +kernel)) (fun _ _ _ _ _ _ _ => by exact (jg_tup2 (r1 := rS) (r2 := (rT2 K rS rI)) (by exact (ZOk.blk z)) (i1 := 5) (i2 := 6) ⟨rfl, (by first | exact .inl rfl | exact .inr rfl), (by first | exact .inl rfl | exact .inr rfl)⟩ ⟨rfl, (by first | exact .inl rfl | exact .inr rfl), (by first | exact .inl rfl | exact .inr rfl)⟩)) (fun _ _ _ _ _ _ _ x56 => jts_nil) (fun _ _ _ _ _ _ _ x56 => (je_var (r := rS) (x := x56.1) 5 rfl (pv 5))) (fun _ _ _ _ _ _ _ x56 => (je_tup2 (ja_cons (je_t2_0 (je_var (r := (rT2 K rS rI)) (x := x56.2) 6 rfl (pv 6))) (ja_cons (je_t2_1 (je_var (r := (rT2 K rS rI)) (x := x56.2) 6 rfl (pv 6))) ja_nil)))))) (je_var (r := rSelfU a) (x := ()) 0 rfl (pv 0)) (jc_fld (r := rS) (fun x => x.name) T.cl_Kind T.na_Kind_name (jc_var (r := (r_Kind K)) (y := x39) 4 rfl (pv 4))) (jb_cx (Γ2 := [some (.fz (rSelfU a ())), some (.fz ((rL (r_Column K)) columns1)), some (.fz ((rL (r_Kind K)) kinds2)), none, some (.fz ((r_Kind K) x39)), none, none, none]) (jb_nil (t := ()) (Le.some (Le.some (Le.some (Le.none (Le.none (Le.none (Le.none (Le.none Le.nil)))))))))) (hd := (hd_Cycle_kind_carried K)))) (hd := (hd_Cycle_kind_weights K)))) (hd := (hd_Cycle_kind_ends K)))))))) (fun t68 => (jb_cx (Γ2 := [some (.fz (rSelfU a ())), some (.fz ((rL (r_Column K)) columns1)), some (.fz ((rL (r_Kind K)) kinds2)), none, none, none, none, none]) (cut_Cycle_init_1 T C_valid_column C_Cycle_allows_am hr z hu hu1 columns1 kinds2))))
theorem cut_Cycle_init_3 {P : Program} {w : World} {K : PySem.W.Frag} {mg : Str → Option Value} {base : Heap} {f : Addr} {cdv : Value} {A : Around} {outer : List Env} {s : Shared} {H : Hp} {E : XK} {Fm : Fm} {S : Type} {R : S → MP Hp} {a dx : Addr} (T : Txt K mg) (C_valid_column : FnC P w K mg base "valid_column" 2 (sp_valid_column K mg)) (C_Cycle_allows_am : MtC P w K mg base (He.ga K "Cycle") "allows" 2 (sp_Cycle_allows_am K mg)) (hr : Room 2 (A.deeper (envOfC "Cycle.__init__" (defScope st_Cycle_init) s.heap.objs.size f cdv))) (z : ZOk (ZF P w K mg base ["self", "columns", "kinds", "column", "kind", "name", "pair", "ends"] "Cycle.__init__" (defScope st_Cycle_init) f cdv A outer s H E Fm (Opn S D_Cycle) (RO R a (He.ga K "Cycle") dx (cd_Cycle K)))) (hu : (A.deeper (envOfC "Cycle.__init__" (defScope st_Cycle_init) s.heap.objs.size f cdv)).units + 65 < cLine) (hu1 : (A.deeper (envOfC "Cycle.__init__" (defScope st_Cycle_init) s.heap.objs.size f cdv)).units + 1 < cLine) (columns1 : List D_Column) (kinds2 : List D_Kind) : JB (ZF P w K mg base ["self", "columns", "kinds", "column", "kind", "name", "pair", "ends"] "Cycle.__init__" (defScope st_Cycle_init) f cdv A outer s H E Fm (Opn S D_Cycle) (RO R a (He.ga K "Cycle") dx (cd_Cycle K))) [some (.fz (rSelfU a ())), some (.fz ((rL (r_Column K)) columns1)), some (.fz ((rL (r_Kind K)) kinds2)), none, none, none, none, none] (List.drop 5 (defBody st_Cycle_init)) (bnd (ret ([] : List (Str × (List (Str × (Str × Int)))))) fun kind_carried36 => bnd (newA opnL 3 (fun (t : D_Cycle) y => { t with kind_carried := y }) kind_carried36) fun _ => thenB (bnd (bnd (ret kinds2) fun v37 => ret v37) fun v80 => forL (fun (x39 : D_Kind) (t38 : Unit) => bnd (bnd (bnd (bnd (ret x39) fun v40 => ret (D_Kind.name v40)) fun v41 => bnd (ret ()) fun _ => bnd (getA opnL 1 (fun t : D_Cycle => t.kind_ends)) fun v42 => ret (dhas v42 v41)) fun v47 => if v47 then ret true else (bnd (bnd (ret ()) fun v45 => bnd (hereA opnL) fun _ => bnd (ret x39) fun v44 => Cycle_allows_am_m opnL v44) fun v46 => ret (!v46))) fun v48 => if v48 then (stk) else (bnd (bnd (bnd (ret x39) fun v49 => ret (D_Kind.source v49)) fun v51 => bnd (bnd (ret x39) fun v50 => ret (D_Kind.target v50)) fun v52 => ret (v51, v52)) fun v66 => bnd (ret ()) fun _ => bnd (dputA opnL 1 (fun t : D_Cycle => t.kind_ends) (fun (t : D_Cycle) y => { t with kind_ends := y }) (D_Kind.name x39) v66) fun _ => bnd (bnd (ret x39) fun v53 => ret (D_Kind.weight v53)) fun v64 => bnd (ret ()) fun _ => bnd (dputA opnL 2 (fun t : D_Cycle => t.kind_weights) (fun (t : D_Cycle) y => { t with kind_weights := y }) (D_Kind.name x39) v64) fun _ => bnd (bnd (bnd (bnd (ret x39) fun v54 => ret (D_Kind.carried v54)) fun v55 => ret v55) fun v61 => dcompM (fun (x56 : Str × (Str × Int)) => ret true) (fun (x56 : Str × (Str × Int)) => ret x56.1) (fun (x56 : Str × (Str × Int)) => bnd (bnd (ret x56.2) fun v57 => ret v57.1) fun v59 => bnd (bnd (ret x56.2) fun v58 => ret v58.2) fun v60 => ret (v59, v60)) v61) fun v62 => bnd (ret ()) fun _ => bnd (dputA opnL 3 (fun t : D_Cycle => t.kind_carried) (fun (t : D_Cycle) y => { t with kind_carried := y }) (D_Kind.name x39) v62) fun _ => ret (.nx ()))) v80 ()) fun (t68 : Unit) => bnd (frzA opnL opnD 4) fun (self69 : D_Cycle) => bnd (bnd (bnd (bnd (bnd (bnd (ret self69) fun v70 => ret (D_Cycle.kind_ends v70)) fun v71 => ret (List.map (·.2) v71)) fun v76 => compM (fun x72 => ret true) (fun x72 => bnd (bnd (ret x72) fun v73 => ret v73.1) fun v74 => bnd (ret ("absent" : Str)) fun v75 => ret (decide (v74 = v75))) v76) fun v77 => ret (List.any v77 id)) fun v78 => ret (!v78)) fun v79 => if v79 then (stk) else (ret (.nx self69)) : M (Opn S D_Cycle) (Fl D_Cycle Empty Unit)) (fun t => [some (.fz (rObjAt a (He.ga K "Cycle") (fs_Cycle K) t))]) (fun e => nomatch e) (.fz rU) := (jb_amNewO (i := 3) (k0 := 0) (O := owD kS (rD kS (rT2 K rS rI))) cap_opn T.cl_Cycle T.na_Cycle_kind_carried (fun t : D_Cycle => t.kind_carried) (fun (t : D_Cycle) y => { t with kind_carried := y }) (je_dict0 (k := kS) (r := (rD kS (rT2 K rS rI)))) rfl (pv 0) (jb_cx (Γ2 := [some (.fz (rSelfU a ())), some (.fz ((rL (r_Column K)) columns1)), some (.fz ((rL (r_Kind K)) kinds2)), none, none, none, none, none]) (cut_Cycle_init_2 T C_valid_column C_Cycle_allows_am hr z hu hu1 columns1 kinds2)) (hd_Cycle_kind_carried K))
theorem cut_Cycle_init_4 {P : Program} {w : World} {K : PySem.W.Frag} {mg : Str → Option Value} {base : Heap} {f : Addr} {cdv : Value} {A : Around} {outer : List Env} {s : Shared} {H : Hp} {E : XK} {Fm : Fm} {S : Type} {R : S → MP Hp} {a dx : Addr} (T : Txt K mg) (C_valid_column : FnC P w K mg base "valid_column" 2 (sp_valid_column K mg)) (C_Cycle_allows_am : MtC P w K mg base (He.ga K "Cycle") "allows" 2 (sp_Cycle_allows_am K mg)) (hr : Room 2 (A.deeper (envOfC "Cycle.__init__" (defScope st_Cycle_init) s.heap.objs.size f cdv))) (z : ZOk (ZF P w K mg base ["self", "columns", "kinds", "column", "kind", "name", "pair", "ends"] "Cycle.__init__" (defScope st_Cycle_init) f cdv A outer s H E Fm (Opn S D_Cycle) (RO R a (He.ga K "Cycle") dx (cd_Cycle K)))) (hu : (A.deeper (envOfC "Cycle.__init__" (defScope st_Cycle_init) s.heap.objs.size f cdv)).units + 65 < cLine) (hu1 : (A.deeper (envOfC "Cycle.__init__" (defScope st_Cycle_init) s.heap.objs.size f cdv)).units + 1 < cLine) (columns1 : List D_Column) (kinds2 : List D_Kind) : JB (ZF P w K mg base ["self", "columns", "kinds", "column", "kind", "name", "pair", "ends"] "Cycle.__init__" (defScope st_Cycle_init) f cdv A outer s H E Fm (Opn S D_Cycle) (RO R a (He.ga K "Cycle") dx (cd_Cycle K))) [some (.fz (rSelfU a ())), some (.fz ((rL (r_Column K)) columns1)), some (.fz ((rL (r_Kind K)) kinds2)), none, none, none, none, none] (List.drop 4 (defBody st_Cycle_init)) (bnd (ret ([] : List (Str × Int))) fun kind_weights35 => bnd (newA opnL 2 (fun (t : D_Cycle) y => { t with kind_weights := y }) kind_weights35) fun _ => bnd (ret ([] : List (Str × (List (Str × (Str × Int)))))) fun kind_carried36 => bnd (newA opnL 3 (fun (t : D_Cycle) y => { t with kind_carried := y }) kind_carried36) fun _ => thenB (bnd (bnd (ret kinds2) fun v37 => ret v37) fun v80 => forL (fun (x39 : D_Kind) (t38 : Unit) => bnd (bnd (bnd (bnd (ret x39) fun v40 => ret (D_Kind.name v40)) fun v41 => bnd (ret ()) fun _ => bnd (getA opnL 1 (fun t : D_Cycle => t.kind_ends)) fun v42 => ret (dhas v42 v41)) fun v47 => if v47 then ret true else (bnd (bnd (ret ()) fun v45 => bnd (hereA opnL) fun _ => bnd (ret x39) fun v44 => Cycle_allows_am_m opnL v44) fun v46 => ret (!v46))) fun v48 => if v48 then (stk) else (bnd (bnd (bnd (ret x39) fun v49 => ret (D_Kind.source v49)) fun v51 => bnd (bnd (ret x39) fun v50 => ret (D_Kind.target v50)) fun v52 => ret (v51, v52)) fun v66 => bnd (ret ()) fun _ => bnd (dputA opnL 1 (fun t : D_Cycle => t.kind_ends) (fun (t : D_Cycle) y => { t with kind_ends := y }) (D_Kind.name x39) v66) fun _ => bnd (bnd (ret x39) fun v53 => ret (D_Kind.weight v53)) fun v64 => bnd (ret ()) fun _ => bnd (dputA opnL 2 (fun t : D_Cycle => t.kind_weights) (fun (t : D_Cycle) y => { t with kind_weights := y }) (D_Kind.name x39) v64) fun _ => bnd (bnd (bnd (bnd (ret x39) fun v54 => ret (D_Kind.carried v54)) fun v55 => ret v55) fun v61 => dcompM (fun (x56 : Str × (Str × Int)) => ret true) (fun (x56 : Str × (Str × Int)) => ret x56.1) (fun (x56 : Str × (Str × Int)) => bnd (bnd (ret x56.2) fun v57 => ret v57.1) fun v59 => bnd (bnd (ret x56.2) fun v58 => ret v58.2) fun v60 => ret (v59, v60)) v61) fun v62 => bnd (ret ()) fun _ => bnd (dputA opnL 3 (fun t : D_Cycle => t.kind_carried) (fun (t : D_Cycle) y => { t with kind_carried := y }) (D_Kind.name x39) v62) fun _ => ret (.nx ()))) v80 ()) fun (t68 : Unit) => bnd (frzA opnL opnD 4) fun (self69 : D_Cycle) => bnd (bnd (bnd (bnd (bnd (bnd (ret self69) fun v70 => ret (D_Cycle.kind_ends v70)) fun v71 => ret (List.map (·.2) v71)) fun v76 => compM (fun x72 => ret true) (fun x72 => bnd (bnd (ret x72) fun v73 => ret v73.1) fun v74 => bnd (ret ("absent" : Str)) fun v75 => ret (decide (v74 = v75))) v76) fun v77 => ret (List.any v77 id)) fun v78 => ret (!v78)) fun v79 => if v79 then (stk) else (ret (.nx self69)) : M (Opn S D_Cycle) (Fl D_Cycle Empty Unit)) (fun t => [some (.fz (rObjAt a (He.ga K "Cycle") (fs_Cycle K) t))]) (fun e => nomatch e) (.fz rU) := (jb_amNewO (i := 2) (k0 := 0) (O := owD kS rI) cap_opn T.cl_Cycle T.na_Cycle_kind_weights (fun t : D_Cycle => t.kind_weights) (fun (t : D_Cycle) y => { t with kind_weights := y }) (je_dict0 (k := kS) (r := rI)) rfl (pv 0) (jb_cx (Γ2 := [some (.fz (rSelfU a ())), some (.fz ((rL (r_Column K)) columns1)), some (.fz ((rL (r_Kind K)) kinds2)), none, none, none, none, none]) (cut_Cycle_init_3 T C_valid_column C_Cycle_allows_am hr z hu hu1 columns1 kinds2)) (hd_Cycle_kind_weights K))
theorem cut_Cycle_init_5 {P : Program} {w : World} {K : PySem.W.Frag} {mg : Str → Option Value} {base : Heap} {f : Addr} {cdv : Value} {A : Around} {outer : List Env} {s : Shared} {H : Hp} {E : XK} {Fm : Fm} {S : Type} {R : S → MP Hp} {a dx : Addr} (T : Txt K mg) (C_valid_column : FnC P w K mg base "valid_column" 2 (sp_valid_column K mg)) (C_Cycle_allows_am : MtC P w K mg base (He.ga K "Cycle") "allows" 2 (sp_Cycle_allows_am K mg)) (hr : Room 2 (A.deeper (envOfC "Cycle.__init__" (defScope st_Cycle_init) s.heap.objs.size f cdv))) (z : ZOk (ZF P w K mg base ["self", "columns", "kinds", "column", "kind", "name", "pair", "ends"] "Cycle.__init__" (defScope st_Cycle_init) f cdv A outer s H E Fm (Opn S D_Cycle) (RO R a (He.ga K "Cycle") dx (cd_Cycle K)))) (hu : (A.deeper (envOfC "Cycle.__init__" (defScope st_Cycle_init) s.heap.objs.size f cdv)).units + 65 < cLine) (hu1 : (A.deeper (envOfC "Cycle.__init__" (defScope st_Cycle_init) s.heap.objs.size f cdv)).units + 1 < cLine) (columns1 : List D_Column) (kinds2 : List D_Kind) : JB (ZF P w K mg base ["self", "columns", "kinds", "column", "kind", "name", "pair", "ends"] "Cycle.__init__" (defScope st_Cycle_init) f cdv A outer s H E Fm (Opn S D_Cycle) (RO R a (He.ga K "Cycle") dx (cd_Cycle K))) [some (.fz (rSelfU a ())), some (.fz ((rL (r_Column K)) columns1)), some (.fz ((rL (r_Kind K)) kinds2)), none, none, none, none, none] (List.drop 3 (defBody st_Cycle_init)) (bnd (ret ([] : List (Str × (Str × Str)))) fun kind_ends34 => bnd (newA opnL 1 (fun (t : D_Cycle) y => { t with kind_ends := y }) kind_ends34) fun _ => bnd (ret ([] : List (Str × Int))) fun kind_weights35 => bnd (newA opnL 2 (fun (t : D_Cycle) y => { t with kind_weights := y }) kind_weights35) fun _ => bnd (ret ([] : List (Str × (List (Str × (Str × Int)))))) fun kind_carried36 => bnd (newA opnL 3 (fun (t : D_Cycle) y => { t with kind_carried := y }) kind_carried36) fun _ => thenB (bnd (bnd (ret kinds2) fun v37 => ret v37) fun v80 => forL (fun (x39 : D_Kind) (t38 : Unit) => bnd (bnd (bnd (bnd (ret x39) fun v40 => ret (D_Kind.name v40)) fun v41 => bnd (ret ()) fun _ => bnd (getA opnL 1 (fun t : D_Cycle => t.kind_ends)) fun v42 => ret (dhas v42 v41)) fun v47 => if v47 then ret true else (bnd (bnd (ret ()) fun v45 => bnd (hereA opnL) fun _ => bnd (ret x39) fun v44 => Cycle_allows_am_m opnL v44) fun v46 => ret (!v46))) fun v48 => if v48 then (stk) else (bnd (bnd (bnd (ret x39) fun v49 => ret (D_Kind.source v49)) fun v51 => bnd (bnd (ret x39) fun v50 => ret (D_Kind.target v50)) fun v52 => ret (v51, v52)) fun v66 => bnd (ret ()) fun _ => bnd (dputA opnL 1 (fun t : D_Cycle => t.kind_ends) (fun (t : D_Cycle) y => { t with kind_ends := y }) (D_Kind.name x39) v66) fun _ => bnd (bnd (ret x39) fun v53 => ret (D_Kind.weight v53)) fun v64 => bnd (ret ()) fun _ => bnd (dputA opnL 2 (fun t : D_Cycle => t.kind_weights) (fun (t : D_Cycle) y => { t with kind_weights := y }) (D_Kind.name x39) v64) fun _ => bnd (bnd (bnd (bnd (ret x39) fun v54 => ret (D_Kind.carried v54)) fun v55 => ret v55) fun v61 => dcompM (fun (x56 : Str × (Str × Int)) => ret true) (fun (x56 : Str × (Str × Int)) => ret x56.1) (fun (x56 : Str × (Str × Int)) => bnd (bnd (ret x56.2) fun v57 => ret v57.1) fun v59 => bnd (bnd (ret x56.2) fun v58 => ret v58.2) fun v60 => ret (v59, v60)) v61) fun v62 => bnd (ret ()) fun _ => bnd (dputA opnL 3 (fun t : D_Cycle => t.kind_carried) (fun (t : D_Cycle) y => { t with kind_carried := y }) (D_Kind.name x39) v62) fun _ => ret (.nx ()))) v80 ()) fun (t68 : Unit) => bnd (frzA opnL opnD 4) fun (self69 : D_Cycle) => bnd (bnd (bnd (bnd (bnd (bnd (ret self69) fun v70 => ret (D_Cycle.kind_ends v70)) fun v71 => ret (List.map (·.2) v71)) fun v76 => compM (fun x72 => ret true) (fun x72 => bnd (bnd (ret x72) fun v73 => ret v73.1) fun v74 => bnd (ret ("absent" : Str)) fun v75 => ret (decide (v74 = v75))) v76) fun v77 => ret (List.any v77 id)) fun v78 => ret (!v78)) fun v79 => if v79 then (stk) else (ret (.nx self69)) : M (Opn S D_Cycle) (Fl D_Cycle Empty Unit)) (fun t => [some (.fz (rObjAt a (He.ga K "Cycle") (fs_Cycle K) t))]) (fun e => nomatch e) (.fz rU) := (jb_amNewO (i := 1) (k0 := 0) (O := owD kS (rT2 K rS rS)) cap_opn T.cl_Cycle T.na_Cycle_kind_ends (fun t : D_Cycle => t.kind_ends) (fun (t : D_Cycle) y => { t with kind_ends := y }) (je_dict0 (k := kS) (r := (rT2 K rS rS))) rfl (pv 0) (jb_cx (Γ2 := [some (.fz (rSelfU a ())), some (.fz ((rL (r_Column K)) columns1)), some (.fz ((rL (r_Kind K)) kinds2)), none, none, none, none, none]) (cut_Cycle_init_4 T C_valid_column C_Cycle_allows_am hr z hu hu1 columns1 kinds2)) (hd_Cycle_kind_ends K))
theorem cut_Cycle_init_6 {P : Program} {w : World} {K : PySem.W.Frag} {mg : Str → Option Value} {base : Heap} {f : Addr} {cdv : Value} {A : Around} {outer : List Env} {s : Shared} {H : Hp} {E : XK} {Fm : Fm} {S : Type} {R : S → MP Hp} {a dx : Addr} (T : Txt K mg) (C_valid_column : FnC P w K mg base "valid_column" 2 (sp_valid_column K mg)) (C_Cycle_allows_am : MtC P w K mg base (He.ga K "Cycle") "allows" 2 (sp_Cycle_allows_am K mg)) (hr : Room 2 (A.deeper (envOfC "Cycle.__init__" (defScope st_Cycle_init) s.heap.objs.size f cdv))) (z : ZOk (ZF P w K mg base ["self", "columns", "kinds", "column", "kind", "name", "pair", "ends"] "Cycle.__init__" (defScope st_Cycle_init) f cdv A outer s H E Fm (Opn S D_Cycle) (RO R a (He.ga K "Cycle") dx (cd_Cycle K)))) (hu : (A.deeper (envOfC "Cycle.__init__" (defScope st_Cycle_init) s.heap.objs.size f cdv)).units + 65 < cLine) (hu1 : (A.deeper (envOfC "Cycle.__init__" (defScope st_Cycle_init) s.heap.objs.size f cdv)).units + 1 < cLine) (columns1 : List D_Column) (kinds2 : List D_Kind) : JB (ZF P w K mg base ["self", "columns", "kinds", "column", "kind", "name", "pair", "ends"] "Cycle.__init__" (defScope st_Cycle_init) f cdv A outer s H E Fm (Opn S D_Cycle) (RO R a (He.ga K "Cycle") dx (cd_Cycle K))) [some (.fz (rSelfU a ())), some (.fz ((rL (r_Column K)) columns1)), some (.fz ((rL (r_Kind K)) kinds2)), none, none, none, none, none] (List.drop 2 (defBody st_Cycle_init)) (thenB (bnd (bnd (ret columns1) fun v16 => ret v16) fun v81 => forL (fun (x18 : D_Column) (t17 : Unit) => bnd (bnd (bnd (bnd (ret x18) fun v19 => valid_column_m v19) fun v20 => ret (!v20)) fun v25 => if v25 then ret true else (bnd (bnd (ret x18) fun v21 => ret (D_Column.name v21)) fun v22 => bnd (ret ()) fun _ => bnd (getA opnL 0 (fun t : D_Cycle => t.column_sizes)) fun v23 => ret (dhas v23 v22))) fun v26 => if v26 then (stk) else (bnd (bnd (bnd (ret x18) fun v27 => ret (D_Column.width v27)) fun v29 => bnd (bnd (ret x18) fun v28 => ret (D_Column.modulus v28)) fun v30 => ret (v29, v30)) fun v31 => bnd (ret ()) fun _ => bnd (dputA opnL 0 (fun t : D_Cycle => t.column_sizes) (fun (t : D_Cycle) y => { t with column_sizes := y }) (D_Column.name x18) v31) fun _ => ret (.nx ()))) v81 ()) fun (t33 : Unit) => bnd (ret ([] : List (Str × (Str × Str)))) fun kind_ends34 => bnd (newA opnL 1 (fun (t : D_Cycle) y => { t with kind_ends := y }) kind_ends34) fun _ => bnd (ret ([] : List (Str × Int))) fun kind_weights35 => bnd (newA opnL 2 (fun (t : D_Cycle) y => { t with kind_weights := y }) kind_weights35) fun _ => bnd (ret ([] : List (Str × (List (Str × (Str × Int)))))) fun kind_carried36 => bnd (newA opnL 3 (fun (t : D_Cycle) y => { t with kind_carried := y }) kind_carried36) fun _ => thenB (bnd (bnd (ret kinds2) fun v37 => ret v37) fun v80 => forL (fun (x39 : D_Kind) (t38 : Unit) => bnd (bnd (bnd (bnd (ret x39) fun v40 => ret (D_Kind.name v40)) fun v41 => bnd (ret ()) fun _ => bnd (getA opnL 1 (fun t : D_Cycle => t.kind_ends)) fun v42 => ret (dhas v42 v41)) fun v47 => if v47 then ret true else (bnd (bnd (ret ()) fun v45 => bnd (hereA opnL) fun _ => bnd (ret x39) fun v44 => Cycle_allows_am_m opnL v44) fun v46 => ret (!v46))) fun v48 => if v48 then (stk) else (bnd (bnd (bnd (ret x39) fun v49 => ret (D_Kind.source v49)) fun v51 => bnd (bnd (ret x39) fun v50 => ret (D_Kind.target v50)) fun v52 => ret (v51, v52)) fun v66 => bnd (ret ()) fun _ => bnd (dputA opnL 1 (fun t : D_Cycle => t.kind_ends) (fun (t : D_Cycle) y => { t with kind_ends := y }) (D_Kind.name x39) v66) fun _ => bnd (bnd (ret x39) fun v53 => ret (D_Kind.weight v53)) fun v64 => bnd (ret ()) fun _ => bnd (dputA opnL 2 (fun t : D_Cycle => t.kind_weights) (fun (t : D_Cycle) y => { t with kind_weights := y }) (D_Kind.name x39) v64) fun _ => bnd (bnd (bnd (bnd (ret x39) fun v54 => ret (D_Kind.carried v54)) fun v55 => ret v55) fun v61 => dcompM (fun (x56 : Str × (Str × Int)) => ret true) (fun (x56 : Str × (Str × Int)) => ret x56.1) (fun (x56 : Str × (Str × Int)) => bnd (bnd (ret x56.2) fun v57 => ret v57.1) fun v59 => bnd (bnd (ret x56.2) fun v58 => ret v58.2) fun v60 => ret (v59, v60)) v61) fun v62 => bnd (ret ()) fun _ => bnd (dputA opnL 3 (fun t : D_Cycle => t.kind_carried) (fun (t : D_Cycle) y => { t with kind_carried := y }) (D_Kind.name x39) v62) fun _ => ret (.nx ()))) v80 ()) fun (t68 : Unit) => bnd (frzA opnL opnD 4) fun (self69 : D_Cycle) => bnd (bnd (bnd (bnd (bnd (bnd (ret self69) fun v70 => ret (D_Cycle.kind_ends v70)) fun v71 => ret (List.map (·.2) v71)) fun v76 => compM (fun x72 => ret true) (fun x72 => bnd (bnd (ret x72) fun v73 => ret v73.1) fun v74 => bnd (ret ("absent" : Str)) fun v75 => ret (decide (v74 = v75))) v76) fun v77 => ret (List.any v77 id)) fun v78 => ret (!v78)) fun v79 => if v79 then (stk) else (ret (.nx self69)) : M (Opn S D_Cycle) (Fl D_Cycle Empty Unit)) (fun t => [some (.fz (rObjAt a (He.ga K "Cycle") (fs_Cycle K) t))]) (fun e => nomatch e) (.fz rU) := (jb_seq (Γ1 := fun t17 : Unit => [some (.fz (rSelfU a ())), some (.fz ((rL (r_Column K)) columns1)), some (.fz ((rL (r_Kind K)) kinds2)), none, none, none, none, none]) (js_for (n := 8) (t0 := ()) z (ji_list (je_var (r := (rL (r_Column K))) (x := columns1) 1 rfl (pv 1))) (jg_name (i := 3) (z).nd rfl (by first | exact .inl rfl | exact .inr rfl)) (Le.some (Le.some (Le.some (Le.none (Le.none (Le.none (Le.none (Le.none Le.nil)))))))) (fun x18 t17 => (jb_cx (Γ2 := [some (.fz (rSelfU a ())), some (.fz ((rL (r_Column K)) columns1)), some (.fz ((rL (r_Kind K)) kinds2)), some (.fz ((r_Column K) x18)), none, none, none, none]) (jb_ifR (JW.jt (jw_or (jt_not (jt_val (je_call z C_valid_column hr ⟨⟩ (ja_cons (je_var (r := (r_Column K)) (x := x18) 3 rfl (pv 3)) ja_nil)))) (jw_or1 (jt_amIn (i := 0) (kt := kS) (r := (rT2 K rI rI)) cap_opn T.cl_Cycle T.na_Cycle_column_sizes hu (fun t : D_Cycle => t.column_sizes) (je_fld (r := rS) (g := fun x => x.name) T.cl_Column T.na_Column_name (je_var (r := (r_Column K)) (x := x18) 3 rfl (pv 3))) (je_var (r := rSelfU a) (x := ()) 0 rfl (pv 0)))))) (jb_cx (Γ2 := [some (.fz (rSelfU a ())), some (.fz ((rL (r_Column K)) columns1)), some (.fz ((rL (r_Kind K)) kinds2)), some (.fz ((r_Column K) x18)), none, none, none, none]) (jb_one js_stk)) (by repeat' first | exact nn_rt | exact nn_rse | exact nn_ct | exact nn_bk | exact nn_stk | refine nn_if ?_ ?_ | (refine nn_bnd ?_; intro _) | (refine nn_then ?_; intro _)) (jb_cx (Γ2 := [some (.fz (rSelfU a ())), some (.fz ((rL (r_Column K)) columns1)), some (.fz ((rL (r_Kind K)) kinds2)), some (.fz ((r_Column K) x18)), none, none, none, none]) (jb_amPutC (i := 0) (kt := kS) (r := (rT2 K rI rI)) cap_opn T.cl_Cycle T.na_Cycle_column_sizes hu1 (fun t : D_Cycle => t.column_sizes) (fun (t : D_Cycle) y => { t with column_sizes := y }) (je_tup2 (ja_cons (je_fld (r := rI) (g := fun x => x.width) T.cl_Column T.na_Column_width (je_var (r := (r_Column K)) (x := x18) 3 rfl (pv 3))) (ja_cons (je_fld (r := rI) (g := fun x => x.modulus) T.cl_Column T.na_Column_modulus (je_var (r := (r_Column K)) (x := x18) 3 rfl (pv 3))) ja_nil))) (je_var (r := rSelfU a) (x := ()) 0 rfl (pv 0)) (jc_fld (r := rS) (fun x => x.name) T.cl_Column T.na_Column_name (jc_var (r := (r_Column K)) (y := x18) 3 rfl (pv 3))) (jb_cx (Γ2 := [some (.fz (rSelfU a ())), some (.fz ((rL (r_Column K)) columns1)), some (.fz ((rL (r_Kind K)) kinds2)), some (.fz ((r_Column K) x18)), none, none, none, none]) (jb_nil (t := ()) (Le.some (Le.some (Le.some (Le.none (Le.none (Le.none (Le.none (Le.none Le.nil)))))))))) (hd := (hd_Cycle_column_sizes K)))))))) (fun t33 => (jb_cx (Γ2 := [some (.fz (rSelfU a ())), some (.fz ((rL (r_Column K)) columns1)), some (.fz ((rL (r_Kind K)) kinds2)), none, none, none, none, none]) (cut_Cycle_init_5 T C_valid_column C_Cycle_allows_am hr z hu hu1 columns1 kinds2))))
theorem cut_Cycle_init_7 {P : Program} {w : World} {K : PySem.W.Frag} {mg : Str → Option Value} {base : Heap} {f : Addr} {cdv : Value} {A : Around} {outer : List Env} {s : Shared} {H : Hp} {E : XK} {Fm : Fm} {S : Type} {R : S → MP Hp} {a dx : Addr} (T : Txt K mg) (C_valid_column : FnC P w K mg base "valid_column" 2 (sp_valid_column K mg)) (C_Cycle_allows_am : MtC P w K mg base (He.ga K "Cycle") "allows" 2 (sp_Cycle_allows_am K mg)) (hr : Room 2 (A.deeper (envOfC "Cycle.__init__" (defScope st_Cycle_init) s.heap.objs.size f cdv))) (z : ZOk (ZF P w K mg base ["self", "columns", "kinds", "column", "kind", "name", "pair", "ends"] "Cycle.__init__" (defScope st_Cycle_init) f cdv A outer s H E Fm (Opn S D_Cycle) (RO R a (He.ga K "Cycle") dx (cd_Cycle K)))) (hu : (A.deeper (envOfC "Cycle.__init__" (defScope st_Cycle_init) s.heap.objs.size f cdv)).units + 65 < cLine) (hu1 : (A.deeper (envOfC "Cycle.__init__" (defScope st_Cycle_init) s.heap.objs.size f cdv)).units + 1 < cLine) (columns1 : List D_Column) (kinds2 : List D_Kind) : JB (ZF P w K mg base ["self", "columns", "kinds", "column", "kind", "name", "pair", "ends"] "Cycle.__init__" (defScope st_Cycle_init) f cdv A outer s H E Fm (Opn S D_Cycle) (RO R a (He.ga K "Cycle") dx (cd_Cycle K))) [some (.fz (rSelfU a ())), some (.fz ((rL (r_Column K)) columns1)), some (.fz ((rL (r_Kind K)) kinds2)), none, none, none, none, none] (List.drop 1 (defBody st_Cycle_init)) (bnd (ret ([] : List (Str × (Int × Int)))) fun column_sizes15 => bnd (newA opnL 0 (fun (t : D_Cycle) y => { t with column_sizes := y }) column_sizes15) fun _ => thenB (bnd (bnd (ret columns1) fun v16 => ret v16) fun v81 => forL (fun (x18 : D_Column) (t17 : Unit) => bnd (bnd (bnd (bnd (ret x18) fun v19 => valid_column_m v19) fun v20 => ret (!v20)) fun v25 => if v25 then ret true else (bnd (bnd (ret x18) fun v21 => ret (D_Column.name v21)) fun v22 => bnd (ret ()) fun _ => bnd (getA opnL 0 (fun t : D_Cycle => t.column_sizes)) fun v23 => ret (dhas v23 v22))) fun v26 => if v26 then (stk) else (bnd (bnd (bnd (ret x18) fun v27 => ret (D_Column.width v27)) fun v29 => bnd (bnd (ret x18) fun v28 => ret (D_Column.modulus v28)) fun v30 => ret (v29, v30)) fun v31 => bnd (ret ()) fun _ => bnd (dputA opnL 0 (fun t : D_Cycle => t.column_sizes) (fun (t : D_Cycle) y => { t with column_sizes := y }) (D_Column.name x18) v31) fun _ => ret (.nx ()))) v81 ()) fun (t33 : Unit) => bnd (ret ([] : List (Str × (Str × Str)))) fun kind_ends34 => bnd (newA opnL 1 (fun (t : D_Cycle) y => { t with kind_ends := y }) kind_ends34) fun _ => bnd (ret ([] : List (Str × Int))) fun kind_weights35 => bnd (newA opnL 2 (fun (t : D_Cycle) y => { t with kind_weights := y }) kind_weights35) fun _ => bnd (ret ([] : List (Str × (List (Str × (Str × Int)))))) fun kind_carried36 => bnd (newA opnL 3 (fun (t : D_Cycle) y => { t with kind_carried := y }) kind_carried36) fun _ => thenB (bnd (bnd (ret kinds2) fun v37 => ret v37) fun v80 => forL (fun (x39 : D_Kind) (t38 : Unit) => bnd (bnd (bnd (bnd (ret x39) fun v40 => ret (D_Kind.name v40)) fun v41 => bnd (ret ()) fun _ => bnd (getA opnL 1 (fun t : D_Cycle => t.kind_ends)) fun v42 => ret (dhas v42 v41)) fun v47 => if v47 then ret true else (bnd (bnd (ret ()) fun v45 => bnd (hereA opnL) fun _ => bnd (ret x39) fun v44 => Cycle_allows_am_m opnL v44) fun v46 => ret (!v46))) fun v48 => if v48 then (stk) else (bnd (bnd (bnd (ret x39) fun v49 => ret (D_Kind.source v49)) fun v51 => bnd (bnd (ret x39) fun v50 => ret (D_Kind.target v50)) fun v52 => ret (v51, v52)) fun v66 => bnd (ret ()) fun _ => bnd (dputA opnL 1 (fun t : D_Cycle => t.kind_ends) (fun (t : D_Cycle) y => { t with kind_ends := y }) (D_Kind.name x39) v66) fun _ => bnd (bnd (ret x39) fun v53 => ret (D_Kind.weight v53)) fun v64 => bnd (ret ()) fun _ => bnd (dputA opnL 2 (fun t : D_Cycle => t.kind_weights) (fun (t : D_Cycle) y => { t with kind_weights := y }) (D_Kind.name x39) v64) fun _ => bnd (bnd (bnd (bnd (ret x39) fun v54 => ret (D_Kind.carried v54)) fun v55 => ret v55) fun v61 => dcompM (fun (x56 : Str × (Str × Int)) => ret true) (fun (x56 : Str × (Str × Int)) => ret x56.1) (fun (x56 : Str × (Str × Int)) => bnd (bnd (ret x56.2) fun v57 => ret v57.1) fun v59 => bnd (bnd (ret x56.2) fun v58 => ret v58.2) fun v60 => ret (v59, v60)) v61) fun v62 => bnd (ret ()) fun _ => bnd (dputA opnL 3 (fun t : D_Cycle => t.kind_carried) (fun (t : D_Cycle) y => { t with kind_carried := y }) (D_Kind.name x39) v62) fun _ => ret (.nx ()))) v80 ()) fun (t68 : Unit) => bnd (frzA opnL opnD 4) fun (self69 : D_Cycle) => bnd (bnd (bnd (bnd (bnd (bnd (ret self69) fun v70 => ret (D_Cycle.kind_ends v70)) fun v71 => ret (List.map (·.2) v71)) fun v76 => compM (fun x72 => ret true) (fun x72 => bnd (bnd (ret x72) fun v73 => ret v73.1) fun v74 => bnd (ret ("absent" : Str)) fun v75 => ret (decide (v74 = v75))) v76) fun v77 => ret (List.any v77 id)) fun v78 => ret (!v78)) fun v79 => if v79 then (stk) else (ret (.nx self69)) : M (Opn S D_Cycle) (Fl D_Cycle Empty Unit)) (fun t => [some (.fz (rObjAt a (He.ga K "Cycle") (fs_Cycle K) t))]) (fun e => nomatch e) (.fz rU) := (jb_amNewO (i := 0) (k0 := 0) (O := owD kS (rT2 K rI rI)) cap_opn T.cl_Cycle T.na_Cycle_column_sizes (fun t : D_Cycle => t.column_sizes) (fun (t : D_Cycle) y => { t with column_sizes := y }) (je_dict0 (k := kS) (r := (rT2 K rI rI))) rfl (pv 0) (jb_cx (Γ2 := [some (.fz (rSelfU a ())), some (.fz ((rL (r_Column K)) columns1)), some (.fz ((rL (r_Kind K)) kinds2)), none, none, none, none, none]) (cut_Cycle_init_6 T C_valid_column C_Cycle_allows_am hr z hu hu1 columns1 kinds2)) (hd_Cycle_column_sizes K))
theorem ok_Cycle_init {P : Program} {w : World} {K : PySem.W.Frag} {mg : Str → Option Value} {base : Heap} {f : Addr} {fd : FuncData} (F : FnP K "__init__" "Cycle.__init__" st_Cycle_init [] [] f fd) (T : Txt K mg) (C_valid_column : FnC P w K mg base "valid_column" 2 (sp_valid_column K mg)) (C_Cycle_allows_am : MtC P w K mg base (He.ga K "Cycle") "allows" 2 (sp_Cycle_allows_am K mg)) : FnOk P w K mg base (L2.CX P w) 3 f fd ["self", "columns", "kinds"] (sp_Cycle_init K mg) := by
  refine fn_mkO (k := 2) (cd := cd_Cycle K) (t0 := d0_Cycle) (mb := fun S R c y => Cycle_init_mb y.1 y.2.1) (Γ0 := fun S R c y => [some (.fz ((rL (r_Column K)) y.1)), some (.fz ((rL (r_Kind K)) y.2.1)), none, none, none, none, none]) (Γb := fun e => nomatch e) F sc_Cycle_init (fun S R c y vs G h => congrArg (· + 1) ((len_raC (len_raC len_raN)) h)) (fun _ _ _ _ => rfl) (fun S R c y vs G h => (so_raC (so_raC (so_raN (n := 5)))) h) (fun _ _ _ _ => by exact Nat.le_of_ble_eq_true rfl) (by exact Nat.le_of_ble_eq_true rfl) ?_
  intro cdv A outer s H E Fm S R cp y a dx hr z
  have hu := DL.Room.hu hr
  have hu1 := DL.Room.hu1 hr
  obtain ⟨columns1, kinds2, _⟩ := y
  exact JB.eq (m := (bnd (bnd (bnd (bnd (ret (1 : Int)) fun v4 => bnd (bnd (ret columns1) fun v3 => ret (List.length v3 : Int)) fun v5 => if decide (v4 ≤ v5) then (bnd (ret (6 : Int)) fun v6 => ret (decide (v5 ≤ v6))) else ret false) fun v7 => ret (!v7)) fun v13 => if v13 then ret true else (bnd (bnd (ret (1 : Int)) fun v9 => bnd (bnd (ret kinds2) fun v8 => ret (List.length v8 : Int)) fun v10 => if decide (v9 ≤ v10) then (bnd (ret (12 : Int)) fun v11 => ret (decide (v10 ≤ v11))) else ret false) fun v12 => ret (!v12))) fun v14 => if v14 then (stk) else (bnd (ret ([] : List (Str × (Int × Int)))) fun column_sizes15 => bnd (newA opnL 0 (fun (t : D_Cycle) y => { t with column_sizes := y }) column_sizes15) fun _ => thenB (bnd (bnd (ret columns1) fun v16 => ret v16) fun v81 => forL (fun (x18 : D_Column) (t17 : Unit) => bnd (bnd (bnd (bnd (ret x18) fun v19 => valid_column_m v19) fun v20 => ret (!v20)) fun v25 => if v25 then ret true else (bnd (bnd (ret x18) fun v21 => ret (D_Column.name v21)) fun v22 => bnd (ret ()) fun _ => bnd (getA opnL 0 (fun t : D_Cycle => t.column_sizes)) fun v23 => ret (dhas v23 v22))) fun v26 => if v26 then (stk) else (bnd (bnd (bnd (ret x18) fun v27 => ret (D_Column.width v27)) fun v29 => bnd (bnd (ret x18) fun v28 => ret (D_Column.modulus v28)) fun v30 => ret (v29, v30)) fun v31 => bnd (ret ()) fun _ => bnd (dputA opnL 0 (fun t : D_Cycle => t.column_sizes) (fun (t : D_Cycle) y => { t with column_sizes := y }) (D_Column.name x18) v31) fun _ => ret (.nx ()))) v81 ()) fun (t33 : Unit) => bnd (ret ([] : List (Str × (Str × Str)))) fun kind_ends34 => bnd (newA opnL 1 (fun (t : D_Cycle) y => { t with kind_ends := y }) kind_ends34) fun _ => bnd (ret ([] : List (Str × Int))) fun kind_weights35 => bnd (newA opnL 2 (fun (t : D_Cycle) y => { t with kind_weights := y }) kind_weights35) fun _ => bnd (ret ([] : List (Str × (List (Str × (Str × Int)))))) fun kind_carried36 => bnd (newA opnL 3 (fun (t : D_Cycle) y => { t with kind_carried := y }) kind_carried36) fun _ => thenB (bnd (bnd (ret kinds2) fun v37 => ret v37) fun v80 => forL (fun (x39 : D_Kind) (t38 : Unit) => bnd (bnd (bnd (bnd (ret x39) fun v40 => ret (D_Kind.name v40)) fun v41 => bnd (ret ()) fun _ => bnd (getA opnL 1 (fun t : D_Cycle => t.kind_ends)) fun v42 => ret (dhas v42 v41)) fun v47 => if v47 then ret true else (bnd (bnd (ret ()) fun v45 => bnd (hereA opnL) fun _ => bnd (ret x39) fun v44 => Cycle_allows_am_m opnL v44) fun v46 => ret (!v46))) fun v48 => if v48 then (stk) else (bnd (bnd (bnd (ret x39) fun v49 => ret (D_Kind.source v49)) fun v51 => bnd (bnd (ret x39) fun v50 => ret (D_Kind.target v50)) fun v52 => ret (v51, v52)) fun v66 => bnd (ret ()) fun _ => bnd (dputA opnL 1 (fun t : D_Cycle => t.kind_ends) (fun (t : D_Cycle) y => { t with kind_ends := y }) (D_Kind.name x39) v66) fun _ => bnd (bnd (ret x39) fun v53 => ret (D_Kind.weight v53)) fun v64 => bnd (ret ()) fun _ => bnd (dputA opnL 2 (fun t : D_Cycle => t.kind_weights) (fun (t : D_Cycle) y => { t with kind_weights := y }) (D_Kind.name x39) v64) fun _ => bnd (bnd (bnd (bnd (ret x39) fun v54 => ret (D_Kind.carried v54)) fun v55 => ret v55) fun v61 => dcompM (fun (x56 : Str × (Str × Int)) => ret true) (fun (x56 : Str × (Str × Int)) => ret x56.1) (fun (x56 : Str × (Str × Int)) => bnd (bnd (ret x56.2) fun v57 => ret v57.1) fun v59 => bnd (bnd (ret x56.2) fun v58 => ret v58.2) fun v60 => ret (v59, v60)) v61) fun v62 => bnd (ret ()) fun _ => bnd (dputA opnL 3 (fun t : D_Cycle => t.kind_carried) (fun (t : D_Cycle) y => { t with kind_carried := y }) (D_Kind.name x39) v62) fun _ => ret (.nx ()))) v80 ()) fun (t68 : Unit) => bnd (frzA opnL opnD 4) fun (self69 : D_Cycle) => bnd (bnd (bnd (bnd (bnd (bnd (ret self69) fun v70 => ret (D_Cycle.kind_ends v70)) fun v71 => ret (List.map (·.2) v71)) fun v76 => compM (fun x72 => ret true) (fun x72 => bnd (bnd (ret x72) fun v73 => ret v73.1) fun v74 => bnd (ret ("absent" : Str)) fun v75 => ret (decide (v74 = v75))) v76) fun v77 => ret (List.any v77 id)) fun v78 => ret (!v78)) fun v79 => if v79 then (stk) else (ret (.nx self69))) : M (Opn S D_Cycle) (Fl D_Cycle Empty Unit))) (jb_cx (Γ2 := [some (.fz (rSelfU a ())), some (.fz ((rL (r_Column K)) columns1)), some (.fz ((rL (r_Kind K)) kinds2)), none, none, none, none, none]) (jb_ifR (JW.jt (jw_or (jt_not (jt_chain op_le op_le je_int (je_lenL (by rfl) T.f_len (je_var (r := (rL (r_Column K))) (x := columns1) 1 rfl (pv 1))) (je_globI (x := 6) (by rfl) T.gMOST_COLUMNS))) (jw_or1 (jt_not (jt_chain op_le op_le je_int (je_lenL (by rfl) T.f_len (je_var (r := (rL (r_Kind K))) (x := kinds2) 2 rfl (pv 2))) (je_globI (x := 12) (by rfl) T.gMOST_KINDS)))))) (jb_cx (Γ2 := [some (.fz (rSelfU a ())), some (.fz ((rL (r_Column K)) columns1)), some (.fz ((rL (r_Kind K)) kinds2)), none, none, none, none, none]) (jb_one js_stk)) (by repeat' first | exact nn_rt | exact nn_rse | exact nn_ct | exact nn_bk | exact nn_stk | refine nn_if ?_ ?_ | (refine nn_bnd ?_; intro _) | (refine nn_then ?_; intro _)) (jb_cx (Γ2 := [some (.fz (rSelfU a ())), some (.fz ((rL (r_Column K)) columns1)), some (.fz ((rL (r_Kind K)) kinds2)), none, none, none, none, none]) (cut_Cycle_init_7 T C_valid_column C_Cycle_allows_am hr z hu hu1 columns1 kinds2)))) (by simp only [ret_bnd, rdM_some, Cycle_init_mb])
abbrev st_Cycle_ends_of : Stmt := (inClass (top 19) 9)
theorem sc_Cycle_ends_of : FnScope ["self", "kind"] ["self", "kind"] (defScope st_Cycle_ends_of) := ⟨rfl, rfl, rfl, by decide +kernel, rfl, by decide +kernel, by decide +kernel⟩
def Cycle_ends_of_mb {S : Type} (self1 : D_Cycle) (kind2 : Str) : M S (Fl Unit Empty (Str × Str)) := if (!dhas (D_Cycle.kind_ends self1) kind2) then (stk) else (bnd (opt (dget (D_Cycle.kind_ends self1) kind2)) fun v10 => ret (.rt v10))
def Cycle_ends_of_m {S : Type} (self1 : D_Cycle) (kind2 : Str) : M S (Str × Str) := runF (Cycle_ends_of_mb self1 kind2)
abbrev ra_Cycle_ends_of (K : PySem.W.Frag) (S : Type) (R : S → MP Hp) (c : NoCap S R) : D_Cycle × Str × Unit → List V → Hp → Prop := (raC (r_Cycle K) (raC rS raN))
abbrev f_Cycle_ends_of (S : Type) (R : S → MP Hp) (c : NoCap S R) (y : D_Cycle × Str × Unit) : M S (Str × Str) := Cycle_ends_of_m y.1 y.2.1
abbrev sp_Cycle_ends_of (K : PySem.W.Frag) (mg : Str → Option Value) : Sp := spC mg (ra_Cycle_ends_of K) (.fz (rT2 K rS rS)) f_Cycle_ends_of
theorem cut_Cycle_ends_of_0 {P : Program} {w : World} {K : PySem.W.Frag} {mg : Str → Option Value} {base : Heap} {f : Addr} {cdv : Value} {A : Around} {outer : List Env} {s : Shared} {H : Hp} {E : XK} {Fm : Fm} {S : Type} {R : S → MP Hp} (T : Txt K mg) (hr : Room 0 (A.deeper (envOfC "Cycle.ends_of" (defScope st_Cycle_ends_of) s.heap.objs.size f cdv))) (z : ZOk (ZF P w K mg base ["self", "kind"] "Cycle.ends_of" (defScope st_Cycle_ends_of) f cdv A outer s H E Fm S R)) (hu : (A.deeper (envOfC "Cycle.ends_of" (defScope st_Cycle_ends_of) s.heap.objs.size f cdv)).units + 65 < cLine) (hu1 : (A.deeper (envOfC "Cycle.ends_of" (defScope st_Cycle_ends_of) s.heap.objs.size f cdv)).units + 1 < cLine) (self1 : D_Cycle) (kind2 : Str) : JB (ZF P w K mg base ["self", "kind"] "Cycle.ends_of" (defScope st_Cycle_ends_of) f cdv A outer s H E Fm S R) [some (.fz ((r_Cycle K) self1)), some (.fz (rS kind2))] (List.drop 1 (defBody st_Cycle_ends_of)) (bnd (bnd (bnd (ret self1) fun v7 => ret (D_Cycle.kind_ends v7)) fun v8 => bnd (ret kind2) fun v9 => opt (dget v8 v9)) fun v10 => ret (.rt v10) : M S (Fl Unit Empty (Str × Str))) (fun _ => []) (fun e => nomatch e) (.fz (rT2 K rS rS)) := (jb_one (js_ret (je_dget (kt := kS) hu (je_fld (r := (rD kS (rT2 K rS rS))) (g := fun x => x.kind_ends) T.cl_Cycle T.na_Cycle_kind_ends (je_var (r := (r_Cycle K)) (x := self1) 0 rfl (pv 0))) (je_var (r := rS) (x := kind2) 1 rfl (pv 1)))))
theorem ok_Cycle_ends_of {P : Program} {w : World} {K : PySem.W.Frag} {mg : Str → Option Value} {base : Heap} {f : Addr} {fd : FuncData} (F : FnP K "ends_of" "Cycle.ends_of" st_Cycle_ends_of [] [] f fd) (T : Txt K mg) : FnOk P w K mg base (L2.CX P w) 1 f fd ["self", "kind"] (sp_Cycle_ends_of K mg) := by
  refine fn_mk (k := 0) (mb := fun S R c y => Cycle_ends_of_mb y.1 y.2.1) (Γ0 := fun S R c y => [some (.fz ((r_Cycle K) y.1)), some (.fz (rS y.2.1))]) (Γ' := fun _ => []) (Γb := fun e => nomatch e) F sc_Cycle_ends_of (fun S R c y vs G h => (len_raC (len_raC len_raN)) h) (fun _ _ _ _ => rfl) (fun S R c y vs G h => (so_raC (so_raC (so_raN (n := 0)))) h) (fun _ _ _ _ => by exact Nat.le_of_ble_eq_true rfl) (by exact Nat.le_of_ble_eq_true rfl) ?_
  intro cdv A outer s H E Fm S R cp y hr z
  have hu := DL.Room.hu hr
  have hu1 := DL.Room.hu1 hr
  obtain ⟨self1, kind2, _⟩ := y
  exact JB.eq (m := (bnd (bnd (ret kind2) fun v4 => bnd (bnd (ret self1) fun v3 => ret (D_Cycle.kind_ends v3)) fun v5 => ret (!dhas v5 v4)) fun v6 => if v6 then (stk) else (bnd (bnd (bnd (ret self1) fun v7 => ret (D_Cycle.kind_ends v7)) fun v8 => bnd (ret kind2) fun v9 => opt (dget v8 v9)) fun v10 => ret (.rt v10)) : M S (Fl Unit Empty (Str × Str)))) (jb_cx (Γ2 := [some (.fz ((r_Cycle K) self1)), some (.fz (rS kind2))]) (jb_ifR (jt_dnin (kt := kS) hu (je_var (r := rS) (x := kind2) 1 rfl (pv 1)) (je_fld (r := (rD kS (rT2 K rS rS))) (g := fun x => x.kind_ends) T.cl_Cycle T.na_Cycle_kind_ends (je_var (r := (r_Cycle K)) (x := self1) 0 rfl (pv 0)))) (jb_cx (Γ2 := [some (.fz ((r_Cycle K) self1)), some (.fz (rS kind2))]) (jb_one js_stk)) (by repeat' first | exact nn_rt | exact nn_rse | exact nn_ct | exact nn_bk | exact nn_stk | refine nn_if ?_ ?_ | (refine nn_bnd ?_; intro _) | (refine nn_then ?_; intro _)) (jb_cx (Γ2 := [some (.fz ((r_Cycle K) self1)), some (.fz (rS kind2))]) (cut_Cycle_ends_of_0 T hr z hu hu1 self1 kind2)))) (by simp only [ret_bnd, rdM_some, Cycle_ends_of_mb])
abbrev st_Cycle_written_by : Stmt := (inClass (top 19) 11)
theorem sc_Cycle_written_by : FnScope ["self", "kind", "carried", "name"] ["self", "kind"] (defScope st_Cycle_written_by) := ⟨rfl, rfl, rfl, by decide +kernel, rfl, by decide +kernel, by decide +kernel⟩
def Cycle_written_by_mb {S : Type} (self1 : D_Cycle) (kind2 : Str) : M S (Fl Unit Empty (List Str)) := bnd (bnd (bnd (Cycle_ends_of_m self1 kind2) fun v5 => ret v5.2) fun v6 => ret (decide (v6 = ("absent" : Str)))) fun v8 => if v8 then (ret (.rt ([] : List Str))) else (bnd (opt (dget (D_Cycle.kind_carried self1) kind2)) fun carried13 => bnd (compM (fun x16 => ret (!dhas carried13 x16)) (fun x16 => ret x16) (List.map (·.1) (D_Cycle.column_sizes self1))) fun v20 => ret (.rt v20))
def Cycle_written_by_m {S : Type} (self1 : D_Cycle) (kind2 : Str) : M S (List Str) := runF (Cycle_written_by_mb self1 kind2)
abbrev ra_Cycle_written_by (K : PySem.W.Frag) (S : Type) (R : S → MP Hp) (c : NoCap S R) : D_Cycle × Str × Unit → List V → Hp → Prop := (raC (r_Cycle K) (raC rS raN))
abbrev f_Cycle_written_by (S : Type) (R : S → MP Hp) (c : NoCap S R) (y : D_Cycle × Str × Unit) : M S (List Str) := Cycle_written_by_m y.1 y.2.1
abbrev sp_Cycle_written_by (K : PySem.W.Frag) (mg : Str → Option Value) : Sp := spC mg (ra_Cycle_written_by K) (.own (cL rS)) f_Cycle_written_by
theorem cut_Cycle_written_by_0 {P : Program} {w : World} {K : PySem.W.Frag} {mg : Str → Option Value} {base : Heap} {f : Addr} {cdv : Value} {A : Around} {outer : List Env} {s : Shared} {H : Hp} {E : XK} {Fm : Fm} {S : Type} {R : S → MP Hp} (T : Txt K mg) (C_Cycle_ends_of : MtC P w K mg base (He.ga K "Cycle") "ends_of" 1 (sp_Cycle_ends_of K mg)) (hr : Room 1 (A.deeper (envOfC "Cycle.written_by" (defScope st_Cycle_written_by) s.heap.objs.size f cdv))) (z : ZOk (ZF P w K mg base ["self", "kind", "carried", "name"] "Cycle.written_by" (defScope st_Cycle_written_by) f cdv A outer s H E Fm S R)) (hu : (A.deeper (envOfC "Cycle.written_by" (defScope st_Cycle_written_by) s.heap.objs.size f cdv)).units + 65 < cLine) (hu1 : (A.deeper (envOfC "Cycle.written_by" (defScope st_Cycle_written_by) s.heap.objs.size f cdv)).units + 1 < cLine) (self1 : D_Cycle) (kind2 : Str) (carried13 : List (Str × (Str × Int))) : JB (ZF P w K mg base ["self", "kind", "carried", "name"] "Cycle.written_by" (defScope st_Cycle_written_by) f cdv A outer s H E Fm S R) [some (.fz ((r_Cycle K) self1)), some (.fz (rS kind2)), some (.fz ((rD kS (rT2 K rS rI)) carried13)), none] (List.drop 2 (defBody st_Cycle_written_by)) (bnd (bnd (bnd (bnd (ret self1) fun v14 => ret (D_Cycle.column_sizes v14)) fun v15 => ret (List.map (·.1) v15)) fun v19 => compM (fun x16 => bnd (ret x16) fun v17 => bnd (ret carried13) fun v18 => ret (!dhas v18 v17)) (fun x16 => ret x16) v19) fun v20 => ret (.rt v20) : M S (Fl Unit Empty (List Str))) (fun _ => []) (fun e => nomatch e) (.own (cL rS)) := (jb_one (js_retO (je_comp (own := [("name", 3)]) z (ji_keys (kt := kS) (je_fld (r := (rD kS (rT2 K rI rI))) (g := fun x => x.column_sizes) T.cl_Cycle T.na_Cycle_column_sizes (je_var (r := (r_Cycle K)) (x := self1) 0 rfl (pv 0)))) (fun (x16 : Str) => bnd (ret x16) fun v17 => bnd (ret carried13) fun v18 => ret (!dhas v18 v17)) (fun (x16 : Str) => ret x16) (blkOk_by (N := ["self", "kind", "carried", "name"]) (sc := defScope st_Cycle_written_by) (by decide +kernel)) (fun _ _ _ _ _ _ _ => by exact (jg_name (i := 3) ((ZOk.blk z)).nd rfl (by first | exact .inl rfl | exact .inr rfl))) (fun _ _ _ _ _ _ _ x16 => (jts_one (jt_dnin (kt := kS) hu (je_var (r := rS) (x := x16) 3 rfl (pv 3)) (je_var (r := (rD kS (rT2 K rS rI))) (x := carried13) 2 rfl (pv 2))))) (fun _ _ _ _ _ _ _ x16 => (je_var (r := rS) (x := x16) 3 rfl (pv 3))))))
theorem cut_Cycle_written_by_1 {P : Program} {w : World} {K : PySem.W.Frag} {mg : Str → Option Value} {base : Heap} {f : Addr} {cdv : Value} {A : Around} {outer : List Env} {s : Shared} {H : Hp} {E : XK} {Fm : Fm} {S : Type} {R : S → MP Hp} (T : Txt K mg) (C_Cycle_ends_of : MtC P w K mg base (He.ga K "Cycle") "ends_of" 1 (sp_Cycle_ends_of K mg)) (hr : Room 1 (A.deeper (envOfC "Cycle.written_by" (defScope st_Cycle_written_by) s.heap.objs.size f cdv))) (z : ZOk (ZF P w K mg base ["self", "kind", "carried", "name"] "Cycle.written_by" (defScope st_Cycle_written_by) f cdv A outer s H E Fm S R)) (hu : (A.deeper (envOfC "Cycle.written_by" (defScope st_Cycle_written_by) s.heap.objs.size f cdv)).units + 65 < cLine) (hu1 : (A.deeper (envOfC "Cycle.written_by" (defScope st_Cycle_written_by) s.heap.objs.size f cdv)).units + 1 < cLine) (self1 : D_Cycle) (kind2 : Str) : JB (ZF P w K mg base ["self", "kind", "carried", "name"] "Cycle.written_by" (defScope st_Cycle_written_by) f cdv A outer s H E Fm S R) [some (.fz ((r_Cycle K) self1)), some (.fz (rS kind2)), none, none] (List.drop 1 (defBody st_Cycle_written_by)) (bnd (bnd (bnd (ret self1) fun v10 => ret (D_Cycle.kind_carried v10)) fun v11 => bnd (ret kind2) fun v12 => opt (dget v11 v12)) fun carried13 => bnd (bnd (bnd (bnd (ret self1) fun v14 => ret (D_Cycle.column_sizes v14)) fun v15 => ret (List.map (·.1) v15)) fun v19 => compM (fun x16 => bnd (ret x16) fun v17 => bnd (ret carried13) fun v18 => ret (!dhas v18 v17)) (fun x16 => ret x16) v19) fun v20 => ret (.rt v20) : M S (Fl Unit Empty (List Str))) (fun _ => []) (fun e => nomatch e) (.own (cL rS)) := (jb_set (i := 2) z rfl (by first | exact .inl rfl | exact .inr rfl) (je_dget (kt := kS) hu (je_fld (r := (rD kS (rD kS (rT2 K rS rI)))) (g := fun x => x.kind_carried) T.cl_Cycle T.na_Cycle_kind_carried (je_var (r := (r_Cycle K)) (x := self1) 0 rfl (pv 0))) (je_var (r := rS) (x := kind2) 1 rfl (pv 1))) (fun carried13 => (jb_cx (Γ2 := [some (.fz ((r_Cycle K) self1)), some (.fz (rS kind2)), some (.fz ((rD kS (rT2 K rS rI)) carried13)), none]) (cut_Cycle_written_by_0 T C_Cycle_ends_of hr z hu hu1 self1 kind2 carried13))))
theorem ok_Cycle_written_by {P : Program} {w : World} {K : PySem.W.Frag} {mg : Str → Option Value} {base : Heap} {f : Addr} {fd : FuncData} (F : FnP K "written_by" "Cycle.written_by" st_Cycle_written_by [] [] f fd) (T : Txt K mg) (C_Cycle_ends_of : MtC P w K mg base (He.ga K "Cycle") "ends_of" 1 (sp_Cycle_ends_of K mg)) : FnOk P w K mg base (L2.CX P w) 2 f fd ["self", "kind"] (sp_Cycle_written_by K mg) := by
  refine fn_mk (k := 1) (mb := fun S R c y => Cycle_written_by_mb y.1 y.2.1) (Γ0 := fun S R c y => [some (.fz ((r_Cycle K) y.1)), some (.fz (rS y.2.1)), none, none]) (Γ' := fun _ => []) (Γb := fun e => nomatch e) F sc_Cycle_written_by (fun S R c y vs G h => (len_raC (len_raC len_raN)) h) (fun _ _ _ _ => rfl) (fun S R c y vs G h => (so_raC (so_raC (so_raN (n := 2)))) h) (fun _ _ _ _ => by exact Nat.le_of_ble_eq_true rfl) (by exact Nat.le_of_ble_eq_true rfl) ?_
  intro cdv A outer s H E Fm S R cp y hr z
  have hu := DL.Room.hu hr
  have hu1 := DL.Room.hu1 hr
  obtain ⟨self1, kind2, _⟩ := y
  exact JB.eq (m := (bnd (bnd (bnd (bnd (ret self1) fun v4 => bnd (ret ()) fun _ => bnd (ret kind2) fun v3 => Cycle_ends_of_m v4 v3) fun v5 => ret v5.2) fun v6 => bnd (ret ("absent" : Str)) fun v7 => ret (decide (v6 = v7))) fun v8 => if v8 then (bnd (ret ([] : List Str)) fun v9 => ret (.rt v9)) else (bnd (bnd (bnd (ret self1) fun v10 => ret (D_Cycle.kind_carried v10)) fun v11 => bnd (ret kind2) fun v12 => opt (dget v11 v12)) fun carried13 => bnd (bnd (bnd (bnd (ret self1) fun v14 => ret (D_Cycle.column_sizes v14)) fun v15 => ret (List.map (·.1) v15)) fun v19 => compM (fun x16 => bnd (ret x16) fun v17 => bnd (ret carried13) fun v18 => ret (!dhas v18 v17)) (fun x16 => ret x16) v19) fun v20 => ret (.rt v20)) : M S (Fl Unit Empty (List Str)))) (jb_cx (Γ2 := [some (.fz ((r_Cycle K) self1)), some (.fz (rS kind2)), none, none]) (jb_ifR (jt_c c_eqS (je_t2_1 (je_meth z C_Cycle_ends_of hr ⟨⟩ T.cl_Cycle so_obj (je_var (r := (r_Cycle K)) (x := self1) 0 rfl (pv 0)) (ja_cons (je_var (r := rS) (x := kind2) 1 rfl (pv 1)) ja_nil))) (je_globS (x := "absent") (by rfl) T.gABSENT)) (jb_cx (Γ2 := [some (.fz ((r_Cycle K) self1)), some (.fz (rS kind2)), none, none]) (jb_one (js_retO (je_list (jl_nil (r := rS)))))) (by repeat' first | exact nn_rt | exact nn_rse | exact nn_ct | exact nn_bk | exact nn_stk | refine nn_if ?_ ?_ | (refine nn_bnd ?_; intro _) | (refine nn_then ?_; intro _)) (jb_cx (Γ2 := [some (.fz ((r_Cycle K) self1)), some (.fz (rS kind2)), none, none]) (cut_Cycle_written_by_1 T C_Cycle_ends_of hr z hu hu1 self1 kind2)))) (by simp only [ret_bnd, rdM_some, Cycle_written_by_mb])
abbrev st_Cycle_dropped_by : Stmt := (inClass (top 19) 12)
theorem sc_Cycle_dropped_by : FnScope ["self", "kind", "passed", "pair", "name"] ["self", "kind"] (defScope st_Cycle_dropped_by) := ⟨rfl, rfl, rfl, by decide +kernel, rfl, by decide +kernel, by decide +kernel⟩
def Cycle_dropped_by_mb {S : Type} (self1 : D_Cycle) (kind2 : Str) : M S (Fl Unit Empty (List Str)) := bnd (bnd (bnd (Cycle_ends_of_m self1 kind2) fun v5 => ret v5.1) fun v6 => ret (decide (v6 = ("absent" : Str)))) fun v8 => if v8 then (ret (.rt ([] : List Str))) else (bnd (bnd (bnd (opt (dget (D_Cycle.kind_carried self1) kind2)) fun v13 => ret (List.map (·.2) v13)) fun v16 => compM (fun x14 => ret true) (fun x14 => ret x14.1) v16) fun passed17 => bnd (compM (fun x20 => ret (!decide (x20 ∈ passed17))) (fun x20 => ret x20) (List.map (·.1) (D_Cycle.column_sizes self1))) fun v24 => ret (.rt v24))
def Cycle_dropped_by_m {S : Type} (self1 : D_Cycle) (kind2 : Str) : M S (List Str) := runF (Cycle_dropped_by_mb self1 kind2)
abbrev ra_Cycle_dropped_by (K : PySem.W.Frag) (S : Type) (R : S → MP Hp) (c : NoCap S R) : D_Cycle × Str × Unit → List V → Hp → Prop := (raC (r_Cycle K) (raC rS raN))
abbrev f_Cycle_dropped_by (S : Type) (R : S → MP Hp) (c : NoCap S R) (y : D_Cycle × Str × Unit) : M S (List Str) := Cycle_dropped_by_m y.1 y.2.1
abbrev sp_Cycle_dropped_by (K : PySem.W.Frag) (mg : Str → Option Value) : Sp := spC mg (ra_Cycle_dropped_by K) (.own (cL rS)) f_Cycle_dropped_by
theorem cut_Cycle_dropped_by_0 {P : Program} {w : World} {K : PySem.W.Frag} {mg : Str → Option Value} {base : Heap} {f : Addr} {cdv : Value} {A : Around} {outer : List Env} {s : Shared} {H : Hp} {E : XK} {Fm : Fm} {S : Type} {R : S → MP Hp} (T : Txt K mg) (C_Cycle_ends_of : MtC P w K mg base (He.ga K "Cycle") "ends_of" 1 (sp_Cycle_ends_of K mg)) (hr : Room 1 (A.deeper (envOfC "Cycle.dropped_by" (defScope st_Cycle_dropped_by) s.heap.objs.size f cdv))) (z : ZOk (ZF P w K mg base ["self", "kind", "passed", "pair", "name"] "Cycle.dropped_by" (defScope st_Cycle_dropped_by) f cdv A outer s H E Fm S R)) (hu : (A.deeper (envOfC "Cycle.dropped_by" (defScope st_Cycle_dropped_by) s.heap.objs.size f cdv)).units + 65 < cLine) (hu1 : (A.deeper (envOfC "Cycle.dropped_by" (defScope st_Cycle_dropped_by) s.heap.objs.size f cdv)).units + 1 < cLine) (self1 : D_Cycle) (kind2 : Str) (passed17 : List Str) : JB (ZF P w K mg base ["self", "kind", "passed", "pair", "name"] "Cycle.dropped_by" (defScope st_Cycle_dropped_by) f cdv A outer s H E Fm S R) [some (.fz ((r_Cycle K) self1)), some (.fz (rS kind2)), some (.fz ((rL rS) passed17)), none, none] (List.drop 2 (defBody st_Cycle_dropped_by)) (bnd (bnd (bnd (bnd (ret self1) fun v18 => ret (D_Cycle.column_sizes v18)) fun v19 => ret (List.map (·.1) v19)) fun v23 => compM (fun x20 => bnd (ret x20) fun v21 => bnd (ret passed17) fun v22 => ret (!decide (v21 ∈ v22))) (fun x20 => ret x20) v23) fun v24 => ret (.rt v24) : M S (Fl Unit Empty (List Str))) (fun _ => []) (fun e => nomatch e) (.own (cL rS)) := (jb_one (js_retO (je_comp (own := [("name", 4)]) z (ji_keys (kt := kS) (je_fld (r := (rD kS (rT2 K rI rI))) (g := fun x => x.column_sizes) T.cl_Cycle T.na_Cycle_column_sizes (je_var (r := (r_Cycle K)) (x := self1) 0 rfl (pv 0)))) (fun (x20 : Str) => bnd (ret x20) fun v21 => bnd (ret passed17) fun v22 => ret (!decide (v21 ∈ v22))) (fun (x20 : Str) => ret x20) (blkOk_by (N := ["self", "kind", "passed", "pair", "name"]) (sc := defScope st_Cycle_dropped_by) (by decide +kernel)) (fun _ _ _ _ _ _ _ => by exact (jg_name (i := 4) ((ZOk.blk z)).nd rfl (by first | exact .inl rfl | exact .inr rfl))) (fun _ _ _ _ _ _ _ x20 => (jts_one (jt_ninL flS (je_var (r := rS) (x := x20) 4 rfl (pv 4)) (je_var (r := (rL rS)) (x := passed17) 2 rfl (pv 2))))) (fun _ _ _ _ _ _ _ x20 => (je_var (r := rS) (x := x20) 4 rfl (pv 4))))))
theorem cut_Cycle_dropped_by_1 {P : Program} {w : World} {K : PySem.W.Frag} {mg : Str → Option Value} {base : Heap} {f : Addr} {cdv : Value} {A : Around} {outer : List Env} {s : Shared} {H : Hp} {E : XK} {Fm : Fm} {S : Type} {R : S → MP Hp} (T : Txt K mg) (C_Cycle_ends_of : MtC P w K mg base (He.ga K "Cycle") "ends_of" 1 (sp_Cycle_ends_of K mg)) (hr : Room 1 (A.deeper (envOfC "Cycle.dropped_by" (defScope st_Cycle_dropped_by) s.heap.objs.size f cdv))) (z : ZOk (ZF P w K mg base ["self", "kind", "passed", "pair", "name"] "Cycle.dropped_by" (defScope st_Cycle_dropped_by) f cdv A outer s H E Fm S R)) (hu : (A.deeper (envOfC "Cycle.dropped_by" (defScope st_Cycle_dropped_by) s.heap.objs.size f cdv)).units + 65 < cLine) (hu1 : (A.deeper (envOfC "Cycle.dropped_by" (defScope st_Cycle_dropped_by) s.heap.objs.size f cdv)).units + 1 < cLine) (self1 : D_Cycle) (kind2 : Str) : JB (ZF P w K mg base ["self", "kind", "passed", "pair", "name"] "Cycle.dropped_by" (defScope st_Cycle_dropped_by) f cdv A outer s H E Fm S R) [some (.fz ((r_Cycle K) self1)), some (.fz (rS kind2)), none, none, none] (List.drop 1 (defBody st_Cycle_dropped_by)) (bnd (bnd (bnd (bnd (bnd (ret self1) fun v10 => ret (D_Cycle.kind_carried v10)) fun v11 => bnd (ret kind2) fun v12 => opt (dget v11 v12)) fun v13 => ret (List.map (·.2) v13)) fun v16 => compM (fun x14 => ret true) (fun x14 => bnd (ret x14) fun v15 => ret v15.1) v16) fun passed17 => bnd (bnd (bnd (bnd (ret self1) fun v18 => ret (D_Cycle.column_sizes v18)) fun v19 => ret (List.map (·.1) v19)) fun v23 => compM (fun x20 => bnd (ret x20) fun v21 => bnd (ret passed17) fun v22 => ret (!decide (v21 ∈ v22))) (fun x20 => ret x20) v23) fun v24 => ret (.rt v24) : M S (Fl Unit Empty (List Str))) (fun _ => []) (fun e => nomatch e) (.own (cL rS)) := (jb_setO (i := 2) z rfl (by first | exact .inl rfl | exact .inr rfl) (je_comp (own := [("pair", 3)]) z (ji_values (kt := kS) (je_dget (kt := kS) hu (je_fld (r := (rD kS (rD kS (rT2 K rS rI)))) (g := fun x => x.kind_carried) T.cl_Cycle T.na_Cycle_kind_carried (je_var (r := (r_Cycle K)) (x := self1) 0 rfl (pv 0))) (je_var (r := rS) (x := kind2) 1 rfl (pv 1)))) (fun (x14 : Str × Int) => ret true) (fun (x14 : Str × Int) => bnd (ret x14) fun v15 => ret v15.1) (blkOk_by (N := ["self", "kind", "passed", "pair", "name"]) (sc := defScope st_Cycle_dropped_by) (by decide +kernel)) (fun _ _ _ _ _ _ _ => by exact (jg_name (i := 3) ((ZOk.blk z)).nd rfl (by first | exact .inl rfl | exact .inr rfl))) (fun _ _ _ _ _ _ _ x14 => jts_nil) (fun _ _ _ _ _ _ _ x14 => (je_t2_0 (je_var (r := (rT2 K rS rI)) (x := x14) 3 rfl (pv 3))))) (fun passed17 => (jb_frzL (k := 2) rfl (jb_cx (Γ2 := [some (.fz ((r_Cycle K) self1)), some (.fz (rS kind2)), some (.fz ((rL rS) passed17)), none, none]) (cut_Cycle_dropped_by_0 T C_Cycle_ends_of hr z hu hu1 self1 kind2 passed17)))))
theorem ok_Cycle_dropped_by {P : Program} {w : World} {K : PySem.W.Frag} {mg : Str → Option Value} {base : Heap} {f : Addr} {fd : FuncData} (F : FnP K "dropped_by" "Cycle.dropped_by" st_Cycle_dropped_by [] [] f fd) (T : Txt K mg) (C_Cycle_ends_of : MtC P w K mg base (He.ga K "Cycle") "ends_of" 1 (sp_Cycle_ends_of K mg)) : FnOk P w K mg base (L2.CX P w) 2 f fd ["self", "kind"] (sp_Cycle_dropped_by K mg) := by
  refine fn_mk (k := 1) (mb := fun S R c y => Cycle_dropped_by_mb y.1 y.2.1) (Γ0 := fun S R c y => [some (.fz ((r_Cycle K) y.1)), some (.fz (rS y.2.1)), none, none, none]) (Γ' := fun _ => []) (Γb := fun e => nomatch e) F sc_Cycle_dropped_by (fun S R c y vs G h => (len_raC (len_raC len_raN)) h) (fun _ _ _ _ => rfl) (fun S R c y vs G h => (so_raC (so_raC (so_raN (n := 3)))) h) (fun _ _ _ _ => by exact Nat.le_of_ble_eq_true rfl) (by exact Nat.le_of_ble_eq_true rfl) ?_
  intro cdv A outer s H E Fm S R cp y hr z
  have hu := DL.Room.hu hr
  have hu1 := DL.Room.hu1 hr
  obtain ⟨self1, kind2, _⟩ := y
  exact JB.eq (m := (bnd (bnd (bnd (bnd (ret self1) fun v4 => bnd (ret ()) fun _ => bnd (ret kind2) fun v3 => Cycle_ends_of_m v4 v3) fun v5 => ret v5.1) fun v6 => bnd (ret ("absent" : Str)) fun v7 => ret (decide (v6 = v7))) fun v8 => if v8 then (bnd (ret ([] : List Str)) fun v9 => ret (.rt v9)) else (bnd (bnd (bnd (bnd (bnd (ret self1) fun v10 => ret (D_Cycle.kind_carried v10)) fun v11 => bnd (ret kind2) fun v12 => opt (dget v11 v12)) fun v13 => ret (List.map (·.2) v13)) fun v16 => compM (fun x14 => ret true) (fun x14 => bnd (ret x14) fun v15 => ret v15.1) v16) fun passed17 => bnd (bnd (bnd (bnd (ret self1) fun v18 => ret (D_Cycle.column_sizes v18)) fun v19 => ret (List.map (·.1) v19)) fun v23 => compM (fun x20 => bnd (ret x20) fun v21 => bnd (ret passed17) fun v22 => ret (!decide (v21 ∈ v22))) (fun x20 => ret x20) v23) fun v24 => ret (.rt v24)) : M S (Fl Unit Empty (List Str)))) (jb_cx (Γ2 := [some (.fz ((r_Cycle K) self1)), some (.fz (rS kind2)), none, none, none]) (jb_ifR (jt_c c_eqS (je_t2_0 (je_meth z C_Cycle_ends_of hr ⟨⟩ T.cl_Cycle so_obj (je_var (r := (r_Cycle K)) (x := self1) 0 rfl (pv 0)) (ja_cons (je_var (r := rS) (x := kind2) 1 rfl (pv 1)) ja_nil))) (je_globS (x := "absent") (by rfl) T.gABSENT)) (jb_cx (Γ2 := [some (.fz ((r_Cycle K) self1)), some (.fz (rS kind2)), none, none, none]) (jb_one (js_retO (je_list (jl_nil (r := rS)))))) (by repeat' first | exact nn_rt | exact nn_rse | exact nn_ct | exact nn_bk | exact nn_stk | refine nn_if ?_ ?_ | (refine nn_bnd ?_; intro _) | (refine nn_then ?_; intro _)) (jb_cx (Γ2 := [some (.fz ((r_Cycle K) self1)), some (.fz (rS kind2)), none, none, none]) (cut_Cycle_dropped_by_1 T C_Cycle_ends_of hr z hu hu1 self1 kind2)))) (by simp only [ret_bnd, rdM_some, Cycle_dropped_by_mb])
abbrev st_cycle : Stmt := (top 29)
theorem sc_cycle : FnScope ["_law_plan_here", "_law_columns_here", "_law_kinds", "_law_name", "_law_wide", "_law_ring_here", "_law_kind"] ["_law_plan_here"] (defScope st_cycle) := ⟨rfl, rfl, rfl, by decide +kernel, rfl, by decide +kernel, by decide +kernel⟩
def cycle_mb {S : Type} (plan1 : (List (Str × Int × Int)) × (List (Str × Str × Str × Int × (List (Str × (Str × Int)))))) : M S (Fl Unit Empty D_Cycle) := bnd (compM (fun x4 => ret true) (fun x4 => Column_init_m x4.1 x4.2.1 x4.2.2) plan1.1) fun columns9 => bnd (compM (fun x12 => ret true) (fun x12 => Kind_init_m x12.1 x12.2.1 x12.2.2.1 x12.2.2.2.1 (some x12.2.2.2.2)) plan1.2) fun kinds26 => bnd (Cycle_init_m columns9 kinds26) fun v29 => ret (.rt v29)
def cycle_m {S : Type} (plan1 : (List (Str × Int × Int)) × (List (Str × Str × Str × Int × (List (Str × (Str × Int)))))) : M S D_Cycle := runF (cycle_mb plan1)
abbrev ra_cycle (K : PySem.W.Frag) (S : Type) (R : S → MP Hp) (c : NoCap S R) : ((List (Str × Int × Int)) × (List (Str × Str × Str × Int × (List (Str × (Str × Int)))))) × Unit → List V → Hp → Prop := (raC (rT2 K (rL (rT3 K rS rI rI)) (rL (rT5 K rS rS rS rI (rD kS (rT2 K rS rI))))) raN)
abbrev f_cycle (S : Type) (R : S → MP Hp) (c : NoCap S R) (y : ((List (Str × Int × Int)) × (List (Str × Str × Str × Int × (List (Str × (Str × Int)))))) × Unit) : M S D_Cycle := cycle_m y.1
abbrev sp_cycle (K : PySem.W.Frag) (mg : Str → Option Value) : Sp := spC mg (ra_cycle K) (.fz (r_Cycle K)) f_cycle
theorem cut_cycle_0 {P : Program} {w : World} {K : PySem.W.Frag} {mg : Str → Option Value} {base : Heap} {f : Addr} {cdv : Value} {A : Around} {outer : List Env} {s : Shared} {H : Hp} {E : XK} {Fm : Fm} {S : Type} {R : S → MP Hp} (T : Txt K mg) (C_Column_init : MkC P w K mg base "Column" 1 (He.ga K "Column") 1 ["width", "modulus"] (fun vs zs => vs ++ zs) (sp_Column_init K mg)) (C_Kind_init : MkC P w K mg base "Kind" 1 (He.ga K "Kind") 3 ["weight", "carried"] (fun vs zs => vs ++ zs) (sp_Kind_init K mg)) (C_Cycle_init : MkC P w K mg base "Cycle" 3 (He.ga K "Cycle") 2 [] (fun vs zs => vs ++ zs) (sp_Cycle_init K mg)) (hr : Room 4 (A.deeper (envOfC "_law_cycle" (defScope st_cycle) s.heap.objs.size f cdv))) (z : ZOk (ZF P w K mg base ["_law_plan_here", "_law_columns_here", "_law_kinds", "_law_name", "_law_wide", "_law_ring_here", "_law_kind"] "_law_cycle" (defScope st_cycle) f cdv A outer s H E Fm S R)) (hu : (A.deeper (envOfC "_law_cycle" (defScope st_cycle) s.heap.objs.size f cdv)).units + 65 < cLine) (hu1 : (A.deeper (envOfC "_law_cycle" (defScope st_cycle) s.heap.objs.size f cdv)).units + 1 < cLine) (plan1 : (List (Str × Int × Int)) × (List (Str × Str × Str × Int × (List (Str × (Str × Int)))))) (columns9 : List D_Column) (kinds26 : List D_Kind) : JB (ZF P w K mg base ["_law_plan_here", "_law_columns_here", "_law_kinds", "_law_name", "_law_wide", "_law_ring_here", "_law_kind"] "_law_cycle" (defScope st_cycle) f cdv A outer s H E Fm S R) [some (.fz ((rT2 K (rL (rT3 K rS rI rI)) (rL (rT5 K rS rS rS rI (rD kS (rT2 K rS rI))))) plan1)), some (.fz ((rL (r_Column K)) columns9)), some (.fz ((rL (r_Kind K)) kinds26)), none, none, none, none] (List.drop 2 (defBody st_cycle)) (bnd (bnd (ret columns9) fun v27 => bnd (ret kinds26) fun v28 => Cycle_init_m v27 v28) fun v29 => ret (.rt v29) : M S (Fl Unit Empty D_Cycle)) (fun _ => []) (fun e => nomatch e) (.fz (r_Cycle K)) := (jb_one (js_ret (JE.eqm (je_mk z C_Cycle_init hr ⟨⟩ (ja_cons (je_var (r := (rL (r_Column K))) (x := columns9) 1 rfl (pv 1)) (ja_cons (je_var (r := (rL (r_Kind K))) (x := kinds26) 2 rfl (pv 2)) ja_nil))) rfl)))
theorem cut_cycle_1 {P : Program} {w : World} {K : PySem.W.Frag} {mg : Str → Option Value} {base : Heap} {f : Addr} {cdv : Value} {A : Around} {outer : List Env} {s : Shared} {H : Hp} {E : XK} {Fm : Fm} {S : Type} {R : S → MP Hp} (T : Txt K mg) (C_Column_init : MkC P w K mg base "Column" 1 (He.ga K "Column") 1 ["width", "modulus"] (fun vs zs => vs ++ zs) (sp_Column_init K mg)) (C_Kind_init : MkC P w K mg base "Kind" 1 (He.ga K "Kind") 3 ["weight", "carried"] (fun vs zs => vs ++ zs) (sp_Kind_init K mg)) (C_Cycle_init : MkC P w K mg base "Cycle" 3 (He.ga K "Cycle") 2 [] (fun vs zs => vs ++ zs) (sp_Cycle_init K mg)) (hr : Room 4 (A.deeper (envOfC "_law_cycle" (defScope st_cycle) s.heap.objs.size f cdv))) (z : ZOk (ZF P w K mg base ["_law_plan_here", "_law_columns_here", "_law_kinds", "_law_name", "_law_wide", "_law_ring_here", "_law_kind"] "_law_cycle" (defScope st_cycle) f cdv A outer s H E Fm S R)) (hu : (A.deeper (envOfC "_law_cycle" (defScope st_cycle) s.heap.objs.size f cdv)).units + 65 < cLine) (hu1 : (A.deeper (envOfC "_law_cycle" (defScope st_cycle) s.heap.objs.size f cdv)).units + 1 < cLine) (plan1 : (List (Str × Int × Int)) × (List (Str × Str × Str × Int × (List (Str × (Str × Int)))))) (columns9 : List D_Column) : JB (ZF P w K mg base ["_law_plan_here", "_law_columns_here", "_law_kinds", "_law_name", "_law_wide", "_law_ring_here", "_law_kind"] "_law_cycle" (defScope st_cycle) f cdv A outer s H E Fm S R) [some (.fz ((rT2 K (rL (rT3 K rS rI rI)) (rL (rT5 K rS rS rS rI (rD kS (rT2 K rS rI))))) plan1)), some (.fz ((rL (r_Column K)) columns9)), none, none, none, none, none] (List.drop 1 (defBody st_cycle)) (bnd (bnd (bnd (bnd (ret plan1) fun v10 => ret v10.2) fun v11 => ret v11) fun v25 => compM (fun x12 => ret true) (fun x12 => bnd (bnd (ret x12) fun v13 => ret v13.1) fun v20 => bnd (bnd (ret x12) fun v14 => ret v14.2.1) fun v21 => bnd (bnd (ret x12) fun v15 => ret v15.2.2.1) fun v22 => bnd (bnd (ret x12) fun v16 => ret v16.2.2.2.1) fun v23 => bnd (bnd (bnd (bnd (ret x12) fun v17 => ret v17.2.2.2.2) fun v18 => ret v18) fun v19 => ret (some v19)) fun v24 => Kind_init_m v20 v21 v22 v23 v24) v25) fun kinds26 => bnd (bnd (ret columns9) fun v27 => bnd (ret kinds26) fun v28 => Cycle_init_m v27 v28) fun v29 => ret (.rt v29) : M S (Fl Unit Empty D_Cycle)) (fun _ => []) (fun e => nomatch e) (.fz (r_Cycle K)) := (jb_setLc (i := 2) (own := [("_law_kind", 6)]) z (ji_list (je_t2_1 (je_var (r := (rT2 K (rL (rT3 K rS rI rI)) (rL (rT5 K rS rS rS rI (rD kS (rT2 K rS rI)))))) (x := plan1) 0 rfl (pv 0)))) (fun (x12 : Str × Str × Str × Int × (List (Str × (Str × Int)))) => ret true) (fun (x12 : Str × Str × Str × Int × (List (Str × (Str × Int)))) => bnd (bnd (ret x12) fun v13 => ret v13.1) fun v20 => bnd (bnd (ret x12) fun v14 => ret v14.2.1) fun v21 => bnd (bnd (ret x12) fun v15 => ret v15.2.2.1) fun v22 => bnd (bnd (ret x12) fun v16 => ret v16.2.2.2.1) fun v23 => bnd (bnd (bnd (bnd (ret x12) fun v17 => ret v17.2.2.2.2) fun v18 => ret v18) fun v19 => ret (some v19)) fun v24 => Kind_init_m v20 v21 v22 v23 v24) (blkOk_by (N := ["_law_plan_here", "_law_columns_here", "_law_kinds", "_law_name", "_law_wide", "_law_ring_here", "_law_kind"]) (sc := defScope st_cycle) (by decide +kernel)) (fun _ _ _ _ _ _ _ => by exact (jg_name (i := 6) ((ZOk.blk z)).nd rfl (by first | exact .inl rfl | exact .inr rfl))) (fun _ _ _ _ _ _ _ x12 => jts_nil) (fun _ _ _ _ _ _ _ x12 => (JE.eqm (je_mkK (by exact (ZOk.blk z)) C_Kind_init hr ⟨⟩ (ja_cons (je_t5_0 (je_var (r := (rT5 K rS rS rS rI (rD kS (rT2 K rS rI)))) (x := x12) 6 rfl (pv 6))) (ja_cons (je_t5_1 (je_var (r := (rT5 K rS rS rS rI (rD kS (rT2 K rS rI)))) (x := x12) 6 rfl (pv 6))) (ja_cons (je_t5_2 (je_var (r := (rT5 K rS rS rS rI (rD kS (rT2 K rS rI)))) (x := x12) 6 rfl (pv 6))) ja_nil))) (jk_cons (je_t5_3 (je_var (r := (rT5 K rS rS rS rI (rD kS (rT2 K rS rI)))) (x := x12) 6 rfl (pv 6))) (jk_cons (je_someO (je_frzD (je_dictD (by rfl) T.f_dict (je_t5_4 (je_var (r := (rT5 K rS rS rS rI (rD kS (rT2 K rS rI)))) (x := x12) 6 rfl (pv 6)))))) jk_nil)) (fun x y => (x.1, (x.2.1, (x.2.2.1, y)))) (fun _ h h2 => ⟨_, rfl, jn_c (fun h => jn_c (fun h => jn_c (fun h => jn_n h h2) h) h) h⟩)) rfl)) (hy := rfl) (hyl := rfl) (hr := fun kinds26 => (jb_frzL (k := 2) rfl (jb_cx (Γ2 := [some (.fz ((rT2 K (rL (rT3 K rS rI rI)) (rL (rT5 K rS rS rS rI (rD kS (rT2 K rS rI))))) plan1)), some (.fz ((rL (r_Column K)) columns9)), some (.fz ((rL (r_Kind K)) kinds26)), none, none, none, none]) (cut_cycle_0 T C_Column_init C_Kind_init C_Cycle_init hr z hu hu1 plan1 columns9 kinds26)))) (hsw := sw_true rfl rfl rfl (by decide +kernel)))
theorem ok_cycle {P : Program} {w : World} {K : PySem.W.Frag} {mg : Str → Option Value} {base : Heap} {f : Addr} {fd : FuncData} (F : FnP K "_law_cycle" "_law_cycle" st_cycle [] [] f fd) (T : Txt K mg) (C_Column_init : MkC P w K mg base "Column" 1 (He.ga K "Column") 1 ["width", "modulus"] (fun vs zs => vs ++ zs) (sp_Column_init K mg)) (C_Kind_init : MkC P w K mg base "Kind" 1 (He.ga K "Kind") 3 ["weight", "carried"] (fun vs zs => vs ++ zs) (sp_Kind_init K mg)) (C_Cycle_init : MkC P w K mg base "Cycle" 3 (He.ga K "Cycle") 2 [] (fun vs zs => vs ++ zs) (sp_Cycle_init K mg)) : FnOk P w K mg base (L2.CX P w) 5 f fd ["_law_plan_here"] (sp_cycle K mg) := by
  refine fn_mk (k := 4) (mb := fun S R c y => cycle_mb y.1) (Γ0 := fun S R c y => [some (.fz ((rT2 K (rL (rT3 K rS rI rI)) (rL (rT5 K rS rS rS rI (rD kS (rT2 K rS rI))))) y.1)), none, none, none, none, none, none]) (Γ' := fun _ => []) (Γb := fun e => nomatch e) F sc_cycle (fun S R c y vs G h => (len_raC len_raN) h) (fun _ _ _ _ => rfl) (fun S R c y vs G h => (so_raC (so_raN (n := 6))) h) (fun _ _ _ _ => by exact Nat.le_of_ble_eq_true rfl) (by exact Nat.le_of_ble_eq_true rfl) ?_
  intro cdv A outer s H E Fm S R cp y hr z
  have hu := DL.Room.hu hr
  have hu1 := DL.Room.hu1 hr
  obtain ⟨plan1, _⟩ := y
  exact JB.eq (m := (bnd (bnd (bnd (bnd (ret plan1) fun v2 => ret v2.1) fun v3 => ret v3) fun v8 => compM (fun x4 => ret true) (fun x4 => bnd (ret x4.1) fun v5 => bnd (ret x4.2.1) fun v6 => bnd (ret x4.2.2) fun v7 => Column_init_m v5 v6 v7) v8) fun columns9 => bnd (bnd (bnd (bnd (ret plan1) fun v10 => ret v10.2) fun v11 => ret v11) fun v25 => compM (fun x12 => ret true) (fun x12 => bnd (bnd (ret x12) fun v13 => ret v13.1) fun v20 => bnd (bnd (ret x12) fun v14 => ret v14.2.1) fun v21 => bnd (bnd (ret x12) fun v15 => ret v15.2.2.1) fun v22 => bnd (bnd (ret x12) fun v16 => ret v16.2.2.2.1) fun v23 => bnd (bnd (bnd (bnd (ret x12) fun v17 => ret v17.2.2.2.2) fun v18 => ret v18) fun v19 => ret (some v19)) fun v24 => Kind_init_m v20 v21 v22 v23 v24) v25) fun kinds26 => bnd (bnd (ret columns9) fun v27 => bnd (ret kinds26) fun v28 => Cycle_init_m v27 v28) fun v29 => ret (.rt v29) : M S (Fl Unit Empty D_Cycle))) (jb_cx (Γ2 := [some (.fz ((rT2 K (rL (rT3 K rS rI rI)) (rL (rT5 K rS rS rS rI (rD kS (rT2 K rS rI))))) plan1)), none, none, none, none, none, none]) (jb_setLc (i := 1) (own := [("_law_name", 3), ("_law_wide", 4), ("_law_ring_here", 5)]) (g := gTup K 3 (gCons (gName 3) (gCons (gName 4) (gCons (gName 5) gNil)))) z (ji_list (je_t2_0 (je_var (r := (rT2 K (rL (rT3 K rS rI rI)) (rL (rT5 K rS rS rS rI (rD kS (rT2 K rS rI)))))) (x := plan1) 0 rfl (pv 0)))) (fun (x4 : Str × Int × Int) => ret true) (fun (x4 : Str × Int × Int) => bnd (ret x4.1) fun v5 => bnd (ret x4.2.1) fun v6 => bnd (ret x4.2.2) fun v7 => Column_init_m v5 v6 v7) (blkOk_by (N := ["_law_plan_here", "_law_columns_here", "_law_kinds", "_law_name", "_law_wide", "_law_ring_here", "_law_kind"]) (sc := defScope st_cycle) (by decide +kernel)) (fun _ _ _ _ _ _ _ => by exact (jg_tup3 (r1 := rS) (r2 := rI) (r3 := rI) (by exact (ZOk.blk z)) (i1 := 3) (i2 := 4) (i3 := 5) ⟨rfl, (by first | exact .inl rfl | exact .inr rfl), (by first | exact .inl rfl | exact .inr rfl)⟩ ⟨rfl, (by first | exact .inl rfl | exact .inr rfl), (by first | exact .inl rfl | exact .inr rfl)⟩ ⟨rfl, (by first | exact .inl rfl | exact .inr rfl), (by first | exact .inl rfl | exact .inr rfl)⟩)) (fun _ _ _ _ _ _ _ x4 => jts_nil) (fun _ _ _ _ _ _ _ x4 => (JE.eqm (je_mkK (by exact (ZOk.blk z)) C_Column_init hr ⟨⟩ (ja_cons (je_var (r := rS) (x := x4.1) 3 rfl (pv 3)) ja_nil) (jk_cons (je_var (r := rI) (x := x4.2.1) 4 rfl (pv 4)) (jk_cons (je_var (r := rI) (x := x4.2.2) 5 rfl (pv 5)) jk_nil)) (fun x y => (x.1, y)) (fun _ h h2 => ⟨_, rfl, jn_c (fun h => jn_n h h2) h⟩)) rfl)) (hy := rfl) (hyl := rfl) (hr := fun columns9 => (jb_frzL (k := 1) rfl (jb_cx (Γ2 := [some (.fz ((rT2 K (rL (rT3 K rS rI rI)) (rL (rT5 K rS rS rS rI (rD kS (rT2 K rS rI))))) plan1)), some (.fz ((rL (r_Column K)) columns9)), none, none, none, none, none]) (cut_cycle_1 T C_Column_init C_Kind_init C_Cycle_init hr z hu hu1 plan1 columns9)))) (hsw := sw_true rfl rfl rfl (by decide +kernel)))) (by simp only [ret_bnd, rdM_some, cycle_mb])
abbrev st_law : Stmt := (top 33)
theorem sc_law : FnScope ["_law_script", "_law_bag_here", "_law_plan_here", "_law_cycle_here", "_law_kinds", "_law_late", "_law_kind", "_law_column"] ["_law_script"] (defScope st_law) := ⟨rfl, rfl, rfl, by decide +kernel, rfl, by decide +kernel, by decide +kernel⟩
def law_mb {S : Type} (b : BagIn S) : M S (Fl Unit Empty Bool) := bnd (plan_m b (6 : Int) (12 : Int)) fun plan4 => bnd (cycle_m plan4) fun cycle6 => thenB (bnd (bnd (draw_m b (2 : Int)) fun v12 => ret (decide (v12 = (1 : Int)))) fun v14 => if v14 then (bnd (ret (List.reverse plan4.2)) fun kinds16 => bnd (bnd (turned_moves_m plan4) fun v18 => cycle_m v18) fun cycle19 => ret (.nx (kinds16, cycle19))) else (ret (.nx (plan4.2, cycle6)))) fun (t15 : (List (Str × Str × Str × Int × (List (Str × (Str × Int))))) × D_Cycle) => bnd (draw_m b (2 : Int)) fun late22 => thenB (forL (fun (x25 : Str × Str × Str × Int × (List (Str × (Str × Int)))) (t24 : Unit) => bnd (if (decide (late22 = (1 : Int))) then (bnd (Cycle_dropped_by_m t15.2 x25.1) fun v33 => bnd (dropped_m plan4 x25) fun v34 => neM (fun xs => List.all xs PyData.strOk) v33 v34) else ret false) fun v36 => if v36 then (ret (.rt false)) else (bnd (bnd (Cycle_written_by_m t15.2 x25.1) fun v47 => bnd (bnd (bnd (written_m plan4 x25) fun v43 => ret v43) fun v46 => compM (fun x44 => ret true) (fun x44 => ret x44.1) v46) fun v48 => neM (fun xs => List.all xs PyData.strOk) v47 v48) fun v49 => if v49 then (ret (.rt false)) else (bnd (bnd (Cycle_dropped_by_m t15.2 x25.1) fun v56 => bnd (dropped_m plan4 x25) fun v57 => neM (fun xs => List.all xs PyData.strOk) v56 v57) fun v58 => if v58 then (ret (.rt false)) else (ret (.nx ()))))) t15.1 ()) fun (t60 : Unit) => ret (.rt true)
theorem cut_law_0 {P : Program} {w : World} {K : PySem.W.Frag} {mg : Str → Option Value} {base : Heap} {f : Addr} {cdv : Value} {A : Around} {outer : List Env} {s : Shared} {H : Hp} {E : XK} {Fm : Fm} {S : Type} {R : S → MP Hp} (cp : BagC S R) (T : Txt K mg) (C_plan : FnC P w K mg base "_law_plan" 4 (sp_plan K mg)) (C_cycle : FnC P w K mg base "_law_cycle" 5 (sp_cycle K mg)) (C_draw : FnC P w K mg base "_law_draw" 1 (sp_draw K mg)) (C_turned_moves : FnC P w K mg base "_law_turned_moves" 1 (sp_turned_moves K mg)) (C_Cycle_dropped_by : MtC P w K mg base (He.ga K "Cycle") "dropped_by" 2 (sp_Cycle_dropped_by K mg)) (C_dropped : FnC P w K mg base "_law_dropped" 1 (sp_dropped K mg)) (C_Cycle_written_by : MtC P w K mg base (He.ga K "Cycle") "written_by" 2 (sp_Cycle_written_by K mg)) (C_written : FnC P w K mg base "_law_written" 1 (sp_written K mg)) (hr : Room 5 (A.deeper (envOfC "law" (defScope st_law) s.heap.objs.size f cdv))) (z : ZOk (ZF P w K mg base ["_law_script", "_law_bag_here", "_law_plan_here", "_law_cycle_here", "_law_kinds", "_law_late", "_law_kind", "_law_column"] "law" (defScope st_law) f cdv A outer s H E Fm S R)) (hu : (A.deeper (envOfC "law" (defScope st_law) s.heap.objs.size f cdv)).units + 65 < cLine) (hu1 : (A.deeper (envOfC "law" (defScope st_law) s.heap.objs.size f cdv)).units + 1 < cLine) (plan4 : (List (Str × Int × Int)) × (List (Str × Str × Str × Int × (List (Str × (Str × Int)))))) (t15 : (List (Str × Str × Str × Int × (List (Str × (Str × Int))))) × D_Cycle) (late22 : Int) : JB (ZF P w K mg base ["_law_script", "_law_bag_here", "_law_plan_here", "_law_cycle_here", "_law_kinds", "_law_late", "_law_kind", "_law_column"] "law" (defScope st_law) f cdv A outer s H E Fm S R) [none, some (.fz ((rBag cp.ab) ())), some (.fz ((rT2 K (rL (rT3 K rS rI rI)) (rL (rT5 K rS rS rS rI (rD kS (rT2 K rS rI))))) plan4)), some (.fz ((r_Cycle K) t15.2)), some (.fz ((rL (rT5 K rS rS rS rI (rD kS (rT2 K rS rI)))) t15.1)), some (.fz (rI late22)), none, none] (List.drop 7 (defBody st_law)) (bnd (ret true) fun v61 => ret (.rt v61) : M S (Fl Unit Empty Bool)) (fun _ => []) (fun e => nomatch e) (.fz rB) := (jb_one (js_ret je_bl))
theorem cut_law_1 {P : Program} {w : World} {K : PySem.W.Frag} {mg : Str → Option Value} {base : Heap} {f : Addr} {cdv : Value} {A : Around} {outer : List Env} {s : Shared} {H : Hp} {E : XK} {Fm : Fm} {S : Type} {R : S → MP Hp} (cp : BagC S R) (T : Txt K mg) (C_plan : FnC P w K mg base "_law_plan" 4 (sp_plan K mg)) (C_cycle : FnC P w K mg base "_law_cycle" 5 (sp_cycle K mg)) (C_draw : FnC P w K mg base "_law_draw" 1 (sp_draw K mg)) (C_turned_moves : FnC P w K mg base "_law_turned_moves" 1 (sp_turned_moves K mg)) (C_Cycle_dropped_by : MtC P w K mg base (He.ga K "Cycle") "dropped_by" 2 (sp_Cycle_dropped_by K mg)) (C_dropped : FnC P w K mg base "_law_dropped" 1 (sp_dropped K mg)) (C_Cycle_written_by : MtC P w K mg base (He.ga K "Cycle") "written_by" 2 (sp_Cycle_written_by K mg)) (C_written : FnC P w K mg base "_law_written" 1 (sp_written K mg)) (hr : Room 5 (A.deeper (envOfC "law" (defScope st_law) s.heap.objs.size f cdv))) (z : ZOk (ZF P w K mg base ["_law_script", "_law_bag_here", "_law_plan_here", "_law_cycle_here", "_law_kinds", "_law_late", "_law_kind", "_law_column"] "law" (defScope st_law) f cdv A outer s H E Fm S R)) (hu : (A.deeper (envOfC "law" (defScope st_law) s.heap.objs.size f cdv)).units + 65 < cLine) (hu1 : (A.deeper (envOfC "law" (defScope st_law) s.heap.objs.size f cdv)).units + 1 < cLine) (plan4 : (List (Str × Int × Int)) × (List (Str × Str × Str × Int × (List (Str × (Str × Int)))))) (t15 : (List (Str × Str × Str × Int × (List (Str × (Str × Int))))) × D_Cycle) (late22 : Int) : JB (ZF P w K mg base ["_law_script", "_law_bag_here", "_law_plan_here", "_law_cycle_here", "_law_kinds", "_law_late", "_law_kind", "_law_column"] "law" (defScope st_law) f cdv A outer s H E Fm S R) [none, some (.fz ((rBag cp.ab) ())), some (.fz ((rT2 K (rL (rT3 K rS rI rI)) (rL (rT5 K rS rS rS rI (rD kS (rT2 K rS rI))))) plan4)), some (.fz ((r_Cycle K) t15.2)), some (.fz ((rL (rT5 K rS rS rS rI (rD kS (rT2 K rS rI)))) t15.1)), some (.fz (rI late22)), none, none] (List.drop 6 (defBody st_law)) (thenB (bnd (bnd (ret t15.1) fun v23 => ret v23) fun v62 => forL (fun (x25 : Str × Str × Str × Int × (List (Str × (Str × Int)))) (t24 : Unit) => bnd (bnd (bnd (ret late22) fun v26 => bnd (ret (1 : Int)) fun v27 => ret (decide (v26 = v27))) fun v35 => if v35 then (bnd (bnd (ret t15.2) fun v30 => bnd (ret ()) fun _ => bnd (bnd (ret x25) fun v28 => ret v28.1) fun v29 => Cycle_dropped_by_m v30 v29) fun v33 => bnd (bnd (ret plan4) fun v31 => bnd (ret x25) fun v32 => dropped_m v31 v32) fun v34 => neM (fun xs => List.all xs PyData.strOk) v33 v34) else ret false) fun v36 => if v36 then (bnd (ret false) fun v37 => ret (.rt v37)) else (bnd (bnd (bnd (ret t15.2) fun v40 => bnd (ret ()) fun _ => bnd (bnd (ret x25) fun v38 => ret v38.1) fun v39 => Cycle_written_by_m v40 v39) fun v47 => bnd (bnd (bnd (bnd (ret plan4) fun v41 => bnd (ret x25) fun v42 => written_m v41 v42) fun v43 => ret v43) fun v46 => compM (fun x44 => ret true) (fun x44 => bnd (ret x44) fun v45 => ret v45.1) v46) fun v48 => neM (fun xs => List.all xs PyData.strOk) v47 v48) fun v49 => if v49 then (bnd (ret false) fun v50 => ret (.rt v50)) else (bnd (bnd (bnd (ret t15.2) fun v53 => bnd (ret ()) fun _ => bnd (bnd (ret x25) fun v51 => ret v51.1) fun v52 => Cycle_dropped_by_m v53 v52) fun v56 => bnd (bnd (ret plan4) fun v54 => bnd (ret x25) fun v55 => dropped_m v54 v55) fun v57 => neM (fun xs => List.all xs PyData.strOk) v56 v57) fun v58 => if v58 then (bnd (ret false) fun v59 => ret (.rt v59)) else (ret (.nx ()))))) v62 ()) fun (t60 : Unit) => bnd (ret true) fun v61 => ret (.rt v61) : M S (Fl Unit Empty Bool)) (fun _ => []) (fun e => nomatch e) (.fz rB) := (jb_seq (Γ1 := fun t24 : Unit => [none, some (.fz ((rBag cp.ab) ())), some (.fz ((rT2 K (rL (rT3 K rS rI rI)) (rL (rT5 K rS rS rS rI (rD kS (rT2 K rS rI))))) plan4)), some (.fz ((r_Cycle K) t15.2)), some (.fz ((rL (rT5 K rS rS rS rI (rD kS (rT2 K rS rI)))) t15.1)), some (.fz (rI late22)), none, none]) (js_for (n := 8) (t0 := ()) z (ji_list (je_var (r := (rL (rT5 K rS rS rS rI (rD kS (rT2 K rS rI))))) (x := t15.1) 4 rfl (pv 4))) (jg_name (i := 6) (z).nd rfl (by first | exact .inl rfl | exact .inr rfl)) (Le.none (Le.some (Le.some (Le.some (Le.some (Le.some (Le.none (Le.none Le.nil)))))))) (fun x25 t24 => (jb_cx (Γ2 := [none, some (.fz ((rBag cp.ab) ())), some (.fz ((rT2 K (rL (rT3 K rS rI rI)) (rL (rT5 K rS rS rS rI (rD kS (rT2 K rS rI))))) plan4)), some (.fz ((r_Cycle K) t15.2)), some (.fz ((rL (rT5 K rS rS rS rI (rD kS (rT2 K rS rI)))) t15.1)), some (.fz (rI late22)), some (.fz ((rT5 K rS rS rS rI (rD kS (rT2 K rS rI))) x25)), none]) (jb_ifR (JW.jt (jw_and (jt_c c_eqI (je_var (r := rI) (x := late22) 5 rfl (pv 5)) je_int) (jw_and1 (jt_neD (dL dS) (by decide) hu (je_frzL (je_meth z C_Cycle_dropped_by hr ⟨⟩ T.cl_Cycle so_obj (je_var (r := (r_Cycle K)) (x := t15.2) 3 rfl (pv 3)) (ja_cons (je_t5_0 (je_var (r := (rT5 K rS rS rS rI (rD kS (rT2 K rS rI)))) (x := x25) 6 rfl (pv 6))) ja_nil))) (je_frzL (je_call z C_dropped hr ⟨⟩ (ja_cons (je_var (r := (rT2 K (rL (rT3 K rS rI rI)) (rL (rT5 K rS rS rS rI (rD kS (rT2 K rS rI)))))) (x := plan4) 2 rfl (pv 2)) (ja_cons (je_var (r := (rT5 K rS rS rS rI (rD kS (rT2 K rS rI)))) (x := x25) 6 rfl (pv 6)) ja_nil)))))))) (jb_cx (Γ2 := [none, some (.fz ((rBag cp.ab) ())), some (.fz ((rT2 K (rL (rT3 K rS rI rI)) (rL (rT5 K rS rS rS rI (rD kS (rT2 K rS rI))))) plan4)), some (.fz ((r_Cycle K) t15.2)), some (.fz ((rL (rT5 K rS rS rS rI (rD kS (rT2 K rS rI)))) t15.1)), some (.fz (rI late22)), some (.fz ((rT5 K rS rS rS rI (rD kS (rT2 K rS rI))) x25)), none]) (jb_one (js_ret je_bl))) (by repeat' first | exact nn_rt | exact nn_rse | exact nn_ct | exact nn_bk | exact nn_stk | refine nn_if ?_ ?_ | (refine nn_bnd ?_; intro _) | (refine nn_then ?_; intro _)) (jb_cx (Γ2 := [none, some (.fz ((rBag cp.ab) ())), some (.fz ((rT2 K (rL (rT3 K rS rI rI)) (rL (rT5 K rS rS rS rI (rD kS (rT2 K rS rI))))) plan4)), some (.fz ((r_Cycle K) t15.2)), some (.fz ((rL (rT5 K rS rS rS rI (rD kS (rT2 K rS rI)))) t15.1)), some (.fz (rI late22)), some (.fz ((rT5 K rS rS rS rI (rD kS (rT2 K rS rI))) x25)), none]) (jb_ifR (jt_neD (dL dS) (by decide) hu (je_frzL (je_meth z C_Cycle_written_by hr ⟨⟩ T.cl_Cycle so_obj (je_var (r := (r_Cycle K)) (x := t15.2) 3 rfl (pv 3)) (ja_cons (je_t5_0 (je_var (r := (rT5 K rS rS rS rI (rD kS (rT2 K rS rI)))) (x := x25) 6 rfl (pv 6))) ja_nil))) (je_frzL (je_comp (own := [("_law_column", 7)]) z (ji_list (je_frzL (je_call z C_written hr ⟨⟩ (ja_cons (je_var (r := (rT2 K (rL (rT3 K rS rI rI)) (rL (rT5 K rS rS rS rI (rD kS (rT2 K rS rI)))))) (x := plan4) 2 rfl (pv 2)) (ja_cons (je_var (r := (rT5 K rS rS rS rI (rD kS (rT2 K rS rI)))) (x := x25) 6 rfl (pv 6)) ja_nil))))) (fun (x44 : Str × Int × Int) => ret true) (fun (x44 : Str × Int × Int) => bnd (ret x44) fun v45 => ret v45.1) (blkOk_by (N := ["_law_script", "_law_bag_here", "_law_plan_here", "_law_cycle_here", "_law_kinds", "_law_late", "_law_kind", "_law_column"]) (sc := defScope st_law) (by decide +kernel)) (fun _ _ _ _ _ _ _ => by exact (jg_name (i := 7) ((ZOk.blk z)).nd rfl (by first | exact .inl rfl | exact .inr rfl))) (fun _ _ _ _ _ _ _ x44 => jts_nil) (fun _ _ _ _ _ _ _ x44 => (je_t3_0 (je_var (r := (rT3 K rS rI rI)) (x := x44) 7 rfl (pv 7))))))) (jb_cx (Γ2 := [none, some (.fz ((rBag cp.ab) ())), some (.fz ((rT2 K (rL (rT3 K rS rI rI)) (rL (rT5 K rS rS rS rI (rD kS (rT2 K rS rI))))) plan4)), some (.fz ((r_Cycle K) t15.2)), some (.fz ((rL (rT5 K rS rS rS rI (rD kS (rT2 K rS rI)))) t15.1)), some (.fz (rI late22)), some (.fz ((rT5 K rS rS rS rI (rD kS (rT2 K rS rI))) x25)), none]) (jb_one (js_ret je_bl))) (by repeat' first | exact nn_rt | exact nn_rse | exact nn_ct | exact nn_bk | exact nn_stk | refine nn_if ?_ ?_ | (refine nn_bnd ?_; intro _) | (refine nn_then ?_; intro _)) (jb_cx (Γ2 := [none, some (.fz ((rBag cp.ab) ())), some (.fz ((rT2 K (rL (rT3 K rS rI rI)) (rL (rT5 K rS rS rS rI (rD kS (rT2 K rS rI))))) plan4)), some (.fz ((r_Cycle K) t15.2)), some (.fz ((rL (rT5 K rS rS rS rI (rD kS (rT2 K rS rI)))) t15.1)), some (.fz (rI late22)), some (.fz ((rT5 K rS rS rS rI (rD kS (rT2 K rS rI))) x25)), none]) (jb_ifR (jt_neD (dL dS) (by decide) hu (je_frzL (je_meth z C_Cycle_dropped_by hr ⟨⟩ T.cl_Cycle so_obj (je_var (r := (r_Cycle K)) (x := t15.2) 3 rfl (pv 3)) (ja_cons (je_t5_0 (je_var (r := (rT5 K rS rS rS rI (rD kS (rT2 K rS rI)))) (x := x25) 6 rfl (pv 6))) ja_nil))) (je_frzL (je_call z C_dropped hr ⟨⟩ (ja_cons (je_var (r := (rT2 K (rL (rT3 K rS rI rI)) (rL (rT5 K rS rS rS rI (rD kS (rT2 K rS rI)))))) (x := plan4) 2 rfl (pv 2)) (ja_cons (je_var (r := (rT5 K rS rS rS rI (rD kS (rT2 K rS rI)))) (x := x25) 6 rfl (pv 6)) ja_nil))))) (jb_cx (Γ2 := [none, some (.fz ((rBag cp.ab) ())), some (.fz ((rT2 K (rL (rT3 K rS rI rI)) (rL (rT5 K rS rS rS rI (rD kS (rT2 K rS rI))))) plan4)), some (.fz ((r_Cycle K) t15.2)), some (.fz ((rL (rT5 K rS rS rS rI (rD kS (rT2 K rS rI)))) t15.1)), some (.fz (rI late22)), some (.fz ((rT5 K rS rS rS rI (rD kS (rT2 K rS rI))) x25)), none]) (jb_one (js_ret je_bl))) (by repeat' first | exact nn_rt | exact nn_rse | exact nn_ct | exact nn_bk | exact nn_stk | refine nn_if ?_ ?_ | (refine nn_bnd ?_; intro _) | (refine nn_then ?_; intro _)) (jb_cx (Γ2 := [none, some (.fz ((rBag cp.ab) ())), some (.fz ((rT2 K (rL (rT3 K rS rI rI)) (rL (rT5 K rS rS rS rI (rD kS (rT2 K rS rI))))) plan4)), some (.fz ((r_Cycle K) t15.2)), some (.fz ((rL (rT5 K rS rS rS rI (rD kS (rT2 K rS rI)))) t15.1)), some (.fz (rI late22)), some (.fz ((rT5 K rS rS rS rI (rD kS (rT2 K rS rI))) x25)), none]) (jb_nil (t := ()) (Le.none (Le.some (Le.some (Le.some (Le.some (Le.some (Le.none (Le.none Le.nil)))))))))))))))))) (fun t60 => (jb_cx (Γ2 := [none, some (.fz ((rBag cp.ab) ())), some (.fz ((rT2 K (rL (rT3 K rS rI rI)) (rL (rT5 K rS rS rS rI (rD kS (rT2 K rS rI))))) plan4)), some (.fz ((r_Cycle K) t15.2)), some (.fz ((rL (rT5 K rS rS rS rI (rD kS (rT2 K rS rI)))) t15.1)), some (.fz (rI late22)), none, none]) (cut_law_0 cp T C_plan C_cycle C_draw C_turned_moves C_Cycle_dropped_by C_dropped C_Cycle_written_by C_written hr z hu hu1 plan4 t15 late22))))
theorem cut_law_2 {P : Program} {w : World} {K : PySem.W.Frag} {mg : Str → Option Value} {base : Heap} {f : Addr} {cdv : Value} {A : Around} {outer : List Env} {s : Shared} {H : Hp} {E : XK} {Fm : Fm} {S : Type} {R : S → MP Hp} (cp : BagC S R) (T : Txt K mg) (C_plan : FnC P w K mg base "_law_plan" 4 (sp_plan K mg)) (C_cycle : FnC P w K mg base "_law_cycle" 5 (sp_cycle K mg)) (C_draw : FnC P w K mg base "_law_draw" 1 (sp_draw K mg)) (C_turned_moves : FnC P w K mg base "_law_turned_moves" 1 (sp_turned_moves K mg)) (C_Cycle_dropped_by : MtC P w K mg base (He.ga K "Cycle") "dropped_by" 2 (sp_Cycle_dropped_by K mg)) (C_dropped : FnC P w K mg base "_law_dropped" 1 (sp_dropped K mg)) (C_Cycle_written_by : MtC P w K mg base (He.ga K "Cycle") "written_by" 2 (sp_Cycle_written_by K mg)) (C_written : FnC P w K mg base "_law_written" 1 (sp_written K mg)) (hr : Room 5 (A.deeper (envOfC "law" (defScope st_law) s.heap.objs.size f cdv))) (z : ZOk (ZF P w K mg base ["_law_script", "_law_bag_here", "_law_plan_here", "_law_cycle_here", "_law_kinds", "_law_late", "_law_kind", "_law_column"] "law" (defScope st_law) f cdv A outer s H E Fm S R)) (hu : (A.deeper (envOfC "law" (defScope st_law) s.heap.objs.size f cdv)).units + 65 < cLine) (hu1 : (A.deeper (envOfC "law" (defScope st_law) s.heap.objs.size f cdv)).units + 1 < cLine) (plan4 : (List (Str × Int × Int)) × (List (Str × Str × Str × Int × (List (Str × (Str × Int)))))) (t15 : (List (Str × Str × Str × Int × (List (Str × (Str × Int))))) × D_Cycle) (late22 : Int) : JB (ZF P w K mg base ["_law_script", "_law_bag_here", "_law_plan_here", "_law_cycle_here", "_law_kinds", "_law_late", "_law_kind", "_law_column"] "law" (defScope st_law) f cdv A outer s H E Fm S R) [none, some (.fz ((rBag cp.ab) ())), some (.fz ((rT2 K (rL (rT3 K rS rI rI)) (rL (rT5 K rS rS rS rI (rD kS (rT2 K rS rI))))) plan4)), some (.fz ((r_Cycle K) t15.2)), some (.lv ((cL (rT5 K rS rS rS rI (rD kS (rT2 K rS rI)))) t15.1)), some (.fz (rI late22)), none, none] (List.drop 6 (defBody st_law)) (thenB (bnd (bnd (ret t15.1) fun v23 => ret v23) fun v62 => forL (fun (x25 : Str × Str × Str × Int × (List (Str × (Str × Int)))) (t24 : Unit) => bnd (bnd (bnd (ret late22) fun v26 => bnd (ret (1 : Int)) fun v27 => ret (decide (v26 = v27))) fun v35 => if v35 then (bnd (bnd (ret t15.2) fun v30 => bnd (ret ()) fun _ => bnd (bnd (ret x25) fun v28 => ret v28.1) fun v29 => Cycle_dropped_by_m v30 v29) fun v33 => bnd (bnd (ret plan4) fun v31 => bnd (ret x25) fun v32 => dropped_m v31 v32) fun v34 => neM (fun xs => List.all xs PyData.strOk) v33 v34) else ret false) fun v36 => if v36 then (bnd (ret false) fun v37 => ret (.rt v37)) else (bnd (bnd (bnd (ret t15.2) fun v40 => bnd (ret ()) fun _ => bnd (bnd (ret x25) fun v38 => ret v38.1) fun v39 => Cycle_written_by_m v40 v39) fun v47 => bnd (bnd (bnd (bnd (ret plan4) fun v41 => bnd (ret x25) fun v42 => written_m v41 v42) fun v43 => ret v43) fun v46 => compM (fun x44 => ret true) (fun x44 => bnd (ret x44) fun v45 => ret v45.1) v46) fun v48 => neM (fun xs => List.all xs PyData.strOk) v47 v48) fun v49 => if v49 then (bnd (ret false) fun v50 => ret (.rt v50)) else (bnd (bnd (bnd (ret t15.2) fun v53 => bnd (ret ()) fun _ => bnd (bnd (ret x25) fun v51 => ret v51.1) fun v52 => Cycle_dropped_by_m v53 v52) fun v56 => bnd (bnd (ret plan4) fun v54 => bnd (ret x25) fun v55 => dropped_m v54 v55) fun v57 => neM (fun xs => List.all xs PyData.strOk) v56 v57) fun v58 => if v58 then (bnd (ret false) fun v59 => ret (.rt v59)) else (ret (.nx ()))))) v62 ()) fun (t60 : Unit) => bnd (ret true) fun v61 => ret (.rt v61) : M S (Fl Unit Empty Bool)) (fun _ => []) (fun e => nomatch e) (.fz rB) := (jb_frzL (k := 4) rfl (jb_cx (Γ2 := [none, some (.fz ((rBag cp.ab) ())), some (.fz ((rT2 K (rL (rT3 K rS rI rI)) (rL (rT5 K rS rS rS rI (rD kS (rT2 K rS rI))))) plan4)), some (.fz ((r_Cycle K) t15.2)), some (.fz ((rL (rT5 K rS rS rS rI (rD kS (rT2 K rS rI)))) t15.1)), some (.fz (rI late22)), none, none]) (cut_law_1 cp T C_plan C_cycle C_draw C_turned_moves C_Cycle_dropped_by C_dropped C_Cycle_written_by C_written hr z hu hu1 plan4 t15 late22)))
theorem cut_law_3 {P : Program} {w : World} {K : PySem.W.Frag} {mg : Str → Option Value} {base : Heap} {f : Addr} {cdv : Value} {A : Around} {outer : List Env} {s : Shared} {H : Hp} {E : XK} {Fm : Fm} {S : Type} {R : S → MP Hp} (cp : BagC S R) (T : Txt K mg) (C_plan : FnC P w K mg base "_law_plan" 4 (sp_plan K mg)) (C_cycle : FnC P w K mg base "_law_cycle" 5 (sp_cycle K mg)) (C_draw : FnC P w K mg base "_law_draw" 1 (sp_draw K mg)) (C_turned_moves : FnC P w K mg base "_law_turned_moves" 1 (sp_turned_moves K mg)) (C_Cycle_dropped_by : MtC P w K mg base (He.ga K "Cycle") "dropped_by" 2 (sp_Cycle_dropped_by K mg)) (C_dropped : FnC P w K mg base "_law_dropped" 1 (sp_dropped K mg)) (C_Cycle_written_by : MtC P w K mg base (He.ga K "Cycle") "written_by" 2 (sp_Cycle_written_by K mg)) (C_written : FnC P w K mg base "_law_written" 1 (sp_written K mg)) (hr : Room 5 (A.deeper (envOfC "law" (defScope st_law) s.heap.objs.size f cdv))) (z : ZOk (ZF P w K mg base ["_law_script", "_law_bag_here", "_law_plan_here", "_law_cycle_here", "_law_kinds", "_law_late", "_law_kind", "_law_column"] "law" (defScope st_law) f cdv A outer s H E Fm S R)) (hu : (A.deeper (envOfC "law" (defScope st_law) s.heap.objs.size f cdv)).units + 65 < cLine) (hu1 : (A.deeper (envOfC "law" (defScope st_law) s.heap.objs.size f cdv)).units + 1 < cLine) (plan4 : (List (Str × Int × Int)) × (List (Str × Str × Str × Int × (List (Str × (Str × Int)))))) (t15 : (List (Str × Str × Str × Int × (List (Str × (Str × Int))))) × D_Cycle) : JB (ZF P w K mg base ["_law_script", "_law_bag_here", "_law_plan_here", "_law_cycle_here", "_law_kinds", "_law_late", "_law_kind", "_law_column"] "law" (defScope st_law) f cdv A outer s H E Fm S R) [none, some (.fz ((rBag cp.ab) ())), some (.fz ((rT2 K (rL (rT3 K rS rI rI)) (rL (rT5 K rS rS rS rI (rD kS (rT2 K rS rI))))) plan4)), some (.fz ((r_Cycle K) t15.2)), some (.lv ((cL (rT5 K rS rS rS rI (rD kS (rT2 K rS rI)))) t15.1)), none, none, none] (List.drop 5 (defBody st_law)) (bnd (bnd (ret ()) fun v20 => bnd (ret (2 : Int)) fun v21 => draw_m cp.b v21) fun late22 => thenB (bnd (bnd (ret t15.1) fun v23 => ret v23) fun v62 => forL (fun (x25 : Str × Str × Str × Int × (List (Str × (Str × Int)))) (t24 : Unit) => bnd (bnd (bnd (ret late22) fun v26 => bnd (ret (1 : Int)) fun v27 => ret (decide (v26 = v27))) fun v35 => if v35 then (bnd (bnd (ret t15.2) fun v30 => bnd (ret ()) fun _ => bnd (bnd (ret x25) fun v28 => ret v28.1) fun v29 => Cycle_dropped_by_m v30 v29) fun v33 => bnd (bnd (ret plan4) fun v31 => bnd (ret x25) fun v32 => dropped_m v31 v32) fun v34 => neM (fun xs => List.all xs PyData.strOk) v33 v34) else ret false) fun v36 => if v36 then (bnd (ret false) fun v37 => ret (.rt v37)) else (bnd (bnd (bnd (ret t15.2) fun v40 => bnd (ret ()) fun _ => bnd (bnd (ret x25) fun v38 => ret v38.1) fun v39 => Cycle_written_by_m v40 v39) fun v47 => bnd (bnd (bnd (bnd (ret plan4) fun v41 => bnd (ret x25) fun v42 => written_m v41 v42) fun v43 => ret v43) fun v46 => compM (fun x44 => ret true) (fun x44 => bnd (ret x44) fun v45 => ret v45.1) v46) fun v48 => neM (fun xs => List.all xs PyData.strOk) v47 v48) fun v49 => if v49 then (bnd (ret false) fun v50 => ret (.rt v50)) else (bnd (bnd (bnd (ret t15.2) fun v53 => bnd (ret ()) fun _ => bnd (bnd (ret x25) fun v51 => ret v51.1) fun v52 => Cycle_dropped_by_m v53 v52) fun v56 => bnd (bnd (ret plan4) fun v54 => bnd (ret x25) fun v55 => dropped_m v54 v55) fun v57 => neM (fun xs => List.all xs PyData.strOk) v56 v57) fun v58 => if v58 then (bnd (ret false) fun v59 => ret (.rt v59)) else (ret (.nx ()))))) v62 ()) fun (t60 : Unit) => bnd (ret true) fun v61 => ret (.rt v61) : M S (Fl Unit Empty Bool)) (fun _ => []) (fun e => nomatch e) (.fz rB) := (jb_set (i := 5) z rfl (by first | exact .inl rfl | exact .inr rfl) (je_call z C_draw hr cp (ja_cons (je_var (r := rBag cp.ab) (x := ()) 1 rfl (pv 1)) (ja_cons je_int ja_nil))) (fun late22 => (jb_cx (Γ2 := [none, some (.fz ((rBag cp.ab) ())), some (.fz ((rT2 K (rL (rT3 K rS rI rI)) (rL (rT5 K rS rS rS rI (rD kS (rT2 K rS rI))))) plan4)), some (.fz ((r_Cycle K) t15.2)), some (.lv ((cL (rT5 K rS rS rS rI (rD kS (rT2 K rS rI)))) t15.1)), some (.fz (rI late22)), none, none]) (cut_law_2 cp T C_plan C_cycle C_draw C_turned_moves C_Cycle_dropped_by C_dropped C_Cycle_written_by C_written hr z hu hu1 plan4 t15 late22))))
theorem cut_law_4 {P : Program} {w : World} {K : PySem.W.Frag} {mg : Str → Option Value} {base : Heap} {f : Addr} {cdv : Value} {A : Around} {outer : List Env} {s : Shared} {H : Hp} {E : XK} {Fm : Fm} {S : Type} {R : S → MP Hp} (cp : BagC S R) (T : Txt K mg) (C_plan : FnC P w K mg base "_law_plan" 4 (sp_plan K mg)) (C_cycle : FnC P w K mg base "_law_cycle" 5 (sp_cycle K mg)) (C_draw : FnC P w K mg base "_law_draw" 1 (sp_draw K mg)) (C_turned_moves : FnC P w K mg base "_law_turned_moves" 1 (sp_turned_moves K mg)) (C_Cycle_dropped_by : MtC P w K mg base (He.ga K "Cycle") "dropped_by" 2 (sp_Cycle_dropped_by K mg)) (C_dropped : FnC P w K mg base "_law_dropped" 1 (sp_dropped K mg)) (C_Cycle_written_by : MtC P w K mg base (He.ga K "Cycle") "written_by" 2 (sp_Cycle_written_by K mg)) (C_written : FnC P w K mg base "_law_written" 1 (sp_written K mg)) (hr : Room 5 (A.deeper (envOfC "law" (defScope st_law) s.heap.objs.size f cdv))) (z : ZOk (ZF P w K mg base ["_law_script", "_law_bag_here", "_law_plan_here", "_law_cycle_here", "_law_kinds", "_law_late", "_law_kind", "_law_column"] "law" (defScope st_law) f cdv A outer s H E Fm S R)) (hu : (A.deeper (envOfC "law" (defScope st_law) s.heap.objs.size f cdv)).units + 65 < cLine) (hu1 : (A.deeper (envOfC "law" (defScope st_law) s.heap.objs.size f cdv)).units + 1 < cLine) (plan4 : (List (Str × Int × Int)) × (List (Str × Str × Str × Int × (List (Str × (Str × Int)))))) (cycle6 : D_Cycle) (kinds9 : List (Str × Str × Str × Int × (List (Str × (Str × Int))))) : JB (ZF P w K mg base ["_law_script", "_law_bag_here", "_law_plan_here", "_law_cycle_here", "_law_kinds", "_law_late", "_law_kind", "_law_column"] "law" (defScope st_law) f cdv A outer s H E Fm S R) [none, some (.fz ((rBag cp.ab) ())), some (.fz ((rT2 K (rL (rT3 K rS rI rI)) (rL (rT5 K rS rS rS rI (rD kS (rT2 K rS rI))))) plan4)), some (.fz ((r_Cycle K) cycle6)), some (.lv ((cL (rT5 K rS rS rS rI (rD kS (rT2 K rS rI)))) kinds9)), none, none, none] (List.drop 4 (defBody st_law)) (thenB (bnd (bnd (bnd (ret ()) fun v10 => bnd (ret (2 : Int)) fun v11 => draw_m cp.b v11) fun v12 => bnd (ret (1 : Int)) fun v13 => ret (decide (v12 = v13))) fun v14 => if v14 then (bnd (ret (List.reverse kinds9)) fun kinds16 => bnd (bnd (bnd (ret plan4) fun v17 => turned_moves_m v17) fun v18 => cycle_m v18) fun cycle19 => ret (.nx (kinds16, cycle19))) else (ret (.nx (kinds9, cycle6)))) fun (t15 : (List (Str × Str × Str × Int × (List (Str × (Str × Int))))) × D_Cycle) => bnd (bnd (ret ()) fun v20 => bnd (ret (2 : Int)) fun v21 => draw_m cp.b v21) fun late22 => thenB (bnd (bnd (ret t15.1) fun v23 => ret v23) fun v62 => forL (fun (x25 : Str × Str × Str × Int × (List (Str × (Str × Int)))) (t24 : Unit) => bnd (bnd (bnd (ret late22) fun v26 => bnd (ret (1 : Int)) fun v27 => ret (decide (v26 = v27))) fun v35 => if v35 then (bnd (bnd (ret t15.2) fun v30 => bnd (ret ()) fun _ => bnd (bnd (ret x25) fun v28 => ret v28.1) fun v29 => Cycle_dropped_by_m v30 v29) fun v33 => bnd (bnd (ret plan4) fun v31 => bnd (ret x25) fun v32 => dropped_m v31 v32) fun v34 => neM (fun xs => List.all xs PyData.strOk) v33 v34) else ret false) fun v36 => if v36 then (bnd (ret false) fun v37 => ret (.rt v37)) else (bnd (bnd (bnd (ret t15.2) fun v40 => bnd (ret ()) fun _ => bnd (bnd (ret x25) fun v38 => ret v38.1) fun v39 => Cycle_written_by_m v40 v39) fun v47 => bnd (bnd (bnd (bnd (ret plan4) fun v41 => bnd (ret x25) fun v42 => written_m v41 v42) fun v43 => ret v43) fun v46 => compM (fun x44 => ret true) (fun x44 => bnd (ret x44) fun v45 => ret v45.1) v46) fun v48 => neM (fun xs => List.all xs PyData.strOk) v47 v48) fun v49 => if v49 then (bnd (ret false) fun v50 => ret (.rt v50)) else (bnd (bnd (bnd (ret t15.2) fun v53 => bnd (ret ()) fun _ => bnd (bnd (ret x25) fun v51 => ret v51.1) fun v52 => Cycle_dropped_by_m v53 v52) fun v56 => bnd (bnd (ret plan4) fun v54 => bnd (ret x25) fun v55 => dropped_m v54 v55) fun v57 => neM (fun xs => List.all xs PyData.strOk) v56 v57) fun v58 => if v58 then (bnd (ret false) fun v59 => ret (.rt v59)) else (ret (.nx ()))))) v62 ()) fun (t60 : Unit) => bnd (ret true) fun v61 => ret (.rt v61) : M S (Fl Unit Empty Bool)) (fun _ => []) (fun e => nomatch e) (.fz rB) := (jb_seq (Γ1 := fun t15 : (List (Str × Str × Str × Int × (List (Str × (Str × Int))))) × D_Cycle => [none, some (.fz ((rBag cp.ab) ())), some (.fz ((rT2 K (rL (rT3 K rS rI rI)) (rL (rT5 K rS rS rS rI (rD kS (rT2 K rS rI))))) plan4)), some (.fz ((r_Cycle K) t15.2)), some (.lv ((cL (rT5 K rS rS rS rI (rD kS (rT2 K rS rI)))) t15.1)), none, none, none]) (js_if (jt_c c_eqI (je_call z C_draw hr cp (ja_cons (je_var (r := rBag cp.ab) (x := ()) 1 rfl (pv 1)) (ja_cons je_int ja_nil))) je_int) (jb_cx (Γ2 := [none, some (.fz ((rBag cp.ab) ())), some (.fz ((rT2 K (rL (rT3 K rS rI rI)) (rL (rT5 K rS rS rS rI (rD kS (rT2 K rS rI))))) plan4)), some (.fz ((r_Cycle K) cycle6)), some (.lv ((cL (rT5 K rS rS rS rI (rD kS (rT2 K rS rI)))) kinds9)), none, none, none]) (jb_reverse (k := 4) rfl (pv 4) (fun kinds16 => (jb_cx (Γ2 := [none, some (.fz ((rBag cp.ab) ())), some (.fz ((rT2 K (rL (rT3 K rS rI rI)) (rL (rT5 K rS rS rS rI (rD kS (rT2 K rS rI))))) plan4)), some (.fz ((r_Cycle K) cycle6)), some (.lv ((cL (rT5 K rS rS rS rI (rD kS (rT2 K rS rI)))) kinds16)), none, none, none]) (jb_set (i := 3) z rfl (by first | exact .inl rfl | exact .inr rfl) (je_call z C_cycle hr ⟨⟩ (ja_cons (je_call z C_turned_moves hr ⟨⟩ (ja_cons (je_var (r := (rT2 K (rL (rT3 K rS rI rI)) (rL (rT5 K rS rS rS rI (rD kS (rT2 K rS rI)))))) (x := plan4) 2 rfl (pv 2)) ja_nil)) ja_nil)) (fun cycle19 => (jb_cx (Γ2 := [none, some (.fz ((rBag cp.ab) ())), some (.fz ((rT2 K (rL (rT3 K rS rI rI)) (rL (rT5 K rS rS rS rI (rD kS (rT2 K rS rI))))) plan4)), some (.fz ((r_Cycle K) cycle19)), some (.lv ((cL (rT5 K rS rS rS rI (rD kS (rT2 K rS rI)))) kinds16)), none, none, none]) (jb_nil (t := (kinds16, cycle19)) (Le.none (Le.some (Le.some (Le.some (Le.some (Le.none (Le.none (Le.none Le.nil)))))))))))))) (ps_expr (pe_bm0 PySem.F.plainAttrs_list PySem.F.slot_list_reverse PySem.F.type_list_reverse mt_reverse (pv 4))))) (jb_cx (Γ2 := [none, some (.fz ((rBag cp.ab) ())), some (.fz ((rT2 K (rL (rT3 K rS rI rI)) (rL (rT5 K rS rS rS rI (rD kS (rT2 K rS rI))))) plan4)), some (.fz ((r_Cycle K) cycle6)), some (.lv ((cL (rT5 K rS rS rS rI (rD kS (rT2 K rS rI)))) kinds9)), none, none, none]) (jb_nil (t := (kinds9, cycle6)) (Le.none (Le.some (Le.some (Le.some (Le.some (Le.none (Le.none (Le.none Le.nil))))))))))) (fun t15 => (jb_cx (Γ2 := [none, some (.fz ((rBag cp.ab) ())), some (.fz ((rT2 K (rL (rT3 K rS rI rI)) (rL (rT5 K rS rS rS rI (rD kS (rT2 K rS rI))))) plan4)), some (.fz ((r_Cycle K) t15.2)), some (.lv ((cL (rT5 K rS rS rS rI (rD kS (rT2 K rS rI)))) t15.1)), none, none, none]) (cut_law_3 cp T C_plan C_cycle C_draw C_turned_moves C_Cycle_dropped_by C_dropped C_Cycle_written_by C_written hr z hu hu1 plan4 t15))))
theorem cut_law_5 {P : Program} {w : World} {K : PySem.W.Frag} {mg : Str → Option Value} {base : Heap} {f : Addr} {cdv : Value} {A : Around} {outer : List Env} {s : Shared} {H : Hp} {E : XK} {Fm : Fm} {S : Type} {R : S → MP Hp} (cp : BagC S R) (T : Txt K mg) (C_plan : FnC P w K mg base "_law_plan" 4 (sp_plan K mg)) (C_cycle : FnC P w K mg base "_law_cycle" 5 (sp_cycle K mg)) (C_draw : FnC P w K mg base "_law_draw" 1 (sp_draw K mg)) (C_turned_moves : FnC P w K mg base "_law_turned_moves" 1 (sp_turned_moves K mg)) (C_Cycle_dropped_by : MtC P w K mg base (He.ga K "Cycle") "dropped_by" 2 (sp_Cycle_dropped_by K mg)) (C_dropped : FnC P w K mg base "_law_dropped" 1 (sp_dropped K mg)) (C_Cycle_written_by : MtC P w K mg base (He.ga K "Cycle") "written_by" 2 (sp_Cycle_written_by K mg)) (C_written : FnC P w K mg base "_law_written" 1 (sp_written K mg)) (hr : Room 5 (A.deeper (envOfC "law" (defScope st_law) s.heap.objs.size f cdv))) (z : ZOk (ZF P w K mg base ["_law_script", "_law_bag_here", "_law_plan_here", "_law_cycle_here", "_law_kinds", "_law_late", "_law_kind", "_law_column"] "law" (defScope st_law) f cdv A outer s H E Fm S R)) (hu : (A.deeper (envOfC "law" (defScope st_law) s.heap.objs.size f cdv)).units + 65 < cLine) (hu1 : (A.deeper (envOfC "law" (defScope st_law) s.heap.objs.size f cdv)).units + 1 < cLine) (plan4 : (List (Str × Int × Int)) × (List (Str × Str × Str × Int × (List (Str × (Str × Int)))))) (cycle6 : D_Cycle) : JB (ZF P w K mg base ["_law_script", "_law_bag_here", "_law_plan_here", "_law_cycle_here", "_law_kinds", "_law_late", "_law_kind", "_law_column"] "law" (defScope st_law) f cdv A outer s H E Fm S R) [none, some (.fz ((rBag cp.ab) ())), some (.fz ((rT2 K (rL (rT3 K rS rI rI)) (rL (rT5 K rS rS rS rI (rD kS (rT2 K rS rI))))) plan4)), some (.fz ((r_Cycle K) cycle6)), none, none, none, none] (List.drop 3 (defBody st_law)) (bnd (bnd (bnd (ret plan4) fun v7 => ret v7.2) fun v8 => ret v8) fun kinds9 => thenB (bnd (bnd (bnd (ret ()) fun v10 => bnd (ret (2 : Int)) fun v11 => draw_m cp.b v11) fun v12 => bnd (ret (1 : Int)) fun v13 => ret (decide (v12 = v13))) fun v14 => if v14 then (bnd (ret (List.reverse kinds9)) fun kinds16 => bnd (bnd (bnd (ret plan4) fun v17 => turned_moves_m v17) fun v18 => cycle_m v18) fun cycle19 => ret (.nx (kinds16, cycle19))) else (ret (.nx (kinds9, cycle6)))) fun (t15 : (List (Str × Str × Str × Int × (List (Str × (Str × Int))))) × D_Cycle) => bnd (bnd (ret ()) fun v20 => bnd (ret (2 : Int)) fun v21 => draw_m cp.b v21) fun late22 => thenB (bnd (bnd (ret t15.1) fun v23 => ret v23) fun v62 => forL (fun (x25 : Str × Str × Str × Int × (List (Str × (Str × Int)))) (t24 : Unit) => bnd (bnd (bnd (ret late22) fun v26 => bnd (ret (1 : Int)) fun v27 => ret (decide (v26 = v27))) fun v35 => if v35 then (bnd (bnd (ret t15.2) fun v30 => bnd (ret ()) fun _ => bnd (bnd (ret x25) fun v28 => ret v28.1) fun v29 => Cycle_dropped_by_m v30 v29) fun v33 => bnd (bnd (ret plan4) fun v31 => bnd (ret x25) fun v32 => dropped_m v31 v32) fun v34 => neM (fun xs => List.all xs PyData.strOk) v33 v34) else ret false) fun v36 => if v36 then (bnd (ret false) fun v37 => ret (.rt v37)) else (bnd (bnd (bnd (ret t15.2) fun v40 => bnd (ret ()) fun _ => bnd (bnd (ret x25) fun v38 => ret v38.1) fun v39 => Cycle_written_by_m v40 v39) fun v47 => bnd (bnd (bnd (bnd (ret plan4) fun v41 => bnd (ret x25) fun v42 => written_m v41 v42) fun v43 => ret v43) fun v46 => compM (fun x44 => ret true) (fun x44 => bnd (ret x44) fun v45 => ret v45.1) v46) fun v48 => neM (fun xs => List.all xs PyData.strOk) v47 v48) fun v49 => if v49 then (bnd (ret false) fun v50 => ret (.rt v50)) else (bnd (bnd (bnd (ret t15.2) fun v53 => bnd (ret ()) fun _ => bnd (bnd (ret x25) fun v51 => ret v51.1) fun v52 => Cycle_dropped_by_m v53 v52) fun v56 => bnd (bnd (ret plan4) fun v54 => bnd (ret x25) fun v55 => dropped_m v54 v55) fun v57 => neM (fun xs => List.all xs PyData.strOk) v56 v57) fun v58 => if v58 then (bnd (ret false) fun v59 => ret (.rt v59)) else (ret (.nx ()))))) v62 ()) fun (t60 : Unit) => bnd (ret true) fun v61 => ret (.rt v61) : M S (Fl Unit Empty Bool)) (fun _ => []) (fun e => nomatch e) (.fz rB) := (jb_setO (i := 4) z rfl (by first | exact .inl rfl | exact .inr rfl) (je_listL (by rfl) T.f_list (je_t2_1 (je_var (r := (rT2 K (rL (rT3 K rS rI rI)) (rL (rT5 K rS rS rS rI (rD kS (rT2 K rS rI)))))) (x := plan4) 2 rfl (pv 2)))) (fun kinds9 => (jb_cx (Γ2 := [none, some (.fz ((rBag cp.ab) ())), some (.fz ((rT2 K (rL (rT3 K rS rI rI)) (rL (rT5 K rS rS rS rI (rD kS (rT2 K rS rI))))) plan4)), some (.fz ((r_Cycle K) cycle6)), some (.lv ((cL (rT5 K rS rS rS rI (rD kS (rT2 K rS rI)))) kinds9)), none, none, none]) (cut_law_4 cp T C_plan C_cycle C_draw C_turned_moves C_Cycle_dropped_by C_dropped C_Cycle_written_by C_written hr z hu hu1 plan4 cycle6 kinds9))))
theorem cut_law_6 {P : Program} {w : World} {K : PySem.W.Frag} {mg : Str → Option Value} {base : Heap} {f : Addr} {cdv : Value} {A : Around} {outer : List Env} {s : Shared} {H : Hp} {E : XK} {Fm : Fm} {S : Type} {R : S → MP Hp} (cp : BagC S R) (T : Txt K mg) (C_plan : FnC P w K mg base "_law_plan" 4 (sp_plan K mg)) (C_cycle : FnC P w K mg base "_law_cycle" 5 (sp_cycle K mg)) (C_draw : FnC P w K mg base "_law_draw" 1 (sp_draw K mg)) (C_turned_moves : FnC P w K mg base "_law_turned_moves" 1 (sp_turned_moves K mg)) (C_Cycle_dropped_by : MtC P w K mg base (He.ga K "Cycle") "dropped_by" 2 (sp_Cycle_dropped_by K mg)) (C_dropped : FnC P w K mg base "_law_dropped" 1 (sp_dropped K mg)) (C_Cycle_written_by : MtC P w K mg base (He.ga K "Cycle") "written_by" 2 (sp_Cycle_written_by K mg)) (C_written : FnC P w K mg base "_law_written" 1 (sp_written K mg)) (hr : Room 5 (A.deeper (envOfC "law" (defScope st_law) s.heap.objs.size f cdv))) (z : ZOk (ZF P w K mg base ["_law_script", "_law_bag_here", "_law_plan_here", "_law_cycle_here", "_law_kinds", "_law_late", "_law_kind", "_law_column"] "law" (defScope st_law) f cdv A outer s H E Fm S R)) (hu : (A.deeper (envOfC "law" (defScope st_law) s.heap.objs.size f cdv)).units + 65 < cLine) (hu1 : (A.deeper (envOfC "law" (defScope st_law) s.heap.objs.size f cdv)).units + 1 < cLine) (plan4 : (List (Str × Int × Int)) × (List (Str × Str × Str × Int × (List (Str × (Str × Int)))))) : JB (ZF P w K mg base ["_law_script", "_law_bag_here", "_law_plan_here", "_law_cycle_here", "_law_kinds", "_law_late", "_law_kind", "_law_column"] "law" (defScope st_law) f cdv A outer s H E Fm S R) [none, some (.fz ((rBag cp.ab) ())), some (.fz ((rT2 K (rL (rT3 K rS rI rI)) (rL (rT5 K rS rS rS rI (rD kS (rT2 K rS rI))))) plan4)), none, none, none, none, none] (List.drop 2 (defBody st_law)) (bnd (bnd (ret plan4) fun v5 => cycle_m v5) fun cycle6 => bnd (bnd (bnd (ret plan4) fun v7 => ret v7.2) fun v8 => ret v8) fun kinds9 => thenB (bnd (bnd (bnd (ret ()) fun v10 => bnd (ret (2 : Int)) fun v11 => draw_m cp.b v11) fun v12 => bnd (ret (1 : Int)) fun v13 => ret (decide (v12 = v13))) fun v14 => if v14 then (bnd (ret (List.reverse kinds9)) fun kinds16 => bnd (bnd (bnd (ret plan4) fun v17 => turned_moves_m v17) fun v18 => cycle_m v18) fun cycle19 => ret (.nx (kinds16, cycle19))) else (ret (.nx (kinds9, cycle6)))) fun (t15 : (List (Str × Str × Str × Int × (List (Str × (Str × Int))))) × D_Cycle) => bnd (bnd (ret ()) fun v20 => bnd (ret (2 : Int)) fun v21 => draw_m cp.b v21) fun late22 => thenB (bnd (bnd (ret t15.1) fun v23 => ret v23) fun v62 => forL (fun (x25 : Str × Str × Str × Int × (List (Str × (Str × Int)))) (t24 : Unit) => bnd (bnd (bnd (ret late22) fun v26 => bnd (ret (1 : Int)) fun v27 => ret (decide (v26 = v27))) fun v35 => if v35 then (bnd (bnd (ret t15.2) fun v30 => bnd (ret ()) fun _ => bnd (bnd (ret x25) fun v28 => ret v28.1) fun v29 => Cycle_dropped_by_m v30 v29) fun v33 => bnd (bnd (ret plan4) fun v31 => bnd (ret x25) fun v32 => dropped_m v31 v32) fun v34 => neM (fun xs => List.all xs PyData.strOk) v33 v34) else ret false) fun v36 => if v36 then (bnd (ret false) fun v37 => ret (.rt v37)) else (bnd (bnd (bnd (ret t15.2) fun v40 => bnd (ret ()) fun _ => bnd (bnd (ret x25) fun v38 => ret v38.1) fun v39 => Cycle_written_by_m v40 v39) fun v47 => bnd (bnd (bnd (bnd (ret plan4) fun v41 => bnd (ret x25) fun v42 => written_m v41 v42) fun v43 => ret v43) fun v46 => compM (fun x44 => ret true) (fun x44 => bnd (ret x44) fun v45 => ret v45.1) v46) fun v48 => neM (fun xs => List.all xs PyData.strOk) v47 v48) fun v49 => if v49 then (bnd (ret false) fun v50 => ret (.rt v50)) else (bnd (bnd (bnd (ret t15.2) fun v53 => bnd (ret ()) fun _ => bnd (bnd (ret x25) fun v51 => ret v51.1) fun v52 => Cycle_dropped_by_m v53 v52) fun v56 => bnd (bnd (ret plan4) fun v54 => bnd (ret x25) fun v55 => dropped_m v54 v55) fun v57 => neM (fun xs => List.all xs PyData.strOk) v56 v57) fun v58 => if v58 then (bnd (ret false) fun v59 => ret (.rt v59)) else (ret (.nx ()))))) v62 ()) fun (t60 : Unit) => bnd (ret true) fun v61 => ret (.rt v61) : M S (Fl Unit Empty Bool)) (fun _ => []) (fun e => nomatch e) (.fz rB) := (jb_set (i := 3) z rfl (by first | exact .inl rfl | exact .inr rfl) (je_call z C_cycle hr ⟨⟩ (ja_cons (je_var (r := (rT2 K (rL (rT3 K rS rI rI)) (rL (rT5 K rS rS rS rI (rD kS (rT2 K rS rI)))))) (x := plan4) 2 rfl (pv 2)) ja_nil)) (fun cycle6 => (jb_cx (Γ2 := [none, some (.fz ((rBag cp.ab) ())), some (.fz ((rT2 K (rL (rT3 K rS rI rI)) (rL (rT5 K rS rS rS rI (rD kS (rT2 K rS rI))))) plan4)), some (.fz ((r_Cycle K) cycle6)), none, none, none, none]) (cut_law_5 cp T C_plan C_cycle C_draw C_turned_moves C_Cycle_dropped_by C_dropped C_Cycle_written_by C_written hr z hu hu1 plan4 cycle6))))
theorem cut_law_7 {P : Program} {w : World} {K : PySem.W.Frag} {mg : Str → Option Value} {base : Heap} {f : Addr} {cdv : Value} {A : Around} {outer : List Env} {s : Shared} {H : Hp} {E : XK} {Fm : Fm} {S : Type} {R : S → MP Hp} (cp : BagC S R) (T : Txt K mg) (C_plan : FnC P w K mg base "_law_plan" 4 (sp_plan K mg)) (C_cycle : FnC P w K mg base "_law_cycle" 5 (sp_cycle K mg)) (C_draw : FnC P w K mg base "_law_draw" 1 (sp_draw K mg)) (C_turned_moves : FnC P w K mg base "_law_turned_moves" 1 (sp_turned_moves K mg)) (C_Cycle_dropped_by : MtC P w K mg base (He.ga K "Cycle") "dropped_by" 2 (sp_Cycle_dropped_by K mg)) (C_dropped : FnC P w K mg base "_law_dropped" 1 (sp_dropped K mg)) (C_Cycle_written_by : MtC P w K mg base (He.ga K "Cycle") "written_by" 2 (sp_Cycle_written_by K mg)) (C_written : FnC P w K mg base "_law_written" 1 (sp_written K mg)) (hr : Room 5 (A.deeper (envOfC "law" (defScope st_law) s.heap.objs.size f cdv))) (z : ZOk (ZF P w K mg base ["_law_script", "_law_bag_here", "_law_plan_here", "_law_cycle_here", "_law_kinds", "_law_late", "_law_kind", "_law_column"] "law" (defScope st_law) f cdv A outer s H E Fm S R)) (hu : (A.deeper (envOfC "law" (defScope st_law) s.heap.objs.size f cdv)).units + 65 < cLine) (hu1 : (A.deeper (envOfC "law" (defScope st_law) s.heap.objs.size f cdv)).units + 1 < cLine) : JB (ZF P w K mg base ["_law_script", "_law_bag_here", "_law_plan_here", "_law_cycle_here", "_law_kinds", "_law_late", "_law_kind", "_law_column"] "law" (defScope st_law) f cdv A outer s H E Fm S R) [none, some (.fz ((rBag cp.ab) ())), none, none, none, none, none, none] (List.drop 1 (defBody st_law)) (bnd (bnd (ret ()) fun v1 => bnd (ret (6 : Int)) fun v2 => bnd (ret (12 : Int)) fun v3 => plan_m cp.b v2 v3) fun plan4 => bnd (bnd (ret plan4) fun v5 => cycle_m v5) fun cycle6 => bnd (bnd (bnd (ret plan4) fun v7 => ret v7.2) fun v8 => ret v8) fun kinds9 => thenB (bnd (bnd (bnd (ret ()) fun v10 => bnd (ret (2 : Int)) fun v11 => draw_m cp.b v11) fun v12 => bnd (ret (1 : Int)) fun v13 => ret (decide (v12 = v13))) fun v14 => if v14 then (bnd (ret (List.reverse kinds9)) fun kinds16 => bnd (bnd (bnd (ret plan4) fun v17 => turned_moves_m v17) fun v18 => cycle_m v18) fun cycle19 => ret (.nx (kinds16, cycle19))) else (ret (.nx (kinds9, cycle6)))) fun (t15 : (List (Str × Str × Str × Int × (List (Str × (Str × Int))))) × D_Cycle) => bnd (bnd (ret ()) fun v20 => bnd (ret (2 : Int)) fun v21 => draw_m cp.b v21) fun late22 => thenB (bnd (bnd (ret t15.1) fun v23 => ret v23) fun v62 => forL (fun (x25 : Str × Str × Str × Int × (List (Str × (Str × Int)))) (t24 : Unit) => bnd (bnd (bnd (ret late22) fun v26 => bnd (ret (1 : Int)) fun v27 => ret (decide (v26 = v27))) fun v35 => if v35 then (bnd (bnd (ret t15.2) fun v30 => bnd (ret ()) fun _ => bnd (bnd (ret x25) fun v28 => ret v28.1) fun v29 => Cycle_dropped_by_m v30 v29) fun v33 => bnd (bnd (ret plan4) fun v31 => bnd (ret x25) fun v32 => dropped_m v31 v32) fun v34 => neM (fun xs => List.all xs PyData.strOk) v33 v34) else ret false) fun v36 => if v36 then (bnd (ret false) fun v37 => ret (.rt v37)) else (bnd (bnd (bnd (ret t15.2) fun v40 => bnd (ret ()) fun _ => bnd (bnd (ret x25) fun v38 => ret v38.1) fun v39 => Cycle_written_by_m v40 v39) fun v47 => bnd (bnd (bnd (bnd (ret plan4) fun v41 => bnd (ret x25) fun v42 => written_m v41 v42) fun v43 => ret v43) fun v46 => compM (fun x44 => ret true) (fun x44 => bnd (ret x44) fun v45 => ret v45.1) v46) fun v48 => neM (fun xs => List.all xs PyData.strOk) v47 v48) fun v49 => if v49 then (bnd (ret false) fun v50 => ret (.rt v50)) else (bnd (bnd (bnd (ret t15.2) fun v53 => bnd (ret ()) fun _ => bnd (bnd (ret x25) fun v51 => ret v51.1) fun v52 => Cycle_dropped_by_m v53 v52) fun v56 => bnd (bnd (ret plan4) fun v54 => bnd (ret x25) fun v55 => dropped_m v54 v55) fun v57 => neM (fun xs => List.all xs PyData.strOk) v56 v57) fun v58 => if v58 then (bnd (ret false) fun v59 => ret (.rt v59)) else (ret (.nx ()))))) v62 ()) fun (t60 : Unit) => bnd (ret true) fun v61 => ret (.rt v61) : M S (Fl Unit Empty Bool)) (fun _ => []) (fun e => nomatch e) (.fz rB) := (jb_set (i := 2) z rfl (by first | exact .inl rfl | exact .inr rfl) (je_call z C_plan hr cp (ja_cons (je_var (r := rBag cp.ab) (x := ()) 1 rfl (pv 1)) (ja_cons je_int (ja_cons je_int ja_nil)))) (fun plan4 => (jb_cx (Γ2 := [none, some (.fz ((rBag cp.ab) ())), some (.fz ((rT2 K (rL (rT3 K rS rI rI)) (rL (rT5 K rS rS rS rI (rD kS (rT2 K rS rI))))) plan4)), none, none, none, none, none]) (cut_law_6 cp T C_plan C_cycle C_draw C_turned_moves C_Cycle_dropped_by C_dropped C_Cycle_written_by C_written hr z hu hu1 plan4))))
theorem body_law {P : Program} {w : World} {K : PySem.W.Frag} {mg : Str → Option Value} {base : Heap} {f : Addr} {cdv : Value} {A : Around} {outer : List Env} {s : Shared} {H : Hp} {E : XK} {Fm : Fm} {S : Type} {R : S → MP Hp} (cp : BagC S R) (T : Txt K mg) (C_plan : FnC P w K mg base "_law_plan" 4 (sp_plan K mg)) (C_cycle : FnC P w K mg base "_law_cycle" 5 (sp_cycle K mg)) (C_draw : FnC P w K mg base "_law_draw" 1 (sp_draw K mg)) (C_turned_moves : FnC P w K mg base "_law_turned_moves" 1 (sp_turned_moves K mg)) (C_Cycle_dropped_by : MtC P w K mg base (He.ga K "Cycle") "dropped_by" 2 (sp_Cycle_dropped_by K mg)) (C_dropped : FnC P w K mg base "_law_dropped" 1 (sp_dropped K mg)) (C_Cycle_written_by : MtC P w K mg base (He.ga K "Cycle") "written_by" 2 (sp_Cycle_written_by K mg)) (C_written : FnC P w K mg base "_law_written" 1 (sp_written K mg)) (hr : Room 5 (A.deeper (envOfC "law" (defScope st_law) s.heap.objs.size f cdv))) (z : ZOk (ZF P w K mg base ["_law_script", "_law_bag_here", "_law_plan_here", "_law_cycle_here", "_law_kinds", "_law_late", "_law_kind", "_law_column"] "law" (defScope st_law) f cdv A outer s H E Fm S R)) (hu : (A.deeper (envOfC "law" (defScope st_law) s.heap.objs.size f cdv)).units + 65 < cLine) (hu1 : (A.deeper (envOfC "law" (defScope st_law) s.heap.objs.size f cdv)).units + 1 < cLine) : JB (ZF P w K mg base ["_law_script", "_law_bag_here", "_law_plan_here", "_law_cycle_here", "_law_kinds", "_law_late", "_law_kind", "_law_column"] "law" (defScope st_law) f cdv A outer s H E Fm S R) [none, some (.fz ((rBag cp.ab) ())), none, none, none, none, none, none] (List.drop 1 (defBody st_law)) (law_mb cp.b) (fun _ => []) (fun e => nomatch e) (.fz rB) :=
  JB.eq (m := (bnd (bnd (ret ()) fun v1 => bnd (ret (6 : Int)) fun v2 => bnd (ret (12 : Int)) fun v3 => plan_m cp.b v2 v3) fun plan4 => bnd (bnd (ret plan4) fun v5 => cycle_m v5) fun cycle6 => bnd (bnd (bnd (ret plan4) fun v7 => ret v7.2) fun v8 => ret v8) fun kinds9 => thenB (bnd (bnd (bnd (ret ()) fun v10 => bnd (ret (2 : Int)) fun v11 => draw_m cp.b v11) fun v12 => bnd (ret (1 : Int)) fun v13 => ret (decide (v12 = v13))) fun v14 => if v14 then (bnd (ret (List.reverse kinds9)) fun kinds16 => bnd (bnd (bnd (ret plan4) fun v17 => turned_moves_m v17) fun v18 => cycle_m v18) fun cycle19 => ret (.nx (kinds16, cycle19))) else (ret (.nx (kinds9, cycle6)))) fun (t15 : (List (Str × Str × Str × Int × (List (Str × (Str × Int))))) × D_Cycle) => bnd (bnd (ret ()) fun v20 => bnd (ret (2 : Int)) fun v21 => draw_m cp.b v21) fun late22 => thenB (bnd (bnd (ret t15.1) fun v23 => ret v23) fun v62 => forL (fun (x25 : Str × Str × Str × Int × (List (Str × (Str × Int)))) (t24 : Unit) => bnd (bnd (bnd (ret late22) fun v26 => bnd (ret (1 : Int)) fun v27 => ret (decide (v26 = v27))) fun v35 => if v35 then (bnd (bnd (ret t15.2) fun v30 => bnd (ret ()) fun _ => bnd (bnd (ret x25) fun v28 => ret v28.1) fun v29 => Cycle_dropped_by_m v30 v29) fun v33 => bnd (bnd (ret plan4) fun v31 => bnd (ret x25) fun v32 => dropped_m v31 v32) fun v34 => neM (fun xs => List.all xs PyData.strOk) v33 v34) else ret false) fun v36 => if v36 then (bnd (ret false) fun v37 => ret (.rt v37)) else (bnd (bnd (bnd (ret t15.2) fun v40 => bnd (ret ()) fun _ => bnd (bnd (ret x25) fun v38 => ret v38.1) fun v39 => Cycle_written_by_m v40 v39) fun v47 => bnd (bnd (bnd (bnd (ret plan4) fun v41 => bnd (ret x25) fun v42 => written_m v41 v42) fun v43 => ret v43) fun v46 => compM (fun x44 => ret true) (fun x44 => bnd (ret x44) fun v45 => ret v45.1) v46) fun v48 => neM (fun xs => List.all xs PyData.strOk) v47 v48) fun v49 => if v49 then (bnd (ret false) fun v50 => ret (.rt v50)) else (bnd (bnd (bnd (ret t15.2) fun v53 => bnd (ret ()) fun _ => bnd (bnd (ret x25) fun v51 => ret v51.1) fun v52 => Cycle_dropped_by_m v53 v52) fun v56 => bnd (bnd (ret plan4) fun v54 => bnd (ret x25) fun v55 => dropped_m v54 v55) fun v57 => neM (fun xs => List.all xs PyData.strOk) v56 v57) fun v58 => if v58 then (bnd (ret false) fun v59 => ret (.rt v59)) else (ret (.nx ()))))) v62 ()) fun (t60 : Unit) => bnd (ret true) fun v61 => ret (.rt v61) : M S (Fl Unit Empty Bool))) (jb_cx (Γ2 := [none, some (.fz ((rBag cp.ab) ())), none, none, none, none, none, none]) (cut_law_7 cp T C_plan C_cycle C_draw C_turned_moves C_Cycle_dropped_by C_dropped C_Cycle_written_by C_written hr z hu hu1)) (by simp only [ret_bnd, rdM_some, law_mb])
end Lw
namespace Lw
open PySem L2 DL
set_option maxHeartbeats 1000000
/-! ### what is drawn -/
structure NamesOk (ns : List Str) (count : Nat) (words : List Str) : Prop where
  len : ns.length = count
  nd : ns.Nodup
  ok : ∀ n ∈ ns, VName n ∧ (n ∈ words ∨ (sg n).length ≠ 6)
/-- the k-th name, ahead of the last two steps -/
def nmL (st : List Nat) (pl sh : Nat) (lg : Int) (k : Nat) : List Nat := st.take pl ++ [97 + (sh + 7 * k) % 26] ++ st.drop pl ++ (if ((k : Int) % 3 = lg) then [97 + sh] else [])
theorem nmL_len {st : List Nat} {pl sh : Nat} {lg : Int} {k : Nat} (hp : pl ≤ st.length) : (nmL st pl sh lg k).length = st.length + 1 + (if ((k : Int) % 3 = lg) then 1 else 0) := by
  unfold nmL
  by_cases c : (k : Int) % 3 = lg
  · simp only [c, if_true, List.length_append, List.length_take, List.length_drop, List.length_cons, List.length_nil]
    omega
  · simp only [c, if_false, List.length_append, List.length_take, List.length_drop, List.length_cons, List.length_nil]
    omega
theorem nmL_at {st : List Nat} {pl sh : Nat} {lg : Int} {k : Nat} (hp : pl ≤ st.length) : (nmL st pl sh lg k)[pl]? = some (97 + (sh + 7 * k) % 26) := by
  unfold nmL
  have hl : (st.take pl).length = pl := by rw [List.length_take]; omega
  rw [List.append_assoc, List.append_assoc, List.getElem?_append_right (by omega), hl, Nat.sub_self]
  rfl
theorem nmL_lets {st : List Nat} {pl sh : Nat} {lg : Int} {k : Nat} (hs : ∀ c ∈ st, 97 ≤ c ∧ c ≤ 122) (hh : sh < 26) : ∀ c ∈ nmL st pl sh lg k, 97 ≤ c ∧ c ≤ 122 := by
  intro c hc
  unfold nmL at hc
  rcases List.mem_append.mp hc with hc | hc
  · rcases List.mem_append.mp hc with hc | hc
    · rcases List.mem_append.mp hc with hc | hc
      · exact hs c (List.mem_of_mem_take hc)
      · rw [List.mem_singleton] at hc
        omega
    · exact hs c (List.mem_of_mem_drop hc)
  · by_cases z : (k : Int) % 3 = lg
    · rw [if_pos z, List.mem_singleton] at hc
      omega
    · rw [if_neg z] at hc
      cases hc
theorem nmL_ne {st : List Nat} {pl sh : Nat} {lg : Int} {i j : Nat} (hp : pl ≤ st.length) (hij : i < j) (hj : j < 26) {l : List Nat} (h1 : l[pl]? = some (97 + (sh + 7 * i) % 26)) : l ≠ nmL st pl sh lg j := fun z => by
  rw [z, nmL_at hp] at h1
  have := Option.some.inj h1
  omega
theorem name_turn {S : Type} {st : Str} {pl sh : Nat} {lg : Int} {k : Nat} (hst : (sg st).length ≤ 10) (hp : pl ≤ (sg st).length) (hs : sh < 26) {t : List Str} (ht : t.length ≤ 100) :
    (bnd (bnd (bnd (sslM st none (some (pl : Int))) fun v50 => bnd (bnd (bnd (bnd (bnd (mulM (7 : Int) (k : Int)) fun v44 => ret ((sh : Int) + v44)) fun v45 => ret v45) fun v46 => modM v46 (26 : Int)) fun v49 => sgetM ("abcdefghijklmnopqrstuvwxyz" : Str) v49) fun v51 => saddM v50 v51) fun v54 => bnd (sslM st (some (pl : Int)) none) fun v55 => saddM v54 v55) fun name56 => bnd (bnd (bnd (sgetM ("abcdefghijklmnopqrstuvwxyz" : Str) (sh : Int)) fun v66 => bnd (bnd (bnd (modM (k : Int) (3 : Int)) fun v63 => ret (decide (v63 = lg))) fun v65 => ret (if v65 then (1 : Int) else 0)) fun v67 => smulM v66 v67) fun v69 => saddM name56 v69) fun v70 => bnd (appM t v70) fun names57 => ret (.nx names57) : M S (Fl (List Str) (List Str) (List Str))) = ret (.nx (t ++ [mk (nmL (sg st) pl sh lg k)])) := by
  have eL : ("abcdefghijklmnopqrstuvwxyz" : Str) = LET := rfl
  have p0 : (0 : Int) ≤ (pl : Int) := by omega
  have p1 : (pl : Int) ≤ ((sg st).length : Int) := by omega
  rw [sslM_of (by omega), sslM_of (by omega), cut_lo st p0 p1, cut_hi st p0 p1, eL]
  simp only [ret_bnd]
  rw [mulM_of (by decide) (by decide)]
  simp only [ret_bnd]
  rw [modM_of (by decide)]
  simp only [ret_bnd]
  have b0 := Int.emod_nonneg ((sh : Int) + 7 * (k : Int)) (show (26 : Int) ≠ 0 by decide)
  have b1 := Int.emod_lt_of_pos ((sh : Int) + 7 * (k : Int)) (show (0 : Int) < 26 by decide)
  rw [sget_LET b0 b1]
  simp only [ret_bnd]
  rw [sadd_of (by simp only [sg_mk, List.length_take, List.length_cons, List.length_nil]; omega)]
  simp only [ret_bnd, sg_mk]
  rw [sadd_of (by simp only [sg_mk, List.length_append, List.length_take, List.length_drop, List.length_cons, List.length_nil]; omega)]
  simp only [ret_bnd, sg_mk]
  rw [sget_LET (by omega) (by omega), modM_of (by decide)]
  simp only [ret_bnd]
  have en : ((sh : Int) + 7 * (k : Int)) % 26 = (((sh + 7 * k) % 26 : Nat) : Int) := by omega
  have en2 : (((sh : Int) + 7 * (k : Int)) % 26).toNat = (sh + 7 * k) % 26 := by rw [en]; omega
  have fin : ∀ (ex : List Nat), ex.length ≤ 1 → ex = (if ((k : Int) % 3 = lg) then [97 + sh] else []) →
      (bnd (saddM (mk (List.take (pl : Int).toNat (sg st) ++ [97 + (((sh : Int) + 7 * (k : Int)) % 26).toNat] ++ List.drop (pl : Int).toNat (sg st))) (mk ex)) fun v70 => bnd (appM t v70) fun names57 => ret (.nx names57) : M S (Fl (List Str) (List Str) (List Str))) = ret (.nx (t ++ [mk (nmL (sg st) pl sh lg k)])) := by
    intro ex hx e
    rw [sadd_of (by simp only [sg_mk, List.length_append, List.length_take, List.length_drop, List.length_cons, List.length_nil]; omega)]
    simp only [ret_bnd, sg_mk]
    rw [appM_of (by omega)]
    simp only [ret_bnd]
    unfold nmL
    rw [← e, en2, Int.toNat_natCast]
  by_cases c : (k : Int) % 3 = lg
  · rw [decide_eq_true c]
    have e1 : (smulM (mk [97 + (sh : Int).toNat]) (if true = true then (1 : Int) else 0) : M S Str) = ret (mk [97 + sh]) := rfl
    rw [e1]
    simp only [ret_bnd]
    exact fin [97 + sh] (by simp) (by rw [if_pos c])
  · rw [decide_eq_false c]
    have e1 : (smulM (mk [97 + (sh : Int).toNat]) (if false = true then (1 : Int) else 0) : M S Str) = ret (mk []) := rfl
    rw [e1]
    simp only [ret_bnd]
    exact fin [] (by simp) (by rw [if_neg c])
theorem flat_len : ∀ {ys : List Str}, (∀ y ∈ ys, (sg y).length = 1) → ((ys.map sg).flatten).length = ys.length
  | [], _ => rfl
  | y :: ys, h => by
    rw [List.map_cons, List.flatten_cons, List.length_append, h y List.mem_cons_self, flat_len fun z hz => h z (List.mem_cons_of_mem _ hz), List.length_cons]
    omega
theorem gv_names {count : Int} {words : List Str} (h1 : 1 ≤ count) (h2 : count ≤ 20) (hw : ∀ w ∈ words, VName w) (hw0 : 0 < words.length) (hwl : words.length < 1000) : Gv (names_m bagI count words) fun ns => NamesOk ns count.toNat words := by
  unfold names_m
  refine gv_run ?_
  unfold names_mb
  refine gv_on (gv_on (gv_draw (by decide) (by decide) fun d d0 d1 => gv_at d0 (by simpa using d1) fun size hsz => ?_))
  have hsize : size = 0 ∨ size = 1 ∨ size = 2 ∨ size = 3 ∨ size = 10 := by simpa using hsz
  -- the stem
  refine gv_bnd (P := fun (st : Str) => (sg st).length = size.toNat ∧ Lets st) ?_ fun st ⟨hl, hlt⟩ => ?_
  · rw [rangeM_of (by omega) (by omega)]
    simp only [ret_bnd]
    refine gv_bnd (gv_compA (P := fun y => (sg y).length = 1 ∧ Lets y) (by rw [List.length_map, List.length_range, sline]; omega) fun x _ => ?_) fun ys ⟨hyl, hys⟩ => ?_
    · refine gv_on (gv_draw (by decide) (by decide) fun d d0 d1 => ?_)
      rw [show ("abcdefghijklmnopqrstuvwxyz" : Str) = LET from rfl, sget_LET d0 d1]
      exact gv_ret ⟨rfl, fun c hc => by
        rw [sg_mk, List.mem_singleton] at hc
        omega⟩
    · rw [List.length_map, List.length_range] at hyl
      rw [joinM_of (fun y hy => (hys y hy).1) (by omega)]
      refine gv_ret ⟨?_, fun c hc => ?_⟩
      · rw [sg_mk, ← hyl]
        exact flat_len fun y hy => (hys y hy).1
      · rw [sg_mk] at hc
        obtain ⟨l, hl, hcl⟩ := List.mem_flatten.mp hc
        obtain ⟨y, hy, rfl⟩ := List.mem_map.mp hl
        exact (hys y hy).2 c hcl
  -- place, shift, longer
  refine gv_on (gv_draw (by omega) (by omega) fun place p0 p1 => ?_)
  refine gv_on (gv_draw (by decide) (by decide) fun shift s0 s1 => ?_)
  refine gv_on (gv_draw (by decide) (by decide) fun longer l0 l1 => ?_)
  obtain ⟨pl, rfl⟩ := Int.eq_ofNat_of_zero_le p0
  obtain ⟨sh, rfl⟩ := Int.eq_ofNat_of_zero_le s0
  obtain ⟨cn, rfl⟩ := Int.eq_ofNat_of_zero_le (show 0 ≤ count by omega)
  have hpl : pl ≤ (sg st).length := by omega
  have hsh : sh < 26 := by omega
  rw [rangeM_of (by omega) (by omega), Int.toNat_natCast]
  simp only [ret_bnd]
  have hst10 : (sg st).length ≤ 10 := by omega
  refine gv_then (P := fun t => t = (List.range cn).map fun k => mk (nmL (sg st) pl sh longer k)) ?_ fun t ht => ?_
  · refine (gv_for (fun pre t => ∃ n, pre = (List.range n).map (fun (i : Nat) => (i : Int)) ∧ t = (List.range n).map fun k => mk (nmL (sg st) pl sh longer k)) ⟨0, rfl, rfl⟩ ?_).imp ?_
    · rintro pre x post t e ⟨n, hpre, rfl⟩
      have hn : pre.length = n := by rw [hpre, List.length_map, List.length_range]
      have hx : ((List.range cn).map (fun (i : Nat) => (i : Int)))[n]? = some x := by
        rw [e, List.getElem?_append_right (by omega), hn, Nat.sub_self]
        rfl
      have hnc : n < cn := by
        have := (List.getElem?_eq_some_iff.mp hx).1
        rw [List.length_map, List.length_range] at this
        exact this
      rw [List.getElem?_map, List.getElem?_range hnc] at hx
      have hx : ((n : Nat) : Int) = x := Option.some.inj hx
      subst hx
      rw [name_turn hst10 hpl hsh (by rw [List.length_map, List.length_range]; omega)]
      exact gv_nx ⟨n + 1, by rw [hpre, List.range_succ, List.map_append]; rfl, by rw [List.range_succ, List.map_append]; rfl⟩
    · rintro fl ⟨t, rfl, n, e, rfl⟩
      have := congrArg List.length e
      rw [List.length_map, List.length_range, List.length_map, List.length_range] at this
      rw [this]
      exact ⟨_, rfl, rfl⟩
  subst ht
  let L : List Str := (List.range cn).map fun k => mk (nmL (sg st) pl sh longer k)
  have hLl : L.length = cn := by show ((List.range cn).map _).length = cn; rw [List.length_map, List.length_range]
  have hLat : ∀ k, k < cn → L[k]? = some (mk (nmL (sg st) pl sh longer k)) := fun k hk => by
    show ((List.range cn).map _)[k]? = _
    rw [List.getElem?_map, List.getElem?_range hk]
    rfl
  have hLat' : ∀ k y, L[k]? = some y → k < cn ∧ y = mk (nmL (sg st) pl sh longer k) := fun k y h => by
    have hk : k < cn := by
      have := (List.getElem?_eq_some_iff.mp h).1
      omega
    rw [hLat k hk] at h
    exact ⟨hk, (Option.some.inj h).symm⟩
  -- the second name
  refine gv_then (P := fun t => t.length = cn ∧ t.Nodup ∧ ∀ n ∈ t, VName n ∧ (sg n).length ≠ 6) ?_ fun t ⟨tl, tn, tk⟩ => ?_
  · have base : L.length = cn ∧ L.Nodup ∧ ∀ n ∈ L, VName n ∧ (sg n).length ≠ 6 := by
      refine ⟨hLl, nd_ix fun i j x y hij e1 e2 => ?_, fun n hn => ?_⟩
      · obtain ⟨_, rfl⟩ := hLat' i x e1
        obtain ⟨hj, rfl⟩ := hLat' j y e2
        intro z
        exact nmL_ne hpl hij (by omega) (nmL_at hpl) (by have := congrArg sg z; rw [sg_mk, sg_mk] at this; exact this)
      · obtain ⟨k, hk⟩ := List.mem_iff_getElem?.mp hn
        obtain ⟨_, rfl⟩ := hLat' k n hk
        have hln := nmL_len (st := sg st) (sh := sh) (lg := longer) (k := k) hpl
        have hlim : (if ((k : Int) % 3 = longer) then 1 else 0) ≤ 1 := by split <;> omega
        refine ⟨⟨by rw [sg_mk]; omega, by rw [sg_mk]; omega, fun c hc => nmL_lets hlt hsh c (by rw [sg_mk] at hc; exact hc)⟩, ?_⟩
        rw [sg_mk]
        omega
    refine gv_bnd (P := fun c => c = true → 1 < cn ∧ size < 4 ∧ longer = 3) ?_ fun c hc => ?_
    · refine gv_ite (fun e => ?_) fun _ => gv_ret (fun z => by cases z)
      refine gv_ite (fun e2 => ?_) fun _ => gv_ret (fun z => by cases z)
      have e := of_decide_eq_true e
      have e2 := of_decide_eq_true e2
      exact gv_ret fun z => ⟨by omega, e2, of_decide_eq_true z⟩
    · refine gv_ite (fun e => ?_) fun _ => gv_nx base
      obtain ⟨c1, c2, c3⟩ := hc e
      rw [show atI L (0 : Int) = some (mk (nmL (sg st) pl sh longer 0)) from by rw [atI_lt (by omega) (by omega)]; exact hLat 0 (by omega)]
      simp only [opt_some, ret_bnd]
      refine gv_on (gv_on (gv_on (gv_draw (by decide) (by decide) fun d d0 d1 => ?_)))
      rw [show ("abcdefghijklmnopqrstuvwxyz" : Str) = LET from rfl, sget_LET d0 d1]
      refine gv_ret ?_
      have hl0 := nmL_len (st := sg st) (sh := sh) (lg := longer) (k := 0) hpl
      rw [if_neg (by omega)] at hl0
      rw [sadd_of (by simp only [sg_mk, hl0, List.length_cons, List.length_nil]; omega)]
      refine gv_ret ?_
      rw [setM_of (by omega) (by show (1 : Int) < (L.length : Int); omega)]
      simp only [ret_bnd, sg_mk]
      refine gv_nx ⟨by rw [List.length_set]; exact hLl, nd_ix fun i j x y hij e1 e2 => ?_, fun n hn => ?_⟩
      · rcases set_at e1 with ⟨h1, z1⟩ | ⟨h1, z1⟩
        · have h1 : i = 1 := h1
          rcases set_at e2 with ⟨h2, z2⟩ | ⟨h2, z2⟩
          · have h2 : j = 1 := h2
            omega
          · obtain ⟨hj, rfl⟩ := hLat' j y z2
            rw [← z1]
            intro z
            have z := congrArg sg z
            rw [sg_mk, sg_mk] at z
            have h0 : (nmL (sg st) pl sh longer 0 ++ [97 + d.toNat])[pl]? = some (97 + (sh + 7 * 0) % 26) := by
              rw [List.getElem?_append_left (by omega)]
              exact nmL_at hpl
            exact nmL_ne hpl (by omega : 0 < j) (by omega) h0 z
        · obtain ⟨hi, rfl⟩ := hLat' i x z1
          rcases set_at e2 with ⟨h2, z2⟩ | ⟨h2, z2⟩
          · have h2 : j = 1 := h2
            have : i = 0 := by omega
            subst this
            rw [← z2]
            intro z
            have z := congrArg (fun q => (sg q).length) z
            simp only [sg_mk, List.length_append, List.length_cons, List.length_nil] at z
            omega
          · obtain ⟨hj, rfl⟩ := hLat' j y z2
            intro z
            exact nmL_ne hpl hij (by omega) (nmL_at hpl) (by have := congrArg sg z; rw [sg_mk, sg_mk] at this; exact this)
      · rcases mem_set hn with rfl | hn
        · refine ⟨⟨by simp only [sg_mk, List.length_append, List.length_cons, List.length_nil]; omega, by simp only [sg_mk, List.length_append, List.length_cons, List.length_nil]; omega, fun c hc => ?_⟩, by simp only [sg_mk, List.length_append, List.length_cons, List.length_nil]; omega⟩
          rw [sg_mk] at hc
          rcases List.mem_append.mp hc with hc | hc
          · exact nmL_lets hlt hsh c hc
          · rw [List.mem_singleton] at hc
            omega
        · exact base.2.2 n hn
  -- a word
  rw [mulM_of (by decide) (by decide)]
  simp only [ret_bnd]
  refine gv_on (gv_draw (by omega) (by omega) fun spot q0 q1 => ?_)
  refine gv_on (gv_on (gv_draw (by omega) (by omega) fun wd w0 w1 => gv_at w0 w1 fun word hword => ?_))
  have fin : NamesOk t cn words := ⟨tl, tn, fun n hn => ⟨(tk n hn).1, .inr (tk n hn).2⟩⟩
  refine gv_then (P := fun t => NamesOk t cn words) ?_ fun t ht => gv_rt ht
  refine gv_bnd (P := fun c => c = true → spot < cn ∧ word ∉ t) ?_ fun c hc => ?_
  · refine gv_ite (fun e => ?_) fun _ => gv_ret (fun z => by cases z)
    refine gv_ret fun z => ⟨of_decide_eq_true e, fun m => ?_⟩
    rw [decide_eq_true m] at z
    cases z
  · refine gv_ite (fun e => ?_) fun _ => gv_nx fin
    obtain ⟨c1, c2⟩ := hc e
    rw [setM_of q0 (by omega)]
    simp only [ret_bnd]
    refine gv_nx ⟨by rw [List.length_set]; exact tl, nd_set tn c2 _, fun n hn => ?_⟩
    rcases mem_set hn with rfl | hn
    · exact ⟨hw _ hword, .inl hword⟩
    · exact fin.ok n hn
theorem gv_ring : Gv (ring_m bagI) fun r => r = 0 ∨ (2 ≤ r ∧ r ≤ 1000) := by
  unfold ring_m
  refine gv_run ?_
  unfold ring_mb
  refine gv_bnd (P := fun r => r = 0 ∨ (2 ≤ r ∧ r ≤ 1000)) ?_ fun r hr => gv_rt hr
  refine gv_on (gv_on (gv_draw (by decide) (by decide) fun d d0 d1 => gv_ret ?_))
  refine gv_ite (fun _ => ?_) fun _ => ?_
  · exact gv_on (gv_draw (by decide) (by decide) fun d d0 d1 => gv_ret (.inr ⟨by omega, by omega⟩))
  · refine gv_on (gv_draw (by decide) (by decide) fun d d0 d1 => gv_at d0 (by simpa using d1) fun z hz => ?_)
    have hz : z = 0 ∨ z = 0 ∨ z = 2 ∨ z = 3 ∨ z = 10 := by simpa using hz
    omega
theorem gv_size : Gv (size_m bagI) fun w => 1 ≤ w ∧ w ≤ 1000 := by
  unfold size_m
  refine gv_run ?_
  unfold size_mb
  refine gv_bnd (P := fun w => 1 ≤ w ∧ w ≤ 1000) ?_ fun r hr => gv_rt hr
  refine gv_on (gv_on (gv_on (gv_on (gv_draw (by decide) (by decide) fun d d0 d1 => ?_))))
  rw [fdivM_of (by decide) (by decide)]
  refine gv_ret (gv_at (by omega) (by show d / 7 < 2; omega) fun z hz => ?_)
  have hz : z = 8 ∨ z = 1000 := by simpa using hz
  exact gv_draw (by omega) (by omega) fun d d0 d1 => gv_ret ⟨by omega, by omega⟩
structure ColOk (c : Str × Int × Int) : Prop where
  nm : VName c.1
  w0 : 1 ≤ c.2.1
  w1 : c.2.1 ≤ 1000
  md : c.2.2 = 0 ∨ (2 ≤ c.2.2 ∧ c.2.2 ≤ 1000)
structure ColsOk (cs : List (Str × Int × Int)) (most : Nat) : Prop where
  l0 : 1 ≤ cs.length
  l1 : cs.length ≤ most
  nd : (cs.map (·.1)).Nodup
  ok : ∀ c ∈ cs, ColOk c
theorem words_c : ∀ w ∈ [("before" : Str), ("after" : Str), ("absent" : Str), ("carry" : Str)], VName w := by
  have h : ([("before" : Str), ("after" : Str), ("absent" : Str), ("carry" : Str)].all fun w => decide (1 ≤ (sg w).length) && decide ((sg w).length ≤ 12) && (sg w).all fun c => decide (97 ≤ c) && decide (c ≤ 122)) = true := by decide +kernel
  intro w hw
  have z := List.all_eq_true.mp h w hw
  simp only [Bool.and_eq_true, decide_eq_true_eq, List.all_eq_true] at z
  exact ⟨z.1.1, z.1.2, z.2⟩
theorem words_s : ∀ w ∈ [("write" : Str), ("drop" : Str), ("before" : Str), ("after" : Str)], VName w := by
  have h : ([("write" : Str), ("drop" : Str), ("before" : Str), ("after" : Str)].all fun w => decide (1 ≤ (sg w).length) && decide ((sg w).length ≤ 12) && (sg w).all fun c => decide (97 ≤ c) && decide (c ≤ 122)) = true := by decide +kernel
  intro w hw
  have z := List.all_eq_true.mp h w hw
  simp only [Bool.and_eq_true, decide_eq_true_eq, List.all_eq_true] at z
  exact ⟨z.1.1, z.1.2, z.2⟩
theorem words_k : ∀ w ∈ [("write" : Str), ("before" : Str), ("absent" : Str), ("drop" : Str)], VName w := by
  have h : ([("write" : Str), ("before" : Str), ("absent" : Str), ("drop" : Str)].all fun w => decide (1 ≤ (sg w).length) && decide ((sg w).length ≤ 12) && (sg w).all fun c => decide (97 ≤ c) && decide (c ≤ 122)) = true := by decide +kernel
  intro w hw
  have z := List.all_eq_true.mp h w hw
  simp only [Bool.and_eq_true, decide_eq_true_eq, List.all_eq_true] at z
  exact ⟨z.1.1, z.1.2, z.2⟩
theorem absent_v : VName ("absent" : Str) := words_c _ (by simp)
theorem absent_l : (sg ("absent" : Str)).length = 6 := by decide +kernel
theorem gv_columns {most : Int} (h1 : 1 ≤ most) (h2 : most ≤ 20) : Gv (columns_m bagI most) fun cs => ColsOk cs most.toNat := by
  unfold columns_m
  refine gv_run ?_
  unfold columns_mb
  refine gv_on (gv_on (gv_on (gv_draw (by omega) (by omega) fun d d0 d1 => gv_ret ?_)))
  refine (gv_names (by omega) (by omega) words_c (by simp) (by simp)).imp fun ns hns => ?_
  refine gv_bnd gv_ring fun ring hring => ?_
  refine gv_then (P := fun cs => ColsOk cs most.toNat) ?_ fun cs hcs => gv_rt hcs
  refine (gv_for (fun pre t => t.map (·.1) = pre ∧ ∀ c ∈ t, ColOk c) ⟨rfl, fun c hc => by cases hc⟩ ?_).imp ?_
  · rintro pre x post t e ⟨ht, hok⟩
    have hx : x ∈ ns := by rw [e]; simp
    have hlen : t.length ≤ 100 := by
      have l1 := congrArg List.length ht
      have l2 := congrArg List.length e
      rw [List.length_map] at l1
      rw [List.length_append, List.length_cons, hns.len] at l2
      omega
    refine gv_bnd (P := fun r => r = 0 ∨ (2 ≤ r ∧ r ≤ 1000)) ?_ fun other ho => ?_
    · refine gv_on (gv_on (gv_draw (by decide) (by decide) fun d d0 d1 => gv_ret ?_))
      exact gv_ite (fun _ => gv_ring) fun _ => gv_ret hring
    · refine gv_on (gv_bnd gv_size fun w hw => gv_ret ?_)
      rw [appM_of (by omega), ret_bnd]
      refine gv_nx ⟨by rw [List.map_append, ht]; rfl, fun c hc => ?_⟩
      rcases List.mem_append.mp hc with hc | hc
      · exact hok c hc
      · rw [List.mem_singleton] at hc
        subst hc
        exact ⟨(hns.ok x hx).1, hw.1, hw.2, ho⟩
  · rintro fl ⟨t, rfl, ht, hok⟩
    have l1 := congrArg List.length ht
    rw [List.length_map, hns.len] at l1
    exact ⟨t, rfl, by omega, by omega, by rw [ht]; exact hns.nd, hok⟩
abbrev Mov := List (Str × (Str × Int))
structure MovOk (cs : List (Str × Int × Int)) (mv : Mov) : Prop where
  nd : (mv.map (·.1)).Nodup
  nd2 : (mv.map (·.2.1)).Nodup
  len : mv.length ≤ cs.length
  ok : ∀ q ∈ mv, -1000000 ≤ q.2.2 ∧ q.2.2 ≤ 1000000 ∧ ∃ c ∈ cs, ∃ o ∈ cs, c.1 = q.1 ∧ o.1 = q.2.1 ∧ c.2.2 = o.2.2
theorem movOk_nil {cs : List (Str × Int × Int)} : MovOk cs [] := ⟨by simp, by simp, Nat.zero_le _, fun q hq => by cases hq⟩
theorem strOk_v {x : Str} (h : VName x) : PyData.strOk x = true := by
  unfold PyData.strOk
  rw [← Array.all_toList]
  exact List.all_eq_true.mpr fun c hc => decide_eq_true (by have := h.le c hc; omega)
theorem neM_of {S : Type} {xs ys : List Str} (h1 : ∀ x ∈ xs, VName x) (h2 : ∀ y ∈ ys, VName y) : (neM (fun xs => List.all xs PyData.strOk) xs ys : M S Bool) = ret (!decide (xs = ys)) := by
  unfold neM
  have e1 : xs.all PyData.strOk = true := List.all_eq_true.mpr fun x hx => strOk_v (h1 x hx)
  have e2 : ys.all PyData.strOk = true := List.all_eq_true.mpr fun x hx => strOk_v (h2 x hx)
  dsimp only
  rw [e1, e2]
  rfl
theorem erase_nd {α : Type} [DecidableEq α] {l : List α} (nd : l.Nodup) {x : α} : x ∉ l.erase x := fun h => by
  have := (List.Nodup.mem_erase_iff nd).mp h
  exact this.1 rfl
theorem gv_moved {cs : List (Str × Int × Int)} {most : Nat} (hm : most ≤ 20) (hc : ColsOk cs most) : Gv (moved_m bagI cs) fun mv => MovOk cs mv := by
  have hl1 := hc.l1
  have hlen : cs.length ≤ sizeLine := by rw [sline]; omega
  unfold moved_m
  refine gv_run ?_
  unfold moved_mb
  rw [compM_all (g := fun c : Str × Int × Int => c.1) hlen fun x _ => rfl, ret_bnd]
  refine gv_then (P := fun t => MovOk cs t.1) ?_ fun t ht => gv_rt ht
  refine (gv_for (fun pre t => (∀ k ∈ t.1.map (·.1), k ∈ pre.map (·.1)) ∧ t.1.length ≤ pre.length ∧ MovOk cs t.1 ∧ t.2.Nodup ∧ (∀ f ∈ t.2, f ∈ cs.map (·.1)) ∧ ∀ f ∈ t.2, f ∉ t.1.map (·.2.1)) ⟨fun k hk => (by cases hk), Nat.le_refl _, movOk_nil, hc.nd, fun f hf => hf, fun f hf h => (by cases h)⟩ ?_).imp ?_
  · rintro pre x post ⟨mv, fr⟩ e ⟨ik, il, im, ifn, ifc, ifo⟩
    have il : mv.length ≤ pre.length := il
    have hx : x ∈ cs := by rw [e]; simp
    have hxn : x.1 ∉ mv.map (·.1) := fun h => by
      have h := ik _ h
      have nd := hc.nd
      rw [e, List.map_append, List.map_cons] at nd
      have z := (List.nodup_append.mp nd).2.2 _ h x.1 List.mem_cons_self
      exact z rfl
    have hpl : pre.length < cs.length := by
      have := congrArg List.length e
      rw [List.length_append, List.length_cons] at this
      omega
    refine gv_on (gv_draw (by decide) (by decide) fun choice d0 d1 => ?_)
    rw [compM_ret (c := fun y : Str × Int × Int => decide (y.1 ∈ fr) && decide (y.2.2 = x.2.2)) (g := fun y => y.1) hlen (fun y _ => by
      by_cases z : y.1 ∈ fr
      · simp only [z, decide_true, if_true, Bool.true_and]
      · simp only [z, decide_false, Bool.false_and]
        rfl) fun y _ _ => rfl, ret_bnd]
    obtain ⟨tk, etk⟩ : ∃ tk, (cs.filter fun y : Str × Int × Int => decide (y.1 ∈ fr) && decide (y.2.2 = x.2.2)).map (fun y => y.1) = tk := ⟨_, rfl⟩
    rw [etk]
    have htk : ∀ o ∈ tk, o ∈ fr ∧ ∃ co ∈ cs, co.1 = o ∧ x.2.2 = co.2.2 := fun o ho => by
      rw [← etk] at ho
      obtain ⟨co, h1, h2⟩ := List.mem_map.mp ho
      obtain ⟨h3, h4⟩ := List.mem_filter.mp h1
      rw [Bool.and_eq_true_iff] at h4
      subst h2
      exact ⟨of_decide_eq_true h4.1, co, h3, rfl, (of_decide_eq_true h4.2).symm⟩
    have htv : ∀ o ∈ tk, VName o := fun o ho => by
      obtain ⟨_, co, h1, h2, _⟩ := htk o ho
      rw [← h2]
      exact (hc.ok co h1).nm
    have htl : tk.length ≤ 20 := by
      rw [← etk, List.length_map]
      have := List.length_filter_le (fun y : Str × Int × Int => decide (y.1 ∈ fr) && decide (y.2.2 = x.2.2)) cs
      omega
    have stay : (∀ k ∈ mv.map (·.1), k ∈ (pre ++ [x]).map (·.1)) ∧ mv.length ≤ (pre ++ [x]).length ∧ MovOk cs mv ∧ fr.Nodup ∧ (∀ f ∈ fr, f ∈ cs.map (·.1)) ∧ ∀ f ∈ fr, f ∉ mv.map (·.2.1) :=
      ⟨fun k hk => by rw [List.map_append]; exact List.mem_append_left _ (ik k hk), by rw [List.length_append]; omega, im, ifn, ifc, ifo⟩
    refine gv_bnd (P := fun c => c = true → tk ≠ []) ?_ fun c hcc => ?_
    · refine gv_ite (fun _ => ?_) fun _ => gv_ret fun z => by cases z
      rw [neM_of htv fun y hy => by cases hy]
      refine gv_ret fun z => ?_
      intro z2
      rw [decide_eq_true z2] at z
      cases z
    · refine gv_ite (fun ec => ?_) fun _ => gv_nx stay
      have htk0 : 0 < tk.length := List.length_pos_iff.mpr (hcc ec)
      refine gv_on (gv_on (gv_draw (by omega) (by omega) fun d e0 e1 => gv_at e0 e1 fun o ho => ?_))
      refine gv_then (P := fun o => o ∈ tk) ?_ fun o ho => ?_
      · refine gv_bnd (P := fun c => c = true → x.1 ∈ tk) ?_ fun c h => ?_
        · exact gv_ite (fun _ => gv_ret fun z => of_decide_eq_true z) fun _ => gv_ret fun z => by cases z
        · exact gv_ite (fun ec => gv_nx (h ec)) fun _ => gv_nx ho
      · refine gv_on (gv_on (gv_draw (by decide) (by decide) fun d e0 e1 => gv_ret ?_))
        refine gv_bnd (P := fun am => -1000000 ≤ am ∧ am ≤ 1000000) ?_ fun am ham => ?_
        · refine gv_ite (fun _ => ?_) fun _ => ?_
          · exact gv_on (gv_draw (by decide) (by decide) fun d e0 e1 => gv_ret ⟨by omega, by omega⟩)
          · refine gv_on (gv_draw (by decide) (by decide) fun d e0 e1 => gv_at e0 (by simpa using e1) fun z hz => ?_)
            have hz : z = 0 ∨ z = 0 ∨ z = 1 ∨ z = -1 := by simpa using hz
            omega
        · obtain ⟨hof, co, hco, eo, emd⟩ := htk o ho
          have ed : (dputM mv x.1 (o, am) : M Bag Mov) = ret (mv ++ [(x.1, (o, am))]) := by
            unfold dputM
            rw [decide_eq_true (show mv.length < sizeLine by rw [sline]; omega), grd_true, ret_bnd, dput_new hxn]
          have er : (remM fr o : M Bag (List Str)) = ret (fr.erase o) := by
            unfold remM
            rw [decide_eq_true hof, grd_true, ret_bnd]
          rw [ed, ret_bnd, er, ret_bnd]
          refine gv_nx ⟨fun k hk => ?_, by rw [List.length_append, List.length_append]; simp only [List.length_cons, List.length_nil]; omega, ⟨?_, ?_, by rw [List.length_append]; simp only [List.length_cons, List.length_nil]; omega, fun q hq => ?_⟩, ifn.erase o, fun f hf => ifc f (List.mem_of_mem_erase hf), fun f hf h => ?_⟩
          · rw [List.map_append] at hk ⊢
            rcases List.mem_append.mp hk with hk | hk
            · exact List.mem_append_left _ (ik k hk)
            · exact List.mem_append_right _ hk
          · rw [List.map_append, List.nodup_append]
            refine ⟨im.nd, by simp, fun a ha b hb z => ?_⟩
            have hb : b = x.1 := by simpa using hb
            rw [z, hb] at ha
            exact hxn ha
          · rw [List.map_append, List.nodup_append]
            refine ⟨im.nd2, by simp, fun a ha b hb z => ?_⟩
            have hb : b = o := by simpa using hb
            rw [z, hb] at ha
            exact ifo o hof ha
          · rcases List.mem_append.mp hq with hq | hq
            · exact im.ok q hq
            · rw [List.mem_singleton] at hq
              subst hq
              exact ⟨ham.1, ham.2, x, hx, co, hco, rfl, eo, emd⟩
          · rw [List.map_append] at h
            rcases List.mem_append.mp h with h | h
            · exact ifo f (List.mem_of_mem_erase hf) h
            · have h : f = o := by simpa using h
              subst h
              exact erase_nd ifn hf
  · rintro fl ⟨t, rfl, h⟩
    exact ⟨t, rfl, h.2.2.1⟩
abbrev Shp := Str × Str × Mov
abbrev Knd := Str × Str × Str × Int × Mov
abbrev Pln := List (Str × Int × Int) × List Knd
structure ShpOk (cs : List (Str × Int × Int)) (s : Shp) : Prop where
  v1 : VName s.1
  v2 : VName s.2.1
  ab : s.1 = ("absent" : Str) ∨ s.2.1 = ("absent" : Str) → s.1 ≠ s.2.1 ∧ s.2.2 = []
  mv : MovOk cs s.2.2
structure KndOk (cs : List (Str × Int × Int)) (k : Knd) : Prop where
  nm : VName k.1
  sh : ShpOk cs (k.2.1, k.2.2.1, k.2.2.2.2)
  w0 : 1 ≤ k.2.2.2.1
  w1 : k.2.2.2.1 ≤ 1000
structure PlnOk (p : Pln) (mc mk : Nat) : Prop where
  cs : ColsOk p.1 mc
  l0 : 1 ≤ p.2.length
  l1 : p.2.length ≤ mk
  nd : (p.2.map (·.1)).Nodup
  ok : ∀ k ∈ p.2, KndOk p.1 k
  ins : ∃ k ∈ p.2, k.2.1 = ("absent" : Str)
theorem state_ne {ns : List Str} {c : Nat} (h : NamesOk ns c [("write" : Str), ("drop" : Str), ("before" : Str), ("after" : Str)]) : ∀ n ∈ ns, VName n ∧ n ≠ ("absent" : Str) := fun n hn => by
  refine ⟨(h.ok n hn).1, fun z => ?_⟩
  rcases (h.ok n hn).2 with w | w
  · rw [z] at w
    have q : ("absent" : Str) ∉ [("write" : Str), ("drop" : Str), ("before" : Str), ("after" : Str)] := by decide +kernel
    exact q w
  · rw [z] at w
    exact w absent_l
theorem cutA_lo {α : Type} (xs : List α) {p : Int} (h0 : 0 ≤ p) (h1 : p ≤ xs.length) : cutA xs none (some p) = xs.take p.toNat := by
  obtain ⟨n, rfl⟩ := Int.eq_ofNat_of_zero_le h0
  unfold cutA
  have e1 : HT.sIx xs.length 0 none = 0 := rfl
  have e2 : HT.sIx xs.length xs.length (some (n : Int)) = n := by rw [HT.sIx_nat]; omega
  rw [e1, e2]
  rfl
theorem cutA_hi {α : Type} (xs : List α) {p : Int} (h0 : 0 ≤ p) (h1 : p ≤ xs.length) : cutA xs (some p) none = xs.drop p.toNat := by
  obtain ⟨n, rfl⟩ := Int.eq_ofNat_of_zero_le h0
  unfold cutA
  have e1 : HT.sIx xs.length xs.length none = xs.length := rfl
  have e2 : HT.sIx xs.length 0 (some (n : Int)) = n := by rw [HT.sIx_nat]; omega
  rw [e1, e2]
  exact List.take_of_length_le (by rw [List.length_drop]; omega)
theorem lcatM_of {S α : Type} {xs ys : List α} (h : xs.length + ys.length ≤ 1000) : (lcatM xs ys : M S (List α)) = ret (xs ++ ys) := by
  unfold lcatM
  rw [decide_eq_true (by rw [sline]; omega), grd_true, ret_bnd]
theorem gv_plan {mc mk : Int} (h1 : 1 ≤ mc) (h2 : mc ≤ 12) (h3 : 1 ≤ mk) (h4 : mk ≤ 12) : Gv (plan_m bagI mc mk) fun p => PlnOk p mc.toNat (max 2 mk.toNat) := by
  unfold plan_m
  refine gv_run ?_
  unfold plan_mb
  refine gv_bnd (gv_columns h1 (by omega)) fun cs hcs => ?_
  have hmc : mc.toNat ≤ 20 := by omega
  refine gv_on ?_
  rw [fdivM_of (by decide) (by decide)]
  simp only [ret_bnd]
  refine gv_on (gv_on (gv_on (gv_at (by omega) (by show mk / 9 < 2; omega) fun z hz => ?_)))
  have hz : z = 3 ∨ z = 7 := by simpa using hz
  refine gv_draw (by omega) (by omega) fun d d0 d1 => gv_ret ?_
  refine (gv_names (by omega) (by omega) words_s (by simp) (by simp)).imp fun sts hst => ?_
  have hs1 := state_ne hst
  have hs0 : 1 ≤ sts.length := by have := hst.len; omega
  have hs2 : sts.length ≤ 20 := by have := hst.len; omega
  have pick : ∀ {Q : Str → Prop}, (∀ n, VName n → n ≠ ("absent" : Str) → Q n) → Gv (bnd (draw_m bagI (sts.length : Int)) fun v => opt (atI sts v)) Q := fun {Q} h =>
    gv_on (gv_draw (by omega) (by omega) fun d d0 d1 => gv_at d0 d1 fun n hn => h n (hs1 n hn).1 (hs1 n hn).2)
  -- shapes
  refine gv_then (P := fun t => t.length + 1 ≤ (max 2 mk.toNat) ∧ ∀ s ∈ t, ShpOk cs s) ?_ fun t ⟨tl, tk⟩ => ?_
  · refine gv_bnd (P := fun xs : List Int => xs.length + 1 ≤ (max 2 mk.toNat)) ?_ fun xs hxs => ?_
    · refine gv_on (gv_on (gv_draw (by omega) (by omega) fun a a0 a1 => gv_on (gv_draw (by decide) (by decide) fun b b0 b1 => gv_ret ?_)))
      obtain ⟨n, en, n0, n1⟩ : ∃ n, (if b > a then b else a) = n ∧ 0 ≤ n ∧ n + 1 ≤ max 2 mk := by
        by_cases c : b > a
        · exact ⟨b, if_pos c, by omega, by omega⟩
        · exact ⟨a, if_neg c, by omega, by omega⟩
      rw [en, rangeM_of n0 (by omega)]
      refine gv_ret ?_
      rw [List.length_map, List.length_range]
      omega
    · have hx20 : xs.length ≤ 20 := by omega
      refine Gv.imp (gv_for (α := Int) (T := List Shp) (fun pre t => t.length = pre.length ∧ ∀ s ∈ t, ShpOk cs s) (⟨rfl, fun s hs => (by cases hs)⟩) ?_) ?_
      · rintro pre x post t e ⟨tl, tk⟩
        have hpl : pre.length ≤ 20 := by
          have := congrArg List.length e
          rw [List.length_append] at this
          omega
        have add : ∀ s : Shp, ShpOk cs s → Gv (bnd (appM t s) fun shapes => ret (.nx shapes) : M Bag (Fl (List Shp) (List Shp) Pln)) fun fl => ∃ t', fl = .nx t' ∧ t'.length = (pre ++ [x]).length ∧ ∀ s ∈ t', ShpOk cs s := fun s hs => by
          rw [appM_of (by omega), ret_bnd]
          refine gv_nx ⟨by rw [List.length_append, List.length_append, tl]; rfl, fun q hq => ?_⟩
          rcases List.mem_append.mp hq with hq | hq
          · exact tk q hq
          · rw [List.mem_singleton] at hq
            rw [hq]
            exact hs
        refine gv_on (gv_draw (by decide) (by decide) fun ch c0 c1 => ?_)
        refine gv_on (gv_on (pick fun n1 v1 a1 => gv_on (pick fun n2 v2 a2 => gv_ret ?_)))
        refine gv_ite (fun ec => ?_) fun _ => ?_
        · have ec := of_decide_eq_true ec
          have e3 : ch = 0 ∨ ch = 1 ∨ ch = 2 := by omega
          have s1 : ShpOk cs (("absent" : Str), n2, ([] : Mov)) := ⟨absent_v, v2, fun _ => ⟨Ne.symm a2, rfl⟩, movOk_nil⟩
          have s2 : ShpOk cs (n1, ("absent" : Str), ([] : Mov)) := ⟨v1, absent_v, fun _ => ⟨a1, rfl⟩, movOk_nil⟩
          rcases e3 with rfl | rfl | rfl
          · exact add _ s1
          · exact add _ s2
          · exact add _ s2
        · refine gv_bnd (P := fun s : Shp => ShpOk cs s) ?_ fun s hs => add s hs
          have eq : (bnd (opt (atI [n1, n2] (0 : Int))) fun v77 => bnd (opt (atI [n1, n2] (1 : Int))) fun v78 => bnd (moved_m bagI cs) fun v79 => ret (v77, v78, v79) : M Bag Shp) = bnd (moved_m bagI cs) fun v79 => ret (n1, n2, v79) := rfl
          rw [eq]
          exact gv_bnd (gv_moved hmc hcs) fun mv hmv => gv_ret ⟨v1, v2, fun z => (by rcases z with z | z; exact absurd z a1; exact absurd z a2), hmv⟩
      · rintro fl ⟨t, rfl, tl, tk⟩
        exact ⟨t, rfl, by rw [tl]; exact hxs, tk⟩
  have ht20 : t.length ≤ 20 := by omega
  refine gv_on (gv_draw (by omega) (by omega) fun pl p0 p1 => ?_)
  refine gv_bnd (P := fun sh : List Shp => sh.length = t.length + 1 ∧ (∀ s ∈ sh, ShpOk cs s) ∧ ∃ s ∈ sh, s.1 = ("absent" : Str)) ?_ fun sh ⟨sl, sk, sa⟩ => ?_
  · refine gv_on (gv_on (gv_on (gv_on (pick fun n v a => gv_ret (gv_ret ?_)))))
    rw [cutA_lo t p0 (by omega), cutA_hi t p0 (by omega), lcatM_of (by rw [List.length_take]; simp only [List.length_cons, List.length_nil]; omega)]
    refine gv_ret ?_
    rw [lcatM_of (by simp only [List.length_append, List.length_take, List.length_drop, List.length_cons, List.length_nil]; omega)]
    refine gv_ret ⟨by simp only [List.length_append, List.length_take, List.length_drop, List.length_cons, List.length_nil]; omega, fun s hs => ?_, (("absent" : Str), n, []), by simp, rfl⟩
    rcases List.mem_append.mp hs with hs | hs
    · rcases List.mem_append.mp hs with hs | hs
      · exact tk s (List.mem_of_mem_take hs)
      · rw [List.mem_singleton] at hs
        rw [hs]
        exact ⟨absent_v, v, fun _ => ⟨Ne.symm a, rfl⟩, movOk_nil⟩
    · exact tk s (List.mem_of_mem_drop hs)
  have hsh20 : sh.length ≤ 20 := by rw [sl]; omega
  refine gv_bnd (gv_names (count := (sh.length : Int)) (by omega) (by omega) words_k (by simp) (by simp)) fun nms hn => ?_
  have hnl := hn.len
  rw [Int.toNat_natCast] at hnl
  rw [rangeM_of (by omega) (by omega), ret_bnd, Int.toNat_natCast]
  refine gv_then (P := fun ks : List Knd => PlnOk (cs, ks) mc.toNat (max 2 mk.toNat)) ?_ fun ks hks => gv_rt hks
  refine (gv_for (fun pre (t : List Knd) => pre = (List.range t.length).map (fun (i : Nat) => (i : Int)) ∧ t.length ≤ sh.length ∧ ∀ (i : Nat) (k : Knd), t[i]? = some k → nms[i]? = some k.1 ∧ sh[i]? = some (k.2.1, k.2.2.1, k.2.2.2.2) ∧ 1 ≤ k.2.2.2.1 ∧ k.2.2.2.1 ≤ 1000) ⟨rfl, Nat.zero_le _, fun i k h => by simp at h⟩ ?_).imp ?_
  · rintro pre x post t e ⟨hpre, tl2, hk⟩
    have hn2 : pre.length = t.length := by
      have z := congrArg List.length hpre
      rw [List.length_map, List.length_range] at z
      exact z
    have hx : ((List.range sh.length).map (fun (i : Nat) => (i : Int)))[t.length]? = some x := by
      rw [e, List.getElem?_append_right (by omega), hn2, Nat.sub_self]
      rfl
    have hnc : t.length < sh.length := by
      have := (List.getElem?_eq_some_iff.mp hx).1
      rw [List.length_map, List.length_range] at this
      exact this
    rw [List.getElem?_map, List.getElem?_range hnc] at hx
    have hx : ((t.length : Nat) : Int) = x := Option.some.inj hx
    subst hx
    have e1 : atI nms (t.length : Int) = some nms[t.length] := by rw [atI_lt (by omega) (by omega), Int.toNat_natCast, List.getElem?_eq_getElem]
    have e2 : atI sh (t.length : Int) = some sh[t.length] := by rw [atI_lt (by omega) (by omega), Int.toNat_natCast, List.getElem?_eq_getElem]
    rw [e1, e2]
    simp only [opt_some, ret_bnd]
    refine gv_on (gv_bnd gv_size fun w hw => gv_ret ?_)
    rw [appM_of (by omega), ret_bnd]
    refine gv_nx ⟨by rw [List.length_append, List.length_cons, List.length_nil, List.range_succ, List.map_append, ← hpre]; rfl, by rw [List.length_append, List.length_cons, List.length_nil]; omega, fun i k h => ?_⟩
    by_cases hi : i < t.length
    · rw [List.getElem?_append_left hi] at h
      exact hk i k h
    · have hi2 : i = t.length := by
        have := (List.getElem?_eq_some_iff.mp h).1
        rw [List.length_append, List.length_cons, List.length_nil] at this
        omega
      subst hi2
      rw [List.getElem?_append_right (Nat.le_refl _), Nat.sub_self] at h
      have h : _ = k := Option.some.inj h
      subst h
      exact ⟨List.getElem?_eq_getElem _, List.getElem?_eq_getElem _, hw.1, hw.2⟩
  · rintro fl ⟨t, rfl, hpre, tl2, hk⟩
    have hlen : t.length = sh.length := by
      have z := congrArg List.length hpre
      rw [List.length_map, List.length_map, List.length_range, List.length_range] at z
      exact z.symm
    refine ⟨t, rfl, hcs, by show 1 ≤ t.length; omega, by show t.length ≤ _; rw [hlen, sl]; exact tl, nd_ix fun i j x y hij e1 e2 => ?_, fun k hkm => ?_, ?_⟩
    · rw [List.getElem?_map] at e1 e2
      obtain ⟨k1, f1, g1⟩ := Option.map_eq_some_iff.mp e1
      obtain ⟨k2, f2, g2⟩ := Option.map_eq_some_iff.mp e2
      intro z
      have a1 := (hk i k1 f1).1
      have a2 := (hk j k2 f2).1
      rw [g1, z] at a1
      rw [g2] at a2
      have := ix_nd hn.nd a1 a2
      omega
    · obtain ⟨i, hi⟩ := List.mem_iff_getElem?.mp hkm
      obtain ⟨a1, a2, a3, a4⟩ := hk i k hi
      exact ⟨(hn.ok _ (List.mem_of_getElem? a1)).1, sk _ (List.mem_of_getElem? a2), a3, a4⟩
    · obtain ⟨s, hs, es⟩ := sa
      obtain ⟨i, hi⟩ := List.mem_iff_getElem?.mp hs
      have hit : i < t.length := by have := (List.getElem?_eq_some_iff.mp hi).1; omega
      refine ⟨t[i], List.getElem_mem hit, ?_⟩
      obtain ⟨_, a2, _⟩ := hk i _ (List.getElem?_eq_getElem hit)
      rw [a2] at hi
      have z := Option.some.inj hi
      rw [← es, ← z]
/-! ### the life cycle of a plan -/
def letB (c : Nat) : Bool := decide (97 ≤ c) && decide (c ≤ 122)
def vnB (x : Str) : Bool := (decide (1 ≤ (sg x).length) && decide ((sg x).length ≤ 12)) && (sg x).all letB
theorem vnB_iff {x : Str} : vnB x = true ↔ VName x := by
  unfold vnB
  simp only [Bool.and_eq_true, decide_eq_true_eq, List.all_eq_true]
  constructor
  · rintro ⟨⟨h1, h2⟩, h3⟩
    refine ⟨h1, h2, fun c hc => ?_⟩
    have z := h3 c hc
    unfold letB at z
    simp only [Bool.and_eq_true, decide_eq_true_eq] at z
    exact z
  · rintro ⟨h1, h2, h3⟩
    refine ⟨⟨h1, h2⟩, fun c hc => ?_⟩
    unfold letB
    simp only [Bool.and_eq_true, decide_eq_true_eq]
    exact h3 c hc
theorem mem_LET (c : Nat) : decide (c ∈ LET.cps.toList) = letB c := by
  rw [show LET.cps.toList = (List.range 26).map (97 + ·) from sg_LET]
  unfold letB
  by_cases h : 97 ≤ c ∧ c ≤ 122
  · rw [decide_eq_true h.1, decide_eq_true h.2]
    exact decide_eq_true (List.mem_map.mpr ⟨c - 97, List.mem_range.mpr (by omega), by omega⟩)
  · have z : ¬ c ∈ (List.range 26).map (97 + ·) := fun hm => by
      obtain ⟨i, hi, e⟩ := List.mem_map.mp hm
      have := List.mem_range.mp hi
      omega
    rw [decide_eq_false z]
    by_cases h1 : 97 ≤ c
    · rw [decide_eq_true h1, decide_eq_false (fun h2 => h ⟨h1, h2⟩)]
      rfl
    · rw [decide_eq_false h1]
      rfl
theorem valid_name_eq {S : Type} {x : Str} (h : (sg x).length ≤ 1000) : (valid_name_m x : M S Bool) = ret (vnB x) := by
  have loop : ∀ cs : List Nat, (forL (fun (x11 : Str) (t10 : Unit) => bnd (ninSM x11 ("abcdefghijklmnopqrstuvwxyz" : Str)) fun v14 => if v14 then (ret (.rt false)) else (ret (.nx ()))) (cs.map fun c => (⟨#[c]⟩ : Str)) () : M S (Fl Unit Empty Bool)) = if cs.all letB then ret (.nx ()) else ret (.rt false) := by
    intro cs
    induction cs with
    | nil => rfl
    | cons c cs ih =>
      rw [List.map_cons, forL_cons]
      have e : (ninSM (⟨#[c]⟩ : Str) ("abcdefghijklmnopqrstuvwxyz" : Str) : M S Bool) = ret (!letB c) := by
        rw [← mem_LET]
        rfl
      rw [e, ret_bnd, List.all_cons]
      cases letB c with
      | true => exact ih
      | false => rfl
  unfold valid_name_m valid_name_mb
  rw [decide_eq_true (show x.length ≤ sizeLine by rw [len_sg, sline]; omega), grd_true]
  simp only [ret_bnd]
  rw [show (Array.toList x.cps) = sg x from rfl, loop (sg x)]
  unfold vnB
  rw [len_sg]
  by_cases c1 : 1 ≤ (sg x).length
  · rw [decide_eq_true (show (1 : Int) ≤ ((sg x).length : Int) by omega), decide_eq_true c1]
    simp only [if_true, ret_bnd]
    by_cases c2 : (sg x).length ≤ 12
    · rw [decide_eq_true (show ((sg x).length : Int) ≤ 12 by omega), decide_eq_true c2]
      cases (sg x).all letB <;> rfl
    · rw [decide_eq_false (show ¬ ((sg x).length : Int) ≤ 12 by omega), decide_eq_false c2]
      rfl
  · rw [decide_eq_false (show ¬ (1 : Int) ≤ ((sg x).length : Int) by omega), decide_eq_false c1]
    rfl
theorem valid_name_of {S : Type} {x : Str} (h : VName x) : (valid_name_m x : M S Bool) = ret true := by
  rw [valid_name_eq (by have := h.hi; omega), vnB_iff.mpr h]
theorem Column_init_eq {S : Type} (a : Str) (b c : Int) : (Column_init_m a b c : M S D_Column) = ret ⟨a, b, c⟩ := by
  funext s
  rfl
theorem Kind_init_eq {S : Type} (a b c : Str) (w : Int) (m : Mov) : (Kind_init_m a b c w (some m) : M S D_Kind) = ret ⟨a, b, c, w, m⟩ := by
  funext s
  rfl
def colD (c : Str × Int × Int) : D_Column := ⟨c.1, c.2.1, c.2.2⟩
def kndD (k : Knd) : D_Kind := ⟨k.1, k.2.1, k.2.2.1, k.2.2.2.1, k.2.2.2.2⟩
theorem valid_column_of {S : Type} {c : Str × Int × Int} (h : ColOk c) : (valid_column_m (colD c) : M S Bool) = ret true := by
  unfold valid_column_m valid_column_mb colD
  dsimp only
  rw [valid_name_of h.nm]
  simp only [ret_bnd, Bool.not_true, Bool.false_eq_true, if_false]
  rw [decide_eq_true h.w0, decide_eq_true h.w1]
  simp only [if_true, ret_bnd, Bool.not_true, Bool.false_eq_true, if_false]
  rcases h.md with e | ⟨e1, e2⟩
  · rw [decide_eq_true e]
    rfl
  · rw [decide_eq_false (show ¬ c.2.2 = 0 by omega), decide_eq_true e1, decide_eq_true e2]
    rfl
def sizesD (cs : List (Str × Int × Int)) : List (Str × (Int × Int)) := cs.map fun c => (c.1, (c.2.1, c.2.2))
theorem sizes_names (cs : List (Str × Int × Int)) : (sizesD cs).map (·.1) = cs.map (·.1) := by
  unfold sizesD
  rw [List.map_map]
  rfl
theorem sizes_get {cs : List (Str × Int × Int)} (nd : (cs.map (·.1)).Nodup) {c : Str × Int × Int} (h : c ∈ cs) : dget (sizesD cs) c.1 = some (c.2.1, c.2.2) :=
  dget_of_mem (by rw [sizes_names]; exact nd) (List.mem_map.mpr ⟨c, h, rfl⟩)
/-- the columns -/
theorem cols_loop {S : Type} {s : S} : ∀ (cs : List (Str × Int × Int)) (t : D_Cycle), (∀ c ∈ cs, ColOk c) → (t.column_sizes.map (·.1) ++ cs.map (·.1)).Nodup → t.column_sizes.length + cs.length ≤ 1000 →
    (forL (fun (x18 : D_Column) (t17 : Unit) => bnd (bnd (bnd (valid_column_m x18) fun v20 => ret (!v20)) fun v25 => if v25 then ret true else (bnd (getA opnL 0 (fun t : D_Cycle => t.column_sizes)) fun v23 => ret (dhas v23 (D_Column.name x18)))) fun v26 => if v26 then (stk) else (bnd (dputA opnL 0 (fun t : D_Cycle => t.column_sizes) (fun (t : D_Cycle) y => { t with column_sizes := y }) (D_Column.name x18) ((D_Column.width x18), (D_Column.modulus x18))) fun _ => ret (.nx ()))) (cs.map colD) () : M (Opn S D_Cycle) (Fl Unit Empty Unit)) (s, some (t, 1)) = .ok (.nx ()) (s, some ({ t with column_sizes := t.column_sizes ++ sizesD cs }, 1))
  | [], t, _, _, _ => by
    have e : t.column_sizes ++ sizesD [] = t.column_sizes := List.append_nil _
    rw [e]
    rfl
  | c :: cs, t, h, nd, hl => by
    have hn : c.1 ∉ t.column_sizes.map (·.1) := fun z => (List.nodup_append.mp nd).2.2 _ z c.1 List.mem_cons_self rfl
    have hd : dhas t.column_sizes c.1 = false := by rw [dhas_dec, decide_eq_false hn]
    rw [List.length_cons] at hl
    have turn : (bnd (bnd (bnd (valid_column_m (colD c)) fun v20 => ret (!v20)) fun v25 => if v25 then ret true else (bnd (getA opnL 0 (fun t : D_Cycle => t.column_sizes)) fun v23 => ret (dhas v23 (D_Column.name (colD c))))) fun v26 => if v26 then (stk) else (bnd (dputA opnL 0 (fun t : D_Cycle => t.column_sizes) (fun (t : D_Cycle) y => { t with column_sizes := y }) (D_Column.name (colD c)) ((D_Column.width (colD c)), (D_Column.modulus (colD c)))) fun _ => ret (.nx ())) : M (Opn S D_Cycle) (Fl Unit Unit Unit)) (s, some (t, 1)) = .ok (.nx ()) (s, some ({ t with column_sizes := t.column_sizes ++ [(c.1, (c.2.1, c.2.2))] }, 1)) := by
      rw [valid_column_of (h c List.mem_cons_self)]
      simp only [ret_bnd, Bool.not_true, Bool.false_eq_true, if_false]
      show (bnd (ret (dhas t.column_sizes c.1)) _) (s, some (t, 1)) = _
      rw [hd, ret_bnd]
      have e : (dputM t.column_sizes c.1 (c.2.1, c.2.2) : M (Opn S D_Cycle) _) = ret (t.column_sizes ++ [(c.1, (c.2.1, c.2.2))]) := by
        unfold dputM
        rw [decide_eq_true (by rw [sline]; omega), grd_true, ret_bnd, dput_new hn]
      show (bnd (bnd (dputM t.column_sizes c.1 (c.2.1, c.2.2)) fun d2 => putA opnL 0 (fun (t : D_Cycle) y => { t with column_sizes := y }) d2) fun _ => ret (Fl.nx () : Fl Unit Unit Unit)) (s, some (t, 1)) = _
      rw [e, ret_bnd]
      rfl
    rw [List.map_cons, forL_cons]
    show Out.bnd _ _ = _
    rw [turn]
    show forL _ (cs.map colD) () (s, some ({ t with column_sizes := t.column_sizes ++ [(c.1, (c.2.1, c.2.2))] }, 1)) = _
    rw [cols_loop cs { t with column_sizes := t.column_sizes ++ [(c.1, (c.2.1, c.2.2))] } (fun d hd => h d (List.mem_cons_of_mem _ hd)) (by
      rw [List.map_append, List.append_assoc]
      exact nd) (by rw [List.length_append]; simp only [List.length_cons, List.length_nil]; omega)]
    have e : (t.column_sizes ++ [(c.1, (c.2.1, c.2.2))]) ++ sizesD cs = t.column_sizes ++ sizesD (c :: cs) := by
      rw [List.append_assoc]
      rfl
    dsimp only
    rw [e]
theorem bnd_ok {S α β : Type} {m : M S α} {f : α → M S β} {s s' : S} {a : α} (h : m s = .ok a s') : bnd m f s = f a s' := by
  show (m s).bnd f = _
  rw [h]
  rfl
theorem bnd_ite {S α β : Type} {c : Bool} (a b : M S α) (f : α → M S β) : bnd (if c then a else b) f = if c then bnd a f else bnd b f := by cases c <;> rfl
theorem getA_opn {S T τ : Type} {s : S} {t : T} {n i : Nat} (g : T → τ) (h : i < n) : (getA opnL i g : M (Opn S T) τ) (s, some (t, n)) = .ok (g t) (s, some (t, n)) := by
  show (if i < n then Out.ok (g t) (s, some (t, n)) else .stuck) = _
  rw [if_pos h]
theorem dputA_opn {S T κ α : Type} [DecidableEq κ] {s : S} {t : T} {n i : Nat} {g : T → List (κ × α)} {u : T → List (κ × α) → T} {k : κ} {y : α} (h : i < n) (hn : k ∉ (g t).map (·.1)) (hl : (g t).length ≤ 1000) : (dputA opnL i g u k y : M (Opn S T) Unit) (s, some (t, n)) = .ok () (s, some (u t (g t ++ [(k, y)]), n)) := by
  unfold dputA
  rw [bnd_ok (getA_opn g h)]
  have e : (dputM (g t) k y : M (Opn S T) _) = ret (g t ++ [(k, y)]) := by
    unfold dputM
    rw [decide_eq_true (by rw [sline]; omega), grd_true, ret_bnd, dput_new hn]
  rw [e, ret_bnd]
  show (if i < n then Out.ok () (s, some (u t (g t ++ [(k, y)]), n)) else .stuck) = _
  rw [if_pos h]
theorem strOk_mov {mv : Mov} (h : ∀ q ∈ mv, VName q.2.1) : (mv.all fun q => PyData.strOk q.2.1 && (fun _ => true) q.2.2) = true :=
  List.all_eq_true.mpr fun q hq => by
    rw [strOk_v (h q hq)]
    rfl
abbrev crBody {S : Type} : (Str × (Str × Int)) → List Str → M (Opn S D_Cycle) (Fl (List Str) (List Str) Bool) := fun (x43 : Str × (Str × Int)) (t42 : (List Str)) => bnd (bnd (bnd (getA opnL 0 (fun t : D_Cycle => t.column_sizes)) fun v46 => ret (!dhas v46 x43.1)) fun v54 => if v54 then ret true else (bnd (bnd (getA opnL 0 (fun t : D_Cycle => t.column_sizes)) fun v49 => ret (!dhas v49 x43.2.1)) fun v53 => if v53 then ret true else (ret (decide (x43.2.1 ∈ t42))))) fun v55 => if v55 then (ret (.rt false)) else (bnd (bnd (bnd (bnd (getA opnL 0 (fun t : D_Cycle => t.column_sizes)) fun v57 => opt (dget v57 x43.1)) fun v59 => ret v59.2) fun v63 => bnd (bnd (bnd (getA opnL 0 (fun t : D_Cycle => t.column_sizes)) fun v60 => opt (dget v60 x43.2.1)) fun v62 => ret v62.2) fun v64 => ret (!decide (v63 = v64))) fun v65 => if v65 then (ret (.rt false)) else (bnd (bnd (if decide ((-(1000000 : Int)) ≤ x43.2.2) then (ret (decide (x43.2.2 ≤ (1000000 : Int)))) else ret false) fun v71 => ret (!v71)) fun v72 => if v72 then (ret (.rt false)) else (bnd (appM t42 x43.2.1) fun used74 => ret (.nx used74))))
theorem ifT {α : Type} {a b : α} : (if true = true then a else b) = a := rfl
theorem ifF {α : Type} {a b : α} : (if false = true then a else b) = b := rfl
theorem carried_loop {S : Type} {s : S} {t : D_Cycle} {n : Nat} {cs : List (Str × Int × Int)} (ht : t.column_sizes = sizesD cs) (hn : 0 < n) (nd : (cs.map (·.1)).Nodup) (hcl : cs.length ≤ 100) :
    ∀ (mv : Mov) (used : List Str), (∀ q ∈ mv, -1000000 ≤ q.2.2 ∧ q.2.2 ≤ 1000000 ∧ ∃ c ∈ cs, ∃ o ∈ cs, c.1 = q.1 ∧ o.1 = q.2.1 ∧ c.2.2 = o.2.2) → (used ++ mv.map (·.2.1)).Nodup → used.length + mv.length ≤ 1000 →
    (forL crBody mv used : M (Opn S D_Cycle) (Fl (List Str) Empty Bool)) (s, some (t, n)) = .ok (.nx (used ++ mv.map (·.2.1))) (s, some (t, n))
  | [], used, _, _, _ => by
    rw [List.map_nil, List.append_nil]
    rfl
  | q :: mv, used, h, hnd, hl => by
    obtain ⟨a1, a2, c, hc, o, ho, e1, e2, e3⟩ := h q List.mem_cons_self
    have g1 := sizes_get nd hc
    have g2 := sizes_get nd ho
    rw [e1] at g1
    rw [e2] at g2
    have d1 : dhas t.column_sizes q.1 = true := by rw [ht]; unfold dhas; rw [g1]; rfl
    have d2 : dhas t.column_sizes q.2.1 = true := by rw [ht]; unfold dhas; rw [g2]; rfl
    have hu : q.2.1 ∉ used := fun z => (List.nodup_append.mp hnd).2.2 _ z q.2.1 (by simp) rfl
    rw [List.length_cons] at hl
    have turn : (crBody q used : M (Opn S D_Cycle) _) (s, some (t, n)) = .ok (.nx (used ++ [q.2.1])) (s, some (t, n)) := by
      unfold crBody
      simp only [bnd_assoc, ret_bnd, bnd_ite]
      rw [bnd_ok (getA_opn _ hn)]
      simp only [d1, Bool.not_true, Bool.false_eq_true, if_false]
      rw [bnd_ok (getA_opn _ hn)]
      simp only [d2, Bool.not_true, Bool.false_eq_true, if_false, hu, decide_false]
      rw [bnd_ok (getA_opn _ hn), ht, g1, opt_some, ret_bnd, bnd_ok (getA_opn _ hn), ht, g2, opt_some, ret_bnd, e3]
      simp only [decide_true, Bool.not_true, Bool.false_eq_true, if_false]
      rw [decide_eq_true a1, decide_eq_true a2]
      simp only [Bool.not_true, Bool.false_eq_true, if_false, if_true]
      rw [appM_of (by omega), ret_bnd]
      rfl
    rw [forL_cons, bnd_ok turn]
    show forL crBody mv (used ++ [q.2.1]) (s, some (t, n)) = _
    rw [carried_loop (s := s) ht hn nd hcl mv (used ++ [q.2.1]) (fun z hz => h z (List.mem_cons_of_mem _ hz)) (by rw [List.append_assoc]; exact hnd) (by rw [List.length_append]; simp only [List.length_cons, List.length_nil]; omega), List.append_assoc]
    rfl
theorem allows_of {S : Type} {s : S} {t : D_Cycle} {n : Nat} {cs : List (Str × Int × Int)} {k : Knd} (ht : t.column_sizes = sizesD cs) (hn : 0 < n) {mc : Nat} (hmc : mc ≤ 20) (hcs : ColsOk cs mc) (h : KndOk cs k) : (Cycle_allows_am_m opnL (kndD k) : M (Opn S D_Cycle) Bool) (s, some (t, n)) = .ok true (s, some (t, n)) := by
  have hl := hcs.l1
  have hml := h.sh.mv.len
  unfold Cycle_allows_am_m Cycle_allows_am_mb kndD
  dsimp only
  rw [valid_name_of h.nm, valid_name_of h.sh.v1, valid_name_of h.sh.v2]
  (repeat first | rw [ret_bnd] | rw [ifT] | rw [ifF] | rw [Bool.not_true] | rw [Bool.not_false])
  rw [decide_eq_true h.w0, decide_eq_true h.w1]
  (repeat first | rw [ret_bnd] | rw [ifT] | rw [ifF] | rw [Bool.not_true] | rw [Bool.not_false])
  by_cases ca : k.2.1 = ("absent" : Str) ∨ k.2.2.1 = ("absent" : Str)
  · obtain ⟨b1, b2⟩ := h.sh.ab ca
    have b1 : ¬ k.2.1 = k.2.2.1 := b1
    have b2 : k.2.2.2.2 = [] := b2
    have e1 : (if (decide (k.2.1 = ("absent" : Str))) then ret true else (ret (decide (k.2.2.1 = ("absent" : Str)))) : M (Opn S D_Cycle) Bool) = ret true := by
      by_cases z : k.2.1 = ("absent" : Str)
      · rw [decide_eq_true z]; rfl
      · rcases ca with w | w
        · exact absurd w z
        · rw [decide_eq_false z, decide_eq_true w]; rfl
    rw [e1, ret_bnd, decide_eq_false b1, b2]
    rfl
  · have e1 : (if (decide (k.2.1 = ("absent" : Str))) then ret true else (ret (decide (k.2.2.1 = ("absent" : Str)))) : M (Opn S D_Cycle) Bool) = ret false := by
      rw [decide_eq_false fun z => ca (.inl z), decide_eq_false fun z => ca (.inr z)]
      rfl
    rw [e1, ret_bnd, ifF]
    have lp := carried_loop (s := s) (t := t) ht hn hcs.nd (by omega) k.2.2.2.2 [] h.sh.mv.ok h.sh.mv.nd2 (by show 0 + k.2.2.2.2.length ≤ 1000; have : k.2.2.2.2.length ≤ cs.length := hml; omega)
    have e2 : (thenB (forL crBody k.2.2.2.2 []) fun (_ : List Str) => ret (.rt true) : M (Opn S D_Cycle) (Fl Unit Empty Bool)) (s, some (t, n)) = .ok (.rt true) (s, some (t, n)) := by
      unfold thenB
      rw [bnd_ok lp]
      rfl
    exact (bnd_ok (f := Fl.out) e2).trans rfl
def cycD (p : Pln) : D_Cycle := ⟨sizesD p.1, p.2.map fun k => (k.1, (k.2.1, k.2.2.1)), p.2.map fun k => (k.1, k.2.2.2.1), p.2.map fun k => (k.1, k.2.2.2.2)⟩
theorem dcomp_id {S : Type} {mv : Mov} (nd : (mv.map (·.1)).Nodup) (hl : mv.length ≤ 1000) : (dcompM (fun (x56 : Str × (Str × Int)) => ret true) (fun (x56 : Str × (Str × Int)) => ret x56.1) (fun (x56 : Str × (Str × Int)) => ret (x56.2.1, x56.2.2)) mv : M S Mov) = ret mv := by
  have main : ∀ (xs acc : Mov), (acc.map (·.1) ++ xs.map (·.1)).Nodup → (dcompL (fun (x56 : Str × (Str × Int)) => ret true) (fun (x56 : Str × (Str × Int)) => ret x56.1) (fun (x56 : Str × (Str × Int)) => ret (x56.2.1, x56.2.2)) xs acc : M S Mov) = ret (acc ++ xs) := by
    intro xs
    induction xs with
    | nil =>
      intro acc _
      rw [List.append_nil]
      rfl
    | cons q xs ih =>
      intro acc h
      have hn : q.1 ∉ acc.map (·.1) := fun z => (List.nodup_append.mp h).2.2 _ z q.1 List.mem_cons_self rfl
      show (dcompL _ _ _ xs (dput acc q.1 (q.2.1, q.2.2)) : M S Mov) = _
      rw [dput_new hn, ih _ (by rw [List.map_append, List.append_assoc]; exact h), List.append_assoc]
      rfl
  unfold dcompM
  rw [decide_eq_true (by rw [sline]; omega), grd_true, ret_bnd]
  exact main mv [] nd
abbrev knBody {S : Type} : D_Kind → Unit → M (Opn S D_Cycle) (Fl Unit Unit Unit) := fun (x39 : D_Kind) (t38 : Unit) => bnd (bnd (bnd (getA opnL 1 (fun t : D_Cycle => t.kind_ends)) fun v42 => ret (dhas v42 (D_Kind.name x39))) fun v47 => if v47 then ret true else (bnd (bnd (hereA opnL) fun _ => Cycle_allows_am_m opnL x39) fun v46 => ret (!v46))) fun v48 => if v48 then (stk) else (bnd (dputA opnL 1 (fun t : D_Cycle => t.kind_ends) (fun (t : D_Cycle) y => { t with kind_ends := y }) (D_Kind.name x39) ((D_Kind.source x39), (D_Kind.target x39))) fun _ => bnd (dputA opnL 2 (fun t : D_Cycle => t.kind_weights) (fun (t : D_Cycle) y => { t with kind_weights := y }) (D_Kind.name x39) (D_Kind.weight x39)) fun _ => bnd (dcompM (fun (x56 : Str × (Str × Int)) => ret true) (fun (x56 : Str × (Str × Int)) => ret x56.1) (fun (x56 : Str × (Str × Int)) => ret (x56.2.1, x56.2.2)) (D_Kind.carried x39)) fun v62 => bnd (dputA opnL 3 (fun t : D_Cycle => t.kind_carried) (fun (t : D_Cycle) y => { t with kind_carried := y }) (D_Kind.name x39) v62) fun _ => ret (.nx ()))
theorem kinds_loop {S : Type} {s : S} {cs : List (Str × Int × Int)} {mc : Nat} (hmc : mc ≤ 20) (hcs : ColsOk cs mc) : ∀ (ks : List Knd) (t : D_Cycle), t.column_sizes = sizesD cs → (∀ k ∈ ks, KndOk cs k) → t.kind_ends.length + ks.length ≤ 1000 → t.kind_weights.map (·.1) = t.kind_ends.map (·.1) → t.kind_carried.map (·.1) = t.kind_ends.map (·.1) → (t.kind_ends.map (·.1) ++ ks.map (·.1)).Nodup →
    (forL knBody (ks.map kndD) () : M (Opn S D_Cycle) (Fl Unit Empty Unit)) (s, some (t, 4)) = .ok (.nx ()) (s, some (⟨t.column_sizes, t.kind_ends ++ ks.map (fun k => (k.1, (k.2.1, k.2.2.1))), t.kind_weights ++ ks.map (fun k => (k.1, k.2.2.2.1)), t.kind_carried ++ ks.map (fun k => (k.1, k.2.2.2.2))⟩, 4))
  | [], t, _, _, _, _, _, _ => by
    simp only [List.map_nil, List.append_nil]
    rfl
  | k :: ks, t, ht, h, hl, hw, hc, nd => by
    have hk := h k List.mem_cons_self
    have hn : k.1 ∉ t.kind_ends.map (·.1) := fun z => (List.nodup_append.mp nd).2.2 _ z k.1 List.mem_cons_self rfl
    have hd : dhas t.kind_ends k.1 = false := by rw [dhas_dec, decide_eq_false hn]
    have l2 : t.kind_weights.length = t.kind_ends.length := by have := congrArg List.length hw; rw [List.length_map, List.length_map] at this; exact this
    have l3 : t.kind_carried.length = t.kind_ends.length := by have := congrArg List.length hc; rw [List.length_map, List.length_map] at this; exact this
    have hcl := hcs.l1
    have hml : k.2.2.2.2.length ≤ cs.length := hk.sh.mv.len
    rw [List.length_cons] at hl
    have turn : (knBody (kndD k) () : M (Opn S D_Cycle) _) (s, some (t, 4)) = .ok (.nx ()) (s, some (⟨t.column_sizes, t.kind_ends ++ [(k.1, (k.2.1, k.2.2.1))], t.kind_weights ++ [(k.1, k.2.2.2.1)], t.kind_carried ++ [(k.1, k.2.2.2.2)]⟩, 4)) := by
      unfold knBody
      rw [bnd_assoc, bnd_assoc, bnd_ok (getA_opn _ (by decide))]
      have en : D_Kind.name (kndD k) = k.1 := rfl
      rw [en, hd, ret_bnd, ifF, bnd_assoc, bnd_assoc]
      rw [bnd_ok (show (hereA opnL : M (Opn S D_Cycle) Unit) (s, some (t, 4)) = .ok () (s, some (t, 4)) from rfl), bnd_ok (allows_of (s := s) (n := 4) ht (by decide) hmc hcs hk), ret_bnd, Bool.not_true, ifF]
      rw [bnd_ok (dputA_opn (by decide) hn (by omega)), bnd_ok (dputA_opn (by decide) (by show k.1 ∉ t.kind_weights.map (·.1); rw [hw]; exact hn) (by show t.kind_weights.length ≤ 1000; omega))]
      rw [show D_Kind.carried (kndD k) = k.2.2.2.2 from rfl, dcomp_id hk.sh.mv.nd (by show k.2.2.2.2.length ≤ 1000; omega), ret_bnd, bnd_ok (dputA_opn (by decide) (by show k.1 ∉ t.kind_carried.map (·.1); rw [hc]; exact hn) (by show t.kind_carried.length ≤ 1000; omega))]
      rfl
    rw [List.map_cons, forL_cons, bnd_ok turn]
    show forL knBody (ks.map kndD) () (s, some (⟨t.column_sizes, t.kind_ends ++ [(k.1, (k.2.1, k.2.2.1))], t.kind_weights ++ [(k.1, k.2.2.2.1)], t.kind_carried ++ [(k.1, k.2.2.2.2)]⟩, 4)) = _
    rw [kinds_loop (s := s) hmc hcs ks ⟨t.column_sizes, t.kind_ends ++ [(k.1, (k.2.1, k.2.2.1))], t.kind_weights ++ [(k.1, k.2.2.2.1)], t.kind_carried ++ [(k.1, k.2.2.2.2)]⟩ ht (fun z hz => h z (List.mem_cons_of_mem _ hz)) (by rw [List.length_append]; simp only [List.length_cons, List.length_nil]; omega) (by rw [List.map_append, List.map_append, hw]; rfl) (by rw [List.map_append, List.map_append, hc]; rfl) (by rw [List.map_append, List.append_assoc]; exact nd)]
    simp only [List.append_assoc, List.map_cons, List.cons_append, List.nil_append]
theorem Cycle_init_eq {S : Type} {p : Pln} {mc mk : Nat} (hmc : mc ≤ 6) (hmk : mk ≤ 12) (h : PlnOk p mc mk) : (Cycle_init_m (p.1.map colD) (p.2.map kndD) : M S D_Cycle) = ret (cycD p) := by
  funext s
  have c0 := h.cs.l0
  have c1 := h.cs.l1
  have k0 := h.l0
  have k1 := h.l1
  unfold Cycle_init_m runO Cycle_init_mb
  rw [List.length_map, List.length_map, decide_eq_true (show (1 : Int) ≤ (p.1.length : Int) by omega), decide_eq_true (show (p.1.length : Int) ≤ 6 by omega), decide_eq_true (show (1 : Int) ≤ (p.2.length : Int) by omega), decide_eq_true (show (p.2.length : Int) ≤ 12 by omega)]
  (repeat first | rw [ret_bnd] | rw [ifT] | rw [ifF] | rw [Bool.not_true] | rw [Bool.not_false])
  rw [bnd_ok (show (newA opnL 0 (fun (t : D_Cycle) y => { t with column_sizes := y }) ([] : List (Str × (Int × Int))) : M (Opn S D_Cycle) Unit) (s, some (d0_Cycle, 0)) = .ok () (s, some (⟨[], [], [], []⟩, 1)) from rfl)]
  unfold thenB
  have lc := cols_loop (s := s) p.1 ⟨[], [], [], []⟩ h.cs.ok h.cs.nd (by show 0 + p.1.length ≤ 1000; omega)
  rw [bnd_ok lc]
  dsimp only [Fl.go]
  rw [bnd_ok (show (newA opnL 1 (fun (t : D_Cycle) y => { t with kind_ends := y }) ([] : List (Str × (Str × Str))) : M (Opn S D_Cycle) Unit) (s, some (⟨[] ++ sizesD p.1, [], [], []⟩, 1)) = .ok () (s, some (⟨sizesD p.1, [], [], []⟩, 2)) from rfl)]
  rw [bnd_ok (show (newA opnL 2 (fun (t : D_Cycle) y => { t with kind_weights := y }) ([] : List (Str × Int)) : M (Opn S D_Cycle) Unit) (s, some (⟨sizesD p.1, [], [], []⟩, 2)) = .ok () (s, some (⟨sizesD p.1, [], [], []⟩, 3)) from rfl)]
  rw [bnd_ok (show (newA opnL 3 (fun (t : D_Cycle) y => { t with kind_carried := y }) ([] : List (Str × (List (Str × (Str × Int))))) : M (Opn S D_Cycle) Unit) (s, some (⟨sizesD p.1, [], [], []⟩, 3)) = .ok () (s, some (⟨sizesD p.1, [], [], []⟩, 4)) from rfl)]
  have lk := kinds_loop (s := s) (show mc ≤ 20 by omega) h.cs p.2 ⟨sizesD p.1, [], [], []⟩ rfl h.ok (by show 0 + p.2.length ≤ 1000; omega) rfl rfl h.nd
  rw [bnd_ok lk]
  dsimp only [Fl.go]
  rw [bnd_ok (show (frzA opnL opnD 4 : M (Opn S D_Cycle) D_Cycle) (s, some (⟨sizesD p.1, [] ++ p.2.map (fun k => (k.1, (k.2.1, k.2.2.1))), [] ++ p.2.map (fun k => (k.1, k.2.2.2.1)), [] ++ p.2.map (fun k => (k.1, k.2.2.2.2))⟩, 4)) = .ok (cycD p) (s, none) from rfl)]
  rw [compM_all (g := fun e : Str × Str => decide (e.1 = ("absent" : Str))) (by show ((cycD p).kind_ends.map (·.2)).length ≤ _; rw [List.length_map]; show (p.2.map _).length ≤ _; rw [List.length_map, sline]; omega) fun x _ => rfl]
  rw [ret_bnd, ret_bnd]
  have ea : List.any (List.map (fun e : Str × Str => decide (e.1 = ("absent" : Str))) (List.map (·.2) (cycD p).kind_ends)) id = true := by
    obtain ⟨k, hk, e⟩ := h.ins
    refine List.any_eq_true.mpr ⟨true, ?_, rfl⟩
    refine List.mem_map.mpr ⟨(k.2.1, k.2.2.1), ?_, decide_eq_true e⟩
    exact List.mem_map.mpr ⟨(k.1, (k.2.1, k.2.2.1)), List.mem_map.mpr ⟨k, hk, rfl⟩, rfl⟩
  rw [ea]
  rfl
theorem cycle_eq {S : Type} {p : Pln} {mc mk : Nat} (hmc : mc ≤ 6) (hmk : mk ≤ 12) (h : PlnOk p mc mk) : (cycle_m p : M S D_Cycle) = ret (cycD p) := by
  have c1 := h.cs.l1
  have k1 := h.l1
  unfold cycle_m cycle_mb
  rw [compM_all (g := colD) (by rw [sline]; omega) fun c _ => Column_init_eq _ _ _, ret_bnd, compM_all (g := kndD) (by rw [sline]; omega) fun k _ => Kind_init_eq _ _ _ _ _, ret_bnd, Cycle_init_eq hmc hmk h]
  rfl
/-! ### k12 -/
theorem nd_rev {α : Type} {l : List α} (h : l.Nodup) : l.reverse.Nodup := by
  unfold List.Nodup at *
  rw [List.pairwise_reverse]
  exact h.imp fun q => q.symm
theorem kget {α : Type} {ks : List Knd} {g : Knd → α} (nd : (ks.map (·.1)).Nodup) {k : Knd} (h : k ∈ ks) : dget (ks.map fun k => (k.1, g k)) k.1 = some (g k) :=
  dget_of_mem (by rw [List.map_map]; exact nd) (List.mem_map.mpr ⟨k, h, rfl⟩)
theorem ends_of_eq {S : Type} {p : Pln} (nd : (p.2.map (·.1)).Nodup) {k : Knd} (h : k ∈ p.2) : (Cycle_ends_of_m (cycD p) k.1 : M S (Str × Str)) = ret (k.2.1, k.2.2.1) := by
  have e : dget (cycD p).kind_ends k.1 = some (k.2.1, k.2.2.1) := kget (g := fun k => (k.2.1, k.2.2.1)) nd h
  unfold Cycle_ends_of_m Cycle_ends_of_mb dhas
  rw [e]
  rfl
theorem carried_get {p : Pln} (nd : (p.2.map (·.1)).Nodup) {k : Knd} (h : k ∈ p.2) : dget (cycD p).kind_carried k.1 = some k.2.2.2.2 := kget (g := fun k => k.2.2.2.2) nd h
theorem written_by_eq {S : Type} {p : Pln} (nd : (p.2.map (·.1)).Nodup) (hl : p.1.length ≤ 100) {k : Knd} (h : k ∈ p.2) : (Cycle_written_by_m (cycD p) k.1 : M S (List Str)) = ret (if k.2.2.1 = ("absent" : Str) then [] else (p.1.map (·.1)).filter fun n => !decide (n ∈ k.2.2.2.2.map (·.1))) := by
  unfold Cycle_written_by_m Cycle_written_by_mb
  rw [ends_of_eq nd h, carried_get nd h, ret_bnd, ret_bnd, ret_bnd]
  by_cases c : k.2.2.1 = ("absent" : Str)
  · rw [if_pos c, decide_eq_true c]
    rfl
  · rw [if_neg c, decide_eq_false c, ifF, opt_some, ret_bnd, show List.map (·.1) (cycD p).column_sizes = p.1.map (·.1) from sizes_names p.1]
    rw [compM_ret (c := fun n => !decide (n ∈ k.2.2.2.2.map (·.1))) (g := fun n => n) (by rw [List.length_map, sline]; omega) (fun x _ => by rw [dhas_dec]) fun _ _ _ => rfl, ret_bnd, List.map_id']
    rfl
theorem dropped_by_eq {S : Type} {p : Pln} (nd : (p.2.map (·.1)).Nodup) (hl : p.1.length ≤ 100) {k : Knd} (h : k ∈ p.2) (hm : k.2.2.2.2.length ≤ 100) : (Cycle_dropped_by_m (cycD p) k.1 : M S (List Str)) = ret (if k.2.1 = ("absent" : Str) then [] else (p.1.map (·.1)).filter fun n => !decide (n ∈ k.2.2.2.2.map (·.2.1))) := by
  unfold Cycle_dropped_by_m Cycle_dropped_by_mb
  rw [ends_of_eq nd h, carried_get nd h, ret_bnd, ret_bnd, ret_bnd]
  by_cases c : k.2.1 = ("absent" : Str)
  · rw [if_pos c, decide_eq_true c]
    rfl
  · rw [if_neg c, decide_eq_false c, ifF, opt_some, ret_bnd, ret_bnd, show List.map (·.1) (cycD p).column_sizes = p.1.map (·.1) from sizes_names p.1]
    rw [compM_all (g := fun q : Str × Int => q.1) (by rw [List.length_map, sline]; omega) fun x _ => rfl, ret_bnd, List.map_map]
    have e : List.map ((fun q : Str × Int => q.1) ∘ fun x : Str × Str × Int => x.2) k.2.2.2.2 = k.2.2.2.2.map (·.2.1) := rfl
    rw [e]
    rw [compM_ret (c := fun n => !decide (n ∈ k.2.2.2.2.map (·.2.1))) (g := fun n => n) (by rw [List.length_map, sline]; omega) (fun x _ => rfl) fun _ _ _ => rfl, ret_bnd, List.map_id']
    rfl
theorem written_eq {S : Type} {p : Pln} {k : Knd} (hl : p.1.length ≤ 100) : (bnd (bnd (written_m p k) fun v43 => ret v43) fun v46 => compM (fun x44 => ret true) (fun x44 => ret x44.1) v46 : M S (List Str)) = ret (if k.2.2.1 = ("absent" : Str) then [] else (p.1.map (·.1)).filter fun n => !decide (n ∈ k.2.2.2.2.map (·.1))) := by
  unfold written_m written_mb
  rw [compM_ret (c := fun c : Str × Int × Int => !dhas k.2.2.2.2 c.1 && !decide (k.2.2.1 = ("absent" : Str))) (g := fun c => c) (by rw [sline]; omega) (fun x _ => by cases dhas k.2.2.2.2 x.1 <;> rfl) fun _ _ _ => rfl, ret_bnd, runF_rt, ret_bnd, ret_bnd, List.map_id']
  have hfl := List.length_filter_le (fun c : Str × Int × Int => !dhas k.2.2.2.2 c.1 && !decide (k.2.2.1 = ("absent" : Str))) p.1
  rw [compM_all (g := fun c : Str × Int × Int => c.1) (by rw [sline]; omega) fun x _ => rfl]
  congr 1
  by_cases c : k.2.2.1 = ("absent" : Str)
  · rw [if_pos c, List.filter_eq_nil_iff.mpr fun x _ => by rw [decide_eq_true c]; simp]
    rfl
  · rw [if_neg c, List.filter_map]
    congr 1
    apply List.filter_congr
    intro x _
    rw [decide_eq_false c, dhas_dec]
    simp
theorem dropped_eq {S : Type} {p : Pln} {k : Knd} (hl : p.1.length ≤ 100) (hm : k.2.2.2.2.length ≤ 100) (nd : (k.2.2.2.2.map (·.1)).Nodup) : (dropped_m p k : M S (List Str)) = ret (if k.2.1 = ("absent" : Str) then [] else (p.1.map (·.1)).filter fun n => !decide (n ∈ k.2.2.2.2.map (·.2.1))) := by
  unfold dropped_m dropped_mb
  by_cases c : k.2.1 = ("absent" : Str)
  · rw [if_pos c, decide_eq_true c]
    rfl
  · rw [if_neg c, decide_eq_false c, ifF]
    rw [compM_all (g := fun n : Str => ((dget k.2.2.2.2 n).map (·.1)).getD ("" : Str)) (by rw [List.length_map, sline]; omega) fun x hx => by
      obtain ⟨q, hq, rfl⟩ := List.mem_map.mp hx
      rw [dget_of_mem nd hq]
      rfl]
    rw [ret_bnd, List.map_map]
    have e : List.map ((fun n : Str => ((dget k.2.2.2.2 n).map (·.1)).getD ("" : Str)) ∘ fun x : Str × (Str × Int) => x.1) k.2.2.2.2 = k.2.2.2.2.map (·.2.1) := by
      apply List.map_congr_left
      intro q hq
      show ((dget k.2.2.2.2 q.1).map (·.1)).getD ("" : Str) = _
      rw [dget_of_mem nd hq]
      rfl
    rw [e, compM_ret (c := fun c : Str × Int × Int => !decide (c.1 ∈ k.2.2.2.2.map (·.2.1))) (g := fun c => c.1) (by rw [sline]; omega) (fun x _ => rfl) fun _ _ _ => rfl, ret_bnd, runF_rt, List.filter_map]
    rfl
/-! the moves in the opposite order -/
def turnK (k : Knd) : Knd := (k.1, k.2.1, k.2.2.1, k.2.2.2.1, k.2.2.2.2.reverse)
def turnP (p : Pln) : Pln := (p.1, p.2.map turnK)
theorem turned_eq {S : Type} {p : Pln} {mc mk : Nat} (hmc : mc ≤ 20) (hmk : mk ≤ 20) (h : PlnOk p mc mk) : (turned_moves_m p : M S Pln) = ret (turnP p) := by
  have c1 := h.cs.l1
  have k1 := h.l1
  have inner : ∀ (k : Knd) (hnd : (k.2.2.2.2.map (·.1)).Nodup) (ms acc : Mov), (∀ q ∈ ms, q ∈ k.2.2.2.2) → (acc.map (·.1) ++ ms.map (·.1)).Nodup → acc.length + ms.length ≤ 1000 →
      (forL (fun (x13 : Str) (t12 : Mov) => bnd (opt (dget k.2.2.2.2 x13)) fun v17 => bnd (dputM t12 x13 v17) fun moved19 => ret (.nx moved19)) (ms.map (·.1)) acc : M S (Fl Mov (List Knd) Pln)) = ret (.nx (acc ++ ms)) := by
    intro k hnd ms
    induction ms with
    | nil =>
      intro acc _ _ _
      rw [List.append_nil]
      rfl
    | cons q ms ih =>
      intro acc hm nd hl
      have hn : q.1 ∉ acc.map (·.1) := fun z => (List.nodup_append.mp nd).2.2 _ z q.1 List.mem_cons_self rfl
      rw [List.length_cons] at hl
      rw [List.map_cons, forL_cons, dget_of_mem hnd (hm q List.mem_cons_self), opt_some, ret_bnd]
      have e : (dputM acc q.1 q.2 : M S Mov) = ret (acc ++ [q]) := by
        unfold dputM
        rw [decide_eq_true (by rw [sline]; omega), grd_true, ret_bnd, dput_new hn]
      rw [e, ret_bnd, ret_bnd]
      show (forL _ (ms.map (·.1)) (acc ++ [q]) : M S (Fl Mov (List Knd) Pln)) = _
      rw [ih (acc ++ [q]) (fun z hz => hm z (List.mem_cons_of_mem _ hz)) (by rw [List.map_append, List.append_assoc]; exact nd) (by rw [List.length_append]; simp only [List.length_cons, List.length_nil]; omega), List.append_assoc]
      rfl
  have outer : ∀ (ks : List Knd) (acc : List Knd), (∀ k ∈ ks, k ∈ p.2) → acc.length + ks.length ≤ 1000 →
      (forL (fun (x6 : Knd) (t5 : List Knd) => thenB (forL (fun (x13 : Str) (t12 : Mov) => bnd (opt (dget x6.2.2.2.2 x13)) fun v17 => bnd (dputM t12 x13 v17) fun moved19 => ret (.nx moved19)) (List.reverse (List.map (·.1) x6.2.2.2.2)) ([] : Mov)) fun (t20 : Mov) => bnd (appM t5 (x6.1, x6.2.1, x6.2.2.1, x6.2.2.2.1, t20)) fun kinds21 => ret (.nx kinds21)) ks acc : M S (Fl (List Knd) Empty Pln)) = ret (.nx (acc ++ ks.map turnK)) := by
    intro ks
    induction ks with
    | nil =>
      intro acc _ _
      rw [List.map_nil, List.append_nil]
      rfl
    | cons k ks ih =>
      intro acc hm hl
      have hk := (h.ok k (hm k List.mem_cons_self)).sh.mv
      have hkn : (k.2.2.2.2.map (·.1)).Nodup := hk.nd
      have hkl : k.2.2.2.2.length ≤ p.1.length := hk.len
      rw [List.length_cons] at hl
      rw [forL_cons, ← List.map_reverse, inner k hkn k.2.2.2.2.reverse [] (fun q hq => List.mem_reverse.mp hq) (by rw [List.map_reverse]; exact nd_rev hkn) (by rw [List.length_reverse]; simp only [List.length_nil]; omega), thenB_nx, appM_of (by omega), ret_bnd, ret_bnd]
      show (forL _ ks (acc ++ [turnK k]) : M S (Fl (List Knd) Empty Pln)) = _
      rw [ih (acc ++ [turnK k]) (fun z hz => hm z (List.mem_cons_of_mem _ hz)) (by rw [List.length_append]; simp only [List.length_cons, List.length_nil]; omega), List.append_assoc]
      rfl
  unfold turned_moves_m turned_moves_mb
  rw [outer p.2 [] (fun k hk => hk) (by simp only [List.length_nil]; omega), thenB_nx]
  rfl
theorem turn_ok {p : Pln} {mc mk : Nat} (h : PlnOk p mc mk) : PlnOk (turnP p) mc mk := by
  have hn : (turnP p).2.map (·.1) = p.2.map (·.1) := by
    show (p.2.map turnK).map (·.1) = _
    rw [List.map_map]
    rfl
  refine ⟨h.cs, by show 1 ≤ (p.2.map turnK).length; rw [List.length_map]; exact h.l0, by show (p.2.map turnK).length ≤ mk; rw [List.length_map]; exact h.l1, by rw [hn]; exact h.nd, fun k hk => ?_, ?_⟩
  · obtain ⟨k0, h0, rfl⟩ := List.mem_map.mp hk
    have z := h.ok k0 h0
    have m := z.sh.mv
    refine ⟨z.nm, ⟨z.sh.v1, z.sh.v2, fun c => ?_, ⟨?_, ?_, ?_, fun q hq => m.ok q (List.mem_reverse.mp hq)⟩⟩, z.w0, z.w1⟩
    · obtain ⟨a1, a2⟩ := z.sh.ab c
      refine ⟨a1, ?_⟩
      have a2 : k0.2.2.2.2 = [] := a2
      show k0.2.2.2.2.reverse = []
      rw [a2]
      rfl
    · show (k0.2.2.2.2.reverse.map (·.1)).Nodup
      rw [List.map_reverse]
      exact nd_rev m.nd
    · show (k0.2.2.2.2.reverse.map (·.2.1)).Nodup
      rw [List.map_reverse]
      exact nd_rev m.nd2
    · show k0.2.2.2.2.reverse.length ≤ _
      rw [List.length_reverse]
      exact m.len
  · obtain ⟨k, hk, e⟩ := h.ins
    exact ⟨turnK k, List.mem_map.mpr ⟨k, hk, rfl⟩, e⟩
theorem gv_eq {α : Type} {a : α} {m : M Bag α} {Q : α → Prop} (e : m = ret a) (h : Q a) : Gv m Q := by rw [e]; exact gv_ret h
theorem good : ∀ ns : List Int, ns.length ≤ 63 → ∃ b, law_mb bagI (bag0 ns) = .ok (.rt true) b := by
  have main : Gv (law_mb bagI) fun fl => fl = .rt true := by
    unfold law_mb
    refine gv_bnd (gv_plan (by decide) (by decide) (by decide) (by decide)) fun p hp => ?_
    have hp : PlnOk p 6 12 := hp
    have c1 := hp.cs.l1
    have k1 := hp.l1
    rw [cycle_eq (by decide) (by decide) hp, ret_bnd]
    -- the cycle that is asked, and in which order
    refine gv_then (P := fun t => (∀ k ∈ t.1, k ∈ p.2) ∧ (t.2 = cycD p ∨ t.2 = cycD (turnP p))) ?_ fun t ⟨ht1, ht2⟩ => ?_
    · refine gv_on (gv_on (gv_draw (by decide) (by decide) fun d d0 d1 => gv_ret ?_))
      refine gv_ite (fun _ => ?_) fun _ => gv_nx ⟨fun k hk => hk, .inl rfl⟩
      rw [ret_bnd, turned_eq (by decide) (by decide) hp, ret_bnd, cycle_eq (by decide) (by decide) (turn_ok hp), ret_bnd]
      exact gv_nx ⟨fun k hk => List.mem_reverse.mp hk, .inr rfl⟩
    refine gv_on (gv_draw (by decide) (by decide) fun late d0 d1 => ?_)
    have all : ∀ k ∈ p.2, (Cycle_dropped_by_m t.2 k.1 : M Bag (List Str)) = dropped_m p k ∧ (Cycle_written_by_m t.2 k.1 : M Bag (List Str)) = (bnd (bnd (written_m p k) fun v43 => ret v43) fun v46 => compM (fun x44 => ret true) (fun x44 => ret x44.1) v46) := fun k hk => by
      have hm := (hp.ok k hk).sh.mv
      have hml : k.2.2.2.2.length ≤ p.1.length := hm.len
      rw [dropped_eq (by omega) (by omega) hm.nd, written_eq (by omega)]
      rcases ht2 with e | e
      · rw [e, dropped_by_eq hp.nd (by omega) hk (by omega), written_by_eq hp.nd (by omega) hk]
        exact ⟨rfl, rfl⟩
      · have hp2 := turn_ok hp
        have hk2 : turnK k ∈ (turnP p).2 := List.mem_map.mpr ⟨k, hk, rfl⟩
        have e1 := dropped_by_eq (S := Bag) hp2.nd (by show p.1.length ≤ 100; omega) hk2 (by show k.2.2.2.2.reverse.length ≤ 100; rw [List.length_reverse]; omega)
        have e2 := written_by_eq (S := Bag) hp2.nd (by show p.1.length ≤ 100; omega) hk2
        rw [e]
        refine ⟨e1.trans ?_, e2.trans ?_⟩
        · show ret (if k.2.1 = ("absent" : Str) then [] else (p.1.map (·.1)).filter fun n => !decide (n ∈ k.2.2.2.2.reverse.map (·.2.1))) = _
          simp only [List.map_reverse, List.mem_reverse]
        · show ret (if k.2.2.1 = ("absent" : Str) then [] else (p.1.map (·.1)).filter fun n => !decide (n ∈ k.2.2.2.2.reverse.map (·.1))) = _
          simp only [List.map_reverse, List.mem_reverse]
    have vd : ∀ k ∈ p.2, ∃ xs : List Str, (dropped_m p k : M Bag (List Str)) = ret xs ∧ ∀ x ∈ xs, VName x := fun k hk => by
      have hm := (hp.ok k hk).sh.mv
      have hml : k.2.2.2.2.length ≤ p.1.length := hm.len
      refine ⟨_, dropped_eq (by omega) (by omega) hm.nd, fun x hx => ?_⟩
      split at hx
      · cases hx
      · obtain ⟨c, hc, rfl⟩ := List.mem_map.mp (List.mem_filter.mp hx).1
        exact (hp.cs.ok c hc).nm
    have vw : ∀ k ∈ p.2, ∃ xs : List Str, (bnd (bnd (written_m p k) fun v43 => ret v43) fun v46 => compM (fun x44 => ret true) (fun x44 => ret x44.1) v46 : M Bag (List Str)) = ret xs ∧ ∀ x ∈ xs, VName x := fun k hk => by
      refine ⟨_, written_eq (by omega), fun x hx => ?_⟩
      split at hx
      · cases hx
      · obtain ⟨c, hc, rfl⟩ := List.mem_map.mp (List.mem_filter.mp hx).1
        exact (hp.cs.ok c hc).nm
    refine gv_then (P := fun _ => True) ?_ fun _ _ => gv_ret rfl
    refine (gv_for (fun _ _ => True) True.intro ?_).imp fun fl ⟨t, e, _⟩ => ⟨t, e, True.intro⟩
    rintro pre k post u e _
    have hk : k ∈ p.2 := ht1 k (by rw [e]; simp)
    obtain ⟨a1, a2⟩ := all k hk
    obtain ⟨xs, ex, vx⟩ := vd k hk
    obtain ⟨ys, ey, vy⟩ := vw k hk
    rw [a1, a2, ex, ey]
    have q1 : (bnd (ret xs) fun v33 => bnd (ret xs) fun v34 => neM (fun xs => List.all xs PyData.strOk) v33 v34 : M Bag Bool) = ret false := by
      rw [ret_bnd, ret_bnd, neM_of vx vx, decide_eq_true rfl]
      rfl
    have q2 : (bnd (ret ys) fun v47 => bnd (ret ys) fun v48 => neM (fun xs => List.all xs PyData.strOk) v47 v48 : M Bag Bool) = ret false := by
      rw [ret_bnd, ret_bnd, neM_of vy vy, decide_eq_true rfl]
      rfl
    rw [q1, q2]
    have q3 : (if (decide (late = (1 : Int))) then (ret false) else ret false : M Bag Bool) = ret false := by cases decide (late = (1 : Int)) <;> rfl
    rw [q3, ret_bnd, ifF, ret_bnd, ifF, ret_bnd, ifF]
    exact gv_nx True.intro
  intro ns _
  obtain ⟨a, s', h1, _, h2⟩ := main (bag0 ns) (by show (0 : Int) ≤ 0; decide)
  rw [h2] at h1
  exact ⟨s', h1⟩
end Lw
set_option maxHeartbeats 0
namespace Lw
open PySem PySem.Spec PyProof.Rows L2 DL
abbrev st_bag : Stmt := (top 21)
theorem sc_bag : FnScope ["_law_script"] ["_law_script"] (defScope st_bag) := ⟨rfl, rfl, rfl, by decide +kernel, rfl, by decide +kernel, by decide +kernel⟩
theorem ok_bag {P : Program} {w : World} {K : PySem.W.Frag} {mg : Str → Option Value} {base : Heap} {f : Addr} {fd : FuncData} (F : FnP K "_law_bag" "_law_bag" st_bag [] [] f fd) (gl : mg "list" = none) : FnOk P w K mg base (L2.CX P w) 1 f fd ["_law_script"] (spBag K) := by
  refine F.ok sc_bag (fun vs H Q E ⟨a, ns, ev, _⟩ => by rw [ev]; rfl) fun cdv A outer s H vs Q E hr ⟨a, ns, ev, hS, q⟩ => ?_
  subst ev
  refine ⟨_, pss_one (ps_ret (pe_lst (pa_cons (pe_callTy call_list_of (by rfl) gl (by decide +kernel) (pa_cons (pv 0) pa_nil)) (pa_cons pe_int (pa_cons pe_int (pa_cons pe_int (pa_cons pe_int pa_nil))))))), ?_⟩
  refine ⟨_, rfl, a, _, rfl, .inl hS, fun al nal => ⟨le_line (by simp), fun ab nab => ?_⟩⟩
  have ne : ab ≠ al := fun z => by rw [z, upd_same] at nab; cases nab
  rw [upd_ne ne] at nab
  exact q al ab nal nab (Ne.symm ne)
/-! ### the head -/
def d0 : He.DefD := ⟨("Column", some "__init__"), "__init__", "Column.__init__", defArgs (inClass (top 15) 0), defBody (inClass (top 15) 0), defScope (inClass (top 15) 0), [], [("width", (.int 1)), ("modulus", (.int 0))]⟩
def d1 : He.DefD := ⟨("Kind", some "__init__"), "__init__", "Kind.__init__", defArgs (inClass (top 16) 0), defBody (inClass (top 16) 0), defScope (inClass (top 16) 0), [], [("weight", (.int 1)), ("carried", .non)]⟩
def d2 : He.DefD := ⟨("valid_name", none), "valid_name", "valid_name", defArgs (top 17), defBody (top 17), defScope (top 17), [], []⟩
def d3 : He.DefD := ⟨("valid_column", none), "valid_column", "valid_column", defArgs (top 18), defBody (top 18), defScope (top 18), [], []⟩
def d4 : He.DefD := ⟨("Cycle", some "__init__"), "__init__", "Cycle.__init__", defArgs (inClass (top 19) 0), defBody (inClass (top 19) 0), defScope (inClass (top 19) 0), [], []⟩
def d5 : He.DefD := ⟨("Cycle", some "allows"), "allows", "Cycle.allows", defArgs (inClass (top 19) 1), defBody (inClass (top 19) 1), defScope (inClass (top 19) 1), [], []⟩
def d6 : He.DefD := ⟨("Cycle", some "ends_of"), "ends_of", "Cycle.ends_of", defArgs (inClass (top 19) 9), defBody (inClass (top 19) 9), defScope (inClass (top 19) 9), [], []⟩
def d7 : He.DefD := ⟨("Cycle", some "written_by"), "written_by", "Cycle.written_by", defArgs (inClass (top 19) 11), defBody (inClass (top 19) 11), defScope (inClass (top 19) 11), [], []⟩
def d8 : He.DefD := ⟨("Cycle", some "dropped_by"), "dropped_by", "Cycle.dropped_by", defArgs (inClass (top 19) 12), defBody (inClass (top 19) 12), defScope (inClass (top 19) 12), [], []⟩
def d9 : He.DefD := ⟨("_law_bag", none), "_law_bag", "_law_bag", defArgs (top 21), defBody (top 21), defScope (top 21), [], []⟩
def d10 : He.DefD := ⟨("_law_draw", none), "_law_draw", "_law_draw", defArgs (top 22), defBody (top 22), defScope (top 22), [], []⟩
def d11 : He.DefD := ⟨("_law_names", none), "_law_names", "_law_names", defArgs (top 23), defBody (top 23), defScope (top 23), [], []⟩
def d12 : He.DefD := ⟨("_law_ring", none), "_law_ring", "_law_ring", defArgs (top 24), defBody (top 24), defScope (top 24), [], []⟩
def d13 : He.DefD := ⟨("_law_size", none), "_law_size", "_law_size", defArgs (top 25), defBody (top 25), defScope (top 25), [], []⟩
def d14 : He.DefD := ⟨("_law_columns", none), "_law_columns", "_law_columns", defArgs (top 26), defBody (top 26), defScope (top 26), [], []⟩
def d15 : He.DefD := ⟨("_law_moved", none), "_law_moved", "_law_moved", defArgs (top 27), defBody (top 27), defScope (top 27), [], []⟩
def d16 : He.DefD := ⟨("_law_plan", none), "_law_plan", "_law_plan", defArgs (top 28), defBody (top 28), defScope (top 28), [], []⟩
def d17 : He.DefD := ⟨("_law_cycle", none), "_law_cycle", "_law_cycle", defArgs (top 29), defBody (top 29), defScope (top 29), [], []⟩
def d18 : He.DefD := ⟨("_law_written", none), "_law_written", "_law_written", defArgs (top 30), defBody (top 30), defScope (top 30), [], []⟩
def d19 : He.DefD := ⟨("_law_turned_moves", none), "_law_turned_moves", "_law_turned_moves", defArgs (top 31), defBody (top 31), defScope (top 31), [], []⟩
def d20 : He.DefD := ⟨("_law_dropped", none), "_law_dropped", "_law_dropped", defArgs (top 32), defBody (top 32), defScope (top 32), [], []⟩
def d21 : He.DefD := ⟨("law", none), "law", "law", defArgs (top 33), defBody (top 33), defScope (top 33), [], []⟩
def fn : List He.DefD := [d0, d1, d2, d3, d4, d5, d6, d7, d8, d9, d10, d11, d12, d13, d14, d15, d16, d17, d18, d19, d20, d21]
def fa : List He.Fa := [.free "any", .free "dict", .free "int", .free "len", .free "list", .free "max", .free "range", .str "ABSENT" "absent", .int "GREATEST_AMOUNT" 1000000, .int "GREATEST_SIZE" 1000, .str "LETTERS" "abcdefghijklmnopqrstuvwxyz", .int "LONGEST_NAME" 12, .int "MOST_COLUMNS" 6, .int "MOST_KINDS" 12, .cls "Column", .noat "Column" "name", .noat "Column" "width", .noat "Column" "modulus", .cls "Kind", .noat "Kind" "name", .noat "Kind" "source", .noat "Kind" "target", .noat "Kind" "weight", .noat "Kind" "carried", .cls "Cycle", .noat "Cycle" "column_sizes", .noat "Cycle" "kind_ends", .noat "Cycle" "kind_weights", .noat "Cycle" "kind_carried", .free "abs", .glo "_law_draw", .glo "_law_names", .glo "_law_ring", .glo "_law_size", .glo "_law_columns", .glo "_law_moved", .glo "_law_plan", .glo "_law_written", .glo "_law_dropped", .glo "_law_turned_moves", .glo "valid_name", .glo "valid_column", .glo "Column", .mkr "Column", .glo "Kind", .mkr "Kind", .meth "Cycle" "allows", .glo "Cycle", .mkr "Cycle", .meth "Cycle" "ends_of", .meth "Cycle" "written_by", .meth "Cycle" "dropped_by", .glo "_law_cycle", .glo "_law_bag", .glo "law"]
abbrev R : PySem.W.OpenRow := PySem.W.OpenLaw.row PySem.Challenge.rw_imagefeeds_k12_written_and_dropped
abbrev hk : PySem.W.Hook := He.hookD 5 fa fn
def ob (s : PySem.W.SharedT) : He.AlD := He.obsDG 5 fa fn (HandSHeadRun.getT s)
theorem ob_eq (s : PySem.W.SharedT) : ob s = hk.obs s.abs := He.obsDG_eq (HandSHeadRun.getT_eq s)
def loose : List PySem.Str := (["_wall", "FeedError", "InvalidColumn", "InvalidKind", "InvalidCycle", "UnknownName", "ABSENT", "LETTERS", "LONGEST_NAME", "MOST_COLUMNS", "MOST_KINDS", "GREATEST_SIZE", "GREATEST_AMOUNT", "Column", "Kind", "valid_name", "valid_column", "Cycle", "_law_bag", "_law_draw", "_law_names", "_law_ring", "_law_size", "_law_columns", "_law_moved", "_law_plan", "_law_cycle", "_law_written", "_law_turned_moves", "_law_dropped"] : List PySem.Str)
theorem run (w : World) : HandSHeadRun.RunEq R (PySem.W.view R.prog [33]) hk ob 3000 loose w := by
  intro os
  kernel_rfl
theorem facts (good : ∀ ns : List Int, ns.length ≤ 63 → ∃ b, law_mb bagI (bag0 ns) = .ok (.rt true) b) {P : Program} {w : World} {K : PySem.W.Frag} {h : Heap} {mg : Str → Option Value} {f : Addr} (X : K.In h) (G : h.Ns mainGlobals mg) (hfa : mg ("law" : Str) = some (.ref f)) (c : He.SaysD fa fn K) :
    ∃ fd : FuncData, (∀ (s : Shared) (v : Value), BindsTo s fd ⟨[v], []⟩ [("_law_script", v)]) ∧ ∀ base : Heap, K.In base → base.Ns mainGlobals mg → FnOk P w K mg base CX0 6 f fd ["_law_script"] (spLaw K) := by
  obtain ⟨fdL0, FL0⟩ := c.def_ 21 (d := d21) rfl
  have e := hfa.symm.trans (He.glo_ok X G (c.fact 54 (f := .glo "law") rfl))
  cases e
  have bL := FunD.bindsA (ps := ["_law_script"]) FL0 fun _ _ _ _ _ _ us hl => match us, hl with | [_], _ => rfl
  refine ⟨fdL0, fun s v => bL s [v] rfl, fun base _ _ => ?_⟩
  have T : Txt K mg := ⟨He.free_ok X G (c.fact 0 (f := .free "any") rfl), He.free_ok X G (c.fact 1 (f := .free "dict") rfl), He.free_ok X G (c.fact 2 (f := .free "int") rfl), He.free_ok X G (c.fact 3 (f := .free "len") rfl), He.free_ok X G (c.fact 4 (f := .free "list") rfl), He.free_ok X G (c.fact 5 (f := .free "max") rfl), He.free_ok X G (c.fact 6 (f := .free "range") rfl), He.str_ok X G (c.fact 7 (f := .str "ABSENT" "absent") rfl), He.int_ok X G (c.fact 8 (f := .int "GREATEST_AMOUNT" 1000000) rfl), He.int_ok X G (c.fact 9 (f := .int "GREATEST_SIZE" 1000) rfl), He.str_ok X G (c.fact 10 (f := .str "LETTERS" "abcdefghijklmnopqrstuvwxyz") rfl), He.int_ok X G (c.fact 11 (f := .int "LONGEST_NAME" 12) rfl), He.int_ok X G (c.fact 12 (f := .int "MOST_COLUMNS" 6) rfl), He.int_ok X G (c.fact 13 (f := .int "MOST_KINDS" 12) rfl), He.cls_ok (c.fact 14 (f := .cls "Column") rfl), He.noat_ok (c.fact 15 (f := .noat "Column" "name") rfl), He.noat_ok (c.fact 16 (f := .noat "Column" "width") rfl), He.noat_ok (c.fact 17 (f := .noat "Column" "modulus") rfl), He.cls_ok (c.fact 18 (f := .cls "Kind") rfl), He.noat_ok (c.fact 19 (f := .noat "Kind" "name") rfl), He.noat_ok (c.fact 20 (f := .noat "Kind" "source") rfl), He.noat_ok (c.fact 21 (f := .noat "Kind" "target") rfl), He.noat_ok (c.fact 22 (f := .noat "Kind" "weight") rfl), He.noat_ok (c.fact 23 (f := .noat "Kind" "carried") rfl), He.cls_ok (c.fact 24 (f := .cls "Cycle") rfl), He.noat_ok (c.fact 25 (f := .noat "Cycle" "column_sizes") rfl), He.noat_ok (c.fact 26 (f := .noat "Cycle" "kind_ends") rfl), He.noat_ok (c.fact 27 (f := .noat "Cycle" "kind_weights") rfl), He.noat_ok (c.fact 28 (f := .noat "Cycle" "kind_carried") rfl)⟩
  obtain ⟨fdD, FD⟩ := c.def_ 10 (d := d10) rfl
  have C_draw : FnC P w K mg base "_law_draw" 1 (sp_draw K mg) := FnC.of (ok_draw FD (He.free_ok X G (c.fact 3 (f := .free "len") rfl)) (He.free_ok X G (c.fact 29 (f := .free "abs") rfl)) (He.free_ok X G (c.fact 2 (f := .free "int") rfl))) (He.glo_ok X G (c.fact 30 (f := .glo "_law_draw") rfl)) FD.kp (FunD.bindsN (ps := ["_law_bag_here", "_law_size_here"]) FD fun _ _ _ _ _ _ us hl => match us, hl with | [_, _], _ => rfl)
  obtain ⟨fdnames, Fnames⟩ := c.def_ 11 (d := d11) rfl
  have C_names : FnC P w K mg base "_law_names" 2 (sp_names K mg) := FnC.of (ok_names Fnames T C_draw) (He.glo_ok X G (c.fact 31 (f := .glo "_law_names") rfl)) Fnames.kp (FunD.bindsN (ps := ["_law_bag_here", "_law_count", "_law_words"]) Fnames fun _ _ _ _ _ _ us hl => match us, hl with | [_, _, _], _ => rfl)
  obtain ⟨fdring, Fring⟩ := c.def_ 12 (d := d12) rfl
  have C_ring : FnC P w K mg base "_law_ring" 2 (sp_ring K mg) := FnC.of (ok_ring Fring T C_draw) (He.glo_ok X G (c.fact 32 (f := .glo "_law_ring") rfl)) Fring.kp (FunD.bindsN (ps := ["_law_bag_here"]) Fring fun _ _ _ _ _ _ us hl => match us, hl with | [_], _ => rfl)
  obtain ⟨fdsize, Fsize⟩ := c.def_ 13 (d := d13) rfl
  have C_size : FnC P w K mg base "_law_size" 2 (sp_size K mg) := FnC.of (ok_size Fsize T C_draw) (He.glo_ok X G (c.fact 33 (f := .glo "_law_size") rfl)) Fsize.kp (FunD.bindsN (ps := ["_law_bag_here"]) Fsize fun _ _ _ _ _ _ us hl => match us, hl with | [_], _ => rfl)
  obtain ⟨fdcolumns, Fcolumns⟩ := c.def_ 14 (d := d14) rfl
  have C_columns : FnC P w K mg base "_law_columns" 3 (sp_columns K mg) := FnC.of (ok_columns Fcolumns T C_names C_draw C_ring C_size) (He.glo_ok X G (c.fact 34 (f := .glo "_law_columns") rfl)) Fcolumns.kp (FunD.bindsN (ps := ["_law_bag_here", "_law_most"]) Fcolumns fun _ _ _ _ _ _ us hl => match us, hl with | [_, _], _ => rfl)
  obtain ⟨fdmoved, Fmoved⟩ := c.def_ 15 (d := d15) rfl
  have C_moved : FnC P w K mg base "_law_moved" 2 (sp_moved K mg) := FnC.of (ok_moved Fmoved T C_draw) (He.glo_ok X G (c.fact 35 (f := .glo "_law_moved") rfl)) Fmoved.kp (FunD.bindsN (ps := ["_law_bag_here", "_law_columns_here"]) Fmoved fun _ _ _ _ _ _ us hl => match us, hl with | [_, _], _ => rfl)
  obtain ⟨fdplan, Fplan⟩ := c.def_ 16 (d := d16) rfl
  have C_plan : FnC P w K mg base "_law_plan" 4 (sp_plan K mg) := FnC.of (ok_plan Fplan T C_columns C_names C_draw C_moved C_size) (He.glo_ok X G (c.fact 36 (f := .glo "_law_plan") rfl)) Fplan.kp (FunD.bindsN (ps := ["_law_bag_here", "_law_most_columns", "_law_most_kinds"]) Fplan fun _ _ _ _ _ _ us hl => match us, hl with | [_, _, _], _ => rfl)
  obtain ⟨fdwritten, Fwritten⟩ := c.def_ 18 (d := d18) rfl
  have C_written : FnC P w K mg base "_law_written" 1 (sp_written K mg) := FnC.of (ok_written Fwritten T) (He.glo_ok X G (c.fact 37 (f := .glo "_law_written") rfl)) Fwritten.kp (FunD.bindsN (ps := ["_law_plan_here", "_law_kind"]) Fwritten fun _ _ _ _ _ _ us hl => match us, hl with | [_, _], _ => rfl)
  obtain ⟨fddropped, Fdropped⟩ := c.def_ 20 (d := d20) rfl
  have C_dropped : FnC P w K mg base "_law_dropped" 1 (sp_dropped K mg) := FnC.of (ok_dropped Fdropped T) (He.glo_ok X G (c.fact 38 (f := .glo "_law_dropped") rfl)) Fdropped.kp (FunD.bindsN (ps := ["_law_plan_here", "_law_kind"]) Fdropped fun _ _ _ _ _ _ us hl => match us, hl with | [_, _], _ => rfl)
  obtain ⟨fdturned_moves, Fturned_moves⟩ := c.def_ 19 (d := d19) rfl
  have C_turned_moves : FnC P w K mg base "_law_turned_moves" 1 (sp_turned_moves K mg) := FnC.of (ok_turned_moves Fturned_moves T) (He.glo_ok X G (c.fact 39 (f := .glo "_law_turned_moves") rfl)) Fturned_moves.kp (FunD.bindsN (ps := ["_law_plan_here"]) Fturned_moves fun _ _ _ _ _ _ us hl => match us, hl with | [_], _ => rfl)
  obtain ⟨fdvalid_name, Fvalid_name⟩ := c.def_ 2 (d := d2) rfl
  have C_valid_name : FnC P w K mg base "valid_name" 1 (sp_valid_name K mg) := FnC.of (ok_valid_name Fvalid_name T) (He.glo_ok X G (c.fact 40 (f := .glo "valid_name") rfl)) Fvalid_name.kp (FunD.bindsN (ps := ["name"]) Fvalid_name fun _ _ _ _ _ _ us hl => match us, hl with | [_], _ => rfl)
  obtain ⟨fdvalid_column, Fvalid_column⟩ := c.def_ 3 (d := d3) rfl
  have C_valid_column : FnC P w K mg base "valid_column" 2 (sp_valid_column K mg) := FnC.of (ok_valid_column Fvalid_column T C_valid_name) (He.glo_ok X G (c.fact 41 (f := .glo "valid_column") rfl)) Fvalid_column.kp (FunD.bindsN (ps := ["column"]) Fvalid_column fun _ _ _ _ _ _ us hl => match us, hl with | [_], _ => rfl)
  obtain ⟨fdColumn_init, FColumn_init⟩ := c.def_ 0 (d := d0) rfl
  obtain ⟨mvColumn_init, kbColumn_init⟩ := FunD.kbinds0 (ps := ["self", "name", "width", "modulus"]) FColumn_init 2 ["width", "modulus"] [] (fun us _ ws => us ++ ws) (fun h => by cases h) (fun q h => by cases h) (fun r1 _ r2 => r1.append r2) (fun _ _ _ _ _ _ us mv ws h1 _ h3 => match us, ws, h1, h3 with | [_, _], [_, _], _, _ => rfl)
  have C_Column_init : MkC P w K mg base "Column" 1 (He.ga K "Column") 1 ["width", "modulus"] (fun vs zs => vs ++ zs) (sp_Column_init K mg) := ⟨_, _, _, _, (ok_Column_init FColumn_init T), (He.glo_ok X G (c.fact 42 (f := .glo "Column") rfl)), He.mkr_ok (c.fact 43 (f := .mkr "Column") rfl), kbColumn_init⟩
  obtain ⟨fdKind_init, FKind_init⟩ := c.def_ 1 (d := d1) rfl
  obtain ⟨mvKind_init, kbKind_init⟩ := FunD.kbinds0 (ps := ["self", "name", "source", "target", "weight", "carried"]) FKind_init 4 ["weight", "carried"] [] (fun us _ ws => us ++ ws) (fun h => by cases h) (fun q h => by cases h) (fun r1 _ r2 => r1.append r2) (fun _ _ _ _ _ _ us mv ws h1 _ h3 => match us, ws, h1, h3 with | [_, _, _, _], [_, _], _, _ => rfl)
  have C_Kind_init : MkC P w K mg base "Kind" 1 (He.ga K "Kind") 3 ["weight", "carried"] (fun vs zs => vs ++ zs) (sp_Kind_init K mg) := ⟨_, _, _, _, (ok_Kind_init FKind_init T), (He.glo_ok X G (c.fact 44 (f := .glo "Kind") rfl)), He.mkr_ok (c.fact 45 (f := .mkr "Kind") rfl), kbKind_init⟩
  obtain ⟨fdCycle_allows_am, FCycle_allows_am⟩ := c.def_ 5 (d := d5) rfl
  have C_Cycle_allows_am : MtC P w K mg base (He.ga K "Cycle") "allows" 2 (sp_Cycle_allows_am K mg) := ⟨_, _, _, (ok_Cycle_allows_am FCycle_allows_am T C_valid_name), He.meth_ok (c.fact 46 (f := .meth "Cycle" "allows") rfl), (FunD.bindsN (ps := ["self", "kind"]) FCycle_allows_am fun _ _ _ _ _ _ us hl => match us, hl with | [_, _], _ => rfl)⟩
  obtain ⟨fdCycle_init, FCycle_init⟩ := c.def_ 4 (d := d4) rfl
  have C_Cycle_init : MkC P w K mg base "Cycle" 3 (He.ga K "Cycle") 2 [] (fun vs zs => vs ++ zs) (sp_Cycle_init K mg) := ⟨_, _, _, _, (ok_Cycle_init FCycle_init T C_valid_column C_Cycle_allows_am), (He.glo_ok X G (c.fact 47 (f := .glo "Cycle") rfl)), He.mkr_ok (c.fact 48 (f := .mkr "Cycle") rfl), kbn_all (FunD.bindsN (ps := ["self", "columns", "kinds"]) FCycle_init fun _ _ _ _ _ _ us hl => match us, hl with | [_, _, _], _ => rfl) rfl⟩
  obtain ⟨fdCycle_ends_of, FCycle_ends_of⟩ := c.def_ 6 (d := d6) rfl
  have C_Cycle_ends_of : MtC P w K mg base (He.ga K "Cycle") "ends_of" 1 (sp_Cycle_ends_of K mg) := ⟨_, _, _, (ok_Cycle_ends_of FCycle_ends_of T), He.meth_ok (c.fact 49 (f := .meth "Cycle" "ends_of") rfl), (FunD.bindsN (ps := ["self", "kind"]) FCycle_ends_of fun _ _ _ _ _ _ us hl => match us, hl with | [_, _], _ => rfl)⟩
  obtain ⟨fdCycle_written_by, FCycle_written_by⟩ := c.def_ 7 (d := d7) rfl
  have C_Cycle_written_by : MtC P w K mg base (He.ga K "Cycle") "written_by" 2 (sp_Cycle_written_by K mg) := ⟨_, _, _, (ok_Cycle_written_by FCycle_written_by T C_Cycle_ends_of), He.meth_ok (c.fact 50 (f := .meth "Cycle" "written_by") rfl), (FunD.bindsN (ps := ["self", "kind"]) FCycle_written_by fun _ _ _ _ _ _ us hl => match us, hl with | [_, _], _ => rfl)⟩
  obtain ⟨fdCycle_dropped_by, FCycle_dropped_by⟩ := c.def_ 8 (d := d8) rfl
  have C_Cycle_dropped_by : MtC P w K mg base (He.ga K "Cycle") "dropped_by" 2 (sp_Cycle_dropped_by K mg) := ⟨_, _, _, (ok_Cycle_dropped_by FCycle_dropped_by T C_Cycle_ends_of), He.meth_ok (c.fact 51 (f := .meth "Cycle" "dropped_by") rfl), (FunD.bindsN (ps := ["self", "kind"]) FCycle_dropped_by fun _ _ _ _ _ _ us hl => match us, hl with | [_, _], _ => rfl)⟩
  obtain ⟨fdcycle, Fcycle⟩ := c.def_ 17 (d := d17) rfl
  have C_cycle : FnC P w K mg base "_law_cycle" 5 (sp_cycle K mg) := FnC.of (ok_cycle Fcycle T C_Column_init C_Kind_init C_Cycle_init) (He.glo_ok X G (c.fact 52 (f := .glo "_law_cycle") rfl)) Fcycle.kp (FunD.bindsN (ps := ["_law_plan_here"]) Fcycle fun _ _ _ _ _ _ us hl => match us, hl with | [_], _ => rfl)
  obtain ⟨fdB, FB⟩ := c.def_ 9 (d := d9) rfl
  have okL : FnOk P w K mg base CX0 6 (He.ga K "law") fdL0 ["_law_script"] (spLaw K) := by
    refine law_glue (k := 5) (i := 1) (mb := law_mb bagI) (Γ0 := fun ab => [none, some (.fz (rBag ab ())), none, none, none, none, none, none]) FL0 sc_law (ok_bag FB (He.free_ok X G (c.fact 4 (f := .free "list") rfl))) (He.glo_ok X G (c.fact 53 (f := .glo "_law_bag") rfl)) FB.kp (FunD.bindsN (ps := ["_law_script"]) FB fun _ _ _ _ _ _ us hl => match us, hl with | [_], _ => rfl) rfl (by decide) rfl (by decide) (by first | exact .inl rfl | exact .inr rfl) (fun _ _ _ _ _ _ => pv 0) (fun _ _ _ _ _ _ => by first | exact .inl rfl | exact .inr rfl) (fun _ _ _ _ _ _ => rfl) (fun _ _ _ _ _ _ => by rfl) ?_ (fun _ => by exact Nat.le_of_ble_eq_true rfl) ?_ good
    · intro ab j y e
      rcases j with _ | _ | _ | _ | _ | _ | _ | _ | _ <;> first | (simp at e; done) | (simp at e; exact ⟨rfl, e.symm⟩)
    · intro cdv A outer s H E Fm ab al ne hr z
      exact body_law (bagC ab al ne) T C_plan C_cycle C_draw C_turned_moves C_Cycle_dropped_by C_dropped C_Cycle_written_by C_written hr z (DL.Room.hu hr) (DL.Room.hu1 hr)
  exact okL
end Lw
open PySem PySem.W PySem.Calls PyProof.Rows
theorem PySem.Challenge.cw_imagefeeds_k12_written_and_dropped_holds : PySem.Challenge.rw_imagefeeds_k12_written_and_dropped.Holds := by
  w_on; o_law
  refine HandSHeadRun.head_any (r := OpenLaw.row PySem.Challenge.rw_imagefeeds_k12_written_and_dropped) (q := view (OpenLaw.row PySem.Challenge.rw_imagefeeds_k12_written_and_dropped).prog [33]) (H := Lw.hk) (ob := Lw.ob) (M := 3000) (loose := Lw.loose) (d := HandSHeadRun.topDef (OpenLaw.row PySem.Challenge.rw_imagefeeds_k12_written_and_dropped).prog 33) (kwd := []) Lw.ob_eq
    (by kernel_rfl) (fun s => by kernel_rfl) Lw.run (by kernel_rfl) (by kernel_rfl) (by kernel_rfl) (by rfl) (by first | assumption | decide +kernel) (by decide +kernel) ⟨rfl, rfl, rfl, rfl, rfl, by decide +kernel⟩ ?hw ?hc
  case hw => w_witness2
  case hc =>
    refine L2.walk_ofE (l := PySem.Challenge.rw_imagefeeds_k12_written_and_dropped) (n := 63) (k := 6) (x := "_law_script") (CX := L2.CX0) rfl (by decide) (by kernel_rfl) ⟨rfl, by decide, by decide⟩ ?F (fun _ _ _ _ z => z)
    intro w mg fa h Y G h0
    obtain ⟨K, KX, c⟩ := Y
    have hmg : mg ("law" : PySem.Str) = some (.ref fa) := by
      have e : (HandSHeadRun.topDef (OpenLaw.row PySem.Challenge.rw_imagefeeds_k12_written_and_dropped).prog 33).name = ("law" : PySem.Str) := by kernel_rfl
      rw [← e]
      exact h0
    obtain ⟨fd, hb, hF⟩ := Lw.facts Lw.good (P := (PySem.Challenge.rw_imagefeeds_k12_written_and_dropped).prog) (w := w) KX G hmg c
    exact ⟨K, fd, DL.spLaw K, KX, hb, fun H a ns hl _ hS => ⟨a, ns, rfl, hS, hl, fun _ => rfl⟩, hF⟩
