import PyProof.Rows.All
import Wide.All
import OpenK.AllK
import Wide.FinOn
import HandS.ForMost
import HandS.ForExc
import HandS.Walk
import HandS.Codes
import HandS.CallSlots
import HandS.DictComp
import HandS.DeepEq
import HandS.Deep
import KE.DataFind
import HandS.Style
import HandS.Conv
import HandS.Defaults
import HandS.MakeKwOnly
import HandS.HeadHook1
import HandS.HeadHook2
import HandS.ExcInit
import HandS.ExcField
import HandS.Small
import HandS.ExcIs
import HandS.IsInst
import PyProof.InstEq
import KE.KExcIs
import KE.KStateDown
import Lean
import HandS.Head0
import HandS.Head1
import HandS.Head2
import HandS.HeadEnd
import PySem.Challenge.RW_imagefeeds_k15_errors_and_their_parts
set_option Elab.async false
set_option linter.all false
set_option maxRecDepth 100000
/-! The mirror's monad, what a value stands for, the state of a def's run, the judgements. -/
namespace DL
open PySem L2
/-! ### the mirror's monad -/
/-- an error: its class by name, its fields -/
inductive Dt where
  | int (i : Int) | str (x : Str) | non | ref
inductive Er where
  | exc (c : Str) (fs : List (Str × Dt))
inductive Out (S α : Type) where
  | ok (a : α) (s : S)
  | err (e : Er) (s : S)
  | stuck
  | all (av : List Addr) (g : Addr → Out S α)
abbrev M (S α : Type) := S → Out S α
def ret {S α : Type} (a : α) : M S α := fun s => .ok a s
def stk {S α : Type} : M S α := fun _ => .stuck
def rse {S α : Type} (e : Er) : M S α := fun s => .err e s
def Out.bnd {S α β : Type} (o : Out S α) (f : α → M S β) : Out S β := match o with
  | .ok a s => f a s
  | .err e s => .err e s
  | .stuck => .stuck
  | .all av g => .all av fun a => (g a).bnd f
def bnd {S α β : Type} (m : M S α) (f : α → M S β) : M S β := fun s => (m s).bnd f
/-- whatever addresses are chosen: it ends, and P holds of the end -/
def Out.every {S α : Type} (P : α → S → Prop) : Out S α → Prop
  | .ok a s => P a s
  | .err _ _ => False
  | .stuck => False
  | .all av g => ∀ a, a ∉ av → (g a).every P
/-- what is not there: stuck -/
def opt {S α : Type} (o : Option α) : M S α := match o with
  | some a => ret a
  | none => stk
/-- a condition that must hold -/
def grd {S : Type} (b : Bool) : M S Unit := if b then ret () else stk
section
variable {S α β γ : Type}
@[simp] theorem bnd_ret (a : α) (f : α → M S β) : bnd (ret a) f = f a := rfl
@[simp] theorem bnd_stk (f : α → M S β) : bnd stk f = stk := rfl
@[simp] theorem bnd_rse (e : Er) (f : α → M S β) : bnd (rse e) f = rse e := rfl
theorem bnd_assoc (m : M S α) (f : α → M S β) (g : β → M S γ) : bnd (bnd m f) g = bnd m fun a => bnd (f a) g := by
  funext s
  show ((m s).bnd f).bnd g = (m s).bnd fun a => bnd (f a) g
  induction m s with
  | ok a s => rfl
  | err e s => rfl
  | stuck => rfl
  | all av o ih => exact congrArg (Out.all av) (funext ih)
@[simp] theorem opt_some (a : α) : (opt (some a) : M S α) = ret a := rfl
@[simp] theorem opt_none : (opt (none : Option α) : M S α) = stk := rfl
@[simp] theorem grd_true : (grd true : M S Unit) = ret () := rfl
end
/-! ### what a value stands for, by a part of the heap that stands still -/
structure MP (ι : Type) where
  p : ι → Hp → Prop
  mono : ∀ {i : ι} {G G' : Hp}, Same G G' → p i G → p i G'
abbrev Rp (α : Type) := α → MP V
def rI : Rp Int := fun i => ⟨fun v _ => v = .int i, fun _ h => h⟩
def rB : Rp Bool := fun b => ⟨fun v _ => v = .bl b, fun _ h => h⟩
def rS : Rp Str := fun x => ⟨fun v _ => v = .str x, fun _ h => h⟩
def rU : Rp Unit := fun _ => ⟨fun v _ => v = .non, fun _ h => h⟩
/-- the very object at a -/
def rA : Rp Addr := fun a => ⟨fun v _ => v = .ref a, fun _ h => h⟩
theorem Same.rd {G G' : Hp} (e : Same G G') {a : Addr} {u : HO} (h : Rd G a u) : Rd G' a u := by
  rcases h with h | ⟨o, h⟩
  · exact .inl (e _ _ h)
  · exact .inr ⟨o, e _ _ h⟩
theorem Same.sqT {K : PySem.W.Frag} {G G' : Hp} (e : Same G G') {a : Addr} {xs : List V} (h : SqT K G a xs) : SqT K G' a xs := by
  rcases h with h | h
  · exact .inl (Same.rd e h)
  · exact .inr h
/-- lists of values -/
def AllP {α : Type} (r : Rp α) (G : Hp) : List V → List α → Prop := Paired fun v x => (r x).p v G
theorem AllP.mono {α : Type} {r : Rp α} {G G' : Hp} (e : Same G G') : ∀ {vs : List V} {xs : List α}, AllP r G vs xs → AllP r G' vs xs
  | _, _, .nil => .nil
  | _, _, .cons h t => .cons ((r _).mono e h) (AllP.mono e t)
theorem AllP.length {α : Type} {r : Rp α} {G : Hp} {vs : List V} {xs : List α} (h : AllP r G vs xs) : vs.length = xs.length := Paired.length h
theorem AllP.get {α : Type} {r : Rp α} {G : Hp} : ∀ {vs : List V} {xs : List α} {i : Nat} {x : α}, AllP r G vs xs → xs[i]? = some x → ∃ v, vs[i]? = some v ∧ (r x).p v G
  | _, _, _, _, .nil, e => by simp at e
  | _, _, 0, _, .cons h _, e => by simp at e; subst e; exact ⟨_, rfl, h⟩
  | _, _, i + 1, x, .cons _ t, e => by
    obtain ⟨v, h1, h2⟩ := AllP.get (i := i) (x := x) t (by simpa using e)
    exact ⟨v, by simpa using h1, h2⟩
theorem AllP.get' {α : Type} {r : Rp α} {G : Hp} : ∀ {vs : List V} {xs : List α} {i : Nat} {v : V}, AllP r G vs xs → vs[i]? = some v → ∃ x, xs[i]? = some x ∧ (r x).p v G
  | _, _, _, _, .nil, e => by simp at e
  | _, _, 0, _, .cons h _, e => by simp at e; subst e; exact ⟨_, rfl, h⟩
  | _, _, i + 1, v, .cons _ t, e => by
    obtain ⟨x, h1, h2⟩ := AllP.get' (i := i) (v := v) t (by simpa using e)
    exact ⟨x, by simpa using h1, h2⟩
theorem AllP.append {α : Type} {r : Rp α} {G : Hp} : ∀ {vs ws : List V} {xs ys : List α}, AllP r G vs xs → AllP r G ws ys → AllP r G (vs ++ ws) (xs ++ ys)
  | _, _, _, _, .nil, s => s
  | _, _, _, _, .cons h t, s => .cons h (AllP.append t s)
theorem AllP.set {α : Type} {r : Rp α} {G : Hp} {v : V} {x : α} (q : (r x).p v G) : ∀ {vs : List V} {xs : List α} (i : Nat), AllP r G vs xs → AllP r G (vs.set i v) (xs.set i x)
  | _, _, _, .nil => .nil
  | _, _, 0, .cons _ t => .cons q t
  | _, _, i + 1, .cons h t => .cons h (AllP.set q i t)
theorem AllP.take {α : Type} {r : Rp α} {G : Hp} : ∀ {vs : List V} {xs : List α} (n : Nat), AllP r G vs xs → AllP r G (vs.take n) (xs.take n)
  | _, _, 0, _ => .nil
  | _, _, _ + 1, .nil => .nil
  | _, _, n + 1, .cons h t => .cons h (AllP.take n t)
theorem AllP.drop {α : Type} {r : Rp α} {G : Hp} : ∀ {vs : List V} {xs : List α} (n : Nat), AllP r G vs xs → AllP r G (vs.drop n) (xs.drop n)
  | _, _, 0, h => h
  | _, _, _ + 1, .nil => .nil
  | _, _, n + 1, .cons _ t => AllP.drop n t
theorem AllP.reverse {α : Type} {r : Rp α} {G : Hp} : ∀ {vs : List V} {xs : List α}, AllP r G vs xs → AllP r G vs.reverse xs.reverse
  | _, _, .nil => .nil
  | _, _, .cons h t => by
    rw [List.reverse_cons, List.reverse_cons]
    exact AllP.append (AllP.reverse t) (.cons h .nil)
/-- a list that stands still; its content -/
def cL {α : Type} (r : Rp α) : List α → MP HO := fun xs => ⟨fun o G => ∃ vs, o = .lst vs ∧ AllP r G vs xs, fun e ⟨vs, h1, h2⟩ => ⟨vs, h1, h2.mono e⟩⟩
def rL {α : Type} (r : Rp α) : Rp (List α) := fun xs => ⟨fun v G => ∃ a vs, v = .ref a ∧ G a = some (.lst vs) ∧ AllP r G vs xs, fun e ⟨a, vs, h1, h2, h3⟩ => ⟨a, vs, h1, e _ _ h2, h3.mono e⟩⟩
/-- tuples -/
def rT1 {α : Type} (K : PySem.W.Frag) (r : Rp α) : Rp α := fun x => ⟨fun v G => ∃ a u, v = .ref a ∧ SqT K G a [u] ∧ (r x).p u G,
  fun e ⟨a, u, h1, h2, h3⟩ => ⟨a, u, h1, Same.sqT e h2, (r x).mono e h3⟩⟩
def rT2 {α β : Type} (K : PySem.W.Frag) (r1 : Rp α) (r2 : Rp β) : Rp (α × β) := fun x => ⟨fun v G => ∃ a u1 u2, v = .ref a ∧ SqT K G a [u1, u2] ∧ (r1 x.1).p u1 G ∧ (r2 x.2).p u2 G,
  fun e ⟨a, u1, u2, h1, h2, h3, h4⟩ => ⟨a, u1, u2, h1, Same.sqT e h2, (r1 _).mono e h3, (r2 _).mono e h4⟩⟩
def rT3 {α β γ : Type} (K : PySem.W.Frag) (r1 : Rp α) (r2 : Rp β) (r3 : Rp γ) : Rp (α × β × γ) := fun x => ⟨fun v G => ∃ a u1 u2 u3, v = .ref a ∧ SqT K G a [u1, u2, u3] ∧ (r1 x.1).p u1 G ∧ (r2 x.2.1).p u2 G ∧ (r3 x.2.2).p u3 G,
  fun e ⟨a, u1, u2, u3, h1, h2, h3, h4, h5⟩ => ⟨a, u1, u2, u3, h1, Same.sqT e h2, (r1 _).mono e h3, (r2 _).mono e h4, (r3 _).mono e h5⟩⟩
def rT4 {α β γ δ : Type} (K : PySem.W.Frag) (r1 : Rp α) (r2 : Rp β) (r3 : Rp γ) (r4 : Rp δ) : Rp (α × β × γ × δ) := fun x => ⟨fun v G => ∃ a u1 u2 u3 u4, v = .ref a ∧ SqT K G a [u1, u2, u3, u4] ∧ (r1 x.1).p u1 G ∧ (r2 x.2.1).p u2 G ∧ (r3 x.2.2.1).p u3 G ∧ (r4 x.2.2.2).p u4 G,
  fun e ⟨a, u1, u2, u3, u4, h1, h2, h3, h4, h5, h6⟩ => ⟨a, u1, u2, u3, u4, h1, Same.sqT e h2, (r1 _).mono e h3, (r2 _).mono e h4, (r3 _).mono e h5, (r4 _).mono e h6⟩⟩
def rT5 {α β γ δ ε : Type} (K : PySem.W.Frag) (r1 : Rp α) (r2 : Rp β) (r3 : Rp γ) (r4 : Rp δ) (r5 : Rp ε) : Rp (α × β × γ × δ × ε) := fun x => ⟨fun v G => ∃ a u1 u2 u3 u4 u5, v = .ref a ∧ SqT K G a [u1, u2, u3, u4, u5] ∧ (r1 x.1).p u1 G ∧ (r2 x.2.1).p u2 G ∧ (r3 x.2.2.1).p u3 G ∧ (r4 x.2.2.2.1).p u4 G ∧ (r5 x.2.2.2.2).p u5 G,
  fun e ⟨a, u1, u2, u3, u4, u5, h1, h2, h3, h4, h5, h6, h7⟩ => ⟨a, u1, u2, u3, u4, u5, h1, Same.sqT e h2, (r1 _).mono e h3, (r2 _).mono e h4, (r3 _).mono e h5, (r4 _).mono e h6, (r5 _).mono e h7⟩⟩
/-- None or a thing -/
def rO {α : Type} (r : Rp α) : Rp (Option α) := fun x => ⟨fun v G => match x with
    | none => v = .non
    | some y => (r y).p v G, fun {v G G'} e h => by
    cases x with
    | none => exact h
    | some y => exact (r y).mono e h⟩
/-- keys: texts, ints -/
structure KeyT (κ : Type) where
  f : κ → Key
  inj : ∀ {a b : κ}, f a = f b → a = b
def kS : KeyT Str := ⟨Sum.inr, fun h => Sum.inr.inj h⟩
def kI : KeyT Int := ⟨Sum.inl, fun h => Sum.inl.inj h⟩
def KeyT.rp {κ : Type} (k : KeyT κ) : Rp κ := fun x => ⟨fun v _ => v = kV (k.f x), fun _ h => h⟩
section
variable {κ α : Type} {k : KeyT κ}
/-- a dict's pairs; a dict that stands still is locked -/
def AllD (k : KeyT κ) (r : Rp α) (G : Hp) : List (Key × V) → List (κ × α) → Prop := Paired fun p q => p.1 = k.f q.1 ∧ (r q.2).p p.2 G
theorem AllD.mono {r : Rp α} {G G' : Hp} (e : Same G G') : ∀ {vs : List (Key × V)} {xs : List (κ × α)}, AllD k r G vs xs → AllD k r G' vs xs
  | _, _, .nil => .nil
  | _, _, .cons h t => .cons ⟨h.1, (r _).mono e h.2⟩ (AllD.mono e t)
theorem AllD.length {r : Rp α} {G : Hp} {vs : List (Key × V)} {xs : List (κ × α)} (h : AllD k r G vs xs) : vs.length = xs.length := Paired.length h
def cD (k : KeyT κ) (r : Rp α) : List (κ × α) → MP HO := fun xs => ⟨fun o G => ∃ vs, o = .dK vs ∧ AllD k r G vs xs, fun e ⟨vs, h1, h2⟩ => ⟨vs, h1, h2.mono e⟩⟩
def rD (k : KeyT κ) (r : Rp α) : Rp (List (κ × α)) := fun xs => ⟨fun v G => ∃ a od vs, v = .ref a ∧ G a = some (.frz od (.dK vs)) ∧ AllD k r G vs xs, fun e ⟨a, od, vs, h1, h2, h3⟩ => ⟨a, od, vs, h1, e _ _ h2, h3.mono e⟩⟩
end
/-! a dict in the mirror: its pairs in order -/
section
variable {κ α : Type} [DecidableEq κ]
def dget (d : List (κ × α)) (k : κ) : Option α := (d.find? fun kv => decide (kv.1 = k)).map (·.2)
def dput (d : List (κ × α)) (k : κ) (v : α) : List (κ × α) :=
  if (d.any fun kv => decide (kv.1 = k)) = true then d.map (fun kv => if kv.1 = k then (kv.1, v) else kv) else d ++ [(k, v)]
def dhas (d : List (κ × α)) (k : κ) : Bool := (dget d k).isSome
variable {kt : KeyT κ}
theorem AllD.get {r : Rp α} {G : Hp} (k : κ) : ∀ {vs : List (Key × V)} {xs : List (κ × α)}, AllD kt r G vs xs → (dget xs k = none ∧ valV vs (kt.f k) = none) ∨ ∃ x v, dget xs k = some x ∧ valV vs (kt.f k) = some v ∧ (r x).p v G
  | _, _, .nil => .inl ⟨rfl, rfl⟩
  | _, _, .cons (a := p) (b := q) h t => by
    by_cases e : q.1 = k
    · have e' : p.1 = kt.f k := by rw [h.1, e]
      exact .inr ⟨q.2, p.2, by simp [dget, List.find?_cons, e], valV_pos e', h.2⟩
    · have e' : ¬ p.1 = kt.f k := fun z => e (kt.inj (h.1.symm.trans z))
      have z := AllD.get k t
      have z2 : ∀ l : List (κ × α), dget (q :: l) k = dget l k := fun l => by simp [dget, List.find?_cons, e]
      rw [valV_neg e', z2]
      exact z
theorem AllD.any {r : Rp α} {G : Hp} (k : κ) : ∀ {vs : List (Key × V)} {xs : List (κ × α)}, AllD kt r G vs xs → (vs.any fun kv => decide (kv.1 = kt.f k)) = xs.any fun kv => decide (kv.1 = k)
  | _, _, .nil => rfl
  | _, _, .cons (a := p) (b := q) h t => by
    rw [List.any_cons, List.any_cons, AllD.any k t]
    by_cases e : q.1 = k
    · rw [decide_eq_true e, decide_eq_true (by rw [h.1, e])]
    · rw [decide_eq_false e, decide_eq_false fun z => e (kt.inj (h.1.symm.trans z))]
theorem AllD.map {r : Rp α} {G : Hp} {k : κ} {v : V} {x : α} (q : (r x).p v G) : ∀ {vs : List (Key × V)} {xs : List (κ × α)}, AllD kt r G vs xs →
    AllD kt r G (vs.map fun kv => if kv.1 = kt.f k then (kv.1, v) else kv) (xs.map fun kv => if kv.1 = k then (kv.1, x) else kv)
  | _, _, .nil => .nil
  | _, _, .cons (a := a) (b := b) h t => by
    refine .cons ?_ (AllD.map q t)
    dsimp only
    by_cases e : b.1 = k
    · have e' : a.1 = kt.f k := by rw [h.1, e]
      rw [if_pos e, if_pos e']
      exact ⟨h.1, q⟩
    · have e' : ¬ a.1 = kt.f k := fun z => e (kt.inj (h.1.symm.trans z))
      rw [if_neg e, if_neg e']
      exact h
theorem AllD.append {r : Rp α} {G : Hp} : ∀ {vs ws : List (Key × V)} {xs ys : List (κ × α)}, AllD kt r G vs xs → AllD kt r G ws ys → AllD kt r G (vs ++ ws) (xs ++ ys)
  | _, _, _, _, .nil, s => s
  | _, _, _, _, .cons h t, s => .cons h (AllD.append t s)
theorem AllD.put {r : Rp α} {G : Hp} {k : κ} {v : V} {x : α} (q : (r x).p v G) {vs : List (Key × V)} {xs : List (κ × α)} (h : AllD kt r G vs xs) : AllD kt r G (putK vs (kt.f k) v) (dput xs k x) := by
  unfold putK dput
  rw [h.any k]
  by_cases e : (xs.any fun kv => decide (kv.1 = k)) = true
  · rw [if_pos e, if_pos e]
    exact h.map q
  · rw [if_neg e, if_neg e]
    exact h.append (.cons ⟨rfl, q⟩ .nil)
end
/-! ### the state of a def's run -/
/-- at a def's entry: the heap, its still part, the part of the resource -/
structure Fm where
  H0 : Hp
  G0 : Hp
  B0 : Hp
structure Ok (F : Fm) (G B H : Hp) : Prop where
  gh : Same G H
  bh : Same B H
  dj : ∀ a o, G a = some o → B a = none
  g0 : Same F.G0 G
  up : ∀ a o, F.H0 a = some o → ∃ o', H a = some o'
  out : ∀ a o, F.H0 a = some o → F.B0 a = none → H a = some o
  gn : ∀ a o, F.H0 a = some o → F.G0 a = none → F.B0 a = none → G a = none
  bn : ∀ a o, F.H0 a = some o → F.B0 a = none → B a = none
/-- what is known of a slot: a value that stands still; a thing of one's own that may change -/
inductive Asn where
  | fz (A : MP V)
  | lv (L : MP HO)
abbrev Ctx := List (Option Asn)
structure Slots (F : Fm) (hd : Hp) (Γ : Ctx) (σ : St) (G B H : Hp) : Prop where
  len : Γ.length ≤ σ.length
  fz : ∀ (k : Nat) (A : MP V), Γ[k]? = some (some (.fz A)) → ∃ v, σ[k]? = some (some v) ∧ A.p v G
  lv : ∀ (k : Nat) (L : MP HO), Γ[k]? = some (some (.lv L)) → ∃ a o, σ[k]? = some (some (.ref a)) ∧ H a = some o ∧ L.p o G ∧ G a = none ∧ B a = none ∧ F.H0 a = none ∧ hd a = none
  ne : ∀ (k j : Nat) (L L' : MP HO) (a : Addr), Γ[k]? = some (some (.lv L)) → Γ[j]? = some (some (.lv L')) → σ[k]? = some (some (.ref a)) → σ[j]? = some (some (.ref a)) → k = j
/-- the address is none of the changing slots' -/
def Off (Γ : Ctx) (σ : St) (a : Addr) : Prop := ∀ (k : Nat) (L : MP HO), Γ[k]? = some (some (.lv L)) → σ[k]? ≠ some (some (.ref a))
/-- where a piece of text runs: W what is wanted of an error, hd things that are held meanwhile, E what stays known at an error (nothing of it changes), R the resource -/
structure Zc where
  X : Cx
  W : WX
  F : Fm
  hd : Hp
  E : List (Option (MP V))
  S : Type
  R : S → MP Hp
def SlotsE (E : List (Option (MP V))) (σ : St) (G : Hp) : Prop := E.length ≤ σ.length ∧ ∀ (k : Nat) (A : MP V), E[k]? = some (some A) → ∃ v, σ[k]? = some (some v) ∧ A.p v G
structure Sta (Z : Zc) (Γ : Ctx) (s : Z.S) (G B : Hp) (σ : St) (H : Hp) : Prop where
  ok : Ok Z.F G B H
  res : (Z.R s).p B G
  sl : Slots Z.F Z.hd Γ σ G B H
  sle : SlotsE Z.E σ G
  held : Same Z.hd H
  off : ∀ a o, Z.hd a = some o → G a = none ∧ B a = none ∧ Z.F.H0 a = none
/-- an error stands for e -/
def dtV : Dt → V → Prop
  | .int i, v => v = .int i
  | .str x, v => v = .str x
  | .non, v => v = .non
  | .ref, v => ∃ a, v = .ref a
def errIs (mg : Str → Option Value) (e : Er) (cls : Value) (d : Option Addr) (H : Hp) : Prop := match e with
  | .exc c fs => ∃ C, mg c = some (.ref C) ∧ cls = .ref C ∧ (fs = [] ∧ d = none ∨ ∃ dd vs, d = some dd ∧ H dd = some (.xd vs) ∧ Paired (fun v f => v.1 = f.1 ∧ dtV f.2 v.2) vs fs)
/-- what an expression hands on: a value that stands still, or a new thing of one's own -/
inductive Res (α : Type) where
  | fz (r : Rp α)
  | own (c : α → MP HO)
  | vw (k : Nat) (c : α → MP HO)
def Has (Z : Zc) (Γ : Ctx) (σ : St) {α : Type} (ρ : Res α) (x : α) (v : V) (G B H : Hp) : Prop := match ρ with
  | .fz r => (r x).p v G
  | .own c => ∃ a o, v = .ref a ∧ H a = some o ∧ (c x).p o G ∧ G a = none ∧ B a = none ∧ Z.F.H0 a = none ∧ Z.hd a = none ∧ Off Γ σ a
  | .vw k c => Γ[k]? = some (some (.lv (c x))) ∧ σ[k]? = some (some v)
/-- what is wanted of an outcome of an expression -/
def PostE (Z : Zc) (Γ : Ctx) {α : Type} (ρ : Res α) (σ : St) (Q : VK) (G : Hp) : Out Z.S α → Prop
  | .ok x s' => ∀ v H' G' B', Same G G' → Sta Z Γ s' G' B' σ H' → Has Z Γ σ ρ x v G' B' H' → Q v H'
  | .err e s' => ∀ cls d σ' H' G' B', Same G G' → Sta Z [] s' G' B' σ' H' → errIs Z.X.mg e cls d G' → Z.W cls d σ' H'
  | .stuck => False
  | .all av g => ∀ a, a ∉ av → PostE Z Γ ρ σ Q G (g a)
def tE (Z : Zc) (Γ : Ctx) {α : Type} (m : M Z.S α) (ρ : Res α) : TE := fun σ H Q => ∃ s G B, Sta Z Γ s G B σ H ∧ PostE Z Γ ρ σ Q G (m s)
/-- THE JUDGEMENT of an expression: it gives what the mirror gives -/
structure JE (Z : Zc) (Γ : Ctx) (e : Expr) {α : Type} (m : M Z.S α) (ρ : Res α) : Prop where
  pe : PE Z.X e (tE Z Γ m ρ)
/-- of a test -/
def PostT (Z : Zc) (Γ : Ctx) (σ : St) (Q : Bool → Hp → Prop) (G : Hp) : Out Z.S Bool → Prop
  | .ok b s' => ∀ H' G' B', Same G G' → Sta Z Γ s' G' B' σ H' → Q b H'
  | .err e s' => ∀ cls d σ' H' G' B', Same G G' → Sta Z [] s' G' B' σ' H' → errIs Z.X.mg e cls d G' → Z.W cls d σ' H'
  | .stuck => False
  | .all av g => ∀ a, a ∉ av → PostT Z Γ σ Q G (g a)
def tT (Z : Zc) (Γ : Ctx) (m : M Z.S Bool) : TT := fun σ H Q => ∃ s G B, Sta Z Γ s G B σ H ∧ PostT Z Γ σ Q G (m s)
structure JT (Z : Zc) (Γ : Ctx) (e : Expr) (m : M Z.S Bool) : Prop where
  pt : PT Z.X e (tT Z Γ m)
/-- how a block ends: behind it, by a return, by break, by continue -/
inductive Fl (T U ρ : Type) where
  | nx (t : T)
  | rt (r : ρ)
  | bk (u : U)
  | ct (u : U)
/-- of a block: Γ' what is known behind it, Γb at a break or continue, ρr what it returns -/
def PostB (Z : Zc) {T U ρ : Type} (Γ' : T → Ctx) (Γb : U → Ctx) (ρr : Res ρ) (D : Ends) (G : Hp) : Out Z.S (Fl T U ρ) → Prop
  | .ok (.nx t) s' => ∀ σ' H' G' B', Same G G' → Sta Z (Γ' t) s' G' B' σ' H' → D.nx σ' H'
  | .ok (.rt r) s' => ∀ v σ' H' G' B', Same G G' → Sta Z [] s' G' B' σ' H' → Has Z [] σ' ρr r v G' B' H' → D.rt v H'
  | .ok (.bk u) s' => ∀ σ' H' G' B', Same G G' → Sta Z (Γb u) s' G' B' σ' H' → D.bk σ' H'
  | .ok (.ct u) s' => ∀ σ' H' G' B', Same G G' → Sta Z (Γb u) s' G' B' σ' H' → D.ct σ' H'
  | .err e s' => ∀ cls d σ' H' G' B', Same G G' → Sta Z [] s' G' B' σ' H' → errIs Z.X.mg e cls d G' → Z.W cls d σ' H'
  | .stuck => False
  | .all av g => ∀ a, a ∉ av → PostB Z Γ' Γb ρr D G (g a)
def tS (Z : Zc) (Γ : Ctx) {T U ρ : Type} (m : M Z.S (Fl T U ρ)) (Γ' : T → Ctx) (Γb : U → Ctx) (ρr : Res ρ) : TS := fun D σ H => ∃ s G B, Sta Z Γ s G B σ H ∧ PostB Z Γ' Γb ρr D G (m s)
structure JB (Z : Zc) (Γ : Ctx) (sts : List Stmt) {T U ρ : Type} (m : M Z.S (Fl T U ρ)) (Γ' : T → Ctx) (Γb : U → Ctx) (ρr : Res ρ) : Prop where
  ps : PSs Z.X sts (tS Z Γ m Γ' Γb ρr)
structure JS (Z : Zc) (Γ : Ctx) (st : Stmt) {T U ρ : Type} (m : M Z.S (Fl T U ρ)) (Γ' : T → Ctx) (Γb : U → Ctx) (ρr : Res ρ) : Prop where
  ps : PS Z.X st (tS Z Γ m Γ' Γb ρr)
/-! ### weakening -/
theorem PE.imp {X : Cx} {e : Expr} {t t' : TE} (h : PE X e t) (i : ∀ σ H Q, t' σ H Q → t σ H Q) : PE X e t' := ⟨fun pins s σ H Q I q => h.run pins s σ H Q I (i σ H Q q)⟩
theorem PT.imp {X : Cx} {e : Expr} {t t' : TT} (h : PT X e t) (i : ∀ σ H Q, t' σ H Q → t σ H Q) : PT X e t' := ⟨fun pins s σ H Q I q => h.run pins s σ H Q I (i σ H Q q)⟩
theorem PS.imp {X : Cx} {e : Stmt} {t t' : TS} (h : PS X e t) (i : ∀ D σ H, t' D σ H → t D σ H) : PS X e t' := ⟨fun pins s σ H D I q => h.run pins s σ H D I (i D σ H q)⟩
theorem PSs.imp {X : Cx} {e : List Stmt} {t t' : TS} (h : PSs X e t) (i : ∀ D σ H, t' D σ H → t D σ H) : PSs X e t' := ⟨fun pins s σ H D I q => h.run pins s σ H D I (i D σ H q)⟩
section
variable {Z : Zc} {Γ : Ctx} {α β : Type} {ρ : Res α} {σ : St} {G G1 B H : Hp}
theorem PostE.mono {Q : VK} {o : Out Z.S α} (e : Same G G1) (h : PostE Z Γ ρ σ Q G o) : PostE Z Γ ρ σ Q G1 o := by
  revert h
  induction o with
  | ok x s => exact fun h => fun v H' G' B' q => h v H' G' B' (e.trans q)
  | err x s => exact fun h => fun cls d σ' H' G' B' q => h cls d σ' H' G' B' (e.trans q)
  | stuck => exact fun h => h
  | all av g ih => exact fun h a ha => ih a (h a ha)
theorem PostT.mono {Q : Bool → Hp → Prop} {o : Out Z.S Bool} (e : Same G G1) (h : PostT Z Γ σ Q G o) : PostT Z Γ σ Q G1 o := by
  revert h
  induction o with
  | ok x s => exact fun h => fun H' G' B' q => h H' G' B' (e.trans q)
  | err x s => exact fun h => fun cls d σ' H' G' B' q => h cls d σ' H' G' B' (e.trans q)
  | stuck => exact fun h => h
  | all av g ih => exact fun h a ha => ih a (h a ha)
theorem PostB.mono {T U ρ : Type} {Γ' : T → Ctx} {Γb : U → Ctx} {ρr : Res ρ} {D : Ends} {o : Out Z.S (Fl T U ρ)} (e : Same G G1) (h : PostB Z Γ' Γb ρr D G o) : PostB Z Γ' Γb ρr D G1 o := by
  revert h
  induction o with
  | ok x s => cases x with
    | nx t => exact fun h => fun σ' H' G' B' q => h σ' H' G' B' (e.trans q)
    | rt t => exact fun h => fun v σ' H' G' B' q => h v σ' H' G' B' (e.trans q)
    | bk t => exact fun h => fun σ' H' G' B' q => h σ' H' G' B' (e.trans q)
    | ct t => exact fun h => fun σ' H' G' B' q => h σ' H' G' B' (e.trans q)
  | err x s => exact fun h => fun cls d σ' H' G' B' q => h cls d σ' H' G' B' (e.trans q)
  | stuck => exact fun h => h
  | all av g ih => exact fun h a ha => ih a (h a ha)
theorem PostE.imp {Q Q' : VK} {o : Out Z.S α} (h : PostE Z Γ ρ σ Q G o) (i : ∀ v H, Q v H → Q' v H) : PostE Z Γ ρ σ Q' G o := by
  revert h
  induction o with
  | ok x s => exact fun h => fun v H' G' B' q r z => i _ _ (h v H' G' B' q r z)
  | err x s => exact fun h => h
  | stuck => exact fun h => h
  | all av g ih => exact fun h a ha => ih a (h a ha)
theorem PostT.imp {Q Q' : Bool → Hp → Prop} {o : Out Z.S Bool} (h : PostT Z Γ σ Q G o) (i : ∀ v H, Q v H → Q' v H) : PostT Z Γ σ Q' G o := by
  revert h
  induction o with
  | ok x s => exact fun h => fun H' G' B' q r => i _ _ (h H' G' B' q r)
  | err x s => exact fun h => h
  | stuck => exact fun h => h
  | all av g ih => exact fun h a ha => ih a (h a ha)
theorem tE.imp {m : M Z.S α} {Q Q' : VK} (h : tE Z Γ m ρ σ H Q) (i : ∀ v H, Q v H → Q' v H) : tE Z Γ m ρ σ H Q' := by
  obtain ⟨s, G, B, st, q⟩ := h
  exact ⟨s, G, B, st, PostE.imp q i⟩
theorem tT.imp {m : M Z.S Bool} {Q Q' : Bool → Hp → Prop} (h : tT Z Γ m σ H Q) (i : ∀ v H, Q v H → Q' v H) : tT Z Γ m σ H Q' := by
  obtain ⟨s, G, B, st, q⟩ := h
  exact ⟨s, G, B, st, PostT.imp q i⟩
/-- the first of two: what comes behind it -/
theorem tE_bnd {m : M Z.S α} {f : α → M Z.S β} {ρ' : Res β} {s : Z.S} {Q : VK} (st : Sta Z Γ s G B σ H) (h : PostE Z Γ ρ' σ Q G (bnd m f s)) :
    tE Z Γ m ρ σ H fun v H1 => ∃ x s1 G1 B1, Same G G1 ∧ Sta Z Γ s1 G1 B1 σ H1 ∧ Has Z Γ σ ρ x v G1 B1 H1 ∧ PostE Z Γ ρ' σ Q G1 (f x s1) := by
  refine ⟨s, G, B, st, ?_⟩
  have h : PostE Z Γ ρ' σ Q G ((m s).bnd f) := h
  revert h
  induction m s with
  | ok x s1 =>
    exact fun h => fun v H1 G1 B1 g st1 hs => ⟨x, s1, G1, B1, g, st1, hs, PostE.mono g h⟩
  | err x s1 =>
    exact fun h => h
  | stuck =>
    exact fun h => h
  | all av g ih => exact fun h a ha => ih a (h a ha)
theorem tE_bndT {m : M Z.S α} {f : α → M Z.S Bool} {s : Z.S} {Q : Bool → Hp → Prop} (st : Sta Z Γ s G B σ H) (h : PostT Z Γ σ Q G (bnd m f s)) :
    tE Z Γ m ρ σ H fun v H1 => ∃ x s1 G1 B1, Same G G1 ∧ Sta Z Γ s1 G1 B1 σ H1 ∧ Has Z Γ σ ρ x v G1 B1 H1 ∧ PostT Z Γ σ Q G1 (f x s1) := by
  refine ⟨s, G, B, st, ?_⟩
  have h : PostT Z Γ σ Q G ((m s).bnd f) := h
  revert h
  induction m s with
  | ok x s1 =>
    exact fun h => fun v H1 G1 B1 g st1 hs => ⟨x, s1, G1, B1, g, st1, hs, PostT.mono g h⟩
  | err x s1 =>
    exact fun h => h
  | stuck =>
    exact fun h => h
  | all av g ih => exact fun h a ha => ih a (h a ha)
theorem tE_bndB {T U ρ1 : Type} {Γ' : T → Ctx} {Γb : U → Ctx} {ρr : Res ρ1} {D : Ends} {m : M Z.S α} {f : α → M Z.S (Fl T U ρ1)} {s : Z.S} (st : Sta Z Γ s G B σ H) (h : PostB Z Γ' Γb ρr D G (bnd m f s)) :
    tE Z Γ m ρ σ H fun v H1 => ∃ x s1 G1 B1, Same G G1 ∧ Sta Z Γ s1 G1 B1 σ H1 ∧ Has Z Γ σ ρ x v G1 B1 H1 ∧ PostB Z Γ' Γb ρr D G1 (f x s1) := by
  refine ⟨s, G, B, st, ?_⟩
  have h : PostB Z Γ' Γb ρr D G ((m s).bnd f) := h
  revert h
  induction m s with
  | ok x s1 =>
    exact fun h => fun v H1 G1 B1 g st1 hs => ⟨x, s1, G1, B1, g, st1, hs, PostB.mono g h⟩
  | err x s1 =>
    exact fun h => h
  | stuck =>
    exact fun h => h
  | all av g ih => exact fun h a ha => ih a (h a ha)
theorem tT_bndB {T U ρ1 : Type} {Γ' : T → Ctx} {Γb : U → Ctx} {ρr : Res ρ1} {D : Ends} {m : M Z.S Bool} {f : Bool → M Z.S (Fl T U ρ1)} {s : Z.S} (st : Sta Z Γ s G B σ H) (h : PostB Z Γ' Γb ρr D G (bnd m f s)) :
    tT Z Γ m σ H fun x H1 => ∃ s1 G1 B1, Same G G1 ∧ Sta Z Γ s1 G1 B1 σ H1 ∧ PostB Z Γ' Γb ρr D G1 (f x s1) := by
  refine ⟨s, G, B, st, ?_⟩
  have h : PostB Z Γ' Γb ρr D G ((m s).bnd f) := h
  revert h
  induction m s with
  | ok x s1 =>
    exact fun h => fun H1 G1 B1 g st1 => ⟨s1, G1, B1, g, st1, PostB.mono g h⟩
  | err x s1 =>
    exact fun h => h
  | stuck =>
    exact fun h => h
  | all av g ih => exact fun h a ha => ih a (h a ha)
theorem tT_bndE {m : M Z.S Bool} {f : Bool → M Z.S α} {s : Z.S} {Q : VK} (st : Sta Z Γ s G B σ H) (h : PostE Z Γ ρ σ Q G (bnd m f s)) :
    tT Z Γ m σ H fun x H1 => ∃ s1 G1 B1, Same G G1 ∧ Sta Z Γ s1 G1 B1 σ H1 ∧ PostE Z Γ ρ σ Q G1 (f x s1) := by
  refine ⟨s, G, B, st, ?_⟩
  have h : PostE Z Γ ρ σ Q G ((m s).bnd f) := h
  revert h
  induction m s with
  | ok x s1 =>
    exact fun h => fun H1 G1 B1 g st1 => ⟨s1, G1, B1, g, st1, PostE.mono g h⟩
  | err x s1 =>
    exact fun h => h
  | stuck =>
    exact fun h => h
  | all av g ih => exact fun h a ha => ih a (h a ha)
theorem tT_bndT {m : M Z.S Bool} {f : Bool → M Z.S Bool} {s : Z.S} {Q : Bool → Hp → Prop} (st : Sta Z Γ s G B σ H) (h : PostT Z Γ σ Q G (bnd m f s)) :
    tT Z Γ m σ H fun x H1 => ∃ s1 G1 B1, Same G G1 ∧ Sta Z Γ s1 G1 B1 σ H1 ∧ PostT Z Γ σ Q G1 (f x s1) := by
  refine ⟨s, G, B, st, ?_⟩
  have h : PostT Z Γ σ Q G ((m s).bnd f) := h
  revert h
  induction m s with
  | ok x s1 =>
    exact fun h => fun H1 G1 B1 g st1 => ⟨s1, G1, B1, g, st1, PostT.mono g h⟩
  | err x s1 =>
    exact fun h => h
  | stuck =>
    exact fun h => h
  | all av g ih => exact fun h a ha => ih a (h a ha)
end
/-! ### arguments that are not starred -/
def plainE : Expr → Bool
  | .Starred _ _ => false
  | _ => true
theorem star_of {e : Expr} {es : List Expr} {env : Env} (h : plainE e = true) : starEach (e :: es) env = (false, eval e env) :: starEach es env := by
  cases e with
  | Starred _ _ => cases h
  | _ => rfl
end DL
set_option Elab.async false
set_option linter.all false
set_option maxRecDepth 100000
namespace DL
open PySem L2
/-! ### heaps -/
theorem Same.upd_new {G : Hp} {p : Addr} {o : HO} (h : G p = none) : Same G (upd G p o) := fun b u e => by
  rw [upd_ne (ne_of_none e h)]
  exact e
theorem Same.upd2 {G H : Hp} {p : Addr} {o : HO} (h : Same G H) : Same (upd G p o) (upd H p o) := fun b u e => by
  by_cases q : b = p
  · subst q
    rw [upd_same] at e ⊢
    exact e
  · rw [upd_ne q] at e ⊢
    exact h b u e
theorem Same.upd_r {G H : Hp} {p : Addr} {o : HO} (h : Same G H) (n : G p = none) : Same G (upd H p o) := fun b u e => by
  rw [upd_ne (ne_of_none e n)]
  exact h b u e
theorem Same.upd_l {G H : Hp} {p : Addr} {o : HO} (h : Same G H) (e : H p = some o) : Same (upd G p o) H := fun b u q => by
  by_cases z : b = p
  · subst z
    rw [upd_same] at q
    rw [e]
    exact q
  · rw [upd_ne z] at q
    exact h b u q
section
variable {F : Fm} {G B H : Hp} {p : Addr} {o : HO}
theorem Ok.refl {F : Fm} (gh : Same F.G0 F.H0) (bh : Same F.B0 F.H0) (dj : ∀ a o, F.G0 a = some o → F.B0 a = none) : Ok F F.G0 F.B0 F.H0 :=
  ⟨gh, bh, dj, Same.refl _, fun a o e => ⟨o, e⟩, fun _ _ e _ => e, fun _ _ _ e _ => e, fun _ _ _ e => e⟩
theorem Ok.fresh (h : Ok F G B H) (n : H p = none) : F.H0 p = none := by
  cases e : F.H0 p with
  | none => rfl
  | some o =>
    obtain ⟨o', q⟩ := h.up p o e
    rw [n] at q
    cases q
theorem Ok.laidG (h : Ok F G B H) (n : H p = none) : Ok F (upd G p o) B (upd H p o) where
  gh := Same.upd2 h.gh
  bh := Same.upd_r h.bh (Same.free h.bh n)
  dj := fun a u e => by
    by_cases q : a = p
    · subst q
      exact Same.free h.bh n
    · rw [upd_ne q] at e
      exact h.dj a u e
  g0 := fun a u e => by
    rw [upd_ne (ne_of_none (h.g0 a u e) (Same.free h.gh n))]
    exact h.g0 a u e
  up := fun a u e => by
    obtain ⟨o', q⟩ := h.up a u e
    exact ⟨o', by rw [upd_ne (ne_of_none q n)]; exact q⟩
  out := fun a u e b => by
    have q := h.out a u e b
    rw [upd_ne (ne_of_none q n)]
    exact q
  gn := fun a u e g b => by
    obtain ⟨o', q⟩ := h.up a u e
    rw [upd_ne (ne_of_none q n)]
    exact h.gn a u e g b
  bn := h.bn
theorem Ok.laid (h : Ok F G B H) (n : H p = none) : Ok F G B (upd H p o) where
  gh := Same.upd_r h.gh (Same.free h.gh n)
  bh := Same.upd_r h.bh (Same.free h.bh n)
  dj := h.dj
  g0 := h.g0
  up := fun a u e => by
    obtain ⟨o', q⟩ := h.up a u e
    exact ⟨o', by rw [upd_ne (ne_of_none q n)]; exact q⟩
  out := fun a u e b => by
    have q := h.out a u e b
    rw [upd_ne (ne_of_none q n)]
    exact q
  gn := h.gn
  bn := h.bn
/-- a thing of one's own becomes still -/
theorem Ok.still (h : Ok F G B H) (e : H p = some o) (gp : G p = none) (bp : B p = none) (hp : F.H0 p = none) : Ok F (upd G p o) B H where
  gh := Same.upd_l h.gh e
  bh := h.bh
  dj := fun a u q => by
    by_cases z : a = p
    · subst z
      exact bp
    · rw [upd_ne z] at q
      exact h.dj a u q
  g0 := fun a u q => by
    have q' := h.g0 a u q
    rw [upd_ne (ne_of_none q' gp)]
    exact q'
  up := h.up
  out := h.out
  gn := fun a u q g b => by
    rw [upd_ne (ne_of_none q hp)]
    exact h.gn a u q g b
  bn := h.bn
/-- a thing of one's own changes -/
theorem Ok.change {o' : HO} (h : Ok F G B H) (gp : G p = none) (bp : B p = none) (hp : F.H0 p = none) : Ok F G B (upd H p o') where
  gh := Same.upd_r h.gh gp
  bh := Same.upd_r h.bh bp
  dj := h.dj
  g0 := h.g0
  up := fun a u e => by
    obtain ⟨w, q⟩ := h.up a u e
    exact ⟨w, by rw [upd_ne (ne_of_none e hp)]; exact q⟩
  out := fun a u e b => by
    rw [upd_ne (ne_of_none e hp)]
    exact h.out a u e b
  gn := h.gn
  bn := h.bn
/-- behind a call -/
theorem Ok.call {G' B' H' : Hp} (h : Ok F G B H) (c : Ok ⟨H, G, B⟩ G' B' H') : Ok F G' B' H' where
  gh := c.gh
  bh := c.bh
  dj := c.dj
  g0 := h.g0.trans c.g0
  up := fun a u e => by
    obtain ⟨o', q⟩ := h.up a u e
    exact c.up a o' q
  out := fun a u e b => c.out a u (h.out a u e b) (h.bn a u e b)
  gn := fun a u e g b => by
    obtain ⟨o', q⟩ := h.up a u e
    exact c.gn a o' q (h.gn a u e g b) (h.bn a u e b)
  bn := fun a u e b => c.bn a u (h.out a u e b) (h.bn a u e b)
end
section
variable {Z : Zc} {Γ : Ctx} {s s' : Z.S} {G G' B B' : Hp} {σ : St} {H H' : Hp} {p : Addr} {o : HO}
theorem Sta.laidG (h : Sta Z Γ s G B σ H) (n : H p = none) : Sta Z Γ s (upd G p o) B σ (upd H p o) := by
  have g : Same G (upd G p o) := Same.upd_new (Same.free h.ok.gh n)
  refine ⟨h.ok.laidG n, (Z.R s).mono g h.res, ⟨h.sl.len, fun k A e => ?_, fun k L e => ?_, h.sl.ne⟩, ⟨h.sle.1, fun k A e => ?_⟩, Same.upd_r h.held (Same.free h.held n), fun a u e => ?_⟩
  · obtain ⟨v, h1, h2⟩ := h.sl.fz k A e
    exact ⟨v, h1, A.mono g h2⟩
  · obtain ⟨a, u, h1, h2, h3, h4, h5, h6⟩ := h.sl.lv k L e
    have ne : a ≠ p := ne_of_none h2 n
    exact ⟨a, u, h1, by rw [upd_ne ne]; exact h2, L.mono g h3, by rw [upd_ne ne]; exact h4, h5, h6⟩
  · obtain ⟨v, h1, h2⟩ := h.sle.2 k A e
    exact ⟨v, h1, A.mono g h2⟩
  · obtain ⟨h1, h2⟩ := h.off a u e
    exact ⟨by rw [upd_ne (ne_of_none (h.held a u e) n)]; exact h1, h2⟩
theorem Sta.laid (h : Sta Z Γ s G B σ H) (n : H p = none) : Sta Z Γ s G B σ (upd H p o) := by
  refine ⟨h.ok.laid n, h.res, ⟨h.sl.len, h.sl.fz, fun k L e => ?_, h.sl.ne⟩, h.sle, Same.upd_r h.held (Same.free h.held n), h.off⟩
  obtain ⟨a, u, h1, h2, h3, h4, h5, h6⟩ := h.sl.lv k L e
  exact ⟨a, u, h1, by rw [upd_ne (ne_of_none h2 n)]; exact h2, h3, h4, h5, h6⟩
theorem Sta.offP (h : Sta Z Γ s G B σ H) (n : H p = none) : Off Γ σ p := fun k L e q => by
  obtain ⟨a, u, h1, h2, _⟩ := h.sl.lv k L e
  rw [q] at h1
  have z : p = a := by
    injection h1 with h1
    injection h1 with h1
    injection h1
  rw [← z, n] at h2
  cases h2
/-- a new thing of one's own -/
theorem Sta.own (h : Sta Z Γ s G B σ H) (n : H p = none) {α : Type} {c : α → MP HO} {x : α} (hc : (c x).p o G) : Has Z Γ σ (.own c) x (.ref p) G B (upd H p o) :=
  ⟨p, o, rfl, upd_same, hc, Same.free h.ok.gh n, Same.free h.ok.bh n, h.ok.fresh n, Same.free h.held n, h.offP n⟩
theorem Sta.still (h : Sta Z Γ s G B σ H) (e : H p = some o) (gp : G p = none) (bp : B p = none) (hp : Z.F.H0 p = none) (hh : Z.hd p = none) (f : Off Γ σ p) : Sta Z Γ s (upd G p o) B σ H := by
  have g : Same G (upd G p o) := Same.upd_new gp
  refine ⟨h.ok.still e gp bp hp, (Z.R s).mono g h.res, ⟨h.sl.len, fun k A q => ?_, fun k L q => ?_, h.sl.ne⟩, ⟨h.sle.1, fun k A q => ?_⟩, h.held, fun a u q => ?_⟩
  · obtain ⟨v, h1, h2⟩ := h.sl.fz k A q
    exact ⟨v, h1, A.mono g h2⟩
  · obtain ⟨a, u, h1, h2, h3, h4, h5, h6⟩ := h.sl.lv k L q
    have ne : a ≠ p := fun z => f k L q (by rw [← z]; exact h1)
    exact ⟨a, u, h1, h2, L.mono g h3, by rw [upd_ne ne]; exact h4, h5, h6⟩
  · obtain ⟨v, h1, h2⟩ := h.sle.2 k A q
    exact ⟨v, h1, A.mono g h2⟩
  · obtain ⟨h1, h2⟩ := h.off a u q
    exact ⟨by rw [upd_ne (ne_of_none q hh)]; exact h1, h2⟩
theorem Sta.call (h : Sta Z Γ s G B σ H) (c : Ok ⟨H, G, B⟩ G' B' H') (r : (Z.R s').p B' G') : Sta Z Γ s' G' B' σ H' := by
  refine ⟨h.ok.call c, r, ⟨h.sl.len, fun k A q => ?_, fun k L q => ?_, h.sl.ne⟩, ⟨h.sle.1, fun k A q => ?_⟩, fun a u q => ?_, fun a u q => ?_⟩
  · obtain ⟨v, h1, h2⟩ := h.sl.fz k A q
    exact ⟨v, h1, A.mono c.g0 h2⟩
  · obtain ⟨a, u, h1, h2, h3, h4, h5, h6⟩ := h.sl.lv k L q
    exact ⟨a, u, h1, c.out a u h2 h5, L.mono c.g0 h3, c.gn a u h2 h4 h5, c.bn a u h2 h5, h6⟩
  · obtain ⟨v, h1, h2⟩ := h.sle.2 k A q
    exact ⟨v, h1, A.mono c.g0 h2⟩
  · exact c.out a u (h.held a u q) (h.off a u q).2.1
  · obtain ⟨h1, h2, h3⟩ := h.off a u q
    exact ⟨c.gn a u (h.held a u q) h1 h2, c.bn a u (h.held a u q) h2, h3⟩
/-- less is known -/
def Le (Γ Γ' : Ctx) : Prop := Γ'.length ≤ Γ.length ∧ ∀ (k : Nat) (x : Asn), Γ'[k]? = some (some x) → Γ[k]? = some (some x)
theorem Le.refl (Γ : Ctx) : Le Γ Γ := ⟨Nat.le_refl _, fun _ _ h => h⟩
theorem Le.nil {Γ : Ctx} : Le Γ [] := ⟨Nat.zero_le _, fun k x h => by simp at h⟩
theorem Le.none {a : Option Asn} {Γ Γ' : Ctx} (h : Le Γ Γ') : Le (a :: Γ) (none :: Γ') := ⟨Nat.succ_le_succ h.1, fun k x q => by
  cases k with
  | zero => simp at q
  | succ k => simpa using h.2 k x (by simpa using q)⟩
theorem Le.some {a : Option Asn} {Γ Γ' : Ctx} (h : Le Γ Γ') : Le (a :: Γ) (a :: Γ') := ⟨Nat.succ_le_succ h.1, fun k x q => by
  cases k with
  | zero => simpa using q
  | succ k => simpa using h.2 k x (by simpa using q)⟩
theorem Sta.weak {Γ' : Ctx} (h : Sta Z Γ s G B σ H) (l : Le Γ Γ') : Sta Z Γ' s G B σ H :=
  ⟨h.ok, h.res, ⟨Nat.le_trans l.1 h.sl.len, fun k A q => h.sl.fz k A (l.2 k _ q), fun k L q => h.sl.lv k L (l.2 k _ q), fun k j L L' a q1 q2 => h.sl.ne k j L L' a (l.2 k _ q1) (l.2 j _ q2)⟩, h.sle, h.held, h.off⟩
theorem Sta.nil (h : Sta Z Γ s G B σ H) : Sta Z [] s G B σ H := h.weak Le.nil
/-- a slot that the error's part does not speak of -/
def NoE (E : List (Option (MP V))) (k : Nat) : Prop := ∀ A, E[k]? ≠ some (some A)
theorem NoE.nil {k : Nat} : NoE [] k := fun A h => by simp at h
theorem NoE.one {k : Nat} {A0 : Option (MP V)} : NoE [A0] (k + 1) := fun A h => by simp at h
theorem NoE.ones {A0 : Option (MP V)} {ks : List Nat} (h : ks.all (fun k => decide (0 < k)) = true) : ∀ k ∈ ks, NoE [A0] k := fun k hk => by
  have z := of_decide_eq_true (List.all_eq_true.mp h k hk)
  cases k with
  | zero => cases z
  | succ k => exact NoE.one
theorem set_at {α : Type} {l : List α} {k j : Nat} {x y : α} (h : (l.set k x)[j]? = some y) : (j = k ∧ x = y) ∨ (j ≠ k ∧ l[j]? = some y) := by
  by_cases e : j = k
  · subst e
    rw [List.getElem?_set] at h
    by_cases z : j < l.length
    · simp [z] at h
      exact .inl ⟨rfl, h⟩
    · simp [z] at h
  · rw [List.getElem?_set_ne (Ne.symm e)] at h
    exact .inr ⟨e, h⟩
/-- a name is stored -/
theorem Sta.set {k : Nat} {A : MP V} {v : V} (h : Sta Z Γ s G B σ H) (hk : k < Γ.length) (hE : NoE Z.E k) (q : A.p v G) : Sta Z (Γ.set k (some (.fz A))) s G B (σ.set k (some v)) H := by
  have hk' : k < σ.length := Nat.lt_of_lt_of_le hk h.sl.len
  refine ⟨h.ok, h.res, ⟨by rw [List.length_set, List.length_set]; exact h.sl.len, fun j A' e => ?_, fun j L e => ?_, fun j i L L' a e1 e2 q1 q2 => ?_⟩, ⟨by rw [List.length_set]; exact h.sle.1, fun j A' e => ?_⟩, h.held, h.off⟩
  · rcases set_at e with ⟨rfl, z⟩ | ⟨n, z⟩
    · injection z with z
      injection z with z
      subst z
      exact ⟨v, by rw [List.getElem?_set_self hk'], q⟩
    · obtain ⟨w, h1, h2⟩ := h.sl.fz j A' z
      exact ⟨w, by rw [List.getElem?_set_ne (Ne.symm n)]; exact h1, h2⟩
  · rcases set_at e with ⟨rfl, z⟩ | ⟨n, z⟩
    · injection z with z
      injection z
    · obtain ⟨a, u, h1, r⟩ := h.sl.lv j L z
      exact ⟨a, u, by rw [List.getElem?_set_ne (Ne.symm n)]; exact h1, r⟩
  · rcases set_at e1 with ⟨rfl, z⟩ | ⟨n, z⟩
    · injection z with z
      injection z
    · rcases set_at e2 with ⟨rfl, z2⟩ | ⟨n2, z2⟩
      · injection z2 with z2
        injection z2
      · rw [List.getElem?_set_ne (Ne.symm n)] at q1
        rw [List.getElem?_set_ne (Ne.symm n2)] at q2
        exact h.sl.ne j i L L' a z z2 q1 q2
  · have n : j ≠ k := fun z => hE A' (by rw [← z]; exact e)
    obtain ⟨w, h1, h2⟩ := h.sle.2 j A' e
    exact ⟨w, by rw [List.getElem?_set_ne (Ne.symm n)]; exact h1, h2⟩
/-- a name is stored, a thing of one's own -/
theorem Sta.setO {k : Nat} {α : Type} {c : α → MP HO} {x : α} {v : V} (h : Sta Z Γ s G B σ H) (hk : k < Γ.length) (hE : NoE Z.E k) (q : Has Z Γ σ (.own c) x v G B H) : Sta Z (Γ.set k (some (.lv (c x)))) s G B (σ.set k (some v)) H := by
  obtain ⟨p, o, rfl, e, hc, gp, bp, hp, hh, f⟩ := q
  have hk' : k < σ.length := Nat.lt_of_lt_of_le hk h.sl.len
  refine ⟨h.ok, h.res, ⟨by rw [List.length_set, List.length_set]; exact h.sl.len, fun j A' e => ?_, fun j L e' => ?_, fun j i L L' a e1 e2 q1 q2 => ?_⟩, ⟨by rw [List.length_set]; exact h.sle.1, fun j A' e => ?_⟩, h.held, h.off⟩
  · rcases set_at e with ⟨rfl, z⟩ | ⟨n, z⟩
    · injection z with z
      injection z
    · obtain ⟨w, h1, h2⟩ := h.sl.fz j A' z
      exact ⟨w, by rw [List.getElem?_set_ne (Ne.symm n)]; exact h1, h2⟩
  · rcases set_at e' with ⟨rfl, z⟩ | ⟨n, z⟩
    · injection z with z
      injection z with z
      subst z
      exact ⟨p, o, by rw [List.getElem?_set_self hk'], e, hc, gp, bp, hp, hh⟩
    · obtain ⟨a, u, h1, r⟩ := h.sl.lv j L z
      exact ⟨a, u, by rw [List.getElem?_set_ne (Ne.symm n)]; exact h1, r⟩
  · rcases set_at e1 with ⟨rfl, z⟩ | ⟨n, z⟩
    · rcases set_at e2 with ⟨rfl, z2⟩ | ⟨n2, z2⟩
      · rfl
      · rw [List.getElem?_set_self hk'] at q1
        rw [List.getElem?_set_ne (Ne.symm n2)] at q2
        injection q1 with q1
        injection q1 with q1
        injection q1 with q1
        rw [← q1] at q2
        exact (f i L' z2 q2).elim
    · rcases set_at e2 with ⟨rfl, z2⟩ | ⟨n2, z2⟩
      · rw [List.getElem?_set_self hk'] at q2
        rw [List.getElem?_set_ne (Ne.symm n)] at q1
        injection q2 with q2
        injection q2 with q2
        injection q2 with q2
        rw [← q2] at q1
        exact (f j L z q1).elim
      · rw [List.getElem?_set_ne (Ne.symm n)] at q1
        rw [List.getElem?_set_ne (Ne.symm n2)] at q2
        exact h.sl.ne j i L L' a z z2 q1 q2
  · have n : j ≠ k := fun z => hE A' (by rw [← z]; exact e)
    obtain ⟨w, h1, h2⟩ := h.sle.2 j A' e
    exact ⟨w, by rw [List.getElem?_set_ne (Ne.symm n)]; exact h1, h2⟩
/-- the thing of one's own in slot k changes -/
theorem Sta.change {k : Nat} {L L' : MP HO} {o' : HO} (h : Sta Z Γ s G B σ H) (hk : Γ[k]? = some (some (.lv L))) (hs : σ[k]? = some (some (.ref p))) (q : L'.p o' G) : Sta Z (Γ.set k (some (.lv L'))) s G B σ (upd H p o') := by
  obtain ⟨a, u, h1, h2, h3, gp, bp, hp, hh⟩ := h.sl.lv k L hk
  have ea : a = p := by
    rw [hs] at h1
    injection h1 with h1
    injection h1 with h1
    injection h1 with h1
    exact h1.symm
  subst ea
  refine ⟨h.ok.change gp bp hp, h.res, ⟨by rw [List.length_set]; exact h.sl.len, fun j A' e => ?_, fun j L1 e' => ?_, fun j i L1 L2 b e1 e2 q1 q2 => ?_⟩, h.sle, Same.upd_r h.held hh, h.off⟩
  · rcases set_at e with ⟨rfl, z⟩ | ⟨n, z⟩
    · injection z with z
      injection z
    · exact h.sl.fz j A' z
  · rcases set_at e' with ⟨rfl, z⟩ | ⟨n, z⟩
    · injection z with z
      injection z with z
      subst z
      exact ⟨a, o', hs, upd_same, q, gp, bp, hp, hh⟩
    · obtain ⟨b, w, r1, r2, r3⟩ := h.sl.lv j L1 z
      have ne : b ≠ a := fun y => n (h.sl.ne j k L1 L a z hk (by rw [← y]; exact r1) hs)
      exact ⟨b, w, r1, by rw [upd_ne ne]; exact r2, r3⟩
  · have back : ∀ (j : Nat) (L1 : MP HO), (Γ.set k (some (.lv L')))[j]? = some (some (.lv L1)) → ∃ L2, Γ[j]? = some (some (.lv L2)) := fun j L1 e => by
      rcases set_at e with ⟨rfl, z⟩ | ⟨n, z⟩
      · exact ⟨L, hk⟩
      · exact ⟨L1, z⟩
    obtain ⟨M1, z1⟩ := back j L1 e1
    obtain ⟨M2, z2⟩ := back i L2 e2
    exact h.sl.ne j i M1 M2 b z1 z2 q1 q2
/-- the thing of one's own in slot k becomes still -/
theorem Sta.stillAt {k : Nat} {L : MP HO} {A : MP V} (h : Sta Z Γ s G B σ H) (hk : Γ[k]? = some (some (.lv L))) (hA : ∀ a o G1, σ[k]? = some (some (.ref a)) → L.p o G → G1 = upd G a o → Same G G1 → A.p (.ref a) G1) : ∃ G1, Same G G1 ∧ Sta Z (Γ.set k (some (.fz A))) s G1 B σ H := by
  obtain ⟨a, u, h1, h2, h3, gp, bp, hp, hh⟩ := h.sl.lv k L hk
  have g : Same G (upd G a u) := Same.upd_new gp
  refine ⟨upd G a u, g, h.ok.still h2 gp bp hp, (Z.R s).mono g h.res, ⟨by rw [List.length_set]; exact h.sl.len, fun j A' e => ?_, fun j L1 e' => ?_, fun j i L1 L2 b e1 e2 q1 q2 => ?_⟩, ⟨h.sle.1, fun j A' e => ?_⟩, h.held, fun b w q => ?_⟩
  · rcases set_at e with ⟨rfl, z⟩ | ⟨n, z⟩
    · injection z with z
      injection z with z
      subst z
      exact ⟨_, h1, hA a u _ h1 h3 rfl g⟩
    · obtain ⟨w, h4, h5⟩ := h.sl.fz j A' z
      exact ⟨w, h4, A'.mono g h5⟩
  · rcases set_at e' with ⟨rfl, z⟩ | ⟨n, z⟩
    · injection z with z
      injection z
    · obtain ⟨b, w, r1, r2, r3, r4, r5⟩ := h.sl.lv j L1 z
      have ne : b ≠ a := fun y => n (h.sl.ne j k L1 L a z hk (by rw [← y]; exact r1) h1)
      exact ⟨b, w, r1, r2, L1.mono g r3, by rw [upd_ne ne]; exact r4, r5⟩
  · rcases set_at e1 with ⟨rfl, z⟩ | ⟨n, z⟩
    · injection z with z
      injection z
    · rcases set_at e2 with ⟨rfl, z2⟩ | ⟨n2, z2⟩
      · injection z2 with z2
        injection z2
      · exact h.sl.ne j i L1 L2 b z z2 q1 q2
  · obtain ⟨w, h4, h5⟩ := h.sle.2 j A' e
    exact ⟨w, h4, A'.mono g h5⟩
  · obtain ⟨h1, h2⟩ := h.off b w q
    exact ⟨by rw [upd_ne (ne_of_none q hh)]; exact h1, h2⟩
/-- a dict of one's own in slot k is locked for good (ahead: its content's heap) -/
theorem Sta.lockAt {k : Nat} {L : MP HO} {A : MP V} {o' : HO} (h : Sta Z Γ s G B σ H) (hk : Γ[k]? = some (some (.lv L))) (hs : σ[k]? = some (some (.ref p))) (hA : ∀ G1, G1 = upd G p o' → Same G G1 → A.p (.ref p) G1) : ∃ G1, Same G G1 ∧ Sta Z (Γ.set k (some (.fz A))) s G1 B σ (upd H p o') := by
  have h2 := h.change (L' := ⟨fun o _ => o = o', fun _ q => q⟩) hk hs rfl
  have hk2 : (Γ.set k (some (.lv ⟨fun o _ => o = o', fun _ q => q⟩)))[k]? = some (some (.lv ⟨fun o _ => o = o', fun _ q => q⟩)) := by
    rw [List.getElem?_set_self (List.getElem?_eq_some_iff.mp hk).1]
  obtain ⟨a, u, e1, e2, e3, gp, r⟩ := h2.sl.lv k _ hk2
  have ea : a = p := by
    rw [hs] at e1
    injection e1 with e1
    injection e1 with e1
    injection e1 with e1
    exact e1.symm
  subst ea
  have e3 : u = o' := e3
  subst e3
  have z := h2.stillAt (A := A) hk2 fun b o G1 hb (ho : o = u) e1 g => by
    have eb : b = a := by
      rw [hs] at hb
      injection hb with hb
      injection hb with hb
      injection hb with hb
      exact hb.symm
    rw [eb, ho] at e1
    rw [eb]
    exact hA G1 e1 g
  rw [List.set_set] at z
  exact z
end
end DL
set_option Elab.async false
set_option linter.all false
set_option maxRecDepth 100000
namespace DL
open PySem L2
/-- what every piece of text may lean on -/
structure ZOk (Z : Zc) : Prop where
  calm : Z.X.calm = true
  own : PassesOwn (model Z.X.prog Z.X.w) Z.X.A Z.X.env Z.X.xe
  nd : Z.X.N.Nodup
  tk : Takes Z.X Z.W
section
variable {Z : Zc} {Γ : Ctx} {α β γ : Type} {a b c : Expr} {pos : Pos}
/-! ### names and constants -/
theorem JE.of_ret {e : Expr} {x : α} {ρ : Res α} {t : TE} (h : PE Z.X e t) (i : ∀ s G B σ H (Q : VK), Sta Z Γ s G B σ H → (∀ v H' G' B', Same G G' → Sta Z Γ s G' B' σ H' → Has Z Γ σ ρ x v G' B' H' → Q v H') → t σ H Q) : JE Z Γ e (ret x) ρ :=
  ⟨PE.imp h fun σ H Q ⟨s, G, B, st, q⟩ => i s G B σ H Q st q⟩
theorem je_var {n : Str} {r : Rp α} {x : α} (k : Nat) (hk : Γ[k]? = some (some (.fz (r x)))) (hp : PE Z.X (.Name n pos) (tVar k)) : JE Z Γ (.Name n pos) (ret x) (.fz r) :=
  JE.of_ret hp fun s G B σ H Q st q => by
    obtain ⟨v, h1, h2⟩ := st.sl.fz k _ hk
    exact ⟨v, h1, q v H G B (Same.refl _) st h2⟩
theorem je_int {i : Int} {j : Nat} : JE Z Γ (.Constant (.int i) j pos) (ret i) (.fz rI) :=
  JE.of_ret pe_int fun s G B σ H Q st q => q _ H G B (Same.refl _) st rfl
theorem je_str {x : Str} {j : Nat} : JE Z Γ (.Constant (.str x) j pos) (ret x) (.fz rS) :=
  JE.of_ret pe_str fun s G B σ H Q st q => q _ H G B (Same.refl _) st rfl
theorem je_bl {x : Bool} {j : Nat} : JE Z Γ (.Constant (.bool x) j pos) (ret x) (.fz rB) :=
  JE.of_ret pe_bl fun s G B σ H Q st q => q _ H G B (Same.refl _) st rfl
theorem je_non {j : Nat} : JE Z Γ (.Constant .none j pos) (ret ()) (.fz rU) :=
  JE.of_ret pe_non fun s G B σ H Q st q => q _ H G B (Same.refl _) st rfl
/-- None where a thing may stand -/
theorem je_noneO {j : Nat} {r : Rp α} : JE Z Γ (.Constant .none j pos) (ret (none : Option α)) (.fz (rO r)) :=
  JE.of_ret pe_non fun s G B σ H Q st q => q _ H G B (Same.refl _) st rfl
/-- a thing where None may stand -/
theorem je_someO {e : Expr} {m : M Z.S α} {r : Rp α} (h : JE Z Γ e m (.fz r)) : JE Z Γ e (bnd m fun x => ret (some x)) (.fz (rO r)) :=
  ⟨PE.imp h.pe fun σ H Q ⟨s, G, B, st, q⟩ => by
    refine ⟨s, G, B, st, ?_⟩
    have q : PostE Z Γ (.fz (rO r)) σ Q G ((m s).bnd fun x => ret (some x)) := q
    revert q
    induction m s with
    | ok x s1 => exact fun q v H' G' B' g st' hs => q v H' G' B' g st' hs
    | err x s1 => exact fun q => q
    | stuck => exact fun q => q
    | all av o9 ih9 => exact fun q a9 h9 => ih9 a9 (q a9 h9)⟩
theorem je_glob {n : Str} {r : Rp α} {x : α} {v : V} {u : Value} (hg : Gl Z.X n) (hm : Z.X.mg n = some u) (rv : RelV v u) (hr : ∀ G, (r x).p v G) (hd : (n == ("__debug__" : Str)) = false := by decide) : JE Z Γ (.Name n pos) (ret x) (.fz r) :=
  JE.of_ret (pe_glob hg hm rv hd) fun s G B σ H Q st q => q _ H G B (Same.refl _) st (hr G)
/-! ### two operands -/
theorem je_two {e : Expr} {r : R2} {ma : M Z.S α} {mb : M Z.S β} {ρa : Rp α} {ρb : Rp β} (f : α → β → M Z.S γ) (ρ : Res γ) (hp : ∀ ta tb, PE Z.X a ta → PE Z.X b tb → PE Z.X e (tOp r ta tb)) (ha : JE Z Γ a ma (.fz ρa)) (hb : JE Z Γ b mb (.fz ρb))
    (h : ∀ x y v w s G B σ H (Q : VK), Sta Z Γ s G B σ H → (ρa x).p v G → (ρb y).p w G → PostE Z Γ ρ σ Q G (f x y s) → r v w H Q) : JE Z Γ e (bnd ma fun x => bnd mb fun y => f x y) ρ :=
  ⟨PE.imp (hp _ _ ha.pe hb.pe) fun σ H Q ⟨s, G, B, st, q⟩ => by
    refine tE.imp (tE_bnd (ρ := .fz ρa) st q) ?_
    rintro v H1 ⟨x, s1, G1, B1, g1, st1, hx, q1⟩
    refine tE.imp (tE_bnd (ρ := .fz ρb) st1 q1) ?_
    rintro w H2 ⟨y, s3, G3, B3, g3, st3, hy, q3⟩
    exact h x y v w s3 G3 B3 σ H2 Q st3 ((ρa x).mono g3 hx) hy q3⟩
theorem jt_two {e : Expr} {r : R2} {ma : M Z.S α} {mb : M Z.S β} {ρa : Rp α} {ρb : Rp β} (f : α → β → M Z.S Bool) (hp : ∀ ta tb, PE Z.X a ta → PE Z.X b tb → PT Z.X e (tTest (tOp r ta tb))) (ha : JE Z Γ a ma (.fz ρa)) (hb : JE Z Γ b mb (.fz ρb))
    (h : ∀ x y v w s G B σ H (Q : VK), Sta Z Γ s G B σ H → (ρa x).p v G → (ρb y).p w G → PostE Z Γ (.fz rB) σ Q G (f x y s) → r v w H Q) : JT Z Γ e (bnd ma fun x => bnd mb fun y => f x y) :=
  ⟨PT.imp (hp _ _ ha.pe hb.pe) fun σ H Q ⟨s, G, B, st, q⟩ => by
    refine tE.imp (tE_bndT (ρ := .fz ρa) st q) ?_
    rintro v H1 ⟨x, s1, G1, B1, g1, st1, hx, q1⟩
    refine tE.imp (tE_bndT (ρ := .fz ρb) st1 q1) ?_
    rintro w H2 ⟨y, s3, G3, B3, g3, st3, hy, q3⟩
    refine h x y v w s3 G3 B3 σ H2 _ st3 ((ρa x).mono g3 hx) hy ?_
    revert q3
    induction f x y s3 with
    | ok z s4 => exact fun q3 v' H' G' B' g st' (hs : v' = .bl z) => ⟨z, hs, q3 H' G' B' g st'⟩
    | err z s4 => exact fun q3 => q3
    | stuck => exact fun q3 => q3
    | all av o9 ih9 => exact fun q3 a9 h9 => ih9 a9 (q3 a9 h9)⟩
/-- behind an expression: one more step -/
theorem je_one {e e' : Expr} {t' : TE → TE} {m : M Z.S α} {ρa : Res α} (f : α → M Z.S γ) (ρ : Res γ) (hp : ∀ ta, PE Z.X e ta → PE Z.X e' (t' ta)) (ht : ∀ ta σ H Q, t' ta σ H Q = ta σ H fun v H1 => t' (fun _ H2 Q2 => Q2 v H2) σ H1 Q) (ha : JE Z Γ e m ρa)
    (h : ∀ x v s G B σ H (Q : VK), Sta Z Γ s G B σ H → Has Z Γ σ ρa x v G B H → PostE Z Γ ρ σ Q G (f x s) → t' (fun _ H2 Q2 => Q2 v H2) σ H Q) : JE Z Γ e' (bnd m f) ρ :=
  ⟨PE.imp (hp _ ha.pe) fun σ H Q ⟨s, G, B, st, q⟩ => by
    rw [ht]
    refine tE.imp (tE_bnd (ρ := ρa) st q) ?_
    rintro v H1 ⟨x, s1, G1, B1, g1, st1, hx, q1⟩
    exact h x v s1 G1 B1 σ H1 Q st1 hx q1⟩
variable {ma mb mc : M Z.S Int}
theorem fin {x : α} {ρ : Res α} {s : Z.S} {G B : Hp} {σ : St} {H : Hp} {Q : VK} (q : PostE Z Γ ρ σ Q G (ret x s)) (st : Sta Z Γ s G B σ H) {v : V} (h : Has Z Γ σ ρ x v G B H) : Q v H := q v H G B (Same.refl _) st h
/-- a condition stands ahead -/
theorem grd_of {b : Bool} {f : Unit → M Z.S α} {ρ : Res α} {s : Z.S} {G : Hp} {σ : St} {Q : VK} (q : PostE Z Γ ρ σ Q G (bnd (grd b) f s)) : b = true ∧ PostE Z Γ ρ σ Q G (f () s) := by
  cases b with
  | true => exact ⟨rfl, q⟩
  | false => exact q.elim
theorem opt_of {o : Option α} {f : α → M Z.S β} {ρ : Res β} {s : Z.S} {G : Hp} {σ : St} {Q : VK} (q : PostE Z Γ ρ σ Q G (bnd (opt o) f s)) : ∃ x, o = some x ∧ PostE Z Γ ρ σ Q G (f x s) := by
  cases o with
  | some x => exact ⟨x, rfl, q⟩
  | none => exact q.elim
theorem opt_of' {o : Option α} {ρ : Res α} {s : Z.S} {G : Hp} {σ : St} {Q : VK} (q : PostE Z Γ ρ σ Q G (opt o s)) : ∃ x, o = some x ∧ PostE Z Γ ρ σ Q G (ret x s) := by
  cases o with
  | some x => exact ⟨x, rfl, q⟩
  | none => exact q.elim
/-! ### whole numbers -/
theorem je_add (ha : JE Z Γ a ma (.fz rI)) (hb : JE Z Γ b mb (.fz rI)) : JE Z Γ (.BinOp a .Add b pos) (bnd ma fun x => bnd mb fun y => ret (x + y)) (.fz rI) :=
  je_two (fun x y => ret (x + y)) (.fz rI) (fun _ _ p q => pe_op op_add p q) ha hb fun x y v w s G B σ H Q st hv hw q => ⟨x, y, hv, hw, fin q st rfl⟩
theorem je_sub (ha : JE Z Γ a ma (.fz rI)) (hb : JE Z Γ b mb (.fz rI)) : JE Z Γ (.BinOp a .Sub b pos) (bnd ma fun x => bnd mb fun y => ret (x - y)) (.fz rI) :=
  je_two (fun x y => ret (x - y)) (.fz rI) (fun _ _ p q => pe_op op_sub p q) ha hb fun x y v w s G B σ H Q st hv hw q => ⟨x, y, hv, hw, fin q st rfl⟩
/-- a factor within 64 bits -/
def small64B (i : Int) : Bool := decide (-(2 ^ 64) < i) && decide (i < 2 ^ 64)
theorem small64B_ok {i : Int} (h : small64B i = true) : -(2 ^ 64) < i ∧ i < 2 ^ 64 := by
  have z := Bool.and_eq_true_iff.mp h
  exact ⟨of_decide_eq_true z.1, of_decide_eq_true z.2⟩
def mulM {S : Type} (x y : Int) : M S Int := bnd (grd (small64B x || small64B y)) fun _ => ret (x * y)
theorem je_mul (ha : JE Z Γ a ma (.fz rI)) (hb : JE Z Γ b mb (.fz rI)) : JE Z Γ (.BinOp a .Mult b pos) (bnd ma fun x => bnd mb fun y => mulM x y) (.fz rI) :=
  je_two (fun x y => mulM x y) (.fz rI) (fun _ _ p q => pe_op op_mul p q) ha hb fun x y v w s G B σ H Q st hv hw q => by
    obtain ⟨c, q⟩ := grd_of q
    refine ⟨x, y, hv, hw, ?_, fin q st rfl⟩
    rcases Bool.or_eq_true_iff.mp c with c | c
    · exact .inl (small64B_ok c)
    · exact .inr (small64B_ok c)
def modM {S : Type} (x y : Int) : M S Int := bnd (grd (decide (0 < y))) fun _ => ret (x % y)
theorem je_mod (ha : JE Z Γ a ma (.fz rI)) (hb : JE Z Γ b mb (.fz rI)) : JE Z Γ (.BinOp a .Mod b pos) (bnd ma fun x => bnd mb fun y => modM x y) (.fz rI) :=
  je_two (fun x y => modM x y) (.fz rI) (fun _ _ p q => pe_op op_mod p q) ha hb fun x y v w s G B σ H Q st hv hw q => by
    obtain ⟨c, q⟩ := grd_of q
    exact ⟨x, y, hv, hw, of_decide_eq_true c, fin q st rfl⟩
def fdivM {S : Type} (x y : Int) : M S Int := bnd (grd (decide (0 < y) && decide (y < 1073741824))) fun _ => ret (x / y)
theorem je_fdiv (ha : JE Z Γ a ma (.fz rI)) (hb : JE Z Γ b mb (.fz rI)) : JE Z Γ (.BinOp a .FloorDiv b pos) (bnd ma fun x => bnd mb fun y => fdivM x y) (.fz rI) :=
  je_two (fun x y => fdivM x y) (.fz rI) (fun _ _ p q => pe_op op_fdiv p q) ha hb fun x y v w s G B σ H Q st hv hw q => by
    obtain ⟨c, q⟩ := grd_of q
    have z := Bool.and_eq_true_iff.mp c
    exact ⟨x, y, hv, hw, ⟨of_decide_eq_true z.1, of_decide_eq_true z.2⟩, fin q st rfl⟩
theorem je_neg (ha : JE Z Γ a ma (.fz rI)) : JE Z Γ (.UnaryOp .USub a pos) (bnd ma fun x => ret (-x)) (.fz rI) :=
  je_one (t' := tUn (L2.rU fun i => .int (-i))) (fun x => ret (-x)) (.fz rI) (fun _ p => pe_un un_neg p) (fun _ _ _ _ => rfl) ha fun x v s G B σ H Q st hv q => ⟨x, hv, fin q st rfl⟩
/-! ### comparisons -/
section
variable {r : R2} {op : CmpOp}
theorem je_cmp {ma : M Z.S α} {mb : M Z.S β} {ρa : Rp α} {ρb : Rp β} (f : α → β → Bool) (ho : OpR Z.X (compareOp op) r) (hm : ∀ e, behindInMarks op e = false) (h : ∀ x y v w s G B σ H (Q : VK), Sta Z Γ s G B σ H → (ρa x).p v G → (ρb y).p w G → Q (.bl (f x y)) H → r v w H Q)
    (ha : JE Z Γ a ma (.fz ρa)) (hb : JE Z Γ b mb (.fz ρb)) : JE Z Γ (.Compare a [op] [b] pos) (bnd ma fun x => bnd mb fun y => ret (f x y)) (.fz rB) :=
  je_two (fun x y => ret (f x y)) (.fz rB) (fun _ _ p q => pe_cmpR ho p q (hm _)) ha hb fun x y v w s G B σ H Q st hv hw q => h x y v w s G B σ H Q st hv hw (fin q st rfl)
theorem jt_cmp {ma : M Z.S α} {mb : M Z.S β} {ρa : Rp α} {ρb : Rp β} (f : α → β → Bool) (ho : OpR Z.X (compareOp op) r) (hm : ∀ e, behindInMarks op e = false) (h : ∀ x y v w s G B σ H (Q : VK), Sta Z Γ s G B σ H → (ρa x).p v G → (ρb y).p w G → Q (.bl (f x y)) H → r v w H Q)
    (ha : JE Z Γ a ma (.fz ρa)) (hb : JE Z Γ b mb (.fz ρb)) : JT Z Γ (.Compare a [op] [b] pos) (bnd ma fun x => bnd mb fun y => ret (f x y)) :=
  jt_two (fun x y => ret (f x y)) (fun _ _ p q => pt_cmpR ho p q (hm _)) ha hb fun x y v w s G B σ H Q st hv hw q => h x y v w s G B σ H Q st hv hw (fin q st rfl)
end
/-- the comparisons of whole numbers, texts, bools, as rules of two values -/
structure CmpOk (Z : Zc) (Γ : Ctx) (op : CmpOp) (ρa : Rp α) (ρb : Rp β) (f : α → β → Bool) : Prop where
  ex : ∃ r : R2, OpR Z.X (compareOp op) r ∧ ∀ x y v w s G B σ H (Q : VK), Sta Z Γ s G B σ H → (ρa x).p v G → (ρb y).p w G → Q (.bl (f x y)) H → r v w H Q
theorem je_c {op : CmpOp} {f : α → β → Bool} {ρa : Rp α} {ρb : Rp β} {ma : M Z.S α} {mb : M Z.S β} (c : CmpOk Z Γ op ρa ρb f) (ha : JE Z Γ a ma (.fz ρa)) (hb : JE Z Γ b mb (.fz ρb)) (hm : ∀ e, behindInMarks op e = false := by exact fun e => nomark e) :
    JE Z Γ (.Compare a [op] [b] pos) (bnd ma fun x => bnd mb fun y => ret (f x y)) (.fz rB) := by
  obtain ⟨r, ho, h⟩ := c.ex
  exact je_cmp f ho hm h ha hb
theorem jt_c {op : CmpOp} {f : α → β → Bool} {ρa : Rp α} {ρb : Rp β} {ma : M Z.S α} {mb : M Z.S β} (c : CmpOk Z Γ op ρa ρb f) (ha : JE Z Γ a ma (.fz ρa)) (hb : JE Z Γ b mb (.fz ρb)) (hm : ∀ e, behindInMarks op e = false := by exact fun e => nomark e) :
    JT Z Γ (.Compare a [op] [b] pos) (bnd ma fun x => bnd mb fun y => ret (f x y)) := by
  obtain ⟨r, ho, h⟩ := c.ex
  exact jt_cmp f ho hm h ha hb
theorem c_lt : CmpOk Z Γ .Lt rI rI fun x y => decide (x < y) := ⟨_, op_lt, fun x y v w s G B σ H Q st hv hw q => ⟨x, y, hv, hw, q⟩⟩
theorem c_le : CmpOk Z Γ .LtE rI rI fun x y => decide (x ≤ y) := ⟨_, op_le, fun x y v w s G B σ H Q st hv hw q => ⟨x, y, hv, hw, q⟩⟩
theorem c_gt : CmpOk Z Γ .Gt rI rI fun x y => decide (y < x) := ⟨_, op_gt, fun x y v w s G B σ H Q st hv hw q => ⟨x, y, hv, hw, q⟩⟩
theorem c_ge : CmpOk Z Γ .GtE rI rI fun x y => decide (y ≤ x) := ⟨_, op_ge, fun x y v w s G B σ H Q st hv hw q => ⟨x, y, hv, hw, q⟩⟩
theorem dec_int' (x y : Int) : decide (V.int x = V.int y) = decide (x = y) := by
  by_cases h : x = y
  · subst h; simp
  · rw [decide_eq_false h, decide_eq_false fun z => h (V.int.inj z)]
theorem dec_str' (x y : Str) : decide (V.str x = V.str y) = decide (x = y) := by
  by_cases h : x = y
  · subst h; simp
  · rw [decide_eq_false h, decide_eq_false fun z => h (V.str.inj z)]
theorem dec_bl' (x y : Bool) : decide (V.bl x = V.bl y) = decide (x = y) := by
  by_cases h : x = y
  · subst h; simp
  · rw [decide_eq_false h, decide_eq_false fun z => h (V.bl.inj z)]
theorem c_eqI : CmpOk Z Γ .Eq rI rI fun x y => decide (x = y) := ⟨_, op_eq, fun x y v w s G B σ H Q st (hv : v = .int x) (hw : w = .int y) q => by
  subst hv hw
  exact ⟨rfl, by rw [dec_int']; exact q⟩⟩
theorem c_neI : CmpOk Z Γ .NotEq rI rI fun x y => !decide (x = y) := ⟨_, op_ne, fun x y v w s G B σ H Q st (hv : v = .int x) (hw : w = .int y) q => by
  subst hv hw
  exact ⟨rfl, by rw [dec_int']; exact q⟩⟩
theorem c_eqS : CmpOk Z Γ .Eq rS rS fun x y => decide (x = y) := ⟨_, op_eq, fun x y v w s G B σ H Q st (hv : v = .str x) (hw : w = .str y) q => by
  subst hv hw
  exact ⟨rfl, by rw [dec_str']; exact q⟩⟩
theorem c_neS : CmpOk Z Γ .NotEq rS rS fun x y => !decide (x = y) := ⟨_, op_ne, fun x y v w s G B σ H Q st (hv : v = .str x) (hw : w = .str y) q => by
  subst hv hw
  exact ⟨rfl, by rw [dec_str']; exact q⟩⟩
theorem c_eqB : CmpOk Z Γ .Eq rB rB fun x y => decide (x = y) := ⟨_, op_eq, fun x y v w s G B σ H Q st (hv : v = .bl x) (hw : w = .bl y) q => by
  subst hv hw
  exact ⟨rfl, by rw [dec_bl']; exact q⟩⟩
theorem c_neB : CmpOk Z Γ .NotEq rB rB fun x y => !decide (x = y) := ⟨_, op_ne, fun x y v w s G B σ H Q st (hv : v = .bl x) (hw : w = .bl y) q => by
  subst hv hw
  exact ⟨rfl, by rw [dec_bl']; exact q⟩⟩
/-! ### tests -/
theorem jt_val {e : Expr} {m : M Z.S Bool} (h : JE Z Γ e m (.fz rB)) (he : ∀ whole, isTrue e Z.X.env whole = (do let v ← whole; standAt e.pos; holding [v] (truthy v)) := by intro _; rfl) : JT Z Γ e m :=
  ⟨PT.imp (pt_val h.pe he) fun σ H Q ⟨s, G, B, st, q⟩ => by
    refine ⟨s, G, B, st, ?_⟩
    revert q
    induction m s with
    | ok x s1 => exact fun q v H' G' B' g st' (hs : v = .bl x) => ⟨x, hs, q H' G' B' g st'⟩
    | err x s1 => exact fun q => q
    | stuck => exact fun q => q
    | all av o9 ih9 => exact fun q a9 h9 => ih9 a9 (q a9 h9)⟩
theorem jt_not {m : M Z.S Bool} (h : JT Z Γ a m) : JT Z Γ (.UnaryOp .Not a pos) (bnd m fun x => ret (!x)) :=
  ⟨PT.imp (pt_not h.pt) fun σ H Q ⟨s, G, B, st, q⟩ => by
    refine tT.imp (tT_bndT st q) ?_
    rintro x H1 ⟨s1, G1, B1, g1, st1, q1⟩
    exact q1 H1 G1 B1 (Same.refl _) st1⟩
/-- a chain of and, or -/
structure JW (Z : Zc) (Γ : Ctx) (e : Expr) (m : M Z.S Bool) : Prop where
  pw : PW Z.X e (tT Z Γ m)
theorem JW.jt {e : Expr} {m : M Z.S Bool} (h : JW Z Γ e m) : JT Z Γ e m := ⟨h.pw.pt⟩
theorem PW.imp {X : Cx} {e : Expr} {t t' : TT} (h : PW X e t) (i : ∀ σ H Q, t' σ H Q → t σ H Q) : PW X e t' := ⟨fun wh pins s σ H Q I q => h.run wh pins s σ H Q I (i σ H Q q)⟩
variable {rest : List Expr} {m1 m2 : M Z.S Bool}
theorem jw_and1 (h : JT Z Γ a m1) : JW Z Γ (.BoolOp .And [a] pos) m1 := ⟨pw_and1 h.pt⟩
theorem jw_or1 (h : JT Z Γ a m1) : JW Z Γ (.BoolOp .Or [a] pos) m1 := ⟨pw_or1 h.pt⟩
theorem jw_and (h : JT Z Γ a m1) (h2 : JW Z Γ (.BoolOp .And (b :: rest) pos) m2) : JW Z Γ (.BoolOp .And (a :: b :: rest) pos) (bnd m1 fun x => if x then m2 else ret false) :=
  ⟨PW.imp (pw_and h.pt h2.pw) fun σ H Q ⟨s, G, B, st, q⟩ => by
    refine tT.imp (tT_bndT st q) ?_
    rintro x H1 ⟨s1, G1, B1, g1, st1, q1⟩
    cases x with
    | true => exact ⟨s1, G1, B1, st1, q1⟩
    | false => exact q1 H1 G1 B1 (Same.refl _) st1⟩
theorem jw_or (h : JT Z Γ a m1) (h2 : JW Z Γ (.BoolOp .Or (b :: rest) pos) m2) : JW Z Γ (.BoolOp .Or (a :: b :: rest) pos) (bnd m1 fun x => if x then ret true else m2) :=
  ⟨PW.imp (pw_or h.pt h2.pw) fun σ H Q ⟨s, G, B, st, q⟩ => by
    refine tT.imp (tT_bndT st q) ?_
    rintro x H1 ⟨s1, G1, B1, g1, st1, q1⟩
    cases x with
    | true => exact q1 H1 G1 B1 (Same.refl _) st1
    | false => exact ⟨s1, G1, B1, st1, q1⟩⟩
/-- .. as values -/
theorem je_b1 {op : BoolOp} (h : JE Z Γ a m1 (.fz rB)) : JE Z Γ (.BoolOp op [a] pos) m1 (.fz rB) := ⟨pe_one h.pe⟩
theorem je_and (h : JE Z Γ a m1 (.fz rB)) (h2 : JE Z Γ (.BoolOp .And (b :: rest) pos) m2 (.fz rB)) : JE Z Γ (.BoolOp .And (a :: b :: rest) pos) (bnd m1 fun x => if x then m2 else ret false) (.fz rB) :=
  ⟨PE.imp (pe_and h.pe h2.pe) fun σ H Q ⟨s, G, B, st, q⟩ => by
    refine tE.imp (tE_bnd (ρ := .fz rB) st q) ?_
    rintro v H1 ⟨x, s1, G1, B1, g1, st1, hx, q1⟩
    refine ⟨x, hx, ?_⟩
    cases x with
    | true => exact ⟨s1, G1, B1, st1, q1⟩
    | false => exact q1 _ H1 G1 B1 (Same.refl _) st1 rfl⟩
theorem je_or (h : JE Z Γ a m1 (.fz rB)) (h2 : JE Z Γ (.BoolOp .Or (b :: rest) pos) m2 (.fz rB)) : JE Z Γ (.BoolOp .Or (a :: b :: rest) pos) (bnd m1 fun x => if x then ret true else m2) (.fz rB) :=
  ⟨PE.imp (pe_or h.pe h2.pe) fun σ H Q ⟨s, G, B, st, q⟩ => by
    refine tE.imp (tE_bnd (ρ := .fz rB) st q) ?_
    rintro v H1 ⟨x, s1, G1, B1, g1, st1, hx, q1⟩
    refine ⟨x, hx, ?_⟩
    cases x with
    | true => exact q1 _ H1 G1 B1 (Same.refl _) st1 rfl
    | false => exact ⟨s1, G1, B1, st1, q1⟩⟩
theorem je_notV (h : JE Z Γ a m1 (.fz rB)) : JE Z Γ (.UnaryOp .Not a pos) (bnd m1 fun x => ret (!x)) (.fz rB) :=
  je_one (t' := tNotV) (fun x => ret (!x)) (.fz rB) (fun _ p => pe_not p) (fun _ _ _ _ => rfl) h fun x v s G B σ H Q st hv q => ⟨x, hv, fin q st rfl⟩
/-- a if c else b -/
theorem je_if {m1 : M Z.S Bool} {ma mb : M Z.S α} {ρ : Res α} (hc : JT Z Γ c m1) (ha : JE Z Γ a ma ρ) (hb : JE Z Γ b mb ρ) : JE Z Γ (.IfExp c a b pos) (bnd m1 fun x => if x then ma else mb) ρ :=
  ⟨PE.imp (pe_ifExp hc.pt ha.pe hb.pe) fun σ H Q ⟨s, G, B, st, q⟩ => by
    refine tT.imp (tT_bndE st q) ?_
    rintro x H1 ⟨s1, G1, B1, g1, st1, q1⟩
    cases x with
    | true => exact ⟨s1, G1, B1, st1, q1⟩
    | false => exact ⟨s1, G1, B1, st1, q1⟩⟩
/-- a op b op' c -/
theorem jt_chain {op op' : CmpOp} {f g : Int → Int → Bool} (ho : OpR Z.X (compareOp op) (rI0 fun x y => .bl (f x y))) (ho' : OpR Z.X (compareOp op') (rI0 fun x y => .bl (g x y))) (ha : JE Z Γ a ma (.fz rI)) (hb : JE Z Γ b mb (.fz rI)) (hc : JE Z Γ c mc (.fz rI))
    (hm : lastMarks [op, op'] [b, c] = false := by with_unfolding_all rfl) :
    JT Z Γ (.Compare a [op, op'] [b, c] pos) (bnd ma fun x => bnd mb fun y => if f x y then bnd mc fun z => ret (g y z) else ret false) :=
  ⟨PT.imp (pt_chain ho ho' ha.pe hb.pe hc.pe hm) fun σ H Q ⟨s, G, B, st, q⟩ => by
    refine tE.imp (tE_bndT (ρ := .fz rI) st q) ?_
    rintro v H1 ⟨x, s1, G1, B1, g1, st1, hx, q1⟩
    refine tE.imp (tE_bndT (ρ := .fz rI) st1 q1) ?_
    rintro w H2 ⟨y, s2, G2, B2, g2, st2, hy, q2⟩
    refine ⟨x, y, hx, hy, _, rfl, ?_⟩
    revert q2
    cases f x y with
    | true =>
      intro q2
      show (tE Z Γ mc (.fz rI)) σ H2 _
      refine tE.imp (tE_bndT (ρ := .fz rI) st2 q2) ?_
      rintro u H3 ⟨z, s3, G3, B3, g3, st3, hz, q3⟩
      exact ⟨y, z, hy, hz, _, rfl, q3 H3 G3 B3 (Same.refl _) st3⟩
    | false =>
      intro q2
      exact ⟨_, rfl, q2 H2 G2 B2 (Same.refl _) st2⟩⟩
theorem je_chain {op op' : CmpOp} {f g : Int → Int → Bool} (ho : OpR Z.X (compareOp op) (rI0 fun x y => .bl (f x y))) (ho' : OpR Z.X (compareOp op') (rI0 fun x y => .bl (g x y))) (ha : JE Z Γ a ma (.fz rI)) (hb : JE Z Γ b mb (.fz rI)) (hc : JE Z Γ c mc (.fz rI))
    (hm : lastMarks [op, op'] [b, c] = false := by with_unfolding_all rfl) :
    JE Z Γ (.Compare a [op, op'] [b, c] pos) (bnd ma fun x => bnd mb fun y => if f x y then bnd mc fun z => ret (g y z) else ret false) (.fz rB) :=
  ⟨PE.imp (pe_chain ho ho' ha.pe hb.pe hc.pe hm) fun σ H Q ⟨s, G, B, st, q⟩ => by
    refine tE.imp (tE_bnd (ρ := .fz rI) st q) ?_
    rintro v H1 ⟨x, s1, G1, B1, g1, st1, hx, q1⟩
    refine tE.imp (tE_bnd (ρ := .fz rI) st1 q1) ?_
    rintro w H2 ⟨y, s2, G2, B2, g2, st2, hy, q2⟩
    refine ⟨x, y, hx, hy, _, rfl, ?_⟩
    revert q2
    cases f x y with
    | true =>
      intro q2
      show (tE Z Γ mc (.fz rI)) σ H2 _
      refine tE.imp (tE_bnd (ρ := .fz rI) st2 q2) ?_
      rintro u H3 ⟨z, s3, G3, B3, g3, st3, hz, q3⟩
      exact ⟨y, z, hy, hz, q3 _ H3 G3 B3 (Same.refl _) st3 rfl⟩
    | false =>
      intro q2
      exact q2 _ H2 G2 B2 (Same.refl _) st2 rfl⟩
end
end DL
set_option Elab.async false
set_option linter.all false
set_option maxRecDepth 100000
namespace DL
open PySem L2
section
variable {Z : Zc} {Γ : Ctx} {α β γ : Type} {e a b : Expr} {es : List Expr} {pos : Pos}
/-! ### arguments -/
/-- a list of arguments: mk k is the mirror of «the arguments, then k» -/
structure JA (Z : Zc) (Γ : Ctx) (es : List Expr) {α : Type} (mk : (β : Type) → (α → M Z.S β) → M Z.S β) (ra : α → List V → Hp → Prop) : Prop where
  ex : ∃ t : TA, PA Z.X es t ∧ ∀ {β : Type} {k : α → M Z.S β} {ρ : Res β} {s : Z.S} {G B : Hp} {σ : St} {H : Hp} {Q : VK} {R : List V → Hp → Prop}, Sta Z Γ s G B σ H → PostE Z Γ ρ σ Q G (mk β k s) →
    (∀ vs H1 x s1 G1 B1, Same G G1 → Sta Z Γ s1 G1 B1 σ H1 → ra x vs G1 → PostE Z Γ ρ σ Q G1 (k x s1) → R vs H1) → t σ H R
  mono : ∀ {x : α} {vs : List V} {G G' : Hp}, Same G G' → ra x vs G → ra x vs G'
  len : ∀ {x : α} {vs : List V} {G : Hp}, ra x vs G → vs.length = es.length
def raN : Unit → List V → Hp → Prop := fun _ vs _ => vs = []
def raC {α β : Type} (r : Rp α) (ra : β → List V → Hp → Prop) : α × β → List V → Hp → Prop := fun p vs G => ∃ v ws, vs = v :: ws ∧ (r p.1).p v G ∧ ra p.2 ws G
theorem ja_nil : JA Z Γ [] (fun _ k => k ()) raN :=
  ⟨⟨tNil, pa_nil, fun {β k ρ s G B σ H Q R} st q h => h [] H () s G B (Same.refl _) st rfl q⟩, fun _ h => h, fun {x vs G} h => by
    have h : vs = [] := h
    rw [h]
    rfl⟩
theorem ja_cons {m : M Z.S α} {r : Rp α} {mk : (γ : Type) → (β → M Z.S γ) → M Z.S γ} {ra : β → List V → Hp → Prop} (h : JE Z Γ e m (.fz r)) (hr : JA Z Γ es mk ra) (hs : starEach (e :: es) Z.X.env = (false, eval e Z.X.env) :: starEach es Z.X.env := by exact star_of rfl) :
    JA Z Γ (e :: es) (fun δ k => bnd m fun x => mk δ fun y => k (x, y)) (raC r ra) := by
  obtain ⟨t, ht, hq⟩ := hr.ex
  refine ⟨⟨tCons _ t, pa_cons h.pe ht hs, fun {δ k ρ s G B σ H Q R} st q hR => ?_⟩, fun g ⟨v, ws, h1, h2, h3⟩ => ⟨v, ws, h1, (r _).mono g h2, hr.mono g h3⟩, fun ⟨v, ws, h1, h2, h3⟩ => by rw [h1, List.length_cons, List.length_cons, hr.len h3]⟩
  refine tE.imp (tE_bnd (ρ := .fz r) st q) ?_
  rintro v H1 ⟨x, s1, G1, B1, g1, st1, hx, q1⟩
  refine hq st1 q1 fun ws H2 y s2 G2 B2 g2 st2 hy q2 => ?_
  exact hR (v :: ws) H2 (x, y) s2 G2 B2 (g1.trans g2) st2 ⟨v, ws, rfl, (r x).mono g2 hx, hy⟩ q2
/-- arguments of one kind, as a list -/
def raL {α : Type} (r : Rp α) (n : Nat) : List α → List V → Hp → Prop := fun xs vs G => AllP r G vs xs ∧ xs.length = n
theorem jl_nil {r : Rp α} : JA Z Γ [] (fun _ k => k ([] : List α)) (raL r 0) :=
  ⟨⟨tNil, pa_nil, fun {β k ρ s G B σ H Q R} st q h => h [] H [] s G B (Same.refl _) st ⟨.nil, rfl⟩ q⟩, fun g h => ⟨AllP.mono g h.1, h.2⟩, fun {x vs G} h => by
    rw [AllP.length h.1, h.2]
    rfl⟩
theorem jl_cons {n : Nat} {m : M Z.S α} {r : Rp α} {mk : (γ : Type) → (List α → M Z.S γ) → M Z.S γ} (h : JE Z Γ e m (.fz r)) (hr : JA Z Γ es mk (raL r n)) (hs : starEach (e :: es) Z.X.env = (false, eval e Z.X.env) :: starEach es Z.X.env := by exact star_of rfl) :
    JA Z Γ (e :: es) (fun δ k => bnd m fun x => mk δ fun y => k (x :: y)) (raL r (n + 1)) := by
  obtain ⟨t, ht, hq⟩ := hr.ex
  refine ⟨⟨tCons _ t, pa_cons h.pe ht hs, fun {δ k ρ s G B σ H Q R} st q hR => ?_⟩, fun g h => ⟨AllP.mono g h.1, h.2⟩, fun {xs vs G} h => ?_⟩
  · refine tE.imp (tE_bnd (ρ := .fz r) st q) ?_
    rintro v H1 ⟨x, s1, G1, B1, g1, st1, hx, q1⟩
    refine hq st1 q1 fun ws H2 y s2 G2 B2 g2 st2 hy q2 => ?_
    exact hR (v :: ws) H2 (x :: y) s2 G2 B2 (g1.trans g2) st2 ⟨.cons ((r x).mono g2 hx) hy.1, by rw [List.length_cons, hy.2]⟩ q2
  · have z : ∀ ys ws, AllP r G ws ys → ys.length = n → ws.length = es.length := fun ys ws h1 h2 => hr.len ⟨h1, h2⟩
    cases xs with
    | nil => exact absurd h.2 (by simp)
    | cons x xs =>
      cases vs with
      | nil => cases h.1
      | cons v vs =>
        cases h.1 with
        | cons h1 h2 => rw [List.length_cons, List.length_cons, z xs vs h2 (by simpa using h.2)]
/-! ### displays -/
theorem le_line {n : Nat} (h : n ≤ 1000) : n ≤ sizeLine := Nat.le_trans h (by decide)
theorem je_list {n : Nat} {r : Rp α} {mk : (γ : Type) → (List α → M Z.S γ) → M Z.S γ} (h : JA Z Γ es mk (raL r n)) (hn : es.length ≤ 1000 := by decide) : JE Z Γ (.List es pos) (mk _ ret) (.own (cL r)) := by
  obtain ⟨t, ht, hq⟩ := h.ex
  refine ⟨PE.imp (pe_lst ht) fun σ H Q ⟨s, G, B, st, q⟩ => ?_⟩
  refine hq st q fun vs H1 xs s1 G1 B1 g1 st1 hx q1 => ⟨le_line (by rw [h.len hx]; exact hn), fun p hp => ?_⟩
  exact q1 _ _ G1 B1 (Same.refl _) (st1.laid hp) (st1.own hp ⟨vs, rfl, hx.1⟩)
section
variable {K : PySem.W.Frag} {α1 α2 α3 α4 α5 : Type} {r1 : Rp α1} {r2 : Rp α2} {r3 : Rp α3} {r4 : Rp α4} {r5 : Rp α5} {x1 : _}
theorem sqt_new {G : Hp} {p : Addr} {xs : List V} : SqT Z.X.K (upd G p (.tup xs)) p xs := SqT.of upd_same
theorem je_tup2 {mk : (γ : Type) → (α1 × α2 × Unit → M Z.S γ) → M Z.S γ} (h : JA Z Γ es mk (raC r1 (raC r2 raN))) : JE Z Γ (.Tuple es x1 pos) (mk _ fun p => ret (p.1, p.2.1)) (.fz (rT2 Z.X.K r1 r2)) := by
  obtain ⟨t, ht, hq⟩ := h.ex
  refine ⟨PE.imp (pe_tup ht) fun σ H Q ⟨s, G, B, st, q⟩ => ?_⟩
  refine hq st q fun vs H1 xs s1 G1 B1 g1 st1 ⟨v1, w1, e1, h1, v2, w2, e2, h2, e3⟩ q1 => ?_
  have e3 : w2 = [] := e3
  subst e1 e2 e3
  refine ⟨le_line (by simp), fun p hp => ?_⟩
  have g := Same.upd_new (o := .tup [v1, v2]) (Same.free st1.ok.gh hp)
  exact q1 _ _ (upd G1 p (.tup [v1, v2])) B1 g (st1.laidG hp) ⟨p, v1, v2, rfl, sqt_new, (r1 _).mono g h1, (r2 _).mono g h2⟩
theorem je_tup3 {mk : (γ : Type) → (α1 × α2 × α3 × Unit → M Z.S γ) → M Z.S γ} (h : JA Z Γ es mk (raC r1 (raC r2 (raC r3 raN)))) : JE Z Γ (.Tuple es x1 pos) (mk _ fun p => ret (p.1, p.2.1, p.2.2.1)) (.fz (rT3 Z.X.K r1 r2 r3)) := by
  obtain ⟨t, ht, hq⟩ := h.ex
  refine ⟨PE.imp (pe_tup ht) fun σ H Q ⟨s, G, B, st, q⟩ => ?_⟩
  refine hq st q fun vs H1 xs s1 G1 B1 g1 st1 ⟨v1, w1, e1, h1, v2, w2, e2, h2, v3, w3, e3, h3, e4⟩ q1 => ?_
  have e4 : w3 = [] := e4
  subst e1 e2 e3 e4
  refine ⟨le_line (by simp), fun p hp => ?_⟩
  have g := Same.upd_new (o := .tup [v1, v2, v3]) (Same.free st1.ok.gh hp)
  exact q1 _ _ (upd G1 p (.tup [v1, v2, v3])) B1 g (st1.laidG hp) ⟨p, v1, v2, v3, rfl, sqt_new, (r1 _).mono g h1, (r2 _).mono g h2, (r3 _).mono g h3⟩
theorem je_tup4 {mk : (γ : Type) → (α1 × α2 × α3 × α4 × Unit → M Z.S γ) → M Z.S γ} (h : JA Z Γ es mk (raC r1 (raC r2 (raC r3 (raC r4 raN))))) : JE Z Γ (.Tuple es x1 pos) (mk _ fun p => ret (p.1, p.2.1, p.2.2.1, p.2.2.2.1)) (.fz (rT4 Z.X.K r1 r2 r3 r4)) := by
  obtain ⟨t, ht, hq⟩ := h.ex
  refine ⟨PE.imp (pe_tup ht) fun σ H Q ⟨s, G, B, st, q⟩ => ?_⟩
  refine hq st q fun vs H1 xs s1 G1 B1 g1 st1 ⟨v1, w1, e1, h1, v2, w2, e2, h2, v3, w3, e3, h3, v4, w4, e4, h4, e5⟩ q1 => ?_
  have e5 : w4 = [] := e5
  subst e1 e2 e3 e4 e5
  refine ⟨le_line (by simp), fun p hp => ?_⟩
  have g := Same.upd_new (o := .tup [v1, v2, v3, v4]) (Same.free st1.ok.gh hp)
  exact q1 _ _ (upd G1 p (.tup [v1, v2, v3, v4])) B1 g (st1.laidG hp) ⟨p, v1, v2, v3, v4, rfl, sqt_new, (r1 _).mono g h1, (r2 _).mono g h2, (r3 _).mono g h3, (r4 _).mono g h4⟩
theorem je_tup5 {mk : (γ : Type) → (α1 × α2 × α3 × α4 × α5 × Unit → M Z.S γ) → M Z.S γ} (h : JA Z Γ es mk (raC r1 (raC r2 (raC r3 (raC r4 (raC r5 raN)))))) : JE Z Γ (.Tuple es x1 pos) (mk _ fun p => ret (p.1, p.2.1, p.2.2.1, p.2.2.2.1, p.2.2.2.2.1)) (.fz (rT5 Z.X.K r1 r2 r3 r4 r5)) := by
  obtain ⟨t, ht, hq⟩ := h.ex
  refine ⟨PE.imp (pe_tup ht) fun σ H Q ⟨s, G, B, st, q⟩ => ?_⟩
  refine hq st q fun vs H1 xs s1 G1 B1 g1 st1 ⟨v1, w1, e1, h1, v2, w2, e2, h2, v3, w3, e3, h3, v4, w4, e4, h4, v5, w5, e5, h5, e6⟩ q1 => ?_
  have e6 : w5 = [] := e6
  subst e1 e2 e3 e4 e5 e6
  refine ⟨le_line (by simp), fun p hp => ?_⟩
  have g := Same.upd_new (o := .tup [v1, v2, v3, v4, v5]) (Same.free st1.ok.gh hp)
  exact q1 _ _ (upd G1 p (.tup [v1, v2, v3, v4, v5])) B1 g (st1.laidG hp) ⟨p, v1, v2, v3, v4, v5, rfl, sqt_new, (r1 _).mono g h1, (r2 _).mono g h2, (r3 _).mono g h3, (r4 _).mono g h4, (r5 _).mono g h5⟩
end
/-- {} -/
theorem je_dict0 {κ : Type} {k : KeyT κ} {r : Rp α} : JE Z Γ (.Dict [] [] pos) (ret ([] : List (κ × α))) (.own (cD k r)) :=
  JE.of_ret pe_dnewK fun s G B σ H Q st q => fun p hp => q _ _ G B (Same.refl _) (st.laid hp) (st.own hp ⟨[], rfl, .nil⟩)
/-! ### a new thing becomes still -/
theorem je_frzL {m : M Z.S (List α)} {r : Rp α} (h : JE Z Γ e m (.own (cL r))) : JE Z Γ e m (.fz (rL r)) :=
  ⟨PE.imp h.pe fun σ H Q ⟨s, G, B, st, q⟩ => by
    refine ⟨s, G, B, st, ?_⟩
    revert q
    induction m s with
    | ok x s1 =>
      rintro q v H' G' B' g st' ⟨p, o, rfl, e, ⟨vs, rfl, hc⟩, gp, bp, hp, hh, f⟩
      have g' := Same.upd_new (o := .lst vs) gp
      exact q _ H' (upd G' p (.lst vs)) B' (g.trans g') (st'.still e gp bp hp hh f) ⟨p, vs, rfl, upd_same, hc.mono g'⟩
    | err x s1 => exact fun q => q
    | stuck => exact fun q => q
    | all av o9 ih9 => exact fun q a9 h9 => ih9 a9 (q a9 h9)⟩
/-- a dict is locked for good -/
theorem je_frzD {κ : Type} {k : KeyT κ} {m : M Z.S (List (κ × α))} {r : Rp α} (h : JE Z Γ e m (.own (cD k r))) : JE Z Γ e m (.fz (rD k r)) := by
  refine ⟨⟨fun pins s0 σ H Q I ⟨s, G, B, st, q⟩ => ?_⟩⟩
  refine thn (h.pe.run pins s0 σ H (fun v H' => ∃ a vs, v = .ref a ∧ H' a = some (.dK vs) ∧ ∀ od, Q v (upd H' a (.frz od (.dK vs)))) I ⟨s, G, B, st, ?_⟩) fun u s' hq => ?_
  · revert q
    induction m s with
    | ok x s1 =>
      rintro q v H' G' B' g st' ⟨p, o, rfl, e, ⟨vs, rfl, hc⟩, gp, bp, hp, hh, f⟩
      refine ⟨p, vs, rfl, e, fun od => ?_⟩
      have g' := Same.upd_new (o := .frz od (.dK vs)) gp
      have st2 : Sta Z Γ s1 G' B' σ (upd H' p (.frz od (.dK vs))) := by
        refine ⟨st'.ok.change gp bp hp, st'.res, ⟨st'.sl.len, st'.sl.fz, fun k L z => ?_, st'.sl.ne⟩, st'.sle, Same.upd_r st'.held hh, st'.off⟩
        obtain ⟨a, w, h1, h2, h3⟩ := st'.sl.lv k L z
        have ne : a ≠ p := fun y => f k L z (by rw [← y]; exact h1)
        exact ⟨a, w, h1, by rw [upd_ne ne]; exact h2, h3⟩
      exact q _ _ (upd G' p (.frz od (.dK vs))) B' (g.trans g') (st2.still upd_same gp bp hp hh f) ⟨p, od, vs, rfl, upd_same, hc.mono g'⟩
    | err x s1 => exact fun q => q
    | stuck => exact fun q => q
    | all av o9 ih9 => exact fun q a9 h9 => ih9 a9 (q a9 h9)
  · obtain ⟨v, H', I', r', a, vs, rfl, ea, q'⟩ := hq
    obtain ⟨od, I2⟩ := I'.lock ea True.intro
    exact ⟨_, _, I2, r', q' od⟩
/-! ### items -/
theorem atI_rel {r : Rp α} {G : Hp} {vs : List V} {xs : List α} {i : Int} {x : α} (h : AllP r G vs xs) (e : atI xs i = some x) : ∃ v, atI vs i = some v ∧ (r x).p v G := by
  unfold atI at e ⊢
  rw [h.length]
  cases z : ixN xs.length i with
  | none =>
    rw [z] at e
    cases e
  | some j =>
    rw [z] at e
    exact h.get e
variable {ma : M Z.S α}
theorem je_ixL {r : Rp α} {ma : M Z.S (List α)} {mi : M Z.S Int} (ha : JE Z Γ a ma (.fz (rL r))) (hb : JE Z Γ b mi (.fz rI)) (hs : PlainIx b := by exact fun _ _ => rfl) : JE Z Γ (.Subscript a b pos) (bnd ma fun xs => bnd mi fun i => opt (atI xs i)) (.fz r) :=
  je_two (fun xs i => opt (atI xs i)) (.fz r) (fun _ _ p q => pe_ix ix_list p q hs) ha hb fun xs i v w s G B σ H Q st hv hw q => by
    obtain ⟨x, ex, q⟩ := opt_of' q
    obtain ⟨p, vs, rfl, hp, hvs⟩ := hv
    obtain ⟨y, e1, e2⟩ := atI_rel hvs ex
    exact ⟨p, vs, i, y, rfl, hw, SqL.of (st.ok.gh _ _ hp), e1, fin q st e2⟩
end
end DL
set_option Elab.async false
set_option linter.all false
set_option maxRecDepth 100000
namespace DL
open PySem L2
section
variable {Z : Zc} {Γ : Ctx} {α β γ : Type} {e a b : Expr} {es : List Expr} {pos : Pos}
/-! ### items of tuples -/
section
variable {α1 α2 α3 α4 α5 : Type} {r1 : Rp α1} {r2 : Rp α2} {r3 : Rp α3} {r4 : Rp α4} {r5 : Rp α5}
theorem je_t2_0 {m : M Z.S (α1 × α2)} {j : Nat} {p2 : Pos} (h : JE Z Γ a m (.fz (rT2 Z.X.K r1 r2))) : JE Z Γ (.Subscript a (.Constant (.int 0) j p2) pos) (bnd m fun t => ret t.1) (.fz r1) :=
  je_one (t' := fun t => tOp (rIxT Z.X.K) t (tC (.int 0))) (fun t : α1 × α2 => ret t.1) (.fz r1) (fun _ p => pe_ix ix_tup p pe_int (fun _ _ => rfl)) (fun _ _ _ _ => rfl) h fun x v s G B σ H Q st ⟨p, u1, u2, ev, ht, h1, h2⟩ q =>
    ⟨p, _, 0, _, ev, rfl, Same.sqT st.ok.gh ht, rfl, q _ H G B (Same.refl _) st h1⟩
theorem je_t2_1 {m : M Z.S (α1 × α2)} {j : Nat} {p2 : Pos} (h : JE Z Γ a m (.fz (rT2 Z.X.K r1 r2))) : JE Z Γ (.Subscript a (.Constant (.int 1) j p2) pos) (bnd m fun t => ret t.2) (.fz r2) :=
  je_one (t' := fun t => tOp (rIxT Z.X.K) t (tC (.int 1))) (fun t : α1 × α2 => ret t.2) (.fz r2) (fun _ p => pe_ix ix_tup p pe_int (fun _ _ => rfl)) (fun _ _ _ _ => rfl) h fun x v s G B σ H Q st ⟨p, u1, u2, ev, ht, h1, h2⟩ q =>
    ⟨p, _, 1, _, ev, rfl, Same.sqT st.ok.gh ht, rfl, q _ H G B (Same.refl _) st h2⟩
theorem je_t3_0 {m : M Z.S (α1 × α2 × α3)} {j : Nat} {p2 : Pos} (h : JE Z Γ a m (.fz (rT3 Z.X.K r1 r2 r3))) : JE Z Γ (.Subscript a (.Constant (.int 0) j p2) pos) (bnd m fun t => ret t.1) (.fz r1) :=
  je_one (t' := fun t => tOp (rIxT Z.X.K) t (tC (.int 0))) (fun t : α1 × α2 × α3 => ret t.1) (.fz r1) (fun _ p => pe_ix ix_tup p pe_int (fun _ _ => rfl)) (fun _ _ _ _ => rfl) h fun x v s G B σ H Q st ⟨p, u1, u2, u3, ev, ht, h1, h2, h3⟩ q =>
    ⟨p, _, 0, _, ev, rfl, Same.sqT st.ok.gh ht, rfl, q _ H G B (Same.refl _) st h1⟩
theorem je_t3_1 {m : M Z.S (α1 × α2 × α3)} {j : Nat} {p2 : Pos} (h : JE Z Γ a m (.fz (rT3 Z.X.K r1 r2 r3))) : JE Z Γ (.Subscript a (.Constant (.int 1) j p2) pos) (bnd m fun t => ret t.2.1) (.fz r2) :=
  je_one (t' := fun t => tOp (rIxT Z.X.K) t (tC (.int 1))) (fun t : α1 × α2 × α3 => ret t.2.1) (.fz r2) (fun _ p => pe_ix ix_tup p pe_int (fun _ _ => rfl)) (fun _ _ _ _ => rfl) h fun x v s G B σ H Q st ⟨p, u1, u2, u3, ev, ht, h1, h2, h3⟩ q =>
    ⟨p, _, 1, _, ev, rfl, Same.sqT st.ok.gh ht, rfl, q _ H G B (Same.refl _) st h2⟩
theorem je_t3_2 {m : M Z.S (α1 × α2 × α3)} {j : Nat} {p2 : Pos} (h : JE Z Γ a m (.fz (rT3 Z.X.K r1 r2 r3))) : JE Z Γ (.Subscript a (.Constant (.int 2) j p2) pos) (bnd m fun t => ret t.2.2) (.fz r3) :=
  je_one (t' := fun t => tOp (rIxT Z.X.K) t (tC (.int 2))) (fun t : α1 × α2 × α3 => ret t.2.2) (.fz r3) (fun _ p => pe_ix ix_tup p pe_int (fun _ _ => rfl)) (fun _ _ _ _ => rfl) h fun x v s G B σ H Q st ⟨p, u1, u2, u3, ev, ht, h1, h2, h3⟩ q =>
    ⟨p, _, 2, _, ev, rfl, Same.sqT st.ok.gh ht, rfl, q _ H G B (Same.refl _) st h3⟩
theorem je_t4_0 {m : M Z.S (α1 × α2 × α3 × α4)} {j : Nat} {p2 : Pos} (h : JE Z Γ a m (.fz (rT4 Z.X.K r1 r2 r3 r4))) : JE Z Γ (.Subscript a (.Constant (.int 0) j p2) pos) (bnd m fun t => ret t.1) (.fz r1) :=
  je_one (t' := fun t => tOp (rIxT Z.X.K) t (tC (.int 0))) (fun t : α1 × α2 × α3 × α4 => ret t.1) (.fz r1) (fun _ p => pe_ix ix_tup p pe_int (fun _ _ => rfl)) (fun _ _ _ _ => rfl) h fun x v s G B σ H Q st ⟨p, u1, u2, u3, u4, ev, ht, h1, h2, h3, h4⟩ q =>
    ⟨p, _, 0, _, ev, rfl, Same.sqT st.ok.gh ht, rfl, q _ H G B (Same.refl _) st h1⟩
theorem je_t4_1 {m : M Z.S (α1 × α2 × α3 × α4)} {j : Nat} {p2 : Pos} (h : JE Z Γ a m (.fz (rT4 Z.X.K r1 r2 r3 r4))) : JE Z Γ (.Subscript a (.Constant (.int 1) j p2) pos) (bnd m fun t => ret t.2.1) (.fz r2) :=
  je_one (t' := fun t => tOp (rIxT Z.X.K) t (tC (.int 1))) (fun t : α1 × α2 × α3 × α4 => ret t.2.1) (.fz r2) (fun _ p => pe_ix ix_tup p pe_int (fun _ _ => rfl)) (fun _ _ _ _ => rfl) h fun x v s G B σ H Q st ⟨p, u1, u2, u3, u4, ev, ht, h1, h2, h3, h4⟩ q =>
    ⟨p, _, 1, _, ev, rfl, Same.sqT st.ok.gh ht, rfl, q _ H G B (Same.refl _) st h2⟩
theorem je_t4_2 {m : M Z.S (α1 × α2 × α3 × α4)} {j : Nat} {p2 : Pos} (h : JE Z Γ a m (.fz (rT4 Z.X.K r1 r2 r3 r4))) : JE Z Γ (.Subscript a (.Constant (.int 2) j p2) pos) (bnd m fun t => ret t.2.2.1) (.fz r3) :=
  je_one (t' := fun t => tOp (rIxT Z.X.K) t (tC (.int 2))) (fun t : α1 × α2 × α3 × α4 => ret t.2.2.1) (.fz r3) (fun _ p => pe_ix ix_tup p pe_int (fun _ _ => rfl)) (fun _ _ _ _ => rfl) h fun x v s G B σ H Q st ⟨p, u1, u2, u3, u4, ev, ht, h1, h2, h3, h4⟩ q =>
    ⟨p, _, 2, _, ev, rfl, Same.sqT st.ok.gh ht, rfl, q _ H G B (Same.refl _) st h3⟩
theorem je_t4_3 {m : M Z.S (α1 × α2 × α3 × α4)} {j : Nat} {p2 : Pos} (h : JE Z Γ a m (.fz (rT4 Z.X.K r1 r2 r3 r4))) : JE Z Γ (.Subscript a (.Constant (.int 3) j p2) pos) (bnd m fun t => ret t.2.2.2) (.fz r4) :=
  je_one (t' := fun t => tOp (rIxT Z.X.K) t (tC (.int 3))) (fun t : α1 × α2 × α3 × α4 => ret t.2.2.2) (.fz r4) (fun _ p => pe_ix ix_tup p pe_int (fun _ _ => rfl)) (fun _ _ _ _ => rfl) h fun x v s G B σ H Q st ⟨p, u1, u2, u3, u4, ev, ht, h1, h2, h3, h4⟩ q =>
    ⟨p, _, 3, _, ev, rfl, Same.sqT st.ok.gh ht, rfl, q _ H G B (Same.refl _) st h4⟩
theorem je_t5_0 {m : M Z.S (α1 × α2 × α3 × α4 × α5)} {j : Nat} {p2 : Pos} (h : JE Z Γ a m (.fz (rT5 Z.X.K r1 r2 r3 r4 r5))) : JE Z Γ (.Subscript a (.Constant (.int 0) j p2) pos) (bnd m fun t => ret t.1) (.fz r1) :=
  je_one (t' := fun t => tOp (rIxT Z.X.K) t (tC (.int 0))) (fun t : α1 × α2 × α3 × α4 × α5 => ret t.1) (.fz r1) (fun _ p => pe_ix ix_tup p pe_int (fun _ _ => rfl)) (fun _ _ _ _ => rfl) h fun x v s G B σ H Q st ⟨p, u1, u2, u3, u4, u5, ev, ht, h1, h2, h3, h4, h5⟩ q =>
    ⟨p, _, 0, _, ev, rfl, Same.sqT st.ok.gh ht, rfl, q _ H G B (Same.refl _) st h1⟩
theorem je_t5_1 {m : M Z.S (α1 × α2 × α3 × α4 × α5)} {j : Nat} {p2 : Pos} (h : JE Z Γ a m (.fz (rT5 Z.X.K r1 r2 r3 r4 r5))) : JE Z Γ (.Subscript a (.Constant (.int 1) j p2) pos) (bnd m fun t => ret t.2.1) (.fz r2) :=
  je_one (t' := fun t => tOp (rIxT Z.X.K) t (tC (.int 1))) (fun t : α1 × α2 × α3 × α4 × α5 => ret t.2.1) (.fz r2) (fun _ p => pe_ix ix_tup p pe_int (fun _ _ => rfl)) (fun _ _ _ _ => rfl) h fun x v s G B σ H Q st ⟨p, u1, u2, u3, u4, u5, ev, ht, h1, h2, h3, h4, h5⟩ q =>
    ⟨p, _, 1, _, ev, rfl, Same.sqT st.ok.gh ht, rfl, q _ H G B (Same.refl _) st h2⟩
theorem je_t5_2 {m : M Z.S (α1 × α2 × α3 × α4 × α5)} {j : Nat} {p2 : Pos} (h : JE Z Γ a m (.fz (rT5 Z.X.K r1 r2 r3 r4 r5))) : JE Z Γ (.Subscript a (.Constant (.int 2) j p2) pos) (bnd m fun t => ret t.2.2.1) (.fz r3) :=
  je_one (t' := fun t => tOp (rIxT Z.X.K) t (tC (.int 2))) (fun t : α1 × α2 × α3 × α4 × α5 => ret t.2.2.1) (.fz r3) (fun _ p => pe_ix ix_tup p pe_int (fun _ _ => rfl)) (fun _ _ _ _ => rfl) h fun x v s G B σ H Q st ⟨p, u1, u2, u3, u4, u5, ev, ht, h1, h2, h3, h4, h5⟩ q =>
    ⟨p, _, 2, _, ev, rfl, Same.sqT st.ok.gh ht, rfl, q _ H G B (Same.refl _) st h3⟩
theorem je_t5_3 {m : M Z.S (α1 × α2 × α3 × α4 × α5)} {j : Nat} {p2 : Pos} (h : JE Z Γ a m (.fz (rT5 Z.X.K r1 r2 r3 r4 r5))) : JE Z Γ (.Subscript a (.Constant (.int 3) j p2) pos) (bnd m fun t => ret t.2.2.2.1) (.fz r4) :=
  je_one (t' := fun t => tOp (rIxT Z.X.K) t (tC (.int 3))) (fun t : α1 × α2 × α3 × α4 × α5 => ret t.2.2.2.1) (.fz r4) (fun _ p => pe_ix ix_tup p pe_int (fun _ _ => rfl)) (fun _ _ _ _ => rfl) h fun x v s G B σ H Q st ⟨p, u1, u2, u3, u4, u5, ev, ht, h1, h2, h3, h4, h5⟩ q =>
    ⟨p, _, 3, _, ev, rfl, Same.sqT st.ok.gh ht, rfl, q _ H G B (Same.refl _) st h4⟩
theorem je_t5_4 {m : M Z.S (α1 × α2 × α3 × α4 × α5)} {j : Nat} {p2 : Pos} (h : JE Z Γ a m (.fz (rT5 Z.X.K r1 r2 r3 r4 r5))) : JE Z Γ (.Subscript a (.Constant (.int 4) j p2) pos) (bnd m fun t => ret t.2.2.2.2) (.fz r5) :=
  je_one (t' := fun t => tOp (rIxT Z.X.K) t (tC (.int 4))) (fun t : α1 × α2 × α3 × α4 × α5 => ret t.2.2.2.2) (.fz r5) (fun _ p => pe_ix ix_tup p pe_int (fun _ _ => rfl)) (fun _ _ _ _ => rfl) h fun x v s G B σ H Q st ⟨p, u1, u2, u3, u4, u5, ev, ht, h1, h2, h3, h4, h5⟩ q =>
    ⟨p, _, 4, _, ev, rfl, Same.sqT st.ok.gh ht, rfl, q _ H G B (Same.refl _) st h5⟩
end
/-! ### texts -/
def sgetM {S : Type} (z : Str) (i : Int) : M S Str := bnd (grd (decide (z.length ≤ sizeLine))) fun _ => bnd (opt (atI z.cps.toList i)) fun c => ret ⟨#[c]⟩
theorem je_ixS {ma : M Z.S Str} {mi : M Z.S Int} (ha : JE Z Γ a ma (.fz rS)) (hb : JE Z Γ b mi (.fz rI)) (hs : PlainIx b := by exact fun _ _ => rfl) : JE Z Γ (.Subscript a b pos) (bnd ma fun z => bnd mi fun i => sgetM z i) (.fz rS) :=
  je_two (fun z i => sgetM z i) (.fz rS) (fun _ _ p q => pe_ix ix_str p q hs) ha hb fun z i v w s G B σ H Q st hv hw q => by
    obtain ⟨c1, q⟩ := grd_of q
    obtain ⟨c, ec, q⟩ := opt_of q
    exact ⟨z, i, c, hv, hw, of_decide_eq_true c1, ec, fin q st rfl⟩
def saddM {S : Type} (x y : Str) : M S Str := bnd (grd (decide (x.length + y.length ≤ sizeLine))) fun _ => ret (x ++ y)
theorem je_addS {ma mb : M Z.S Str} (ha : JE Z Γ a ma (.fz rS)) (hb : JE Z Γ b mb (.fz rS)) : JE Z Γ (.BinOp a .Add b pos) (bnd ma fun x => bnd mb fun y => saddM x y) (.fz rS) :=
  je_two (fun x y => saddM x y) (.fz rS) (fun _ _ p q => pe_op op_add_str p q) ha hb fun x y v w s G B σ H Q st hv hw q => by
    obtain ⟨c, q⟩ := grd_of q
    exact ⟨x, y, hv, hw, of_decide_eq_true c, fin q st rfl⟩
/-- a text times 0 or 1 -/
def smulM {S : Type} (x : Str) (n : Int) : M S Str := if n = 0 then ret Str.empty else if n = 1 then ret x else stk
theorem op_mulS01 {X : Cx} : OpR X (binaryOp .Mult) (fun x y H Q => ∃ z n, x = .str z ∧ y = .int n ∧ (n = 0 ∨ n = 1) ∧ Q (.str (if n = 0 then Str.empty else z)) H) := by
  intro pins s σ H x y v u Q I rx ry h
  obtain ⟨z, n, rfl, rfl, hn, q⟩ := h
  obtain ⟨t, rfl⟩ := rx
  obtain ⟨t', rfl⟩ := ry
  have ok : MulOk z n := by
    rcases hn with rfl | rfl
    · exact ⟨by decide, fun h => absurd (by decide) h, fun h => absurd (by decide) h⟩
    · exact ⟨by decide, fun _ h => by simp at h, fun _ h => by simp at h⟩
  refine SB.mul ok fun t2 k => ⟨.str (if n = 0 then Str.empty else z), H, I.tok _, ⟨t2, ?_⟩, q⟩
  rcases hn with rfl | rfl
  · rfl
  · have e : Txt.mul z 1 = z := by
      unfold Txt.mul
      rw [if_neg (by decide)]
      exact if_pos (by simp)
    rw [e]
    rfl
theorem je_mulS {ma : M Z.S Str} {mb : M Z.S Int} (ha : JE Z Γ a ma (.fz rS)) (hb : JE Z Γ b mb (.fz rI)) : JE Z Γ (.BinOp a .Mult b pos) (bnd ma fun x => bnd mb fun n => smulM x n) (.fz rS) :=
  je_two (fun x n => smulM x n) (.fz rS) (fun _ _ p q => pe_op op_mulS01 p q) ha hb fun x n v w s G B σ H Q st hv hw q => by
    by_cases h0 : n = 0
    · subst h0
      have q : PostE Z Γ (.fz rS) σ Q G (ret Str.empty s) := q
      exact ⟨x, 0, hv, hw, .inl rfl, fin q st rfl⟩
    · by_cases h1 : n = 1
      · subst h1
        have q : PostE Z Γ (.fz rS) σ Q G (ret x s) := q
        exact ⟨x, 1, hv, hw, .inr rfl, fin q st rfl⟩
      · have e : (smulM x n : M Z.S Str) = stk := by
          unfold smulM
          rw [if_neg h0, if_neg h1]
        rw [e] at q
        exact q.elim
/-! ### slices -/
def cutA (xs : List α) (lo hi : Option Int) : List α := (xs.drop (HT.sIx xs.length 0 lo)).take (HT.sIx xs.length xs.length hi - HT.sIx xs.length 0 lo)
theorem AllP.cut {r : Rp α} {G : Hp} {vs : List V} {xs : List α} (h : AllP r G vs xs) (lo hi : Option Int) : AllP r G (cutV vs lo hi) (cutA xs lo hi) := by
  unfold cutV cutA
  rw [h.length]
  exact (h.drop _).take _
/-- a slice's ends: left out, or given -/
inductive JO (Z : Zc) (Γ : Ctx) : Option Expr → ((γ : Type) → (Option Int → M Z.S γ) → M Z.S γ) → Prop
  | non : JO Z Γ none (fun _ k => k none)
  | som {e : Expr} {m : M Z.S Int} (h : JE Z Γ e m (.fz rI)) : JO Z Γ (some e) (fun _ k => bnd m fun i => k (some i))
theorem JO.ex {o : Option Expr} {mk : (γ : Type) → (Option Int → M Z.S γ) → M Z.S γ} (h : JO Z Γ o mk) : ∃ t : TO, PO Z.X o t ∧ ∀ {β : Type} {k : Option Int → M Z.S β} {ρ : Res β} {s : Z.S} {G B : Hp} {σ : St} {H : Hp} {Q : VK} {R : Option Int → Hp → Prop}, Sta Z Γ s G B σ H → PostE Z Γ ρ σ Q G (mk β k s) →
    (∀ i H1 s1 G1 B1, Same G G1 → Sta Z Γ s1 G1 B1 σ H1 → PostE Z Γ ρ σ Q G1 (k i s1) → R i H1) → t σ H R := by
  cases h with
  | non => exact ⟨tNoPart, po_none, fun {β k ρ s G B σ H Q R} st q h => h none H s G B (Same.refl _) st q⟩
  | som h =>
    refine ⟨_, po_some h.pe, fun {β k ρ s G B σ H Q R} st q h => ?_⟩
    refine tE.imp (tE_bnd (ρ := .fz rI) st q) ?_
    rintro v H1 ⟨x, s1, G1, B1, g1, st1, hx, q1⟩
    exact ⟨x, hx, h (some x) H1 s1 G1 B1 g1 st1 q1⟩
theorem je_slL {lo hi : Option Expr} {mlo mhi : (γ : Type) → (Option Int → M Z.S γ) → M Z.S γ} {p2 : Pos} {r : Rp α} {m : M Z.S (List α)} (h : JE Z Γ e m (.fz (rL r))) (hl : JO Z Γ lo mlo) (hh : JO Z Γ hi mhi) :
    JE Z Γ (.Subscript e (.Slice lo hi none p2) pos) (bnd m fun xs => mlo _ fun l => mhi _ fun h => ret (cutA xs l h)) (.own (cL r)) := by
  obtain ⟨tl, pl, hl⟩ := hl.ex
  obtain ⟨th, ph, hh⟩ := hh.ex
  refine ⟨PE.imp (pe_slice sl_list h.pe pl ph) fun σ H Q ⟨s, G, B, st, q⟩ => ?_⟩
  refine tE.imp (tE_bnd (ρ := .fz (rL r)) st q) ?_
  rintro v H1 ⟨xs, s1, G1, B1, g1, st1, hx, q1⟩
  refine hl st1 q1 fun l H2 s2 G2 B2 g2 st2 q2 => ?_
  refine hh st2 q2 fun h H3 s3 G3 B3 g3 st3 q3 => ?_
  obtain ⟨p, vs, rfl, hp, hvs⟩ := ((rL r) xs).mono (g2.trans g3) hx
  refine ⟨p, vs, rfl, SqL.of (st3.ok.gh _ _ hp), fun p' np => ?_⟩
  exact q3 _ _ G3 B3 (Same.refl _) (st3.laid np) (st3.own np ⟨_, rfl, hvs.cut l h⟩)
def sslM {S : Type} (z : Str) (l h : Option Int) : M S Str := bnd (grd (decide (z.length ≤ sizeLine))) fun _ => ret (cutS z l h)
theorem je_slS {lo hi : Option Expr} {mlo mhi : (γ : Type) → (Option Int → M Z.S γ) → M Z.S γ} {p2 : Pos} {m : M Z.S Str} (h : JE Z Γ e m (.fz rS)) (hl : JO Z Γ lo mlo) (hh : JO Z Γ hi mhi) :
    JE Z Γ (.Subscript e (.Slice lo hi none p2) pos) (bnd m fun z => mlo _ fun l => mhi _ fun h => sslM z l h) (.fz rS) := by
  obtain ⟨tl, pl, hl⟩ := hl.ex
  obtain ⟨th, ph, hh⟩ := hh.ex
  refine ⟨PE.imp (pe_slice sl_str h.pe pl ph) fun σ H Q ⟨s, G, B, st, q⟩ => ?_⟩
  refine tE.imp (tE_bnd (ρ := .fz rS) st q) ?_
  rintro v H1 ⟨z, s1, G1, B1, g1, st1, hx, q1⟩
  refine hl st1 q1 fun l H2 s2 G2 B2 g2 st2 q2 => ?_
  refine hh st2 q2 fun h H3 s3 G3 B3 g3 st3 q3 => ?_
  obtain ⟨c, q3⟩ := grd_of q3
  exact ⟨z, hx, of_decide_eq_true c, fin q3 st3 rfl⟩
/-- xs[::-1] -/
theorem je_rev {k : Nat} {p1 p2 p3 : Pos} {r : Rp α} {m : M Z.S (List α)} (h : JE Z Γ e m (.fz (rL r))) : JE Z Γ (.Subscript e (.Slice none none (some (.UnaryOp .USub (.Constant (.int 1) k p1) p2)) p3) pos) (bnd m fun xs => ret xs.reverse) (.own (cL r)) :=
  je_one (t' := tRevL Z.X.K) (fun xs => ret xs.reverse) (.own (cL r)) (fun _ p => pe_revL p) (fun _ _ _ _ => rfl) h fun xs v s G B σ H Q st ⟨p, vs, ev, hp, hvs⟩ q =>
    ⟨p, vs, ev, SqL.of (st.ok.gh _ _ hp), fun p' np => q _ _ G B (Same.refl _) (st.laid np) (st.own np ⟨_, rfl, AllP.reverse hvs⟩)⟩
/-! ### sums of lists -/
def lcatM {S : Type} (xs ys : List α) : M S (List α) := bnd (grd (decide (xs.length + ys.length ≤ sizeLine))) fun _ => ret (xs ++ ys)
theorem je_cat {r : Rp α} {ma mb : M Z.S (List α)} (ha : JE Z Γ a ma (.fz (rL r))) (hb : JE Z Γ b mb (.fz (rL r))) : JE Z Γ (.BinOp a .Add b pos) (bnd ma fun x => bnd mb fun y => lcatM x y) (.own (cL r)) :=
  je_two (fun x y => lcatM x y) (.own (cL r)) (fun _ _ p q => pe_op op_cat p q) ha hb fun x y v w s G B σ H Q st ⟨p, vs, ev, hp, hvs⟩ ⟨p', ws, ew, hp', hws⟩ q => by
    obtain ⟨c, q⟩ := grd_of q
    refine ⟨p, p', vs, ws, ev, ew, st.ok.gh _ _ hp, st.ok.gh _ _ hp', by rw [hvs.length, hws.length]; exact of_decide_eq_true c, fun p2 np => ?_⟩
    exact q _ _ G B (Same.refl _) (st.laid np) (st.own np ⟨_, rfl, hvs.append hws⟩)
/-! ### calls of built-ins -/
theorem je_cb {id : String} {x : Str} {p : Pos} {r : List V → Hp → VK → Prop} {mk : (γ : Type) → (α → M Z.S γ) → M Z.S γ} {ra : α → List V → Hp → Prop} (f : α → M Z.S β) (ρ : Res β) (hc : CallR Z.X (.builtin id) r) (hg : Gl Z.X x) (hm : Z.X.mg x = none) (hv : bootBuiltins x = some (.builtin id)) (ha : JA Z Γ (e :: es) mk ra)
    (h : ∀ x vs s G B σ H (Q : VK), Sta Z Γ s G B σ H → ra x vs G → PostE Z Γ ρ σ Q G (f x s) → r vs H Q) (hn : x ≠ "__name__" := by decide) (hdb : (x == ("__debug__" : Str)) = false := by decide)
    (he : starEach (e :: es) Z.X.env = (false, eval e Z.X.env) :: starEach es Z.X.env := by exact star_of rfl) (hpl : (backTo pos (starEach es Z.X.env)).any (·.1) = false := by rfl) : JE Z Γ (.Call (.Name x p) (e :: es) [] pos) (mk _ f) ρ := by
  obtain ⟨t, ht, hq⟩ := ha.ex
  refine ⟨PE.imp (pe_callB hc hg hm hv ht hn hdb he hpl) fun σ H Q ⟨s, G, B, st, q⟩ => ?_⟩
  exact hq st q fun vs H1 x s1 G1 B1 g1 st1 hx q1 => h x vs s1 G1 B1 σ H1 Q st1 hx q1
theorem je_ct {T : String} {x : Str} {p : Pos} {r : List V → Hp → VK → Prop} {mk : (γ : Type) → (α → M Z.S γ) → M Z.S γ} {ra : α → List V → Hp → Prop} (f : α → M Z.S β) (ρ : Res β) (hc : CallR Z.X (.type T) r) (hg : Gl Z.X x) (hm : Z.X.mg x = none) (hv : bootBuiltins x = some (.type T)) (ha : JA Z Γ (e :: es) mk ra)
    (h : ∀ x vs s G B σ H (Q : VK), Sta Z Γ s G B σ H → ra x vs G → PostE Z Γ ρ σ Q G (f x s) → r vs H Q) (hn : x ≠ "__name__" := by decide) (hdb : (x == ("__debug__" : Str)) = false := by decide)
    (he : starEach (e :: es) Z.X.env = (false, eval e Z.X.env) :: starEach es Z.X.env := by exact star_of rfl) (hpl : (backTo pos (starEach es Z.X.env)).any (·.1) = false := by rfl) : JE Z Γ (.Call (.Name x p) (e :: es) [] pos) (mk _ f) ρ := by
  obtain ⟨t, ht, hq⟩ := ha.ex
  refine ⟨PE.imp (pe_callTy hc hg hm hv ht hn hdb he hpl) fun σ H Q ⟨s, G, B, st, q⟩ => ?_⟩
  exact hq st q fun vs H1 x s1 G1 B1 g1 st1 hx q1 => h x vs s1 G1 B1 σ H1 Q st1 hx q1
theorem ra1 {r : Rp α} {x : α × Unit} {vs : List V} {G : Hp} (h : raC r raN x vs G) : ∃ v, vs = [v] ∧ (r x.1).p v G := by
  obtain ⟨v, ws, e1, h1, e2⟩ := h
  have e2 : ws = [] := e2
  subst e1 e2
  exact ⟨v, rfl, h1⟩
theorem ra2 {r1 : Rp α} {r2 : Rp β} {x : α × β × Unit} {vs : List V} {G : Hp} (h : raC r1 (raC r2 raN) x vs G) : ∃ v w, vs = [v, w] ∧ (r1 x.1).p v G ∧ (r2 x.2.1).p w G := by
  obtain ⟨v, ws, e1, h1, w, us, e2, h2, e3⟩ := h
  have e3 : us = [] := e3
  subst e1 e2 e3
  exact ⟨v, w, rfl, h1, h2⟩
section
variable {p : Pos} {n : Str} {m : M Z.S Int} {m2 : M Z.S Int} {he : Bool}
theorem je_lenL {r : Rp α} {m : M Z.S (List α)} (hg : Gl Z.X "len") (hm : Z.X.mg "len" = none) (h : JE Z Γ e m (.fz (rL r))) (he : starEach [e] Z.X.env = (false, eval e Z.X.env) :: starEach [] Z.X.env := by exact star_of rfl) : JE Z Γ (.Call (.Name "len" p) [e] [] pos) (bnd m fun xs => ret (xs.length : Int)) (.fz rI) :=
  je_cb (fun x : List α × Unit => ret (x.1.length : Int)) (.fz rI) call_len_seq hg hm boot_len (ja_cons h ja_nil he) (fun x vs s G B σ H Q st hx q => by
    obtain ⟨v, rfl, a, ws, rfl, ha, hw⟩ := ra1 hx
    exact ⟨a, ws, rfl, .inl (SqL.of (st.ok.gh _ _ ha)), fin q st (by rw [hw.length]; rfl)⟩) (he := he)
theorem je_lenS {m : M Z.S Str} (hg : Gl Z.X "len") (hm : Z.X.mg "len" = none) (h : JE Z Γ e m (.fz rS)) (he : starEach [e] Z.X.env = (false, eval e Z.X.env) :: starEach [] Z.X.env := by exact star_of rfl) : JE Z Γ (.Call (.Name "len" p) [e] [] pos) (bnd m fun z => bnd (grd (decide (z.length ≤ sizeLine))) fun _ => ret (z.length : Int)) (.fz rI) :=
  je_cb (fun x : Str × Unit => bnd (grd (decide (x.1.length ≤ sizeLine))) fun _ => ret (x.1.length : Int)) (.fz rI) call_len_str hg hm boot_len (ja_cons h ja_nil he) (fun x vs s G B σ H Q st hx q => by
    obtain ⟨v, rfl, hv⟩ := ra1 hx
    obtain ⟨c, q⟩ := grd_of q
    exact ⟨x.1, by rw [show v = .str x.1 from hv], of_decide_eq_true c, fin q st rfl⟩) (he := he)
theorem je_intI (hg : Gl Z.X "int") (hm : Z.X.mg "int" = none) (h : JE Z Γ e m (.fz rI)) (he : starEach [e] Z.X.env = (false, eval e Z.X.env) :: starEach [] Z.X.env := by exact star_of rfl) : JE Z Γ (.Call (.Name "int" p) [e] [] pos) (bnd m fun x => ret x) (.fz rI) :=
  je_ct (fun x : Int × Unit => ret x.1) (.fz rI) call_int1 hg hm (by decide +kernel) (ja_cons h ja_nil he) (fun x vs s G B σ H Q st hx q => by
    obtain ⟨v, rfl, hv⟩ := ra1 hx
    exact .inl ⟨x.1, by rw [show v = .int x.1 from hv], fin q st rfl⟩) (he := he)
theorem je_intB {m : M Z.S Bool} (hg : Gl Z.X "int") (hm : Z.X.mg "int" = none) (h : JE Z Γ e m (.fz rB)) (he : starEach [e] Z.X.env = (false, eval e Z.X.env) :: starEach [] Z.X.env := by exact star_of rfl) : JE Z Γ (.Call (.Name "int" p) [e] [] pos) (bnd m fun x => ret (if x then (1 : Int) else 0)) (.fz rI) :=
  je_ct (fun x : Bool × Unit => ret (if x.1 then (1 : Int) else 0)) (.fz rI) call_int1 hg hm (by decide +kernel) (ja_cons h ja_nil he) (fun x vs s G B σ H Q st hx q => by
    obtain ⟨v, rfl, hv⟩ := ra1 hx
    exact .inr ⟨x.1, by rw [show v = .bl x.1 from hv], fin q st rfl⟩) (he := he)
theorem je_abs (hg : Gl Z.X "abs") (hm : Z.X.mg "abs" = none) (h : JE Z Γ e m (.fz rI)) (he : starEach [e] Z.X.env = (false, eval e Z.X.env) :: starEach [] Z.X.env := by exact star_of rfl) : JE Z Γ (.Call (.Name "abs" p) [e] [] pos) (bnd m fun x => ret (if x < 0 then -x else x)) (.fz rI) :=
  je_cb (fun x : Int × Unit => ret (if x.1 < 0 then -x.1 else x.1)) (.fz rI) call_abs hg hm (by decide +kernel) (ja_cons h ja_nil he) (fun x vs s G B σ H Q st hx q => by
    obtain ⟨v, rfl, hv⟩ := ra1 hx
    exact ⟨x.1, by rw [show v = .int x.1 from hv], fin q st rfl⟩) (he := he)
theorem je_max2 (z : ZOk Z) (hg : Gl Z.X "max") (hm : Z.X.mg "max" = none) (h : JE Z Γ a m (.fz rI)) (h2 : JE Z Γ b m2 (.fz rI)) (he : starEach [a, b] Z.X.env = (false, eval a Z.X.env) :: starEach [b] Z.X.env := by exact star_of rfl) (he2 : starEach [b] Z.X.env = (false, eval b Z.X.env) :: starEach [] Z.X.env := by exact star_of rfl) (hpl : (backTo pos (starEach [b] Z.X.env)).any (·.1) = false := by rfl) :
    JE Z Γ (.Call (.Name "max" p) [a, b] [] pos) (bnd m fun x => bnd m2 fun y => ret (if y > x then y else x)) (.fz rI) :=
  je_cb (fun x : Int × Int × Unit => ret (if x.2.1 > x.1 then x.2.1 else x.1)) (.fz rI) (call_max2 z.calm) hg hm (by decide +kernel) (ja_cons h (ja_cons h2 ja_nil he2) he) (fun x vs s G B σ H Q st hx q => by
    obtain ⟨v, w, rfl, hv, hw⟩ := ra2 hx
    exact ⟨x.1, x.2.1, by rw [show v = .int x.1 from hv, show w = .int x.2.1 from hw], fin q st rfl⟩) (he := he) (hpl := hpl)
theorem je_listL {r : Rp α} {m : M Z.S (List α)} (hg : Gl Z.X "list") (hm : Z.X.mg "list" = none) (h : JE Z Γ e m (.fz (rL r))) (he : starEach [e] Z.X.env = (false, eval e Z.X.env) :: starEach [] Z.X.env := by exact star_of rfl) : JE Z Γ (.Call (.Name "list" p) [e] [] pos) (bnd m fun xs => ret xs) (.own (cL r)) :=
  je_ct (fun x : List α × Unit => ret x.1) (.own (cL r)) call_list_of hg hm (by decide +kernel) (ja_cons h ja_nil he) (fun x vs s G B σ H Q st hx q => by
    obtain ⟨v, rfl, a, ws, rfl, ha, hw⟩ := ra1 hx
    exact ⟨a, ws, rfl, .inl (SqL.of (st.ok.gh _ _ ha)), fun l nl => q _ _ G B (Same.refl _) (st.laid nl) (st.own nl ⟨_, rfl, hw⟩)⟩) (he := he)
theorem bls_of {G : Hp} : ∀ {vs : List V} {bs : List Bool}, AllP rB G vs bs → vs = bs.map V.bl
  | _, _, .nil => rfl
  | _, _, .cons h t => by rw [show _ = V.bl _ from h, bls_of t]; rfl
theorem ints_of {G : Hp} : ∀ {vs : List V} {bs : List Int}, AllP rI G vs bs → vs = bs.map V.int
  | _, _, .nil => rfl
  | _, _, .cons h t => by rw [show _ = V.int _ from h, ints_of t]; rfl
theorem strs_of {G : Hp} : ∀ {vs : List V} {bs : List Str}, AllP rS G vs bs → vs = bs.map V.str
  | _, _, .nil => rfl
  | _, _, .cons h t => by rw [show _ = V.str _ from h, strs_of t]; rfl
theorem je_all (z : ZOk Z) {m : M Z.S (List Bool)} (hg : Gl Z.X "all") (hm : Z.X.mg "all" = none) (h : JE Z Γ e m (.fz (rL rB))) (he : starEach [e] Z.X.env = (false, eval e Z.X.env) :: starEach [] Z.X.env := by exact star_of rfl) : JE Z Γ (.Call (.Name "all" p) [e] [] pos) (bnd m fun xs => ret (xs.all id)) (.fz rB) :=
  je_cb (fun x : List Bool × Unit => ret (x.1.all id)) (.fz rB) (cr_all z.calm) hg hm (by decide +kernel) (ja_cons h ja_nil he) (fun x vs s G B σ H Q st hx q => by
    obtain ⟨v, rfl, a, ws, rfl, ha, hw⟩ := ra1 hx
    exact ⟨a, x.1, rfl, SqL.of (by rw [← bls_of hw]; exact st.ok.gh _ _ ha), fin q st rfl⟩) (he := he)
theorem je_any (z : ZOk Z) {m : M Z.S (List Bool)} (hg : Gl Z.X "any") (hm : Z.X.mg "any" = none) (h : JE Z Γ e m (.fz (rL rB))) (he : starEach [e] Z.X.env = (false, eval e Z.X.env) :: starEach [] Z.X.env := by exact star_of rfl) : JE Z Γ (.Call (.Name "any" p) [e] [] pos) (bnd m fun xs => ret (xs.any id)) (.fz rB) :=
  je_cb (fun x : List Bool × Unit => ret (x.1.any id)) (.fz rB) (cr_any z.calm) hg hm (by decide +kernel) (ja_cons h ja_nil he) (fun x vs s G B σ H Q st hx q => by
    obtain ⟨v, rfl, a, ws, rfl, ha, hw⟩ := ra1 hx
    exact ⟨a, x.1, rfl, SqL.of (by rw [← bls_of hw]; exact st.ok.gh _ _ ha), fin q st rfl⟩) (he := he)
theorem je_sum (z : ZOk Z) {m : M Z.S (List Int)} (hg : Gl Z.X "sum") (hm : Z.X.mg "sum" = none) (h : JE Z Γ e m (.fz (rL rI))) (he : starEach [e] Z.X.env = (false, eval e Z.X.env) :: starEach [] Z.X.env := by exact star_of rfl) : JE Z Γ (.Call (.Name "sum" p) [e] [] pos) (bnd m fun xs => ret xs.sum) (.fz rI) :=
  je_cb (fun x : List Int × Unit => ret x.1.sum) (.fz rI) (cr_sum z.calm) hg hm (by decide +kernel) (ja_cons h ja_nil he) (fun x vs s G B σ H Q st hx q => by
    obtain ⟨v, rfl, a, ws, rfl, ha, hw⟩ := ra1 hx
    exact ⟨a, x.1, rfl, SqL.of (by rw [← ints_of hw]; exact st.ok.gh _ _ ha), fin q st rfl⟩) (he := he)
/-- sep.join(xs) -/
def joinM {S : Type} (a : Str) (ys : List Str) : M S Str := bnd (grd (decide ((ys.map (·.length)).sum + ys.length * a.length ≤ 16777216))) fun _ => ret (Txt.join a ys)
theorem je_join {apos : Pos} {ma : M Z.S Str} {mb : M Z.S (List Str)} (ha : JE Z Γ a ma (.fz rS)) (hb : JE Z Γ b mb (.fz (rL rS))) (hs : starEach [b] Z.X.env = [(false, eval b Z.X.env)] := by exact star_of rfl) (hbase : attributeBase a "join" Z.X.env (eval a Z.X.env) = eval a Z.X.env := by rfl) (hline : (apos.endLine == pos.line) = true := by rfl) :
    JE Z Γ (.Call (.Attribute a "join" apos) [b] [] pos) (bnd ma fun x => bnd mb fun ys => joinM x ys) (.fz rS) := by
  refine ⟨PE.imp (pe_join ha.pe hb.pe hs hbase hline) fun σ H Q ⟨s, G, B, st, q⟩ => ?_⟩
  refine tE.imp (tE_bnd (ρ := .fz rS) st q) ?_
  rintro v H1 ⟨x, s1, G1, B1, g1, st1, hx, q1⟩
  refine ⟨⟨x, hx⟩, ?_⟩
  refine tE.imp (tE_bnd (ρ := .fz (rL rS)) st1 q1) ?_
  rintro w H2 ⟨ys, s2, G2, B2, g2, st2, ⟨p', ws, rfl, hp, hws⟩, q2⟩
  obtain ⟨c, q2⟩ := grd_of q2
  exact ⟨x, p', ys, hx, rfl, .inl (SqL.of (by rw [← strs_of hws]; exact st2.ok.gh _ _ hp)), of_decide_eq_true c, fin q2 st2 rfl⟩
end
end
end DL
set_option Elab.async false
set_option linter.all false
set_option maxRecDepth 100000
namespace DL
open PySem L2
/-! ### == and != of data -/
structure DEq (K : PySem.W.Frag) {α : Type} [DecidableEq α] (r : Rp α) (n : Nat) where
  ok : α → Bool
  d : α → PyData
  dp : ∀ {x : α} {v : V} {G H : Hp}, Same G H → (r x).p v G → Dp K H v (d x)
  lay : ∀ x, ok x = true → (d x).canLay0 = true
  dep : ∀ x, (d x).depth ≤ n
  eq : ∀ x y, PyData.eqv (d x) (d y) = decide (x = y)
section
variable {K : PySem.W.Frag}
theorem beq_dec {α : Type} [BEq α] [LawfulBEq α] [DecidableEq α] (x y : α) : (x == y) = decide (x = y) := by
  by_cases h : x = y
  · subst h; simp
  · rw [decide_eq_false h]
    exact beq_eq_false_iff_ne.mpr h
def dI : DEq K rI 0 := ⟨fun _ => true, .int, fun {x v G H} _ (h : v = .int x) => by rw [h]; exact .int x, fun _ _ => rfl, fun _ => Nat.le_refl _, fun x y => by show (x == y) = _; exact beq_dec x y⟩
def dS : DEq K rS 0 := ⟨PyData.strOk, .str, fun {x v G H} _ (h : v = .str x) => by rw [h]; exact .str x, fun _ h => h, fun _ => Nat.le_refl _, fun x y => by show (x == y) = _; exact beq_dec x y⟩
def dB : DEq K rB 0 := ⟨fun _ => true, .bool, fun {x v G H} _ (h : v = .bl x) => by rw [h]; exact .bl x, fun _ _ => rfl, fun _ => Nat.le_refl _, fun x y => by show (x == y) = _; exact beq_dec x y⟩
def dU : DEq K rU 0 := ⟨fun _ => true, fun _ => .none, fun {x v G H} _ (h : v = .non) => by rw [h]; exact .non, fun _ _ => rfl, fun _ => Nat.le_refl _, fun x y => by simp [PyData.eqv]⟩
variable {α β γ δ : Type} [DecidableEq α] [DecidableEq β] [DecidableEq γ] [DecidableEq δ]
theorem dpAll {r : Rp α} {n : Nat} (D : DEq K r n) {G H : Hp} (g : Same G H) : ∀ {vs : List V} {xs : List α}, AllP r G vs xs → DpAll K H vs (xs.map D.d)
  | _, _, .nil => .nil
  | _, _, .cons h t => .cons (D.dp g h) (dpAll D g t)
theorem layAll {r : Rp α} {n : Nat} (D : DEq K r n) : ∀ xs : List α, xs.all D.ok = true → PyData.canLayAll0 (xs.map D.d) = true
  | [], _ => rfl
  | x :: xs, h => by
    rw [List.all_cons, Bool.and_eq_true_iff] at h
    show ((D.d x).canLay0 && PyData.canLayAll0 (xs.map D.d)) = true
    rw [D.lay x h.1, layAll D xs h.2]
    rfl
theorem depAll {r : Rp α} {n : Nat} (D : DEq K r n) : ∀ xs : List α, PyData.depthAll (xs.map D.d) ≤ n
  | [] => Nat.zero_le _
  | x :: xs => by
    show max (D.d x).depth (PyData.depthAll (xs.map D.d)) ≤ n
    exact Nat.max_le.mpr ⟨D.dep x, depAll D xs⟩
theorem eqAll {r : Rp α} {n : Nat} (D : DEq K r n) : ∀ xs ys : List α, PyData.eqvAll (xs.map D.d) (ys.map D.d) = decide (xs = ys)
  | [], [] => rfl
  | [], _ :: _ => rfl
  | _ :: _, [] => rfl
  | x :: xs, y :: ys => by
    show (PyData.eqv (D.d x) (D.d y) && PyData.eqvAll (xs.map D.d) (ys.map D.d)) = _
    rw [D.eq, eqAll D xs ys]
    by_cases h : x = y
    · subst h; simp
    · simp [h]
def dL {r : Rp α} {n : Nat} (D : DEq K r n) : DEq K (rL r) (n + 1) :=
  ⟨fun xs => xs.all D.ok, fun xs => .list (xs.map D.d), fun {x v G H} g ⟨a, vs, ev, ha, hv⟩ => by rw [ev]; exact .lst (SqL.of (g _ _ ha)) (dpAll D g hv), fun xs h => layAll D xs h, fun xs => Nat.succ_le_succ (depAll D xs), fun xs ys => eqAll D xs ys⟩
theorem max2_le {a b m n : Nat} (h1 : a ≤ m) (h2 : b ≤ n) : max a b ≤ max m n := by omega
def dT2 {r1 : Rp α} {r2 : Rp β} {n1 n2 : Nat} (D1 : DEq K r1 n1) (D2 : DEq K r2 n2) : DEq K (rT2 K r1 r2) (max n1 n2 + 1) :=
  ⟨fun x => D1.ok x.1 && D2.ok x.2, fun x => .tuple [D1.d x.1, D2.d x.2], fun {x v G H} g ⟨a, u1, u2, ev, ha, h1, h2⟩ => by rw [ev]; exact .tup (Same.sqT g ha) (.cons (D1.dp g h1) (.cons (D2.dp g h2) .nil)),
   fun x h => by
    have h := Bool.and_eq_true_iff.mp h
    show ((D1.d x.1).canLay0 && ((D2.d x.2).canLay0 && true)) = true
    rw [D1.lay _ h.1, D2.lay _ h.2]; rfl,
   fun x => by
    have h1 := D1.dep x.1
    have h2 := D2.dep x.2
    show max (D1.d x.1).depth (max (D2.d x.2).depth 0) + 1 ≤ _
    omega,
   fun x y => by
    show (PyData.eqv _ _ && (PyData.eqv _ _ && true)) = _
    rw [D1.eq, D2.eq]
    obtain ⟨x1, x2⟩ := x
    obtain ⟨y1, y2⟩ := y
    by_cases e1 : x1 = y1 <;> by_cases e2 : x2 = y2 <;> simp [e1, e2]⟩
def dT3 {r1 : Rp α} {r2 : Rp β} {r3 : Rp γ} {n1 n2 n3 : Nat} (D1 : DEq K r1 n1) (D2 : DEq K r2 n2) (D3 : DEq K r3 n3) : DEq K (rT3 K r1 r2 r3) (max n1 (max n2 n3) + 1) :=
  ⟨fun x => D1.ok x.1 && (D2.ok x.2.1 && D3.ok x.2.2), fun x => .tuple [D1.d x.1, D2.d x.2.1, D3.d x.2.2], fun {x v G H} g ⟨a, u1, u2, u3, ev, ha, h1, h2, h3⟩ => by rw [ev]; exact .tup (Same.sqT g ha) (.cons (D1.dp g h1) (.cons (D2.dp g h2) (.cons (D3.dp g h3) .nil))),
   fun x h => by
    have h := Bool.and_eq_true_iff.mp h
    have h' := Bool.and_eq_true_iff.mp h.2
    show ((D1.d x.1).canLay0 && ((D2.d x.2.1).canLay0 && ((D3.d x.2.2).canLay0 && true))) = true
    rw [D1.lay _ h.1, D2.lay _ h'.1, D3.lay _ h'.2]; rfl,
   fun x => by
    have h1 := D1.dep x.1
    have h2 := D2.dep x.2.1
    have h3 := D3.dep x.2.2
    show max (D1.d x.1).depth (max (D2.d x.2.1).depth (max (D3.d x.2.2).depth 0)) + 1 ≤ _
    omega,
   fun x y => by
    show (PyData.eqv _ _ && (PyData.eqv _ _ && (PyData.eqv _ _ && true))) = _
    rw [D1.eq, D2.eq, D3.eq]
    obtain ⟨x1, x2, x3⟩ := x
    obtain ⟨y1, y2, y3⟩ := y
    by_cases e1 : x1 = y1 <;> by_cases e2 : x2 = y2 <;> by_cases e3 : x3 = y3 <;> simp [e1, e2, e3]⟩
def dO {r : Rp α} {n : Nat} (D : DEq K r n) (hn : ∀ x, PyData.eqv .none (D.d x) = false ∧ PyData.eqv (D.d x) .none = false) : DEq K (rO r) n :=
  ⟨fun x => match x with
    | none => true
    | some y => D.ok y, fun x => match x with
    | none => .none
    | some y => D.d y, fun {x v G H} g h => by
    cases x with
    | none =>
      have h : v = .non := h
      rw [h]; exact .non
    | some y => exact D.dp g h,
   fun x h => by
    cases x with
    | none => rfl
    | some y => exact D.lay y h,
   fun x => by
    cases x with
    | none => exact Nat.zero_le _
    | some y => exact D.dep y,
   fun x y => by
    cases x with
    | none => cases y with
      | none => rfl
      | some y => show PyData.eqv .none (D.d y) = _; rw [(hn y).1]; simp
    | some x => cases y with
      | none => show PyData.eqv (D.d x) .none = _; rw [(hn x).2]; simp
      | some y => show PyData.eqv (D.d x) (D.d y) = _; rw [D.eq]; simp⟩
end
section
variable {Z : Zc} {Γ : Ctx} {α β γ : Type} {e a b : Expr} {es : List Expr} {pos : Pos} [DecidableEq α]
def eqM {S : Type} (ok : α → Bool) (x y : α) : M S Bool := bnd (grd (ok x && ok y)) fun _ => ret (decide (x = y))
def neM {S : Type} (ok : α → Bool) (x y : α) : M S Bool := bnd (grd (ok x && ok y)) fun _ => ret (!decide (x = y))
theorem shaped_of {K : PySem.W.Frag} {r : Rp α} {n : Nat} (D : DEq K r n) (hn : n ≤ 60) {x : α} (h : D.ok x = true) : SeqAt.shaped (D.d x) = true := by
  unfold SeqAt.shaped
  rw [D.lay x h, decide_eq_true (Nat.le_trans (D.dep x) (Nat.le_trans hn (by decide)))]
  rfl
theorem je_eqD {r : Rp α} {n : Nat} (D : DEq Z.X.K r n) (hn : n ≤ 60) (hu : Z.X.A.units + 65 < cLine) {ma mb : M Z.S α} (ha : JE Z Γ a ma (.fz r)) (hb : JE Z Γ b mb (.fz r)) : JE Z Γ (.Compare a [.Eq] [b] pos) (bnd ma fun x => bnd mb fun y => eqM D.ok x y) (.fz rB) :=
  je_two (fun x y => eqM D.ok x y) (.fz rB) (fun _ _ p q => pe_cmpR (op_eqD (by omega)) p q (nomark _)) ha hb fun x y v w s G B σ H Q st hv hw q => by
    obtain ⟨c, q⟩ := grd_of q
    have c := Bool.and_eq_true_iff.mp c
    exact ⟨D.d x, D.d y, D.dp st.ok.gh hv, D.dp st.ok.gh hw, shaped_of D hn c.1, shaped_of D hn c.2, by rw [D.eq]; exact fin q st rfl⟩
theorem jt_eqD {r : Rp α} {n : Nat} (D : DEq Z.X.K r n) (hn : n ≤ 60) (hu : Z.X.A.units + 65 < cLine) {ma mb : M Z.S α} (ha : JE Z Γ a ma (.fz r)) (hb : JE Z Γ b mb (.fz r)) : JT Z Γ (.Compare a [.Eq] [b] pos) (bnd ma fun x => bnd mb fun y => eqM D.ok x y) :=
  jt_two (fun x y => eqM D.ok x y) (fun _ _ p q => pt_cmpR (op_eqD (by omega)) p q (nomark _)) ha hb fun x y v w s G B σ H Q st hv hw q => by
    obtain ⟨c, q⟩ := grd_of q
    have c := Bool.and_eq_true_iff.mp c
    exact ⟨D.d x, D.d y, D.dp st.ok.gh hv, D.dp st.ok.gh hw, shaped_of D hn c.1, shaped_of D hn c.2, by rw [D.eq]; exact fin q st rfl⟩
theorem je_neD {r : Rp α} {n : Nat} (D : DEq Z.X.K r n) (hn : n ≤ 60) (hu : Z.X.A.units + 65 < cLine) {ma mb : M Z.S α} (ha : JE Z Γ a ma (.fz r)) (hb : JE Z Γ b mb (.fz r)) : JE Z Γ (.Compare a [.NotEq] [b] pos) (bnd ma fun x => bnd mb fun y => neM D.ok x y) (.fz rB) :=
  je_two (fun x y => neM D.ok x y) (.fz rB) (fun _ _ p q => pe_cmpR (op_neD (by omega)) p q (nomark _)) ha hb fun x y v w s G B σ H Q st hv hw q => by
    obtain ⟨c, q⟩ := grd_of q
    have c := Bool.and_eq_true_iff.mp c
    exact ⟨D.d x, D.d y, D.dp st.ok.gh hv, D.dp st.ok.gh hw, shaped_of D hn c.1, shaped_of D hn c.2, by rw [D.eq]; exact fin q st rfl⟩
theorem jt_neD {r : Rp α} {n : Nat} (D : DEq Z.X.K r n) (hn : n ≤ 60) (hu : Z.X.A.units + 65 < cLine) {ma mb : M Z.S α} (ha : JE Z Γ a ma (.fz r)) (hb : JE Z Γ b mb (.fz r)) : JT Z Γ (.Compare a [.NotEq] [b] pos) (bnd ma fun x => bnd mb fun y => neM D.ok x y) :=
  jt_two (fun x y => neM D.ok x y) (fun _ _ p q => pt_cmpR (op_neD (by omega)) p q (nomark _)) ha hb fun x y v w s G B σ H Q st hv hw q => by
    obtain ⟨c, q⟩ := grd_of q
    have c := Bool.and_eq_true_iff.mp c
    exact ⟨D.d x, D.d y, D.dp st.ok.gh hv, D.dp st.ok.gh hw, shaped_of D hn c.1, shaped_of D hn c.2, by rw [D.eq]; exact fin q st rfl⟩
/-! ### in, not in -/
/-- a rep of flat values: equal values of equal things -/
structure FlatR {α : Type} [DecidableEq α] (r : Rp α) : Prop where
  flat : ∀ {x : α} {v : V} {G : Hp}, (r x).p v G → flatV v = true
  eq : ∀ {x y : α} {v w : V} {G : Hp}, (r x).p v G → (r y).p w G → eqV v w = decide (x = y)
theorem flI : FlatR rI := ⟨fun {x v G} (h : v = .int x) => by rw [h]; rfl, fun {x y v w G} (h : v = .int x) (h' : w = .int y) => by rw [h, h']; show (x == y) = _; exact beq_dec x y⟩
theorem flS : FlatR rS := ⟨fun {x v G} (h : v = .str x) => by rw [h]; rfl, fun {x y v w G} (h : v = .str x) (h' : w = .str y) => by rw [h, h']; show (x == y) = _; exact beq_dec x y⟩
theorem flat_all {r : Rp α} (F : FlatR r) {G : Hp} : ∀ {vs : List V} {xs : List α}, AllP r G vs xs → vs.all flatV = true
  | _, _, .nil => rfl
  | _, _, .cons h t => by rw [List.all_cons, F.flat h, flat_all F t]; rfl
theorem in_all {r : Rp α} (F : FlatR r) {G : Hp} {x : α} {v : V} (hx : (r x).p v G) : ∀ {vs : List V} {xs : List α}, AllP r G vs xs → inV v vs = decide (x ∈ xs)
  | _, _, .nil => rfl
  | _, _, .cons (a := w) (b := y) (l₁ := ws) (l₂ := ys) h t => by
    show (eqV w v || inV v ws) = _
    rw [F.eq h hx, in_all F hx t]
    by_cases e : y = x
    · subst e; simp
    · have e' : ¬ x = y := fun z => e z.symm
      simp [e, e']
theorem c_inL {r : Rp α} (F : FlatR r) : CmpOk Z Γ .In r (rL r) fun x xs => decide (x ∈ xs) := ⟨_, op_in_seq, fun x xs v w s G B σ H Q st hv ⟨p, ws, ew, hp, hws⟩ q =>
  ⟨p, ws, ew, .inl (SqL.of (st.ok.gh _ _ hp)), F.flat hv, flat_all F hws, by rw [in_all F hv hws]; exact q⟩⟩
theorem c_ninL {r : Rp α} (F : FlatR r) : CmpOk Z Γ .NotIn r (rL r) fun x xs => !decide (x ∈ xs) := ⟨_, op_notIn_seq, fun x xs v w s G B σ H Q st hv ⟨p, ws, ew, hp, hws⟩ q =>
  ⟨p, ws, ew, .inl (SqL.of (st.ok.gh _ _ hp)), F.flat hv, flat_all F hws, by rw [in_all F hv hws]; exact q⟩⟩
/-- of data -/
theorem dany {K : PySem.W.Frag} {r : Rp α} {n : Nat} (D : DEq K r n) (x : α) : ∀ xs : List α, ((xs.map D.d).any fun z => PyData.eqv z (D.d x)) = decide (x ∈ xs)
  | [] => rfl
  | y :: ys => by
    rw [List.map_cons, List.any_cons, D.eq, dany D x ys]
    by_cases e : y = x
    · subst e; simp
    · have e' : ¬ x = y := fun z => e z.symm
      simp [e, e']
def inM {S : Type} (ok : α → Bool) (x : α) (xs : List α) : M S Bool := bnd (grd (ok x && xs.all ok)) fun _ => ret (decide (x ∈ xs))
def ninM {S : Type} (ok : α → Bool) (x : α) (xs : List α) : M S Bool := bnd (grd (ok x && xs.all ok)) fun _ => ret (!decide (x ∈ xs))
theorem je_inD {r : Rp α} {n : Nat} (D : DEq Z.X.K r n) (hn : n ≤ 59) (hu : Z.X.A.units + 65 < cLine) {ma : M Z.S α} {mb : M Z.S (List α)} (ha : JE Z Γ a ma (.fz r)) (hb : JE Z Γ b mb (.fz (rL r))) (hm : behindInMarks .In b = false := by rfl) : JE Z Γ (.Compare a [.In] [b] pos) (bnd ma fun x => bnd mb fun y => inM D.ok x y) (.fz rB) :=
  je_two (fun x y => inM D.ok x y) (.fz rB) (fun _ _ p q => pe_cmpR (op_inD hu) p q hm) ha hb fun x y v w s G B σ H Q st hv hw q => by
    obtain ⟨c, q⟩ := grd_of q
    have c := Bool.and_eq_true_iff.mp c
    exact ⟨D.d x, y.map D.d, D.dp st.ok.gh hv, (dL D).dp st.ok.gh hw, shaped_of D (by omega) c.1, shaped_of (dL D) (by omega) (x := y) c.2, by rw [dany]; exact fin q st rfl⟩
theorem jt_inD {r : Rp α} {n : Nat} (D : DEq Z.X.K r n) (hn : n ≤ 59) (hu : Z.X.A.units + 65 < cLine) {ma : M Z.S α} {mb : M Z.S (List α)} (ha : JE Z Γ a ma (.fz r)) (hb : JE Z Γ b mb (.fz (rL r))) (hm : behindInMarks .In b = false := by rfl) : JT Z Γ (.Compare a [.In] [b] pos) (bnd ma fun x => bnd mb fun y => inM D.ok x y) :=
  jt_two (fun x y => inM D.ok x y) (fun _ _ p q => pt_cmpR (op_inD hu) p q hm) ha hb fun x y v w s G B σ H Q st hv hw q => by
    obtain ⟨c, q⟩ := grd_of q
    have c := Bool.and_eq_true_iff.mp c
    exact ⟨D.d x, y.map D.d, D.dp st.ok.gh hv, (dL D).dp st.ok.gh hw, shaped_of D (by omega) c.1, shaped_of (dL D) (by omega) (x := y) c.2, by rw [dany]; exact fin q st rfl⟩
theorem je_ninD {r : Rp α} {n : Nat} (D : DEq Z.X.K r n) (hn : n ≤ 59) (hu : Z.X.A.units + 65 < cLine) {ma : M Z.S α} {mb : M Z.S (List α)} (ha : JE Z Γ a ma (.fz r)) (hb : JE Z Γ b mb (.fz (rL r))) (hm : behindInMarks .NotIn b = false := by rfl) : JE Z Γ (.Compare a [.NotIn] [b] pos) (bnd ma fun x => bnd mb fun y => ninM D.ok x y) (.fz rB) :=
  je_two (fun x y => ninM D.ok x y) (.fz rB) (fun _ _ p q => pe_cmpR (op_notInD hu) p q hm) ha hb fun x y v w s G B σ H Q st hv hw q => by
    obtain ⟨c, q⟩ := grd_of q
    have c := Bool.and_eq_true_iff.mp c
    exact ⟨D.d x, y.map D.d, D.dp st.ok.gh hv, (dL D).dp st.ok.gh hw, shaped_of D (by omega) c.1, shaped_of (dL D) (by omega) (x := y) c.2, by rw [dany]; exact fin q st rfl⟩
theorem jt_ninD {r : Rp α} {n : Nat} (D : DEq Z.X.K r n) (hn : n ≤ 59) (hu : Z.X.A.units + 65 < cLine) {ma : M Z.S α} {mb : M Z.S (List α)} (ha : JE Z Γ a ma (.fz r)) (hb : JE Z Γ b mb (.fz (rL r))) (hm : behindInMarks .NotIn b = false := by rfl) : JT Z Γ (.Compare a [.NotIn] [b] pos) (bnd ma fun x => bnd mb fun y => ninM D.ok x y) :=
  jt_two (fun x y => ninM D.ok x y) (fun _ _ p q => pt_cmpR (op_notInD hu) p q hm) ha hb fun x y v w s G B σ H Q st hv hw q => by
    obtain ⟨c, q⟩ := grd_of q
    have c := Bool.and_eq_true_iff.mp c
    exact ⟨D.d x, y.map D.d, D.dp st.ok.gh hv, (dL D).dp st.ok.gh hw, shaped_of D (by omega) c.1, shaped_of (dL D) (by omega) (x := y) c.2, by rw [dany]; exact fin q st rfl⟩
/-- one sign in a text -/
def inSM {S : Type} (c z : Str) : M S Bool := bnd (opt (match c.cps.toList with | [x] => some x | _ => none)) fun x => ret (decide (x ∈ z.cps.toList))
end
end DL
set_option Elab.async false
set_option linter.all false
set_option maxRecDepth 100000
namespace DL
open PySem L2
section
variable {Z : Zc} {Γ : Ctx} {α β γ : Type} {e a b : Expr} {es : List Expr} {pos : Pos} {κ : Type} [DecidableEq κ] {kt : KeyT κ}
/-! ### dicts that stand still -/
theorem dget_of {r : Rp α} {d : List (κ × α)} {k : κ} {v w : V} {G H : Hp} (g : Same G H) (hd : (rD kt r d).p v G) (hk : (kt.rp k).p w G) : ∃ p o, v = .ref p ∧ DGet H p w o ∧ ((dget d k = none ∧ o = none) ∨ ∃ x u, dget d k = some x ∧ o = some u ∧ (r x).p u G) := by
  obtain ⟨p, od, vs, rfl, hp, hv⟩ := hd
  refine ⟨p, valV vs (kt.f k), rfl, .inl ⟨vs, kt.f k, .inr ⟨od, g _ _ hp⟩, hk, rfl⟩, ?_⟩
  rcases hv.get k with ⟨h1, h2⟩ | ⟨x, u, h1, h2, h3⟩
  · exact .inl ⟨h1, h2⟩
  · exact .inr ⟨x, u, h1, h2, h3⟩
theorem je_dget {r : Rp α} (hu : Z.X.A.units + 65 < cLine) {md : M Z.S (List (κ × α))} {mk : M Z.S κ} (hd : JE Z Γ a md (.fz (rD kt r))) (hk : JE Z Γ b mk (.fz kt.rp)) (hs : NoSl b := by exact fun _ _ => rfl) : JE Z Γ (.Subscript a b pos) (bnd md fun d => bnd mk fun k => opt (dget d k)) (.fz r) := by
  refine ⟨PE.imp (pe_dget (by omega) hd.pe hk.pe hs) fun σ H Q ⟨s, G, B, st, q⟩ => ?_⟩
  refine tE.imp (tE_bnd (ρ := .fz (rD kt r)) st q) ?_
  rintro v H1 ⟨d, s1, G1, B1, g1, st1, hx, q1⟩
  refine tE.imp (tE_bnd (ρ := .fz kt.rp) st1 q1) ?_
  rintro w H2 ⟨k, s2, G2, B2, g2, st2, hy, q2⟩
  obtain ⟨x, ex, q2⟩ := opt_of' q2
  obtain ⟨p, o, rfl, hg, z⟩ := dget_of st2.ok.gh ((rD kt r d).mono g2 hx) hy
  rcases z with ⟨z1, z2⟩ | ⟨x', u, z1, z2, z3⟩
  · rw [ex] at z1
    cases z1
  · rw [ex] at z1
    cases z1
    subst z2
    exact ⟨p, u, rfl, hg, fin q2 st2 z3⟩
theorem je_din {r : Rp α} (hu : Z.X.A.units + 65 < cLine) {md : M Z.S (List (κ × α))} {mk : M Z.S κ} (hk : JE Z Γ a mk (.fz kt.rp)) (hd : JE Z Γ b md (.fz (rD kt r))) (hm : behindInMarks .In b = false := by rfl) : JE Z Γ (.Compare a [.In] [b] pos) (bnd mk fun k => bnd md fun d => ret (dhas d k)) (.fz rB) := by
  refine ⟨PE.imp (pe_cmp (pc_din (by omega) hk.pe hd.pe) hm) fun σ H Q ⟨s, G, B, st, q⟩ => ?_⟩
  refine tE.imp (tE_bnd (ρ := .fz kt.rp) st q) ?_
  rintro v H1 ⟨k, s1, G1, B1, g1, st1, hx, q1⟩
  refine tE.imp (tE_bnd (ρ := .fz (rD kt r)) st1 q1) ?_
  rintro w H2 ⟨d, s2, G2, B2, g2, st2, hy, q2⟩
  obtain ⟨p, o, rfl, hg, z⟩ := dget_of st2.ok.gh hy ((kt.rp k).mono g2 hx)
  refine ⟨p, o, rfl, hg, ?_⟩
  rcases z with ⟨z1, rfl⟩ | ⟨x', u, z1, rfl, z3⟩
  · exact fin q2 st2 (by unfold dhas; rw [z1]; rfl)
  · exact fin q2 st2 (by unfold dhas; rw [z1]; rfl)
theorem jt_din {r : Rp α} (hu : Z.X.A.units + 65 < cLine) {md : M Z.S (List (κ × α))} {mk : M Z.S κ} (hk : JE Z Γ a mk (.fz kt.rp)) (hd : JE Z Γ b md (.fz (rD kt r))) (hm : behindInMarks .In b = false := by rfl) : JT Z Γ (.Compare a [.In] [b] pos) (bnd mk fun k => bnd md fun d => ret (dhas d k)) := by
  refine ⟨PT.imp (pt_cmp (pc_din (by omega) hk.pe hd.pe) hm) fun σ H Q ⟨s, G, B, st, q⟩ => ?_⟩
  refine tE.imp (tE_bndT (ρ := .fz kt.rp) st q) ?_
  rintro v H1 ⟨k, s1, G1, B1, g1, st1, hx, q1⟩
  refine tE.imp (tE_bndT (ρ := .fz (rD kt r)) st1 q1) ?_
  rintro w H2 ⟨d, s2, G2, B2, g2, st2, hy, q2⟩
  obtain ⟨p, o, rfl, hg, z⟩ := dget_of st2.ok.gh hy ((kt.rp k).mono g2 hx)
  refine ⟨p, o, rfl, hg, dhas d k, ?_, q2 H2 G2 B2 (Same.refl _) st2⟩
  rcases z with ⟨z1, rfl⟩ | ⟨x', u, z1, rfl, z3⟩
  · unfold dhas; rw [z1]; rfl
  · unfold dhas; rw [z1]; rfl
theorem je_dnin {r : Rp α} (hu : Z.X.A.units + 65 < cLine) {md : M Z.S (List (κ × α))} {mk : M Z.S κ} (hk : JE Z Γ a mk (.fz kt.rp)) (hd : JE Z Γ b md (.fz (rD kt r))) (hm : behindInMarks .NotIn b = false := by rfl) : JE Z Γ (.Compare a [.NotIn] [b] pos) (bnd mk fun k => bnd md fun d => ret (!dhas d k)) (.fz rB) := by
  refine ⟨PE.imp (pe_cmp (pc_dnotin (by omega) hk.pe hd.pe) hm) fun σ H Q ⟨s, G, B, st, q⟩ => ?_⟩
  refine tE.imp (tE_bnd (ρ := .fz kt.rp) st q) ?_
  rintro v H1 ⟨k, s1, G1, B1, g1, st1, hx, q1⟩
  refine tE.imp (tE_bnd (ρ := .fz (rD kt r)) st1 q1) ?_
  rintro w H2 ⟨d, s2, G2, B2, g2, st2, hy, q2⟩
  obtain ⟨p, o, rfl, hg, z⟩ := dget_of st2.ok.gh hy ((kt.rp k).mono g2 hx)
  refine ⟨p, o, rfl, hg, ?_⟩
  rcases z with ⟨z1, rfl⟩ | ⟨x', u, z1, rfl, z3⟩
  · exact fin q2 st2 (by unfold dhas; rw [z1]; rfl)
  · exact fin q2 st2 (by unfold dhas; rw [z1]; rfl)
theorem jt_dnin {r : Rp α} (hu : Z.X.A.units + 65 < cLine) {md : M Z.S (List (κ × α))} {mk : M Z.S κ} (hk : JE Z Γ a mk (.fz kt.rp)) (hd : JE Z Γ b md (.fz (rD kt r))) (hm : behindInMarks .NotIn b = false := by rfl) : JT Z Γ (.Compare a [.NotIn] [b] pos) (bnd mk fun k => bnd md fun d => ret (!dhas d k)) := by
  refine ⟨PT.imp (pt_cmp (pc_dnotin (by omega) hk.pe hd.pe) hm) fun σ H Q ⟨s, G, B, st, q⟩ => ?_⟩
  refine tE.imp (tE_bndT (ρ := .fz kt.rp) st q) ?_
  rintro v H1 ⟨k, s1, G1, B1, g1, st1, hx, q1⟩
  refine tE.imp (tE_bndT (ρ := .fz (rD kt r)) st1 q1) ?_
  rintro w H2 ⟨d, s2, G2, B2, g2, st2, hy, q2⟩
  obtain ⟨p, o, rfl, hg, z⟩ := dget_of st2.ok.gh hy ((kt.rp k).mono g2 hx)
  refine ⟨p, o, rfl, hg, !dhas d k, ?_, q2 H2 G2 B2 (Same.refl _) st2⟩
  rcases z with ⟨z1, rfl⟩ | ⟨x', u, z1, rfl, z3⟩
  · unfold dhas; rw [z1]; rfl
  · unfold dhas; rw [z1]; rfl
/-- dict(d): a copy -/
theorem call_dict_copy {X : Cx} : CallR X (.type "dict") (fun xs H Q => ∃ p kvs, xs = [.ref p] ∧ Rd H p (.dK kvs) ∧ ∀ q, H q = none → Q (.ref q) (upd H q (.dK kvs))) := by
  intro pins s σ H xs us Q I r h
  obtain ⟨p, kvs, rfl, hp, q⟩ := h
  obtain ⟨u, rfl, ru⟩ := vals1 r
  cases ru
  exact d_copyOf I hp fun p2 s' n I' => ⟨.ref p2, _, I', rfl, q p2 n⟩
theorem je_dictD {p : Pos} {r : Rp α} {m : M Z.S (List (κ × α))} (hg : Gl Z.X "dict") (hm : Z.X.mg "dict" = none) (h : JE Z Γ e m (.fz (rD kt r))) (he : starEach [e] Z.X.env = (false, eval e Z.X.env) :: starEach [] Z.X.env := by exact star_of rfl) : JE Z Γ (.Call (.Name "dict" p) [e] [] pos) (bnd m fun d => ret d) (.own (cD kt r)) :=
  je_ct (fun x : List (κ × α) × Unit => ret x.1) (.own (cD kt r)) call_dict_copy hg hm (by decide +kernel) (ja_cons h ja_nil he) (fun x vs s G B σ H Q st hx q => by
    obtain ⟨v, rfl, a, od, ws, rfl, ha, hw⟩ := ra1 hx
    exact ⟨a, ws, rfl, .inr ⟨od, st.ok.gh _ _ ha⟩, fun l nl => q _ _ G B (Same.refl _) (st.laid nl) (st.own nl ⟨_, rfl, hw⟩)⟩) (he := he)
/-- list(d) -/
theorem call_list_rd {X : Cx} (hc : X.calm = true) : CallR X (.type "list") (fun xs H Q => ∃ p kvs, xs = [.ref p] ∧ Rd H p (.dK kvs) ∧ ∀ q, H q = none → Q (.ref q) (upd H q (.lst (kvs.map fun kv => kV kv.1)))) := by
  intro pins s σ H xs us Q I r h
  obtain ⟨p, kvs, e, hk, q⟩ := h
  subst e
  obtain ⟨u, eu, rx⟩ := vals1 r
  subst eu
  obtain rfl : u = Value.ref p := rx
  obtain ⟨z, lo, vs, rk, hd⟩ := (show ObjOk X.prog X.w H s.heap p (.dK kvs) from hk.ok I.hok)
  obtain ⟨ep, hat⟩ := hd.dictAt
  have hl : kvs.length = vs.length := Paired.length rk
  refine PySem.W.kdl_call (PySem.W.kdl_dict (knd := mixKind X.prog X.w) (kvs := vs) (ep := ep) lo) (I.ok.hd hc) hat (by rw [← hl]; exact z) fun h' tk acc' c' hkeep hS hacc => ?_
  refine ⟨.ref s.heap.objs.size, upd H s.heap.objs.size (.lst (kvs.map fun kv => kV kv.1)), I.laid hkeep (Nat.le_refl _) (show ObjOk X.prog X.w _ _ _ (.lst (kvs.map fun kv => kV kv.1)) from ⟨?_, acc'.toList, c', ?_, ?_⟩), rfl, q _ (I.hok.fresh (Nat.le_refl _))⟩
  · rw [List.length_map]; exact z
  · have el : acc'.toList.length = acc'.size := by simp
    refine vals_of_at (by rw [List.length_map, el, hacc.1, hl]) fun j x w h1 h2 => ?_
    obtain ⟨k, y, hky, hi⟩ := hacc.2 j w (by rw [← Array.getElem?_toList]; exact h2)
    have e1 : (kvs.map (·.1))[j]? = some k := by
      rw [KV.keys rk, List.getElem?_map, hky] <;> rfl
    have e2 : (kvs.map fun kv => kV kv.1)[j]? = some (kV k) := by
      have e3 : (kvs.map fun kv => kV kv.1) = (kvs.map (·.1)).map kV := by rw [List.map_map] <;> rfl
      rw [e3, List.getElem?_map, e1] <;> rfl
    rw [e2] at h1
    cases h1
    exact keyIs_rel hi
  · rw [Array.toArray_toList]; exact hS
theorem AllD.keys {r : Rp α} {G : Hp} : ∀ {vs : List (Key × V)} {xs : List (κ × α)}, AllD kt r G vs xs → AllP kt.rp G (vs.map fun kv => kV kv.1) (xs.map (·.1))
  | _, _, .nil => .nil
  | _, _, .cons h t => .cons (show kV _ = kV _ by rw [h.1]) (AllD.keys t)
theorem AllD.vals {r : Rp α} {G : Hp} : ∀ {vs : List (Key × V)} {xs : List (κ × α)}, AllD kt r G vs xs → AllP r G (vs.map (·.2)) (xs.map (·.2))
  | _, _, .nil => .nil
  | _, _, .cons h t => .cons h.2 (AllD.vals t)
theorem je_listD (z : ZOk Z) {p : Pos} {r : Rp α} {m : M Z.S (List (κ × α))} (hg : Gl Z.X "list") (hm : Z.X.mg "list" = none) (h : JE Z Γ e m (.fz (rD kt r))) (he : starEach [e] Z.X.env = (false, eval e Z.X.env) :: starEach [] Z.X.env := by exact star_of rfl) : JE Z Γ (.Call (.Name "list" p) [e] [] pos) (bnd m fun d => ret (d.map (·.1))) (.own (cL kt.rp)) :=
  je_ct (fun x : List (κ × α) × Unit => ret (x.1.map (·.1))) (.own (cL kt.rp)) (call_list_rd z.calm) hg hm (by decide +kernel) (ja_cons h ja_nil he) (fun x vs s G B σ H Q st hx q => by
    obtain ⟨v, rfl, a, od, ws, rfl, ha, hw⟩ := ra1 hx
    exact ⟨a, ws, rfl, .inr ⟨od, st.ok.gh _ _ ha⟩, fun l nl => q _ _ G B (Same.refl _) (st.laid nl) (st.own nl ⟨_, rfl, hw.keys⟩)⟩) (he := he)
/-! ### what is walked -/
def YI {α : Type} (xs : List α) (r : Rp α) (G : Hp) : Nat → Hp → V → Hp → Prop := fun i H v H' => ∃ x, xs[i]? = some x ∧ ((H' = H ∧ (r x).p v G) ∨ ∃ T vs, v = .ref T ∧ H T = none ∧ H' = upd H T (.tup vs) ∧ ∀ G', Same G G' → G' T = some (.tup vs) → (r x).p v G')
def WalkI {α : Type} (J : It) (xs : List α) (r : Rp α) (G : Hp) : Prop := Walk J xs.length (fun H => Same G H) (YI xs r G)
def PostI (Z : Zc) (Γ : Ctx) (r : Rp α) (σ : St) (R : It → Hp → Prop) (G : Hp) : Out Z.S (List α) → Prop
  | .ok xs s' => ∀ J H' G' B', Same G G' → Sta Z Γ s' G' B' σ H' → WalkI J xs r G' → R J H'
  | .err e s' => ∀ cls d σ' H' G' B', Same G G' → Sta Z [] s' G' B' σ' H' → errIs Z.X.mg e cls d G' → Z.W cls d σ' H'
  | .stuck => False
  | .all av g => ∀ a, a ∉ av → PostI Z Γ r σ R G (g a)
structure JI (Z : Zc) (Γ : Ctx) (tg iter : Expr) {α : Type} (m : M Z.S (List α)) (r : Rp α) : Prop where
  ex : ∃ wi : TI, PI Z.X tg iter wi ∧ ∀ {s : Z.S} {G B : Hp} {σ : St} {H : Hp} {R : It → Hp → Prop}, Sta Z Γ s G B σ H → PostI Z Γ r σ R G (m s) → wi σ H R
variable {tg : Expr}
/-- by a thing that is evaluated first -/
theorem ji_of {iter : Expr} {wi : TE → TI} {m : M Z.S β} {rb : Rp β} (f : β → M Z.S (List α)) {r : Rp α} (h : JE Z Γ e m (.fz rb)) (hp : ∀ t, PE Z.X e t → PI Z.X tg iter (wi t)) (hw : ∀ t σ H R, wi t σ H R = t σ H fun v H1 => wi (fun _ H2 Q2 => Q2 v H2) σ H1 R)
    (hq : ∀ x v s G B σ H R, Sta Z Γ s G B σ H → (rb x).p v G → PostI Z Γ r σ R G (f x s) → wi (fun _ H2 Q2 => Q2 v H2) σ H R) : JI Z Γ tg iter (bnd m f) r := by
  refine ⟨wi _, hp _ h.pe, fun {s G B σ H R} st q => ?_⟩
  rw [hw]
  refine ⟨s, G, B, st, ?_⟩
  have q : PostI Z Γ r σ R G ((m s).bnd f) := q
  revert q
  induction m s with
  | ok x s1 =>
    intro q v H1 G1 B1 g1 st1 hx
    refine hq x v s1 G1 B1 σ H1 R st1 hx ?_
    revert q
    show PostI Z Γ r σ R G (f x s1) → PostI Z Γ r σ R G1 (f x s1)
    induction f x s1 with
    | ok y s2 => exact fun q J H' G' B' g => q J H' G' B' (g1.trans g)
    | err y s2 => exact fun q cls d σ' H' G' B' g => q cls d σ' H' G' B' (g1.trans g)
    | stuck => exact fun q => q
    | all av o9 ih9 => exact fun q a9 h9 => ih9 a9 (q a9 h9)
  | err x s1 => exact fun q => q
  | stuck => exact fun q => q
  | all av o9 ih9 => exact fun q a9 h9 => ih9 a9 (q a9 h9)
theorem finI {xs : List α} {r : Rp α} {s : Z.S} {G B : Hp} {σ : St} {H : Hp} {R : It → Hp → Prop} (q : PostI Z Γ r σ R G (ret xs s)) (st : Sta Z Γ s G B σ H) {J : It} (w : WalkI J xs r G) : R J H := q J H G B (Same.refl _) st w
theorem walkI_list {r : Rp α} {G : Hp} {p : Addr} {vs : List V} {xs : List α} (K : PySem.W.Frag) (hp : SqL K G p vs) (hv : AllP r G vs xs) : WalkI (Itl K p) xs r G := by
  unfold WalkI
  rw [← hv.length]
  refine Walk.mono walk_list (fun H g => Same.seq g hp) fun i H x H' hi g ⟨e, hx⟩ => ?_
  obtain ⟨y, h1, h2⟩ := hv.get' hx
  exact ⟨y, h1, .inl ⟨e, h2⟩⟩
theorem ji_list {r : Rp α} {m : M Z.S (List α)} (h : JE Z Γ e m (.fz (rL r))) : JI Z Γ tg e (bnd m fun xs => ret xs) r :=
  ji_of (wi := iList Z.X.K) (fun xs => ret xs) h (fun _ p => pi_list p) (fun _ _ _ _ => rfl) fun xs v s G B σ H R st ⟨p, vs, ev, hp, hv⟩ q =>
    ⟨p, ev, ⟨vs, SqL.of (st.ok.gh _ _ hp)⟩, finI q st (walkI_list _ (SqL.of hp) hv)⟩
theorem ji_tup2 {r : Rp α} {m : M Z.S (α × α)} (h : JE Z Γ e m (.fz (rT2 Z.X.K r r))) : JI Z Γ tg e (bnd m fun t => ret [t.1, t.2]) r :=
  ji_of (wi := iTup Z.X.K) (fun t : α × α => ret [t.1, t.2]) h (fun _ p => pi_tup p) (fun _ _ _ _ => rfl) fun t v s G B σ H R st ⟨p, u1, u2, ev, hp, h1, h2⟩ q => by
    refine ⟨p, ev, ⟨_, Same.sqT st.ok.gh hp⟩, finI q st ?_⟩
    have hv : AllP r G [u1, u2] [t.1, t.2] := .cons h1 (.cons h2 .nil)
    refine Walk.mono (walk_tup (xs := [u1, u2])) (fun H g => Same.sqT g hp) fun i H x H' hi g ⟨e, hx⟩ => ?_
    obtain ⟨y, h1, h2⟩ := hv.get' hx
    exact ⟨y, h1, .inl ⟨e, h2⟩⟩
/-- range(n) -/
def rangeM {S : Type} (lo hi : Int) : M S (List Int) := bnd (grd (decide (-(2 ^ 62) ≤ lo) && decide (lo < 2 ^ 62) && decide (-(2 ^ 62) ≤ hi) && decide (hi < 2 ^ 62))) fun _ => ret ((List.range (hi - lo).toNat).map fun (i : Nat) => lo + (i : Int))
theorem walkI_range {G : Hp} (lo : Int) (n : Nat) : WalkI (Itr lo n) ((List.range n).map fun (i : Nat) => lo + (i : Int)) rI G := by
  unfold WalkI
  rw [List.length_map, List.length_range]
  refine Walk.mono walk_range (fun H g => trivial) fun i H x H' hi g ⟨e, hx⟩ => ?_
  exact ⟨lo + (i : Int), by rw [List.getElem?_map, List.getElem?_range hi]; rfl, .inl ⟨e, hx⟩⟩
theorem grd_ofI {b : Bool} {f : Unit → M Z.S (List α)} {r : Rp α} {s : Z.S} {G : Hp} {σ : St} {R : It → Hp → Prop} (q : PostI Z Γ r σ R G (bnd (grd b) f s)) : b = true ∧ PostI Z Γ r σ R G (f () s) := by
  cases b with
  | true => exact ⟨rfl, q⟩
  | false => exact q.elim
theorem ji_range1 {p : Pos} {m : M Z.S Int} (hg : Gl Z.X "range") (hm : Z.X.mg "range" = none) (h : JE Z Γ e m (.fz rI)) (hs : starEach [e] Z.X.env = [(false, eval e Z.X.env)] := by exact star_of rfl) : JI Z Γ tg (.Call (.Name "range" p) [e] [] pos) (bnd m fun n => rangeM 0 n) rI :=
  ji_of (wi := fun t => iRng1 (tCons t tNil)) (fun n => rangeM 0 n) h (fun _ p => pi_range1 hg hm (pa_cons p pa_nil hs) hs) (fun _ _ _ _ => rfl) fun n v s G B σ H R st (hv : v = .int n) q => by
    obtain ⟨c, q⟩ := grd_ofI q
    simp only [Bool.and_eq_true, decide_eq_true_eq] at c
    have q2 : PostI Z Γ rI σ R G (ret ((List.range n.toNat).map fun (i : Nat) => (0 : Int) + (i : Int)) s) := by
      have e : (n - 0).toNat = n.toNat := by rw [Int.sub_zero]
      rw [← e]
      exact q
    exact ⟨n, by rw [hv], c.1.2, c.2, finI q2 st (walkI_range 0 n.toNat)⟩
theorem ji_keys {r : Rp α} {m : M Z.S (List (κ × α))} (h : JE Z Γ e m (.fz (rD kt r))) : JI Z Γ tg e (bnd m fun d => ret (d.map (·.1))) kt.rp :=
  ji_of (wi := iKeys) (fun d : List (κ × α) => ret (d.map (·.1))) h (fun _ p => pi_keys p) (fun _ _ _ _ => rfl) fun d v s G B σ H R st ⟨p, od, vs, ev, hp, hv⟩ q => by
    refine ⟨p, od, ev, .inl ⟨vs, st.ok.gh _ _ hp, finI q st ?_⟩⟩
    unfold WalkI
    rw [List.length_map, ← hv.length]
    refine Walk.mono walk_keys (fun H g => g _ _ hp) fun i H x H' hi g ⟨e, k, w, h1, h2⟩ => ?_
    have h3 : (vs.map fun kv => kV kv.1)[i]? = some x := by rw [List.getElem?_map, h1, h2]; rfl
    obtain ⟨y, h4, h5⟩ := (AllD.keys hv).get' h3
    exact ⟨y, h4, .inl ⟨e, h5⟩⟩
theorem ji_values {apos : Pos} {r : Rp α} {m : M Z.S (List (κ × α))} (h : JE Z Γ e m (.fz (rD kt r))) (hbase : attributeBase e "values" Z.X.env (eval e Z.X.env) = eval e Z.X.env := by rfl) (hline : (apos.endLine == pos.line) = true := by rfl) : JI Z Γ tg (.Call (.Attribute e "values" apos) [] [] pos) (bnd m fun d => ret (d.map (·.2))) r :=
  ji_of (wi := iVals) (fun d : List (κ × α) => ret (d.map (·.2))) h (fun _ p => pi_values p hbase hline) (fun _ _ _ _ => rfl) fun d v s G B σ H R st ⟨p, od, vs, ev, hp, hv⟩ q => by
    refine ⟨p, od, vs, ev, st.ok.gh _ _ hp, finI q st ?_⟩
    unfold WalkI
    rw [List.length_map, ← hv.length]
    refine Walk.mono walk_values (fun H g => g _ _ hp) fun i H x H' hi g ⟨e, k, h1⟩ => ?_
    have h3 : (vs.map (·.2))[i]? = some x := by rw [List.getElem?_map, h1]; rfl
    obtain ⟨y, h4, h5⟩ := (AllD.vals hv).get' h3
    exact ⟨y, h4, .inl ⟨e, h5⟩⟩
theorem AllD.at {r : Rp α} {G : Hp} : ∀ {vs : List (Key × V)} {xs : List (κ × α)} {i : Nat} {p : Key × V}, AllD kt r G vs xs → vs[i]? = some p → ∃ x, xs[i]? = some x ∧ p.1 = kt.f x.1 ∧ (r x.2).p p.2 G
  | _, _, _, _, .nil, e => by simp at e
  | _, _, 0, _, .cons h _, e => by simp at e; subst e; exact ⟨_, rfl, h.1, h.2⟩
  | _, _, i + 1, p, .cons _ t, e => by
    obtain ⟨x, h1, h2⟩ := AllD.at (i := i) (p := p) t (by simpa using e)
    exact ⟨x, by simpa using h1, h2⟩
theorem ji_items {elts : List Expr} {kk : _} {tpos : Pos} {apos : Pos} {r : Rp α} {m : M Z.S (List (κ × α))} (h : JE Z Γ e m (.fz (rD kt r))) (hbase : attributeBase e "items" Z.X.env (eval e Z.X.env) = eval e Z.X.env := by rfl) (hline : (apos.endLine == pos.line) = true := by rfl) : JI Z Γ (.Tuple elts kk tpos) (.Call (.Attribute e "items" apos) [] [] pos) (bnd m fun d => ret d) (rT2 Z.X.K kt.rp r) :=
  ji_of (wi := iItems) (fun d : List (κ × α) => ret d) h (fun _ p => pi_items p hbase hline) (fun _ _ _ _ => rfl) fun d v s G B σ H R st ⟨p, od, vs, ev, hp, hv⟩ q => by
    refine ⟨p, od, vs, ev, st.ok.gh _ _ hp, finI q st ?_⟩
    unfold WalkI
    rw [← hv.length]
    refine Walk.mono walk_items (fun H g => g _ _ hp) fun i H x H' hi g ⟨T, y, w, h1, h2, h3, h4, h5⟩ => ?_
    dsimp only at h4 h5
    cases hvi : vs[i]? with
    | none =>
      rw [hvi] at h4
      cases h4
    | some kv =>
      rw [hvi] at h4 h5
      obtain ⟨z, h6, h7, h8⟩ := AllD.at hv hvi
      refine ⟨z, h6, .inr ⟨T, [y, w], h1, h2, h3, fun G' g' hT => ⟨T, y, w, h1, SqT.of hT, ?_, ?_⟩⟩⟩
      · have e4 : kV kv.1 = y := Option.some.inj h4
        show y = kV (kt.f z.1)
        rw [← e4, h7]
      · have e5 : kv.2 = w := Option.some.inj h5
        rw [← e5]
        exact (r z.2).mono g' h8
/-- zip of a tuple of two and a tuple of two: not here; a text, sign by sign -/
theorem ji_str {m : M Z.S Str} (h : JE Z Γ e m (.fz rS)) : JI Z Γ tg e (bnd m fun z => ret (z.cps.toList.map fun c => (⟨#[c]⟩ : Str))) rS :=
  ji_of (wi := iStr) (fun z : Str => ret (z.cps.toList.map fun c => (⟨#[c]⟩ : Str))) h (fun _ p => pi_str p) (fun _ _ _ _ => rfl) fun z v s G B σ H R st (hv : v = .str z) q => by
    refine ⟨z, hv, finI q st ?_⟩
    unfold WalkI
    rw [List.length_map, Array.length_toList]
    refine Walk.mono walk_str (fun H g => trivial) fun i H x H' hi g ⟨e, c, h1, h2⟩ => ?_
    refine ⟨⟨#[c]⟩, ?_, .inl ⟨e, h2⟩⟩
    rw [List.getElem?_map, Array.getElem?_toList, h1]
    rfl
end
end DL
set_option Elab.async false
set_option linter.all false
set_option maxRecDepth 100000
namespace DL
open PySem L2
section
variable {Z : Zc} {Γ : Ctx} {α β γ T U ρ : Type} {e a b c : Expr} {es : List Expr} {pos : Pos} {Γ' : T → Ctx} {Γb : U → Ctx} {ρr : Res ρ} {rest : List Stmt}
/-! ### blocks -/
/-- the end of a block -/
theorem jb_nil {t : T} (l : Le Γ (Γ' t)) : JB Z Γ [] (ret (Fl.nx t : Fl T U ρ)) Γ' Γb ρr :=
  ⟨PSs.imp pss_nil fun D σ H ⟨s, G, B, st, q⟩ => q σ H G B (Same.refl _) (st.weak l)⟩
/-- a statement, then the rest: the rest's mirror behind each of its ends -/
def Fl.go {S T T1 U ρ : Type} (f : T1 → M S (Fl T U ρ)) : Fl T1 U ρ → M S (Fl T U ρ)
  | .nx t => f t
  | .rt r => ret (.rt r)
  | .bk u => ret (.bk u)
  | .ct u => ret (.ct u)
def thenB {S T T1 U ρ : Type} (m : M S (Fl T1 U ρ)) (f : T1 → M S (Fl T U ρ)) : M S (Fl T U ρ) := bnd m (Fl.go f)
theorem jb_seq {st : Stmt} {T1 : Type} {Γ1 : T1 → Ctx} {m : M Z.S (Fl T1 U ρ)} {f : T1 → M Z.S (Fl T U ρ)} (h : JS Z Γ st m Γ1 Γb ρr) (hr : ∀ t, JB Z (Γ1 t) rest (f t) Γ' Γb ρr) : JB Z Γ (st :: rest) (thenB m f) Γ' Γb ρr := by
  refine ⟨⟨fun pins s0 σ H D I ⟨s, G, B, sta, q⟩ => ?_⟩⟩
  have q : PostB Z Γ' Γb ρr D G ((m s).bnd (Fl.go f)) := q
  refine wpAny_execs_cons (thn (h.ps.run pins s0 σ H { D with nx := fun σ' H' => ∃ t, (tS Z (Γ1 t) (f t) Γ' Γb ρr) D σ' H' } I ⟨s, G, B, sta, ?_⟩) fun fl s1 hq => ?_)
  · revert q
    induction m s with
    | ok x s1 =>
      cases x with
      | nx t => exact fun q σ' H' G' B' g st' => ⟨t, s1, G', B', st', PostB.mono g q⟩
      | rt r => exact fun q => q
      | bk u => exact fun q => q
      | ct u => exact fun q => q
    | err x s1 => exact fun q => q
    | stuck => exact fun q => q
    | all av o9 ih9 => exact fun q a9 h9 => ih9 a9 (q a9 h9)
  · cases fl with
    | next =>
      obtain ⟨σ', H', I', t, z⟩ := hq
      exact (hr t).ps.run pins s1 σ' H' D I' z
    | ret v => exact hq
    | brk => exact hq
    | cont => exact hq
theorem jb_one {st : Stmt} {m : M Z.S (Fl T U ρ)} (h : JS Z Γ st m Γ' Γb ρr) : JB Z Γ [st] m Γ' Γb ρr := ⟨pss_one h.ps⟩
/-- less is known ahead -/
theorem JB.weak {sts : List Stmt} {Γ0 : Ctx} {m : M Z.S (Fl T U ρ)} (h : JB Z Γ sts m Γ' Γb ρr) (l : Le Γ0 Γ) : JB Z Γ0 sts m Γ' Γb ρr := ⟨PSs.imp h.ps fun D σ H ⟨s, G, B, st, q⟩ => ⟨s, G, B, st.weak l, q⟩⟩
/-! ### blocks that do not fall through -/
def Out.noNx {S T U ρ : Type} : Out S (Fl T U ρ) → Prop
  | .ok (.nx _) _ => False
  | .ok _ _ => True
  | .err _ _ => True
  | .stuck => True
  | .all _ g => ∀ a, (g a).noNx
def NoNx {S T U ρ : Type} (m : M S (Fl T U ρ)) : Prop := ∀ s, (m s).noNx
theorem nn_rt {S T U ρ : Type} {r : ρ} : NoNx (ret (.rt r) : M S (Fl T U ρ)) := fun s => True.intro
theorem nn_bk {S T U ρ : Type} {u : U} : NoNx (ret (.bk u) : M S (Fl T U ρ)) := fun s => True.intro
theorem nn_ct {S T U ρ : Type} {u : U} : NoNx (ret (.ct u) : M S (Fl T U ρ)) := fun s => True.intro
theorem nn_rse {S T U ρ : Type} {e : Er} : NoNx (rse e : M S (Fl T U ρ)) := fun s => True.intro
theorem nn_stk {S T U ρ : Type} : NoNx (stk : M S (Fl T U ρ)) := fun s => True.intro
theorem nn_bnd {S α T U ρ : Type} {m : M S α} {f : α → M S (Fl T U ρ)} (h : ∀ a, NoNx (f a)) : NoNx (bnd m f) := fun s => by
  show ((m s).bnd f).noNx
  induction m s with
  | ok a s1 => exact h a s1
  | err a s1 => exact True.intro
  | stuck => exact True.intro
  | all av o9 ih9 => exact fun a => ih9 a
theorem nn_if {S T U ρ : Type} {c : Bool} {a b : M S (Fl T U ρ)} (h1 : NoNx a) (h2 : NoNx b) : NoNx (if c then a else b) := by
  cases c
  · exact h2
  · exact h1
theorem nn_then {S T1 T U ρ : Type} {m : M S (Fl T1 U ρ)} {f : T1 → M S (Fl T U ρ)} (h : ∀ t, NoNx (f t)) : NoNx (thenB m f) := nn_bnd fun fl => by
  cases fl with
  | nx t => exact h t
  | rt r => exact nn_rt
  | bk u => exact nn_bk
  | ct u => exact nn_ct
/-- the mirror by another name -/
theorem JB.eq {sts : List Stmt} {m m' : M Z.S (Fl T U ρ)} (h : JB Z Γ sts m Γ' Γb ρr) (e : m = m') : JB Z Γ sts m' Γ' Γb ρr := e ▸ h
/-! ### simple statements ahead of a rest -/
/-- x = e -/
theorem jb_set {i : Nat} {x : Str} {pos' : Pos} {r : Rp α} {m : M Z.S α} {f : α → M Z.S (Fl T U ρ)} (z : ZOk Z) (hi : Z.X.N[i]? = some x) (hx : Loc Z.X.env.scope x) (he : JE Z Γ e m (.fz r)) (hr : ∀ v, JB Z (Γ.set i (some (.fz (r v)))) rest (f v) Γ' Γb ρr) (hk : i < Γ.length := by exact Nat.le_of_ble_eq_true rfl) (hE : NoE Z.E i := by first | exact NoE.nil | exact NoE.one)
    (hs : swapsWith e (some (.Name x pos')) pos.line Z.X.env = pure false := by rfl) (hf : Z.X.fn x = true ∨ Z.X.env.scope.names.lookup x = some .local := by first | exact .inl rfl | exact .inr rfl) : JB Z Γ (.Assign [.Name x pos'] e pos :: rest) (bnd m f) Γ' Γb ρr := by
  refine ⟨⟨fun pins s0 σ H D I ⟨s, G, B, sta, q⟩ => ?_⟩⟩
  refine wpAny_execs_cons (thn ((ps_set z.nd hi hx he.pe hs hf).run pins s0 σ H { D with nx := fun σ' H' => ∃ v, (tS Z (Γ.set i (some (.fz (r v)))) (f v) Γ' Γb ρr) D σ' H' } I ?_) fun fl s1 hq => ?_)
  · refine tE.imp (tE_bndB (ρ := .fz r) sta q) ?_
    rintro v H1 ⟨y, s1, G1, B1, g1, st1, hy, q1⟩
    exact ⟨y, s1, G1, B1, st1.set hk hE hy, q1⟩
  · cases fl with
    | next =>
      obtain ⟨σ', H', I', v, zz⟩ := hq
      exact (hr v).ps.run pins s1 σ' H' D I' zz
    | ret v => exact hq
    | brk => exact hq
    | cont => exact hq
/-- x = e, a new thing of one's own -/
theorem jb_setO {i : Nat} {x : Str} {pos' : Pos} {c : α → MP HO} {m : M Z.S α} {f : α → M Z.S (Fl T U ρ)} (z : ZOk Z) (hi : Z.X.N[i]? = some x) (hx : Loc Z.X.env.scope x) (he : JE Z Γ e m (.own c)) (hr : ∀ v, JB Z (Γ.set i (some (.lv (c v)))) rest (f v) Γ' Γb ρr) (hk : i < Γ.length := by exact Nat.le_of_ble_eq_true rfl) (hE : NoE Z.E i := by first | exact NoE.nil | exact NoE.one)
    (hs : swapsWith e (some (.Name x pos')) pos.line Z.X.env = pure false := by rfl) (hf : Z.X.fn x = true ∨ Z.X.env.scope.names.lookup x = some .local := by first | exact .inl rfl | exact .inr rfl) : JB Z Γ (.Assign [.Name x pos'] e pos :: rest) (bnd m f) Γ' Γb ρr := by
  refine ⟨⟨fun pins s0 σ H D I ⟨s, G, B, sta, q⟩ => ?_⟩⟩
  refine wpAny_execs_cons (thn ((ps_set z.nd hi hx he.pe hs hf).run pins s0 σ H { D with nx := fun σ' H' => ∃ v, (tS Z (Γ.set i (some (.lv (c v)))) (f v) Γ' Γb ρr) D σ' H' } I ?_) fun fl s1 hq => ?_)
  · refine tE.imp (tE_bndB (ρ := .own c) sta q) ?_
    rintro v H1 ⟨y, s1, G1, B1, g1, st1, hy, q1⟩
    exact ⟨y, s1, G1, B1, st1.setO hk hE hy, q1⟩
  · cases fl with
    | next =>
      obtain ⟨σ', H', I', v, zz⟩ := hq
      exact (hr v).ps.run pins s1 σ' H' D I' zz
    | ret v => exact hq
    | brk => exact hq
    | cont => exact hq
/-- return e -/
theorem js_ret {m : M Z.S ρ} {r : Rp ρ} (he : JE Z Γ e m (.fz r)) : JS Z Γ (.Return (some e) pos) (bnd m fun v => ret (Fl.rt v : Fl T U ρ)) Γ' Γb (.fz r) :=
  ⟨PS.imp (ps_ret he.pe) fun D σ H ⟨s, G, B, st, q⟩ => by
    refine tE.imp (tE_bndB (ρ := .fz r) st q) ?_
    rintro v H1 ⟨y, s1, G1, B1, g1, st1, hy, q1⟩
    exact q1 v σ H1 G1 B1 (Same.refl _) st1.nil hy⟩
theorem js_retO {m : M Z.S ρ} {c : ρ → MP HO} (he : JE Z Γ e m (.own c)) : JS Z Γ (.Return (some e) pos) (bnd m fun v => ret (Fl.rt v : Fl T U ρ)) Γ' Γb (.own c) :=
  ⟨PS.imp (ps_ret he.pe) fun D σ H ⟨s, G, B, st, q⟩ => by
    refine tE.imp (tE_bndB (ρ := .own c) st q) ?_
    rintro v H1 ⟨y, s1, G1, B1, g1, st1, ⟨p, o, h1, h2, h3, h4, h5, h6, h7, h8⟩, q1⟩
    exact q1 v σ H1 G1 B1 (Same.refl _) st1.nil ⟨p, o, h1, h2, h3, h4, h5, h6, h7, fun k L z => by simp at z⟩⟩
/-- return x, x a thing of one's own -/
theorem js_retV {c : α → MP HO} {x : α} {n : Str} {pn : Pos} (k : Nat) (hk : Γ[k]? = some (some (.lv (c x)))) (hp : PE Z.X (.Name n pn) (tVar k)) : JS Z Γ (.Return (some (.Name n pn)) pos) (ret (Fl.rt x : Fl T U α)) Γ' Γb (.own c) :=
  ⟨PS.imp (ps_ret hp) fun D σ H ⟨s, G, B, st, q⟩ => by
    obtain ⟨p, o, h1, h2, h3, h4, h5, h6, h7⟩ := st.sl.lv k _ hk
    exact ⟨_, h1, q _ σ H G B (Same.refl _) st.nil ⟨p, o, rfl, h2, h3, h4, h5, h6, h7, fun k L z => by simp at z⟩⟩⟩
theorem js_retN : JS Z Γ (.Return none pos) (ret (Fl.rt () : Fl T U Unit)) Γ' Γb (.fz rU) :=
  ⟨PS.imp ps_retN fun D σ H ⟨s, G, B, st, q⟩ => q _ σ H G B (Same.refl _) st.nil rfl⟩
theorem js_pass {t : T} (l : Le Γ (Γ' t)) : JS Z Γ (.Pass pos) (ret (Fl.nx t : Fl T U ρ)) Γ' Γb ρr :=
  ⟨PS.imp ps_pass fun D σ H ⟨s, G, B, st, q⟩ => q σ H G B (Same.refl _) (st.weak l)⟩
theorem js_break {u : U} (l : Le Γ (Γb u)) : JS Z Γ (.Break pos) (ret (Fl.bk u : Fl T U ρ)) Γ' Γb ρr :=
  ⟨PS.imp ps_break fun D σ H ⟨s, G, B, st, q⟩ => q σ H G B (Same.refl _) (st.weak l)⟩
theorem js_continue {u : U} (l : Le Γ (Γb u)) : JS Z Γ (.Continue pos) (ret (Fl.ct u : Fl T U ρ)) Γ' Γb ρr :=
  ⟨PS.imp ps_continue fun D σ H ⟨s, G, B, st, q⟩ => q σ H G B (Same.refl _) (st.weak l)⟩
/-- e; rest -/
theorem jb_expr {r : Res α} {m : M Z.S α} {f : M Z.S (Fl T U ρ)} (he : JE Z Γ e m r) (hr : JB Z Γ rest f Γ' Γb ρr) (hs : swapsWith e none pos.line Z.X.env = pure false := by rfl) : JB Z Γ (.Expr e pos :: rest) (bnd m fun _ => f) Γ' Γb ρr := by
  refine ⟨⟨fun pins s0 σ H D I ⟨s, G, B, sta, q⟩ => ?_⟩⟩
  refine wpAny_execs_cons (thn ((ps_expr he.pe hs).run pins s0 σ H { D with nx := (tS Z Γ f Γ' Γb ρr) D } I ?_) fun fl s1 hq => ?_)
  · refine tE.imp (tE_bndB (ρ := r) sta q) ?_
    rintro v H1 ⟨y, s1, G1, B1, g1, st1, hy, q1⟩
    exact ⟨s1, G1, B1, st1, q1⟩
  · cases fl with
    | next =>
      obtain ⟨σ', H', I', zz⟩ := hq
      exact hr.ps.run pins s1 σ' H' D I' zz
    | ret v => exact hq
    | brk => exact hq
    | cont => exact hq
/-- if -/
theorem js_if {sa sb : List Stmt} {mc : M Z.S Bool} {ma mb : M Z.S (Fl T U ρ)} (hc : JT Z Γ c mc) (ha : JB Z Γ sa ma Γ' Γb ρr) (hb : JB Z Γ sb mb Γ' Γb ρr) : JS Z Γ (.If c sa sb pos) (bnd mc fun x => if x then ma else mb) Γ' Γb ρr :=
  ⟨PS.imp (ps_if hc.pt ha.ps hb.ps) fun D σ H ⟨s, G, B, st, q⟩ => by
    refine tT.imp (tT_bndB st q) ?_
    rintro x H1 ⟨s1, G1, B1, g1, st1, q1⟩
    cases x with
    | true => exact ⟨s1, G1, B1, st1, q1⟩
    | false => exact ⟨s1, G1, B1, st1, q1⟩⟩
/-- if c: (a block that doesn't fall through), then the rest -/
theorem jb_ifR {sa : List Stmt} {mc : M Z.S Bool} {ma f : M Z.S (Fl T U ρ)} (hc : JT Z Γ c mc) (ha : JB Z Γ sa ma Γ' Γb ρr) (hn : NoNx ma) (hr : JB Z Γ rest f Γ' Γb ρr) : JB Z Γ (.If c sa [] pos :: rest) (bnd mc fun x => if x then ma else f) Γ' Γb ρr := by
  refine ⟨⟨fun pins s0 σ H D I ⟨s, G, B, sta, q⟩ => ?_⟩⟩
  refine wpAny_execs_cons (thn ((ps_if hc.pt ha.ps pss_nil).run pins s0 σ H { D with nx := (tS Z Γ f Γ' Γb ρr) D } I ?_) fun fl s1 hq => ?_)
  · refine tT.imp (tT_bndB sta q) ?_
    rintro x H1 ⟨s1, G1, B1, g1, st1, q1⟩
    cases x with
    | true =>
      refine ⟨s1, G1, B1, st1, ?_⟩
      have q1 : PostB Z Γ' Γb ρr D G1 (ma s1) := q1
      have hn1 := hn s1
      revert q1 hn1
      induction ma s1 with
      | ok y s2 =>
        cases y with
        | nx t => exact fun _ h9 => h9.elim
        | rt r => exact fun q1 _ => q1
        | bk u => exact fun q1 _ => q1
        | ct u => exact fun q1 _ => q1
      | err y s2 => exact fun q1 _ => q1
      | stuck => exact fun q1 _ => q1
      | all av o9 ih9 => exact fun q1 h9 a9 n9 => ih9 a9 (q1 a9 n9) (h9 a9)
    | false => exact ⟨s1, G1, B1, st1, q1⟩
  · cases fl with
    | next =>
      obtain ⟨σ', H', I', zz⟩ := hq
      exact hr.ps.run pins s1 σ' H' D I' zz
    | ret v => exact hq
    | brk => exact hq
    | cont => exact hq
/-! ### targets -/
structure JG (Z : Zc) (tg : Expr) {α : Type} (r : Rp α) (ks : List Nat) (u : α → Ctx → Ctx) (g : TG) : Prop where
  pg : PG Z.X tg g
  keep : ∀ (x : α) (Γ : Ctx) (k : Nat), k ∉ ks → (u x Γ)[k]? = Γ[k]?
  go : ∀ {Γ : Ctx} {x : α} {v : V} {s : Z.S} {G B : Hp} {σ : St} {H : Hp} {Q : St → Hp → Prop}, Sta Z Γ s G B σ H → (r x).p v G → (∀ k ∈ ks, k < Γ.length ∧ NoE Z.E k) → (∀ σ', Sta Z (u x Γ) s G B σ' H → wipe σ' ks = wipe σ ks → Q σ' H) → g v σ H Q
theorem wipe_set1 {σ : St} {k : Nat} {v : Option V} : wipe (σ.set k v) [k] = wipe σ [k] := by
  show (σ.set k v).set k none = σ.set k none
  rw [List.set_set]
theorem jg_name {i : Nat} {x : Str} {p : Pos} {r : Rp α} (nd : Z.X.N.Nodup) (hi : Z.X.N[i]? = some x) (hx : Loc Z.X.env.scope x) (hf : Z.X.fn x = true ∨ Z.X.env.scope.names.lookup x = some .local := by first | exact .inl rfl | exact .inr rfl) : JG Z (.Name x p) r [i] (fun a Γ => Γ.set i (some (.fz (r a)))) (gName i) :=
  ⟨pg_name nd hi hx hf, fun x Γ k hk => List.getElem?_set_ne (fun z => hk (by simp [z])), fun {Γ x v s G B σ H Q} st hv hk q => q _ (st.set (hk i List.mem_cons_self).1 (hk i List.mem_cons_self).2 hv) wipe_set1⟩
theorem wipe_comm {σ : St} {v : Option V} {k : Nat} : ∀ {ks : List Nat}, k ∈ ks → wipe (σ.set k v) ks = wipe σ ks := by
  intro ks
  induction ks with
  | nil => intro h; cases h
  | cons j ks ih =>
    intro h
    show (wipe (σ.set k v) ks).set j none = (wipe σ ks).set j none
    by_cases e : k ∈ ks
    · rw [ih e]
    · have e' : k = j := by
        rcases List.mem_cons.mp h with z | z
        · exact z
        · exact absurd z e
      subst e'
      have out : ∀ (l : List Nat), k ∉ l → (wipe (σ.set k v) l) = (wipe σ l).set k v := by
        intro l
        induction l with
        | nil => intro _; rfl
        | cons i l ih =>
          intro hl
          have h1 : k ≠ i := fun z => hl (by rw [z]; exact List.mem_cons_self)
          have h2 : k ∉ l := fun z => hl (List.mem_cons_of_mem _ z)
          show (wipe (σ.set k v) l).set i none = ((wipe σ l).set i none).set k v
          rw [ih h2, List.set_comm _ _ h1]
      rw [out ks e, List.set_set]
section
variable {α1 α2 α3 α4 α5 : Type} {r1 : Rp α1} {r2 : Rp α2} {r3 : Rp α3} {r4 : Rp α4} {r5 : Rp α5} {kk : _} {p1 p2 p3 p4 p5 p0 : Pos} {n1 n2 n3 n4 n5 : Str} {i1 i2 i3 i4 i5 : Nat}
/-- a local name's place -/
structure Lc (Z : Zc) (i : Nat) (x : Str) : Prop where
  hi : Z.X.N[i]? = some x
  hx : Loc Z.X.env.scope x
  hf : Z.X.fn x = true ∨ Z.X.env.scope.names.lookup x = some .local
theorem Lc.pg {i : Nat} {x : Str} {p : Pos} (l : Lc Z i x) (nd : Z.X.N.Nodup) : PG Z.X (.Name x p) (gName i) := pg_name nd l.hi l.hx l.hf
theorem jg_tup2 (z : ZOk Z) (l1 : Lc Z i1 n1) (l2 : Lc Z i2 n2) :
    JG Z (.Tuple [.Name n1 p1, .Name n2 p2] kk p0) (rT2 Z.X.K r1 r2) [i1, i2] (fun a Γ => (Γ.set i1 (some (.fz (r1 a.1)))).set i2 (some (.fz (r2 a.2)))) (gTup Z.X.K 2 (gCons (gName i1) (gCons (gName i2) gNil))) := by
  refine ⟨pg_tup z.calm (pgs_cons (l1.pg z.nd) (pgs_cons (l2.pg z.nd) pgs_nil)), fun x Γ k hk => by
    simp only [List.mem_cons, not_or, List.not_mem_nil, not_false_eq_true, and_true] at hk
    rw [List.getElem?_set_ne (Ne.symm hk.2), List.getElem?_set_ne (Ne.symm hk.1)], fun {Γ x v s G B σ H Q} st ⟨p, u1, u2, ev, hp, h1, h2⟩ hk q => ?_⟩
  refine ⟨p, _, ev, Same.sqT st.ok.gh hp, rfl, u1, _, rfl, u2, _, rfl, rfl, ?_⟩
  have k1 := hk i1 (by simp)
  have k2 := hk i2 (by simp)
  refine q _ ((st.set k1.1 k1.2 h1).set (by rw [List.length_set]; exact k2.1) k2.2 h2) ?_
  rw [wipe_comm (by simp), wipe_comm (by simp)]
theorem jg_tup3 (z : ZOk Z) (l1 : Lc Z i1 n1) (l2 : Lc Z i2 n2) (l3 : Lc Z i3 n3) :
    JG Z (.Tuple [.Name n1 p1, .Name n2 p2, .Name n3 p3] kk p0) (rT3 Z.X.K r1 r2 r3) [i1, i2, i3] (fun a Γ => (((Γ.set i1 (some (.fz (r1 (a.1))))).set i2 (some (.fz (r2 (a.2.1))))).set i3 (some (.fz (r3 (a.2.2)))))) (gTup Z.X.K 3 (gCons (gName i1) (gCons (gName i2) (gCons (gName i3) gNil)))) := by
  refine ⟨pg_tup z.calm (pgs_cons (l1.pg z.nd) (pgs_cons (l2.pg z.nd) (pgs_cons (l3.pg z.nd) pgs_nil))), fun x Γ k hk => by
    simp only [List.mem_cons, not_or, List.not_mem_nil, not_false_eq_true, and_true] at hk
    rw [List.getElem?_set_ne (Ne.symm hk.2.2), List.getElem?_set_ne (Ne.symm hk.2.1), List.getElem?_set_ne (Ne.symm hk.1)], fun {Γ x v s G B σ H Q} st ⟨p, u1, u2, u3, ev, hp, h1, h2, h3⟩ hk q => ?_⟩
  refine ⟨p, _, ev, Same.sqT st.ok.gh hp, rfl, u1, _, rfl, u2, _, rfl, u3, _, rfl, rfl, ?_⟩
  have k1 := hk i1 (by simp)
  have k2 := hk i2 (by simp)
  have k3 := hk i3 (by simp)
  refine q _ (((st.set k1.1 k1.2 h1).set (by simp only [List.length_set]; exact k2.1) k2.2 h2).set (by simp only [List.length_set]; exact k3.1) k3.2 h3) ?_
  rw [wipe_comm (by simp), wipe_comm (by simp), wipe_comm (by simp)]
theorem jg_tup4 (z : ZOk Z) (l1 : Lc Z i1 n1) (l2 : Lc Z i2 n2) (l3 : Lc Z i3 n3) (l4 : Lc Z i4 n4) :
    JG Z (.Tuple [.Name n1 p1, .Name n2 p2, .Name n3 p3, .Name n4 p4] kk p0) (rT4 Z.X.K r1 r2 r3 r4) [i1, i2, i3, i4] (fun a Γ => ((((Γ.set i1 (some (.fz (r1 (a.1))))).set i2 (some (.fz (r2 (a.2.1))))).set i3 (some (.fz (r3 (a.2.2.1))))).set i4 (some (.fz (r4 (a.2.2.2)))))) (gTup Z.X.K 4 (gCons (gName i1) (gCons (gName i2) (gCons (gName i3) (gCons (gName i4) gNil))))) := by
  refine ⟨pg_tup z.calm (pgs_cons (l1.pg z.nd) (pgs_cons (l2.pg z.nd) (pgs_cons (l3.pg z.nd) (pgs_cons (l4.pg z.nd) pgs_nil)))), fun x Γ k hk => by
    simp only [List.mem_cons, not_or, List.not_mem_nil, not_false_eq_true, and_true] at hk
    rw [List.getElem?_set_ne (Ne.symm hk.2.2.2), List.getElem?_set_ne (Ne.symm hk.2.2.1), List.getElem?_set_ne (Ne.symm hk.2.1), List.getElem?_set_ne (Ne.symm hk.1)], fun {Γ x v s G B σ H Q} st ⟨p, u1, u2, u3, u4, ev, hp, h1, h2, h3, h4⟩ hk q => ?_⟩
  refine ⟨p, _, ev, Same.sqT st.ok.gh hp, rfl, u1, _, rfl, u2, _, rfl, u3, _, rfl, u4, _, rfl, rfl, ?_⟩
  have k1 := hk i1 (by simp)
  have k2 := hk i2 (by simp)
  have k3 := hk i3 (by simp)
  have k4 := hk i4 (by simp)
  refine q _ ((((st.set k1.1 k1.2 h1).set (by simp only [List.length_set]; exact k2.1) k2.2 h2).set (by simp only [List.length_set]; exact k3.1) k3.2 h3).set (by simp only [List.length_set]; exact k4.1) k4.2 h4) ?_
  rw [wipe_comm (by simp), wipe_comm (by simp), wipe_comm (by simp), wipe_comm (by simp)]
theorem jg_tup5 (z : ZOk Z) (l1 : Lc Z i1 n1) (l2 : Lc Z i2 n2) (l3 : Lc Z i3 n3) (l4 : Lc Z i4 n4) (l5 : Lc Z i5 n5) :
    JG Z (.Tuple [.Name n1 p1, .Name n2 p2, .Name n3 p3, .Name n4 p4, .Name n5 p5] kk p0) (rT5 Z.X.K r1 r2 r3 r4 r5) [i1, i2, i3, i4, i5] (fun a Γ => (((((Γ.set i1 (some (.fz (r1 (a.1))))).set i2 (some (.fz (r2 (a.2.1))))).set i3 (some (.fz (r3 (a.2.2.1))))).set i4 (some (.fz (r4 (a.2.2.2.1))))).set i5 (some (.fz (r5 (a.2.2.2.2)))))) (gTup Z.X.K 5 (gCons (gName i1) (gCons (gName i2) (gCons (gName i3) (gCons (gName i4) (gCons (gName i5) gNil)))))) := by
  refine ⟨pg_tup z.calm (pgs_cons (l1.pg z.nd) (pgs_cons (l2.pg z.nd) (pgs_cons (l3.pg z.nd) (pgs_cons (l4.pg z.nd) (pgs_cons (l5.pg z.nd) pgs_nil))))), fun x Γ k hk => by
    simp only [List.mem_cons, not_or, List.not_mem_nil, not_false_eq_true, and_true] at hk
    rw [List.getElem?_set_ne (Ne.symm hk.2.2.2.2), List.getElem?_set_ne (Ne.symm hk.2.2.2.1), List.getElem?_set_ne (Ne.symm hk.2.2.1), List.getElem?_set_ne (Ne.symm hk.2.1), List.getElem?_set_ne (Ne.symm hk.1)], fun {Γ x v s G B σ H Q} st ⟨p, u1, u2, u3, u4, u5, ev, hp, h1, h2, h3, h4, h5⟩ hk q => ?_⟩
  refine ⟨p, _, ev, Same.sqT st.ok.gh hp, rfl, u1, _, rfl, u2, _, rfl, u3, _, rfl, u4, _, rfl, u5, _, rfl, rfl, ?_⟩
  have k1 := hk i1 (by simp)
  have k2 := hk i2 (by simp)
  have k3 := hk i3 (by simp)
  have k4 := hk i4 (by simp)
  have k5 := hk i5 (by simp)
  refine q _ (((((st.set k1.1 k1.2 h1).set (by simp only [List.length_set]; exact k2.1) k2.2 h2).set (by simp only [List.length_set]; exact k3.1) k3.2 h3).set (by simp only [List.length_set]; exact k4.1) k4.2 h4).set (by simp only [List.length_set]; exact k5.1) k5.2 h5) ?_
  rw [wipe_comm (by simp), wipe_comm (by simp), wipe_comm (by simp), wipe_comm (by simp), wipe_comm (by simp)]
end
end
end DL
set_option Elab.async false
set_option linter.all false
set_option maxRecDepth 100000
namespace DL
open PySem L2
section
variable {Z : Zc} {Γ : Ctx} {α β γ T U ρ : Type} {e a b c : Expr} {es : List Expr} {pos : Pos} {Γ' : T → Ctx} {Γb : U → Ctx} {ρr : Res ρ} {rest : List Stmt}
/-! ### a thing of one's own, read in its slot -/
theorem je_live {n : Str} {c : α → MP HO} {x : α} (k : Nat) (hk : Γ[k]? = some (some (.lv (c x)))) (hp : PE Z.X (.Name n pos) (tVar k)) : JE Z Γ (.Name n pos) (ret x) (.vw k c) :=
  JE.of_ret hp fun s G B σ H Q st q => by
    obtain ⟨p, o, h1, h2⟩ := st.sl.lv k _ hk
    exact ⟨_, h1, q _ H G B (Same.refl _) st ⟨hk, h1⟩⟩
theorem Sta.vw {s : Z.S} {G B : Hp} {σ : St} {H : Hp} {k : Nat} {c : α → MP HO} {x : α} {v : V} (st : Sta Z Γ s G B σ H) (h : Has Z Γ σ (.vw k c) x v G B H) : ∃ p o, v = .ref p ∧ H p = some o ∧ (c x).p o G := by
  obtain ⟨h1, h2⟩ := h
  obtain ⟨p, o, h3, h4, h5, _⟩ := st.sl.lv k _ h1
  rw [h2] at h3
  injection h3 with h3
  injection h3 with h3
  exact ⟨p, o, h3, h4, h5⟩
theorem je_twoV {e : Expr} {r : R2} {k : Nat} {ca : α → MP HO} {ma : M Z.S α} {mb : M Z.S β} {ρb : Rp β} (f : α → β → M Z.S γ) (ρ : Res γ) (hp : ∀ ta tb, PE Z.X a ta → PE Z.X b tb → PE Z.X e (tOp r ta tb)) (ha : JE Z Γ a ma (.vw k ca)) (hb : JE Z Γ b mb (.fz ρb))
    (h : ∀ x y p o w s G B σ H (Q : VK), Sta Z Γ s G B σ H → H p = some o → (ca x).p o G → (ρb y).p w G → PostE Z Γ ρ σ Q G (f x y s) → r (.ref p) w H Q) : JE Z Γ e (bnd ma fun x => bnd mb fun y => f x y) ρ :=
  ⟨PE.imp (hp _ _ ha.pe hb.pe) fun σ H Q ⟨s, G, B, st, q⟩ => by
    refine tE.imp (tE_bnd (ρ := .vw k ca) st q) ?_
    rintro v H1 ⟨x, s1, G1, B1, g1, st1, hx, q1⟩
    refine tE.imp (tE_bnd (ρ := .fz ρb) st1 q1) ?_
    rintro w H2 ⟨y, s3, G3, B3, g3, st3, hy, q3⟩
    obtain ⟨p, o, rfl, hp, hc⟩ := st3.vw (B := B3) (H := H2) (show Has Z Γ σ (.vw k ca) x v G3 B3 H2 from hx)
    exact h x y p o w s3 G3 B3 σ H2 Q st3 hp hc hy q3⟩
theorem je_twoW {e : Expr} {r : R2} {k : Nat} {cb : β → MP HO} {ma : M Z.S α} {mb : M Z.S β} {ρa : Rp α} (f : α → β → M Z.S γ) (ρ : Res γ) (hp : ∀ ta tb, PE Z.X a ta → PE Z.X b tb → PE Z.X e (tOp r ta tb)) (ha : JE Z Γ a ma (.fz ρa)) (hb : JE Z Γ b mb (.vw k cb))
    (h : ∀ x y p o v s G B σ H (Q : VK), Sta Z Γ s G B σ H → (ρa x).p v G → H p = some o → (cb y).p o G → PostE Z Γ ρ σ Q G (f x y s) → r v (.ref p) H Q) : JE Z Γ e (bnd ma fun x => bnd mb fun y => f x y) ρ :=
  ⟨PE.imp (hp _ _ ha.pe hb.pe) fun σ H Q ⟨s, G, B, st, q⟩ => by
    refine tE.imp (tE_bnd (ρ := .fz ρa) st q) ?_
    rintro v H1 ⟨x, s1, G1, B1, g1, st1, hx, q1⟩
    refine tE.imp (tE_bnd (ρ := .vw k cb) st1 q1) ?_
    rintro w H2 ⟨y, s3, G3, B3, g3, st3, hy, q3⟩
    obtain ⟨p, o, rfl, hp, hc⟩ := st3.vw hy
    exact h x y p o v s3 G3 B3 σ H2 Q st3 ((ρa x).mono g3 hx) hp hc q3⟩
theorem jt_twoW {e : Expr} {r : R2} {k : Nat} {cb : β → MP HO} {ma : M Z.S α} {mb : M Z.S β} {ρa : Rp α} (f : α → β → M Z.S Bool) (hp : ∀ ta tb, PE Z.X a ta → PE Z.X b tb → PT Z.X e (tTest (tOp r ta tb))) (ha : JE Z Γ a ma (.fz ρa)) (hb : JE Z Γ b mb (.vw k cb))
    (h : ∀ x y p o v s G B σ H (Q : VK), Sta Z Γ s G B σ H → (ρa x).p v G → H p = some o → (cb y).p o G → PostE Z Γ (.fz rB) σ Q G (f x y s) → r v (.ref p) H Q) : JT Z Γ e (bnd ma fun x => bnd mb fun y => f x y) :=
  ⟨PT.imp (hp _ _ ha.pe hb.pe) fun σ H Q ⟨s, G, B, st, q⟩ => by
    refine tE.imp (tE_bndT (ρ := .fz ρa) st q) ?_
    rintro v H1 ⟨x, s1, G1, B1, g1, st1, hx, q1⟩
    refine tE.imp (tE_bndT (ρ := .vw k cb) st1 q1) ?_
    rintro w H2 ⟨y, s3, G3, B3, g3, st3, hy, q3⟩
    obtain ⟨p, o, rfl, hp, hc⟩ := st3.vw hy
    refine h x y p o v s3 G3 B3 σ H2 _ st3 ((ρa x).mono g3 hx) hp hc ?_
    revert q3
    induction f x y s3 with
    | ok z s4 => exact fun q3 v' H' G' B' g st' (hs : v' = .bl z) => ⟨z, hs, q3 H' G' B' g st'⟩
    | err z s4 => exact fun q3 => q3
    | stuck => exact fun q3 => q3
    | all av o9 ih9 => exact fun q3 a9 h9 => ih9 a9 (q3 a9 h9)⟩
theorem je_ixV {k : Nat} {r : Rp α} {ma : M Z.S (List α)} {mi : M Z.S Int} (ha : JE Z Γ a ma (.vw k (cL r))) (hb : JE Z Γ b mi (.fz rI)) (hs : PlainIx b := by exact fun _ _ => rfl) : JE Z Γ (.Subscript a b pos) (bnd ma fun xs => bnd mi fun i => opt (atI xs i)) (.fz r) :=
  je_twoV (fun xs i => opt (atI xs i)) (.fz r) (fun _ _ p q => pe_ix ix_list p q hs) ha hb fun xs i p o w s G B σ H Q st hp ⟨vs, eo, hvs⟩ hw q => by
    subst eo
    obtain ⟨x, ex, q⟩ := opt_of' q
    obtain ⟨y, e1, e2⟩ := atI_rel hvs ex
    exact ⟨p, vs, i, y, rfl, hw, SqL.of hp, e1, fin q st e2⟩
section
variable [DecidableEq α] {k : Nat}
theorem je_inV {r : Rp α} (F : FlatR r) {ma : M Z.S α} {mb : M Z.S (List α)} (ha : JE Z Γ a ma (.fz r)) (hb : JE Z Γ b mb (.vw k (cL r))) (hm : behindInMarks .In b = false := by rfl) : JE Z Γ (.Compare a [.In] [b] pos) (bnd ma fun x => bnd mb fun y => ret (decide (x ∈ y))) (.fz rB) :=
  je_twoW (fun x y => ret (decide (x ∈ y))) (.fz rB) (fun _ _ p q => pe_cmpR op_in_seq p q hm) ha hb fun x y p o v s G B σ H Q st hv hp ⟨ws, eo, hws⟩ q => by
    subst eo
    exact ⟨p, ws, rfl, .inl (SqL.of hp), F.flat hv, flat_all F hws, by rw [in_all F hv hws]; exact fin q st rfl⟩
theorem jt_inV {r : Rp α} (F : FlatR r) {ma : M Z.S α} {mb : M Z.S (List α)} (ha : JE Z Γ a ma (.fz r)) (hb : JE Z Γ b mb (.vw k (cL r))) (hm : behindInMarks .In b = false := by rfl) : JT Z Γ (.Compare a [.In] [b] pos) (bnd ma fun x => bnd mb fun y => ret (decide (x ∈ y))) :=
  jt_twoW (fun x y => ret (decide (x ∈ y))) (fun _ _ p q => pt_cmpR op_in_seq p q hm) ha hb fun x y p o v s G B σ H Q st hv hp ⟨ws, eo, hws⟩ q => by
    subst eo
    exact ⟨p, ws, rfl, .inl (SqL.of hp), F.flat hv, flat_all F hws, by rw [in_all F hv hws]; exact fin q st rfl⟩
theorem jt_ninV {r : Rp α} (F : FlatR r) {ma : M Z.S α} {mb : M Z.S (List α)} (ha : JE Z Γ a ma (.fz r)) (hb : JE Z Γ b mb (.vw k (cL r))) (hm : behindInMarks .NotIn b = false := by rfl) : JT Z Γ (.Compare a [.NotIn] [b] pos) (bnd ma fun x => bnd mb fun y => ret (!decide (x ∈ y))) :=
  jt_twoW (fun x y => ret (!decide (x ∈ y))) (fun _ _ p q => pt_cmpR op_notIn_seq p q hm) ha hb fun x y p o v s G B σ H Q st hv hp ⟨ws, eo, hws⟩ q => by
    subst eo
    exact ⟨p, ws, rfl, .inl (SqL.of hp), F.flat hv, flat_all F hws, by rw [in_all F hv hws]; exact fin q st rfl⟩
end
theorem je_lenV {k : Nat} {p : Pos} {r : Rp α} {m : M Z.S (List α)} (hg : Gl Z.X "len") (hm : Z.X.mg "len" = none) (h : JE Z Γ e m (.vw k (cL r))) (hs : starEach [e] Z.X.env = (false, eval e Z.X.env) :: starEach [] Z.X.env := by exact star_of rfl) (hpl : (backTo pos (starEach [] Z.X.env)).any (·.1) = false := by rfl) : JE Z Γ (.Call (.Name "len" p) [e] [] pos) (bnd m fun xs => ret (xs.length : Int)) (.fz rI) :=
  je_one (t' := fun t => tCB (fun xs H Q => ∃ p ys, xs = [.ref p] ∧ (SqL Z.X.K H p ys ∨ SqT Z.X.K H p ys) ∧ Q (.int ys.length) H) (tCons t tNil)) (fun xs => ret (xs.length : Int)) (.fz rI) (fun _ p => pe_callB call_len_seq hg hm boot_len (pa_cons p pa_nil hs) (he := hs) (hpl := hpl)) (fun _ _ _ _ => rfl) h fun xs v s G B σ H Q st hv q => by
    obtain ⟨p, o, rfl, hp, ws, rfl, hw⟩ := st.vw hv
    exact ⟨p, ws, rfl, .inl (SqL.of hp), fin q st (by rw [hw.length]; rfl)⟩
theorem je_slV {k : Nat} {lo hi : Option Expr} {mlo mhi : (γ : Type) → (Option Int → M Z.S γ) → M Z.S γ} {p2 : Pos} {r : Rp α} {m : M Z.S (List α)} (h : JE Z Γ e m (.vw k (cL r))) (hl : JO Z Γ lo mlo) (hh : JO Z Γ hi mhi) :
    JE Z Γ (.Subscript e (.Slice lo hi none p2) pos) (bnd m fun xs => mlo _ fun l => mhi _ fun h => ret (cutA xs l h)) (.own (cL r)) := by
  obtain ⟨tl, pl, hl⟩ := hl.ex
  obtain ⟨th, ph, hh⟩ := hh.ex
  refine ⟨PE.imp (pe_slice sl_list h.pe pl ph) fun σ H Q ⟨s, G, B, st, q⟩ => ?_⟩
  refine tE.imp (tE_bnd (ρ := .vw k (cL r)) st q) ?_
  rintro v H1 ⟨xs, s1, G1, B1, g1, st1, hx, q1⟩
  refine hl st1 q1 fun l H2 s2 G2 B2 g2 st2 q2 => ?_
  refine hh st2 q2 fun h H3 s3 G3 B3 g3 st3 q3 => ?_
  obtain ⟨p, o, rfl, hp, vs, rfl, hvs⟩ := st3.vw (B := B3) (H := H3) (show Has Z Γ σ (.vw k (cL r)) xs v G3 B3 H3 from hx)
  refine ⟨p, vs, rfl, SqL.of hp, fun p' np => ?_⟩
  exact q3 _ _ G3 B3 (Same.refl _) (st3.laid np) (st3.own np ⟨_, rfl, hvs.cut l h⟩)
section
variable {κ : Type} [DecidableEq κ] {kt : KeyT κ} {k : Nat}
theorem dgetV_of {r : Rp α} {d : List (κ × α)} {key : κ} {p : Addr} {o : HO} {w : V} {G H : Hp} (hp : H p = some o) (hd : (cD kt r d).p o G) (hk : (kt.rp key).p w G) : ∃ ov, DGet H p w ov ∧ ((dget d key = none ∧ ov = none) ∨ ∃ x u, dget d key = some x ∧ ov = some u ∧ (r x).p u G) := by
  obtain ⟨vs, rfl, hv⟩ := hd
  refine ⟨valV vs (kt.f key), .inl ⟨vs, kt.f key, .inl hp, hk, rfl⟩, ?_⟩
  rcases hv.get key with ⟨h1, h2⟩ | ⟨x, u, h1, h2, h3⟩
  · exact .inl ⟨h1, h2⟩
  · exact .inr ⟨x, u, h1, h2, h3⟩
theorem je_dgetV {r : Rp α} (hu : Z.X.A.units + 65 < cLine) {md : M Z.S (List (κ × α))} {mk : M Z.S κ} (hd : JE Z Γ a md (.vw k (cD kt r))) (hk : JE Z Γ b mk (.fz kt.rp)) (hs : NoSl b := by exact fun _ _ => rfl) : JE Z Γ (.Subscript a b pos) (bnd md fun d => bnd mk fun k => opt (dget d k)) (.fz r) := by
  refine ⟨PE.imp (pe_dget (by omega) hd.pe hk.pe hs) fun σ H Q ⟨s, G, B, st, q⟩ => ?_⟩
  refine tE.imp (tE_bnd (ρ := .vw k (cD kt r)) st q) ?_
  rintro v H1 ⟨d, s1, G1, B1, g1, st1, hx, q1⟩
  refine tE.imp (tE_bnd (ρ := .fz kt.rp) st1 q1) ?_
  rintro w H2 ⟨key, s2, G2, B2, g2, st2, hy, q2⟩
  obtain ⟨x, ex, q2⟩ := opt_of' q2
  obtain ⟨p, o, rfl, hp, hc⟩ := st2.vw (B := B2) (H := H2) (show Has Z Γ σ (.vw k (cD kt r)) d v G2 B2 H2 from hx)
  obtain ⟨ov, hg, z⟩ := dgetV_of hp hc hy
  rcases z with ⟨z1, z2⟩ | ⟨x', u, z1, z2, z3⟩
  · rw [ex] at z1
    cases z1
  · rw [ex] at z1
    cases z1
    subst z2
    exact ⟨p, u, rfl, hg, fin q2 st2 z3⟩
theorem jt_dinV {r : Rp α} (hu : Z.X.A.units + 65 < cLine) {md : M Z.S (List (κ × α))} {mk : M Z.S κ} (hk : JE Z Γ a mk (.fz kt.rp)) (hd : JE Z Γ b md (.vw k (cD kt r))) (hm : behindInMarks .In b = false := by rfl) : JT Z Γ (.Compare a [.In] [b] pos) (bnd mk fun k => bnd md fun d => ret (dhas d k)) := by
  refine ⟨PT.imp (pt_cmp (pc_din (by omega) hk.pe hd.pe) hm) fun σ H Q ⟨s, G, B, st, q⟩ => ?_⟩
  refine tE.imp (tE_bndT (ρ := .fz kt.rp) st q) ?_
  rintro v H1 ⟨key, s1, G1, B1, g1, st1, hx, q1⟩
  refine tE.imp (tE_bndT (ρ := .vw k (cD kt r)) st1 q1) ?_
  rintro w H2 ⟨d, s2, G2, B2, g2, st2, hy, q2⟩
  obtain ⟨p, o, rfl, hp, hc⟩ := st2.vw hy
  obtain ⟨ov, hg, z⟩ := dgetV_of hp hc ((kt.rp key).mono g2 hx)
  refine ⟨p, ov, rfl, hg, dhas d key, ?_, q2 H2 G2 B2 (Same.refl _) st2⟩
  rcases z with ⟨z1, rfl⟩ | ⟨x', u, z1, rfl, z3⟩
  · unfold dhas; rw [z1]; rfl
  · unfold dhas; rw [z1]; rfl
theorem jt_dninV {r : Rp α} (hu : Z.X.A.units + 65 < cLine) {md : M Z.S (List (κ × α))} {mk : M Z.S κ} (hk : JE Z Γ a mk (.fz kt.rp)) (hd : JE Z Γ b md (.vw k (cD kt r))) (hm : behindInMarks .NotIn b = false := by rfl) : JT Z Γ (.Compare a [.NotIn] [b] pos) (bnd mk fun k => bnd md fun d => ret (!dhas d k)) := by
  refine ⟨PT.imp (pt_cmp (pc_dnotin (by omega) hk.pe hd.pe) hm) fun σ H Q ⟨s, G, B, st, q⟩ => ?_⟩
  refine tE.imp (tE_bndT (ρ := .fz kt.rp) st q) ?_
  rintro v H1 ⟨key, s1, G1, B1, g1, st1, hx, q1⟩
  refine tE.imp (tE_bndT (ρ := .vw k (cD kt r)) st1 q1) ?_
  rintro w H2 ⟨d, s2, G2, B2, g2, st2, hy, q2⟩
  obtain ⟨p, o, rfl, hp, hc⟩ := st2.vw hy
  obtain ⟨ov, hg, z⟩ := dgetV_of hp hc ((kt.rp key).mono g2 hx)
  refine ⟨p, ov, rfl, hg, !dhas d key, ?_, q2 H2 G2 B2 (Same.refl _) st2⟩
  rcases z with ⟨z1, rfl⟩ | ⟨x', u, z1, rfl, z3⟩
  · unfold dhas; rw [z1]; rfl
  · unfold dhas; rw [z1]; rfl
end
/-! ### a thing of one's own changes -/
/-- a statement that changes the thing in slot k, then the rest -/
theorem jb_chg {k : Nat} {st : Stmt} {t : TS} {L : MP HO} {cc : β → MP HO} {m : M Z.S β} {f : β → M Z.S (Fl T U ρ)} (hk : Γ[k]? = some (some (.lv L))) (hp : PS Z.X st t)
    (h : ∀ s G B σ H (D : Ends), Sta Z Γ s G B σ H → ∀ p, σ[k]? = some (some (.ref p)) → PostB Z Γ' Γb ρr D G (bnd m f s) →
      (∀ y s1 G1 B1 H1 o', Same G G1 → Sta Z Γ s1 G1 B1 σ H1 → (cc y).p o' G1 → PostB Z Γ' Γb ρr D G1 (f y s1) → (tS Z (Γ.set k (some (.lv (cc y)))) (f y) Γ' Γb ρr) D σ (upd H1 p o')) → t { D with nx := fun σ' H' => ∃ y, (tS Z (Γ.set k (some (.lv (cc y)))) (f y) Γ' Γb ρr) D σ' H' } σ H)
    (hr : ∀ y, JB Z (Γ.set k (some (.lv (cc y)))) rest (f y) Γ' Γb ρr) : JB Z Γ (st :: rest) (bnd m f) Γ' Γb ρr := by
  refine ⟨⟨fun pins s0 σ H D I ⟨s, G, B, sta, q⟩ => ?_⟩⟩
  refine wpAny_execs_cons (thn (hp.run pins s0 σ H { D with nx := fun σ' H' => ∃ y, (tS Z (Γ.set k (some (.lv (cc y)))) (f y) Γ' Γb ρr) D σ' H' } I ?_) fun fl s1 hq => ?_)
  · obtain ⟨p, o, h1, h2, _⟩ := sta.sl.lv k _ hk
    refine h s G B σ H D sta p h1 q fun y s1 G1 B1 H1 o' g1 st1 hc q1 => ?_
    exact ⟨s1, G1, B1, st1.change hk h1 hc, q1⟩
  · cases fl with
    | next =>
      obtain ⟨σ', H', I', y, zz⟩ := hq
      exact (hr y).ps.run pins s1 σ' H' D I' zz
    | ret v => exact hq
    | brk => exact hq
    | cont => exact hq
/-- the address of slot k again -/
theorem Sta.at_ {s : Z.S} {G B : Hp} {σ : St} {H : Hp} {k : Nat} {L : MP HO} {p : Addr} (st : Sta Z Γ s G B σ H) (hk : Γ[k]? = some (some (.lv L))) (hs : σ[k]? = some (some (.ref p))) : ∃ o, H p = some o ∧ L.p o G := by
  obtain ⟨a, o, h1, h2, h3, _⟩ := st.sl.lv k _ hk
  rw [hs] at h1
  injection h1 with h1
  injection h1 with h1
  injection h1 with h1
  subst h1
  exact ⟨o, h2, h3⟩
theorem grd_ofB {T U ρ : Type} {Γ' : T → Ctx} {Γb : U → Ctx} {ρr : Res ρ} {D : Ends} {b : Bool} {f : Unit → M Z.S (Fl T U ρ)} {s : Z.S} {G : Hp} (q : PostB Z Γ' Γb ρr D G (bnd (grd b) f s)) : b = true ∧ PostB Z Γ' Γb ρr D G (f () s) := by
  cases b with
  | true => exact ⟨rfl, q⟩
  | false => exact q.elim
theorem opt_ofB {T U ρ : Type} {Γ' : T → Ctx} {Γb : U → Ctx} {ρr : Res ρ} {D : Ends} {o : Option α} {f : α → M Z.S (Fl T U ρ)} {s : Z.S} {G : Hp} (q : PostB Z Γ' Γb ρr D G (bnd (opt o) f s)) : ∃ x, o = some x ∧ PostB Z Γ' Γb ρr D G (f x s) := by
  cases o with
  | some x => exact ⟨x, rfl, q⟩
  | none => exact q.elim
/-- xs.append(e) -/
def appM {S : Type} (xs : List α) (x : α) : M S (List α) := bnd (grd (decide (xs.length < sizeLine))) fun _ => ret (xs ++ [x])
theorem jb_append {k : Nat} {n : Str} {pn apos pos2 : Pos} {r : Rp α} {xs : List α} {m : M Z.S α} {f : List α → M Z.S (Fl T U ρ)} (hk : Γ[k]? = some (some (.lv (cL r xs)))) (hn : PE Z.X (.Name n pn) (tVar k)) (he : JE Z Γ e m (.fz r)) (hr : ∀ y, JB Z (Γ.set k (some (.lv (cL r y)))) rest (f y) Γ' Γb ρr)
    (hp : PS Z.X (.Expr (.Call (.Attribute (.Name n pn) "append" apos) [e] [] pos) pos2) (tDrop (tBM Z.X.K "list" rAppend (tVar k) (tCons (tE Z Γ m (.fz r)) tNil)))) : JB Z Γ (.Expr (.Call (.Attribute (.Name n pn) "append" apos) [e] [] pos) pos2 :: rest) (bnd m fun x => bnd (appM xs x) f) Γ' Γb ρr := by
  have e1 : (bnd m fun x => bnd (appM xs x) f) = bnd (bnd m fun x => appM xs x) f := by rw [bnd_assoc]
  rw [e1]
  refine jb_chg (m := bnd m fun x => appM xs x) (cc := cL r) hk hp (fun s G B σ H D st p hs q fin => ?_) hr
  obtain ⟨o, ho, ws, rfl, hws⟩ := st.at_ hk hs
  refine ⟨_, hs, .inl ⟨rfl, ws, SqL.of ho⟩, ?_⟩
  rw [bnd_assoc] at q
  refine tE.imp (tE_bndB (ρ := .fz r) st q) ?_
  rintro v H1 ⟨y, s1, G1, B1, g1, st1, hy, q1⟩
  obtain ⟨o1, ho1, ws1, rfl, hws1⟩ := st1.at_ hk hs
  unfold appM at q1
  rw [bnd_assoc] at q1
  obtain ⟨c, q1⟩ := grd_ofB q1
  refine ⟨p, ws1, v, rfl, rfl, ho1, by rw [hws1.length]; exact of_decide_eq_true c, xs ++ [y], ?_⟩
  exact fin (xs ++ [y]) s1 G1 B1 H1 _ g1 st1 ⟨_, rfl, hws1.append (.cons hy .nil)⟩ q1
/-- xs[i] = e -/
def setM {S : Type} (xs : List α) (i : Int) (x : α) : M S (List α) := bnd (opt (ixN xs.length i)) fun j => ret (xs.set j x)
theorem jb_setix {k : Nat} {n : Str} {pn ps : Pos} {r : Rp α} {xs : List α} {m : M Z.S α} {mi : M Z.S Int} {f : List α → M Z.S (Fl T U ρ)} (hk : Γ[k]? = some (some (.lv (cL r xs)))) (hn : PE Z.X (.Name n pn) (tVar k)) (he : JE Z Γ e m (.fz r)) (hi : JE Z Γ b mi (.fz rI)) (hr : ∀ y, JB Z (Γ.set k (some (.lv (cL r y)))) rest (f y) Γ' Γb ρr)
    (hp : PS Z.X (.Assign [.Subscript (.Name n pn) b ps] e pos) (tAsg (tE Z Γ m (.fz r)) (gSub (tVar k) (tE Z Γ mi (.fz rI)) rSetL))) : JB Z Γ (.Assign [.Subscript (.Name n pn) b ps] e pos :: rest) (bnd m fun x => bnd mi fun i => bnd (setM xs i x) f) Γ' Γb ρr := by
  have e1 : (bnd m fun x => bnd mi fun i => bnd (setM xs i x) f) = bnd (bnd m fun x => bnd mi fun i => setM xs i x) f := by rw [bnd_assoc]; congr 1; funext x; rw [bnd_assoc]
  rw [e1]
  refine jb_chg (m := bnd m fun x => bnd mi fun i => setM xs i x) (cc := cL r) hk hp (fun s G B σ H D st p hs q fin => ?_) hr
  rw [bnd_assoc] at q
  refine tE.imp (tE_bndB (ρ := .fz r) st q) ?_
  rintro v H1 ⟨y, s1, G1, B1, g1, st1, hy, q1⟩
  refine ⟨_, hs, ?_⟩
  rw [bnd_assoc] at q1
  refine tE.imp (tE_bndB (ρ := .fz rI) st1 q1) ?_
  rintro w H2 ⟨i, s2, G2, B2, g2, st2, hi, q2⟩
  obtain ⟨o1, ho1, ws1, rfl, hws1⟩ := st2.at_ hk hs
  unfold setM at q2
  rw [bnd_assoc] at q2
  obtain ⟨j, ej, q2⟩ := opt_ofB q2
  refine ⟨p, ws1, i, j, rfl, hi, ho1, by rw [hws1.length]; exact ej, xs.set j y, ?_⟩
  exact fin (xs.set j y) s2 G2 B2 H2 _ (g1.trans g2) st2 ⟨_, rfl, hws1.set ((r y).mono g2 hy) j⟩ q2
/-- d[k] = e -/
def dputM {S κ : Type} [DecidableEq κ] (d : List (κ × α)) (k : κ) (x : α) : M S (List (κ × α)) := bnd (grd (decide (d.length < sizeLine))) fun _ => ret (dput d k x)
theorem jb_dput {κ : Type} [DecidableEq κ] {kt : KeyT κ} {k : Nat} {n : Str} {pn ps : Pos} {r : Rp α} {d : List (κ × α)} {m : M Z.S α} {mi : M Z.S κ} {f : List (κ × α) → M Z.S (Fl T U ρ)} (hk : Γ[k]? = some (some (.lv (cD kt r d)))) (hn : PE Z.X (.Name n pn) (tVar k)) (he : JE Z Γ e m (.fz r)) (hi : JE Z Γ b mi (.fz kt.rp)) (hr : ∀ y, JB Z (Γ.set k (some (.lv (cD kt r y)))) rest (f y) Γ' Γb ρr)
    (hp : PS Z.X (.Assign [.Subscript (.Name n pn) b ps] e pos) (sDPut (tVar k) (tE Z Γ mi (.fz kt.rp)) (tE Z Γ m (.fz r)))) : JB Z Γ (.Assign [.Subscript (.Name n pn) b ps] e pos :: rest) (bnd m fun x => bnd mi fun i => bnd (dputM d i x) f) Γ' Γb ρr := by
  have e1 : (bnd m fun x => bnd mi fun i => bnd (dputM d i x) f) = bnd (bnd m fun x => bnd mi fun i => dputM d i x) f := by rw [bnd_assoc]; congr 1; funext x; rw [bnd_assoc]
  rw [e1]
  refine jb_chg (m := bnd m fun x => bnd mi fun i => dputM d i x) (cc := cD kt r) hk hp (fun s G B σ H D st p hs q fin => ?_) hr
  rw [bnd_assoc] at q
  refine tE.imp (tE_bndB (ρ := .fz r) st q) ?_
  rintro v H1 ⟨y, s1, G1, B1, g1, st1, hy, q1⟩
  refine ⟨_, hs, ?_⟩
  rw [bnd_assoc] at q1
  refine tE.imp (tE_bndB (ρ := .fz kt.rp) st1 q1) ?_
  rintro w H2 ⟨i, s2, G2, B2, g2, st2, hi, q2⟩
  obtain ⟨o1, ho1, ws1, rfl, hws1⟩ := st2.at_ hk hs
  unfold dputM at q2
  rw [bnd_assoc] at q2
  obtain ⟨c, q2⟩ := grd_ofB q2
  refine ⟨p, _, rfl, .inl ⟨ws1, kt.f i, ho1, hi, by rw [hws1.length]; exact of_decide_eq_true c, rfl⟩, dput d i y, ?_⟩
  exact fin (dput d i y) s2 G2 B2 H2 _ (g1.trans g2) st2 ⟨_, rfl, hws1.put ((r y).mono g2 hy)⟩ q2
/-! ### ahead of a block: a thing of one's own becomes still -/
theorem jb_frzL {k : Nat} {sts : List Stmt} {r : Rp α} {xs : List α} {m : M Z.S (Fl T U ρ)} (hk : Γ[k]? = some (some (.lv (cL r xs)))) (h : JB Z (Γ.set k (some (.fz (rL r xs)))) sts m Γ' Γb ρr) : JB Z Γ sts m Γ' Γb ρr :=
  ⟨PSs.imp h.ps fun D σ H ⟨s, G, B, st, q⟩ => by
    obtain ⟨G1, g1, st1⟩ := st.stillAt (A := rL r xs) hk fun a o G1 _ ⟨vs, eo, hv⟩ e g => by
      subst eo e
      exact ⟨a, vs, rfl, upd_same, hv.mono g⟩
    exact ⟨s, G1, B, st1, PostB.mono g1 q⟩⟩
theorem jb_frzD {κ : Type} {kt : KeyT κ} {k : Nat} {sts : List Stmt} {r : Rp α} {d : List (κ × α)} {m : M Z.S (Fl T U ρ)} (hk : Γ[k]? = some (some (.lv (cD kt r d)))) (h : JB Z (Γ.set k (some (.fz (rD kt r d)))) sts m Γ' Γb ρr) : JB Z Γ sts m Γ' Γb ρr := by
  refine ⟨⟨fun pins s0 σ H D I ⟨s, G, B, st, q⟩ => ?_⟩⟩
  obtain ⟨p, o, h1, h2, ⟨vs, eo, hv⟩, _⟩ := st.sl.lv k _ hk
  subst eo
  obtain ⟨od, I2⟩ := I.lock h2 True.intro
  obtain ⟨G1, g1, st1⟩ := st.lockAt (A := rD kt r d) (o' := .frz od (.dK vs)) hk h1 fun G1 e g => by
    subst e
    exact ⟨p, od, vs, rfl, upd_same, hv.mono g⟩
  exact h.ps.run pins s0 σ _ D I2 ⟨s, G1, B, st1, PostB.mono g1 q⟩
end
end DL
set_option Elab.async false
set_option linter.all false
set_option maxRecDepth 100000
namespace DL
open PySem L2
section
variable {Z : Zc} {Γ : Ctx} {α β γ T U ρ : Type} {e a b c : Expr} {es : List Expr} {pos : Pos} {Γb : U → Ctx} {ρr : Res ρ} {rest : List Stmt}
/-! ### for -/
def Fl.loop {S T U ρ : Type} (f : T → M S (Fl T U ρ)) : Fl T T ρ → M S (Fl T U ρ)
  | .nx t => f t
  | .ct t => f t
  | .bk t => ret (.nx t)
  | .rt r => ret (.rt r)
def forL {S α T U ρ : Type} (body : α → T → M S (Fl T T ρ)) : List α → T → M S (Fl T U ρ)
  | [], t => ret (.nx t)
  | x :: xs, t => bnd (body x t) (Fl.loop (forL body xs))
theorem js_for {tg iter : Expr} {body : List Stmt} {m : M Z.S (List α)} {r : Rp α} {ks : List Nat} {u : α → Ctx → Ctx} {g : TG} {Γl : T → Ctx} {mb : α → T → M Z.S (Fl T T ρ)} {t0 : T} {n : Nat} (z : ZOk Z) (hi : JI Z Γ tg iter m r) (hg : JG Z tg r ks u g) (hl : Le Γ (Γl t0)) (hb : ∀ x t, JB Z (u x (Γl t)) body (mb x t) Γl Γl ρr)
    (hn : ∀ t, (Γl t).length = n := by intro _; rfl) (hks : ks.all (fun k => decide (k < n)) = true := by decide) (hE : ∀ k ∈ ks, NoE Z.E k := by first | exact fun _ _ => NoE.nil | exact NoE.ones rfl) (hs : ∀ x, foldedSetIterable iter Z.X.env x = pure x := by intro _; rfl) :
    JS Z Γ (.For tg iter body [] pos) (bnd m fun xs => forL mb xs t0) Γl Γb ρr := by
  obtain ⟨wi, pi, hwi⟩ := hi.ex
  have kk : ∀ t, ∀ k ∈ ks, k < (Γl t).length ∧ NoE Z.E k := fun t k hk => ⟨by rw [hn t]; exact of_decide_eq_true (List.all_eq_true.mp hks k hk), hE k hk⟩
  have hbb : PSs Z.X body (fun D σ H => ∃ x t, tS Z (u x (Γl t)) (mb x t) Γl Γl ρr D σ H) := ⟨fun pins s σ H D I ⟨x, t, h⟩ => (hb x t).ps.run pins s σ H D I h⟩
  refine ⟨PS.imp (ps_for z.own z.calm pi hg.pg hbb hs) fun D σ H ⟨s, G, B, st, q⟩ => ?_⟩
  refine hwi st ?_
  have q : PostB Z Γl Γb ρr D G ((m s).bnd fun xs => forL mb xs t0) := q
  revert q
  induction m s with
  | err x s1 => exact fun q => q
  | stuck => exact fun q => q
  | all av o9 ih9 => exact fun q a9 h9 => ih9 a9 (q a9 h9)
  | ok xs s1 =>
    intro q J H1 G1 B1 g1 st1 w
    have q : PostB Z Γl Γb ρr D G (forL mb xs t0 s1) := q
    refine for_it w (g := g) (tb := fun D σ H => ∃ x t, tS Z (u x (Γl t)) (mb x t) Γl Γl ρr D σ H) (D := D) (fun i σ' H' => ∃ t s' G' B', Same G1 G' ∧ Sta Z (Γl t) s' G' B' σ' H' ∧ PostB Z Γl Γb ρr D G' (forL mb (xs.drop i) t s')) ⟨t0, s1, G1, B1, Same.refl _, st1.weak hl, PostB.mono g1 q⟩
      (fun i σ' H' _ ⟨t, s', G', B', g', st', _⟩ => g'.trans st'.ok.gh) ?_ ?_
    · rintro i v σ' H' H2 hi ⟨t, s', G', B', g', st', q'⟩ ⟨x, hx, hy⟩
      have ed : xs.drop i = x :: xs.drop (i + 1) := by
        obtain ⟨h1, h2⟩ := List.getElem?_eq_some_iff.mp hx
        rw [← h2]
        exact List.drop_eq_getElem_cons h1
      rw [ed] at q'
      have main : ∀ G2 H3, Same G' G2 → Sta Z (Γl t) s' G2 B' σ' H3 → (r x).p v G2 → g v σ' H3 fun σ2 H4 => ∃ x t, tS Z (u x (Γl t)) (mb x t) Γl Γl ρr { D with nx := fun σ' H' => ∃ t s' G' B', Same G1 G' ∧ Sta Z (Γl t) s' G' B' σ' H' ∧ PostB Z Γl Γb ρr D G' (forL mb (xs.drop (i + 1)) t s'), ct := fun σ' H' => ∃ t s' G' B', Same G1 G' ∧ Sta Z (Γl t) s' G' B' σ' H' ∧ PostB Z Γl Γb ρr D G' (forL mb (xs.drop (i + 1)) t s'), bk := D.nx } σ2 H4 := by
        intro G2 H3 g2 st2 hv
        refine hg.go st2 hv (kk t) fun σ2 st3 _ => ⟨x, t, s', G2, B', st3, ?_⟩
        have q2 : PostB Z Γl Γb ρr D G2 ((mb x t s').bnd (Fl.loop (forL mb (xs.drop (i + 1))))) := PostB.mono g2 q'
        revert q2
        induction mb x t s' with
        | ok y s2 =>
          cases y with
          | nx t' => exact fun q2 σ3 H5 G3 B3 g3 st4 => ⟨t', s2, G3, B3, (g'.trans g2).trans g3, st4, PostB.mono g3 q2⟩
          | ct t' => exact fun q2 σ3 H5 G3 B3 g3 st4 => ⟨t', s2, G3, B3, (g'.trans g2).trans g3, st4, PostB.mono g3 q2⟩
          | bk t' => exact fun q2 => q2
          | rt y => exact fun q2 => q2
        | err y s2 => exact fun q2 => q2
        | stuck => exact fun q2 => q2
        | all av o9 ih9 => exact fun q2 a9 h9 => ih9 a9 (q2 a9 h9)
      rcases hy with ⟨rfl, hv⟩ | ⟨A, vs, rfl, hA, rfl, hv⟩
      · exact main G' H2 (Same.refl _) st' ((r x).mono g' hv)
      · have gA : Same G' (upd G' A (.tup vs)) := Same.upd_new (Same.free st'.ok.gh hA)
        exact main (upd G' A (.tup vs)) _ gA (st'.laidG hA) (hv _ (g'.trans gA) upd_same)
    · rintro σ' H' ⟨t, s', G', B', g', st', q'⟩
      rw [List.drop_length] at q'
      exact q' σ' H' G' B' (Same.refl _) st'
/-! ### comprehensions -/
/-- no error may leave -/
def noxO {S α : Type} : Out S α → Out S α
  | .ok a s' => .ok a s'
  | .all av g => .all av fun a => noxO (g a)
  | _ => .stuck
def nox {S α : Type} (m : M S α) : M S α := fun s => noxO (m s)
@[simp] theorem nox_ret {S α : Type} (a : α) : nox (ret a : M S α) = ret a := rfl
@[simp] theorem nox_stk {S α : Type} : nox (stk : M S α) = stk := rfl
theorem nox_bnd {S α β : Type} (m : M S α) (f : α → M S β) : nox (bnd m f) = bnd (nox m) fun a => nox (f a) := by
  funext s
  show noxO ((m s).bnd f) = (noxO (m s)).bnd fun a => nox (f a)
  induction m s with
  | ok a s => rfl
  | err e s => rfl
  | stuck => rfl
  | all av o ih => exact congrArg (Out.all av) (funext ih)
def compL {S α β : Type} (mt : α → M S Bool) (me : α → M S β) : List α → M S (List β)
  | [] => ret []
  | x :: xs => bnd (nox (mt x)) fun c => if c then bnd (nox (me x)) fun y => bnd (compL mt me xs) fun ys => ret (y :: ys) else compL mt me xs
def compM {S α β : Type} (mt : α → M S Bool) (me : α → M S β) (xs : List α) : M S (List β) := bnd (grd (decide (xs.length ≤ sizeLine))) fun _ => compL mt me xs
/-- the block of a comprehension, the list so far held at D -/
abbrev Zc.blk (Z : Zc) (s : Shared) (H : Hp) (scope : Scope) (cl : List (Str × Addr)) (C : Addr) (fp : List Addr) (D : Addr) (acc : HO) : Zc :=
  { Z with X := Z.X.blk s H scope (compEnvC scope cl C Z.X.env) fp, W := fun _ _ _ _ => False, hd := upd Z.hd D acc, E := [] }
theorem ZOk.blk (z : ZOk Z) {s : Shared} {H : Hp} {scope : Scope} {cl : List (Str × Addr)} {C : Addr} {fp : List Addr} {D : Addr} {acc : HO} : ZOk (Z.blk s H scope cl C fp D acc) :=
  ⟨z.calm, PassesOwn.never, z.nd, takes0⟩
def wipeC (Γ : Ctx) : List Nat → Ctx
  | [] => Γ
  | v :: vs => (wipeC Γ vs).set v none
theorem wipeC_length (Γ : Ctx) : ∀ vs : List Nat, (wipeC Γ vs).length = Γ.length
  | [] => rfl
  | v :: vs => by unfold wipeC; rw [List.length_set, wipeC_length Γ vs]
theorem wipeC_some {k : Nat} {x : Asn} : ∀ {vs : List Nat}, (wipeC Γ vs)[k]? = some (some x) → Γ[k]? = some (some x) ∧ k ∉ vs
  | [], h => ⟨h, by simp⟩
  | v :: vs, h => by
    unfold wipeC at h
    rcases set_at h with ⟨_, z⟩ | ⟨n, z⟩
    · cases z
    · obtain ⟨h1, h2⟩ := wipeC_some z
      exact ⟨h1, by simp only [List.mem_cons, not_or]; exact ⟨n, h2⟩⟩
theorem wipe_wipe {σ : St} {vs : List Nat} : wipe (wipe σ vs) vs = wipe σ vs := by
  have h : ∀ ws : List Nat, (∀ k ∈ ws, k ∈ vs) → wipe (wipe σ ws) vs = wipe σ vs := by
    intro ws
    induction ws with
    | nil => intro _; rfl
    | cons k ws ih =>
      intro hk
      show wipe ((wipe σ ws).set k none) vs = wipe σ vs
      rw [wipe_comm (hk k List.mem_cons_self), ih fun j hj => hk j (List.mem_cons_of_mem _ hj)]
  exact h vs fun _ h => h
/-- the block as the state sees it -/
abbrev Zc.b0 (Z : Zc) (D : Addr) (acc : HO) : Zc := { Z with W := fun _ _ _ _ => False, hd := upd Z.hd D acc, E := [] }
theorem Sta.wiped {s : Z.S} {G B : Hp} {σ : St} {H : Hp} {vs : List Nat} {D : Addr} {acc : HO} (st : Sta Z Γ s G B σ H) (hw : wipeC Γ vs = Γ) (hD : H D = some acc) (gD : G D = none) (bD : B D = none) (fD : Z.F.H0 D = none) (oD : Off Γ σ D) :
    Sta (Z.b0 D acc) Γ s G B (wipe σ vs) H := by
  have nv : ∀ {k : Nat} {x : Asn}, Γ[k]? = some (some x) → k ∉ vs := fun {k x} e => (wipeC_some (by rw [hw]; exact e)).2
  refine ⟨st.ok, st.res, ⟨by rw [wipe_length]; exact st.sl.len, fun k A e => ?_, fun k L e => ?_, fun k j L L' a e1 e2 q1 q2 => ?_⟩, ⟨Nat.zero_le _, fun k A e => by simp at e⟩, fun a o e => ?_, fun a o e => ?_⟩
  · rw [wipe_out (nv e)]
    exact st.sl.fz k A e
  · rw [wipe_out (nv e)]
    obtain ⟨p, o, h3, h4, h5, h6, h7, h8, h9⟩ := st.sl.lv k L e
    have ne : p ≠ D := fun z => oD k L e (by rw [← z]; exact h3)
    exact ⟨p, o, h3, h4, h5, h6, h7, h8, by show upd Z.hd D acc p = none; rw [upd_ne ne]; exact h9⟩
  · rw [wipe_out (nv e1)] at q1
    rw [wipe_out (nv e2)] at q2
    exact st.sl.ne k j L L' a e1 e2 q1 q2
  · have e : upd Z.hd D acc a = some o := e
    by_cases z : a = D
    · subst z
      rw [upd_same] at e
      cases e
      exact hD
    · rw [upd_ne z] at e
      exact st.held a o e
  · have e : upd Z.hd D acc a = some o := e
    by_cases z : a = D
    · subst z
      exact ⟨gD, bD, fD⟩
    · rw [upd_ne z] at e
      exact st.off a o e
/-- back from the block: the slots as they were -/
theorem Sta.unwiped {Γ2 : Ctx} {s0 s : Z.S} {G0 B0 G B : Hp} {σ σ2 : St} {H0 H : Hp} {vs : List Nat} {D : Addr} {acc : HO} (st0 : Sta Z Γ s0 G0 B0 σ H0) (st : Sta (Z.b0 D acc) Γ2 s G B σ2 H) (hw : wipeC Γ vs = Γ) (g : Same G0 G) (hdD : Z.hd D = none)
    (hk : ∀ k, k ∉ vs → Γ2[k]? = Γ[k]?) (hσ : wipe σ2 vs = wipe σ vs) : Sta Z Γ s G B σ H := by
  have nv : ∀ {k : Nat} {x : Asn}, Γ[k]? = some (some x) → k ∉ vs := fun {k x} e => (wipeC_some (by rw [hw]; exact e)).2
  have sl : ∀ {k : Nat}, k ∉ vs → σ2[k]? = σ[k]? := fun {k} h => by rw [← wipe_out (σ := σ2) h, hσ, wipe_out h]
  refine ⟨st.ok, st.res, ⟨st0.sl.len, fun k A e => ?_, fun k L e => ?_, st0.sl.ne⟩, ⟨st0.sle.1, fun k A e => ?_⟩, fun a o e => ?_, fun a o e => ?_⟩
  · rw [← sl (nv e)]
    exact st.sl.fz k A (by rw [hk k (nv e)]; exact e)
  · rw [← sl (nv e)]
    obtain ⟨p, o, h1, h2, h3, h4, h5, h6, h7⟩ := st.sl.lv k L (by rw [hk k (nv e)]; exact e)
    refine ⟨p, o, h1, h2, h3, h4, h5, h6, ?_⟩
    have h7 : upd Z.hd D acc p = none := h7
    by_cases z : p = D
    · rw [z]
      exact hdD
    · rw [upd_ne z] at h7
      exact h7
  · obtain ⟨v, h1, h2⟩ := st0.sle.2 k A e
    exact ⟨v, h1, A.mono g h2⟩
  · have ne : a ≠ D := ne_of_none e hdD
    exact st.held a o (by show upd Z.hd D acc a = some o; rw [upd_ne ne]; exact e)
  · have ne : a ≠ D := ne_of_none e hdD
    exact st.off a o (by show upd Z.hd D acc a = some o; rw [upd_ne ne]; exact e)
/-- the same state by another context of the machine -/
theorem Sta.of {Z1 Z2 : Zc} (e1 : Z1 = { Z2 with X := Z1.X, W := Z1.W }) {s : Z2.S} {G B : Hp} {σ : St} {H : Hp} (st : Sta Z2 Γ s G B σ H) : Sta { Z2 with X := Z1.X, W := Z1.W } Γ s G B σ H := ⟨st.ok, st.res, st.sl, st.sle, st.held, st.off⟩
section
variable {s0 : Shared} {H0 : Hp} {scope : Scope} {cl : List (Str × Addr)} {C : Addr} {fp : List Addr} {D : Addr} {acc : HO}
theorem blk_to {s : Z.S} {G B : Hp} {σ : St} {H : Hp} (st : Sta (Z.b0 D acc) Γ s G B σ H) : Sta (Z.blk s0 H0 scope cl C fp D acc) Γ s G B σ H := ⟨st.ok, st.res, st.sl, st.sle, st.held, st.off⟩
theorem blk_from {s : Z.S} {G B : Hp} {σ : St} {H : Hp} (st : Sta (Z.blk s0 H0 scope cl C fp D acc) Γ s G B σ H) : Sta (Z.b0 D acc) Γ s G B σ H := ⟨st.ok, st.res, st.sl, st.sle, st.held, st.off⟩
theorem tE_blk {m : M Z.S α} {r : Rp α} {σ : St} {H : Hp} {Q : VK} (h : tE (Z.b0 D acc) Γ m (.fz r) σ H Q) : tE (Z.blk s0 H0 scope cl C fp D acc) Γ m (.fz r) σ H Q := by
  obtain ⟨s, G, B, st, q⟩ := h
  refine ⟨s, G, B, blk_to st, ?_⟩
  revert q
  show PostE (Z.b0 D acc) Γ (.fz r) σ Q G (m s) → PostE (Z.blk s0 H0 scope cl C fp D acc) Γ (.fz r) σ Q G (m s)
  induction m s with
  | ok x s1 => exact fun q v H' G' B' g st' hs => q v H' G' B' g (blk_from st') hs
  | err x s1 => exact fun q cls d σ' H' G' B' g st' he => q cls d σ' H' G' B' g (blk_from st') he
  | stuck => exact fun q => q
  | all av o9 ih9 => exact fun q a9 h9 => ih9 a9 (q a9 h9)
theorem tT_blk {m : M Z.S Bool} {σ : St} {H : Hp} {Q : Bool → Hp → Prop} (h : tT (Z.b0 D acc) Γ m σ H Q) : tT (Z.blk s0 H0 scope cl C fp D acc) Γ m σ H Q := by
  obtain ⟨s, G, B, st, q⟩ := h
  refine ⟨s, G, B, blk_to st, ?_⟩
  revert q
  show PostT (Z.b0 D acc) Γ σ Q G (m s) → PostT (Z.blk s0 H0 scope cl C fp D acc) Γ σ Q G (m s)
  induction m s with
  | ok x s1 => exact fun q H' G' B' g st' => q H' G' B' g (blk_from st')
  | err x s1 => exact fun q cls d σ' H' G' B' g st' he => q cls d σ' H' G' B' g (blk_from st') he
  | stuck => exact fun q => q
  | all av o9 ih9 => exact fun q a9 h9 => ih9 a9 (q a9 h9)
end
/-- the tests of a comprehension -/
structure JTs (Z : Zc) (Γ : Ctx) (ifs : List Expr) (m : M Z.S Bool) : Prop where
  ps : PTs Z.X ifs (tT Z Γ m)
theorem jts_nil : JTs Z Γ [] (ret true) := ⟨⟨fun pins s σ H Q I ⟨s1, G, B, st, q⟩ => pts_nil.run pins s σ H Q I (q H G B (Same.refl _) st)⟩⟩
theorem jts_one {m : M Z.S Bool} (h : JT Z Γ c m) : JTs Z Γ [c] m := ⟨pts_one h.pt⟩
/-- what is left of a comprehension, the items so far ahead -/
def leftL {S α β : Type} (mt : α → M S Bool) (me : α → M S β) (acc : List β) (xs : List α) : M S (List β) := bnd (compL mt me xs) fun ys => ret (acc ++ ys)
theorem leftL_cons {S α β : Type} (mt : α → M S Bool) (me : α → M S β) (acc : List β) (x : α) (xs : List α) :
    leftL mt me acc (x :: xs) = bnd (nox (mt x)) fun c => if c then bnd (nox (me x)) fun y => leftL mt me (acc ++ [y]) xs else leftL mt me acc xs := by
  show bnd (bnd (nox (mt x)) fun c => if c then bnd (nox (me x)) fun y => bnd (compL mt me xs) fun ys => ret (y :: ys) else compL mt me xs) (fun ys => ret (acc ++ ys)) = _
  rw [bnd_assoc]
  congr 1
  funext c
  cases c with
  | false => rfl
  | true =>
    show bnd (bnd (nox (me x)) fun y => bnd (compL mt me xs) fun ys => ret (y :: ys)) (fun ys => ret (acc ++ ys)) = bnd (nox (me x)) fun y => leftL mt me (acc ++ [y]) xs
    rw [bnd_assoc]
    congr 1
    funext y
    rw [bnd_assoc]
    unfold leftL
    congr 1
    funext ys
    rw [bnd_ret, List.append_assoc]
    rfl
theorem nox_T {D : Addr} {acc : HO} {m : M Z.S Bool} {f : Bool → M Z.S γ} {ρ : Res γ} {Q : VK} {Q2 : Bool → Hp → Prop} {Γ2 : Ctx} {s : Z.S} {G G0 : Hp} {σ σ2 : St} (q : PostE Z Γ ρ σ Q G0 (bnd (nox m) f s)) (k : ∀ b s1, PostE Z Γ ρ σ Q G0 (f b s1) → ∀ H' G' B', Same G G' → Sta (Z.b0 D acc) Γ2 s1 G' B' σ2 H' → Q2 b H') : PostT (Z.b0 D acc) Γ2 σ2 Q2 G (m s) := by
  have q : PostE Z Γ ρ σ Q G0 ((noxO (m s)).bnd f) := q
  revert q
  show PostE Z Γ ρ σ Q G0 ((noxO (m s)).bnd f) → PostT (Z.b0 D acc) Γ2 σ2 Q2 G (m s)
  induction m s with
  | ok y s1 => exact fun q => k y s1 q
  | err y s1 => exact fun q => q.elim
  | stuck => exact fun q => q.elim
  | all av o9 ih9 => exact fun q a9 h9 => ih9 a9 (q a9 h9)
theorem nox_E {D : Addr} {acc : HO} {m : M Z.S β} {rb : Rp β} {f : β → M Z.S γ} {ρ : Res γ} {Q Q2 : VK} {Γ2 : Ctx} {s : Z.S} {G G0 : Hp} {σ σ2 : St} (q : PostE Z Γ ρ σ Q G0 (bnd (nox m) f s)) (k : ∀ b s1, PostE Z Γ ρ σ Q G0 (f b s1) → ∀ v H' G' B', Same G G' → Sta (Z.b0 D acc) Γ2 s1 G' B' σ2 H' → (rb b).p v G' → Q2 v H') : PostE (Z.b0 D acc) Γ2 (.fz rb) σ2 Q2 G (m s) := by
  have q : PostE Z Γ ρ σ Q G0 ((noxO (m s)).bnd f) := q
  revert q
  show PostE Z Γ ρ σ Q G0 ((noxO (m s)).bnd f) → PostE (Z.b0 D acc) Γ2 (.fz rb) σ2 Q2 G (m s)
  induction m s with
  | ok y s1 => exact fun q => k y s1 q
  | err y s1 => exact fun q => q.elim
  | stuck => exact fun q => q.elim
  | all av o9 ih9 => exact fun q a9 h9 => ih9 a9 (q a9 h9)
theorem bnd_id {S α : Type} (m : M S α) : bnd m (fun a => ret a) = m := by
  funext s
  show (m s).bnd (fun a => ret a) = m s
  induction m s with
  | ok a s => rfl
  | err e s => rfl
  | stuck => rfl
  | all av o ih => exact congrArg (Out.all av) (funext ih)
theorem comp_core {tg iter elt : Expr} {ifs : List Expr} {scope : Scope} {own : List (Str × Nat)} {m : M Z.S (List α)} {r : Rp α} {rb : Rp β} {u : α → Ctx → Ctx} {g : TG} {mt : α → M Z.S Bool} {me : α → M Z.S β} (z : ZOk Z) (hi : JI Z Γ tg iter m r) 
    (hg : ∀ (s : Shared) (H : Hp) (C : Addr) (cl : List (Str × Addr)) (fp : List Addr) (D : Addr) (acc : HO), JG (Z.blk s H scope cl C fp D acc) tg r (own.map (·.2)) u g)
    (ht : ∀ (s : Shared) (H : Hp) (C : Addr) (cl : List (Str × Addr)) (fp : List Addr) (D : Addr) (acc : HO) (x : α), JTs (Z.blk s H scope cl C fp D acc) (u x Γ) ifs (mt x))
    (he : ∀ (s : Shared) (H : Hp) (C : Addr) (cl : List (Str × Addr)) (fp : List Addr) (D : Addr) (acc : HO) (x : α), JE (Z.blk s H scope cl C fp D acc) (u x Γ) elt (me x) (.fz rb))
    (hw : wipeC Γ (own.map (·.2)) = Γ := by rfl) (hks : (own.map (·.2)).all (fun k => decide (k < Γ.length)) = true := by rfl) :
    ∃ (wi : TI) (tt : TT) (te : TE), PI Z.X tg iter wi ∧ (∀ (s : Shared) (H : Hp) (C : Addr) (cl : List (Str × Addr)) (fp : List Addr), PG (Z.X.blk s H scope (compEnvC scope cl C Z.X.env) fp) tg g) ∧
      (∀ (s : Shared) (H : Hp) (C : Addr) (cl : List (Str × Addr)) (fp : List Addr), PTs (Z.X.blk s H scope (compEnvC scope cl C Z.X.env) fp) ifs tt) ∧
      (∀ (s : Shared) (H : Hp) (C : Addr) (cl : List (Str × Addr)) (fp : List Addr), PE (Z.X.blk s H scope (compEnvC scope cl C Z.X.env) fp) elt te) ∧
      ∀ σ H Q, tE Z Γ (bnd m fun xs => compM mt me xs) (.own (cL rb)) σ H Q → tLc wi g tt te (own.map (·.2)) σ H Q := by
  obtain ⟨wi, pi, hwi⟩ := hi.ex
  have kk : ∀ k ∈ own.map (·.2), k < Γ.length ∧ NoE [] k := fun k hk => ⟨of_decide_eq_true (List.all_eq_true.mp hks k hk), NoE.nil⟩
  have ht2 : ∀ (s : Shared) (H : Hp) (C : Addr) (cl : List (Str × Addr)) (fp : List Addr), PTs (Z.X.blk s H scope (compEnvC scope cl C Z.X.env) fp) ifs (fun σ H Q => ∃ D acc x, tT (Z.b0 D acc) (u x Γ) (mt x) σ H Q) := fun s H C cl fp =>
    ⟨fun pins s1 σ H1 Q I ⟨D, acc, x, h⟩ => (ht s H C cl fp D acc x).ps.run pins s1 σ H1 Q I (tT_blk h)⟩
  have he2 : ∀ (s : Shared) (H : Hp) (C : Addr) (cl : List (Str × Addr)) (fp : List Addr), PE (Z.X.blk s H scope (compEnvC scope cl C Z.X.env) fp) elt (fun σ H Q => ∃ D acc x, tE (Z.b0 D acc) (u x Γ) (me x) (.fz rb) σ H Q) := fun s H C cl fp =>
    ⟨fun pins s1 σ H1 Q I ⟨D, acc, x, h⟩ => (he s H C cl fp D acc x).pe.run pins s1 σ H1 Q I (tE_blk h)⟩
  refine ⟨wi, _, _, pi, fun s H C cl fp => (hg s H C cl fp 0 (.lst [])).pg, ht2, he2, fun σ H Q ⟨s, G, B, st, q⟩ => ?_⟩
  refine hwi st ?_
  have q : PostE Z Γ (.own (cL rb)) σ Q G ((m s).bnd fun xs => compM mt me xs) := q
  revert q
  induction m s with
  | err x s1 => exact fun q => q
  | stuck => exact fun q => q
  | all av o9 ih9 => exact fun q a9 h9 => ih9 a9 (q a9 h9)
  | ok xs s1 =>
    intro q J H1 G1 B1 g1 st1 w D nD
    have q : PostE Z Γ (.own (cL rb)) σ Q G (bnd (grd (decide (xs.length ≤ sizeLine))) (fun _ => compL mt me xs) s1) := q
    obtain ⟨cz, q⟩ := grd_of q
    have hz := of_decide_eq_true cz
    have q0 : PostE Z Γ (.own (cL rb)) σ Q G1 (leftL mt me [] xs s1) := by
      have e : leftL mt me [] xs = compL mt me xs := by
        unfold leftL
        exact bnd_id _
      rw [e]
      exact PostE.mono g1 q
    have hdD : Z.hd D = none := Same.free st1.held nD
    refine lc_it w (g := g) (tt := fun σ H Q => ∃ D acc x, tT (Z.b0 D acc) (u x Γ) (mt x) σ H Q) (te := fun σ H Q => ∃ D acc x, tE (Z.b0 D acc) (u x Γ) (me x) (.fz rb) σ H Q) (vs := own.map (·.2)) (σ := σ) (Qd := fun H => Q (.ref D) H) (fun i H' => ∃ acc accV s' G' B', Same G1 G' ∧ Sta Z Γ s' G' B' σ H' ∧ H' D = some (.lst accV) ∧ AllP rb G' accV acc ∧ acc.length ≤ i ∧ G' D = none ∧ B' D = none ∧ Z.F.H0 D = none ∧ Off Γ σ D ∧ PostE Z Γ (.own (cL rb)) σ Q G' (leftL mt me acc (xs.drop i) s'))
      ⟨[], [], s1, G1, B1, Same.refl _, st1.laid nD, upd_same, .nil, Nat.le_refl _, Same.free st1.ok.gh nD, Same.free st1.ok.bh nD, st1.ok.fresh nD, st1.offP nD, q0⟩
      (fun i H' _ ⟨_, _, _, G', _, g', st', _⟩ => g'.trans st'.ok.gh) ?_ ?_
    · rintro i v H2 H3 hlt ⟨acc, accV, s', G', B', g', st', hD, ha, hl, gD, bD, fD, oD, q'⟩ ⟨x, hx, hy⟩
      have ed : xs.drop i = x :: xs.drop (i + 1) := by
        obtain ⟨h1, h2⟩ := List.getElem?_eq_some_iff.mp hx
        rw [← h2]
        exact List.drop_eq_getElem_cons h1
      rw [ed, leftL_cons] at q'
      have main : ∀ G2 H4, Same G' G2 → Sta Z Γ s' G2 B' σ H4 → H4 D = some (.lst accV) → G2 D = none → (r x).p v G2 → g v (wipe σ (own.map (·.2))) H4 fun σ2 H5 => wipe σ2 (own.map (·.2)) = wipe σ (own.map (·.2)) ∧ (fun σ H Q => ∃ D acc x, tT (Z.b0 D acc) (u x Γ) (mt x) σ H Q) σ2 H5 fun b H6 =>
          if b = true then (fun σ H Q => ∃ D acc x, tE (Z.b0 D acc) (u x Γ) (me x) (.fz rb) σ H Q) σ2 H6 fun y H7 => ∃ acc, H7 D = some (.lst acc) ∧ acc.length < sizeLine ∧ (fun i H' => ∃ acc accV s' G' B', Same G1 G' ∧ Sta Z Γ s' G' B' σ H' ∧ H' D = some (.lst accV) ∧ AllP rb G' accV acc ∧ acc.length ≤ i ∧ G' D = none ∧ B' D = none ∧ Z.F.H0 D = none ∧ Off Γ σ D ∧ PostE Z Γ (.own (cL rb)) σ Q G' (leftL mt me acc (xs.drop i) s')) (i + 1) (upd H7 D (.lst (acc ++ [y])))
          else (fun i H' => ∃ acc accV s' G' B', Same G1 G' ∧ Sta Z Γ s' G' B' σ H' ∧ H' D = some (.lst accV) ∧ AllP rb G' accV acc ∧ acc.length ≤ i ∧ G' D = none ∧ B' D = none ∧ Z.F.H0 D = none ∧ Off Γ σ D ∧ PostE Z Γ (.own (cL rb)) σ Q G' (leftL mt me acc (xs.drop i) s')) (i + 1) H6 := by
        intro G2 H4 g2 st2 hD2 gD2 hv
        refine (hg Z.X.s_0 Z.X.H_0 0 [] [] D (.lst accV)).go (blk_to (st2.wiped hw hD2 gD2 bD fD oD)) hv kk fun σ2 st3 hσ2 => ?_
        rw [wipe_wipe] at hσ2
        refine ⟨hσ2, D, .lst accV, x, s', G2, B', blk_from st3, ?_⟩
        refine nox_T q' fun cb s2 q' H6 G3 B3 g3 st4 => ?_
        have hD4 : H6 D = some (.lst accV) := st4.held D _ (by show upd Z.hd D (.lst accV) D = _; exact upd_same)
        have off4 := st4.off D (.lst accV) (by show upd Z.hd D (.lst accV) D = _; exact upd_same)
        have st4' := st2.unwiped st4 hw g3 hdD ((hg Z.X.s_0 Z.X.H_0 0 [] [] D (.lst accV)).keep x Γ) hσ2
        have q4 : PostE Z Γ (.own (cL rb)) σ Q G3 ((if cb then bnd (nox (me x)) fun y => leftL mt me (acc ++ [y]) (xs.drop (i + 1)) else leftL mt me acc (xs.drop (i + 1))) s2) := PostE.mono (g2.trans g3) q'
        cases cb with
        | false => exact ⟨acc, accV, s2, G3, B3, (g'.trans g2).trans g3, st4', hD4, ha.mono (g2.trans g3), by omega, off4.1, off4.2.1, fD, oD, q4⟩
        | true =>
          have q4 : PostE Z Γ (.own (cL rb)) σ Q G3 (bnd (nox (me x)) (fun y => leftL mt me (acc ++ [y]) (xs.drop (i + 1))) s2) := q4
          refine ⟨D, .lst accV, x, s2, G3, B3, st4, ?_⟩
          refine nox_E q4 fun y s3 q4 yv H7 G5 B5 g5 st5 hy5 => ?_
          have hD5 : H7 D = some (.lst accV) := st5.held D _ (by show upd Z.hd D (.lst accV) D = _; exact upd_same)
          have off5 := st5.off D (.lst accV) (by show upd Z.hd D (.lst accV) D = _; exact upd_same)
          have st5' := st4'.unwiped st5 hw g5 hdD ((hg Z.X.s_0 Z.X.H_0 0 [] [] D (.lst accV)).keep x Γ) hσ2
          have hlen : accV.length < sizeLine := by rw [ha.length]; omega
          refine ⟨accV, hD5, hlen, acc ++ [y], accV ++ [yv], s3, G5, B5, ((g'.trans g2).trans g3).trans g5, ?_, upd_same, (ha.mono ((g2.trans g3).trans g5)).append (.cons hy5 .nil), by rw [List.length_append]; simp; omega, off5.1, off5.2.1, fD, oD, PostE.mono g5 q4⟩
          refine ⟨st5'.ok.change off5.1 off5.2.1 fD, st5'.res, ⟨st5'.sl.len, st5'.sl.fz, fun k L e => ?_, st5'.sl.ne⟩, st5'.sle, Same.upd_r st5'.held hdD, st5'.off⟩
          obtain ⟨p, o, k1, k2, k3⟩ := st5'.sl.lv k L e
          have ne : p ≠ D := fun zz => oD k L e (by rw [← zz]; exact k1)
          exact ⟨p, o, k1, by rw [upd_ne ne]; exact k2, k3⟩
      rcases hy with ⟨rfl, hv⟩ | ⟨A, vs, rfl, hA, rfl, hv⟩
      · exact main G' H3 (Same.refl _) st' hD gD ((r x).mono g' hv)
      · have gA : Same G' (upd G' A (.tup vs)) := Same.upd_new (Same.free st'.ok.gh hA)
        have ne : D ≠ A := ne_of_none hD hA
        exact main (upd G' A (.tup vs)) _ gA (st'.laidG hA) (by rw [upd_ne ne]; exact hD) (by rw [upd_ne ne]; exact gD) (hv _ (g'.trans gA) upd_same)
    · rintro H' ⟨acc, accV, s', G', B', g', st', hD, ha, hl, gD, bD, fD, oD, q'⟩
      rw [List.drop_length] at q'
      have q' : PostE Z Γ (.own (cL rb)) σ Q G' (ret (acc ++ []) s') := q'
      rw [List.append_nil] at q'
      exact q' (.ref D) H' G' B' (Same.refl _) st' ⟨D, .lst accV, rfl, hD, ⟨accV, rfl, ha⟩, gD, bD, fD, hdD, oD⟩
theorem je_comp {tg iter elt : Expr} {ifs : List Expr} {scope : Scope} {own : List (Str × Nat)} {m : M Z.S (List α)} {r : Rp α} {rb : Rp β} {u : α → Ctx → Ctx} {g : TG} (z : ZOk Z) (hi : JI Z Γ tg iter m r) (mt : α → M Z.S Bool) (me : α → M Z.S β) (ok : BlkOk Z.X.N Z.X.env.scope scope own)
    (hg : ∀ (s : Shared) (H : Hp) (C : Addr) (cl : List (Str × Addr)) (fp : List Addr) (D : Addr) (acc : HO), JG (Z.blk s H scope cl C fp D acc) tg r (own.map (·.2)) u g)
    (ht : ∀ (s : Shared) (H : Hp) (C : Addr) (cl : List (Str × Addr)) (fp : List Addr) (D : Addr) (acc : HO) (x : α), JTs (Z.blk s H scope cl C fp D acc) (u x Γ) ifs (mt x))
    (he : ∀ (s : Shared) (H : Hp) (C : Addr) (cl : List (Str × Addr)) (fp : List Addr) (D : Addr) (acc : HO) (x : α), JE (Z.blk s H scope cl C fp D acc) (u x Γ) elt (me x) (.fz rb))
    (hw : wipeC Γ (own.map (·.2)) = Γ := by rfl) (hks : (own.map (·.2)).all (fun k => decide (k < Γ.length)) = true := by rfl) (hs : ∀ x, foldedSetIterable iter Z.X.env x = pure x := by intro _; rfl) :
    JE Z Γ (.ListComp elt [⟨tg, iter, ifs, 0⟩] scope pos) (bnd m fun xs => compM mt me xs) (.own (cL rb)) := by
  obtain ⟨wi, tt, te, pi, pg, pt, pe, h⟩ := comp_core z hi hg ht he hw hks
  exact ⟨PE.imp (pe_lc z.calm z.nd pi ok pg pt pe hs) h⟩
/-- y = [..], y a local, on one line -/
theorem jb_setLc {T : Type} {Γ' : T → Ctx} {y : Str} {py spos : Pos} {i : Nat} {f : List β → M Z.S (Fl T U ρ)} {tg iter elt : Expr} {ifs : List Expr} {scope : Scope} {own : List (Str × Nat)} {m : M Z.S (List α)} {r : Rp α} {rb : Rp β} {u : α → Ctx → Ctx} {g : TG} (z : ZOk Z) (hi : JI Z Γ tg iter m r) (mt : α → M Z.S Bool) (me : α → M Z.S β) (ok : BlkOk Z.X.N Z.X.env.scope scope own)
    (hg : ∀ (s : Shared) (H : Hp) (C : Addr) (cl : List (Str × Addr)) (fp : List Addr) (D : Addr) (acc : HO), JG (Z.blk s H scope cl C fp D acc) tg r (own.map (·.2)) u g)
    (ht : ∀ (s : Shared) (H : Hp) (C : Addr) (cl : List (Str × Addr)) (fp : List Addr) (D : Addr) (acc : HO) (x : α), JTs (Z.blk s H scope cl C fp D acc) (u x Γ) ifs (mt x))
    (he : ∀ (s : Shared) (H : Hp) (C : Addr) (cl : List (Str × Addr)) (fp : List Addr) (D : Addr) (acc : HO) (x : α), JE (Z.blk s H scope cl C fp D acc) (u x Γ) elt (me x) (.fz rb))
    (hw : wipeC Γ (own.map (·.2)) = Γ := by rfl) (hks : (own.map (·.2)).all (fun k => decide (k < Γ.length)) = true := by rfl) (hs : ∀ x, foldedSetIterable iter Z.X.env x = pure x := by intro _; rfl)
    (hy : Z.X.N[i]? = some y) (hyl : Z.X.env.scope.names.lookup y = some .local) (hr : ∀ v, JB Z (Γ.set i (some (.lv (cL rb v)))) rest (f v) Γ' Γb ρr) (hsw : swapsWith (.ListComp elt [⟨tg, iter, ifs, 0⟩] scope pos) (some (.Name y py)) spos.line Z.X.env = pure true) (hki : i < Γ.length := by exact Nat.le_of_ble_eq_true rfl) (hE : NoE Z.E i := by first | exact NoE.nil | exact NoE.one) :
    JB Z Γ (.Assign [.Name y py] (.ListComp elt [⟨tg, iter, ifs, 0⟩] scope pos) spos :: rest) (bnd (bnd m fun xs => compM mt me xs) f) Γ' Γb ρr := by
  obtain ⟨wi, tt, te, pi, pg, pt, pe, h⟩ := comp_core z hi hg ht he hw hks
  refine ⟨⟨fun pins s0 σ H D I ⟨s, G, B, sta, q⟩ => ?_⟩⟩
  refine wpAny_execs_cons (thn ((ps_setLc z.calm z.nd hy hyl hsw pi ok pg pt pe hs).run pins s0 σ H { D with nx := fun σ' H' => ∃ v, (tS Z (Γ.set i (some (.lv (cL rb v)))) (f v) Γ' Γb ρr) D σ' H' } I ?_) fun fl s1 hq => ?_)
  · refine h _ _ _ (tE.imp (tE_bndB (ρ := .own (cL rb)) sta q) ?_)
    rintro v H1 ⟨y, s1, G1, B1, g1, st1, hy, q1⟩
    exact ⟨y, s1, G1, B1, st1.setO hki hE hy, q1⟩
  · cases fl with
    | next =>
      obtain ⟨σ', H', I', v, zz⟩ := hq
      exact (hr v).ps.run pins s1 σ' H' D I' zz
    | ret v => exact hq
    | brk => exact hq
    | cont => exact hq
end
end DL
set_option Elab.async false
set_option linter.all false
set_option maxRecDepth 100000
namespace DL
open PySem PySem.Spec PyProof.Rows L2
/-! ### promises -/
abbrev CapT := (S : Type) → (S → MP Hp) → Type
structure NoCap (S : Type) (R : S → MP Hp) : Type where
def HasF (F : Fm) {α : Type} (ρ : Res α) (x : α) (v : V) (G B H : Hp) : Prop := match ρ with
  | .fz r => (r x).p v G
  | .own c => ∃ a o, v = .ref a ∧ H a = some o ∧ (c x).p o G ∧ G a = none ∧ B a = none ∧ F.H0 a = none
  | .vw _ _ => False
def PostF (mg : Str → Option Value) {S β : Type} (R : S → MP Hp) (F : Fm) (ρ : Res β) (Q : VK) (E : XK) : Out S β → Prop
  | .ok x s' => ∀ v H' G' B', Ok F G' B' H' → (R s').p B' G' → HasF F ρ x v G' B' H' → Q v H'
  | .err e s' => ∀ cls d H' G' B', Ok F G' B' H' → (R s').p B' G' → errIs mg e cls d G' → E cls d H'
  | .stuck => False
  | .all av g => ∀ a, a ∉ av → PostF mg R F ρ Q E (g a)
def spC (mg : Str → Option Value) {Cap : CapT} {α β : Type} (ra : (S : Type) → (R : S → MP Hp) → Cap S R → α → List V → Hp → Prop) (ρ : Res β) (f : (S : Type) → (R : S → MP Hp) → Cap S R → α → M S β) : Sp := fun vs H Q E =>
  ∃ (S : Type) (R : S → MP Hp) (c : Cap S R) (s : S) (G B : Hp) (x : α), Same G H ∧ Same B H ∧ (∀ a o, G a = some o → B a = none) ∧ (R s).p B G ∧ ra S R c x vs G ∧ PostF mg R ⟨H, G, B⟩ ρ Q E (f S R c x s)
/-- a def by its name -/
structure FnC (P : Program) (w : World) (K : PySem.W.Frag) (mg : Str → Option Value) (base : Heap) (n : Str) (k : Nat) (sp : Sp) : Prop where
  ex : ∃ f fd ps, FnOk P w K mg base (L2.CX P w) k f fd ps sp ∧ mg n = some (.ref f) ∧ PySem.W.keepIn K (.ref f) = true ∧ Binds K fd ps []
section
variable {Z : Zc} {Γ : Ctx} {α β γ T U ρ : Type} {e a b c : Expr} {es : List Expr} {pos p : Pos}
theorem sp_run {Cap : CapT} {ra : (S : Type) → (R : S → MP Hp) → Cap S R → α → List V → Hp → Prop} {ρ : Res β} {f : (S : Type) → (R : S → MP Hp) → Cap S R → α → M S β} (cp : Cap Z.S Z.R) {x : α} {vs : List V} {s : Z.S} {G B : Hp} {σ : L2.St} {H : Hp} {Q : VK} (hρ : ∀ k c, ρ ≠ .vw k c)
    (st : Sta Z Γ s G B σ H) (hx : ra Z.S Z.R cp x vs G) (q : PostE Z Γ ρ σ Q G (f Z.S Z.R cp x s)) : spC Z.X.mg ra ρ f vs H Q (WE Z.W σ) := by
  refine ⟨Z.S, Z.R, cp, s, G, B, x, st.ok.gh, st.ok.bh, st.ok.dj, st.res, hx, ?_⟩
  revert q
  induction f Z.S Z.R cp x s with
  | ok y s1 =>
    intro q v H' G' B' ok r h
    refine q v H' G' B' ok.g0 (st.call ok r) ?_
    cases ρ with
    | fz r => exact h
    | own c =>
      obtain ⟨A, o, h1, h2, h3, h4, h5, h6⟩ := h
      exact ⟨A, o, h1, h2, h3, h4, h5, st.ok.fresh h6, Same.free st.held h6, st.offP h6⟩
    | vw k c => exact (hρ k c rfl).elim
  | err y s1 => exact fun q cls d H' G' B' ok r h => q cls d σ H' G' B' ok.g0 (st.call ok r).nil h
  | stuck => exact fun q => q
  | all av o9 ih9 => exact fun q a9 h9 => ih9 a9 (q a9 h9)
theorem je_call {Cap : CapT} {ra : (S : Type) → (R : S → MP Hp) → Cap S R → α → List V → Hp → Prop} {ρ : Res β} {f : (S : Type) → (R : S → MP Hp) → Cap S R → α → M S β} {n : Str} {k j : Nat} {mk : (γ : Type) → (α → M Z.S γ) → M Z.S γ} (z : ZOk Z) (F : FnC Z.X.prog Z.X.w Z.X.K Z.X.mg Z.X.base n j (spC Z.X.mg ra ρ f))
    (hr : Room k Z.X.A) (cp : Cap Z.S Z.R) (ha : JA Z Γ (e :: es) mk (ra Z.S Z.R cp)) (hg : Gl Z.X n := by rfl) (hj : j ≤ k := by decide) (hρ : ∀ k c, ρ ≠ .vw k c := by intro _ _ h; cases h) (hdb : (n == ("__debug__" : Str)) = false := by decide) (he : starEach (e :: es) Z.X.env = (false, eval e Z.X.env) :: starEach es Z.X.env := by exact star_of rfl) (hpl : (backTo pos (starEach es Z.X.env)).any (·.1) = false := by rfl) :
    JE Z Γ (.Call (.Name n p) (e :: es) [] pos) (mk _ (f Z.S Z.R cp)) ρ := by
  obtain ⟨fa, fd, ps, F1, hm, hk, hb⟩ := F.ex
  obtain ⟨t, ht, hq⟩ := ha.ex
  refine ⟨PE.imp (pe_callS F1 (hr.mono hj) hg hm hk hb (fun σ => passAt z.tk σ) ht hdb he hpl) fun σ H Q ⟨s, G, B, st, q⟩ => ?_⟩
  exact hq st q fun vs H1 x s1 G1 B1 g1 st1 hx q1 => sp_run cp hρ st1 hx q1
/-! ### a def keeps its promise -/
def StartOk (Γ : Ctx) (vs : List V) (G : Hp) : Prop := ∀ (k : Nat) (y : Asn), Γ[k]? = some (some y) → ∃ A v, y = .fz A ∧ vs[k]? = some v ∧ A.p v G
theorem so_nil {vs : List V} {G : Hp} : StartOk [] vs G := fun k y h => by simp at h
theorem so_none {Γ : Ctx} {vs : List V} {G : Hp} (h : StartOk Γ vs.tail G) : StartOk (none :: Γ) vs G := fun k y q => by
  cases k with
  | zero => simp at q
  | succ k =>
    obtain ⟨A, v, h1, h2, h3⟩ := h k y (by simpa using q)
    refine ⟨A, v, h1, ?_, h3⟩
    cases vs with
    | nil => simp at h2
    | cons w vs => simpa using h2
theorem so_some {Γ : Ctx} {A : MP V} {v : V} {vs : List V} {G : Hp} (ha : A.p v G) (h : StartOk Γ vs G) : StartOk (some (.fz A) :: Γ) (v :: vs) G := fun k y q => by
  cases k with
  | zero =>
    have e : Asn.fz A = y := by simpa using q
    exact ⟨A, v, e.symm, rfl, ha⟩
  | succ k =>
    obtain ⟨A', v', h1, h2, h3⟩ := h k y (by simpa using q)
    exact ⟨A', v', h1, by simpa using h2, h3⟩
theorem so_rep {n : Nat} {vs : List V} {G : Hp} : StartOk (List.replicate n none) vs G := fun k y q => by
  rw [List.getElem?_replicate] at q
  split at q
  · cases q
  · cases q
/-- where a def's body runs -/
abbrev ZF (P : Program) (w : World) (K : PySem.W.Frag) (mg : Str → Option Value) (base : Heap) (N : List Str) (qual : Str) (scope : Scope) (f : Addr) (cdv : Value) (A : Around) (outer : List Env) (s : Shared) (H : Hp) (E : XK) (F : Fm) (S : Type) (R : S → MP Hp) : Zc :=
  ⟨cxOf (L2.CX P w) P w K mg base N qual scope f cdv A outer s H E, fun cls d _ H => E cls d H, F, fun _ => none, [], S, R⟩
theorem zf_ok {P : Program} {w : World} {K : PySem.W.Frag} {mg : Str → Option Value} {base : Heap} {N : List Str} {qual : Str} {scope : Scope} {f : Addr} {cdv : Value} {A : Around} {outer : List Env} {s : Shared} {H : Hp} {E : XK} {F : Fm} {S : Type} {R : S → MP Hp} (nd : N.Nodup) :
    ZOk (ZF P w K mg base N qual scope f cdv A outer s H E F S R) := ⟨rfl, passes_of rfl, nd, takes_of rfl rfl rfl rfl⟩
/-- what comes out of a body -/
def Fl.out {S T β : Type} : Fl T Empty β → M S β
  | .rt r => ret r
  | _ => stk
def runF {S T β : Type} (m : M S (Fl T Empty β)) : M S β := bnd m Fl.out
def Fl.outU {S T : Type} : Fl T Empty Unit → M S Unit
  | .rt r => ret r
  | .nx _ => ret ()
  | _ => stk
def runU {S T : Type} (m : M S (Fl T Empty Unit)) : M S Unit := bnd m Fl.outU
theorem start_sta {P : Program} {w : World} {K : PySem.W.Frag} {mg : Str → Option Value} {base : Heap} {N : List Str} {qual : Str} {scope : Scope} {f : Addr} {cdv : Value} {A : Around} {outer : List Env} {s0 : Shared} {H : Hp} {E : XK} {S : Type} {R : S → MP Hp} {s : S} {G B : Hp} {vs : List V} {Γ0 : Ctx}
    (gh : Same G H) (bh : Same B H) (dj : ∀ a o, G a = some o → B a = none) (r : (R s).p B G) (hl : Γ0.length ≤ N.length) (hv : vs.length ≤ N.length) (h : StartOk Γ0 vs G) : Sta (ZF P w K mg base N qual scope f cdv A outer s0 H E ⟨H, G, B⟩ S R) Γ0 s G B (L2.start N vs) H := by
  have sl : (L2.start N vs).length = N.length := by
    unfold L2.start
    rw [List.length_append, List.length_map, List.length_replicate]
    omega
  have at_ : ∀ (k : Nat) (v : V), vs[k]? = some v → (L2.start N vs)[k]? = some (some v) := fun k v e => by
    unfold L2.start
    obtain ⟨h1, h2⟩ := List.getElem?_eq_some_iff.mp e
    rw [List.getElem?_append_left (by rw [List.length_map]; exact h1), List.getElem?_map, e]
    rfl
  refine ⟨Ok.refl (F := ⟨H, G, B⟩) gh bh dj, r, ⟨by rw [sl]; exact hl, fun k A' e => ?_, fun k L e => ?_, fun k j L L' a e => ?_⟩, ⟨Nat.zero_le _, fun k A' e => by simp at e⟩, (fun a o e => by cases e), (fun a o e => by cases e)⟩
  · obtain ⟨A2, v, h1, h2, h3⟩ := h k _ e
    cases h1
    exact ⟨v, at_ k v h2, h3⟩
  · obtain ⟨A2, v, h1, h2, h3⟩ := h k _ e
    cases h1
  · obtain ⟨A2, v, h1, h2, h3⟩ := h k _ e
    cases h1
section
variable {P : Program} {w : World} {K : PySem.W.Frag} {mg : Str → Option Value} {base : Heap} {x qual : Str} {params : Arguments} {body : List Stmt} {scope : Scope} {dvs : List V} {kws : List (Str × V)} {fa : Addr} {fd : FuncData} {N ps : List Str} {k : Nat}
theorem fn_mk {Cap : CapT} {ra : (S : Type) → (R : S → MP Hp) → Cap S R → α → List V → Hp → Prop} {ρ : Res β} {f : (S : Type) → (R : S → MP Hp) → Cap S R → α → M S β} {mb : (S : Type) → (R : S → MP Hp) → Cap S R → α → M S (Fl T Empty β)} {Γ0 : (S : Type) → (R : S → MP Hp) → Cap S R → α → Ctx} {Γ' : T → Ctx} {Γb : Empty → Ctx}
    (F : FunD K x qual params body scope dvs kws fa fd) (S : FnScope N ps scope) (hlen : ∀ S R c x vs G, ra S R c x vs G → vs.length = ps.length) (hf : ∀ S R c x, f S R c x = runF (mb S R c x)) (hΓ : ∀ S R c x vs G, ra S R c x vs G → StartOk (Γ0 S R c x) vs G) (hN : ∀ S R c x, (Γ0 S R c x).length ≤ N.length) (hps : ps.length ≤ N.length)
    (hb : ∀ (cdv : Value) (A : Around) (outer : List Env) (s : Shared) (H : Hp) (E : XK) (Fm : Fm) (S : Type) (R : S → MP Hp) (c : Cap S R) (y : α), Room k (A.deeper (envOfC qual scope s.heap.objs.size fa cdv)) → ZOk (ZF P w K mg base N qual scope fa cdv A outer s H E Fm S R) →
      JB (ZF P w K mg base N qual scope fa cdv A outer s H E Fm S R) (Γ0 S R c y) body (mb S R c y) Γ' Γb ρ) : FnOk P w K mg base (L2.CX P w) (k + 1) fa fd ps (spC mg ra ρ f) := by
  refine F.ok S (fun vs H Q E ⟨S', R, c, s, G, B, y, gh, bh, dj, r, hra, q⟩ => hlen S' R c y vs G hra) fun cdv A outer s0 H vs Q E hr ⟨S', R, c, s, G, B, y, gh, bh, dj, r, hra, q⟩ => ?_
  have z : ZOk (ZF P w K mg base N qual scope fa cdv A outer s0 H E ⟨H, G, B⟩ S' R) := zf_ok S.nd
  refine ⟨_, (hb cdv A outer s0 H E ⟨H, G, B⟩ S' R c y hr z).ps, s, G, B, start_sta gh bh dj r (hN S' R c y) (by rw [hlen S' R c y vs G hra]; exact hps) (hΓ S' R c y vs G hra), ?_⟩
  rw [hf] at q
  have q : PostF mg R ⟨H, G, B⟩ ρ Q E ((mb S' R c y s).bnd Fl.out) := q
  revert q
  induction mb S' R c y s with
  | ok fl s1 =>
    cases fl with
    | rt v =>
      intro q u σ' H' G' B' g st h
      refine q u H' G' B' st.ok st.res ?_
      cases ρ with
      | fz r => exact h
      | own cc =>
        obtain ⟨a, o, h1, h2, h3, h4, h5, h6, _⟩ := h
        exact ⟨a, o, h1, h2, h3, h4, h5, h6⟩
      | vw j cc =>
        obtain ⟨h1, _⟩ := h
        simp at h1
    | nx t => exact fun q => q.elim
    | bk u => exact fun q => q.elim
    | ct u => exact fun q => q.elim
  | err e s1 => exact fun q cls d σ' H' G' B' g st h => q cls d H' G' B' st.ok st.res h
  | stuck => exact fun q => q
  | all av o9 ih9 => exact fun q a9 h9 => ih9 a9 (q a9 h9)
theorem fn_mkU {Cap : CapT} {ra : (S : Type) → (R : S → MP Hp) → Cap S R → α → List V → Hp → Prop} {f : (S : Type) → (R : S → MP Hp) → Cap S R → α → M S Unit} {mb : (S : Type) → (R : S → MP Hp) → Cap S R → α → M S (Fl T Empty Unit)} {Γ0 : (S : Type) → (R : S → MP Hp) → Cap S R → α → Ctx} {Γ' : T → Ctx} {Γb : Empty → Ctx}
    (F : FunD K x qual params body scope dvs kws fa fd) (S : FnScope N ps scope) (hlen : ∀ S R c x vs G, ra S R c x vs G → vs.length = ps.length) (hf : ∀ S R c x, f S R c x = runU (mb S R c x)) (hΓ : ∀ S R c x vs G, ra S R c x vs G → StartOk (Γ0 S R c x) vs G) (hN : ∀ S R c x, (Γ0 S R c x).length ≤ N.length) (hps : ps.length ≤ N.length)
    (hb : ∀ (cdv : Value) (A : Around) (outer : List Env) (s : Shared) (H : Hp) (E : XK) (Fm : Fm) (S : Type) (R : S → MP Hp) (c : Cap S R) (y : α), Room k (A.deeper (envOfC qual scope s.heap.objs.size fa cdv)) → ZOk (ZF P w K mg base N qual scope fa cdv A outer s H E Fm S R) →
      JB (ZF P w K mg base N qual scope fa cdv A outer s H E Fm S R) (Γ0 S R c y) body (mb S R c y) Γ' Γb (.fz rU)) : FnOk P w K mg base (L2.CX P w) (k + 1) fa fd ps (spC mg ra (.fz rU) f) := by
  refine F.ok S (fun vs H Q E ⟨S', R, c, s, G, B, y, gh, bh, dj, r, hra, q⟩ => hlen S' R c y vs G hra) fun cdv A outer s0 H vs Q E hr ⟨S', R, c, s, G, B, y, gh, bh, dj, r, hra, q⟩ => ?_
  have z : ZOk (ZF P w K mg base N qual scope fa cdv A outer s0 H E ⟨H, G, B⟩ S' R) := zf_ok S.nd
  refine ⟨_, (hb cdv A outer s0 H E ⟨H, G, B⟩ S' R c y hr z).ps, s, G, B, start_sta gh bh dj r (hN S' R c y) (by rw [hlen S' R c y vs G hra]; exact hps) (hΓ S' R c y vs G hra), ?_⟩
  rw [hf] at q
  have q : PostF mg R ⟨H, G, B⟩ (.fz rU) Q E ((mb S' R c y s).bnd Fl.outU) := q
  revert q
  induction mb S' R c y s with
  | ok fl s1 =>
    cases fl with
    | rt v => exact fun q u σ' H' G' B' g st h => q u H' G' B' st.ok st.res h
    | nx t => exact fun q σ' H' G' B' g st => q .non H' G' B' st.ok st.res rfl
    | bk u => exact fun q => q.elim
    | ct u => exact fun q => q.elim
  | err e s1 => exact fun q cls d σ' H' G' B' g st h => q cls d H' G' B' st.ok st.res h
  | stuck => exact fun q => q
  | all av o9 ih9 => exact fun q a9 h9 => ih9 a9 (q a9 h9)
end
/-! ### the bag of draws -/
structure Bag where
  scr : List Int
  at_ : Int
  val : Int
  mix : Int
  cnt : Int
  av : List Addr
structure BagIn (S : Type) where
  get : S → Bag
  set : S → Bag → S
def rBag (ab : Addr) : Rp Unit := fun _ => ⟨fun v _ => v = .ref ab, fun _ h => h⟩
/-- the resource holds a bag at ab; its numbers at al -/
structure BagR {S : Type} (b : BagIn S) (R : S → MP Hp) (ab al : Addr) : Prop where
  has : ∀ {s : S} {B G : Hp}, (R s).p B G → B ab = some (.lst [.ref al, .int (b.get s).at_, .int (b.get s).val, .int (b.get s).mix, .int (b.get s).cnt]) ∧ B al = some (.lst ((b.get s).scr.map V.int))
  put : ∀ {s : S} {B G : Hp} (i v m n : Int), (R s).p B G → (R (b.set s ⟨(b.get s).scr, i, v, m, n, (b.get s).av⟩)).p (upd B ab (.lst [.ref al, .int i, .int v, .int m, .int n])) G
structure BagC (S : Type) (R : S → MP Hp) : Type where
  b : BagIn S
  ab : Addr
  al : Addr
  ok : BagR b R ab al
end
end DL
set_option Elab.async false
set_option linter.all false
set_option maxRecDepth 100000
namespace DL
open PySem PySem.Spec PyProof.Rows L2
/-! ### list.remove of a flat thing -/
section
variable {X : Cx}
def rRemV : V → List V → Hp → VK → Prop := fun x vs H Q => ∃ (l : Addr) (ys : List V) (y : V) (j : Nat) (z : V), x = .ref l ∧ vs = [y] ∧ H l = some (.lst ys) ∧ flatV y = true ∧ ys.all flatV = true ∧ ys[j]? = some z ∧ eqV z y = true ∧
  (∀ (m : Nat) (z' : V), m < j → ys[m]? = some z' → eqV z' y = false) ∧ Q .non (upd H l (.lst (ys.eraseIdx j)))
theorem mt_removeV : MtM X "list.remove" rRemV := by
  intro pins s σ H x xs v us Q I rx rxs h
  obtain ⟨l, ys, y, j, z, rfl, rfl, hH, fy, fys, hz, hzj, hno, q⟩ := h
  cases rx
  cases rxs with
  | cons ry rt =>
    rename_i uy ut
    cases rt
    obtain ⟨zl, its, n, r, hl, e⟩ := I.lstM hH
    obtain ⟨u, hu, ru⟩ := r.get hz
    obtain ⟨hjl, hje⟩ := List.getElem?_eq_some_iff.mp hu
    have hvl := r.length
    have hj : j < its.toArray.size := by simpa using hjl
    have hsl := sizeLine_eq
    refine call_meets PySem.F.slot_list_remove ⟨_, e, rfl⟩ PySem.F.entry_list_remove (PySem.F.args_list_remove_2 _ _)
      (PySem.SeqAt.list_removeAt l its.toArray n _ _ uy (eqU y) j hj ?_ ?_ (by rw [List.size_toArray]; omega)) ⟨e, fun u' hu' => mem_eqAt ry fy r fys u' (by simpa using hu'), ?_⟩
    · have e1 : its.toArray[j] = u := by simpa using hje
      rw [e1, eqU_of ru (flat_at fys hz)]
      exact hzj
    · intro m hm hmj
      have hml : m < its.length := by simpa using hm
      have hmy : m < ys.length := by omega
      have hy' : ys[m]? = some ys[m] := List.getElem?_eq_getElem hmy
      obtain ⟨u2, hu2, ru2⟩ := r.get hy'
      obtain ⟨_, hme⟩ := List.getElem?_eq_some_iff.mp hu2
      have e1 : its.toArray[m] = u2 := by simpa using hme
      rw [e1, eqU_of ru2 (flat_at fys hy')]
      exact hno m _ hmj hy'
    · refine ⟨.non, _, I.lset (its' := its.eraseIdx j) (t' := s.toks) hH e ?_ (r.eraseIdx j) ?_, rfl, q⟩
      · show its.toArray.eraseIdxIfInBounds j = (its.eraseIdx j).toArray
        rw [List.eraseIdxIfInBounds_toArray]
      · have z2 := len_erase ys j
        omega
end
section
variable {Z : Zc} {Γ : Ctx} {α β γ T U ρ : Type} {e a b c : Expr} {es : List Expr} {pos p : Pos} {Γ' : T → Ctx} {Γb : U → Ctx} {ρr : Res ρ} {rest : List Stmt}
/-! ### arguments -/
theorem len_raN {x : Unit} {vs : List V} {G : Hp} (h : raN x vs G) : vs.length = 0 := by rw [show vs = [] from h]; rfl
theorem len_raC {r : Rp α} {ra : β → List V → Hp → Prop} {n : Nat} (h : ∀ {x vs G}, ra x vs G → vs.length = n) {x : α × β} {vs : List V} {G : Hp} (q : raC r ra x vs G) : vs.length = n + 1 := by
  obtain ⟨v, ws, rfl, _, h2⟩ := q
  rw [List.length_cons, h h2]
theorem so_raN {n : Nat} {x : Unit} {vs : List V} {G : Hp} (h : raN x vs G) : StartOk (List.replicate n none) vs G := so_rep
theorem so_raC {r : Rp α} {ra : β → List V → Hp → Prop} {Γ0 : Ctx} {x : α × β} {vs : List V} {G : Hp} (h : ∀ {ws}, ra x.2 ws G → StartOk Γ0 ws G) (q : raC r ra x vs G) : StartOk (some (.fz (r x.1)) :: Γ0) vs G := by
  obtain ⟨v, ws, rfl, h1, h2⟩ := q
  exact so_some h1 (h h2)
theorem Room.hu {k : Nat} {A : Around} (r : Room k A) : A.units + 65 < cLine := by have := r.un; omega
/-! ### texts and numbers of the module -/
theorem je_globS {n x : Str} (hg : Gl Z.X n) (hm : ∃ t, Z.X.mg n = some (.str x t)) (hd : (n == ("__debug__" : Str)) = false := by decide) : JE Z Γ (.Name n pos) (ret x) (.fz rS) := by
  obtain ⟨t, hm⟩ := hm
  exact je_glob (v := .str x) hg hm ⟨t, rfl⟩ (fun _ => rfl) hd
theorem je_globI {n : Str} {x : Int} (hg : Gl Z.X n) (hm : ∃ t, Z.X.mg n = some (.int x t)) (hd : (n == ("__debug__" : Str)) = false := by decide) : JE Z Γ (.Name n pos) (ret x) (.fz rI) := by
  obtain ⟨t, hm⟩ := hm
  exact je_glob (v := .int x) hg hm ⟨t, rfl⟩ (fun _ => rfl) hd
/-! ### one sign in a text -/
theorem sign_of {c : Str} {x : Nat} (h : (match c.cps.toList with | [x] => some x | _ => none) = some x) : c = ⟨#[x]⟩ := by
  obtain ⟨⟨l⟩⟩ := c
  match l, h with
  | [y], h => 
    injection h with h
    rw [h]
theorem je_inSg {ma mb : M Z.S Str} (ha : JE Z Γ a ma (.fz rS)) (hb : JE Z Γ b mb (.fz rS)) (hm : behindInMarks .In b = false := by rfl) : JE Z Γ (.Compare a [.In] [b] pos) (bnd ma fun x => bnd mb fun y => inSM x y) (.fz rB) :=
  je_two (fun x y => inSM x y) (.fz rB) (fun _ _ p q => pe_cmpR op_in_sign p q hm) ha hb fun x y v w s G B σ H Q st hv hw q => by
    obtain ⟨c, ec, q⟩ := opt_of q
    exact ⟨c, y, by rw [show v = .str x from hv, sign_of ec], hw, fin q st rfl⟩
theorem jt_inSg {ma mb : M Z.S Str} (ha : JE Z Γ a ma (.fz rS)) (hb : JE Z Γ b mb (.fz rS)) (hm : behindInMarks .In b = false := by rfl) : JT Z Γ (.Compare a [.In] [b] pos) (bnd ma fun x => bnd mb fun y => inSM x y) :=
  jt_two (fun x y => inSM x y) (fun _ _ p q => pt_cmpR op_in_sign p q hm) ha hb fun x y v w s G B σ H Q st hv hw q => by
    obtain ⟨c, ec, q⟩ := opt_of q
    exact ⟨c, y, by rw [show v = .str x from hv, sign_of ec], hw, fin q st rfl⟩
def ninSM {S : Type} (c z : Str) : M S Bool := bnd (opt (match c.cps.toList with | [x] => some x | _ => none)) fun x => ret (!decide (x ∈ z.cps.toList))
theorem je_ninSg {ma mb : M Z.S Str} (ha : JE Z Γ a ma (.fz rS)) (hb : JE Z Γ b mb (.fz rS)) (hm : behindInMarks .NotIn b = false := by rfl) : JE Z Γ (.Compare a [.NotIn] [b] pos) (bnd ma fun x => bnd mb fun y => ninSM x y) (.fz rB) :=
  je_two (fun x y => ninSM x y) (.fz rB) (fun _ _ p q => pe_cmpR op_notIn_sign p q hm) ha hb fun x y v w s G B σ H Q st hv hw q => by
    obtain ⟨c, ec, q⟩ := opt_of q
    exact ⟨c, y, by rw [show v = .str x from hv, sign_of ec], hw, fin q st rfl⟩
theorem jt_ninSg {ma mb : M Z.S Str} (ha : JE Z Γ a ma (.fz rS)) (hb : JE Z Γ b mb (.fz rS)) (hm : behindInMarks .NotIn b = false := by rfl) : JT Z Γ (.Compare a [.NotIn] [b] pos) (bnd ma fun x => bnd mb fun y => ninSM x y) :=
  jt_two (fun x y => ninSM x y) (fun _ _ p q => pt_cmpR op_notIn_sign p q hm) ha hb fun x y v w s G B σ H Q st hv hw q => by
    obtain ⟨c, ec, q⟩ := opt_of q
    exact ⟨c, y, by rw [show v = .str x from hv, sign_of ec], hw, fin q st rfl⟩
/-! ### is None -/
theorem rO_non {r : Rp α} {x : Option α} {v : V} {G : Hp} (nn : ∀ {y : α} {v : V} {G : Hp}, (r y).p v G → v ≠ .non) (h : (rO r x).p v G) : decide (v = .non) = x.isNone := by
  cases x with
  | none => rw [show v = .non from h]; rfl
  | some y => rw [decide_eq_false (nn (show (r y).p v G from h))]; rfl
theorem jt_isN {j : Nat} {p2 : Pos} {r : Rp α} {m : M Z.S (Option α)} (nn : ∀ {y : α} {v : V} {G : Hp}, (r y).p v G → v ≠ .non) (h : JE Z Γ a m (.fz (rO r))) : JT Z Γ (.Compare a [.Is] [.Constant .none j p2] pos) (bnd m fun x => bnd (ret ()) fun _ => ret x.isNone) :=
  jt_two (ρb := rU) (fun x _ => ret x.isNone) (fun _ _ p q => pt_cmpR op_isN p q (nomark _)) h je_non fun x y v w s G B σ H Q st hv hw q => ⟨hw, by rw [rO_non nn hv]; exact fin q st rfl⟩
/-! ### unpacking, remove, reverse -/
theorem jb_unpack {tg : Expr} {r : Rp α} {ks : List Nat} {u : α → Ctx → Ctx} {g : TG} {m : M Z.S α} {f : α → M Z.S (Fl T U ρ)} (he : JE Z Γ e m (.fz r)) (hg : JG Z tg r ks u g) (hr : ∀ v, JB Z (u v Γ) rest (f v) Γ' Γb ρr) (hp : ∀ te, PE Z.X e te → PS Z.X (.Assign [tg] e pos) (tAsg te g)) (hks : ks.all (fun k => decide (k < Γ.length)) = true := by rfl) (hE : ∀ k ∈ ks, NoE Z.E k := by first | exact fun _ _ => NoE.nil | exact NoE.ones rfl) : JB Z Γ (.Assign [tg] e pos :: rest) (bnd m f) Γ' Γb ρr := by
  refine ⟨⟨fun pins s0 σ H D I ⟨s, G, B, sta, q⟩ => ?_⟩⟩
  refine wpAny_execs_cons (thn ((hp _ he.pe).run pins s0 σ H { D with nx := fun σ' H' => ∃ v, (tS Z (u v Γ) (f v) Γ' Γb ρr) D σ' H' } I ?_) fun fl s1 hq => ?_)
  · refine tE.imp (tE_bndB (ρ := .fz r) sta q) ?_
    rintro v H1 ⟨y, s1, G1, B1, g1, st1, hy, q1⟩
    exact hg.go st1 hy (fun k hk => ⟨of_decide_eq_true (List.all_eq_true.mp hks k hk), hE k hk⟩) fun σ' st2 _ => ⟨y, s1, G1, B1, st2, q1⟩
  · cases fl with
    | next =>
      obtain ⟨σ', H', I', v, zz⟩ := hq
      exact (hr v).ps.run pins s1 σ' H' D I' zz
    | ret v => exact hq
    | brk => exact hq
    | cont => exact hq
def remM {S : Type} [DecidableEq α] (xs : List α) (x : α) : M S (List α) := bnd (grd (decide (x ∈ xs))) fun _ => ret (xs.erase x)
theorem rem_all [DecidableEq α] {r : Rp α} (F : FlatR r) {G : Hp} {x : α} {v : V} (hx : (r x).p v G) : ∀ {vs : List V} {xs : List α}, AllP r G vs xs → x ∈ xs → ∃ j z, vs[j]? = some z ∧ eqV z v = true ∧ (∀ (m : Nat) (z' : V), m < j → vs[m]? = some z' → eqV z' v = false) ∧ AllP r G (vs.eraseIdx j) (xs.erase x)
  | _, _, .nil => fun h => by cases h
  | _, _, .cons (a := w) (b := y) (l₁ := ws) (l₂ := ys) h t => fun hm => by
    by_cases e : y = x
    · refine ⟨0, w, rfl, by rw [F.eq h hx, decide_eq_true e], fun m z' hm => by omega, ?_⟩
      rw [e, List.erase_cons_head]
      exact t
    · have hm' : x ∈ ys := by
        rcases List.mem_cons.mp hm with z | z
        · exact absurd z.symm e
        · exact z
      obtain ⟨j, z, h1, h2, h3, h4⟩ := rem_all F hx t hm'
      refine ⟨j + 1, z, by simpa using h1, h2, fun m z' hmj hz => ?_, ?_⟩
      · cases m with
        | zero =>
          have : w = z' := by simpa using hz
          rw [← this, F.eq h hx, decide_eq_false e]
        | succ m => exact h3 m z' (by omega) (by simpa using hz)
      · rw [List.erase_cons_tail (by simpa using e)]
        exact .cons h h4
theorem jb_remove [DecidableEq α] {k : Nat} {n : Str} {pn apos pos2 : Pos} {r : Rp α} (F : FlatR r) {xs : List α} {m : M Z.S α} {f : List α → M Z.S (Fl T U ρ)} (hk : Γ[k]? = some (some (.lv (cL r xs)))) (hn : PE Z.X (.Name n pn) (tVar k)) (he : JE Z Γ e m (.fz r)) (hr : ∀ y, JB Z (Γ.set k (some (.lv (cL r y)))) rest (f y) Γ' Γb ρr)
    (hp : PS Z.X (.Expr (.Call (.Attribute (.Name n pn) "remove" apos) [e] [] pos) pos2) (tDrop (tBM Z.X.K "list" rRemV (tVar k) (tCons (tE Z Γ m (.fz r)) tNil)))) : JB Z Γ (.Expr (.Call (.Attribute (.Name n pn) "remove" apos) [e] [] pos) pos2 :: rest) (bnd m fun x => bnd (remM xs x) f) Γ' Γb ρr := by
  have e1 : (bnd m fun x => bnd (remM xs x) f) = bnd (bnd m fun x => remM xs x) f := by rw [bnd_assoc]
  rw [e1]
  refine jb_chg (m := bnd m fun x => remM xs x) (cc := cL r) hk hp (fun s G B σ H D st p hs q fin => ?_) hr
  obtain ⟨o, ho, ws, rfl, hws⟩ := st.at_ hk hs
  refine ⟨_, hs, .inl ⟨rfl, ws, SqL.of ho⟩, ?_⟩
  rw [bnd_assoc] at q
  refine tE.imp (tE_bndB (ρ := .fz r) st q) ?_
  rintro v H1 ⟨y, s1, G1, B1, g1, st1, hy, q1⟩
  obtain ⟨o1, ho1, ws1, rfl, hws1⟩ := st1.at_ hk hs
  unfold remM at q1
  rw [bnd_assoc] at q1
  obtain ⟨c, q1⟩ := grd_ofB q1
  obtain ⟨j, z, h1, h2, h3, h4⟩ := rem_all F hy hws1 (of_decide_eq_true c)
  refine ⟨p, ws1, v, j, z, rfl, rfl, ho1, F.flat hy, flat_all F hws1, h1, h2, h3, xs.erase y, ?_⟩
  exact fin (xs.erase y) s1 G1 B1 H1 _ g1 st1 ⟨_, rfl, h4⟩ q1
theorem all_rev {r : Rp α} {G : Hp} : ∀ {vs : List V} {xs : List α}, AllP r G vs xs → AllP r G vs.reverse xs.reverse
  | _, _, .nil => .nil
  | _, _, .cons h t => by
    rw [List.reverse_cons, List.reverse_cons]
    exact (all_rev t).append (.cons h .nil)
theorem jb_reverse {k : Nat} {n : Str} {pn apos pos2 : Pos} {r : Rp α} {xs : List α} {f : List α → M Z.S (Fl T U ρ)} (hk : Γ[k]? = some (some (.lv (cL r xs)))) (hn : PE Z.X (.Name n pn) (tVar k)) (hr : ∀ y, JB Z (Γ.set k (some (.lv (cL r y)))) rest (f y) Γ' Γb ρr)
    (hp : PS Z.X (.Expr (.Call (.Attribute (.Name n pn) "reverse" apos) [] [] pos) pos2) (tDrop (tBM0 Z.X.K "list" rReverse (tVar k)))) : JB Z Γ (.Expr (.Call (.Attribute (.Name n pn) "reverse" apos) [] [] pos) pos2 :: rest) (bnd (ret xs.reverse) f) Γ' Γb ρr := by
  refine jb_chg (m := ret xs.reverse) (cc := cL r) hk hp (fun s G B σ H D st p hs q fin => ?_) hr
  obtain ⟨o, ho, ws, rfl, hws⟩ := st.at_ hk hs
  refine ⟨_, hs, .inl ⟨rfl, ws, SqL.of ho⟩, p, ws, rfl, rfl, ho, xs.reverse, ?_⟩
  exact fin xs.reverse s G B H _ (Same.refl _) st ⟨_, rfl, all_rev hws⟩ q
theorem jb_pass {f : M Z.S (Fl T U ρ)} (h : JB Z Γ rest f Γ' Γb ρr) : JB Z Γ (.Pass pos :: rest) f Γ' Γb ρr := by
  refine ⟨⟨fun pins s0 σ H D I ⟨s, G, B, sta, q⟩ => ?_⟩⟩
  refine wpAny_execs_cons (thn (ps_pass.run pins s0 σ H { D with nx := (tS Z Γ f Γ' Γb ρr) D } I ⟨s, G, B, sta, q⟩) fun fl s1 hq => ?_)
  cases fl with
  | next =>
    obtain ⟨σ', H', I', zz⟩ := hq
    exact h.ps.run pins s1 σ' H' D I' zz
  | ret v => exact hq
  | brk => exact hq
  | cont => exact hq
end
end DL
namespace DL
open PySem L2
/-- what is known, by another name -/
theorem jb_cx {Z : Zc} {Γ Γ2 : Ctx} {T U ρ : Type} {sts : List Stmt} {m : M Z.S (Fl T U ρ)} {Γ' : T → Ctx} {Γb : U → Ctx} {ρr : Res ρ} (h : JB Z Γ2 sts m Γ' Γb ρr) (e : Γ = Γ2 := by rfl) : JB Z Γ sts m Γ' Γb ρr := e ▸ h
end DL
namespace DL
open PySem L2
theorem Room.hu1 {k : Nat} {A : Around} (r : Room k A) : A.units + 1 < cLine := by have := r.un; omega
section
variable {Z : Zc} {Γ : Ctx} {α : Type} {a b : Expr} {pos : Pos} [DecidableEq α]
theorem je_inL {r : Rp α} (F : FlatR r) {ma : M Z.S α} {mb : M Z.S (List α)} (ha : JE Z Γ a ma (.fz r)) (hb : JE Z Γ b mb (.fz (rL r))) (hm : behindInMarks .In b = false := by rfl) : JE Z Γ (.Compare a [.In] [b] pos) (bnd ma fun x => bnd mb fun y => ret (decide (x ∈ y))) (.fz rB) :=
  je_two (fun x y => ret (decide (x ∈ y))) (.fz rB) (fun _ _ p q => pe_cmpR op_in_seq p q hm) ha hb fun x y v w s G B σ H Q st hv ⟨p, ws, ew, hp, hws⟩ q =>
    ⟨p, ws, ew, .inl (SqL.of (st.ok.gh _ _ hp)), F.flat hv, flat_all F hws, by rw [in_all F hv hws]; exact fin q st rfl⟩
theorem jt_inL {r : Rp α} (F : FlatR r) {ma : M Z.S α} {mb : M Z.S (List α)} (ha : JE Z Γ a ma (.fz r)) (hb : JE Z Γ b mb (.fz (rL r))) (hm : behindInMarks .In b = false := by rfl) : JT Z Γ (.Compare a [.In] [b] pos) (bnd ma fun x => bnd mb fun y => ret (decide (x ∈ y))) :=
  jt_two (fun x y => ret (decide (x ∈ y))) (fun _ _ p q => pt_cmpR op_in_seq p q hm) ha hb fun x y v w s G B σ H Q st hv ⟨p, ws, ew, hp, hws⟩ q =>
    ⟨p, ws, ew, .inl (SqL.of (st.ok.gh _ _ hp)), F.flat hv, flat_all F hws, by rw [in_all F hv hws]; exact fin q st rfl⟩
theorem je_ninL {r : Rp α} (F : FlatR r) {ma : M Z.S α} {mb : M Z.S (List α)} (ha : JE Z Γ a ma (.fz r)) (hb : JE Z Γ b mb (.fz (rL r))) (hm : behindInMarks .NotIn b = false := by rfl) : JE Z Γ (.Compare a [.NotIn] [b] pos) (bnd ma fun x => bnd mb fun y => ret (!decide (x ∈ y))) (.fz rB) :=
  je_two (fun x y => ret (!decide (x ∈ y))) (.fz rB) (fun _ _ p q => pe_cmpR op_notIn_seq p q hm) ha hb fun x y v w s G B σ H Q st hv ⟨p, ws, ew, hp, hws⟩ q =>
    ⟨p, ws, ew, .inl (SqL.of (st.ok.gh _ _ hp)), F.flat hv, flat_all F hws, by rw [in_all F hv hws]; exact fin q st rfl⟩
theorem jt_ninL {r : Rp α} (F : FlatR r) {ma : M Z.S α} {mb : M Z.S (List α)} (ha : JE Z Γ a ma (.fz r)) (hb : JE Z Γ b mb (.fz (rL r))) (hm : behindInMarks .NotIn b = false := by rfl) : JT Z Γ (.Compare a [.NotIn] [b] pos) (bnd ma fun x => bnd mb fun y => ret (!decide (x ∈ y))) :=
  jt_two (fun x y => ret (!decide (x ∈ y))) (fun _ _ p q => pt_cmpR op_notIn_seq p q hm) ha hb fun x y v w s G B σ H Q st hv ⟨p, ws, ew, hp, hws⟩ q =>
    ⟨p, ws, ew, .inl (SqL.of (st.ok.gh _ _ hp)), F.flat hv, flat_all F hws, by rw [in_all F hv hws]; exact fin q st rfl⟩
end
end DL
namespace DL
theorem ret_bnd {S α β : Type} (a : α) (f : α → M S β) : bnd (ret a) f = f a := funext fun s => by
  unfold bnd ret
  exact rfl
end DL
set_option Elab.async false
set_option linter.all false
set_option maxRecDepth 100000
namespace DL
open PySem PySem.Spec PyProof.Rows L2
/-! ### what is never reached -/
section
variable {Z : Zc} {Γ : Ctx} {α β γ T U ρ : Type} {e a b c : Expr} {es : List Expr} {pos p : Pos} {Γ' : T → Ctx} {Γb : U → Ctx} {ρr : Res ρ} {rest : List Stmt}
theorem je_stk {r : Res α} : JE Z Γ e (stk : M Z.S α) r := ⟨⟨fun pins s σ H Q I ⟨s0, G, B, st, q⟩ => q.elim⟩⟩
theorem js_stk {st : Stmt} : JS Z Γ st (stk : M Z.S (Fl T U ρ)) Γ' Γb ρr := ⟨⟨fun pins s σ H D I ⟨s0, G, B, st, q⟩ => q.elim⟩⟩
theorem jb_stk {sts : List Stmt} : JB Z Γ sts (stk : M Z.S (Fl T U ρ)) Γ' Γb ρr := ⟨⟨fun pins s σ H D I ⟨s0, G, B, st, q⟩ => q.elim⟩⟩
end
/-! ### instances: attributes -/
def FP (G : Hp) : List (Str × V) → List (Str × MP V) → Prop := Paired fun v f => v.1 = f.1 ∧ f.2.p v.2 G
theorem FP.mono {G G' : Hp} (e : Same G G') : ∀ {vs : List (Str × V)} {fs : List (Str × MP V)}, FP G vs fs → FP G' vs fs
  | _, _, .nil => .nil
  | _, _, .cons h t => .cons ⟨h.1, (MP.mono _) e h.2⟩ (FP.mono e t)
theorem FP.get {G : Hp} {f : Str} {A : MP V} : ∀ {vs : List (Str × V)} {fs : List (Str × MP V)}, FP G vs fs → fs.lookup f = some A → ∃ v, vs.lookup f = some v ∧ A.p v G
  | _, _, .nil => fun h => by cases h
  | (n, v) :: vs, (m, B) :: fs, .cons h t => fun q => by
    have e : n = m := h.1
    subst e
    rw [List.lookup_cons] at q ⊢
    cases hb : f == n with
    | true =>
      rw [hb] at q
      injection q with q
      subst q
      exact ⟨v, rfl, h.2⟩
    | false =>
      rw [hb] at q
      exact FP.get t q
def putM (f : Str) (A : MP V) : List (Str × MP V) → List (Str × MP V)
  | [] => [(f, A)]
  | (g, x) :: r => if g = f then (g, A) :: r else (g, x) :: putM f A r
theorem FP.put {G : Hp} {f : Str} {A : MP V} {v : V} (q : A.p v G) : ∀ {vs : List (Str × V)} {fs : List (Str × MP V)}, FP G vs fs → FP G (putF f v vs) (putM f A fs)
  | _, _, .nil => .cons ⟨rfl, q⟩ .nil
  | (n, w) :: vs, (m, B) :: fs, .cons h t => by
    have e : n = m := h.1
    subst e
    show FP G (if n = f then (n, v) :: vs else (n, w) :: putF f v vs) (if n = f then (n, A) :: fs else (n, B) :: putM f A fs)
    by_cases e : n = f
    · rw [if_pos e, if_pos e]
      exact .cons ⟨rfl, q⟩ t
    · rw [if_neg e, if_neg e]
      exact .cons h (FP.put q t)
/-- an instance that stands still -/
def rObj {α : Type} (C : Addr) (fs : α → List (Str × MP V)) : Rp α := fun x => ⟨fun v G => ∃ a dx vs, v = .ref a ∧ G a = some (.ins C dx vs) ∧ FP G vs (fs x), fun e ⟨a, dx, vs, h1, h2, h3⟩ => ⟨a, dx, vs, h1, e _ _ h2, h3.mono e⟩⟩
/-- an instance that may change -/
def cObj {α : Type} (C dx : Addr) (fs : α → List (Str × MP V)) : α → MP HO := fun x => ⟨fun o G => ∃ vs, o = .ins C dx vs ∧ FP G vs (fs x), fun e ⟨vs, h1, h2⟩ => ⟨vs, h1, h2.mono e⟩⟩
section
variable {Z : Zc} {Γ : Ctx} {α β γ T U ρ : Type} {e a b c : Expr} {es : List Expr} {pos p : Pos} {Γ' : T → Ctx} {Γb : U → Ctx} {ρr : Res ρ} {rest : List Stmt}
theorem je_fld {C : Addr} {fs : α → List (Str × MP V)} {f : Str} {r : Rp β} {g : α → β} {m : M Z.S α} (cl : Cls Z.X.K C) (na : NoAttr Z.X.K C f) (h : JE Z Γ e m (.fz (rObj C fs))) (hl : ∀ x, (fs x).lookup f = some (r (g x)) := by intro _; rfl) (hb : attributeBase e f Z.X.env (eval e Z.X.env) = eval e Z.X.env := by rfl) :
    JE Z Γ (.Attribute e f pos) (bnd m fun x => ret (g x)) (.fz r) :=
  je_one (t' := fun t => tFld Z.X.K t f) (fun x => ret (g x)) (.fz r) (fun _ p => pe_fld p hb) (fun _ _ _ _ => rfl) h fun x v s G B σ H Q st hv q => by
    obtain ⟨a, dx, vs, rfl, ha, hp⟩ := hv
    obtain ⟨u, hu, hr⟩ := hp.get (hl x)
    exact ⟨a, C, dx, vs, u, rfl, st.ok.gh _ _ ha, cl, na, hu, fin q st hr⟩
/-- self.f = e, self a thing of one's own -/
theorem jb_fset {k : Nat} {n : Str} {pn pa : Pos} {C dx : Addr} {fs : List (Str × MP V)} {f : Str} {r : Rp α} {m : M Z.S α} {g : α → M Z.S (Fl T U ρ)} (cl : Cls Z.X.K C) (na : NoAttr Z.X.K C f) (hk : Γ[k]? = some (some (.lv (cObj C dx (fun fs => fs) fs)))) (hn : PE Z.X (.Name n pn) (tVar k)) (he : JE Z Γ e m (.fz r))
    (hr : ∀ y, JB Z (Γ.set k (some (.lv (cObj C dx (fun fs => fs) (putM f (r y) fs))))) rest (g y) Γ' Γb ρr) (hlen : decide (fs.length < 1000) = true := by rfl) (hs : swapsWith e (some (.Attribute (.Name n pn) f pa)) pos.line Z.X.env = pure false := by rfl) :
    JB Z Γ (.Assign [.Attribute (.Name n pn) f pa] e pos :: rest) (bnd m g) Γ' Γb ρr := by
  refine jb_chg (cc := fun y => cObj C dx (fun fs => fs) (putM f (r y) fs)) hk (ps_fld hn he.pe hs) (fun s G B σ H D st p hp q fin => ?_) hr
  refine tE.imp (tE_bndB (ρ := .fz r) st q) ?_
  rintro v H1 ⟨y, s1, G1, B1, g1, st1, hy, q1⟩
  obtain ⟨o1, ho1, vs, rfl, hv⟩ := st1.at_ hk hp
  have hl : vs.length = fs.length := Paired.length hv
  refine ⟨_, hp, p, C, dx, vs, rfl, ho1, cl, na, by rw [hl]; exact of_decide_eq_true hlen, y, ?_⟩
  exact fin y s1 G1 B1 H1 _ g1 st1 ⟨_, rfl, hv.put hy⟩ q1
end
/-! ### a class's __init__ -/
def rSelf (a : Addr) : MP V := ⟨fun v _ => v = .ref a, fun _ h => h⟩
/-- where an __init__ runs: self stays self -/
abbrev ZFI (P : Program) (w : World) (K : PySem.W.Frag) (mg : Str → Option Value) (base : Heap) (N : List Str) (qual : Str) (scope : Scope) (f : Addr) (cdv : Value) (A : Around) (outer : List Env) (s : Shared) (H : Hp) (E : XK) (F : Fm) (S : Type) (R : S → MP Hp) (a : Addr) : Zc :=
  ⟨cxOf (L2.CX P w) P w K mg base N qual scope f cdv A outer s H E, fun cls d _ H => E cls d H, F, fun _ => none, [some (rSelf a)], S, R⟩
theorem zfi_ok {P : Program} {w : World} {K : PySem.W.Frag} {mg : Str → Option Value} {base : Heap} {N : List Str} {qual : Str} {scope : Scope} {f : Addr} {cdv : Value} {A : Around} {outer : List Env} {s : Shared} {H : Hp} {E : XK} {F : Fm} {S : Type} {R : S → MP Hp} {a : Addr} (nd : N.Nodup) :
    ZOk (ZFI P w K mg base N qual scope f cdv A outer s H E F S R a) := ⟨rfl, passes_of rfl, nd, takes_of rfl rfl rfl rfl⟩
def rem (H : Hp) (a : Addr) : Hp := fun b => if b = a then none else H b
theorem rem_some {H : Hp} {a b : Addr} {o : HO} (h : rem H a b = some o) : b ≠ a ∧ H b = some o := by
  unfold rem at h
  by_cases e : b = a
  · rw [if_pos e] at h
    cases h
  · rw [if_neg e] at h
    exact ⟨e, h⟩
theorem rem_self {H : Hp} {a : Addr} : rem H a a = none := if_pos rfl
/-- the very instance at a, still -/
def rObjAt {α : Type} (a C : Addr) (fs : α → List (Str × MP V)) : Rp α := fun x => ⟨fun v G => v = .ref a ∧ ∃ dx vs, G a = some (.ins C dx vs) ∧ FP G vs (fs x), fun e ⟨h1, dx, vs, h2, h3⟩ => ⟨h1, dx, vs, e _ _ h2, h3.mono e⟩⟩
def PostM (mg : Str → Option Value) {S β : Type} (R : S → MP Hp) (F : Fm) (a C : Addr) (fs : β → List (Str × MP V)) (Q : VK) (E : XK) : Out S β → Prop
  | .ok x s' => ∀ H' G' B', Ok F G' B' H' → (R s').p B' G' → (rObjAt a C fs x).p (.ref a) G' → Q .non H'
  | .err e s' => ∀ cls d H' G' B', Ok F G' B' H' → (R s').p B' G' → errIs mg e cls d G' → E cls d H'
  | .stuck => False
  | .all av g => ∀ a9, a9 ∉ av → PostM mg R F a C fs Q E (g a9)
def spI (mg : Str → Option Value) {Cap : CapT} {α β : Type} (C : Addr) (ra : (S : Type) → (R : S → MP Hp) → Cap S R → α → List V → Hp → Prop) (fs : β → List (Str × MP V)) (f : (S : Type) → (R : S → MP Hp) → Cap S R → α → M S β) : Sp := fun vs H Q E =>
  ∃ (S : Type) (R : S → MP Hp) (c : Cap S R) (s : S) (G B : Hp) (x : α) (a dx : Addr) (ws : List V), vs = .ref a :: ws ∧ H a = some (.ins C dx []) ∧ G a = none ∧ B a = none ∧ Same G H ∧ Same B H ∧ (∀ a o, G a = some o → B a = none) ∧ (R s).p B G ∧ ra S R c x ws G ∧ PostM mg R ⟨rem H a, G, B⟩ a C fs Q E (f S R c x s)
def Fl.outI {S β ρ : Type} : Fl β Empty ρ → M S β
  | .nx t => ret t
  | _ => stk
def runI {S β ρ : Type} (m : M S (Fl β Empty ρ)) : M S β := bnd m Fl.outI
section
variable {α β : Type} {P : Program} {w : World} {K : PySem.W.Frag} {mg : Str → Option Value} {base : Heap} {x qual : Str} {params : Arguments} {body : List Stmt} {scope : Scope} {dvs : List V} {kws : List (Str × V)} {fa : Addr} {fd : FuncData} {N ps : List Str} {k : Nat}
theorem fn_mkI {Cap : CapT} {C : Addr} {ra : (S : Type) → (R : S → MP Hp) → Cap S R → α → List V → Hp → Prop} {fs : β → List (Str × MP V)} {f : (S : Type) → (R : S → MP Hp) → Cap S R → α → M S β} {mb : (S : Type) → (R : S → MP Hp) → Cap S R → α → M S (Fl β Empty Unit)} {Γ0 : (S : Type) → (R : S → MP Hp) → Cap S R → α → Ctx} {Γb : Empty → Ctx}
    (F : FunD K x qual params body scope dvs kws fa fd) (S : FnScope N ps scope) (hlen : ∀ S R c x vs G, ra S R c x vs G → vs.length + 1 = ps.length) (hf : ∀ S R c x, f S R c x = runI (mb S R c x)) (hΓ : ∀ S R c x vs G, ra S R c x vs G → StartOk (Γ0 S R c x) vs G) (hN : ∀ S R c x, (Γ0 S R c x).length + 1 ≤ N.length) (hps : ps.length ≤ N.length)
    (hb : ∀ (cdv : Value) (A : Around) (outer : List Env) (s : Shared) (H : Hp) (E : XK) (Fm : Fm) (S : Type) (R : S → MP Hp) (c : Cap S R) (y : α) (a dx : Addr), Room k (A.deeper (envOfC qual scope s.heap.objs.size fa cdv)) → ZOk (ZFI P w K mg base N qual scope fa cdv A outer s H E Fm S R a) →
      JB (ZFI P w K mg base N qual scope fa cdv A outer s H E Fm S R a) (some (.lv (cObj C dx (fun fs => fs) [])) :: Γ0 S R c y) body (mb S R c y) (fun t => [some (.lv (cObj C dx (fun fs => fs) (fs t)))]) Γb (.fz rU)) : FnOk P w K mg base (L2.CX P w) (k + 1) fa fd ps (spI mg C ra fs f) := by
  refine F.ok S (fun vs H Q E ⟨S', R, c, s, G, B, y, a, dx, ws, ev, ha, ga, ba, gh, bh, dj, r, hra, q⟩ => by rw [ev, List.length_cons]; exact hlen S' R c y ws G hra) fun cdv A outer s0 H vs Q E hr ⟨S', R, c, s, G, B, y, a, dx, ws, ev, ha, ga, ba, gh, bh, dj, r, hra, q⟩ => ?_
  subst ev
  have z : ZOk (ZFI P w K mg base N qual scope fa cdv A outer s0 H E ⟨rem H a, G, B⟩ S' R a) := zfi_ok S.nd
  have hl1 := hlen S' R c y ws G hra
  have sl : (L2.start N (V.ref a :: ws)).length = N.length := by
    unfold L2.start
    rw [List.length_append, List.length_map, List.length_replicate, List.length_cons]
    omega
  have at_ : ∀ (k : Nat) (v : V), (V.ref a :: ws)[k]? = some v → (L2.start N (V.ref a :: ws))[k]? = some (some v) := fun k v e => by
    unfold L2.start
    obtain ⟨h1, h2⟩ := List.getElem?_eq_some_iff.mp e
    rw [List.getElem?_append_left (by rw [List.length_map]; exact h1), List.getElem?_map, e]
    rfl
  have st : Sta (ZFI P w K mg base N qual scope fa cdv A outer s0 H E ⟨rem H a, G, B⟩ S' R a) (some (.lv (cObj C dx (fun fs => fs) [])) :: Γ0 S' R c y) s G B (L2.start N (V.ref a :: ws)) H := by
    have so := hΓ S' R c y ws G hra
    refine ⟨⟨gh, bh, dj, Same.refl _, fun b o e => ⟨o, (rem_some e).2⟩, fun b o e _ => (rem_some e).2, fun b o e g _ => g, fun b o e g => g⟩, r, ⟨?_, fun k A' e => ?_, fun k L e => ?_, fun k j L L' b e1 e2 q1 q2 => ?_⟩, ⟨?_, fun k A' e => ?_⟩, (fun a o e => by cases e), (fun a o e => by cases e)⟩
    · rw [sl, List.length_cons]
      exact hN S' R c y
    · cases k with
      | zero => simp at e
      | succ k =>
        obtain ⟨A2, v, h1, h2, h3⟩ := so k _ (by simpa using e)
        cases h1
        exact ⟨v, at_ (k + 1) v (by simpa using h2), h3⟩
    · cases k with
      | zero =>
        have e : Asn.lv (cObj C dx (fun fs => fs) []) = Asn.lv L := by simpa using e
        injection e with e
        subst e
        exact ⟨a, _, at_ 0 _ rfl, ha, ⟨[], rfl, .nil⟩, ga, ba, rem_self, rfl⟩
      | succ k =>
        obtain ⟨A2, v, h1, h2, h3⟩ := so k _ (by simpa using e)
        cases h1
    · cases k with
      | zero =>
        cases j with
        | zero => rfl
        | succ j =>
          obtain ⟨A2, v, h1, h2, h3⟩ := so j _ (by simpa using e2)
          cases h1
      | succ k =>
        obtain ⟨A2, v, h1, h2, h3⟩ := so k _ (by simpa using e1)
        cases h1
    · rw [sl]
      show 1 ≤ N.length
      omega
    · cases k with
      | zero =>
        have e : rSelf a = A' := by simpa using e
        subst e
        exact ⟨_, at_ 0 _ rfl, rfl⟩
      | succ k => simp at e
  refine ⟨_, (hb cdv A outer s0 H E ⟨rem H a, G, B⟩ S' R c y a dx hr z).ps, s, G, B, st, ?_⟩
  rw [hf] at q
  have q : PostM mg R ⟨rem H a, G, B⟩ a C fs Q E ((mb S' R c y s).bnd Fl.outI) := q
  revert q
  induction mb S' R c y s with
  | ok fl s1 =>
    cases fl with
    | nx t =>
      intro q σ' H' G' B' g st'
      obtain ⟨b, o, h1, h2, h3, h4, h5, h6, _⟩ := st'.sl.lv 0 _ rfl
      obtain ⟨v, k1, k2⟩ := st'.sle.2 0 _ rfl
      have k2 : v = .ref a := k2
      rw [h1, k2] at k1
      injection k1 with k1
      injection k1 with k1
      injection k1 with k1
      subst k1
      have gg := Same.upd_new (o := o) h4
      obtain ⟨vs, rfl, hv⟩ := h3
      exact q H' (upd G' _ _) B' (st'.ok.still h2 h4 h5 rem_self) ((R s1).mono gg st'.res) ⟨rfl, dx, vs, upd_same, hv.mono gg⟩
    | rt v => exact fun q => q.elim
    | bk u => exact fun q => q.elim
    | ct u => exact fun q => q.elim
  | err e s1 => exact fun q cls d σ' H' G' B' g st h => q cls d H' G' B' st.ok st.res h
  | stuck => exact fun q => q
  | all av o9 ih9 => exact fun q a9 h9 => ih9 a9 (q a9 h9)
end
end DL
set_option Elab.async false
set_option linter.all false
set_option maxRecDepth 100000
set_option maxHeartbeats 4000000
namespace DL
open PySem PySem.Spec PyProof.Rows L2
/-! ### a draw -/
def absI (i : Int) : Int := if i < 0 then -i else i
def drawA (b : Bag) : Int × Int × Int := if b.val = 0 ∧ b.at_ < b.scr.length then
    (b.at_ + 1, (2 * absI (b.scr.getD b.at_.toNat 0) + (if b.scr.getD b.at_.toNat 0 < 0 then 1 else 0)) * (if 10 ^ 18 ≤ absI (b.scr.getD b.at_.toNat 0) then 1 else 0), (b.mix * 48271 + b.scr.getD b.at_.toNat 0 * 69621 + 11) % 2147483647)
  else (b.at_, b.val, b.mix)
def drawX (m c : Int) : Int := (((m + c * 40692) % 2147483647) ^ 3 + c * 16807 + 7) % 2147483629
def drawB (b : Bag) (n : Int) : Int × Bag := if 0 < (drawA b).2.1 then ((drawA b).2.1 % n, ⟨b.scr, (drawA b).1, (drawA b).2.1 / n, (drawA b).2.2, b.cnt + 1, b.av⟩)
  else ((drawX (drawA b).2.2 (b.cnt + 1)) ^ 2 % 2147483587 / 8 % n, ⟨b.scr, (drawA b).1, (drawA b).2.1, (drawA b).2.2, b.cnt + 1, b.av⟩)
def drawM {S : Type} (b : BagIn S) (n : Int) : M S Int := fun s => if 0 < n ∧ n < 1073741824 ∧ 0 ≤ (b.get s).at_ then .ok (drawB (b.get s) n).1 (b.set s (drawB (b.get s) n).2) else .stuck
theorem b01 (b : Bool) : -(2 ^ 64) < (if b = true then (1 : Int) else 0) ∧ (if b = true then (1 : Int) else 0) < 2 ^ 64 := by
  cases b <;> decide
theorem atI_pos {α : Type} {xs : List α} {i : Int} {d : α} (h0 : 0 ≤ i) (h1 : i < xs.length) : atI xs i = some (xs.getD i.toNat d) := by
  obtain ⟨n, rfl⟩ := Int.eq_ofNat_of_zero_le h0
  have hn : n < xs.length := by omega
  have e : xs[n]? = some (xs.getD n d) := by simp [List.getD, hn]
  exact atI_nat e
end DL
namespace Lw
open PySem PySem.Spec PyProof.Rows L2 DL
def top (i : Nat) : Stmt := PySem.Challenge.pw_imagefeeds_k15_errors_and_their_parts.main.body.getD i (.Pass ⟨0, 0, 0, 0⟩)
abbrev sDraw : Stmt := top 25
abbrev FnP (K : PySem.W.Frag) (x qual : Str) (st : Stmt) (dvs : List V) (kws : List (Str × V)) (f : Addr) (fd : FuncData) : Prop := FunD K x qual (defArgs st) (defBody st) (defScope st) dvs kws f fd
abbrev raDraw (S : Type) (R : S → MP Hp) (c : BagC S R) : Unit × Int × Unit → List V → Hp → Prop := raC (rBag c.ab) (raC rI raN)
abbrev fDraw (S : Type) (R : S → MP Hp) (c : BagC S R) (x : Unit × Int × Unit) : M S Int := drawM c.b x.2.1
section
variable {P : Program} {w : World} {K : PySem.W.Frag} {mg : Str → Option Value} {base : Heap}
theorem scDraw : FnScope ["_law_bag_here", "_law_size", "_law_cell", "_law_digit", "_law_mixed"] ["_law_bag_here", "_law_size"] (defScope sDraw) := ⟨rfl, rfl, rfl, by decide +kernel, rfl, by decide +kernel, by decide +kernel⟩
theorem ok_draw {f : Addr} {fd : FuncData} (F : FnP K "_law_draw" "_law_draw" sDraw [] [] f fd) (gl : mg "len" = none) (ga : mg "abs" = none) (gi : mg "int" = none) : FnOk P w K mg base (L2.CX P w) 1 f fd ["_law_bag_here", "_law_size"] (spC mg raDraw (.fz rI) fDraw) := by
  refine F.ok scDraw (fun vs H Q E ⟨S, R, c, s, G, B, x, gh, bh, dj, r, hra, q⟩ => ?_) (fun cdv A outer s0 H vs Q E hr ⟨S, R, c, s, G, B, x, gh, bh, dj, r, hra, q⟩ => ?_)
  · obtain ⟨v, u, rfl, h1, h2⟩ := ra2 hra
    rfl
  · obtain ⟨v, u, rfl, h1, h2⟩ := ra2 hra
    obtain ⟨_, n, _⟩ := x
    have h1 : v = .ref c.ab := h1
    have h2 : u = .int n := h2
    subst h1 h2
    obtain ⟨hab, hal⟩ := c.ok.has r
    obtain ⟨bg, eb⟩ : ∃ bg, c.b.get s = bg := ⟨_, rfl⟩
    rw [eb] at hab hal
    have q : PostF mg R ⟨H, G, B⟩ (.fz rI) Q E (if 0 < n ∧ n < 1073741824 ∧ 0 ≤ (c.b.get s).at_ then .ok (drawB (c.b.get s) n).1 (c.b.set s (drawB (c.b.get s) n).2) else .stuck) := q
    rw [eb] at q
    by_cases hc : 0 < n ∧ n < 1073741824 ∧ 0 ≤ bg.at_
    case neg =>
      rw [if_neg hc] at q
      exact q.elim
    rw [if_pos hc] at q
    obtain ⟨hn, hn2, ha0⟩ := hc
    have hH : H c.ab = some (.lst [.ref c.al, .int bg.at_, .int bg.val, .int bg.mix, .int bg.cnt]) := bh _ _ hab
    have hL : H c.al = some (.lst (bg.scr.map V.int)) := bh _ _ hal
    have ne : c.al ≠ c.ab := fun z => by
      rw [z, hH] at hL
      injection hL with hL
      injection hL with hL
      cases hs : bg.scr with
      | nil => rw [hs] at hL; cases hL
      | cons y ys =>
        rw [hs] at hL
        injection hL with h1 h2
        cases h1
    -- what is behind every way
    have fin : ∀ (d : Int) (i v m k : Int), drawB bg n = (d, ⟨bg.scr, i, v, m, k, bg.av⟩) → Q (.int d) (upd H c.ab (.lst [.ref c.al, .int i, .int v, .int m, .int k])) := by
      intro d i v m k e
      rw [e] at q
      have pr := c.ok.put i v m k r
      rw [eb] at pr
      refine q _ _ G (upd B c.ab (.lst [.ref c.al, .int i, .int v, .int m, .int k])) ?_ pr rfl
      have gn : G c.ab = none := by
        cases e2 : G c.ab with
        | none => rfl
        | some o =>
          have z := dj _ _ e2
          rw [hab] at z
          cases z
      refine ⟨Same.upd_r gh gn, Same.upd2 bh, fun a o e2 => ?_, Same.refl _, fun a o e2 => ?_, fun a o e2 e3 => ?_, fun a o _ e3 _ => e3, fun a o e2 e3 => ?_⟩
      · rw [upd_ne (ne_of_none e2 gn)]
        exact dj a o e2
      · by_cases z : a = c.ab
        · exact ⟨_, by rw [z]; exact upd_same⟩
        · exact ⟨o, by rw [upd_ne z]; exact e2⟩
      · have z : a ≠ c.ab := fun z => by
          have e3 : B a = none := e3
          rw [z, hab] at e3
          cases e3
        rw [upd_ne z]
        exact e2
      · have z : a ≠ c.ab := fun z => by
          have e3 : B a = none := e3
          rw [z, hab] at e3
          cases e3
        rw [upd_ne z]
        exact e3
    have nd := scDraw.nd
    refine ⟨_, pss_cons (ps_asg (pe_op op_add (pe_ix ix_list (pv 0) pe_int (fun _ _ => rfl)) pe_int) (pg_sub (pv 0) pe_int set_list))
      (C8.pss_cut (ps_if (PW.pt (pw_and (pt_cmpR op_eq (pe_ix ix_list (pv 0) pe_int (fun _ _ => rfl)) pe_int (nomark _)) (pw_and1 (pt_cmpR op_lt (pe_ix ix_list (pv 0) pe_int (fun _ _ => rfl)) (pe_callB call_len_seq (by rfl) gl boot_len (pa_cons (pe_ix ix_list (pv 0) pe_int (fun _ _ => rfl)) pa_nil)) (nomark _)))))
        (pss_cons (ps_set (i := 2) nd rfl (.inl rfl) (pe_ix ix_list (pe_ix ix_list (pv 0) pe_int (fun _ _ => rfl)) (pe_ix ix_list (pv 0) pe_int (fun _ _ => rfl)) (fun _ _ => rfl)))
        (pss_cons (ps_asg (pe_op op_add (pe_ix ix_list (pv 0) pe_int (fun _ _ => rfl)) pe_int) (pg_sub (pv 0) pe_int set_list))
        (pss_cons (ps_asg (pe_op op_mul (pe_op op_add (pe_op op_mul pe_int (pe_callB call_abs (by rfl) ga (by decide +kernel) (pa_cons (pv 2) pa_nil))) (pe_callTy call_int1 (by rfl) gi (by decide +kernel) (pa_cons (pe_cmpR op_lt (pv 2) pe_int (nomark _)) pa_nil)))
          (pe_callTy call_int1 (by rfl) gi (by decide +kernel) (pa_cons (pe_cmpR op_ge (pe_callB call_abs (by rfl) ga (by decide +kernel) (pa_cons (pv 2) pa_nil)) (pe_op op_pow pe_int pe_int) (nomark _)) pa_nil))) (pg_sub (pv 0) pe_int set_list))
        (pss_one (ps_asg (pe_op op_mod (pe_callTy call_int1 (by rfl) gi (by decide +kernel) (pa_cons (pe_op op_add (pe_op op_add (pe_op op_mul (pe_ix ix_list (pv 0) pe_int (fun _ _ => rfl)) pe_int) (pe_op op_mul (pv 2) pe_int)) pe_int) pa_nil)) pe_int) (pg_sub (pv 0) pe_int set_list))))))
        pss_nil)
      (pss_cons (ps_set (i := 3) nd rfl (.inl rfl) (pe_op op_mod (pe_callTy call_int1 (by rfl) gi (by decide +kernel) (pa_cons (pe_ix ix_list (pv 0) pe_int (fun _ _ => rfl)) pa_nil)) (pv 1)))
      (pss_cons (ps_if (pt_cmpR op_gt (pe_ix ix_list (pv 0) pe_int (fun _ _ => rfl)) pe_int (nomark _))
        (pss_cons (ps_asg (pe_op op_fdiv (pe_ix ix_list (pv 0) pe_int (fun _ _ => rfl)) (pv 1)) (pg_sub (pv 0) pe_int set_list)) (pss_one (ps_ret (pv 3)))) pss_nil)
      (pss_cons (ps_set (i := 4) nd rfl (.inl rfl) (pe_op op_mod (pe_callTy call_int1 (by rfl) gi (by decide +kernel) (pa_cons (pe_op op_add (pe_ix ix_list (pv 0) pe_int (fun _ _ => rfl)) (pe_op op_mul (pe_ix ix_list (pv 0) pe_int (fun _ _ => rfl)) pe_int)) pa_nil)) pe_int))
      (pss_cons (ps_set (i := 4) nd rfl (.inl rfl) (pe_op op_mod (pe_callTy call_int1 (by rfl) gi (by decide +kernel) (pa_cons (pe_op op_add (pe_op op_add (pe_op op_pow (pv 4) pe_int) (pe_op op_mul (pe_ix ix_list (pv 0) pe_int (fun _ _ => rfl)) pe_int)) pe_int) pa_nil)) pe_int))
      (pss_one (ps_ret (pe_op op_mod (pe_op op_fdiv (pe_op op_mod (pe_callTy call_int1 (by rfl) gi (by decide +kernel) (pa_cons (pe_op op_pow (pv 4) pe_int) pa_nil)) pe_int) pe_int) (pv 1))))))))), ?_⟩
    have a4 : ∀ (i v m k : Int), atI [V.ref c.al, .int i, .int v, .int m, .int k] 4 = some (.int k) := fun _ _ _ _ => rfl
    refine ⟨_, rfl, c.ab, _, 4, _, rfl, rfl, SqL.of hH, rfl, _, _, rfl, rfl, _, rfl, c.ab, _, 4, 4, rfl, rfl, hH, rfl, ?_⟩
    refine ⟨fun σ' H' => ∃ (i v m : Int) (cl : Option V), drawA bg = (i, v, m) ∧ σ' = [some (.ref c.ab), some (.int n), cl, none, none] ∧ H' = upd H c.ab (.lst [.ref c.al, .int i, .int v, .int m, .int (bg.cnt + 1)]), ?_, ?_⟩
    · have hH1 : (upd H c.ab (.lst [.ref c.al, .int bg.at_, .int bg.val, .int bg.mix, .int (bg.cnt + 1)])) c.ab = some (.lst [.ref c.al, .int bg.at_, .int bg.val, .int bg.mix, .int (bg.cnt + 1)]) := upd_same
      have hL1 : (upd H c.ab (.lst [.ref c.al, .int bg.at_, .int bg.val, .int bg.mix, .int (bg.cnt + 1)])) c.al = some (.lst (bg.scr.map V.int)) := by rw [upd_ne ne]; exact hL
      refine ⟨_, rfl, c.ab, _, 2, _, rfl, rfl, SqL.of hH1, rfl, rfl, _, rfl, ?_⟩
      rw [dec_int']
      by_cases hv : bg.val = 0
      · rw [decide_eq_true hv]
        refine iteT ?_
        refine ⟨_, rfl, c.ab, _, 1, _, rfl, rfl, SqL.of hH1, rfl, _, rfl, c.ab, _, 0, _, rfl, rfl, SqL.of hH1, rfl, c.al, _, rfl, .inl (SqL.of hL1), _, _, rfl, rfl, _, rfl, ?_⟩
        rw [List.length_map]
        by_cases hlt : bg.at_ < bg.scr.length
        · rw [decide_eq_true hlt]
          refine iteT ?_
          have hx : atI (bg.scr.map V.int) bg.at_ = some (.int (bg.scr.getD bg.at_.toNat 0)) := by
            have z := atI_pos (xs := bg.scr.map V.int) (d := V.int 0) ha0 (by rw [List.length_map]; exact hlt)
            rw [z]
            congr 1
            simp [List.getD]
          have hcell : ∃ cell, bg.scr.getD bg.at_.toNat 0 = cell := ⟨_, rfl⟩
          obtain ⟨cell, ec⟩ := hcell
          rw [ec] at hx
          refine ⟨_, rfl, c.ab, _, 0, _, rfl, rfl, SqL.of hH1, rfl, _, rfl, c.ab, _, 1, _, rfl, rfl, SqL.of hH1, rfl, c.al, _, bg.at_, _, rfl, rfl, SqL.of hL1, hx, ?_⟩
          refine ⟨_, rfl, c.ab, _, 1, _, rfl, rfl, SqL.of hH1, rfl, _, _, rfl, rfl, _, rfl, c.ab, _, 1, 1, rfl, rfl, hH1, rfl, ?_⟩
          refine ⟨_, rfl, cell, rfl, 2, _, rfl, rfl, .inl ⟨by decide, by decide⟩, ?_⟩
          refine ⟨_, rfl, cell, 0, rfl, rfl, .inr ⟨_, rfl, _, _, rfl, rfl, ?_⟩⟩
          refine ⟨_, rfl, cell, rfl, 10, 18, rfl, rfl, ⟨by decide, by decide, by decide⟩, _, _, rfl, rfl, .inr ⟨_, rfl, _, _, rfl, rfl, .inr ?_, ?_⟩⟩
          · exact b01 _
          refine ⟨_, rfl, c.ab, _, 2, 2, rfl, rfl, upd_same, rfl, ?_⟩
          refine ⟨_, rfl, c.ab, _, 3, _, rfl, rfl, SqL.of upd_same, rfl, _, 48271, rfl, rfl, .inr ⟨by decide, by decide⟩, _, rfl, cell, 69621, rfl, rfl, .inr ⟨by decide, by decide⟩, _, _, rfl, rfl, _, _, rfl, rfl, ?_⟩
          refine .inl ⟨_, rfl, _, 2147483647, rfl, rfl, (by show (0 : Int) < 2147483647; decide), ?_⟩
          refine ⟨_, rfl, c.ab, _, 3, 3, rfl, rfl, upd_same, rfl, ?_⟩
          refine ⟨bg.at_ + 1, (2 * absI cell + (if cell < 0 then 1 else 0)) * (if 10 ^ 18 ≤ absI cell then 1 else 0), (bg.mix * 48271 + cell * 69621 + 11) % 2147483647, some (.int cell), ?_, rfl, ?_⟩
          · unfold drawA
            rw [if_pos ⟨hv, hlt⟩, ec]
          · rw [upd_upd, upd_upd, upd_upd]
            congr 1
            congr 1
            simp only [List.set_cons_succ, List.set_cons_zero, decide_eq_true_eq]
            rfl
        · rw [decide_eq_false hlt]
          refine iteF ?_
          exact ⟨bg.at_, bg.val, bg.mix, none, if_neg fun z => hlt z.2, rfl, rfl⟩
      · rw [decide_eq_false hv]
        refine iteF (iteF ?_)
        exact ⟨bg.at_, bg.val, bg.mix, none, if_neg fun z => hv z.1, rfl, rfl⟩
    · rintro σ' H' ⟨i, v, m, cl, ed, rfl, rfl⟩
      have hH1 : (upd H c.ab (.lst [.ref c.al, .int i, .int v, .int m, .int (bg.cnt + 1)])) c.ab = some (.lst [.ref c.al, .int i, .int v, .int m, .int (bg.cnt + 1)]) := upd_same
      refine ⟨_, rfl, c.ab, _, 2, _, rfl, rfl, SqL.of hH1, rfl, .inl ⟨_, rfl, _, rfl, _, _, rfl, rfl, hn, ?_⟩⟩
      refine ⟨_, rfl, c.ab, _, 2, _, rfl, rfl, SqL.of hH1, rfl, _, _, rfl, rfl, _, rfl, ?_⟩
      by_cases hv : 0 < v
      · rw [decide_eq_true hv]
        refine iteT ?_
        refine ⟨_, rfl, c.ab, _, 2, _, rfl, rfl, SqL.of hH1, rfl, _, rfl, _, _, rfl, rfl, ⟨hn, hn2⟩, _, rfl, c.ab, _, 2, 2, rfl, rfl, hH1, rfl, _, rfl, ?_⟩
        rw [upd_upd]
        refine fin _ i (v / n) m (bg.cnt + 1) ?_
        unfold drawB
        rw [ed]
        exact if_pos hv
      · rw [decide_eq_false hv]
        refine iteF ?_
        refine ⟨_, rfl, c.ab, _, 3, _, rfl, rfl, SqL.of hH1, rfl, _, rfl, c.ab, _, 4, _, rfl, rfl, SqL.of hH1, rfl, _, 40692, rfl, rfl, .inr ⟨by decide, by decide⟩, _, _, rfl, rfl, .inl ⟨_, rfl, _, 2147483647, rfl, rfl, (by show (0 : Int) < 2147483647; decide), ?_⟩⟩
        have b1 : ((m + (bg.cnt + 1) * 40692) % 2147483647).natAbs < 2 ^ 64 := by
          have h1 := Int.emod_nonneg (m + (bg.cnt + 1) * 40692) (show (2147483647 : Int) ≠ 0 by decide)
          have h2 := Int.emod_lt_of_pos (m + (bg.cnt + 1) * 40692) (show (0 : Int) < 2147483647 by decide)
          omega
        refine ⟨_, rfl, _, 3, rfl, rfl, ⟨by decide, by decide, b1⟩, _, rfl, c.ab, _, 4, _, rfl, rfl, SqL.of hH1, rfl, _, 16807, rfl, rfl, .inr ⟨by decide, by decide⟩, _, _, rfl, rfl, _, 7, rfl, rfl, .inl ⟨_, rfl, _, 2147483629, rfl, rfl, (by show (0 : Int) < 2147483629; decide), ?_⟩⟩
        have b2 : (drawX m (bg.cnt + 1)).natAbs < 2 ^ 64 := by
          unfold drawX
          have h1 := Int.emod_nonneg (((m + (bg.cnt + 1) * 40692) % 2147483647) ^ 3 + (bg.cnt + 1) * 16807 + 7) (show (2147483629 : Int) ≠ 0 by decide)
          have h2 := Int.emod_lt_of_pos (((m + (bg.cnt + 1) * 40692) % 2147483647) ^ 3 + (bg.cnt + 1) * 16807 + 7) (show (0 : Int) < 2147483629 by decide)
          omega
        refine ⟨_, rfl, drawX m (bg.cnt + 1), 2, rfl, rfl, ⟨by decide, by decide, b2⟩, .inl ⟨_, rfl, _, 2147483587, rfl, rfl, (by show (0 : Int) < 2147483587; decide), _, 8, rfl, rfl, ⟨by decide, by decide⟩, _, rfl, _, n, rfl, rfl, hn, ?_⟩⟩
        refine fin _ i v m (bg.cnt + 1) ?_
        unfold drawB
        rw [ed]
        exact if_neg hv
end
end Lw
set_option Elab.async false
set_option linter.all false
set_option maxRecDepth 100000
namespace DL
open PySem PySem.Spec PyProof.Rows L2
/-! ### keywords -/
structure JK (Z : Zc) (Γ : Ctx) (kws : List Keyword) {α : Type} (mk : (β : Type) → (α → M Z.S β) → M Z.S β) (ra : α → List V → Hp → Prop) : Prop where
  ex : ∃ t : TA, PK Z.X kws t ∧ ∀ {β : Type} {k : α → M Z.S β} {ρ : Res β} {s : Z.S} {G B : Hp} {σ : L2.St} {H : Hp} {Q : VK} {R : List V → Hp → Prop}, Sta Z Γ s G B σ H → PostE Z Γ ρ σ Q G (mk β k s) →
    (∀ vs H1 x s1 G1 B1, Same G G1 → Sta Z Γ s1 G1 B1 σ H1 → ra x vs G1 → PostE Z Γ ρ σ Q G1 (k x s1) → R vs H1) → t σ H R
  mono : ∀ {x : α} {vs : List V} {G G' : Hp}, Same G G' → ra x vs G → ra x vs G'
  len : ∀ {x : α} {vs : List V} {G : Hp}, ra x vs G → vs.length = kws.length
section
variable {Z : Zc} {Γ : Ctx} {α β γ T U ρ : Type} {e a b c o : Expr} {es : List Expr} {kws : List Keyword} {pos p apos : Pos}
theorem jk_nil : JK Z Γ [] (fun _ k => k ()) raN :=
  ⟨⟨tNil, pk_nil, fun {β k ρ s G B σ H Q R} st q h => h [] H () s G B (Same.refl _) st rfl q⟩, fun _ h => h, fun {x vs G} h => by
    have h : vs = [] := h
    rw [h]
    rfl⟩
theorem jk_cons {nm : Option Str} {kp : Pos} {m : M Z.S α} {r : Rp α} {mk : (γ : Type) → (β → M Z.S γ) → M Z.S γ} {ra : β → List V → Hp → Prop} (h : JE Z Γ e m (.fz r)) (hr : JK Z Γ kws mk ra) :
    JK Z Γ (⟨nm, e, kp⟩ :: kws) (fun δ k => bnd m fun x => mk δ fun y => k (x, y)) (raC r ra) := by
  obtain ⟨t, ht, hq⟩ := hr.ex
  refine ⟨⟨tCons _ t, pk_cons h.pe ht, fun {δ k ρ s G B σ H Q R} st q hR => ?_⟩, fun g ⟨v, ws, h1, h2, h3⟩ => ⟨v, ws, h1, (r _).mono g h2, hr.mono g h3⟩, fun ⟨v, ws, h1, h2, h3⟩ => by rw [h1, List.length_cons, List.length_cons, hr.len h3]⟩
  refine tE.imp (tE_bnd (ρ := .fz r) st q) ?_
  rintro v H1 ⟨x, s1, G1, B1, g1, st1, hx, q1⟩
  refine hq st1 q1 fun ws H2 y s2 G2 B2 g2 st2 hy q2 => ?_
  exact hR (v :: ws) H2 (x, y) s2 G2 B2 (g1.trans g2) st2 ⟨v, ws, rfl, (r x).mono g2 hx, hy⟩ q2
/-! arguments, then keywords, then defaults -/
theorem jn_n {ra : β → List V → Hp → Prop} {x : Unit} {y : β} {vs zs : List V} {G : Hp} (h1 : raN x vs G) (h2 : ra y zs G) : ra y (vs ++ zs) G := by
  have h1 : vs = [] := h1
  rw [h1]
  exact h2
theorem jn_c {r : Rp α} {ra : γ → List V → Hp → Prop} {ra' : ρ → List V → Hp → Prop} {x : α × γ} {z : ρ} {vs zs : List V} {G : Hp} (h : ∀ {ws : List V}, ra x.2 ws G → ra' z (ws ++ zs) G) (h1 : raC r ra x vs G) : raC r ra' (x.1, z) (vs ++ zs) G := by
  obtain ⟨v, ws, rfl, h2, h3⟩ := h1
  exact ⟨v, ws ++ zs, rfl, h2, h h3⟩
/-! ### a new instance -/
section
variable {X : Cx} {CX : CXT} {k : Nat} {f C : Addr} {fd : FuncData} {ps : List Str} {sp : Sp} {E : XK}
theorem run_mk {pins : List (Addr × Obj)} {σ : L2.St} {H : Hp} {s : Shared} {Q : VK} {us : List Value} {kw : List (Str × Value)} {gV : V → List V} {gU : Value → List Value} (M : Mk X.K C f) (F : FnOk X.prog X.w X.K X.mg X.base CX k f fd ps sp)
    (hr : Room (k + 1) X.A) (hx : PassesAt CX X σ E) (hb : ∀ (s' : Shared) (a : Addr), X.K.In s'.heap → BindsTo s' fd ⟨.ref a :: us, kw⟩ (ps.zip (gU (.ref a)))) (rel : ∀ a, Vals (gV (.ref a)) (gU (.ref a))) (I : Inv X pins σ H s)
    (h : ∀ x dx, H x = none → H dx = none → dx ≠ x → sp (gV (.ref x)) (upd (upd H dx (.own x)) x (.ins C dx [])) (fun v H2 => v = .non ∧ Q (.ref x) H2) E) : wpAny (model X.prog X.w) X.A (call (.ref C) us kw) (EP X pins σ Q) X.xe s := by
  have hq := h (s.heap.objs.size + 1) s.heap.objs.size (I.hok.fresh (Nat.le_succ _)) (I.hok.fresh (Nat.le_refl _)) (Nat.ne_of_lt (Nat.lt_succ_self _))
  have J := Inv.made (C := C) I
  refine wpAny_call (make_map (f := f) I.kIn M.makes M.init (beq_iff_eq.mp M.fn) (codeAny_mono (F.run _ X.stack _ _ ⟨.ref (s.heap.objs.size + 1) :: us, kw⟩ _ _ _ E (hr.make C us kw) (J.env0.make C us kw) (hb _ _ J.kIn) (rel _) hq) fun r s' hz => ?_))
  cases r with
  | error e => exact hx pins _ _ e s' J hz
  | ok fl =>
    cases fl with
    | ret u =>
      obtain ⟨v, H', J3, rv, ev, q3⟩ := J.after hz
      subst ev
      exact ⟨rv, V.ref (s.heap.objs.size + 1), H', J3, rfl, q3⟩
    | next => exact hz.elim
    | brk => exact hz.elim
    | cont => exact hz.elim
end
/-- a class by its name: C(..) of np arguments and the keywords ks -/
structure MkC (P : Program) (w : World) (K : PySem.W.Frag) (mg : Str → Option Value) (base : Heap) (n : Str) (k : Nat) (C : Addr) (np : Nat) (ks : List Str) (gV : List V → List V → List V) (sp : Sp) : Prop where
  ex : ∃ f fd ps g, FnOk P w K mg base (L2.CX P w) k f fd ps sp ∧ mg n = some (.ref C) ∧ Mk K C f ∧ KBn K fd ps (np + 1) ks g gV
theorem Ok.less {H1 H2 G B G' B' H' : Hp} (h : Ok ⟨H2, G, B⟩ G' B' H') (l : Same H1 H2) : Ok ⟨H1, G, B⟩ G' B' H' :=
  ⟨h.gh, h.bh, h.dj, h.g0, fun a o e => h.up a o (l a o e), fun a o e b => h.out a o (l a o e) b, fun a o e g b => h.gn a o (l a o e) g b, fun a o e b => h.bn a o (l a o e) b⟩
theorem mk_post {Cap : CapT} {C : Addr} {ra : (S : Type) → (R : S → MP Hp) → Cap S R → α → List V → Hp → Prop} {fs : β → List (Str × MP V)} {f : (S : Type) → (R : S → MP Hp) → Cap S R → α → M S β} (cp : Cap Z.S Z.R) {x : α} {ws : List V} {s : Z.S} {G B : Hp} {σ : L2.St} {H : Hp} {Q : VK} {a dx : Addr}
    (st : Sta Z Γ s G B σ H) (na : H a = none) (nd : H dx = none) (ne : dx ≠ a) (hra : ra Z.S Z.R cp x ws G) (q : PostE Z Γ (.fz (rObj C fs)) σ Q G (f Z.S Z.R cp x s)) :
    spI Z.X.mg C ra fs f (.ref a :: ws) (upd (upd H dx (.own a)) a (.ins C dx [])) (fun v H2 => v = .non ∧ Q (.ref a) H2) (WE Z.W σ) := by
  have ga := Same.free st.ok.gh na
  have gd := Same.free st.ok.gh nd
  have ba := Same.free st.ok.bh na
  have bd := Same.free st.ok.bh nd
  have lss : Same H (rem (upd (upd H dx (.own a)) a (.ins C dx [])) a) := fun b o e => by
    have n1 := ne_of_none e na
    have n2 := ne_of_none e nd
    unfold rem
    rw [if_neg n1, upd_ne n1, upd_ne n2]
    exact e
  refine ⟨Z.S, Z.R, cp, s, G, B, x, a, dx, ws, rfl, upd_same, ga, ba, Same.upd_r (Same.upd_r st.ok.gh gd) ga, Same.upd_r (Same.upd_r st.ok.bh bd) ba, st.ok.dj, st.res, hra, ?_⟩
  revert q
  induction f Z.S Z.R cp x s with
  | ok y s1 =>
    intro q H' G' B' ok r h
    obtain ⟨h1, dx', vs, h2, h3⟩ := h
    have ok' := ok.less lss
    exact ⟨rfl, q _ H' G' B' ok'.g0 (st.call ok' r) ⟨a, dx', vs, rfl, h2, h3⟩⟩
  | err y s1 =>
    intro q cls d H' G' B' ok r h
    have ok' := ok.less lss
    exact q cls d σ H' G' B' ok'.g0 (st.call ok' r).nil h
  | stuck => exact fun q => q
  | all av o9 ih9 => exact fun q a9 h9 => ih9 a9 (q a9 h9)
/-- C(e, ..) -/
theorem je_mk {Cap : CapT} {C : Addr} {ra : (S : Type) → (R : S → MP Hp) → Cap S R → α → List V → Hp → Prop} {fs : β → List (Str × MP V)} {f : (S : Type) → (R : S → MP Hp) → Cap S R → α → M S β} {n : Str} {k j np : Nat} {gV : List V → List V → List V} {mk : (γ : Type) → (α → M Z.S γ) → M Z.S γ}
    (z : ZOk Z) (MC : MkC Z.X.prog Z.X.w Z.X.K Z.X.mg Z.X.base n j C np [] gV (spI Z.X.mg C ra fs f)) (hr : Room k Z.X.A) (cp : Cap Z.S Z.R) (ha : JA Z Γ (e :: es) mk (ra Z.S Z.R cp)) (hgV : ∀ vs : List V, gV vs [] = vs := by intro _; first | rfl | exact List.append_nil _) (hnp : (e :: es).length = np := by rfl) (hg : Gl Z.X n := by rfl) (hj : j + 1 ≤ k := by decide)
    (hdb : (n == ("__debug__" : Str)) = false := by decide) (he : starEach (e :: es) Z.X.env = (false, eval e Z.X.env) :: starEach es Z.X.env := by exact star_of rfl) (hpl : (backTo pos (starEach es Z.X.env)).any (·.1) = false := by rfl) :
    JE Z Γ (.Call (.Name n p) (e :: es) [] pos) (mk _ (f Z.S Z.R cp)) (.fz (rObj C fs)) := by
  obtain ⟨fa, fd, ps, g, F1, hm, Mc, kb⟩ := MC.ex
  obtain ⟨t, ht, hq⟩ := ha.ex
  refine ⟨⟨fun pins s0 σ H Q I ⟨s, G, B, st, q⟩ => ?_⟩⟩
  refine wpAny_Call_Name_kw (ld_glob I hg hm ?_ hdb)
  refine PySem.W.callWith_K (h₀ := Z.X.base) I.ok.mod.kin Mc.kp (thn (ht.run pos pins s0 σ H (fun vs H1 => ∃ x s1 G1 B1, Sta Z Γ s1 G1 B1 σ H1 ∧ ra Z.S Z.R cp x vs G1 ∧ PostE Z Γ (.fz (rObj C fs)) σ Q G1 (f Z.S Z.R cp x s1)) I
    (hq st q fun vs H1 x s1 G1 B1 g1 st1 hx q1 => ⟨x, s1, G1, B1, st1, hx, q1⟩)) fun us s1 ⟨vs, H1, I1, r, x, t1, G1, B1, st1, hx, q1⟩ => ⟨I1.kIn, ?_⟩) he hpl
  have hl : vs.length = np := by rw [ha.len hx, hnp]
  refine run_mk (gV := fun a => gV (a :: vs) []) (gU := fun a => g (a :: us) []) Mc F1 (hr.mono hj) (passAt z.tk σ) (fun s' a X => kb.to s' (.ref a :: us) [] X (by rw [List.length_cons, ← r.length, hl]) rfl) (fun a => kb.rel (.cons rfl r) .nil) I1 fun a dx na nd ne => ?_
  have e1 : gV (.ref a :: vs) [] = .ref a :: vs := hgV _
  rw [e1]
  exact mk_post cp st1 na nd ne hx q1
/-- C(e, .., k = v, ..) -/
theorem je_mkK {αp αk : Type} {Cap : CapT} {C : Addr} {ra : (S : Type) → (R : S → MP Hp) → Cap S R → α → List V → Hp → Prop} {fs : β → List (Str × MP V)} {f : (S : Type) → (R : S → MP Hp) → Cap S R → α → M S β} {n : Str} {k j np : Nat} {ks : List Str} {gV : List V → List V → List V}
    {mkp : (γ : Type) → (αp → M Z.S γ) → M Z.S γ} {mkk : (γ : Type) → (αk → M Z.S γ) → M Z.S γ} {rap : αp → List V → Hp → Prop} {rak : αk → List V → Hp → Prop} (z : ZOk Z) (MC : MkC Z.X.prog Z.X.w Z.X.K Z.X.mg Z.X.base n j C np ks gV (spI Z.X.mg C ra fs f)) (hr : Room k Z.X.A) (cp : Cap Z.S Z.R)
    (ha : JA Z Γ (e :: es) mkp rap) (hk : JK Z Γ kws mkk rak) (jn : αp → αk → α) (hjn : ∀ {x : αp} {y : αk} {vs zs : List V} {G : Hp} (a : V), rap x vs G → rak y zs G → ∃ ws, gV (a :: vs) zs = a :: ws ∧ ra Z.S Z.R cp (jn x y) ws G)
    (hnp : (e :: es).length = np := by rfl) (hg : Gl Z.X n := by rfl) (hj : j + 1 ≤ k := by decide) (hall : (backToKw pos (keywordEach kws Z.X.env)).all (·.1.isSome) = true := by rfl) (hks : (backToKw pos (keywordEach kws Z.X.env)).filterMap (·.1) = ks := by rfl) (hkl : kws.length = ks.length := by rfl)
    (hdb : (n == ("__debug__" : Str)) = false := by decide) (he : starEach (e :: es) Z.X.env = (false, eval e Z.X.env) :: starEach es Z.X.env := by exact star_of rfl) (hpl : ((backTo pos (starEach (e :: es) Z.X.env)).any (·.1) || (backToKw pos (keywordEach kws Z.X.env)).any (·.1.isNone)) = false := by rfl) :
    JE Z Γ (.Call (.Name n p) (e :: es) kws pos) (mkp _ fun x => mkk _ fun y => f Z.S Z.R cp (jn x y)) (.fz (rObj C fs)) := by
  obtain ⟨fa, fd, ps, g, F1, hm, Mc, kb⟩ := MC.ex
  obtain ⟨t, ht, hq⟩ := ha.ex
  obtain ⟨tk, htk, hqk⟩ := hk.ex
  refine ⟨⟨fun pins s0 σ H Q I ⟨s, G, B, st, q⟩ => ?_⟩⟩
  refine wpAny_Call_Name_kw (ld_glob I hg hm ?_ hdb)
  refine PySem.W.callWith_KW (h₀ := Z.X.base) I.ok.mod.kin Mc.kp hall (thn (ht.run pos pins s0 σ H (fun vs H1 => ∃ x s1 G1 B1, Sta Z Γ s1 G1 B1 σ H1 ∧ rap x vs G1 ∧ PostE Z Γ (.fz (rObj C fs)) σ Q G1 (mkk _ (fun y => f Z.S Z.R cp (jn x y)) s1)) I
    (hq st q fun vs H1 x s1 G1 B1 g1 st1 hx q1 => ⟨x, s1, G1, B1, st1, hx, q1⟩)) fun us s1 ⟨vs, H1, I1, r, x, t1, G1, B1, st1, hx, q1⟩ => ?_) hpl he
  refine thn (htk.run pos pins s1 σ H1 (fun zs H2 => ∃ y s2 G2 B2, Same G1 G2 ∧ Sta Z Γ s2 G2 B2 σ H2 ∧ rak y zs G2 ∧ PostE Z Γ (.fz (rObj C fs)) σ Q G2 (f Z.S Z.R cp (jn x y) s2)) I1
    (hqk st1 q1 fun zs H2 y s2 G2 B2 g2 st2 hy q2 => ⟨y, s2, G2, B2, g2, st2, hy, q2⟩)) fun us2 s2 ⟨zs, H2, I2, rz, y, t2, G2, B2, g2, st2, hy, q2⟩ => ⟨I2.kIn, ?_⟩
  rw [hks]
  have hl : vs.length = np := by rw [ha.len hx, hnp]
  have hl2 : zs.length = ks.length := by rw [hk.len hy, hkl]
  refine run_mk (gV := fun a => gV (a :: vs) zs) (gU := fun a => g (a :: us) us2) Mc F1 (hr.mono hj) (passAt z.tk σ) (fun s' a X => kb.to s' (.ref a :: us) us2 X (by rw [List.length_cons, ← r.length, hl]) (by rw [← rz.length, hl2])) (fun a => kb.rel (.cons rfl r) rz) I2 fun a dx na nd ne => ?_
  obtain ⟨ws, e1, h1⟩ := hjn (.ref a) (ha.mono g2 hx) hy
  rw [e1]
  exact mk_post cp st2 na nd ne h1 q2
/-! ### methods -/
/-- a class's method by its name -/
structure MtC (P : Program) (w : World) (K : PySem.W.Frag) (mg : Str → Option Value) (base : Heap) (C : Addr) (m : Str) (k : Nat) (sp : Sp) : Prop where
  ex : ∃ f fd ps, FnOk P w K mg base (L2.CX P w) k f fd ps sp ∧ Meth K C m f ∧ Binds K fd ps []
/-- self is an instance whose own dict hides no method m, where the guard lets pass -/
structure SelfOk (Z : Zc) (C : Addr) (m : Str) {α : Type} (rs : Rp α) (gd : M Z.S Unit) : Prop where
  two : ∀ s, gd s = .ok () s ∨ gd s = .stuck
  so : ∀ {s : Z.S} {G B H : Hp} {y : α} {v : V}, gd s = .ok () s → Same G H → Same B H → (Z.R s).p B G → (rs y).p v G → ∃ a dx fs, v = .ref a ∧ H a = some (.ins C dx fs) ∧ fs.lookup m = none
theorem SelfOk.at_ {C : Addr} {m : Str} {rs : Rp α} {gd : M Z.S Unit} (so : SelfOk Z C m rs gd) {k : Unit → M Z.S β} {ρ : Res β} {s : Z.S} {G B : Hp} {σ : L2.St} {H : Hp} {Q : VK} {y : α} {v : V} (st : Sta Z Γ s G B σ H) (hv : (rs y).p v G) (q : PostE Z Γ ρ σ Q G (bnd gd k s)) :
    (∃ a dx fs, v = .ref a ∧ H a = some (.ins C dx fs) ∧ fs.lookup m = none) ∧ PostE Z Γ ρ σ Q G (k () s) := by
  have q : PostE Z Γ ρ σ Q G ((gd s).bnd k) := q
  rcases so.two s with e | e
  · rw [e] at q
    exact ⟨so.so e st.ok.gh st.ok.bh st.res hv, q⟩
  · rw [e] at q
    exact q.elim
theorem FP.none {G : Hp} {f : Str} : ∀ {vs : List (Str × V)} {fs : List (Str × MP V)}, FP G vs fs → fs.lookup f = none → vs.lookup f = none
  | _, _, .nil => fun h => rfl
  | (n, v) :: vs, (m, B) :: fs, .cons h t => fun q => by
    have e : n = m := h.1
    subst e
    rw [List.lookup_cons] at q ⊢
    cases hb : f == n with
    | true =>
      rw [hb] at q
      cases q
    | false =>
      rw [hb] at q
      exact FP.none t q
theorem so_obj {C : Addr} {m : Str} {fs : α → List (Str × MP V)} (hl : ∀ x, (fs x).lookup m = none := by intro _; rfl) : SelfOk Z C m (rObj C fs) (ret ()) := ⟨fun _ => .inl rfl, fun {s G B H y v} _ g b r h => by
  obtain ⟨a, dx, vs, rfl, h1, h2⟩ := h
  exact ⟨a, dx, vs, rfl, g _ _ h1, h2.none (hl y)⟩⟩
abbrev MEq (env : Env) (o : Expr) (m : Str) (apos : Pos) (args : List Expr) (pos : Pos) (pl : Sem Bool) : Prop :=
  eval (.Call (.Attribute o m apos) args [] pos) env = (eval o env >>= fun ov => standAt apos.atName >>= fun _ => holding [ov] (getMethod ov m pl) >>= fun fx => callWith pos fx.1 fx.2 (backTo pos (starEach args env)) (backToKw pos (keywordEach [] env)))
theorem je_meth {pl : Sem Bool} {αs : Type} {Cap : CapT} {C : Addr} {rs : Rp αs} {ra1 : α → List V → Hp → Prop} {ra : (S : Type) → (R : S → MP Hp) → Cap S R → αs × α → List V → Hp → Prop} {ρ : Res β} {f : (S : Type) → (R : S → MP Hp) → Cap S R → αs × α → M S β} {m : Str} {k j : Nat} {ms : M Z.S αs} {mk : (γ : Type) → (α → M Z.S γ) → M Z.S γ} (z : ZOk Z)
    (F : MtC Z.X.prog Z.X.w Z.X.K Z.X.mg Z.X.base C m j (spC Z.X.mg ra ρ f)) (hr : Room k Z.X.A) (cp : Cap Z.S Z.R) (cl : Cls Z.X.K C) {gd : M Z.S Unit} (so : SelfOk Z C m rs gd) (ho : JE Z Γ o ms (.fz rs)) (ha : JA Z Γ (e :: es) mk ra1) (hra : ra Z.S Z.R cp = raC rs ra1 := by rfl) (hj : j ≤ k := by decide) (hρ : ∀ k c, ρ ≠ .vw k c := by intro _ _ h; cases h)
    (he : starEach (e :: es) Z.X.env = (false, eval e Z.X.env) :: starEach es Z.X.env := by exact star_of rfl) (hpl : (backTo pos (starEach es Z.X.env)).any (·.1) = false := by rfl) (ht : MEq Z.X.env o m apos (e :: es) pos pl := by rfl) :
    JE Z Γ (.Call (.Attribute o m apos) (e :: es) [] pos) (bnd ms fun x => bnd gd fun _ => mk _ fun y => f Z.S Z.R cp (x, y)) ρ := by
  obtain ⟨fa, fd, ps, F1, hm, hb⟩ := F.ex
  obtain ⟨t, htt, hq⟩ := ha.ex
  refine ⟨⟨fun pins s0 σ H Q I ⟨s, G, B, st, q⟩ => ?_⟩⟩
  refine PySem.W.methodCall_KW (pl := pl) (thn (ho.pe.run pins s0 σ H _ I (tE_bnd (ρ := .fz rs) st q)) ?_) ht
  rintro u s1 ⟨v, H1, I1, rv, x, t1, G1, B1, g1, st1, hx, q1⟩
  obtain ⟨⟨a, dx, fs, rfl, ea, l⟩, q1⟩ := so.at_ st1 hx q1
  obtain rfl : u = Value.ref a := rv
  refine getmeth_ok I1 ea cl hm l ?_
  refine PySem.W.callWith_K (first := [.ref a]) (h₀ := Z.X.base) I.ok.mod.kin hm.kp (thn (htt.run pos pins s1 σ H1 (fun vs H2 => ∃ y s2 G2 B2, Same G1 G2 ∧ Sta Z Γ s2 G2 B2 σ H2 ∧ ra1 y vs G2 ∧ PostE Z Γ ρ σ Q G2 (f Z.S Z.R cp (x, y) s2)) I1
    (hq st1 q1 fun vs H2 y s2 G2 B2 g2 st2 hy q2 => ⟨y, s2, G2, B2, g2, st2, hy, q2⟩)) fun us s2 ⟨vs, H2, I2, r, y, t2, G2, B2, g2, st2, hy, q2⟩ => ⟨I2.kIn, ?_⟩) he hpl
  refine run_fnS (us := .ref a :: us) (vs := .ref a :: vs) (E := WE Z.W) F1 (hr.mono hj) hb (passAt z.tk σ) I2 (.cons rfl r) (sp_run cp hρ st2 ?_ q2)
  rw [hra]
  exact ⟨_, vs, rfl, (rs x).mono g2 hx, hy⟩
theorem je_meth0 {pl : Sem Bool} {αs : Type} {Cap : CapT} {C : Addr} {rs : Rp αs} {ra : (S : Type) → (R : S → MP Hp) → Cap S R → αs × Unit → List V → Hp → Prop} {ρ : Res β} {f : (S : Type) → (R : S → MP Hp) → Cap S R → αs × Unit → M S β} {m : Str} {k j : Nat} {ms : M Z.S αs} (z : ZOk Z)
    (F : MtC Z.X.prog Z.X.w Z.X.K Z.X.mg Z.X.base C m j (spC Z.X.mg ra ρ f)) (hr : Room k Z.X.A) (cp : Cap Z.S Z.R) (cl : Cls Z.X.K C) {gd : M Z.S Unit} (so : SelfOk Z C m rs gd) (ho : JE Z Γ o ms (.fz rs)) (hra : ra Z.S Z.R cp = raC rs raN := by rfl) (hj : j ≤ k := by decide) (hρ : ∀ k c, ρ ≠ .vw k c := by intro _ _ h; cases h) (ht : MEq Z.X.env o m apos [] pos pl := by rfl) :
    JE Z Γ (.Call (.Attribute o m apos) [] [] pos) (bnd ms fun x => bnd gd fun _ => f Z.S Z.R cp (x, ())) ρ := by
  obtain ⟨fa, fd, ps, F1, hm, hb⟩ := F.ex
  refine ⟨⟨fun pins s0 σ H Q I ⟨s, G, B, st, q⟩ => ?_⟩⟩
  refine PySem.W.methodCall_KW (pl := pl) (thn (ho.pe.run pins s0 σ H _ I (tE_bnd (ρ := .fz rs) st q)) ?_) ht
  rintro u s1 ⟨v, H1, I1, rv, x, t1, G1, B1, g1, st1, hx, q1⟩
  obtain ⟨⟨a, dx, fs, rfl, ea, l⟩, q1⟩ := so.at_ st1 hx q1
  obtain rfl : u = Value.ref a := rv
  refine getmeth_ok I1 ea cl hm l ?_
  refine PySem.W.callWith_K0 (first := [.ref a]) I1.kIn hm.kp (run_fnS (us := [.ref a]) (vs := [.ref a]) (E := WE Z.W) F1 (hr.mono hj) hb (passAt z.tk σ) I1 (.cons rfl .nil) (sp_run cp hρ st1 ?_ q1))
  rw [hra]
  exact ⟨_, [], rfl, hx, rfl⟩
end
end DL
set_option Elab.async false
set_option linter.all false
set_option maxRecDepth 100000
namespace DL
open PySem PySem.Spec PyProof.Rows L2
/-! ### an instance that changes: its fields -/
/-- a thing of one's own: its content; what it stands for when it is still -/
structure OwK where
  L : MP HO
  A : MP V
  lk : Bool
  frz : ∀ {a : Addr} {o : HO} {G G1 : Hp}, L.p o G → Same G G1 → (lk = false → G1 a = some o) → (lk = true → ∃ od, G1 a = some (.frz od o)) → A.p (.ref a) G1
  mu : ∀ {o : HO} {G : Hp}, L.p o G → lk = true → Mut (some o)
def owL {α : Type} (r : Rp α) (xs : List α) : OwK := ⟨cL r xs, rL r xs, false, fun {a o G G1} ⟨vs, e, h⟩ g h1 _ => ⟨a, vs, rfl, by rw [h1 rfl, e], h.mono g⟩, fun _ h => by cases h⟩
def owD {κ α : Type} (k : KeyT κ) (r : Rp α) (d : List (κ × α)) : OwK := ⟨cD k r d, rD k r d, true, fun {a o G G1} ⟨vs, e, h⟩ g _ h2 => by
  obtain ⟨od, e2⟩ := h2 rfl
  exact ⟨a, od, vs, rfl, by rw [e2, e], h.mono g⟩, fun {o G} ⟨vs, e, _⟩ _ => by rw [e]; exact True.intro⟩
inductive Fd where
  | fz (A : MP V)
  | ow (O : OwK)
def Fd.A : Fd → MP V
  | .fz A => A
  | .ow O => O.A
inductive FsP (G B : Hp) : List (Str × V) → List (Str × Fd) → List Addr → Prop
  | nil : FsP G B [] [] []
  | fz {f : Str} {v : V} {A : MP V} {vs : List (Str × V)} {fs : List (Str × Fd)} {as : List Addr} (h : A.p v G) (t : FsP G B vs fs as) : FsP G B ((f, v) :: vs) ((f, .fz A) :: fs) as
  | ow {f : Str} {a : Addr} {o : HO} {O : OwK} {vs : List (Str × V)} {fs : List (Str × Fd)} {as : List Addr} (hb : B a = some o) (h : O.L.p o G) (t : FsP G B vs fs as) : FsP G B ((f, .ref a) :: vs) ((f, .ow O) :: fs) (a :: as)
section
variable {G G' B B' : Hp}
theorem FsP.mono (e : Same G G') : ∀ {vs fs as}, FsP G B vs fs as → FsP G' B vs fs as
  | _, _, _, .nil => .nil
  | _, _, _, .fz (A := A) h t => .fz (A.mono e h) (FsP.mono e t)
  | _, _, _, .ow (O := O) hb h t => .ow hb (O.L.mono e h) (FsP.mono e t)
theorem FsP.frame : ∀ {vs fs as}, FsP G B vs fs as → (∀ a ∈ as, B' a = B a) → FsP G B' vs fs as
  | _, _, _, .nil, _ => .nil
  | _, _, _, .fz h t, e => .fz h (FsP.frame t e)
  | _, _, _, .ow hb h t, e => .ow (by rw [e _ List.mem_cons_self]; exact hb) h (FsP.frame t fun a ha => e a (List.mem_cons_of_mem _ ha))
theorem FsP.names : ∀ {vs fs as}, FsP G B vs fs as → vs.map (·.1) = fs.map (·.1)
  | _, _, _, .nil => rfl
  | _, _, _, .fz h t => by rw [List.map_cons, List.map_cons, FsP.names t]
  | _, _, _, .ow hb h t => by rw [List.map_cons, List.map_cons, FsP.names t]
theorem FsP.length {vs fs as} (h : FsP G B vs fs as) : vs.length = fs.length := by
  have z := congrArg List.length h.names
  rw [List.length_map, List.length_map] at z
  exact z
theorem FsP.some_ : ∀ {vs fs as}, FsP G B vs fs as → ∀ a ∈ as, ∃ o, B a = some o
  | _, _, _, .nil, _, h => by cases h
  | _, _, _, .fz h t, a, ha => FsP.some_ t a ha
  | _, _, _, .ow hb h t, a, ha => by
    rcases List.mem_cons.mp ha with z | z
    · rw [z]; exact ⟨_, hb⟩
    · exact FsP.some_ t a z
theorem FsP.fz_at {f : Str} {A : MP V} : ∀ {vs fs as} {i : Nat}, FsP G B vs fs as → fs[i]? = some (f, .fz A) → ∃ v, vs[i]? = some (f, v) ∧ A.p v G
  | _, _, _, _, .nil, e => by simp at e
  | _, _, _, 0, .fz h t, e => by
    simp only [List.getElem?_cons_zero, Option.some.injEq, Prod.mk.injEq, Fd.fz.injEq] at e
    obtain ⟨e1, e2⟩ := e
    subst e1 e2
    exact ⟨_, rfl, h⟩
  | _, _, _, 0, .ow hb h t, e => by
    simp only [List.getElem?_cons_zero, Option.some.injEq, Prod.mk.injEq] at e
    cases e.2
  | _, _, _, i + 1, .fz h t, e => by
    obtain ⟨v, h1, h2⟩ := FsP.fz_at (i := i) t (by simpa using e)
    exact ⟨v, by simpa using h1, h2⟩
  | _, _, _, i + 1, .ow hb h t, e => by
    obtain ⟨v, h1, h2⟩ := FsP.fz_at (i := i) t (by simpa using e)
    exact ⟨v, by simpa using h1, h2⟩
/-- a field's thing, and what stands there when it is changed -/
theorem FsP.ow_at {f : Str} {O : OwK} : ∀ {vs fs as} {i : Nat}, FsP G B vs fs as → as.Nodup → fs[i]? = some (f, .ow O) → ∃ a o, vs[i]? = some (f, .ref a) ∧ a ∈ as ∧ B a = some o ∧ O.L.p o G ∧ ∀ {G' : Hp} {O' : OwK} {o' : HO}, Same G G' → O'.L.p o' G' → FsP G' (upd B a o') vs (fs.set i (f, .ow O')) as
  | _, _, _, _, .nil, _, e => by simp at e
  | _, _, _, 0, .fz h t, _, e => by
    simp only [List.getElem?_cons_zero, Option.some.injEq, Prod.mk.injEq] at e
    cases e.2
  | _, _, _, 0, .ow (a := a) (as := as) hb h t, nd, e => by
    simp only [List.getElem?_cons_zero, Option.some.injEq, Prod.mk.injEq, Fd.ow.injEq] at e
    obtain ⟨e1, e2⟩ := e
    subst e1 e2
    refine ⟨_, _, rfl, List.mem_cons_self, hb, h, fun {G' O' o'} g h' => ?_⟩
    refine .ow upd_same h' ((t.mono g).frame fun b hb => ?_)
    rw [upd_ne fun z => (List.nodup_cons.mp nd).1 (by rw [← z]; exact hb)]
  | _, _, _, i + 1, .fz (A := A) h t, nd, e => by
    obtain ⟨a, o, h1, h2, h3, h4, h5⟩ := FsP.ow_at (i := i) t nd (by simpa using e)
    exact ⟨a, o, by simpa using h1, h2, h3, h4, fun {G' O' o'} g h' => .fz (A.mono g h) (h5 g h')⟩
  | _, _, _, i + 1, .ow (O := O1) hb h t, nd, e => by
    obtain ⟨n1, n2⟩ := List.nodup_cons.mp nd
    obtain ⟨a, o, h1, h2, h3, h4, h5⟩ := FsP.ow_at (i := i) t n2 (by simpa using e)
    refine ⟨a, o, by simpa using h1, List.mem_cons_of_mem _ h2, h3, h4, fun {G' O' o'} g h' => .ow ?_ (O1.L.mono g h) (h5 g h')⟩
    rw [upd_ne fun z => n1 (by rw [z]; exact h2)]
    exact hb
theorem FsP.fz_set {f : Str} {A A' : MP V} {v : V} (hv : A'.p v G) : ∀ {vs fs as} {i : Nat}, FsP G B vs fs as → fs[i]? = some (f, .fz A) → FsP G B (vs.set i (f, v)) (fs.set i (f, .fz A')) as
  | _, _, _, _, .nil, e => by simp at e
  | _, _, _, 0, .fz h t, e => .fz hv t
  | _, _, _, 0, .ow hb h t, e => by
    simp only [List.getElem?_cons_zero, Option.some.injEq, Prod.mk.injEq] at e
    cases e.2
  | _, _, _, i + 1, .fz h t, e => .fz h (FsP.fz_set hv (i := i) t (by simpa using e))
  | _, _, _, i + 1, .ow hb h t, e => .ow hb h (FsP.fz_set hv (i := i) t (by simpa using e))
theorem FsP.snocF {f : Str} {A : MP V} {v : V} (hv : A.p v G) : ∀ {vs fs as}, FsP G B vs fs as → FsP G B (vs ++ [(f, v)]) (fs ++ [(f, .fz A)]) as
  | _, _, _, .nil => .fz hv .nil
  | _, _, _, .fz h t => .fz h (FsP.snocF hv t)
  | _, _, _, .ow hb h t => .ow hb h (FsP.snocF hv t)
theorem FsP.snocO {f : Str} {O : OwK} {a : Addr} {o : HO} (hb : B a = some o) (hv : O.L.p o G) : ∀ {vs fs as}, FsP G B vs fs as → FsP G B (vs ++ [(f, .ref a)]) (fs ++ [(f, .ow O)]) (as ++ [a])
  | _, _, _, .nil => .ow hb hv .nil
  | _, _, _, .fz h t => .fz h (FsP.snocO hb hv t)
  | _, _, _, .ow hb' h t => .ow hb' h (FsP.snocO hb hv t)
end
/-! lists of attributes -/
theorem look_nd {f : Str} {v : V} : ∀ {vs : List (Str × V)} {i : Nat}, (vs.map (·.1)).Nodup → vs[i]? = some (f, v) → vs.lookup f = some v
  | [], _, _, e => by simp at e
  | (g, w) :: vs, 0, _, e => by
    simp only [List.getElem?_cons_zero, Option.some.injEq, Prod.mk.injEq] at e
    rw [← e.1, ← e.2, List.lookup_cons]
    simp
  | (g, w) :: vs, i + 1, nd, e => by
    rw [List.map_cons, List.nodup_cons] at nd
    have e' : vs[i]? = some (f, v) := by simpa using e
    have z : f ≠ g := fun z => nd.1 (by
      rw [← z]
      exact List.mem_map.mpr ⟨(f, v), List.mem_of_getElem? e', rfl⟩)
    rw [List.lookup_cons, beq_eq_false_iff_ne.mpr z]
    exact look_nd nd.2 e'
theorem look_no {f : Str} : ∀ {vs : List (Str × V)}, f ∉ vs.map (·.1) → vs.lookup f = none
  | [], _ => rfl
  | (g, w) :: vs, h => by
    rw [List.map_cons, List.mem_cons, not_or] at h
    rw [List.lookup_cons, beq_eq_false_iff_ne.mpr h.1]
    exact look_no h.2
theorem putF_new {f : Str} {v : V} : ∀ {vs : List (Str × V)}, f ∉ vs.map (·.1) → putF f v vs = vs ++ [(f, v)]
  | [], _ => rfl
  | (g, w) :: vs, h => by
    rw [List.map_cons, List.mem_cons, not_or] at h
    show (if g = f then _ else _) = _
    rw [if_neg fun z => h.1 z.symm, putF_new h.2]
    rfl
theorem putF_old {f : Str} {v w : V} : ∀ {vs : List (Str × V)} {i : Nat}, (vs.map (·.1)).Nodup → vs[i]? = some (f, w) → putF f v vs = vs.set i (f, v)
  | [], _, _, e => by simp at e
  | (g, u) :: vs, 0, _, e => by
    simp only [List.getElem?_cons_zero, Option.some.injEq, Prod.mk.injEq] at e
    show (if g = f then _ else _) = _
    rw [if_pos e.1, e.1]
    rfl
  | (g, u) :: vs, i + 1, nd, e => by
    rw [List.map_cons, List.nodup_cons] at nd
    have e' : vs[i]? = some (f, w) := by simpa using e
    have z : g ≠ f := fun z => nd.1 (by
      rw [z]
      exact List.mem_map.mpr ⟨(f, w), List.mem_of_getElem? e', rfl⟩)
    show (if g = f then _ else _) = _
    rw [if_neg z, putF_old nd.2 e']
    rfl
/-! ### the resource -/
def remL (B : Hp) (l : List Addr) : Hp := fun a => if a ∈ l then none else B a
theorem remL_in {B : Hp} {l : List Addr} {a : Addr} (h : a ∈ l) : remL B l a = none := if_pos h
theorem remL_out {B : Hp} {l : List Addr} {a : Addr} (h : a ∉ l) : remL B l a = B a := if_neg h
structure ObjAt (x C dx : Addr) (fs : List (Str × Fd)) (vs : List (Str × V)) (as : List Addr) (B G : Hp) : Prop where
  at_ : B x = some (.ins C dx vs)
  fsp : FsP G B vs fs as
  nd : (x :: as).Nodup
/-- a class's fields in the order in which they come -/
structure CD (T : Type) where
  all : T → List (Str × Fd)
  names : List Str
  hn : ∀ t, (all t).map (·.1) = names
  nd : names.Nodup
/-- where an instance's fields are kept: their values, how many there are -/
structure OL (S T : Type) where
  get : S → Option (T × Nat)
  set : S → T × Nat → S
structure ObjR {S T : Type} (l : OL S T) (R : S → MP Hp) (x C dx : Addr) (d : CD T) : Prop where
  has : ∀ {s : S} {B G : Hp} {t : T} {n : Nat}, (R s).p B G → l.get s = some (t, n) → ∃ vs as, ObjAt x C dx ((d.all t).take n) vs as B G ∧
    ∀ {B' G' : Hp} {t' : T} {n' : Nat} {vs' : List (Str × V)} {as' : List Addr}, Same G G' → ObjAt x C dx ((d.all t').take n') vs' as' B' G' → (∀ a, a ∉ x :: as → a ∉ x :: as' → B' a = B a) → (∀ a ∈ as', a ∉ as → B a = none) → (∀ a ∈ as, a ∉ as' → B' a = none) → (R (l.set s (t', n'))).p B' G'
section
variable {S T τ : Type}
def getA (l : OL S T) (i : Nat) (g : T → τ) : M S τ := fun s => match l.get s with
  | some (t, n) => if i < n then .ok (g t) s else .stuck
  | none => .stuck
def putA (l : OL S T) (i : Nat) (u : T → τ → T) (y : τ) : M S Unit := fun s => match l.get s with
  | some (t, n) => if i < n then .ok () (l.set s (u t y, n)) else .stuck
  | none => .stuck
def newA (l : OL S T) (i : Nat) (u : T → τ → T) (y : τ) : M S Unit := fun s => match l.get s with
  | some (t, n) => if i = n then .ok () (l.set s (u t y, n + 1)) else .stuck
  | none => .stuck
def hereA (l : OL S T) : M S Unit := fun s => if (l.get s).isSome then .ok () s else .stuck
def frzA (l : OL S T) (dr : S → S) (N : Nat) : M S T := fun s => match l.get s with
  | some (t, n) => if n = N then .ok t (dr s) else .stuck
  | none => .stuck
end
theorem CD.take {T : Type} (d : CD T) (t : T) (n : Nat) : ((d.all t).take n).map (·.1) = d.names.take n := by rw [List.map_take, d.hn]
theorem ObjAt.names {T : Type} {d : CD T} {t : T} {n : Nat} {x C dx : Addr} {vs : List (Str × V)} {as : List Addr} {B G : Hp} (h : ObjAt x C dx ((d.all t).take n) vs as B G) : vs.map (·.1) = d.names.take n := by rw [h.fsp.names, d.take]
theorem ObjAt.ndn {T : Type} {d : CD T} {t : T} {n : Nat} {x C dx : Addr} {vs : List (Str × V)} {as : List Addr} {B G : Hp} (h : ObjAt x C dx ((d.all t).take n) vs as B G) : (vs.map (·.1)).Nodup := by
  rw [h.names]
  exact (List.take_sublist _ _).nodup d.nd
/-! the object's address -/
def rSelfU (x : Addr) : Rp Unit := fun _ => ⟨fun v _ => v = .ref x, fun _ h => h⟩
section
variable {Z : Zc} {Γ : Ctx} {α β γ T U ρ τ : Type} {e a b c o : Expr} {es : List Expr} {pos p apos : Pos} {Γ' : T → Ctx} {Γb : U → Ctx} {ρr : Res ρ} {rest : List Stmt} {Tt : Type} {l : OL Z.S Tt} {x C dx : Addr} {d : CD Tt} {i : Nat} {f : Str}
theorem so_am {m : Str} (cap : ObjR l Z.R x C dx d) (hm : m ∉ d.names := by exact of_decide_eq_true rfl) : SelfOk Z C m (rSelfU x) (hereA l) := ⟨fun s => by
    unfold hereA
    by_cases h : (l.get s).isSome = true
    · rw [if_pos h]; exact .inl rfl
    · rw [if_neg h]; exact .inr rfl, fun {s G B H y v} gd g b r h => by
    have h : v = .ref x := h
    unfold hereA at gd
    cases e : l.get s with
    | none => rw [e] at gd; cases gd
    | some q =>
      obtain ⟨t, n⟩ := q
      obtain ⟨vs, as, oa, _⟩ := cap.has r e
      refine ⟨x, dx, vs, h, b _ _ oa.at_, look_no fun z => hm ?_⟩
      rw [oa.names] at z
      exact List.mem_of_mem_take z⟩
/-- what a read of a field knows -/
theorem getA_of {g : Tt → τ} {k : τ → M Z.S β} {ρ : Res β} {s : Z.S} {G : Hp} {σ : L2.St} {Q : VK} (q : PostE Z Γ ρ σ Q G (bnd (getA l i g) k s)) : ∃ t n, l.get s = some (t, n) ∧ i < n ∧ PostE Z Γ ρ σ Q G (k (g t) s) := by
  have q : PostE Z Γ ρ σ Q G ((getA l i g s).bnd k) := q
  unfold getA at q
  cases e : l.get s with
  | none => rw [e] at q; exact q.elim
  | some tn =>
    obtain ⟨t, n⟩ := tn
    rw [e] at q
    dsimp only at q
    by_cases h : i < n
    · rw [if_pos h] at q
      exact ⟨t, n, rfl, h, q⟩
    · rw [if_neg h] at q
      exact q.elim
theorem getA_of' {g : Tt → τ} {ρ : Res τ} {s : Z.S} {G : Hp} {σ : L2.St} {Q : VK} (q : PostE Z Γ ρ σ Q G (getA l i g s)) : ∃ t n, l.get s = some (t, n) ∧ i < n ∧ PostE Z Γ ρ σ Q G (ret (g t) s) := by
  refine getA_of (k := ret) ?_
  show PostE Z Γ ρ σ Q G ((getA l i g s).bnd ret)
  revert q
  induction getA l i g s with
  | ok _ _ => exact fun q => q
  | err _ _ => exact fun q => q
  | stuck => exact fun q => q
  | all av o9 ih9 => exact fun q a9 h9 => ih9 a9 (q a9 h9)
theorem getA_ofT {g : Tt → τ} {k : τ → M Z.S Bool} {s : Z.S} {G : Hp} {σ : L2.St} {Q : Bool → Hp → Prop} (q : PostT Z Γ σ Q G (bnd (getA l i g) k s)) : ∃ t n, l.get s = some (t, n) ∧ i < n ∧ PostT Z Γ σ Q G (k (g t) s) := by
  have q : PostT Z Γ σ Q G ((getA l i g s).bnd k) := q
  unfold getA at q
  cases e : l.get s with
  | none => rw [e] at q; exact q.elim
  | some tn =>
    obtain ⟨t, n⟩ := tn
    rw [e] at q
    dsimp only at q
    by_cases h : i < n
    · rw [if_pos h] at q
      exact ⟨t, n, rfl, h, q⟩
    · rw [if_neg h] at q
      exact q.elim
theorem take_at {α : Type} {xs : List α} {i n : Nat} {y : α} (h : xs[i]? = some y) (hi : i < n) : (xs.take n)[i]? = some y := by rw [List.getElem?_take_of_lt hi]; exact h
/-- self.f, a value -/
theorem je_amF {r : Rp β} {m : M Z.S Unit} (g : Tt → β) (cap : ObjR l Z.R x C dx d) (cl : Cls Z.X.K C) (na : NoAttr Z.X.K C f) (h : JE Z Γ e m (.fz (rSelfU x))) (hi : ∀ t, (d.all t)[i]? = some (f, .fz (r (g t))) := by intro _; rfl) (hb : attributeBase e f Z.X.env (eval e Z.X.env) = eval e Z.X.env := by rfl) :
    JE Z Γ (.Attribute e f pos) (bnd m fun _ => getA l i g) (.fz r) :=
  je_one (t' := fun t => tFld Z.X.K t f) (fun _ => getA l i g) (.fz r) (fun _ p => pe_fld p hb) (fun _ _ _ _ => rfl) h fun _ v s G B σ H Q st hv q => by
    obtain ⟨t, n, e, hn, q⟩ := getA_of' q
    obtain ⟨vs, as, oa, _⟩ := cap.has st.res e
    obtain ⟨u, h1, h2⟩ := oa.fsp.fz_at (take_at (hi t) hn)
    exact ⟨x, C, dx, vs, u, hv, st.ok.bh _ _ oa.at_, cl, na, look_nd oa.ndn h1, fin q st h2⟩
/-- a field's thing of one's own -/
theorem am_at {O : Tt → OwK} (cap : ObjR l Z.R x C dx d) (hi : ∀ t, (d.all t)[i]? = some (f, .ow (O t))) {s : Z.S} {G B : Hp} {t : Tt} {n : Nat} (r : (Z.R s).p B G) (e : l.get s = some (t, n)) (hn : i < n) : ∃ vs q o, B x = some (.ins C dx vs) ∧ vs.lookup f = some (.ref q) ∧ B q = some o ∧ (O t).L.p o G ∧
    ∀ {G' : Hp} {t' : Tt} {o' : HO}, Same G G' → (∀ j, j ≠ i → (d.all t')[j]? = (d.all t)[j]?) → (O t').L.p o' G' → (Z.R (l.set s (t', n))).p (upd B q o') G' := by
  obtain ⟨vs, as, oa, up⟩ := cap.has r e
  obtain ⟨n1, n2⟩ := List.nodup_cons.mp oa.nd
  obtain ⟨q, o, h1, h2, h3, h4, h5⟩ := oa.fsp.ow_at n2 (take_at (hi t) hn)
  refine ⟨vs, q, o, oa.at_, look_nd oa.ndn h1, h3, h4, fun {G' t' o'} g hj ho => ?_⟩
  have e1 : ((d.all t).take n).set i (f, .ow (O t')) = (d.all t').take n := by
    apply List.ext_getElem?
    intro j
    by_cases z : j = i
    · subst z
      have hl : j < ((d.all t).take n).length := (List.getElem?_eq_some_iff.mp (take_at (hi t) hn)).1
      rw [List.getElem?_set_self hl, take_at (hi t') hn]
    · rw [List.getElem?_set_ne (Ne.symm z)]
      by_cases z2 : j < n
      · rw [List.getElem?_take_of_lt z2, List.getElem?_take_of_lt z2, hj j z]
      · rw [List.getElem?_eq_none (by rw [List.length_take]; omega), List.getElem?_eq_none (by rw [List.length_take]; omega)]
  have nx : x ≠ q := fun z => n1 (by rw [z]; exact h2)
  refine up (as' := as) (vs' := vs) g ⟨by rw [upd_ne nx]; exact oa.at_, by rw [← e1]; exact h5 g ho, oa.nd⟩ (fun b hb _ => ?_) (fun b hb hb' => absurd hb hb') (fun b hb hb' => absurd hb hb')
  rw [upd_ne fun z => hb (by rw [z]; exact List.mem_cons_of_mem _ h2)]
end
end DL
set_option Elab.async false
set_option linter.all false
set_option maxRecDepth 100000
namespace DL
open PySem PySem.Spec PyProof.Rows L2
/-! ### expressions that change nothing -/
def rdM {S α : Type} (pm : S → Option α) : M S α := fun s => match pm s with
  | some y => .ok y s
  | none => .stuck
@[simp] theorem rdM_some {S α : Type} (x : α) : (rdM (fun _ : S => some x)) = ret x := rfl
structure JP (Z : Zc) (Γ : Ctx) (e : Expr) {α : Type} (pm : Z.S → Option α) (r : Rp α) : Prop where
  ex : ∃ t, PE Z.X e t ∧ ∀ {s : Z.S} {G B : Hp} {σ : L2.St} {H : Hp} {Q : VK}, Sta Z Γ s G B σ H → ∀ y, pm s = some y → (∀ v H' G', Same G G' → Sta Z Γ s G' B σ H' → (r y).p v G' → Q v H') → t σ H Q
section
variable {Z : Zc} {Γ : Ctx} {α β γ T U ρ τ : Type} {e a b c o : Expr} {es : List Expr} {pos p apos : Pos} {Γ' : T → Ctx} {Γb : U → Ctx} {ρr : Res ρ} {rest : List Stmt} {Tt : Type} {l : OL Z.S Tt} {x C dx : Addr} {d : CD Tt} {i : Nat} {f : Str}
theorem rdM_of {pm : Z.S → Option α} {k : α → M Z.S β} {ρ : Res β} {s : Z.S} {G : Hp} {σ : L2.St} {Q : VK} (q : PostE Z Γ ρ σ Q G (bnd (rdM pm) k s)) : ∃ y, pm s = some y ∧ PostE Z Γ ρ σ Q G (k y s) := by
  have q : PostE Z Γ ρ σ Q G ((rdM pm s).bnd k) := q
  unfold rdM at q
  cases e : pm s with
  | none => rw [e] at q; exact q.elim
  | some y => rw [e] at q; exact ⟨y, rfl, q⟩
theorem JP.je {pm : Z.S → Option α} {r : Rp α} (h : JP Z Γ e pm r) : JE Z Γ e (rdM pm) (.fz r) := by
  obtain ⟨t, pt, ht⟩ := h.ex
  refine ⟨PE.imp pt fun σ H Q ⟨s, G, B, st, q⟩ => ?_⟩
  have q : PostE Z Γ (.fz r) σ Q G (rdM pm s) := q
  unfold rdM at q
  cases e : pm s with
  | none => rw [e] at q; exact q.elim
  | some y =>
    rw [e] at q
    exact ht st y e fun v H' G' g st' hv => q v H' G' B g st' hv
theorem jp_var {n : Str} {r : Rp α} {y : α} (k : Nat) (hk : Γ[k]? = some (some (.fz (r y)))) (hp : PE Z.X (.Name n pos) (tVar k)) : JP Z Γ (.Name n pos) (fun _ => some y) r :=
  ⟨_, hp, fun {s G B σ H Q} st z ez q => by
    cases ez
    obtain ⟨v, h1, h2⟩ := st.sl.fz k _ hk
    exact ⟨v, h1, q v H G (Same.refl _) st h2⟩⟩
theorem jp_int {n : Int} {j : Nat} : JP Z Γ (.Constant (.int n) j pos) (fun _ => some n) rI :=
  ⟨_, pe_int, fun {s G B σ H Q} st z ez q => by
    cases ez
    exact q _ H G (Same.refl _) st rfl⟩
theorem jp_str {n : Str} {j : Nat} : JP Z Γ (.Constant (.str n) j pos) (fun _ => some n) rS :=
  ⟨_, pe_str, fun {s G B σ H Q} st z ez q => by
    cases ez
    exact q _ H G (Same.refl _) st rfl⟩
/-- e.f of an instance that stands still -/
theorem jp_fld {C : Addr} {fs : α → List (Str × MP V)} {r : Rp β} {pm : Z.S → Option α} (g : α → β) (cl : Cls Z.X.K C) (na : NoAttr Z.X.K C f) (h : JP Z Γ e pm (rObj C fs)) (hl : ∀ x, (fs x).lookup f = some (r (g x)) := by intro _; rfl) (hb : attributeBase e f Z.X.env (eval e Z.X.env) = eval e Z.X.env := by rfl) :
    JP Z Γ (.Attribute e f pos) (fun s => (pm s).map g) r := by
  obtain ⟨t, pt, ht⟩ := h.ex
  refine ⟨_, pe_fld pt hb, fun {s G B σ H Q} st z ez q => ?_⟩
  cases e1 : pm s with
  | none => rw [e1] at ez; cases ez
  | some y =>
    rw [e1] at ez
    have ez : g y = z := Option.some.inj ez
    subst ez
    refine ht st y e1 fun v H' G' g' st' hv => ?_
    obtain ⟨a, dx, vs, rfl, ha, hp⟩ := hv
    obtain ⟨u, hu, hr⟩ := hp.get (hl y)
    exact ⟨a, C, dx, vs, u, rfl, st'.ok.gh _ _ ha, cl, na, hu, q u H' G' g' st' hr⟩
/-- self.f, a value -/
theorem jp_amF {r : Rp β} (g : Tt → β) (cap : ObjR l Z.R x C dx d) (cl : Cls Z.X.K C) (na : NoAttr Z.X.K C f) {pm : Z.S → Option Unit} (h : JP Z Γ e pm (rSelfU x)) (hi : ∀ t, (d.all t)[i]? = some (f, .fz (r (g t))) := by intro _; rfl) (hb : attributeBase e f Z.X.env (eval e Z.X.env) = eval e Z.X.env := by rfl) :
    JP Z Γ (.Attribute e f pos) (fun s => (pm s).bind fun _ => (l.get s).bind fun q => if i < q.2 then some (g q.1) else none) r := by
  obtain ⟨t, pt, ht⟩ := h.ex
  refine ⟨_, pe_fld pt hb, fun {s G B σ H Q} st z ez q => ?_⟩
  cases e1 : pm s with
  | none => rw [e1] at ez; cases ez
  | some y =>
    rw [e1] at ez
    cases e2 : l.get s with
    | none => rw [e2] at ez; cases ez
    | some tn =>
      obtain ⟨tt, n⟩ := tn
      rw [e2] at ez
      have ez : (if i < n then some (g tt) else none) = some z := ez
      by_cases hn : i < n
      · rw [if_pos hn] at ez
        cases ez
        refine ht st y e1 fun v H' G' g' st' hv => ?_
        obtain ⟨vs, as, oa, _⟩ := cap.has st'.res e2
        obtain ⟨u, h1, h2⟩ := oa.fsp.fz_at (take_at (hi tt) hn)
        exact ⟨x, C, dx, vs, u, hv, st'.ok.bh _ _ oa.at_, cl, na, look_nd oa.ndn h1, q u H' G' g' st' h2⟩
      · rw [if_neg hn] at ez
        cases ez
section
variable {α1 α2 : Type} {r1 : Rp α1} {r2 : Rp α2} {pm : Z.S → Option (α1 × α2)}
theorem jp_t2_0 {j : Nat} {p2 : Pos} (h : JP Z Γ a pm (rT2 Z.X.K r1 r2)) : JP Z Γ (.Subscript a (.Constant (.int 0) j p2) pos) (fun s => (pm s).map (·.1)) r1 := by
  obtain ⟨t, pt, ht⟩ := h.ex
  refine ⟨_, pe_ix ix_tup pt pe_int (fun _ _ => rfl), fun {s G B σ H Q} st z ez q => ?_⟩
  cases e1 : pm s with
  | none => rw [e1] at ez; cases ez
  | some y =>
    rw [e1] at ez
    have ez : y.1 = z := Option.some.inj ez
    subst ez
    refine ht st y e1 fun v H' G' g' st' ⟨p, u1, u2, ev, ht, h1, h2⟩ => ?_
    exact ⟨p, _, 0, _, ev, rfl, Same.sqT st'.ok.gh ht, rfl, q _ H' G' g' st' h1⟩
theorem jp_t2_1 {j : Nat} {p2 : Pos} (h : JP Z Γ a pm (rT2 Z.X.K r1 r2)) : JP Z Γ (.Subscript a (.Constant (.int 1) j p2) pos) (fun s => (pm s).map (·.2)) r2 := by
  obtain ⟨t, pt, ht⟩ := h.ex
  refine ⟨_, pe_ix ix_tup pt pe_int (fun _ _ => rfl), fun {s G B σ H Q} st z ez q => ?_⟩
  cases e1 : pm s with
  | none => rw [e1] at ez; cases ez
  | some y =>
    rw [e1] at ez
    have ez : y.2 = z := Option.some.inj ez
    subst ez
    refine ht st y e1 fun v H' G' g' st' ⟨p, u1, u2, ev, ht, h1, h2⟩ => ?_
    exact ⟨p, _, 1, _, ev, rfl, Same.sqT st'.ok.gh ht, rfl, q _ H' G' g' st' h2⟩
end
/-! ### dicts in fields -/
section
variable {κ : Type} [DecidableEq κ] {kt : KeyT κ} {r : Rp α} {g : Tt → List (κ × α)}
theorem je_amIn (cap : ObjR l Z.R x C dx d) (cl : Cls Z.X.K C) (na : NoAttr Z.X.K C f) (hu : Z.X.A.units + 65 < cLine) {mk : M Z.S κ} {m : M Z.S Unit} (g : Tt → List (κ × α)) (hk : JE Z Γ a mk (.fz kt.rp)) (h : JE Z Γ e m (.fz (rSelfU x))) (hi : ∀ t, (d.all t)[i]? = some (f, .ow (owD kt r (g t))) := by intro _; rfl)
    (hb : attributeBase e f Z.X.env (eval e Z.X.env) = eval e Z.X.env := by rfl) (hm : behindInMarks .In (.Attribute e f p) = false := by rfl) :
    JE Z Γ (.Compare a [.In] [.Attribute e f p] pos) (bnd mk fun k => bnd m fun _ => bnd (getA l i g) fun dd => ret (dhas dd k)) (.fz rB) := by
  refine ⟨PE.imp (pe_cmp (pc_din (by omega) hk.pe (pe_fld h.pe hb)) hm) fun σ H Q ⟨s, G, B, st, q⟩ => ?_⟩
  refine tE.imp (tE_bnd (ρ := .fz kt.rp) st q) ?_
  rintro v H1 ⟨key, s1, G1, B1, g1, st1, hx, q1⟩
  refine tE.imp (tE_bnd (ρ := .fz (rSelfU x)) st1 q1) ?_
  rintro w H2 ⟨_, s2, G2, B2, g2, st2, hy, q2⟩
  obtain ⟨t, n, e1, hn, q2⟩ := getA_of q2
  obtain ⟨vs, ad, od, h1, h2, h3, h4, _⟩ := am_at cap hi st2.res e1 hn
  obtain ⟨ov, hg, z⟩ := dgetV_of (H := H2) (st2.ok.bh _ _ h3) h4 ((kt.rp key).mono g2 hx)
  refine ⟨x, C, dx, vs, _, hy, st2.ok.bh _ _ h1, cl, na, h2, ad, ov, rfl, hg, ?_⟩
  rcases z with ⟨z1, rfl⟩ | ⟨x', u, z1, rfl, z3⟩
  · exact fin q2 st2 (by unfold dhas; rw [z1]; rfl)
  · exact fin q2 st2 (by unfold dhas; rw [z1]; rfl)
theorem jt_amIn (cap : ObjR l Z.R x C dx d) (cl : Cls Z.X.K C) (na : NoAttr Z.X.K C f) (hu : Z.X.A.units + 65 < cLine) {mk : M Z.S κ} {m : M Z.S Unit} (g : Tt → List (κ × α)) (hk : JE Z Γ a mk (.fz kt.rp)) (h : JE Z Γ e m (.fz (rSelfU x))) (hi : ∀ t, (d.all t)[i]? = some (f, .ow (owD kt r (g t))) := by intro _; rfl)
    (hb : attributeBase e f Z.X.env (eval e Z.X.env) = eval e Z.X.env := by rfl) (hm : behindInMarks .In (.Attribute e f p) = false := by rfl) :
    JT Z Γ (.Compare a [.In] [.Attribute e f p] pos) (bnd mk fun k => bnd m fun _ => bnd (getA l i g) fun dd => ret (dhas dd k)) := by
  refine ⟨PT.imp (pt_cmp (pc_din (by omega) hk.pe (pe_fld h.pe hb)) hm) fun σ H Q ⟨s, G, B, st, q⟩ => ?_⟩
  refine tE.imp (tE_bndT (ρ := .fz kt.rp) st q) ?_
  rintro v H1 ⟨key, s1, G1, B1, g1, st1, hx, q1⟩
  refine tE.imp (tE_bndT (ρ := .fz (rSelfU x)) st1 q1) ?_
  rintro w H2 ⟨_, s2, G2, B2, g2, st2, hy, q2⟩
  obtain ⟨t, n, e1, hn, q2⟩ := getA_ofT q2
  obtain ⟨vs, ad, od, h1, h2, h3, h4, _⟩ := am_at cap hi st2.res e1 hn
  obtain ⟨ov, hg, z⟩ := dgetV_of (H := H2) (st2.ok.bh _ _ h3) h4 ((kt.rp key).mono g2 hx)
  refine ⟨x, C, dx, vs, _, hy, st2.ok.bh _ _ h1, cl, na, h2, ad, ov, rfl, hg, dhas (g t) key, ?_, q2 H2 G2 B2 (Same.refl _) st2⟩
  rcases z with ⟨z1, rfl⟩ | ⟨x', u, z1, rfl, z3⟩
  · unfold dhas; rw [z1]; rfl
  · unfold dhas; rw [z1]; rfl
theorem jt_amNin (cap : ObjR l Z.R x C dx d) (cl : Cls Z.X.K C) (na : NoAttr Z.X.K C f) (hu : Z.X.A.units + 65 < cLine) {mk : M Z.S κ} {m : M Z.S Unit} (g : Tt → List (κ × α)) (hk : JE Z Γ a mk (.fz kt.rp)) (h : JE Z Γ e m (.fz (rSelfU x))) (hi : ∀ t, (d.all t)[i]? = some (f, .ow (owD kt r (g t))) := by intro _; rfl)
    (hb : attributeBase e f Z.X.env (eval e Z.X.env) = eval e Z.X.env := by rfl) (hm : behindInMarks .NotIn (.Attribute e f p) = false := by rfl) :
    JT Z Γ (.Compare a [.NotIn] [.Attribute e f p] pos) (bnd mk fun k => bnd m fun _ => bnd (getA l i g) fun dd => ret (!dhas dd k)) := by
  refine ⟨PT.imp (pt_cmp (pc_dnotin (by omega) hk.pe (pe_fld h.pe hb)) hm) fun σ H Q ⟨s, G, B, st, q⟩ => ?_⟩
  refine tE.imp (tE_bndT (ρ := .fz kt.rp) st q) ?_
  rintro v H1 ⟨key, s1, G1, B1, g1, st1, hx, q1⟩
  refine tE.imp (tE_bndT (ρ := .fz (rSelfU x)) st1 q1) ?_
  rintro w H2 ⟨_, s2, G2, B2, g2, st2, hy, q2⟩
  obtain ⟨t, n, e1, hn, q2⟩ := getA_ofT q2
  obtain ⟨vs, ad, od, h1, h2, h3, h4, _⟩ := am_at cap hi st2.res e1 hn
  obtain ⟨ov, hg, z⟩ := dgetV_of (H := H2) (st2.ok.bh _ _ h3) h4 ((kt.rp key).mono g2 hx)
  refine ⟨x, C, dx, vs, _, hy, st2.ok.bh _ _ h1, cl, na, h2, ad, ov, rfl, hg, !dhas (g t) key, ?_, q2 H2 G2 B2 (Same.refl _) st2⟩
  rcases z with ⟨z1, rfl⟩ | ⟨x', u, z1, rfl, z3⟩
  · unfold dhas; rw [z1]; rfl
  · unfold dhas; rw [z1]; rfl
/-- self.f[b] -/
theorem je_amGet (cap : ObjR l Z.R x C dx d) (cl : Cls Z.X.K C) (na : NoAttr Z.X.K C f) (hu : Z.X.A.units + 65 < cLine) {pk : Z.S → Option κ} {m : M Z.S Unit} (g : Tt → List (κ × α)) (h : JE Z Γ e m (.fz (rSelfU x))) (hk : JP Z Γ b pk kt.rp) (hi : ∀ t, (d.all t)[i]? = some (f, .ow (owD kt r (g t))) := by intro _; rfl)
    (hb : attributeBase e f Z.X.env (eval e Z.X.env) = eval e Z.X.env := by rfl) (hs : NoSl b := by exact fun _ _ => rfl) :
    JE Z Γ (.Subscript (.Attribute e f p) b pos) (bnd m fun _ => bnd (rdM pk) fun k => bnd (getA l i g) fun dd => opt (dget dd k)) (.fz r) := by
  obtain ⟨tk, ptk, htk⟩ := hk.ex
  refine ⟨PE.imp (pe_dget (by omega) (pe_fld h.pe hb) ptk hs) fun σ H Q ⟨s, G, B, st, q⟩ => ?_⟩
  refine tE.imp (tE_bnd (ρ := .fz (rSelfU x)) st q) ?_
  rintro w H1 ⟨_, s1, G1, B1, g1, st1, hy, q1⟩
  obtain ⟨key, ek, q1⟩ := rdM_of q1
  obtain ⟨t, n, e1, hn, q1⟩ := getA_of q1
  obtain ⟨vs, ad, od, h1, h2, h3, h4, _⟩ := am_at cap hi st1.res e1 hn
  refine ⟨x, C, dx, vs, _, hy, st1.ok.bh _ _ h1, cl, na, h2, ?_⟩
  refine htk st1 key ek fun v H2 G2 g2 st2 hv => ?_
  obtain ⟨y, ey, q1⟩ := opt_of' q1
  obtain ⟨ov, hg, z⟩ := dgetV_of (H := H2) (st2.ok.bh _ _ h3) ((owD kt r (g t)).L.mono g2 h4) hv
  rcases z with ⟨z1, z2⟩ | ⟨x', u, z1, z2, z3⟩
  · rw [ey] at z1
    cases z1
  · rw [ey] at z1
    cases z1
    subst z2
    exact ⟨ad, u, rfl, hg, q1 u H2 G2 B1 g2 st2 z3⟩
/-- self.f[b] = v -/
def dputA {S T : Type} (l : OL S T) (i : Nat) (g : T → List (κ × α)) (u : T → List (κ × α) → T) (k : κ) (y : α) : M S Unit := bnd (getA l i g) fun dd => bnd (dputM dd k y) fun d2 => putA l i u d2
theorem getA_ofB {T U ρ : Type} {Γ' : T → Ctx} {Γb : U → Ctx} {ρr : Res ρ} {D : Ends} {g : Tt → τ} {k : τ → M Z.S (Fl T U ρ)} {s : Z.S} {G : Hp} (q : PostB Z Γ' Γb ρr D G (bnd (getA l i g) k s)) : ∃ t n, l.get s = some (t, n) ∧ i < n ∧ PostB Z Γ' Γb ρr D G (k (g t) s) := by
  have q : PostB Z Γ' Γb ρr D G ((getA l i g s).bnd k) := q
  unfold getA at q
  cases e : l.get s with
  | none => rw [e] at q; exact q.elim
  | some tn =>
    obtain ⟨t, n⟩ := tn
    rw [e] at q
    dsimp only at q
    by_cases h : i < n
    · rw [if_pos h] at q
      exact ⟨t, n, rfl, h, q⟩
    · rw [if_neg h] at q
      exact q.elim
theorem rdM_ofB {T U ρ : Type} {Γ' : T → Ctx} {Γb : U → Ctx} {ρr : Res ρ} {D : Ends} {pm : Z.S → Option α} {k : α → M Z.S (Fl T U ρ)} {s : Z.S} {G : Hp} (q : PostB Z Γ' Γb ρr D G (bnd (rdM pm) k s)) : ∃ y, pm s = some y ∧ PostB Z Γ' Γb ρr D G (k y s) := by
  have q : PostB Z Γ' Γb ρr D G ((rdM pm s).bnd k) := q
  unfold rdM at q
  cases e : pm s with
  | none => rw [e] at q; exact q.elim
  | some y => rw [e] at q; exact ⟨y, rfl, q⟩
theorem putA_ofB {T U ρ : Type} {Γ' : T → Ctx} {Γb : U → Ctx} {ρr : Res ρ} {D : Ends} {u : Tt → τ → Tt} {y : τ} {k : Unit → M Z.S (Fl T U ρ)} {s : Z.S} {G : Hp} {t : Tt} {n : Nat} (e : l.get s = some (t, n)) (hn : i < n) (q : PostB Z Γ' Γb ρr D G (bnd (putA l i u y) k s)) : PostB Z Γ' Γb ρr D G (k () (l.set s (u t y, n))) := by
  have q : PostB Z Γ' Γb ρr D G ((putA l i u y s).bnd k) := q
  unfold putA at q
  rw [e] at q
  dsimp only at q
  rw [if_pos hn] at q
  exact q
/-- what the resource holds changes -/
theorem Sta.am {s s' : Z.S} {G B : Hp} {σ : L2.St} {H : Hp} {q : Addr} {o o' : HO} (st : Sta Z Γ s G B σ H) (hq : B q = some o) (r : (Z.R s').p (upd B q o') G) : Sta Z Γ s' G (upd B q o') σ (upd H q o') := by
  have gq : G q = none := by
    cases e : G q with
    | none => rfl
    | some u =>
      have z := st.ok.dj _ _ e
      rw [hq] at z
      cases z
  have nb : ∀ {b : Addr}, B b = none → b ≠ q := fun {b} e z => by rw [z, hq] at e; cases e
  refine ⟨⟨Same.upd_r st.ok.gh gq, Same.upd2 st.ok.bh, fun b u e => ?_, st.ok.g0, fun b u e => ?_, fun b u e e2 => ?_, st.ok.gn, fun b u e e2 => ?_⟩, r, ⟨st.sl.len, st.sl.fz, fun k L e => ?_, st.sl.ne⟩, st.sle, fun b u e => ?_, fun b u e => ?_⟩
  · rw [upd_ne (ne_of_none e gq)]
    exact st.ok.dj b u e
  · by_cases z : b = q
    · exact ⟨o', by rw [z]; exact upd_same⟩
    · rw [upd_ne z]
      exact st.ok.up b u e
  · rw [upd_ne (nb (st.ok.bn b u e e2))]
    exact st.ok.out b u e e2
  · rw [upd_ne (nb (st.ok.bn b u e e2))]
    exact st.ok.bn b u e e2
  · obtain ⟨c, w, h1, h2, h3, h4, h5, h6⟩ := st.sl.lv k L e
    exact ⟨c, w, h1, by rw [upd_ne (nb h5)]; exact h2, h3, h4, by rw [upd_ne (nb h5)]; exact h5, h6⟩
  · rw [upd_ne (nb (st.off b u e).2.1)]
    exact st.held b u e
  · obtain ⟨h1, h2, h3⟩ := st.off b u e
    exact ⟨h1, by rw [upd_ne (nb h2)]; exact h2, h3⟩
theorem jb_amPut (cap : ObjR l Z.R x C dx d) (cl : Cls Z.X.K C) (na : NoAttr Z.X.K C f) (hu : Z.X.A.units + 1 < cLine) {p1 p2 : Pos} {pk : Z.S → Option κ} {m : M Z.S Unit} {mv : M Z.S α} {F : M Z.S (Fl T U ρ)} (g : Tt → List (κ × α)) (u : Tt → List (κ × α) → Tt) (hv : JE Z Γ e mv (.fz r)) (h : JE Z Γ o m (.fz (rSelfU x))) (hk : JP Z Γ b pk kt.rp)
    (hr : JB Z Γ rest F Γ' Γb ρr) (hi : ∀ t, (d.all t)[i]? = some (f, .ow (owD kt r (g t))) := by intro _; rfl) (hg : ∀ t y, g (u t y) = y := by intro _ _; rfl) (hd : ∀ t y j, j ≠ i → (d.all (u t y))[j]? = (d.all t)[j]?) (hb : attributeBase o f Z.X.env (eval o Z.X.env) = eval o Z.X.env := by rfl)
    (hs : swapsWith e (some (.Subscript (.Attribute o f p1) b p2)) pos.line Z.X.env = pure false := by rfl) :
    JB Z Γ (.Assign [.Subscript (.Attribute o f p1) b p2] e pos :: rest) (bnd mv fun y => bnd m fun _ => bnd (rdM pk) fun k => bnd (dputA l i g u k y) fun _ => F) Γ' Γb ρr := by
  obtain ⟨tk, ptk, htk⟩ := hk.ex
  refine ⟨⟨fun pins s0 σ H D I ⟨s, G, B, st, q⟩ => ?_⟩⟩
  refine wpAny_execs_cons (thn ((ps_dput hu (pe_fld h.pe hb) ptk hv.pe hs).run pins s0 σ H { D with nx := (tS Z Γ F Γ' Γb ρr) D } I ?_) fun fl s1 hq => ?_)
  · refine tE.imp (tE_bndB (ρ := .fz r) st q) ?_
    rintro v H1 ⟨y, s1, G1, B1, g1, st1, hy, q1⟩
    refine tE.imp (tE_bndB (ρ := .fz (rSelfU x)) st1 q1) ?_
    rintro w H2 ⟨_, s2, G2, B2, g2, st2, hw, q2⟩
    obtain ⟨key, ek, q2⟩ := rdM_ofB q2
    unfold dputA at q2
    rw [bnd_assoc] at q2
    obtain ⟨t, n, e1, hn, q2⟩ := getA_ofB q2
    obtain ⟨vs, ad, od, h1, h2, h3, ⟨ws, eo, hws⟩, up⟩ := am_at cap hi st2.res e1 hn
    subst eo
    refine ⟨x, C, dx, vs, _, hw, st2.ok.bh _ _ h1, cl, na, h2, ?_⟩
    refine htk st2 key ek fun v3 H3 G3 g3 st3 hv3 => ?_
    unfold dputM at q2
    rw [bnd_assoc, bnd_assoc] at q2
    obtain ⟨c, q2⟩ := grd_ofB q2
    rw [bnd_ret] at q2
    have q3 := putA_ofB e1 hn q2
    have hws3 := hws.mono g3
    refine ⟨ad, _, rfl, .inl ⟨ws, kt.f key, st3.ok.bh _ _ h3, hv3, by rw [hws.length]; exact of_decide_eq_true c, rfl⟩, ?_⟩
    refine ⟨_, G3, _, st3.am h3 (up (t' := u t (dput (g t) key y)) g3 (hd t _) ?_), PostB.mono g3 q3⟩
    refine ⟨_, rfl, ?_⟩
    rw [hg]
    exact hws3.put ((r y).mono (g2.trans g3) hy)
  · cases fl with
    | next =>
      obtain ⟨σ', H', I', zz⟩ := hq
      exact hr.ps.run pins s1 σ' H' D I' zz
    | ret v => exact hq
    | brk => exact hq
    | cont => exact hq
end
end
end DL
set_option Elab.async false
set_option linter.all false
set_option maxRecDepth 100000
namespace DL
open PySem PySem.Spec PyProof.Rows L2
/-! ### the state without its resource -/
abbrev Zc.free (Z : Zc) : Zc := { Z with S := Unit, R := fun _ => ⟨fun _ _ => True, fun _ h => h⟩ }
section
variable {Z : Zc} {Γ : Ctx} {s : Z.S} {G B : Hp} {σ : L2.St} {H : Hp}
theorem Sta.forget (st : Sta Z Γ s G B σ H) : Sta Z.free Γ () G B σ H := ⟨st.ok, True.intro, ⟨st.sl.len, st.sl.fz, st.sl.lv, st.sl.ne⟩, st.sle, st.held, st.off⟩
theorem Sta.recall (st : Sta Z.free Γ () G B σ H) (r : (Z.R s).p B G) : Sta Z Γ s G B σ H := ⟨st.ok, r, ⟨st.sl.len, st.sl.fz, st.sl.lv, st.sl.ne⟩, st.sle, st.held, st.off⟩
/-- a thing of one's own goes to the resource -/
theorem Sta.give {q : Addr} {o : HO} (st : Sta Z.free Γ () G B σ H) (hq : H q = some o) (gq : G q = none) (fq : Z.F.H0 q = none) (dq : Z.hd q = none) (f : Off Γ σ q) : Sta Z.free Γ () G (upd B q o) σ H := by
  refine ⟨⟨st.ok.gh, Same.upd_l st.ok.bh hq, fun b u e => ?_, st.ok.g0, st.ok.up, st.ok.out, st.ok.gn, fun b u e e2 => ?_⟩, True.intro, ⟨st.sl.len, st.sl.fz, fun k L e => ?_, st.sl.ne⟩, st.sle, st.held, fun b u e => ?_⟩
  · rw [upd_ne (ne_of_none e gq)]
    exact st.ok.dj b u e
  · rw [upd_ne (ne_of_none e fq)]
    exact st.ok.bn b u e e2
  · obtain ⟨c, w, h1, h2, h3, h4, h5, h6⟩ := st.sl.lv k L e
    have ne : c ≠ q := fun z => f k L e (by rw [← z]; exact h1)
    exact ⟨c, w, h1, h2, h3, h4, by rw [upd_ne ne]; exact h5, h6⟩
  · obtain ⟨h1, h2, h3⟩ := st.off b u e
    exact ⟨h1, by rw [upd_ne (ne_of_none e dq)]; exact h2, h3⟩
/-- the state's names, one known better -/
theorem Sta.know {k : Nat} {A : MP V} {v : V} {y : Option Asn} (st : Sta Z Γ s G B σ H) (hy : ∀ L, y ≠ some (.lv L)) (hk : Γ[k]? = some y) (hs : σ[k]? = some (some v)) (h : A.p v G) : Sta Z (Γ.set k (some (.fz A))) s G B σ H := by
  have back : ∀ (j : Nat) (L : MP HO), (Γ.set k (some (.fz A)))[j]? = some (some (.lv L)) → Γ[j]? = some (some (.lv L)) := fun j L e => by
    rcases set_at e with ⟨rfl, z⟩ | ⟨n, z⟩
    · injection z with z
      injection z
    · exact z
  refine ⟨st.ok, st.res, ⟨by rw [List.length_set]; exact st.sl.len, fun j A' e => ?_, fun j L e => st.sl.lv j L (back j L e), fun j i L L' a e1 e2 => st.sl.ne j i L L' a (back j L e1) (back i L' e2)⟩, st.sle, st.held, st.off⟩
  rcases set_at e with ⟨rfl, z⟩ | ⟨n, z⟩
  · injection z with z
    injection z with z
    subst z
    exact ⟨v, hs, h⟩
  · exact st.sl.fz j A' z
end
section
variable {Z : Zc} {Γ : Ctx} {α β γ T U ρ τ : Type} {e a b c o : Expr} {es : List Expr} {pos p apos : Pos} {Γ' : T → Ctx} {Γb : U → Ctx} {ρr : Res ρ} {rest : List Stmt} {Tt : Type} {l : OL Z.S Tt} {x C dx : Addr} {d : CD Tt} {i : Nat} {f : Str}
theorem newA_ofB {D : Ends} {u : Tt → τ → Tt} {y : τ} {k : Unit → M Z.S (Fl T U ρ)} {s : Z.S} {G : Hp} (q : PostB Z Γ' Γb ρr D G (bnd (newA l i u y) k s)) : ∃ t, l.get s = some (t, i) ∧ PostB Z Γ' Γb ρr D G (k () (l.set s (u t y, i + 1))) := by
  have q : PostB Z Γ' Γb ρr D G ((newA l i u y s).bnd k) := q
  unfold newA at q
  cases e : l.get s with
  | none => rw [e] at q; exact q.elim
  | some tn =>
    obtain ⟨t, n⟩ := tn
    rw [e] at q
    dsimp only at q
    by_cases h : i = n
    · subst h
      rw [if_pos rfl] at q
      exact ⟨t, rfl, q⟩
    · rw [if_neg h] at q
      exact q.elim
theorem CD.grow {t t' : Tt} {F : Fd} (hi : (d.all t')[i]? = some (f, F)) (hd : ∀ j, j ≠ i → (d.all t')[j]? = (d.all t)[j]?) : (d.all t').take (i + 1) = (d.all t).take i ++ [(f, F)] := by
  have e : (d.all t').take i = (d.all t).take i := by
    apply List.ext_getElem?
    intro j
    by_cases z : j < i
    · rw [List.getElem?_take_of_lt z, List.getElem?_take_of_lt z, hd j (by omega)]
    · rw [List.getElem?_eq_none (by rw [List.length_take]; omega), List.getElem?_eq_none (by rw [List.length_take]; omega)]
  rw [List.take_add_one, hi, e]
  rfl
theorem CD.newn (hi : d.names[i]? = some f) {vs : List (Str × V)} (h : vs.map (·.1) = d.names.take i) : f ∉ vs.map (·.1) := by
  rw [h]
  intro z
  obtain ⟨h1, h2⟩ := List.getElem?_eq_some_iff.mp hi
  obtain ⟨j, hj, e⟩ := List.mem_iff_getElem.mp z
  rw [List.length_take] at hj
  rw [List.getElem_take] at e
  have z2 := List.pairwise_iff_getElem.mp d.nd j i (by omega) h1 (by omega)
  exact z2 (by rw [e, h2])
/-- self.f = e, the first time, a value -/
theorem jb_amNewF (cap : ObjR l Z.R x C dx d) (cl : Cls Z.X.K C) (na : NoAttr Z.X.K C f) {p1 : Pos} {r : Rp α} {m : M Z.S Unit} {mv : M Z.S α} {F : M Z.S (Fl T U ρ)} (g : Tt → α) (u : Tt → α → Tt) (hv : JE Z Γ e mv (.fz r)) (h : JE Z Γ o m (.fz (rSelfU x))) (hr : JB Z Γ rest F Γ' Γb ρr)
    (hd : ∀ t y j, j ≠ i → (d.all (u t y))[j]? = (d.all t)[j]?) (hi : ∀ t, (d.all t)[i]? = some (f, .fz (r (g t))) := by intro _; rfl) (hg : ∀ t y, g (u t y) = y := by intro _ _; rfl) (hf : d.names[i]? = some f := by rfl) (hlen : d.names.length < 1000 := by exact of_decide_eq_true rfl)
    (hs : swapsWith e (some (.Attribute o f p1)) pos.line Z.X.env = pure false := by rfl) :
    JB Z Γ (.Assign [.Attribute o f p1] e pos :: rest) (bnd mv fun y => bnd m fun _ => bnd (newA l i u y) fun _ => F) Γ' Γb ρr := by
  refine ⟨⟨fun pins s0 σ H D I ⟨s, G, B, st, q⟩ => ?_⟩⟩
  refine wpAny_execs_cons (thn ((ps_fld h.pe hv.pe hs).run pins s0 σ H { D with nx := (tS Z Γ F Γ' Γb ρr) D } I ?_) fun fl s1 hq => ?_)
  · refine tE.imp (tE_bndB (ρ := .fz r) st q) ?_
    rintro v H1 ⟨y, s1, G1, B1, g1, st1, hy, q1⟩
    refine tE.imp (tE_bndB (ρ := .fz (rSelfU x)) st1 q1) ?_
    rintro w H2 ⟨_, s2, G2, B2, g2, st2, hw, q2⟩
    obtain ⟨t, e1, q2⟩ := newA_ofB q2
    obtain ⟨vs, as, oa, up⟩ := cap.has st2.res e1
    have hnew := CD.newn hf oa.names
    have ll : vs.length < 1000 := by
      have z := congrArg List.length oa.names
      rw [List.length_map, List.length_take] at z
      omega
    refine ⟨x, C, dx, vs, hw, st2.ok.bh _ _ oa.at_, cl, na, ll, _, G2, _, st2.am oa.at_ ?_, q2⟩
    have hf2 := hi (u t y)
    rw [hg] at hf2
    have n1 := (List.nodup_cons.mp oa.nd).1
    refine up (as' := as) (vs' := vs ++ [(f, v)]) (Same.refl _) ⟨by rw [upd_same, putF_new hnew], ?_, oa.nd⟩ (fun b hb _ => ?_) (fun b hb hb' => absurd hb hb') (fun b hb hb' => absurd hb hb')
    · rw [CD.grow hf2 (hd t y)]
      refine FsP.snocF ((r y).mono g2 hy) (oa.fsp.frame fun b hb => ?_)
      rw [upd_ne fun z => n1 (by rw [← z]; exact hb)]
    · rw [upd_ne fun z => hb (by rw [z]; exact List.mem_cons_self)]
  · cases fl with
    | next =>
      obtain ⟨σ', H', I', zz⟩ := hq
      exact hr.ps.run pins s1 σ' H' D I' zz
    | ret v => exact hq
    | brk => exact hq
    | cont => exact hq
/-- self.f = e, the first time, a new thing of one's own -/
theorem jb_amNewO (cap : ObjR l Z.R x C dx d) (cl : Cls Z.X.K C) (na : NoAttr Z.X.K C f) {p1 pn : Pos} {k0 : Nat} {n0 : Str} {cc : α → MP HO} {O : α → OwK} {mv : M Z.S α} {F : M Z.S (Fl T U ρ)} (g : Tt → α) (u : Tt → α → Tt) (hv : JE Z Γ e mv (.own cc)) (h0 : Γ[k0]? = some (some (.fz (rSelfU x ())))) (hn : PE Z.X (.Name n0 pn) (tVar k0)) (hr : JB Z Γ rest F Γ' Γb ρr)
    (hd : ∀ t y j, j ≠ i → (d.all (u t y))[j]? = (d.all t)[j]?) (hO : ∀ y, (O y).L = cc y := by intro _; rfl) (hi : ∀ t, (d.all t)[i]? = some (f, .ow (O (g t))) := by intro _; rfl) (hg : ∀ t y, g (u t y) = y := by intro _ _; rfl) (hf : d.names[i]? = some f := by rfl) (hlen : d.names.length < 1000 := by exact of_decide_eq_true rfl)
    (hs : swapsWith e (some (.Attribute (.Name n0 pn) f p1)) pos.line Z.X.env = pure false := by rfl) :
    JB Z Γ (.Assign [.Attribute (.Name n0 pn) f p1] e pos :: rest) (bnd mv fun y => bnd (newA l i u y) fun _ => F) Γ' Γb ρr := by
  refine ⟨⟨fun pins s0 σ H D I ⟨s, G, B, st, q⟩ => ?_⟩⟩
  refine wpAny_execs_cons (thn ((ps_fld hn hv.pe hs).run pins s0 σ H { D with nx := (tS Z Γ F Γ' Γb ρr) D } I ?_) fun fl s1 hq => ?_)
  · refine tE.imp (tE_bndB (ρ := .own cc) st q) ?_
    rintro v H1 ⟨y, s1, G1, B1, g1, st1, ⟨q, o, rfl, hq, hc, gq, bq, fq, dq, off⟩, q1⟩
    obtain ⟨w, hw, ew⟩ := st1.sl.fz k0 _ h0
    have ew : w = .ref x := ew
    subst ew
    refine ⟨_, hw, ?_⟩
    obtain ⟨t, e1, q1⟩ := newA_ofB q1
    obtain ⟨vs, as, oa, up⟩ := cap.has st1.res e1
    have hnew := CD.newn hf oa.names
    have ll : vs.length < 1000 := by
      have z := congrArg List.length oa.names
      rw [List.length_map, List.length_take] at z
      omega
    have nx : x ≠ q := fun z => by
      have z2 := oa.at_
      rw [z, bq] at z2
      cases z2
    have qas : q ∉ as := fun z => by
      obtain ⟨o', e'⟩ := oa.fsp.some_ q z
      rw [bq] at e'
      cases e'
    have n1 := (List.nodup_cons.mp oa.nd).1
    have n2 := (List.nodup_cons.mp oa.nd).2
    have sta := Sta.am (Z := Z.free) (s' := ()) (st1.forget.give hq gq fq dq off) (q := x) (o' := .ins C dx (putF f (.ref q) vs)) (by rw [upd_ne nx]; exact oa.at_) True.intro
    refine ⟨x, C, dx, vs, rfl, st1.ok.bh _ _ oa.at_, cl, na, ll, _, G1, _, sta.recall ?_, q1⟩
    have hf2 := hi (u t y)
    rw [hg] at hf2
    refine up (as' := as ++ [q]) (vs' := vs ++ [(f, .ref q)]) (Same.refl _) ⟨by rw [upd_same, putF_new hnew], ?_, ?_⟩ (fun b hb hb' => ?_) (fun b hb hb' => ?_) (fun b hb hb' => absurd (List.mem_append_left _ hb) hb')
    · rw [CD.grow hf2 (hd t y)]
      refine FsP.snocO (o := o) ?_ (by rw [hO]; exact hc) (oa.fsp.frame fun b hb => ?_)
      · rw [upd_ne (Ne.symm nx), upd_same]
      · rw [upd_ne fun z => n1 (by rw [← z]; exact hb), upd_ne fun z => qas (by rw [← z]; exact hb)]
    · rw [List.nodup_cons, List.mem_append, not_or, List.nodup_append]
      refine ⟨⟨n1, by simpa using nx⟩, n2, by simp, fun a ha b hb z => ?_⟩
      rw [List.mem_singleton] at hb
      rw [hb] at z
      exact qas (by rw [← z]; exact ha)
    · have b1 : b ≠ x := fun z => hb (by rw [z]; exact List.mem_cons_self)
      have b2 : b ≠ q := fun z => hb' (by rw [z]; simp)
      rw [upd_ne b1, upd_ne b2]
    · rcases List.mem_append.mp hb with z | z
      · exact absurd z hb'
      · rw [List.mem_singleton.mp z]
        exact bq
  · cases fl with
    | next =>
      obtain ⟨σ', H', I', zz⟩ := hq
      exact hr.ps.run pins s1 σ' H' D I' zz
    | ret v => exact hq
    | brk => exact hq
    | cont => exact hq
/-! ### an instance becomes still -/
theorem frz_all {X : Cx} {pins : List (Addr × Obj)} {σ : L2.St} {s0 : Shared} {B : Hp} : ∀ {vs : List (Str × V)} {fs : List (Str × Fd)} {as : List Addr} {G H : Hp}, FsP G B vs fs as → as.Nodup → Inv X pins σ H s0 → (∀ a ∈ as, G a = none) → Same G H → (∀ a ∈ as, H a = B a) →
    ∃ G' H', Inv X pins σ H' s0 ∧ Same G G' ∧ Same G' H' ∧ (∀ a, a ∉ as → G' a = G a ∧ H' a = H a) ∧ (∀ a ∈ as, ∃ u, H' a = some u) ∧ FP G' vs (fs.map fun q => (q.1, q.2.A))
  | _, _, _, G, H, .nil, _, I, _, g, _ => ⟨G, H, I, Same.refl _, g, fun _ _ => ⟨rfl, rfl⟩, (fun _ h => by cases h), .nil⟩
  | _, _, _, G, H, .fz (A := A) h t, nd, I, gn, g, hb => by
    obtain ⟨G', H', I', g1, g2, h1, h2, h3⟩ := frz_all t nd I gn g hb
    exact ⟨G', H', I', g1, g2, h1, h2, .cons ⟨rfl, A.mono g1 h⟩ h3⟩
  | _, _, _, G, H, @FsP.ow _ _ f a o O vs fs as ha h t, nd, I, gn, g, hb => by
    obtain ⟨n1, n2⟩ := List.nodup_cons.mp nd
    have ga := gn a List.mem_cons_self
    have ea : H a = some o := by rw [hb a List.mem_cons_self]; exact ha
    have main : ∀ (o1 : HO) (H1 : Hp), Inv X pins σ H1 s0 → H1 a = some o1 → (∀ b, b ≠ a → H1 b = H b) → ((O.lk = false → o1 = o) ∧ (O.lk = true → ∃ od, o1 = .frz od o)) →
        ∃ G' H', Inv X pins σ H' s0 ∧ Same G G' ∧ Same G' H' ∧ (∀ b, b ∉ a :: as → G' b = G b ∧ H' b = H b) ∧ (∀ b ∈ a :: as, ∃ u, H' b = some u) ∧ FP G' ((f, .ref a) :: vs) (((f, Fd.ow O) :: fs).map fun q => (q.1, q.2.A)) := by
      intro o1 H1 I1 e1 e2 e3
      have g1 : Same G (upd G a o1) := Same.upd_new ga
      have g2 : Same (upd G a o1) H1 := fun b u q => by
        by_cases z : b = a
        · subst z
          rw [upd_same] at q
          rw [e1]
          exact q
        · rw [upd_ne z] at q
          rw [e2 b z]
          exact g b u q
      obtain ⟨G', H', I', k1, k2, k3, k4, k5⟩ := frz_all (t.mono g1) n2 I1 (fun b hb' => by rw [upd_ne fun z => n1 (by rw [← z]; exact hb')]; exact gn b (List.mem_cons_of_mem _ hb')) g2 (fun b hb' => by rw [e2 b fun z => n1 (by rw [← z]; exact hb')]; exact hb b (List.mem_cons_of_mem _ hb'))
      have eG : G' a = some o1 := by rw [(k3 a n1).1, upd_same]
      refine ⟨G', H', I', g1.trans k1, k2, fun b hb' => ?_, fun b hb' => ?_, .cons ⟨rfl, O.frz h (g1.trans k1) (fun z => by rw [eG, e3.1 z]) (fun z => ?_)⟩ k5⟩
      · rw [List.mem_cons, not_or] at hb'
        obtain ⟨m1, m2⟩ := k3 b hb'.2
        exact ⟨by rw [m1, upd_ne hb'.1], by rw [m2, e2 b hb'.1]⟩
      · rcases List.mem_cons.mp hb' with z | z
        · rw [z]
          exact ⟨o1, k2 _ _ eG⟩
        · exact k4 b z
      · obtain ⟨od, e4⟩ := e3.2 z
        exact ⟨od, by rw [eG, e4]⟩
    cases hl : O.lk with
    | false => exact main o H I ea (fun _ _ => rfl) ⟨fun _ => rfl, fun z => by rw [hl] at z; cases z⟩
    | true =>
      obtain ⟨od, I2⟩ := I.lock ea (O.mu h hl)
      exact main (.frz od o) _ I2 upd_same (fun b hb' => upd_ne hb') ⟨fun z => (by rw [hl] at z; cases z), fun _ => ⟨od, rfl⟩⟩
/-- the instance may leave the resource -/
structure ObjD {S T : Type} (l : OL S T) (R : S → MP Hp) (x C dx : Addr) (d : CD T) (dr : S → S) : Prop where
  out : ∀ {s : S} {B G : Hp} {t : T} {n : Nat}, (R s).p B G → l.get s = some (t, n) → ∃ vs as, ObjAt x C dx ((d.all t).take n) vs as B G ∧ ∀ {G' : Hp}, Same G G' → (R (dr s)).p (remL B (x :: as)) G'
theorem jb_amFrz {sts : List Stmt} {dr : Z.S → Z.S} {fsT : Tt → List (Str × MP V)} {k0 : Nat} {N : Nat} {m : Tt → M Z.S (Fl T U ρ)} (cap : ObjD l Z.R x C dx d dr) (h0 : Γ[k0]? = some (some (.fz (rSelfU x ())))) (h : ∀ t, JB Z (Γ.set k0 (some (.fz (rObjAt x C fsT t)))) sts (m t) Γ' Γb ρr)
    (hN : d.names.length = N := by rfl) (hfs : ∀ t, fsT t = (d.all t).map fun q => (q.1, q.2.A) := by intro _; rfl) : JB Z Γ sts (bnd (frzA l dr N) m) Γ' Γb ρr := by
  refine ⟨⟨fun pins s0 σ H D I ⟨s, G, B, st, q⟩ => ?_⟩⟩
  have q : PostB Z Γ' Γb ρr D G ((frzA l dr N s).bnd m) := q
  unfold frzA at q
  cases e : l.get s with
  | none => rw [e] at q; exact q.elim
  | some tn =>
    obtain ⟨t, n⟩ := tn
    rw [e] at q
    dsimp only at q
    by_cases hn : n = N
    case neg =>
      rw [if_neg hn] at q
      exact q.elim
    rw [if_pos hn] at q
    have q : PostB Z Γ' Γb ρr D G (m t (dr s)) := q
    obtain ⟨vs, as, oa, out⟩ := cap.out st.res e
    have eall : (d.all t).take n = d.all t := by
      apply List.take_of_length_le
      have z := congrArg List.length (d.hn t)
      rw [List.length_map] at z
      omega
    have fsp := oa.fsp
    rw [eall] at fsp
    obtain ⟨n1, n2⟩ := List.nodup_cons.mp oa.nd
    have gb : ∀ b u, B b = some u → G b = none := fun b u eb => by
      cases eg : G b with
      | none => rfl
      | some w =>
        have z := st.ok.dj b w eg
        rw [eb] at z
        cases z
    obtain ⟨G1, H1, I1, k1, k2, k3, k4, k5⟩ := frz_all fsp n2 I (fun b hb => by
      obtain ⟨u, eu⟩ := fsp.some_ b hb
      exact gb b u eu) st.ok.gh (fun b hb => by
      obtain ⟨u, eu⟩ := fsp.some_ b hb
      rw [eu, st.ok.bh b u eu])
    have gx : G1 x = none := by rw [(k3 x n1).1]; exact gb x _ oa.at_
    have hx1 : H1 x = some (.ins C dx vs) := by rw [(k3 x n1).2]; exact st.ok.bh _ _ oa.at_
    have g2 : Same G1 (upd G1 x (.ins C dx vs)) := Same.upd_new gx
    have g3 := k1.trans g2
    have nb : ∀ {b : Addr}, B b = none → b ∉ x :: as := fun {b} eb z => by
      rcases List.mem_cons.mp z with z | z
      · rw [z, oa.at_] at eb
        cases eb
      · obtain ⟨u, eu⟩ := fsp.some_ b z
        rw [eu] at eb
        cases eb
    have same : ∀ {b : Addr}, b ∉ x :: as → upd G1 x (.ins C dx vs) b = G b ∧ H1 b = H b := fun {b} hb => by
      rw [List.mem_cons, not_or] at hb
      obtain ⟨m1, m2⟩ := k3 b hb.2
      exact ⟨by rw [upd_ne hb.1, m1], m2⟩
    have live : ∀ {b : Addr} {w : HO}, H b = some w → ∃ w', H1 b = some w' := fun {b w} eb => by
      by_cases z : b ∈ as
      · exact k4 b z
      · exact ⟨w, by rw [(k3 b z).2]; exact eb⟩
    have st' : Sta Z Γ (dr s) (upd G1 x (.ins C dx vs)) (remL B (x :: as)) σ H1 := by
      refine ⟨⟨Same.upd_l k2 hx1, fun b u eb => ?_, fun b u eb => ?_, fun b u eb => g3 _ _ (st.ok.g0 b u eb), fun b u eb => ?_, fun b u eb e2 => ?_, fun b u eb e2 e3 => ?_, fun b u eb e2 => ?_⟩, out g3, ⟨st.sl.len, fun k A ek => ?_, fun k L ek => ?_, st.sl.ne⟩, ⟨st.sle.1, fun k A ek => ?_⟩, fun b u eb => ?_, fun b u eb => ?_⟩
      · by_cases z : b ∈ x :: as
        · rw [remL_in z] at eb
          cases eb
        · rw [remL_out z] at eb
          rw [(same z).2]
          exact st.ok.bh b u eb
      · by_cases z : b ∈ x :: as
        · exact remL_in z
        · rw [(same z).1] at eb
          rw [remL_out z]
          exact st.ok.dj b u eb
      · obtain ⟨w, ew⟩ := st.ok.up b u eb
        exact live ew
      · rw [(same (nb (st.ok.bn b u eb e2))).2]
        exact st.ok.out b u eb e2
      · rw [(same (nb (st.ok.bn b u eb e3))).1]
        exact st.ok.gn b u eb e2 e3
      · rw [remL_out (nb (st.ok.bn b u eb e2))]
        exact st.ok.bn b u eb e2
      · obtain ⟨v, m1, m2⟩ := st.sl.fz k A ek
        exact ⟨v, m1, A.mono g3 m2⟩
      · obtain ⟨c, w, m1, m2, m3, m4, m5, m6⟩ := st.sl.lv k L ek
        exact ⟨c, w, m1, by rw [(same (nb m5)).2]; exact m2, L.mono g3 m3, by rw [(same (nb m5)).1]; exact m4, by rw [remL_out (nb m5)]; exact m5, m6⟩
      · obtain ⟨v, m1, m2⟩ := st.sle.2 k A ek
        exact ⟨v, m1, A.mono g3 m2⟩
      · rw [(same (nb (st.off b u eb).2.1)).2]
        exact st.held b u eb
      · obtain ⟨m1, m2, m3⟩ := st.off b u eb
        exact ⟨by rw [(same (nb m2)).1]; exact m1, by rw [remL_out (nb m2)]; exact m2, m3⟩
    obtain ⟨w, hw, ew⟩ := st.sl.fz k0 _ h0
    have ew : w = .ref x := ew
    subst ew
    refine (h t).ps.run pins s0 σ H1 D I1 ⟨dr s, _, _, st'.know (fun L z => by cases z) h0 hw ⟨rfl, dx, vs, upd_same, ?_⟩, PostB.mono g3 q⟩
    rw [hfs]
    exact k5.mono g2
end
/-! ### an __init__ whose instance changes meanwhile -/
abbrev Opn (S T : Type) := S × Option (T × Nat)
def opnL {S T : Type} : OL (Opn S T) T := ⟨fun s => s.2, fun s p => (s.1, some p)⟩
def opnD {S T : Type} : Opn S T → Opn S T := fun s => (s.1, none)
theorem ObjAt.mono {x C dx : Addr} {fs : List (Str × Fd)} {vs : List (Str × V)} {as : List Addr} {B G G' : Hp} (h : ObjAt x C dx fs vs as B G) (g : Same G G') : ObjAt x C dx fs vs as B G' := ⟨h.at_, h.fsp.mono g, h.nd⟩
def RO {S T : Type} (R : S → MP Hp) (x C dx : Addr) (d : CD T) : Opn S T → MP Hp := fun s => ⟨fun B G => match s.2 with
    | none => (R s.1).p B G
    | some (t, n) => ∃ vs as, ObjAt x C dx ((d.all t).take n) vs as B G ∧ (R s.1).p (remL B (x :: as)) G, fun {B G G'} e h => by
    obtain ⟨s, q⟩ := s
    cases q with
    | none => exact (R s).mono e h
    | some tn =>
      obtain ⟨t, n⟩ := tn
      obtain ⟨vs, as, h1, h2⟩ := h
      exact ⟨vs, as, h1.mono e, (R s).mono e h2⟩⟩
theorem cap_opn {S T : Type} {R : S → MP Hp} {x C dx : Addr} {d : CD T} : ObjR opnL (RO R x C dx d) x C dx d := ⟨fun {s B G t n} r e => by
  obtain ⟨s, q⟩ := s
  have e : q = some (t, n) := e
  subst e
  obtain ⟨vs, as, h1, h2⟩ := r
  refine ⟨vs, as, h1, fun {B' G' t' n' vs' as'} g o' e1 e2 e3 => ⟨vs', as', o', ?_⟩⟩
  have eB : remL B' (x :: as') = remL B (x :: as) := by
    funext b
    by_cases z : b ∈ x :: as
    · by_cases z' : b ∈ x :: as'
      · rw [remL_in z, remL_in z']
      · rw [remL_in z, remL_out z']
        rcases List.mem_cons.mp z with w | w
        · exact absurd (by rw [w]; exact List.mem_cons_self) z'
        · exact e3 b w fun w2 => z' (List.mem_cons_of_mem _ w2)
    · by_cases z' : b ∈ x :: as'
      · rw [remL_out z, remL_in z']
        rcases List.mem_cons.mp z' with w | w
        · exact absurd (by rw [w]; exact List.mem_cons_self) z
        · exact (e2 b w fun w2 => z (List.mem_cons_of_mem _ w2)).symm
      · rw [remL_out z, remL_out z', e1 b z z']
  show (R s).p (remL B' (x :: as')) G'
  rw [eB]
  exact (R s).mono g h2⟩
theorem cap_opnD {S T : Type} {R : S → MP Hp} {x C dx : Addr} {d : CD T} : ObjD opnL (RO R x C dx d) x C dx d opnD := ⟨fun {s B G t n} r e => by
  obtain ⟨s, q⟩ := s
  have e : q = some (t, n) := e
  subst e
  obtain ⟨vs, as, h1, h2⟩ := r
  exact ⟨vs, as, h1, fun {G'} g => (R s).mono g h2⟩⟩
def outO {S T : Type} : Out (Opn S T) (Fl T Empty Unit) → Out S T
  | .ok (.nx t) (s', none) => .ok t s'
  | .ok _ _ => .stuck
  | .err e s' => .err e s'.1
  | .stuck => .stuck
  | .all av g => .all av fun a => outO (g a)
def runO {S T : Type} (t0 : T) (m : M (Opn S T) (Fl T Empty Unit)) : M S T := fun s => outO (m (s, some (t0, 0)))
theorem Ok.shut {H G B G' B' H' : Hp} {x : Addr} {o : HO} (h : Ok ⟨H, G, upd B x o⟩ G' B' H') : Ok ⟨rem H x, G, B⟩ G' B' H' :=
  ⟨h.gh, h.bh, h.dj, h.g0, fun a u e => h.up a u (rem_some e).2, fun a u e b => h.out a u (rem_some e).2 (by show upd B x o a = none; rw [upd_ne (rem_some e).1]; exact b),
   fun a u e g b => h.gn a u (rem_some e).2 g (by show upd B x o a = none; rw [upd_ne (rem_some e).1]; exact b), fun a u e b => h.bn a u (rem_some e).2 (by show upd B x o a = none; rw [upd_ne (rem_some e).1]; exact b)⟩
theorem none_of {B B' : Hp} {a : Addr} (l : ∀ a o, B' a = some o → B a = some o) (h : B a = none) : B' a = none := by
  cases e : B' a with
  | none => rfl
  | some u =>
    rw [l a u e] at h
    cases h
theorem Ok.cut {F : Fm} {G B B' H : Hp} (h : Ok F G B H) (l : ∀ a o, B' a = some o → B a = some o) : Ok F G B' H :=
  ⟨h.gh, fun a o e => h.bh a o (l a o e), fun a o e => (none_of l (h.dj a o e)), h.g0, h.up, h.out, h.gn, fun a o e b => none_of l (h.bn a o e b)⟩
section
variable {α T : Type} {P : Program} {w : World} {K : PySem.W.Frag} {mg : Str → Option Value} {base : Heap} {x qual : Str} {params : Arguments} {body : List Stmt} {scope : Scope} {dvs : List V} {kws : List (Str × V)} {fa : Addr} {fd : FuncData} {N ps : List Str} {k : Nat}
theorem fn_mkO {Cap : CapT} {C : Addr} {cd : CD T} {t0 : T} {ra : (S : Type) → (R : S → MP Hp) → Cap S R → α → List V → Hp → Prop} {fs : T → List (Str × MP V)} {f : (S : Type) → (R : S → MP Hp) → Cap S R → α → M S T} {mb : (S : Type) → (R : S → MP Hp) → Cap S R → α → M (Opn S T) (Fl T Empty Unit)} {Γ0 : (S : Type) → (R : S → MP Hp) → Cap S R → α → Ctx} {Γb : Empty → Ctx}
    (F : FunD K x qual params body scope dvs kws fa fd) (S : FnScope N ps scope) (hlen : ∀ S R c x vs G, ra S R c x vs G → vs.length + 1 = ps.length) (hf : ∀ S R c x, f S R c x = runO t0 (mb S R c x)) (hΓ : ∀ S R c x vs G, ra S R c x vs G → StartOk (Γ0 S R c x) vs G) (hN : ∀ S R c x, (Γ0 S R c x).length + 1 ≤ N.length) (hps : ps.length ≤ N.length)
    (hb : ∀ (cdv : Value) (A : Around) (outer : List Env) (s : Shared) (H : Hp) (E : XK) (Fm : Fm) (S : Type) (R : S → MP Hp) (c : Cap S R) (y : α) (a dx : Addr), Room k (A.deeper (envOfC qual scope s.heap.objs.size fa cdv)) → ZOk (ZF P w K mg base N qual scope fa cdv A outer s H E Fm (Opn S T) (RO R a C dx cd)) →
      JB (ZF P w K mg base N qual scope fa cdv A outer s H E Fm (Opn S T) (RO R a C dx cd)) (some (.fz (rSelfU a ())) :: Γ0 S R c y) body (mb S R c y) (fun t => [some (.fz (rObjAt a C fs t))]) Γb (.fz rU)) : FnOk P w K mg base (L2.CX P w) (k + 1) fa fd ps (spI mg C ra fs f) := by
  refine F.ok S (fun vs H Q E ⟨S', R, c, s, G, B, y, a, dx, ws, ev, ha, ga, ba, gh, bh, dj, r, hra, q⟩ => by rw [ev, List.length_cons]; exact hlen S' R c y ws G hra) fun cdv A outer s0 H vs Q E hr ⟨S', R, c, s, G, B, y, a, dx, ws, ev, ha, ga, ba, gh, bh, dj, r, hra, q⟩ => ?_
  subst ev
  have hl1 := hlen S' R c y ws G hra
  have r0 : (RO R a C dx cd (s, some (t0, 0))).p (upd B a (.ins C dx [])) G := by
    refine ⟨[], [], ⟨upd_same, .nil, by simp⟩, ?_⟩
    have eB : remL (upd B a (.ins C dx [])) [a] = B := by
      funext b
      by_cases z : b = a
      · rw [remL_in (by rw [z]; simp), z, ba]
      · rw [remL_out (by simpa using z), upd_ne z]
    show (R s).p (remL (upd B a (.ins C dx [])) [a]) G
    rw [eB]
    exact r
  have st := start_sta (P := P) (w := w) (K := K) (mg := mg) (base := base) (N := N) (qual := qual) (scope := scope) (f := fa) (cdv := cdv) (A := A) (outer := outer) (s0 := s0) (E := E) (R := RO R a C dx cd) (Γ0 := some (.fz (rSelfU a ())) :: Γ0 S' R c y) (vs := .ref a :: ws) gh (Same.upd_l bh ha) (fun b u e => by rw [upd_ne (ne_of_none e ga)]; exact dj b u e) r0
    (by rw [List.length_cons]; exact hN S' R c y) (by rw [List.length_cons, hl1]; exact hps) (so_some rfl (hΓ S' R c y ws G hra))
  refine ⟨_, (hb cdv A outer s0 H E ⟨H, G, upd B a (.ins C dx [])⟩ S' R c y a dx hr (zf_ok S.nd)).ps, _, G, _, st, ?_⟩
  rw [hf] at q
  unfold runO at q
  revert q
  induction mb S' R c y (s, some (t0, 0)) with
  | ok fl s1 =>
    obtain ⟨s1, q1⟩ := s1
    cases fl with
    | nx t =>
      cases q1 with
      | none =>
        intro q σ' H' G' B' g st'
        obtain ⟨v, h1, h2, h3⟩ := st'.sl.fz 0 _ rfl
        exact q H' G' B' st'.ok.shut st'.res ⟨rfl, h3⟩
      | some _ => exact fun q => q.elim
    | rt v => exact fun q => q.elim
    | bk u => exact fun q => q.elim
    | ct u => exact fun q => q.elim
  | err e s1 =>
    obtain ⟨s1, q1⟩ := s1
    intro q cls d σ' H' G' B' g st' h
    cases q1 with
    | none => exact q cls d H' G' B' st'.ok.shut st'.res h
    | some tn =>
      obtain ⟨vs, as, _, h2⟩ := st'.res
      refine q cls d H' G' (remL B' (a :: as)) (st'.ok.shut.cut fun b u e => ?_) h2 h
      by_cases z : b ∈ a :: as
      · rw [remL_in z] at e
        cases e
      · rw [remL_out z] at e
        exact e
  | stuck => exact fun q => q
  | all av o9 ih9 => exact fun q a9 h9 => ih9 a9 (q a9 h9)
end
end DL
set_option Elab.async false
set_option linter.all false
set_option maxRecDepth 100000
namespace DL
open PySem PySem.Spec PyProof.Rows L2
section
variable {Z : Zc} {Γ : Ctx} {α β γ T U ρ τ : Type} {e a b c o : Expr} {es : List Expr} {pos p apos : Pos} {Γ' : T → Ctx} {Γb : U → Ctx} {ρr : Res ρ} {rest : List Stmt} {Tt : Type} {l : OL Z.S Tt} {x C dx : Addr} {d : CD Tt} {i : Nat} {f : Str}
/-- self.f = e, again, a value -/
theorem jb_amSetF (cap : ObjR l Z.R x C dx d) (cl : Cls Z.X.K C) (na : NoAttr Z.X.K C f) {p1 : Pos} {r : Rp α} {m : M Z.S Unit} {mv : M Z.S α} {F : M Z.S (Fl T U ρ)} (g : Tt → α) (u : Tt → α → Tt) (hv : JE Z Γ e mv (.fz r)) (h : JE Z Γ o m (.fz (rSelfU x))) (hr : JB Z Γ rest F Γ' Γb ρr)
    (hd : ∀ t y j, j ≠ i → (d.all (u t y))[j]? = (d.all t)[j]?) (hi : ∀ t, (d.all t)[i]? = some (f, .fz (r (g t))) := by intro _; rfl) (hg : ∀ t y, g (u t y) = y := by intro _ _; rfl) (hlen : d.names.length < 1000 := by exact of_decide_eq_true rfl)
    (hs : swapsWith e (some (.Attribute o f p1)) pos.line Z.X.env = pure false := by rfl) :
    JB Z Γ (.Assign [.Attribute o f p1] e pos :: rest) (bnd mv fun y => bnd m fun _ => bnd (putA l i u y) fun _ => F) Γ' Γb ρr := by
  refine ⟨⟨fun pins s0 σ H D I ⟨s, G, B, st, q⟩ => ?_⟩⟩
  refine wpAny_execs_cons (thn ((ps_fld h.pe hv.pe hs).run pins s0 σ H { D with nx := (tS Z Γ F Γ' Γb ρr) D } I ?_) fun fl s1 hq => ?_)
  · refine tE.imp (tE_bndB (ρ := .fz r) st q) ?_
    rintro v H1 ⟨y, s1, G1, B1, g1, st1, hy, q1⟩
    refine tE.imp (tE_bndB (ρ := .fz (rSelfU x)) st1 q1) ?_
    rintro w H2 ⟨_, s2, G2, B2, g2, st2, hw, q2⟩
    have q2' : PostB Z Γ' Γb ρr D G2 ((putA l i u y s2).bnd fun _ => F) := q2
    cases e1 : l.get s2 with
    | none =>
      unfold putA at q2'
      rw [e1] at q2'
      exact q2'.elim
    | some tn =>
      obtain ⟨t, n⟩ := tn
      by_cases hn : i < n
      case neg =>
        unfold putA at q2'
        rw [e1] at q2'
        dsimp only at q2'
        rw [if_neg hn] at q2'
        exact q2'.elim
      have q2 := putA_ofB e1 hn q2
      obtain ⟨vs, as, oa, up⟩ := cap.has st2.res e1
      have ll : vs.length < 1000 := by
        have z := congrArg List.length oa.names
        rw [List.length_map, List.length_take] at z
        omega
      obtain ⟨u0, h1, h2⟩ := oa.fsp.fz_at (take_at (hi t) hn)
      refine ⟨x, C, dx, vs, hw, st2.ok.bh _ _ oa.at_, cl, na, ll, _, G2, _, st2.am oa.at_ ?_, q2⟩
      have hf2 := hi (u t y)
      rw [hg] at hf2
      have n1 := (List.nodup_cons.mp oa.nd).1
      have e2 : ((d.all t).take n).set i (f, .fz (r y)) = (d.all (u t y)).take n := by
        apply List.ext_getElem?
        intro j
        by_cases z : j = i
        · subst z
          have hl : j < ((d.all t).take n).length := (List.getElem?_eq_some_iff.mp (take_at (hi t) hn)).1
          rw [List.getElem?_set_self hl, take_at hf2 hn]
        · rw [List.getElem?_set_ne (Ne.symm z)]
          by_cases z2 : j < n
          · rw [List.getElem?_take_of_lt z2, List.getElem?_take_of_lt z2, hd t y j z]
          · rw [List.getElem?_eq_none (by rw [List.length_take]; omega), List.getElem?_eq_none (by rw [List.length_take]; omega)]
      refine up (as' := as) (vs' := vs.set i (f, v)) (Same.refl _) ⟨by rw [upd_same, putF_old oa.ndn h1], ?_, oa.nd⟩ (fun b hb _ => ?_) (fun b hb hb' => absurd hb hb') (fun b hb hb' => absurd hb hb')
      · rw [← e2]
        refine FsP.fz_set ((r y).mono g2 hy) (oa.fsp.frame fun b hb => ?_) (take_at (hi t) hn)
        rw [upd_ne fun z => n1 (by rw [← z]; exact hb)]
      · rw [upd_ne fun z => hb (by rw [z]; exact List.mem_cons_self)]
  · cases fl with
    | next =>
      obtain ⟨σ', H', I', zz⟩ := hq
      exact hr.ps.run pins s1 σ' H' D I' zz
    | ret v => exact hq
    | brk => exact hq
    | cont => exact hq
end
/-! ### == of dicts -/
section
variable {κ α : Type} [DecidableEq κ] [DecidableEq α]
def dEqB (x y : List (κ × α)) : Bool := (x.length == y.length) && x.all fun q => decide (dget y q.1 = some q.2)
def deqM {S : Type} (ok : α → Bool) (x y : List (κ × α)) : M S Bool := bnd (grd ((x.all fun q => ok q.2) && (y.all fun q => ok q.2))) fun _ => ret (dEqB x y)
def dneM {S : Type} (ok : α → Bool) (x y : List (κ × α)) : M S Bool := bnd (grd ((x.all fun q => ok q.2) && (y.all fun q => ok q.2))) fun _ => ret (!dEqB x y)
theorem dget_mem {d : List (κ × α)} {k : κ} {x : α} (h : dget d k = some x) : ∃ q ∈ d, q.2 = x := by
  unfold dget at h
  cases e : d.find? fun kv => decide (kv.1 = k) with
  | none => rw [e] at h; cases h
  | some q =>
    rw [e] at h
    exact ⟨q, List.mem_of_find?_eq_some e, Option.some.inj h⟩
variable {X : Cx} {kt : KeyT κ} {r : Rp α} {n : Nat}
theorem hits_dd (D : DEq X.K r n) (hn : n ≤ 60) (hu : X.A.units + 65 < cLine) {pins : List (Addr × Obj)} {σ : L2.St} {H : Hp} {s : Shared} (I : Inv X pins σ H s) {G : Hp} (g : Same G H) {ls : List (Key × V)} {vb : List (Key × Value)} {d2 : List (κ × α)} (rb : KV ls vb) (h2 : AllD kt r G ls d2) (o2 : (d2.all fun q => D.ok q.2) = true) :
    ∀ {ks : List (Key × V)} {va : List (Key × Value)} {d1 : List (κ × α)}, KV ks va → AllD kt r G ks d1 → (d1.all fun q => D.ok q.2) = true → PySem.W.KeqHits X.A.in1 s vb va (d1.all fun q => decide (dget d2 q.1 = some q.2))
  | _, _, _, .nil, .nil, _ => .nil
  | _, (key, v) :: va, _, .cons (a := p) h t, .cons (b := q) h1 t1, o1 => by
    obtain ⟨k1, k2⟩ := h
    have k1 : p.1 = key := k1
    rw [List.all_cons, Bool.and_eq_true_iff] at o1
    rw [List.all_cons]
    have ek : key = kt.f q.1 := by rw [← k1, h1.1]
    have rr : RelO (valV ls key) (valueAt vb key) := rb.val key
    have rest := hits_dd D hn hu I g rb h2 o2 t t1 o1.2
    rcases h2.get q.1 with ⟨z1, z2⟩ | ⟨x', u, z1, z2, z3⟩
    · rw [ek, z2] at rr
      have e0 := RelO.none_of rr
      rw [← ek] at e0
      rw [z1, decide_eq_false (by simp), Bool.false_and]
      exact .miss e0
    · rw [ek, z2] at rr
      obtain ⟨y, hy, ry⟩ := RelO.some_of rr
      rw [← ek] at hy
      have hx' : D.ok x' = true := by
        obtain ⟨q', m1, m2⟩ := dget_mem z1
        rw [← m2]
        exact List.all_eq_true.mp o2 q' m1
      obtain ⟨as, r1⟩ := Dp.reads I _ _ _ (D.dp g h1.2) k2
      obtain ⟨bs, r2⟩ := Dp.reads I _ _ _ (D.dp g z3) ry
      have ee : decide (dget d2 q.1 = some q.2) = PyData.eqv (D.d q.2) (D.d x') := by
        rw [D.eq, z1]
        by_cases w : x' = q.2
        · rw [decide_eq_true w.symm, decide_eq_true (by rw [w])]
        · rw [decide_eq_false (fun w2 : some x' = some q.2 => w (Option.some.inj w2)), decide_eq_false (fun w2 : q.2 = x' => w w2.symm)]
      rw [ee]
      exact .hit hy (PySem.W.keq_at r1 r2 (shaped_of D hn o1.1) (shaped_of D hn hx') (by show X.A.units + 1 + 64 < cLine; omega)) rest
theorem op_eqDD (D : DEq X.K r n) (hn : n ≤ 60) (hu : X.A.units + 65 < cLine) : OpR X (compareOp .Eq) (fun v w H Q => ∃ G d1 d2, Same G H ∧ (rD kt r d1).p v G ∧ (rD kt r d2).p w G ∧ (d1.all fun q => D.ok q.2) = true ∧ (d2.all fun q => D.ok q.2) = true ∧ Q (.bl (dEqB d1 d2)) H) := by
  intro pins s σ H x y v u Q I rx ry h
  obtain ⟨G, d1, d2, g, ⟨a, od, ks, rfl, ha, h1⟩, ⟨b, od', ls, rfl, hb, h2⟩, o1, o2, q⟩ := h
  obtain rfl : v = Value.ref a := rx
  obtain rfl : u = Value.ref b := ry
  obtain ⟨_, ya, va, ra, da⟩ := (show ObjOk X.prog X.w H s.heap a (.dK ks) from Rd.ok (.inr ⟨od, g _ _ ha⟩) I.hok)
  obtain ⟨_, yb, vb, rb, db⟩ := (show ObjOk X.prog X.w H s.heap b (.dK ls) from Rd.ok (.inr ⟨od', g _ _ hb⟩) I.hok)
  refine PySem.W.keq_eq (knd := mixKind X.prog X.w) (r := d1.all fun q => decide (dget d2 q.1 = some q.2)) ya yb da db (by omega) (fun _ => hits_dd D hn hu I g rb h2 o2 ra h1 o1) (fin_bl I q ?_)
  unfold dEqB
  rw [← h1.length, ← h2.length, ra.length, rb.length]
theorem op_neDD (D : DEq X.K r n) (hn : n ≤ 60) (hu : X.A.units + 65 < cLine) : OpR X (compareOp .NotEq) (fun v w H Q => ∃ G d1 d2, Same G H ∧ (rD kt r d1).p v G ∧ (rD kt r d2).p w G ∧ (d1.all fun q => D.ok q.2) = true ∧ (d2.all fun q => D.ok q.2) = true ∧ Q (.bl (!dEqB d1 d2)) H) := by
  intro pins s σ H x y v u Q I rx ry h
  obtain ⟨G, d1, d2, g, ⟨a, od, ks, rfl, ha, h1⟩, ⟨b, od', ls, rfl, hb, h2⟩, o1, o2, q⟩ := h
  obtain rfl : v = Value.ref a := rx
  obtain rfl : u = Value.ref b := ry
  obtain ⟨_, ya, va, ra, da⟩ := (show ObjOk X.prog X.w H s.heap a (.dK ks) from Rd.ok (.inr ⟨od, g _ _ ha⟩) I.hok)
  obtain ⟨_, yb, vb, rb, db⟩ := (show ObjOk X.prog X.w H s.heap b (.dK ls) from Rd.ok (.inr ⟨od', g _ _ hb⟩) I.hok)
  refine PySem.W.keq_ne (knd := mixKind X.prog X.w) (r := d1.all fun q => decide (dget d2 q.1 = some q.2)) ya yb da db (by omega) (fun _ => hits_dd D hn hu I g rb h2 o2 ra h1 o1) (fin_bl I q ?_)
  unfold dEqB
  rw [← h1.length, ← h2.length, ra.length, rb.length]
end
section
variable {Z : Zc} {Γ : Ctx} {κ α : Type} [DecidableEq κ] [DecidableEq α] {a b : Expr} {pos : Pos} {kt : KeyT κ} {r : Rp α} {n : Nat}
theorem je_eqDD (D : DEq Z.X.K r n) (hn : n ≤ 60) (hu : Z.X.A.units + 65 < cLine) {ma mb : M Z.S (List (κ × α))} (ha : JE Z Γ a ma (.fz (rD kt r))) (hb : JE Z Γ b mb (.fz (rD kt r))) : JE Z Γ (.Compare a [.Eq] [b] pos) (bnd ma fun x => bnd mb fun y => deqM D.ok x y) (.fz rB) :=
  je_two (fun x y => deqM D.ok x y) (.fz rB) (fun _ _ p q => pe_cmpR (op_eqDD (kt := kt) D hn hu) p q (nomark _)) ha hb fun x y v w s G B σ H Q st hv hw q => by
    obtain ⟨c, q⟩ := grd_of q
    have c := Bool.and_eq_true_iff.mp c
    exact ⟨G, x, y, st.ok.gh, hv, hw, c.1, c.2, fin q st rfl⟩
theorem jt_eqDD (D : DEq Z.X.K r n) (hn : n ≤ 60) (hu : Z.X.A.units + 65 < cLine) {ma mb : M Z.S (List (κ × α))} (ha : JE Z Γ a ma (.fz (rD kt r))) (hb : JE Z Γ b mb (.fz (rD kt r))) : JT Z Γ (.Compare a [.Eq] [b] pos) (bnd ma fun x => bnd mb fun y => deqM D.ok x y) :=
  jt_two (fun x y => deqM D.ok x y) (fun _ _ p q => pt_cmpR (op_eqDD (kt := kt) D hn hu) p q (nomark _)) ha hb fun x y v w s G B σ H Q st hv hw q => by
    obtain ⟨c, q⟩ := grd_of q
    have c := Bool.and_eq_true_iff.mp c
    exact ⟨G, x, y, st.ok.gh, hv, hw, c.1, c.2, fin q st rfl⟩
theorem je_neDD (D : DEq Z.X.K r n) (hn : n ≤ 60) (hu : Z.X.A.units + 65 < cLine) {ma mb : M Z.S (List (κ × α))} (ha : JE Z Γ a ma (.fz (rD kt r))) (hb : JE Z Γ b mb (.fz (rD kt r))) : JE Z Γ (.Compare a [.NotEq] [b] pos) (bnd ma fun x => bnd mb fun y => dneM D.ok x y) (.fz rB) :=
  je_two (fun x y => dneM D.ok x y) (.fz rB) (fun _ _ p q => pe_cmpR (op_neDD (kt := kt) D hn hu) p q (nomark _)) ha hb fun x y v w s G B σ H Q st hv hw q => by
    obtain ⟨c, q⟩ := grd_of q
    have c := Bool.and_eq_true_iff.mp c
    exact ⟨G, x, y, st.ok.gh, hv, hw, c.1, c.2, fin q st rfl⟩
theorem jt_neDD (D : DEq Z.X.K r n) (hn : n ≤ 60) (hu : Z.X.A.units + 65 < cLine) {ma mb : M Z.S (List (κ × α))} (ha : JE Z Γ a ma (.fz (rD kt r))) (hb : JE Z Γ b mb (.fz (rD kt r))) : JT Z Γ (.Compare a [.NotEq] [b] pos) (bnd ma fun x => bnd mb fun y => dneM D.ok x y) :=
  jt_two (fun x y => dneM D.ok x y) (fun _ _ p q => pt_cmpR (op_neDD (kt := kt) D hn hu) p q (nomark _)) ha hb fun x y v w s G B σ H Q st hv hw q => by
    obtain ⟨c, q⟩ := grd_of q
    have c := Bool.and_eq_true_iff.mp c
    exact ⟨G, x, y, st.ok.gh, hv, hw, c.1, c.2, fin q st rfl⟩
end
end DL
set_option Elab.async false
set_option linter.all false
set_option maxRecDepth 100000
namespace DL
open PySem PySem.Spec PyProof.Rows L2
/-! ### dict comprehensions -/
def dcompL {S α κ β : Type} [DecidableEq κ] (mt : α → M S Bool) (mk : α → M S κ) (mv : α → M S β) : List α → List (κ × β) → M S (List (κ × β))
  | [], acc => ret acc
  | x :: xs, acc => bnd (nox (mt x)) fun c => if c then bnd (nox (mk x)) fun k => bnd (nox (mv x)) fun y => dcompL mt mk mv xs (dput acc k y) else dcompL mt mk mv xs acc
def dcompM {S α κ β : Type} [DecidableEq κ] (mt : α → M S Bool) (mk : α → M S κ) (mv : α → M S β) (xs : List α) : M S (List (κ × β)) := bnd (grd (decide (xs.length ≤ sizeLine))) fun _ => dcompL mt mk mv xs []
theorem dput_len {κ β : Type} [DecidableEq κ] (d : List (κ × β)) (k : κ) (y : β) : (dput d k y).length ≤ d.length + 1 := by
  unfold dput
  by_cases h : (d.any fun kv => decide (kv.1 = k)) = true
  · rw [if_pos h, List.length_map]; omega
  · rw [if_neg h, List.length_append]; simp
theorem walk_turns {J : It} {n : Nat} {G : Hp → Prop} {Y : Nat → Hp → V → Hp → Prop} (w : Walk J n G Y) {P : Nat → Hp → (Hp → Prop) → V → Hp → Prop} {Q : Hp → Prop} {H0 : Hp} (Pv : Nat → Hp → Prop) (h0 : Pv 0 H0) (hG : ∀ i H, i ≤ n → Pv i H → G H) (hs : ∀ i x H H', i < n → Pv i H → Y i H x H' → P i H (Pv (i + 1)) x H') (hd : ∀ H, Pv n H → Q H) :
    ∃ W : Nat → Nat → Hp → Prop, (∃ m, W 0 m H0) ∧ ∀ i m H, W i m H → (J.stop i H ∧ Q H) ∨ (J.go i H ∧ ∃ Nx : Hp → Prop, (∀ H', Nx H' → ∃ m', m' < m ∧ W (i + 1) m' H') ∧ ∀ x H', J.yld i H x H' → P i H Nx x H') := by
  refine ⟨fun i m H => i ≤ n ∧ Pv i H ∧ m + i = n, ⟨n, Nat.zero_le _, h0, rfl⟩, ?_⟩
  rintro i m H ⟨hi, pv, em⟩
  have gh := hG i H hi pv
  rcases Nat.lt_or_ge i n with hlt | hge
  · exact .inr ⟨w.goes i H hlt gh, Pv (i + 1), fun H' pv' => ⟨n - (i + 1), by omega, hlt, pv', by omega⟩, fun x H' y => hs i x H H' hlt pv (w.yields i H x H' hlt gh y)⟩
  · have e : i = n := by omega
    subst e
    exact .inl ⟨w.stops H gh, hd H pv⟩
section
variable {Z : Zc} {Γ : Ctx} {α β γ T U ρ κ : Type} [DecidableEq κ] {kt : KeyT κ} {e a b c : Expr} {es : List Expr} {pos : Pos} {Γb : U → Ctx} {ρr : Res ρ} {rest : List Stmt}
theorem je_dcomp {tg iter kx vx : Expr} {ifs : List Expr} {scope : Scope} {own : List (Str × Nat)} {m : M Z.S (List α)} {r : Rp α} {rb : Rp β} {u : α → Ctx → Ctx} {g : TG} (z : ZOk Z) (hi : JI Z Γ tg iter m r) (mt : α → M Z.S Bool) (mk : α → M Z.S κ) (mv : α → M Z.S β) (ok : BlkOk Z.X.N Z.X.env.scope scope own)
    (hg : ∀ (s : Shared) (H : Hp) (C : Addr) (cl : List (Str × Addr)) (fp : List Addr) (D : Addr) (acc : HO), JG (Z.blk s H scope cl C fp D acc) tg r (own.map (·.2)) u g)
    (ht : ∀ (s : Shared) (H : Hp) (C : Addr) (cl : List (Str × Addr)) (fp : List Addr) (D : Addr) (acc : HO) (x : α), JTs (Z.blk s H scope cl C fp D acc) (u x Γ) ifs (mt x))
    (hk : ∀ (s : Shared) (H : Hp) (C : Addr) (cl : List (Str × Addr)) (fp : List Addr) (D : Addr) (acc : HO) (x : α), JE (Z.blk s H scope cl C fp D acc) (u x Γ) kx (mk x) (.fz kt.rp))
    (he : ∀ (s : Shared) (H : Hp) (C : Addr) (cl : List (Str × Addr)) (fp : List Addr) (D : Addr) (acc : HO) (x : α), JE (Z.blk s H scope cl C fp D acc) (u x Γ) vx (mv x) (.fz rb))
    (hw : wipeC Γ (own.map (·.2)) = Γ := by rfl) (hks : (own.map (·.2)).all (fun k => decide (k < Γ.length)) = true := by rfl) (hs : ∀ x, foldedSetIterable iter Z.X.env x = pure x := by intro _; rfl) :
    JE Z Γ (.DictComp kx vx [⟨tg, iter, ifs, 0⟩] scope pos) (bnd m fun xs => dcompM mt mk mv xs) (.own (cD kt rb)) := by
  obtain ⟨wi, pi, hwi⟩ := hi.ex
  have kk : ∀ k ∈ own.map (·.2), k < Γ.length ∧ NoE [] k := fun k hk => ⟨of_decide_eq_true (List.all_eq_true.mp hks k hk), NoE.nil⟩
  have ht2 : ∀ (s : Shared) (H : Hp) (C : Addr) (cl : List (Str × Addr)) (fp : List Addr), PTs (Z.X.blk s H scope (compEnvC scope cl C Z.X.env) fp) ifs (fun σ H Q => ∃ D acc x, tT (Z.b0 D acc) (u x Γ) (mt x) σ H Q) := fun s H C cl fp =>
    ⟨fun pins s1 σ H1 Q I ⟨D, acc, x, h⟩ => (ht s H C cl fp D acc x).ps.run pins s1 σ H1 Q I (tT_blk h)⟩
  have hk2 : ∀ (s : Shared) (H : Hp) (C : Addr) (cl : List (Str × Addr)) (fp : List Addr), PE (Z.X.blk s H scope (compEnvC scope cl C Z.X.env) fp) kx (fun σ H Q => ∃ D acc x, tE (Z.b0 D acc) (u x Γ) (mk x) (.fz kt.rp) σ H Q) := fun s H C cl fp =>
    ⟨fun pins s1 σ H1 Q I ⟨D, acc, x, h⟩ => (hk s H C cl fp D acc x).pe.run pins s1 σ H1 Q I (tE_blk h)⟩
  have he2 : ∀ (s : Shared) (H : Hp) (C : Addr) (cl : List (Str × Addr)) (fp : List Addr), PE (Z.X.blk s H scope (compEnvC scope cl C Z.X.env) fp) vx (fun σ H Q => ∃ D acc x, tE (Z.b0 D acc) (u x Γ) (mv x) (.fz rb) σ H Q) := fun s H C cl fp =>
    ⟨fun pins s1 σ H1 Q I ⟨D, acc, x, h⟩ => (he s H C cl fp D acc x).pe.run pins s1 σ H1 Q I (tE_blk h)⟩
  refine ⟨PE.imp (pe_dc z.calm z.nd pi ok (fun s H C cl fp => (hg s H C cl fp 0 (.lst [])).pg) ht2 hk2 he2 hs) fun σ H Q ⟨s, G, B, st, q⟩ => ?_⟩
  refine hwi st ?_
  have q : PostE Z Γ (.own (cD kt rb)) σ Q G ((m s).bnd fun xs => dcompM mt mk mv xs) := q
  revert q
  induction m s with
  | err x s1 => exact fun q => q
  | stuck => exact fun q => q
  | all av o9 ih9 => exact fun q a9 h9 => ih9 a9 (q a9 h9)
  | ok xs s1 =>
    intro q J H1 G1 B1 g1 st1 w D nD
    have q : PostE Z Γ (.own (cD kt rb)) σ Q G (bnd (grd (decide (xs.length ≤ sizeLine))) (fun _ => dcompL mt mk mv xs []) s1) := q
    obtain ⟨cz, q⟩ := grd_of q
    have hz := of_decide_eq_true cz
    have q0 : PostE Z Γ (.own (cD kt rb)) σ Q G1 (dcompL mt mk mv xs [] s1) := PostE.mono g1 q
    have hdD : Z.hd D = none := Same.free st1.held nD
    let Pv : Nat → Hp → Prop := fun i H' => ∃ acc accV s' G' B', Same G1 G' ∧ Sta Z Γ s' G' B' σ H' ∧ H' D = some (.dK accV) ∧ AllD kt rb G' accV acc ∧ acc.length ≤ i ∧ G' D = none ∧ B' D = none ∧ Z.F.H0 D = none ∧ Off Γ σ D ∧ PostE Z Γ (.own (cD kt rb)) σ Q G' (dcompL mt mk mv (xs.drop i) acc s')
    refine walk_turns w (Q := fun H => Q (.ref D) H) (P := fun i H Nx x H' => g x (wipe σ (own.map (·.2))) H' fun σ2 H2 => wipe σ2 (own.map (·.2)) = wipe σ (own.map (·.2)) ∧ (fun σ H Q => ∃ D acc x, tT (Z.b0 D acc) (u x Γ) (mt x) σ H Q) σ2 H2 fun b H3 =>
        if b = true then (fun σ H Q => ∃ D acc x, tE (Z.b0 D acc) (u x Γ) (mk x) (.fz kt.rp) σ H Q) σ2 H3 fun y H4 => (fun σ H Q => ∃ D acc x, tE (Z.b0 D acc) (u x Γ) (mv x) (.fz rb) σ H Q) σ2 H4 fun z H5 => ∃ kvs k, y = kV k ∧ H5 D = some (.dK kvs) ∧ kvs.length < sizeLine ∧ Nx (upd H5 D (.dK (putK kvs k z))) else Nx H3) Pv
      ⟨[], [], s1, G1, B1, Same.refl _, st1.laid nD, upd_same, .nil, Nat.le_refl _, Same.free st1.ok.gh nD, Same.free st1.ok.bh nD, st1.ok.fresh nD, st1.offP nD, q0⟩
      (fun i H' _ ⟨_, _, _, G', _, g', st', _⟩ => g'.trans st'.ok.gh) ?_ ?_
    · rintro i v H2 H3 hlt ⟨acc, accV, s', G', B', g', st', hD, ha, hl, gD, bD, fD, oD, q'⟩ ⟨x, hx, hy⟩
      have ed : xs.drop i = x :: xs.drop (i + 1) := by
        obtain ⟨h1, h2⟩ := List.getElem?_eq_some_iff.mp hx
        rw [← h2]
        exact List.drop_eq_getElem_cons h1
      rw [ed] at q'
      have q' : PostE Z Γ (.own (cD kt rb)) σ Q G' (bnd (nox (mt x)) (fun c => if c then bnd (nox (mk x)) fun k => bnd (nox (mv x)) fun y => dcompL mt mk mv (xs.drop (i + 1)) (dput acc k y) else dcompL mt mk mv (xs.drop (i + 1)) acc) s') := q'
      have main : ∀ G2 H4, Same G' G2 → Sta Z Γ s' G2 B' σ H4 → H4 D = some (.dK accV) → G2 D = none → (r x).p v G2 → g v (wipe σ (own.map (·.2))) H4 fun σ2 H5 => wipe σ2 (own.map (·.2)) = wipe σ (own.map (·.2)) ∧ (fun σ H Q => ∃ D acc x, tT (Z.b0 D acc) (u x Γ) (mt x) σ H Q) σ2 H5 fun b H6 =>
          if b = true then (fun σ H Q => ∃ D acc x, tE (Z.b0 D acc) (u x Γ) (mk x) (.fz kt.rp) σ H Q) σ2 H6 fun y H7 => (fun σ H Q => ∃ D acc x, tE (Z.b0 D acc) (u x Γ) (mv x) (.fz rb) σ H Q) σ2 H7 fun z H8 => ∃ kvs k, y = kV k ∧ H8 D = some (.dK kvs) ∧ kvs.length < sizeLine ∧ Pv (i + 1) (upd H8 D (.dK (putK kvs k z)))
          else Pv (i + 1) H6 := by
        intro G2 H4 g2 st2 hD2 gD2 hv
        refine (hg Z.X.s_0 Z.X.H_0 0 [] [] D (.dK accV)).go (blk_to (st2.wiped hw hD2 gD2 bD fD oD)) hv kk fun σ2 st3 hσ2 => ?_
        rw [wipe_wipe] at hσ2
        refine ⟨hσ2, D, .dK accV, x, s', G2, B', blk_from st3, ?_⟩
        refine nox_T q' fun cb s2 q' H6 G3 B3 g3 st4 => ?_
        have hup : upd Z.hd D (.dK accV) D = some (.dK accV) := upd_same
        have hD4 : H6 D = some (.dK accV) := st4.held D _ hup
        have off4 := st4.off D (.dK accV) hup
        have st4' := st2.unwiped st4 hw g3 hdD ((hg Z.X.s_0 Z.X.H_0 0 [] [] D (.dK accV)).keep x Γ) hσ2
        have q4 : PostE Z Γ (.own (cD kt rb)) σ Q G3 ((if cb then bnd (nox (mk x)) fun k => bnd (nox (mv x)) fun y => dcompL mt mk mv (xs.drop (i + 1)) (dput acc k y) else dcompL mt mk mv (xs.drop (i + 1)) acc) s2) := PostE.mono (g2.trans g3) q'
        cases cb with
        | false => exact ⟨acc, accV, s2, G3, B3, (g'.trans g2).trans g3, st4', hD4, ha.mono (g2.trans g3), by omega, off4.1, off4.2.1, fD, oD, q4⟩
        | true =>
          have q4 : PostE Z Γ (.own (cD kt rb)) σ Q G3 (bnd (nox (mk x)) (fun k => bnd (nox (mv x)) fun y => dcompL mt mk mv (xs.drop (i + 1)) (dput acc k y)) s2) := q4
          refine ⟨D, .dK accV, x, s2, G3, B3, st4, ?_⟩
          refine nox_E q4 fun key s3 q4 kv H7 G4 B4 g4 st5 hk5 => ?_
          refine ⟨D, .dK accV, x, s3, G4, B4, st5, ?_⟩
          refine nox_E q4 fun y s4 q4 yv H8 G5 B5 g5 st6 hy6 => ?_
          have hD5 : H8 D = some (.dK accV) := st6.held D _ hup
          have off5 := st6.off D (.dK accV) hup
          have st5' := st4'.unwiped st6 hw (g4.trans g5) hdD ((hg Z.X.s_0 Z.X.H_0 0 [] [] D (.dK accV)).keep x Γ) hσ2
          have hlen : accV.length < sizeLine := by rw [ha.length]; omega
          have gg := ((g2.trans g3).trans g4).trans g5
          have hlp := dput_len acc key y
          refine ⟨accV, kt.f key, hk5, hD5, hlen, dput acc key y, putK accV (kt.f key) yv, s4, G5, B5, g'.trans gg, ?_, upd_same, (ha.mono gg).put hy6, by omega, off5.1, off5.2.1, fD, oD, PostE.mono (g4.trans g5) q4⟩
          refine ⟨st5'.ok.change off5.1 off5.2.1 fD, st5'.res, ⟨st5'.sl.len, st5'.sl.fz, fun k L e => ?_, st5'.sl.ne⟩, st5'.sle, Same.upd_r st5'.held hdD, st5'.off⟩
          obtain ⟨p, o, k1, k2, k3⟩ := st5'.sl.lv k L e
          have ne : p ≠ D := fun zz => oD k L e (by rw [← zz]; exact k1)
          exact ⟨p, o, k1, by rw [upd_ne ne]; exact k2, k3⟩
      rcases hy with ⟨rfl, hv⟩ | ⟨A, vs, rfl, hA, rfl, hv⟩
      · exact main G' H3 (Same.refl _) st' hD gD ((r x).mono g' hv)
      · have gA : Same G' (upd G' A (.tup vs)) := Same.upd_new (Same.free st'.ok.gh hA)
        have ne : D ≠ A := ne_of_none hD hA
        exact main (upd G' A (.tup vs)) _ gA (st'.laidG hA) (by rw [upd_ne ne]; exact hD) (by rw [upd_ne ne]; exact gD) (hv _ (g'.trans gA) upd_same)
    · rintro H' ⟨acc, accV, s', G', B', g', st', hD, ha, hl, gD, bD, fD, oD, q'⟩
      rw [List.drop_length] at q'
      exact q' (.ref D) H' G' B' (Same.refl _) st' ⟨D, .dK accV, rfl, hD, ⟨accV, rfl, ha⟩, gD, bD, fD, hdD, oD⟩
end
end DL
set_option Elab.async false
set_option linter.all false
set_option maxRecDepth 100000
namespace DL
open PySem PySem.Spec PyProof.Rows L2
/-- where a method's instance is kept -/
structure AmC (T : Type) (C : Addr) (d : CD T) (S : Type) (R : S → MP Hp) : Type where
  l : OL S T
  x : Addr
  dx : Addr
  ok : ObjR l R x C dx d
section
variable {Z : Zc} {Γ : Ctx} {α : Type} {e : Expr} {T U ρ : Type} {Γ' : T → Ctx} {Γb : U → Ctx} {ρr : Res ρ} {rest : List Stmt} {pos p2 : Pos}
theorem je_at {C a : Addr} {fs : α → List (Str × MP V)} {m : M Z.S α} (h : JE Z Γ e m (.fz (rObjAt a C fs))) : JE Z Γ e m (.fz (rObj C fs)) :=
  ⟨PE.imp h.pe fun σ H Q ⟨s, G, B, st, q⟩ => by
    refine ⟨s, G, B, st, ?_⟩
    revert q
    induction m s with
    | ok x s1 => exact fun q v H' G' B' g st' ⟨h1, dx, vs, h2, h3⟩ => q v H' G' B' g st' ⟨a, dx, vs, h1, h2, h3⟩
    | err x s1 => exact fun q => q
    | stuck => exact fun q => q
    | all av o9 ih9 => exact fun q a9 h9 => ih9 a9 (q a9 h9)⟩
/-- a text that stands alone -/
theorem jb_doc {x : Str} {j : Nat} {f : M Z.S (Fl T U ρ)} (h : JB Z Γ rest f Γ' Γb ρr) : JB Z Γ (.Expr (.Constant (.str x) j p2) pos :: rest) f Γ' Γb ρr := by
  have z := jb_expr (pos := pos) (je_str (x := x) (j := j) (pos := p2)) h
  exact z
theorem rO_nonN {r : Rp α} {x : Option α} {v : V} {G : Hp} (nn : ∀ {y : α} {v : V} {G : Hp}, (r y).p v G → v ≠ .non) (h : (rO r x).p v G) : (!decide (v = .non)) = x.isSome := by
  rw [rO_non nn h]
  cases x <;> rfl
/-- if x is not None: x is then a thing -/
theorem nn_rD {κ β : Type} {k : KeyT κ} {r : Rp β} {y : List (κ × β)} {v : V} {G : Hp} (h : (rD k r y).p v G) : v ≠ .non := by
  obtain ⟨a, od, vs, rfl, _⟩ := h
  exact fun z => by cases z
theorem nn_rI {y : Int} {v : V} {G : Hp} (h : (rI y).p v G) : v ≠ .non := by
  rw [show v = .int y from h]
  exact fun z => by cases z
theorem nn_rS {y : Str} {v : V} {G : Hp} (h : (rS y).p v G) : v ≠ .non := by
  rw [show v = .str y from h]
  exact fun z => by cases z
theorem nn_rL {β : Type} {r : Rp β} {y : List β} {v : V} {G : Hp} (h : (rL r y).p v G) : v ≠ .non := by
  obtain ⟨a, vs, rfl, _⟩ := h
  exact fun z => by cases z
theorem nn_rObj {C : Addr} {fs : α → List (Str × MP V)} {y : α} {v : V} {G : Hp} (h : (rObj C fs y).p v G) : v ≠ .non := by
  obtain ⟨a, dx, vs, rfl, _⟩ := h
  exact fun z => by cases z
end
end DL
namespace DL
open PySem PySem.Spec PyProof.Rows L2
section
variable {Z : Zc} {Γ : Ctx} {α : Type} {e a : Expr} {pos : Pos}
/-- what may be None and is a thing -/
theorem je_unO {r : Rp α} {m : M Z.S (Option α)} (h : JE Z Γ e m (.fz (rO r))) : JE Z Γ e (bnd m fun x => opt x) (.fz r) :=
  ⟨PE.imp h.pe fun σ H Q ⟨s, G, B, st, q⟩ => by
    refine ⟨s, G, B, st, ?_⟩
    have q : PostE Z Γ (.fz r) σ Q G ((m s).bnd fun x => opt x) := q
    revert q
    induction m s with
    | ok x s1 =>
      cases x with
      | none => exact fun q => q.elim
      | some y => exact fun q v H' G' B' g st' hs => q v H' G' B' g st' hs
    | err x s1 => exact fun q => q
    | stuck => exact fun q => q
    | all av o9 ih9 => exact fun q a9 h9 => ih9 a9 (q a9 h9)⟩
theorem jt_notN {j : Nat} {p2 : Pos} {r : Rp α} {m : M Z.S (Option α)} (nn : ∀ {y : α} {v : V} {G : Hp}, (r y).p v G → v ≠ .non) (h : JE Z Γ a m (.fz (rO r))) : JT Z Γ (.Compare a [.IsNot] [.Constant .none j p2] pos) (bnd m fun x => bnd (ret ()) fun _ => ret x.isSome) :=
  jt_two (ρb := rU) (fun x _ => ret x.isSome) (fun _ _ p q => pt_cmpR op_notN p q (nomark _)) h je_non fun x y v w s G B σ H Q st hv hw q => ⟨hw, by rw [rO_nonN nn hv]; exact fin q st rfl⟩
theorem je_isN {j : Nat} {p2 : Pos} {r : Rp α} {m : M Z.S (Option α)} (nn : ∀ {y : α} {v : V} {G : Hp}, (r y).p v G → v ≠ .non) (h : JE Z Γ a m (.fz (rO r))) : JE Z Γ (.Compare a [.Is] [.Constant .none j p2] pos) (bnd m fun x => bnd (ret ()) fun _ => ret x.isNone) (.fz rB) :=
  je_two (ρb := rU) (fun x _ => ret x.isNone) (.fz rB) (fun _ _ p q => pe_cmpR op_isN p q (nomark _)) h je_non fun x y v w s G B σ H Q st hv hw q => ⟨hw, by rw [rO_non nn hv]; exact fin q st rfl⟩
theorem je_notN {j : Nat} {p2 : Pos} {r : Rp α} {m : M Z.S (Option α)} (nn : ∀ {y : α} {v : V} {G : Hp}, (r y).p v G → v ≠ .non) (h : JE Z Γ a m (.fz (rO r))) : JE Z Γ (.Compare a [.IsNot] [.Constant .none j p2] pos) (bnd m fun x => bnd (ret ()) fun _ => ret x.isSome) (.fz rB) :=
  je_two (ρb := rU) (fun x _ => ret x.isSome) (.fz rB) (fun _ _ p q => pe_cmpR op_notN p q (nomark _)) h je_non fun x y v w s G B σ H Q st hv hw q => ⟨hw, by rw [rO_nonN nn hv]; exact fin q st rfl⟩
end
end DL
namespace DL
open PySem L2
/-- the mirror by another name -/
theorem JE.eqm {Z : Zc} {Γ : Ctx} {α : Type} {e : Expr} {m m' : M Z.S α} {ρ : Res α} (h : JE Z Γ e m ρ) (q : m = m') : JE Z Γ e m' ρ := q ▸ h
end DL
namespace DL
open PySem PySem.Spec PyProof.Rows L2
/-! ### expressions whose value is known -/
structure JC (Z : Zc) (Γ : Ctx) (e : Expr) {α : Type} (y : α) (r : Rp α) : Prop where
  jp : JP Z Γ e (fun _ => some y) r
section
variable {Z : Zc} {Γ : Ctx} {α β γ T U ρ τ : Type} {e a b c o : Expr} {es : List Expr} {pos p apos : Pos} {Γ' : T → Ctx} {Γb : U → Ctx} {ρr : Res ρ} {rest : List Stmt} {Tt : Type} {l : OL Z.S Tt} {x C dx : Addr} {d : CD Tt} {i : Nat} {f : Str}
theorem jc_var {n : Str} {r : Rp α} {y : α} (k : Nat) (hk : Γ[k]? = some (some (.fz (r y)))) (hp : PE Z.X (.Name n pos) (tVar k)) : JC Z Γ (.Name n pos) y r := ⟨jp_var k hk hp⟩
theorem jc_int {n : Int} {j : Nat} : JC Z Γ (.Constant (.int n) j pos) n rI := ⟨jp_int⟩
theorem jc_str {n : Str} {j : Nat} : JC Z Γ (.Constant (.str n) j pos) n rS := ⟨jp_str⟩
theorem jc_fld {C : Addr} {fs : α → List (Str × MP V)} {r : Rp β} {y : α} (g : α → β) (cl : Cls Z.X.K C) (na : NoAttr Z.X.K C f) (h : JC Z Γ e y (rObj C fs)) (hl : ∀ x, (fs x).lookup f = some (r (g x)) := by intro _; rfl) (hb : attributeBase e f Z.X.env (eval e Z.X.env) = eval e Z.X.env := by rfl) : JC Z Γ (.Attribute e f pos) (g y) r := ⟨jp_fld g cl na h.jp hl hb⟩
section
variable {α1 α2 : Type} {r1 : Rp α1} {r2 : Rp α2} {y : α1 × α2}
theorem jc_t2_0 {j : Nat} {p2 : Pos} (h : JC Z Γ a y (rT2 Z.X.K r1 r2)) : JC Z Γ (.Subscript a (.Constant (.int 0) j p2) pos) y.1 r1 := ⟨jp_t2_0 h.jp⟩
theorem jc_t2_1 {j : Nat} {p2 : Pos} (h : JC Z Γ a y (rT2 Z.X.K r1 r2)) : JC Z Γ (.Subscript a (.Constant (.int 1) j p2) pos) y.2 r2 := ⟨jp_t2_1 h.jp⟩
end
section
variable {κ : Type} [DecidableEq κ] {kt : KeyT κ} {r : Rp α} {key : κ}
theorem je_amGetC (cap : ObjR l Z.R x C dx d) (cl : Cls Z.X.K C) (na : NoAttr Z.X.K C f) (hu : Z.X.A.units + 65 < cLine) {m : M Z.S Unit} (g : Tt → List (κ × α)) (h : JE Z Γ e m (.fz (rSelfU x))) (hk : JC Z Γ b key kt.rp) (hi : ∀ t, (d.all t)[i]? = some (f, .ow (owD kt r (g t))) := by intro _; rfl)
    (hb : attributeBase e f Z.X.env (eval e Z.X.env) = eval e Z.X.env := by rfl) (hs : NoSl b := by exact fun _ _ => rfl) :
    JE Z Γ (.Subscript (.Attribute e f p) b pos) (bnd m fun _ => bnd (getA l i g) fun dd => opt (dget dd key)) (.fz r) := je_amGet cap cl na hu g h hk.jp hi hb hs
theorem jb_amPutC (cap : ObjR l Z.R x C dx d) (cl : Cls Z.X.K C) (na : NoAttr Z.X.K C f) (hu : Z.X.A.units + 1 < cLine) {p1 p2 : Pos} {m : M Z.S Unit} {mv : M Z.S α} {F : M Z.S (Fl T U ρ)} (g : Tt → List (κ × α)) (u : Tt → List (κ × α) → Tt) (hv : JE Z Γ e mv (.fz r)) (h : JE Z Γ o m (.fz (rSelfU x))) (hk : JC Z Γ b key kt.rp)
    (hr : JB Z Γ rest F Γ' Γb ρr) (hd : ∀ t y j, j ≠ i → (d.all (u t y))[j]? = (d.all t)[j]?) (hi : ∀ t, (d.all t)[i]? = some (f, .ow (owD kt r (g t))) := by intro _; rfl) (hg : ∀ t y, g (u t y) = y := by intro _ _; rfl) (hb : attributeBase o f Z.X.env (eval o Z.X.env) = eval o Z.X.env := by rfl)
    (hs : swapsWith e (some (.Subscript (.Attribute o f p1) b p2)) pos.line Z.X.env = pure false := by rfl) :
    JB Z Γ (.Assign [.Subscript (.Attribute o f p1) b p2] e pos :: rest) (bnd mv fun y => bnd m fun _ => bnd (dputA l i g u key y) fun _ => F) Γ' Γb ρr := jb_amPut cap cl na hu g u hv h hk.jp hr hi hg hd hb hs
end
end
end DL
set_option Elab.async false
set_option linter.all false
set_option maxRecDepth 100000
namespace DL
open PySem PySem.Spec PyProof.Rows L2
/-! ### the law: its bag, its end -/
def bag0 (ns : List Int) : Bag := ⟨ns, 0, 0, 17, 0, []⟩
def bagO (al : Addr) (b : Bag) : HO := .lst [.ref al, .int b.at_, .int b.val, .int b.mix, .int b.cnt]
def bagR (ab al : Addr) : Bag → MP Hp := fun b => ⟨fun B G => (B ab = some (bagO al b) ∧ B al = some (.lst (b.scr.map V.int))) ∧ ∀ a ∈ b.av, ∃ o, G a = some o, fun g h => ⟨h.1, fun a ha => let ⟨o, e⟩ := h.2 a ha; ⟨o, g _ _ e⟩⟩⟩
def bagI : BagIn Bag := ⟨fun b => b, fun _ b => b⟩
def bagC (ab al : Addr) (ne : al ≠ ab) : BagC Bag (bagR ab al) := ⟨bagI, ab, al, ⟨fun h => h.1, fun i v m n h => ⟨⟨upd_same, by rw [upd_ne ne]; exact h.1.2⟩, h.2⟩⟩⟩
def spBag (K : PySem.W.Frag) : Sp := fun vs H Q _ => ∃ (a : Addr) (ns : List Int), vs = [.ref a] ∧ SqL K H a (ns.map V.int) ∧ ∀ al ab, H al = none → H ab = none → al ≠ ab → Q (.ref ab) (upd (upd H al (.lst (ns.map V.int))) ab (bagO al (bag0 ns)))
def spLaw (K : PySem.W.Frag) : Sp := fun vs H Q _ => ∃ (a : Addr) (ns : List Int), vs = [.ref a] ∧ SqL K H a (ns.map V.int) ∧ ns.length ≤ 63 ∧ ∀ H', Q (.bl true) H'
section
variable {P : Program} {w : World} {K : PySem.W.Frag} {mg : Str → Option Value} {base : Heap} {f fa fb : Addr} {fd fdb : FuncData} {k : Nat} {ps : List Str} {sp : Sp}
theorem FnOk.noE (F : FnOk P w K mg base (L2.CX P w) k f fd ps sp) (h : ∀ vs H Q E, sp vs H Q E → sp vs H Q fun _ _ _ => False) : FnOk P w K mg base CX0 k f fd ps sp :=
  ⟨F.len, fun A outer s H args us vs Q E hr he hb hv hs => codeAny_mono (F.run A outer s H args us vs Q (fun _ _ _ => False) hr he hb hv (h _ _ _ _ hs)) fun r s' q => by
    cases r with
    | error e =>
      obtain ⟨_, _, _, _, _, _, _, _, _, _, _, _, z⟩ := (show L2.CX P w outer H s (fun _ _ _ => False) e s' from q)
      exact z.elim
    | ok fl => cases fl <;> exact q⟩
theorem FnC.of {n : Str} (F : FnOk P w K mg base (L2.CX P w) k f fd ps sp) (g : mg n = some (.ref f)) (kp : PySem.W.keepIn K (.ref f) = true) (b : Binds K fd ps []) : FnC P w K mg base n k sp := ⟨f, fd, ps, F, g, kp, b⟩
theorem kbn_all {n : Nat} (b : Binds K fd ps []) (hn : ps.length = n) : KBn K fd ps n [] (fun us ws => us ++ ws) (fun vs zs => vs ++ zs) :=
  ⟨fun s us ws X l1 l2 => by
    have e : ws = [] := List.eq_nil_of_length_eq_zero l2
    subst e
    have z := b s us X (by rw [List.append_nil, l1, hn])
    exact z, fun r1 r2 => r1.append r2⟩
theorem law_glue {N : List Str} {params : Arguments} {body rest : List Stmt} {scope : Scope} {x : Str} {p1 p2 p3 p4 p5 : Pos} {i : Nat} {Γ0 : Addr → Ctx} {mb : M Bag (Fl Unit Empty Bool)} (F : FunD K "law" "law" params body scope [] [] fa fd) (S : FnScope N ["_law_script"] scope)
    (Fb : FnOk P w K mg base (L2.CX P w) 1 fb fdb ["_law_script"] (spBag K)) (gB : mg "_law_bag" = some (.ref fb)) (kB : PySem.W.keepIn K (.ref fb) = true) (bB : Binds K fdb ["_law_script"] [])
    (hbody : body = .Assign [.Name x p1] (.Call (.Name "_law_bag" p2) [.Name "_law_script" p3] [] p4) p5 :: rest)
    (hk : 1 ≤ k) (hi : N[i]? = some x) (hi0 : i ≠ 0) (hx : Loc scope x)
    (hpv : ∀ (cdv : Value) (A : Around) (outer : List Env) (s : Shared) (H : Hp) (E : XK), PE (cxOf (L2.CX P w) P w K mg base N "law" scope fa cdv A outer s H E) (.Name "_law_script" p3) (tVar 0))
    (hf : ∀ (cdv : Value) (A : Around) (outer : List Env) (s : Shared) (H : Hp) (E : XK), (cxOf (L2.CX P w) P w K mg base N "law" scope fa cdv A outer s H E).fn x = true ∨ scope.names.lookup x = some .local)
    (hs : ∀ (cdv : Value) (A : Around) (outer : List Env) (s : Shared) (H : Hp) (E : XK), swapsWith (.Call (.Name "_law_bag" p2) [.Name "_law_script" p3] [] p4) (some (.Name x p1)) p5.line (cxOf (L2.CX P w) P w K mg base N "law" scope fa cdv A outer s H E).env = pure false)
    (hg : ∀ (cdv : Value) (A : Around) (outer : List Env) (s : Shared) (H : Hp) (E : XK), Gl (cxOf (L2.CX P w) P w K mg base N "law" scope fa cdv A outer s H E) "_law_bag")
    (hΓ : ∀ ab (j : Nat) (y : Asn), (Γ0 ab)[j]? = some (some y) → j = i ∧ y = .fz (rBag ab ())) (hΓl : ∀ ab, (Γ0 ab).length ≤ N.length)
    (hb : ∀ (cdv : Value) (A : Around) (outer : List Env) (s : Shared) (H : Hp) (E : XK) (Fm : Fm) (ab al : Addr) (ne : al ≠ ab), Room k (A.deeper (envOfC "law" scope s.heap.objs.size fa cdv)) → ZOk (ZF P w K mg base N "law" scope fa cdv A outer s H E Fm Bag (bagR ab al)) →
      JB (ZF P w K mg base N "law" scope fa cdv A outer s H E Fm Bag (bagR ab al)) (Γ0 ab) rest mb (fun _ => []) (fun e => nomatch e) (.fz rB))
    (good : ∀ ns : List Int, ns.length ≤ 63 → (mb (bag0 ns)).every fun fl _ => fl = .rt true) : FnOk P w K mg base CX0 (k + 1) fa fd ["_law_script"] (spLaw K) := by
  refine FnOk.noE (F.ok S (fun vs H Q E ⟨a, ns, ev, _⟩ => by rw [ev]; rfl) fun cdv A outer s H vs Q E hr ⟨a, ns, ev, hS, hl, hQ⟩ => ?_) fun vs H Q E h => h
  subst ev
  have hlen : 1 ≤ N.length := by
    obtain ⟨h1, _⟩ := List.getElem?_eq_some_iff.mp hi
    omega
  obtain ⟨hiN, _⟩ := List.getElem?_eq_some_iff.mp hi
  rw [hbody]
  let X : Cx := cxOf (L2.CX P w) P w K mg base N "law" scope fa cdv A outer s H E
  have tk : Takes X (fun cls d _ H => E cls d H) := takes_of rfl rfl rfl rfl
  have call : PE X (.Call (.Name "_law_bag" p2) [.Name "_law_script" p3] [] p4) (tCallS (spBag K) (WE fun cls d _ H => E cls d H) (tCons (tVar 0) tNil)) :=
    pe_callS (X := X) Fb (hr.mono hk) (hg cdv A outer s H E) gB kB bB (fun σ => passAt tk σ) (pa_cons (hpv cdv A outer s H E) pa_nil) (by decide) rfl rfl
  have first : PS X (.Assign [.Name x p1] (.Call (.Name "_law_bag" p2) [.Name "_law_script" p3] [] p4) p5) _ := ps_set (X := X) (i := i) S.nd hi hx call (hs cdv A outer s H E) (hf cdv A outer s H E)
  have restT : PSs X rest (fun D σ H' => ∃ ab al Fm, al ≠ ab ∧ tS (ZF P w K mg base N "law" scope fa cdv A outer s H E Fm Bag (bagR ab al)) (Γ0 ab) mb (fun _ => []) (fun e => nomatch e) (.fz rB) D σ H') :=
    ⟨fun pins s1 σ H' D I ⟨ab, al, Fm, ne, h⟩ => (hb cdv A outer s H E Fm ab al ne hr (zf_ok S.nd)).ps.run pins s1 σ H' D I h⟩
  have sl : (L2.start N [V.ref a]).length = N.length := by
    unfold L2.start
    rw [List.length_append, List.length_map, List.length_replicate, List.length_cons, List.length_nil]
    omega
  have s0 : (L2.start N [V.ref a])[0]? = some (some (V.ref a)) := rfl
  refine ⟨_, pss_cons first restT, ?_⟩
  refine ⟨_, s0, a, ns, rfl, hS, fun al ab nal nab ne => ?_⟩
  let B : Hp := upd (upd (fun _ => none) al (.lst (ns.map V.int))) ab (bagO al (bag0 ns))
  let H1 : Hp := upd (upd H al (.lst (ns.map V.int))) ab (bagO al (bag0 ns))
  have bh : Same B H1 := Same.upd2 (Same.upd2 fun b o e => by cases e)
  refine ⟨ab, al, ⟨H1, fun _ => none, B⟩, ne, bag0 ns, fun _ => none, B, ?_, ?_⟩
  · refine ⟨Ok.refl (F := ⟨H1, fun _ => none, B⟩) (fun b o e => by cases e) bh (fun b o e => by cases e), ⟨⟨upd_same, by show upd _ ab _ al = _; rw [upd_ne ne, upd_same]; rfl⟩, fun b hb => by cases hb⟩, ⟨?_, fun j A' e => ?_, fun j L e => ?_, fun j j' L L' c e => ?_⟩, ⟨Nat.zero_le _, fun j A' e => by simp at e⟩, (fun b o e => by cases e), fun b o e => by cases e⟩
    · rw [List.length_set, sl]
      exact hΓl ab
    · obtain ⟨rfl, hy⟩ := hΓ ab j _ e
      cases hy
      exact ⟨.ref ab, by rw [List.getElem?_set_self (by rw [sl]; exact hiN)], rfl⟩
    · obtain ⟨_, hy⟩ := hΓ ab j _ e
      cases hy
    · obtain ⟨_, hy⟩ := hΓ ab j _ e
      cases hy
  · have hg9 := good ns hl
    revert hg9
    induction mb (bag0 ns) with
    | ok fl s1 =>
      intro e
      have e : fl = .rt true := e
      subst e
      intro v σ' H' G' B' g st h
      have h : v = .bl true := h
      rw [h]
      exact hQ H'
    | err e s1 => exact fun h => h.elim
    | stuck => exact fun h => h.elim
    | all av o9 ih9 => exact fun h a9 n9 => ih9 a9 (h a9 n9)
end
end DL
set_option Elab.async false
set_option linter.all false
set_option maxRecDepth 100000
namespace DL
open PySem PySem.Spec PyProof.Rows L2
/-! ### own exceptions -/
def slE (C : Addr) (mro : List Value) (sls : List (Option Value)) (del dct : Bool) : Bool := match mro, sls with
  | .ref C2 :: bm, [_, _, _, _, some (.builtin nid), _] => C2 == C && (nid == "ValueError.__new__" && (!del && (dct && PySem.HandSPX.refsVE bm)))
  | _, _ => false
def clE (K : PySem.W.Frag) (C : Addr) : Bool := match K.lookup C with
  | some ⟨.type "type", _, .cls kd, sls⟩ => slE C kd.mro sls.toList kd.hasDel kd.hasDict
  | _ => false
theorem clE_ok {K : PySem.W.Frag} {C : Addr} (q : clE K C = true) : ∃ nm q N bs bm sn sub ab col dd k0 k1 k2 k3 k5, K.lookup C = some (excClassObj nm q C N bs bm true sn sub ab col dd k0 k1 k2 k3 k5 "ValueError.__new__") ∧ PySem.HandSPX.refsVE bm = true := by
  unfold clE at q
  split at q
  · rename_i dd kd sls ho
    unfold slE at q
    split at q
    · rename_i C2 bm k0 k1 k2 k3 nid k5 hm hs
      simp only [Bool.and_eq_true, beq_iff_eq, Bool.not_eq_true'] at q
      obtain ⟨rfl, rfl, hdel, hd, hv⟩ := q
      obtain ⟨nm, bs, mro, ns, qn, hdc, sn, sub, ab, col, del⟩ := kd
      dsimp only at hm hdel hd
      subst hm hdel hd
      have hsl : sls = #[k0, k1, k2, k3, some (.builtin "ValueError.__new__"), k5] := by
        obtain ⟨l⟩ := sls
        simp only at hs
        rw [hs]
      subst hsl
      exact ⟨nm, qn, ns, bs, bm, sn, sub, ab, col, dd, k0, k1, k2, k3, k5, ho, hv⟩
    · cases q
  · cases q
def oexB (K : PySem.W.Frag) (C : Addr) : Bool := clE K C && (decide (PySem.W.findIn K (.ref C) "__setattr__" = some (some (.builtin "object.__setattr__"))) && (decide (PySem.W.subIn K (.ref C) (.type "BaseException") = some true) && (decide (PySem.W.typeIn K (.ref C) = some (.type "type")) && PySem.W.keepIn K (.ref C))))
theorem oexB_ok {K : PySem.W.Frag} {C : Addr} (h : oexB K C = true) : OexC K C := by
  obtain ⟨h1, h⟩ := Bool.and_eq_true_iff.mp h
  obtain ⟨h2, h⟩ := Bool.and_eq_true_iff.mp h
  obtain ⟨h3, h⟩ := Bool.and_eq_true_iff.mp h
  obtain ⟨h4, h5⟩ := Bool.and_eq_true_iff.mp h
  exact ⟨clE_ok h1, of_decide_eq_true h2, of_decide_eq_true h3, of_decide_eq_true h4, h5⟩
/-- D.__init__ is ValueError's -/
structure VeB (K : PySem.W.Frag) (D : Addr) : Prop where
  rd : PySem.W.readsIn K D (.type "type") = true
  ga : PySem.W.specialIn K (.ref D) "__getattribute__" = some (some (.builtin "type.__getattribute__"))
  at_ : PySem.W.findCls K (.ref D) (.type "type") "__init__" = some (.val (.builtin "ValueError.__init__"))
def veB (K : PySem.W.Frag) (D : Addr) : Bool := PySem.W.readsIn K D (.type "type") && (decide (PySem.W.specialIn K (.ref D) "__getattribute__" = some (some (.builtin "type.__getattribute__"))) && (match PySem.W.findCls K (.ref D) (.type "type") "__init__" with
  | some (.val (.builtin b)) => b == "ValueError.__init__"
  | _ => false))
theorem veB_ok {K : PySem.W.Frag} {D : Addr} (h : veB K D = true) : VeB K D := by
  obtain ⟨h1, h⟩ := Bool.and_eq_true_iff.mp h
  obtain ⟨h2, h3⟩ := Bool.and_eq_true_iff.mp h
  refine ⟨h1, of_decide_eq_true h2, ?_⟩
  split at h3
  · rename_i b e
    rw [e, beq_iff_eq.mp h3]
  · cases h3
section
variable {X : Cx} {e : Expr} {es : List Expr} {ta : TA} {p1 p2 pos : Pos} {x : Str} {D : Addr}
theorem pe_feinit {pl : Sem Bool} (hg : Gl X x) (hm : X.mg x = some (.ref D)) (vV : VeB X.K D) (ha : PA X (e :: es) ta) (hdb : (x == ("__debug__" : Str)) = false := by decide)
    (hc : eval (.Call (.Attribute (.Name x p1) "__init__" p2) (e :: es) [] pos) X.env = (do
      let cls ← eval (.Name x p1) X.env
      standAt p2.atName
      let (fn, front) ← holding [cls] (getMethod cls "__init__" pl)
      callWith pos fn front (backTo pos (starEach (e :: es) X.env)) (backToKw pos (keywordEach [] X.env))) := by rfl)
    (he : starEach (e :: es) X.env = (false, eval e X.env) :: starEach es X.env := by rfl) (hpl : (backTo pos (starEach es X.env)).any (·.1) = false := by rfl) :
    PE X (.Call (.Attribute (.Name x p1) "__init__" p2) (e :: es) [] pos) (tVeI X.K ta) := by
  refine ⟨fun pins s σ H Q I h => ?_⟩
  refine PySem.W.methodCall_KW (ld_glob I hg hm ?_ hdb) hc
  refine PySem.W.method_cls I.kIn vV.ga (PySem.W.cls_value I.kIn vV.rd vV.at_ (by decide +kernel) ?_)
  show wpAny _ _ (callWith pos (Value.builtin "ValueError.__init__") [] (backTo pos (starEach (e :: es) X.env)) []) _ _ _
  refine PyProof.Rows.callWith_method1 (thn (ha.run pos pins _ σ H _ (I.tok _) h) fun us s1 ⟨vs, H1, I1, r1, a, C, ws, ev, hl, T, ea, q⟩ => ?_) he hpl
  subst ev
  cases r1 with
  | @cons _ u0 _ ur ra rw' =>
    obtain rfl : u0 = Value.ref a := ra
    have hlen : ur.length ≤ sizeLine := by
      rw [← Paired.length rw', sizeLine_eq]
      omega
    exact oinit_ok T I1 ea hlen fun s' J => ⟨.non, H1, J, rfl, q⟩
end
/-! what __init__ of such a class does: its arguments are kept in fields -/
def spX (C : Addr) (fs : List Str) : Sp := fun vs H Q _ => ∃ (a : Addr) (ws : List V), vs = .ref a :: ws ∧ ws.length = fs.length ∧ H a = some (exo a C none) ∧
  ∀ (dx : Addr) (H' : Hp), H dx = none → dx ≠ a → H' a = some (exo a C (some dx)) → H' dx = some (exd dx (fs.zip ws).reverse) → (∀ b, b ≠ a → b ≠ dx → H' b = H b) → Q .non H'
structure XnC (P : Program) (w : World) (K : PySem.W.Frag) (mg : Str → Option Value) (base : Heap) (x : Str) (fs : List Str) (j : Nat) : Prop where
  ex : ∃ C fI fd ps, OexC K C ∧ mg x = some (.ref C) ∧ PySem.W.findIn K (.ref C) "__init__" = some (some (.ref fI)) ∧ PySem.W.typeIn K (.ref fI) = some (.type "function") ∧ FnOk P w K mg base (L2.CX P w) j fI fd ps (spX C fs) ∧ Binds K fd ps []
/-- .. of a class without own __init__ -/
structure XzC (K : PySem.W.Frag) (mg : Str → Option Value) (x : Str) : Prop where
  ex : ∃ C, mg x = some (.ref C) ∧ PySem.W.excIn K C He.veBase "ValueError.__new__" = true ∧ PySem.W.keepIn K (.ref C) = true ∧ PySem.W.subIn K (.ref C) (.type "BaseException") = some true ∧ PySem.W.typeIn K (.ref C) = some (.type "type")
/-- an error and nothing behind it -/
def raiM {S T U ρ : Type} (m : M S Empty) : M S (Fl T U ρ) := bnd m fun e => nomatch e
theorem rse_bnd {S α β : Type} {e : Er} {f : α → M S β} : bnd (rse e) f = rse e := rfl
theorem raiM_rse {S T U ρ : Type} {e : Er} : (raiM (rse e) : M S (Fl T U ρ)) = rse e := rfl
section
variable {Z : Zc} {Γ : Ctx} {α β T U ρ : Type} {e : Expr} {es : List Expr} {pos pos2 p : Pos} {Γ' : T → Ctx} {Γb : U → Ctx} {ρr : Res ρ}
theorem raiM_post {m : M Z.S Empty} {D : Ends} {G : Hp} {s : Z.S} {σ : L2.St} {Q : VK} (h : PostB Z Γ' Γb ρr D G (raiM m s)) : PostE Z Γ (.fz fun e => nomatch e) σ Q G (m s) := by
  have h : PostB Z Γ' Γb ρr D G ((m s).bnd fun e => nomatch e) := h
  revert h
  induction m s with
  | ok x s1 => exact nomatch x
  | err x s1 => exact fun h => h
  | stuck => exact fun h => h
  | all av o9 ih9 => exact fun q a9 h9 => ih9 a9 (q a9 h9)
theorem js_raise {k j : Nat} {x : Str} {fs : List Str} {mk : (γ : Type) → (α → M Z.S γ) → M Z.S γ} {ra : α → List V → Hp → Prop} (z : ZOk Z) (E : XnC Z.X.prog Z.X.w Z.X.K Z.X.mg Z.X.base x fs j) (hr : Room k Z.X.A) (ha : JA Z Γ (e :: es) mk ra) (df : α → List (Str × Dt))
    (hdf : ∀ y vs G, ra y vs G → vs.length = fs.length ∧ Paired (fun v f => v.1 = f.1 ∧ dtV f.2 v.2) (fs.zip vs).reverse (df y)) (hn : fs.length ≤ 900 := by decide) (hne : fs ≠ [] := by decide) (hg : Gl Z.X x := by rfl) (hj : j + 1 ≤ k := by decide) (hdb : (x == ("__debug__" : Str)) = false := by decide) (he : starEach (e :: es) Z.X.env = (false, eval e Z.X.env) :: starEach es Z.X.env := by exact star_of rfl) (hpl : (backTo pos (starEach es Z.X.env)).any (·.1) = false := by rfl) :
    JS Z Γ (.Raise (some (.Call (.Name x p) (e :: es) [] pos)) none pos2) (raiM (mk Empty fun y => rse (.exc x (df y))) : M Z.S (Fl T U ρ)) Γ' Γb ρr := by
  obtain ⟨C, fI, fd, ps, T, hm, iC, tI, F1, hb⟩ := E.ex
  obtain ⟨t, ht, hq⟩ := ha.ex
  have key := ps_raise (pos := pos2) z.calm z.tk (pmk_oex (p := p) (pos := pos) (dvs := []) T iC tI F1 (hr.mono hj) hb .nil (passes_call z.tk fun _ _ _ _ h => h.elim) hg hm ht hdb he hpl)
  refine ⟨PS.imp key fun D σ H ⟨s, G, B, st, q⟩ => ?_⟩
  refine hq (Q := fun _ _ => True) st (raiM_post q) fun vs H1 y s1 G1 B1 g1 st1 hy q1 => ?_
  obtain ⟨hl, hp⟩ := hdf y vs G1 hy
  refine ⟨by omega, fun a na => ⟨a, vs ++ [], rfl, by rw [List.append_nil]; exact hl, upd_same, fun dx H' nd ne h1 h2 h3 => ⟨rfl, dx, _, h1, h2, ?_, ?_⟩⟩⟩
  · rw [upd_ne ne] at nd
    exact nd
  · have nd1 : H1 dx = none := by
      rw [upd_ne ne] at nd
      exact nd
    have eH : upd (del H' a) dx (.xd (fs.zip (vs ++ [])).reverse) = upd H1 dx (.xd (fs.zip (vs ++ [])).reverse) := by
      funext b
      by_cases hbd : b = dx
      · rw [hbd, upd_same, upd_same]
      · rw [upd_ne hbd, upd_ne hbd]
        by_cases hba : b = a
        · rw [hba, del_same, na]
        · rw [del_ne hba, h3 b hba hbd, upd_ne hba]
    rw [eH]
    refine q1 _ _ σ _ _ B1 (Same.upd_new (Same.free st1.ok.gh nd1)) (st1.laidG nd1).nil ⟨C, hm, rfl, .inr ⟨dx, _, rfl, upd_same, ?_⟩⟩
    rw [List.append_nil]
    exact hp
theorem pmk_own0 {X : Cx} {C : Addr} {x : Str} (q : PySem.W.excIn X.K C He.veBase "ValueError.__new__" = true) (gC : X.mg x = some (.ref C)) (kC : PySem.W.keepIn X.K (.ref C) = true) (r : Raises X (.ref C)) (hg : Gl X x) (hdb : (x == ("__debug__" : Str)) = false := by decide) :
    PMk X (.Call (.Name x p) [] [] pos) (fun _ H Q => Q (.ref C) none H) := by
  intro pins s σ H Q I h
  refine wpAny_Call_Name_kw (ld_glob I hg gC ?_ hdb)
  refine PySem.W.callWith_K0 (first := []) I.kIn kC ?_
  obtain ⟨bm, N, nm, qn, bs, hdct, sn, sub, ab, col, dd, k0, k1, k2, k3, k5, mN, hC, hN, hni, T⟩ := exc_obj I.kIn q
  refine wpAny_call_exc_subT F.excBase_ValueError T hC hN hni (fun h' e hm => ?_) (by show 0 ≤ sizeLine; omega)
  exact mk_of I hm r h (I.hok.gone hm.new)
theorem js_raise0 {x : Str} (z : ZOk Z) (E : XzC Z.X.K Z.X.mg x) (hg : Gl Z.X x := by rfl) (hdb : (x == ("__debug__" : Str)) = false := by decide) :
    JS Z Γ (.Raise (some (.Call (.Name x p) [] [] pos)) none pos2) (rse (.exc x []) : M Z.S (Fl T U ρ)) Γ' Γb ρr := by
  obtain ⟨C, hm, q, kC, sb, ty⟩ := E.ex
  refine ⟨PS.imp (ps_raise (pos := pos2) z.calm z.tk (pmk_own0 q hm kC (raises_own sb ty) hg hdb)) fun D σ H ⟨s, G, B, st, q⟩ => ?_⟩
  exact q _ _ σ H G B (Same.refl _) st.nil ⟨C, hm, rfl, .inl ⟨rfl, rfl⟩⟩
end
end DL
set_option Elab.async false
set_option linter.all false
set_option maxRecDepth 100000
namespace DL
open PySem PySem.Spec PyProof.Rows L2
/-! ### try .. except x as n -/
def Fl.lift {T1 T U ρ : Type} (g : T1 → T) : Fl T1 Empty ρ → Fl T U ρ
  | .nx t => .nx (g t)
  | .rt r => .rt r
  | .bk u => nomatch u
  | .ct u => nomatch u
/-- a clause raises nothing -/
def clO {S T U ρ : Type} : Out S (Fl T Empty ρ) → Out S (Fl T U ρ)
  | .ok fl s => .ok (fl.lift id) s
  | .all av g => .all av fun a => clO (g a)
  | _ => .stuck
def tryO {S T1 T U ρ : Type} (o : Out S (Fl T1 Empty ρ)) (g : T1 → T) (cs : List (Str × Bool)) (hm : Str → List (Str × Dt) → M S (Fl T Empty ρ)) : Out S (Fl T U ρ) := match o with
  | .ok fl s1 => .ok (fl.lift g) s1
  | .stuck => .stuck
  | .all av o9 => .all av fun a => tryO (o9 a) g cs hm
  | .err (.exc c fs) s1 => match cs.lookup c with
    | none => .stuck
    | some false => .err (.exc c fs) s1
    | some true => clO (hm c fs s1)
/-- the body; an error whose class stands in cs with true goes to the clause -/
def tryM {S T1 T U ρ : Type} (m : M S (Fl T1 Empty ρ)) (g : T1 → T) (cs : List (Str × Bool)) (hm : Str → List (Str × Dt) → M S (Fl T Empty ρ)) : M S (Fl T U ρ) := fun s => tryO (m s) g cs hm
/-- the caught one: at a, its dict d, its fields -/
def rX (a : Addr) (d : Option Addr) (fs : List (Str × Dt)) : MP V := ⟨fun v G => v = .ref a ∧ (fs = [] ∧ d = none ∨ ∃ dd vs, d = some dd ∧ G dd = some (.xd vs) ∧ Paired (fun v f => v.1 = f.1 ∧ dtV f.2 v.2) vs fs), fun g h => ⟨h.1, h.2.imp id fun ⟨dd, vs, h1, h2, h3⟩ => ⟨dd, vs, h1, g _ _ h2, h3⟩⟩⟩
abbrev ZH (Z : Zc) (hd : Hp) (E : List (Option (MP V))) : Zc := ⟨Z.X, Z.W, Z.F, hd, E, Z.S, Z.R⟩
abbrev ZT (Z : Zc) (pn : List (Addr × Obj)) (xe : Value → Shared → Prop) (W : WX) (hd : Hp) (E : List (Option (MP V))) : Zc := ⟨Z.X.tr pn xe, W, Z.F, hd, E, Z.S, Z.R⟩
abbrev ZSu (Z : Zc) (a : Addr) (oe : Obj) (pn : List (Addr × Obj)) : Zc := ⟨Z.X.suite a ((a, oe) :: pn), fun _ _ _ _ => False, Z.F, Z.hd, Z.E, Z.S, Z.R⟩
abbrev ZN (Z : Zc) : Zc := ⟨Z.X, fun _ _ _ _ => False, Z.F, Z.hd, Z.E, Z.S, Z.R⟩
section
variable {Z : Zc} {Γ Γi Γe : Ctx} {T1 T U ρ : Type} {pos pos2 np : Pos} {Γ1 : T1 → Ctx} {Γ' Γ2 : T → Ctx} {Γb : U → Ctx} {Γn Γm : Empty → Ctx} {ρr : Res ρ} {s : Z.S} {G B : Hp} {σ : L2.St} {H : Hp}
theorem sta_cv {X1 X2 : Cx} {W1 W2 : WX} {F : Fm} {hd : Hp} {E : List (Option (MP V))} {S : Type} {R : S → MP Hp} {s : S} (st : Sta ⟨X1, W1, F, hd, E, S, R⟩ Γ s G B σ H) : Sta ⟨X2, W2, F, hd, E, S, R⟩ Γ s G B σ H := ⟨st.ok, st.res, st.sl, st.sle, st.held, st.off⟩
theorem sta_clear {i : Nat} (st : Sta Z Γ s G B σ H) (hE : NoE Z.E i) : Sta Z (Γ.set i none) s G B (σ.set i none) H := by
  have nz : ∀ (k : Nat) (y : Asn), (Γ.set i none)[k]? = some (some y) → k ≠ i ∧ Γ[k]? = some (some y) := fun k y e => by
    rw [List.getElem?_set] at e
    by_cases c : i = k
    · rw [if_pos c] at e
      split at e
      · cases e
      · cases e
    · rw [if_neg c] at e
      exact ⟨Ne.symm c, e⟩
  have sg : ∀ (k : Nat), k ≠ i → (σ.set i none)[k]? = σ[k]? := fun k c => by rw [List.getElem?_set, if_neg (Ne.symm c)]
  refine ⟨st.ok, st.res, ⟨by rw [List.length_set, List.length_set]; exact st.sl.len, fun k A e => ?_, fun k L e => ?_, fun k j L L' a e1 e2 q1 q2 => ?_⟩, ⟨by rw [List.length_set]; exact st.sle.1, fun k A e => ?_⟩, st.held, st.off⟩
  · obtain ⟨c, e⟩ := nz k _ e
    rw [sg k c]
    exact st.sl.fz k A e
  · obtain ⟨c, e⟩ := nz k _ e
    rw [sg k c]
    exact st.sl.lv k L e
  · obtain ⟨c1, e1⟩ := nz k _ e1
    obtain ⟨c2, e2⟩ := nz j _ e2
    rw [sg k c1] at q1
    rw [sg j c2] at q2
    exact st.sl.ne k j L L' a e1 e2 q1 q2
  · have c : k ≠ i := fun c => by
      subst c
      exact hE A e
    rw [sg k c]
    exact st.sle.2 k A e
theorem js_tryG {b₀ : Stmt} {body suite : List Stmt} {n x : Str} {i : Nat} {D : Value} {m : M Z.S (Fl T1 Empty ρ)} {g : T1 → T} {hm : Str → List (Str × Dt) → M Z.S (Fl T Empty ρ)} (z : ZOk Z) (En : Addr → List (Option (MP V))) (hdf : Addr → HO → Hp) (cs : List (Str × Bool))
    (enter : ∀ {s : Z.S} {G B : Hp} {σ : L2.St} {H : Hp}, Sta Z Γ s G B σ H → ∃ a o, Sta (ZH Z (hdf a o) (En a)) Γi s G B σ H ∧ (∀ t s1 G1 B1 σ1 H1, Same G G1 → Sta (ZH Z (hdf a o) (En a)) (Γ1 t) s1 G1 B1 σ1 H1 → Sta Z (Γ' (g t)) s1 G1 B1 σ1 H1) ∧
      (∀ s1 G1 B1 σ1 H1, Same G G1 → Sta (ZH Z (hdf a o) (En a)) [] s1 G1 B1 σ1 H1 → Sta Z Γe s1 G1 B1 σ1 H1))
    (hh : ∀ a, Z.hd a = none) (hE : NoE Z.E i) (hi0 : i < Γe.length) (hei : Γe[i]? = some none)
    (hc : Names Z.X x D) (hcs : ∀ c b, cs.lookup c = some b → ∃ C, Z.X.mg c = some (.ref C) ∧ PySem.W.exmOne Z.X.K (.ref C) D = some b)
    (hb : ∀ (a : Addr) (o : HO) (pn : List (Addr × Obj)) (xe : Value → Shared → Prop) (W : WX), ZOk (ZT Z pn xe W (hdf a o) (En a)) → JB (ZT Z pn xe W (hdf a o) (En a)) Γi body m Γ1 Γn ρr)
    (hsu : ∀ (a : Addr) (oe : Obj) (d : Option Addr) (pn : List (Addr × Obj)) (c : Str) (C : Addr) (fs : List (Str × Dt)), L2.Zc (.ref C) d oe → (∃ vs, oe.data = .fields vs) → cs.lookup c = some true → Z.X.mg c = some (.ref C) → JB (ZSu Z a oe pn) (Γe.set i (some (.fz (rX a d fs)))) (b₀ :: suite) (hm c fs) Γ2 Γm ρr)
    (hl : ∀ t, Le ((Γ2 t).set i none) (Γ' t)) (hs : Z.X.stack = Z.X.env :: Z.X.outer := by rfl) (hf : Z.X.env.frame = some Z.X.env.locals := by rfl) (hi : Z.X.N[i]? = some n := by rfl) (hln : Z.X.env.kindOf n = some .local := by rfl) :
    JS Z Γ (.Try body [.ExceptHandler (some (.Name x np)) (some n) (b₀ :: suite) pos2] [] [] pos) (tryM m g cs hm : M Z.S (Fl T U ρ)) Γ' Γb ρr := by
  have key := ps_try_as (np := np) (pos := pos) (pos' := pos2) (body := body) (suite := suite) (b₀ := b₀) (tb := fun W D σ H => ∃ a o, tS (ZT Z [] (fun _ _ => False) W (hdf a o) (En a)) Γi m Γ1 Γn ρr D σ H)
    (ts := fun a cls d D σ H => ∃ c C fs, cls = .ref C ∧ Z.X.mg c = some (.ref C) ∧ cs.lookup c = some true ∧ tS (ZN Z) (Γe.set i (some (.fz (rX a d fs)))) (hm c fs) Γ2 Γm ρr D σ H) hs hf z.nd hi hln hc z.tk ?_ ?_
  · refine ⟨PS.imp key fun D1 σ H ⟨s, G, B, st, q⟩ => ?_⟩
    obtain ⟨a, o, st1, lv1, lv2⟩ := enter st
    refine ⟨a, o, s, G, B, sta_cv st1, ?_⟩
    have q : PostB Z Γ' Γb ρr D1 G (tryO (m s) g cs hm) := q
    revert q
    induction m s with
    | all av o9 ih9 => exact fun q a9 h9 => ih9 a9 (q a9 h9)
    | ok fl s1 =>
      cases fl with
      | nx t => exact fun q σ1 H1 G1 B1 g1 st2 => q σ1 H1 G1 B1 g1 (lv1 t s1 G1 B1 σ1 H1 g1 (sta_cv st2))
      | rt r =>
        intro q v σ1 H1 G1 B1 g1 st2 h2
        have st3 : Sta Z [] s1 G1 B1 σ1 H1 := (lv2 s1 G1 B1 σ1 H1 g1 (sta_cv st2)).nil
        refine q v σ1 H1 G1 B1 g1 st3 ?_
        cases ρr with
        | fz r => exact h2
        | own c =>
          obtain ⟨p, o2, h1, h2, h3, h4, h5, h6, h7, h8⟩ := h2
          exact ⟨p, o2, h1, h2, h3, h4, h5, h6, hh p, h8⟩
        | vw k c => exact h2
      | bk u => exact nomatch u
      | ct u => exact nomatch u
    | stuck => exact fun q => q
    | err e s1 =>
      obtain ⟨c, fs⟩ := e
      intro q cls d σ1 H1 G1 B1 g1 st2 he
      have st3 : Sta Z Γe s1 G1 B1 σ1 H1 := lv2 s1 G1 B1 σ1 H1 g1 (sta_cv st2)
      have q : PostB Z Γ' Γb ρr D1 G (match cs.lookup c with
        | none => .stuck
        | some false => .err (.exc c fs) s1
        | some true => clO (hm c fs s1)) := q
      cases hl2 : cs.lookup c with
      | none =>
        rw [hl2] at q
        exact q.elim
      | some b =>
        rw [hl2] at q
        obtain ⟨C, hC, hx⟩ := hcs c b hl2
        obtain ⟨C2, hC2, e2, hd2⟩ := he
        rw [hC] at hC2
        cases hC2
        subst e2
        refine ⟨b, hx, fun hb1 a2 na => ?_, fun hb1 => ?_⟩
        · subst hb1
          have q : PostB Z Γ' Γb ρr D1 G (clO (hm c fs s1)) := q
          have r2 : (rX a2 d fs).p (.ref a2) G1 := ⟨rfl, hd2⟩
          refine ⟨c, C, fs, rfl, hC, hl2, s1, G1, B1, sta_cv (st3.set hi0 hE r2), ?_⟩
          revert q
          induction hm c fs s1 with
          | all av o9 ih9 => exact fun q a9 h9 => ih9 a9 (q a9 h9)
          | ok fl s2 =>
            cases fl with
            | nx t => exact fun q σ2 H2 G2 B2 g2 st4 => q _ H2 G2 B2 (g1.trans g2) ((sta_clear (sta_cv (X2 := Z.X) (W2 := Z.W) st4) hE).weak (hl t))
            | rt r =>
              intro q v σ2 H2 G2 B2 g2 st4 h4
              refine q v σ2 H2 G2 B2 (g1.trans g2) (sta_cv st4) ?_
              cases ρr with
              | fz r => exact h4
              | own c => exact h4
              | vw k c => exact h4
            | bk u => exact nomatch u
            | ct u => exact nomatch u
          | stuck => exact fun q => q
          | err e2 s2 => exact fun q => q.elim
        · subst hb1
          exact q (.ref C) d σ1 H1 G1 B1 g1 st3.nil ⟨C, hC, rfl, hd2⟩
  · intro W pn xe tk own
    refine ⟨fun pins s σ H D1 I ⟨a, o, s0, G, B, st, q⟩ => ?_⟩
    have zt : ZOk (ZT Z pn xe W (hdf a o) (En a)) := ⟨z.calm, own, z.nd, tk⟩
    refine (hb a o pn xe W zt).ps.run pins s σ H D1 I ⟨s0, G, B, sta_cv st, ?_⟩
    revert q
    induction m s0 with
    | all av o9 ih9 => exact fun q a9 h9 => ih9 a9 (q a9 h9)
    | ok fl s1 =>
      cases fl with
      | nx t => exact fun q σ1 H1 G1 B1 g1 st2 => q σ1 H1 G1 B1 g1 (sta_cv st2)
      | rt r =>
        intro q v σ1 H1 G1 B1 g1 st2 h2
        refine q v σ1 H1 G1 B1 g1 (sta_cv st2) ?_
        cases ρr with
        | fz r => exact h2
        | own c => exact h2
        | vw k c => exact h2
      | bk u => exact nomatch u
      | ct u => exact nomatch u
    | stuck => exact fun q => q
    | err e s1 => exact fun q cls d σ1 H1 G1 B1 g1 st2 he => q cls d σ1 H1 G1 B1 g1 (sta_cv st2) he
  · intro a oe cls d pn hz hv
    refine ⟨fun pins s σ H D1 I ⟨c, C, fs, ec, hC, hl2, s0, G, B, st, q⟩ => ?_⟩
    subst ec
    refine (hsu a oe d pn c C fs hz hv hl2 hC).ps.run pins s σ H D1 I ⟨s0, G, B, sta_cv st, ?_⟩
    revert q
    induction hm c fs s0 with
    | all av o9 ih9 => exact fun q a9 h9 => ih9 a9 (q a9 h9)
    | ok fl s1 =>
      cases fl with
      | nx t => exact fun q σ1 H1 G1 B1 g1 st2 => q σ1 H1 G1 B1 g1 (sta_cv st2)
      | rt r =>
        intro q v σ1 H1 G1 B1 g1 st2 h2
        refine q v σ1 H1 G1 B1 g1 (sta_cv st2) ?_
        cases ρr with
        | fz r => exact h2
        | own c => exact h2
        | vw k c => exact h2
      | bk u => exact nomatch u
      | ct u => exact nomatch u
    | stuck => exact fun q => q
    | err e s1 => exact fun q cls d σ1 H1 G1 B1 g1 st2 he => q cls d σ1 H1 G1 B1 g1 (sta_cv st2) he
end
end DL
namespace DL
open PySem PySem.Spec PyProof.Rows L2
/-- what stays known of the slots at an error -/
def enH : Bool → Option Asn → Option (MP V)
  | true, some (.fz A) => some A
  | _, _ => none
def enOf : List Bool → Ctx → List (Option (MP V))
  | b :: bs, y :: Γ => enH b y :: enOf bs Γ
  | [], _ :: Γ => none :: enOf [] Γ
  | _, [] => []
def exOf (E : List (Option (MP V))) : Ctx := E.map fun y => y.map Asn.fz
theorem enOf_len : ∀ (bs : List Bool) (Γ : Ctx), (enOf bs Γ).length = Γ.length
  | b :: bs, y :: Γ => by
    show (enOf bs Γ).length + 1 = Γ.length + 1
    rw [enOf_len bs Γ]
  | [], _ :: Γ => by
    show (enOf [] Γ).length + 1 = Γ.length + 1
    rw [enOf_len [] Γ]
  | [], [] => rfl
  | _ :: _, [] => rfl
theorem enOf_at : ∀ (bs : List Bool) (Γ : Ctx) (k : Nat) (A : MP V), (enOf bs Γ)[k]? = some (some A) → Γ[k]? = some (some (.fz A))
  | b :: bs, y :: Γ, 0, A, h => by
    have h : some (enH b y) = some (some A) := h
    injection h with h
    cases b with
    | false => cases h
    | true =>
      cases y with
      | none => cases h
      | some y => cases y with
        | fz A2 =>
          injection h with h
          subst h
          rfl
        | lv L => cases h
  | b :: bs, y :: Γ, k + 1, A, h => enOf_at bs Γ k A h
  | [], y :: Γ, 0, A, h => by cases h
  | [], y :: Γ, k + 1, A, h => enOf_at [] Γ k A h
  | [], [], k, A, h => by cases h
  | _ :: _, [], k, A, h => by cases h
theorem exOf_fz {E : List (Option (MP V))} {k : Nat} {A : MP V} (h : (exOf E)[k]? = some (some (.fz A))) : E[k]? = some (some A) := by
  unfold exOf at h
  rw [List.getElem?_map] at h
  cases e : E[k]? with
  | none =>
    rw [e] at h
    cases h
  | some y =>
    rw [e] at h
    cases y with
    | none => cases h
    | some A2 =>
      injection h with h
      injection h with h
      injection h with h
      rw [h]
theorem exOf_lv {E : List (Option (MP V))} {k : Nat} {L : MP HO} (h : (exOf E)[k]? = some (some (.lv L))) : False := by
  unfold exOf at h
  rw [List.getElem?_map] at h
  cases e : E[k]? with
  | none =>
    rw [e] at h
    cases h
  | some y =>
    rw [e] at h
    cases y with
    | none => cases h
    | some A2 => cases h
section
variable {Z : Zc} {Γ : Ctx} {T1 T : Type} {Γ1 : T1 → Ctx} {Γ' : T → Ctx} {g : T1 → T} {s : Z.S} {G B : Hp} {σ : L2.St} {H : Hp}
theorem enter0 (bs : List Bool) (hE : Z.E = []) (hh : ∀ a, Z.hd a = none) (hl : ∀ t, Le (Γ1 t) (Γ' (g t))) (st : Sta Z Γ s G B σ H) : ∃ (a : Addr) (o : HO), Sta (ZH Z (fun _ => none) (enOf bs Γ)) Γ s G B σ H ∧
    (∀ t s1 G1 B1 σ1 H1, Same G G1 → Sta (ZH Z (fun _ => none) (enOf bs Γ)) (Γ1 t) s1 G1 B1 σ1 H1 → Sta Z (Γ' (g t)) s1 G1 B1 σ1 H1) ∧
    (∀ s1 G1 B1 σ1 H1, Same G G1 → Sta (ZH Z (fun _ => none) (enOf bs Γ)) [] s1 G1 B1 σ1 H1 → Sta Z (exOf (enOf bs Γ)) s1 G1 B1 σ1 H1) := by
  have e0 : ∀ σ1 G1, SlotsE Z.E σ1 G1 := fun σ1 G1 => by
    rw [hE]
    exact ⟨Nat.zero_le _, fun k A e => by simp at e⟩
  have h0 : ∀ H1, Same Z.hd H1 := fun H1 a o e => by
    rw [hh a] at e
    cases e
  refine ⟨0, .lst [], ⟨st.ok, st.res, ⟨st.sl.len, st.sl.fz, fun k L e => ?_, st.sl.ne⟩, ⟨by rw [enOf_len]; exact st.sl.len, fun k A e => st.sl.fz k A (enOf_at bs Γ k A e)⟩, (fun a o e => by cases e), (fun a o e => by cases e)⟩, fun t s1 G1 B1 σ1 H1 g1 st1 => ?_, fun s1 G1 B1 σ1 H1 g1 st1 => ?_⟩
  · obtain ⟨a, o, h1, h2, h3, h4, h5, h6, h7⟩ := st.sl.lv k L e
    exact ⟨a, o, h1, h2, h3, h4, h5, h6, rfl⟩
  · refine Sta.weak ⟨st1.ok, st1.res, ⟨st1.sl.len, st1.sl.fz, fun k L e => ?_, st1.sl.ne⟩, e0 _ _, h0 _, fun a o e => by rw [hh a] at e; cases e⟩ (hl t)
    obtain ⟨a, o, h1, h2, h3, h4, h5, h6, h7⟩ := st1.sl.lv k L e
    exact ⟨a, o, h1, h2, h3, h4, h5, h6, hh a⟩
  · refine ⟨st1.ok, st1.res, ⟨by unfold exOf; rw [List.length_map]; exact st1.sle.1, fun k A e => st1.sle.2 k A (exOf_fz e), fun k L e => (exOf_lv e).elim, fun k j L L' a e => (exOf_lv e).elim⟩, e0 _ _, h0 _, fun a o e => by rw [hh a] at e; cases e⟩
/-- the cell of a changing thing, held -/
def hd1 (a : Addr) (o : HO) : Hp := fun b => if b = a then some o else none
theorem hd1_same {a : Addr} {o : HO} : hd1 a o a = some o := if_pos rfl
theorem hd1_ne {a b : Addr} {o : HO} (h : b ≠ a) : hd1 a o b = none := if_neg h
theorem hd1_of {a b : Addr} {o u : HO} (h : hd1 a o b = some u) : b = a ∧ u = o := by
  unfold hd1 at h
  split at h
  · injection h with h
    exact ⟨by assumption, h.symm⟩
  · cases h
theorem setN {α : Type} {l : List (Option α)} {k j : Nat} {x : Option α} {y : α} (h : (l.set k x)[j]? = some (some y)) : (j = k ∧ x = some y) ∨ (j ≠ k ∧ l[j]? = some (some y)) := by
  rw [List.getElem?_set] at h
  by_cases c : k = j
  · rw [if_pos c] at h
    split at h
    · injection h with h
      exact .inl ⟨c.symm, h⟩
    · cases h
  · rw [if_neg c] at h
    exact .inr ⟨Ne.symm c, h⟩
theorem enter1 (bs : List Bool) (k0 : Nat) {L : MP HO} (hk : Γ[k0]? = some (some (.lv L))) (hE : Z.E = []) (hh : ∀ a, Z.hd a = none) (hk1 : ∀ t, k0 < (Γ1 t).length) (hl : ∀ t, Le ((Γ1 t).set k0 (some (.lv L))) (Γ' (g t))) (st : Sta Z Γ s G B σ H) :
    ∃ (a : Addr) (o : HO), Sta (ZH Z (hd1 a o) ((enOf bs Γ).set k0 (some (rA a)))) (Γ.set k0 none) s G B σ H ∧
    (∀ t s1 G1 B1 σ1 H1, Same G G1 → Sta (ZH Z (hd1 a o) ((enOf bs Γ).set k0 (some (rA a)))) (Γ1 t) s1 G1 B1 σ1 H1 → Sta Z (Γ' (g t)) s1 G1 B1 σ1 H1) ∧
    (∀ s1 G1 B1 σ1 H1, Same G G1 → Sta (ZH Z (hd1 a o) ((enOf bs Γ).set k0 (some (rA a)))) [] s1 G1 B1 σ1 H1 → Sta Z ((exOf (enOf bs Γ)).set k0 (some (.lv L))) s1 G1 B1 σ1 H1) := by
  have e0 : ∀ σ1 G1, SlotsE Z.E σ1 G1 := fun σ1 G1 => by
    rw [hE]
    exact ⟨Nat.zero_le _, fun k A e => by simp at e⟩
  have h0 : ∀ H1, Same Z.hd H1 := fun H1 a o e => by
    rw [hh a] at e
    cases e
  obtain ⟨a, o, h1, h2, h3, h4, h5, h6, h7⟩ := st.sl.lv k0 L hk
  have hlt : k0 < (enOf bs Γ).length := by
    rw [enOf_len]
    exact (List.getElem?_eq_some_iff.mp hk).1
  have hE1 : ((enOf bs Γ).set k0 (some (rA a)))[k0]? = some (some (rA a)) := by rw [List.getElem?_set, if_pos rfl, if_pos hlt]
  have back : ∀ {Γ2 : Ctx} {s1 : Z.S} {G1 B1 : Hp} {σ1 : L2.St} {H1 : Hp}, Same G G1 → Sta (ZH Z (hd1 a o) ((enOf bs Γ).set k0 (some (rA a)))) Γ2 s1 G1 B1 σ1 H1 → (Γ2.set k0 (some (.lv L))).length ≤ σ1.length → Sta Z (Γ2.set k0 (some (.lv L))) s1 G1 B1 σ1 H1 := fun {Γ2 s1 G1 B1 σ1 H1} g1 st1 hlen => by
    obtain ⟨v, hv, ev⟩ := st1.sle.2 k0 _ hE1
    have ev : v = .ref a := ev
    subst ev
    obtain ⟨o1, o2, o3⟩ := st1.off a o hd1_same
    refine ⟨st1.ok, st1.res, ⟨hlen, fun k A e => ?_, fun k L' e => ?_, fun k j L1 L2 b e1 e2 q1 q2 => ?_⟩, e0 _ _, h0 _, fun b u e => by rw [hh b] at e; cases e⟩
    · rcases setN e with ⟨_, e⟩ | ⟨_, e⟩
      · cases e
      · exact st1.sl.fz k A e
    · rcases setN e with ⟨c, e9⟩ | ⟨_, e⟩
      · injection e9 with e9
        injection e9 with e9
        subst c
        subst e9
        exact ⟨a, o, hv, st1.held a o hd1_same, L.mono g1 h3, o1, o2, o3, hh a⟩
      · obtain ⟨b, u, z1, z2, z3, z4, z5, z6, z7⟩ := st1.sl.lv k L' e
        exact ⟨b, u, z1, z2, z3, z4, z5, z6, hh b⟩
    · have far : ∀ (j : Nat) (L3 : MP HO), Γ2[j]? = some (some (.lv L3)) → σ1[j]? ≠ some (some (.ref a)) := fun j L3 e q => by
        obtain ⟨b, u, z1, z2, z3, z4, z5, z6, z7⟩ := st1.sl.lv j L3 e
        rw [q] at z1
        injection z1 with z1
        injection z1 with z1
        injection z1 with z1
        have z7 : hd1 a o b = none := z7
        rw [← z1, hd1_same] at z7
        cases z7
      rcases setN e1 with ⟨c1, e1⟩ | ⟨c1, e1⟩
      · rcases setN e2 with ⟨c2, e2⟩ | ⟨c2, e2⟩
        · rw [c1, c2]
        · rw [c1, hv] at q1
          injection q1 with q1
          injection q1 with q1
          injection q1 with q1
          rw [← q1] at q2
          exact (far j _ e2 q2).elim
      · rcases setN e2 with ⟨c2, e2⟩ | ⟨c2, e2⟩
        · rw [c2, hv] at q2
          injection q2 with q2
          injection q2 with q2
          injection q2 with q2
          rw [← q2] at q1
          exact (far k _ e1 q1).elim
        · exact st1.sl.ne k j L1 L2 b e1 e2 q1 q2
  refine ⟨a, o, ⟨st.ok, st.res, ⟨by rw [List.length_set]; exact st.sl.len, fun k A e => ?_, fun k L' e => ?_, fun k j L1 L2 b e1 e2 => ?_⟩, ⟨by rw [List.length_set, enOf_len]; exact st.sl.len, fun k A e => ?_⟩, ?_, ?_⟩, fun t s1 G1 B1 σ1 H1 g1 st1 => (back g1 st1 (by rw [List.length_set]; exact st1.sl.len)).weak (hl t), fun s1 G1 B1 σ1 H1 g1 st1 => ?_⟩
  · rcases setN e with ⟨_, e⟩ | ⟨_, e⟩
    · cases e
    · exact st.sl.fz k A e
  · rcases setN e with ⟨_, e⟩ | ⟨c, e⟩
    · cases e
    · obtain ⟨b, u, z1, z2, z3, z4, z5, z6, z7⟩ := st.sl.lv k L' e
      refine ⟨b, u, z1, z2, z3, z4, z5, z6, hd1_ne fun q => c ?_⟩
      rw [q] at z1
      exact st.sl.ne k k0 L' L a e hk z1 h1
  · rcases setN e1 with ⟨_, e1⟩ | ⟨_, e1⟩
    · cases e1
    · rcases setN e2 with ⟨_, e2⟩ | ⟨_, e2⟩
      · cases e2
      · exact st.sl.ne k j L1 L2 b e1 e2
  · rcases setN e with ⟨c, e9⟩ | ⟨_, e⟩
    · injection e9 with e9
      subst c
      subst e9
      exact ⟨.ref a, h1, rfl⟩
    · exact st.sl.fz k A (enOf_at bs Γ k A e)
  · intro b u e
    obtain ⟨rfl, rfl⟩ := hd1_of e
    exact h2
  · intro b u e
    obtain ⟨rfl, rfl⟩ := hd1_of e
    exact ⟨h4, h5, h6⟩
  · have st2 : Sta (ZH Z (hd1 a o) ((enOf bs Γ).set k0 (some (rA a)))) (exOf (enOf bs Γ) |>.set k0 none) s1 G1 B1 σ1 H1 := by
      refine ⟨st1.ok, st1.res, ⟨by unfold exOf; rw [List.length_set, List.length_map]; have z := st1.sle.1; rw [List.length_set] at z; exact z, fun k A e => ?_, fun k L' e => ?_, fun k j L1 L2 b e1 => ?_⟩, st1.sle, st1.held, st1.off⟩
      · rcases setN e with ⟨_, e⟩ | ⟨c, e⟩
        · cases e
        · exact st1.sle.2 k A (by rw [List.getElem?_set, if_neg (Ne.symm c)]; exact exOf_fz e)
      · rcases setN e with ⟨_, e⟩ | ⟨c, e⟩
        · cases e
        · exact (exOf_lv e).elim
      · rcases setN e1 with ⟨_, e1⟩ | ⟨c, e1⟩
        · cases e1
        · exact (exOf_lv e1).elim
    have st3 := back g1 st2 (by rw [List.length_set]; exact st2.sl.len)
    rw [List.set_set] at st3
    exact st3
end
/-! ### a field of the caught one -/
def getS {S : Type} (fs : List (Str × Dt)) (n : Str) : M S Str := match fs.lookup n with
  | some (.str x) => ret x
  | _ => stk
def getI {S : Type} (fs : List (Str × Dt)) (n : Str) : M S Int := match fs.lookup n with
  | some (.int x) => ret x
  | _ => stk
theorem lookup_xd {vs : List (Str × V)} {fs : List (Str × Dt)} (h : Paired (fun v f => v.1 = f.1 ∧ dtV f.2 v.2) vs fs) {n : Str} {d : Dt} (e : fs.lookup n = some d) : ∃ v, vs.lookup n = some v ∧ dtV d v := by
  induction h with
  | nil => cases e
  | @cons v f vs fs h1 h2 ih =>
    obtain ⟨v1, v2⟩ := v
    obtain ⟨f1, f2⟩ := f
    obtain ⟨z1, z2⟩ := h1
    have z1 : v1 = f1 := z1
    subst z1
    rw [List.lookup_cons] at e ⊢
    cases c : (n == v1) with
    | true =>
      rw [c] at e
      injection e with e
      subst e
      exact ⟨v2, rfl, z2⟩
    | false =>
      rw [c] at e
      exact ih e
section
variable {Z : Zc} {Γ : Ctx} {pos p2 : Pos} {oe : Obj} {pn : List (Addr × Obj)} {a C : Addr} {d : Option Addr} {fs : List (Str × Dt)} {i : Nat} {n f : Str}
theorem je_xfS (hz : L2.Zc (.ref C) d oe) (hf : ∃ vs, oe.data = .fields vs) (T : XfC Z.X.K C) (hno : PySem.W.findIn Z.X.K (.ref C) f = some none) (hk : Γ[i]? = some (some (.fz (rX a d fs)))) (hp : PE (ZSu Z a oe pn).X (.Name n p2) (tVar i)) :
    JE (ZSu Z a oe pn) Γ (.Attribute (.Name n p2) f pos) (getS fs f) (.fz rS) := by
  refine ⟨PE.imp (pe_xf T hno hz hf hp) fun σ H Q ⟨s, G, B, st, q⟩ => ?_⟩
  obtain ⟨v, h1, rfl, h2⟩ := st.sl.fz i _ hk
  have q : PostE (ZSu Z a oe pn) Γ _ σ Q G (getS fs f s) := q
  cases e : fs.lookup f with
  | none =>
    unfold getS at q
    rw [e] at q
    exact q.elim
  | some y =>
    unfold getS at q
    rw [e] at q
    cases y with
    | str x =>
     rcases h2 with ⟨e0, _⟩ | ⟨dd, vs, ed, hd, hv⟩
     · rw [e0] at e
       cases e
     · obtain ⟨w, hw, ew⟩ := lookup_xd hv e
       have ew : w = .str x := ew
       subst ew
       exact ⟨_, h1, rfl, rfl, dd, vs, _, ed, st.ok.gh _ _ hd, hw, q _ H G B (Same.refl _) st rfl⟩
    | _ => exact q.elim
theorem je_xfI (hz : L2.Zc (.ref C) d oe) (hf : ∃ vs, oe.data = .fields vs) (T : XfC Z.X.K C) (hno : PySem.W.findIn Z.X.K (.ref C) f = some none) (hk : Γ[i]? = some (some (.fz (rX a d fs)))) (hp : PE (ZSu Z a oe pn).X (.Name n p2) (tVar i)) :
    JE (ZSu Z a oe pn) Γ (.Attribute (.Name n p2) f pos) (getI fs f) (.fz rI) := by
  refine ⟨PE.imp (pe_xf T hno hz hf hp) fun σ H Q ⟨s, G, B, st, q⟩ => ?_⟩
  obtain ⟨v, h1, rfl, h2⟩ := st.sl.fz i _ hk
  have q : PostE (ZSu Z a oe pn) Γ _ σ Q G (getI fs f s) := q
  cases e : fs.lookup f with
  | none =>
    unfold getI at q
    rw [e] at q
    exact q.elim
  | some y =>
    unfold getI at q
    rw [e] at q
    cases y with
    | int x =>
     rcases h2 with ⟨e0, _⟩ | ⟨dd, vs, ed, hd, hv⟩
     · rw [e0] at e
       cases e
     · obtain ⟨w, hw, ew⟩ := lookup_xd hv e
       have ew : w = .int x := ew
       subst ew
       exact ⟨_, h1, rfl, rfl, dd, vs, _, ed, st.ok.gh _ _ hd, hw, q _ H G B (Same.refl _) st rfl⟩
    | _ => exact q.elim
end
end DL
set_option Elab.async false
set_option linter.all false
set_option maxRecDepth 100000
namespace DL
open PySem PySem.Spec PyProof.Rows L2
/-! ### more that the written part is asked for -/
def excB (K : PySem.W.Frag) (D : Addr) : Bool := xfB K D && (decide (PySem.W.findIn K (.ref D) "__class__" = some (some (.builtin "object.__class__"))) && (decide (PySem.W.specialIn K (.builtin "object.__class__") "__get__" = some (some (.builtin "getset_descriptor.__get__"))) && (decide (PySem.W.takesIn K (.builtin "object.__class__") = some true) && decide (PySem.W.mroIn K D (.type "object") = some true))))
theorem excB_ok {K : PySem.W.Frag} {D : Addr} (h : excB K D = true) : ExcC K D := by
  obtain ⟨h1, h⟩ := Bool.and_eq_true_iff.mp h
  obtain ⟨h2, h⟩ := Bool.and_eq_true_iff.mp h
  obtain ⟨h3, h⟩ := Bool.and_eq_true_iff.mp h
  obtain ⟨h4, h5⟩ := Bool.and_eq_true_iff.mp h
  obtain ⟨a, b, c, d⟩ := xfB_ok h1
  exact ⟨a, b, c, d, of_decide_eq_true h2, of_decide_eq_true h3, of_decide_eq_true h4, of_decide_eq_true h5⟩
def idS (K : PySem.W.Frag) (C N : Addr) (mro : List Value) (sls : List (Option Value)) (del : Bool) : Bool := match mro, sls with
  | .ref C2 :: bm, [_, _, _, _, some (.builtin _), _] => C2 == C && (!del && (bm == [.type "object"] && (PySem.W.nsOkIn K N && (PySem.W.nsIn K N "__eq__" == some none && PySem.W.nsIn K N "__ne__" == some none))))
  | _, _ => false
def idB (K : PySem.W.Frag) (C : Addr) : Bool := match K.lookup C with
  | some ⟨.type "type", _, .cls kd, sls⟩ => idS K C kd.ns kd.mro sls.toList kd.hasDel
  | _ => false
theorem idB_ok {K : PySem.W.Frag} {C x : Addr} {h : Heap} {o : Obj} (X : K.In h) (q : idB K C = true) (hx : h.get? x = some o) (hc : o.cls = .ref C) : h.CmpInst x C [.type "object"] := by
  unfold idB at q
  split at q
  · rename_i dd kd sls ho
    unfold idS at q
    split at q
    · rename_i C2 bm k0 k1 k2 k3 nid k5 hm hs
      simp only [Bool.and_eq_true, beq_iff_eq, Bool.not_eq_true'] at q
      obtain ⟨rfl, hdel, rfl, hok, h1, h2⟩ := q
      obtain ⟨nm, bs, mro, ns, qn, hdc, sn, sub, ab, col, del⟩ := kd
      dsimp only at hm hdel hok h1 h2
      subst hm hdel
      have hsl : sls = #[k0, k1, k2, k3, some (.builtin nid), k5] := by
        obtain ⟨l⟩ := sls
        simp only at hs
        rw [hs]
      subst hsl
      exact ⟨o, nm, qn, ns, bs, hdc, sn, sub, ab, col, dd, k0, k1, k2, k3, k5, nid, _, hx, hc, X _ _ ho, .of_isNs (PySem.W.isNs_of_in X hok), PySem.W.nsMap_none_of_in X hok h1, PySem.W.nsMap_none_of_in X hok h2⟩
    · cases q
  · cases q
inductive Xa where
  | oex (x : Str)
  | veb (x : Str)
  | xf (x : Str)
  | idc (x : Str)
  | exq (x : Str)
  | isx (x y : Str) (b : Bool)
  | isb (x : Str) (n : String) (b : Bool)
  | isl (xs ts : List Str) (y : Str)
  | isbl (xs : List Str) (n : String) (b : Bool)
def Xa.ok (K : PySem.W.Frag) : Xa → Bool
  | .oex x => oexB K (He.ga K x)
  | .veb x => veB K (He.ga K x)
  | .xf x => xfB K (He.ga K x)
  | .idc x => idB K (He.ga K x)
  | .exq x => excB K (He.ga K x)
  | .isx x y b => decide (PySem.W.kitOne K (.ref (He.ga K x)) (.ref (He.ga K y)) = some b)
  | .isb x n b => decide (PySem.W.kitOne K (.ref (He.ga K x)) (.type n) = some b)
  | .isl xs ts y => xs.all fun x => decide (PySem.W.kitOne K (.ref (He.ga K x)) (.ref (He.ga K y)) = some (ts.contains x))
  | .isbl xs n b => xs.all fun x => decide (PySem.W.kitOne K (.ref (He.ga K x)) (.type n) = some b)
theorem isl_ok {K : PySem.W.Frag} {xs ts : List Str} {y : Str} (h : (Xa.isl xs ts y).ok K = true) : ∀ x ∈ xs, PySem.W.kitOne K (.ref (He.ga K x)) (.ref (He.ga K y)) = some (ts.contains x) := fun x hx => of_decide_eq_true (List.all_eq_true.mp h x hx)
theorem isbl_ok {K : PySem.W.Frag} {xs : List Str} {n : String} {b : Bool} (h : (Xa.isbl xs n b).ok K = true) : ∀ x ∈ xs, PySem.W.kitOne K (.ref (He.ga K x)) (.type n) = some b := fun x hx => of_decide_eq_true (List.all_eq_true.mp h x hx)
theorem fa_nil {P : Str → Prop} : ∀ c ∈ ([] : List Str), P c := fun c h => by cases h
theorem fa_cons {P : Str → Prop} {c : Str} {cs : List Str} (h : P c) (t : ∀ c ∈ cs, P c) : ∀ x ∈ c :: cs, P x := fun x hx => by
  rcases List.mem_cons.mp hx with rfl | hx
  · exact h
  · exact t x hx
abbrev AlX : Type := He.AlD × Bool
def obsX (fa : List He.Fa) (xa : List Xa) (fn : List He.DefD) (K : PySem.W.Frag) : AlX := (He.obsD fa fn K, xa.all fun f => f.ok K)
structure SaysX (fa : List He.Fa) (xa : List Xa) (fn : List He.DefD) (K : PySem.W.Frag) : Prop where
  d : He.SaysD fa fn K
  x : (xa.all fun f => f.ok K) = true
def asX (g : Addr → Option Obj) (n : Nat) : List Addr := cStatics :: He.asD g n
def obsXG (n : Nat) (fa : List He.Fa) (xa : List Xa) (fn : List He.DefD) (g : Addr → Option Obj) : AlX := obsX fa xa fn (He.frG g (asX g n))
def hookX (n : Nat) (fa : List He.Fa) (xa : List Xa) (fn : List He.DefD) : PySem.W.Hook where
  α := AlX
  obs := fun s => obsXG n fa xa fn s.heap.get?
  val := fun _ => (He.valD fn, true)
  says := fun _ h => ∃ K : PySem.W.Frag, K.In h ∧ SaysX fa xa fn K
  of := fun _ _ e => ⟨_, He.frG_in, congrArg (fun z : AlX => z.1) e, congrArg (fun z : AlX => z.2) e⟩
  keeps := fun _ _ _ ⟨K, hK, c⟩ k => ⟨K, PySem.W.Frag.In.keeps hK k, c⟩
theorem obsXG_eq {n : Nat} {fa : List He.Fa} {xa : List Xa} {fn : List He.DefD} {g : Addr → Option Obj} {s : Shared} (h : ∀ a, g a = s.heap.get? a) : obsXG n fa xa fn g = (hookX n fa xa fn).obs s := by
  have e : g = s.heap.get? := funext h
  rw [e] <;> rfl
section
variable {fa : List He.Fa} {xa : List Xa} {fn : List He.DefD} {K : PySem.W.Frag}
theorem SaysX.fact (c : SaysX fa xa fn K) (i : Nat) {f : He.Fa} (h : fa[i]? = some f := by rfl) : f.ok K = true := He.SaysD.fact c.d i h
theorem SaysX.def_ (c : SaysX fa xa fn K) (i : Nat) {d : He.DefD} (h : fn[i]? = some d := by rfl) : ∃ fd, FunD K d.name d.qual d.params d.body d.scope (d.dvs K) (d.kws K) (He.fAd K d.at_) fd := He.SaysD.def_ c.d i h
theorem SaysX.more (c : SaysX fa xa fn K) (i : Nat) {f : Xa} (h : xa[i]? = some f := by rfl) : f.ok K = true := List.all_eq_true.mp c.x f (List.mem_of_getElem? h)
end
/-! ### what an error carries -/
theorem xd1 {α : Type} {r : Rp α} (f : Str) (d : α → Dt) (h : ∀ x v G, (r x).p v G → dtV (d x) v) : ∀ (y : α × Unit) (vs : List V) (G : Hp), raC r raN y vs G → vs.length = [f].length ∧ Paired (fun v f => v.1 = f.1 ∧ dtV f.2 v.2) (([f].zip vs).reverse) [(f, d y.1)] := fun y vs G hy => by
  obtain ⟨v, rfl, hv⟩ := ra1 hy
  exact ⟨rfl, .cons ⟨rfl, h _ _ _ hv⟩ .nil⟩
theorem xd2 {α β : Type} {r1 : Rp α} {r2 : Rp β} (f1 f2 : Str) (d1 : α → Dt) (d2 : β → Dt) (h1 : ∀ x v G, (r1 x).p v G → dtV (d1 x) v) (h2 : ∀ x v G, (r2 x).p v G → dtV (d2 x) v) : ∀ (y : α × β × Unit) (vs : List V) (G : Hp), raC r1 (raC r2 raN) y vs G → vs.length = [f1, f2].length ∧ Paired (fun v f => v.1 = f.1 ∧ dtV f.2 v.2) (([f1, f2].zip vs).reverse) [(f2, d2 y.2.1), (f1, d1 y.1)] := fun y vs G hy => by
  obtain ⟨v, w, rfl, hv, hw⟩ := ra2 hy
  exact ⟨rfl, .cons ⟨rfl, h2 _ _ _ hw⟩ (.cons ⟨rfl, h1 _ _ _ hv⟩ .nil)⟩
theorem dt_s : ∀ (x : Str) (v : V) (G : Hp), (rS x).p v G → dtV (.str x) v := fun _ _ _ h => h
theorem dt_i : ∀ (x : Int) (v : V) (G : Hp), (rI x).p v G → dtV (.int x) v := fun _ _ _ h => h
/-! ### which classes go to a clause -/
theorem cl_nil {P : Str → Bool → Prop} : ∀ c b, ([] : List (Str × Bool)).lookup c = some b → P c b := fun c b h => by cases h
theorem cl_cons {P : Str → Bool → Prop} {c0 : Str} {b0 : Bool} {cs : List (Str × Bool)} (h0 : P c0 b0) (h : ∀ c b, cs.lookup c = some b → P c b) : ∀ c b, ((c0, b0) :: cs).lookup c = some b → P c b := fun c b e => by
  rw [List.lookup_cons] at e
  cases q : (c == c0) with
  | true =>
    rw [q] at e
    injection e with e
    rw [eq_of_beq q, ← e]
    exact h0
  | false =>
    rw [q] at e
    exact h c b e
/-- of the class of what is caught -/
theorem cl_of {mg : Str → Option Value} {Pr : Addr → Prop} {c : Str} {C0 : Addr} (h1 : mg c = some (.ref C0)) (h : Pr C0) : ∀ C, mg c = some (.ref C) → Pr C := fun C e => by
  rw [h1] at e
  cases e
  exact h
/-! ### isinstance -/
theorem ty_int {K : PySem.W.Frag} : ∀ (x : Int) (v : V) (G H : Hp), Same G H → (rI x).p v G → TyX K H v (.type "int") := fun x v G H g h => by
  have h : v = .int x := h
  subst h
  exact .base (.int x)
theorem ty_bool {K : PySem.W.Frag} : ∀ (x : Bool) (v : V) (G H : Hp), Same G H → (rB x).p v G → TyX K H v (.type "bool") := fun x v G H g h => by
  have h : v = .bl x := h
  subst h
  exact .base (.bl x)
theorem ty_str {K : PySem.W.Frag} : ∀ (x : Str) (v : V) (G H : Hp), Same G H → (rS x).p v G → TyX K H v (.type "str") := fun x v G H g h => by
  have h : v = .str x := h
  subst h
  exact .base (.str x)
theorem ty_list {K : PySem.W.Frag} {α : Type} {r : Rp α} : ∀ (x : List α) (v : V) (G H : Hp), Same G H → (rL r x).p v G → TyX K H v (.type "list") := fun x v G H g h => by
  obtain ⟨a, ws, rfl, ha, _⟩ := h
  exact .base (.lst (g _ _ ha))
theorem ty_dict {K : PySem.W.Frag} {κ α : Type} {k : KeyT κ} {r : Rp α} : ∀ (x : List (κ × α)) (v : V) (G H : Hp), Same G H → (rD k r x).p v G → TyX K H v (.type "dict") := fun x v G H g h => by
  obtain ⟨a, od, vs, rfl, ha, _⟩ := h
  exact .fDict (g _ _ ha)
theorem ty_sqt {K : PySem.W.Frag} {G H : Hp} {a : Addr} {us : List V} (g : Same G H) (h : SqT K G a us) : TyX K H (.ref a) (.type "tuple") := by
  rcases h with h | ⟨o, its, n, h1, h2, _⟩
  · rcases h with h | ⟨o, h⟩
    · exact .base (.tup (g _ _ h))
    · exact .fTuple (g _ _ h)
  · exact .kTuple h1 h2
theorem ty_t2 {K : PySem.W.Frag} {α β : Type} {r1 : Rp α} {r2 : Rp β} : ∀ (x : α × β) (v : V) (G H : Hp), Same G H → (rT2 K r1 r2 x).p v G → TyX K H v (.type "tuple") := fun x v G H g h => by
  obtain ⟨a, u1, u2, rfl, ha, _⟩ := h
  exact ty_sqt g ha
theorem ty_t3 {K : PySem.W.Frag} {α β γ : Type} {r1 : Rp α} {r2 : Rp β} {r3 : Rp γ} : ∀ (x : α × β × γ) (v : V) (G H : Hp), Same G H → (rT3 K r1 r2 r3 x).p v G → TyX K H v (.type "tuple") := fun x v G H g h => by
  obtain ⟨a, u1, u2, u3, rfl, ha, _⟩ := h
  exact ty_sqt g ha
section
variable {Z : Zc} {Γ : Ctx} {α β : Type} {e a b : Expr} {pos p p2 : Pos}
def rTy (n : String) : Rp Unit := fun _ => ⟨fun v _ => v = .ty n, fun _ h => h⟩
theorem je_tyN {x : Str} (n : String) (hg : Gl Z.X x) (hm : Z.X.mg x = none) (hv : bootBuiltins x = some (.type n)) (hn : x ≠ "__name__" := by decide) (hd : (x == ("__debug__" : Str)) = false := by decide) : JE Z Γ (.Name x pos) (ret ()) (.fz (rTy n)) :=
  JE.of_ret (pe_bltn (v := .ty n) hg hm hv rfl hn hd) fun s G B σ H Q st q => q _ H G B (Same.refl _) st rfl
theorem je_isi {r : Rp α} {m : M Z.S α} {x : Str} (t n : String) (bb : Bool) (hg : Gl Z.X "isinstance") (hm : Z.X.mg "isinstance" = none) (h : JE Z Γ e m (.fz r)) (ty : ∀ (x : α) (v : V) (G H : Hp), Same G H → (r x).p v G → TyX Z.X.K H v (.type t)) (hc : JE Z Γ (.Name x p2) (ret ()) (.fz (rTy n))) (hk : kitB t n = some bb := by decide +kernel) (he : starEach [e, .Name x p2] Z.X.env = (false, eval e Z.X.env) :: starEach [.Name x p2] Z.X.env := by exact star_of rfl) :
    JE Z Γ (.Call (.Name "isinstance" p) [e, .Name x p2] [] pos) (bnd m fun _ => ret bb) (.fz rB) :=
  je_cb (fun _ : α × Unit × Unit => ret bb) (.fz rB) call_isi hg hm (by decide +kernel) (ja_cons h (ja_cons hc ja_nil) he) (fun y vs s G B σ H Q st hx q => by
    obtain ⟨v, w, rfl, hv, hw⟩ := ra2 hx
    have hw : w = .ty n := hw
    subst hw
    exact ⟨v, .ty n, .type t, .type n, bb, rfl, .ty n, ty _ _ G H st.ok.gh hv, kit_ty hk, fin q st rfl⟩) (he := he)
/-! ### {k: v}, both of them known -/
theorem je_dict1 {κ : Type} {kt : KeyT κ} {r : Rp α} {key : κ} {y : α} {v : V} (hk : PE Z.X a (tC (kV (kt.f key)))) (hv : PE Z.X b (tC v)) (hr : ∀ G, (r y).p v G) : JE Z Γ (.Dict [some a] [b] pos) (ret [(key, y)]) (.own (cD kt r)) :=
  JE.of_ret (pe_disp (pps_cons hk hv pps_nil) rfl rfl (fun z => by cases z) (Nat.le_of_ble_eq_true rfl)) fun s G B σ H Q st q => fun p np => by
    refine ⟨upd_same, [(kt.f key, v)], rfl, Nat.le_of_ble_eq_true rfl, ?_⟩
    have e : upd (upd H p (.dK [])) p (.dK (mergeK [] [(kt.f key, v)])) = upd H p (.dK [(kt.f key, v)]) := by
      funext b
      by_cases hb : b = p
      · rw [hb, upd_same, upd_same]
        rfl
      · rw [upd_ne hb, upd_ne hb, upd_ne hb]
    rw [e]
    exact q _ _ G B (Same.refl _) (st.laid np) (st.own np ⟨[(kt.f key, v)], rfl, .cons ⟨rfl, hr G⟩ .nil⟩)
end
end DL
namespace DL
open PySem PySem.Spec PyProof.Rows L2
theorem nn_rai {S T U ρ : Type} {m : M S Empty} : NoNx (raiM m : M S (Fl T U ρ)) := fun s => by
  show ((m s).bnd fun e => nomatch e : Out S (Fl T U ρ)).noNx
  induction m s with
  | ok x s1 => exact nomatch x
  | err x s1 => exact True.intro
  | stuck => exact True.intro
  | all av o9 ih9 => exact fun a => ih9 a
theorem pe_globS {X : Cx} {n x : Str} {pos : Pos} (hg : Gl X n) (hm : ∃ t, X.mg n = some (.str x t)) (hd : (n == ("__debug__" : Str)) = false := by decide) : PE X (.Name n pos) (tC (.str x)) := by
  obtain ⟨t, hm⟩ := hm
  exact pe_glob (v := .str x) hg hm ⟨t, rfl⟩ hd
end DL
namespace DL
open PySem PySem.Spec PyProof.Rows L2
theorem cl_use {mg : Str → Option Value} {Pr : Addr → Prop} {cs : List (Str × Bool)} {c : Str} {C : Addr} (h : ∀ c b, cs.lookup c = some b → b = true → ∀ C, mg c = some (.ref C) → Pr C) (hl : cs.lookup c = some true) (hC : mg c = some (.ref C)) : Pr C := h c true hl rfl C hC
/-! ### len(d), xs * n -/
theorem call_lenRd {X : Cx} : CallR X (.builtin "len") (fun xs H Q => ∃ a kvs, xs = [V.ref a] ∧ Rd H a (.dK kvs) ∧ Q (.int kvs.length) H) := by
  intro pins s σ H xs us Q I r h
  obtain ⟨a, kvs, rfl, ha, q⟩ := h
  obtain ⟨u, rfl, ru⟩ := vals1 r
  cases ru
  exact d_len I ha fun t s' I' => ⟨.int kvs.length, H, I', ⟨t, rfl⟩, q⟩
theorem AllD.len {κ α : Type} {k : KeyT κ} {r : Rp α} {G : Hp} {vs : List (Key × V)} {xs : List (κ × α)} (h : AllD k r G vs xs) : vs.length = xs.length := Paired.length h
theorem allP_rep {α : Type} {r : Rp α} {G : Hp} {vs : List V} {xs : List α} (h : AllP r G vs xs) : ∀ n : Nat, AllP r G (List.replicate n vs).flatten (List.replicate n xs).flatten
  | 0 => .nil
  | n + 1 => by
    rw [List.replicate_succ, List.replicate_succ, List.flatten_cons, List.flatten_cons]
    exact AllP.append h (allP_rep h n)
section
variable {Z : Zc} {Γ : Ctx} {α β : Type} {e a b : Expr} {pos p p2 : Pos}
theorem je_lenD {κ : Type} {kt : KeyT κ} {r : Rp α} {m : M Z.S (List (κ × α))} (hg : Gl Z.X "len") (hm : Z.X.mg "len" = none) (h : JE Z Γ e m (.fz (rD kt r))) (he : starEach [e] Z.X.env = (false, eval e Z.X.env) :: starEach [] Z.X.env := by exact star_of rfl) : JE Z Γ (.Call (.Name "len" p) [e] [] pos) (bnd m fun xs => ret (xs.length : Int)) (.fz rI) :=
  je_cb (fun x : List (κ × α) × Unit => ret (x.1.length : Int)) (.fz rI) call_lenRd hg hm boot_len (ja_cons h ja_nil he) (fun x vs s G B σ H Q st hx q => by
    obtain ⟨v, rfl, a, od, ws, rfl, ha, hw⟩ := ra1 hx
    exact ⟨a, ws, rfl, .inr ⟨od, st.ok.gh _ _ ha⟩, fin q st (by rw [AllD.len hw]; rfl)⟩) (he := he)
def lrepM {S : Type} (xs : List α) (k : Int) : M S (List α) := bnd (grd (decide (-(2 ^ 63) ≤ k) && decide (k < 2 ^ 63) && decide (xs.length * k.toNat ≤ sizeLine))) fun _ => ret (List.replicate k.toNat xs).flatten
theorem je_rep {r : Rp α} {ma : M Z.S (List α)} {mb : M Z.S Int} (ha : JE Z Γ a ma (.fz (rL r))) (hb : JE Z Γ b mb (.fz rI)) : JE Z Γ (.BinOp a .Mult b pos) (bnd ma fun x => bnd mb fun y => lrepM x y) (.own (cL r)) :=
  je_two (fun x y => lrepM x y) (.own (cL r)) (fun _ _ p q => pe_op op_rep p q) ha hb fun x y v w s G B σ H Q st ⟨p, vs, ev, hp, hvs⟩ hw q => by
    obtain ⟨c, q⟩ := grd_of q
    simp only [Bool.and_eq_true, decide_eq_true_eq] at c
    obtain ⟨⟨c1, c2⟩, c3⟩ := c
    refine ⟨p, y, vs, ev, hw, st.ok.gh _ _ hp, c1, c2, by rw [hvs.length]; exact c3, fun p2 np => ?_⟩
    exact q _ _ G B (Same.refl _) (st.laid np) (st.own np ⟨_, rfl, allP_rep hvs _⟩)
end
end DL
set_option Elab.async false
set_option linter.all false
set_option maxRecDepth 100000
/-! isinstance of an error that has fields -/
namespace DL
open PySem PySem.Spec PyProof.Rows L2
section
variable {Z : Zc} {Γ : Ctx} {pos p p2 p3 : Pos} {oe : Obj} {pn : List (Addr × Obj)} {a C : Addr} {d : Option Addr} {fs : List (Str × Dt)} {i : Nat} {n x : Str}
theorem call_isC {X : Cx} (T : ExcC X.K C) (hz : L2.Zc (.ref C) d oe) (hf : ∃ vs, oe.data = .fields vs) : CallR (X.suite a ((a, oe) :: pn)) (.builtin "isinstance") (fun xs H Q => ∃ (c : V) (cv : Value) (b : Bool), xs = [.ref a, c] ∧ (∀ u, RelV c u → u = cv) ∧ PySem.W.kitOne X.K (.ref C) cv = some b ∧ (d = none ∨ ∃ dd vs, d = some dd ∧ H dd = some (.xd vs)) ∧ Q (.bl b) H) := by
  intro pins s σ H xs us Q I r h
  obtain ⟨c, cv, b, rfl, hcv, e, hd, q⟩ := h
  obtain ⟨u1, u2, rfl, r1, r2⟩ := vals2 r
  obtain rfl : u1 = Value.ref a := r1
  have ec := hcv _ r2
  subst ec
  obtain ⟨hget, _⟩ := I.pin (a, oe) (List.mem_append.mpr (.inl List.mem_cons_self))
  obtain ⟨vs, hv⟩ := hf
  have J : ∃ dob, PySem.W.InstAt s.heap a oe C dob := by
    rcases hd with hd | ⟨dd, ws, hd, hx⟩
    · refine ⟨none, hget, hz.1, by unfold PySem.W.notCls; rw [hv] <;> rfl, ?_⟩
      rw [hz.2, hd]
      exact True.intro
    · obtain ⟨mA, hns, _⟩ := (show ObjOk X.prog X.w H s.heap dd (.xd ws) from I.hok dd _ hx)
      obtain ⟨od, ho, _⟩ := lookIn_ns hns
      refine ⟨some od, hget, hz.1, by unfold PySem.W.notCls; rw [hv] <;> rfl, ?_⟩
      rw [hz.2, hd]
      exact ho
  obtain ⟨dob, J⟩ := J
  exact PySem.W.kia_one (PySem.W.kitx_exc (by obtain ⟨kd, e, _⟩ := PySem.W.any_some T.hd; rw [e]; rfl) T.hg T.hk T.hs T.ha T.hn T.ht T.hm) I.kIn J e (fun z => nomatch z) fun tk => ⟨.bl b, H, I.tok tk, rfl, q⟩
/-- an own class by its name -/
def rCl (D : Addr) : Rp Unit := fun _ => ⟨fun v _ => v = .ref D, fun _ h => h⟩
theorem je_clsN {D : Addr} (hg : Gl Z.X x) (hm : Z.X.mg x = some (.ref D)) (hd : (x == ("__debug__" : Str)) = false := by decide) : JE Z Γ (.Name x pos) (ret ()) (.fz (rCl D)) :=
  JE.of_ret (pe_glob (v := .ref D) hg hm rfl hd) fun s G B σ H Q st q => q _ H G B (Same.refl _) st rfl
theorem je_isE {D : Addr} (bb : Bool) (hz : L2.Zc (.ref C) d oe) (hf : ∃ vs, oe.data = .fields vs) (T : ExcC Z.X.K C) (hg : Gl (ZSu Z a oe pn).X "isinstance") (hm : Z.X.mg "isinstance" = none) (hk : Γ[i]? = some (some (.fz (rX a d fs)))) (hp : PE (ZSu Z a oe pn).X (.Name n p2) (tVar i)) (hgx : Gl (ZSu Z a oe pn).X x) (hx : Z.X.mg x = some (.ref D)) (kb : PySem.W.kitOne Z.X.K (.ref C) (.ref D) = some bb) (hdx : (x == ("__debug__" : Str)) = false := by decide) (he : starEach [.Name n p2, .Name x p3] (ZSu Z a oe pn).X.env = (false, eval (.Name n p2) (ZSu Z a oe pn).X.env) :: starEach [.Name x p3] (ZSu Z a oe pn).X.env := by exact star_of rfl) :
    JE (ZSu Z a oe pn) Γ (.Call (.Name "isinstance" p) [.Name n p2, .Name x p3] [] pos) (ret bb) (.fz rB) := by
  have hv : JE (ZSu Z a oe pn) Γ (.Name n p2) (ret ()) (.fz fun _ => rX a d fs) := je_var (r := fun _ : Unit => rX a d fs) (x := ()) i hk hp
  refine je_cb (fun _ : Unit × Unit × Unit => ret bb) (.fz rB) (id := "isinstance") (call_isC T hz hf) hg hm (by decide +kernel) (ja_cons hv (ja_cons (je_clsN (D := D) hgx hx hdx) ja_nil) he) (fun y vs s G B σ H Q st hx2 q => ?_) (he := he)
  obtain ⟨v, w, rfl, hv, hw⟩ := ra2 hx2
  have hw : w = .ref D := hw
  obtain ⟨rfl, h2⟩ := (show v = .ref a ∧ _ from hv)
  subst hw
  refine ⟨.ref D, .ref D, bb, rfl, fun u hu => hu, kb, ?_, fin q st rfl⟩
  rcases h2 with ⟨_, e⟩ | ⟨dd, vs, e1, e2, _⟩
  · exact .inl e
  · exact .inr ⟨dd, vs, e1, st.ok.gh _ _ e2⟩
end
end DL
set_option Elab.async false
set_option linter.all false
set_option maxRecDepth 100000
/-! instances that are told apart: a value carries its address -/
namespace DL
open PySem PySem.Spec PyProof.Rows L2
structure AvIn (S : Type) where
  get : S → List Addr
  set : S → List Addr → S
/-- the addresses of the list stand still; one that stands still may be added -/
structure AvR {S : Type} (b : AvIn S) (R : S → MP Hp) : Prop where
  has : ∀ {s : S} {B G : Hp}, (R s).p B G → ∀ a ∈ b.get s, ∃ o, G a = some o
  put : ∀ {s : S} {B G : Hp} {a : Addr} {o : HO}, (R s).p B G → G a = some o → (R (b.set s (a :: b.get s))).p B G
structure AvC (S : Type) (R : S → MP Hp) : Type where
  b : AvIn S
  ok : AvR b R
def chooseM {S : Type} (b : AvIn S) : M S Addr := fun s => .all (b.get s) fun a => .ok a s
def regM {S : Type} (b : AvIn S) (a : Addr) : M S Unit := fun s => .ok () (b.set s (a :: b.get s))
/-- an instance is made; its address is one that was not there -/
def mkA {S β : Type} (b : AvIn S) (m : M S β) : M S (Addr × β) := bnd (chooseM b) fun a => bnd m fun d => bnd (regM b a) fun _ => ret (a, d)
def rObjA {α : Type} (C : Addr) (fs : α → List (Str × MP V)) : Rp (Addr × α) := fun x => rObjAt x.1 C fs x.2
section
variable {Z : Zc} {Γ : Ctx} {α β : Type} {e : Expr} {es : List Expr} {pos p : Pos}
theorem mk_postA {Cap : CapT} {C : Addr} {ra : (S : Type) → (R : S → MP Hp) → Cap S R → α → List V → Hp → Prop} {fs : β → List (Str × MP V)} {f : (S : Type) → (R : S → MP Hp) → Cap S R → α → M S β} (cp : Cap Z.S Z.R) (av : AvC Z.S Z.R) {x : α} {ws : List V} {s : Z.S} {G B : Hp} {σ : L2.St} {H : Hp} {Q : VK} {a dx : Addr}
    (st : Sta Z Γ s G B σ H) (na : H a = none) (nd : H dx = none) (ne : dx ≠ a) (hra : ra Z.S Z.R cp x ws G) (q : PostE Z Γ (.fz (rObjA C fs)) σ Q G (mkA av.b (f Z.S Z.R cp x) s)) :
    spI Z.X.mg C ra fs f (.ref a :: ws) (upd (upd H dx (.own a)) a (.ins C dx [])) (fun v H2 => v = .non ∧ Q (.ref a) H2) (WE Z.W σ) := by
  have ga := Same.free st.ok.gh na
  have gd := Same.free st.ok.gh nd
  have ba := Same.free st.ok.bh na
  have bd := Same.free st.ok.bh nd
  have lss : Same H (rem (upd (upd H dx (.own a)) a (.ins C dx [])) a) := fun b o e => by
    have n1 := ne_of_none e na
    have n2 := ne_of_none e nd
    unfold rem
    rw [if_neg n1, upd_ne n1, upd_ne n2]
    exact e
  have hna : a ∉ av.b.get s := fun z => by
    obtain ⟨o, e⟩ := av.ok.has st.res a z
    rw [ga] at e
    cases e
  have q : PostE Z Γ (.fz (rObjA C fs)) σ Q G ((f Z.S Z.R cp x s).bnd fun d => bnd (regM av.b a) fun _ => ret (a, d)) := q a hna
  refine ⟨Z.S, Z.R, cp, s, G, B, x, a, dx, ws, rfl, upd_same, ga, ba, Same.upd_r (Same.upd_r st.ok.gh gd) ga, Same.upd_r (Same.upd_r st.ok.bh bd) ba, st.ok.dj, st.res, hra, ?_⟩
  revert q
  induction f Z.S Z.R cp x s with
  | ok y s1 =>
    intro q H' G' B' ok r h
    have h0 := h
    obtain ⟨h1, dx', vs, h2, h3⟩ := h
    have ok' := ok.less lss
    exact ⟨rfl, q _ H' G' B' ok'.g0 (st.call ok' (av.ok.put r h2)) h0⟩
  | err y s1 =>
    intro q cls d H' G' B' ok r h
    have ok' := ok.less lss
    exact q cls d σ H' G' B' ok'.g0 (st.call ok' r).nil h
  | stuck => exact fun q => q
  | all av o9 ih9 => exact fun q a9 h9 => ih9 a9 (q a9 h9)
/-- C(e, ..), with its address -/
theorem je_mkA {Cap : CapT} {C : Addr} {ra : (S : Type) → (R : S → MP Hp) → Cap S R → α → List V → Hp → Prop} {fs : β → List (Str × MP V)} {f : (S : Type) → (R : S → MP Hp) → Cap S R → α → M S β} {n : Str} {k j np : Nat} {gV : List V → List V → List V} {mk : (γ : Type) → (α → M Z.S γ) → M Z.S γ}
    (z : ZOk Z) (av : AvC Z.S Z.R) (MC : MkC Z.X.prog Z.X.w Z.X.K Z.X.mg Z.X.base n j C np [] gV (spI Z.X.mg C ra fs f)) (hr : Room k Z.X.A) (cp : Cap Z.S Z.R) (ha : JA Z Γ (e :: es) mk (ra Z.S Z.R cp)) (hgV : ∀ vs : List V, gV vs [] = vs := by intro _; first | rfl | exact List.append_nil _) (hnp : (e :: es).length = np := by rfl) (hg : Gl Z.X n := by rfl) (hj : j + 1 ≤ k := by decide)
    (hdb : (n == ("__debug__" : Str)) = false := by decide) (he : starEach (e :: es) Z.X.env = (false, eval e Z.X.env) :: starEach es Z.X.env := by exact star_of rfl) (hpl : (backTo pos (starEach es Z.X.env)).any (·.1) = false := by rfl) :
    JE Z Γ (.Call (.Name n p) (e :: es) [] pos) (mk _ fun x => mkA av.b (f Z.S Z.R cp x)) (.fz (rObjA C fs)) := by
  obtain ⟨fa, fd, ps, g, F1, hm, Mc, kb⟩ := MC.ex
  obtain ⟨t, ht, hq⟩ := ha.ex
  refine ⟨⟨fun pins s0 σ H Q I ⟨s, G, B, st, q⟩ => ?_⟩⟩
  refine wpAny_Call_Name_kw (ld_glob I hg hm ?_ hdb)
  refine PySem.W.callWith_K (h₀ := Z.X.base) I.ok.mod.kin Mc.kp (thn (ht.run pos pins s0 σ H (fun vs H1 => ∃ x s1 G1 B1, Sta Z Γ s1 G1 B1 σ H1 ∧ ra Z.S Z.R cp x vs G1 ∧ PostE Z Γ (.fz (rObjA C fs)) σ Q G1 (mkA av.b (f Z.S Z.R cp x) s1)) I
    (hq st q fun vs H1 x s1 G1 B1 g1 st1 hx q1 => ⟨x, s1, G1, B1, st1, hx, q1⟩)) fun us s1 ⟨vs, H1, I1, r, x, t1, G1, B1, st1, hx, q1⟩ => ⟨I1.kIn, ?_⟩) he hpl
  have hl : vs.length = np := by rw [ha.len hx, hnp]
  refine run_mk (gV := fun a => gV (a :: vs) []) (gU := fun a => g (a :: us) []) Mc F1 (hr.mono hj) (passAt z.tk σ) (fun s' a X => kb.to s' (.ref a :: us) [] X (by rw [List.length_cons, ← r.length, hl]) rfl) (fun a => kb.rel (.cons rfl r) .nil) I1 fun a dx na nd ne => ?_
  have e1 : gV (.ref a :: vs) [] = .ref a :: vs := hgV _
  rw [e1]
  exact mk_postA cp av st1 na nd ne hx q1
/-- .. without it -/
theorem je_unA {C : Addr} {fs : α → List (Str × MP V)} {m : M Z.S (Addr × α)} (h : JE Z Γ e m (.fz (rObjA C fs))) : JE Z Γ e (bnd m fun x => ret x.2) (.fz (rObj C fs)) :=
  ⟨PE.imp h.pe fun σ H Q ⟨s, G, B, st, q⟩ => by
    refine ⟨s, G, B, st, ?_⟩
    have q : PostE Z Γ (.fz (rObj C fs)) σ Q G ((m s).bnd fun x => ret x.2) := q
    revert q
    induction m s with
    | ok x s1 =>
      intro q v H' G' B' g st' hs
      obtain ⟨h1, dx, vs, h2, h3⟩ := hs
      exact q v H' G' B' g st' ⟨x.1, dx, vs, h1, h2, h3⟩
    | err x s1 => exact fun q => q
    | stuck => exact fun q => q
    | all av o9 ih9 => exact fun q a9 h9 => ih9 a9 (q a9 h9)⟩
end
/-- the law's own -/
def avI : AvIn Bag := ⟨fun b => b.av, fun b l => { b with av := l }⟩
def avC (ab al : Addr) : AvC Bag (bagR ab al) := ⟨avI, ⟨fun h => h.2, fun {s B G a o} h e => ⟨h.1, fun b hb => by
  rcases List.mem_cons.mp hb with rfl | hb
  · exact ⟨o, e⟩
  · exact h.2 b hb⟩⟩⟩
end DL
namespace DL
open PySem L2
/-- a bag, and addresses -/
structure BvC (S : Type) (R : S → MP Hp) : Type where
  bg : BagC S R
  av : AvC S R
abbrev BvC.b {S : Type} {R : S → MP Hp} (c : BvC S R) : BagIn S := c.bg.b
abbrev BvC.ab {S : Type} {R : S → MP Hp} (c : BvC S R) : Addr := c.bg.ab
abbrev BvC.al {S : Type} {R : S → MP Hp} (c : BvC S R) : Addr := c.bg.al
abbrev BvC.v {S : Type} {R : S → MP Hp} (c : BvC S R) : AvIn S := c.av.b
abbrev AvC.v {S : Type} {R : S → MP Hp} (c : AvC S R) : AvIn S := c.b
def bvC (ab al : Addr) (ne : al ≠ ab) : BvC Bag (bagR ab al) := ⟨bagC ab al ne, avC ab al⟩
end DL
set_option Elab.async false
set_option linter.all false
set_option maxRecDepth 100000
/-! == and != of instances: the very same or not -/
namespace DL
open PySem PySem.Spec PyProof.Rows L2
def rId (C : Addr) (ne : Bool) : R2 := fun x y H Q => ∃ a b dx dy fs gs, x = .ref a ∧ y = .ref b ∧ H a = some (.ins C dx fs) ∧ H b = some (.ins C dy gs) ∧ Q (.bl (ne != decide (a = b))) H
theorem ins_cmp {X : Cx} {pins : List (Addr × Obj)} {σ : L2.St} {H : Hp} {s : Shared} {C a dx : Addr} {fs : List (Str × V)} (I : Inv X pins σ H s) (q : idB X.K C = true) (e : H a = some (.ins C dx fs)) : s.heap.CmpInst a C [.type "object"] := by
  obtain ⟨_, _, _, h1, _⟩ := (show ObjOk X.prog X.w H s.heap a (.ins C dx fs) from I.hok a _ e)
  exact idB_ok I.kIn q h1 rfl
theorem op_eqId {X : Cx} {C : Addr} (q : idB X.K C = true) (hu : X.A.units + 1 < cLine) : OpR X (compareOp .Eq) (rId C false) := by
  intro pins s σ H x y v u Q I rx ry ⟨a, b, dx, dy, fs, gs, ex, ey, ha, hb, k⟩
  subst ex ey
  obtain rfl : v = Value.ref a := rx
  obtain rfl : u = Value.ref b := ry
  have Xa := ins_cmp I q ha
  have Xb := ins_cmp I q hb
  obtain ⟨hp, g, d, t, os⟩ := s
  by_cases c : a = b
  · subst c
    rw [decide_eq_true rfl] at k
    exact compareOp_eq_same F.cmp_object Xa (by omega) ⟨.bl true, H, I, rfl, k⟩
  · rw [decide_eq_false c] at k
    exact compareOp_eq_other F.cmp_object F.cmp_object Xa Xb c (by omega) ⟨.bl false, H, I, rfl, k⟩
theorem op_neId {X : Cx} {C : Addr} (q : idB X.K C = true) (hu : X.A.units + 1 < cLine) : OpR X (compareOp .NotEq) (rId C true) := by
  intro pins s σ H x y v u Q I rx ry ⟨a, b, dx, dy, fs, gs, ex, ey, ha, hb, k⟩
  subst ex ey
  obtain rfl : v = Value.ref a := rx
  obtain rfl : u = Value.ref b := ry
  have Xa := ins_cmp I q ha
  have Xb := ins_cmp I q hb
  obtain ⟨hp, g, d, t, os⟩ := s
  by_cases c : a = b
  · subst c
    rw [decide_eq_true rfl] at k
    exact compareOp_ne_same F.cmp_object Xa (by omega) ⟨.bl false, H, I, rfl, k⟩
  · rw [decide_eq_false c] at k
    exact compareOp_ne_other F.cmp_object F.cmp_object Xa Xb c (by omega) ⟨.bl true, H, I, rfl, k⟩
section
variable {Z : Zc} {Γ : Ctx} {α : Type} {a b : Expr} {pos : Pos} {C : Addr} {fs : α → List (Str × MP V)} {ma mb : M Z.S (Addr × α)}
theorem je_eqId (q : idB Z.X.K C = true) (hu : Z.X.A.units + 1 < cLine) (ha : JE Z Γ a ma (.fz (rObjA C fs))) (hb : JE Z Γ b mb (.fz (rObjA C fs))) : JE Z Γ (.Compare a [.Eq] [b] pos) (bnd ma fun x => bnd mb fun y => ret (decide (x.1 = y.1))) (.fz rB) :=
  je_two (fun x y => ret (decide (x.1 = y.1))) (.fz rB) (fun _ _ p q2 => pe_cmpR (op_eqId q hu) p q2 (nomark _)) ha hb fun x y v w s G B σ H Q st hv hw k => by
    obtain ⟨e1, dx, vs, h1, _⟩ := hv
    obtain ⟨e2, dy, ws, h2, _⟩ := hw
    exact ⟨x.1, y.1, dx, dy, vs, ws, e1, e2, st.ok.gh _ _ h1, st.ok.gh _ _ h2, fin k st (by show V.bl (false != decide (x.1 = y.1)) = _; rw [Bool.false_bne])⟩
theorem je_neId (q : idB Z.X.K C = true) (hu : Z.X.A.units + 1 < cLine) (ha : JE Z Γ a ma (.fz (rObjA C fs))) (hb : JE Z Γ b mb (.fz (rObjA C fs))) : JE Z Γ (.Compare a [.NotEq] [b] pos) (bnd ma fun x => bnd mb fun y => ret (!decide (x.1 = y.1))) (.fz rB) :=
  je_two (fun x y => ret (!decide (x.1 = y.1))) (.fz rB) (fun _ _ p q2 => pe_cmpR (op_neId q hu) p q2 (nomark _)) ha hb fun x y v w s G B σ H Q st hv hw k => by
    obtain ⟨e1, dx, vs, h1, _⟩ := hv
    obtain ⟨e2, dy, ws, h2, _⟩ := hw
    exact ⟨x.1, y.1, dx, dy, vs, ws, e1, e2, st.ok.gh _ _ h1, st.ok.gh _ _ h2, fin k st (by show V.bl (true != decide (x.1 = y.1)) = _; rw [Bool.true_bne])⟩
theorem jt_eqId (q : idB Z.X.K C = true) (hu : Z.X.A.units + 1 < cLine) (ha : JE Z Γ a ma (.fz (rObjA C fs))) (hb : JE Z Γ b mb (.fz (rObjA C fs))) : JT Z Γ (.Compare a [.Eq] [b] pos) (bnd ma fun x => bnd mb fun y => ret (decide (x.1 = y.1))) :=
  jt_two (fun x y => ret (decide (x.1 = y.1))) (fun _ _ p q2 => pt_cmpR (op_eqId q hu) p q2 (nomark _)) ha hb fun x y v w s G B σ H Q st hv hw k => by
    obtain ⟨e1, dx, vs, h1, _⟩ := hv
    obtain ⟨e2, dy, ws, h2, _⟩ := hw
    exact ⟨x.1, y.1, dx, dy, vs, ws, e1, e2, st.ok.gh _ _ h1, st.ok.gh _ _ h2, fin k st (by show V.bl (false != decide (x.1 = y.1)) = _; rw [Bool.false_bne])⟩
theorem jt_neId (q : idB Z.X.K C = true) (hu : Z.X.A.units + 1 < cLine) (ha : JE Z Γ a ma (.fz (rObjA C fs))) (hb : JE Z Γ b mb (.fz (rObjA C fs))) : JT Z Γ (.Compare a [.NotEq] [b] pos) (bnd ma fun x => bnd mb fun y => ret (!decide (x.1 = y.1))) :=
  jt_two (fun x y => ret (!decide (x.1 = y.1))) (fun _ _ p q2 => pt_cmpR (op_neId q hu) p q2 (nomark _)) ha hb fun x y v w s G B σ H Q st hv hw k => by
    obtain ⟨e1, dx, vs, h1, _⟩ := hv
    obtain ⟨e2, dy, ws, h2, _⟩ := hw
    exact ⟨x.1, y.1, dx, dy, vs, ws, e1, e2, st.ok.gh _ _ h1, st.ok.gh _ _ h2, fin k st (by show V.bl (true != decide (x.1 = y.1)) = _; rw [Bool.true_bne])⟩
end
end DL
set_option Elab.async false
set_option linter.all false
set_option maxRecDepth 100000
/-! x in o, len(o): by an own __contains__, __len__ that raises nothing -/
namespace DL
open PySem PySem.Spec PyProof.Rows L2
section
variable {X : Cx} {C f : Addr} {fd : FuncData} {ps : List Str} {sp : Sp} {k : Nat}
theorem op_inOwn (F1 : FnOk X.prog X.w X.K X.mg X.base (L2.CX X.prog X.w) k f fd ps sp) (hr : Room k X.A) (hb : Binds X.K fd ps []) (hm : Meth X.K C "__contains__" f) (hx : ∀ σ, PassesAt (L2.CX X.prog X.w) X σ (fun _ _ _ => False)) :
    OpR X (compareOp .In) (fun x y H Q => ∃ a dx fs, y = .ref a ∧ H a = some (.ins C dx fs) ∧ sp [y, x] H (fun v H' => ∃ b, v = .bl b ∧ Q (.bl b) H') (fun _ _ _ => False)) := by
  intro pins s σ H x y v u Q I rx ry ⟨a, dx, fs, ey, ea, h⟩
  subst ey
  obtain rfl : u = Value.ref a := ry
  obtain ⟨mA, ob, _⟩ := ins_get I.hok ea
  obtain ⟨od, J, _⟩ := ob.look
  obtain ⟨m, fr⟩ := I.fr
  refine PySem.W.in_K fr I.ok.mod.kin J hm.at_ hm.fn ?_
  refine thn (run_fnS (E := fun _ _ _ _ => False) (us := [.ref a, v]) (vs := [.ref a, x]) F1 hr hb (hx σ) I (.cons rfl (.cons rx .nil)) h) fun r s' ⟨w, H', I', rw, b, ew, q⟩ => ?_
  subst ew
  obtain rfl : r = Value.bool b := rw
  exact wpAny_truthy_bool ⟨.bl b, H', I', rfl, q⟩
end
section
variable {Z : Zc} {Γ : Ctx} {α αs : Type} {a b : Expr} {pos : Pos}
theorem sp_nox {Cap : CapT} {β : Type} {ra : (S : Type) → (R : S → MP Hp) → Cap S R → α → List V → Hp → Prop} {r : Rp β} {f : (S : Type) → (R : S → MP Hp) → Cap S R → α → M S β} (cp : Cap Z.S Z.R) {x : α} {vs : List V} {s : Z.S} {G B : Hp} {σ : L2.St} {H : Hp} {Q : VK}
    (st : Sta Z Γ s G B σ H) (hx : ra Z.S Z.R cp x vs G) (q : PostE Z Γ (.fz r) σ Q G (nox (f Z.S Z.R cp x) s)) : spC Z.X.mg ra (.fz r) f vs H Q (fun _ _ _ => False) := by
  refine ⟨Z.S, Z.R, cp, s, G, B, x, st.ok.gh, st.ok.bh, st.ok.dj, st.res, hx, ?_⟩
  have q : PostE Z Γ (.fz r) σ Q G (noxO (f Z.S Z.R cp x s)) := q
  revert q
  induction f Z.S Z.R cp x s with
  | ok y s1 => exact fun q v H' G' B' ok rr h => q v H' G' B' ok.g0 (st.call ok rr) h
  | err y s1 => exact fun q => q.elim
  | stuck => exact fun q => q.elim
  | all av o9 ih9 => exact fun q a9 h9 => ih9 a9 (q a9 h9)
theorem spC_imp {Cap : CapT} {β : Type} {mg : Str → Option Value} {ra : (S : Type) → (R : S → MP Hp) → Cap S R → α → List V → Hp → Prop} {r : Rp β} {f : (S : Type) → (R : S → MP Hp) → Cap S R → α → M S β} {vs : List V} {H : Hp} {Q Q' : VK} {E : XK} (h : spC mg ra (.fz r) f vs H Q E) (i : ∀ v H' x G', (r x).p v G' → Q v H' → Q' v H') : spC mg ra (.fz r) f vs H Q' E := by
  obtain ⟨S, R, c, s, G, B, x, h1, h2, h3, h4, h5, q⟩ := h
  refine ⟨S, R, c, s, G, B, x, h1, h2, h3, h4, h5, ?_⟩
  revert q
  induction f S R c x s with
  | ok y s1 => exact fun q v H' G' B' ok rr hh => i v H' y G' hh (q v H' G' B' ok rr hh)
  | err y s1 => exact fun q => q
  | stuck => exact fun q => q
  | all av o9 ih9 => exact fun q a9 h9 => ih9 a9 (q a9 h9)
theorem takes_no (z : ZOk Z) (σ : L2.St) : PassesAt (L2.CX Z.X.prog Z.X.w) Z.X σ (fun _ _ _ => False) := fun _ _ _ e s' I c => z.tk e s' (XE.of_call I (fun _ _ _ h => h.elim) c)
theorem je_inOwn {Cap : CapT} {C : Addr} {fs : αs → List (Str × MP V)} {r : Rp α} {ra : (S : Type) → (R : S → MP Hp) → Cap S R → αs × α × Unit → List V → Hp → Prop} {f : (S : Type) → (R : S → MP Hp) → Cap S R → αs × α × Unit → M S Bool} {k j : Nat} {ma : M Z.S α} {mb : M Z.S αs} (z : ZOk Z)
    (F : MtC Z.X.prog Z.X.w Z.X.K Z.X.mg Z.X.base C "__contains__" j (spC Z.X.mg ra (.fz rB) f)) (hr : Room k Z.X.A) (cp : Cap Z.S Z.R) (ha : JE Z Γ a ma (.fz r)) (hb : JE Z Γ b mb (.fz (rObj C fs))) (hra : ra Z.S Z.R cp = raC (rObj C fs) (raC r raN) := by rfl) (hj : j ≤ k := by decide) (hmk : behindInMarks .In b = false := by rfl) :
    JE Z Γ (.Compare a [.In] [b] pos) (bnd ma fun x => bnd mb fun y => nox (f Z.S Z.R cp (y, x, ()))) (.fz rB) := by
  obtain ⟨fa, fd, ps, F1, hm, hbd⟩ := F.ex
  refine je_two (fun x y => nox (f Z.S Z.R cp (y, x, ()))) (.fz rB) (fun _ _ p q => pe_cmpR (op_inOwn F1 (hr.mono hj) hbd hm (takes_no z)) p q hmk) ha hb fun x y v w s G B σ H Q st hv hw q => ?_
  have hw0 := hw
  obtain ⟨p, dx, vs, ew, hp, _⟩ := hw
  refine ⟨p, dx, vs, ew, st.ok.gh _ _ hp, ?_⟩
  refine spC_imp (sp_nox (Q := Q) cp st (by rw [hra]; exact ⟨w, [v], rfl, hw0, v, [], rfl, hv, rfl⟩) q) fun u H' bb G' hu qq => ?_
  have hu : u = .bl bb := hu
  exact ⟨bb, hu, by rw [← hu]; exact qq⟩
end
end DL
set_option Elab.async false
set_option linter.all false
set_option maxRecDepth 100000
/-! errors as values: an error that was made and is not raised -/
namespace DL
open PySem PySem.Spec PyProof.Rows L2
section
variable {K : PySem.W.Frag} {α β γ δ ε : Type} [DecidableEq α] [DecidableEq β] [DecidableEq γ] [DecidableEq δ] [DecidableEq ε]
def dT4 {r1 : Rp α} {r2 : Rp β} {r3 : Rp γ} {r4 : Rp δ} {n1 n2 n3 n4 : Nat} (D1 : DEq K r1 n1) (D2 : DEq K r2 n2) (D3 : DEq K r3 n3) (D4 : DEq K r4 n4) : DEq K (rT4 K r1 r2 r3 r4) (max n1 (max n2 (max n3 n4)) + 1) :=
  ⟨fun x => D1.ok x.1 && (D2.ok x.2.1 && (D3.ok x.2.2.1 && D4.ok x.2.2.2)), fun x => .tuple [D1.d x.1, D2.d x.2.1, D3.d x.2.2.1, D4.d x.2.2.2], fun {x v G H} g ⟨a, u1, u2, u3, u4, ev, ha, h1, h2, h3, h4⟩ => by rw [ev]; exact .tup (Same.sqT g ha) (.cons (D1.dp g h1) (.cons (D2.dp g h2) (.cons (D3.dp g h3) (.cons (D4.dp g h4) .nil)))),
   fun x h => by
    have h := Bool.and_eq_true_iff.mp h
    have h' := Bool.and_eq_true_iff.mp h.2
    have h'' := Bool.and_eq_true_iff.mp h'.2
    show ((D1.d x.1).canLay0 && ((D2.d x.2.1).canLay0 && ((D3.d x.2.2.1).canLay0 && ((D4.d x.2.2.2).canLay0 && true)))) = true
    rw [D1.lay _ h.1, D2.lay _ h'.1, D3.lay _ h''.1, D4.lay _ h''.2]; rfl,
   fun x => by
    have h1 := D1.dep x.1
    have h2 := D2.dep x.2.1
    have h3 := D3.dep x.2.2.1
    have h4 := D4.dep x.2.2.2
    show max (D1.d x.1).depth (max (D2.d x.2.1).depth (max (D3.d x.2.2.1).depth (max (D4.d x.2.2.2).depth 0))) + 1 ≤ _
    omega,
   fun x y => by
    show (PyData.eqv _ _ && (PyData.eqv _ _ && (PyData.eqv _ _ && (PyData.eqv _ _ && true)))) = _
    rw [D1.eq, D2.eq, D3.eq, D4.eq]
    obtain ⟨x1, x2, x3, x4⟩ := x
    obtain ⟨y1, y2, y3, y4⟩ := y
    by_cases e1 : x1 = y1 <;> by_cases e2 : x2 = y2 <;> by_cases e3 : x3 = y3 <;> by_cases e4 : x4 = y4 <;> simp [e1, e2, e3, e4]⟩
def dT5 {r1 : Rp α} {r2 : Rp β} {r3 : Rp γ} {r4 : Rp δ} {r5 : Rp ε} {n1 n2 n3 n4 n5 : Nat} (D1 : DEq K r1 n1) (D2 : DEq K r2 n2) (D3 : DEq K r3 n3) (D4 : DEq K r4 n4) (D5 : DEq K r5 n5) : DEq K (rT5 K r1 r2 r3 r4 r5) (max n1 (max n2 (max n3 (max n4 n5))) + 1) :=
  ⟨fun x => D1.ok x.1 && (D2.ok x.2.1 && (D3.ok x.2.2.1 && (D4.ok x.2.2.2.1 && D5.ok x.2.2.2.2))), fun x => .tuple [D1.d x.1, D2.d x.2.1, D3.d x.2.2.1, D4.d x.2.2.2.1, D5.d x.2.2.2.2], fun {x v G H} g ⟨a, u1, u2, u3, u4, u5, ev, ha, h1, h2, h3, h4, h5⟩ => by rw [ev]; exact .tup (Same.sqT g ha) (.cons (D1.dp g h1) (.cons (D2.dp g h2) (.cons (D3.dp g h3) (.cons (D4.dp g h4) (.cons (D5.dp g h5) .nil))))),
   fun x h => by
    have h := Bool.and_eq_true_iff.mp h
    have h' := Bool.and_eq_true_iff.mp h.2
    have h'' := Bool.and_eq_true_iff.mp h'.2
    have h3 := Bool.and_eq_true_iff.mp h''.2
    show ((D1.d x.1).canLay0 && ((D2.d x.2.1).canLay0 && ((D3.d x.2.2.1).canLay0 && ((D4.d x.2.2.2.1).canLay0 && ((D5.d x.2.2.2.2).canLay0 && true))))) = true
    rw [D1.lay _ h.1, D2.lay _ h'.1, D3.lay _ h''.1, D4.lay _ h3.1, D5.lay _ h3.2]; rfl,
   fun x => by
    have h1 := D1.dep x.1
    have h2 := D2.dep x.2.1
    have h3 := D3.dep x.2.2.1
    have h4 := D4.dep x.2.2.2.1
    have h5 := D5.dep x.2.2.2.2
    show max (D1.d x.1).depth (max (D2.d x.2.1).depth (max (D3.d x.2.2.1).depth (max (D4.d x.2.2.2.1).depth (max (D5.d x.2.2.2.2).depth 0)))) + 1 ≤ _
    omega,
   fun x y => by
    show (PyData.eqv _ _ && (PyData.eqv _ _ && (PyData.eqv _ _ && (PyData.eqv _ _ && (PyData.eqv _ _ && true))))) = _
    rw [D1.eq, D2.eq, D3.eq, D4.eq, D5.eq]
    obtain ⟨x1, x2, x3, x4, x5⟩ := x
    obtain ⟨y1, y2, y3, y4, y5⟩ := y
    by_cases e1 : x1 = y1 <;> by_cases e2 : x2 = y2 <;> by_cases e3 : x3 = y3 <;> by_cases e4 : x4 = y4 <;> by_cases e5 : x5 = y5 <;> simp [e1, e2, e3, e4, e5]⟩
end
/-- an error: its class by name, the fields that are known -/
abbrev Xv := Str × List (Str × Dt)
def rEx (K : PySem.W.Frag) : Rp Xv := fun x => ⟨fun v G => ∃ a d, v = .ref a ∧ G a = some (exo a (He.ga K x.1) d) ∧ (d = none ∧ x.2 = [] ∨ ∃ dd vs, d = some dd ∧ G dd = some (exd dd vs) ∧ ∀ f t, x.2.lookup f = some t → ∃ u, vs.lookup f = some u ∧ dtV t u),
  fun e ⟨a, d, h1, h2, h3⟩ => ⟨a, d, h1, e _ _ h2, h3.imp id fun ⟨dd, vs, h4, h5, h6⟩ => ⟨dd, vs, h4, e _ _ h5, h6⟩⟩⟩
/-- .. of one class, with the fields' values -/
def rExS {α : Type} (K : PySem.W.Frag) (c : Str) (fs : α → List (Str × MP V)) : Rp α := fun x => ⟨fun v G => ∃ a dd vs, v = .ref a ∧ G a = some (exo a (He.ga K c) (some dd)) ∧ G dd = some (exd dd vs) ∧ ∀ f A, (fs x).lookup f = some A → ∃ u, vs.lookup f = some u ∧ A.p u G,
  fun e ⟨a, dd, vs, h1, h2, h3, h4⟩ => ⟨a, dd, vs, h1, e _ _ h2, e _ _ h3, fun f A l => by
    obtain ⟨u, h5, h6⟩ := h4 f A l
    exact ⟨u, h5, A.mono e h6⟩⟩⟩
/-- C(e, ..): the new error is kept -/
def tMkV (C : Addr) (sp : Sp) (ta : TA) : TE := fun σ H Q => ta σ H fun vs H1 => vs.length ≤ 1000 ∧ ∀ a, H1 a = none → sp (.ref a :: vs) (upd H1 a (exo a C none)) (fun v H2 => v = .non ∧ Q (.ref a) H2) (fun _ _ _ => False)
section
variable {X : Cx} {e : Expr} {es : List Expr} {ta : TA} {p pos : Pos}
theorem pe_oex {CX : CXT} {x : Str} {C fI : Addr} {k : Nat} {fd : FuncData} {ps : List Str} {sp : Sp} (T : OexC X.K C) (iC : PySem.W.findIn X.K (.ref C) "__init__" = some (some (.ref fI))) (tI : PySem.W.typeIn X.K (.ref fI) = some (.type "function"))
    (F1 : FnOk X.prog X.w X.K X.mg X.base CX k fI fd ps sp) (hr : Room (k + 1) X.A) (hb : Binds X.K fd ps []) (hx : Passes CX X (fun _ _ _ => False)) (hg : Gl X x) (hm : X.mg x = some (.ref C)) (ha : PA X (e :: es) ta)
    (hdb : (x == ("__debug__" : Str)) = false := by decide) (he : starEach (e :: es) X.env = (false, eval e X.env) :: starEach es X.env := by rfl) (hpl : (backTo pos (starEach es X.env)).any (·.1) = false := by rfl) :
    PE X (.Call (.Name x p) (e :: es) [] pos) (tMkV C sp ta) := by
  refine ⟨fun pins s σ H Q I h => ?_⟩
  obtain ⟨nm, q, N, bs, bm, sn, sub, ab, col, dd, k0, k1, k2, k3, k5, hC, hbm⟩ := T.cls
  refine wpAny_Call_Name_kw (ld_glob I hg hm ?_ hdb)
  refine PySem.W.callWith_K (h₀ := X.base) I.ok.mod.kin T.kC (thn (ha.run pos pins s σ H _ I h) fun us s1 ⟨vs, H1, I1, r1, hz, q1⟩ => ⟨I1.kIn, ?_⟩) he hpl
  show wpAny _ _ (call (.ref C) us) _ _ _
  obtain ⟨hp, g, dr, tk, os⟩ := s1
  have hsz : hp.objs.size ≤ hp.objs.size + 1 := Nat.le_succ _
  have hn : H1 (hp.objs.size + 1) = none := I1.hok.fresh hsz
  have hq := q1 (hp.objs.size + 1) hn
  have kk : ∀ b o, hp.get? b = some o → ((hp.push (PySem.W.kdv_tup us)).push (PySem.HandSPX.excO C hp.objs.size)).get? b = some o := fun b o e => Heap.get?_push_of_some _ (Heap.get?_push_of_some _ e)
  have hget : ((hp.push (PySem.W.kdv_tup us)).push (PySem.HandSPX.excO C hp.objs.size)).get? (hp.objs.size + 1) = some (PySem.HandSPX.excO C hp.objs.size) := by heap_get
  have I2 : Inv X pins σ (upd H1 (hp.objs.size + 1) (exo (hp.objs.size + 1) C none)) ⟨(hp.push (PySem.W.kdv_tup us)).push (PySem.HandSPX.excO C hp.objs.size), g, dr, tk, os⟩ :=
    I1.laid (t' := tk) (a := hp.objs.size + 1) (o := exo (hp.objs.size + 1) C none) (h' := (hp.push (PySem.W.kdv_tup us)).push (PySem.HandSPX.excO C hp.objs.size)) kk hsz (exo_ok hget)
  have r2 : Vals (V.ref (hp.objs.size + 1) :: vs) (Value.ref (hp.objs.size + 1) :: us) := .cons rfl r1
  have hl : (Value.ref (hp.objs.size + 1) :: us ++ []).length = ps.length := by
    have e := r2.length
    rw [F1.len _ _ _ _ hq] at e
    rw [List.append_nil]
    exact e.symm
  have hus : us.length ≤ sizeLine := by
    rw [← Paired.length r1, sizeLine_eq]
    omega
  have hb' := hb ⟨(hp.push (PySem.W.kdv_tup us)).push (PySem.HandSPX.excO C hp.objs.size), g, dr, tk, os⟩ (Value.ref (hp.objs.size + 1) :: us) I2.kIn hl
  rw [List.append_nil] at hb'
  refine wpAny_call (PySem.HandSPX.call_own F.excBase_ValueError (fun Y => PySem.HandSPX.refsVE_contains Y bm hbm) (I1.kIn _ _ hC) (PySem.W.looks_findIn I1.kIn iC) (fun self => PySem.W.bind_fn I1.kIn self tI) hus
    (codeAny_mono (F1.run _ X.stack _ _ ⟨Value.ref (hp.objs.size + 1) :: us, []⟩ (Value.ref (hp.objs.size + 1) :: us) _ _ (fun _ _ _ => False) (hr.make C us []) (I2.env0.make C us []) hb' r2 hq) fun r s' hq' => ?_))
  cases r with
  | error er => exact hx pins σ _ _ er s' I2 hq'
  | ok fl =>
    cases fl with
    | ret u =>
      obtain ⟨v, H2, os2, bare2, un2, hok2, rv, ev, q2⟩ := hq'
      subst ev
      obtain ⟨h2, g2, d2, t2, os'⟩ := s'
      have nha : ∀ {b : Addr} {o : Obj}, hp.get? b = some o → b ≠ hp.objs.size + 1 := fun {b o} z => Nat.ne_of_lt (Nat.lt_of_lt_of_le (Heap.lt_size z) hsz)
      have up : ∀ {b : Addr}, b ≠ hp.objs.size + 1 → H1 b = none → upd H1 (hp.objs.size + 1) (exo (hp.objs.size + 1) C none) b = none := fun {b} hb n => by rw [upd_ne hb]; exact n
      have U : Un (frs X.stack) [] H1 H2 hp h2 := {
        keep := fun b o z n hf hx => un2.keep b o (kk b o z) (up (nha z) n) hf hx
        slot := fun b o z n hf hx => un2.slot b o (kk b o z) (up (nha z) n) hf hx
        free := fun b o z n hx => un2.free b o (kk b o z) (up (nha z) n) hx
        there := fun b o z hx => un2.there b o (kk b o z) hx
        tups := fun b xs z => un2.tups b xs (by rw [upd_ne (ne_of_none z hn)]; exact z)
        frzs := fun b o v z => un2.frzs b o v (by rw [upd_ne (ne_of_none z hn)]; exact z)
        tbls := fun b ps z => un2.tbls b ps (by rw [upd_ne (ne_of_none z hn)]; exact z) }
      have J : Inv X pins σ H2 ⟨h2, g2, d2, t2, os'⟩ := I1.call' (ch := []) os2 U hok2 bare2 (fun b z => absurd z (by simp))
      exact ⟨rv, .ref (hp.objs.size + 1), H2, J, rfl, q2⟩
    | next => exact False.elim hq'
    | brk => exact False.elim hq'
    | cont => exact False.elim hq'
/-- C(), C without own __init__ -/
theorem pe_own0 {C : Addr} {x : Str} (q : PySem.W.excIn X.K C He.veBase "ValueError.__new__" = true) (gC : X.mg x = some (.ref C)) (kC : PySem.W.keepIn X.K (.ref C) = true) (hg : Gl X x) (hdb : (x == ("__debug__" : Str)) = false := by decide) :
    PE X (.Call (.Name x p) [] [] pos) (fun _ H Q => ∀ a, H a = none → Q (.ref a) (upd H a (exo a C none))) := by
  refine ⟨fun pins s σ H Q I h => ?_⟩
  refine wpAny_Call_Name_kw (ld_glob I hg gC ?_ hdb)
  refine PySem.W.callWith_K0 (first := []) I.kIn kC ?_
  obtain ⟨bm, N, nm, qn, bs, hdct, sn, sub, ab, col, dd, k0, k1, k2, k3, k5, mN, hC, hN, hni, T⟩ := exc_obj I.kIn q
  obtain ⟨hp, g, dr, tk, os⟩ := s
  refine wpAny_call_exc_subT F.excBase_ValueError T hC hN hni (fun h' a hm => ?_) (by show 0 ≤ sizeLine; omega)
  have na : H a = none := I.hok.gone hm.new
  obtain ⟨t, he, _, _⟩ := hm.there
  have nha : ∀ {b : Addr} {o : Obj}, hp.get? b = some o → b ≠ a := fun {b o} z e => by
    rw [e] at z
    have := hm.new
    rw [z] at this
    cases this
  have U : Un (frs X.stack) [] H (upd H a (exo a C none)) hp h' := {
    keep := fun b o z n hf hx => hm.keeps b o z
    slot := fun b o z n hf hx => ⟨o.slots, hm.keeps b o z⟩
    free := fun b o z n hx => by rw [upd_ne (nha z)]; exact n
    there := fun b o z hx => ⟨o, hm.keeps b o z⟩
    tups := fun b xs z => by rw [upd_ne (ne_of_none z na)]; exact z
    frzs := fun b o v z => by rw [upd_ne (ne_of_none z na)]; exact z
    tbls := fun b ps z => ⟨#[], by rw [upd_ne (ne_of_none z na), z]; simp⟩ }
  have hok : HOk X.prog X.w (upd H a (exo a C none)) h' := fun b o z => by
    by_cases hb : b = a
    · subst hb
      rw [upd_same] at z
      cases z
      exact exo_ok he
    · rw [upd_ne hb] at z
      exact (I.hok b o z).stay (fun c v hc y => hm.keeps c v y) (fun c hc => by rw [upd_ne (ne_of_none hc na)]; exact hc) (fun c xs hc => by rw [upd_ne (ne_of_none hc na)]; exact hc)
  have J : Inv X pins σ (upd H a (exo a C none)) ⟨h', g, dr, tk, os⟩ := I.call' (s' := ⟨h', g, dr, tk, os⟩) (ch := []) rfl U hok I.bare (fun b z => absurd z (by simp))
  exact ⟨.ref a, _, J, rfl, h a na⟩
/-- e.f -/
def tXvF (C : Addr) (f : Str) (te : TE) : TE := fun σ H Q => te σ H fun x H1 => ∃ (a dd : Addr) (fs : List (Str × V)) (v : V), x = .ref a ∧ H1 a = some (exo a C (some dd)) ∧ H1 dd = some (exd dd fs) ∧ fs.lookup f = some v ∧ Q v H1
theorem pe_xvf {n : Str} {te : TE} (Cs : Addr → Prop) (hC : ∀ C, Cs C → XfC X.K C ∧ PySem.W.findIn X.K (.ref C) n = some none) (he : PE X e te) (hb : attributeBase e n X.env (eval e X.env) = eval e X.env := by rfl) :
    PE X (.Attribute e n pos) (fun σ H Q => te σ H fun x H1 => ∃ (C a dd : Addr) (fs : List (Str × V)) (v : V), Cs C ∧ x = .ref a ∧ H1 a = some (exo a C (some dd)) ∧ H1 dd = some (exd dd fs) ∧ fs.lookup n = some v ∧ Q v H1) := by
  refine ⟨fun pins s σ H Q I h => ?_⟩
  refine attr_of hb (thn (he.run pins s σ H _ I h) fun u s1 hh => ?_)
  obtain ⟨x, H1, I1, rx, C, a, dd, fs, v, hc, ex, ea, ed, l, q⟩ := hh
  obtain ⟨T, hno⟩ := hC C hc
  subst ex
  obtain rfl : u = Value.ref a := rx
  obtain ⟨t1, ho⟩ := exo_at I1.hok ea
  obtain ⟨mA, hns, hr⟩ := exd_at I1.hok ed
  obtain ⟨od, hod, hl⟩ := lookIn_ns hns
  obtain ⟨u, hu, ru⟩ := RelO.some_of (v := v) (o := mA n) (by rw [← l]; exact hr n)
  have J : PySem.W.InstAt s1.heap a { cls := .ref C, dict := some dd, data := .fields #[.ref t1, .none, .none, .none, .bool false, .none] } C (some od) := ⟨ho, rfl, rfl, hod⟩
  exact HandSPX.exc_get I1.kIn J T.ga T.gg T.exC (PySem.W.findObj_own T.hdC hno rfl (by rw [hl, hu])) (handed_of ru) ⟨v, H1, I1.tok _, ru, q⟩
/-- isinstance(e, c) -/
theorem call_isV (Cs : Addr → Prop) (hC : ∀ C, Cs C → ExcC X.K C) : CallR X (.builtin "isinstance") (fun xs H Q => ∃ (a C : Addr) (d : Option Addr) (c : V) (cv : Value) (b : Bool), xs = [.ref a, c] ∧ Cs C ∧ H a = some (exo a C d) ∧ (d = none ∨ ∃ dd vs, d = some dd ∧ H dd = some (exd dd vs)) ∧ (∀ u, RelV c u → u = cv) ∧ PySem.W.kitOne X.K (.ref C) cv = some b ∧ Q (.bl b) H) := by
  intro pins s σ H xs us Q I r h
  obtain ⟨a, C, d, c, cv, b, rfl, hc, ea, hd, hcv, e, q⟩ := h
  have T := hC C hc
  obtain ⟨u1, u2, rfl, r1, r2⟩ := vals2 r
  obtain rfl : u1 = Value.ref a := r1
  have ec := hcv _ r2
  subst ec
  obtain ⟨t1, ho⟩ := exo_at I.hok ea
  have J : ∃ dob, PySem.W.InstAt s.heap a { cls := .ref C, dict := d, data := .fields #[.ref t1, .none, .none, .none, .bool false, .none] } C dob := by
    rcases hd with hd | ⟨dd, ws, hd, hx⟩
    · subst hd
      exact ⟨none, ho, rfl, rfl, trivial⟩
    · subst hd
      obtain ⟨mA, hns, _⟩ := exd_at I.hok hx
      obtain ⟨od, ho2, _⟩ := lookIn_ns hns
      exact ⟨some od, ho, rfl, rfl, ho2⟩
  obtain ⟨dob, J⟩ := J
  exact PySem.W.kia_one (PySem.W.kitx_exc (by obtain ⟨kd, e, _⟩ := PySem.W.any_some T.hd; rw [e]; rfl) T.hg T.hk T.hs T.ha T.hn T.ht T.hm) I.kIn J e (fun z => nomatch z) fun tk => ⟨.bl b, H, I.tok tk, rfl, q⟩
end
section
variable {Z : Zc} {Γ : Ctx} {α β : Type} {e : Expr} {es : List Expr} {pos p p2 p3 : Pos}
theorem lookup_pd {vs : List (Str × V)} {fs : List (Str × Dt)} (h : Paired (fun v f => v.1 = f.1 ∧ dtV f.2 v.2) vs fs) : ∀ f t, fs.lookup f = some t → ∃ u, vs.lookup f = some u ∧ dtV t u := fun f t l => lookup_xd h l
/-- the new error stands still -/
theorem exnew {s : Z.S} {G B : Hp} {σ : L2.St} {H H' : Hp} {a dx C : Addr} {ws : List (Str × V)} (st : Sta Z Γ s G B σ H) (na : H a = none) (nd : H dx = none) (ne : dx ≠ a) (h1 : H' a = some (exo a C (some dx))) (h2 : H' dx = some (exd dx ws)) (h3 : ∀ b, b ≠ a → b ≠ dx → H' b = H b) :
    ∃ G', Same G G' ∧ Sta Z Γ s G' B σ H' ∧ G' a = some (exo a C (some dx)) ∧ G' dx = some (exd dx ws) := by
  have eH : H' = upd (upd H dx (exd dx ws)) a (exo a C (some dx)) := by
    funext b
    by_cases hba : b = a
    · rw [hba, upd_same, h1]
    · by_cases hbd : b = dx
      · rw [hbd, upd_ne ne, upd_same, h2]
      · rw [upd_ne hba, upd_ne hbd, h3 b hba hbd]
  subst eH
  have st1 : Sta Z Γ s (upd G dx (exd dx ws)) B σ (upd H dx (exd dx ws)) := st.laidG nd
  have na1 : upd H dx (exd dx ws) a = none := by rw [upd_ne (Ne.symm ne)]; exact na
  have st2 : Sta Z Γ s (upd (upd G dx (exd dx ws)) a (exo a C (some dx))) B σ (upd (upd H dx (exd dx ws)) a (exo a C (some dx))) := st1.laidG na1
  exact ⟨_, (Same.upd_new (Same.free st.ok.gh nd)).trans (Same.upd_new (Same.free st1.ok.gh na1)), st2, upd_same, by rw [upd_ne ne, upd_same]⟩
theorem je_mkV {ρ : Res β} {k j : Nat} {x : Str} {fs : List Str} {mk : (γ : Type) → (α → M Z.S γ) → M Z.S γ} {ra : α → List V → Hp → Prop} (z : ZOk Z) (E : XnC Z.X.prog Z.X.w Z.X.K Z.X.mg Z.X.base x fs j) (hr : Room k Z.X.A) (ha : JA Z Γ (e :: es) mk ra) (gx : Z.X.mg x = some (.ref (He.ga Z.X.K x))) (r : Rp β) (f : α → β)
    (hdf : ∀ y vs G, ra y vs G → vs.length = fs.length ∧ ∀ a dx G', Same G G' → G' a = some (exo a (He.ga Z.X.K x) (some dx)) → G' dx = some (exd dx (fs.zip vs).reverse) → (r (f y)).p (.ref a) G') (hn : fs.length ≤ 900 := by decide) (hg : Gl Z.X x := by rfl) (hj : j + 1 ≤ k := by decide) (hdb : (x == ("__debug__" : Str)) = false := by decide) (he : starEach (e :: es) Z.X.env = (false, eval e Z.X.env) :: starEach es Z.X.env := by exact star_of rfl) (hpl : (backTo pos (starEach es Z.X.env)).any (·.1) = false := by rfl) :
    JE Z Γ (.Call (.Name x p) (e :: es) [] pos) (mk _ fun y => ret (f y)) (.fz r) := by
  obtain ⟨C, fI, fd, ps, T, hm, iC, tI, F1, hb⟩ := E.ex
  obtain rfl : C = He.ga Z.X.K x := by
    rw [gx] at hm
    cases hm
    rfl
  obtain ⟨t, ht, hq⟩ := ha.ex
  refine ⟨PE.imp (pe_oex (p := p) (pos := pos) T iC tI F1 (hr.mono hj) hb (passes_call z.tk fun _ _ _ _ h => h.elim) hg hm ht hdb he hpl) fun σ H Q ⟨s, G, B, st, q⟩ => ?_⟩
  refine hq st q fun vs H1 y s1 G1 B1 g1 st1 hy q1 => ?_
  obtain ⟨hl, hp⟩ := hdf y vs G1 hy
  refine ⟨by omega, fun a na => ⟨a, vs, rfl, hl, upd_same, fun dx H' nd ne h1 h2 h3 => ⟨rfl, ?_⟩⟩⟩
  have nd1 : H1 dx = none := by
    rw [upd_ne ne] at nd
    exact nd
  obtain ⟨G', g', st', e1, e2⟩ := exnew st1 na nd1 ne h1 h2 fun b hb hd => by rw [h3 b hb hd, upd_ne hb]
  exact q1 _ H' G' B1 g' st' (hp a dx G' g' e1 e2)
theorem je_mkV0 {x : Str} (E : XzC Z.X.K Z.X.mg x) (gx : Z.X.mg x = some (.ref (He.ga Z.X.K x))) (hg : Gl Z.X x := by rfl) (hdb : (x == ("__debug__" : Str)) = false := by decide) :
    JE Z Γ (.Call (.Name x p) [] [] pos) (ret ((x, []) : Xv)) (.fz (rEx Z.X.K)) := by
  obtain ⟨C, hm, q, kC, sb, ty⟩ := E.ex
  obtain rfl : C = He.ga Z.X.K x := by
    rw [gx] at hm
    cases hm
    rfl
  exact JE.of_ret (pe_own0 q hm kC hg hdb) fun s G B σ H Q st q a na => q _ _ _ B (Same.upd_new (Same.free st.ok.gh na)) (st.laidG na) ⟨a, none, rfl, upd_same, .inl ⟨rfl, rfl⟩⟩
/-- what goes into an error's fields -/
theorem xv_dt {ra : α → List V → Hp → Prop} {fs : List Str} {x : Str} {K : PySem.W.Frag} {df : α → List (Str × Dt)} (hdf : ∀ y vs G, ra y vs G → vs.length = fs.length ∧ Paired (fun v f => v.1 = f.1 ∧ dtV f.2 v.2) (fs.zip vs).reverse (df y)) :
    ∀ y vs G, ra y vs G → vs.length = fs.length ∧ ∀ a dx G', Same G G' → G' a = some (exo a (He.ga K x) (some dx)) → G' dx = some (exd dx (fs.zip vs).reverse) → (rEx K ((x, df y) : Xv)).p (.ref a) G' := fun y vs G h => by
  obtain ⟨h1, h2⟩ := hdf y vs G h
  exact ⟨h1, fun a dx G' g e1 e2 => ⟨a, some dx, rfl, e1, .inr ⟨dx, _, rfl, e2, lookup_pd h2⟩⟩⟩
theorem xv_s2 {α1 α2 : Type} {r1 : Rp α1} {r2 : Rp α2} {f1 f2 x : Str} {K : PySem.W.Frag} (hf : (f2 == f1) = false) (hf' : (f1 == f2) = false) :
    ∀ (y : α1 × α2 × Unit) vs G, raC r1 (raC r2 raN) y vs G → vs.length = [f1, f2].length ∧ ∀ a dx G', Same G G' → G' a = some (exo a (He.ga K x) (some dx)) → G' dx = some (exd dx ([f1, f2].zip vs).reverse) → (rExS K x (fun t : α1 × α2 => [(f1, r1 t.1), (f2, r2 t.2)]) (y.1, y.2.1)).p (.ref a) G' := fun y vs G h => by
  obtain ⟨v, w, rfl, hv, hw⟩ := ra2 h
  refine ⟨rfl, fun a dx G' g e1 e2 => ⟨a, dx, _, rfl, e1, e2, fun f A l => ?_⟩⟩
  have l : List.lookup f [(f1, r1 y.1), (f2, r2 y.2.1)] = some A := l
  show ∃ u, List.lookup f [(f2, w), (f1, v)] = some u ∧ A.p u G'
  rw [List.lookup_cons] at l ⊢
  by_cases c : f = f1
  · subst c
    rw [beq_self_eq_true] at l
    cases l
    rw [hf', List.lookup_cons, beq_self_eq_true]
    exact ⟨v, rfl, (r1 _).mono g hv⟩
  · have c1 : (f == f1) = false := beq_false_of_ne c
    rw [c1] at l
    rw [List.lookup_cons] at l
    cases c2 : (f == f2) with
    | false =>
      rw [c2] at l
      cases l
    | true =>
      rw [c2] at l
      cases l
      exact ⟨w, rfl, (r2 _).mono g hw⟩
theorem xd3 {α β γ : Type} {r1 : Rp α} {r2 : Rp β} {r3 : Rp γ} (f1 f2 f3 : Str) (d1 : α → Dt) (d2 : β → Dt) (d3 : γ → Dt) (h1 : ∀ x v G, (r1 x).p v G → dtV (d1 x) v) (h2 : ∀ x v G, (r2 x).p v G → dtV (d2 x) v) (h3 : ∀ x v G, (r3 x).p v G → dtV (d3 x) v) : ∀ (y : α × β × γ × Unit) (vs : List V) (G : Hp), raC r1 (raC r2 (raC r3 raN)) y vs G → vs.length = [f1, f2, f3].length ∧ Paired (fun v f => v.1 = f.1 ∧ dtV f.2 v.2) (([f1, f2, f3].zip vs).reverse) [(f3, d3 y.2.2.1), (f2, d2 y.2.1), (f1, d1 y.1)] := fun y vs G hy => by
  obtain ⟨v, ws, rfl, hv, w, us, rfl, hw, u, ts, rfl, hu, e⟩ := hy
  have e : ts = [] := e
  subst e
  exact ⟨rfl, .cons ⟨rfl, h3 _ _ _ hu⟩ (.cons ⟨rfl, h2 _ _ _ hw⟩ (.cons ⟨rfl, h1 _ _ _ hv⟩ .nil))⟩
/-- the classes of a list, by their names -/
def GaIn (K : PySem.W.Frag) (cs : List Str) : Addr → Prop := fun C => ∃ c ∈ cs, C = He.ga K c
theorem xvf_get {cs : List Str} {f : Str} {m : M Z.S Xv} {g : Xv → M Z.S β} {r : Rp β} (h : JE Z Γ e m (.fz (rEx Z.X.K))) (hC : ∀ c ∈ cs, XfC Z.X.K (He.ga Z.X.K c) ∧ PySem.W.findIn Z.X.K (.ref (He.ga Z.X.K c)) f = some none)
    (hg : ∀ (x : Xv) (s : Z.S) (Q : VK) (G : Hp) (σ : L2.St), PostE Z Γ (.fz r) σ Q G (g x s) → ∃ t y, x.2.lookup f = some t ∧ g x s = .ok y s ∧ ∀ v G', dtV t v → (r y).p v G') (hb : attributeBase e f Z.X.env (eval e Z.X.env) = eval e Z.X.env := by rfl) :
    JE Z Γ (.Attribute e f pos) (bnd m fun x => bnd (grd (cs.contains x.1)) fun _ => g x) (.fz r) := by
  refine ⟨PE.imp (pe_xvf (pos := pos) (n := f) (GaIn Z.X.K cs) (fun C ⟨c, hc, e⟩ => by rw [e]; exact hC c hc) h.pe hb) fun σ H Q ⟨s, G, B, st, q⟩ => ?_⟩
  refine tE.imp (tE_bnd st q) fun v H1 ⟨x, s1, G1, B1, g1, st1, hx, q1⟩ => ?_
  obtain ⟨a, d, rfl, ea, hd⟩ := hx
  obtain ⟨c, q1⟩ := grd_of q1
  obtain ⟨t, y, l, eg, hy⟩ := hg x s1 Q G1 σ q1
  rcases hd with ⟨_, e0⟩ | ⟨dd, vs, ed, hdd, hl⟩
  · rw [e0] at l
    cases l
  · obtain ⟨u, hu, du⟩ := hl f t l
    subst ed
    rw [eg] at q1
    exact ⟨_, a, dd, vs, u, ⟨x.1, List.contains_iff_mem.mp c, rfl⟩, rfl, st1.ok.gh _ _ ea, st1.ok.gh _ _ hdd, hu, q1 u H1 G1 B1 (Same.refl _) st1 (hy u G1 du)⟩
theorem je_xvS {cs : List Str} {f : Str} {m : M Z.S Xv} (h : JE Z Γ e m (.fz (rEx Z.X.K))) (hC : ∀ c ∈ cs, XfC Z.X.K (He.ga Z.X.K c) ∧ PySem.W.findIn Z.X.K (.ref (He.ga Z.X.K c)) f = some none) (hb : attributeBase e f Z.X.env (eval e Z.X.env) = eval e Z.X.env := by rfl) :
    JE Z Γ (.Attribute e f pos) (bnd m fun x => bnd (grd (cs.contains x.1)) fun _ => getS x.2 f) (.fz rS) :=
  xvf_get h hC (fun x s Q G σ q => by
    unfold getS at q ⊢
    cases l : x.2.lookup f with
    | none => rw [l] at q; exact q.elim
    | some t =>
      rw [l] at q
      cases t with
      | str y => exact ⟨_, y, rfl, rfl, fun v G' h => h⟩
      | _ => exact q.elim) hb
theorem je_xvI {cs : List Str} {f : Str} {m : M Z.S Xv} (h : JE Z Γ e m (.fz (rEx Z.X.K))) (hC : ∀ c ∈ cs, XfC Z.X.K (He.ga Z.X.K c) ∧ PySem.W.findIn Z.X.K (.ref (He.ga Z.X.K c)) f = some none) (hb : attributeBase e f Z.X.env (eval e Z.X.env) = eval e Z.X.env := by rfl) :
    JE Z Γ (.Attribute e f pos) (bnd m fun x => bnd (grd (cs.contains x.1)) fun _ => getI x.2 f) (.fz rI) :=
  xvf_get h hC (fun x s Q G σ q => by
    unfold getI at q ⊢
    cases l : x.2.lookup f with
    | none => rw [l] at q; exact q.elim
    | some t =>
      rw [l] at q
      cases t with
      | int y => exact ⟨_, y, rfl, rfl, fun v G' h => h⟩
      | _ => exact q.elim) hb
/-- a field of an error of one class -/
theorem je_xsF {c f : Str} {fs : α → List (Str × MP V)} {m : M Z.S α} (g : α → β) (r : Rp β) (h : JE Z Γ e m (.fz (rExS Z.X.K c fs))) (hC : XfC Z.X.K (He.ga Z.X.K c) ∧ PySem.W.findIn Z.X.K (.ref (He.ga Z.X.K c)) f = some none) (hl : ∀ x, (fs x).lookup f = some (r (g x))) (hb : attributeBase e f Z.X.env (eval e Z.X.env) = eval e Z.X.env := by rfl) :
    JE Z Γ (.Attribute e f pos) (bnd m fun x => ret (g x)) (.fz r) := by
  refine ⟨PE.imp (pe_xvf (pos := pos) (n := f) (fun C => C = He.ga Z.X.K c) (fun C e => by rw [e]; exact hC) h.pe hb) fun σ H Q ⟨s, G, B, st, q⟩ => ?_⟩
  refine tE.imp (tE_bnd st q) fun v H1 ⟨x, s1, G1, B1, g1, st1, hx, q1⟩ => ?_
  obtain ⟨a, dd, vs, rfl, ea, hdd, hv⟩ := hx
  obtain ⟨u, hu, du⟩ := hv f _ (hl x)
  exact ⟨_, a, dd, vs, u, rfl, rfl, st1.ok.gh _ _ ea, st1.ok.gh _ _ hdd, hu, q1 u H1 G1 B1 (Same.refl _) st1 du⟩
/-- .. as an error of any class -/
theorem je_xsv {c : Str} {fs : α → List (Str × MP V)} {m : M Z.S α} (h : JE Z Γ e m (.fz (rExS Z.X.K c fs))) : JE Z Γ e (bnd m fun _ => ret ((c, []) : Xv)) (.fz (rEx Z.X.K)) := by
  refine ⟨PE.imp h.pe fun σ H Q ⟨s, G, B, st, q⟩ => ?_⟩
  refine tE.imp (tE_bnd st q) fun v H1 ⟨x, s1, G1, B1, g1, st1, hx, q1⟩ => ?_
  obtain ⟨a, dd, vs, rfl, ea, hdd, hv⟩ := hx
  exact q1 _ H1 G1 B1 (Same.refl _) st1 ⟨a, some dd, rfl, ea, .inr ⟨dd, vs, rfl, hdd, fun f t l => by cases l⟩⟩
/-- isinstance(e, D) -/
theorem je_isV {cs ts : List Str} {D : Addr} {x : Str} {m : M Z.S Xv} (hg : Gl Z.X "isinstance") (hm : Z.X.mg "isinstance" = none) (h : JE Z Γ e m (.fz (rEx Z.X.K))) (hC : ∀ c ∈ cs, ExcC Z.X.K (He.ga Z.X.K c)) (hc : JE Z Γ (.Name x p2) (ret ()) (.fz (rCl D))) (hk : ∀ c ∈ cs, PySem.W.kitOne Z.X.K (.ref (He.ga Z.X.K c)) (.ref D) = some (ts.contains c)) (he : starEach [e, .Name x p2] Z.X.env = (false, eval e Z.X.env) :: starEach [.Name x p2] Z.X.env := by exact star_of rfl) :
    JE Z Γ (.Call (.Name "isinstance" p) [e, .Name x p2] [] pos) (bnd m fun y => bnd (grd (cs.contains y.1)) fun _ => ret (ts.contains y.1)) (.fz rB) :=
  je_cb (fun y : Xv × Unit × Unit => bnd (grd (cs.contains y.1.1)) fun _ => ret (ts.contains y.1.1)) (.fz rB) (call_isV (GaIn Z.X.K cs) fun C ⟨c, hc, e⟩ => by rw [e]; exact hC c hc) hg hm (by decide +kernel) (ja_cons h (ja_cons hc ja_nil) he) (fun y vs s G B σ H Q st hx q => by
    obtain ⟨v, w, rfl, hv, hw⟩ := ra2 hx
    have hw : w = .ref D := hw
    subst hw
    obtain ⟨c, q⟩ := grd_of q
    have c := List.contains_iff_mem.mp c
    obtain ⟨a, d, rfl, ea, hd⟩ := hv
    refine ⟨a, _, d, .ref D, .ref D, _, rfl, ⟨y.1.1, c, rfl⟩, st.ok.gh _ _ ea, ?_, fun u hu => hu, hk _ c, fin q st rfl⟩
    rcases hd with ⟨e, _⟩ | ⟨dd, vs, e, h2, _⟩
    · exact .inl e
    · exact .inr ⟨dd, vs, e, st.ok.gh _ _ h2⟩) (he := he)
theorem je_isVB {cs : List Str} {n : String} {bb : Bool} {x : Str} {m : M Z.S Xv} (hg : Gl Z.X "isinstance") (hm : Z.X.mg "isinstance" = none) (h : JE Z Γ e m (.fz (rEx Z.X.K))) (hC : ∀ c ∈ cs, ExcC Z.X.K (He.ga Z.X.K c)) (hc : JE Z Γ (.Name x p2) (ret ()) (.fz (rTy n))) (hk : ∀ c ∈ cs, PySem.W.kitOne Z.X.K (.ref (He.ga Z.X.K c)) (.type n) = some bb) (he : starEach [e, .Name x p2] Z.X.env = (false, eval e Z.X.env) :: starEach [.Name x p2] Z.X.env := by exact star_of rfl) :
    JE Z Γ (.Call (.Name "isinstance" p) [e, .Name x p2] [] pos) (bnd m fun y => bnd (grd (cs.contains y.1)) fun _ => ret bb) (.fz rB) :=
  je_cb (fun y : Xv × Unit × Unit => bnd (grd (cs.contains y.1.1)) fun _ => ret bb) (.fz rB) (call_isV (GaIn Z.X.K cs) fun C ⟨c, hc, e⟩ => by rw [e]; exact hC c hc) hg hm (by decide +kernel) (ja_cons h (ja_cons hc ja_nil) he) (fun y vs s G B σ H Q st hx q => by
    obtain ⟨v, w, rfl, hv, hw⟩ := ra2 hx
    have hw : w = .ty n := hw
    subst hw
    obtain ⟨c, q⟩ := grd_of q
    have c := List.contains_iff_mem.mp c
    obtain ⟨a, d, rfl, ea, hd⟩ := hv
    refine ⟨a, _, d, .ty n, .type n, _, rfl, ⟨y.1.1, c, rfl⟩, st.ok.gh _ _ ea, ?_, fun u hu => hu, hk _ c, fin q st rfl⟩
    rcases hd with ⟨e, _⟩ | ⟨dd, vs, e, h2, _⟩
    · exact .inl e
    · exact .inr ⟨dd, vs, e, st.ok.gh _ _ h2⟩) (he := he)
end
end DL
set_option Elab.async false
set_option linter.all false
set_option maxRecDepth 100000
namespace DL
open PySem L2
/-! ### the mathematics of mirrors: what a draw-using mirror gives -/
def BOk (b : Bag) : Prop := 0 ≤ b.at_
/-- from a good bag: a value with Q, and a good bag -/
def Gv {α : Type} (m : M Bag α) (Q : α → Prop) : Prop := ∀ s, BOk s → (m s).every fun a s' => BOk s' ∧ Q a
theorem every_imp {S α : Type} {P P' : α → S → Prop} {o : Out S α} (h : o.every P) (i : ∀ a s, P a s → P' a s) : o.every P' := by
  induction o with
  | ok a s => exact i a s h
  | err e s => exact h
  | stuck => exact h
  | all av g ih => exact fun a n => ih a (h a n)
theorem every_bnd {S α β : Type} {P : α → S → Prop} {Q : β → S → Prop} {o : Out S α} {f : α → M S β} (h : o.every P) (k : ∀ a s, P a s → (f a s).every Q) : (o.bnd f).every Q := by
  induction o with
  | ok a s => exact k a s h
  | err e s => exact h
  | stuck => exact h
  | all av g ih => exact fun a n => ih a (h a n)
theorem every_nox {S α : Type} {P : α → S → Prop} {o : Out S α} (h : o.every P) : (noxO o).every P := by
  induction o with
  | ok a s => exact h
  | err e s => exact h
  | stuck => exact h
  | all av g ih => exact fun a n => ih a (h a n)
section
variable {α β γ T U ρ : Type}
theorem Gv.imp {m : M Bag α} {Q Q' : α → Prop} (h : Gv m Q) (i : ∀ a, Q a → Q' a) : Gv m Q' := fun s hs => every_imp (h s hs) fun a _ q => ⟨q.1, i a q.2⟩
theorem gv_ret {a : α} {Q : α → Prop} (h : Q a) : Gv (ret a) Q := fun s hs => ⟨hs, h⟩
theorem gv_bnd {m : M Bag α} {f : α → M Bag β} {P : α → Prop} {Q : β → Prop} (h : Gv m P) (k : ∀ a, P a → Gv (f a) Q) : Gv (bnd m f) Q := fun s hs => every_bnd (h s hs) fun a s' q => k a q.2 s' q.1
/-- .. of what is to be shown of the rest -/
theorem gv_on {m : M Bag α} {f : α → M Bag β} {Q : β → Prop} (h : Gv m fun a => Gv (f a) Q) : Gv (bnd m f) Q := gv_bnd h fun _ h => h
theorem gv_opt {o : Option α} {a : α} {Q : α → Prop} (e : o = some a) (h : Q a) : Gv (opt o) Q := by
  subst e
  exact gv_ret h
theorem gv_grd {b : Bool} {Q : Unit → Prop} (e : b = true) (h : Q ()) : Gv (grd b) Q := by
  subst e
  exact gv_ret h
theorem gv_ite {c : Bool} {a b : M Bag α} {Q : α → Prop} (h1 : c = true → Gv a Q) (h2 : c = false → Gv b Q) : Gv (if c then a else b) Q := by
  cases c with
  | true => exact h1 rfl
  | false => exact h2 rfl
theorem gv_draw {n : Int} {Q : Int → Prop} (h0 : 0 < n) (h1 : n < 1073741824) (h : ∀ d, 0 ≤ d → d < n → Q d) : Gv (drawM bagI n) Q := fun s hs => by
  have main : ∀ d b', drawB s n = (d, b') → 0 ≤ d → d < n → BOk b' → (drawM bagI n s).every fun a s' => BOk s' ∧ Q a := fun d b' e k0 k1 kb => by
    show (if 0 < n ∧ n < 1073741824 ∧ 0 ≤ s.at_ then Out.ok (drawB s n).1 (drawB s n).2 else .stuck).every _
    rw [if_pos ⟨h0, h1, hs⟩, e]
    exact ⟨kb, h d k0 k1⟩
  have ha : 0 ≤ (drawA s).1 := by
    unfold drawA
    by_cases c : s.val = 0 ∧ s.at_ < s.scr.length
    · rw [if_pos c]
      show 0 ≤ s.at_ + 1
      have : 0 ≤ s.at_ := hs
      omega
    · rw [if_neg c]
      exact hs
  have e : drawB s n = drawB s n := rfl
  conv at e => rhs; unfold drawB
  by_cases c : 0 < (drawA s).2.1
  · rw [if_pos c] at e
    exact main _ _ e (Int.emod_nonneg _ (by omega)) (Int.emod_lt_of_pos _ h0) ha
  · rw [if_neg c] at e
    exact main _ _ e (Int.emod_nonneg _ (by omega)) (Int.emod_lt_of_pos _ h0) ha
theorem gv_then {m : M Bag (Fl T U ρ)} {f : T → M Bag (Fl γ U ρ)} {P : T → Prop} {Q : Fl γ U ρ → Prop} (h : Gv m fun fl => ∃ t, fl = .nx t ∧ P t) (k : ∀ t, P t → Gv (f t) Q) : Gv (thenB m f) Q :=
  gv_bnd h fun fl ⟨t, e, p⟩ => by
    subst e
    exact k t p
/-- what a block returns -/
theorem gv_run {m : M Bag (Fl T Empty β)} {Q : β → Prop} (h : Gv m fun fl => ∃ r, fl = .rt r ∧ Q r) : Gv (runF m) Q := gv_bnd h fun fl ⟨r, e, q⟩ => by
  subst e
  exact gv_ret q
theorem gv_rt {r : β} {Q : β → Prop} (h : Q r) : Gv (ret (.rt r) : M Bag (Fl T U β)) fun fl => ∃ r, fl = .rt r ∧ Q r := gv_ret ⟨r, rfl, h⟩
theorem gv_nx {t : T} {P : T → Prop} (h : P t) : Gv (ret (.nx t) : M Bag (Fl T U β)) fun fl => ∃ t, fl = .nx t ∧ P t := gv_ret ⟨t, rfl, h⟩
/-- a for, each turn to its end -/
theorem gv_for {body : α → T → M Bag (Fl T T ρ)} (I : List α → T → Prop) {xs : List α} {t0 : T} (h0 : I [] t0) (h : ∀ pre x post t, xs = pre ++ x :: post → I pre t → Gv (body x t) fun fl => ∃ t', fl = .nx t' ∧ I (pre ++ [x]) t') :
    Gv (forL body xs t0 : M Bag (Fl T U ρ)) fun fl => ∃ t, fl = .nx t ∧ I xs t := by
  have main : ∀ (post pre : List α) (t : T), xs = pre ++ post → I pre t → Gv (forL body post t : M Bag (Fl T U ρ)) fun fl => ∃ t, fl = .nx t ∧ I xs t := by
    intro post
    induction post with
    | nil =>
      intro pre t e i
      rw [List.append_nil] at e
      subst e
      exact gv_nx i
    | cons x post ih =>
      intro pre t e i
      refine gv_bnd (h pre x post t e i) fun fl ⟨t', e', i'⟩ => ?_
      subst e'
      exact ih (pre ++ [x]) t' (by rw [e, List.append_assoc]; rfl) i'
  exact main xs [] t0 rfl h0
/-- a comprehension, item by item -/
theorem gv_compL {mt : α → M Bag Bool} {me : α → M Bag β} (R : α → List β → Prop) : ∀ {xs : List α}, (∀ x ∈ xs, Gv (nox (mt x)) fun c => if c then Gv (nox (me x)) fun y => R x [y] else R x []) → Gv (compL mt me xs) fun ys => ∃ yss : List (List β), ys = yss.flatten ∧ Paired R xs yss
  | [], _ => gv_ret ⟨[], rfl, .nil⟩
  | x :: xs, h => by
    refine gv_bnd (h x List.mem_cons_self) fun c hc => ?_
    have ih := gv_compL (mt := mt) (me := me) R (xs := xs) fun y hy => h y (List.mem_cons_of_mem _ hy)
    cases c with
    | true =>
      have hc : Gv (nox (me x)) fun y => R x [y] := hc
      refine gv_bnd hc fun y hy => gv_bnd ih fun ys ⟨yss, e, p⟩ => gv_ret ⟨[y] :: yss, by rw [e]; rfl, .cons hy p⟩
    | false => exact ih.imp fun ys ⟨yss, e, p⟩ => ⟨[] :: yss, by rw [e]; rfl, .cons hc p⟩
theorem gv_nox {m : M Bag α} {Q : α → Prop} (h : Gv m Q) : Gv (nox m) Q := fun s hs => every_nox (h s hs)
/-- every item is kept: as many, each with P -/
theorem gv_compA {me : α → M Bag β} {P : β → Prop} {xs : List α} (hz : xs.length ≤ sizeLine) (h : ∀ x ∈ xs, Gv (me x) P) : Gv (compM (fun _ => ret true) me xs) fun ys => ys.length = xs.length ∧ ∀ y ∈ ys, P y := by
  refine gv_bnd (P := fun _ => True) (gv_grd (decide_eq_true hz) True.intro) fun _ _ => ?_
  have main : ∀ {zs : List α}, (∀ x ∈ zs, Gv (me x) P) → Gv (compL (fun _ => ret true) me zs) fun ys => ys.length = zs.length ∧ ∀ y ∈ ys, P y := by
    intro zs
    induction zs with
    | nil => exact fun _ => gv_ret ⟨rfl, fun y hy => by cases hy⟩
    | cons x zs ih =>
      intro h
      refine gv_bnd (P := fun c => c = true) (gv_nox (gv_ret rfl)) fun c hc => ?_
      subst hc
      refine gv_bnd (gv_nox (h x List.mem_cons_self)) fun y hy => gv_bnd (ih fun z hz => h z (List.mem_cons_of_mem _ hz)) fun ys ⟨l, a⟩ => gv_ret ⟨by rw [List.length_cons, List.length_cons, l], fun z hz => ?_⟩
      rcases List.mem_cons.mp hz with e | e
      · rw [e]; exact hy
      · exact a z e
  exact main h
end
/-! ### mirrors without draws: equations -/
section
variable {S α β : Type}
theorem compL_ret {mt : α → M S Bool} {me : α → M S β} {c : α → Bool} {g : α → β} : ∀ {xs : List α}, (∀ x ∈ xs, mt x = ret (c x)) → (∀ x ∈ xs, c x = true → me x = ret (g x)) → compL mt me xs = ret ((xs.filter c).map g)
  | [], _, _ => rfl
  | x :: xs, h1, h2 => by
    have ih := compL_ret (mt := mt) (me := me) (c := c) (g := g) (xs := xs) (fun y hy => h1 y (List.mem_cons_of_mem _ hy)) (fun y hy => h2 y (List.mem_cons_of_mem _ hy))
    show bnd (nox (mt x)) _ = _
    rw [h1 x List.mem_cons_self, nox_ret, ret_bnd]
    cases e : c x with
    | true =>
      rw [List.filter_cons_of_pos e, List.map_cons]
      show bnd (nox (me x)) _ = _
      rw [h2 x List.mem_cons_self e, nox_ret, ret_bnd, ih, ret_bnd]
    | false =>
      rw [List.filter_cons_of_neg (by rw [e]; exact Bool.false_ne_true)]
      exact ih
theorem compM_ret {mt : α → M S Bool} {me : α → M S β} {c : α → Bool} {g : α → β} {xs : List α} (hz : xs.length ≤ sizeLine) (h1 : ∀ x ∈ xs, mt x = ret (c x)) (h2 : ∀ x ∈ xs, c x = true → me x = ret (g x)) : compM mt me xs = ret ((xs.filter c).map g) := by
  unfold compM
  rw [decide_eq_true hz, grd_true, ret_bnd, compL_ret h1 h2]
/-- all items -/
theorem compM_all {me : α → M S β} {g : α → β} {xs : List α} (hz : xs.length ≤ sizeLine) (h2 : ∀ x ∈ xs, me x = ret (g x)) : compM (fun _ => ret true) me xs = ret (xs.map g) := by
  rw [compM_ret (c := fun _ => true) hz (fun _ _ => rfl) (fun x hx _ => h2 x hx)]
  congr 2
  exact List.filter_eq_self.mpr fun _ _ => rfl
theorem runF_rt {T : Type} (r : β) : runF (ret (.rt r) : M S (Fl T Empty β)) = ret r := rfl
theorem runF_bnd {T : Type} (m : M S α) (f : α → M S (Fl T Empty β)) : runF (bnd m f) = bnd m fun a => runF (f a) := by
  unfold runF
  rw [bnd_assoc]
theorem runF_ite {T : Type} {c : Bool} (a b : M S (Fl T Empty β)) : runF (if c then a else b) = if c then runF a else runF b := by cases c <;> rfl
theorem thenB_nx {T T1 U ρ : Type} (t : T1) (f : T1 → M S (Fl T U ρ)) : thenB (ret (.nx t)) f = f t := ret_bnd _ _
theorem thenB_rt {T T1 U ρ : Type} (r : ρ) (f : T1 → M S (Fl T U ρ)) : thenB (ret (.rt r)) f = ret (.rt r) := ret_bnd _ _
theorem thenB_bnd {T T1 U ρ : Type} (m : M S α) (g : α → M S (Fl T1 U ρ)) (f : T1 → M S (Fl T U ρ)) : thenB (bnd m g) f = bnd m fun a => thenB (g a) f := by
  unfold thenB
  rw [bnd_assoc]
theorem thenB_ite {T T1 U ρ : Type} {c : Bool} (a b : M S (Fl T1 U ρ)) (f : T1 → M S (Fl T U ρ)) : thenB (if c then a else b) f = if c then thenB a f else thenB b f := by cases c <;> rfl
theorem forL_cons {T U ρ : Type} (body : α → T → M S (Fl T T ρ)) (x : α) (xs : List α) (t : T) : (forL body (x :: xs) t : M S (Fl T U ρ)) = bnd (body x t) (Fl.loop (forL body xs)) := rfl
/-- a for whose turns are a step each -/
theorem forL_step {T U ρ : Type} {body : α → T → M S (Fl T T ρ)} {step : α → T → T} : ∀ {xs : List α} {t : T}, (∀ pre x post, xs = pre ++ x :: post → body x (pre.foldl (fun t x => step x t) t) = ret (.nx (step x (pre.foldl (fun t x => step x t) t)))) → (forL body xs t : M S (Fl T U ρ)) = ret (.nx (xs.foldl (fun t x => step x t) t))
  | [], t, _ => rfl
  | x :: xs, t, h => by
    have h0 : body x t = ret (.nx (step x t)) := h [] x xs rfl
    rw [forL_cons, h0, ret_bnd]
    show forL body xs (step x t) = _
    rw [forL_step (xs := xs) (t := step x t) fun pre y post e => h (x :: pre) y post (by rw [e]; rfl)]
    rfl
end
/-! ### dicts -/
section
variable {κ α β : Type} [DecidableEq κ]
theorem dget_nil (k : κ) : dget ([] : List (κ × α)) k = none := rfl
theorem dget_cons (q : κ × α) (d : List (κ × α)) (k : κ) : dget (q :: d) k = if q.1 = k then some q.2 else dget d k := by
  unfold dget
  rw [List.find?_cons]
  by_cases h : q.1 = k
  · rw [decide_eq_true h, if_pos h]; rfl
  · rw [decide_eq_false h, if_neg h]
theorem dget_append (d e : List (κ × α)) (k : κ) : dget (d ++ e) k = (dget d k).or (dget e k) := by
  induction d with
  | nil => simp [dget_nil]
  | cons q d ih =>
    rw [List.cons_append, dget_cons, dget_cons, ih]
    by_cases h : q.1 = k
    · rw [if_pos h, if_pos h]; rfl
    · rw [if_neg h, if_neg h]
theorem dget_none {d : List (κ × α)} {k : κ} : dget d k = none ↔ k ∉ d.map (·.1) := by
  induction d with
  | nil => simp [dget_nil]
  | cons q d ih =>
    rw [dget_cons, List.map_cons, List.mem_cons, not_or]
    by_cases h : q.1 = k
    · rw [if_pos h]
      exact ⟨fun z => (by cases z), fun z => absurd h.symm z.1⟩
    · rw [if_neg h, ih]
      exact ⟨fun z => ⟨fun w => h w.symm, z⟩, fun z => z.2⟩
theorem dhas_iff {d : List (κ × α)} {k : κ} : dhas d k = true ↔ k ∈ d.map (·.1) := by
  unfold dhas
  cases e : dget d k with
  | none =>
    have z := dget_none.mp e
    exact ⟨fun w => (by cases w), fun w => absurd w z⟩
  | some x =>
    refine ⟨fun _ => ?_, fun _ => rfl⟩
    rcases Decidable.em (k ∈ d.map (·.1)) with h | h
    · exact h
    · rw [dget_none.mpr h] at e
      cases e
theorem dhas_dec (d : List (κ × α)) (k : κ) : dhas d k = decide (k ∈ d.map (·.1)) := by
  by_cases h : k ∈ d.map (·.1)
  · rw [decide_eq_true h]; exact dhas_iff.mpr h
  · rw [decide_eq_false h]
    cases e : dhas d k with
    | false => rfl
    | true => exact absurd (dhas_iff.mp e) h
theorem dput_new {d : List (κ × α)} {k : κ} {v : α} (h : k ∉ d.map (·.1)) : dput d k v = d ++ [(k, v)] := by
  unfold dput
  rw [if_neg]
  intro z
  obtain ⟨q, h1, h2⟩ := List.any_eq_true.mp z
  exact h (List.mem_map.mpr ⟨q, h1, of_decide_eq_true h2⟩)
theorem dget_mem' {d : List (κ × α)} {k : κ} {x : α} (h : dget d k = some x) : (k, x) ∈ d := by
  induction d with
  | nil => cases h
  | cons q d ih =>
    rw [dget_cons] at h
    by_cases e : q.1 = k
    · rw [if_pos e] at h
      cases h
      rw [← e]
      exact List.mem_cons_self
    · rw [if_neg e] at h
      exact List.mem_cons_of_mem _ (ih h)
theorem dget_of_mem {d : List (κ × α)} (nd : (d.map (·.1)).Nodup) {k : κ} {x : α} (h : (k, x) ∈ d) : dget d k = some x := by
  induction d with
  | nil => cases h
  | cons q d ih =>
    rw [List.map_cons, List.nodup_cons] at nd
    rw [dget_cons]
    rcases List.mem_cons.mp h with e | e
    · rw [← e, if_pos rfl]
    · rw [if_neg fun z => nd.1 (by rw [z]; exact List.mem_map.mpr ⟨(k, x), e, rfl⟩)]
      exact ih nd.2 e
end
end DL
set_option Elab.async false
set_option linter.all false
set_option maxRecDepth 100000
namespace DL
open PySem L2
/-! ### texts as lists of signs -/
def mk (l : List Nat) : Str := ⟨l.toArray⟩
def sg (x : Str) : List Nat := x.cps.toList
@[simp] theorem sg_mk (l : List Nat) : sg (mk l) = l := rfl
theorem mk_sg (x : Str) : mk (sg x) = x := rfl
theorem sg_inj {x y : Str} (h : sg x = sg y) : x = y := by rw [← mk_sg x, ← mk_sg y, h]
theorem len_sg (x : Str) : x.length = (sg x).length := by unfold sg Str.length; rw [Array.length_toList]
theorem app_sg (x y : Str) : x ++ y = mk (sg x ++ sg y) := by
  apply sg_inj
  show (x.cps ++ y.cps).toList = _
  rw [Array.toList_append]
  rfl
theorem sg_app (x y : Str) : sg (x ++ y) = sg x ++ sg y := by rw [app_sg, sg_mk]
/-- letters -/
def Lets (x : Str) : Prop := ∀ c ∈ sg x, 97 ≤ c ∧ c ≤ 122
structure VName (x : Str) : Prop where
  lo : 1 ≤ (sg x).length
  hi : (sg x).length ≤ 12
  le : Lets x
def LET : Str := "abcdefghijklmnopqrstuvwxyz"
theorem sg_LET : sg LET = (List.range 26).map (97 + ·) := by decide +kernel
theorem atI_lt {α : Type} {xs : List α} {i : Int} (h0 : 0 ≤ i) (h1 : i < xs.length) : atI xs i = xs[i.toNat]? := by
  obtain ⟨n, rfl⟩ := Int.eq_ofNat_of_zero_le h0
  have hn : n < xs.length := by omega
  have e : xs[n]? = some xs[n] := List.getElem?_eq_getElem hn
  rw [atI_nat e]
  exact e.symm
theorem gv_at {α : Type} {xs : List α} {d : Int} {Q : α → Prop} (h0 : 0 ≤ d) (h1 : d < xs.length) (h : ∀ x ∈ xs, Q x) : Gv (opt (atI xs d)) Q := by
  have hn : d.toNat < xs.length := by omega
  rw [atI_lt h0 h1, List.getElem?_eq_getElem hn]
  exact gv_ret (h _ (List.getElem_mem hn))
theorem sline : sizeLine = 16777216 := by decide
theorem sget_LET {S : Type} {i : Int} (h0 : 0 ≤ i) (h1 : i < 26) : (sgetM LET i : M S Str) = ret (mk [97 + i.toNat]) := by
  unfold sgetM
  rw [decide_eq_true (show LET.length ≤ sizeLine by decide +kernel), grd_true, ret_bnd]
  have e : atI LET.cps.toList i = some (97 + i.toNat) := by
    rw [show LET.cps.toList = (List.range 26).map (97 + ·) from sg_LET, atI_lt h0 (by rw [List.length_map, List.length_range]; exact h1), List.getElem?_map, List.getElem?_range (by omega)]
    rfl
  rw [e, opt_some, ret_bnd]
  rfl
theorem sadd_of {S : Type} {x y : Str} (h : (sg x).length + (sg y).length ≤ 1000) : (saddM x y : M S Str) = ret (mk (sg x ++ sg y)) := by
  unfold saddM
  rw [decide_eq_true (show x.length + y.length ≤ sizeLine by rw [len_sg, len_sg, sline]; omega), grd_true, ret_bnd, app_sg]
theorem cut_lo (x : Str) {p : Int} (h0 : 0 ≤ p) (h1 : p ≤ (sg x).length) : cutS x none (some p) = mk ((sg x).take p.toNat) := by
  obtain ⟨n, rfl⟩ := Int.eq_ofNat_of_zero_le h0
  have hn : n ≤ (sg x).length := by omega
  unfold cutS
  have e1 : HT.sIx x.length 0 none = 0 := rfl
  have e2 : HT.sIx x.length x.length (some (n : Int)) = n := by rw [HT.sIx_nat, len_sg]; omega
  rw [e1, e2]
  rfl
theorem cut_hi (x : Str) {p : Int} (h0 : 0 ≤ p) (h1 : p ≤ (sg x).length) : cutS x (some p) none = mk ((sg x).drop p.toNat) := by
  obtain ⟨n, rfl⟩ := Int.eq_ofNat_of_zero_le h0
  have hn : n ≤ (sg x).length := by omega
  unfold cutS
  have e1 : HT.sIx x.length x.length none = x.length := rfl
  have e2 : HT.sIx x.length 0 (some (n : Int)) = n := by rw [HT.sIx_nat, len_sg]; omega
  rw [e1, e2]
  apply sg_inj
  show ((sg x).drop n).take (x.length - n) = (sg x).drop (n : Int).toNat
  rw [len_sg, Int.toNat_natCast]
  exact List.take_of_length_le (by rw [List.length_drop]; omega)
theorem sslM_of {S : Type} {x : Str} {l h : Option Int} (hx : (sg x).length ≤ 1000) : (sslM x l h : M S Str) = ret (cutS x l h) := by
  unfold sslM
  rw [decide_eq_true (show x.length ≤ sizeLine by rw [len_sg, sline]; omega), grd_true, ret_bnd]
theorem joinE_sg : ∀ ys : List Str, sg (Str.join "" ys) = (ys.map sg).flatten
  | [] => rfl
  | [x] => by
    show sg x = [sg x].flatten
    simp
  | x :: y :: r => by
    show sg (x ++ "" ++ Str.join "" (y :: r)) = _
    rw [sg_app, sg_app, joinE_sg (y :: r), List.map_cons, List.flatten_cons]
    have e : sg "" = [] := by decide +kernel
    rw [e, List.append_nil]
    rfl
theorem joinM_of {S : Type} {ys : List Str} (h1 : ∀ y ∈ ys, (sg y).length = 1) (h2 : ys.length ≤ 1000) : (joinM "" ys : M S Str) = ret (mk (ys.map sg).flatten) := by
  have e0 : ("" : Str).length = 0 := by decide +kernel
  have es : (ys.map (·.length)).sum = ys.length := by
    clear h2
    induction ys with
    | nil => rfl
    | cons y ys ih =>
      rw [List.map_cons, List.sum_cons, List.length_cons, ih fun z hz => h1 z (List.mem_cons_of_mem _ hz), len_sg, h1 y List.mem_cons_self]
      omega
  unfold joinM
  rw [decide_eq_true (by rw [es, e0]; omega), grd_true, ret_bnd]
  congr 1
  apply sg_inj
  show sg (Txt.join "" ys) = _
  rw [TL.join_eq, joinE_sg, sg_mk]
/-! ### lists -/
theorem nd_ix {α : Type} {l : List α} (h : ∀ (i j : Nat) (x y : α), i < j → l[i]? = some x → l[j]? = some y → x ≠ y) : l.Nodup := by
  refine List.pairwise_iff_getElem.mpr fun i j hi hj hij => ?_
  exact h i j _ _ hij (List.getElem?_eq_getElem hi) (List.getElem?_eq_getElem hj)
theorem ix_nd {α : Type} {l : List α} (nd : l.Nodup) {i j : Nat} {x : α} (h1 : l[i]? = some x) (h2 : l[j]? = some x) : i = j := by
  obtain ⟨a1, b1⟩ := List.getElem?_eq_some_iff.mp h1
  obtain ⟨a2, b2⟩ := List.getElem?_eq_some_iff.mp h2
  rcases Nat.lt_trichotomy i j with h | h | h
  · exact absurd (b1.trans b2.symm) (List.pairwise_iff_getElem.mp nd i j a1 a2 h)
  · exact h
  · exact absurd (b2.trans b1.symm) (List.pairwise_iff_getElem.mp nd j i a2 a1 h)
theorem nd_set {α : Type} {l : List α} (nd : l.Nodup) {w : α} (h : w ∉ l) (k : Nat) : (l.set k w).Nodup := by
  refine nd_ix fun i j x y hij h1 h2 => ?_
  rcases set_at h1 with ⟨rfl, e1⟩ | ⟨n1, e1⟩
  · rcases set_at h2 with ⟨e, _⟩ | ⟨n2, e2⟩
    · omega
    · rw [← e1]
      exact fun z => h (by rw [z]; exact List.mem_of_getElem? e2)
  · rcases set_at h2 with ⟨rfl, e2⟩ | ⟨n2, e2⟩
    · rw [← e2]
      exact fun z => h (by rw [← z]; exact List.mem_of_getElem? e1)
    · exact fun z => by
        rw [← z] at e2
        have := ix_nd nd e1 e2
        omega
theorem mem_set {α : Type} {l : List α} {k : Nat} {w x : α} (h : x ∈ l.set k w) : x = w ∨ x ∈ l := by
  rcases List.mem_or_eq_of_mem_set h with z | z
  · exact .inr z
  · exact .inl z
theorem setM_of {S α : Type} {xs : List α} {i : Int} {x : α} (h0 : 0 ≤ i) (h1 : i < xs.length) : (setM xs i x : M S (List α)) = ret (xs.set i.toNat x) := by
  unfold setM
  have e : ixN xs.length i = some i.toNat := by
    unfold ixN
    rw [if_pos h0, if_pos h1]
  rw [e, opt_some, ret_bnd]
theorem appM_of {S α : Type} {xs : List α} {x : α} (h : xs.length ≤ 1000) : (appM xs x : M S (List α)) = ret (xs ++ [x]) := by
  unfold appM
  rw [decide_eq_true (show xs.length < sizeLine by rw [sline]; omega), grd_true, ret_bnd]
theorem rangeM_of {S : Type} {n : Int} (h0 : 0 ≤ n) (h1 : n ≤ 1000000) : (rangeM 0 n : M S (List Int)) = ret ((List.range n.toNat).map fun (i : Nat) => (i : Int)) := by
  unfold rangeM
  rw [show (decide (-(2 ^ 62) ≤ (0 : Int)) && decide ((0 : Int) < 2 ^ 62) && decide (-(2 ^ 62) ≤ n) && decide (n < 2 ^ 62)) = true from by
    simp only [Bool.and_eq_true, decide_eq_true_eq]
    omega, grd_true, ret_bnd]
  congr 1
  rw [show (n - 0).toNat = n.toNat by omega]
  exact List.map_congr_left fun i _ => by omega
theorem modM_of {S : Type} {x y : Int} (h : 0 < y) : (modM x y : M S Int) = ret (x % y) := by
  unfold modM
  rw [decide_eq_true h, grd_true, ret_bnd]
theorem mulM_of {S : Type} {x y : Int} (h : -(2 ^ 64) < x) (h2 : x < 2 ^ 64) : (mulM x y : M S Int) = ret (x * y) := by
  unfold mulM small64B
  rw [decide_eq_true h, decide_eq_true h2]
  rfl
theorem fdivM_of {S : Type} {x y : Int} (h : 0 < y) (h2 : y < 1073741824) : (fdivM x y : M S Int) = ret (x / y) := by
  unfold fdivM
  rw [decide_eq_true h, decide_eq_true h2]
  rfl
end DL
set_option Elab.async false
set_option linter.all false
set_option maxRecDepth 100000
set_option maxHeartbeats 4000000
set_option synthInstance.maxHeartbeats 400000
set_option synthInstance.maxSize 2000
namespace Lw
open PySem PySem.Spec PyProof.Rows L2 DL
def exvs : List Str := ["InvalidColumn", "InvalidKind", "InvalidCycle", "UnknownName", "InvalidImage", "OtherCycle", "WrongState", "InvalidValues", "BatchOpen", "BatchClosed", "NoRow", "NoMoment", "InvalidRecord", "Unchained", "BadEntry", "BadPicture", "BrokenChain", "UnlikeImages", "Unplaced", "Finished", "OneWay"]
def ts_BadEntry : List Str := ["BadEntry"]
def ts_BadPicture : List Str := ["BadPicture"]
def ts_BatchClosed : List Str := ["BatchClosed"]
def ts_BatchOpen : List Str := ["BatchOpen"]
def ts_BrokenChain : List Str := ["BrokenChain"]
def ts_FeedError : List Str := ["InvalidColumn", "InvalidKind", "InvalidCycle", "UnknownName", "InvalidImage", "OtherCycle", "WrongState", "InvalidValues", "BatchOpen", "BatchClosed", "NoRow", "NoMoment", "InvalidRecord", "Unchained", "BadEntry", "BadPicture", "BrokenChain", "UnlikeImages", "Unplaced", "Finished", "OneWay"]
def ts_Finished : List Str := ["Finished"]
def ts_InvalidColumn : List Str := ["InvalidColumn"]
def ts_InvalidCycle : List Str := ["InvalidCycle"]
def ts_InvalidImage : List Str := ["InvalidImage"]
def ts_InvalidKind : List Str := ["InvalidKind"]
def ts_InvalidRecord : List Str := ["InvalidRecord"]
def ts_InvalidValues : List Str := ["InvalidValues"]
def ts_NoMoment : List Str := ["NoMoment"]
def ts_NoRow : List Str := ["NoRow"]
def ts_OneWay : List Str := ["OneWay"]
def ts_OtherCycle : List Str := ["OtherCycle"]
def ts_Unchained : List Str := ["Unchained"]
def ts_UnknownName : List Str := ["UnknownName"]
def ts_UnlikeImages : List Str := ["UnlikeImages"]
def ts_Unplaced : List Str := ["Unplaced"]
def ts_WrongState : List Str := ["WrongState"]
structure Txt (K : PySem.W.Frag) (mg : Str → Option Value) : Prop where
  f_ValueError : mg "ValueError" = none
  f_int : mg "int" = none
  f_isinstance : mg "isinstance" = none
  f_len : mg "len" = none
  f_range : mg "range" = none
  xf_Unplaced : XfC K (He.ga K "Unplaced")
  xn_Unplaced_key : PySem.W.findIn K (.ref (He.ga K "Unplaced")) "key" = some none
  xn_Unplaced_reasons : PySem.W.findIn K (.ref (He.ga K "Unplaced")) "reasons" = some none
  vg_BadEntry : mg "BadEntry" = some (.ref (He.ga K "BadEntry"))
  vg_BadPicture : mg "BadPicture" = some (.ref (He.ga K "BadPicture"))
  vg_BatchClosed : mg "BatchClosed" = some (.ref (He.ga K "BatchClosed"))
  vg_BatchOpen : mg "BatchOpen" = some (.ref (He.ga K "BatchOpen"))
  vg_BrokenChain : mg "BrokenChain" = some (.ref (He.ga K "BrokenChain"))
  vg_FeedError : mg "FeedError" = some (.ref (He.ga K "FeedError"))
  vg_Finished : mg "Finished" = some (.ref (He.ga K "Finished"))
  vg_InvalidColumn : mg "InvalidColumn" = some (.ref (He.ga K "InvalidColumn"))
  vg_InvalidCycle : mg "InvalidCycle" = some (.ref (He.ga K "InvalidCycle"))
  vg_InvalidImage : mg "InvalidImage" = some (.ref (He.ga K "InvalidImage"))
  vg_InvalidKind : mg "InvalidKind" = some (.ref (He.ga K "InvalidKind"))
  vg_InvalidRecord : mg "InvalidRecord" = some (.ref (He.ga K "InvalidRecord"))
  vg_InvalidValues : mg "InvalidValues" = some (.ref (He.ga K "InvalidValues"))
  vg_NoMoment : mg "NoMoment" = some (.ref (He.ga K "NoMoment"))
  vg_NoRow : mg "NoRow" = some (.ref (He.ga K "NoRow"))
  vg_OneWay : mg "OneWay" = some (.ref (He.ga K "OneWay"))
  vg_OtherCycle : mg "OtherCycle" = some (.ref (He.ga K "OtherCycle"))
  vg_Unchained : mg "Unchained" = some (.ref (He.ga K "Unchained"))
  vg_UnknownName : mg "UnknownName" = some (.ref (He.ga K "UnknownName"))
  vg_UnlikeImages : mg "UnlikeImages" = some (.ref (He.ga K "UnlikeImages"))
  vg_Unplaced : mg "Unplaced" = some (.ref (He.ga K "Unplaced"))
  vg_WrongState : mg "WrongState" = some (.ref (He.ga K "WrongState"))
  v_ok : ∀ c ∈ exvs, ExcC K (He.ga K c)
  vi_BadEntry : ∀ c ∈ exvs, PySem.W.kitOne K (.ref (He.ga K c)) (.ref (He.ga K "BadEntry")) = some (List.contains ts_BadEntry c)
  vi_BadPicture : ∀ c ∈ exvs, PySem.W.kitOne K (.ref (He.ga K c)) (.ref (He.ga K "BadPicture")) = some (List.contains ts_BadPicture c)
  vi_BatchClosed : ∀ c ∈ exvs, PySem.W.kitOne K (.ref (He.ga K c)) (.ref (He.ga K "BatchClosed")) = some (List.contains ts_BatchClosed c)
  vi_BatchOpen : ∀ c ∈ exvs, PySem.W.kitOne K (.ref (He.ga K c)) (.ref (He.ga K "BatchOpen")) = some (List.contains ts_BatchOpen c)
  vi_BrokenChain : ∀ c ∈ exvs, PySem.W.kitOne K (.ref (He.ga K c)) (.ref (He.ga K "BrokenChain")) = some (List.contains ts_BrokenChain c)
  vi_FeedError : ∀ c ∈ exvs, PySem.W.kitOne K (.ref (He.ga K c)) (.ref (He.ga K "FeedError")) = some (List.contains ts_FeedError c)
  vi_Finished : ∀ c ∈ exvs, PySem.W.kitOne K (.ref (He.ga K c)) (.ref (He.ga K "Finished")) = some (List.contains ts_Finished c)
  vi_InvalidColumn : ∀ c ∈ exvs, PySem.W.kitOne K (.ref (He.ga K c)) (.ref (He.ga K "InvalidColumn")) = some (List.contains ts_InvalidColumn c)
  vi_InvalidCycle : ∀ c ∈ exvs, PySem.W.kitOne K (.ref (He.ga K c)) (.ref (He.ga K "InvalidCycle")) = some (List.contains ts_InvalidCycle c)
  vi_InvalidImage : ∀ c ∈ exvs, PySem.W.kitOne K (.ref (He.ga K c)) (.ref (He.ga K "InvalidImage")) = some (List.contains ts_InvalidImage c)
  vi_InvalidKind : ∀ c ∈ exvs, PySem.W.kitOne K (.ref (He.ga K c)) (.ref (He.ga K "InvalidKind")) = some (List.contains ts_InvalidKind c)
  vi_InvalidRecord : ∀ c ∈ exvs, PySem.W.kitOne K (.ref (He.ga K c)) (.ref (He.ga K "InvalidRecord")) = some (List.contains ts_InvalidRecord c)
  vi_InvalidValues : ∀ c ∈ exvs, PySem.W.kitOne K (.ref (He.ga K c)) (.ref (He.ga K "InvalidValues")) = some (List.contains ts_InvalidValues c)
  vi_NoMoment : ∀ c ∈ exvs, PySem.W.kitOne K (.ref (He.ga K c)) (.ref (He.ga K "NoMoment")) = some (List.contains ts_NoMoment c)
  vi_NoRow : ∀ c ∈ exvs, PySem.W.kitOne K (.ref (He.ga K c)) (.ref (He.ga K "NoRow")) = some (List.contains ts_NoRow c)
  vi_OneWay : ∀ c ∈ exvs, PySem.W.kitOne K (.ref (He.ga K c)) (.ref (He.ga K "OneWay")) = some (List.contains ts_OneWay c)
  vi_OtherCycle : ∀ c ∈ exvs, PySem.W.kitOne K (.ref (He.ga K c)) (.ref (He.ga K "OtherCycle")) = some (List.contains ts_OtherCycle c)
  vi_Unchained : ∀ c ∈ exvs, PySem.W.kitOne K (.ref (He.ga K c)) (.ref (He.ga K "Unchained")) = some (List.contains ts_Unchained c)
  vi_UnknownName : ∀ c ∈ exvs, PySem.W.kitOne K (.ref (He.ga K c)) (.ref (He.ga K "UnknownName")) = some (List.contains ts_UnknownName c)
  vi_UnlikeImages : ∀ c ∈ exvs, PySem.W.kitOne K (.ref (He.ga K c)) (.ref (He.ga K "UnlikeImages")) = some (List.contains ts_UnlikeImages c)
  vi_Unplaced : ∀ c ∈ exvs, PySem.W.kitOne K (.ref (He.ga K c)) (.ref (He.ga K "Unplaced")) = some (List.contains ts_Unplaced c)
  vi_WrongState : ∀ c ∈ exvs, PySem.W.kitOne K (.ref (He.ga K c)) (.ref (He.ga K "WrongState")) = some (List.contains ts_WrongState c)
  vb_ValueError : ∀ c ∈ exvs, PySem.W.kitOne K (.ref (He.ga K c)) (.type "ValueError") = some true
  vf_column : ∀ c ∈ (["InvalidImage"] : List Str), XfC K (He.ga K c) ∧ PySem.W.findIn K (.ref (He.ga K c)) "column" = some none
  vf_index : ∀ c ∈ (["InvalidRecord", "BadEntry", "BrokenChain", "UnlikeImages"] : List Str), XfC K (He.ga K c) ∧ PySem.W.findIn K (.ref (He.ga K c)) "index" = some none
  vf_key : ∀ c ∈ (["WrongState", "InvalidValues", "NoRow", "BrokenChain", "UnlikeImages"] : List Str), XfC K (He.ga K c) ∧ PySem.W.findIn K (.ref (He.ga K c)) "key" = some none
  vf_kind : ∀ c ∈ (["InvalidImage", "InvalidValues"] : List Str), XfC K (He.ga K c) ∧ PySem.W.findIn K (.ref (He.ga K c)) "kind" = some none
  vf_moment : ∀ c ∈ (["NoMoment"] : List Str), XfC K (He.ga K c) ∧ PySem.W.findIn K (.ref (He.ga K c)) "moment" = some none
  vf_name : ∀ c ∈ (["InvalidColumn", "InvalidKind", "UnknownName"] : List Str), XfC K (He.ga K c) ∧ PySem.W.findIn K (.ref (He.ga K c)) "name" = some none
  vf_number : ∀ c ∈ (["BadPicture"] : List Str), XfC K (He.ga K c) ∧ PySem.W.findIn K (.ref (He.ga K c)) "number" = some none
  vf_other : ∀ c ∈ (["UnlikeImages"] : List Str), XfC K (He.ga K c) ∧ PySem.W.findIn K (.ref (He.ga K c)) "other" = some none
  vf_side : ∀ c ∈ (["InvalidImage"] : List Str), XfC K (He.ga K c) ∧ PySem.W.findIn K (.ref (He.ga K c)) "side" = some none
  vf_source : ∀ c ∈ (["Unchained"] : List Str), XfC K (He.ga K c) ∧ PySem.W.findIn K (.ref (He.ga K c)) "source" = some none
  vf_state : ∀ c ∈ (["WrongState", "OneWay"] : List Str), XfC K (He.ga K c) ∧ PySem.W.findIn K (.ref (He.ga K c)) "state" = some none
  vf_target : ∀ c ∈ (["Unchained"] : List Str), XfC K (He.ga K c) ∧ PySem.W.findIn K (.ref (He.ga K c)) "target" = some none
abbrev ra_draw (K : PySem.W.Frag) := raDraw
abbrev sp_draw (K : PySem.W.Frag) (mg : Str → Option Value) : Sp := spC mg raDraw (.fz rI) fDraw
abbrev draw_m {S : Type} (b : BagIn S) (n : Int) : M S Int := drawM b n
abbrev st_X_InvalidColumn : Stmt := (inClass (top 2) 0)
theorem sc_X_InvalidColumn : FnScope ["self", "name"] ["self", "name"] (defScope st_X_InvalidColumn) := ⟨rfl, rfl, rfl, by decide +kernel, rfl, by decide +kernel, by decide +kernel⟩
theorem ok_X_InvalidColumn {P : Program} {w : World} {K : PySem.W.Frag} {mg : Str → Option Value} {base : Heap} {f D : Addr} {fd : FuncData} (F : FnP K "__init__" "InvalidColumn.__init__" st_X_InvalidColumn [] [] f fd) (T : OexC K (He.ga K "InvalidColumn")) (hb : mg "FeedError" = some (.ref D)) (vb : VeB K D) (n0 : NoAttr K (He.ga K "InvalidColumn") "name") : FnOk P w K mg base (L2.CX P w) 1 f fd ["self", "name"] (spX (He.ga K "InvalidColumn") ["name"]) := by
  refine F.ok sc_X_InvalidColumn (fun vs H Q E ⟨a, ws, ev, hl, _⟩ => by rw [ev, List.length_cons, hl]; rfl) fun cdv A outer s H vs Q E hr ⟨a, ws, ev, hl, ea, q⟩ => ?_
  subst ev
  obtain ⟨y0, rfl⟩ : ∃ y0, ws = [y0] := by match ws, hl with | [y0], _ => exact ⟨y0, rfl⟩
  refine ⟨_, pss_cons (ps_expr (pe_feinit (by rfl) hb vb (pa_cons (pv 0) (pa_cons pe_str pa_nil)))) (pss_one (ps_ost (pv 0) (pv 1))), ?_⟩
  refine ⟨_, rfl, a, (He.ga K "InvalidColumn"), _, rfl, by simp, T, ea, y0, rfl, _, rfl, a, (He.ga K "InvalidColumn"), rfl, T, n0, .inl ⟨ea, fun dx nd ne => ?_⟩⟩
  have h0a : (upd (upd H dx (exd dx [("name", y0)])) a (exo a (He.ga K "InvalidColumn") (some dx))) a = some (exo a (He.ga K "InvalidColumn") (some dx)) := upd_same
  have h0d : (upd (upd H dx (exd dx [("name", y0)])) a (exo a (He.ga K "InvalidColumn") (some dx))) dx = some (exd dx [("name", y0)]) := by rw [upd_ne ne, upd_same]
  have h0n : ∀ b, b ≠ a → b ≠ dx → (upd (upd H dx (exd dx [("name", y0)])) a (exo a (He.ga K "InvalidColumn") (some dx))) b = H b := fun b h1 h2 => by rw [upd_ne h1, upd_ne h2]
  exact q dx _ nd ne h0a h0d h0n
abbrev st_X_InvalidKind : Stmt := (inClass (top 3) 0)
theorem sc_X_InvalidKind : FnScope ["self", "name"] ["self", "name"] (defScope st_X_InvalidKind) := ⟨rfl, rfl, rfl, by decide +kernel, rfl, by decide +kernel, by decide +kernel⟩
theorem ok_X_InvalidKind {P : Program} {w : World} {K : PySem.W.Frag} {mg : Str → Option Value} {base : Heap} {f D : Addr} {fd : FuncData} (F : FnP K "__init__" "InvalidKind.__init__" st_X_InvalidKind [] [] f fd) (T : OexC K (He.ga K "InvalidKind")) (hb : mg "FeedError" = some (.ref D)) (vb : VeB K D) (n0 : NoAttr K (He.ga K "InvalidKind") "name") : FnOk P w K mg base (L2.CX P w) 1 f fd ["self", "name"] (spX (He.ga K "InvalidKind") ["name"]) := by
  refine F.ok sc_X_InvalidKind (fun vs H Q E ⟨a, ws, ev, hl, _⟩ => by rw [ev, List.length_cons, hl]; rfl) fun cdv A outer s H vs Q E hr ⟨a, ws, ev, hl, ea, q⟩ => ?_
  subst ev
  obtain ⟨y0, rfl⟩ : ∃ y0, ws = [y0] := by match ws, hl with | [y0], _ => exact ⟨y0, rfl⟩
  refine ⟨_, pss_cons (ps_expr (pe_feinit (by rfl) hb vb (pa_cons (pv 0) (pa_cons pe_str pa_nil)))) (pss_one (ps_ost (pv 0) (pv 1))), ?_⟩
  refine ⟨_, rfl, a, (He.ga K "InvalidKind"), _, rfl, by simp, T, ea, y0, rfl, _, rfl, a, (He.ga K "InvalidKind"), rfl, T, n0, .inl ⟨ea, fun dx nd ne => ?_⟩⟩
  have h0a : (upd (upd H dx (exd dx [("name", y0)])) a (exo a (He.ga K "InvalidKind") (some dx))) a = some (exo a (He.ga K "InvalidKind") (some dx)) := upd_same
  have h0d : (upd (upd H dx (exd dx [("name", y0)])) a (exo a (He.ga K "InvalidKind") (some dx))) dx = some (exd dx [("name", y0)]) := by rw [upd_ne ne, upd_same]
  have h0n : ∀ b, b ≠ a → b ≠ dx → (upd (upd H dx (exd dx [("name", y0)])) a (exo a (He.ga K "InvalidKind") (some dx))) b = H b := fun b h1 h2 => by rw [upd_ne h1, upd_ne h2]
  exact q dx _ nd ne h0a h0d h0n
abbrev st_X_UnknownName : Stmt := (inClass (top 5) 0)
theorem sc_X_UnknownName : FnScope ["self", "name"] ["self", "name"] (defScope st_X_UnknownName) := ⟨rfl, rfl, rfl, by decide +kernel, rfl, by decide +kernel, by decide +kernel⟩
theorem ok_X_UnknownName {P : Program} {w : World} {K : PySem.W.Frag} {mg : Str → Option Value} {base : Heap} {f D : Addr} {fd : FuncData} (F : FnP K "__init__" "UnknownName.__init__" st_X_UnknownName [] [] f fd) (T : OexC K (He.ga K "UnknownName")) (hb : mg "FeedError" = some (.ref D)) (vb : VeB K D) (n0 : NoAttr K (He.ga K "UnknownName") "name") : FnOk P w K mg base (L2.CX P w) 1 f fd ["self", "name"] (spX (He.ga K "UnknownName") ["name"]) := by
  refine F.ok sc_X_UnknownName (fun vs H Q E ⟨a, ws, ev, hl, _⟩ => by rw [ev, List.length_cons, hl]; rfl) fun cdv A outer s H vs Q E hr ⟨a, ws, ev, hl, ea, q⟩ => ?_
  subst ev
  obtain ⟨y0, rfl⟩ : ∃ y0, ws = [y0] := by match ws, hl with | [y0], _ => exact ⟨y0, rfl⟩
  refine ⟨_, pss_cons (ps_expr (pe_feinit (by rfl) hb vb (pa_cons (pv 0) (pa_cons pe_str pa_nil)))) (pss_one (ps_ost (pv 0) (pv 1))), ?_⟩
  refine ⟨_, rfl, a, (He.ga K "UnknownName"), _, rfl, by simp, T, ea, y0, rfl, _, rfl, a, (He.ga K "UnknownName"), rfl, T, n0, .inl ⟨ea, fun dx nd ne => ?_⟩⟩
  have h0a : (upd (upd H dx (exd dx [("name", y0)])) a (exo a (He.ga K "UnknownName") (some dx))) a = some (exo a (He.ga K "UnknownName") (some dx)) := upd_same
  have h0d : (upd (upd H dx (exd dx [("name", y0)])) a (exo a (He.ga K "UnknownName") (some dx))) dx = some (exd dx [("name", y0)]) := by rw [upd_ne ne, upd_same]
  have h0n : ∀ b, b ≠ a → b ≠ dx → (upd (upd H dx (exd dx [("name", y0)])) a (exo a (He.ga K "UnknownName") (some dx))) b = H b := fun b h1 h2 => by rw [upd_ne h1, upd_ne h2]
  exact q dx _ nd ne h0a h0d h0n
abbrev st_X_InvalidImage : Stmt := (inClass (top 6) 0)
theorem sc_X_InvalidImage : FnScope ["self", "kind", "side", "column"] ["self", "kind", "side", "column"] (defScope st_X_InvalidImage) := ⟨rfl, rfl, rfl, by decide +kernel, rfl, by decide +kernel, by decide +kernel⟩
theorem ok_X_InvalidImage {P : Program} {w : World} {K : PySem.W.Frag} {mg : Str → Option Value} {base : Heap} {f D : Addr} {fd : FuncData} (F : FnP K "__init__" "InvalidImage.__init__" st_X_InvalidImage [] [] f fd) (T : OexC K (He.ga K "InvalidImage")) (hb : mg "FeedError" = some (.ref D)) (vb : VeB K D) (n0 : NoAttr K (He.ga K "InvalidImage") "kind") (n1 : NoAttr K (He.ga K "InvalidImage") "side") (n2 : NoAttr K (He.ga K "InvalidImage") "column") : FnOk P w K mg base (L2.CX P w) 1 f fd ["self", "kind", "side", "column"] (spX (He.ga K "InvalidImage") ["kind", "side", "column"]) := by
  refine F.ok sc_X_InvalidImage (fun vs H Q E ⟨a, ws, ev, hl, _⟩ => by rw [ev, List.length_cons, hl]; rfl) fun cdv A outer s H vs Q E hr ⟨a, ws, ev, hl, ea, q⟩ => ?_
  subst ev
  obtain ⟨y0, y1, y2, rfl⟩ : ∃ y0 y1 y2, ws = [y0, y1, y2] := by match ws, hl with | [y0, y1, y2], _ => exact ⟨y0, y1, y2, rfl⟩
  refine ⟨_, pss_cons (ps_expr (pe_feinit (by rfl) hb vb (pa_cons (pv 0) (pa_cons pe_str pa_nil)))) (pss_cons (ps_ost (pv 0) (pv 1)) (pss_cons (ps_ost (pv 0) (pv 2)) (pss_one (ps_ost (pv 0) (pv 3))))), ?_⟩
  refine ⟨_, rfl, a, (He.ga K "InvalidImage"), _, rfl, by simp, T, ea, y0, rfl, _, rfl, a, (He.ga K "InvalidImage"), rfl, T, n0, .inl ⟨ea, fun dx nd ne => ?_⟩⟩
  have h0a : (upd (upd H dx (exd dx [("kind", y0)])) a (exo a (He.ga K "InvalidImage") (some dx))) a = some (exo a (He.ga K "InvalidImage") (some dx)) := upd_same
  have h0d : (upd (upd H dx (exd dx [("kind", y0)])) a (exo a (He.ga K "InvalidImage") (some dx))) dx = some (exd dx [("kind", y0)]) := by rw [upd_ne ne, upd_same]
  have h0n : ∀ b, b ≠ a → b ≠ dx → (upd (upd H dx (exd dx [("kind", y0)])) a (exo a (He.ga K "InvalidImage") (some dx))) b = H b := fun b h1 h2 => by rw [upd_ne h1, upd_ne h2]
  refine ⟨y1, rfl, _, rfl, a, (He.ga K "InvalidImage"), rfl, T, n1, .inr ⟨dx, _, h0a, h0d, by exact Nat.le_of_ble_eq_true rfl, ?_⟩⟩
  have h1a : (upd (upd (upd H dx (exd dx [("kind", y0)])) a (exo a (He.ga K "InvalidImage") (some dx))) dx (exd dx (("side", y1) :: [("kind", y0)]))) a = some (exo a (He.ga K "InvalidImage") (some dx)) := by rw [upd_ne (Ne.symm ne)]; exact h0a
  have h1d : (upd (upd (upd H dx (exd dx [("kind", y0)])) a (exo a (He.ga K "InvalidImage") (some dx))) dx (exd dx (("side", y1) :: [("kind", y0)]))) dx = some (exd dx (("side", y1) :: [("kind", y0)])) := upd_same
  have h1n : ∀ b, b ≠ a → b ≠ dx → (upd (upd (upd H dx (exd dx [("kind", y0)])) a (exo a (He.ga K "InvalidImage") (some dx))) dx (exd dx (("side", y1) :: [("kind", y0)]))) b = H b := fun b h1 h2 => by rw [upd_ne h2]; exact h0n b h1 h2
  refine ⟨y2, rfl, _, rfl, a, (He.ga K "InvalidImage"), rfl, T, n2, .inr ⟨dx, _, h1a, h1d, by exact Nat.le_of_ble_eq_true rfl, ?_⟩⟩
  have h2a : (upd (upd (upd (upd H dx (exd dx [("kind", y0)])) a (exo a (He.ga K "InvalidImage") (some dx))) dx (exd dx (("side", y1) :: [("kind", y0)]))) dx (exd dx (("column", y2) :: (("side", y1) :: [("kind", y0)])))) a = some (exo a (He.ga K "InvalidImage") (some dx)) := by rw [upd_ne (Ne.symm ne)]; exact h1a
  have h2d : (upd (upd (upd (upd H dx (exd dx [("kind", y0)])) a (exo a (He.ga K "InvalidImage") (some dx))) dx (exd dx (("side", y1) :: [("kind", y0)]))) dx (exd dx (("column", y2) :: (("side", y1) :: [("kind", y0)])))) dx = some (exd dx (("column", y2) :: (("side", y1) :: [("kind", y0)]))) := upd_same
  have h2n : ∀ b, b ≠ a → b ≠ dx → (upd (upd (upd (upd H dx (exd dx [("kind", y0)])) a (exo a (He.ga K "InvalidImage") (some dx))) dx (exd dx (("side", y1) :: [("kind", y0)]))) dx (exd dx (("column", y2) :: (("side", y1) :: [("kind", y0)])))) b = H b := fun b h1 h2 => by rw [upd_ne h2]; exact h1n b h1 h2
  exact q dx _ nd ne h2a h2d h2n
abbrev st_X_WrongState : Stmt := (inClass (top 8) 0)
theorem sc_X_WrongState : FnScope ["self", "key", "state"] ["self", "key", "state"] (defScope st_X_WrongState) := ⟨rfl, rfl, rfl, by decide +kernel, rfl, by decide +kernel, by decide +kernel⟩
theorem ok_X_WrongState {P : Program} {w : World} {K : PySem.W.Frag} {mg : Str → Option Value} {base : Heap} {f D : Addr} {fd : FuncData} (F : FnP K "__init__" "WrongState.__init__" st_X_WrongState [] [] f fd) (T : OexC K (He.ga K "WrongState")) (hb : mg "FeedError" = some (.ref D)) (vb : VeB K D) (n0 : NoAttr K (He.ga K "WrongState") "key") (n1 : NoAttr K (He.ga K "WrongState") "state") : FnOk P w K mg base (L2.CX P w) 1 f fd ["self", "key", "state"] (spX (He.ga K "WrongState") ["key", "state"]) := by
  refine F.ok sc_X_WrongState (fun vs H Q E ⟨a, ws, ev, hl, _⟩ => by rw [ev, List.length_cons, hl]; rfl) fun cdv A outer s H vs Q E hr ⟨a, ws, ev, hl, ea, q⟩ => ?_
  subst ev
  obtain ⟨y0, y1, rfl⟩ : ∃ y0 y1, ws = [y0, y1] := by match ws, hl with | [y0, y1], _ => exact ⟨y0, y1, rfl⟩
  refine ⟨_, pss_cons (ps_expr (pe_feinit (by rfl) hb vb (pa_cons (pv 0) (pa_cons pe_str pa_nil)))) (pss_cons (ps_ost (pv 0) (pv 1)) (pss_one (ps_ost (pv 0) (pv 2)))), ?_⟩
  refine ⟨_, rfl, a, (He.ga K "WrongState"), _, rfl, by simp, T, ea, y0, rfl, _, rfl, a, (He.ga K "WrongState"), rfl, T, n0, .inl ⟨ea, fun dx nd ne => ?_⟩⟩
  have h0a : (upd (upd H dx (exd dx [("key", y0)])) a (exo a (He.ga K "WrongState") (some dx))) a = some (exo a (He.ga K "WrongState") (some dx)) := upd_same
  have h0d : (upd (upd H dx (exd dx [("key", y0)])) a (exo a (He.ga K "WrongState") (some dx))) dx = some (exd dx [("key", y0)]) := by rw [upd_ne ne, upd_same]
  have h0n : ∀ b, b ≠ a → b ≠ dx → (upd (upd H dx (exd dx [("key", y0)])) a (exo a (He.ga K "WrongState") (some dx))) b = H b := fun b h1 h2 => by rw [upd_ne h1, upd_ne h2]
  refine ⟨y1, rfl, _, rfl, a, (He.ga K "WrongState"), rfl, T, n1, .inr ⟨dx, _, h0a, h0d, by exact Nat.le_of_ble_eq_true rfl, ?_⟩⟩
  have h1a : (upd (upd (upd H dx (exd dx [("key", y0)])) a (exo a (He.ga K "WrongState") (some dx))) dx (exd dx (("state", y1) :: [("key", y0)]))) a = some (exo a (He.ga K "WrongState") (some dx)) := by rw [upd_ne (Ne.symm ne)]; exact h0a
  have h1d : (upd (upd (upd H dx (exd dx [("key", y0)])) a (exo a (He.ga K "WrongState") (some dx))) dx (exd dx (("state", y1) :: [("key", y0)]))) dx = some (exd dx (("state", y1) :: [("key", y0)])) := upd_same
  have h1n : ∀ b, b ≠ a → b ≠ dx → (upd (upd (upd H dx (exd dx [("key", y0)])) a (exo a (He.ga K "WrongState") (some dx))) dx (exd dx (("state", y1) :: [("key", y0)]))) b = H b := fun b h1 h2 => by rw [upd_ne h2]; exact h0n b h1 h2
  exact q dx _ nd ne h1a h1d h1n
abbrev st_X_InvalidValues : Stmt := (inClass (top 9) 0)
theorem sc_X_InvalidValues : FnScope ["self", "key", "kind"] ["self", "key", "kind"] (defScope st_X_InvalidValues) := ⟨rfl, rfl, rfl, by decide +kernel, rfl, by decide +kernel, by decide +kernel⟩
theorem ok_X_InvalidValues {P : Program} {w : World} {K : PySem.W.Frag} {mg : Str → Option Value} {base : Heap} {f D : Addr} {fd : FuncData} (F : FnP K "__init__" "InvalidValues.__init__" st_X_InvalidValues [] [] f fd) (T : OexC K (He.ga K "InvalidValues")) (hb : mg "FeedError" = some (.ref D)) (vb : VeB K D) (n0 : NoAttr K (He.ga K "InvalidValues") "key") (n1 : NoAttr K (He.ga K "InvalidValues") "kind") : FnOk P w K mg base (L2.CX P w) 1 f fd ["self", "key", "kind"] (spX (He.ga K "InvalidValues") ["key", "kind"]) := by
  refine F.ok sc_X_InvalidValues (fun vs H Q E ⟨a, ws, ev, hl, _⟩ => by rw [ev, List.length_cons, hl]; rfl) fun cdv A outer s H vs Q E hr ⟨a, ws, ev, hl, ea, q⟩ => ?_
  subst ev
  obtain ⟨y0, y1, rfl⟩ : ∃ y0 y1, ws = [y0, y1] := by match ws, hl with | [y0, y1], _ => exact ⟨y0, y1, rfl⟩
  refine ⟨_, pss_cons (ps_expr (pe_feinit (by rfl) hb vb (pa_cons (pv 0) (pa_cons pe_str pa_nil)))) (pss_cons (ps_ost (pv 0) (pv 1)) (pss_one (ps_ost (pv 0) (pv 2)))), ?_⟩
  refine ⟨_, rfl, a, (He.ga K "InvalidValues"), _, rfl, by simp, T, ea, y0, rfl, _, rfl, a, (He.ga K "InvalidValues"), rfl, T, n0, .inl ⟨ea, fun dx nd ne => ?_⟩⟩
  have h0a : (upd (upd H dx (exd dx [("key", y0)])) a (exo a (He.ga K "InvalidValues") (some dx))) a = some (exo a (He.ga K "InvalidValues") (some dx)) := upd_same
  have h0d : (upd (upd H dx (exd dx [("key", y0)])) a (exo a (He.ga K "InvalidValues") (some dx))) dx = some (exd dx [("key", y0)]) := by rw [upd_ne ne, upd_same]
  have h0n : ∀ b, b ≠ a → b ≠ dx → (upd (upd H dx (exd dx [("key", y0)])) a (exo a (He.ga K "InvalidValues") (some dx))) b = H b := fun b h1 h2 => by rw [upd_ne h1, upd_ne h2]
  refine ⟨y1, rfl, _, rfl, a, (He.ga K "InvalidValues"), rfl, T, n1, .inr ⟨dx, _, h0a, h0d, by exact Nat.le_of_ble_eq_true rfl, ?_⟩⟩
  have h1a : (upd (upd (upd H dx (exd dx [("key", y0)])) a (exo a (He.ga K "InvalidValues") (some dx))) dx (exd dx (("kind", y1) :: [("key", y0)]))) a = some (exo a (He.ga K "InvalidValues") (some dx)) := by rw [upd_ne (Ne.symm ne)]; exact h0a
  have h1d : (upd (upd (upd H dx (exd dx [("key", y0)])) a (exo a (He.ga K "InvalidValues") (some dx))) dx (exd dx (("kind", y1) :: [("key", y0)]))) dx = some (exd dx (("kind", y1) :: [("key", y0)])) := upd_same
  have h1n : ∀ b, b ≠ a → b ≠ dx → (upd (upd (upd H dx (exd dx [("key", y0)])) a (exo a (He.ga K "InvalidValues") (some dx))) dx (exd dx (("kind", y1) :: [("key", y0)]))) b = H b := fun b h1 h2 => by rw [upd_ne h2]; exact h0n b h1 h2
  exact q dx _ nd ne h1a h1d h1n
abbrev st_X_NoRow : Stmt := (inClass (top 12) 0)
theorem sc_X_NoRow : FnScope ["self", "key"] ["self", "key"] (defScope st_X_NoRow) := ⟨rfl, rfl, rfl, by decide +kernel, rfl, by decide +kernel, by decide +kernel⟩
theorem ok_X_NoRow {P : Program} {w : World} {K : PySem.W.Frag} {mg : Str → Option Value} {base : Heap} {f D : Addr} {fd : FuncData} (F : FnP K "__init__" "NoRow.__init__" st_X_NoRow [] [] f fd) (T : OexC K (He.ga K "NoRow")) (hb : mg "FeedError" = some (.ref D)) (vb : VeB K D) (n0 : NoAttr K (He.ga K "NoRow") "key") : FnOk P w K mg base (L2.CX P w) 1 f fd ["self", "key"] (spX (He.ga K "NoRow") ["key"]) := by
  refine F.ok sc_X_NoRow (fun vs H Q E ⟨a, ws, ev, hl, _⟩ => by rw [ev, List.length_cons, hl]; rfl) fun cdv A outer s H vs Q E hr ⟨a, ws, ev, hl, ea, q⟩ => ?_
  subst ev
  obtain ⟨y0, rfl⟩ : ∃ y0, ws = [y0] := by match ws, hl with | [y0], _ => exact ⟨y0, rfl⟩
  refine ⟨_, pss_cons (ps_expr (pe_feinit (by rfl) hb vb (pa_cons (pv 0) (pa_cons pe_str pa_nil)))) (pss_one (ps_ost (pv 0) (pv 1))), ?_⟩
  refine ⟨_, rfl, a, (He.ga K "NoRow"), _, rfl, by simp, T, ea, y0, rfl, _, rfl, a, (He.ga K "NoRow"), rfl, T, n0, .inl ⟨ea, fun dx nd ne => ?_⟩⟩
  have h0a : (upd (upd H dx (exd dx [("key", y0)])) a (exo a (He.ga K "NoRow") (some dx))) a = some (exo a (He.ga K "NoRow") (some dx)) := upd_same
  have h0d : (upd (upd H dx (exd dx [("key", y0)])) a (exo a (He.ga K "NoRow") (some dx))) dx = some (exd dx [("key", y0)]) := by rw [upd_ne ne, upd_same]
  have h0n : ∀ b, b ≠ a → b ≠ dx → (upd (upd H dx (exd dx [("key", y0)])) a (exo a (He.ga K "NoRow") (some dx))) b = H b := fun b h1 h2 => by rw [upd_ne h1, upd_ne h2]
  exact q dx _ nd ne h0a h0d h0n
abbrev st_X_NoMoment : Stmt := (inClass (top 13) 0)
theorem sc_X_NoMoment : FnScope ["self", "moment"] ["self", "moment"] (defScope st_X_NoMoment) := ⟨rfl, rfl, rfl, by decide +kernel, rfl, by decide +kernel, by decide +kernel⟩
theorem ok_X_NoMoment {P : Program} {w : World} {K : PySem.W.Frag} {mg : Str → Option Value} {base : Heap} {f D : Addr} {fd : FuncData} (F : FnP K "__init__" "NoMoment.__init__" st_X_NoMoment [] [] f fd) (T : OexC K (He.ga K "NoMoment")) (hb : mg "FeedError" = some (.ref D)) (vb : VeB K D) (n0 : NoAttr K (He.ga K "NoMoment") "moment") : FnOk P w K mg base (L2.CX P w) 1 f fd ["self", "moment"] (spX (He.ga K "NoMoment") ["moment"]) := by
  refine F.ok sc_X_NoMoment (fun vs H Q E ⟨a, ws, ev, hl, _⟩ => by rw [ev, List.length_cons, hl]; rfl) fun cdv A outer s H vs Q E hr ⟨a, ws, ev, hl, ea, q⟩ => ?_
  subst ev
  obtain ⟨y0, rfl⟩ : ∃ y0, ws = [y0] := by match ws, hl with | [y0], _ => exact ⟨y0, rfl⟩
  refine ⟨_, pss_cons (ps_expr (pe_feinit (by rfl) hb vb (pa_cons (pv 0) (pa_cons pe_str pa_nil)))) (pss_one (ps_ost (pv 0) (pv 1))), ?_⟩
  refine ⟨_, rfl, a, (He.ga K "NoMoment"), _, rfl, by simp, T, ea, y0, rfl, _, rfl, a, (He.ga K "NoMoment"), rfl, T, n0, .inl ⟨ea, fun dx nd ne => ?_⟩⟩
  have h0a : (upd (upd H dx (exd dx [("moment", y0)])) a (exo a (He.ga K "NoMoment") (some dx))) a = some (exo a (He.ga K "NoMoment") (some dx)) := upd_same
  have h0d : (upd (upd H dx (exd dx [("moment", y0)])) a (exo a (He.ga K "NoMoment") (some dx))) dx = some (exd dx [("moment", y0)]) := by rw [upd_ne ne, upd_same]
  have h0n : ∀ b, b ≠ a → b ≠ dx → (upd (upd H dx (exd dx [("moment", y0)])) a (exo a (He.ga K "NoMoment") (some dx))) b = H b := fun b h1 h2 => by rw [upd_ne h1, upd_ne h2]
  exact q dx _ nd ne h0a h0d h0n
abbrev st_X_InvalidRecord : Stmt := (inClass (top 14) 0)
theorem sc_X_InvalidRecord : FnScope ["self", "index"] ["self", "index"] (defScope st_X_InvalidRecord) := ⟨rfl, rfl, rfl, by decide +kernel, rfl, by decide +kernel, by decide +kernel⟩
theorem ok_X_InvalidRecord {P : Program} {w : World} {K : PySem.W.Frag} {mg : Str → Option Value} {base : Heap} {f D : Addr} {fd : FuncData} (F : FnP K "__init__" "InvalidRecord.__init__" st_X_InvalidRecord [] [] f fd) (T : OexC K (He.ga K "InvalidRecord")) (hb : mg "FeedError" = some (.ref D)) (vb : VeB K D) (n0 : NoAttr K (He.ga K "InvalidRecord") "index") : FnOk P w K mg base (L2.CX P w) 1 f fd ["self", "index"] (spX (He.ga K "InvalidRecord") ["index"]) := by
  refine F.ok sc_X_InvalidRecord (fun vs H Q E ⟨a, ws, ev, hl, _⟩ => by rw [ev, List.length_cons, hl]; rfl) fun cdv A outer s H vs Q E hr ⟨a, ws, ev, hl, ea, q⟩ => ?_
  subst ev
  obtain ⟨y0, rfl⟩ : ∃ y0, ws = [y0] := by match ws, hl with | [y0], _ => exact ⟨y0, rfl⟩
  refine ⟨_, pss_cons (ps_expr (pe_feinit (by rfl) hb vb (pa_cons (pv 0) (pa_cons pe_str pa_nil)))) (pss_one (ps_ost (pv 0) (pv 1))), ?_⟩
  refine ⟨_, rfl, a, (He.ga K "InvalidRecord"), _, rfl, by simp, T, ea, y0, rfl, _, rfl, a, (He.ga K "InvalidRecord"), rfl, T, n0, .inl ⟨ea, fun dx nd ne => ?_⟩⟩
  have h0a : (upd (upd H dx (exd dx [("index", y0)])) a (exo a (He.ga K "InvalidRecord") (some dx))) a = some (exo a (He.ga K "InvalidRecord") (some dx)) := upd_same
  have h0d : (upd (upd H dx (exd dx [("index", y0)])) a (exo a (He.ga K "InvalidRecord") (some dx))) dx = some (exd dx [("index", y0)]) := by rw [upd_ne ne, upd_same]
  have h0n : ∀ b, b ≠ a → b ≠ dx → (upd (upd H dx (exd dx [("index", y0)])) a (exo a (He.ga K "InvalidRecord") (some dx))) b = H b := fun b h1 h2 => by rw [upd_ne h1, upd_ne h2]
  exact q dx _ nd ne h0a h0d h0n
abbrev st_X_Unchained : Stmt := (inClass (top 15) 0)
theorem sc_X_Unchained : FnScope ["self", "target", "source"] ["self", "target", "source"] (defScope st_X_Unchained) := ⟨rfl, rfl, rfl, by decide +kernel, rfl, by decide +kernel, by decide +kernel⟩
theorem ok_X_Unchained {P : Program} {w : World} {K : PySem.W.Frag} {mg : Str → Option Value} {base : Heap} {f D : Addr} {fd : FuncData} (F : FnP K "__init__" "Unchained.__init__" st_X_Unchained [] [] f fd) (T : OexC K (He.ga K "Unchained")) (hb : mg "FeedError" = some (.ref D)) (vb : VeB K D) (n0 : NoAttr K (He.ga K "Unchained") "target") (n1 : NoAttr K (He.ga K "Unchained") "source") : FnOk P w K mg base (L2.CX P w) 1 f fd ["self", "target", "source"] (spX (He.ga K "Unchained") ["target", "source"]) := by
  refine F.ok sc_X_Unchained (fun vs H Q E ⟨a, ws, ev, hl, _⟩ => by rw [ev, List.length_cons, hl]; rfl) fun cdv A outer s H vs Q E hr ⟨a, ws, ev, hl, ea, q⟩ => ?_
  subst ev
  obtain ⟨y0, y1, rfl⟩ : ∃ y0 y1, ws = [y0, y1] := by match ws, hl with | [y0, y1], _ => exact ⟨y0, y1, rfl⟩
  refine ⟨_, pss_cons (ps_expr (pe_feinit (by rfl) hb vb (pa_cons (pv 0) (pa_cons pe_str pa_nil)))) (pss_cons (ps_ost (pv 0) (pv 1)) (pss_one (ps_ost (pv 0) (pv 2)))), ?_⟩
  refine ⟨_, rfl, a, (He.ga K "Unchained"), _, rfl, by simp, T, ea, y0, rfl, _, rfl, a, (He.ga K "Unchained"), rfl, T, n0, .inl ⟨ea, fun dx nd ne => ?_⟩⟩
  have h0a : (upd (upd H dx (exd dx [("target", y0)])) a (exo a (He.ga K "Unchained") (some dx))) a = some (exo a (He.ga K "Unchained") (some dx)) := upd_same
  have h0d : (upd (upd H dx (exd dx [("target", y0)])) a (exo a (He.ga K "Unchained") (some dx))) dx = some (exd dx [("target", y0)]) := by rw [upd_ne ne, upd_same]
  have h0n : ∀ b, b ≠ a → b ≠ dx → (upd (upd H dx (exd dx [("target", y0)])) a (exo a (He.ga K "Unchained") (some dx))) b = H b := fun b h1 h2 => by rw [upd_ne h1, upd_ne h2]
  refine ⟨y1, rfl, _, rfl, a, (He.ga K "Unchained"), rfl, T, n1, .inr ⟨dx, _, h0a, h0d, by exact Nat.le_of_ble_eq_true rfl, ?_⟩⟩
  have h1a : (upd (upd (upd H dx (exd dx [("target", y0)])) a (exo a (He.ga K "Unchained") (some dx))) dx (exd dx (("source", y1) :: [("target", y0)]))) a = some (exo a (He.ga K "Unchained") (some dx)) := by rw [upd_ne (Ne.symm ne)]; exact h0a
  have h1d : (upd (upd (upd H dx (exd dx [("target", y0)])) a (exo a (He.ga K "Unchained") (some dx))) dx (exd dx (("source", y1) :: [("target", y0)]))) dx = some (exd dx (("source", y1) :: [("target", y0)])) := upd_same
  have h1n : ∀ b, b ≠ a → b ≠ dx → (upd (upd (upd H dx (exd dx [("target", y0)])) a (exo a (He.ga K "Unchained") (some dx))) dx (exd dx (("source", y1) :: [("target", y0)]))) b = H b := fun b h1 h2 => by rw [upd_ne h2]; exact h0n b h1 h2
  exact q dx _ nd ne h1a h1d h1n
abbrev st_X_BadEntry : Stmt := (inClass (top 16) 0)
theorem sc_X_BadEntry : FnScope ["self", "index"] ["self", "index"] (defScope st_X_BadEntry) := ⟨rfl, rfl, rfl, by decide +kernel, rfl, by decide +kernel, by decide +kernel⟩
theorem ok_X_BadEntry {P : Program} {w : World} {K : PySem.W.Frag} {mg : Str → Option Value} {base : Heap} {f D : Addr} {fd : FuncData} (F : FnP K "__init__" "BadEntry.__init__" st_X_BadEntry [] [] f fd) (T : OexC K (He.ga K "BadEntry")) (hb : mg "FeedError" = some (.ref D)) (vb : VeB K D) (n0 : NoAttr K (He.ga K "BadEntry") "index") : FnOk P w K mg base (L2.CX P w) 1 f fd ["self", "index"] (spX (He.ga K "BadEntry") ["index"]) := by
  refine F.ok sc_X_BadEntry (fun vs H Q E ⟨a, ws, ev, hl, _⟩ => by rw [ev, List.length_cons, hl]; rfl) fun cdv A outer s H vs Q E hr ⟨a, ws, ev, hl, ea, q⟩ => ?_
  subst ev
  obtain ⟨y0, rfl⟩ : ∃ y0, ws = [y0] := by match ws, hl with | [y0], _ => exact ⟨y0, rfl⟩
  refine ⟨_, pss_cons (ps_expr (pe_feinit (by rfl) hb vb (pa_cons (pv 0) (pa_cons pe_str pa_nil)))) (pss_one (ps_ost (pv 0) (pv 1))), ?_⟩
  refine ⟨_, rfl, a, (He.ga K "BadEntry"), _, rfl, by simp, T, ea, y0, rfl, _, rfl, a, (He.ga K "BadEntry"), rfl, T, n0, .inl ⟨ea, fun dx nd ne => ?_⟩⟩
  have h0a : (upd (upd H dx (exd dx [("index", y0)])) a (exo a (He.ga K "BadEntry") (some dx))) a = some (exo a (He.ga K "BadEntry") (some dx)) := upd_same
  have h0d : (upd (upd H dx (exd dx [("index", y0)])) a (exo a (He.ga K "BadEntry") (some dx))) dx = some (exd dx [("index", y0)]) := by rw [upd_ne ne, upd_same]
  have h0n : ∀ b, b ≠ a → b ≠ dx → (upd (upd H dx (exd dx [("index", y0)])) a (exo a (He.ga K "BadEntry") (some dx))) b = H b := fun b h1 h2 => by rw [upd_ne h1, upd_ne h2]
  exact q dx _ nd ne h0a h0d h0n
abbrev st_X_BadPicture : Stmt := (inClass (top 17) 0)
theorem sc_X_BadPicture : FnScope ["self", "number"] ["self", "number"] (defScope st_X_BadPicture) := ⟨rfl, rfl, rfl, by decide +kernel, rfl, by decide +kernel, by decide +kernel⟩
theorem ok_X_BadPicture {P : Program} {w : World} {K : PySem.W.Frag} {mg : Str → Option Value} {base : Heap} {f D : Addr} {fd : FuncData} (F : FnP K "__init__" "BadPicture.__init__" st_X_BadPicture [] [] f fd) (T : OexC K (He.ga K "BadPicture")) (hb : mg "FeedError" = some (.ref D)) (vb : VeB K D) (n0 : NoAttr K (He.ga K "BadPicture") "number") : FnOk P w K mg base (L2.CX P w) 1 f fd ["self", "number"] (spX (He.ga K "BadPicture") ["number"]) := by
  refine F.ok sc_X_BadPicture (fun vs H Q E ⟨a, ws, ev, hl, _⟩ => by rw [ev, List.length_cons, hl]; rfl) fun cdv A outer s H vs Q E hr ⟨a, ws, ev, hl, ea, q⟩ => ?_
  subst ev
  obtain ⟨y0, rfl⟩ : ∃ y0, ws = [y0] := by match ws, hl with | [y0], _ => exact ⟨y0, rfl⟩
  refine ⟨_, pss_cons (ps_expr (pe_feinit (by rfl) hb vb (pa_cons (pv 0) (pa_cons pe_str pa_nil)))) (pss_one (ps_ost (pv 0) (pv 1))), ?_⟩
  refine ⟨_, rfl, a, (He.ga K "BadPicture"), _, rfl, by simp, T, ea, y0, rfl, _, rfl, a, (He.ga K "BadPicture"), rfl, T, n0, .inl ⟨ea, fun dx nd ne => ?_⟩⟩
  have h0a : (upd (upd H dx (exd dx [("number", y0)])) a (exo a (He.ga K "BadPicture") (some dx))) a = some (exo a (He.ga K "BadPicture") (some dx)) := upd_same
  have h0d : (upd (upd H dx (exd dx [("number", y0)])) a (exo a (He.ga K "BadPicture") (some dx))) dx = some (exd dx [("number", y0)]) := by rw [upd_ne ne, upd_same]
  have h0n : ∀ b, b ≠ a → b ≠ dx → (upd (upd H dx (exd dx [("number", y0)])) a (exo a (He.ga K "BadPicture") (some dx))) b = H b := fun b h1 h2 => by rw [upd_ne h1, upd_ne h2]
  exact q dx _ nd ne h0a h0d h0n
abbrev st_X_BrokenChain : Stmt := (inClass (top 18) 0)
theorem sc_X_BrokenChain : FnScope ["self", "key", "index"] ["self", "key", "index"] (defScope st_X_BrokenChain) := ⟨rfl, rfl, rfl, by decide +kernel, rfl, by decide +kernel, by decide +kernel⟩
theorem ok_X_BrokenChain {P : Program} {w : World} {K : PySem.W.Frag} {mg : Str → Option Value} {base : Heap} {f D : Addr} {fd : FuncData} (F : FnP K "__init__" "BrokenChain.__init__" st_X_BrokenChain [] [] f fd) (T : OexC K (He.ga K "BrokenChain")) (hb : mg "FeedError" = some (.ref D)) (vb : VeB K D) (n0 : NoAttr K (He.ga K "BrokenChain") "key") (n1 : NoAttr K (He.ga K "BrokenChain") "index") : FnOk P w K mg base (L2.CX P w) 1 f fd ["self", "key", "index"] (spX (He.ga K "BrokenChain") ["key", "index"]) := by
  refine F.ok sc_X_BrokenChain (fun vs H Q E ⟨a, ws, ev, hl, _⟩ => by rw [ev, List.length_cons, hl]; rfl) fun cdv A outer s H vs Q E hr ⟨a, ws, ev, hl, ea, q⟩ => ?_
  subst ev
  obtain ⟨y0, y1, rfl⟩ : ∃ y0 y1, ws = [y0, y1] := by match ws, hl with | [y0, y1], _ => exact ⟨y0, y1, rfl⟩
  refine ⟨_, pss_cons (ps_expr (pe_feinit (by rfl) hb vb (pa_cons (pv 0) (pa_cons pe_str pa_nil)))) (pss_cons (ps_ost (pv 0) (pv 1)) (pss_one (ps_ost (pv 0) (pv 2)))), ?_⟩
  refine ⟨_, rfl, a, (He.ga K "BrokenChain"), _, rfl, by simp, T, ea, y0, rfl, _, rfl, a, (He.ga K "BrokenChain"), rfl, T, n0, .inl ⟨ea, fun dx nd ne => ?_⟩⟩
  have h0a : (upd (upd H dx (exd dx [("key", y0)])) a (exo a (He.ga K "BrokenChain") (some dx))) a = some (exo a (He.ga K "BrokenChain") (some dx)) := upd_same
  have h0d : (upd (upd H dx (exd dx [("key", y0)])) a (exo a (He.ga K "BrokenChain") (some dx))) dx = some (exd dx [("key", y0)]) := by rw [upd_ne ne, upd_same]
  have h0n : ∀ b, b ≠ a → b ≠ dx → (upd (upd H dx (exd dx [("key", y0)])) a (exo a (He.ga K "BrokenChain") (some dx))) b = H b := fun b h1 h2 => by rw [upd_ne h1, upd_ne h2]
  refine ⟨y1, rfl, _, rfl, a, (He.ga K "BrokenChain"), rfl, T, n1, .inr ⟨dx, _, h0a, h0d, by exact Nat.le_of_ble_eq_true rfl, ?_⟩⟩
  have h1a : (upd (upd (upd H dx (exd dx [("key", y0)])) a (exo a (He.ga K "BrokenChain") (some dx))) dx (exd dx (("index", y1) :: [("key", y0)]))) a = some (exo a (He.ga K "BrokenChain") (some dx)) := by rw [upd_ne (Ne.symm ne)]; exact h0a
  have h1d : (upd (upd (upd H dx (exd dx [("key", y0)])) a (exo a (He.ga K "BrokenChain") (some dx))) dx (exd dx (("index", y1) :: [("key", y0)]))) dx = some (exd dx (("index", y1) :: [("key", y0)])) := upd_same
  have h1n : ∀ b, b ≠ a → b ≠ dx → (upd (upd (upd H dx (exd dx [("key", y0)])) a (exo a (He.ga K "BrokenChain") (some dx))) dx (exd dx (("index", y1) :: [("key", y0)]))) b = H b := fun b h1 h2 => by rw [upd_ne h2]; exact h0n b h1 h2
  exact q dx _ nd ne h1a h1d h1n
abbrev st_X_UnlikeImages : Stmt := (inClass (top 19) 0)
theorem sc_X_UnlikeImages : FnScope ["self", "key", "index", "other"] ["self", "key", "index", "other"] (defScope st_X_UnlikeImages) := ⟨rfl, rfl, rfl, by decide +kernel, rfl, by decide +kernel, by decide +kernel⟩
theorem ok_X_UnlikeImages {P : Program} {w : World} {K : PySem.W.Frag} {mg : Str → Option Value} {base : Heap} {f D : Addr} {fd : FuncData} (F : FnP K "__init__" "UnlikeImages.__init__" st_X_UnlikeImages [] [] f fd) (T : OexC K (He.ga K "UnlikeImages")) (hb : mg "FeedError" = some (.ref D)) (vb : VeB K D) (n0 : NoAttr K (He.ga K "UnlikeImages") "key") (n1 : NoAttr K (He.ga K "UnlikeImages") "index") (n2 : NoAttr K (He.ga K "UnlikeImages") "other") : FnOk P w K mg base (L2.CX P w) 1 f fd ["self", "key", "index", "other"] (spX (He.ga K "UnlikeImages") ["key", "index", "other"]) := by
  refine F.ok sc_X_UnlikeImages (fun vs H Q E ⟨a, ws, ev, hl, _⟩ => by rw [ev, List.length_cons, hl]; rfl) fun cdv A outer s H vs Q E hr ⟨a, ws, ev, hl, ea, q⟩ => ?_
  subst ev
  obtain ⟨y0, y1, y2, rfl⟩ : ∃ y0 y1 y2, ws = [y0, y1, y2] := by match ws, hl with | [y0, y1, y2], _ => exact ⟨y0, y1, y2, rfl⟩
  refine ⟨_, pss_cons (ps_expr (pe_feinit (by rfl) hb vb (pa_cons (pv 0) (pa_cons pe_str pa_nil)))) (pss_cons (ps_ost (pv 0) (pv 1)) (pss_cons (ps_ost (pv 0) (pv 2)) (pss_one (ps_ost (pv 0) (pv 3))))), ?_⟩
  refine ⟨_, rfl, a, (He.ga K "UnlikeImages"), _, rfl, by simp, T, ea, y0, rfl, _, rfl, a, (He.ga K "UnlikeImages"), rfl, T, n0, .inl ⟨ea, fun dx nd ne => ?_⟩⟩
  have h0a : (upd (upd H dx (exd dx [("key", y0)])) a (exo a (He.ga K "UnlikeImages") (some dx))) a = some (exo a (He.ga K "UnlikeImages") (some dx)) := upd_same
  have h0d : (upd (upd H dx (exd dx [("key", y0)])) a (exo a (He.ga K "UnlikeImages") (some dx))) dx = some (exd dx [("key", y0)]) := by rw [upd_ne ne, upd_same]
  have h0n : ∀ b, b ≠ a → b ≠ dx → (upd (upd H dx (exd dx [("key", y0)])) a (exo a (He.ga K "UnlikeImages") (some dx))) b = H b := fun b h1 h2 => by rw [upd_ne h1, upd_ne h2]
  refine ⟨y1, rfl, _, rfl, a, (He.ga K "UnlikeImages"), rfl, T, n1, .inr ⟨dx, _, h0a, h0d, by exact Nat.le_of_ble_eq_true rfl, ?_⟩⟩
  have h1a : (upd (upd (upd H dx (exd dx [("key", y0)])) a (exo a (He.ga K "UnlikeImages") (some dx))) dx (exd dx (("index", y1) :: [("key", y0)]))) a = some (exo a (He.ga K "UnlikeImages") (some dx)) := by rw [upd_ne (Ne.symm ne)]; exact h0a
  have h1d : (upd (upd (upd H dx (exd dx [("key", y0)])) a (exo a (He.ga K "UnlikeImages") (some dx))) dx (exd dx (("index", y1) :: [("key", y0)]))) dx = some (exd dx (("index", y1) :: [("key", y0)])) := upd_same
  have h1n : ∀ b, b ≠ a → b ≠ dx → (upd (upd (upd H dx (exd dx [("key", y0)])) a (exo a (He.ga K "UnlikeImages") (some dx))) dx (exd dx (("index", y1) :: [("key", y0)]))) b = H b := fun b h1 h2 => by rw [upd_ne h2]; exact h0n b h1 h2
  refine ⟨y2, rfl, _, rfl, a, (He.ga K "UnlikeImages"), rfl, T, n2, .inr ⟨dx, _, h1a, h1d, by exact Nat.le_of_ble_eq_true rfl, ?_⟩⟩
  have h2a : (upd (upd (upd (upd H dx (exd dx [("key", y0)])) a (exo a (He.ga K "UnlikeImages") (some dx))) dx (exd dx (("index", y1) :: [("key", y0)]))) dx (exd dx (("other", y2) :: (("index", y1) :: [("key", y0)])))) a = some (exo a (He.ga K "UnlikeImages") (some dx)) := by rw [upd_ne (Ne.symm ne)]; exact h1a
  have h2d : (upd (upd (upd (upd H dx (exd dx [("key", y0)])) a (exo a (He.ga K "UnlikeImages") (some dx))) dx (exd dx (("index", y1) :: [("key", y0)]))) dx (exd dx (("other", y2) :: (("index", y1) :: [("key", y0)])))) dx = some (exd dx (("other", y2) :: (("index", y1) :: [("key", y0)]))) := upd_same
  have h2n : ∀ b, b ≠ a → b ≠ dx → (upd (upd (upd (upd H dx (exd dx [("key", y0)])) a (exo a (He.ga K "UnlikeImages") (some dx))) dx (exd dx (("index", y1) :: [("key", y0)]))) dx (exd dx (("other", y2) :: (("index", y1) :: [("key", y0)])))) b = H b := fun b h1 h2 => by rw [upd_ne h2]; exact h1n b h1 h2
  exact q dx _ nd ne h2a h2d h2n
abbrev st_X_Unplaced : Stmt := (inClass (top 20) 0)
theorem sc_X_Unplaced : FnScope ["self", "key", "reasons"] ["self", "key", "reasons"] (defScope st_X_Unplaced) := ⟨rfl, rfl, rfl, by decide +kernel, rfl, by decide +kernel, by decide +kernel⟩
theorem ok_X_Unplaced {P : Program} {w : World} {K : PySem.W.Frag} {mg : Str → Option Value} {base : Heap} {f D : Addr} {fd : FuncData} (F : FnP K "__init__" "Unplaced.__init__" st_X_Unplaced [] [] f fd) (T : OexC K (He.ga K "Unplaced")) (hb : mg "FeedError" = some (.ref D)) (vb : VeB K D) (n0 : NoAttr K (He.ga K "Unplaced") "key") (n1 : NoAttr K (He.ga K "Unplaced") "reasons") : FnOk P w K mg base (L2.CX P w) 1 f fd ["self", "key", "reasons"] (spX (He.ga K "Unplaced") ["key", "reasons"]) := by
  refine F.ok sc_X_Unplaced (fun vs H Q E ⟨a, ws, ev, hl, _⟩ => by rw [ev, List.length_cons, hl]; rfl) fun cdv A outer s H vs Q E hr ⟨a, ws, ev, hl, ea, q⟩ => ?_
  subst ev
  obtain ⟨y0, y1, rfl⟩ : ∃ y0 y1, ws = [y0, y1] := by match ws, hl with | [y0, y1], _ => exact ⟨y0, y1, rfl⟩
  refine ⟨_, pss_cons (ps_expr (pe_feinit (by rfl) hb vb (pa_cons (pv 0) (pa_cons pe_str pa_nil)))) (pss_cons (ps_ost (pv 0) (pv 1)) (pss_one (ps_ost (pv 0) (pv 2)))), ?_⟩
  refine ⟨_, rfl, a, (He.ga K "Unplaced"), _, rfl, by simp, T, ea, y0, rfl, _, rfl, a, (He.ga K "Unplaced"), rfl, T, n0, .inl ⟨ea, fun dx nd ne => ?_⟩⟩
  have h0a : (upd (upd H dx (exd dx [("key", y0)])) a (exo a (He.ga K "Unplaced") (some dx))) a = some (exo a (He.ga K "Unplaced") (some dx)) := upd_same
  have h0d : (upd (upd H dx (exd dx [("key", y0)])) a (exo a (He.ga K "Unplaced") (some dx))) dx = some (exd dx [("key", y0)]) := by rw [upd_ne ne, upd_same]
  have h0n : ∀ b, b ≠ a → b ≠ dx → (upd (upd H dx (exd dx [("key", y0)])) a (exo a (He.ga K "Unplaced") (some dx))) b = H b := fun b h1 h2 => by rw [upd_ne h1, upd_ne h2]
  refine ⟨y1, rfl, _, rfl, a, (He.ga K "Unplaced"), rfl, T, n1, .inr ⟨dx, _, h0a, h0d, by exact Nat.le_of_ble_eq_true rfl, ?_⟩⟩
  have h1a : (upd (upd (upd H dx (exd dx [("key", y0)])) a (exo a (He.ga K "Unplaced") (some dx))) dx (exd dx (("reasons", y1) :: [("key", y0)]))) a = some (exo a (He.ga K "Unplaced") (some dx)) := by rw [upd_ne (Ne.symm ne)]; exact h0a
  have h1d : (upd (upd (upd H dx (exd dx [("key", y0)])) a (exo a (He.ga K "Unplaced") (some dx))) dx (exd dx (("reasons", y1) :: [("key", y0)]))) dx = some (exd dx (("reasons", y1) :: [("key", y0)])) := upd_same
  have h1n : ∀ b, b ≠ a → b ≠ dx → (upd (upd (upd H dx (exd dx [("key", y0)])) a (exo a (He.ga K "Unplaced") (some dx))) dx (exd dx (("reasons", y1) :: [("key", y0)]))) b = H b := fun b h1 h2 => by rw [upd_ne h2]; exact h0n b h1 h2
  exact q dx _ nd ne h1a h1d h1n
abbrev st_X_OneWay : Stmt := (inClass (top 22) 0)
theorem sc_X_OneWay : FnScope ["self", "state"] ["self", "state"] (defScope st_X_OneWay) := ⟨rfl, rfl, rfl, by decide +kernel, rfl, by decide +kernel, by decide +kernel⟩
theorem ok_X_OneWay {P : Program} {w : World} {K : PySem.W.Frag} {mg : Str → Option Value} {base : Heap} {f D : Addr} {fd : FuncData} (F : FnP K "__init__" "OneWay.__init__" st_X_OneWay [] [] f fd) (T : OexC K (He.ga K "OneWay")) (hb : mg "FeedError" = some (.ref D)) (vb : VeB K D) (n0 : NoAttr K (He.ga K "OneWay") "state") : FnOk P w K mg base (L2.CX P w) 1 f fd ["self", "state"] (spX (He.ga K "OneWay") ["state"]) := by
  refine F.ok sc_X_OneWay (fun vs H Q E ⟨a, ws, ev, hl, _⟩ => by rw [ev, List.length_cons, hl]; rfl) fun cdv A outer s H vs Q E hr ⟨a, ws, ev, hl, ea, q⟩ => ?_
  subst ev
  obtain ⟨y0, rfl⟩ : ∃ y0, ws = [y0] := by match ws, hl with | [y0], _ => exact ⟨y0, rfl⟩
  refine ⟨_, pss_cons (ps_expr (pe_feinit (by rfl) hb vb (pa_cons (pv 0) (pa_cons pe_str pa_nil)))) (pss_one (ps_ost (pv 0) (pv 1))), ?_⟩
  refine ⟨_, rfl, a, (He.ga K "OneWay"), _, rfl, by simp, T, ea, y0, rfl, _, rfl, a, (He.ga K "OneWay"), rfl, T, n0, .inl ⟨ea, fun dx nd ne => ?_⟩⟩
  have h0a : (upd (upd H dx (exd dx [("state", y0)])) a (exo a (He.ga K "OneWay") (some dx))) a = some (exo a (He.ga K "OneWay") (some dx)) := upd_same
  have h0d : (upd (upd H dx (exd dx [("state", y0)])) a (exo a (He.ga K "OneWay") (some dx))) dx = some (exd dx [("state", y0)]) := by rw [upd_ne ne, upd_same]
  have h0n : ∀ b, b ≠ a → b ≠ dx → (upd (upd H dx (exd dx [("state", y0)])) a (exo a (He.ga K "OneWay") (some dx))) b = H b := fun b h1 h2 => by rw [upd_ne h1, upd_ne h2]
  exact q dx _ nd ne h0a h0d h0n
abbrev st_names : Stmt := (top 26)
theorem sc_names : FnScope ["_law_bag_here", "_law_count", "_law_words", "_law_letters", "_law_size", "_law_stem", "_law_k", "_law_place", "_law_shift", "_law_longer", "_law_names_here", "_law_name", "_law_spot", "_law_word"] ["_law_bag_here", "_law_count", "_law_words"] (defScope st_names) := ⟨rfl, rfl, rfl, by decide +kernel, rfl, by decide +kernel, by decide +kernel⟩
def names_mb {S : Type} (b : BagIn S) (count1 : Int) (words2 : List Str) : M S (Fl Unit Empty (List Str)) := bnd (bnd (draw_m b (5 : Int)) fun v12 => opt (atI [(0 : Int), (1 : Int), (2 : Int), (3 : Int), (10 : Int)] v12)) fun size13 => bnd (bnd (bnd (rangeM 0 size13) fun v20 => compM (fun x15 => ret true) (fun x15 => bnd (draw_m b (26 : Int)) fun v19 => sgetM ("abcdefghijklmnopqrstuvwxyz" : Str) v19) v20) fun v22 => joinM ("" : Str) v22) fun stem23 => bnd (draw_m b (size13 + (1 : Int))) fun place28 => bnd (draw_m b (26 : Int)) fun shift31 => bnd (draw_m b (4 : Int)) fun longer34 => thenB (bnd (rangeM 0 count1) fun v117 => forL (fun (x38 : Int) (t37 : (List Str)) => bnd (bnd (bnd (sslM stem23 none (some place28)) fun v50 => bnd (bnd (bnd (bnd (bnd (mulM (7 : Int) x38) fun v44 => ret (shift31 + v44)) fun v45 => ret v45) fun v46 => modM v46 (26 : Int)) fun v49 => sgetM ("abcdefghijklmnopqrstuvwxyz" : Str) v49) fun v51 => saddM v50 v51) fun v54 => bnd (sslM stem23 (some place28) none) fun v55 => saddM v54 v55) fun name56 => bnd (bnd (bnd (sgetM ("abcdefghijklmnopqrstuvwxyz" : Str) shift31) fun v69 => bnd (bnd (bnd (modM x38 (3 : Int)) fun v66 => ret (decide (v66 = longer34))) fun v68 => ret (if v68 then (1 : Int) else 0)) fun v70 => smulM v69 v70) fun v72 => saddM name56 v72) fun v73 => bnd (appM t37 v73) fun names57 => ret (.nx names57)) v117 ([] : List Str)) fun (t74 : (List Str)) => thenB (bnd (if (decide ((1 : Int) < count1)) then (if (decide (size13 < (4 : Int))) then (ret (decide (longer34 = (3 : Int)))) else ret false) else ret false) fun v83 => if v83 then (bnd (bnd (opt (atI t74 (0 : Int))) fun v91 => bnd (bnd (draw_m b (26 : Int)) fun v90 => sgetM ("abcdefghijklmnopqrstuvwxyz" : Str) v90) fun v92 => saddM v91 v92) fun v93 => bnd (setM t74 (1 : Int) v93) fun names95 => ret (.nx names95)) else (ret (.nx t74))) fun (t84 : (List Str)) => bnd (bnd (mulM (4 : Int) count1) fun v99 => draw_m b v99) fun spot100 => bnd (bnd (draw_m b (List.length words2 : Int)) fun v105 => opt (atI words2 v105)) fun word106 => thenB (bnd (if (decide (spot100 < count1)) then (ret (!decide (word106 ∈ t84))) else ret false) fun v112 => if v112 then (bnd (setM t84 spot100 word106) fun names116 => ret (.nx names116)) else (ret (.nx t84))) fun (t113 : (List Str)) => ret (.rt t113)
def names_m {S : Type} (b : BagIn S) (count1 : Int) (words2 : List Str) : M S (List Str) := runF (names_mb b count1 words2)
abbrev ra_names (K : PySem.W.Frag) (S : Type) (R : S → MP Hp) (c : BagC S R) : Unit × Int × (List Str) × Unit → List V → Hp → Prop := (raC (rBag c.ab) (raC rI (raC (rL rS) raN)))
abbrev f_names (S : Type) (R : S → MP Hp) (c : BagC S R) (y : Unit × Int × (List Str) × Unit) : M S (List Str) := names_m c.b y.2.1 y.2.2.1
abbrev sp_names (K : PySem.W.Frag) (mg : Str → Option Value) : Sp := spC mg (ra_names K) (.own (cL rS)) f_names
theorem cut_names_0 {P : Program} {w : World} {K : PySem.W.Frag} {mg : Str → Option Value} {base : Heap} {f : Addr} {cdv : Value} {A : Around} {outer : List Env} {s : Shared} {H : Hp} {E : XK} {Fm : Fm} {S : Type} {R : S → MP Hp} (cp : BagC S R) (T : Txt K mg) (C_draw : FnC P w K mg base "_law_draw" 1 (sp_draw K mg)) (hr : Room 1 (A.deeper (envOfC "_law_names" (defScope st_names) s.heap.objs.size f cdv))) (z : ZOk (ZF P w K mg base ["_law_bag_here", "_law_count", "_law_words", "_law_letters", "_law_size", "_law_stem", "_law_k", "_law_place", "_law_shift", "_law_longer", "_law_names_here", "_law_name", "_law_spot", "_law_word"] "_law_names" (defScope st_names) f cdv A outer s H E Fm S R)) (hu : (A.deeper (envOfC "_law_names" (defScope st_names) s.heap.objs.size f cdv)).units + 65 < cLine) (hu1 : (A.deeper (envOfC "_law_names" (defScope st_names) s.heap.objs.size f cdv)).units + 1 < cLine) (count1 : Int) (words2 : List Str) (letters3 : Str) (size13 : Int) (stem23 : Str) (place28 : Int) (shift31 : Int) (longer34 : Int) (t113 : (List Str)) (spot100 : Int) (word106 : Str) : JB (ZF P w K mg base ["_law_bag_here", "_law_count", "_law_words", "_law_letters", "_law_size", "_law_stem", "_law_k", "_law_place", "_law_shift", "_law_longer", "_law_names_here", "_law_name", "_law_spot", "_law_word"] "_law_names" (defScope st_names) f cdv A outer s H E Fm S R) [some (.fz ((rBag cp.ab) ())), some (.fz (rI count1)), some (.fz ((rL rS) words2)), some (.fz (rS letters3)), some (.fz (rI size13)), some (.fz (rS stem23)), none, some (.fz (rI place28)), some (.fz (rI shift31)), some (.fz (rI longer34)), some (.lv ((cL rS) t113)), none, some (.fz (rI spot100)), some (.fz (rS word106))] (List.drop 12 (defBody st_names)) (ret (.rt t113) : M S (Fl Unit Empty (List Str))) (fun _ => []) (fun e => nomatch e) (.own (cL rS)) := (jb_one (js_retV (c := (cL rS)) (x := t113) 10 rfl (pv 10)))
theorem cut_names_1 {P : Program} {w : World} {K : PySem.W.Frag} {mg : Str → Option Value} {base : Heap} {f : Addr} {cdv : Value} {A : Around} {outer : List Env} {s : Shared} {H : Hp} {E : XK} {Fm : Fm} {S : Type} {R : S → MP Hp} (cp : BagC S R) (T : Txt K mg) (C_draw : FnC P w K mg base "_law_draw" 1 (sp_draw K mg)) (hr : Room 1 (A.deeper (envOfC "_law_names" (defScope st_names) s.heap.objs.size f cdv))) (z : ZOk (ZF P w K mg base ["_law_bag_here", "_law_count", "_law_words", "_law_letters", "_law_size", "_law_stem", "_law_k", "_law_place", "_law_shift", "_law_longer", "_law_names_here", "_law_name", "_law_spot", "_law_word"] "_law_names" (defScope st_names) f cdv A outer s H E Fm S R)) (hu : (A.deeper (envOfC "_law_names" (defScope st_names) s.heap.objs.size f cdv)).units + 65 < cLine) (hu1 : (A.deeper (envOfC "_law_names" (defScope st_names) s.heap.objs.size f cdv)).units + 1 < cLine) (count1 : Int) (words2 : List Str) (letters3 : Str) (size13 : Int) (stem23 : Str) (place28 : Int) (shift31 : Int) (longer34 : Int) (t84 : (List Str)) (spot100 : Int) (word106 : Str) : JB (ZF P w K mg base ["_law_bag_here", "_law_count", "_law_words", "_law_letters", "_law_size", "_law_stem", "_law_k", "_law_place", "_law_shift", "_law_longer", "_law_names_here", "_law_name", "_law_spot", "_law_word"] "_law_names" (defScope st_names) f cdv A outer s H E Fm S R) [some (.fz ((rBag cp.ab) ())), some (.fz (rI count1)), some (.fz ((rL rS) words2)), some (.fz (rS letters3)), some (.fz (rI size13)), some (.fz (rS stem23)), none, some (.fz (rI place28)), some (.fz (rI shift31)), some (.fz (rI longer34)), some (.lv ((cL rS) t84)), none, some (.fz (rI spot100)), some (.fz (rS word106))] (List.drop 11 (defBody st_names)) (thenB (bnd (bnd (bnd (ret spot100) fun v107 => bnd (ret count1) fun v108 => ret (decide (v107 < v108))) fun v111 => if v111 then (bnd (ret word106) fun v109 => bnd (ret t84) fun v110 => ret (!decide (v109 ∈ v110))) else ret false) fun v112 => if v112 then (bnd (ret word106) fun v114 => bnd (ret spot100) fun v115 => bnd (setM t84 v115 v114) fun names116 => ret (.nx names116)) else (ret (.nx t84))) fun (t113 : (List Str)) => ret (.rt t113) : M S (Fl Unit Empty (List Str))) (fun _ => []) (fun e => nomatch e) (.own (cL rS)) := (jb_seq (Γ1 := fun t113 : (List Str) => [some (.fz ((rBag cp.ab) ())), some (.fz (rI count1)), some (.fz ((rL rS) words2)), some (.fz (rS letters3)), some (.fz (rI size13)), some (.fz (rS stem23)), none, some (.fz (rI place28)), some (.fz (rI shift31)), some (.fz (rI longer34)), some (.lv ((cL rS) t113)), none, some (.fz (rI spot100)), some (.fz (rS word106))]) (js_if (JW.jt (jw_and (jt_c c_lt (je_var (r := rI) (x := spot100) 12 rfl (pv 12)) (je_var (r := rI) (x := count1) 1 rfl (pv 1))) (jw_and1 (jt_ninV flS (je_var (r := rS) (x := word106) 13 rfl (pv 13)) (je_live (c := (cL rS)) (x := t84) 10 rfl (pv 10)))))) (jb_cx (Γ2 := [some (.fz ((rBag cp.ab) ())), some (.fz (rI count1)), some (.fz ((rL rS) words2)), some (.fz (rS letters3)), some (.fz (rI size13)), some (.fz (rS stem23)), none, some (.fz (rI place28)), some (.fz (rI shift31)), some (.fz (rI longer34)), some (.lv ((cL rS) t84)), none, some (.fz (rI spot100)), some (.fz (rS word106))]) (jb_setix (k := 10) rfl (pv 10) (je_var (r := rS) (x := word106) 13 rfl (pv 13)) (je_var (r := rI) (x := spot100) 12 rfl (pv 12)) (fun names116 => (jb_cx (Γ2 := [some (.fz ((rBag cp.ab) ())), some (.fz (rI count1)), some (.fz ((rL rS) words2)), some (.fz (rS letters3)), some (.fz (rI size13)), some (.fz (rS stem23)), none, some (.fz (rI place28)), some (.fz (rI shift31)), some (.fz (rI longer34)), some (.lv ((cL rS) names116)), none, some (.fz (rI spot100)), some (.fz (rS word106))]) (jb_nil (t := names116) (Le.some (Le.some (Le.some (Le.some (Le.some (Le.some (Le.none (Le.some (Le.some (Le.some (Le.some (Le.none (Le.some (Le.some Le.nil))))))))))))))))) (ps_asg (JE.pe (je_var (r := rS) (x := word106) 13 rfl (pv 13))) (pg_sub (pv 10) (JE.pe (je_var (r := rI) (x := spot100) 12 rfl (pv 12))) set_list)))) (jb_cx (Γ2 := [some (.fz ((rBag cp.ab) ())), some (.fz (rI count1)), some (.fz ((rL rS) words2)), some (.fz (rS letters3)), some (.fz (rI size13)), some (.fz (rS stem23)), none, some (.fz (rI place28)), some (.fz (rI shift31)), some (.fz (rI longer34)), some (.lv ((cL rS) t84)), none, some (.fz (rI spot100)), some (.fz (rS word106))]) (jb_nil (t := t84) (Le.some (Le.some (Le.some (Le.some (Le.some (Le.some (Le.none (Le.some (Le.some (Le.some (Le.some (Le.none (Le.some (Le.some Le.nil))))))))))))))))) (fun t113 => (jb_cx (Γ2 := [some (.fz ((rBag cp.ab) ())), some (.fz (rI count1)), some (.fz ((rL rS) words2)), some (.fz (rS letters3)), some (.fz (rI size13)), some (.fz (rS stem23)), none, some (.fz (rI place28)), some (.fz (rI shift31)), some (.fz (rI longer34)), some (.lv ((cL rS) t113)), none, some (.fz (rI spot100)), some (.fz (rS word106))]) (cut_names_0 cp T C_draw hr z hu hu1 count1 words2 letters3 size13 stem23 place28 shift31 longer34 t113 spot100 word106))))
theorem cut_names_2 {P : Program} {w : World} {K : PySem.W.Frag} {mg : Str → Option Value} {base : Heap} {f : Addr} {cdv : Value} {A : Around} {outer : List Env} {s : Shared} {H : Hp} {E : XK} {Fm : Fm} {S : Type} {R : S → MP Hp} (cp : BagC S R) (T : Txt K mg) (C_draw : FnC P w K mg base "_law_draw" 1 (sp_draw K mg)) (hr : Room 1 (A.deeper (envOfC "_law_names" (defScope st_names) s.heap.objs.size f cdv))) (z : ZOk (ZF P w K mg base ["_law_bag_here", "_law_count", "_law_words", "_law_letters", "_law_size", "_law_stem", "_law_k", "_law_place", "_law_shift", "_law_longer", "_law_names_here", "_law_name", "_law_spot", "_law_word"] "_law_names" (defScope st_names) f cdv A outer s H E Fm S R)) (hu : (A.deeper (envOfC "_law_names" (defScope st_names) s.heap.objs.size f cdv)).units + 65 < cLine) (hu1 : (A.deeper (envOfC "_law_names" (defScope st_names) s.heap.objs.size f cdv)).units + 1 < cLine) (count1 : Int) (words2 : List Str) (letters3 : Str) (size13 : Int) (stem23 : Str) (place28 : Int) (shift31 : Int) (longer34 : Int) (t84 : (List Str)) (spot100 : Int) : JB (ZF P w K mg base ["_law_bag_here", "_law_count", "_law_words", "_law_letters", "_law_size", "_law_stem", "_law_k", "_law_place", "_law_shift", "_law_longer", "_law_names_here", "_law_name", "_law_spot", "_law_word"] "_law_names" (defScope st_names) f cdv A outer s H E Fm S R) [some (.fz ((rBag cp.ab) ())), some (.fz (rI count1)), some (.fz ((rL rS) words2)), some (.fz (rS letters3)), some (.fz (rI size13)), some (.fz (rS stem23)), none, some (.fz (rI place28)), some (.fz (rI shift31)), some (.fz (rI longer34)), some (.lv ((cL rS) t84)), none, some (.fz (rI spot100)), none] (List.drop 10 (defBody st_names)) (bnd (bnd (ret words2) fun v104 => bnd (bnd (ret ()) fun v102 => bnd (bnd (ret words2) fun v101 => ret (List.length v101 : Int)) fun v103 => draw_m cp.b v103) fun v105 => opt (atI v104 v105)) fun word106 => thenB (bnd (bnd (bnd (ret spot100) fun v107 => bnd (ret count1) fun v108 => ret (decide (v107 < v108))) fun v111 => if v111 then (bnd (ret word106) fun v109 => bnd (ret t84) fun v110 => ret (!decide (v109 ∈ v110))) else ret false) fun v112 => if v112 then (bnd (ret word106) fun v114 => bnd (ret spot100) fun v115 => bnd (setM t84 v115 v114) fun names116 => ret (.nx names116)) else (ret (.nx t84))) fun (t113 : (List Str)) => ret (.rt t113) : M S (Fl Unit Empty (List Str))) (fun _ => []) (fun e => nomatch e) (.own (cL rS)) := (jb_set (i := 13) z rfl (by first | exact .inl rfl | exact .inr rfl) (je_ixL (je_var (r := (rL rS)) (x := words2) 2 rfl (pv 2)) (je_call z C_draw hr cp (ja_cons (je_var (r := rBag cp.ab) (x := ()) 0 rfl (pv 0)) (ja_cons (je_lenL (by rfl) T.f_len (je_var (r := (rL rS)) (x := words2) 2 rfl (pv 2))) ja_nil)))) (fun word106 => (jb_cx (Γ2 := [some (.fz ((rBag cp.ab) ())), some (.fz (rI count1)), some (.fz ((rL rS) words2)), some (.fz (rS letters3)), some (.fz (rI size13)), some (.fz (rS stem23)), none, some (.fz (rI place28)), some (.fz (rI shift31)), some (.fz (rI longer34)), some (.lv ((cL rS) t84)), none, some (.fz (rI spot100)), some (.fz (rS word106))]) (cut_names_1 cp T C_draw hr z hu hu1 count1 words2 letters3 size13 stem23 place28 shift31 longer34 t84 spot100 word106))))
theorem cut_names_3 {P : Program} {w : World} {K : PySem.W.Frag} {mg : Str → Option Value} {base : Heap} {f : Addr} {cdv : Value} {A : Around} {outer : List Env} {s : Shared} {H : Hp} {E : XK} {Fm : Fm} {S : Type} {R : S → MP Hp} (cp : BagC S R) (T : Txt K mg) (C_draw : FnC P w K mg base "_law_draw" 1 (sp_draw K mg)) (hr : Room 1 (A.deeper (envOfC "_law_names" (defScope st_names) s.heap.objs.size f cdv))) (z : ZOk (ZF P w K mg base ["_law_bag_here", "_law_count", "_law_words", "_law_letters", "_law_size", "_law_stem", "_law_k", "_law_place", "_law_shift", "_law_longer", "_law_names_here", "_law_name", "_law_spot", "_law_word"] "_law_names" (defScope st_names) f cdv A outer s H E Fm S R)) (hu : (A.deeper (envOfC "_law_names" (defScope st_names) s.heap.objs.size f cdv)).units + 65 < cLine) (hu1 : (A.deeper (envOfC "_law_names" (defScope st_names) s.heap.objs.size f cdv)).units + 1 < cLine) (count1 : Int) (words2 : List Str) (letters3 : Str) (size13 : Int) (stem23 : Str) (place28 : Int) (shift31 : Int) (longer34 : Int) (t84 : (List Str)) : JB (ZF P w K mg base ["_law_bag_here", "_law_count", "_law_words", "_law_letters", "_law_size", "_law_stem", "_law_k", "_law_place", "_law_shift", "_law_longer", "_law_names_here", "_law_name", "_law_spot", "_law_word"] "_law_names" (defScope st_names) f cdv A outer s H E Fm S R) [some (.fz ((rBag cp.ab) ())), some (.fz (rI count1)), some (.fz ((rL rS) words2)), some (.fz (rS letters3)), some (.fz (rI size13)), some (.fz (rS stem23)), none, some (.fz (rI place28)), some (.fz (rI shift31)), some (.fz (rI longer34)), some (.lv ((cL rS) t84)), none, none, none] (List.drop 9 (defBody st_names)) (bnd (bnd (ret ()) fun v98 => bnd (bnd (ret (4 : Int)) fun v96 => bnd (ret count1) fun v97 => mulM v96 v97) fun v99 => draw_m cp.b v99) fun spot100 => bnd (bnd (ret words2) fun v104 => bnd (bnd (ret ()) fun v102 => bnd (bnd (ret words2) fun v101 => ret (List.length v101 : Int)) fun v103 => draw_m cp.b v103) fun v105 => opt (atI v104 v105)) fun word106 => thenB (bnd (bnd (bnd (ret spot100) fun v107 => bnd (ret count1) fun v108 => ret (decide (v107 < v108))) fun v111 => if v111 then (bnd (ret word106) fun v109 => bnd (ret t84) fun v110 => ret (!decide (v109 ∈ v110))) else ret false) fun v112 => if v112 then (bnd (ret word106) fun v114 => bnd (ret spot100) fun v115 => bnd (setM t84 v115 v114) fun names116 => ret (.nx names116)) else (ret (.nx t84))) fun (t113 : (List Str)) => ret (.rt t113) : M S (Fl Unit Empty (List Str))) (fun _ => []) (fun e => nomatch e) (.own (cL rS)) := (jb_set (i := 12) z rfl (by first | exact .inl rfl | exact .inr rfl) (je_call z C_draw hr cp (ja_cons (je_var (r := rBag cp.ab) (x := ()) 0 rfl (pv 0)) (ja_cons (je_mul je_int (je_var (r := rI) (x := count1) 1 rfl (pv 1))) ja_nil))) (fun spot100 => (jb_cx (Γ2 := [some (.fz ((rBag cp.ab) ())), some (.fz (rI count1)), some (.fz ((rL rS) words2)), some (.fz (rS letters3)), some (.fz (rI size13)), some (.fz (rS stem23)), none, some (.fz (rI place28)), some (.fz (rI shift31)), some (.fz (rI longer34)), some (.lv ((cL rS) t84)), none, some (.fz (rI spot100)), none]) (cut_names_2 cp T C_draw hr z hu hu1 count1 words2 letters3 size13 stem23 place28 shift31 longer34 t84 spot100))))
theorem cut_names_4 {P : Program} {w : World} {K : PySem.W.Frag} {mg : Str → Option Value} {base : Heap} {f : Addr} {cdv : Value} {A : Around} {outer : List Env} {s : Shared} {H : Hp} {E : XK} {Fm : Fm} {S : Type} {R : S → MP Hp} (cp : BagC S R) (T : Txt K mg) (C_draw : FnC P w K mg base "_law_draw" 1 (sp_draw K mg)) (hr : Room 1 (A.deeper (envOfC "_law_names" (defScope st_names) s.heap.objs.size f cdv))) (z : ZOk (ZF P w K mg base ["_law_bag_here", "_law_count", "_law_words", "_law_letters", "_law_size", "_law_stem", "_law_k", "_law_place", "_law_shift", "_law_longer", "_law_names_here", "_law_name", "_law_spot", "_law_word"] "_law_names" (defScope st_names) f cdv A outer s H E Fm S R)) (hu : (A.deeper (envOfC "_law_names" (defScope st_names) s.heap.objs.size f cdv)).units + 65 < cLine) (hu1 : (A.deeper (envOfC "_law_names" (defScope st_names) s.heap.objs.size f cdv)).units + 1 < cLine) (count1 : Int) (words2 : List Str) (letters3 : Str) (size13 : Int) (stem23 : Str) (place28 : Int) (shift31 : Int) (longer34 : Int) (t74 : (List Str)) : JB (ZF P w K mg base ["_law_bag_here", "_law_count", "_law_words", "_law_letters", "_law_size", "_law_stem", "_law_k", "_law_place", "_law_shift", "_law_longer", "_law_names_here", "_law_name", "_law_spot", "_law_word"] "_law_names" (defScope st_names) f cdv A outer s H E Fm S R) [some (.fz ((rBag cp.ab) ())), some (.fz (rI count1)), some (.fz ((rL rS) words2)), some (.fz (rS letters3)), some (.fz (rI size13)), some (.fz (rS stem23)), none, some (.fz (rI place28)), some (.fz (rI shift31)), some (.fz (rI longer34)), some (.lv ((cL rS) t74)), none, none, none] (List.drop 8 (defBody st_names)) (thenB (bnd (bnd (bnd (ret count1) fun v75 => bnd (ret (1 : Int)) fun v76 => ret (decide (v76 < v75))) fun v82 => if v82 then (bnd (bnd (ret size13) fun v77 => bnd (ret (4 : Int)) fun v78 => ret (decide (v77 < v78))) fun v81 => if v81 then (bnd (ret longer34) fun v79 => bnd (ret (3 : Int)) fun v80 => ret (decide (v79 = v80))) else ret false) else ret false) fun v83 => if v83 then (bnd (bnd (bnd (ret t74) fun v85 => bnd (ret (0 : Int)) fun v86 => opt (atI v85 v86)) fun v91 => bnd (bnd (ret letters3) fun v89 => bnd (bnd (ret ()) fun v87 => bnd (ret (26 : Int)) fun v88 => draw_m cp.b v88) fun v90 => sgetM v89 v90) fun v92 => saddM v91 v92) fun v93 => bnd (ret (1 : Int)) fun v94 => bnd (setM t74 v94 v93) fun names95 => ret (.nx names95)) else (ret (.nx t74))) fun (t84 : (List Str)) => bnd (bnd (ret ()) fun v98 => bnd (bnd (ret (4 : Int)) fun v96 => bnd (ret count1) fun v97 => mulM v96 v97) fun v99 => draw_m cp.b v99) fun spot100 => bnd (bnd (ret words2) fun v104 => bnd (bnd (ret ()) fun v102 => bnd (bnd (ret words2) fun v101 => ret (List.length v101 : Int)) fun v103 => draw_m cp.b v103) fun v105 => opt (atI v104 v105)) fun word106 => thenB (bnd (bnd (bnd (ret spot100) fun v107 => bnd (ret count1) fun v108 => ret (decide (v107 < v108))) fun v111 => if v111 then (bnd (ret word106) fun v109 => bnd (ret t84) fun v110 => ret (!decide (v109 ∈ v110))) else ret false) fun v112 => if v112 then (bnd (ret word106) fun v114 => bnd (ret spot100) fun v115 => bnd (setM t84 v115 v114) fun names116 => ret (.nx names116)) else (ret (.nx t84))) fun (t113 : (List Str)) => ret (.rt t113) : M S (Fl Unit Empty (List Str))) (fun _ => []) (fun e => nomatch e) (.own (cL rS)) := (jb_seq (Γ1 := fun t84 : (List Str) => [some (.fz ((rBag cp.ab) ())), some (.fz (rI count1)), some (.fz ((rL rS) words2)), some (.fz (rS letters3)), some (.fz (rI size13)), some (.fz (rS stem23)), none, some (.fz (rI place28)), some (.fz (rI shift31)), some (.fz (rI longer34)), some (.lv ((cL rS) t84)), none, none, none]) (js_if (JW.jt (jw_and (jt_c c_gt (je_var (r := rI) (x := count1) 1 rfl (pv 1)) je_int) (jw_and (jt_c c_lt (je_var (r := rI) (x := size13) 4 rfl (pv 4)) je_int) (jw_and1 (jt_c c_eqI (je_var (r := rI) (x := longer34) 9 rfl (pv 9)) je_int))))) (jb_cx (Γ2 := [some (.fz ((rBag cp.ab) ())), some (.fz (rI count1)), some (.fz ((rL rS) words2)), some (.fz (rS letters3)), some (.fz (rI size13)), some (.fz (rS stem23)), none, some (.fz (rI place28)), some (.fz (rI shift31)), some (.fz (rI longer34)), some (.lv ((cL rS) t74)), none, none, none]) (jb_setix (k := 10) rfl (pv 10) (je_addS (je_ixV (je_live (c := (cL rS)) (x := t74) 10 rfl (pv 10)) je_int) (je_ixS (je_var (r := rS) (x := letters3) 3 rfl (pv 3)) (je_call z C_draw hr cp (ja_cons (je_var (r := rBag cp.ab) (x := ()) 0 rfl (pv 0)) (ja_cons je_int ja_nil))))) je_int (fun names95 => (jb_cx (Γ2 := [some (.fz ((rBag cp.ab) ())), some (.fz (rI count1)), some (.fz ((rL rS) words2)), some (.fz (rS letters3)), some (.fz (rI size13)), some (.fz (rS stem23)), none, some (.fz (rI place28)), some (.fz (rI shift31)), some (.fz (rI longer34)), some (.lv ((cL rS) names95)), none, none, none]) (jb_nil (t := names95) (Le.some (Le.some (Le.some (Le.some (Le.some (Le.some (Le.none (Le.some (Le.some (Le.some (Le.some (Le.none (Le.none (Le.none Le.nil))))))))))))))))) (ps_asg (JE.pe (je_addS (je_ixV (je_live (c := (cL rS)) (x := t74) 10 rfl (pv 10)) je_int) (je_ixS (je_var (r := rS) (x := letters3) 3 rfl (pv 3)) (je_call z C_draw hr cp (ja_cons (je_var (r := rBag cp.ab) (x := ()) 0 rfl (pv 0)) (ja_cons je_int ja_nil)))))) (pg_sub (pv 10) (JE.pe je_int) set_list)))) (jb_cx (Γ2 := [some (.fz ((rBag cp.ab) ())), some (.fz (rI count1)), some (.fz ((rL rS) words2)), some (.fz (rS letters3)), some (.fz (rI size13)), some (.fz (rS stem23)), none, some (.fz (rI place28)), some (.fz (rI shift31)), some (.fz (rI longer34)), some (.lv ((cL rS) t74)), none, none, none]) (jb_nil (t := t74) (Le.some (Le.some (Le.some (Le.some (Le.some (Le.some (Le.none (Le.some (Le.some (Le.some (Le.some (Le.none (Le.none (Le.none Le.nil))))))))))))))))) (fun t84 => (jb_cx (Γ2 := [some (.fz ((rBag cp.ab) ())), some (.fz (rI count1)), some (.fz ((rL rS) words2)), some (.fz (rS letters3)), some (.fz (rI size13)), some (.fz (rS stem23)), none, some (.fz (rI place28)), some (.fz (rI shift31)), some (.fz (rI longer34)), some (.lv ((cL rS) t84)), none, none, none]) (cut_names_3 cp T C_draw hr z hu hu1 count1 words2 letters3 size13 stem23 place28 shift31 longer34 t84))))
theorem cut_names_5 {P : Program} {w : World} {K : PySem.W.Frag} {mg : Str → Option Value} {base : Heap} {f : Addr} {cdv : Value} {A : Around} {outer : List Env} {s : Shared} {H : Hp} {E : XK} {Fm : Fm} {S : Type} {R : S → MP Hp} (cp : BagC S R) (T : Txt K mg) (C_draw : FnC P w K mg base "_law_draw" 1 (sp_draw K mg)) (hr : Room 1 (A.deeper (envOfC "_law_names" (defScope st_names) s.heap.objs.size f cdv))) (z : ZOk (ZF P w K mg base ["_law_bag_here", "_law_count", "_law_words", "_law_letters", "_law_size", "_law_stem", "_law_k", "_law_place", "_law_shift", "_law_longer", "_law_names_here", "_law_name", "_law_spot", "_law_word"] "_law_names" (defScope st_names) f cdv A outer s H E Fm S R)) (hu : (A.deeper (envOfC "_law_names" (defScope st_names) s.heap.objs.size f cdv)).units + 65 < cLine) (hu1 : (A.deeper (envOfC "_law_names" (defScope st_names) s.heap.objs.size f cdv)).units + 1 < cLine) (count1 : Int) (words2 : List Str) (letters3 : Str) (size13 : Int) (stem23 : Str) (place28 : Int) (shift31 : Int) (longer34 : Int) (names35 : List Str) : JB (ZF P w K mg base ["_law_bag_here", "_law_count", "_law_words", "_law_letters", "_law_size", "_law_stem", "_law_k", "_law_place", "_law_shift", "_law_longer", "_law_names_here", "_law_name", "_law_spot", "_law_word"] "_law_names" (defScope st_names) f cdv A outer s H E Fm S R) [some (.fz ((rBag cp.ab) ())), some (.fz (rI count1)), some (.fz ((rL rS) words2)), some (.fz (rS letters3)), some (.fz (rI size13)), some (.fz (rS stem23)), none, some (.fz (rI place28)), some (.fz (rI shift31)), some (.fz (rI longer34)), some (.lv ((cL rS) names35)), none, none, none] (List.drop 7 (defBody st_names)) (thenB (bnd (bnd (ret count1) fun v36 => rangeM 0 v36) fun v117 => forL (fun (x38 : Int) (t37 : (List Str)) => bnd (bnd (bnd (bnd (ret stem23) fun v39 => bnd (ret place28) fun v40 => sslM v39 none (some v40)) fun v50 => bnd (bnd (ret letters3) fun v48 => bnd (bnd (bnd (bnd (ret shift31) fun v43 => bnd (bnd (ret (7 : Int)) fun v41 => bnd (ret x38) fun v42 => mulM v41 v42) fun v44 => ret (v43 + v44)) fun v45 => ret v45) fun v46 => bnd (ret (26 : Int)) fun v47 => modM v46 v47) fun v49 => sgetM v48 v49) fun v51 => saddM v50 v51) fun v54 => bnd (bnd (ret stem23) fun v52 => bnd (ret place28) fun v53 => sslM v52 (some v53) none) fun v55 => saddM v54 v55) fun name56 => bnd (bnd (ret name56) fun v71 => bnd (bnd (bnd (ret letters3) fun v58 => bnd (ret shift31) fun v59 => sgetM v58 v59) fun v69 => bnd (bnd (bnd (bnd (bnd (ret x38) fun v63 => ret v63) fun v64 => bnd (ret (3 : Int)) fun v65 => modM v64 v65) fun v66 => bnd (ret longer34) fun v67 => ret (decide (v66 = v67))) fun v68 => ret (if v68 then (1 : Int) else 0)) fun v70 => smulM v69 v70) fun v72 => saddM v71 v72) fun v73 => bnd (appM t37 v73) fun names57 => ret (.nx names57)) v117 names35) fun (t74 : (List Str)) => thenB (bnd (bnd (bnd (ret count1) fun v75 => bnd (ret (1 : Int)) fun v76 => ret (decide (v76 < v75))) fun v82 => if v82 then (bnd (bnd (ret size13) fun v77 => bnd (ret (4 : Int)) fun v78 => ret (decide (v77 < v78))) fun v81 => if v81 then (bnd (ret longer34) fun v79 => bnd (ret (3 : Int)) fun v80 => ret (decide (v79 = v80))) else ret false) else ret false) fun v83 => if v83 then (bnd (bnd (bnd (ret t74) fun v85 => bnd (ret (0 : Int)) fun v86 => opt (atI v85 v86)) fun v91 => bnd (bnd (ret letters3) fun v89 => bnd (bnd (ret ()) fun v87 => bnd (ret (26 : Int)) fun v88 => draw_m cp.b v88) fun v90 => sgetM v89 v90) fun v92 => saddM v91 v92) fun v93 => bnd (ret (1 : Int)) fun v94 => bnd (setM t74 v94 v93) fun names95 => ret (.nx names95)) else (ret (.nx t74))) fun (t84 : (List Str)) => bnd (bnd (ret ()) fun v98 => bnd (bnd (ret (4 : Int)) fun v96 => bnd (ret count1) fun v97 => mulM v96 v97) fun v99 => draw_m cp.b v99) fun spot100 => bnd (bnd (ret words2) fun v104 => bnd (bnd (ret ()) fun v102 => bnd (bnd (ret words2) fun v101 => ret (List.length v101 : Int)) fun v103 => draw_m cp.b v103) fun v105 => opt (atI v104 v105)) fun word106 => thenB (bnd (bnd (bnd (ret spot100) fun v107 => bnd (ret count1) fun v108 => ret (decide (v107 < v108))) fun v111 => if v111 then (bnd (ret word106) fun v109 => bnd (ret t84) fun v110 => ret (!decide (v109 ∈ v110))) else ret false) fun v112 => if v112 then (bnd (ret word106) fun v114 => bnd (ret spot100) fun v115 => bnd (setM t84 v115 v114) fun names116 => ret (.nx names116)) else (ret (.nx t84))) fun (t113 : (List Str)) => ret (.rt t113) : M S (Fl Unit Empty (List Str))) (fun _ => []) (fun e => nomatch e) (.own (cL rS)) := (jb_seq (Γ1 := fun t37 : (List Str) => [some (.fz ((rBag cp.ab) ())), some (.fz (rI count1)), some (.fz ((rL rS) words2)), some (.fz (rS letters3)), some (.fz (rI size13)), some (.fz (rS stem23)), none, some (.fz (rI place28)), some (.fz (rI shift31)), some (.fz (rI longer34)), some (.lv ((cL rS) t37)), none, none, none]) (js_for (n := 14) (t0 := names35) z (ji_range1 (by rfl) T.f_range (je_var (r := rI) (x := count1) 1 rfl (pv 1))) (jg_name (i := 6) (z).nd rfl (by first | exact .inl rfl | exact .inr rfl)) (Le.some (Le.some (Le.some (Le.some (Le.some (Le.some (Le.none (Le.some (Le.some (Le.some (Le.some (Le.none (Le.none (Le.none Le.nil)))))))))))))) (fun x38 t37 => (jb_cx (Γ2 := [some (.fz ((rBag cp.ab) ())), some (.fz (rI count1)), some (.fz ((rL rS) words2)), some (.fz (rS letters3)), some (.fz (rI size13)), some (.fz (rS stem23)), some (.fz (rI x38)), some (.fz (rI place28)), some (.fz (rI shift31)), some (.fz (rI longer34)), some (.lv ((cL rS) t37)), none, none, none]) (jb_set (i := 11) z rfl (by first | exact .inl rfl | exact .inr rfl) (je_addS (je_addS (je_slS (je_var (r := rS) (x := stem23) 5 rfl (pv 5)) JO.non (JO.som (je_var (r := rI) (x := place28) 7 rfl (pv 7)))) (je_ixS (je_var (r := rS) (x := letters3) 3 rfl (pv 3)) (je_mod (je_intI (by rfl) T.f_int (je_add (je_var (r := rI) (x := shift31) 8 rfl (pv 8)) (je_mul je_int (je_var (r := rI) (x := x38) 6 rfl (pv 6))))) je_int))) (je_slS (je_var (r := rS) (x := stem23) 5 rfl (pv 5)) (JO.som (je_var (r := rI) (x := place28) 7 rfl (pv 7))) JO.non)) (fun name56 => (jb_cx (Γ2 := [some (.fz ((rBag cp.ab) ())), some (.fz (rI count1)), some (.fz ((rL rS) words2)), some (.fz (rS letters3)), some (.fz (rI size13)), some (.fz (rS stem23)), some (.fz (rI x38)), some (.fz (rI place28)), some (.fz (rI shift31)), some (.fz (rI longer34)), some (.lv ((cL rS) t37)), some (.fz (rS name56)), none, none]) (jb_append (k := 10) rfl (pv 10) (je_addS (je_var (r := rS) (x := name56) 11 rfl (pv 11)) (je_mulS (je_ixS (je_var (r := rS) (x := letters3) 3 rfl (pv 3)) (je_var (r := rI) (x := shift31) 8 rfl (pv 8))) (je_intB (by rfl) T.f_int (je_c c_eqI (je_mod (je_intI (by rfl) T.f_int (je_var (r := rI) (x := x38) 6 rfl (pv 6))) je_int) (je_var (r := rI) (x := longer34) 9 rfl (pv 9)))))) (fun names57 => (jb_cx (Γ2 := [some (.fz ((rBag cp.ab) ())), some (.fz (rI count1)), some (.fz ((rL rS) words2)), some (.fz (rS letters3)), some (.fz (rI size13)), some (.fz (rS stem23)), some (.fz (rI x38)), some (.fz (rI place28)), some (.fz (rI shift31)), some (.fz (rI longer34)), some (.lv ((cL rS) names57)), some (.fz (rS name56)), none, none]) (jb_nil (t := names57) (Le.some (Le.some (Le.some (Le.some (Le.some (Le.some (Le.none (Le.some (Le.some (Le.some (Le.some (Le.none (Le.none (Le.none Le.nil))))))))))))))))) (ps_expr (pe_bm PySem.F.plainAttrs_list PySem.F.slot_list_append PySem.F.type_list_append mt_append (pv 10) (pa_cons (JE.pe (je_addS (je_var (r := rS) (x := name56) 11 rfl (pv 11)) (je_mulS (je_ixS (je_var (r := rS) (x := letters3) 3 rfl (pv 3)) (je_var (r := rI) (x := shift31) 8 rfl (pv 8))) (je_intB (by rfl) T.f_int (je_c c_eqI (je_mod (je_intI (by rfl) T.f_int (je_var (r := rI) (x := x38) 6 rfl (pv 6))) je_int) (je_var (r := rI) (x := longer34) 9 rfl (pv 9))))))) pa_nil)))))))))) (fun t74 => (jb_cx (Γ2 := [some (.fz ((rBag cp.ab) ())), some (.fz (rI count1)), some (.fz ((rL rS) words2)), some (.fz (rS letters3)), some (.fz (rI size13)), some (.fz (rS stem23)), none, some (.fz (rI place28)), some (.fz (rI shift31)), some (.fz (rI longer34)), some (.lv ((cL rS) t74)), none, none, none]) (cut_names_4 cp T C_draw hr z hu hu1 count1 words2 letters3 size13 stem23 place28 shift31 longer34 t74))))
theorem cut_names_6 {P : Program} {w : World} {K : PySem.W.Frag} {mg : Str → Option Value} {base : Heap} {f : Addr} {cdv : Value} {A : Around} {outer : List Env} {s : Shared} {H : Hp} {E : XK} {Fm : Fm} {S : Type} {R : S → MP Hp} (cp : BagC S R) (T : Txt K mg) (C_draw : FnC P w K mg base "_law_draw" 1 (sp_draw K mg)) (hr : Room 1 (A.deeper (envOfC "_law_names" (defScope st_names) s.heap.objs.size f cdv))) (z : ZOk (ZF P w K mg base ["_law_bag_here", "_law_count", "_law_words", "_law_letters", "_law_size", "_law_stem", "_law_k", "_law_place", "_law_shift", "_law_longer", "_law_names_here", "_law_name", "_law_spot", "_law_word"] "_law_names" (defScope st_names) f cdv A outer s H E Fm S R)) (hu : (A.deeper (envOfC "_law_names" (defScope st_names) s.heap.objs.size f cdv)).units + 65 < cLine) (hu1 : (A.deeper (envOfC "_law_names" (defScope st_names) s.heap.objs.size f cdv)).units + 1 < cLine) (count1 : Int) (words2 : List Str) (letters3 : Str) (size13 : Int) (stem23 : Str) (place28 : Int) (shift31 : Int) (longer34 : Int) : JB (ZF P w K mg base ["_law_bag_here", "_law_count", "_law_words", "_law_letters", "_law_size", "_law_stem", "_law_k", "_law_place", "_law_shift", "_law_longer", "_law_names_here", "_law_name", "_law_spot", "_law_word"] "_law_names" (defScope st_names) f cdv A outer s H E Fm S R) [some (.fz ((rBag cp.ab) ())), some (.fz (rI count1)), some (.fz ((rL rS) words2)), some (.fz (rS letters3)), some (.fz (rI size13)), some (.fz (rS stem23)), none, some (.fz (rI place28)), some (.fz (rI shift31)), some (.fz (rI longer34)), none, none, none, none] (List.drop 6 (defBody st_names)) (bnd (ret ([] : List Str)) fun names35 => thenB (bnd (bnd (ret count1) fun v36 => rangeM 0 v36) fun v117 => forL (fun (x38 : Int) (t37 : (List Str)) => bnd (bnd (bnd (bnd (ret stem23) fun v39 => bnd (ret place28) fun v40 => sslM v39 none (some v40)) fun v50 => bnd (bnd (ret letters3) fun v48 => bnd (bnd (bnd (bnd (ret shift31) fun v43 => bnd (bnd (ret (7 : Int)) fun v41 => bnd (ret x38) fun v42 => mulM v41 v42) fun v44 => ret (v43 + v44)) fun v45 => ret v45) fun v46 => bnd (ret (26 : Int)) fun v47 => modM v46 v47) fun v49 => sgetM v48 v49) fun v51 => saddM v50 v51) fun v54 => bnd (bnd (ret stem23) fun v52 => bnd (ret place28) fun v53 => sslM v52 (some v53) none) fun v55 => saddM v54 v55) fun name56 => bnd (bnd (ret name56) fun v71 => bnd (bnd (bnd (ret letters3) fun v58 => bnd (ret shift31) fun v59 => sgetM v58 v59) fun v69 => bnd (bnd (bnd (bnd (bnd (ret x38) fun v63 => ret v63) fun v64 => bnd (ret (3 : Int)) fun v65 => modM v64 v65) fun v66 => bnd (ret longer34) fun v67 => ret (decide (v66 = v67))) fun v68 => ret (if v68 then (1 : Int) else 0)) fun v70 => smulM v69 v70) fun v72 => saddM v71 v72) fun v73 => bnd (appM t37 v73) fun names57 => ret (.nx names57)) v117 names35) fun (t74 : (List Str)) => thenB (bnd (bnd (bnd (ret count1) fun v75 => bnd (ret (1 : Int)) fun v76 => ret (decide (v76 < v75))) fun v82 => if v82 then (bnd (bnd (ret size13) fun v77 => bnd (ret (4 : Int)) fun v78 => ret (decide (v77 < v78))) fun v81 => if v81 then (bnd (ret longer34) fun v79 => bnd (ret (3 : Int)) fun v80 => ret (decide (v79 = v80))) else ret false) else ret false) fun v83 => if v83 then (bnd (bnd (bnd (ret t74) fun v85 => bnd (ret (0 : Int)) fun v86 => opt (atI v85 v86)) fun v91 => bnd (bnd (ret letters3) fun v89 => bnd (bnd (ret ()) fun v87 => bnd (ret (26 : Int)) fun v88 => draw_m cp.b v88) fun v90 => sgetM v89 v90) fun v92 => saddM v91 v92) fun v93 => bnd (ret (1 : Int)) fun v94 => bnd (setM t74 v94 v93) fun names95 => ret (.nx names95)) else (ret (.nx t74))) fun (t84 : (List Str)) => bnd (bnd (ret ()) fun v98 => bnd (bnd (ret (4 : Int)) fun v96 => bnd (ret count1) fun v97 => mulM v96 v97) fun v99 => draw_m cp.b v99) fun spot100 => bnd (bnd (ret words2) fun v104 => bnd (bnd (ret ()) fun v102 => bnd (bnd (ret words2) fun v101 => ret (List.length v101 : Int)) fun v103 => draw_m cp.b v103) fun v105 => opt (atI v104 v105)) fun word106 => thenB (bnd (bnd (bnd (ret spot100) fun v107 => bnd (ret count1) fun v108 => ret (decide (v107 < v108))) fun v111 => if v111 then (bnd (ret word106) fun v109 => bnd (ret t84) fun v110 => ret (!decide (v109 ∈ v110))) else ret false) fun v112 => if v112 then (bnd (ret word106) fun v114 => bnd (ret spot100) fun v115 => bnd (setM t84 v115 v114) fun names116 => ret (.nx names116)) else (ret (.nx t84))) fun (t113 : (List Str)) => ret (.rt t113) : M S (Fl Unit Empty (List Str))) (fun _ => []) (fun e => nomatch e) (.own (cL rS)) := (jb_setO (i := 10) z rfl (by first | exact .inl rfl | exact .inr rfl) (je_list (jl_nil (r := rS))) (fun names35 => (jb_cx (Γ2 := [some (.fz ((rBag cp.ab) ())), some (.fz (rI count1)), some (.fz ((rL rS) words2)), some (.fz (rS letters3)), some (.fz (rI size13)), some (.fz (rS stem23)), none, some (.fz (rI place28)), some (.fz (rI shift31)), some (.fz (rI longer34)), some (.lv ((cL rS) names35)), none, none, none]) (cut_names_5 cp T C_draw hr z hu hu1 count1 words2 letters3 size13 stem23 place28 shift31 longer34 names35))))
theorem cut_names_7 {P : Program} {w : World} {K : PySem.W.Frag} {mg : Str → Option Value} {base : Heap} {f : Addr} {cdv : Value} {A : Around} {outer : List Env} {s : Shared} {H : Hp} {E : XK} {Fm : Fm} {S : Type} {R : S → MP Hp} (cp : BagC S R) (T : Txt K mg) (C_draw : FnC P w K mg base "_law_draw" 1 (sp_draw K mg)) (hr : Room 1 (A.deeper (envOfC "_law_names" (defScope st_names) s.heap.objs.size f cdv))) (z : ZOk (ZF P w K mg base ["_law_bag_here", "_law_count", "_law_words", "_law_letters", "_law_size", "_law_stem", "_law_k", "_law_place", "_law_shift", "_law_longer", "_law_names_here", "_law_name", "_law_spot", "_law_word"] "_law_names" (defScope st_names) f cdv A outer s H E Fm S R)) (hu : (A.deeper (envOfC "_law_names" (defScope st_names) s.heap.objs.size f cdv)).units + 65 < cLine) (hu1 : (A.deeper (envOfC "_law_names" (defScope st_names) s.heap.objs.size f cdv)).units + 1 < cLine) (count1 : Int) (words2 : List Str) (letters3 : Str) (size13 : Int) (stem23 : Str) (place28 : Int) (shift31 : Int) : JB (ZF P w K mg base ["_law_bag_here", "_law_count", "_law_words", "_law_letters", "_law_size", "_law_stem", "_law_k", "_law_place", "_law_shift", "_law_longer", "_law_names_here", "_law_name", "_law_spot", "_law_word"] "_law_names" (defScope st_names) f cdv A outer s H E Fm S R) [some (.fz ((rBag cp.ab) ())), some (.fz (rI count1)), some (.fz ((rL rS) words2)), some (.fz (rS letters3)), some (.fz (rI size13)), some (.fz (rS stem23)), none, some (.fz (rI place28)), some (.fz (rI shift31)), none, none, none, none, none] (List.drop 5 (defBody st_names)) (bnd (bnd (ret ()) fun v32 => bnd (ret (4 : Int)) fun v33 => draw_m cp.b v33) fun longer34 => bnd (ret ([] : List Str)) fun names35 => thenB (bnd (bnd (ret count1) fun v36 => rangeM 0 v36) fun v117 => forL (fun (x38 : Int) (t37 : (List Str)) => bnd (bnd (bnd (bnd (ret stem23) fun v39 => bnd (ret place28) fun v40 => sslM v39 none (some v40)) fun v50 => bnd (bnd (ret letters3) fun v48 => bnd (bnd (bnd (bnd (ret shift31) fun v43 => bnd (bnd (ret (7 : Int)) fun v41 => bnd (ret x38) fun v42 => mulM v41 v42) fun v44 => ret (v43 + v44)) fun v45 => ret v45) fun v46 => bnd (ret (26 : Int)) fun v47 => modM v46 v47) fun v49 => sgetM v48 v49) fun v51 => saddM v50 v51) fun v54 => bnd (bnd (ret stem23) fun v52 => bnd (ret place28) fun v53 => sslM v52 (some v53) none) fun v55 => saddM v54 v55) fun name56 => bnd (bnd (ret name56) fun v71 => bnd (bnd (bnd (ret letters3) fun v58 => bnd (ret shift31) fun v59 => sgetM v58 v59) fun v69 => bnd (bnd (bnd (bnd (bnd (ret x38) fun v63 => ret v63) fun v64 => bnd (ret (3 : Int)) fun v65 => modM v64 v65) fun v66 => bnd (ret longer34) fun v67 => ret (decide (v66 = v67))) fun v68 => ret (if v68 then (1 : Int) else 0)) fun v70 => smulM v69 v70) fun v72 => saddM v71 v72) fun v73 => bnd (appM t37 v73) fun names57 => ret (.nx names57)) v117 names35) fun (t74 : (List Str)) => thenB (bnd (bnd (bnd (ret count1) fun v75 => bnd (ret (1 : Int)) fun v76 => ret (decide (v76 < v75))) fun v82 => if v82 then (bnd (bnd (ret size13) fun v77 => bnd (ret (4 : Int)) fun v78 => ret (decide (v77 < v78))) fun v81 => if v81 then (bnd (ret longer34) fun v79 => bnd (ret (3 : Int)) fun v80 => ret (decide (v79 = v80))) else ret false) else ret false) fun v83 => if v83 then (bnd (bnd (bnd (ret t74) fun v85 => bnd (ret (0 : Int)) fun v86 => opt (atI v85 v86)) fun v91 => bnd (bnd (ret letters3) fun v89 => bnd (bnd (ret ()) fun v87 => bnd (ret (26 : Int)) fun v88 => draw_m cp.b v88) fun v90 => sgetM v89 v90) fun v92 => saddM v91 v92) fun v93 => bnd (ret (1 : Int)) fun v94 => bnd (setM t74 v94 v93) fun names95 => ret (.nx names95)) else (ret (.nx t74))) fun (t84 : (List Str)) => bnd (bnd (ret ()) fun v98 => bnd (bnd (ret (4 : Int)) fun v96 => bnd (ret count1) fun v97 => mulM v96 v97) fun v99 => draw_m cp.b v99) fun spot100 => bnd (bnd (ret words2) fun v104 => bnd (bnd (ret ()) fun v102 => bnd (bnd (ret words2) fun v101 => ret (List.length v101 : Int)) fun v103 => draw_m cp.b v103) fun v105 => opt (atI v104 v105)) fun word106 => thenB (bnd (bnd (bnd (ret spot100) fun v107 => bnd (ret count1) fun v108 => ret (decide (v107 < v108))) fun v111 => if v111 then (bnd (ret word106) fun v109 => bnd (ret t84) fun v110 => ret (!decide (v109 ∈ v110))) else ret false) fun v112 => if v112 then (bnd (ret word106) fun v114 => bnd (ret spot100) fun v115 => bnd (setM t84 v115 v114) fun names116 => ret (.nx names116)) else (ret (.nx t84))) fun (t113 : (List Str)) => ret (.rt t113) : M S (Fl Unit Empty (List Str))) (fun _ => []) (fun e => nomatch e) (.own (cL rS)) := (jb_set (i := 9) z rfl (by first | exact .inl rfl | exact .inr rfl) (je_call z C_draw hr cp (ja_cons (je_var (r := rBag cp.ab) (x := ()) 0 rfl (pv 0)) (ja_cons je_int ja_nil))) (fun longer34 => (jb_cx (Γ2 := [some (.fz ((rBag cp.ab) ())), some (.fz (rI count1)), some (.fz ((rL rS) words2)), some (.fz (rS letters3)), some (.fz (rI size13)), some (.fz (rS stem23)), none, some (.fz (rI place28)), some (.fz (rI shift31)), some (.fz (rI longer34)), none, none, none, none]) (cut_names_6 cp T C_draw hr z hu hu1 count1 words2 letters3 size13 stem23 place28 shift31 longer34))))
theorem cut_names_8 {P : Program} {w : World} {K : PySem.W.Frag} {mg : Str → Option Value} {base : Heap} {f : Addr} {cdv : Value} {A : Around} {outer : List Env} {s : Shared} {H : Hp} {E : XK} {Fm : Fm} {S : Type} {R : S → MP Hp} (cp : BagC S R) (T : Txt K mg) (C_draw : FnC P w K mg base "_law_draw" 1 (sp_draw K mg)) (hr : Room 1 (A.deeper (envOfC "_law_names" (defScope st_names) s.heap.objs.size f cdv))) (z : ZOk (ZF P w K mg base ["_law_bag_here", "_law_count", "_law_words", "_law_letters", "_law_size", "_law_stem", "_law_k", "_law_place", "_law_shift", "_law_longer", "_law_names_here", "_law_name", "_law_spot", "_law_word"] "_law_names" (defScope st_names) f cdv A outer s H E Fm S R)) (hu : (A.deeper (envOfC "_law_names" (defScope st_names) s.heap.objs.size f cdv)).units + 65 < cLine) (hu1 : (A.deeper (envOfC "_law_names" (defScope st_names) s.heap.objs.size f cdv)).units + 1 < cLine) (count1 : Int) (words2 : List Str) (letters3 : Str) (size13 : Int) (stem23 : Str) (place28 : Int) : JB (ZF P w K mg base ["_law_bag_here", "_law_count", "_law_words", "_law_letters", "_law_size", "_law_stem", "_law_k", "_law_place", "_law_shift", "_law_longer", "_law_names_here", "_law_name", "_law_spot", "_law_word"] "_law_names" (defScope st_names) f cdv A outer s H E Fm S R) [some (.fz ((rBag cp.ab) ())), some (.fz (rI count1)), some (.fz ((rL rS) words2)), some (.fz (rS letters3)), some (.fz (rI size13)), some (.fz (rS stem23)), none, some (.fz (rI place28)), none, none, none, none, none, none] (List.drop 4 (defBody st_names)) (bnd (bnd (ret ()) fun v29 => bnd (ret (26 : Int)) fun v30 => draw_m cp.b v30) fun shift31 => bnd (bnd (ret ()) fun v32 => bnd (ret (4 : Int)) fun v33 => draw_m cp.b v33) fun longer34 => bnd (ret ([] : List Str)) fun names35 => thenB (bnd (bnd (ret count1) fun v36 => rangeM 0 v36) fun v117 => forL (fun (x38 : Int) (t37 : (List Str)) => bnd (bnd (bnd (bnd (ret stem23) fun v39 => bnd (ret place28) fun v40 => sslM v39 none (some v40)) fun v50 => bnd (bnd (ret letters3) fun v48 => bnd (bnd (bnd (bnd (ret shift31) fun v43 => bnd (bnd (ret (7 : Int)) fun v41 => bnd (ret x38) fun v42 => mulM v41 v42) fun v44 => ret (v43 + v44)) fun v45 => ret v45) fun v46 => bnd (ret (26 : Int)) fun v47 => modM v46 v47) fun v49 => sgetM v48 v49) fun v51 => saddM v50 v51) fun v54 => bnd (bnd (ret stem23) fun v52 => bnd (ret place28) fun v53 => sslM v52 (some v53) none) fun v55 => saddM v54 v55) fun name56 => bnd (bnd (ret name56) fun v71 => bnd (bnd (bnd (ret letters3) fun v58 => bnd (ret shift31) fun v59 => sgetM v58 v59) fun v69 => bnd (bnd (bnd (bnd (bnd (ret x38) fun v63 => ret v63) fun v64 => bnd (ret (3 : Int)) fun v65 => modM v64 v65) fun v66 => bnd (ret longer34) fun v67 => ret (decide (v66 = v67))) fun v68 => ret (if v68 then (1 : Int) else 0)) fun v70 => smulM v69 v70) fun v72 => saddM v71 v72) fun v73 => bnd (appM t37 v73) fun names57 => ret (.nx names57)) v117 names35) fun (t74 : (List Str)) => thenB (bnd (bnd (bnd (ret count1) fun v75 => bnd (ret (1 : Int)) fun v76 => ret (decide (v76 < v75))) fun v82 => if v82 then (bnd (bnd (ret size13) fun v77 => bnd (ret (4 : Int)) fun v78 => ret (decide (v77 < v78))) fun v81 => if v81 then (bnd (ret longer34) fun v79 => bnd (ret (3 : Int)) fun v80 => ret (decide (v79 = v80))) else ret false) else ret false) fun v83 => if v83 then (bnd (bnd (bnd (ret t74) fun v85 => bnd (ret (0 : Int)) fun v86 => opt (atI v85 v86)) fun v91 => bnd (bnd (ret letters3) fun v89 => bnd (bnd (ret ()) fun v87 => bnd (ret (26 : Int)) fun v88 => draw_m cp.b v88) fun v90 => sgetM v89 v90) fun v92 => saddM v91 v92) fun v93 => bnd (ret (1 : Int)) fun v94 => bnd (setM t74 v94 v93) fun names95 => ret (.nx names95)) else (ret (.nx t74))) fun (t84 : (List Str)) => bnd (bnd (ret ()) fun v98 => bnd (bnd (ret (4 : Int)) fun v96 => bnd (ret count1) fun v97 => mulM v96 v97) fun v99 => draw_m cp.b v99) fun spot100 => bnd (bnd (ret words2) fun v104 => bnd (bnd (ret ()) fun v102 => bnd (bnd (ret words2) fun v101 => ret (List.length v101 : Int)) fun v103 => draw_m cp.b v103) fun v105 => opt (atI v104 v105)) fun word106 => thenB (bnd (bnd (bnd (ret spot100) fun v107 => bnd (ret count1) fun v108 => ret (decide (v107 < v108))) fun v111 => if v111 then (bnd (ret word106) fun v109 => bnd (ret t84) fun v110 => ret (!decide (v109 ∈ v110))) else ret false) fun v112 => if v112 then (bnd (ret word106) fun v114 => bnd (ret spot100) fun v115 => bnd (setM t84 v115 v114) fun names116 => ret (.nx names116)) else (ret (.nx t84))) fun (t113 : (List Str)) => ret (.rt t113) : M S (Fl Unit Empty (List Str))) (fun _ => []) (fun e => nomatch e) (.own (cL rS)) := (jb_set (i := 8) z rfl (by first | exact .inl rfl | exact .inr rfl) (je_call z C_draw hr cp (ja_cons (je_var (r := rBag cp.ab) (x := ()) 0 rfl (pv 0)) (ja_cons je_int ja_nil))) (fun shift31 => (jb_cx (Γ2 := [some (.fz ((rBag cp.ab) ())), some (.fz (rI count1)), some (.fz ((rL rS) words2)), some (.fz (rS letters3)), some (.fz (rI size13)), some (.fz (rS stem23)), none, some (.fz (rI place28)), some (.fz (rI shift31)), none, none, none, none, none]) (cut_names_7 cp T C_draw hr z hu hu1 count1 words2 letters3 size13 stem23 place28 shift31))))
theorem cut_names_9 {P : Program} {w : World} {K : PySem.W.Frag} {mg : Str → Option Value} {base : Heap} {f : Addr} {cdv : Value} {A : Around} {outer : List Env} {s : Shared} {H : Hp} {E : XK} {Fm : Fm} {S : Type} {R : S → MP Hp} (cp : BagC S R) (T : Txt K mg) (C_draw : FnC P w K mg base "_law_draw" 1 (sp_draw K mg)) (hr : Room 1 (A.deeper (envOfC "_law_names" (defScope st_names) s.heap.objs.size f cdv))) (z : ZOk (ZF P w K mg base ["_law_bag_here", "_law_count", "_law_words", "_law_letters", "_law_size", "_law_stem", "_law_k", "_law_place", "_law_shift", "_law_longer", "_law_names_here", "_law_name", "_law_spot", "_law_word"] "_law_names" (defScope st_names) f cdv A outer s H E Fm S R)) (hu : (A.deeper (envOfC "_law_names" (defScope st_names) s.heap.objs.size f cdv)).units + 65 < cLine) (hu1 : (A.deeper (envOfC "_law_names" (defScope st_names) s.heap.objs.size f cdv)).units + 1 < cLine) (count1 : Int) (words2 : List Str) (letters3 : Str) (size13 : Int) (stem23 : Str) : JB (ZF P w K mg base ["_law_bag_here", "_law_count", "_law_words", "_law_letters", "_law_size", "_law_stem", "_law_k", "_law_place", "_law_shift", "_law_longer", "_law_names_here", "_law_name", "_law_spot", "_law_word"] "_law_names" (defScope st_names) f cdv A outer s H E Fm S R) [some (.fz ((rBag cp.ab) ())), some (.fz (rI count1)), some (.fz ((rL rS) words2)), some (.fz (rS letters3)), some (.fz (rI size13)), some (.fz (rS stem23)), none, none, none, none, none, none, none, none] (List.drop 3 (defBody st_names)) (bnd (bnd (ret ()) fun v26 => bnd (bnd (ret size13) fun v24 => bnd (ret (1 : Int)) fun v25 => ret (v24 + v25)) fun v27 => draw_m cp.b v27) fun place28 => bnd (bnd (ret ()) fun v29 => bnd (ret (26 : Int)) fun v30 => draw_m cp.b v30) fun shift31 => bnd (bnd (ret ()) fun v32 => bnd (ret (4 : Int)) fun v33 => draw_m cp.b v33) fun longer34 => bnd (ret ([] : List Str)) fun names35 => thenB (bnd (bnd (ret count1) fun v36 => rangeM 0 v36) fun v117 => forL (fun (x38 : Int) (t37 : (List Str)) => bnd (bnd (bnd (bnd (ret stem23) fun v39 => bnd (ret place28) fun v40 => sslM v39 none (some v40)) fun v50 => bnd (bnd (ret letters3) fun v48 => bnd (bnd (bnd (bnd (ret shift31) fun v43 => bnd (bnd (ret (7 : Int)) fun v41 => bnd (ret x38) fun v42 => mulM v41 v42) fun v44 => ret (v43 + v44)) fun v45 => ret v45) fun v46 => bnd (ret (26 : Int)) fun v47 => modM v46 v47) fun v49 => sgetM v48 v49) fun v51 => saddM v50 v51) fun v54 => bnd (bnd (ret stem23) fun v52 => bnd (ret place28) fun v53 => sslM v52 (some v53) none) fun v55 => saddM v54 v55) fun name56 => bnd (bnd (ret name56) fun v71 => bnd (bnd (bnd (ret letters3) fun v58 => bnd (ret shift31) fun v59 => sgetM v58 v59) fun v69 => bnd (bnd (bnd (bnd (bnd (ret x38) fun v63 => ret v63) fun v64 => bnd (ret (3 : Int)) fun v65 => modM v64 v65) fun v66 => bnd (ret longer34) fun v67 => ret (decide (v66 = v67))) fun v68 => ret (if v68 then (1 : Int) else 0)) fun v70 => smulM v69 v70) fun v72 => saddM v71 v72) fun v73 => bnd (appM t37 v73) fun names57 => ret (.nx names57)) v117 names35) fun (t74 : (List Str)) => thenB (bnd (bnd (bnd (ret count1) fun v75 => bnd (ret (1 : Int)) fun v76 => ret (decide (v76 < v75))) fun v82 => if v82 then (bnd (bnd (ret size13) fun v77 => bnd (ret (4 : Int)) fun v78 => ret (decide (v77 < v78))) fun v81 => if v81 then (bnd (ret longer34) fun v79 => bnd (ret (3 : Int)) fun v80 => ret (decide (v79 = v80))) else ret false) else ret false) fun v83 => if v83 then (bnd (bnd (bnd (ret t74) fun v85 => bnd (ret (0 : Int)) fun v86 => opt (atI v85 v86)) fun v91 => bnd (bnd (ret letters3) fun v89 => bnd (bnd (ret ()) fun v87 => bnd (ret (26 : Int)) fun v88 => draw_m cp.b v88) fun v90 => sgetM v89 v90) fun v92 => saddM v91 v92) fun v93 => bnd (ret (1 : Int)) fun v94 => bnd (setM t74 v94 v93) fun names95 => ret (.nx names95)) else (ret (.nx t74))) fun (t84 : (List Str)) => bnd (bnd (ret ()) fun v98 => bnd (bnd (ret (4 : Int)) fun v96 => bnd (ret count1) fun v97 => mulM v96 v97) fun v99 => draw_m cp.b v99) fun spot100 => bnd (bnd (ret words2) fun v104 => bnd (bnd (ret ()) fun v102 => bnd (bnd (ret words2) fun v101 => ret (List.length v101 : Int)) fun v103 => draw_m cp.b v103) fun v105 => opt (atI v104 v105)) fun word106 => thenB (bnd (bnd (bnd (ret spot100) fun v107 => bnd (ret count1) fun v108 => ret (decide (v107 < v108))) fun v111 => if v111 then (bnd (ret word106) fun v109 => bnd (ret t84) fun v110 => ret (!decide (v109 ∈ v110))) else ret false) fun v112 => if v112 then (bnd (ret word106) fun v114 => bnd (ret spot100) fun v115 => bnd (setM t84 v115 v114) fun names116 => ret (.nx names116)) else (ret (.nx t84))) fun (t113 : (List Str)) => ret (.rt t113) : M S (Fl Unit Empty (List Str))) (fun _ => []) (fun e => nomatch e) (.own (cL rS)) := (jb_set (i := 7) z rfl (by first | exact .inl rfl | exact .inr rfl) (je_call z C_draw hr cp (ja_cons (je_var (r := rBag cp.ab) (x := ()) 0 rfl (pv 0)) (ja_cons (je_add (je_var (r := rI) (x := size13) 4 rfl (pv 4)) je_int) ja_nil))) (fun place28 => (jb_cx (Γ2 := [some (.fz ((rBag cp.ab) ())), some (.fz (rI count1)), some (.fz ((rL rS) words2)), some (.fz (rS letters3)), some (.fz (rI size13)), some (.fz (rS stem23)), none, some (.fz (rI place28)), none, none, none, none, none, none]) (cut_names_8 cp T C_draw hr z hu hu1 count1 words2 letters3 size13 stem23 place28))))
theorem cut_names_10 {P : Program} {w : World} {K : PySem.W.Frag} {mg : Str → Option Value} {base : Heap} {f : Addr} {cdv : Value} {A : Around} {outer : List Env} {s : Shared} {H : Hp} {E : XK} {Fm : Fm} {S : Type} {R : S → MP Hp} (cp : BagC S R) (T : Txt K mg) (C_draw : FnC P w K mg base "_law_draw" 1 (sp_draw K mg)) (hr : Room 1 (A.deeper (envOfC "_law_names" (defScope st_names) s.heap.objs.size f cdv))) (z : ZOk (ZF P w K mg base ["_law_bag_here", "_law_count", "_law_words", "_law_letters", "_law_size", "_law_stem", "_law_k", "_law_place", "_law_shift", "_law_longer", "_law_names_here", "_law_name", "_law_spot", "_law_word"] "_law_names" (defScope st_names) f cdv A outer s H E Fm S R)) (hu : (A.deeper (envOfC "_law_names" (defScope st_names) s.heap.objs.size f cdv)).units + 65 < cLine) (hu1 : (A.deeper (envOfC "_law_names" (defScope st_names) s.heap.objs.size f cdv)).units + 1 < cLine) (count1 : Int) (words2 : List Str) (letters3 : Str) (size13 : Int) : JB (ZF P w K mg base ["_law_bag_here", "_law_count", "_law_words", "_law_letters", "_law_size", "_law_stem", "_law_k", "_law_place", "_law_shift", "_law_longer", "_law_names_here", "_law_name", "_law_spot", "_law_word"] "_law_names" (defScope st_names) f cdv A outer s H E Fm S R) [some (.fz ((rBag cp.ab) ())), some (.fz (rI count1)), some (.fz ((rL rS) words2)), some (.fz (rS letters3)), some (.fz (rI size13)), none, none, none, none, none, none, none, none, none] (List.drop 2 (defBody st_names)) (bnd (bnd (ret ("" : Str)) fun v21 => bnd (bnd (bnd (ret size13) fun v14 => rangeM 0 v14) fun v20 => compM (fun x15 => ret true) (fun x15 => bnd (ret letters3) fun v18 => bnd (bnd (ret ()) fun v16 => bnd (ret (26 : Int)) fun v17 => draw_m cp.b v17) fun v19 => sgetM v18 v19) v20) fun v22 => joinM v21 v22) fun stem23 => bnd (bnd (ret ()) fun v26 => bnd (bnd (ret size13) fun v24 => bnd (ret (1 : Int)) fun v25 => ret (v24 + v25)) fun v27 => draw_m cp.b v27) fun place28 => bnd (bnd (ret ()) fun v29 => bnd (ret (26 : Int)) fun v30 => draw_m cp.b v30) fun shift31 => bnd (bnd (ret ()) fun v32 => bnd (ret (4 : Int)) fun v33 => draw_m cp.b v33) fun longer34 => bnd (ret ([] : List Str)) fun names35 => thenB (bnd (bnd (ret count1) fun v36 => rangeM 0 v36) fun v117 => forL (fun (x38 : Int) (t37 : (List Str)) => bnd (bnd (bnd (bnd (ret stem23) fun v39 => bnd (ret place28) fun v40 => sslM v39 none (some v40)) fun v50 => bnd (bnd (ret letters3) fun v48 => bnd (bnd (bnd (bnd (ret shift31) fun v43 => bnd (bnd (ret (7 : Int)) fun v41 => bnd (ret x38) fun v42 => mulM v41 v42) fun v44 => ret (v43 + v44)) fun v45 => ret v45) fun v46 => bnd (ret (26 : Int)) fun v47 => modM v46 v47) fun v49 => sgetM v48 v49) fun v51 => saddM v50 v51) fun v54 => bnd (bnd (ret stem23) fun v52 => bnd (ret place28) fun v53 => sslM v52 (some v53) none) fun v55 => saddM v54 v55) fun name56 => bnd (bnd (ret name56) fun v71 => bnd (bnd (bnd (ret letters3) fun v58 => bnd (ret shift31) fun v59 => sgetM v58 v59) fun v69 => bnd (bnd (bnd (bnd (bnd (ret x38) fun v63 => ret v63) fun v64 => bnd (ret (3 : Int)) fun v65 => modM v64 v65) fun v66 => bnd (ret longer34) fun v67 => ret (decide (v66 = v67))) fun v68 => ret (if v68 then (1 : Int) else 0)) fun v70 => smulM v69 v70) fun v72 => saddM v71 v72) fun v73 => bnd (appM t37 v73) fun names57 => ret (.nx names57)) v117 names35) fun (t74 : (List Str)) => thenB (bnd (bnd (bnd (ret count1) fun v75 => bnd (ret (1 : Int)) fun v76 => ret (decide (v76 < v75))) fun v82 => if v82 then (bnd (bnd (ret size13) fun v77 => bnd (ret (4 : Int)) fun v78 => ret (decide (v77 < v78))) fun v81 => if v81 then (bnd (ret longer34) fun v79 => bnd (ret (3 : Int)) fun v80 => ret (decide (v79 = v80))) else ret false) else ret false) fun v83 => if v83 then (bnd (bnd (bnd (ret t74) fun v85 => bnd (ret (0 : Int)) fun v86 => opt (atI v85 v86)) fun v91 => bnd (bnd (ret letters3) fun v89 => bnd (bnd (ret ()) fun v87 => bnd (ret (26 : Int)) fun v88 => draw_m cp.b v88) fun v90 => sgetM v89 v90) fun v92 => saddM v91 v92) fun v93 => bnd (ret (1 : Int)) fun v94 => bnd (setM t74 v94 v93) fun names95 => ret (.nx names95)) else (ret (.nx t74))) fun (t84 : (List Str)) => bnd (bnd (ret ()) fun v98 => bnd (bnd (ret (4 : Int)) fun v96 => bnd (ret count1) fun v97 => mulM v96 v97) fun v99 => draw_m cp.b v99) fun spot100 => bnd (bnd (ret words2) fun v104 => bnd (bnd (ret ()) fun v102 => bnd (bnd (ret words2) fun v101 => ret (List.length v101 : Int)) fun v103 => draw_m cp.b v103) fun v105 => opt (atI v104 v105)) fun word106 => thenB (bnd (bnd (bnd (ret spot100) fun v107 => bnd (ret count1) fun v108 => ret (decide (v107 < v108))) fun v111 => if v111 then (bnd (ret word106) fun v109 => bnd (ret t84) fun v110 => ret (!decide (v109 ∈ v110))) else ret false) fun v112 => if v112 then (bnd (ret word106) fun v114 => bnd (ret spot100) fun v115 => bnd (setM t84 v115 v114) fun names116 => ret (.nx names116)) else (ret (.nx t84))) fun (t113 : (List Str)) => ret (.rt t113) : M S (Fl Unit Empty (List Str))) (fun _ => []) (fun e => nomatch e) (.own (cL rS)) := (jb_set (i := 5) z rfl (by first | exact .inl rfl | exact .inr rfl) (je_join je_str (je_frzL (je_comp (own := [("_law_k", 6)]) z (ji_range1 (by rfl) T.f_range (je_var (r := rI) (x := size13) 4 rfl (pv 4))) (fun (x15 : Int) => ret true) (fun (x15 : Int) => bnd (ret letters3) fun v18 => bnd (bnd (ret ()) fun v16 => bnd (ret (26 : Int)) fun v17 => draw_m cp.b v17) fun v19 => sgetM v18 v19) (blkOk_by (N := ["_law_bag_here", "_law_count", "_law_words", "_law_letters", "_law_size", "_law_stem", "_law_k", "_law_place", "_law_shift", "_law_longer", "_law_names_here", "_law_name", "_law_spot", "_law_word"]) (sc := defScope st_names) (by decide +kernel)) (fun _ _ _ _ _ _ _ => by exact (jg_name (i := 6) ((ZOk.blk z)).nd rfl (by first | exact .inl rfl | exact .inr rfl))) (fun _ _ _ _ _ _ _ x15 => jts_nil) (fun _ _ _ _ _ _ _ x15 => (je_ixS (je_var (r := rS) (x := letters3) 3 rfl (pv 3)) (je_call (ZOk.blk z) C_draw hr cp (ja_cons (je_var (r := rBag cp.ab) (x := ()) 0 rfl (pv 0)) (ja_cons je_int ja_nil)))))))) (fun stem23 => (jb_cx (Γ2 := [some (.fz ((rBag cp.ab) ())), some (.fz (rI count1)), some (.fz ((rL rS) words2)), some (.fz (rS letters3)), some (.fz (rI size13)), some (.fz (rS stem23)), none, none, none, none, none, none, none, none]) (cut_names_9 cp T C_draw hr z hu hu1 count1 words2 letters3 size13 stem23))))
theorem cut_names_11 {P : Program} {w : World} {K : PySem.W.Frag} {mg : Str → Option Value} {base : Heap} {f : Addr} {cdv : Value} {A : Around} {outer : List Env} {s : Shared} {H : Hp} {E : XK} {Fm : Fm} {S : Type} {R : S → MP Hp} (cp : BagC S R) (T : Txt K mg) (C_draw : FnC P w K mg base "_law_draw" 1 (sp_draw K mg)) (hr : Room 1 (A.deeper (envOfC "_law_names" (defScope st_names) s.heap.objs.size f cdv))) (z : ZOk (ZF P w K mg base ["_law_bag_here", "_law_count", "_law_words", "_law_letters", "_law_size", "_law_stem", "_law_k", "_law_place", "_law_shift", "_law_longer", "_law_names_here", "_law_name", "_law_spot", "_law_word"] "_law_names" (defScope st_names) f cdv A outer s H E Fm S R)) (hu : (A.deeper (envOfC "_law_names" (defScope st_names) s.heap.objs.size f cdv)).units + 65 < cLine) (hu1 : (A.deeper (envOfC "_law_names" (defScope st_names) s.heap.objs.size f cdv)).units + 1 < cLine) (count1 : Int) (words2 : List Str) (letters3 : Str) : JB (ZF P w K mg base ["_law_bag_here", "_law_count", "_law_words", "_law_letters", "_law_size", "_law_stem", "_law_k", "_law_place", "_law_shift", "_law_longer", "_law_names_here", "_law_name", "_law_spot", "_law_word"] "_law_names" (defScope st_names) f cdv A outer s H E Fm S R) [some (.fz ((rBag cp.ab) ())), some (.fz (rI count1)), some (.fz ((rL rS) words2)), some (.fz (rS letters3)), none, none, none, none, none, none, none, none, none, none] (List.drop 1 (defBody st_names)) (bnd (bnd (bnd (ret (0 : Int)) fun v4 => bnd (ret (1 : Int)) fun v5 => bnd (ret (2 : Int)) fun v6 => bnd (ret (3 : Int)) fun v7 => bnd (ret (10 : Int)) fun v8 => ret [v4, v5, v6, v7, v8]) fun v11 => bnd (bnd (ret ()) fun v9 => bnd (ret (5 : Int)) fun v10 => draw_m cp.b v10) fun v12 => opt (atI v11 v12)) fun size13 => bnd (bnd (ret ("" : Str)) fun v21 => bnd (bnd (bnd (ret size13) fun v14 => rangeM 0 v14) fun v20 => compM (fun x15 => ret true) (fun x15 => bnd (ret letters3) fun v18 => bnd (bnd (ret ()) fun v16 => bnd (ret (26 : Int)) fun v17 => draw_m cp.b v17) fun v19 => sgetM v18 v19) v20) fun v22 => joinM v21 v22) fun stem23 => bnd (bnd (ret ()) fun v26 => bnd (bnd (ret size13) fun v24 => bnd (ret (1 : Int)) fun v25 => ret (v24 + v25)) fun v27 => draw_m cp.b v27) fun place28 => bnd (bnd (ret ()) fun v29 => bnd (ret (26 : Int)) fun v30 => draw_m cp.b v30) fun shift31 => bnd (bnd (ret ()) fun v32 => bnd (ret (4 : Int)) fun v33 => draw_m cp.b v33) fun longer34 => bnd (ret ([] : List Str)) fun names35 => thenB (bnd (bnd (ret count1) fun v36 => rangeM 0 v36) fun v117 => forL (fun (x38 : Int) (t37 : (List Str)) => bnd (bnd (bnd (bnd (ret stem23) fun v39 => bnd (ret place28) fun v40 => sslM v39 none (some v40)) fun v50 => bnd (bnd (ret letters3) fun v48 => bnd (bnd (bnd (bnd (ret shift31) fun v43 => bnd (bnd (ret (7 : Int)) fun v41 => bnd (ret x38) fun v42 => mulM v41 v42) fun v44 => ret (v43 + v44)) fun v45 => ret v45) fun v46 => bnd (ret (26 : Int)) fun v47 => modM v46 v47) fun v49 => sgetM v48 v49) fun v51 => saddM v50 v51) fun v54 => bnd (bnd (ret stem23) fun v52 => bnd (ret place28) fun v53 => sslM v52 (some v53) none) fun v55 => saddM v54 v55) fun name56 => bnd (bnd (ret name56) fun v71 => bnd (bnd (bnd (ret letters3) fun v58 => bnd (ret shift31) fun v59 => sgetM v58 v59) fun v69 => bnd (bnd (bnd (bnd (bnd (ret x38) fun v63 => ret v63) fun v64 => bnd (ret (3 : Int)) fun v65 => modM v64 v65) fun v66 => bnd (ret longer34) fun v67 => ret (decide (v66 = v67))) fun v68 => ret (if v68 then (1 : Int) else 0)) fun v70 => smulM v69 v70) fun v72 => saddM v71 v72) fun v73 => bnd (appM t37 v73) fun names57 => ret (.nx names57)) v117 names35) fun (t74 : (List Str)) => thenB (bnd (bnd (bnd (ret count1) fun v75 => bnd (ret (1 : Int)) fun v76 => ret (decide (v76 < v75))) fun v82 => if v82 then (bnd (bnd (ret size13) fun v77 => bnd (ret (4 : Int)) fun v78 => ret (decide (v77 < v78))) fun v81 => if v81 then (bnd (ret longer34) fun v79 => bnd (ret (3 : Int)) fun v80 => ret (decide (v79 = v80))) else ret false) else ret false) fun v83 => if v83 then (bnd (bnd (bnd (ret t74) fun v85 => bnd (ret (0 : Int)) fun v86 => opt (atI v85 v86)) fun v91 => bnd (bnd (ret letters3) fun v89 => bnd (bnd (ret ()) fun v87 => bnd (ret (26 : Int)) fun v88 => draw_m cp.b v88) fun v90 => sgetM v89 v90) fun v92 => saddM v91 v92) fun v93 => bnd (ret (1 : Int)) fun v94 => bnd (setM t74 v94 v93) fun names95 => ret (.nx names95)) else (ret (.nx t74))) fun (t84 : (List Str)) => bnd (bnd (ret ()) fun v98 => bnd (bnd (ret (4 : Int)) fun v96 => bnd (ret count1) fun v97 => mulM v96 v97) fun v99 => draw_m cp.b v99) fun spot100 => bnd (bnd (ret words2) fun v104 => bnd (bnd (ret ()) fun v102 => bnd (bnd (ret words2) fun v101 => ret (List.length v101 : Int)) fun v103 => draw_m cp.b v103) fun v105 => opt (atI v104 v105)) fun word106 => thenB (bnd (bnd (bnd (ret spot100) fun v107 => bnd (ret count1) fun v108 => ret (decide (v107 < v108))) fun v111 => if v111 then (bnd (ret word106) fun v109 => bnd (ret t84) fun v110 => ret (!decide (v109 ∈ v110))) else ret false) fun v112 => if v112 then (bnd (ret word106) fun v114 => bnd (ret spot100) fun v115 => bnd (setM t84 v115 v114) fun names116 => ret (.nx names116)) else (ret (.nx t84))) fun (t113 : (List Str)) => ret (.rt t113) : M S (Fl Unit Empty (List Str))) (fun _ => []) (fun e => nomatch e) (.own (cL rS)) := (jb_set (i := 4) z rfl (by first | exact .inl rfl | exact .inr rfl) (je_ixL (je_frzL (je_list (jl_cons je_int (jl_cons je_int (jl_cons je_int (jl_cons je_int (jl_cons je_int (jl_nil (r := rI))))))))) (je_call z C_draw hr cp (ja_cons (je_var (r := rBag cp.ab) (x := ()) 0 rfl (pv 0)) (ja_cons je_int ja_nil)))) (fun size13 => (jb_cx (Γ2 := [some (.fz ((rBag cp.ab) ())), some (.fz (rI count1)), some (.fz ((rL rS) words2)), some (.fz (rS letters3)), some (.fz (rI size13)), none, none, none, none, none, none, none, none, none]) (cut_names_10 cp T C_draw hr z hu hu1 count1 words2 letters3 size13))))
theorem ok_names {P : Program} {w : World} {K : PySem.W.Frag} {mg : Str → Option Value} {base : Heap} {f : Addr} {fd : FuncData} (F : FnP K "_law_names" "_law_names" st_names [] [] f fd) (T : Txt K mg) (C_draw : FnC P w K mg base "_law_draw" 1 (sp_draw K mg)) : FnOk P w K mg base (L2.CX P w) 2 f fd ["_law_bag_here", "_law_count", "_law_words"] (sp_names K mg) := by
  refine fn_mk (k := 1) (mb := fun S R c y => names_mb c.b y.2.1 y.2.2.1) (Γ0 := fun S R c y => [some (.fz ((rBag c.ab) y.1)), some (.fz (rI y.2.1)), some (.fz ((rL rS) y.2.2.1)), none, none, none, none, none, none, none, none, none, none, none]) (Γ' := fun _ => []) (Γb := fun e => nomatch e) F sc_names (fun S R c y vs G h => (len_raC (len_raC (len_raC len_raN))) h) (fun _ _ _ _ => rfl) (fun S R c y vs G h => (so_raC (so_raC (so_raC (so_raN (n := 11))))) h) (fun _ _ _ _ => by exact Nat.le_of_ble_eq_true rfl) (by exact Nat.le_of_ble_eq_true rfl) ?_
  intro cdv A outer s H E Fm S R cp y hr z
  have hu := DL.Room.hu hr
  have hu1 := DL.Room.hu1 hr
  obtain ⟨_, count1, words2, _⟩ := y
  exact JB.eq (m := (bnd (ret ("abcdefghijklmnopqrstuvwxyz" : Str)) fun letters3 => bnd (bnd (bnd (ret (0 : Int)) fun v4 => bnd (ret (1 : Int)) fun v5 => bnd (ret (2 : Int)) fun v6 => bnd (ret (3 : Int)) fun v7 => bnd (ret (10 : Int)) fun v8 => ret [v4, v5, v6, v7, v8]) fun v11 => bnd (bnd (ret ()) fun v9 => bnd (ret (5 : Int)) fun v10 => draw_m cp.b v10) fun v12 => opt (atI v11 v12)) fun size13 => bnd (bnd (ret ("" : Str)) fun v21 => bnd (bnd (bnd (ret size13) fun v14 => rangeM 0 v14) fun v20 => compM (fun x15 => ret true) (fun x15 => bnd (ret letters3) fun v18 => bnd (bnd (ret ()) fun v16 => bnd (ret (26 : Int)) fun v17 => draw_m cp.b v17) fun v19 => sgetM v18 v19) v20) fun v22 => joinM v21 v22) fun stem23 => bnd (bnd (ret ()) fun v26 => bnd (bnd (ret size13) fun v24 => bnd (ret (1 : Int)) fun v25 => ret (v24 + v25)) fun v27 => draw_m cp.b v27) fun place28 => bnd (bnd (ret ()) fun v29 => bnd (ret (26 : Int)) fun v30 => draw_m cp.b v30) fun shift31 => bnd (bnd (ret ()) fun v32 => bnd (ret (4 : Int)) fun v33 => draw_m cp.b v33) fun longer34 => bnd (ret ([] : List Str)) fun names35 => thenB (bnd (bnd (ret count1) fun v36 => rangeM 0 v36) fun v117 => forL (fun (x38 : Int) (t37 : (List Str)) => bnd (bnd (bnd (bnd (ret stem23) fun v39 => bnd (ret place28) fun v40 => sslM v39 none (some v40)) fun v50 => bnd (bnd (ret letters3) fun v48 => bnd (bnd (bnd (bnd (ret shift31) fun v43 => bnd (bnd (ret (7 : Int)) fun v41 => bnd (ret x38) fun v42 => mulM v41 v42) fun v44 => ret (v43 + v44)) fun v45 => ret v45) fun v46 => bnd (ret (26 : Int)) fun v47 => modM v46 v47) fun v49 => sgetM v48 v49) fun v51 => saddM v50 v51) fun v54 => bnd (bnd (ret stem23) fun v52 => bnd (ret place28) fun v53 => sslM v52 (some v53) none) fun v55 => saddM v54 v55) fun name56 => bnd (bnd (ret name56) fun v71 => bnd (bnd (bnd (ret letters3) fun v58 => bnd (ret shift31) fun v59 => sgetM v58 v59) fun v69 => bnd (bnd (bnd (bnd (bnd (ret x38) fun v63 => ret v63) fun v64 => bnd (ret (3 : Int)) fun v65 => modM v64 v65) fun v66 => bnd (ret longer34) fun v67 => ret (decide (v66 = v67))) fun v68 => ret (if v68 then (1 : Int) else 0)) fun v70 => smulM v69 v70) fun v72 => saddM v71 v72) fun v73 => bnd (appM t37 v73) fun names57 => ret (.nx names57)) v117 names35) fun (t74 : (List Str)) => thenB (bnd (bnd (bnd (ret count1) fun v75 => bnd (ret (1 : Int)) fun v76 => ret (decide (v76 < v75))) fun v82 => if v82 then (bnd (bnd (ret size13) fun v77 => bnd (ret (4 : Int)) fun v78 => ret (decide (v77 < v78))) fun v81 => if v81 then (bnd (ret longer34) fun v79 => bnd (ret (3 : Int)) fun v80 => ret (decide (v79 = v80))) else ret false) else ret false) fun v83 => if v83 then (bnd (bnd (bnd (ret t74) fun v85 => bnd (ret (0 : Int)) fun v86 => opt (atI v85 v86)) fun v91 => bnd (bnd (ret letters3) fun v89 => bnd (bnd (ret ()) fun v87 => bnd (ret (26 : Int)) fun v88 => draw_m cp.b v88) fun v90 => sgetM v89 v90) fun v92 => saddM v91 v92) fun v93 => bnd (ret (1 : Int)) fun v94 => bnd (setM t74 v94 v93) fun names95 => ret (.nx names95)) else (ret (.nx t74))) fun (t84 : (List Str)) => bnd (bnd (ret ()) fun v98 => bnd (bnd (ret (4 : Int)) fun v96 => bnd (ret count1) fun v97 => mulM v96 v97) fun v99 => draw_m cp.b v99) fun spot100 => bnd (bnd (ret words2) fun v104 => bnd (bnd (ret ()) fun v102 => bnd (bnd (ret words2) fun v101 => ret (List.length v101 : Int)) fun v103 => draw_m cp.b v103) fun v105 => opt (atI v104 v105)) fun word106 => thenB (bnd (bnd (bnd (ret spot100) fun v107 => bnd (ret count1) fun v108 => ret (decide (v107 < v108))) fun v111 => if v111 then (bnd (ret word106) fun v109 => bnd (ret t84) fun v110 => ret (!decide (v109 ∈ v110))) else ret false) fun v112 => if v112 then (bnd (ret word106) fun v114 => bnd (ret spot100) fun v115 => bnd (setM t84 v115 v114) fun names116 => ret (.nx names116)) else (ret (.nx t84))) fun (t113 : (List Str)) => ret (.rt t113) : M S (Fl Unit Empty (List Str)))) (jb_cx (Γ2 := [some (.fz ((rBag cp.ab) ())), some (.fz (rI count1)), some (.fz ((rL rS) words2)), none, none, none, none, none, none, none, none, none, none, none]) (jb_set (i := 3) z rfl (by first | exact .inl rfl | exact .inr rfl) je_str (fun letters3 => (jb_cx (Γ2 := [some (.fz ((rBag cp.ab) ())), some (.fz (rI count1)), some (.fz ((rL rS) words2)), some (.fz (rS letters3)), none, none, none, none, none, none, none, none, none, none]) (cut_names_11 cp T C_draw hr z hu hu1 count1 words2 letters3))))) (by simp only [ret_bnd, rdM_some, raiM_rse, names_mb])
abbrev st_classes : Stmt := (top 27)
theorem sc_classes : FnScope ["_law_error", "_law_one"] ["_law_error"] (defScope st_classes) := ⟨rfl, rfl, rfl, by decide +kernel, rfl, by decide +kernel, by decide +kernel⟩
def classes_mb {S : Type} (error1 : Xv) : M S (Fl Unit Empty (List Bool)) := bnd (bnd (bnd (grd (List.contains exvs error1.1)) fun _ => ret (List.contains ts_InvalidColumn error1.1)) fun v5 => bnd (bnd (grd (List.contains exvs error1.1)) fun _ => ret (List.contains ts_InvalidKind error1.1)) fun v6 => bnd (bnd (grd (List.contains exvs error1.1)) fun _ => ret (List.contains ts_InvalidCycle error1.1)) fun v7 => ret [v5, v6, v7]) fun one8 => bnd (bnd (bnd (bnd (grd (List.contains exvs error1.1)) fun _ => ret (List.contains ts_UnknownName error1.1)) fun v12 => bnd (bnd (grd (List.contains exvs error1.1)) fun _ => ret (List.contains ts_InvalidImage error1.1)) fun v13 => bnd (bnd (grd (List.contains exvs error1.1)) fun _ => ret (List.contains ts_OtherCycle error1.1)) fun v14 => ret [v12, v13, v14]) fun v16 => lcatM one8 v16) fun one17 => bnd (bnd (bnd (bnd (grd (List.contains exvs error1.1)) fun _ => ret (List.contains ts_WrongState error1.1)) fun v21 => bnd (bnd (grd (List.contains exvs error1.1)) fun _ => ret (List.contains ts_InvalidValues error1.1)) fun v22 => bnd (bnd (grd (List.contains exvs error1.1)) fun _ => ret (List.contains ts_BatchOpen error1.1)) fun v23 => ret [v21, v22, v23]) fun v25 => lcatM one17 v25) fun one26 => bnd (bnd (bnd (bnd (grd (List.contains exvs error1.1)) fun _ => ret (List.contains ts_BatchClosed error1.1)) fun v30 => bnd (bnd (grd (List.contains exvs error1.1)) fun _ => ret (List.contains ts_NoRow error1.1)) fun v31 => bnd (bnd (grd (List.contains exvs error1.1)) fun _ => ret (List.contains ts_NoMoment error1.1)) fun v32 => ret [v30, v31, v32]) fun v34 => lcatM one26 v34) fun one35 => bnd (bnd (bnd (bnd (grd (List.contains exvs error1.1)) fun _ => ret (List.contains ts_InvalidRecord error1.1)) fun v39 => bnd (bnd (grd (List.contains exvs error1.1)) fun _ => ret (List.contains ts_Unchained error1.1)) fun v40 => bnd (bnd (grd (List.contains exvs error1.1)) fun _ => ret (List.contains ts_BadEntry error1.1)) fun v41 => ret [v39, v40, v41]) fun v43 => lcatM one35 v43) fun one44 => bnd (bnd (bnd (bnd (grd (List.contains exvs error1.1)) fun _ => ret (List.contains ts_BadPicture error1.1)) fun v48 => bnd (bnd (grd (List.contains exvs error1.1)) fun _ => ret (List.contains ts_BrokenChain error1.1)) fun v49 => bnd (bnd (grd (List.contains exvs error1.1)) fun _ => ret (List.contains ts_UnlikeImages error1.1)) fun v50 => ret [v48, v49, v50]) fun v52 => lcatM one44 v52) fun one53 => bnd (bnd (bnd (bnd (grd (List.contains exvs error1.1)) fun _ => ret (List.contains ts_Unplaced error1.1)) fun v57 => bnd (bnd (grd (List.contains exvs error1.1)) fun _ => ret (List.contains ts_Finished error1.1)) fun v58 => bnd (bnd (grd (List.contains exvs error1.1)) fun _ => ret (List.contains ts_OneWay error1.1)) fun v59 => ret [v57, v58, v59]) fun v61 => lcatM one53 v61) fun one62 => ret (.rt one62)
def classes_m {S : Type} (error1 : Xv) : M S (List Bool) := runF (classes_mb error1)
abbrev ra_classes (K : PySem.W.Frag) (S : Type) (R : S → MP Hp) (c : NoCap S R) : Xv × Unit → List V → Hp → Prop := (raC (rEx K) raN)
abbrev f_classes (S : Type) (R : S → MP Hp) (c : NoCap S R) (y : Xv × Unit) : M S (List Bool) := classes_m y.1
abbrev sp_classes (K : PySem.W.Frag) (mg : Str → Option Value) : Sp := spC mg (ra_classes K) (.fz (rL rB)) f_classes
theorem cut_classes_0 {P : Program} {w : World} {K : PySem.W.Frag} {mg : Str → Option Value} {base : Heap} {f : Addr} {cdv : Value} {A : Around} {outer : List Env} {s : Shared} {H : Hp} {E : XK} {Fm : Fm} {S : Type} {R : S → MP Hp} (T : Txt K mg) (hr : Room 0 (A.deeper (envOfC "_law_classes" (defScope st_classes) s.heap.objs.size f cdv))) (z : ZOk (ZF P w K mg base ["_law_error", "_law_one"] "_law_classes" (defScope st_classes) f cdv A outer s H E Fm S R)) (hu : (A.deeper (envOfC "_law_classes" (defScope st_classes) s.heap.objs.size f cdv)).units + 65 < cLine) (hu1 : (A.deeper (envOfC "_law_classes" (defScope st_classes) s.heap.objs.size f cdv)).units + 1 < cLine) (error1 : Xv) (one62 : List Bool) : JB (ZF P w K mg base ["_law_error", "_law_one"] "_law_classes" (defScope st_classes) f cdv A outer s H E Fm S R) [some (.fz ((rEx K) error1)), some (.fz ((rL rB) one62))] (List.drop 7 (defBody st_classes)) (bnd (ret one62) fun v63 => ret (.rt v63) : M S (Fl Unit Empty (List Bool))) (fun _ => []) (fun e => nomatch e) (.fz (rL rB)) := (jb_one (js_ret (je_var (r := (rL rB)) (x := one62) 1 rfl (pv 1))))
theorem cut_classes_1 {P : Program} {w : World} {K : PySem.W.Frag} {mg : Str → Option Value} {base : Heap} {f : Addr} {cdv : Value} {A : Around} {outer : List Env} {s : Shared} {H : Hp} {E : XK} {Fm : Fm} {S : Type} {R : S → MP Hp} (T : Txt K mg) (hr : Room 0 (A.deeper (envOfC "_law_classes" (defScope st_classes) s.heap.objs.size f cdv))) (z : ZOk (ZF P w K mg base ["_law_error", "_law_one"] "_law_classes" (defScope st_classes) f cdv A outer s H E Fm S R)) (hu : (A.deeper (envOfC "_law_classes" (defScope st_classes) s.heap.objs.size f cdv)).units + 65 < cLine) (hu1 : (A.deeper (envOfC "_law_classes" (defScope st_classes) s.heap.objs.size f cdv)).units + 1 < cLine) (error1 : Xv) (one53 : List Bool) : JB (ZF P w K mg base ["_law_error", "_law_one"] "_law_classes" (defScope st_classes) f cdv A outer s H E Fm S R) [some (.fz ((rEx K) error1)), some (.fz ((rL rB) one53))] (List.drop 6 (defBody st_classes)) (bnd (bnd (ret one53) fun v60 => bnd (bnd (bnd (ret error1) fun v54 => bnd (grd (List.contains exvs v54.1)) fun _ => ret (List.contains ts_Unplaced v54.1)) fun v57 => bnd (bnd (ret error1) fun v55 => bnd (grd (List.contains exvs v55.1)) fun _ => ret (List.contains ts_Finished v55.1)) fun v58 => bnd (bnd (ret error1) fun v56 => bnd (grd (List.contains exvs v56.1)) fun _ => ret (List.contains ts_OneWay v56.1)) fun v59 => ret [v57, v58, v59]) fun v61 => lcatM v60 v61) fun one62 => bnd (ret one62) fun v63 => ret (.rt v63) : M S (Fl Unit Empty (List Bool))) (fun _ => []) (fun e => nomatch e) (.fz (rL rB)) := (jb_set (i := 1) z rfl (by first | exact .inl rfl | exact .inr rfl) (je_frzL (je_cat (je_var (r := (rL rB)) (x := one53) 1 rfl (pv 1)) (je_frzL (je_list (jl_cons (je_isV (cs := exvs) (ts := ts_Unplaced) (by rfl) T.f_isinstance (je_var (r := (rEx K)) (x := error1) 0 rfl (pv 0)) T.v_ok (je_clsN (by rfl) T.vg_Unplaced) T.vi_Unplaced) (jl_cons (je_isV (cs := exvs) (ts := ts_Finished) (by rfl) T.f_isinstance (je_var (r := (rEx K)) (x := error1) 0 rfl (pv 0)) T.v_ok (je_clsN (by rfl) T.vg_Finished) T.vi_Finished) (jl_cons (je_isV (cs := exvs) (ts := ts_OneWay) (by rfl) T.f_isinstance (je_var (r := (rEx K)) (x := error1) 0 rfl (pv 0)) T.v_ok (je_clsN (by rfl) T.vg_OneWay) T.vi_OneWay) (jl_nil (r := rB))))))))) (fun one62 => (jb_cx (Γ2 := [some (.fz ((rEx K) error1)), some (.fz ((rL rB) one62))]) (cut_classes_0 T hr z hu hu1 error1 one62))))
theorem cut_classes_2 {P : Program} {w : World} {K : PySem.W.Frag} {mg : Str → Option Value} {base : Heap} {f : Addr} {cdv : Value} {A : Around} {outer : List Env} {s : Shared} {H : Hp} {E : XK} {Fm : Fm} {S : Type} {R : S → MP Hp} (T : Txt K mg) (hr : Room 0 (A.deeper (envOfC "_law_classes" (defScope st_classes) s.heap.objs.size f cdv))) (z : ZOk (ZF P w K mg base ["_law_error", "_law_one"] "_law_classes" (defScope st_classes) f cdv A outer s H E Fm S R)) (hu : (A.deeper (envOfC "_law_classes" (defScope st_classes) s.heap.objs.size f cdv)).units + 65 < cLine) (hu1 : (A.deeper (envOfC "_law_classes" (defScope st_classes) s.heap.objs.size f cdv)).units + 1 < cLine) (error1 : Xv) (one44 : List Bool) : JB (ZF P w K mg base ["_law_error", "_law_one"] "_law_classes" (defScope st_classes) f cdv A outer s H E Fm S R) [some (.fz ((rEx K) error1)), some (.fz ((rL rB) one44))] (List.drop 5 (defBody st_classes)) (bnd (bnd (ret one44) fun v51 => bnd (bnd (bnd (ret error1) fun v45 => bnd (grd (List.contains exvs v45.1)) fun _ => ret (List.contains ts_BadPicture v45.1)) fun v48 => bnd (bnd (ret error1) fun v46 => bnd (grd (List.contains exvs v46.1)) fun _ => ret (List.contains ts_BrokenChain v46.1)) fun v49 => bnd (bnd (ret error1) fun v47 => bnd (grd (List.contains exvs v47.1)) fun _ => ret (List.contains ts_UnlikeImages v47.1)) fun v50 => ret [v48, v49, v50]) fun v52 => lcatM v51 v52) fun one53 => bnd (bnd (ret one53) fun v60 => bnd (bnd (bnd (ret error1) fun v54 => bnd (grd (List.contains exvs v54.1)) fun _ => ret (List.contains ts_Unplaced v54.1)) fun v57 => bnd (bnd (ret error1) fun v55 => bnd (grd (List.contains exvs v55.1)) fun _ => ret (List.contains ts_Finished v55.1)) fun v58 => bnd (bnd (ret error1) fun v56 => bnd (grd (List.contains exvs v56.1)) fun _ => ret (List.contains ts_OneWay v56.1)) fun v59 => ret [v57, v58, v59]) fun v61 => lcatM v60 v61) fun one62 => bnd (ret one62) fun v63 => ret (.rt v63) : M S (Fl Unit Empty (List Bool))) (fun _ => []) (fun e => nomatch e) (.fz (rL rB)) := (jb_set (i := 1) z rfl (by first | exact .inl rfl | exact .inr rfl) (je_frzL (je_cat (je_var (r := (rL rB)) (x := one44) 1 rfl (pv 1)) (je_frzL (je_list (jl_cons (je_isV (cs := exvs) (ts := ts_BadPicture) (by rfl) T.f_isinstance (je_var (r := (rEx K)) (x := error1) 0 rfl (pv 0)) T.v_ok (je_clsN (by rfl) T.vg_BadPicture) T.vi_BadPicture) (jl_cons (je_isV (cs := exvs) (ts := ts_BrokenChain) (by rfl) T.f_isinstance (je_var (r := (rEx K)) (x := error1) 0 rfl (pv 0)) T.v_ok (je_clsN (by rfl) T.vg_BrokenChain) T.vi_BrokenChain) (jl_cons (je_isV (cs := exvs) (ts := ts_UnlikeImages) (by rfl) T.f_isinstance (je_var (r := (rEx K)) (x := error1) 0 rfl (pv 0)) T.v_ok (je_clsN (by rfl) T.vg_UnlikeImages) T.vi_UnlikeImages) (jl_nil (r := rB))))))))) (fun one53 => (jb_cx (Γ2 := [some (.fz ((rEx K) error1)), some (.fz ((rL rB) one53))]) (cut_classes_1 T hr z hu hu1 error1 one53))))
theorem cut_classes_3 {P : Program} {w : World} {K : PySem.W.Frag} {mg : Str → Option Value} {base : Heap} {f : Addr} {cdv : Value} {A : Around} {outer : List Env} {s : Shared} {H : Hp} {E : XK} {Fm : Fm} {S : Type} {R : S → MP Hp} (T : Txt K mg) (hr : Room 0 (A.deeper (envOfC "_law_classes" (defScope st_classes) s.heap.objs.size f cdv))) (z : ZOk (ZF P w K mg base ["_law_error", "_law_one"] "_law_classes" (defScope st_classes) f cdv A outer s H E Fm S R)) (hu : (A.deeper (envOfC "_law_classes" (defScope st_classes) s.heap.objs.size f cdv)).units + 65 < cLine) (hu1 : (A.deeper (envOfC "_law_classes" (defScope st_classes) s.heap.objs.size f cdv)).units + 1 < cLine) (error1 : Xv) (one35 : List Bool) : JB (ZF P w K mg base ["_law_error", "_law_one"] "_law_classes" (defScope st_classes) f cdv A outer s H E Fm S R) [some (.fz ((rEx K) error1)), some (.fz ((rL rB) one35))] (List.drop 4 (defBody st_classes)) (bnd (bnd (ret one35) fun v42 => bnd (bnd (bnd (ret error1) fun v36 => bnd (grd (List.contains exvs v36.1)) fun _ => ret (List.contains ts_InvalidRecord v36.1)) fun v39 => bnd (bnd (ret error1) fun v37 => bnd (grd (List.contains exvs v37.1)) fun _ => ret (List.contains ts_Unchained v37.1)) fun v40 => bnd (bnd (ret error1) fun v38 => bnd (grd (List.contains exvs v38.1)) fun _ => ret (List.contains ts_BadEntry v38.1)) fun v41 => ret [v39, v40, v41]) fun v43 => lcatM v42 v43) fun one44 => bnd (bnd (ret one44) fun v51 => bnd (bnd (bnd (ret error1) fun v45 => bnd (grd (List.contains exvs v45.1)) fun _ => ret (List.contains ts_BadPicture v45.1)) fun v48 => bnd (bnd (ret error1) fun v46 => bnd (grd (List.contains exvs v46.1)) fun _ => ret (List.contains ts_BrokenChain v46.1)) fun v49 => bnd (bnd (ret error1) fun v47 => bnd (grd (List.contains exvs v47.1)) fun _ => ret (List.contains ts_UnlikeImages v47.1)) fun v50 => ret [v48, v49, v50]) fun v52 => lcatM v51 v52) fun one53 => bnd (bnd (ret one53) fun v60 => bnd (bnd (bnd (ret error1) fun v54 => bnd (grd (List.contains exvs v54.1)) fun _ => ret (List.contains ts_Unplaced v54.1)) fun v57 => bnd (bnd (ret error1) fun v55 => bnd (grd (List.contains exvs v55.1)) fun _ => ret (List.contains ts_Finished v55.1)) fun v58 => bnd (bnd (ret error1) fun v56 => bnd (grd (List.contains exvs v56.1)) fun _ => ret (List.contains ts_OneWay v56.1)) fun v59 => ret [v57, v58, v59]) fun v61 => lcatM v60 v61) fun one62 => bnd (ret one62) fun v63 => ret (.rt v63) : M S (Fl Unit Empty (List Bool))) (fun _ => []) (fun e => nomatch e) (.fz (rL rB)) := (jb_set (i := 1) z rfl (by first | exact .inl rfl | exact .inr rfl) (je_frzL (je_cat (je_var (r := (rL rB)) (x := one35) 1 rfl (pv 1)) (je_frzL (je_list (jl_cons (je_isV (cs := exvs) (ts := ts_InvalidRecord) (by rfl) T.f_isinstance (je_var (r := (rEx K)) (x := error1) 0 rfl (pv 0)) T.v_ok (je_clsN (by rfl) T.vg_InvalidRecord) T.vi_InvalidRecord) (jl_cons (je_isV (cs := exvs) (ts := ts_Unchained) (by rfl) T.f_isinstance (je_var (r := (rEx K)) (x := error1) 0 rfl (pv 0)) T.v_ok (je_clsN (by rfl) T.vg_Unchained) T.vi_Unchained) (jl_cons (je_isV (cs := exvs) (ts := ts_BadEntry) (by rfl) T.f_isinstance (je_var (r := (rEx K)) (x := error1) 0 rfl (pv 0)) T.v_ok (je_clsN (by rfl) T.vg_BadEntry) T.vi_BadEntry) (jl_nil (r := rB))))))))) (fun one44 => (jb_cx (Γ2 := [some (.fz ((rEx K) error1)), some (.fz ((rL rB) one44))]) (cut_classes_2 T hr z hu hu1 error1 one44))))
theorem cut_classes_4 {P : Program} {w : World} {K : PySem.W.Frag} {mg : Str → Option Value} {base : Heap} {f : Addr} {cdv : Value} {A : Around} {outer : List Env} {s : Shared} {H : Hp} {E : XK} {Fm : Fm} {S : Type} {R : S → MP Hp} (T : Txt K mg) (hr : Room 0 (A.deeper (envOfC "_law_classes" (defScope st_classes) s.heap.objs.size f cdv))) (z : ZOk (ZF P w K mg base ["_law_error", "_law_one"] "_law_classes" (defScope st_classes) f cdv A outer s H E Fm S R)) (hu : (A.deeper (envOfC "_law_classes" (defScope st_classes) s.heap.objs.size f cdv)).units + 65 < cLine) (hu1 : (A.deeper (envOfC "_law_classes" (defScope st_classes) s.heap.objs.size f cdv)).units + 1 < cLine) (error1 : Xv) (one26 : List Bool) : JB (ZF P w K mg base ["_law_error", "_law_one"] "_law_classes" (defScope st_classes) f cdv A outer s H E Fm S R) [some (.fz ((rEx K) error1)), some (.fz ((rL rB) one26))] (List.drop 3 (defBody st_classes)) (bnd (bnd (ret one26) fun v33 => bnd (bnd (bnd (ret error1) fun v27 => bnd (grd (List.contains exvs v27.1)) fun _ => ret (List.contains ts_BatchClosed v27.1)) fun v30 => bnd (bnd (ret error1) fun v28 => bnd (grd (List.contains exvs v28.1)) fun _ => ret (List.contains ts_NoRow v28.1)) fun v31 => bnd (bnd (ret error1) fun v29 => bnd (grd (List.contains exvs v29.1)) fun _ => ret (List.contains ts_NoMoment v29.1)) fun v32 => ret [v30, v31, v32]) fun v34 => lcatM v33 v34) fun one35 => bnd (bnd (ret one35) fun v42 => bnd (bnd (bnd (ret error1) fun v36 => bnd (grd (List.contains exvs v36.1)) fun _ => ret (List.contains ts_InvalidRecord v36.1)) fun v39 => bnd (bnd (ret error1) fun v37 => bnd (grd (List.contains exvs v37.1)) fun _ => ret (List.contains ts_Unchained v37.1)) fun v40 => bnd (bnd (ret error1) fun v38 => bnd (grd (List.contains exvs v38.1)) fun _ => ret (List.contains ts_BadEntry v38.1)) fun v41 => ret [v39, v40, v41]) fun v43 => lcatM v42 v43) fun one44 => bnd (bnd (ret one44) fun v51 => bnd (bnd (bnd (ret error1) fun v45 => bnd (grd (List.contains exvs v45.1)) fun _ => ret (List.contains ts_BadPicture v45.1)) fun v48 => bnd (bnd (ret error1) fun v46 => bnd (grd (List.contains exvs v46.1)) fun _ => ret (List.contains ts_BrokenChain v46.1)) fun v49 => bnd (bnd (ret error1) fun v47 => bnd (grd (List.contains exvs v47.1)) fun _ => ret (List.contains ts_UnlikeImages v47.1)) fun v50 => ret [v48, v49, v50]) fun v52 => lcatM v51 v52) fun one53 => bnd (bnd (ret one53) fun v60 => bnd (bnd (bnd (ret error1) fun v54 => bnd (grd (List.contains exvs v54.1)) fun _ => ret (List.contains ts_Unplaced v54.1)) fun v57 => bnd (bnd (ret error1) fun v55 => bnd (grd (List.contains exvs v55.1)) fun _ => ret (List.contains ts_Finished v55.1)) fun v58 => bnd (bnd (ret error1) fun v56 => bnd (grd (List.contains exvs v56.1)) fun _ => ret (List.contains ts_OneWay v56.1)) fun v59 => ret [v57, v58, v59]) fun v61 => lcatM v60 v61) fun one62 => bnd (ret one62) fun v63 => ret (.rt v63) : M S (Fl Unit Empty (List Bool))) (fun _ => []) (fun e => nomatch e) (.fz (rL rB)) := (jb_set (i := 1) z rfl (by first | exact .inl rfl | exact .inr rfl) (je_frzL (je_cat (je_var (r := (rL rB)) (x := one26) 1 rfl (pv 1)) (je_frzL (je_list (jl_cons (je_isV (cs := exvs) (ts := ts_BatchClosed) (by rfl) T.f_isinstance (je_var (r := (rEx K)) (x := error1) 0 rfl (pv 0)) T.v_ok (je_clsN (by rfl) T.vg_BatchClosed) T.vi_BatchClosed) (jl_cons (je_isV (cs := exvs) (ts := ts_NoRow) (by rfl) T.f_isinstance (je_var (r := (rEx K)) (x := error1) 0 rfl (pv 0)) T.v_ok (je_clsN (by rfl) T.vg_NoRow) T.vi_NoRow) (jl_cons (je_isV (cs := exvs) (ts := ts_NoMoment) (by rfl) T.f_isinstance (je_var (r := (rEx K)) (x := error1) 0 rfl (pv 0)) T.v_ok (je_clsN (by rfl) T.vg_NoMoment) T.vi_NoMoment) (jl_nil (r := rB))))))))) (fun one35 => (jb_cx (Γ2 := [some (.fz ((rEx K) error1)), some (.fz ((rL rB) one35))]) (cut_classes_3 T hr z hu hu1 error1 one35))))
theorem cut_classes_5 {P : Program} {w : World} {K : PySem.W.Frag} {mg : Str → Option Value} {base : Heap} {f : Addr} {cdv : Value} {A : Around} {outer : List Env} {s : Shared} {H : Hp} {E : XK} {Fm : Fm} {S : Type} {R : S → MP Hp} (T : Txt K mg) (hr : Room 0 (A.deeper (envOfC "_law_classes" (defScope st_classes) s.heap.objs.size f cdv))) (z : ZOk (ZF P w K mg base ["_law_error", "_law_one"] "_law_classes" (defScope st_classes) f cdv A outer s H E Fm S R)) (hu : (A.deeper (envOfC "_law_classes" (defScope st_classes) s.heap.objs.size f cdv)).units + 65 < cLine) (hu1 : (A.deeper (envOfC "_law_classes" (defScope st_classes) s.heap.objs.size f cdv)).units + 1 < cLine) (error1 : Xv) (one17 : List Bool) : JB (ZF P w K mg base ["_law_error", "_law_one"] "_law_classes" (defScope st_classes) f cdv A outer s H E Fm S R) [some (.fz ((rEx K) error1)), some (.fz ((rL rB) one17))] (List.drop 2 (defBody st_classes)) (bnd (bnd (ret one17) fun v24 => bnd (bnd (bnd (ret error1) fun v18 => bnd (grd (List.contains exvs v18.1)) fun _ => ret (List.contains ts_WrongState v18.1)) fun v21 => bnd (bnd (ret error1) fun v19 => bnd (grd (List.contains exvs v19.1)) fun _ => ret (List.contains ts_InvalidValues v19.1)) fun v22 => bnd (bnd (ret error1) fun v20 => bnd (grd (List.contains exvs v20.1)) fun _ => ret (List.contains ts_BatchOpen v20.1)) fun v23 => ret [v21, v22, v23]) fun v25 => lcatM v24 v25) fun one26 => bnd (bnd (ret one26) fun v33 => bnd (bnd (bnd (ret error1) fun v27 => bnd (grd (List.contains exvs v27.1)) fun _ => ret (List.contains ts_BatchClosed v27.1)) fun v30 => bnd (bnd (ret error1) fun v28 => bnd (grd (List.contains exvs v28.1)) fun _ => ret (List.contains ts_NoRow v28.1)) fun v31 => bnd (bnd (ret error1) fun v29 => bnd (grd (List.contains exvs v29.1)) fun _ => ret (List.contains ts_NoMoment v29.1)) fun v32 => ret [v30, v31, v32]) fun v34 => lcatM v33 v34) fun one35 => bnd (bnd (ret one35) fun v42 => bnd (bnd (bnd (ret error1) fun v36 => bnd (grd (List.contains exvs v36.1)) fun _ => ret (List.contains ts_InvalidRecord v36.1)) fun v39 => bnd (bnd (ret error1) fun v37 => bnd (grd (List.contains exvs v37.1)) fun _ => ret (List.contains ts_Unchained v37.1)) fun v40 => bnd (bnd (ret error1) fun v38 => bnd (grd (List.contains exvs v38.1)) fun _ => ret (List.contains ts_BadEntry v38.1)) fun v41 => ret [v39, v40, v41]) fun v43 => lcatM v42 v43) fun one44 => bnd (bnd (ret one44) fun v51 => bnd (bnd (bnd (ret error1) fun v45 => bnd (grd (List.contains exvs v45.1)) fun _ => ret (List.contains ts_BadPicture v45.1)) fun v48 => bnd (bnd (ret error1) fun v46 => bnd (grd (List.contains exvs v46.1)) fun _ => ret (List.contains ts_BrokenChain v46.1)) fun v49 => bnd (bnd (ret error1) fun v47 => bnd (grd (List.contains exvs v47.1)) fun _ => ret (List.contains ts_UnlikeImages v47.1)) fun v50 => ret [v48, v49, v50]) fun v52 => lcatM v51 v52) fun one53 => bnd (bnd (ret one53) fun v60 => bnd (bnd (bnd (ret error1) fun v54 => bnd (grd (List.contains exvs v54.1)) fun _ => ret (List.contains ts_Unplaced v54.1)) fun v57 => bnd (bnd (ret error1) fun v55 => bnd (grd (List.contains exvs v55.1)) fun _ => ret (List.contains ts_Finished v55.1)) fun v58 => bnd (bnd (ret error1) fun v56 => bnd (grd (List.contains exvs v56.1)) fun _ => ret (List.contains ts_OneWay v56.1)) fun v59 => ret [v57, v58, v59]) fun v61 => lcatM v60 v61) fun one62 => bnd (ret one62) fun v63 => ret (.rt v63) : M S (Fl Unit Empty (List Bool))) (fun _ => []) (fun e => nomatch e) (.fz (rL rB)) := (jb_set (i := 1) z rfl (by first | exact .inl rfl | exact .inr rfl) (je_frzL (je_cat (je_var (r := (rL rB)) (x := one17) 1 rfl (pv 1)) (je_frzL (je_list (jl_cons (je_isV (cs := exvs) (ts := ts_WrongState) (by rfl) T.f_isinstance (je_var (r := (rEx K)) (x := error1) 0 rfl (pv 0)) T.v_ok (je_clsN (by rfl) T.vg_WrongState) T.vi_WrongState) (jl_cons (je_isV (cs := exvs) (ts := ts_InvalidValues) (by rfl) T.f_isinstance (je_var (r := (rEx K)) (x := error1) 0 rfl (pv 0)) T.v_ok (je_clsN (by rfl) T.vg_InvalidValues) T.vi_InvalidValues) (jl_cons (je_isV (cs := exvs) (ts := ts_BatchOpen) (by rfl) T.f_isinstance (je_var (r := (rEx K)) (x := error1) 0 rfl (pv 0)) T.v_ok (je_clsN (by rfl) T.vg_BatchOpen) T.vi_BatchOpen) (jl_nil (r := rB))))))))) (fun one26 => (jb_cx (Γ2 := [some (.fz ((rEx K) error1)), some (.fz ((rL rB) one26))]) (cut_classes_4 T hr z hu hu1 error1 one26))))
theorem cut_classes_6 {P : Program} {w : World} {K : PySem.W.Frag} {mg : Str → Option Value} {base : Heap} {f : Addr} {cdv : Value} {A : Around} {outer : List Env} {s : Shared} {H : Hp} {E : XK} {Fm : Fm} {S : Type} {R : S → MP Hp} (T : Txt K mg) (hr : Room 0 (A.deeper (envOfC "_law_classes" (defScope st_classes) s.heap.objs.size f cdv))) (z : ZOk (ZF P w K mg base ["_law_error", "_law_one"] "_law_classes" (defScope st_classes) f cdv A outer s H E Fm S R)) (hu : (A.deeper (envOfC "_law_classes" (defScope st_classes) s.heap.objs.size f cdv)).units + 65 < cLine) (hu1 : (A.deeper (envOfC "_law_classes" (defScope st_classes) s.heap.objs.size f cdv)).units + 1 < cLine) (error1 : Xv) (one8 : List Bool) : JB (ZF P w K mg base ["_law_error", "_law_one"] "_law_classes" (defScope st_classes) f cdv A outer s H E Fm S R) [some (.fz ((rEx K) error1)), some (.fz ((rL rB) one8))] (List.drop 1 (defBody st_classes)) (bnd (bnd (ret one8) fun v15 => bnd (bnd (bnd (ret error1) fun v9 => bnd (grd (List.contains exvs v9.1)) fun _ => ret (List.contains ts_UnknownName v9.1)) fun v12 => bnd (bnd (ret error1) fun v10 => bnd (grd (List.contains exvs v10.1)) fun _ => ret (List.contains ts_InvalidImage v10.1)) fun v13 => bnd (bnd (ret error1) fun v11 => bnd (grd (List.contains exvs v11.1)) fun _ => ret (List.contains ts_OtherCycle v11.1)) fun v14 => ret [v12, v13, v14]) fun v16 => lcatM v15 v16) fun one17 => bnd (bnd (ret one17) fun v24 => bnd (bnd (bnd (ret error1) fun v18 => bnd (grd (List.contains exvs v18.1)) fun _ => ret (List.contains ts_WrongState v18.1)) fun v21 => bnd (bnd (ret error1) fun v19 => bnd (grd (List.contains exvs v19.1)) fun _ => ret (List.contains ts_InvalidValues v19.1)) fun v22 => bnd (bnd (ret error1) fun v20 => bnd (grd (List.contains exvs v20.1)) fun _ => ret (List.contains ts_BatchOpen v20.1)) fun v23 => ret [v21, v22, v23]) fun v25 => lcatM v24 v25) fun one26 => bnd (bnd (ret one26) fun v33 => bnd (bnd (bnd (ret error1) fun v27 => bnd (grd (List.contains exvs v27.1)) fun _ => ret (List.contains ts_BatchClosed v27.1)) fun v30 => bnd (bnd (ret error1) fun v28 => bnd (grd (List.contains exvs v28.1)) fun _ => ret (List.contains ts_NoRow v28.1)) fun v31 => bnd (bnd (ret error1) fun v29 => bnd (grd (List.contains exvs v29.1)) fun _ => ret (List.contains ts_NoMoment v29.1)) fun v32 => ret [v30, v31, v32]) fun v34 => lcatM v33 v34) fun one35 => bnd (bnd (ret one35) fun v42 => bnd (bnd (bnd (ret error1) fun v36 => bnd (grd (List.contains exvs v36.1)) fun _ => ret (List.contains ts_InvalidRecord v36.1)) fun v39 => bnd (bnd (ret error1) fun v37 => bnd (grd (List.contains exvs v37.1)) fun _ => ret (List.contains ts_Unchained v37.1)) fun v40 => bnd (bnd (ret error1) fun v38 => bnd (grd (List.contains exvs v38.1)) fun _ => ret (List.contains ts_BadEntry v38.1)) fun v41 => ret [v39, v40, v41]) fun v43 => lcatM v42 v43) fun one44 => bnd (bnd (ret one44) fun v51 => bnd (bnd (bnd (ret error1) fun v45 => bnd (grd (List.contains exvs v45.1)) fun _ => ret (List.contains ts_BadPicture v45.1)) fun v48 => bnd (bnd (ret error1) fun v46 => bnd (grd (List.contains exvs v46.1)) fun _ => ret (List.contains ts_BrokenChain v46.1)) fun v49 => bnd (bnd (ret error1) fun v47 => bnd (grd (List.contains exvs v47.1)) fun _ => ret (List.contains ts_UnlikeImages v47.1)) fun v50 => ret [v48, v49, v50]) fun v52 => lcatM v51 v52) fun one53 => bnd (bnd (ret one53) fun v60 => bnd (bnd (bnd (ret error1) fun v54 => bnd (grd (List.contains exvs v54.1)) fun _ => ret (List.contains ts_Unplaced v54.1)) fun v57 => bnd (bnd (ret error1) fun v55 => bnd (grd (List.contains exvs v55.1)) fun _ => ret (List.contains ts_Finished v55.1)) fun v58 => bnd (bnd (ret error1) fun v56 => bnd (grd (List.contains exvs v56.1)) fun _ => ret (List.contains ts_OneWay v56.1)) fun v59 => ret [v57, v58, v59]) fun v61 => lcatM v60 v61) fun one62 => bnd (ret one62) fun v63 => ret (.rt v63) : M S (Fl Unit Empty (List Bool))) (fun _ => []) (fun e => nomatch e) (.fz (rL rB)) := (jb_set (i := 1) z rfl (by first | exact .inl rfl | exact .inr rfl) (je_frzL (je_cat (je_var (r := (rL rB)) (x := one8) 1 rfl (pv 1)) (je_frzL (je_list (jl_cons (je_isV (cs := exvs) (ts := ts_UnknownName) (by rfl) T.f_isinstance (je_var (r := (rEx K)) (x := error1) 0 rfl (pv 0)) T.v_ok (je_clsN (by rfl) T.vg_UnknownName) T.vi_UnknownName) (jl_cons (je_isV (cs := exvs) (ts := ts_InvalidImage) (by rfl) T.f_isinstance (je_var (r := (rEx K)) (x := error1) 0 rfl (pv 0)) T.v_ok (je_clsN (by rfl) T.vg_InvalidImage) T.vi_InvalidImage) (jl_cons (je_isV (cs := exvs) (ts := ts_OtherCycle) (by rfl) T.f_isinstance (je_var (r := (rEx K)) (x := error1) 0 rfl (pv 0)) T.v_ok (je_clsN (by rfl) T.vg_OtherCycle) T.vi_OtherCycle) (jl_nil (r := rB))))))))) (fun one17 => (jb_cx (Γ2 := [some (.fz ((rEx K) error1)), some (.fz ((rL rB) one17))]) (cut_classes_5 T hr z hu hu1 error1 one17))))
theorem ok_classes {P : Program} {w : World} {K : PySem.W.Frag} {mg : Str → Option Value} {base : Heap} {f : Addr} {fd : FuncData} (F : FnP K "_law_classes" "_law_classes" st_classes [] [] f fd) (T : Txt K mg) : FnOk P w K mg base (L2.CX P w) 1 f fd ["_law_error"] (sp_classes K mg) := by
  refine fn_mk (k := 0) (mb := fun S R c y => classes_mb y.1) (Γ0 := fun S R c y => [some (.fz ((rEx K) y.1)), none]) (Γ' := fun _ => []) (Γb := fun e => nomatch e) F sc_classes (fun S R c y vs G h => (len_raC len_raN) h) (fun _ _ _ _ => rfl) (fun S R c y vs G h => (so_raC (so_raN (n := 1))) h) (fun _ _ _ _ => by exact Nat.le_of_ble_eq_true rfl) (by exact Nat.le_of_ble_eq_true rfl) ?_
  intro cdv A outer s H E Fm S R cp y hr z
  have hu := DL.Room.hu hr
  have hu1 := DL.Room.hu1 hr
  obtain ⟨error1, _⟩ := y
  exact JB.eq (m := (bnd (bnd (bnd (ret error1) fun v2 => bnd (grd (List.contains exvs v2.1)) fun _ => ret (List.contains ts_InvalidColumn v2.1)) fun v5 => bnd (bnd (ret error1) fun v3 => bnd (grd (List.contains exvs v3.1)) fun _ => ret (List.contains ts_InvalidKind v3.1)) fun v6 => bnd (bnd (ret error1) fun v4 => bnd (grd (List.contains exvs v4.1)) fun _ => ret (List.contains ts_InvalidCycle v4.1)) fun v7 => ret [v5, v6, v7]) fun one8 => bnd (bnd (ret one8) fun v15 => bnd (bnd (bnd (ret error1) fun v9 => bnd (grd (List.contains exvs v9.1)) fun _ => ret (List.contains ts_UnknownName v9.1)) fun v12 => bnd (bnd (ret error1) fun v10 => bnd (grd (List.contains exvs v10.1)) fun _ => ret (List.contains ts_InvalidImage v10.1)) fun v13 => bnd (bnd (ret error1) fun v11 => bnd (grd (List.contains exvs v11.1)) fun _ => ret (List.contains ts_OtherCycle v11.1)) fun v14 => ret [v12, v13, v14]) fun v16 => lcatM v15 v16) fun one17 => bnd (bnd (ret one17) fun v24 => bnd (bnd (bnd (ret error1) fun v18 => bnd (grd (List.contains exvs v18.1)) fun _ => ret (List.contains ts_WrongState v18.1)) fun v21 => bnd (bnd (ret error1) fun v19 => bnd (grd (List.contains exvs v19.1)) fun _ => ret (List.contains ts_InvalidValues v19.1)) fun v22 => bnd (bnd (ret error1) fun v20 => bnd (grd (List.contains exvs v20.1)) fun _ => ret (List.contains ts_BatchOpen v20.1)) fun v23 => ret [v21, v22, v23]) fun v25 => lcatM v24 v25) fun one26 => bnd (bnd (ret one26) fun v33 => bnd (bnd (bnd (ret error1) fun v27 => bnd (grd (List.contains exvs v27.1)) fun _ => ret (List.contains ts_BatchClosed v27.1)) fun v30 => bnd (bnd (ret error1) fun v28 => bnd (grd (List.contains exvs v28.1)) fun _ => ret (List.contains ts_NoRow v28.1)) fun v31 => bnd (bnd (ret error1) fun v29 => bnd (grd (List.contains exvs v29.1)) fun _ => ret (List.contains ts_NoMoment v29.1)) fun v32 => ret [v30, v31, v32]) fun v34 => lcatM v33 v34) fun one35 => bnd (bnd (ret one35) fun v42 => bnd (bnd (bnd (ret error1) fun v36 => bnd (grd (List.contains exvs v36.1)) fun _ => ret (List.contains ts_InvalidRecord v36.1)) fun v39 => bnd (bnd (ret error1) fun v37 => bnd (grd (List.contains exvs v37.1)) fun _ => ret (List.contains ts_Unchained v37.1)) fun v40 => bnd (bnd (ret error1) fun v38 => bnd (grd (List.contains exvs v38.1)) fun _ => ret (List.contains ts_BadEntry v38.1)) fun v41 => ret [v39, v40, v41]) fun v43 => lcatM v42 v43) fun one44 => bnd (bnd (ret one44) fun v51 => bnd (bnd (bnd (ret error1) fun v45 => bnd (grd (List.contains exvs v45.1)) fun _ => ret (List.contains ts_BadPicture v45.1)) fun v48 => bnd (bnd (ret error1) fun v46 => bnd (grd (List.contains exvs v46.1)) fun _ => ret (List.contains ts_BrokenChain v46.1)) fun v49 => bnd (bnd (ret error1) fun v47 => bnd (grd (List.contains exvs v47.1)) fun _ => ret (List.contains ts_UnlikeImages v47.1)) fun v50 => ret [v48, v49, v50]) fun v52 => lcatM v51 v52) fun one53 => bnd (bnd (ret one53) fun v60 => bnd (bnd (bnd (ret error1) fun v54 => bnd (grd (List.contains exvs v54.1)) fun _ => ret (List.contains ts_Unplaced v54.1)) fun v57 => bnd (bnd (ret error1) fun v55 => bnd (grd (List.contains exvs v55.1)) fun _ => ret (List.contains ts_Finished v55.1)) fun v58 => bnd (bnd (ret error1) fun v56 => bnd (grd (List.contains exvs v56.1)) fun _ => ret (List.contains ts_OneWay v56.1)) fun v59 => ret [v57, v58, v59]) fun v61 => lcatM v60 v61) fun one62 => bnd (ret one62) fun v63 => ret (.rt v63) : M S (Fl Unit Empty (List Bool)))) (jb_cx (Γ2 := [some (.fz ((rEx K) error1)), none]) (jb_set (i := 1) z rfl (by first | exact .inl rfl | exact .inr rfl) (je_frzL (je_list (jl_cons (je_isV (cs := exvs) (ts := ts_InvalidColumn) (by rfl) T.f_isinstance (je_var (r := (rEx K)) (x := error1) 0 rfl (pv 0)) T.v_ok (je_clsN (by rfl) T.vg_InvalidColumn) T.vi_InvalidColumn) (jl_cons (je_isV (cs := exvs) (ts := ts_InvalidKind) (by rfl) T.f_isinstance (je_var (r := (rEx K)) (x := error1) 0 rfl (pv 0)) T.v_ok (je_clsN (by rfl) T.vg_InvalidKind) T.vi_InvalidKind) (jl_cons (je_isV (cs := exvs) (ts := ts_InvalidCycle) (by rfl) T.f_isinstance (je_var (r := (rEx K)) (x := error1) 0 rfl (pv 0)) T.v_ok (je_clsN (by rfl) T.vg_InvalidCycle) T.vi_InvalidCycle) (jl_nil (r := rB))))))) (fun one8 => (jb_cx (Γ2 := [some (.fz ((rEx K) error1)), some (.fz ((rL rB) one8))]) (cut_classes_6 T hr z hu hu1 error1 one8))))) (by simp only [ret_bnd, rdM_some, raiM_rse, classes_mb])
abbrev st_own : Stmt := (top 28)
theorem sc_own : FnScope ["_law_error", "_law_place", "_law_k"] ["_law_error", "_law_place"] (defScope st_own) := ⟨rfl, rfl, rfl, by decide +kernel, rfl, by decide +kernel, by decide +kernel⟩
def own_mb {S : Type} (error1 : Xv) (place2 : Int) : M S (Fl Unit Empty Bool) := bnd (bnd (bnd (bnd (grd (List.contains exvs error1.1)) fun _ => ret (List.contains ts_FeedError error1.1)) fun v4 => ret (!v4)) fun v7 => if v7 then ret true else (bnd (bnd (grd (List.contains exvs error1.1)) fun _ => ret true) fun v6 => ret (!v6))) fun v8 => if v8 then (ret (.rt false)) else (bnd (bnd (classes_m error1) fun v17 => bnd (bnd (rangeM 0 (21 : Int)) fun v16 => compM (fun x13 => ret true) (fun x13 => ret (decide (x13 = place2))) v16) fun v18 => eqM (fun xs => List.all xs (fun _ => true)) v17 v18) fun v19 => ret (.rt v19))
def own_m {S : Type} (error1 : Xv) (place2 : Int) : M S Bool := runF (own_mb error1 place2)
abbrev ra_own (K : PySem.W.Frag) (S : Type) (R : S → MP Hp) (c : NoCap S R) : Xv × Int × Unit → List V → Hp → Prop := (raC (rEx K) (raC rI raN))
abbrev f_own (S : Type) (R : S → MP Hp) (c : NoCap S R) (y : Xv × Int × Unit) : M S Bool := own_m y.1 y.2.1
abbrev sp_own (K : PySem.W.Frag) (mg : Str → Option Value) : Sp := spC mg (ra_own K) (.fz rB) f_own
theorem cut_own_0 {P : Program} {w : World} {K : PySem.W.Frag} {mg : Str → Option Value} {base : Heap} {f : Addr} {cdv : Value} {A : Around} {outer : List Env} {s : Shared} {H : Hp} {E : XK} {Fm : Fm} {S : Type} {R : S → MP Hp} (T : Txt K mg) (C_classes : FnC P w K mg base "_law_classes" 1 (sp_classes K mg)) (hr : Room 1 (A.deeper (envOfC "_law_own" (defScope st_own) s.heap.objs.size f cdv))) (z : ZOk (ZF P w K mg base ["_law_error", "_law_place", "_law_k"] "_law_own" (defScope st_own) f cdv A outer s H E Fm S R)) (hu : (A.deeper (envOfC "_law_own" (defScope st_own) s.heap.objs.size f cdv)).units + 65 < cLine) (hu1 : (A.deeper (envOfC "_law_own" (defScope st_own) s.heap.objs.size f cdv)).units + 1 < cLine) (error1 : Xv) (place2 : Int) : JB (ZF P w K mg base ["_law_error", "_law_place", "_law_k"] "_law_own" (defScope st_own) f cdv A outer s H E Fm S R) [some (.fz ((rEx K) error1)), some (.fz (rI place2)), none] (List.drop 1 (defBody st_own)) (bnd (bnd (bnd (ret error1) fun v11 => classes_m v11) fun v17 => bnd (bnd (bnd (ret (21 : Int)) fun v12 => rangeM 0 v12) fun v16 => compM (fun x13 => ret true) (fun x13 => bnd (ret x13) fun v14 => bnd (ret place2) fun v15 => ret (decide (v14 = v15))) v16) fun v18 => eqM (fun xs => List.all xs (fun _ => true)) v17 v18) fun v19 => ret (.rt v19) : M S (Fl Unit Empty Bool)) (fun _ => []) (fun e => nomatch e) (.fz rB) := (jb_one (js_ret (je_eqD (dL dB) (by decide) hu (je_call z C_classes hr ⟨⟩ (ja_cons (je_var (r := (rEx K)) (x := error1) 0 rfl (pv 0)) ja_nil)) (je_frzL (je_comp (own := [("_law_k", 2)]) z (ji_range1 (by rfl) T.f_range je_int) (fun (x13 : Int) => ret true) (fun (x13 : Int) => bnd (ret x13) fun v14 => bnd (ret place2) fun v15 => ret (decide (v14 = v15))) (blkOk_by (N := ["_law_error", "_law_place", "_law_k"]) (sc := defScope st_own) (by decide +kernel)) (fun _ _ _ _ _ _ _ => by exact (jg_name (i := 2) ((ZOk.blk z)).nd rfl (by first | exact .inl rfl | exact .inr rfl))) (fun _ _ _ _ _ _ _ x13 => jts_nil) (fun _ _ _ _ _ _ _ x13 => (je_c c_eqI (je_var (r := rI) (x := x13) 2 rfl (pv 2)) (je_var (r := rI) (x := place2) 1 rfl (pv 1)))))))))
theorem ok_own {P : Program} {w : World} {K : PySem.W.Frag} {mg : Str → Option Value} {base : Heap} {f : Addr} {fd : FuncData} (F : FnP K "_law_own" "_law_own" st_own [] [] f fd) (T : Txt K mg) (C_classes : FnC P w K mg base "_law_classes" 1 (sp_classes K mg)) : FnOk P w K mg base (L2.CX P w) 2 f fd ["_law_error", "_law_place"] (sp_own K mg) := by
  refine fn_mk (k := 1) (mb := fun S R c y => own_mb y.1 y.2.1) (Γ0 := fun S R c y => [some (.fz ((rEx K) y.1)), some (.fz (rI y.2.1)), none]) (Γ' := fun _ => []) (Γb := fun e => nomatch e) F sc_own (fun S R c y vs G h => (len_raC (len_raC len_raN)) h) (fun _ _ _ _ => rfl) (fun S R c y vs G h => (so_raC (so_raC (so_raN (n := 1)))) h) (fun _ _ _ _ => by exact Nat.le_of_ble_eq_true rfl) (by exact Nat.le_of_ble_eq_true rfl) ?_
  intro cdv A outer s H E Fm S R cp y hr z
  have hu := DL.Room.hu hr
  have hu1 := DL.Room.hu1 hr
  obtain ⟨error1, place2, _⟩ := y
  exact JB.eq (m := (bnd (bnd (bnd (bnd (ret error1) fun v3 => bnd (grd (List.contains exvs v3.1)) fun _ => ret (List.contains ts_FeedError v3.1)) fun v4 => ret (!v4)) fun v7 => if v7 then ret true else (bnd (bnd (ret error1) fun v5 => bnd (grd (List.contains exvs v5.1)) fun _ => ret true) fun v6 => ret (!v6))) fun v8 => if v8 then (bnd (ret false) fun v9 => ret (.rt v9)) else (bnd (bnd (bnd (ret error1) fun v11 => classes_m v11) fun v17 => bnd (bnd (bnd (ret (21 : Int)) fun v12 => rangeM 0 v12) fun v16 => compM (fun x13 => ret true) (fun x13 => bnd (ret x13) fun v14 => bnd (ret place2) fun v15 => ret (decide (v14 = v15))) v16) fun v18 => eqM (fun xs => List.all xs (fun _ => true)) v17 v18) fun v19 => ret (.rt v19)) : M S (Fl Unit Empty Bool))) (jb_cx (Γ2 := [some (.fz ((rEx K) error1)), some (.fz (rI place2)), none]) (jb_ifR (JW.jt (jw_or (jt_not (jt_val (je_isV (cs := exvs) (ts := ts_FeedError) (by rfl) T.f_isinstance (je_var (r := (rEx K)) (x := error1) 0 rfl (pv 0)) T.v_ok (je_clsN (by rfl) T.vg_FeedError) T.vi_FeedError))) (jw_or1 (jt_not (jt_val (je_isVB (cs := exvs) (n := "ValueError") (bb := true) (by rfl) T.f_isinstance (je_var (r := (rEx K)) (x := error1) 0 rfl (pv 0)) T.v_ok (je_tyN "ValueError" (by rfl) T.f_ValueError (by decide +kernel)) T.vb_ValueError)))))) (jb_cx (Γ2 := [some (.fz ((rEx K) error1)), some (.fz (rI place2)), none]) (jb_one (js_ret je_bl))) (by repeat' first | exact nn_rai | exact nn_rt | exact nn_rse | exact nn_ct | exact nn_bk | exact nn_stk | refine nn_if ?_ ?_ | (refine nn_bnd ?_; intro _) | (refine nn_then ?_; intro _)) (jb_cx (Γ2 := [some (.fz ((rEx K) error1)), some (.fz (rI place2)), none]) (cut_own_0 T C_classes hr z hu hu1 error1 place2)))) (by simp only [ret_bnd, rdM_some, raiM_rse, own_mb])
abbrev st_names_right : Stmt := (top 29)
theorem sc_names_right : FnScope ["_law_one", "_law_other", "_law_told", "_law_pair", "_law_image"] ["_law_one", "_law_other"] (defScope st_names_right) := ⟨rfl, rfl, rfl, by decide +kernel, rfl, by decide +kernel, by decide +kernel⟩
def names_right_mb {S : Type} (one1 : Str) (other2 : Str) : M S (Fl Unit Empty Bool) := bnd (bnd (bnd (bnd (opt (atI [(("InvalidColumn", [("name", Dt.str one1)]) : Xv), (("InvalidKind", [("name", Dt.str one1)]) : Xv), (("UnknownName", [("name", Dt.str one1)]) : Xv), (("OneWay", [("state", Dt.str one1)]) : Xv)] (0 : Int))) fun v14 => own_m v14 (0 : Int)) fun v16 => ret (!v16)) fun v34 => if v34 then ret true else (bnd (bnd (bnd (opt (atI [(("InvalidColumn", [("name", Dt.str one1)]) : Xv), (("InvalidKind", [("name", Dt.str one1)]) : Xv), (("UnknownName", [("name", Dt.str one1)]) : Xv), (("OneWay", [("state", Dt.str one1)]) : Xv)] (1 : Int))) fun v19 => own_m v19 (1 : Int)) fun v21 => ret (!v21)) fun v33 => if v33 then ret true else (bnd (bnd (bnd (opt (atI [(("InvalidColumn", [("name", Dt.str one1)]) : Xv), (("InvalidKind", [("name", Dt.str one1)]) : Xv), (("UnknownName", [("name", Dt.str one1)]) : Xv), (("OneWay", [("state", Dt.str one1)]) : Xv)] (2 : Int))) fun v24 => own_m v24 (3 : Int)) fun v26 => ret (!v26)) fun v32 => if v32 then ret true else (bnd (bnd (opt (atI [(("InvalidColumn", [("name", Dt.str one1)]) : Xv), (("InvalidKind", [("name", Dt.str one1)]) : Xv), (("UnknownName", [("name", Dt.str one1)]) : Xv), (("OneWay", [("state", Dt.str one1)]) : Xv)] (3 : Int))) fun v29 => own_m v29 (20 : Int)) fun v31 => ret (!v31))))) fun v35 => if v35 then (ret (.rt false)) else (bnd (bnd (bnd (own_m (("Unchained", [("source", Dt.str other2), ("target", Dt.str one1)]) : Xv) (13 : Int)) fun v46 => ret (!v46)) fun v63 => if v63 then ret true else (bnd (bnd (own_m (("InvalidImage", [("column", Dt.str other2), ("side", Dt.str ("after" : Str)), ("kind", Dt.str one1)]) : Xv) (4 : Int)) fun v49 => ret (!v49)) fun v62 => if v62 then ret true else (bnd (bnd (bnd (grd (List.contains [("Unchained" : Str)] (("Unchained", [("source", Dt.str other2), ("target", Dt.str one1)]) : Xv).1)) fun _ => getS (("Unchained", [("source", Dt.str other2), ("target", Dt.str one1)]) : Xv).2 "target") fun v56 => bnd (bnd (grd (List.contains [("Unchained" : Str)] (("Unchained", [("source", Dt.str other2), ("target", Dt.str one1)]) : Xv).1)) fun _ => getS (("Unchained", [("source", Dt.str other2), ("target", Dt.str one1)]) : Xv).2 "source") fun v57 => ret (v56, v57)) fun v60 => neM (fun (x : Str × Str) => PyData.strOk (x.1) && PyData.strOk (x.2)) v60 (one1, other2)))) fun v64 => if v64 then (ret (.rt false)) else (bnd (bnd (bnd (bnd (opt (atI [(("InvalidColumn", [("name", Dt.str one1)]) : Xv), (("InvalidKind", [("name", Dt.str one1)]) : Xv), (("UnknownName", [("name", Dt.str one1)]) : Xv), (("OneWay", [("state", Dt.str one1)]) : Xv)] (0 : Int))) fun v84 => bnd (grd (List.contains [("InvalidColumn" : Str), ("InvalidKind" : Str), ("UnknownName" : Str)] v84.1)) fun _ => getS v84.2 "name") fun v94 => bnd (bnd (opt (atI [(("InvalidColumn", [("name", Dt.str one1)]) : Xv), (("InvalidKind", [("name", Dt.str one1)]) : Xv), (("UnknownName", [("name", Dt.str one1)]) : Xv), (("OneWay", [("state", Dt.str one1)]) : Xv)] (1 : Int))) fun v87 => bnd (grd (List.contains [("InvalidColumn" : Str), ("InvalidKind" : Str), ("UnknownName" : Str)] v87.1)) fun _ => getS v87.2 "name") fun v95 => bnd (bnd (opt (atI [(("InvalidColumn", [("name", Dt.str one1)]) : Xv), (("InvalidKind", [("name", Dt.str one1)]) : Xv), (("UnknownName", [("name", Dt.str one1)]) : Xv), (("OneWay", [("state", Dt.str one1)]) : Xv)] (2 : Int))) fun v90 => bnd (grd (List.contains [("InvalidColumn" : Str), ("InvalidKind" : Str), ("UnknownName" : Str)] v90.1)) fun _ => getS v90.2 "name") fun v96 => bnd (bnd (opt (atI [(("InvalidColumn", [("name", Dt.str one1)]) : Xv), (("InvalidKind", [("name", Dt.str one1)]) : Xv), (("UnknownName", [("name", Dt.str one1)]) : Xv), (("OneWay", [("state", Dt.str one1)]) : Xv)] (3 : Int))) fun v93 => bnd (grd (List.contains [("WrongState" : Str), ("OneWay" : Str)] v93.1)) fun _ => getS v93.2 "state") fun v97 => ret [v94, v95, v96, v97]) fun v101 => bnd (lrepM [one1] (4 : Int)) fun v102 => neM (fun xs => List.all xs PyData.strOk) v101 v102) fun v103 => if v103 then (ret (.rt false)) else (bnd (bnd (bnd (bnd (grd (List.contains [("InvalidImage" : Str), ("InvalidValues" : Str)] (("InvalidImage", [("column", Dt.str other2), ("side", Dt.str ("after" : Str)), ("kind", Dt.str one1)]) : Xv).1)) fun _ => getS (("InvalidImage", [("column", Dt.str other2), ("side", Dt.str ("after" : Str)), ("kind", Dt.str one1)]) : Xv).2 "kind") fun v114 => bnd (bnd (grd (List.contains [("InvalidImage" : Str)] (("InvalidImage", [("column", Dt.str other2), ("side", Dt.str ("after" : Str)), ("kind", Dt.str one1)]) : Xv).1)) fun _ => getS (("InvalidImage", [("column", Dt.str other2), ("side", Dt.str ("after" : Str)), ("kind", Dt.str one1)]) : Xv).2 "side") fun v115 => bnd (bnd (grd (List.contains [("InvalidImage" : Str)] (("InvalidImage", [("column", Dt.str other2), ("side", Dt.str ("after" : Str)), ("kind", Dt.str one1)]) : Xv).1)) fun _ => getS (("InvalidImage", [("column", Dt.str other2), ("side", Dt.str ("after" : Str)), ("kind", Dt.str one1)]) : Xv).2 "column") fun v116 => ret (v114, v115, v116)) fun v120 => eqM (fun (x : Str × Str × Str) => PyData.strOk (x.1) && (PyData.strOk (x.2.1) && (PyData.strOk (x.2.2)))) v120 (one1, ("after" : Str), other2)) fun v122 => ret (.rt v122))))
def names_right_m {S : Type} (one1 : Str) (other2 : Str) : M S Bool := runF (names_right_mb one1 other2)
abbrev ra_names_right (K : PySem.W.Frag) (S : Type) (R : S → MP Hp) (c : NoCap S R) : Str × Str × Unit → List V → Hp → Prop := (raC rS (raC rS raN))
abbrev f_names_right (S : Type) (R : S → MP Hp) (c : NoCap S R) (y : Str × Str × Unit) : M S Bool := names_right_m y.1 y.2.1
abbrev sp_names_right (K : PySem.W.Frag) (mg : Str → Option Value) : Sp := spC mg (ra_names_right K) (.fz rB) f_names_right
theorem cut_names_right_0 {P : Program} {w : World} {K : PySem.W.Frag} {mg : Str → Option Value} {base : Heap} {f : Addr} {cdv : Value} {A : Around} {outer : List Env} {s : Shared} {H : Hp} {E : XK} {Fm : Fm} {S : Type} {R : S → MP Hp} (T : Txt K mg) (X_InvalidColumn : XnC P w K mg base "InvalidColumn" ["name"] 1) (X_InvalidKind : XnC P w K mg base "InvalidKind" ["name"] 1) (X_UnknownName : XnC P w K mg base "UnknownName" ["name"] 1) (X_OneWay : XnC P w K mg base "OneWay" ["state"] 1) (C_own : FnC P w K mg base "_law_own" 2 (sp_own K mg)) (X_Unchained : XnC P w K mg base "Unchained" ["target", "source"] 1) (X_InvalidImage : XnC P w K mg base "InvalidImage" ["kind", "side", "column"] 1) (hr : Room 2 (A.deeper (envOfC "_law_names_right" (defScope st_names_right) s.heap.objs.size f cdv))) (z : ZOk (ZF P w K mg base ["_law_one", "_law_other", "_law_told", "_law_pair", "_law_image"] "_law_names_right" (defScope st_names_right) f cdv A outer s H E Fm S R)) (hu : (A.deeper (envOfC "_law_names_right" (defScope st_names_right) s.heap.objs.size f cdv)).units + 65 < cLine) (hu1 : (A.deeper (envOfC "_law_names_right" (defScope st_names_right) s.heap.objs.size f cdv)).units + 1 < cLine) (one1 : Str) (other2 : Str) (told11 : List Xv) (pair39 : Xv) (image43 : Xv) : JB (ZF P w K mg base ["_law_one", "_law_other", "_law_told", "_law_pair", "_law_image"] "_law_names_right" (defScope st_names_right) f cdv A outer s H E Fm S R) [some (.fz (rS one1)), some (.fz (rS other2)), some (.fz ((rL (rEx K)) told11)), some (.fz ((rEx K) pair39)), some (.fz ((rEx K) image43))] (List.drop 6 (defBody st_names_right)) (bnd (bnd (bnd (bnd (ret image43) fun v111 => bnd (grd (List.contains [("InvalidImage" : Str), ("InvalidValues" : Str)] v111.1)) fun _ => getS v111.2 "kind") fun v114 => bnd (bnd (ret image43) fun v112 => bnd (grd (List.contains [("InvalidImage" : Str)] v112.1)) fun _ => getS v112.2 "side") fun v115 => bnd (bnd (ret image43) fun v113 => bnd (grd (List.contains [("InvalidImage" : Str)] v113.1)) fun _ => getS v113.2 "column") fun v116 => ret (v114, v115, v116)) fun v120 => bnd (bnd (ret one1) fun v117 => bnd (ret ("after" : Str)) fun v118 => bnd (ret other2) fun v119 => ret (v117, v118, v119)) fun v121 => eqM (fun (x : Str × Str × Str) => PyData.strOk (x.1) && (PyData.strOk (x.2.1) && (PyData.strOk (x.2.2)))) v120 v121) fun v122 => ret (.rt v122) : M S (Fl Unit Empty Bool)) (fun _ => []) (fun e => nomatch e) (.fz rB) := (jb_one (js_ret (je_eqD (dT3 dS dS dS) (by decide) hu (je_tup3 (ja_cons (je_xvS (cs := ["InvalidImage", "InvalidValues"]) (je_var (r := (rEx K)) (x := image43) 4 rfl (pv 4)) T.vf_kind) (ja_cons (je_xvS (cs := ["InvalidImage"]) (je_var (r := (rEx K)) (x := image43) 4 rfl (pv 4)) T.vf_side) (ja_cons (je_xvS (cs := ["InvalidImage"]) (je_var (r := (rEx K)) (x := image43) 4 rfl (pv 4)) T.vf_column) ja_nil)))) (je_tup3 (ja_cons (je_var (r := rS) (x := one1) 0 rfl (pv 0)) (ja_cons je_str (ja_cons (je_var (r := rS) (x := other2) 1 rfl (pv 1)) ja_nil)))))))
theorem cut_names_right_1 {P : Program} {w : World} {K : PySem.W.Frag} {mg : Str → Option Value} {base : Heap} {f : Addr} {cdv : Value} {A : Around} {outer : List Env} {s : Shared} {H : Hp} {E : XK} {Fm : Fm} {S : Type} {R : S → MP Hp} (T : Txt K mg) (X_InvalidColumn : XnC P w K mg base "InvalidColumn" ["name"] 1) (X_InvalidKind : XnC P w K mg base "InvalidKind" ["name"] 1) (X_UnknownName : XnC P w K mg base "UnknownName" ["name"] 1) (X_OneWay : XnC P w K mg base "OneWay" ["state"] 1) (C_own : FnC P w K mg base "_law_own" 2 (sp_own K mg)) (X_Unchained : XnC P w K mg base "Unchained" ["target", "source"] 1) (X_InvalidImage : XnC P w K mg base "InvalidImage" ["kind", "side", "column"] 1) (hr : Room 2 (A.deeper (envOfC "_law_names_right" (defScope st_names_right) s.heap.objs.size f cdv))) (z : ZOk (ZF P w K mg base ["_law_one", "_law_other", "_law_told", "_law_pair", "_law_image"] "_law_names_right" (defScope st_names_right) f cdv A outer s H E Fm S R)) (hu : (A.deeper (envOfC "_law_names_right" (defScope st_names_right) s.heap.objs.size f cdv)).units + 65 < cLine) (hu1 : (A.deeper (envOfC "_law_names_right" (defScope st_names_right) s.heap.objs.size f cdv)).units + 1 < cLine) (one1 : Str) (other2 : Str) (told11 : List Xv) (pair39 : Xv) (image43 : Xv) : JB (ZF P w K mg base ["_law_one", "_law_other", "_law_told", "_law_pair", "_law_image"] "_law_names_right" (defScope st_names_right) f cdv A outer s H E Fm S R) [some (.fz (rS one1)), some (.fz (rS other2)), some (.fz ((rL (rEx K)) told11)), some (.fz ((rEx K) pair39)), some (.fz ((rEx K) image43))] (List.drop 5 (defBody st_names_right)) (bnd (bnd (bnd (bnd (bnd (ret told11) fun v82 => bnd (ret (0 : Int)) fun v83 => opt (atI v82 v83)) fun v84 => bnd (grd (List.contains [("InvalidColumn" : Str), ("InvalidKind" : Str), ("UnknownName" : Str)] v84.1)) fun _ => getS v84.2 "name") fun v94 => bnd (bnd (bnd (ret told11) fun v85 => bnd (ret (1 : Int)) fun v86 => opt (atI v85 v86)) fun v87 => bnd (grd (List.contains [("InvalidColumn" : Str), ("InvalidKind" : Str), ("UnknownName" : Str)] v87.1)) fun _ => getS v87.2 "name") fun v95 => bnd (bnd (bnd (ret told11) fun v88 => bnd (ret (2 : Int)) fun v89 => opt (atI v88 v89)) fun v90 => bnd (grd (List.contains [("InvalidColumn" : Str), ("InvalidKind" : Str), ("UnknownName" : Str)] v90.1)) fun _ => getS v90.2 "name") fun v96 => bnd (bnd (bnd (ret told11) fun v91 => bnd (ret (3 : Int)) fun v92 => opt (atI v91 v92)) fun v93 => bnd (grd (List.contains [("WrongState" : Str), ("OneWay" : Str)] v93.1)) fun _ => getS v93.2 "state") fun v97 => ret [v94, v95, v96, v97]) fun v101 => bnd (bnd (bnd (ret one1) fun v98 => ret [v98]) fun v99 => bnd (ret (4 : Int)) fun v100 => lrepM v99 v100) fun v102 => neM (fun xs => List.all xs PyData.strOk) v101 v102) fun v103 => if v103 then (bnd (ret false) fun v104 => ret (.rt v104)) else (bnd (bnd (bnd (bnd (ret image43) fun v111 => bnd (grd (List.contains [("InvalidImage" : Str), ("InvalidValues" : Str)] v111.1)) fun _ => getS v111.2 "kind") fun v114 => bnd (bnd (ret image43) fun v112 => bnd (grd (List.contains [("InvalidImage" : Str)] v112.1)) fun _ => getS v112.2 "side") fun v115 => bnd (bnd (ret image43) fun v113 => bnd (grd (List.contains [("InvalidImage" : Str)] v113.1)) fun _ => getS v113.2 "column") fun v116 => ret (v114, v115, v116)) fun v120 => bnd (bnd (ret one1) fun v117 => bnd (ret ("after" : Str)) fun v118 => bnd (ret other2) fun v119 => ret (v117, v118, v119)) fun v121 => eqM (fun (x : Str × Str × Str) => PyData.strOk (x.1) && (PyData.strOk (x.2.1) && (PyData.strOk (x.2.2)))) v120 v121) fun v122 => ret (.rt v122)) : M S (Fl Unit Empty Bool)) (fun _ => []) (fun e => nomatch e) (.fz rB) := (jb_ifR (jt_neD (dL dS) (by decide) hu (je_frzL (je_list (jl_cons (je_xvS (cs := ["InvalidColumn", "InvalidKind", "UnknownName"]) (je_ixL (je_var (r := (rL (rEx K))) (x := told11) 2 rfl (pv 2)) je_int) T.vf_name) (jl_cons (je_xvS (cs := ["InvalidColumn", "InvalidKind", "UnknownName"]) (je_ixL (je_var (r := (rL (rEx K))) (x := told11) 2 rfl (pv 2)) je_int) T.vf_name) (jl_cons (je_xvS (cs := ["InvalidColumn", "InvalidKind", "UnknownName"]) (je_ixL (je_var (r := (rL (rEx K))) (x := told11) 2 rfl (pv 2)) je_int) T.vf_name) (jl_cons (je_xvS (cs := ["WrongState", "OneWay"]) (je_ixL (je_var (r := (rL (rEx K))) (x := told11) 2 rfl (pv 2)) je_int) T.vf_state) (jl_nil (r := rS)))))))) (je_frzL (je_rep (je_frzL (je_list (jl_cons (je_var (r := rS) (x := one1) 0 rfl (pv 0)) (jl_nil (r := rS))))) je_int))) (jb_cx (Γ2 := [some (.fz (rS one1)), some (.fz (rS other2)), some (.fz ((rL (rEx K)) told11)), some (.fz ((rEx K) pair39)), some (.fz ((rEx K) image43))]) (jb_one (js_ret je_bl))) (by repeat' first | exact nn_rai | exact nn_rt | exact nn_rse | exact nn_ct | exact nn_bk | exact nn_stk | refine nn_if ?_ ?_ | (refine nn_bnd ?_; intro _) | (refine nn_then ?_; intro _)) (jb_cx (Γ2 := [some (.fz (rS one1)), some (.fz (rS other2)), some (.fz ((rL (rEx K)) told11)), some (.fz ((rEx K) pair39)), some (.fz ((rEx K) image43))]) (cut_names_right_0 T X_InvalidColumn X_InvalidKind X_UnknownName X_OneWay C_own X_Unchained X_InvalidImage hr z hu hu1 one1 other2 told11 pair39 image43)))
theorem cut_names_right_2 {P : Program} {w : World} {K : PySem.W.Frag} {mg : Str → Option Value} {base : Heap} {f : Addr} {cdv : Value} {A : Around} {outer : List Env} {s : Shared} {H : Hp} {E : XK} {Fm : Fm} {S : Type} {R : S → MP Hp} (T : Txt K mg) (X_InvalidColumn : XnC P w K mg base "InvalidColumn" ["name"] 1) (X_InvalidKind : XnC P w K mg base "InvalidKind" ["name"] 1) (X_UnknownName : XnC P w K mg base "UnknownName" ["name"] 1) (X_OneWay : XnC P w K mg base "OneWay" ["state"] 1) (C_own : FnC P w K mg base "_law_own" 2 (sp_own K mg)) (X_Unchained : XnC P w K mg base "Unchained" ["target", "source"] 1) (X_InvalidImage : XnC P w K mg base "InvalidImage" ["kind", "side", "column"] 1) (hr : Room 2 (A.deeper (envOfC "_law_names_right" (defScope st_names_right) s.heap.objs.size f cdv))) (z : ZOk (ZF P w K mg base ["_law_one", "_law_other", "_law_told", "_law_pair", "_law_image"] "_law_names_right" (defScope st_names_right) f cdv A outer s H E Fm S R)) (hu : (A.deeper (envOfC "_law_names_right" (defScope st_names_right) s.heap.objs.size f cdv)).units + 65 < cLine) (hu1 : (A.deeper (envOfC "_law_names_right" (defScope st_names_right) s.heap.objs.size f cdv)).units + 1 < cLine) (one1 : Str) (other2 : Str) (told11 : List Xv) (pair39 : Xv) (image43 : Xv) : JB (ZF P w K mg base ["_law_one", "_law_other", "_law_told", "_law_pair", "_law_image"] "_law_names_right" (defScope st_names_right) f cdv A outer s H E Fm S R) [some (.fz (rS one1)), some (.fz (rS other2)), some (.fz ((rL (rEx K)) told11)), some (.fz ((rEx K) pair39)), some (.fz ((rEx K) image43))] (List.drop 4 (defBody st_names_right)) (bnd (bnd (bnd (bnd (ret pair39) fun v44 => bnd (ret (13 : Int)) fun v45 => own_m v44 v45) fun v46 => ret (!v46)) fun v63 => if v63 then ret true else (bnd (bnd (bnd (ret image43) fun v47 => bnd (ret (4 : Int)) fun v48 => own_m v47 v48) fun v49 => ret (!v49)) fun v62 => if v62 then ret true else (bnd (bnd (bnd (ret pair39) fun v54 => bnd (grd (List.contains [("Unchained" : Str)] v54.1)) fun _ => getS v54.2 "target") fun v56 => bnd (bnd (ret pair39) fun v55 => bnd (grd (List.contains [("Unchained" : Str)] v55.1)) fun _ => getS v55.2 "source") fun v57 => ret (v56, v57)) fun v60 => bnd (bnd (ret one1) fun v58 => bnd (ret other2) fun v59 => ret (v58, v59)) fun v61 => neM (fun (x : Str × Str) => PyData.strOk (x.1) && PyData.strOk (x.2)) v60 v61))) fun v64 => if v64 then (bnd (ret false) fun v65 => ret (.rt v65)) else (bnd (bnd (bnd (bnd (bnd (ret told11) fun v82 => bnd (ret (0 : Int)) fun v83 => opt (atI v82 v83)) fun v84 => bnd (grd (List.contains [("InvalidColumn" : Str), ("InvalidKind" : Str), ("UnknownName" : Str)] v84.1)) fun _ => getS v84.2 "name") fun v94 => bnd (bnd (bnd (ret told11) fun v85 => bnd (ret (1 : Int)) fun v86 => opt (atI v85 v86)) fun v87 => bnd (grd (List.contains [("InvalidColumn" : Str), ("InvalidKind" : Str), ("UnknownName" : Str)] v87.1)) fun _ => getS v87.2 "name") fun v95 => bnd (bnd (bnd (ret told11) fun v88 => bnd (ret (2 : Int)) fun v89 => opt (atI v88 v89)) fun v90 => bnd (grd (List.contains [("InvalidColumn" : Str), ("InvalidKind" : Str), ("UnknownName" : Str)] v90.1)) fun _ => getS v90.2 "name") fun v96 => bnd (bnd (bnd (ret told11) fun v91 => bnd (ret (3 : Int)) fun v92 => opt (atI v91 v92)) fun v93 => bnd (grd (List.contains [("WrongState" : Str), ("OneWay" : Str)] v93.1)) fun _ => getS v93.2 "state") fun v97 => ret [v94, v95, v96, v97]) fun v101 => bnd (bnd (bnd (ret one1) fun v98 => ret [v98]) fun v99 => bnd (ret (4 : Int)) fun v100 => lrepM v99 v100) fun v102 => neM (fun xs => List.all xs PyData.strOk) v101 v102) fun v103 => if v103 then (bnd (ret false) fun v104 => ret (.rt v104)) else (bnd (bnd (bnd (bnd (ret image43) fun v111 => bnd (grd (List.contains [("InvalidImage" : Str), ("InvalidValues" : Str)] v111.1)) fun _ => getS v111.2 "kind") fun v114 => bnd (bnd (ret image43) fun v112 => bnd (grd (List.contains [("InvalidImage" : Str)] v112.1)) fun _ => getS v112.2 "side") fun v115 => bnd (bnd (ret image43) fun v113 => bnd (grd (List.contains [("InvalidImage" : Str)] v113.1)) fun _ => getS v113.2 "column") fun v116 => ret (v114, v115, v116)) fun v120 => bnd (bnd (ret one1) fun v117 => bnd (ret ("after" : Str)) fun v118 => bnd (ret other2) fun v119 => ret (v117, v118, v119)) fun v121 => eqM (fun (x : Str × Str × Str) => PyData.strOk (x.1) && (PyData.strOk (x.2.1) && (PyData.strOk (x.2.2)))) v120 v121) fun v122 => ret (.rt v122))) : M S (Fl Unit Empty Bool)) (fun _ => []) (fun e => nomatch e) (.fz rB) := (jb_ifR (JW.jt (jw_or (jt_not (jt_val (je_call z C_own hr ⟨⟩ (ja_cons (je_var (r := (rEx K)) (x := pair39) 3 rfl (pv 3)) (ja_cons je_int ja_nil))))) (jw_or (jt_not (jt_val (je_call z C_own hr ⟨⟩ (ja_cons (je_var (r := (rEx K)) (x := image43) 4 rfl (pv 4)) (ja_cons je_int ja_nil))))) (jw_or1 (jt_neD (dT2 dS dS) (by decide) hu (je_tup2 (ja_cons (je_xvS (cs := ["Unchained"]) (je_var (r := (rEx K)) (x := pair39) 3 rfl (pv 3)) T.vf_target) (ja_cons (je_xvS (cs := ["Unchained"]) (je_var (r := (rEx K)) (x := pair39) 3 rfl (pv 3)) T.vf_source) ja_nil))) (je_tup2 (ja_cons (je_var (r := rS) (x := one1) 0 rfl (pv 0)) (ja_cons (je_var (r := rS) (x := other2) 1 rfl (pv 1)) ja_nil)))))))) (jb_cx (Γ2 := [some (.fz (rS one1)), some (.fz (rS other2)), some (.fz ((rL (rEx K)) told11)), some (.fz ((rEx K) pair39)), some (.fz ((rEx K) image43))]) (jb_one (js_ret je_bl))) (by repeat' first | exact nn_rai | exact nn_rt | exact nn_rse | exact nn_ct | exact nn_bk | exact nn_stk | refine nn_if ?_ ?_ | (refine nn_bnd ?_; intro _) | (refine nn_then ?_; intro _)) (jb_cx (Γ2 := [some (.fz (rS one1)), some (.fz (rS other2)), some (.fz ((rL (rEx K)) told11)), some (.fz ((rEx K) pair39)), some (.fz ((rEx K) image43))]) (cut_names_right_1 T X_InvalidColumn X_InvalidKind X_UnknownName X_OneWay C_own X_Unchained X_InvalidImage hr z hu hu1 one1 other2 told11 pair39 image43)))
theorem cut_names_right_3 {P : Program} {w : World} {K : PySem.W.Frag} {mg : Str → Option Value} {base : Heap} {f : Addr} {cdv : Value} {A : Around} {outer : List Env} {s : Shared} {H : Hp} {E : XK} {Fm : Fm} {S : Type} {R : S → MP Hp} (T : Txt K mg) (X_InvalidColumn : XnC P w K mg base "InvalidColumn" ["name"] 1) (X_InvalidKind : XnC P w K mg base "InvalidKind" ["name"] 1) (X_UnknownName : XnC P w K mg base "UnknownName" ["name"] 1) (X_OneWay : XnC P w K mg base "OneWay" ["state"] 1) (C_own : FnC P w K mg base "_law_own" 2 (sp_own K mg)) (X_Unchained : XnC P w K mg base "Unchained" ["target", "source"] 1) (X_InvalidImage : XnC P w K mg base "InvalidImage" ["kind", "side", "column"] 1) (hr : Room 2 (A.deeper (envOfC "_law_names_right" (defScope st_names_right) s.heap.objs.size f cdv))) (z : ZOk (ZF P w K mg base ["_law_one", "_law_other", "_law_told", "_law_pair", "_law_image"] "_law_names_right" (defScope st_names_right) f cdv A outer s H E Fm S R)) (hu : (A.deeper (envOfC "_law_names_right" (defScope st_names_right) s.heap.objs.size f cdv)).units + 65 < cLine) (hu1 : (A.deeper (envOfC "_law_names_right" (defScope st_names_right) s.heap.objs.size f cdv)).units + 1 < cLine) (one1 : Str) (other2 : Str) (told11 : List Xv) (pair39 : Xv) : JB (ZF P w K mg base ["_law_one", "_law_other", "_law_told", "_law_pair", "_law_image"] "_law_names_right" (defScope st_names_right) f cdv A outer s H E Fm S R) [some (.fz (rS one1)), some (.fz (rS other2)), some (.fz ((rL (rEx K)) told11)), some (.fz ((rEx K) pair39)), none] (List.drop 3 (defBody st_names_right)) (bnd (bnd (ret one1) fun v40 => bnd (ret ("after" : Str)) fun v41 => bnd (ret other2) fun v42 => ret (("InvalidImage", [("column", Dt.str v42), ("side", Dt.str v41), ("kind", Dt.str v40)]) : Xv)) fun image43 => bnd (bnd (bnd (bnd (ret pair39) fun v44 => bnd (ret (13 : Int)) fun v45 => own_m v44 v45) fun v46 => ret (!v46)) fun v63 => if v63 then ret true else (bnd (bnd (bnd (ret image43) fun v47 => bnd (ret (4 : Int)) fun v48 => own_m v47 v48) fun v49 => ret (!v49)) fun v62 => if v62 then ret true else (bnd (bnd (bnd (ret pair39) fun v54 => bnd (grd (List.contains [("Unchained" : Str)] v54.1)) fun _ => getS v54.2 "target") fun v56 => bnd (bnd (ret pair39) fun v55 => bnd (grd (List.contains [("Unchained" : Str)] v55.1)) fun _ => getS v55.2 "source") fun v57 => ret (v56, v57)) fun v60 => bnd (bnd (ret one1) fun v58 => bnd (ret other2) fun v59 => ret (v58, v59)) fun v61 => neM (fun (x : Str × Str) => PyData.strOk (x.1) && PyData.strOk (x.2)) v60 v61))) fun v64 => if v64 then (bnd (ret false) fun v65 => ret (.rt v65)) else (bnd (bnd (bnd (bnd (bnd (ret told11) fun v82 => bnd (ret (0 : Int)) fun v83 => opt (atI v82 v83)) fun v84 => bnd (grd (List.contains [("InvalidColumn" : Str), ("InvalidKind" : Str), ("UnknownName" : Str)] v84.1)) fun _ => getS v84.2 "name") fun v94 => bnd (bnd (bnd (ret told11) fun v85 => bnd (ret (1 : Int)) fun v86 => opt (atI v85 v86)) fun v87 => bnd (grd (List.contains [("InvalidColumn" : Str), ("InvalidKind" : Str), ("UnknownName" : Str)] v87.1)) fun _ => getS v87.2 "name") fun v95 => bnd (bnd (bnd (ret told11) fun v88 => bnd (ret (2 : Int)) fun v89 => opt (atI v88 v89)) fun v90 => bnd (grd (List.contains [("InvalidColumn" : Str), ("InvalidKind" : Str), ("UnknownName" : Str)] v90.1)) fun _ => getS v90.2 "name") fun v96 => bnd (bnd (bnd (ret told11) fun v91 => bnd (ret (3 : Int)) fun v92 => opt (atI v91 v92)) fun v93 => bnd (grd (List.contains [("WrongState" : Str), ("OneWay" : Str)] v93.1)) fun _ => getS v93.2 "state") fun v97 => ret [v94, v95, v96, v97]) fun v101 => bnd (bnd (bnd (ret one1) fun v98 => ret [v98]) fun v99 => bnd (ret (4 : Int)) fun v100 => lrepM v99 v100) fun v102 => neM (fun xs => List.all xs PyData.strOk) v101 v102) fun v103 => if v103 then (bnd (ret false) fun v104 => ret (.rt v104)) else (bnd (bnd (bnd (bnd (ret image43) fun v111 => bnd (grd (List.contains [("InvalidImage" : Str), ("InvalidValues" : Str)] v111.1)) fun _ => getS v111.2 "kind") fun v114 => bnd (bnd (ret image43) fun v112 => bnd (grd (List.contains [("InvalidImage" : Str)] v112.1)) fun _ => getS v112.2 "side") fun v115 => bnd (bnd (ret image43) fun v113 => bnd (grd (List.contains [("InvalidImage" : Str)] v113.1)) fun _ => getS v113.2 "column") fun v116 => ret (v114, v115, v116)) fun v120 => bnd (bnd (ret one1) fun v117 => bnd (ret ("after" : Str)) fun v118 => bnd (ret other2) fun v119 => ret (v117, v118, v119)) fun v121 => eqM (fun (x : Str × Str × Str) => PyData.strOk (x.1) && (PyData.strOk (x.2.1) && (PyData.strOk (x.2.2)))) v120 v121) fun v122 => ret (.rt v122))) : M S (Fl Unit Empty Bool)) (fun _ => []) (fun e => nomatch e) (.fz rB) := (jb_set (i := 4) z rfl (by first | exact .inl rfl | exact .inr rfl) (JE.eqm (je_mkV (ρ := .fz (rEx K)) z X_InvalidImage hr (ja_cons (je_var (r := rS) (x := one1) 0 rfl (pv 0)) (ja_cons je_str (ja_cons (je_var (r := rS) (x := other2) 1 rfl (pv 1)) ja_nil))) T.vg_InvalidImage (rEx K) (fun y => ("InvalidImage", [("column", Dt.str y.2.2.1), ("side", Dt.str y.2.1), ("kind", Dt.str y.1)])) (xv_dt (xd3 "kind" "side" "column" Dt.str Dt.str Dt.str dt_s dt_s dt_s))) rfl) (fun image43 => (jb_cx (Γ2 := [some (.fz (rS one1)), some (.fz (rS other2)), some (.fz ((rL (rEx K)) told11)), some (.fz ((rEx K) pair39)), some (.fz ((rEx K) image43))]) (cut_names_right_2 T X_InvalidColumn X_InvalidKind X_UnknownName X_OneWay C_own X_Unchained X_InvalidImage hr z hu hu1 one1 other2 told11 pair39 image43))))
theorem cut_names_right_4 {P : Program} {w : World} {K : PySem.W.Frag} {mg : Str → Option Value} {base : Heap} {f : Addr} {cdv : Value} {A : Around} {outer : List Env} {s : Shared} {H : Hp} {E : XK} {Fm : Fm} {S : Type} {R : S → MP Hp} (T : Txt K mg) (X_InvalidColumn : XnC P w K mg base "InvalidColumn" ["name"] 1) (X_InvalidKind : XnC P w K mg base "InvalidKind" ["name"] 1) (X_UnknownName : XnC P w K mg base "UnknownName" ["name"] 1) (X_OneWay : XnC P w K mg base "OneWay" ["state"] 1) (C_own : FnC P w K mg base "_law_own" 2 (sp_own K mg)) (X_Unchained : XnC P w K mg base "Unchained" ["target", "source"] 1) (X_InvalidImage : XnC P w K mg base "InvalidImage" ["kind", "side", "column"] 1) (hr : Room 2 (A.deeper (envOfC "_law_names_right" (defScope st_names_right) s.heap.objs.size f cdv))) (z : ZOk (ZF P w K mg base ["_law_one", "_law_other", "_law_told", "_law_pair", "_law_image"] "_law_names_right" (defScope st_names_right) f cdv A outer s H E Fm S R)) (hu : (A.deeper (envOfC "_law_names_right" (defScope st_names_right) s.heap.objs.size f cdv)).units + 65 < cLine) (hu1 : (A.deeper (envOfC "_law_names_right" (defScope st_names_right) s.heap.objs.size f cdv)).units + 1 < cLine) (one1 : Str) (other2 : Str) (told11 : List Xv) : JB (ZF P w K mg base ["_law_one", "_law_other", "_law_told", "_law_pair", "_law_image"] "_law_names_right" (defScope st_names_right) f cdv A outer s H E Fm S R) [some (.fz (rS one1)), some (.fz (rS other2)), some (.fz ((rL (rEx K)) told11)), none, none] (List.drop 2 (defBody st_names_right)) (bnd (bnd (ret one1) fun v37 => bnd (ret other2) fun v38 => ret (("Unchained", [("source", Dt.str v38), ("target", Dt.str v37)]) : Xv)) fun pair39 => bnd (bnd (ret one1) fun v40 => bnd (ret ("after" : Str)) fun v41 => bnd (ret other2) fun v42 => ret (("InvalidImage", [("column", Dt.str v42), ("side", Dt.str v41), ("kind", Dt.str v40)]) : Xv)) fun image43 => bnd (bnd (bnd (bnd (ret pair39) fun v44 => bnd (ret (13 : Int)) fun v45 => own_m v44 v45) fun v46 => ret (!v46)) fun v63 => if v63 then ret true else (bnd (bnd (bnd (ret image43) fun v47 => bnd (ret (4 : Int)) fun v48 => own_m v47 v48) fun v49 => ret (!v49)) fun v62 => if v62 then ret true else (bnd (bnd (bnd (ret pair39) fun v54 => bnd (grd (List.contains [("Unchained" : Str)] v54.1)) fun _ => getS v54.2 "target") fun v56 => bnd (bnd (ret pair39) fun v55 => bnd (grd (List.contains [("Unchained" : Str)] v55.1)) fun _ => getS v55.2 "source") fun v57 => ret (v56, v57)) fun v60 => bnd (bnd (ret one1) fun v58 => bnd (ret other2) fun v59 => ret (v58, v59)) fun v61 => neM (fun (x : Str × Str) => PyData.strOk (x.1) && PyData.strOk (x.2)) v60 v61))) fun v64 => if v64 then (bnd (ret false) fun v65 => ret (.rt v65)) else (bnd (bnd (bnd (bnd (bnd (ret told11) fun v82 => bnd (ret (0 : Int)) fun v83 => opt (atI v82 v83)) fun v84 => bnd (grd (List.contains [("InvalidColumn" : Str), ("InvalidKind" : Str), ("UnknownName" : Str)] v84.1)) fun _ => getS v84.2 "name") fun v94 => bnd (bnd (bnd (ret told11) fun v85 => bnd (ret (1 : Int)) fun v86 => opt (atI v85 v86)) fun v87 => bnd (grd (List.contains [("InvalidColumn" : Str), ("InvalidKind" : Str), ("UnknownName" : Str)] v87.1)) fun _ => getS v87.2 "name") fun v95 => bnd (bnd (bnd (ret told11) fun v88 => bnd (ret (2 : Int)) fun v89 => opt (atI v88 v89)) fun v90 => bnd (grd (List.contains [("InvalidColumn" : Str), ("InvalidKind" : Str), ("UnknownName" : Str)] v90.1)) fun _ => getS v90.2 "name") fun v96 => bnd (bnd (bnd (ret told11) fun v91 => bnd (ret (3 : Int)) fun v92 => opt (atI v91 v92)) fun v93 => bnd (grd (List.contains [("WrongState" : Str), ("OneWay" : Str)] v93.1)) fun _ => getS v93.2 "state") fun v97 => ret [v94, v95, v96, v97]) fun v101 => bnd (bnd (bnd (ret one1) fun v98 => ret [v98]) fun v99 => bnd (ret (4 : Int)) fun v100 => lrepM v99 v100) fun v102 => neM (fun xs => List.all xs PyData.strOk) v101 v102) fun v103 => if v103 then (bnd (ret false) fun v104 => ret (.rt v104)) else (bnd (bnd (bnd (bnd (ret image43) fun v111 => bnd (grd (List.contains [("InvalidImage" : Str), ("InvalidValues" : Str)] v111.1)) fun _ => getS v111.2 "kind") fun v114 => bnd (bnd (ret image43) fun v112 => bnd (grd (List.contains [("InvalidImage" : Str)] v112.1)) fun _ => getS v112.2 "side") fun v115 => bnd (bnd (ret image43) fun v113 => bnd (grd (List.contains [("InvalidImage" : Str)] v113.1)) fun _ => getS v113.2 "column") fun v116 => ret (v114, v115, v116)) fun v120 => bnd (bnd (ret one1) fun v117 => bnd (ret ("after" : Str)) fun v118 => bnd (ret other2) fun v119 => ret (v117, v118, v119)) fun v121 => eqM (fun (x : Str × Str × Str) => PyData.strOk (x.1) && (PyData.strOk (x.2.1) && (PyData.strOk (x.2.2)))) v120 v121) fun v122 => ret (.rt v122))) : M S (Fl Unit Empty Bool)) (fun _ => []) (fun e => nomatch e) (.fz rB) := (jb_set (i := 3) z rfl (by first | exact .inl rfl | exact .inr rfl) (JE.eqm (je_mkV (ρ := .fz (rEx K)) z X_Unchained hr (ja_cons (je_var (r := rS) (x := one1) 0 rfl (pv 0)) (ja_cons (je_var (r := rS) (x := other2) 1 rfl (pv 1)) ja_nil)) T.vg_Unchained (rEx K) (fun y => ("Unchained", [("source", Dt.str y.2.1), ("target", Dt.str y.1)])) (xv_dt (xd2 "target" "source" Dt.str Dt.str dt_s dt_s))) rfl) (fun pair39 => (jb_cx (Γ2 := [some (.fz (rS one1)), some (.fz (rS other2)), some (.fz ((rL (rEx K)) told11)), some (.fz ((rEx K) pair39)), none]) (cut_names_right_3 T X_InvalidColumn X_InvalidKind X_UnknownName X_OneWay C_own X_Unchained X_InvalidImage hr z hu hu1 one1 other2 told11 pair39))))
theorem cut_names_right_5 {P : Program} {w : World} {K : PySem.W.Frag} {mg : Str → Option Value} {base : Heap} {f : Addr} {cdv : Value} {A : Around} {outer : List Env} {s : Shared} {H : Hp} {E : XK} {Fm : Fm} {S : Type} {R : S → MP Hp} (T : Txt K mg) (X_InvalidColumn : XnC P w K mg base "InvalidColumn" ["name"] 1) (X_InvalidKind : XnC P w K mg base "InvalidKind" ["name"] 1) (X_UnknownName : XnC P w K mg base "UnknownName" ["name"] 1) (X_OneWay : XnC P w K mg base "OneWay" ["state"] 1) (C_own : FnC P w K mg base "_law_own" 2 (sp_own K mg)) (X_Unchained : XnC P w K mg base "Unchained" ["target", "source"] 1) (X_InvalidImage : XnC P w K mg base "InvalidImage" ["kind", "side", "column"] 1) (hr : Room 2 (A.deeper (envOfC "_law_names_right" (defScope st_names_right) s.heap.objs.size f cdv))) (z : ZOk (ZF P w K mg base ["_law_one", "_law_other", "_law_told", "_law_pair", "_law_image"] "_law_names_right" (defScope st_names_right) f cdv A outer s H E Fm S R)) (hu : (A.deeper (envOfC "_law_names_right" (defScope st_names_right) s.heap.objs.size f cdv)).units + 65 < cLine) (hu1 : (A.deeper (envOfC "_law_names_right" (defScope st_names_right) s.heap.objs.size f cdv)).units + 1 < cLine) (one1 : Str) (other2 : Str) (told11 : List Xv) : JB (ZF P w K mg base ["_law_one", "_law_other", "_law_told", "_law_pair", "_law_image"] "_law_names_right" (defScope st_names_right) f cdv A outer s H E Fm S R) [some (.fz (rS one1)), some (.fz (rS other2)), some (.fz ((rL (rEx K)) told11)), none, none] (List.drop 1 (defBody st_names_right)) (bnd (bnd (bnd (bnd (bnd (ret told11) fun v12 => bnd (ret (0 : Int)) fun v13 => opt (atI v12 v13)) fun v14 => bnd (ret (0 : Int)) fun v15 => own_m v14 v15) fun v16 => ret (!v16)) fun v34 => if v34 then ret true else (bnd (bnd (bnd (bnd (ret told11) fun v17 => bnd (ret (1 : Int)) fun v18 => opt (atI v17 v18)) fun v19 => bnd (ret (1 : Int)) fun v20 => own_m v19 v20) fun v21 => ret (!v21)) fun v33 => if v33 then ret true else (bnd (bnd (bnd (bnd (ret told11) fun v22 => bnd (ret (2 : Int)) fun v23 => opt (atI v22 v23)) fun v24 => bnd (ret (3 : Int)) fun v25 => own_m v24 v25) fun v26 => ret (!v26)) fun v32 => if v32 then ret true else (bnd (bnd (bnd (ret told11) fun v27 => bnd (ret (3 : Int)) fun v28 => opt (atI v27 v28)) fun v29 => bnd (ret (20 : Int)) fun v30 => own_m v29 v30) fun v31 => ret (!v31))))) fun v35 => if v35 then (bnd (ret false) fun v36 => ret (.rt v36)) else (bnd (bnd (ret one1) fun v37 => bnd (ret other2) fun v38 => ret (("Unchained", [("source", Dt.str v38), ("target", Dt.str v37)]) : Xv)) fun pair39 => bnd (bnd (ret one1) fun v40 => bnd (ret ("after" : Str)) fun v41 => bnd (ret other2) fun v42 => ret (("InvalidImage", [("column", Dt.str v42), ("side", Dt.str v41), ("kind", Dt.str v40)]) : Xv)) fun image43 => bnd (bnd (bnd (bnd (ret pair39) fun v44 => bnd (ret (13 : Int)) fun v45 => own_m v44 v45) fun v46 => ret (!v46)) fun v63 => if v63 then ret true else (bnd (bnd (bnd (ret image43) fun v47 => bnd (ret (4 : Int)) fun v48 => own_m v47 v48) fun v49 => ret (!v49)) fun v62 => if v62 then ret true else (bnd (bnd (bnd (ret pair39) fun v54 => bnd (grd (List.contains [("Unchained" : Str)] v54.1)) fun _ => getS v54.2 "target") fun v56 => bnd (bnd (ret pair39) fun v55 => bnd (grd (List.contains [("Unchained" : Str)] v55.1)) fun _ => getS v55.2 "source") fun v57 => ret (v56, v57)) fun v60 => bnd (bnd (ret one1) fun v58 => bnd (ret other2) fun v59 => ret (v58, v59)) fun v61 => neM (fun (x : Str × Str) => PyData.strOk (x.1) && PyData.strOk (x.2)) v60 v61))) fun v64 => if v64 then (bnd (ret false) fun v65 => ret (.rt v65)) else (bnd (bnd (bnd (bnd (bnd (ret told11) fun v82 => bnd (ret (0 : Int)) fun v83 => opt (atI v82 v83)) fun v84 => bnd (grd (List.contains [("InvalidColumn" : Str), ("InvalidKind" : Str), ("UnknownName" : Str)] v84.1)) fun _ => getS v84.2 "name") fun v94 => bnd (bnd (bnd (ret told11) fun v85 => bnd (ret (1 : Int)) fun v86 => opt (atI v85 v86)) fun v87 => bnd (grd (List.contains [("InvalidColumn" : Str), ("InvalidKind" : Str), ("UnknownName" : Str)] v87.1)) fun _ => getS v87.2 "name") fun v95 => bnd (bnd (bnd (ret told11) fun v88 => bnd (ret (2 : Int)) fun v89 => opt (atI v88 v89)) fun v90 => bnd (grd (List.contains [("InvalidColumn" : Str), ("InvalidKind" : Str), ("UnknownName" : Str)] v90.1)) fun _ => getS v90.2 "name") fun v96 => bnd (bnd (bnd (ret told11) fun v91 => bnd (ret (3 : Int)) fun v92 => opt (atI v91 v92)) fun v93 => bnd (grd (List.contains [("WrongState" : Str), ("OneWay" : Str)] v93.1)) fun _ => getS v93.2 "state") fun v97 => ret [v94, v95, v96, v97]) fun v101 => bnd (bnd (bnd (ret one1) fun v98 => ret [v98]) fun v99 => bnd (ret (4 : Int)) fun v100 => lrepM v99 v100) fun v102 => neM (fun xs => List.all xs PyData.strOk) v101 v102) fun v103 => if v103 then (bnd (ret false) fun v104 => ret (.rt v104)) else (bnd (bnd (bnd (bnd (ret image43) fun v111 => bnd (grd (List.contains [("InvalidImage" : Str), ("InvalidValues" : Str)] v111.1)) fun _ => getS v111.2 "kind") fun v114 => bnd (bnd (ret image43) fun v112 => bnd (grd (List.contains [("InvalidImage" : Str)] v112.1)) fun _ => getS v112.2 "side") fun v115 => bnd (bnd (ret image43) fun v113 => bnd (grd (List.contains [("InvalidImage" : Str)] v113.1)) fun _ => getS v113.2 "column") fun v116 => ret (v114, v115, v116)) fun v120 => bnd (bnd (ret one1) fun v117 => bnd (ret ("after" : Str)) fun v118 => bnd (ret other2) fun v119 => ret (v117, v118, v119)) fun v121 => eqM (fun (x : Str × Str × Str) => PyData.strOk (x.1) && (PyData.strOk (x.2.1) && (PyData.strOk (x.2.2)))) v120 v121) fun v122 => ret (.rt v122)))) : M S (Fl Unit Empty Bool)) (fun _ => []) (fun e => nomatch e) (.fz rB) := (jb_ifR (JW.jt (jw_or (jt_not (jt_val (je_call z C_own hr ⟨⟩ (ja_cons (je_ixL (je_var (r := (rL (rEx K))) (x := told11) 2 rfl (pv 2)) je_int) (ja_cons je_int ja_nil))))) (jw_or (jt_not (jt_val (je_call z C_own hr ⟨⟩ (ja_cons (je_ixL (je_var (r := (rL (rEx K))) (x := told11) 2 rfl (pv 2)) je_int) (ja_cons je_int ja_nil))))) (jw_or (jt_not (jt_val (je_call z C_own hr ⟨⟩ (ja_cons (je_ixL (je_var (r := (rL (rEx K))) (x := told11) 2 rfl (pv 2)) je_int) (ja_cons je_int ja_nil))))) (jw_or1 (jt_not (jt_val (je_call z C_own hr ⟨⟩ (ja_cons (je_ixL (je_var (r := (rL (rEx K))) (x := told11) 2 rfl (pv 2)) je_int) (ja_cons je_int ja_nil)))))))))) (jb_cx (Γ2 := [some (.fz (rS one1)), some (.fz (rS other2)), some (.fz ((rL (rEx K)) told11)), none, none]) (jb_one (js_ret je_bl))) (by repeat' first | exact nn_rai | exact nn_rt | exact nn_rse | exact nn_ct | exact nn_bk | exact nn_stk | refine nn_if ?_ ?_ | (refine nn_bnd ?_; intro _) | (refine nn_then ?_; intro _)) (jb_cx (Γ2 := [some (.fz (rS one1)), some (.fz (rS other2)), some (.fz ((rL (rEx K)) told11)), none, none]) (cut_names_right_4 T X_InvalidColumn X_InvalidKind X_UnknownName X_OneWay C_own X_Unchained X_InvalidImage hr z hu hu1 one1 other2 told11)))
theorem ok_names_right {P : Program} {w : World} {K : PySem.W.Frag} {mg : Str → Option Value} {base : Heap} {f : Addr} {fd : FuncData} (F : FnP K "_law_names_right" "_law_names_right" st_names_right [] [] f fd) (T : Txt K mg) (X_InvalidColumn : XnC P w K mg base "InvalidColumn" ["name"] 1) (X_InvalidKind : XnC P w K mg base "InvalidKind" ["name"] 1) (X_UnknownName : XnC P w K mg base "UnknownName" ["name"] 1) (X_OneWay : XnC P w K mg base "OneWay" ["state"] 1) (C_own : FnC P w K mg base "_law_own" 2 (sp_own K mg)) (X_Unchained : XnC P w K mg base "Unchained" ["target", "source"] 1) (X_InvalidImage : XnC P w K mg base "InvalidImage" ["kind", "side", "column"] 1) : FnOk P w K mg base (L2.CX P w) 3 f fd ["_law_one", "_law_other"] (sp_names_right K mg) := by
  refine fn_mk (k := 2) (mb := fun S R c y => names_right_mb y.1 y.2.1) (Γ0 := fun S R c y => [some (.fz (rS y.1)), some (.fz (rS y.2.1)), none, none, none]) (Γ' := fun _ => []) (Γb := fun e => nomatch e) F sc_names_right (fun S R c y vs G h => (len_raC (len_raC len_raN)) h) (fun _ _ _ _ => rfl) (fun S R c y vs G h => (so_raC (so_raC (so_raN (n := 3)))) h) (fun _ _ _ _ => by exact Nat.le_of_ble_eq_true rfl) (by exact Nat.le_of_ble_eq_true rfl) ?_
  intro cdv A outer s H E Fm S R cp y hr z
  have hu := DL.Room.hu hr
  have hu1 := DL.Room.hu1 hr
  obtain ⟨one1, other2, _⟩ := y
  exact JB.eq (m := (bnd (bnd (bnd (ret one1) fun v3 => ret (("InvalidColumn", [("name", Dt.str v3)]) : Xv)) fun v7 => bnd (bnd (ret one1) fun v4 => ret (("InvalidKind", [("name", Dt.str v4)]) : Xv)) fun v8 => bnd (bnd (ret one1) fun v5 => ret (("UnknownName", [("name", Dt.str v5)]) : Xv)) fun v9 => bnd (bnd (ret one1) fun v6 => ret (("OneWay", [("state", Dt.str v6)]) : Xv)) fun v10 => ret [v7, v8, v9, v10]) fun told11 => bnd (bnd (bnd (bnd (bnd (ret told11) fun v12 => bnd (ret (0 : Int)) fun v13 => opt (atI v12 v13)) fun v14 => bnd (ret (0 : Int)) fun v15 => own_m v14 v15) fun v16 => ret (!v16)) fun v34 => if v34 then ret true else (bnd (bnd (bnd (bnd (ret told11) fun v17 => bnd (ret (1 : Int)) fun v18 => opt (atI v17 v18)) fun v19 => bnd (ret (1 : Int)) fun v20 => own_m v19 v20) fun v21 => ret (!v21)) fun v33 => if v33 then ret true else (bnd (bnd (bnd (bnd (ret told11) fun v22 => bnd (ret (2 : Int)) fun v23 => opt (atI v22 v23)) fun v24 => bnd (ret (3 : Int)) fun v25 => own_m v24 v25) fun v26 => ret (!v26)) fun v32 => if v32 then ret true else (bnd (bnd (bnd (ret told11) fun v27 => bnd (ret (3 : Int)) fun v28 => opt (atI v27 v28)) fun v29 => bnd (ret (20 : Int)) fun v30 => own_m v29 v30) fun v31 => ret (!v31))))) fun v35 => if v35 then (bnd (ret false) fun v36 => ret (.rt v36)) else (bnd (bnd (ret one1) fun v37 => bnd (ret other2) fun v38 => ret (("Unchained", [("source", Dt.str v38), ("target", Dt.str v37)]) : Xv)) fun pair39 => bnd (bnd (ret one1) fun v40 => bnd (ret ("after" : Str)) fun v41 => bnd (ret other2) fun v42 => ret (("InvalidImage", [("column", Dt.str v42), ("side", Dt.str v41), ("kind", Dt.str v40)]) : Xv)) fun image43 => bnd (bnd (bnd (bnd (ret pair39) fun v44 => bnd (ret (13 : Int)) fun v45 => own_m v44 v45) fun v46 => ret (!v46)) fun v63 => if v63 then ret true else (bnd (bnd (bnd (ret image43) fun v47 => bnd (ret (4 : Int)) fun v48 => own_m v47 v48) fun v49 => ret (!v49)) fun v62 => if v62 then ret true else (bnd (bnd (bnd (ret pair39) fun v54 => bnd (grd (List.contains [("Unchained" : Str)] v54.1)) fun _ => getS v54.2 "target") fun v56 => bnd (bnd (ret pair39) fun v55 => bnd (grd (List.contains [("Unchained" : Str)] v55.1)) fun _ => getS v55.2 "source") fun v57 => ret (v56, v57)) fun v60 => bnd (bnd (ret one1) fun v58 => bnd (ret other2) fun v59 => ret (v58, v59)) fun v61 => neM (fun (x : Str × Str) => PyData.strOk (x.1) && PyData.strOk (x.2)) v60 v61))) fun v64 => if v64 then (bnd (ret false) fun v65 => ret (.rt v65)) else (bnd (bnd (bnd (bnd (bnd (ret told11) fun v82 => bnd (ret (0 : Int)) fun v83 => opt (atI v82 v83)) fun v84 => bnd (grd (List.contains [("InvalidColumn" : Str), ("InvalidKind" : Str), ("UnknownName" : Str)] v84.1)) fun _ => getS v84.2 "name") fun v94 => bnd (bnd (bnd (ret told11) fun v85 => bnd (ret (1 : Int)) fun v86 => opt (atI v85 v86)) fun v87 => bnd (grd (List.contains [("InvalidColumn" : Str), ("InvalidKind" : Str), ("UnknownName" : Str)] v87.1)) fun _ => getS v87.2 "name") fun v95 => bnd (bnd (bnd (ret told11) fun v88 => bnd (ret (2 : Int)) fun v89 => opt (atI v88 v89)) fun v90 => bnd (grd (List.contains [("InvalidColumn" : Str), ("InvalidKind" : Str), ("UnknownName" : Str)] v90.1)) fun _ => getS v90.2 "name") fun v96 => bnd (bnd (bnd (ret told11) fun v91 => bnd (ret (3 : Int)) fun v92 => opt (atI v91 v92)) fun v93 => bnd (grd (List.contains [("WrongState" : Str), ("OneWay" : Str)] v93.1)) fun _ => getS v93.2 "state") fun v97 => ret [v94, v95, v96, v97]) fun v101 => bnd (bnd (bnd (ret one1) fun v98 => ret [v98]) fun v99 => bnd (ret (4 : Int)) fun v100 => lrepM v99 v100) fun v102 => neM (fun xs => List.all xs PyData.strOk) v101 v102) fun v103 => if v103 then (bnd (ret false) fun v104 => ret (.rt v104)) else (bnd (bnd (bnd (bnd (ret image43) fun v111 => bnd (grd (List.contains [("InvalidImage" : Str), ("InvalidValues" : Str)] v111.1)) fun _ => getS v111.2 "kind") fun v114 => bnd (bnd (ret image43) fun v112 => bnd (grd (List.contains [("InvalidImage" : Str)] v112.1)) fun _ => getS v112.2 "side") fun v115 => bnd (bnd (ret image43) fun v113 => bnd (grd (List.contains [("InvalidImage" : Str)] v113.1)) fun _ => getS v113.2 "column") fun v116 => ret (v114, v115, v116)) fun v120 => bnd (bnd (ret one1) fun v117 => bnd (ret ("after" : Str)) fun v118 => bnd (ret other2) fun v119 => ret (v117, v118, v119)) fun v121 => eqM (fun (x : Str × Str × Str) => PyData.strOk (x.1) && (PyData.strOk (x.2.1) && (PyData.strOk (x.2.2)))) v120 v121) fun v122 => ret (.rt v122)))) : M S (Fl Unit Empty Bool))) (jb_cx (Γ2 := [some (.fz (rS one1)), some (.fz (rS other2)), none, none, none]) (jb_set (i := 2) z rfl (by first | exact .inl rfl | exact .inr rfl) (je_frzL (je_list (jl_cons (JE.eqm (je_mkV (ρ := .fz (rEx K)) z X_InvalidColumn hr (ja_cons (je_var (r := rS) (x := one1) 0 rfl (pv 0)) ja_nil) T.vg_InvalidColumn (rEx K) (fun y => ("InvalidColumn", [("name", Dt.str y.1)])) (xv_dt (xd1 "name" Dt.str dt_s))) rfl) (jl_cons (JE.eqm (je_mkV (ρ := .fz (rEx K)) z X_InvalidKind hr (ja_cons (je_var (r := rS) (x := one1) 0 rfl (pv 0)) ja_nil) T.vg_InvalidKind (rEx K) (fun y => ("InvalidKind", [("name", Dt.str y.1)])) (xv_dt (xd1 "name" Dt.str dt_s))) rfl) (jl_cons (JE.eqm (je_mkV (ρ := .fz (rEx K)) z X_UnknownName hr (ja_cons (je_var (r := rS) (x := one1) 0 rfl (pv 0)) ja_nil) T.vg_UnknownName (rEx K) (fun y => ("UnknownName", [("name", Dt.str y.1)])) (xv_dt (xd1 "name" Dt.str dt_s))) rfl) (jl_cons (JE.eqm (je_mkV (ρ := .fz (rEx K)) z X_OneWay hr (ja_cons (je_var (r := rS) (x := one1) 0 rfl (pv 0)) ja_nil) T.vg_OneWay (rEx K) (fun y => ("OneWay", [("state", Dt.str y.1)])) (xv_dt (xd1 "state" Dt.str dt_s))) rfl) (jl_nil (r := (rEx K))))))))) (fun told11 => (jb_cx (Γ2 := [some (.fz (rS one1)), some (.fz (rS other2)), some (.fz ((rL (rEx K)) told11)), none, none]) (cut_names_right_5 T X_InvalidColumn X_InvalidKind X_UnknownName X_OneWay C_own X_Unchained X_InvalidImage hr z hu hu1 one1 other2 told11))))) (by simp only [ret_bnd, rdM_some, raiM_rse, names_right_mb])
abbrev st_numbers_right : Stmt := (top 30)
theorem sc_numbers_right : FnScope ["_law_key", "_law_name", "_law_one", "_law_other", "_law_told", "_law_parts", "_law_state", "_law_values"] ["_law_key", "_law_name", "_law_one", "_law_other"] (defScope st_numbers_right) := ⟨rfl, rfl, rfl, by decide +kernel, rfl, by decide +kernel, by decide +kernel⟩
def numbers_right_mb {S : Type} (key1 : Int) (name2 : Str) (one3 : Int) (other4 : Int) : M S (Fl Unit Empty Bool) := bnd (bnd (bnd (bnd (opt (atI [(("NoRow", [("key", Dt.int key1)]) : Xv), (("NoMoment", [("moment", Dt.int one3)]) : Xv), (("InvalidRecord", [("index", Dt.int one3)]) : Xv), (("BadEntry", [("index", Dt.int other4)]) : Xv), (("BadPicture", [("number", Dt.int one3)]) : Xv)] (0 : Int))) fun v18 => own_m v18 (10 : Int)) fun v20 => ret (!v20)) fun v32 => if v32 then ret true else (bnd (bnd (bnd (opt (atI [(("NoRow", [("key", Dt.int key1)]) : Xv), (("NoMoment", [("moment", Dt.int one3)]) : Xv), (("InvalidRecord", [("index", Dt.int one3)]) : Xv), (("BadEntry", [("index", Dt.int other4)]) : Xv), (("BadPicture", [("number", Dt.int one3)]) : Xv)] (1 : Int))) fun v23 => own_m v23 (11 : Int)) fun v25 => ret (!v25)) fun v31 => if v31 then ret true else (bnd (bnd (opt (atI [(("NoRow", [("key", Dt.int key1)]) : Xv), (("NoMoment", [("moment", Dt.int one3)]) : Xv), (("InvalidRecord", [("index", Dt.int one3)]) : Xv), (("BadEntry", [("index", Dt.int other4)]) : Xv), (("BadPicture", [("number", Dt.int one3)]) : Xv)] (2 : Int))) fun v28 => own_m v28 (12 : Int)) fun v30 => ret (!v30)))) fun v33 => if v33 then (ret (.rt false)) else (bnd (bnd (bnd (bnd (opt (atI [(("NoRow", [("key", Dt.int key1)]) : Xv), (("NoMoment", [("moment", Dt.int one3)]) : Xv), (("InvalidRecord", [("index", Dt.int one3)]) : Xv), (("BadEntry", [("index", Dt.int other4)]) : Xv), (("BadPicture", [("number", Dt.int one3)]) : Xv)] (3 : Int))) fun v37 => own_m v37 (14 : Int)) fun v39 => ret (!v39)) fun v45 => if v45 then ret true else (bnd (bnd (opt (atI [(("NoRow", [("key", Dt.int key1)]) : Xv), (("NoMoment", [("moment", Dt.int one3)]) : Xv), (("InvalidRecord", [("index", Dt.int one3)]) : Xv), (("BadEntry", [("index", Dt.int other4)]) : Xv), (("BadPicture", [("number", Dt.int one3)]) : Xv)] (4 : Int))) fun v42 => own_m v42 (15 : Int)) fun v44 => ret (!v44))) fun v46 => if v46 then (ret (.rt false)) else (bnd (bnd (bnd (opt (atI [(("NoRow", [("key", Dt.int key1)]) : Xv), (("NoMoment", [("moment", Dt.int one3)]) : Xv), (("InvalidRecord", [("index", Dt.int one3)]) : Xv), (("BadEntry", [("index", Dt.int other4)]) : Xv), (("BadPicture", [("number", Dt.int one3)]) : Xv)] (0 : Int))) fun v50 => bnd (grd (List.contains [("WrongState" : Str), ("InvalidValues" : Str), ("NoRow" : Str), ("BrokenChain" : Str), ("UnlikeImages" : Str)] v50.1)) fun _ => getI v50.2 "key") fun v63 => bnd (bnd (opt (atI [(("NoRow", [("key", Dt.int key1)]) : Xv), (("NoMoment", [("moment", Dt.int one3)]) : Xv), (("InvalidRecord", [("index", Dt.int one3)]) : Xv), (("BadEntry", [("index", Dt.int other4)]) : Xv), (("BadPicture", [("number", Dt.int one3)]) : Xv)] (1 : Int))) fun v53 => bnd (grd (List.contains [("NoMoment" : Str)] v53.1)) fun _ => getI v53.2 "moment") fun v64 => bnd (bnd (opt (atI [(("NoRow", [("key", Dt.int key1)]) : Xv), (("NoMoment", [("moment", Dt.int one3)]) : Xv), (("InvalidRecord", [("index", Dt.int one3)]) : Xv), (("BadEntry", [("index", Dt.int other4)]) : Xv), (("BadPicture", [("number", Dt.int one3)]) : Xv)] (2 : Int))) fun v56 => bnd (grd (List.contains [("InvalidRecord" : Str), ("BadEntry" : Str), ("BrokenChain" : Str), ("UnlikeImages" : Str)] v56.1)) fun _ => getI v56.2 "index") fun v65 => bnd (bnd (opt (atI [(("NoRow", [("key", Dt.int key1)]) : Xv), (("NoMoment", [("moment", Dt.int one3)]) : Xv), (("InvalidRecord", [("index", Dt.int one3)]) : Xv), (("BadEntry", [("index", Dt.int other4)]) : Xv), (("BadPicture", [("number", Dt.int one3)]) : Xv)] (3 : Int))) fun v59 => bnd (grd (List.contains [("InvalidRecord" : Str), ("BadEntry" : Str), ("BrokenChain" : Str), ("UnlikeImages" : Str)] v59.1)) fun _ => getI v59.2 "index") fun v66 => bnd (bnd (opt (atI [(("NoRow", [("key", Dt.int key1)]) : Xv), (("NoMoment", [("moment", Dt.int one3)]) : Xv), (("InvalidRecord", [("index", Dt.int one3)]) : Xv), (("BadEntry", [("index", Dt.int other4)]) : Xv), (("BadPicture", [("number", Dt.int one3)]) : Xv)] (4 : Int))) fun v62 => bnd (grd (List.contains [("BadPicture" : Str)] v62.1)) fun _ => getI v62.2 "number") fun v67 => ret (v63, v64, v65, v66, v67)) fun parts68 => bnd (neM (fun (x : Int × Int × Int × Int × Int) => (fun _ => true) (x.1) && ((fun _ => true) (x.2.1) && ((fun _ => true) (x.2.2.1) && ((fun _ => true) (x.2.2.2.1) && ((fun _ => true) (x.2.2.2.2)))))) parts68 (key1, one3, one3, other4, one3)) fun v76 => if v76 then (ret (.rt false)) else (bnd (bnd (bnd (own_m (("WrongState", [("state", Dt.str name2), ("key", Dt.int key1)]) : Xv) (6 : Int)) fun v86 => ret (!v86)) fun v103 => if v103 then ret true else (bnd (bnd (own_m (("InvalidValues", [("kind", Dt.str name2), ("key", Dt.int key1)]) : Xv) (7 : Int)) fun v89 => ret (!v89)) fun v102 => if v102 then ret true else (bnd (bnd (bnd (grd (List.contains [("WrongState" : Str), ("InvalidValues" : Str), ("NoRow" : Str), ("BrokenChain" : Str), ("UnlikeImages" : Str)] (("WrongState", [("state", Dt.str name2), ("key", Dt.int key1)]) : Xv).1)) fun _ => getI (("WrongState", [("state", Dt.str name2), ("key", Dt.int key1)]) : Xv).2 "key") fun v96 => bnd (bnd (grd (List.contains [("WrongState" : Str), ("OneWay" : Str)] (("WrongState", [("state", Dt.str name2), ("key", Dt.int key1)]) : Xv).1)) fun _ => getS (("WrongState", [("state", Dt.str name2), ("key", Dt.int key1)]) : Xv).2 "state") fun v97 => ret (v96, v97)) fun v100 => neM (fun (x : Int × Str) => (fun _ => true) (x.1) && PyData.strOk (x.2)) v100 (key1, name2)))) fun v104 => if v104 then (ret (.rt false)) else (bnd (bnd (bnd (bnd (grd (List.contains [("WrongState" : Str), ("InvalidValues" : Str), ("NoRow" : Str), ("BrokenChain" : Str), ("UnlikeImages" : Str)] (("InvalidValues", [("kind", Dt.str name2), ("key", Dt.int key1)]) : Xv).1)) fun _ => getI (("InvalidValues", [("kind", Dt.str name2), ("key", Dt.int key1)]) : Xv).2 "key") fun v112 => bnd (bnd (grd (List.contains [("InvalidImage" : Str), ("InvalidValues" : Str)] (("InvalidValues", [("kind", Dt.str name2), ("key", Dt.int key1)]) : Xv).1)) fun _ => getS (("InvalidValues", [("kind", Dt.str name2), ("key", Dt.int key1)]) : Xv).2 "kind") fun v113 => ret (v112, v113)) fun v116 => eqM (fun (x : Int × Str) => (fun _ => true) (x.1) && PyData.strOk (x.2)) v116 (key1, name2)) fun v118 => ret (.rt v118)))))
def numbers_right_m {S : Type} (key1 : Int) (name2 : Str) (one3 : Int) (other4 : Int) : M S Bool := runF (numbers_right_mb key1 name2 one3 other4)
abbrev ra_numbers_right (K : PySem.W.Frag) (S : Type) (R : S → MP Hp) (c : NoCap S R) : Int × Str × Int × Int × Unit → List V → Hp → Prop := (raC rI (raC rS (raC rI (raC rI raN))))
abbrev f_numbers_right (S : Type) (R : S → MP Hp) (c : NoCap S R) (y : Int × Str × Int × Int × Unit) : M S Bool := numbers_right_m y.1 y.2.1 y.2.2.1 y.2.2.2.1
abbrev sp_numbers_right (K : PySem.W.Frag) (mg : Str → Option Value) : Sp := spC mg (ra_numbers_right K) (.fz rB) f_numbers_right
theorem cut_numbers_right_0 {P : Program} {w : World} {K : PySem.W.Frag} {mg : Str → Option Value} {base : Heap} {f : Addr} {cdv : Value} {A : Around} {outer : List Env} {s : Shared} {H : Hp} {E : XK} {Fm : Fm} {S : Type} {R : S → MP Hp} (T : Txt K mg) (X_NoRow : XnC P w K mg base "NoRow" ["key"] 1) (X_NoMoment : XnC P w K mg base "NoMoment" ["moment"] 1) (X_InvalidRecord : XnC P w K mg base "InvalidRecord" ["index"] 1) (X_BadEntry : XnC P w K mg base "BadEntry" ["index"] 1) (X_BadPicture : XnC P w K mg base "BadPicture" ["number"] 1) (C_own : FnC P w K mg base "_law_own" 2 (sp_own K mg)) (X_WrongState : XnC P w K mg base "WrongState" ["key", "state"] 1) (X_InvalidValues : XnC P w K mg base "InvalidValues" ["key", "kind"] 1) (hr : Room 2 (A.deeper (envOfC "_law_numbers_right" (defScope st_numbers_right) s.heap.objs.size f cdv))) (z : ZOk (ZF P w K mg base ["_law_key", "_law_name", "_law_one", "_law_other", "_law_told", "_law_parts", "_law_state", "_law_values"] "_law_numbers_right" (defScope st_numbers_right) f cdv A outer s H E Fm S R)) (hu : (A.deeper (envOfC "_law_numbers_right" (defScope st_numbers_right) s.heap.objs.size f cdv)).units + 65 < cLine) (hu1 : (A.deeper (envOfC "_law_numbers_right" (defScope st_numbers_right) s.heap.objs.size f cdv)).units + 1 < cLine) (key1 : Int) (name2 : Str) (one3 : Int) (other4 : Int) (told15 : List Xv) (parts68 : Int × Int × Int × Int × Int) (state80 : Xv) (values83 : Xv) : JB (ZF P w K mg base ["_law_key", "_law_name", "_law_one", "_law_other", "_law_told", "_law_parts", "_law_state", "_law_values"] "_law_numbers_right" (defScope st_numbers_right) f cdv A outer s H E Fm S R) [some (.fz (rI key1)), some (.fz (rS name2)), some (.fz (rI one3)), some (.fz (rI other4)), some (.fz ((rL (rEx K)) told15)), some (.fz ((rT5 K rI rI rI rI rI) parts68)), some (.fz ((rEx K) state80)), some (.fz ((rEx K) values83))] (List.drop 8 (defBody st_numbers_right)) (bnd (bnd (bnd (bnd (ret values83) fun v110 => bnd (grd (List.contains [("WrongState" : Str), ("InvalidValues" : Str), ("NoRow" : Str), ("BrokenChain" : Str), ("UnlikeImages" : Str)] v110.1)) fun _ => getI v110.2 "key") fun v112 => bnd (bnd (ret values83) fun v111 => bnd (grd (List.contains [("InvalidImage" : Str), ("InvalidValues" : Str)] v111.1)) fun _ => getS v111.2 "kind") fun v113 => ret (v112, v113)) fun v116 => bnd (bnd (ret key1) fun v114 => bnd (ret name2) fun v115 => ret (v114, v115)) fun v117 => eqM (fun (x : Int × Str) => (fun _ => true) (x.1) && PyData.strOk (x.2)) v116 v117) fun v118 => ret (.rt v118) : M S (Fl Unit Empty Bool)) (fun _ => []) (fun e => nomatch e) (.fz rB) := (jb_one (js_ret (je_eqD (dT2 dI dS) (by decide) hu (je_tup2 (ja_cons (je_xvI (cs := ["WrongState", "InvalidValues", "NoRow", "BrokenChain", "UnlikeImages"]) (je_var (r := (rEx K)) (x := values83) 7 rfl (pv 7)) T.vf_key) (ja_cons (je_xvS (cs := ["InvalidImage", "InvalidValues"]) (je_var (r := (rEx K)) (x := values83) 7 rfl (pv 7)) T.vf_kind) ja_nil))) (je_tup2 (ja_cons (je_var (r := rI) (x := key1) 0 rfl (pv 0)) (ja_cons (je_var (r := rS) (x := name2) 1 rfl (pv 1)) ja_nil))))))
theorem cut_numbers_right_1 {P : Program} {w : World} {K : PySem.W.Frag} {mg : Str → Option Value} {base : Heap} {f : Addr} {cdv : Value} {A : Around} {outer : List Env} {s : Shared} {H : Hp} {E : XK} {Fm : Fm} {S : Type} {R : S → MP Hp} (T : Txt K mg) (X_NoRow : XnC P w K mg base "NoRow" ["key"] 1) (X_NoMoment : XnC P w K mg base "NoMoment" ["moment"] 1) (X_InvalidRecord : XnC P w K mg base "InvalidRecord" ["index"] 1) (X_BadEntry : XnC P w K mg base "BadEntry" ["index"] 1) (X_BadPicture : XnC P w K mg base "BadPicture" ["number"] 1) (C_own : FnC P w K mg base "_law_own" 2 (sp_own K mg)) (X_WrongState : XnC P w K mg base "WrongState" ["key", "state"] 1) (X_InvalidValues : XnC P w K mg base "InvalidValues" ["key", "kind"] 1) (hr : Room 2 (A.deeper (envOfC "_law_numbers_right" (defScope st_numbers_right) s.heap.objs.size f cdv))) (z : ZOk (ZF P w K mg base ["_law_key", "_law_name", "_law_one", "_law_other", "_law_told", "_law_parts", "_law_state", "_law_values"] "_law_numbers_right" (defScope st_numbers_right) f cdv A outer s H E Fm S R)) (hu : (A.deeper (envOfC "_law_numbers_right" (defScope st_numbers_right) s.heap.objs.size f cdv)).units + 65 < cLine) (hu1 : (A.deeper (envOfC "_law_numbers_right" (defScope st_numbers_right) s.heap.objs.size f cdv)).units + 1 < cLine) (key1 : Int) (name2 : Str) (one3 : Int) (other4 : Int) (told15 : List Xv) (parts68 : Int × Int × Int × Int × Int) (state80 : Xv) (values83 : Xv) : JB (ZF P w K mg base ["_law_key", "_law_name", "_law_one", "_law_other", "_law_told", "_law_parts", "_law_state", "_law_values"] "_law_numbers_right" (defScope st_numbers_right) f cdv A outer s H E Fm S R) [some (.fz (rI key1)), some (.fz (rS name2)), some (.fz (rI one3)), some (.fz (rI other4)), some (.fz ((rL (rEx K)) told15)), some (.fz ((rT5 K rI rI rI rI rI) parts68)), some (.fz ((rEx K) state80)), some (.fz ((rEx K) values83))] (List.drop 7 (defBody st_numbers_right)) (bnd (bnd (bnd (bnd (ret state80) fun v84 => bnd (ret (6 : Int)) fun v85 => own_m v84 v85) fun v86 => ret (!v86)) fun v103 => if v103 then ret true else (bnd (bnd (bnd (ret values83) fun v87 => bnd (ret (7 : Int)) fun v88 => own_m v87 v88) fun v89 => ret (!v89)) fun v102 => if v102 then ret true else (bnd (bnd (bnd (ret state80) fun v94 => bnd (grd (List.contains [("WrongState" : Str), ("InvalidValues" : Str), ("NoRow" : Str), ("BrokenChain" : Str), ("UnlikeImages" : Str)] v94.1)) fun _ => getI v94.2 "key") fun v96 => bnd (bnd (ret state80) fun v95 => bnd (grd (List.contains [("WrongState" : Str), ("OneWay" : Str)] v95.1)) fun _ => getS v95.2 "state") fun v97 => ret (v96, v97)) fun v100 => bnd (bnd (ret key1) fun v98 => bnd (ret name2) fun v99 => ret (v98, v99)) fun v101 => neM (fun (x : Int × Str) => (fun _ => true) (x.1) && PyData.strOk (x.2)) v100 v101))) fun v104 => if v104 then (bnd (ret false) fun v105 => ret (.rt v105)) else (bnd (bnd (bnd (bnd (ret values83) fun v110 => bnd (grd (List.contains [("WrongState" : Str), ("InvalidValues" : Str), ("NoRow" : Str), ("BrokenChain" : Str), ("UnlikeImages" : Str)] v110.1)) fun _ => getI v110.2 "key") fun v112 => bnd (bnd (ret values83) fun v111 => bnd (grd (List.contains [("InvalidImage" : Str), ("InvalidValues" : Str)] v111.1)) fun _ => getS v111.2 "kind") fun v113 => ret (v112, v113)) fun v116 => bnd (bnd (ret key1) fun v114 => bnd (ret name2) fun v115 => ret (v114, v115)) fun v117 => eqM (fun (x : Int × Str) => (fun _ => true) (x.1) && PyData.strOk (x.2)) v116 v117) fun v118 => ret (.rt v118)) : M S (Fl Unit Empty Bool)) (fun _ => []) (fun e => nomatch e) (.fz rB) := (jb_ifR (JW.jt (jw_or (jt_not (jt_val (je_call z C_own hr ⟨⟩ (ja_cons (je_var (r := (rEx K)) (x := state80) 6 rfl (pv 6)) (ja_cons je_int ja_nil))))) (jw_or (jt_not (jt_val (je_call z C_own hr ⟨⟩ (ja_cons (je_var (r := (rEx K)) (x := values83) 7 rfl (pv 7)) (ja_cons je_int ja_nil))))) (jw_or1 (jt_neD (dT2 dI dS) (by decide) hu (je_tup2 (ja_cons (je_xvI (cs := ["WrongState", "InvalidValues", "NoRow", "BrokenChain", "UnlikeImages"]) (je_var (r := (rEx K)) (x := state80) 6 rfl (pv 6)) T.vf_key) (ja_cons (je_xvS (cs := ["WrongState", "OneWay"]) (je_var (r := (rEx K)) (x := state80) 6 rfl (pv 6)) T.vf_state) ja_nil))) (je_tup2 (ja_cons (je_var (r := rI) (x := key1) 0 rfl (pv 0)) (ja_cons (je_var (r := rS) (x := name2) 1 rfl (pv 1)) ja_nil)))))))) (jb_cx (Γ2 := [some (.fz (rI key1)), some (.fz (rS name2)), some (.fz (rI one3)), some (.fz (rI other4)), some (.fz ((rL (rEx K)) told15)), some (.fz ((rT5 K rI rI rI rI rI) parts68)), some (.fz ((rEx K) state80)), some (.fz ((rEx K) values83))]) (jb_one (js_ret je_bl))) (by repeat' first | exact nn_rai | exact nn_rt | exact nn_rse | exact nn_ct | exact nn_bk | exact nn_stk | refine nn_if ?_ ?_ | (refine nn_bnd ?_; intro _) | (refine nn_then ?_; intro _)) (jb_cx (Γ2 := [some (.fz (rI key1)), some (.fz (rS name2)), some (.fz (rI one3)), some (.fz (rI other4)), some (.fz ((rL (rEx K)) told15)), some (.fz ((rT5 K rI rI rI rI rI) parts68)), some (.fz ((rEx K) state80)), some (.fz ((rEx K) values83))]) (cut_numbers_right_0 T X_NoRow X_NoMoment X_InvalidRecord X_BadEntry X_BadPicture C_own X_WrongState X_InvalidValues hr z hu hu1 key1 name2 one3 other4 told15 parts68 state80 values83)))
theorem cut_numbers_right_2 {P : Program} {w : World} {K : PySem.W.Frag} {mg : Str → Option Value} {base : Heap} {f : Addr} {cdv : Value} {A : Around} {outer : List Env} {s : Shared} {H : Hp} {E : XK} {Fm : Fm} {S : Type} {R : S → MP Hp} (T : Txt K mg) (X_NoRow : XnC P w K mg base "NoRow" ["key"] 1) (X_NoMoment : XnC P w K mg base "NoMoment" ["moment"] 1) (X_InvalidRecord : XnC P w K mg base "InvalidRecord" ["index"] 1) (X_BadEntry : XnC P w K mg base "BadEntry" ["index"] 1) (X_BadPicture : XnC P w K mg base "BadPicture" ["number"] 1) (C_own : FnC P w K mg base "_law_own" 2 (sp_own K mg)) (X_WrongState : XnC P w K mg base "WrongState" ["key", "state"] 1) (X_InvalidValues : XnC P w K mg base "InvalidValues" ["key", "kind"] 1) (hr : Room 2 (A.deeper (envOfC "_law_numbers_right" (defScope st_numbers_right) s.heap.objs.size f cdv))) (z : ZOk (ZF P w K mg base ["_law_key", "_law_name", "_law_one", "_law_other", "_law_told", "_law_parts", "_law_state", "_law_values"] "_law_numbers_right" (defScope st_numbers_right) f cdv A outer s H E Fm S R)) (hu : (A.deeper (envOfC "_law_numbers_right" (defScope st_numbers_right) s.heap.objs.size f cdv)).units + 65 < cLine) (hu1 : (A.deeper (envOfC "_law_numbers_right" (defScope st_numbers_right) s.heap.objs.size f cdv)).units + 1 < cLine) (key1 : Int) (name2 : Str) (one3 : Int) (other4 : Int) (told15 : List Xv) (parts68 : Int × Int × Int × Int × Int) (state80 : Xv) : JB (ZF P w K mg base ["_law_key", "_law_name", "_law_one", "_law_other", "_law_told", "_law_parts", "_law_state", "_law_values"] "_law_numbers_right" (defScope st_numbers_right) f cdv A outer s H E Fm S R) [some (.fz (rI key1)), some (.fz (rS name2)), some (.fz (rI one3)), some (.fz (rI other4)), some (.fz ((rL (rEx K)) told15)), some (.fz ((rT5 K rI rI rI rI rI) parts68)), some (.fz ((rEx K) state80)), none] (List.drop 6 (defBody st_numbers_right)) (bnd (bnd (ret key1) fun v81 => bnd (ret name2) fun v82 => ret (("InvalidValues", [("kind", Dt.str v82), ("key", Dt.int v81)]) : Xv)) fun values83 => bnd (bnd (bnd (bnd (ret state80) fun v84 => bnd (ret (6 : Int)) fun v85 => own_m v84 v85) fun v86 => ret (!v86)) fun v103 => if v103 then ret true else (bnd (bnd (bnd (ret values83) fun v87 => bnd (ret (7 : Int)) fun v88 => own_m v87 v88) fun v89 => ret (!v89)) fun v102 => if v102 then ret true else (bnd (bnd (bnd (ret state80) fun v94 => bnd (grd (List.contains [("WrongState" : Str), ("InvalidValues" : Str), ("NoRow" : Str), ("BrokenChain" : Str), ("UnlikeImages" : Str)] v94.1)) fun _ => getI v94.2 "key") fun v96 => bnd (bnd (ret state80) fun v95 => bnd (grd (List.contains [("WrongState" : Str), ("OneWay" : Str)] v95.1)) fun _ => getS v95.2 "state") fun v97 => ret (v96, v97)) fun v100 => bnd (bnd (ret key1) fun v98 => bnd (ret name2) fun v99 => ret (v98, v99)) fun v101 => neM (fun (x : Int × Str) => (fun _ => true) (x.1) && PyData.strOk (x.2)) v100 v101))) fun v104 => if v104 then (bnd (ret false) fun v105 => ret (.rt v105)) else (bnd (bnd (bnd (bnd (ret values83) fun v110 => bnd (grd (List.contains [("WrongState" : Str), ("InvalidValues" : Str), ("NoRow" : Str), ("BrokenChain" : Str), ("UnlikeImages" : Str)] v110.1)) fun _ => getI v110.2 "key") fun v112 => bnd (bnd (ret values83) fun v111 => bnd (grd (List.contains [("InvalidImage" : Str), ("InvalidValues" : Str)] v111.1)) fun _ => getS v111.2 "kind") fun v113 => ret (v112, v113)) fun v116 => bnd (bnd (ret key1) fun v114 => bnd (ret name2) fun v115 => ret (v114, v115)) fun v117 => eqM (fun (x : Int × Str) => (fun _ => true) (x.1) && PyData.strOk (x.2)) v116 v117) fun v118 => ret (.rt v118)) : M S (Fl Unit Empty Bool)) (fun _ => []) (fun e => nomatch e) (.fz rB) := (jb_set (i := 7) z rfl (by first | exact .inl rfl | exact .inr rfl) (JE.eqm (je_mkV (ρ := .fz (rEx K)) z X_InvalidValues hr (ja_cons (je_var (r := rI) (x := key1) 0 rfl (pv 0)) (ja_cons (je_var (r := rS) (x := name2) 1 rfl (pv 1)) ja_nil)) T.vg_InvalidValues (rEx K) (fun y => ("InvalidValues", [("kind", Dt.str y.2.1), ("key", Dt.int y.1)])) (xv_dt (xd2 "key" "kind" Dt.int Dt.str dt_i dt_s))) rfl) (fun values83 => (jb_cx (Γ2 := [some (.fz (rI key1)), some (.fz (rS name2)), some (.fz (rI one3)), some (.fz (rI other4)), some (.fz ((rL (rEx K)) told15)), some (.fz ((rT5 K rI rI rI rI rI) parts68)), some (.fz ((rEx K) state80)), some (.fz ((rEx K) values83))]) (cut_numbers_right_1 T X_NoRow X_NoMoment X_InvalidRecord X_BadEntry X_BadPicture C_own X_WrongState X_InvalidValues hr z hu hu1 key1 name2 one3 other4 told15 parts68 state80 values83))))
theorem cut_numbers_right_3 {P : Program} {w : World} {K : PySem.W.Frag} {mg : Str → Option Value} {base : Heap} {f : Addr} {cdv : Value} {A : Around} {outer : List Env} {s : Shared} {H : Hp} {E : XK} {Fm : Fm} {S : Type} {R : S → MP Hp} (T : Txt K mg) (X_NoRow : XnC P w K mg base "NoRow" ["key"] 1) (X_NoMoment : XnC P w K mg base "NoMoment" ["moment"] 1) (X_InvalidRecord : XnC P w K mg base "InvalidRecord" ["index"] 1) (X_BadEntry : XnC P w K mg base "BadEntry" ["index"] 1) (X_BadPicture : XnC P w K mg base "BadPicture" ["number"] 1) (C_own : FnC P w K mg base "_law_own" 2 (sp_own K mg)) (X_WrongState : XnC P w K mg base "WrongState" ["key", "state"] 1) (X_InvalidValues : XnC P w K mg base "InvalidValues" ["key", "kind"] 1) (hr : Room 2 (A.deeper (envOfC "_law_numbers_right" (defScope st_numbers_right) s.heap.objs.size f cdv))) (z : ZOk (ZF P w K mg base ["_law_key", "_law_name", "_law_one", "_law_other", "_law_told", "_law_parts", "_law_state", "_law_values"] "_law_numbers_right" (defScope st_numbers_right) f cdv A outer s H E Fm S R)) (hu : (A.deeper (envOfC "_law_numbers_right" (defScope st_numbers_right) s.heap.objs.size f cdv)).units + 65 < cLine) (hu1 : (A.deeper (envOfC "_law_numbers_right" (defScope st_numbers_right) s.heap.objs.size f cdv)).units + 1 < cLine) (key1 : Int) (name2 : Str) (one3 : Int) (other4 : Int) (told15 : List Xv) (parts68 : Int × Int × Int × Int × Int) : JB (ZF P w K mg base ["_law_key", "_law_name", "_law_one", "_law_other", "_law_told", "_law_parts", "_law_state", "_law_values"] "_law_numbers_right" (defScope st_numbers_right) f cdv A outer s H E Fm S R) [some (.fz (rI key1)), some (.fz (rS name2)), some (.fz (rI one3)), some (.fz (rI other4)), some (.fz ((rL (rEx K)) told15)), some (.fz ((rT5 K rI rI rI rI rI) parts68)), none, none] (List.drop 5 (defBody st_numbers_right)) (bnd (bnd (ret key1) fun v78 => bnd (ret name2) fun v79 => ret (("WrongState", [("state", Dt.str v79), ("key", Dt.int v78)]) : Xv)) fun state80 => bnd (bnd (ret key1) fun v81 => bnd (ret name2) fun v82 => ret (("InvalidValues", [("kind", Dt.str v82), ("key", Dt.int v81)]) : Xv)) fun values83 => bnd (bnd (bnd (bnd (ret state80) fun v84 => bnd (ret (6 : Int)) fun v85 => own_m v84 v85) fun v86 => ret (!v86)) fun v103 => if v103 then ret true else (bnd (bnd (bnd (ret values83) fun v87 => bnd (ret (7 : Int)) fun v88 => own_m v87 v88) fun v89 => ret (!v89)) fun v102 => if v102 then ret true else (bnd (bnd (bnd (ret state80) fun v94 => bnd (grd (List.contains [("WrongState" : Str), ("InvalidValues" : Str), ("NoRow" : Str), ("BrokenChain" : Str), ("UnlikeImages" : Str)] v94.1)) fun _ => getI v94.2 "key") fun v96 => bnd (bnd (ret state80) fun v95 => bnd (grd (List.contains [("WrongState" : Str), ("OneWay" : Str)] v95.1)) fun _ => getS v95.2 "state") fun v97 => ret (v96, v97)) fun v100 => bnd (bnd (ret key1) fun v98 => bnd (ret name2) fun v99 => ret (v98, v99)) fun v101 => neM (fun (x : Int × Str) => (fun _ => true) (x.1) && PyData.strOk (x.2)) v100 v101))) fun v104 => if v104 then (bnd (ret false) fun v105 => ret (.rt v105)) else (bnd (bnd (bnd (bnd (ret values83) fun v110 => bnd (grd (List.contains [("WrongState" : Str), ("InvalidValues" : Str), ("NoRow" : Str), ("BrokenChain" : Str), ("UnlikeImages" : Str)] v110.1)) fun _ => getI v110.2 "key") fun v112 => bnd (bnd (ret values83) fun v111 => bnd (grd (List.contains [("InvalidImage" : Str), ("InvalidValues" : Str)] v111.1)) fun _ => getS v111.2 "kind") fun v113 => ret (v112, v113)) fun v116 => bnd (bnd (ret key1) fun v114 => bnd (ret name2) fun v115 => ret (v114, v115)) fun v117 => eqM (fun (x : Int × Str) => (fun _ => true) (x.1) && PyData.strOk (x.2)) v116 v117) fun v118 => ret (.rt v118)) : M S (Fl Unit Empty Bool)) (fun _ => []) (fun e => nomatch e) (.fz rB) := (jb_set (i := 6) z rfl (by first | exact .inl rfl | exact .inr rfl) (JE.eqm (je_mkV (ρ := .fz (rEx K)) z X_WrongState hr (ja_cons (je_var (r := rI) (x := key1) 0 rfl (pv 0)) (ja_cons (je_var (r := rS) (x := name2) 1 rfl (pv 1)) ja_nil)) T.vg_WrongState (rEx K) (fun y => ("WrongState", [("state", Dt.str y.2.1), ("key", Dt.int y.1)])) (xv_dt (xd2 "key" "state" Dt.int Dt.str dt_i dt_s))) rfl) (fun state80 => (jb_cx (Γ2 := [some (.fz (rI key1)), some (.fz (rS name2)), some (.fz (rI one3)), some (.fz (rI other4)), some (.fz ((rL (rEx K)) told15)), some (.fz ((rT5 K rI rI rI rI rI) parts68)), some (.fz ((rEx K) state80)), none]) (cut_numbers_right_2 T X_NoRow X_NoMoment X_InvalidRecord X_BadEntry X_BadPicture C_own X_WrongState X_InvalidValues hr z hu hu1 key1 name2 one3 other4 told15 parts68 state80))))
theorem cut_numbers_right_4 {P : Program} {w : World} {K : PySem.W.Frag} {mg : Str → Option Value} {base : Heap} {f : Addr} {cdv : Value} {A : Around} {outer : List Env} {s : Shared} {H : Hp} {E : XK} {Fm : Fm} {S : Type} {R : S → MP Hp} (T : Txt K mg) (X_NoRow : XnC P w K mg base "NoRow" ["key"] 1) (X_NoMoment : XnC P w K mg base "NoMoment" ["moment"] 1) (X_InvalidRecord : XnC P w K mg base "InvalidRecord" ["index"] 1) (X_BadEntry : XnC P w K mg base "BadEntry" ["index"] 1) (X_BadPicture : XnC P w K mg base "BadPicture" ["number"] 1) (C_own : FnC P w K mg base "_law_own" 2 (sp_own K mg)) (X_WrongState : XnC P w K mg base "WrongState" ["key", "state"] 1) (X_InvalidValues : XnC P w K mg base "InvalidValues" ["key", "kind"] 1) (hr : Room 2 (A.deeper (envOfC "_law_numbers_right" (defScope st_numbers_right) s.heap.objs.size f cdv))) (z : ZOk (ZF P w K mg base ["_law_key", "_law_name", "_law_one", "_law_other", "_law_told", "_law_parts", "_law_state", "_law_values"] "_law_numbers_right" (defScope st_numbers_right) f cdv A outer s H E Fm S R)) (hu : (A.deeper (envOfC "_law_numbers_right" (defScope st_numbers_right) s.heap.objs.size f cdv)).units + 65 < cLine) (hu1 : (A.deeper (envOfC "_law_numbers_right" (defScope st_numbers_right) s.heap.objs.size f cdv)).units + 1 < cLine) (key1 : Int) (name2 : Str) (one3 : Int) (other4 : Int) (told15 : List Xv) (parts68 : Int × Int × Int × Int × Int) : JB (ZF P w K mg base ["_law_key", "_law_name", "_law_one", "_law_other", "_law_told", "_law_parts", "_law_state", "_law_values"] "_law_numbers_right" (defScope st_numbers_right) f cdv A outer s H E Fm S R) [some (.fz (rI key1)), some (.fz (rS name2)), some (.fz (rI one3)), some (.fz (rI other4)), some (.fz ((rL (rEx K)) told15)), some (.fz ((rT5 K rI rI rI rI rI) parts68)), none, none] (List.drop 4 (defBody st_numbers_right)) (bnd (bnd (ret parts68) fun v74 => bnd (bnd (ret key1) fun v69 => bnd (ret one3) fun v70 => bnd (ret one3) fun v71 => bnd (ret other4) fun v72 => bnd (ret one3) fun v73 => ret (v69, v70, v71, v72, v73)) fun v75 => neM (fun (x : Int × Int × Int × Int × Int) => (fun _ => true) (x.1) && ((fun _ => true) (x.2.1) && ((fun _ => true) (x.2.2.1) && ((fun _ => true) (x.2.2.2.1) && ((fun _ => true) (x.2.2.2.2)))))) v74 v75) fun v76 => if v76 then (bnd (ret false) fun v77 => ret (.rt v77)) else (bnd (bnd (ret key1) fun v78 => bnd (ret name2) fun v79 => ret (("WrongState", [("state", Dt.str v79), ("key", Dt.int v78)]) : Xv)) fun state80 => bnd (bnd (ret key1) fun v81 => bnd (ret name2) fun v82 => ret (("InvalidValues", [("kind", Dt.str v82), ("key", Dt.int v81)]) : Xv)) fun values83 => bnd (bnd (bnd (bnd (ret state80) fun v84 => bnd (ret (6 : Int)) fun v85 => own_m v84 v85) fun v86 => ret (!v86)) fun v103 => if v103 then ret true else (bnd (bnd (bnd (ret values83) fun v87 => bnd (ret (7 : Int)) fun v88 => own_m v87 v88) fun v89 => ret (!v89)) fun v102 => if v102 then ret true else (bnd (bnd (bnd (ret state80) fun v94 => bnd (grd (List.contains [("WrongState" : Str), ("InvalidValues" : Str), ("NoRow" : Str), ("BrokenChain" : Str), ("UnlikeImages" : Str)] v94.1)) fun _ => getI v94.2 "key") fun v96 => bnd (bnd (ret state80) fun v95 => bnd (grd (List.contains [("WrongState" : Str), ("OneWay" : Str)] v95.1)) fun _ => getS v95.2 "state") fun v97 => ret (v96, v97)) fun v100 => bnd (bnd (ret key1) fun v98 => bnd (ret name2) fun v99 => ret (v98, v99)) fun v101 => neM (fun (x : Int × Str) => (fun _ => true) (x.1) && PyData.strOk (x.2)) v100 v101))) fun v104 => if v104 then (bnd (ret false) fun v105 => ret (.rt v105)) else (bnd (bnd (bnd (bnd (ret values83) fun v110 => bnd (grd (List.contains [("WrongState" : Str), ("InvalidValues" : Str), ("NoRow" : Str), ("BrokenChain" : Str), ("UnlikeImages" : Str)] v110.1)) fun _ => getI v110.2 "key") fun v112 => bnd (bnd (ret values83) fun v111 => bnd (grd (List.contains [("InvalidImage" : Str), ("InvalidValues" : Str)] v111.1)) fun _ => getS v111.2 "kind") fun v113 => ret (v112, v113)) fun v116 => bnd (bnd (ret key1) fun v114 => bnd (ret name2) fun v115 => ret (v114, v115)) fun v117 => eqM (fun (x : Int × Str) => (fun _ => true) (x.1) && PyData.strOk (x.2)) v116 v117) fun v118 => ret (.rt v118))) : M S (Fl Unit Empty Bool)) (fun _ => []) (fun e => nomatch e) (.fz rB) := (jb_ifR (jt_neD (dT5 dI dI dI dI dI) (by decide) hu (je_var (r := (rT5 K rI rI rI rI rI)) (x := parts68) 5 rfl (pv 5)) (JE.eqm (je_tup5 (ja_cons (je_var (r := rI) (x := key1) 0 rfl (pv 0)) (ja_cons (je_var (r := rI) (x := one3) 2 rfl (pv 2)) (ja_cons (je_var (r := rI) (x := one3) 2 rfl (pv 2)) (ja_cons (je_var (r := rI) (x := other4) 3 rfl (pv 3)) (ja_cons (je_var (r := rI) (x := one3) 2 rfl (pv 2)) ja_nil)))))) rfl)) (jb_cx (Γ2 := [some (.fz (rI key1)), some (.fz (rS name2)), some (.fz (rI one3)), some (.fz (rI other4)), some (.fz ((rL (rEx K)) told15)), some (.fz ((rT5 K rI rI rI rI rI) parts68)), none, none]) (jb_one (js_ret je_bl))) (by repeat' first | exact nn_rai | exact nn_rt | exact nn_rse | exact nn_ct | exact nn_bk | exact nn_stk | refine nn_if ?_ ?_ | (refine nn_bnd ?_; intro _) | (refine nn_then ?_; intro _)) (jb_cx (Γ2 := [some (.fz (rI key1)), some (.fz (rS name2)), some (.fz (rI one3)), some (.fz (rI other4)), some (.fz ((rL (rEx K)) told15)), some (.fz ((rT5 K rI rI rI rI rI) parts68)), none, none]) (cut_numbers_right_3 T X_NoRow X_NoMoment X_InvalidRecord X_BadEntry X_BadPicture C_own X_WrongState X_InvalidValues hr z hu hu1 key1 name2 one3 other4 told15 parts68)))
theorem cut_numbers_right_5 {P : Program} {w : World} {K : PySem.W.Frag} {mg : Str → Option Value} {base : Heap} {f : Addr} {cdv : Value} {A : Around} {outer : List Env} {s : Shared} {H : Hp} {E : XK} {Fm : Fm} {S : Type} {R : S → MP Hp} (T : Txt K mg) (X_NoRow : XnC P w K mg base "NoRow" ["key"] 1) (X_NoMoment : XnC P w K mg base "NoMoment" ["moment"] 1) (X_InvalidRecord : XnC P w K mg base "InvalidRecord" ["index"] 1) (X_BadEntry : XnC P w K mg base "BadEntry" ["index"] 1) (X_BadPicture : XnC P w K mg base "BadPicture" ["number"] 1) (C_own : FnC P w K mg base "_law_own" 2 (sp_own K mg)) (X_WrongState : XnC P w K mg base "WrongState" ["key", "state"] 1) (X_InvalidValues : XnC P w K mg base "InvalidValues" ["key", "kind"] 1) (hr : Room 2 (A.deeper (envOfC "_law_numbers_right" (defScope st_numbers_right) s.heap.objs.size f cdv))) (z : ZOk (ZF P w K mg base ["_law_key", "_law_name", "_law_one", "_law_other", "_law_told", "_law_parts", "_law_state", "_law_values"] "_law_numbers_right" (defScope st_numbers_right) f cdv A outer s H E Fm S R)) (hu : (A.deeper (envOfC "_law_numbers_right" (defScope st_numbers_right) s.heap.objs.size f cdv)).units + 65 < cLine) (hu1 : (A.deeper (envOfC "_law_numbers_right" (defScope st_numbers_right) s.heap.objs.size f cdv)).units + 1 < cLine) (key1 : Int) (name2 : Str) (one3 : Int) (other4 : Int) (told15 : List Xv) : JB (ZF P w K mg base ["_law_key", "_law_name", "_law_one", "_law_other", "_law_told", "_law_parts", "_law_state", "_law_values"] "_law_numbers_right" (defScope st_numbers_right) f cdv A outer s H E Fm S R) [some (.fz (rI key1)), some (.fz (rS name2)), some (.fz (rI one3)), some (.fz (rI other4)), some (.fz ((rL (rEx K)) told15)), none, none, none] (List.drop 3 (defBody st_numbers_right)) (bnd (bnd (bnd (bnd (ret told15) fun v48 => bnd (ret (0 : Int)) fun v49 => opt (atI v48 v49)) fun v50 => bnd (grd (List.contains [("WrongState" : Str), ("InvalidValues" : Str), ("NoRow" : Str), ("BrokenChain" : Str), ("UnlikeImages" : Str)] v50.1)) fun _ => getI v50.2 "key") fun v63 => bnd (bnd (bnd (ret told15) fun v51 => bnd (ret (1 : Int)) fun v52 => opt (atI v51 v52)) fun v53 => bnd (grd (List.contains [("NoMoment" : Str)] v53.1)) fun _ => getI v53.2 "moment") fun v64 => bnd (bnd (bnd (ret told15) fun v54 => bnd (ret (2 : Int)) fun v55 => opt (atI v54 v55)) fun v56 => bnd (grd (List.contains [("InvalidRecord" : Str), ("BadEntry" : Str), ("BrokenChain" : Str), ("UnlikeImages" : Str)] v56.1)) fun _ => getI v56.2 "index") fun v65 => bnd (bnd (bnd (ret told15) fun v57 => bnd (ret (3 : Int)) fun v58 => opt (atI v57 v58)) fun v59 => bnd (grd (List.contains [("InvalidRecord" : Str), ("BadEntry" : Str), ("BrokenChain" : Str), ("UnlikeImages" : Str)] v59.1)) fun _ => getI v59.2 "index") fun v66 => bnd (bnd (bnd (ret told15) fun v60 => bnd (ret (4 : Int)) fun v61 => opt (atI v60 v61)) fun v62 => bnd (grd (List.contains [("BadPicture" : Str)] v62.1)) fun _ => getI v62.2 "number") fun v67 => ret (v63, v64, v65, v66, v67)) fun parts68 => bnd (bnd (ret parts68) fun v74 => bnd (bnd (ret key1) fun v69 => bnd (ret one3) fun v70 => bnd (ret one3) fun v71 => bnd (ret other4) fun v72 => bnd (ret one3) fun v73 => ret (v69, v70, v71, v72, v73)) fun v75 => neM (fun (x : Int × Int × Int × Int × Int) => (fun _ => true) (x.1) && ((fun _ => true) (x.2.1) && ((fun _ => true) (x.2.2.1) && ((fun _ => true) (x.2.2.2.1) && ((fun _ => true) (x.2.2.2.2)))))) v74 v75) fun v76 => if v76 then (bnd (ret false) fun v77 => ret (.rt v77)) else (bnd (bnd (ret key1) fun v78 => bnd (ret name2) fun v79 => ret (("WrongState", [("state", Dt.str v79), ("key", Dt.int v78)]) : Xv)) fun state80 => bnd (bnd (ret key1) fun v81 => bnd (ret name2) fun v82 => ret (("InvalidValues", [("kind", Dt.str v82), ("key", Dt.int v81)]) : Xv)) fun values83 => bnd (bnd (bnd (bnd (ret state80) fun v84 => bnd (ret (6 : Int)) fun v85 => own_m v84 v85) fun v86 => ret (!v86)) fun v103 => if v103 then ret true else (bnd (bnd (bnd (ret values83) fun v87 => bnd (ret (7 : Int)) fun v88 => own_m v87 v88) fun v89 => ret (!v89)) fun v102 => if v102 then ret true else (bnd (bnd (bnd (ret state80) fun v94 => bnd (grd (List.contains [("WrongState" : Str), ("InvalidValues" : Str), ("NoRow" : Str), ("BrokenChain" : Str), ("UnlikeImages" : Str)] v94.1)) fun _ => getI v94.2 "key") fun v96 => bnd (bnd (ret state80) fun v95 => bnd (grd (List.contains [("WrongState" : Str), ("OneWay" : Str)] v95.1)) fun _ => getS v95.2 "state") fun v97 => ret (v96, v97)) fun v100 => bnd (bnd (ret key1) fun v98 => bnd (ret name2) fun v99 => ret (v98, v99)) fun v101 => neM (fun (x : Int × Str) => (fun _ => true) (x.1) && PyData.strOk (x.2)) v100 v101))) fun v104 => if v104 then (bnd (ret false) fun v105 => ret (.rt v105)) else (bnd (bnd (bnd (bnd (ret values83) fun v110 => bnd (grd (List.contains [("WrongState" : Str), ("InvalidValues" : Str), ("NoRow" : Str), ("BrokenChain" : Str), ("UnlikeImages" : Str)] v110.1)) fun _ => getI v110.2 "key") fun v112 => bnd (bnd (ret values83) fun v111 => bnd (grd (List.contains [("InvalidImage" : Str), ("InvalidValues" : Str)] v111.1)) fun _ => getS v111.2 "kind") fun v113 => ret (v112, v113)) fun v116 => bnd (bnd (ret key1) fun v114 => bnd (ret name2) fun v115 => ret (v114, v115)) fun v117 => eqM (fun (x : Int × Str) => (fun _ => true) (x.1) && PyData.strOk (x.2)) v116 v117) fun v118 => ret (.rt v118))) : M S (Fl Unit Empty Bool)) (fun _ => []) (fun e => nomatch e) (.fz rB) := (jb_set (i := 5) z rfl (by first | exact .inl rfl | exact .inr rfl) (JE.eqm (je_tup5 (ja_cons (je_xvI (cs := ["WrongState", "InvalidValues", "NoRow", "BrokenChain", "UnlikeImages"]) (je_ixL (je_var (r := (rL (rEx K))) (x := told15) 4 rfl (pv 4)) je_int) T.vf_key) (ja_cons (je_xvI (cs := ["NoMoment"]) (je_ixL (je_var (r := (rL (rEx K))) (x := told15) 4 rfl (pv 4)) je_int) T.vf_moment) (ja_cons (je_xvI (cs := ["InvalidRecord", "BadEntry", "BrokenChain", "UnlikeImages"]) (je_ixL (je_var (r := (rL (rEx K))) (x := told15) 4 rfl (pv 4)) je_int) T.vf_index) (ja_cons (je_xvI (cs := ["InvalidRecord", "BadEntry", "BrokenChain", "UnlikeImages"]) (je_ixL (je_var (r := (rL (rEx K))) (x := told15) 4 rfl (pv 4)) je_int) T.vf_index) (ja_cons (je_xvI (cs := ["BadPicture"]) (je_ixL (je_var (r := (rL (rEx K))) (x := told15) 4 rfl (pv 4)) je_int) T.vf_number) ja_nil)))))) rfl) (fun parts68 => (jb_cx (Γ2 := [some (.fz (rI key1)), some (.fz (rS name2)), some (.fz (rI one3)), some (.fz (rI other4)), some (.fz ((rL (rEx K)) told15)), some (.fz ((rT5 K rI rI rI rI rI) parts68)), none, none]) (cut_numbers_right_4 T X_NoRow X_NoMoment X_InvalidRecord X_BadEntry X_BadPicture C_own X_WrongState X_InvalidValues hr z hu hu1 key1 name2 one3 other4 told15 parts68))))
theorem cut_numbers_right_6 {P : Program} {w : World} {K : PySem.W.Frag} {mg : Str → Option Value} {base : Heap} {f : Addr} {cdv : Value} {A : Around} {outer : List Env} {s : Shared} {H : Hp} {E : XK} {Fm : Fm} {S : Type} {R : S → MP Hp} (T : Txt K mg) (X_NoRow : XnC P w K mg base "NoRow" ["key"] 1) (X_NoMoment : XnC P w K mg base "NoMoment" ["moment"] 1) (X_InvalidRecord : XnC P w K mg base "InvalidRecord" ["index"] 1) (X_BadEntry : XnC P w K mg base "BadEntry" ["index"] 1) (X_BadPicture : XnC P w K mg base "BadPicture" ["number"] 1) (C_own : FnC P w K mg base "_law_own" 2 (sp_own K mg)) (X_WrongState : XnC P w K mg base "WrongState" ["key", "state"] 1) (X_InvalidValues : XnC P w K mg base "InvalidValues" ["key", "kind"] 1) (hr : Room 2 (A.deeper (envOfC "_law_numbers_right" (defScope st_numbers_right) s.heap.objs.size f cdv))) (z : ZOk (ZF P w K mg base ["_law_key", "_law_name", "_law_one", "_law_other", "_law_told", "_law_parts", "_law_state", "_law_values"] "_law_numbers_right" (defScope st_numbers_right) f cdv A outer s H E Fm S R)) (hu : (A.deeper (envOfC "_law_numbers_right" (defScope st_numbers_right) s.heap.objs.size f cdv)).units + 65 < cLine) (hu1 : (A.deeper (envOfC "_law_numbers_right" (defScope st_numbers_right) s.heap.objs.size f cdv)).units + 1 < cLine) (key1 : Int) (name2 : Str) (one3 : Int) (other4 : Int) (told15 : List Xv) : JB (ZF P w K mg base ["_law_key", "_law_name", "_law_one", "_law_other", "_law_told", "_law_parts", "_law_state", "_law_values"] "_law_numbers_right" (defScope st_numbers_right) f cdv A outer s H E Fm S R) [some (.fz (rI key1)), some (.fz (rS name2)), some (.fz (rI one3)), some (.fz (rI other4)), some (.fz ((rL (rEx K)) told15)), none, none, none] (List.drop 2 (defBody st_numbers_right)) (bnd (bnd (bnd (bnd (bnd (ret told15) fun v35 => bnd (ret (3 : Int)) fun v36 => opt (atI v35 v36)) fun v37 => bnd (ret (14 : Int)) fun v38 => own_m v37 v38) fun v39 => ret (!v39)) fun v45 => if v45 then ret true else (bnd (bnd (bnd (ret told15) fun v40 => bnd (ret (4 : Int)) fun v41 => opt (atI v40 v41)) fun v42 => bnd (ret (15 : Int)) fun v43 => own_m v42 v43) fun v44 => ret (!v44))) fun v46 => if v46 then (bnd (ret false) fun v47 => ret (.rt v47)) else (bnd (bnd (bnd (bnd (ret told15) fun v48 => bnd (ret (0 : Int)) fun v49 => opt (atI v48 v49)) fun v50 => bnd (grd (List.contains [("WrongState" : Str), ("InvalidValues" : Str), ("NoRow" : Str), ("BrokenChain" : Str), ("UnlikeImages" : Str)] v50.1)) fun _ => getI v50.2 "key") fun v63 => bnd (bnd (bnd (ret told15) fun v51 => bnd (ret (1 : Int)) fun v52 => opt (atI v51 v52)) fun v53 => bnd (grd (List.contains [("NoMoment" : Str)] v53.1)) fun _ => getI v53.2 "moment") fun v64 => bnd (bnd (bnd (ret told15) fun v54 => bnd (ret (2 : Int)) fun v55 => opt (atI v54 v55)) fun v56 => bnd (grd (List.contains [("InvalidRecord" : Str), ("BadEntry" : Str), ("BrokenChain" : Str), ("UnlikeImages" : Str)] v56.1)) fun _ => getI v56.2 "index") fun v65 => bnd (bnd (bnd (ret told15) fun v57 => bnd (ret (3 : Int)) fun v58 => opt (atI v57 v58)) fun v59 => bnd (grd (List.contains [("InvalidRecord" : Str), ("BadEntry" : Str), ("BrokenChain" : Str), ("UnlikeImages" : Str)] v59.1)) fun _ => getI v59.2 "index") fun v66 => bnd (bnd (bnd (ret told15) fun v60 => bnd (ret (4 : Int)) fun v61 => opt (atI v60 v61)) fun v62 => bnd (grd (List.contains [("BadPicture" : Str)] v62.1)) fun _ => getI v62.2 "number") fun v67 => ret (v63, v64, v65, v66, v67)) fun parts68 => bnd (bnd (ret parts68) fun v74 => bnd (bnd (ret key1) fun v69 => bnd (ret one3) fun v70 => bnd (ret one3) fun v71 => bnd (ret other4) fun v72 => bnd (ret one3) fun v73 => ret (v69, v70, v71, v72, v73)) fun v75 => neM (fun (x : Int × Int × Int × Int × Int) => (fun _ => true) (x.1) && ((fun _ => true) (x.2.1) && ((fun _ => true) (x.2.2.1) && ((fun _ => true) (x.2.2.2.1) && ((fun _ => true) (x.2.2.2.2)))))) v74 v75) fun v76 => if v76 then (bnd (ret false) fun v77 => ret (.rt v77)) else (bnd (bnd (ret key1) fun v78 => bnd (ret name2) fun v79 => ret (("WrongState", [("state", Dt.str v79), ("key", Dt.int v78)]) : Xv)) fun state80 => bnd (bnd (ret key1) fun v81 => bnd (ret name2) fun v82 => ret (("InvalidValues", [("kind", Dt.str v82), ("key", Dt.int v81)]) : Xv)) fun values83 => bnd (bnd (bnd (bnd (ret state80) fun v84 => bnd (ret (6 : Int)) fun v85 => own_m v84 v85) fun v86 => ret (!v86)) fun v103 => if v103 then ret true else (bnd (bnd (bnd (ret values83) fun v87 => bnd (ret (7 : Int)) fun v88 => own_m v87 v88) fun v89 => ret (!v89)) fun v102 => if v102 then ret true else (bnd (bnd (bnd (ret state80) fun v94 => bnd (grd (List.contains [("WrongState" : Str), ("InvalidValues" : Str), ("NoRow" : Str), ("BrokenChain" : Str), ("UnlikeImages" : Str)] v94.1)) fun _ => getI v94.2 "key") fun v96 => bnd (bnd (ret state80) fun v95 => bnd (grd (List.contains [("WrongState" : Str), ("OneWay" : Str)] v95.1)) fun _ => getS v95.2 "state") fun v97 => ret (v96, v97)) fun v100 => bnd (bnd (ret key1) fun v98 => bnd (ret name2) fun v99 => ret (v98, v99)) fun v101 => neM (fun (x : Int × Str) => (fun _ => true) (x.1) && PyData.strOk (x.2)) v100 v101))) fun v104 => if v104 then (bnd (ret false) fun v105 => ret (.rt v105)) else (bnd (bnd (bnd (bnd (ret values83) fun v110 => bnd (grd (List.contains [("WrongState" : Str), ("InvalidValues" : Str), ("NoRow" : Str), ("BrokenChain" : Str), ("UnlikeImages" : Str)] v110.1)) fun _ => getI v110.2 "key") fun v112 => bnd (bnd (ret values83) fun v111 => bnd (grd (List.contains [("InvalidImage" : Str), ("InvalidValues" : Str)] v111.1)) fun _ => getS v111.2 "kind") fun v113 => ret (v112, v113)) fun v116 => bnd (bnd (ret key1) fun v114 => bnd (ret name2) fun v115 => ret (v114, v115)) fun v117 => eqM (fun (x : Int × Str) => (fun _ => true) (x.1) && PyData.strOk (x.2)) v116 v117) fun v118 => ret (.rt v118)))) : M S (Fl Unit Empty Bool)) (fun _ => []) (fun e => nomatch e) (.fz rB) := (jb_ifR (JW.jt (jw_or (jt_not (jt_val (je_call z C_own hr ⟨⟩ (ja_cons (je_ixL (je_var (r := (rL (rEx K))) (x := told15) 4 rfl (pv 4)) je_int) (ja_cons je_int ja_nil))))) (jw_or1 (jt_not (jt_val (je_call z C_own hr ⟨⟩ (ja_cons (je_ixL (je_var (r := (rL (rEx K))) (x := told15) 4 rfl (pv 4)) je_int) (ja_cons je_int ja_nil)))))))) (jb_cx (Γ2 := [some (.fz (rI key1)), some (.fz (rS name2)), some (.fz (rI one3)), some (.fz (rI other4)), some (.fz ((rL (rEx K)) told15)), none, none, none]) (jb_one (js_ret je_bl))) (by repeat' first | exact nn_rai | exact nn_rt | exact nn_rse | exact nn_ct | exact nn_bk | exact nn_stk | refine nn_if ?_ ?_ | (refine nn_bnd ?_; intro _) | (refine nn_then ?_; intro _)) (jb_cx (Γ2 := [some (.fz (rI key1)), some (.fz (rS name2)), some (.fz (rI one3)), some (.fz (rI other4)), some (.fz ((rL (rEx K)) told15)), none, none, none]) (cut_numbers_right_5 T X_NoRow X_NoMoment X_InvalidRecord X_BadEntry X_BadPicture C_own X_WrongState X_InvalidValues hr z hu hu1 key1 name2 one3 other4 told15)))
theorem cut_numbers_right_7 {P : Program} {w : World} {K : PySem.W.Frag} {mg : Str → Option Value} {base : Heap} {f : Addr} {cdv : Value} {A : Around} {outer : List Env} {s : Shared} {H : Hp} {E : XK} {Fm : Fm} {S : Type} {R : S → MP Hp} (T : Txt K mg) (X_NoRow : XnC P w K mg base "NoRow" ["key"] 1) (X_NoMoment : XnC P w K mg base "NoMoment" ["moment"] 1) (X_InvalidRecord : XnC P w K mg base "InvalidRecord" ["index"] 1) (X_BadEntry : XnC P w K mg base "BadEntry" ["index"] 1) (X_BadPicture : XnC P w K mg base "BadPicture" ["number"] 1) (C_own : FnC P w K mg base "_law_own" 2 (sp_own K mg)) (X_WrongState : XnC P w K mg base "WrongState" ["key", "state"] 1) (X_InvalidValues : XnC P w K mg base "InvalidValues" ["key", "kind"] 1) (hr : Room 2 (A.deeper (envOfC "_law_numbers_right" (defScope st_numbers_right) s.heap.objs.size f cdv))) (z : ZOk (ZF P w K mg base ["_law_key", "_law_name", "_law_one", "_law_other", "_law_told", "_law_parts", "_law_state", "_law_values"] "_law_numbers_right" (defScope st_numbers_right) f cdv A outer s H E Fm S R)) (hu : (A.deeper (envOfC "_law_numbers_right" (defScope st_numbers_right) s.heap.objs.size f cdv)).units + 65 < cLine) (hu1 : (A.deeper (envOfC "_law_numbers_right" (defScope st_numbers_right) s.heap.objs.size f cdv)).units + 1 < cLine) (key1 : Int) (name2 : Str) (one3 : Int) (other4 : Int) (told15 : List Xv) : JB (ZF P w K mg base ["_law_key", "_law_name", "_law_one", "_law_other", "_law_told", "_law_parts", "_law_state", "_law_values"] "_law_numbers_right" (defScope st_numbers_right) f cdv A outer s H E Fm S R) [some (.fz (rI key1)), some (.fz (rS name2)), some (.fz (rI one3)), some (.fz (rI other4)), some (.fz ((rL (rEx K)) told15)), none, none, none] (List.drop 1 (defBody st_numbers_right)) (bnd (bnd (bnd (bnd (bnd (ret told15) fun v16 => bnd (ret (0 : Int)) fun v17 => opt (atI v16 v17)) fun v18 => bnd (ret (10 : Int)) fun v19 => own_m v18 v19) fun v20 => ret (!v20)) fun v32 => if v32 then ret true else (bnd (bnd (bnd (bnd (ret told15) fun v21 => bnd (ret (1 : Int)) fun v22 => opt (atI v21 v22)) fun v23 => bnd (ret (11 : Int)) fun v24 => own_m v23 v24) fun v25 => ret (!v25)) fun v31 => if v31 then ret true else (bnd (bnd (bnd (ret told15) fun v26 => bnd (ret (2 : Int)) fun v27 => opt (atI v26 v27)) fun v28 => bnd (ret (12 : Int)) fun v29 => own_m v28 v29) fun v30 => ret (!v30)))) fun v33 => if v33 then (bnd (ret false) fun v34 => ret (.rt v34)) else (bnd (bnd (bnd (bnd (bnd (ret told15) fun v35 => bnd (ret (3 : Int)) fun v36 => opt (atI v35 v36)) fun v37 => bnd (ret (14 : Int)) fun v38 => own_m v37 v38) fun v39 => ret (!v39)) fun v45 => if v45 then ret true else (bnd (bnd (bnd (ret told15) fun v40 => bnd (ret (4 : Int)) fun v41 => opt (atI v40 v41)) fun v42 => bnd (ret (15 : Int)) fun v43 => own_m v42 v43) fun v44 => ret (!v44))) fun v46 => if v46 then (bnd (ret false) fun v47 => ret (.rt v47)) else (bnd (bnd (bnd (bnd (ret told15) fun v48 => bnd (ret (0 : Int)) fun v49 => opt (atI v48 v49)) fun v50 => bnd (grd (List.contains [("WrongState" : Str), ("InvalidValues" : Str), ("NoRow" : Str), ("BrokenChain" : Str), ("UnlikeImages" : Str)] v50.1)) fun _ => getI v50.2 "key") fun v63 => bnd (bnd (bnd (ret told15) fun v51 => bnd (ret (1 : Int)) fun v52 => opt (atI v51 v52)) fun v53 => bnd (grd (List.contains [("NoMoment" : Str)] v53.1)) fun _ => getI v53.2 "moment") fun v64 => bnd (bnd (bnd (ret told15) fun v54 => bnd (ret (2 : Int)) fun v55 => opt (atI v54 v55)) fun v56 => bnd (grd (List.contains [("InvalidRecord" : Str), ("BadEntry" : Str), ("BrokenChain" : Str), ("UnlikeImages" : Str)] v56.1)) fun _ => getI v56.2 "index") fun v65 => bnd (bnd (bnd (ret told15) fun v57 => bnd (ret (3 : Int)) fun v58 => opt (atI v57 v58)) fun v59 => bnd (grd (List.contains [("InvalidRecord" : Str), ("BadEntry" : Str), ("BrokenChain" : Str), ("UnlikeImages" : Str)] v59.1)) fun _ => getI v59.2 "index") fun v66 => bnd (bnd (bnd (ret told15) fun v60 => bnd (ret (4 : Int)) fun v61 => opt (atI v60 v61)) fun v62 => bnd (grd (List.contains [("BadPicture" : Str)] v62.1)) fun _ => getI v62.2 "number") fun v67 => ret (v63, v64, v65, v66, v67)) fun parts68 => bnd (bnd (ret parts68) fun v74 => bnd (bnd (ret key1) fun v69 => bnd (ret one3) fun v70 => bnd (ret one3) fun v71 => bnd (ret other4) fun v72 => bnd (ret one3) fun v73 => ret (v69, v70, v71, v72, v73)) fun v75 => neM (fun (x : Int × Int × Int × Int × Int) => (fun _ => true) (x.1) && ((fun _ => true) (x.2.1) && ((fun _ => true) (x.2.2.1) && ((fun _ => true) (x.2.2.2.1) && ((fun _ => true) (x.2.2.2.2)))))) v74 v75) fun v76 => if v76 then (bnd (ret false) fun v77 => ret (.rt v77)) else (bnd (bnd (ret key1) fun v78 => bnd (ret name2) fun v79 => ret (("WrongState", [("state", Dt.str v79), ("key", Dt.int v78)]) : Xv)) fun state80 => bnd (bnd (ret key1) fun v81 => bnd (ret name2) fun v82 => ret (("InvalidValues", [("kind", Dt.str v82), ("key", Dt.int v81)]) : Xv)) fun values83 => bnd (bnd (bnd (bnd (ret state80) fun v84 => bnd (ret (6 : Int)) fun v85 => own_m v84 v85) fun v86 => ret (!v86)) fun v103 => if v103 then ret true else (bnd (bnd (bnd (ret values83) fun v87 => bnd (ret (7 : Int)) fun v88 => own_m v87 v88) fun v89 => ret (!v89)) fun v102 => if v102 then ret true else (bnd (bnd (bnd (ret state80) fun v94 => bnd (grd (List.contains [("WrongState" : Str), ("InvalidValues" : Str), ("NoRow" : Str), ("BrokenChain" : Str), ("UnlikeImages" : Str)] v94.1)) fun _ => getI v94.2 "key") fun v96 => bnd (bnd (ret state80) fun v95 => bnd (grd (List.contains [("WrongState" : Str), ("OneWay" : Str)] v95.1)) fun _ => getS v95.2 "state") fun v97 => ret (v96, v97)) fun v100 => bnd (bnd (ret key1) fun v98 => bnd (ret name2) fun v99 => ret (v98, v99)) fun v101 => neM (fun (x : Int × Str) => (fun _ => true) (x.1) && PyData.strOk (x.2)) v100 v101))) fun v104 => if v104 then (bnd (ret false) fun v105 => ret (.rt v105)) else (bnd (bnd (bnd (bnd (ret values83) fun v110 => bnd (grd (List.contains [("WrongState" : Str), ("InvalidValues" : Str), ("NoRow" : Str), ("BrokenChain" : Str), ("UnlikeImages" : Str)] v110.1)) fun _ => getI v110.2 "key") fun v112 => bnd (bnd (ret values83) fun v111 => bnd (grd (List.contains [("InvalidImage" : Str), ("InvalidValues" : Str)] v111.1)) fun _ => getS v111.2 "kind") fun v113 => ret (v112, v113)) fun v116 => bnd (bnd (ret key1) fun v114 => bnd (ret name2) fun v115 => ret (v114, v115)) fun v117 => eqM (fun (x : Int × Str) => (fun _ => true) (x.1) && PyData.strOk (x.2)) v116 v117) fun v118 => ret (.rt v118))))) : M S (Fl Unit Empty Bool)) (fun _ => []) (fun e => nomatch e) (.fz rB) := (jb_ifR (JW.jt (jw_or (jt_not (jt_val (je_call z C_own hr ⟨⟩ (ja_cons (je_ixL (je_var (r := (rL (rEx K))) (x := told15) 4 rfl (pv 4)) je_int) (ja_cons je_int ja_nil))))) (jw_or (jt_not (jt_val (je_call z C_own hr ⟨⟩ (ja_cons (je_ixL (je_var (r := (rL (rEx K))) (x := told15) 4 rfl (pv 4)) je_int) (ja_cons je_int ja_nil))))) (jw_or1 (jt_not (jt_val (je_call z C_own hr ⟨⟩ (ja_cons (je_ixL (je_var (r := (rL (rEx K))) (x := told15) 4 rfl (pv 4)) je_int) (ja_cons je_int ja_nil))))))))) (jb_cx (Γ2 := [some (.fz (rI key1)), some (.fz (rS name2)), some (.fz (rI one3)), some (.fz (rI other4)), some (.fz ((rL (rEx K)) told15)), none, none, none]) (jb_one (js_ret je_bl))) (by repeat' first | exact nn_rai | exact nn_rt | exact nn_rse | exact nn_ct | exact nn_bk | exact nn_stk | refine nn_if ?_ ?_ | (refine nn_bnd ?_; intro _) | (refine nn_then ?_; intro _)) (jb_cx (Γ2 := [some (.fz (rI key1)), some (.fz (rS name2)), some (.fz (rI one3)), some (.fz (rI other4)), some (.fz ((rL (rEx K)) told15)), none, none, none]) (cut_numbers_right_6 T X_NoRow X_NoMoment X_InvalidRecord X_BadEntry X_BadPicture C_own X_WrongState X_InvalidValues hr z hu hu1 key1 name2 one3 other4 told15)))
theorem ok_numbers_right {P : Program} {w : World} {K : PySem.W.Frag} {mg : Str → Option Value} {base : Heap} {f : Addr} {fd : FuncData} (F : FnP K "_law_numbers_right" "_law_numbers_right" st_numbers_right [] [] f fd) (T : Txt K mg) (X_NoRow : XnC P w K mg base "NoRow" ["key"] 1) (X_NoMoment : XnC P w K mg base "NoMoment" ["moment"] 1) (X_InvalidRecord : XnC P w K mg base "InvalidRecord" ["index"] 1) (X_BadEntry : XnC P w K mg base "BadEntry" ["index"] 1) (X_BadPicture : XnC P w K mg base "BadPicture" ["number"] 1) (C_own : FnC P w K mg base "_law_own" 2 (sp_own K mg)) (X_WrongState : XnC P w K mg base "WrongState" ["key", "state"] 1) (X_InvalidValues : XnC P w K mg base "InvalidValues" ["key", "kind"] 1) : FnOk P w K mg base (L2.CX P w) 3 f fd ["_law_key", "_law_name", "_law_one", "_law_other"] (sp_numbers_right K mg) := by
  refine fn_mk (k := 2) (mb := fun S R c y => numbers_right_mb y.1 y.2.1 y.2.2.1 y.2.2.2.1) (Γ0 := fun S R c y => [some (.fz (rI y.1)), some (.fz (rS y.2.1)), some (.fz (rI y.2.2.1)), some (.fz (rI y.2.2.2.1)), none, none, none, none]) (Γ' := fun _ => []) (Γb := fun e => nomatch e) F sc_numbers_right (fun S R c y vs G h => (len_raC (len_raC (len_raC (len_raC len_raN)))) h) (fun _ _ _ _ => rfl) (fun S R c y vs G h => (so_raC (so_raC (so_raC (so_raC (so_raN (n := 4)))))) h) (fun _ _ _ _ => by exact Nat.le_of_ble_eq_true rfl) (by exact Nat.le_of_ble_eq_true rfl) ?_
  intro cdv A outer s H E Fm S R cp y hr z
  have hu := DL.Room.hu hr
  have hu1 := DL.Room.hu1 hr
  obtain ⟨key1, name2, one3, other4, _⟩ := y
  exact JB.eq (m := (bnd (bnd (bnd (ret key1) fun v5 => ret (("NoRow", [("key", Dt.int v5)]) : Xv)) fun v10 => bnd (bnd (ret one3) fun v6 => ret (("NoMoment", [("moment", Dt.int v6)]) : Xv)) fun v11 => bnd (bnd (ret one3) fun v7 => ret (("InvalidRecord", [("index", Dt.int v7)]) : Xv)) fun v12 => bnd (bnd (ret other4) fun v8 => ret (("BadEntry", [("index", Dt.int v8)]) : Xv)) fun v13 => bnd (bnd (ret one3) fun v9 => ret (("BadPicture", [("number", Dt.int v9)]) : Xv)) fun v14 => ret [v10, v11, v12, v13, v14]) fun told15 => bnd (bnd (bnd (bnd (bnd (ret told15) fun v16 => bnd (ret (0 : Int)) fun v17 => opt (atI v16 v17)) fun v18 => bnd (ret (10 : Int)) fun v19 => own_m v18 v19) fun v20 => ret (!v20)) fun v32 => if v32 then ret true else (bnd (bnd (bnd (bnd (ret told15) fun v21 => bnd (ret (1 : Int)) fun v22 => opt (atI v21 v22)) fun v23 => bnd (ret (11 : Int)) fun v24 => own_m v23 v24) fun v25 => ret (!v25)) fun v31 => if v31 then ret true else (bnd (bnd (bnd (ret told15) fun v26 => bnd (ret (2 : Int)) fun v27 => opt (atI v26 v27)) fun v28 => bnd (ret (12 : Int)) fun v29 => own_m v28 v29) fun v30 => ret (!v30)))) fun v33 => if v33 then (bnd (ret false) fun v34 => ret (.rt v34)) else (bnd (bnd (bnd (bnd (bnd (ret told15) fun v35 => bnd (ret (3 : Int)) fun v36 => opt (atI v35 v36)) fun v37 => bnd (ret (14 : Int)) fun v38 => own_m v37 v38) fun v39 => ret (!v39)) fun v45 => if v45 then ret true else (bnd (bnd (bnd (ret told15) fun v40 => bnd (ret (4 : Int)) fun v41 => opt (atI v40 v41)) fun v42 => bnd (ret (15 : Int)) fun v43 => own_m v42 v43) fun v44 => ret (!v44))) fun v46 => if v46 then (bnd (ret false) fun v47 => ret (.rt v47)) else (bnd (bnd (bnd (bnd (ret told15) fun v48 => bnd (ret (0 : Int)) fun v49 => opt (atI v48 v49)) fun v50 => bnd (grd (List.contains [("WrongState" : Str), ("InvalidValues" : Str), ("NoRow" : Str), ("BrokenChain" : Str), ("UnlikeImages" : Str)] v50.1)) fun _ => getI v50.2 "key") fun v63 => bnd (bnd (bnd (ret told15) fun v51 => bnd (ret (1 : Int)) fun v52 => opt (atI v51 v52)) fun v53 => bnd (grd (List.contains [("NoMoment" : Str)] v53.1)) fun _ => getI v53.2 "moment") fun v64 => bnd (bnd (bnd (ret told15) fun v54 => bnd (ret (2 : Int)) fun v55 => opt (atI v54 v55)) fun v56 => bnd (grd (List.contains [("InvalidRecord" : Str), ("BadEntry" : Str), ("BrokenChain" : Str), ("UnlikeImages" : Str)] v56.1)) fun _ => getI v56.2 "index") fun v65 => bnd (bnd (bnd (ret told15) fun v57 => bnd (ret (3 : Int)) fun v58 => opt (atI v57 v58)) fun v59 => bnd (grd (List.contains [("InvalidRecord" : Str), ("BadEntry" : Str), ("BrokenChain" : Str), ("UnlikeImages" : Str)] v59.1)) fun _ => getI v59.2 "index") fun v66 => bnd (bnd (bnd (ret told15) fun v60 => bnd (ret (4 : Int)) fun v61 => opt (atI v60 v61)) fun v62 => bnd (grd (List.contains [("BadPicture" : Str)] v62.1)) fun _ => getI v62.2 "number") fun v67 => ret (v63, v64, v65, v66, v67)) fun parts68 => bnd (bnd (ret parts68) fun v74 => bnd (bnd (ret key1) fun v69 => bnd (ret one3) fun v70 => bnd (ret one3) fun v71 => bnd (ret other4) fun v72 => bnd (ret one3) fun v73 => ret (v69, v70, v71, v72, v73)) fun v75 => neM (fun (x : Int × Int × Int × Int × Int) => (fun _ => true) (x.1) && ((fun _ => true) (x.2.1) && ((fun _ => true) (x.2.2.1) && ((fun _ => true) (x.2.2.2.1) && ((fun _ => true) (x.2.2.2.2)))))) v74 v75) fun v76 => if v76 then (bnd (ret false) fun v77 => ret (.rt v77)) else (bnd (bnd (ret key1) fun v78 => bnd (ret name2) fun v79 => ret (("WrongState", [("state", Dt.str v79), ("key", Dt.int v78)]) : Xv)) fun state80 => bnd (bnd (ret key1) fun v81 => bnd (ret name2) fun v82 => ret (("InvalidValues", [("kind", Dt.str v82), ("key", Dt.int v81)]) : Xv)) fun values83 => bnd (bnd (bnd (bnd (ret state80) fun v84 => bnd (ret (6 : Int)) fun v85 => own_m v84 v85) fun v86 => ret (!v86)) fun v103 => if v103 then ret true else (bnd (bnd (bnd (ret values83) fun v87 => bnd (ret (7 : Int)) fun v88 => own_m v87 v88) fun v89 => ret (!v89)) fun v102 => if v102 then ret true else (bnd (bnd (bnd (ret state80) fun v94 => bnd (grd (List.contains [("WrongState" : Str), ("InvalidValues" : Str), ("NoRow" : Str), ("BrokenChain" : Str), ("UnlikeImages" : Str)] v94.1)) fun _ => getI v94.2 "key") fun v96 => bnd (bnd (ret state80) fun v95 => bnd (grd (List.contains [("WrongState" : Str), ("OneWay" : Str)] v95.1)) fun _ => getS v95.2 "state") fun v97 => ret (v96, v97)) fun v100 => bnd (bnd (ret key1) fun v98 => bnd (ret name2) fun v99 => ret (v98, v99)) fun v101 => neM (fun (x : Int × Str) => (fun _ => true) (x.1) && PyData.strOk (x.2)) v100 v101))) fun v104 => if v104 then (bnd (ret false) fun v105 => ret (.rt v105)) else (bnd (bnd (bnd (bnd (ret values83) fun v110 => bnd (grd (List.contains [("WrongState" : Str), ("InvalidValues" : Str), ("NoRow" : Str), ("BrokenChain" : Str), ("UnlikeImages" : Str)] v110.1)) fun _ => getI v110.2 "key") fun v112 => bnd (bnd (ret values83) fun v111 => bnd (grd (List.contains [("InvalidImage" : Str), ("InvalidValues" : Str)] v111.1)) fun _ => getS v111.2 "kind") fun v113 => ret (v112, v113)) fun v116 => bnd (bnd (ret key1) fun v114 => bnd (ret name2) fun v115 => ret (v114, v115)) fun v117 => eqM (fun (x : Int × Str) => (fun _ => true) (x.1) && PyData.strOk (x.2)) v116 v117) fun v118 => ret (.rt v118))))) : M S (Fl Unit Empty Bool))) (jb_cx (Γ2 := [some (.fz (rI key1)), some (.fz (rS name2)), some (.fz (rI one3)), some (.fz (rI other4)), none, none, none, none]) (jb_set (i := 4) z rfl (by first | exact .inl rfl | exact .inr rfl) (je_frzL (je_list (jl_cons (JE.eqm (je_mkV (ρ := .fz (rEx K)) z X_NoRow hr (ja_cons (je_var (r := rI) (x := key1) 0 rfl (pv 0)) ja_nil) T.vg_NoRow (rEx K) (fun y => ("NoRow", [("key", Dt.int y.1)])) (xv_dt (xd1 "key" Dt.int dt_i))) rfl) (jl_cons (JE.eqm (je_mkV (ρ := .fz (rEx K)) z X_NoMoment hr (ja_cons (je_var (r := rI) (x := one3) 2 rfl (pv 2)) ja_nil) T.vg_NoMoment (rEx K) (fun y => ("NoMoment", [("moment", Dt.int y.1)])) (xv_dt (xd1 "moment" Dt.int dt_i))) rfl) (jl_cons (JE.eqm (je_mkV (ρ := .fz (rEx K)) z X_InvalidRecord hr (ja_cons (je_var (r := rI) (x := one3) 2 rfl (pv 2)) ja_nil) T.vg_InvalidRecord (rEx K) (fun y => ("InvalidRecord", [("index", Dt.int y.1)])) (xv_dt (xd1 "index" Dt.int dt_i))) rfl) (jl_cons (JE.eqm (je_mkV (ρ := .fz (rEx K)) z X_BadEntry hr (ja_cons (je_var (r := rI) (x := other4) 3 rfl (pv 3)) ja_nil) T.vg_BadEntry (rEx K) (fun y => ("BadEntry", [("index", Dt.int y.1)])) (xv_dt (xd1 "index" Dt.int dt_i))) rfl) (jl_cons (JE.eqm (je_mkV (ρ := .fz (rEx K)) z X_BadPicture hr (ja_cons (je_var (r := rI) (x := one3) 2 rfl (pv 2)) ja_nil) T.vg_BadPicture (rEx K) (fun y => ("BadPicture", [("number", Dt.int y.1)])) (xv_dt (xd1 "number" Dt.int dt_i))) rfl) (jl_nil (r := (rEx K)))))))))) (fun told15 => (jb_cx (Γ2 := [some (.fz (rI key1)), some (.fz (rS name2)), some (.fz (rI one3)), some (.fz (rI other4)), some (.fz ((rL (rEx K)) told15)), none, none, none]) (cut_numbers_right_7 T X_NoRow X_NoMoment X_InvalidRecord X_BadEntry X_BadPicture C_own X_WrongState X_InvalidValues hr z hu hu1 key1 name2 one3 other4 told15))))) (by simp only [ret_bnd, rdM_some, raiM_rse, numbers_right_mb])
abbrev st_chains_right : Stmt := (top 31)
theorem sc_chains_right : FnScope ["_law_key", "_law_one", "_law_other", "_law_chain", "_law_images", "_law_reasons", "_law_loose"] ["_law_key", "_law_one", "_law_other"] (defScope st_chains_right) := ⟨rfl, rfl, rfl, by decide +kernel, rfl, by decide +kernel, by decide +kernel⟩
def chains_right_mb {S : Type} (key1 : Int) (one2 : Int) (other3 : Int) : M S (Fl Unit Empty Bool) := bnd (bnd (bnd (own_m (("BrokenChain", [("index", Dt.int one2), ("key", Dt.int key1)]) : Xv) (16 : Int)) fun v23 => ret (!v23)) fun v32 => if v32 then ret true else (bnd (bnd (own_m (("UnlikeImages", [("other", Dt.int other3), ("index", Dt.int one2), ("key", Dt.int key1)]) : Xv) (17 : Int)) fun v26 => ret (!v26)) fun v31 => if v31 then ret true else (bnd (own_m (("Unplaced", []) : Xv) (18 : Int)) fun v30 => ret (!v30)))) fun v33 => if v33 then (ret (.rt false)) else (bnd (bnd (bnd (bnd (grd (List.contains [("WrongState" : Str), ("InvalidValues" : Str), ("NoRow" : Str), ("BrokenChain" : Str), ("UnlikeImages" : Str)] (("BrokenChain", [("index", Dt.int one2), ("key", Dt.int key1)]) : Xv).1)) fun _ => getI (("BrokenChain", [("index", Dt.int one2), ("key", Dt.int key1)]) : Xv).2 "key") fun v47 => bnd (bnd (grd (List.contains [("InvalidRecord" : Str), ("BadEntry" : Str), ("BrokenChain" : Str), ("UnlikeImages" : Str)] (("BrokenChain", [("index", Dt.int one2), ("key", Dt.int key1)]) : Xv).1)) fun _ => getI (("BrokenChain", [("index", Dt.int one2), ("key", Dt.int key1)]) : Xv).2 "index") fun v48 => ret (v47, v48, (key1, [([one2], (("state" : Str), (0 : Int)))]).1, (key1, [([one2], (("state" : Str), (0 : Int)))]).2)) fun v61 => neM (fun (x : Int × Int × Int × (List ((List Int) × (Str × Int)))) => (fun _ => true) (x.1) && ((fun _ => true) (x.2.1) && ((fun _ => true) (x.2.2.1) && ((fun xs => List.all xs (fun (x : (List Int) × (Str × Int)) => (fun xs => List.all xs (fun _ => true)) (x.1) && (fun (x : Str × Int) => PyData.strOk (x.1) && (fun _ => true) (x.2)) (x.2))) (x.2.2.2))))) v61 (key1, one2, key1, [([one2], (("state" : Str), (0 : Int)))])) fun v63 => if v63 then (ret (.rt false)) else (bnd (bnd (bnd (bnd (grd (List.contains [("WrongState" : Str), ("InvalidValues" : Str), ("NoRow" : Str), ("BrokenChain" : Str), ("UnlikeImages" : Str)] (("UnlikeImages", [("other", Dt.int other3), ("index", Dt.int one2), ("key", Dt.int key1)]) : Xv).1)) fun _ => getI (("UnlikeImages", [("other", Dt.int other3), ("index", Dt.int one2), ("key", Dt.int key1)]) : Xv).2 "key") fun v74 => bnd (bnd (grd (List.contains [("InvalidRecord" : Str), ("BadEntry" : Str), ("BrokenChain" : Str), ("UnlikeImages" : Str)] (("UnlikeImages", [("other", Dt.int other3), ("index", Dt.int one2), ("key", Dt.int key1)]) : Xv).1)) fun _ => getI (("UnlikeImages", [("other", Dt.int other3), ("index", Dt.int one2), ("key", Dt.int key1)]) : Xv).2 "index") fun v75 => bnd (bnd (grd (List.contains [("UnlikeImages" : Str)] (("UnlikeImages", [("other", Dt.int other3), ("index", Dt.int one2), ("key", Dt.int key1)]) : Xv).1)) fun _ => getI (("UnlikeImages", [("other", Dt.int other3), ("index", Dt.int one2), ("key", Dt.int key1)]) : Xv).2 "other") fun v76 => ret (v74, v75, v76)) fun v80 => eqM (fun (x : Int × Int × Int) => (fun _ => true) (x.1) && ((fun _ => true) (x.2.1) && ((fun _ => true) (x.2.2)))) v80 (key1, one2, other3)) fun v82 => ret (.rt v82)))
def chains_right_m {S : Type} (key1 : Int) (one2 : Int) (other3 : Int) : M S Bool := runF (chains_right_mb key1 one2 other3)
abbrev ra_chains_right (K : PySem.W.Frag) (S : Type) (R : S → MP Hp) (c : NoCap S R) : Int × Int × Int × Unit → List V → Hp → Prop := (raC rI (raC rI (raC rI raN)))
abbrev f_chains_right (S : Type) (R : S → MP Hp) (c : NoCap S R) (y : Int × Int × Int × Unit) : M S Bool := chains_right_m y.1 y.2.1 y.2.2.1
abbrev sp_chains_right (K : PySem.W.Frag) (mg : Str → Option Value) : Sp := spC mg (ra_chains_right K) (.fz rB) f_chains_right
theorem cut_chains_right_0 {P : Program} {w : World} {K : PySem.W.Frag} {mg : Str → Option Value} {base : Heap} {f : Addr} {cdv : Value} {A : Around} {outer : List Env} {s : Shared} {H : Hp} {E : XK} {Fm : Fm} {S : Type} {R : S → MP Hp} (T : Txt K mg) (X_BrokenChain : XnC P w K mg base "BrokenChain" ["key", "index"] 1) (X_UnlikeImages : XnC P w K mg base "UnlikeImages" ["key", "index", "other"] 1) (X_Unplaced : XnC P w K mg base "Unplaced" ["key", "reasons"] 1) (C_own : FnC P w K mg base "_law_own" 2 (sp_own K mg)) (hr : Room 2 (A.deeper (envOfC "_law_chains_right" (defScope st_chains_right) s.heap.objs.size f cdv))) (z : ZOk (ZF P w K mg base ["_law_key", "_law_one", "_law_other", "_law_chain", "_law_images", "_law_reasons", "_law_loose"] "_law_chains_right" (defScope st_chains_right) f cdv A outer s H E Fm S R)) (hu : (A.deeper (envOfC "_law_chains_right" (defScope st_chains_right) s.heap.objs.size f cdv)).units + 65 < cLine) (hu1 : (A.deeper (envOfC "_law_chains_right" (defScope st_chains_right) s.heap.objs.size f cdv)).units + 1 < cLine) (key1 : Int) (one2 : Int) (other3 : Int) (chain6 : Xv) (images10 : Xv) (reasons17 : List ((List Int) × (Str × Int))) (loose20 : Int × (List ((List Int) × (Str × Int)))) : JB (ZF P w K mg base ["_law_key", "_law_one", "_law_other", "_law_chain", "_law_images", "_law_reasons", "_law_loose"] "_law_chains_right" (defScope st_chains_right) f cdv A outer s H E Fm S R) [some (.fz (rI key1)), some (.fz (rI one2)), some (.fz (rI other3)), some (.fz ((rEx K) chain6)), some (.fz ((rEx K) images10)), some (.fz ((rL (rT2 K (rL rI) (rT2 K rS rI))) reasons17)), some (.fz ((rExS K "Unplaced" (fun t : Int × (List ((List Int) × (Str × Int))) => [("key", rI t.1), ("reasons", (rL (rT2 K (rL rI) (rT2 K rS rI))) t.2)])) loose20))] (List.drop 6 (defBody st_chains_right)) (bnd (bnd (bnd (bnd (ret images10) fun v71 => bnd (grd (List.contains [("WrongState" : Str), ("InvalidValues" : Str), ("NoRow" : Str), ("BrokenChain" : Str), ("UnlikeImages" : Str)] v71.1)) fun _ => getI v71.2 "key") fun v74 => bnd (bnd (ret images10) fun v72 => bnd (grd (List.contains [("InvalidRecord" : Str), ("BadEntry" : Str), ("BrokenChain" : Str), ("UnlikeImages" : Str)] v72.1)) fun _ => getI v72.2 "index") fun v75 => bnd (bnd (ret images10) fun v73 => bnd (grd (List.contains [("UnlikeImages" : Str)] v73.1)) fun _ => getI v73.2 "other") fun v76 => ret (v74, v75, v76)) fun v80 => bnd (bnd (ret key1) fun v77 => bnd (ret one2) fun v78 => bnd (ret other3) fun v79 => ret (v77, v78, v79)) fun v81 => eqM (fun (x : Int × Int × Int) => (fun _ => true) (x.1) && ((fun _ => true) (x.2.1) && ((fun _ => true) (x.2.2)))) v80 v81) fun v82 => ret (.rt v82) : M S (Fl Unit Empty Bool)) (fun _ => []) (fun e => nomatch e) (.fz rB) := (jb_one (js_ret (je_eqD (dT3 dI dI dI) (by decide) hu (je_tup3 (ja_cons (je_xvI (cs := ["WrongState", "InvalidValues", "NoRow", "BrokenChain", "UnlikeImages"]) (je_var (r := (rEx K)) (x := images10) 4 rfl (pv 4)) T.vf_key) (ja_cons (je_xvI (cs := ["InvalidRecord", "BadEntry", "BrokenChain", "UnlikeImages"]) (je_var (r := (rEx K)) (x := images10) 4 rfl (pv 4)) T.vf_index) (ja_cons (je_xvI (cs := ["UnlikeImages"]) (je_var (r := (rEx K)) (x := images10) 4 rfl (pv 4)) T.vf_other) ja_nil)))) (je_tup3 (ja_cons (je_var (r := rI) (x := key1) 0 rfl (pv 0)) (ja_cons (je_var (r := rI) (x := one2) 1 rfl (pv 1)) (ja_cons (je_var (r := rI) (x := other3) 2 rfl (pv 2)) ja_nil)))))))
theorem cut_chains_right_1 {P : Program} {w : World} {K : PySem.W.Frag} {mg : Str → Option Value} {base : Heap} {f : Addr} {cdv : Value} {A : Around} {outer : List Env} {s : Shared} {H : Hp} {E : XK} {Fm : Fm} {S : Type} {R : S → MP Hp} (T : Txt K mg) (X_BrokenChain : XnC P w K mg base "BrokenChain" ["key", "index"] 1) (X_UnlikeImages : XnC P w K mg base "UnlikeImages" ["key", "index", "other"] 1) (X_Unplaced : XnC P w K mg base "Unplaced" ["key", "reasons"] 1) (C_own : FnC P w K mg base "_law_own" 2 (sp_own K mg)) (hr : Room 2 (A.deeper (envOfC "_law_chains_right" (defScope st_chains_right) s.heap.objs.size f cdv))) (z : ZOk (ZF P w K mg base ["_law_key", "_law_one", "_law_other", "_law_chain", "_law_images", "_law_reasons", "_law_loose"] "_law_chains_right" (defScope st_chains_right) f cdv A outer s H E Fm S R)) (hu : (A.deeper (envOfC "_law_chains_right" (defScope st_chains_right) s.heap.objs.size f cdv)).units + 65 < cLine) (hu1 : (A.deeper (envOfC "_law_chains_right" (defScope st_chains_right) s.heap.objs.size f cdv)).units + 1 < cLine) (key1 : Int) (one2 : Int) (other3 : Int) (chain6 : Xv) (images10 : Xv) (reasons17 : List ((List Int) × (Str × Int))) (loose20 : Int × (List ((List Int) × (Str × Int)))) : JB (ZF P w K mg base ["_law_key", "_law_one", "_law_other", "_law_chain", "_law_images", "_law_reasons", "_law_loose"] "_law_chains_right" (defScope st_chains_right) f cdv A outer s H E Fm S R) [some (.fz (rI key1)), some (.fz (rI one2)), some (.fz (rI other3)), some (.fz ((rEx K) chain6)), some (.fz ((rEx K) images10)), some (.fz ((rL (rT2 K (rL rI) (rT2 K rS rI))) reasons17)), some (.fz ((rExS K "Unplaced" (fun t : Int × (List ((List Int) × (Str × Int))) => [("key", rI t.1), ("reasons", (rL (rT2 K (rL rI) (rT2 K rS rI))) t.2)])) loose20))] (List.drop 5 (defBody st_chains_right)) (bnd (bnd (bnd (bnd (ret chain6) fun v43 => bnd (grd (List.contains [("WrongState" : Str), ("InvalidValues" : Str), ("NoRow" : Str), ("BrokenChain" : Str), ("UnlikeImages" : Str)] v43.1)) fun _ => getI v43.2 "key") fun v47 => bnd (bnd (ret chain6) fun v44 => bnd (grd (List.contains [("InvalidRecord" : Str), ("BadEntry" : Str), ("BrokenChain" : Str), ("UnlikeImages" : Str)] v44.1)) fun _ => getI v44.2 "index") fun v48 => bnd (bnd (ret loose20) fun v45 => ret v45.1) fun v49 => bnd (bnd (ret loose20) fun v46 => ret v46.2) fun v50 => ret (v47, v48, v49, v50)) fun v61 => bnd (bnd (ret key1) fun v57 => bnd (ret one2) fun v58 => bnd (ret key1) fun v59 => bnd (bnd (bnd (bnd (ret one2) fun v51 => ret [v51]) fun v54 => bnd (bnd (ret ("state" : Str)) fun v52 => bnd (ret (0 : Int)) fun v53 => ret (v52, v53)) fun v55 => ret (v54, v55)) fun v56 => ret [v56]) fun v60 => ret (v57, v58, v59, v60)) fun v62 => neM (fun (x : Int × Int × Int × (List ((List Int) × (Str × Int)))) => (fun _ => true) (x.1) && ((fun _ => true) (x.2.1) && ((fun _ => true) (x.2.2.1) && ((fun xs => List.all xs (fun (x : (List Int) × (Str × Int)) => (fun xs => List.all xs (fun _ => true)) (x.1) && (fun (x : Str × Int) => PyData.strOk (x.1) && (fun _ => true) (x.2)) (x.2))) (x.2.2.2))))) v61 v62) fun v63 => if v63 then (bnd (ret false) fun v64 => ret (.rt v64)) else (bnd (bnd (bnd (bnd (ret images10) fun v71 => bnd (grd (List.contains [("WrongState" : Str), ("InvalidValues" : Str), ("NoRow" : Str), ("BrokenChain" : Str), ("UnlikeImages" : Str)] v71.1)) fun _ => getI v71.2 "key") fun v74 => bnd (bnd (ret images10) fun v72 => bnd (grd (List.contains [("InvalidRecord" : Str), ("BadEntry" : Str), ("BrokenChain" : Str), ("UnlikeImages" : Str)] v72.1)) fun _ => getI v72.2 "index") fun v75 => bnd (bnd (ret images10) fun v73 => bnd (grd (List.contains [("UnlikeImages" : Str)] v73.1)) fun _ => getI v73.2 "other") fun v76 => ret (v74, v75, v76)) fun v80 => bnd (bnd (ret key1) fun v77 => bnd (ret one2) fun v78 => bnd (ret other3) fun v79 => ret (v77, v78, v79)) fun v81 => eqM (fun (x : Int × Int × Int) => (fun _ => true) (x.1) && ((fun _ => true) (x.2.1) && ((fun _ => true) (x.2.2)))) v80 v81) fun v82 => ret (.rt v82)) : M S (Fl Unit Empty Bool)) (fun _ => []) (fun e => nomatch e) (.fz rB) := (jb_ifR (jt_neD (dT4 dI dI dI (dL (dT2 (dL dI) (dT2 dS dI)))) (by decide) hu (JE.eqm (je_tup4 (ja_cons (je_xvI (cs := ["WrongState", "InvalidValues", "NoRow", "BrokenChain", "UnlikeImages"]) (je_var (r := (rEx K)) (x := chain6) 3 rfl (pv 3)) T.vf_key) (ja_cons (je_xvI (cs := ["InvalidRecord", "BadEntry", "BrokenChain", "UnlikeImages"]) (je_var (r := (rEx K)) (x := chain6) 3 rfl (pv 3)) T.vf_index) (ja_cons (je_xsF (fun t : Int × (List ((List Int) × (Str × Int))) => t.1) rI (je_var (r := (rExS K "Unplaced" (fun t : Int × (List ((List Int) × (Str × Int))) => [("key", rI t.1), ("reasons", (rL (rT2 K (rL rI) (rT2 K rS rI))) t.2)]))) (x := loose20) 6 rfl (pv 6)) ⟨T.xf_Unplaced, T.xn_Unplaced_key⟩ (fun _ => rfl)) (ja_cons (je_xsF (fun t : Int × (List ((List Int) × (Str × Int))) => t.2) (rL (rT2 K (rL rI) (rT2 K rS rI))) (je_var (r := (rExS K "Unplaced" (fun t : Int × (List ((List Int) × (Str × Int))) => [("key", rI t.1), ("reasons", (rL (rT2 K (rL rI) (rT2 K rS rI))) t.2)]))) (x := loose20) 6 rfl (pv 6)) ⟨T.xf_Unplaced, T.xn_Unplaced_reasons⟩ (fun _ => rfl)) ja_nil))))) rfl) (JE.eqm (je_tup4 (ja_cons (je_var (r := rI) (x := key1) 0 rfl (pv 0)) (ja_cons (je_var (r := rI) (x := one2) 1 rfl (pv 1)) (ja_cons (je_var (r := rI) (x := key1) 0 rfl (pv 0)) (ja_cons (je_frzL (JE.eqm (je_list (jl_cons (JE.eqm (je_tup2 (ja_cons (je_frzL (je_list (jl_cons (je_var (r := rI) (x := one2) 1 rfl (pv 1)) (jl_nil (r := rI))))) (ja_cons (je_tup2 (ja_cons je_str (ja_cons je_int ja_nil))) ja_nil))) rfl) (jl_nil (r := (rT2 K (rL rI) (rT2 K rS rI)))))) rfl)) ja_nil))))) rfl)) (jb_cx (Γ2 := [some (.fz (rI key1)), some (.fz (rI one2)), some (.fz (rI other3)), some (.fz ((rEx K) chain6)), some (.fz ((rEx K) images10)), some (.fz ((rL (rT2 K (rL rI) (rT2 K rS rI))) reasons17)), some (.fz ((rExS K "Unplaced" (fun t : Int × (List ((List Int) × (Str × Int))) => [("key", rI t.1), ("reasons", (rL (rT2 K (rL rI) (rT2 K rS rI))) t.2)])) loose20))]) (jb_one (js_ret je_bl))) (by repeat' first | exact nn_rai | exact nn_rt | exact nn_rse | exact nn_ct | exact nn_bk | exact nn_stk | refine nn_if ?_ ?_ | (refine nn_bnd ?_; intro _) | (refine nn_then ?_; intro _)) (jb_cx (Γ2 := [some (.fz (rI key1)), some (.fz (rI one2)), some (.fz (rI other3)), some (.fz ((rEx K) chain6)), some (.fz ((rEx K) images10)), some (.fz ((rL (rT2 K (rL rI) (rT2 K rS rI))) reasons17)), some (.fz ((rExS K "Unplaced" (fun t : Int × (List ((List Int) × (Str × Int))) => [("key", rI t.1), ("reasons", (rL (rT2 K (rL rI) (rT2 K rS rI))) t.2)])) loose20))]) (cut_chains_right_0 T X_BrokenChain X_UnlikeImages X_Unplaced C_own hr z hu hu1 key1 one2 other3 chain6 images10 reasons17 loose20)))
theorem cut_chains_right_2 {P : Program} {w : World} {K : PySem.W.Frag} {mg : Str → Option Value} {base : Heap} {f : Addr} {cdv : Value} {A : Around} {outer : List Env} {s : Shared} {H : Hp} {E : XK} {Fm : Fm} {S : Type} {R : S → MP Hp} (T : Txt K mg) (X_BrokenChain : XnC P w K mg base "BrokenChain" ["key", "index"] 1) (X_UnlikeImages : XnC P w K mg base "UnlikeImages" ["key", "index", "other"] 1) (X_Unplaced : XnC P w K mg base "Unplaced" ["key", "reasons"] 1) (C_own : FnC P w K mg base "_law_own" 2 (sp_own K mg)) (hr : Room 2 (A.deeper (envOfC "_law_chains_right" (defScope st_chains_right) s.heap.objs.size f cdv))) (z : ZOk (ZF P w K mg base ["_law_key", "_law_one", "_law_other", "_law_chain", "_law_images", "_law_reasons", "_law_loose"] "_law_chains_right" (defScope st_chains_right) f cdv A outer s H E Fm S R)) (hu : (A.deeper (envOfC "_law_chains_right" (defScope st_chains_right) s.heap.objs.size f cdv)).units + 65 < cLine) (hu1 : (A.deeper (envOfC "_law_chains_right" (defScope st_chains_right) s.heap.objs.size f cdv)).units + 1 < cLine) (key1 : Int) (one2 : Int) (other3 : Int) (chain6 : Xv) (images10 : Xv) (reasons17 : List ((List Int) × (Str × Int))) (loose20 : Int × (List ((List Int) × (Str × Int)))) : JB (ZF P w K mg base ["_law_key", "_law_one", "_law_other", "_law_chain", "_law_images", "_law_reasons", "_law_loose"] "_law_chains_right" (defScope st_chains_right) f cdv A outer s H E Fm S R) [some (.fz (rI key1)), some (.fz (rI one2)), some (.fz (rI other3)), some (.fz ((rEx K) chain6)), some (.fz ((rEx K) images10)), some (.fz ((rL (rT2 K (rL rI) (rT2 K rS rI))) reasons17)), some (.fz ((rExS K "Unplaced" (fun t : Int × (List ((List Int) × (Str × Int))) => [("key", rI t.1), ("reasons", (rL (rT2 K (rL rI) (rT2 K rS rI))) t.2)])) loose20))] (List.drop 4 (defBody st_chains_right)) (bnd (bnd (bnd (bnd (ret chain6) fun v21 => bnd (ret (16 : Int)) fun v22 => own_m v21 v22) fun v23 => ret (!v23)) fun v32 => if v32 then ret true else (bnd (bnd (bnd (ret images10) fun v24 => bnd (ret (17 : Int)) fun v25 => own_m v24 v25) fun v26 => ret (!v26)) fun v31 => if v31 then ret true else (bnd (bnd (bnd (ret loose20) fun v27 => ret (("Unplaced", []) : Xv)) fun v28 => bnd (ret (18 : Int)) fun v29 => own_m v28 v29) fun v30 => ret (!v30)))) fun v33 => if v33 then (bnd (ret false) fun v34 => ret (.rt v34)) else (bnd (bnd (bnd (bnd (ret chain6) fun v43 => bnd (grd (List.contains [("WrongState" : Str), ("InvalidValues" : Str), ("NoRow" : Str), ("BrokenChain" : Str), ("UnlikeImages" : Str)] v43.1)) fun _ => getI v43.2 "key") fun v47 => bnd (bnd (ret chain6) fun v44 => bnd (grd (List.contains [("InvalidRecord" : Str), ("BadEntry" : Str), ("BrokenChain" : Str), ("UnlikeImages" : Str)] v44.1)) fun _ => getI v44.2 "index") fun v48 => bnd (bnd (ret loose20) fun v45 => ret v45.1) fun v49 => bnd (bnd (ret loose20) fun v46 => ret v46.2) fun v50 => ret (v47, v48, v49, v50)) fun v61 => bnd (bnd (ret key1) fun v57 => bnd (ret one2) fun v58 => bnd (ret key1) fun v59 => bnd (bnd (bnd (bnd (ret one2) fun v51 => ret [v51]) fun v54 => bnd (bnd (ret ("state" : Str)) fun v52 => bnd (ret (0 : Int)) fun v53 => ret (v52, v53)) fun v55 => ret (v54, v55)) fun v56 => ret [v56]) fun v60 => ret (v57, v58, v59, v60)) fun v62 => neM (fun (x : Int × Int × Int × (List ((List Int) × (Str × Int)))) => (fun _ => true) (x.1) && ((fun _ => true) (x.2.1) && ((fun _ => true) (x.2.2.1) && ((fun xs => List.all xs (fun (x : (List Int) × (Str × Int)) => (fun xs => List.all xs (fun _ => true)) (x.1) && (fun (x : Str × Int) => PyData.strOk (x.1) && (fun _ => true) (x.2)) (x.2))) (x.2.2.2))))) v61 v62) fun v63 => if v63 then (bnd (ret false) fun v64 => ret (.rt v64)) else (bnd (bnd (bnd (bnd (ret images10) fun v71 => bnd (grd (List.contains [("WrongState" : Str), ("InvalidValues" : Str), ("NoRow" : Str), ("BrokenChain" : Str), ("UnlikeImages" : Str)] v71.1)) fun _ => getI v71.2 "key") fun v74 => bnd (bnd (ret images10) fun v72 => bnd (grd (List.contains [("InvalidRecord" : Str), ("BadEntry" : Str), ("BrokenChain" : Str), ("UnlikeImages" : Str)] v72.1)) fun _ => getI v72.2 "index") fun v75 => bnd (bnd (ret images10) fun v73 => bnd (grd (List.contains [("UnlikeImages" : Str)] v73.1)) fun _ => getI v73.2 "other") fun v76 => ret (v74, v75, v76)) fun v80 => bnd (bnd (ret key1) fun v77 => bnd (ret one2) fun v78 => bnd (ret other3) fun v79 => ret (v77, v78, v79)) fun v81 => eqM (fun (x : Int × Int × Int) => (fun _ => true) (x.1) && ((fun _ => true) (x.2.1) && ((fun _ => true) (x.2.2)))) v80 v81) fun v82 => ret (.rt v82))) : M S (Fl Unit Empty Bool)) (fun _ => []) (fun e => nomatch e) (.fz rB) := (jb_ifR (JW.jt (jw_or (jt_not (jt_val (je_call z C_own hr ⟨⟩ (ja_cons (je_var (r := (rEx K)) (x := chain6) 3 rfl (pv 3)) (ja_cons je_int ja_nil))))) (jw_or (jt_not (jt_val (je_call z C_own hr ⟨⟩ (ja_cons (je_var (r := (rEx K)) (x := images10) 4 rfl (pv 4)) (ja_cons je_int ja_nil))))) (jw_or1 (jt_not (jt_val (je_call z C_own hr ⟨⟩ (ja_cons (je_xsv (je_var (r := (rExS K "Unplaced" (fun t : Int × (List ((List Int) × (Str × Int))) => [("key", rI t.1), ("reasons", (rL (rT2 K (rL rI) (rT2 K rS rI))) t.2)]))) (x := loose20) 6 rfl (pv 6))) (ja_cons je_int ja_nil))))))))) (jb_cx (Γ2 := [some (.fz (rI key1)), some (.fz (rI one2)), some (.fz (rI other3)), some (.fz ((rEx K) chain6)), some (.fz ((rEx K) images10)), some (.fz ((rL (rT2 K (rL rI) (rT2 K rS rI))) reasons17)), some (.fz ((rExS K "Unplaced" (fun t : Int × (List ((List Int) × (Str × Int))) => [("key", rI t.1), ("reasons", (rL (rT2 K (rL rI) (rT2 K rS rI))) t.2)])) loose20))]) (jb_one (js_ret je_bl))) (by repeat' first | exact nn_rai | exact nn_rt | exact nn_rse | exact nn_ct | exact nn_bk | exact nn_stk | refine nn_if ?_ ?_ | (refine nn_bnd ?_; intro _) | (refine nn_then ?_; intro _)) (jb_cx (Γ2 := [some (.fz (rI key1)), some (.fz (rI one2)), some (.fz (rI other3)), some (.fz ((rEx K) chain6)), some (.fz ((rEx K) images10)), some (.fz ((rL (rT2 K (rL rI) (rT2 K rS rI))) reasons17)), some (.fz ((rExS K "Unplaced" (fun t : Int × (List ((List Int) × (Str × Int))) => [("key", rI t.1), ("reasons", (rL (rT2 K (rL rI) (rT2 K rS rI))) t.2)])) loose20))]) (cut_chains_right_1 T X_BrokenChain X_UnlikeImages X_Unplaced C_own hr z hu hu1 key1 one2 other3 chain6 images10 reasons17 loose20)))
theorem cut_chains_right_3 {P : Program} {w : World} {K : PySem.W.Frag} {mg : Str → Option Value} {base : Heap} {f : Addr} {cdv : Value} {A : Around} {outer : List Env} {s : Shared} {H : Hp} {E : XK} {Fm : Fm} {S : Type} {R : S → MP Hp} (T : Txt K mg) (X_BrokenChain : XnC P w K mg base "BrokenChain" ["key", "index"] 1) (X_UnlikeImages : XnC P w K mg base "UnlikeImages" ["key", "index", "other"] 1) (X_Unplaced : XnC P w K mg base "Unplaced" ["key", "reasons"] 1) (C_own : FnC P w K mg base "_law_own" 2 (sp_own K mg)) (hr : Room 2 (A.deeper (envOfC "_law_chains_right" (defScope st_chains_right) s.heap.objs.size f cdv))) (z : ZOk (ZF P w K mg base ["_law_key", "_law_one", "_law_other", "_law_chain", "_law_images", "_law_reasons", "_law_loose"] "_law_chains_right" (defScope st_chains_right) f cdv A outer s H E Fm S R)) (hu : (A.deeper (envOfC "_law_chains_right" (defScope st_chains_right) s.heap.objs.size f cdv)).units + 65 < cLine) (hu1 : (A.deeper (envOfC "_law_chains_right" (defScope st_chains_right) s.heap.objs.size f cdv)).units + 1 < cLine) (key1 : Int) (one2 : Int) (other3 : Int) (chain6 : Xv) (images10 : Xv) (reasons17 : List ((List Int) × (Str × Int))) : JB (ZF P w K mg base ["_law_key", "_law_one", "_law_other", "_law_chain", "_law_images", "_law_reasons", "_law_loose"] "_law_chains_right" (defScope st_chains_right) f cdv A outer s H E Fm S R) [some (.fz (rI key1)), some (.fz (rI one2)), some (.fz (rI other3)), some (.fz ((rEx K) chain6)), some (.fz ((rEx K) images10)), some (.fz ((rL (rT2 K (rL rI) (rT2 K rS rI))) reasons17)), none] (List.drop 3 (defBody st_chains_right)) (bnd (bnd (ret key1) fun v18 => bnd (ret reasons17) fun v19 => ret (v18, v19)) fun loose20 => bnd (bnd (bnd (bnd (ret chain6) fun v21 => bnd (ret (16 : Int)) fun v22 => own_m v21 v22) fun v23 => ret (!v23)) fun v32 => if v32 then ret true else (bnd (bnd (bnd (ret images10) fun v24 => bnd (ret (17 : Int)) fun v25 => own_m v24 v25) fun v26 => ret (!v26)) fun v31 => if v31 then ret true else (bnd (bnd (bnd (ret loose20) fun v27 => ret (("Unplaced", []) : Xv)) fun v28 => bnd (ret (18 : Int)) fun v29 => own_m v28 v29) fun v30 => ret (!v30)))) fun v33 => if v33 then (bnd (ret false) fun v34 => ret (.rt v34)) else (bnd (bnd (bnd (bnd (ret chain6) fun v43 => bnd (grd (List.contains [("WrongState" : Str), ("InvalidValues" : Str), ("NoRow" : Str), ("BrokenChain" : Str), ("UnlikeImages" : Str)] v43.1)) fun _ => getI v43.2 "key") fun v47 => bnd (bnd (ret chain6) fun v44 => bnd (grd (List.contains [("InvalidRecord" : Str), ("BadEntry" : Str), ("BrokenChain" : Str), ("UnlikeImages" : Str)] v44.1)) fun _ => getI v44.2 "index") fun v48 => bnd (bnd (ret loose20) fun v45 => ret v45.1) fun v49 => bnd (bnd (ret loose20) fun v46 => ret v46.2) fun v50 => ret (v47, v48, v49, v50)) fun v61 => bnd (bnd (ret key1) fun v57 => bnd (ret one2) fun v58 => bnd (ret key1) fun v59 => bnd (bnd (bnd (bnd (ret one2) fun v51 => ret [v51]) fun v54 => bnd (bnd (ret ("state" : Str)) fun v52 => bnd (ret (0 : Int)) fun v53 => ret (v52, v53)) fun v55 => ret (v54, v55)) fun v56 => ret [v56]) fun v60 => ret (v57, v58, v59, v60)) fun v62 => neM (fun (x : Int × Int × Int × (List ((List Int) × (Str × Int)))) => (fun _ => true) (x.1) && ((fun _ => true) (x.2.1) && ((fun _ => true) (x.2.2.1) && ((fun xs => List.all xs (fun (x : (List Int) × (Str × Int)) => (fun xs => List.all xs (fun _ => true)) (x.1) && (fun (x : Str × Int) => PyData.strOk (x.1) && (fun _ => true) (x.2)) (x.2))) (x.2.2.2))))) v61 v62) fun v63 => if v63 then (bnd (ret false) fun v64 => ret (.rt v64)) else (bnd (bnd (bnd (bnd (ret images10) fun v71 => bnd (grd (List.contains [("WrongState" : Str), ("InvalidValues" : Str), ("NoRow" : Str), ("BrokenChain" : Str), ("UnlikeImages" : Str)] v71.1)) fun _ => getI v71.2 "key") fun v74 => bnd (bnd (ret images10) fun v72 => bnd (grd (List.contains [("InvalidRecord" : Str), ("BadEntry" : Str), ("BrokenChain" : Str), ("UnlikeImages" : Str)] v72.1)) fun _ => getI v72.2 "index") fun v75 => bnd (bnd (ret images10) fun v73 => bnd (grd (List.contains [("UnlikeImages" : Str)] v73.1)) fun _ => getI v73.2 "other") fun v76 => ret (v74, v75, v76)) fun v80 => bnd (bnd (ret key1) fun v77 => bnd (ret one2) fun v78 => bnd (ret other3) fun v79 => ret (v77, v78, v79)) fun v81 => eqM (fun (x : Int × Int × Int) => (fun _ => true) (x.1) && ((fun _ => true) (x.2.1) && ((fun _ => true) (x.2.2)))) v80 v81) fun v82 => ret (.rt v82))) : M S (Fl Unit Empty Bool)) (fun _ => []) (fun e => nomatch e) (.fz rB) := (jb_set (i := 6) z rfl (by first | exact .inl rfl | exact .inr rfl) (JE.eqm (je_mkV (ρ := .fz (rExS K "Unplaced" (fun t : Int × (List ((List Int) × (Str × Int))) => [("key", rI t.1), ("reasons", (rL (rT2 K (rL rI) (rT2 K rS rI))) t.2)]))) z X_Unplaced hr (ja_cons (je_var (r := rI) (x := key1) 0 rfl (pv 0)) (ja_cons (je_var (r := (rL (rT2 K (rL rI) (rT2 K rS rI)))) (x := reasons17) 5 rfl (pv 5)) ja_nil)) T.vg_Unplaced (rExS K "Unplaced" (fun t : Int × (List ((List Int) × (Str × Int))) => [("key", rI t.1), ("reasons", (rL (rT2 K (rL rI) (rT2 K rS rI))) t.2)])) (fun y => (y.1, y.2.1)) (xv_s2 rfl rfl)) rfl) (fun loose20 => (jb_cx (Γ2 := [some (.fz (rI key1)), some (.fz (rI one2)), some (.fz (rI other3)), some (.fz ((rEx K) chain6)), some (.fz ((rEx K) images10)), some (.fz ((rL (rT2 K (rL rI) (rT2 K rS rI))) reasons17)), some (.fz ((rExS K "Unplaced" (fun t : Int × (List ((List Int) × (Str × Int))) => [("key", rI t.1), ("reasons", (rL (rT2 K (rL rI) (rT2 K rS rI))) t.2)])) loose20))]) (cut_chains_right_2 T X_BrokenChain X_UnlikeImages X_Unplaced C_own hr z hu hu1 key1 one2 other3 chain6 images10 reasons17 loose20))))
theorem cut_chains_right_4 {P : Program} {w : World} {K : PySem.W.Frag} {mg : Str → Option Value} {base : Heap} {f : Addr} {cdv : Value} {A : Around} {outer : List Env} {s : Shared} {H : Hp} {E : XK} {Fm : Fm} {S : Type} {R : S → MP Hp} (T : Txt K mg) (X_BrokenChain : XnC P w K mg base "BrokenChain" ["key", "index"] 1) (X_UnlikeImages : XnC P w K mg base "UnlikeImages" ["key", "index", "other"] 1) (X_Unplaced : XnC P w K mg base "Unplaced" ["key", "reasons"] 1) (C_own : FnC P w K mg base "_law_own" 2 (sp_own K mg)) (hr : Room 2 (A.deeper (envOfC "_law_chains_right" (defScope st_chains_right) s.heap.objs.size f cdv))) (z : ZOk (ZF P w K mg base ["_law_key", "_law_one", "_law_other", "_law_chain", "_law_images", "_law_reasons", "_law_loose"] "_law_chains_right" (defScope st_chains_right) f cdv A outer s H E Fm S R)) (hu : (A.deeper (envOfC "_law_chains_right" (defScope st_chains_right) s.heap.objs.size f cdv)).units + 65 < cLine) (hu1 : (A.deeper (envOfC "_law_chains_right" (defScope st_chains_right) s.heap.objs.size f cdv)).units + 1 < cLine) (key1 : Int) (one2 : Int) (other3 : Int) (chain6 : Xv) (images10 : Xv) : JB (ZF P w K mg base ["_law_key", "_law_one", "_law_other", "_law_chain", "_law_images", "_law_reasons", "_law_loose"] "_law_chains_right" (defScope st_chains_right) f cdv A outer s H E Fm S R) [some (.fz (rI key1)), some (.fz (rI one2)), some (.fz (rI other3)), some (.fz ((rEx K) chain6)), some (.fz ((rEx K) images10)), none, none] (List.drop 2 (defBody st_chains_right)) (bnd (bnd (bnd (bnd (ret one2) fun v11 => ret [v11]) fun v14 => bnd (bnd (ret ("state" : Str)) fun v12 => bnd (ret (0 : Int)) fun v13 => ret (v12, v13)) fun v15 => ret (v14, v15)) fun v16 => ret [v16]) fun reasons17 => bnd (bnd (ret key1) fun v18 => bnd (ret reasons17) fun v19 => ret (v18, v19)) fun loose20 => bnd (bnd (bnd (bnd (ret chain6) fun v21 => bnd (ret (16 : Int)) fun v22 => own_m v21 v22) fun v23 => ret (!v23)) fun v32 => if v32 then ret true else (bnd (bnd (bnd (ret images10) fun v24 => bnd (ret (17 : Int)) fun v25 => own_m v24 v25) fun v26 => ret (!v26)) fun v31 => if v31 then ret true else (bnd (bnd (bnd (ret loose20) fun v27 => ret (("Unplaced", []) : Xv)) fun v28 => bnd (ret (18 : Int)) fun v29 => own_m v28 v29) fun v30 => ret (!v30)))) fun v33 => if v33 then (bnd (ret false) fun v34 => ret (.rt v34)) else (bnd (bnd (bnd (bnd (ret chain6) fun v43 => bnd (grd (List.contains [("WrongState" : Str), ("InvalidValues" : Str), ("NoRow" : Str), ("BrokenChain" : Str), ("UnlikeImages" : Str)] v43.1)) fun _ => getI v43.2 "key") fun v47 => bnd (bnd (ret chain6) fun v44 => bnd (grd (List.contains [("InvalidRecord" : Str), ("BadEntry" : Str), ("BrokenChain" : Str), ("UnlikeImages" : Str)] v44.1)) fun _ => getI v44.2 "index") fun v48 => bnd (bnd (ret loose20) fun v45 => ret v45.1) fun v49 => bnd (bnd (ret loose20) fun v46 => ret v46.2) fun v50 => ret (v47, v48, v49, v50)) fun v61 => bnd (bnd (ret key1) fun v57 => bnd (ret one2) fun v58 => bnd (ret key1) fun v59 => bnd (bnd (bnd (bnd (ret one2) fun v51 => ret [v51]) fun v54 => bnd (bnd (ret ("state" : Str)) fun v52 => bnd (ret (0 : Int)) fun v53 => ret (v52, v53)) fun v55 => ret (v54, v55)) fun v56 => ret [v56]) fun v60 => ret (v57, v58, v59, v60)) fun v62 => neM (fun (x : Int × Int × Int × (List ((List Int) × (Str × Int)))) => (fun _ => true) (x.1) && ((fun _ => true) (x.2.1) && ((fun _ => true) (x.2.2.1) && ((fun xs => List.all xs (fun (x : (List Int) × (Str × Int)) => (fun xs => List.all xs (fun _ => true)) (x.1) && (fun (x : Str × Int) => PyData.strOk (x.1) && (fun _ => true) (x.2)) (x.2))) (x.2.2.2))))) v61 v62) fun v63 => if v63 then (bnd (ret false) fun v64 => ret (.rt v64)) else (bnd (bnd (bnd (bnd (ret images10) fun v71 => bnd (grd (List.contains [("WrongState" : Str), ("InvalidValues" : Str), ("NoRow" : Str), ("BrokenChain" : Str), ("UnlikeImages" : Str)] v71.1)) fun _ => getI v71.2 "key") fun v74 => bnd (bnd (ret images10) fun v72 => bnd (grd (List.contains [("InvalidRecord" : Str), ("BadEntry" : Str), ("BrokenChain" : Str), ("UnlikeImages" : Str)] v72.1)) fun _ => getI v72.2 "index") fun v75 => bnd (bnd (ret images10) fun v73 => bnd (grd (List.contains [("UnlikeImages" : Str)] v73.1)) fun _ => getI v73.2 "other") fun v76 => ret (v74, v75, v76)) fun v80 => bnd (bnd (ret key1) fun v77 => bnd (ret one2) fun v78 => bnd (ret other3) fun v79 => ret (v77, v78, v79)) fun v81 => eqM (fun (x : Int × Int × Int) => (fun _ => true) (x.1) && ((fun _ => true) (x.2.1) && ((fun _ => true) (x.2.2)))) v80 v81) fun v82 => ret (.rt v82))) : M S (Fl Unit Empty Bool)) (fun _ => []) (fun e => nomatch e) (.fz rB) := (jb_set (i := 5) z rfl (by first | exact .inl rfl | exact .inr rfl) (je_frzL (JE.eqm (je_list (jl_cons (JE.eqm (je_tup2 (ja_cons (je_frzL (je_list (jl_cons (je_var (r := rI) (x := one2) 1 rfl (pv 1)) (jl_nil (r := rI))))) (ja_cons (je_tup2 (ja_cons je_str (ja_cons je_int ja_nil))) ja_nil))) rfl) (jl_nil (r := (rT2 K (rL rI) (rT2 K rS rI)))))) rfl)) (fun reasons17 => (jb_cx (Γ2 := [some (.fz (rI key1)), some (.fz (rI one2)), some (.fz (rI other3)), some (.fz ((rEx K) chain6)), some (.fz ((rEx K) images10)), some (.fz ((rL (rT2 K (rL rI) (rT2 K rS rI))) reasons17)), none]) (cut_chains_right_3 T X_BrokenChain X_UnlikeImages X_Unplaced C_own hr z hu hu1 key1 one2 other3 chain6 images10 reasons17))))
theorem cut_chains_right_5 {P : Program} {w : World} {K : PySem.W.Frag} {mg : Str → Option Value} {base : Heap} {f : Addr} {cdv : Value} {A : Around} {outer : List Env} {s : Shared} {H : Hp} {E : XK} {Fm : Fm} {S : Type} {R : S → MP Hp} (T : Txt K mg) (X_BrokenChain : XnC P w K mg base "BrokenChain" ["key", "index"] 1) (X_UnlikeImages : XnC P w K mg base "UnlikeImages" ["key", "index", "other"] 1) (X_Unplaced : XnC P w K mg base "Unplaced" ["key", "reasons"] 1) (C_own : FnC P w K mg base "_law_own" 2 (sp_own K mg)) (hr : Room 2 (A.deeper (envOfC "_law_chains_right" (defScope st_chains_right) s.heap.objs.size f cdv))) (z : ZOk (ZF P w K mg base ["_law_key", "_law_one", "_law_other", "_law_chain", "_law_images", "_law_reasons", "_law_loose"] "_law_chains_right" (defScope st_chains_right) f cdv A outer s H E Fm S R)) (hu : (A.deeper (envOfC "_law_chains_right" (defScope st_chains_right) s.heap.objs.size f cdv)).units + 65 < cLine) (hu1 : (A.deeper (envOfC "_law_chains_right" (defScope st_chains_right) s.heap.objs.size f cdv)).units + 1 < cLine) (key1 : Int) (one2 : Int) (other3 : Int) (chain6 : Xv) : JB (ZF P w K mg base ["_law_key", "_law_one", "_law_other", "_law_chain", "_law_images", "_law_reasons", "_law_loose"] "_law_chains_right" (defScope st_chains_right) f cdv A outer s H E Fm S R) [some (.fz (rI key1)), some (.fz (rI one2)), some (.fz (rI other3)), some (.fz ((rEx K) chain6)), none, none, none] (List.drop 1 (defBody st_chains_right)) (bnd (bnd (ret key1) fun v7 => bnd (ret one2) fun v8 => bnd (ret other3) fun v9 => ret (("UnlikeImages", [("other", Dt.int v9), ("index", Dt.int v8), ("key", Dt.int v7)]) : Xv)) fun images10 => bnd (bnd (bnd (bnd (ret one2) fun v11 => ret [v11]) fun v14 => bnd (bnd (ret ("state" : Str)) fun v12 => bnd (ret (0 : Int)) fun v13 => ret (v12, v13)) fun v15 => ret (v14, v15)) fun v16 => ret [v16]) fun reasons17 => bnd (bnd (ret key1) fun v18 => bnd (ret reasons17) fun v19 => ret (v18, v19)) fun loose20 => bnd (bnd (bnd (bnd (ret chain6) fun v21 => bnd (ret (16 : Int)) fun v22 => own_m v21 v22) fun v23 => ret (!v23)) fun v32 => if v32 then ret true else (bnd (bnd (bnd (ret images10) fun v24 => bnd (ret (17 : Int)) fun v25 => own_m v24 v25) fun v26 => ret (!v26)) fun v31 => if v31 then ret true else (bnd (bnd (bnd (ret loose20) fun v27 => ret (("Unplaced", []) : Xv)) fun v28 => bnd (ret (18 : Int)) fun v29 => own_m v28 v29) fun v30 => ret (!v30)))) fun v33 => if v33 then (bnd (ret false) fun v34 => ret (.rt v34)) else (bnd (bnd (bnd (bnd (ret chain6) fun v43 => bnd (grd (List.contains [("WrongState" : Str), ("InvalidValues" : Str), ("NoRow" : Str), ("BrokenChain" : Str), ("UnlikeImages" : Str)] v43.1)) fun _ => getI v43.2 "key") fun v47 => bnd (bnd (ret chain6) fun v44 => bnd (grd (List.contains [("InvalidRecord" : Str), ("BadEntry" : Str), ("BrokenChain" : Str), ("UnlikeImages" : Str)] v44.1)) fun _ => getI v44.2 "index") fun v48 => bnd (bnd (ret loose20) fun v45 => ret v45.1) fun v49 => bnd (bnd (ret loose20) fun v46 => ret v46.2) fun v50 => ret (v47, v48, v49, v50)) fun v61 => bnd (bnd (ret key1) fun v57 => bnd (ret one2) fun v58 => bnd (ret key1) fun v59 => bnd (bnd (bnd (bnd (ret one2) fun v51 => ret [v51]) fun v54 => bnd (bnd (ret ("state" : Str)) fun v52 => bnd (ret (0 : Int)) fun v53 => ret (v52, v53)) fun v55 => ret (v54, v55)) fun v56 => ret [v56]) fun v60 => ret (v57, v58, v59, v60)) fun v62 => neM (fun (x : Int × Int × Int × (List ((List Int) × (Str × Int)))) => (fun _ => true) (x.1) && ((fun _ => true) (x.2.1) && ((fun _ => true) (x.2.2.1) && ((fun xs => List.all xs (fun (x : (List Int) × (Str × Int)) => (fun xs => List.all xs (fun _ => true)) (x.1) && (fun (x : Str × Int) => PyData.strOk (x.1) && (fun _ => true) (x.2)) (x.2))) (x.2.2.2))))) v61 v62) fun v63 => if v63 then (bnd (ret false) fun v64 => ret (.rt v64)) else (bnd (bnd (bnd (bnd (ret images10) fun v71 => bnd (grd (List.contains [("WrongState" : Str), ("InvalidValues" : Str), ("NoRow" : Str), ("BrokenChain" : Str), ("UnlikeImages" : Str)] v71.1)) fun _ => getI v71.2 "key") fun v74 => bnd (bnd (ret images10) fun v72 => bnd (grd (List.contains [("InvalidRecord" : Str), ("BadEntry" : Str), ("BrokenChain" : Str), ("UnlikeImages" : Str)] v72.1)) fun _ => getI v72.2 "index") fun v75 => bnd (bnd (ret images10) fun v73 => bnd (grd (List.contains [("UnlikeImages" : Str)] v73.1)) fun _ => getI v73.2 "other") fun v76 => ret (v74, v75, v76)) fun v80 => bnd (bnd (ret key1) fun v77 => bnd (ret one2) fun v78 => bnd (ret other3) fun v79 => ret (v77, v78, v79)) fun v81 => eqM (fun (x : Int × Int × Int) => (fun _ => true) (x.1) && ((fun _ => true) (x.2.1) && ((fun _ => true) (x.2.2)))) v80 v81) fun v82 => ret (.rt v82))) : M S (Fl Unit Empty Bool)) (fun _ => []) (fun e => nomatch e) (.fz rB) := (jb_set (i := 4) z rfl (by first | exact .inl rfl | exact .inr rfl) (JE.eqm (je_mkV (ρ := .fz (rEx K)) z X_UnlikeImages hr (ja_cons (je_var (r := rI) (x := key1) 0 rfl (pv 0)) (ja_cons (je_var (r := rI) (x := one2) 1 rfl (pv 1)) (ja_cons (je_var (r := rI) (x := other3) 2 rfl (pv 2)) ja_nil))) T.vg_UnlikeImages (rEx K) (fun y => ("UnlikeImages", [("other", Dt.int y.2.2.1), ("index", Dt.int y.2.1), ("key", Dt.int y.1)])) (xv_dt (xd3 "key" "index" "other" Dt.int Dt.int Dt.int dt_i dt_i dt_i))) rfl) (fun images10 => (jb_cx (Γ2 := [some (.fz (rI key1)), some (.fz (rI one2)), some (.fz (rI other3)), some (.fz ((rEx K) chain6)), some (.fz ((rEx K) images10)), none, none]) (cut_chains_right_4 T X_BrokenChain X_UnlikeImages X_Unplaced C_own hr z hu hu1 key1 one2 other3 chain6 images10))))
theorem ok_chains_right {P : Program} {w : World} {K : PySem.W.Frag} {mg : Str → Option Value} {base : Heap} {f : Addr} {fd : FuncData} (F : FnP K "_law_chains_right" "_law_chains_right" st_chains_right [] [] f fd) (T : Txt K mg) (X_BrokenChain : XnC P w K mg base "BrokenChain" ["key", "index"] 1) (X_UnlikeImages : XnC P w K mg base "UnlikeImages" ["key", "index", "other"] 1) (X_Unplaced : XnC P w K mg base "Unplaced" ["key", "reasons"] 1) (C_own : FnC P w K mg base "_law_own" 2 (sp_own K mg)) : FnOk P w K mg base (L2.CX P w) 3 f fd ["_law_key", "_law_one", "_law_other"] (sp_chains_right K mg) := by
  refine fn_mk (k := 2) (mb := fun S R c y => chains_right_mb y.1 y.2.1 y.2.2.1) (Γ0 := fun S R c y => [some (.fz (rI y.1)), some (.fz (rI y.2.1)), some (.fz (rI y.2.2.1)), none, none, none, none]) (Γ' := fun _ => []) (Γb := fun e => nomatch e) F sc_chains_right (fun S R c y vs G h => (len_raC (len_raC (len_raC len_raN))) h) (fun _ _ _ _ => rfl) (fun S R c y vs G h => (so_raC (so_raC (so_raC (so_raN (n := 4))))) h) (fun _ _ _ _ => by exact Nat.le_of_ble_eq_true rfl) (by exact Nat.le_of_ble_eq_true rfl) ?_
  intro cdv A outer s H E Fm S R cp y hr z
  have hu := DL.Room.hu hr
  have hu1 := DL.Room.hu1 hr
  obtain ⟨key1, one2, other3, _⟩ := y
  exact JB.eq (m := (bnd (bnd (ret key1) fun v4 => bnd (ret one2) fun v5 => ret (("BrokenChain", [("index", Dt.int v5), ("key", Dt.int v4)]) : Xv)) fun chain6 => bnd (bnd (ret key1) fun v7 => bnd (ret one2) fun v8 => bnd (ret other3) fun v9 => ret (("UnlikeImages", [("other", Dt.int v9), ("index", Dt.int v8), ("key", Dt.int v7)]) : Xv)) fun images10 => bnd (bnd (bnd (bnd (ret one2) fun v11 => ret [v11]) fun v14 => bnd (bnd (ret ("state" : Str)) fun v12 => bnd (ret (0 : Int)) fun v13 => ret (v12, v13)) fun v15 => ret (v14, v15)) fun v16 => ret [v16]) fun reasons17 => bnd (bnd (ret key1) fun v18 => bnd (ret reasons17) fun v19 => ret (v18, v19)) fun loose20 => bnd (bnd (bnd (bnd (ret chain6) fun v21 => bnd (ret (16 : Int)) fun v22 => own_m v21 v22) fun v23 => ret (!v23)) fun v32 => if v32 then ret true else (bnd (bnd (bnd (ret images10) fun v24 => bnd (ret (17 : Int)) fun v25 => own_m v24 v25) fun v26 => ret (!v26)) fun v31 => if v31 then ret true else (bnd (bnd (bnd (ret loose20) fun v27 => ret (("Unplaced", []) : Xv)) fun v28 => bnd (ret (18 : Int)) fun v29 => own_m v28 v29) fun v30 => ret (!v30)))) fun v33 => if v33 then (bnd (ret false) fun v34 => ret (.rt v34)) else (bnd (bnd (bnd (bnd (ret chain6) fun v43 => bnd (grd (List.contains [("WrongState" : Str), ("InvalidValues" : Str), ("NoRow" : Str), ("BrokenChain" : Str), ("UnlikeImages" : Str)] v43.1)) fun _ => getI v43.2 "key") fun v47 => bnd (bnd (ret chain6) fun v44 => bnd (grd (List.contains [("InvalidRecord" : Str), ("BadEntry" : Str), ("BrokenChain" : Str), ("UnlikeImages" : Str)] v44.1)) fun _ => getI v44.2 "index") fun v48 => bnd (bnd (ret loose20) fun v45 => ret v45.1) fun v49 => bnd (bnd (ret loose20) fun v46 => ret v46.2) fun v50 => ret (v47, v48, v49, v50)) fun v61 => bnd (bnd (ret key1) fun v57 => bnd (ret one2) fun v58 => bnd (ret key1) fun v59 => bnd (bnd (bnd (bnd (ret one2) fun v51 => ret [v51]) fun v54 => bnd (bnd (ret ("state" : Str)) fun v52 => bnd (ret (0 : Int)) fun v53 => ret (v52, v53)) fun v55 => ret (v54, v55)) fun v56 => ret [v56]) fun v60 => ret (v57, v58, v59, v60)) fun v62 => neM (fun (x : Int × Int × Int × (List ((List Int) × (Str × Int)))) => (fun _ => true) (x.1) && ((fun _ => true) (x.2.1) && ((fun _ => true) (x.2.2.1) && ((fun xs => List.all xs (fun (x : (List Int) × (Str × Int)) => (fun xs => List.all xs (fun _ => true)) (x.1) && (fun (x : Str × Int) => PyData.strOk (x.1) && (fun _ => true) (x.2)) (x.2))) (x.2.2.2))))) v61 v62) fun v63 => if v63 then (bnd (ret false) fun v64 => ret (.rt v64)) else (bnd (bnd (bnd (bnd (ret images10) fun v71 => bnd (grd (List.contains [("WrongState" : Str), ("InvalidValues" : Str), ("NoRow" : Str), ("BrokenChain" : Str), ("UnlikeImages" : Str)] v71.1)) fun _ => getI v71.2 "key") fun v74 => bnd (bnd (ret images10) fun v72 => bnd (grd (List.contains [("InvalidRecord" : Str), ("BadEntry" : Str), ("BrokenChain" : Str), ("UnlikeImages" : Str)] v72.1)) fun _ => getI v72.2 "index") fun v75 => bnd (bnd (ret images10) fun v73 => bnd (grd (List.contains [("UnlikeImages" : Str)] v73.1)) fun _ => getI v73.2 "other") fun v76 => ret (v74, v75, v76)) fun v80 => bnd (bnd (ret key1) fun v77 => bnd (ret one2) fun v78 => bnd (ret other3) fun v79 => ret (v77, v78, v79)) fun v81 => eqM (fun (x : Int × Int × Int) => (fun _ => true) (x.1) && ((fun _ => true) (x.2.1) && ((fun _ => true) (x.2.2)))) v80 v81) fun v82 => ret (.rt v82))) : M S (Fl Unit Empty Bool))) (jb_cx (Γ2 := [some (.fz (rI key1)), some (.fz (rI one2)), some (.fz (rI other3)), none, none, none, none]) (jb_set (i := 3) z rfl (by first | exact .inl rfl | exact .inr rfl) (JE.eqm (je_mkV (ρ := .fz (rEx K)) z X_BrokenChain hr (ja_cons (je_var (r := rI) (x := key1) 0 rfl (pv 0)) (ja_cons (je_var (r := rI) (x := one2) 1 rfl (pv 1)) ja_nil)) T.vg_BrokenChain (rEx K) (fun y => ("BrokenChain", [("index", Dt.int y.2.1), ("key", Dt.int y.1)])) (xv_dt (xd2 "key" "index" Dt.int Dt.int dt_i dt_i))) rfl) (fun chain6 => (jb_cx (Γ2 := [some (.fz (rI key1)), some (.fz (rI one2)), some (.fz (rI other3)), some (.fz ((rEx K) chain6)), none, none, none]) (cut_chains_right_5 T X_BrokenChain X_UnlikeImages X_Unplaced C_own hr z hu hu1 key1 one2 other3 chain6))))) (by simp only [ret_bnd, rdM_some, raiM_rse, chains_right_mb])
abbrev st_law : Stmt := (top 32)
theorem sc_law : FnScope ["_law_script", "_law_bag_here", "_law_names_here", "_law_key", "_law_one", "_law_other"] ["_law_script"] (defScope st_law) := ⟨rfl, rfl, rfl, by decide +kernel, rfl, by decide +kernel, by decide +kernel⟩
def law_mb {S : Type} (b : BagIn S) : M S (Fl Unit Empty Bool) := bnd (names_m b (2 : Int) [("before" : Str), ("after" : Str), ("absent" : Str), ("carry" : Str)]) fun names8 => bnd (draw_m b (1000000 : Int)) fun key11 => bnd (draw_m b (400 : Int)) fun one14 => bnd (bnd (draw_m b (400 : Int)) fun v18 => ret (one14 + v18)) fun other19 => bnd (bnd (bnd (bnd (opt (atI names8 (0 : Int))) fun v24 => bnd (opt (atI names8 (1 : Int))) fun v25 => names_right_m v24 v25) fun v26 => ret (!v26)) fun v34 => if v34 then ret true else (bnd (bnd (opt (atI names8 (1 : Int))) fun v30 => numbers_right_m key11 v30 one14 other19) fun v33 => ret (!v33))) fun v35 => if v35 then (ret (.rt false)) else (bnd (bnd (bnd (own_m (("InvalidCycle", []) : Xv) (2 : Int)) fun v39 => ret (!v39)) fun v47 => if v47 then ret true else (bnd (bnd (own_m (("OtherCycle", []) : Xv) (5 : Int)) fun v42 => ret (!v42)) fun v46 => if v46 then ret true else (bnd (own_m (("Finished", []) : Xv) (19 : Int)) fun v45 => ret (!v45)))) fun v48 => if v48 then (ret (.rt false)) else (bnd (bnd (bnd (own_m (("BatchOpen", []) : Xv) (8 : Int)) fun v52 => ret (!v52)) fun v56 => if v56 then ret true else (bnd (own_m (("BatchClosed", []) : Xv) (9 : Int)) fun v55 => ret (!v55))) fun v57 => if v57 then (ret (.rt false)) else (bnd (chains_right_m key11 one14 other19) fun v62 => ret (.rt v62))))
theorem cut_law_0 {P : Program} {w : World} {K : PySem.W.Frag} {mg : Str → Option Value} {base : Heap} {f : Addr} {cdv : Value} {A : Around} {outer : List Env} {s : Shared} {H : Hp} {E : XK} {Fm : Fm} {S : Type} {R : S → MP Hp} (cp : BagC S R) (T : Txt K mg) (C_names : FnC P w K mg base "_law_names" 2 (sp_names K mg)) (C_draw : FnC P w K mg base "_law_draw" 1 (sp_draw K mg)) (C_names_right : FnC P w K mg base "_law_names_right" 3 (sp_names_right K mg)) (C_numbers_right : FnC P w K mg base "_law_numbers_right" 3 (sp_numbers_right K mg)) (C_own : FnC P w K mg base "_law_own" 2 (sp_own K mg)) (X_InvalidCycle : XzC K mg "InvalidCycle") (X_OtherCycle : XzC K mg "OtherCycle") (X_Finished : XzC K mg "Finished") (X_BatchOpen : XzC K mg "BatchOpen") (X_BatchClosed : XzC K mg "BatchClosed") (C_chains_right : FnC P w K mg base "_law_chains_right" 3 (sp_chains_right K mg)) (hr : Room 3 (A.deeper (envOfC "law" (defScope st_law) s.heap.objs.size f cdv))) (z : ZOk (ZF P w K mg base ["_law_script", "_law_bag_here", "_law_names_here", "_law_key", "_law_one", "_law_other"] "law" (defScope st_law) f cdv A outer s H E Fm S R)) (hu : (A.deeper (envOfC "law" (defScope st_law) s.heap.objs.size f cdv)).units + 65 < cLine) (hu1 : (A.deeper (envOfC "law" (defScope st_law) s.heap.objs.size f cdv)).units + 1 < cLine) (names8 : List Str) (key11 : Int) (one14 : Int) (other19 : Int) : JB (ZF P w K mg base ["_law_script", "_law_bag_here", "_law_names_here", "_law_key", "_law_one", "_law_other"] "law" (defScope st_law) f cdv A outer s H E Fm S R) [none, some (.fz ((rBag cp.ab) ())), some (.fz ((rL rS) names8)), some (.fz (rI key11)), some (.fz (rI one14)), some (.fz (rI other19))] (List.drop 8 (defBody st_law)) (bnd (bnd (ret key11) fun v59 => bnd (ret one14) fun v60 => bnd (ret other19) fun v61 => chains_right_m v59 v60 v61) fun v62 => ret (.rt v62) : M S (Fl Unit Empty Bool)) (fun _ => []) (fun e => nomatch e) (.fz rB) := (jb_one (js_ret (je_call z C_chains_right hr ⟨⟩ (ja_cons (je_var (r := rI) (x := key11) 3 rfl (pv 3)) (ja_cons (je_var (r := rI) (x := one14) 4 rfl (pv 4)) (ja_cons (je_var (r := rI) (x := other19) 5 rfl (pv 5)) ja_nil))))))
theorem cut_law_1 {P : Program} {w : World} {K : PySem.W.Frag} {mg : Str → Option Value} {base : Heap} {f : Addr} {cdv : Value} {A : Around} {outer : List Env} {s : Shared} {H : Hp} {E : XK} {Fm : Fm} {S : Type} {R : S → MP Hp} (cp : BagC S R) (T : Txt K mg) (C_names : FnC P w K mg base "_law_names" 2 (sp_names K mg)) (C_draw : FnC P w K mg base "_law_draw" 1 (sp_draw K mg)) (C_names_right : FnC P w K mg base "_law_names_right" 3 (sp_names_right K mg)) (C_numbers_right : FnC P w K mg base "_law_numbers_right" 3 (sp_numbers_right K mg)) (C_own : FnC P w K mg base "_law_own" 2 (sp_own K mg)) (X_InvalidCycle : XzC K mg "InvalidCycle") (X_OtherCycle : XzC K mg "OtherCycle") (X_Finished : XzC K mg "Finished") (X_BatchOpen : XzC K mg "BatchOpen") (X_BatchClosed : XzC K mg "BatchClosed") (C_chains_right : FnC P w K mg base "_law_chains_right" 3 (sp_chains_right K mg)) (hr : Room 3 (A.deeper (envOfC "law" (defScope st_law) s.heap.objs.size f cdv))) (z : ZOk (ZF P w K mg base ["_law_script", "_law_bag_here", "_law_names_here", "_law_key", "_law_one", "_law_other"] "law" (defScope st_law) f cdv A outer s H E Fm S R)) (hu : (A.deeper (envOfC "law" (defScope st_law) s.heap.objs.size f cdv)).units + 65 < cLine) (hu1 : (A.deeper (envOfC "law" (defScope st_law) s.heap.objs.size f cdv)).units + 1 < cLine) (names8 : List Str) (key11 : Int) (one14 : Int) (other19 : Int) : JB (ZF P w K mg base ["_law_script", "_law_bag_here", "_law_names_here", "_law_key", "_law_one", "_law_other"] "law" (defScope st_law) f cdv A outer s H E Fm S R) [none, some (.fz ((rBag cp.ab) ())), some (.fz ((rL rS) names8)), some (.fz (rI key11)), some (.fz (rI one14)), some (.fz (rI other19))] (List.drop 7 (defBody st_law)) (bnd (bnd (bnd (bnd (ret (("BatchOpen", []) : Xv)) fun v50 => bnd (ret (8 : Int)) fun v51 => own_m v50 v51) fun v52 => ret (!v52)) fun v56 => if v56 then ret true else (bnd (bnd (ret (("BatchClosed", []) : Xv)) fun v53 => bnd (ret (9 : Int)) fun v54 => own_m v53 v54) fun v55 => ret (!v55))) fun v57 => if v57 then (bnd (ret false) fun v58 => ret (.rt v58)) else (bnd (bnd (ret key11) fun v59 => bnd (ret one14) fun v60 => bnd (ret other19) fun v61 => chains_right_m v59 v60 v61) fun v62 => ret (.rt v62)) : M S (Fl Unit Empty Bool)) (fun _ => []) (fun e => nomatch e) (.fz rB) := (jb_ifR (JW.jt (jw_or (jt_not (jt_val (je_call z C_own hr ⟨⟩ (ja_cons (je_mkV0 X_BatchOpen T.vg_BatchOpen) (ja_cons je_int ja_nil))))) (jw_or1 (jt_not (jt_val (je_call z C_own hr ⟨⟩ (ja_cons (je_mkV0 X_BatchClosed T.vg_BatchClosed) (ja_cons je_int ja_nil)))))))) (jb_cx (Γ2 := [none, some (.fz ((rBag cp.ab) ())), some (.fz ((rL rS) names8)), some (.fz (rI key11)), some (.fz (rI one14)), some (.fz (rI other19))]) (jb_one (js_ret je_bl))) (by repeat' first | exact nn_rai | exact nn_rt | exact nn_rse | exact nn_ct | exact nn_bk | exact nn_stk | refine nn_if ?_ ?_ | (refine nn_bnd ?_; intro _) | (refine nn_then ?_; intro _)) (jb_cx (Γ2 := [none, some (.fz ((rBag cp.ab) ())), some (.fz ((rL rS) names8)), some (.fz (rI key11)), some (.fz (rI one14)), some (.fz (rI other19))]) (cut_law_0 cp T C_names C_draw C_names_right C_numbers_right C_own X_InvalidCycle X_OtherCycle X_Finished X_BatchOpen X_BatchClosed C_chains_right hr z hu hu1 names8 key11 one14 other19)))
theorem cut_law_2 {P : Program} {w : World} {K : PySem.W.Frag} {mg : Str → Option Value} {base : Heap} {f : Addr} {cdv : Value} {A : Around} {outer : List Env} {s : Shared} {H : Hp} {E : XK} {Fm : Fm} {S : Type} {R : S → MP Hp} (cp : BagC S R) (T : Txt K mg) (C_names : FnC P w K mg base "_law_names" 2 (sp_names K mg)) (C_draw : FnC P w K mg base "_law_draw" 1 (sp_draw K mg)) (C_names_right : FnC P w K mg base "_law_names_right" 3 (sp_names_right K mg)) (C_numbers_right : FnC P w K mg base "_law_numbers_right" 3 (sp_numbers_right K mg)) (C_own : FnC P w K mg base "_law_own" 2 (sp_own K mg)) (X_InvalidCycle : XzC K mg "InvalidCycle") (X_OtherCycle : XzC K mg "OtherCycle") (X_Finished : XzC K mg "Finished") (X_BatchOpen : XzC K mg "BatchOpen") (X_BatchClosed : XzC K mg "BatchClosed") (C_chains_right : FnC P w K mg base "_law_chains_right" 3 (sp_chains_right K mg)) (hr : Room 3 (A.deeper (envOfC "law" (defScope st_law) s.heap.objs.size f cdv))) (z : ZOk (ZF P w K mg base ["_law_script", "_law_bag_here", "_law_names_here", "_law_key", "_law_one", "_law_other"] "law" (defScope st_law) f cdv A outer s H E Fm S R)) (hu : (A.deeper (envOfC "law" (defScope st_law) s.heap.objs.size f cdv)).units + 65 < cLine) (hu1 : (A.deeper (envOfC "law" (defScope st_law) s.heap.objs.size f cdv)).units + 1 < cLine) (names8 : List Str) (key11 : Int) (one14 : Int) (other19 : Int) : JB (ZF P w K mg base ["_law_script", "_law_bag_here", "_law_names_here", "_law_key", "_law_one", "_law_other"] "law" (defScope st_law) f cdv A outer s H E Fm S R) [none, some (.fz ((rBag cp.ab) ())), some (.fz ((rL rS) names8)), some (.fz (rI key11)), some (.fz (rI one14)), some (.fz (rI other19))] (List.drop 6 (defBody st_law)) (bnd (bnd (bnd (bnd (ret (("InvalidCycle", []) : Xv)) fun v37 => bnd (ret (2 : Int)) fun v38 => own_m v37 v38) fun v39 => ret (!v39)) fun v47 => if v47 then ret true else (bnd (bnd (bnd (ret (("OtherCycle", []) : Xv)) fun v40 => bnd (ret (5 : Int)) fun v41 => own_m v40 v41) fun v42 => ret (!v42)) fun v46 => if v46 then ret true else (bnd (bnd (ret (("Finished", []) : Xv)) fun v43 => bnd (ret (19 : Int)) fun v44 => own_m v43 v44) fun v45 => ret (!v45)))) fun v48 => if v48 then (bnd (ret false) fun v49 => ret (.rt v49)) else (bnd (bnd (bnd (bnd (ret (("BatchOpen", []) : Xv)) fun v50 => bnd (ret (8 : Int)) fun v51 => own_m v50 v51) fun v52 => ret (!v52)) fun v56 => if v56 then ret true else (bnd (bnd (ret (("BatchClosed", []) : Xv)) fun v53 => bnd (ret (9 : Int)) fun v54 => own_m v53 v54) fun v55 => ret (!v55))) fun v57 => if v57 then (bnd (ret false) fun v58 => ret (.rt v58)) else (bnd (bnd (ret key11) fun v59 => bnd (ret one14) fun v60 => bnd (ret other19) fun v61 => chains_right_m v59 v60 v61) fun v62 => ret (.rt v62))) : M S (Fl Unit Empty Bool)) (fun _ => []) (fun e => nomatch e) (.fz rB) := (jb_ifR (JW.jt (jw_or (jt_not (jt_val (je_call z C_own hr ⟨⟩ (ja_cons (je_mkV0 X_InvalidCycle T.vg_InvalidCycle) (ja_cons je_int ja_nil))))) (jw_or (jt_not (jt_val (je_call z C_own hr ⟨⟩ (ja_cons (je_mkV0 X_OtherCycle T.vg_OtherCycle) (ja_cons je_int ja_nil))))) (jw_or1 (jt_not (jt_val (je_call z C_own hr ⟨⟩ (ja_cons (je_mkV0 X_Finished T.vg_Finished) (ja_cons je_int ja_nil))))))))) (jb_cx (Γ2 := [none, some (.fz ((rBag cp.ab) ())), some (.fz ((rL rS) names8)), some (.fz (rI key11)), some (.fz (rI one14)), some (.fz (rI other19))]) (jb_one (js_ret je_bl))) (by repeat' first | exact nn_rai | exact nn_rt | exact nn_rse | exact nn_ct | exact nn_bk | exact nn_stk | refine nn_if ?_ ?_ | (refine nn_bnd ?_; intro _) | (refine nn_then ?_; intro _)) (jb_cx (Γ2 := [none, some (.fz ((rBag cp.ab) ())), some (.fz ((rL rS) names8)), some (.fz (rI key11)), some (.fz (rI one14)), some (.fz (rI other19))]) (cut_law_1 cp T C_names C_draw C_names_right C_numbers_right C_own X_InvalidCycle X_OtherCycle X_Finished X_BatchOpen X_BatchClosed C_chains_right hr z hu hu1 names8 key11 one14 other19)))
theorem cut_law_3 {P : Program} {w : World} {K : PySem.W.Frag} {mg : Str → Option Value} {base : Heap} {f : Addr} {cdv : Value} {A : Around} {outer : List Env} {s : Shared} {H : Hp} {E : XK} {Fm : Fm} {S : Type} {R : S → MP Hp} (cp : BagC S R) (T : Txt K mg) (C_names : FnC P w K mg base "_law_names" 2 (sp_names K mg)) (C_draw : FnC P w K mg base "_law_draw" 1 (sp_draw K mg)) (C_names_right : FnC P w K mg base "_law_names_right" 3 (sp_names_right K mg)) (C_numbers_right : FnC P w K mg base "_law_numbers_right" 3 (sp_numbers_right K mg)) (C_own : FnC P w K mg base "_law_own" 2 (sp_own K mg)) (X_InvalidCycle : XzC K mg "InvalidCycle") (X_OtherCycle : XzC K mg "OtherCycle") (X_Finished : XzC K mg "Finished") (X_BatchOpen : XzC K mg "BatchOpen") (X_BatchClosed : XzC K mg "BatchClosed") (C_chains_right : FnC P w K mg base "_law_chains_right" 3 (sp_chains_right K mg)) (hr : Room 3 (A.deeper (envOfC "law" (defScope st_law) s.heap.objs.size f cdv))) (z : ZOk (ZF P w K mg base ["_law_script", "_law_bag_here", "_law_names_here", "_law_key", "_law_one", "_law_other"] "law" (defScope st_law) f cdv A outer s H E Fm S R)) (hu : (A.deeper (envOfC "law" (defScope st_law) s.heap.objs.size f cdv)).units + 65 < cLine) (hu1 : (A.deeper (envOfC "law" (defScope st_law) s.heap.objs.size f cdv)).units + 1 < cLine) (names8 : List Str) (key11 : Int) (one14 : Int) (other19 : Int) : JB (ZF P w K mg base ["_law_script", "_law_bag_here", "_law_names_here", "_law_key", "_law_one", "_law_other"] "law" (defScope st_law) f cdv A outer s H E Fm S R) [none, some (.fz ((rBag cp.ab) ())), some (.fz ((rL rS) names8)), some (.fz (rI key11)), some (.fz (rI one14)), some (.fz (rI other19))] (List.drop 5 (defBody st_law)) (bnd (bnd (bnd (bnd (bnd (ret names8) fun v20 => bnd (ret (0 : Int)) fun v21 => opt (atI v20 v21)) fun v24 => bnd (bnd (ret names8) fun v22 => bnd (ret (1 : Int)) fun v23 => opt (atI v22 v23)) fun v25 => names_right_m v24 v25) fun v26 => ret (!v26)) fun v34 => if v34 then ret true else (bnd (bnd (ret key11) fun v29 => bnd (bnd (ret names8) fun v27 => bnd (ret (1 : Int)) fun v28 => opt (atI v27 v28)) fun v30 => bnd (ret one14) fun v31 => bnd (ret other19) fun v32 => numbers_right_m v29 v30 v31 v32) fun v33 => ret (!v33))) fun v35 => if v35 then (bnd (ret false) fun v36 => ret (.rt v36)) else (bnd (bnd (bnd (bnd (ret (("InvalidCycle", []) : Xv)) fun v37 => bnd (ret (2 : Int)) fun v38 => own_m v37 v38) fun v39 => ret (!v39)) fun v47 => if v47 then ret true else (bnd (bnd (bnd (ret (("OtherCycle", []) : Xv)) fun v40 => bnd (ret (5 : Int)) fun v41 => own_m v40 v41) fun v42 => ret (!v42)) fun v46 => if v46 then ret true else (bnd (bnd (ret (("Finished", []) : Xv)) fun v43 => bnd (ret (19 : Int)) fun v44 => own_m v43 v44) fun v45 => ret (!v45)))) fun v48 => if v48 then (bnd (ret false) fun v49 => ret (.rt v49)) else (bnd (bnd (bnd (bnd (ret (("BatchOpen", []) : Xv)) fun v50 => bnd (ret (8 : Int)) fun v51 => own_m v50 v51) fun v52 => ret (!v52)) fun v56 => if v56 then ret true else (bnd (bnd (ret (("BatchClosed", []) : Xv)) fun v53 => bnd (ret (9 : Int)) fun v54 => own_m v53 v54) fun v55 => ret (!v55))) fun v57 => if v57 then (bnd (ret false) fun v58 => ret (.rt v58)) else (bnd (bnd (ret key11) fun v59 => bnd (ret one14) fun v60 => bnd (ret other19) fun v61 => chains_right_m v59 v60 v61) fun v62 => ret (.rt v62)))) : M S (Fl Unit Empty Bool)) (fun _ => []) (fun e => nomatch e) (.fz rB) := (jb_ifR (JW.jt (jw_or (jt_not (jt_val (je_call z C_names_right hr ⟨⟩ (ja_cons (je_ixL (je_var (r := (rL rS)) (x := names8) 2 rfl (pv 2)) je_int) (ja_cons (je_ixL (je_var (r := (rL rS)) (x := names8) 2 rfl (pv 2)) je_int) ja_nil))))) (jw_or1 (jt_not (jt_val (je_call z C_numbers_right hr ⟨⟩ (ja_cons (je_var (r := rI) (x := key11) 3 rfl (pv 3)) (ja_cons (je_ixL (je_var (r := (rL rS)) (x := names8) 2 rfl (pv 2)) je_int) (ja_cons (je_var (r := rI) (x := one14) 4 rfl (pv 4)) (ja_cons (je_var (r := rI) (x := other19) 5 rfl (pv 5)) ja_nil)))))))))) (jb_cx (Γ2 := [none, some (.fz ((rBag cp.ab) ())), some (.fz ((rL rS) names8)), some (.fz (rI key11)), some (.fz (rI one14)), some (.fz (rI other19))]) (jb_one (js_ret je_bl))) (by repeat' first | exact nn_rai | exact nn_rt | exact nn_rse | exact nn_ct | exact nn_bk | exact nn_stk | refine nn_if ?_ ?_ | (refine nn_bnd ?_; intro _) | (refine nn_then ?_; intro _)) (jb_cx (Γ2 := [none, some (.fz ((rBag cp.ab) ())), some (.fz ((rL rS) names8)), some (.fz (rI key11)), some (.fz (rI one14)), some (.fz (rI other19))]) (cut_law_2 cp T C_names C_draw C_names_right C_numbers_right C_own X_InvalidCycle X_OtherCycle X_Finished X_BatchOpen X_BatchClosed C_chains_right hr z hu hu1 names8 key11 one14 other19)))
theorem cut_law_4 {P : Program} {w : World} {K : PySem.W.Frag} {mg : Str → Option Value} {base : Heap} {f : Addr} {cdv : Value} {A : Around} {outer : List Env} {s : Shared} {H : Hp} {E : XK} {Fm : Fm} {S : Type} {R : S → MP Hp} (cp : BagC S R) (T : Txt K mg) (C_names : FnC P w K mg base "_law_names" 2 (sp_names K mg)) (C_draw : FnC P w K mg base "_law_draw" 1 (sp_draw K mg)) (C_names_right : FnC P w K mg base "_law_names_right" 3 (sp_names_right K mg)) (C_numbers_right : FnC P w K mg base "_law_numbers_right" 3 (sp_numbers_right K mg)) (C_own : FnC P w K mg base "_law_own" 2 (sp_own K mg)) (X_InvalidCycle : XzC K mg "InvalidCycle") (X_OtherCycle : XzC K mg "OtherCycle") (X_Finished : XzC K mg "Finished") (X_BatchOpen : XzC K mg "BatchOpen") (X_BatchClosed : XzC K mg "BatchClosed") (C_chains_right : FnC P w K mg base "_law_chains_right" 3 (sp_chains_right K mg)) (hr : Room 3 (A.deeper (envOfC "law" (defScope st_law) s.heap.objs.size f cdv))) (z : ZOk (ZF P w K mg base ["_law_script", "_law_bag_here", "_law_names_here", "_law_key", "_law_one", "_law_other"] "law" (defScope st_law) f cdv A outer s H E Fm S R)) (hu : (A.deeper (envOfC "law" (defScope st_law) s.heap.objs.size f cdv)).units + 65 < cLine) (hu1 : (A.deeper (envOfC "law" (defScope st_law) s.heap.objs.size f cdv)).units + 1 < cLine) (names8 : List Str) (key11 : Int) (one14 : Int) : JB (ZF P w K mg base ["_law_script", "_law_bag_here", "_law_names_here", "_law_key", "_law_one", "_law_other"] "law" (defScope st_law) f cdv A outer s H E Fm S R) [none, some (.fz ((rBag cp.ab) ())), some (.fz ((rL rS) names8)), some (.fz (rI key11)), some (.fz (rI one14)), none] (List.drop 4 (defBody st_law)) (bnd (bnd (ret one14) fun v17 => bnd (bnd (ret ()) fun v15 => bnd (ret (400 : Int)) fun v16 => draw_m cp.b v16) fun v18 => ret (v17 + v18)) fun other19 => bnd (bnd (bnd (bnd (bnd (ret names8) fun v20 => bnd (ret (0 : Int)) fun v21 => opt (atI v20 v21)) fun v24 => bnd (bnd (ret names8) fun v22 => bnd (ret (1 : Int)) fun v23 => opt (atI v22 v23)) fun v25 => names_right_m v24 v25) fun v26 => ret (!v26)) fun v34 => if v34 then ret true else (bnd (bnd (ret key11) fun v29 => bnd (bnd (ret names8) fun v27 => bnd (ret (1 : Int)) fun v28 => opt (atI v27 v28)) fun v30 => bnd (ret one14) fun v31 => bnd (ret other19) fun v32 => numbers_right_m v29 v30 v31 v32) fun v33 => ret (!v33))) fun v35 => if v35 then (bnd (ret false) fun v36 => ret (.rt v36)) else (bnd (bnd (bnd (bnd (ret (("InvalidCycle", []) : Xv)) fun v37 => bnd (ret (2 : Int)) fun v38 => own_m v37 v38) fun v39 => ret (!v39)) fun v47 => if v47 then ret true else (bnd (bnd (bnd (ret (("OtherCycle", []) : Xv)) fun v40 => bnd (ret (5 : Int)) fun v41 => own_m v40 v41) fun v42 => ret (!v42)) fun v46 => if v46 then ret true else (bnd (bnd (ret (("Finished", []) : Xv)) fun v43 => bnd (ret (19 : Int)) fun v44 => own_m v43 v44) fun v45 => ret (!v45)))) fun v48 => if v48 then (bnd (ret false) fun v49 => ret (.rt v49)) else (bnd (bnd (bnd (bnd (ret (("BatchOpen", []) : Xv)) fun v50 => bnd (ret (8 : Int)) fun v51 => own_m v50 v51) fun v52 => ret (!v52)) fun v56 => if v56 then ret true else (bnd (bnd (ret (("BatchClosed", []) : Xv)) fun v53 => bnd (ret (9 : Int)) fun v54 => own_m v53 v54) fun v55 => ret (!v55))) fun v57 => if v57 then (bnd (ret false) fun v58 => ret (.rt v58)) else (bnd (bnd (ret key11) fun v59 => bnd (ret one14) fun v60 => bnd (ret other19) fun v61 => chains_right_m v59 v60 v61) fun v62 => ret (.rt v62)))) : M S (Fl Unit Empty Bool)) (fun _ => []) (fun e => nomatch e) (.fz rB) := (jb_set (i := 5) z rfl (by first | exact .inl rfl | exact .inr rfl) (je_add (je_var (r := rI) (x := one14) 4 rfl (pv 4)) (je_call z C_draw hr cp (ja_cons (je_var (r := rBag cp.ab) (x := ()) 1 rfl (pv 1)) (ja_cons je_int ja_nil)))) (fun other19 => (jb_cx (Γ2 := [none, some (.fz ((rBag cp.ab) ())), some (.fz ((rL rS) names8)), some (.fz (rI key11)), some (.fz (rI one14)), some (.fz (rI other19))]) (cut_law_3 cp T C_names C_draw C_names_right C_numbers_right C_own X_InvalidCycle X_OtherCycle X_Finished X_BatchOpen X_BatchClosed C_chains_right hr z hu hu1 names8 key11 one14 other19))))
theorem cut_law_5 {P : Program} {w : World} {K : PySem.W.Frag} {mg : Str → Option Value} {base : Heap} {f : Addr} {cdv : Value} {A : Around} {outer : List Env} {s : Shared} {H : Hp} {E : XK} {Fm : Fm} {S : Type} {R : S → MP Hp} (cp : BagC S R) (T : Txt K mg) (C_names : FnC P w K mg base "_law_names" 2 (sp_names K mg)) (C_draw : FnC P w K mg base "_law_draw" 1 (sp_draw K mg)) (C_names_right : FnC P w K mg base "_law_names_right" 3 (sp_names_right K mg)) (C_numbers_right : FnC P w K mg base "_law_numbers_right" 3 (sp_numbers_right K mg)) (C_own : FnC P w K mg base "_law_own" 2 (sp_own K mg)) (X_InvalidCycle : XzC K mg "InvalidCycle") (X_OtherCycle : XzC K mg "OtherCycle") (X_Finished : XzC K mg "Finished") (X_BatchOpen : XzC K mg "BatchOpen") (X_BatchClosed : XzC K mg "BatchClosed") (C_chains_right : FnC P w K mg base "_law_chains_right" 3 (sp_chains_right K mg)) (hr : Room 3 (A.deeper (envOfC "law" (defScope st_law) s.heap.objs.size f cdv))) (z : ZOk (ZF P w K mg base ["_law_script", "_law_bag_here", "_law_names_here", "_law_key", "_law_one", "_law_other"] "law" (defScope st_law) f cdv A outer s H E Fm S R)) (hu : (A.deeper (envOfC "law" (defScope st_law) s.heap.objs.size f cdv)).units + 65 < cLine) (hu1 : (A.deeper (envOfC "law" (defScope st_law) s.heap.objs.size f cdv)).units + 1 < cLine) (names8 : List Str) (key11 : Int) : JB (ZF P w K mg base ["_law_script", "_law_bag_here", "_law_names_here", "_law_key", "_law_one", "_law_other"] "law" (defScope st_law) f cdv A outer s H E Fm S R) [none, some (.fz ((rBag cp.ab) ())), some (.fz ((rL rS) names8)), some (.fz (rI key11)), none, none] (List.drop 3 (defBody st_law)) (bnd (bnd (ret ()) fun v12 => bnd (ret (400 : Int)) fun v13 => draw_m cp.b v13) fun one14 => bnd (bnd (ret one14) fun v17 => bnd (bnd (ret ()) fun v15 => bnd (ret (400 : Int)) fun v16 => draw_m cp.b v16) fun v18 => ret (v17 + v18)) fun other19 => bnd (bnd (bnd (bnd (bnd (ret names8) fun v20 => bnd (ret (0 : Int)) fun v21 => opt (atI v20 v21)) fun v24 => bnd (bnd (ret names8) fun v22 => bnd (ret (1 : Int)) fun v23 => opt (atI v22 v23)) fun v25 => names_right_m v24 v25) fun v26 => ret (!v26)) fun v34 => if v34 then ret true else (bnd (bnd (ret key11) fun v29 => bnd (bnd (ret names8) fun v27 => bnd (ret (1 : Int)) fun v28 => opt (atI v27 v28)) fun v30 => bnd (ret one14) fun v31 => bnd (ret other19) fun v32 => numbers_right_m v29 v30 v31 v32) fun v33 => ret (!v33))) fun v35 => if v35 then (bnd (ret false) fun v36 => ret (.rt v36)) else (bnd (bnd (bnd (bnd (ret (("InvalidCycle", []) : Xv)) fun v37 => bnd (ret (2 : Int)) fun v38 => own_m v37 v38) fun v39 => ret (!v39)) fun v47 => if v47 then ret true else (bnd (bnd (bnd (ret (("OtherCycle", []) : Xv)) fun v40 => bnd (ret (5 : Int)) fun v41 => own_m v40 v41) fun v42 => ret (!v42)) fun v46 => if v46 then ret true else (bnd (bnd (ret (("Finished", []) : Xv)) fun v43 => bnd (ret (19 : Int)) fun v44 => own_m v43 v44) fun v45 => ret (!v45)))) fun v48 => if v48 then (bnd (ret false) fun v49 => ret (.rt v49)) else (bnd (bnd (bnd (bnd (ret (("BatchOpen", []) : Xv)) fun v50 => bnd (ret (8 : Int)) fun v51 => own_m v50 v51) fun v52 => ret (!v52)) fun v56 => if v56 then ret true else (bnd (bnd (ret (("BatchClosed", []) : Xv)) fun v53 => bnd (ret (9 : Int)) fun v54 => own_m v53 v54) fun v55 => ret (!v55))) fun v57 => if v57 then (bnd (ret false) fun v58 => ret (.rt v58)) else (bnd (bnd (ret key11) fun v59 => bnd (ret one14) fun v60 => bnd (ret other19) fun v61 => chains_right_m v59 v60 v61) fun v62 => ret (.rt v62)))) : M S (Fl Unit Empty Bool)) (fun _ => []) (fun e => nomatch e) (.fz rB) := (jb_set (i := 4) z rfl (by first | exact .inl rfl | exact .inr rfl) (je_call z C_draw hr cp (ja_cons (je_var (r := rBag cp.ab) (x := ()) 1 rfl (pv 1)) (ja_cons je_int ja_nil))) (fun one14 => (jb_cx (Γ2 := [none, some (.fz ((rBag cp.ab) ())), some (.fz ((rL rS) names8)), some (.fz (rI key11)), some (.fz (rI one14)), none]) (cut_law_4 cp T C_names C_draw C_names_right C_numbers_right C_own X_InvalidCycle X_OtherCycle X_Finished X_BatchOpen X_BatchClosed C_chains_right hr z hu hu1 names8 key11 one14))))
theorem cut_law_6 {P : Program} {w : World} {K : PySem.W.Frag} {mg : Str → Option Value} {base : Heap} {f : Addr} {cdv : Value} {A : Around} {outer : List Env} {s : Shared} {H : Hp} {E : XK} {Fm : Fm} {S : Type} {R : S → MP Hp} (cp : BagC S R) (T : Txt K mg) (C_names : FnC P w K mg base "_law_names" 2 (sp_names K mg)) (C_draw : FnC P w K mg base "_law_draw" 1 (sp_draw K mg)) (C_names_right : FnC P w K mg base "_law_names_right" 3 (sp_names_right K mg)) (C_numbers_right : FnC P w K mg base "_law_numbers_right" 3 (sp_numbers_right K mg)) (C_own : FnC P w K mg base "_law_own" 2 (sp_own K mg)) (X_InvalidCycle : XzC K mg "InvalidCycle") (X_OtherCycle : XzC K mg "OtherCycle") (X_Finished : XzC K mg "Finished") (X_BatchOpen : XzC K mg "BatchOpen") (X_BatchClosed : XzC K mg "BatchClosed") (C_chains_right : FnC P w K mg base "_law_chains_right" 3 (sp_chains_right K mg)) (hr : Room 3 (A.deeper (envOfC "law" (defScope st_law) s.heap.objs.size f cdv))) (z : ZOk (ZF P w K mg base ["_law_script", "_law_bag_here", "_law_names_here", "_law_key", "_law_one", "_law_other"] "law" (defScope st_law) f cdv A outer s H E Fm S R)) (hu : (A.deeper (envOfC "law" (defScope st_law) s.heap.objs.size f cdv)).units + 65 < cLine) (hu1 : (A.deeper (envOfC "law" (defScope st_law) s.heap.objs.size f cdv)).units + 1 < cLine) (names8 : List Str) : JB (ZF P w K mg base ["_law_script", "_law_bag_here", "_law_names_here", "_law_key", "_law_one", "_law_other"] "law" (defScope st_law) f cdv A outer s H E Fm S R) [none, some (.fz ((rBag cp.ab) ())), some (.fz ((rL rS) names8)), none, none, none] (List.drop 2 (defBody st_law)) (bnd (bnd (ret ()) fun v9 => bnd (ret (1000000 : Int)) fun v10 => draw_m cp.b v10) fun key11 => bnd (bnd (ret ()) fun v12 => bnd (ret (400 : Int)) fun v13 => draw_m cp.b v13) fun one14 => bnd (bnd (ret one14) fun v17 => bnd (bnd (ret ()) fun v15 => bnd (ret (400 : Int)) fun v16 => draw_m cp.b v16) fun v18 => ret (v17 + v18)) fun other19 => bnd (bnd (bnd (bnd (bnd (ret names8) fun v20 => bnd (ret (0 : Int)) fun v21 => opt (atI v20 v21)) fun v24 => bnd (bnd (ret names8) fun v22 => bnd (ret (1 : Int)) fun v23 => opt (atI v22 v23)) fun v25 => names_right_m v24 v25) fun v26 => ret (!v26)) fun v34 => if v34 then ret true else (bnd (bnd (ret key11) fun v29 => bnd (bnd (ret names8) fun v27 => bnd (ret (1 : Int)) fun v28 => opt (atI v27 v28)) fun v30 => bnd (ret one14) fun v31 => bnd (ret other19) fun v32 => numbers_right_m v29 v30 v31 v32) fun v33 => ret (!v33))) fun v35 => if v35 then (bnd (ret false) fun v36 => ret (.rt v36)) else (bnd (bnd (bnd (bnd (ret (("InvalidCycle", []) : Xv)) fun v37 => bnd (ret (2 : Int)) fun v38 => own_m v37 v38) fun v39 => ret (!v39)) fun v47 => if v47 then ret true else (bnd (bnd (bnd (ret (("OtherCycle", []) : Xv)) fun v40 => bnd (ret (5 : Int)) fun v41 => own_m v40 v41) fun v42 => ret (!v42)) fun v46 => if v46 then ret true else (bnd (bnd (ret (("Finished", []) : Xv)) fun v43 => bnd (ret (19 : Int)) fun v44 => own_m v43 v44) fun v45 => ret (!v45)))) fun v48 => if v48 then (bnd (ret false) fun v49 => ret (.rt v49)) else (bnd (bnd (bnd (bnd (ret (("BatchOpen", []) : Xv)) fun v50 => bnd (ret (8 : Int)) fun v51 => own_m v50 v51) fun v52 => ret (!v52)) fun v56 => if v56 then ret true else (bnd (bnd (ret (("BatchClosed", []) : Xv)) fun v53 => bnd (ret (9 : Int)) fun v54 => own_m v53 v54) fun v55 => ret (!v55))) fun v57 => if v57 then (bnd (ret false) fun v58 => ret (.rt v58)) else (bnd (bnd (ret key11) fun v59 => bnd (ret one14) fun v60 => bnd (ret other19) fun v61 => chains_right_m v59 v60 v61) fun v62 => ret (.rt v62)))) : M S (Fl Unit Empty Bool)) (fun _ => []) (fun e => nomatch e) (.fz rB) := (jb_set (i := 3) z rfl (by first | exact .inl rfl | exact .inr rfl) (je_call z C_draw hr cp (ja_cons (je_var (r := rBag cp.ab) (x := ()) 1 rfl (pv 1)) (ja_cons je_int ja_nil))) (fun key11 => (jb_cx (Γ2 := [none, some (.fz ((rBag cp.ab) ())), some (.fz ((rL rS) names8)), some (.fz (rI key11)), none, none]) (cut_law_5 cp T C_names C_draw C_names_right C_numbers_right C_own X_InvalidCycle X_OtherCycle X_Finished X_BatchOpen X_BatchClosed C_chains_right hr z hu hu1 names8 key11))))
theorem cut_law_7 {P : Program} {w : World} {K : PySem.W.Frag} {mg : Str → Option Value} {base : Heap} {f : Addr} {cdv : Value} {A : Around} {outer : List Env} {s : Shared} {H : Hp} {E : XK} {Fm : Fm} {S : Type} {R : S → MP Hp} (cp : BagC S R) (T : Txt K mg) (C_names : FnC P w K mg base "_law_names" 2 (sp_names K mg)) (C_draw : FnC P w K mg base "_law_draw" 1 (sp_draw K mg)) (C_names_right : FnC P w K mg base "_law_names_right" 3 (sp_names_right K mg)) (C_numbers_right : FnC P w K mg base "_law_numbers_right" 3 (sp_numbers_right K mg)) (C_own : FnC P w K mg base "_law_own" 2 (sp_own K mg)) (X_InvalidCycle : XzC K mg "InvalidCycle") (X_OtherCycle : XzC K mg "OtherCycle") (X_Finished : XzC K mg "Finished") (X_BatchOpen : XzC K mg "BatchOpen") (X_BatchClosed : XzC K mg "BatchClosed") (C_chains_right : FnC P w K mg base "_law_chains_right" 3 (sp_chains_right K mg)) (hr : Room 3 (A.deeper (envOfC "law" (defScope st_law) s.heap.objs.size f cdv))) (z : ZOk (ZF P w K mg base ["_law_script", "_law_bag_here", "_law_names_here", "_law_key", "_law_one", "_law_other"] "law" (defScope st_law) f cdv A outer s H E Fm S R)) (hu : (A.deeper (envOfC "law" (defScope st_law) s.heap.objs.size f cdv)).units + 65 < cLine) (hu1 : (A.deeper (envOfC "law" (defScope st_law) s.heap.objs.size f cdv)).units + 1 < cLine) : JB (ZF P w K mg base ["_law_script", "_law_bag_here", "_law_names_here", "_law_key", "_law_one", "_law_other"] "law" (defScope st_law) f cdv A outer s H E Fm S R) [none, some (.fz ((rBag cp.ab) ())), none, none, none, none] (List.drop 1 (defBody st_law)) (bnd (bnd (ret ()) fun v5 => bnd (ret (2 : Int)) fun v6 => bnd (bnd (ret ("before" : Str)) fun v1 => bnd (ret ("after" : Str)) fun v2 => bnd (ret ("absent" : Str)) fun v3 => bnd (ret ("carry" : Str)) fun v4 => ret [v1, v2, v3, v4]) fun v7 => names_m cp.b v6 v7) fun names8 => bnd (bnd (ret ()) fun v9 => bnd (ret (1000000 : Int)) fun v10 => draw_m cp.b v10) fun key11 => bnd (bnd (ret ()) fun v12 => bnd (ret (400 : Int)) fun v13 => draw_m cp.b v13) fun one14 => bnd (bnd (ret one14) fun v17 => bnd (bnd (ret ()) fun v15 => bnd (ret (400 : Int)) fun v16 => draw_m cp.b v16) fun v18 => ret (v17 + v18)) fun other19 => bnd (bnd (bnd (bnd (bnd (ret names8) fun v20 => bnd (ret (0 : Int)) fun v21 => opt (atI v20 v21)) fun v24 => bnd (bnd (ret names8) fun v22 => bnd (ret (1 : Int)) fun v23 => opt (atI v22 v23)) fun v25 => names_right_m v24 v25) fun v26 => ret (!v26)) fun v34 => if v34 then ret true else (bnd (bnd (ret key11) fun v29 => bnd (bnd (ret names8) fun v27 => bnd (ret (1 : Int)) fun v28 => opt (atI v27 v28)) fun v30 => bnd (ret one14) fun v31 => bnd (ret other19) fun v32 => numbers_right_m v29 v30 v31 v32) fun v33 => ret (!v33))) fun v35 => if v35 then (bnd (ret false) fun v36 => ret (.rt v36)) else (bnd (bnd (bnd (bnd (ret (("InvalidCycle", []) : Xv)) fun v37 => bnd (ret (2 : Int)) fun v38 => own_m v37 v38) fun v39 => ret (!v39)) fun v47 => if v47 then ret true else (bnd (bnd (bnd (ret (("OtherCycle", []) : Xv)) fun v40 => bnd (ret (5 : Int)) fun v41 => own_m v40 v41) fun v42 => ret (!v42)) fun v46 => if v46 then ret true else (bnd (bnd (ret (("Finished", []) : Xv)) fun v43 => bnd (ret (19 : Int)) fun v44 => own_m v43 v44) fun v45 => ret (!v45)))) fun v48 => if v48 then (bnd (ret false) fun v49 => ret (.rt v49)) else (bnd (bnd (bnd (bnd (ret (("BatchOpen", []) : Xv)) fun v50 => bnd (ret (8 : Int)) fun v51 => own_m v50 v51) fun v52 => ret (!v52)) fun v56 => if v56 then ret true else (bnd (bnd (ret (("BatchClosed", []) : Xv)) fun v53 => bnd (ret (9 : Int)) fun v54 => own_m v53 v54) fun v55 => ret (!v55))) fun v57 => if v57 then (bnd (ret false) fun v58 => ret (.rt v58)) else (bnd (bnd (ret key11) fun v59 => bnd (ret one14) fun v60 => bnd (ret other19) fun v61 => chains_right_m v59 v60 v61) fun v62 => ret (.rt v62)))) : M S (Fl Unit Empty Bool)) (fun _ => []) (fun e => nomatch e) (.fz rB) := (jb_set (i := 2) z rfl (by first | exact .inl rfl | exact .inr rfl) (je_frzL (je_call z C_names hr cp (ja_cons (je_var (r := rBag cp.ab) (x := ()) 1 rfl (pv 1)) (ja_cons je_int (ja_cons (je_frzL (je_list (jl_cons je_str (jl_cons je_str (jl_cons je_str (jl_cons je_str (jl_nil (r := rS)))))))) ja_nil))))) (fun names8 => (jb_cx (Γ2 := [none, some (.fz ((rBag cp.ab) ())), some (.fz ((rL rS) names8)), none, none, none]) (cut_law_6 cp T C_names C_draw C_names_right C_numbers_right C_own X_InvalidCycle X_OtherCycle X_Finished X_BatchOpen X_BatchClosed C_chains_right hr z hu hu1 names8))))
theorem body_law {P : Program} {w : World} {K : PySem.W.Frag} {mg : Str → Option Value} {base : Heap} {f : Addr} {cdv : Value} {A : Around} {outer : List Env} {s : Shared} {H : Hp} {E : XK} {Fm : Fm} {S : Type} {R : S → MP Hp} (cp : BagC S R) (T : Txt K mg) (C_names : FnC P w K mg base "_law_names" 2 (sp_names K mg)) (C_draw : FnC P w K mg base "_law_draw" 1 (sp_draw K mg)) (C_names_right : FnC P w K mg base "_law_names_right" 3 (sp_names_right K mg)) (C_numbers_right : FnC P w K mg base "_law_numbers_right" 3 (sp_numbers_right K mg)) (C_own : FnC P w K mg base "_law_own" 2 (sp_own K mg)) (X_InvalidCycle : XzC K mg "InvalidCycle") (X_OtherCycle : XzC K mg "OtherCycle") (X_Finished : XzC K mg "Finished") (X_BatchOpen : XzC K mg "BatchOpen") (X_BatchClosed : XzC K mg "BatchClosed") (C_chains_right : FnC P w K mg base "_law_chains_right" 3 (sp_chains_right K mg)) (hr : Room 3 (A.deeper (envOfC "law" (defScope st_law) s.heap.objs.size f cdv))) (z : ZOk (ZF P w K mg base ["_law_script", "_law_bag_here", "_law_names_here", "_law_key", "_law_one", "_law_other"] "law" (defScope st_law) f cdv A outer s H E Fm S R)) (hu : (A.deeper (envOfC "law" (defScope st_law) s.heap.objs.size f cdv)).units + 65 < cLine) (hu1 : (A.deeper (envOfC "law" (defScope st_law) s.heap.objs.size f cdv)).units + 1 < cLine) : JB (ZF P w K mg base ["_law_script", "_law_bag_here", "_law_names_here", "_law_key", "_law_one", "_law_other"] "law" (defScope st_law) f cdv A outer s H E Fm S R) [none, some (.fz ((rBag cp.ab) ())), none, none, none, none] (List.drop 1 (defBody st_law)) (law_mb cp.b) (fun _ => []) (fun e => nomatch e) (.fz rB) :=
  JB.eq (m := (bnd (bnd (ret ()) fun v5 => bnd (ret (2 : Int)) fun v6 => bnd (bnd (ret ("before" : Str)) fun v1 => bnd (ret ("after" : Str)) fun v2 => bnd (ret ("absent" : Str)) fun v3 => bnd (ret ("carry" : Str)) fun v4 => ret [v1, v2, v3, v4]) fun v7 => names_m cp.b v6 v7) fun names8 => bnd (bnd (ret ()) fun v9 => bnd (ret (1000000 : Int)) fun v10 => draw_m cp.b v10) fun key11 => bnd (bnd (ret ()) fun v12 => bnd (ret (400 : Int)) fun v13 => draw_m cp.b v13) fun one14 => bnd (bnd (ret one14) fun v17 => bnd (bnd (ret ()) fun v15 => bnd (ret (400 : Int)) fun v16 => draw_m cp.b v16) fun v18 => ret (v17 + v18)) fun other19 => bnd (bnd (bnd (bnd (bnd (ret names8) fun v20 => bnd (ret (0 : Int)) fun v21 => opt (atI v20 v21)) fun v24 => bnd (bnd (ret names8) fun v22 => bnd (ret (1 : Int)) fun v23 => opt (atI v22 v23)) fun v25 => names_right_m v24 v25) fun v26 => ret (!v26)) fun v34 => if v34 then ret true else (bnd (bnd (ret key11) fun v29 => bnd (bnd (ret names8) fun v27 => bnd (ret (1 : Int)) fun v28 => opt (atI v27 v28)) fun v30 => bnd (ret one14) fun v31 => bnd (ret other19) fun v32 => numbers_right_m v29 v30 v31 v32) fun v33 => ret (!v33))) fun v35 => if v35 then (bnd (ret false) fun v36 => ret (.rt v36)) else (bnd (bnd (bnd (bnd (ret (("InvalidCycle", []) : Xv)) fun v37 => bnd (ret (2 : Int)) fun v38 => own_m v37 v38) fun v39 => ret (!v39)) fun v47 => if v47 then ret true else (bnd (bnd (bnd (ret (("OtherCycle", []) : Xv)) fun v40 => bnd (ret (5 : Int)) fun v41 => own_m v40 v41) fun v42 => ret (!v42)) fun v46 => if v46 then ret true else (bnd (bnd (ret (("Finished", []) : Xv)) fun v43 => bnd (ret (19 : Int)) fun v44 => own_m v43 v44) fun v45 => ret (!v45)))) fun v48 => if v48 then (bnd (ret false) fun v49 => ret (.rt v49)) else (bnd (bnd (bnd (bnd (ret (("BatchOpen", []) : Xv)) fun v50 => bnd (ret (8 : Int)) fun v51 => own_m v50 v51) fun v52 => ret (!v52)) fun v56 => if v56 then ret true else (bnd (bnd (ret (("BatchClosed", []) : Xv)) fun v53 => bnd (ret (9 : Int)) fun v54 => own_m v53 v54) fun v55 => ret (!v55))) fun v57 => if v57 then (bnd (ret false) fun v58 => ret (.rt v58)) else (bnd (bnd (ret key11) fun v59 => bnd (ret one14) fun v60 => bnd (ret other19) fun v61 => chains_right_m v59 v60 v61) fun v62 => ret (.rt v62)))) : M S (Fl Unit Empty Bool))) (jb_cx (Γ2 := [none, some (.fz ((rBag cp.ab) ())), none, none, none, none]) (cut_law_7 cp T C_names C_draw C_names_right C_numbers_right C_own X_InvalidCycle X_OtherCycle X_Finished X_BatchOpen X_BatchClosed C_chains_right hr z hu hu1)) (by simp only [ret_bnd, rdM_some, raiM_rse, law_mb])
end Lw
namespace Lw
open PySem L2 DL
set_option maxHeartbeats 1000000
/-! ### what is drawn -/
structure NamesOk (ns : List Str) (count : Nat) (words : List Str) : Prop where
  len : ns.length = count
  nd : ns.Nodup
  ok : ∀ n ∈ ns, VName n ∧ (n ∈ words ∨ (sg n).length ≠ 6)
/-- the k-th name, ahead of the last two steps -/
def nmL (st : List Nat) (pl sh : Nat) (lg : Int) (k : Nat) : List Nat := st.take pl ++ [97 + (sh + 7 * k) % 26] ++ st.drop pl ++ (if ((k : Int) % 3 = lg) then [97 + sh] else [])
theorem nmL_len {st : List Nat} {pl sh : Nat} {lg : Int} {k : Nat} (hp : pl ≤ st.length) : (nmL st pl sh lg k).length = st.length + 1 + (if ((k : Int) % 3 = lg) then 1 else 0) := by
  unfold nmL
  by_cases c : (k : Int) % 3 = lg
  · simp only [c, if_true, List.length_append, List.length_take, List.length_drop, List.length_cons, List.length_nil]
    omega
  · simp only [c, if_false, List.length_append, List.length_take, List.length_drop, List.length_cons, List.length_nil]
    omega
theorem nmL_at {st : List Nat} {pl sh : Nat} {lg : Int} {k : Nat} (hp : pl ≤ st.length) : (nmL st pl sh lg k)[pl]? = some (97 + (sh + 7 * k) % 26) := by
  unfold nmL
  have hl : (st.take pl).length = pl := by rw [List.length_take]; omega
  rw [List.append_assoc, List.append_assoc, List.getElem?_append_right (by omega), hl, Nat.sub_self]
  rfl
theorem nmL_lets {st : List Nat} {pl sh : Nat} {lg : Int} {k : Nat} (hs : ∀ c ∈ st, 97 ≤ c ∧ c ≤ 122) (hh : sh < 26) : ∀ c ∈ nmL st pl sh lg k, 97 ≤ c ∧ c ≤ 122 := by
  intro c hc
  unfold nmL at hc
  rcases List.mem_append.mp hc with hc | hc
  · rcases List.mem_append.mp hc with hc | hc
    · rcases List.mem_append.mp hc with hc | hc
      · exact hs c (List.mem_of_mem_take hc)
      · rw [List.mem_singleton] at hc
        omega
    · exact hs c (List.mem_of_mem_drop hc)
  · by_cases z : (k : Int) % 3 = lg
    · rw [if_pos z, List.mem_singleton] at hc
      omega
    · rw [if_neg z] at hc
      cases hc
theorem nmL_ne {st : List Nat} {pl sh : Nat} {lg : Int} {i j : Nat} (hp : pl ≤ st.length) (hij : i < j) (hj : j < 26) {l : List Nat} (h1 : l[pl]? = some (97 + (sh + 7 * i) % 26)) : l ≠ nmL st pl sh lg j := fun z => by
  rw [z, nmL_at hp] at h1
  have := Option.some.inj h1
  omega
theorem name_turn {S : Type} {st : Str} {pl sh : Nat} {lg : Int} {k : Nat} (hst : (sg st).length ≤ 10) (hp : pl ≤ (sg st).length) (hs : sh < 26) {t : List Str} (ht : t.length ≤ 100) :
    (bnd (bnd (bnd (sslM st none (some (pl : Int))) fun v50 => bnd (bnd (bnd (bnd (bnd (mulM (7 : Int) (k : Int)) fun v44 => ret ((sh : Int) + v44)) fun v45 => ret v45) fun v46 => modM v46 (26 : Int)) fun v49 => sgetM ("abcdefghijklmnopqrstuvwxyz" : Str) v49) fun v51 => saddM v50 v51) fun v54 => bnd (sslM st (some (pl : Int)) none) fun v55 => saddM v54 v55) fun name56 => bnd (bnd (bnd (sgetM ("abcdefghijklmnopqrstuvwxyz" : Str) (sh : Int)) fun v66 => bnd (bnd (bnd (modM (k : Int) (3 : Int)) fun v63 => ret (decide (v63 = lg))) fun v65 => ret (if v65 then (1 : Int) else 0)) fun v67 => smulM v66 v67) fun v69 => saddM name56 v69) fun v70 => bnd (appM t v70) fun names57 => ret (.nx names57) : M S (Fl (List Str) (List Str) (List Str))) = ret (.nx (t ++ [mk (nmL (sg st) pl sh lg k)])) := by
  have eL : ("abcdefghijklmnopqrstuvwxyz" : Str) = LET := rfl
  have p0 : (0 : Int) ≤ (pl : Int) := by omega
  have p1 : (pl : Int) ≤ ((sg st).length : Int) := by omega
  rw [sslM_of (by omega), sslM_of (by omega), cut_lo st p0 p1, cut_hi st p0 p1, eL]
  simp only [ret_bnd]
  rw [mulM_of (by decide) (by decide)]
  simp only [ret_bnd]
  rw [modM_of (by decide)]
  simp only [ret_bnd]
  have b0 := Int.emod_nonneg ((sh : Int) + 7 * (k : Int)) (show (26 : Int) ≠ 0 by decide)
  have b1 := Int.emod_lt_of_pos ((sh : Int) + 7 * (k : Int)) (show (0 : Int) < 26 by decide)
  rw [sget_LET b0 b1]
  simp only [ret_bnd]
  rw [sadd_of (by simp only [sg_mk, List.length_take, List.length_cons, List.length_nil]; omega)]
  simp only [ret_bnd, sg_mk]
  rw [sadd_of (by simp only [sg_mk, List.length_append, List.length_take, List.length_drop, List.length_cons, List.length_nil]; omega)]
  simp only [ret_bnd, sg_mk]
  rw [sget_LET (by omega) (by omega), modM_of (by decide)]
  simp only [ret_bnd]
  have en : ((sh : Int) + 7 * (k : Int)) % 26 = (((sh + 7 * k) % 26 : Nat) : Int) := by omega
  have en2 : (((sh : Int) + 7 * (k : Int)) % 26).toNat = (sh + 7 * k) % 26 := by rw [en]; omega
  have fin : ∀ (ex : List Nat), ex.length ≤ 1 → ex = (if ((k : Int) % 3 = lg) then [97 + sh] else []) →
      (bnd (saddM (mk (List.take (pl : Int).toNat (sg st) ++ [97 + (((sh : Int) + 7 * (k : Int)) % 26).toNat] ++ List.drop (pl : Int).toNat (sg st))) (mk ex)) fun v70 => bnd (appM t v70) fun names57 => ret (.nx names57) : M S (Fl (List Str) (List Str) (List Str))) = ret (.nx (t ++ [mk (nmL (sg st) pl sh lg k)])) := by
    intro ex hx e
    rw [sadd_of (by simp only [sg_mk, List.length_append, List.length_take, List.length_drop, List.length_cons, List.length_nil]; omega)]
    simp only [ret_bnd, sg_mk]
    rw [appM_of (by omega)]
    simp only [ret_bnd]
    unfold nmL
    rw [← e, en2, Int.toNat_natCast]
  by_cases c : (k : Int) % 3 = lg
  · rw [decide_eq_true c]
    have e1 : (smulM (mk [97 + (sh : Int).toNat]) (if true = true then (1 : Int) else 0) : M S Str) = ret (mk [97 + sh]) := rfl
    rw [e1]
    simp only [ret_bnd]
    exact fin [97 + sh] (by simp) (by rw [if_pos c])
  · rw [decide_eq_false c]
    have e1 : (smulM (mk [97 + (sh : Int).toNat]) (if false = true then (1 : Int) else 0) : M S Str) = ret (mk []) := rfl
    rw [e1]
    simp only [ret_bnd]
    exact fin [] (by simp) (by rw [if_neg c])
theorem flat_len : ∀ {ys : List Str}, (∀ y ∈ ys, (sg y).length = 1) → ((ys.map sg).flatten).length = ys.length
  | [], _ => rfl
  | y :: ys, h => by
    rw [List.map_cons, List.flatten_cons, List.length_append, h y List.mem_cons_self, flat_len fun z hz => h z (List.mem_cons_of_mem _ hz), List.length_cons]
    omega
theorem gv_names {count : Int} {words : List Str} (h1 : 1 ≤ count) (h2 : count ≤ 20) (hw : ∀ w ∈ words, VName w) (hw0 : 0 < words.length) (hwl : words.length < 1000) : Gv (names_m bagI count words) fun ns => NamesOk ns count.toNat words := by
  unfold names_m
  refine gv_run ?_
  unfold names_mb
  refine gv_on (gv_on (gv_draw (by decide) (by decide) fun d d0 d1 => gv_at d0 (by simpa using d1) fun size hsz => ?_))
  have hsize : size = 0 ∨ size = 1 ∨ size = 2 ∨ size = 3 ∨ size = 10 := by simpa using hsz
  -- the stem
  refine gv_bnd (P := fun (st : Str) => (sg st).length = size.toNat ∧ Lets st) ?_ fun st ⟨hl, hlt⟩ => ?_
  · rw [rangeM_of (by omega) (by omega)]
    simp only [ret_bnd]
    refine gv_bnd (gv_compA (P := fun y => (sg y).length = 1 ∧ Lets y) (by rw [List.length_map, List.length_range, sline]; omega) fun x _ => ?_) fun ys ⟨hyl, hys⟩ => ?_
    · refine gv_on (gv_draw (by decide) (by decide) fun d d0 d1 => ?_)
      rw [show ("abcdefghijklmnopqrstuvwxyz" : Str) = LET from rfl, sget_LET d0 d1]
      exact gv_ret ⟨rfl, fun c hc => by
        rw [sg_mk, List.mem_singleton] at hc
        omega⟩
    · rw [List.length_map, List.length_range] at hyl
      rw [joinM_of (fun y hy => (hys y hy).1) (by omega)]
      refine gv_ret ⟨?_, fun c hc => ?_⟩
      · rw [sg_mk, ← hyl]
        exact flat_len fun y hy => (hys y hy).1
      · rw [sg_mk] at hc
        obtain ⟨l, hl, hcl⟩ := List.mem_flatten.mp hc
        obtain ⟨y, hy, rfl⟩ := List.mem_map.mp hl
        exact (hys y hy).2 c hcl
  -- place, shift, longer
  refine gv_on (gv_draw (by omega) (by omega) fun place p0 p1 => ?_)
  refine gv_on (gv_draw (by decide) (by decide) fun shift s0 s1 => ?_)
  refine gv_on (gv_draw (by decide) (by decide) fun longer l0 l1 => ?_)
  obtain ⟨pl, rfl⟩ := Int.eq_ofNat_of_zero_le p0
  obtain ⟨sh, rfl⟩ := Int.eq_ofNat_of_zero_le s0
  obtain ⟨cn, rfl⟩ := Int.eq_ofNat_of_zero_le (show 0 ≤ count by omega)
  have hpl : pl ≤ (sg st).length := by omega
  have hsh : sh < 26 := by omega
  rw [rangeM_of (by omega) (by omega), Int.toNat_natCast]
  simp only [ret_bnd]
  have hst10 : (sg st).length ≤ 10 := by omega
  refine gv_then (P := fun t => t = (List.range cn).map fun k => mk (nmL (sg st) pl sh longer k)) ?_ fun t ht => ?_
  · refine (gv_for (fun pre t => ∃ n, pre = (List.range n).map (fun (i : Nat) => (i : Int)) ∧ t = (List.range n).map fun k => mk (nmL (sg st) pl sh longer k)) ⟨0, rfl, rfl⟩ ?_).imp ?_
    · rintro pre x post t e ⟨n, hpre, rfl⟩
      have hn : pre.length = n := by rw [hpre, List.length_map, List.length_range]
      have hx : ((List.range cn).map (fun (i : Nat) => (i : Int)))[n]? = some x := by
        rw [e, List.getElem?_append_right (by omega), hn, Nat.sub_self]
        rfl
      have hnc : n < cn := by
        have := (List.getElem?_eq_some_iff.mp hx).1
        rw [List.length_map, List.length_range] at this
        exact this
      rw [List.getElem?_map, List.getElem?_range hnc] at hx
      have hx : ((n : Nat) : Int) = x := Option.some.inj hx
      subst hx
      rw [name_turn hst10 hpl hsh (by rw [List.length_map, List.length_range]; omega)]
      exact gv_nx ⟨n + 1, by rw [hpre, List.range_succ, List.map_append]; rfl, by rw [List.range_succ, List.map_append]; rfl⟩
    · rintro fl ⟨t, rfl, n, e, rfl⟩
      have := congrArg List.length e
      rw [List.length_map, List.length_range, List.length_map, List.length_range] at this
      rw [this]
      exact ⟨_, rfl, rfl⟩
  subst ht
  let L : List Str := (List.range cn).map fun k => mk (nmL (sg st) pl sh longer k)
  have hLl : L.length = cn := by show ((List.range cn).map _).length = cn; rw [List.length_map, List.length_range]
  have hLat : ∀ k, k < cn → L[k]? = some (mk (nmL (sg st) pl sh longer k)) := fun k hk => by
    show ((List.range cn).map _)[k]? = _
    rw [List.getElem?_map, List.getElem?_range hk]
    rfl
  have hLat' : ∀ k y, L[k]? = some y → k < cn ∧ y = mk (nmL (sg st) pl sh longer k) := fun k y h => by
    have hk : k < cn := by
      have := (List.getElem?_eq_some_iff.mp h).1
      omega
    rw [hLat k hk] at h
    exact ⟨hk, (Option.some.inj h).symm⟩
  -- the second name
  refine gv_then (P := fun t => t.length = cn ∧ t.Nodup ∧ ∀ n ∈ t, VName n ∧ (sg n).length ≠ 6) ?_ fun t ⟨tl, tn, tk⟩ => ?_
  · have base : L.length = cn ∧ L.Nodup ∧ ∀ n ∈ L, VName n ∧ (sg n).length ≠ 6 := by
      refine ⟨hLl, nd_ix fun i j x y hij e1 e2 => ?_, fun n hn => ?_⟩
      · obtain ⟨_, rfl⟩ := hLat' i x e1
        obtain ⟨hj, rfl⟩ := hLat' j y e2
        intro z
        exact nmL_ne hpl hij (by omega) (nmL_at hpl) (by have := congrArg sg z; rw [sg_mk, sg_mk] at this; exact this)
      · obtain ⟨k, hk⟩ := List.mem_iff_getElem?.mp hn
        obtain ⟨_, rfl⟩ := hLat' k n hk
        have hln := nmL_len (st := sg st) (sh := sh) (lg := longer) (k := k) hpl
        have hlim : (if ((k : Int) % 3 = longer) then 1 else 0) ≤ 1 := by split <;> omega
        refine ⟨⟨by rw [sg_mk]; omega, by rw [sg_mk]; omega, fun c hc => nmL_lets hlt hsh c (by rw [sg_mk] at hc; exact hc)⟩, ?_⟩
        rw [sg_mk]
        omega
    refine gv_bnd (P := fun c => c = true → 1 < cn ∧ size < 4 ∧ longer = 3) ?_ fun c hc => ?_
    · refine gv_ite (fun e => ?_) fun _ => gv_ret (fun z => by cases z)
      refine gv_ite (fun e2 => ?_) fun _ => gv_ret (fun z => by cases z)
      have e := of_decide_eq_true e
      have e2 := of_decide_eq_true e2
      exact gv_ret fun z => ⟨by omega, e2, of_decide_eq_true z⟩
    · refine gv_ite (fun e => ?_) fun _ => gv_nx base
      obtain ⟨c1, c2, c3⟩ := hc e
      rw [show atI L (0 : Int) = some (mk (nmL (sg st) pl sh longer 0)) from by rw [atI_lt (by omega) (by omega)]; exact hLat 0 (by omega)]
      simp only [opt_some, ret_bnd]
      refine gv_on (gv_on (gv_on (gv_draw (by decide) (by decide) fun d d0 d1 => ?_)))
      rw [show ("abcdefghijklmnopqrstuvwxyz" : Str) = LET from rfl, sget_LET d0 d1]
      refine gv_ret ?_
      have hl0 := nmL_len (st := sg st) (sh := sh) (lg := longer) (k := 0) hpl
      rw [if_neg (by omega)] at hl0
      rw [sadd_of (by simp only [sg_mk, hl0, List.length_cons, List.length_nil]; omega)]
      refine gv_ret ?_
      rw [setM_of (by omega) (by show (1 : Int) < (L.length : Int); omega)]
      simp only [ret_bnd, sg_mk]
      refine gv_nx ⟨by rw [List.length_set]; exact hLl, nd_ix fun i j x y hij e1 e2 => ?_, fun n hn => ?_⟩
      · rcases set_at e1 with ⟨h1, z1⟩ | ⟨h1, z1⟩
        · have h1 : i = 1 := h1
          rcases set_at e2 with ⟨h2, z2⟩ | ⟨h2, z2⟩
          · have h2 : j = 1 := h2
            omega
          · obtain ⟨hj, rfl⟩ := hLat' j y z2
            rw [← z1]
            intro z
            have z := congrArg sg z
            rw [sg_mk, sg_mk] at z
            have h0 : (nmL (sg st) pl sh longer 0 ++ [97 + d.toNat])[pl]? = some (97 + (sh + 7 * 0) % 26) := by
              rw [List.getElem?_append_left (by omega)]
              exact nmL_at hpl
            exact nmL_ne hpl (by omega : 0 < j) (by omega) h0 z
        · obtain ⟨hi, rfl⟩ := hLat' i x z1
          rcases set_at e2 with ⟨h2, z2⟩ | ⟨h2, z2⟩
          · have h2 : j = 1 := h2
            have : i = 0 := by omega
            subst this
            rw [← z2]
            intro z
            have z := congrArg (fun q => (sg q).length) z
            simp only [sg_mk, List.length_append, List.length_cons, List.length_nil] at z
            omega
          · obtain ⟨hj, rfl⟩ := hLat' j y z2
            intro z
            exact nmL_ne hpl hij (by omega) (nmL_at hpl) (by have := congrArg sg z; rw [sg_mk, sg_mk] at this; exact this)
      · rcases mem_set hn with rfl | hn
        · refine ⟨⟨by simp only [sg_mk, List.length_append, List.length_cons, List.length_nil]; omega, by simp only [sg_mk, List.length_append, List.length_cons, List.length_nil]; omega, fun c hc => ?_⟩, by simp only [sg_mk, List.length_append, List.length_cons, List.length_nil]; omega⟩
          rw [sg_mk] at hc
          rcases List.mem_append.mp hc with hc | hc
          · exact nmL_lets hlt hsh c hc
          · rw [List.mem_singleton] at hc
            omega
        · exact base.2.2 n hn
  -- a word
  rw [mulM_of (by decide) (by decide)]
  simp only [ret_bnd]
  refine gv_on (gv_draw (by omega) (by omega) fun spot q0 q1 => ?_)
  refine gv_on (gv_on (gv_draw (by omega) (by omega) fun wd w0 w1 => gv_at w0 w1 fun word hword => ?_))
  have fin : NamesOk t cn words := ⟨tl, tn, fun n hn => ⟨(tk n hn).1, .inr (tk n hn).2⟩⟩
  refine gv_then (P := fun t => NamesOk t cn words) ?_ fun t ht => gv_rt ht
  refine gv_bnd (P := fun c => c = true → spot < cn ∧ word ∉ t) ?_ fun c hc => ?_
  · refine gv_ite (fun e => ?_) fun _ => gv_ret (fun z => by cases z)
    refine gv_ret fun z => ⟨of_decide_eq_true e, fun m => ?_⟩
    rw [decide_eq_true m] at z
    cases z
  · refine gv_ite (fun e => ?_) fun _ => gv_nx fin
    obtain ⟨c1, c2⟩ := hc e
    rw [setM_of q0 (by omega)]
    simp only [ret_bnd]
    refine gv_nx ⟨by rw [List.length_set]; exact tl, nd_set tn c2 _, fun n hn => ?_⟩
    rcases mem_set hn with rfl | hn
    · exact ⟨hw _ hword, .inl hword⟩
    · exact fin.ok n hn
/-! ### k15 -/
theorem words15 : ∀ w ∈ [("before" : Str), ("after" : Str), ("absent" : Str), ("carry" : Str)], VName w := by
  have key : ∀ w : Str, (decide (1 ≤ (sg w).length) && decide ((sg w).length ≤ 12) && (sg w).all fun c => decide (97 ≤ c) && decide (c ≤ 122)) = true → VName w := fun w h => by
    simp only [Bool.and_eq_true, decide_eq_true_eq, List.all_eq_true] at h
    exact ⟨h.1.1, h.1.2, fun c hc => h.2 c hc⟩
  intro w hw
  simp only [List.mem_cons, List.not_mem_nil, or_false] at hw
  rcases hw with rfl | rfl | rfl | rfl <;> exact key _ (by decide +kernel)
theorem strOk_v {x : Str} (h : VName x) : PyData.strOk x = true := by
  unfold PyData.strOk
  rw [← Array.all_toList]
  exact List.all_eq_true.mpr fun c hc => decide_eq_true (by have := h.le c hc; omega)
theorem lcatM_of {S α : Type} {xs ys : List α} (h : xs.length + ys.length ≤ 1000) : (lcatM xs ys : M S (List α)) = ret (xs ++ ys) := by
  unfold lcatM
  rw [decide_eq_true (by rw [sline]; omega), grd_true, ret_bnd]
def clsB (c : Str) : List Bool := [List.contains ts_InvalidColumn c, List.contains ts_InvalidKind c, List.contains ts_InvalidCycle c, List.contains ts_UnknownName c, List.contains ts_InvalidImage c, List.contains ts_OtherCycle c, List.contains ts_WrongState c, List.contains ts_InvalidValues c, List.contains ts_BatchOpen c, List.contains ts_BatchClosed c, List.contains ts_NoRow c, List.contains ts_NoMoment c, List.contains ts_InvalidRecord c, List.contains ts_Unchained c, List.contains ts_BadEntry c, List.contains ts_BadPicture c, List.contains ts_BrokenChain c, List.contains ts_UnlikeImages c, List.contains ts_Unplaced c, List.contains ts_Finished c, List.contains ts_OneWay c]
def ownB (c : Str) (k : Int) : Bool := List.contains exvs c && List.contains ts_FeedError c && (clsB c == (List.range 21).map fun (i : Nat) => decide ((i : Int) = k))
theorem classes_eq {S : Type} {e : Xv} (h : List.contains exvs e.1 = true) : (classes_m e : M S (List Bool)) = ret (clsB e.1) := by
  unfold classes_m classes_mb
  simp only [h, grd_true, ret_bnd]
  rw [lcatM_of (by simp)]
  simp only [ret_bnd]
  rw [lcatM_of (by simp)]
  simp only [ret_bnd]
  rw [lcatM_of (by simp)]
  simp only [ret_bnd]
  rw [lcatM_of (by simp)]
  simp only [ret_bnd]
  rw [lcatM_of (by simp)]
  simp only [ret_bnd]
  rw [lcatM_of (by simp)]
  simp only [ret_bnd]
  rfl
theorem ifT {S α : Type} (a b : M S α) : (if true = true then a else b) = a := rfl
theorem ifF {S α : Type} (a b : M S α) : (if false = true then a else b) = b := rfl
theorem own_of0 {S : Type} {e : Xv} {k : Int} (h : ownB e.1 k = true) : (own_m e k : M S Bool) = ret true := by
  unfold ownB at h
  simp only [Bool.and_eq_true, beq_iff_eq] at h
  obtain ⟨⟨h1, h2⟩, h3⟩ := h
  unfold own_m own_mb
  simp only [h1, h2, grd_true, ret_bnd, Bool.not_true]
  rw [ifF, ret_bnd, ifF, classes_eq h1, ret_bnd, rangeM_of (by decide) (by decide), ret_bnd]
  rw [compM_all (g := fun x => decide (x = k)) (by rw [List.length_map, List.length_range]; decide) fun x _ => rfl, ret_bnd, List.map_map, h3]
  unfold eqM
  rw [decide_eq_true (by rfl)]
  rfl
theorem own_of {S : Type} {c : Str} {fs : List (Str × Dt)} {k : Int} (h : ownB c k = true) : (own_m (c, fs) k : M S Bool) = ret true := own_of0 (e := (c, fs)) h
section
variable {S α : Type} {a b c d e : α} {l : List α}
theorem at0 : atI (a :: l) (0 : Int) = some a := by rw [atI_lt (by decide) (by rw [List.length_cons]; omega)]; rfl
theorem at1 : atI (a :: b :: l) (1 : Int) = some b := by rw [atI_lt (by decide) (by rw [List.length_cons, List.length_cons]; omega)]; rfl
theorem at2 : atI (a :: b :: c :: l) (2 : Int) = some c := by rw [atI_lt (by decide) (by rw [List.length_cons, List.length_cons, List.length_cons]; omega)]; rfl
theorem at3 : atI (a :: b :: c :: d :: l) (3 : Int) = some d := by rw [atI_lt (by decide) (by rw [List.length_cons, List.length_cons, List.length_cons, List.length_cons]; omega)]; rfl
theorem at4 : atI (a :: b :: c :: d :: e :: l) (4 : Int) = some e := by rw [atI_lt (by decide) (by rw [List.length_cons, List.length_cons, List.length_cons, List.length_cons, List.length_cons]; omega)]; rfl
end
theorem getS_hit {S : Type} {n x : Str} {fs : List (Str × Dt)} : (getS ((n, Dt.str x) :: fs) n : M S Str) = ret x := by
  unfold getS
  rw [List.lookup_cons_self]
theorem getI_hit {S : Type} {n : Str} {x : Int} {fs : List (Str × Dt)} : (getI ((n, Dt.int x) :: fs) n : M S Int) = ret x := by
  unfold getI
  rw [List.lookup_cons_self]
theorem getS_miss {S : Type} {n m : Str} {d : Dt} {fs : List (Str × Dt)} (h : (n == m) = false) : (getS ((m, d) :: fs) n : M S Str) = getS fs n := by
  unfold getS
  rw [List.lookup_cons, h]
theorem getI_miss {S : Type} {n m : Str} {d : Dt} {fs : List (Str × Dt)} (h : (n == m) = false) : (getI ((m, d) :: fs) n : M S Int) = getI fs n := by
  unfold getI
  rw [List.lookup_cons, h]
theorem grd_of {S : Type} {b : Bool} (h : b = true) : (grd b : M S Unit) = ret () := by rw [h]; rfl
theorem grd_con {S : Type} {l : List Str} {c : Str} (h : List.contains l c = true) : (grd (List.contains l c) : M S Unit) = ret () := grd_of h
theorem names_right_eq {S : Type} {x y : Str} (hx : PyData.strOk x = true) (hy : PyData.strOk y = true) : (names_right_m x y : M S Bool) = ret true := by
  unfold names_right_m names_right_mb
  have ha : PyData.strOk ("after" : Str) = true := by decide +kernel
  rw [at0, at1, at2, at3]
  simp only [opt_some, ret_bnd]
  rw [own_of (by decide +kernel), own_of (by decide +kernel), own_of (by decide +kernel), own_of (by decide +kernel), own_of (by decide +kernel), own_of (by decide +kernel)]
  simp only [ret_bnd, Bool.not_true, ifF]
  rw [grd_con (by decide +kernel), grd_con (by decide +kernel), grd_con (by decide +kernel), grd_con (by decide +kernel), grd_con (by decide +kernel), grd_con (by decide +kernel)]
  simp only [ret_bnd]
  rw [getS_miss (n := "target") (by decide +kernel), getS_hit, getS_hit, getS_hit, getS_hit]
  rw [getS_miss (n := "side") (m := "column") (by decide +kernel), getS_miss (n := "kind") (m := "column") (by decide +kernel), getS_miss (n := "kind") (m := "side") (by decide +kernel)]
  simp only [ret_bnd, getS_hit]
  have e1 : (lrepM [x] (4 : Int) : M S (List Str)) = ret [x, x, x, x] := rfl
  rw [e1]
  simp only [ret_bnd, neM, eqM, List.all_cons, List.all_nil, hx, hy, ha, Bool.and_true, Bool.and_self, grd_true]
  simp only [decide_eq_true (rfl : (x, y) = (x, y)), decide_true, Bool.not_true, ifF, ret_bnd]
  rw [grd_con (by decide +kernel)]
  simp only [ret_bnd, hx, hy, ha, Bool.and_true, Bool.and_self, grd_true, decide_true]
  rfl
theorem numbers_right_eq {S : Type} {k one oth : Int} {y : Str} (hy : PyData.strOk y = true) : (numbers_right_m k y one oth : M S Bool) = ret true := by
  unfold numbers_right_m numbers_right_mb
  rw [at0, at1, at2, at3, at4]
  simp only [opt_some, ret_bnd]
  rw [own_of (by decide +kernel), own_of (by decide +kernel), own_of (by decide +kernel), own_of (by decide +kernel), own_of (by decide +kernel), own_of (by decide +kernel), own_of (by decide +kernel)]
  simp only [ret_bnd, Bool.not_true, ifF]
  repeat rw [grd_con (by decide +kernel)]
  simp only [ret_bnd, getI_hit, getS_hit]
  repeat rw [grd_con (by decide +kernel)]
  repeat rw [getI_miss (by decide +kernel)]
  simp only [ret_bnd, getI_hit, getS_hit]
  repeat rw [grd_con (by decide +kernel)]
  simp only [ret_bnd, getI_hit, getS_hit, neM, eqM, hy, Bool.and_true, Bool.and_self, grd_true, decide_true, Bool.not_true, ifF]
  rw [getI_miss (by decide +kernel), getI_hit, ret_bnd, ret_bnd]
  simp only [hy, Bool.and_self, grd_true, ret_bnd, decide_true]
  rfl
theorem chains_right_eq {S : Type} {k one oth : Int} : (chains_right_m k one oth : M S Bool) = ret true := by
  unfold chains_right_m chains_right_mb
  have hs : PyData.strOk ("state" : Str) = true := by decide +kernel
  rw [own_of (by decide +kernel), own_of (by decide +kernel), own_of (by decide +kernel)]
  simp only [ret_bnd, Bool.not_true, ifF]
  repeat rw [grd_con (by decide +kernel)]
  simp only [ret_bnd, getI_hit, getS_hit]
  repeat rw [getI_miss (by decide +kernel)]
  repeat rw [grd_con (by decide +kernel)]
  simp only [ret_bnd, getI_hit, getS_hit]
  repeat rw [getI_miss (by decide +kernel)]
  repeat rw [grd_con (by decide +kernel)]
  simp only [ret_bnd, getI_hit, getS_hit]
  repeat rw [getI_miss (by decide +kernel)]
  simp only [ret_bnd, getI_hit, getS_hit]
  simp only [ret_bnd, getI_hit, getS_hit, neM, eqM, hs, List.all_cons, List.all_nil, Bool.and_true, Bool.and_self, grd_true, decide_true, Bool.not_true, ifF]
  rfl
theorem good : ∀ ns : List Int, ns.length ≤ 63 → (law_mb bagI (bag0 ns)).every fun fl _ => fl = .rt true := by
  have main : Gv (law_mb bagI) fun fl => fl = .rt true := by
    unfold law_mb
    refine gv_bnd (gv_names (by decide) (by decide) words15 (by decide) (by decide)) fun ns hn => ?_
    obtain ⟨x, y, rfl⟩ : ∃ x y, ns = [x, y] := by
      have := hn.len
      match ns, this with
      | [x, y], _ => exact ⟨x, y, rfl⟩
    have hx := strOk_v (hn.ok x (by simp)).1
    have hy := strOk_v (hn.ok y (by simp)).1
    refine gv_on (gv_draw (by decide) (by decide) fun k _ _ => ?_)
    refine gv_on (gv_draw (by decide) (by decide) fun one _ _ => ?_)
    refine gv_bnd (P := fun _ => True) (gv_on (gv_draw (by decide) (by decide) fun d _ _ => gv_ret True.intro)) fun oth _ => ?_
    rw [at0, at1]
    simp only [opt_some, ret_bnd]
    rw [names_right_eq hx hy]
    simp only [ret_bnd, Bool.not_true, ifF]
    rw [numbers_right_eq hy, own_of (by decide +kernel), own_of (by decide +kernel), own_of (by decide +kernel), own_of (by decide +kernel), own_of (by decide +kernel), chains_right_eq]
    simp only [ret_bnd, Bool.not_true, ifF]
    exact gv_ret rfl
  intro ns _
  exact every_imp (main (bag0 ns) (by show (0 : Int) ≤ 0; decide)) fun _ _ q => q.2
end Lw
set_option maxHeartbeats 0
namespace Lw
open PySem PySem.Spec PyProof.Rows L2 DL
abbrev st_bag : Stmt := (top 24)
theorem sc_bag : FnScope ["_law_script"] ["_law_script"] (defScope st_bag) := ⟨rfl, rfl, rfl, by decide +kernel, rfl, by decide +kernel, by decide +kernel⟩
theorem ok_bag {P : Program} {w : World} {K : PySem.W.Frag} {mg : Str → Option Value} {base : Heap} {f : Addr} {fd : FuncData} (F : FnP K "_law_bag" "_law_bag" st_bag [] [] f fd) (gl : mg "list" = none) : FnOk P w K mg base (L2.CX P w) 1 f fd ["_law_script"] (spBag K) := by
  refine F.ok sc_bag (fun vs H Q E ⟨a, ns, ev, _⟩ => by rw [ev]; rfl) fun cdv A outer s H vs Q E hr ⟨a, ns, ev, hS, q⟩ => ?_
  subst ev
  refine ⟨_, pss_one (ps_ret (pe_lst (pa_cons (pe_callTy call_list_of (by rfl) gl (by decide +kernel) (pa_cons (pv 0) pa_nil)) (pa_cons pe_int (pa_cons pe_int (pa_cons pe_int (pa_cons pe_int pa_nil))))))), ?_⟩
  refine ⟨_, rfl, a, _, rfl, .inl hS, fun al nal => ⟨le_line (by simp), fun ab nab => ?_⟩⟩
  have ne : ab ≠ al := fun z => by rw [z, upd_same] at nab; cases nab
  rw [upd_ne ne] at nab
  exact q al ab nal nab (Ne.symm ne)
/-! ### the head -/
def d0 : He.DefD := ⟨("InvalidColumn", some "__init__"), "__init__", "InvalidColumn.__init__", defArgs (inClass (top 2) 0), defBody (inClass (top 2) 0), defScope (inClass (top 2) 0), [], []⟩
def d1 : He.DefD := ⟨("InvalidKind", some "__init__"), "__init__", "InvalidKind.__init__", defArgs (inClass (top 3) 0), defBody (inClass (top 3) 0), defScope (inClass (top 3) 0), [], []⟩
def d2 : He.DefD := ⟨("UnknownName", some "__init__"), "__init__", "UnknownName.__init__", defArgs (inClass (top 5) 0), defBody (inClass (top 5) 0), defScope (inClass (top 5) 0), [], []⟩
def d3 : He.DefD := ⟨("InvalidImage", some "__init__"), "__init__", "InvalidImage.__init__", defArgs (inClass (top 6) 0), defBody (inClass (top 6) 0), defScope (inClass (top 6) 0), [], []⟩
def d4 : He.DefD := ⟨("WrongState", some "__init__"), "__init__", "WrongState.__init__", defArgs (inClass (top 8) 0), defBody (inClass (top 8) 0), defScope (inClass (top 8) 0), [], []⟩
def d5 : He.DefD := ⟨("InvalidValues", some "__init__"), "__init__", "InvalidValues.__init__", defArgs (inClass (top 9) 0), defBody (inClass (top 9) 0), defScope (inClass (top 9) 0), [], []⟩
def d6 : He.DefD := ⟨("NoRow", some "__init__"), "__init__", "NoRow.__init__", defArgs (inClass (top 12) 0), defBody (inClass (top 12) 0), defScope (inClass (top 12) 0), [], []⟩
def d7 : He.DefD := ⟨("NoMoment", some "__init__"), "__init__", "NoMoment.__init__", defArgs (inClass (top 13) 0), defBody (inClass (top 13) 0), defScope (inClass (top 13) 0), [], []⟩
def d8 : He.DefD := ⟨("InvalidRecord", some "__init__"), "__init__", "InvalidRecord.__init__", defArgs (inClass (top 14) 0), defBody (inClass (top 14) 0), defScope (inClass (top 14) 0), [], []⟩
def d9 : He.DefD := ⟨("Unchained", some "__init__"), "__init__", "Unchained.__init__", defArgs (inClass (top 15) 0), defBody (inClass (top 15) 0), defScope (inClass (top 15) 0), [], []⟩
def d10 : He.DefD := ⟨("BadEntry", some "__init__"), "__init__", "BadEntry.__init__", defArgs (inClass (top 16) 0), defBody (inClass (top 16) 0), defScope (inClass (top 16) 0), [], []⟩
def d11 : He.DefD := ⟨("BadPicture", some "__init__"), "__init__", "BadPicture.__init__", defArgs (inClass (top 17) 0), defBody (inClass (top 17) 0), defScope (inClass (top 17) 0), [], []⟩
def d12 : He.DefD := ⟨("BrokenChain", some "__init__"), "__init__", "BrokenChain.__init__", defArgs (inClass (top 18) 0), defBody (inClass (top 18) 0), defScope (inClass (top 18) 0), [], []⟩
def d13 : He.DefD := ⟨("UnlikeImages", some "__init__"), "__init__", "UnlikeImages.__init__", defArgs (inClass (top 19) 0), defBody (inClass (top 19) 0), defScope (inClass (top 19) 0), [], []⟩
def d14 : He.DefD := ⟨("Unplaced", some "__init__"), "__init__", "Unplaced.__init__", defArgs (inClass (top 20) 0), defBody (inClass (top 20) 0), defScope (inClass (top 20) 0), [], []⟩
def d15 : He.DefD := ⟨("OneWay", some "__init__"), "__init__", "OneWay.__init__", defArgs (inClass (top 22) 0), defBody (inClass (top 22) 0), defScope (inClass (top 22) 0), [], []⟩
def d16 : He.DefD := ⟨("_law_bag", none), "_law_bag", "_law_bag", defArgs (top 24), defBody (top 24), defScope (top 24), [], []⟩
def d17 : He.DefD := ⟨("_law_draw", none), "_law_draw", "_law_draw", defArgs (top 25), defBody (top 25), defScope (top 25), [], []⟩
def d18 : He.DefD := ⟨("_law_names", none), "_law_names", "_law_names", defArgs (top 26), defBody (top 26), defScope (top 26), [], []⟩
def d19 : He.DefD := ⟨("_law_classes", none), "_law_classes", "_law_classes", defArgs (top 27), defBody (top 27), defScope (top 27), [], []⟩
def d20 : He.DefD := ⟨("_law_own", none), "_law_own", "_law_own", defArgs (top 28), defBody (top 28), defScope (top 28), [], []⟩
def d21 : He.DefD := ⟨("_law_names_right", none), "_law_names_right", "_law_names_right", defArgs (top 29), defBody (top 29), defScope (top 29), [], []⟩
def d22 : He.DefD := ⟨("_law_numbers_right", none), "_law_numbers_right", "_law_numbers_right", defArgs (top 30), defBody (top 30), defScope (top 30), [], []⟩
def d23 : He.DefD := ⟨("_law_chains_right", none), "_law_chains_right", "_law_chains_right", defArgs (top 31), defBody (top 31), defScope (top 31), [], []⟩
def d24 : He.DefD := ⟨("law", none), "law", "law", defArgs (top 32), defBody (top 32), defScope (top 32), [], []⟩
def fn : List He.DefD := [d0, d1, d2, d3, d4, d5, d6, d7, d8, d9, d10, d11, d12, d13, d14, d15, d16, d17, d18, d19, d20, d21, d22, d23, d24]
def fa : List He.Fa := [.free "ValueError", .free "int", .free "isinstance", .free "len", .free "range", .noat "Unplaced" "key", .noat "Unplaced" "reasons", .glo "BadEntry", .glo "BadPicture", .glo "BatchClosed", .glo "BatchOpen", .glo "BrokenChain", .glo "FeedError", .glo "Finished", .glo "InvalidColumn", .glo "InvalidCycle", .glo "InvalidImage", .glo "InvalidKind", .glo "InvalidRecord", .glo "InvalidValues", .glo "NoMoment", .glo "NoRow", .glo "OneWay", .glo "OtherCycle", .glo "Unchained", .glo "UnknownName", .glo "UnlikeImages", .glo "Unplaced", .glo "WrongState", .noat "InvalidImage" "column", .noat "UnlikeImages" "index", .noat "BrokenChain" "index", .noat "BadEntry" "index", .noat "InvalidRecord" "index", .noat "UnlikeImages" "key", .noat "BrokenChain" "key", .noat "NoRow" "key", .noat "InvalidValues" "key", .noat "WrongState" "key", .noat "InvalidValues" "kind", .noat "InvalidImage" "kind", .noat "NoMoment" "moment", .noat "UnknownName" "name", .noat "InvalidKind" "name", .noat "InvalidColumn" "name", .noat "BadPicture" "number", .noat "UnlikeImages" "other", .noat "InvalidImage" "side", .noat "Unchained" "source", .noat "OneWay" "state", .noat "WrongState" "state", .noat "Unchained" "target", .free "abs", .glo "_law_draw", .meth "InvalidColumn" "__init__", .meth "InvalidKind" "__init__", .exc "InvalidCycle", .meth "UnknownName" "__init__", .meth "InvalidImage" "__init__", .exc "OtherCycle", .meth "WrongState" "__init__", .meth "InvalidValues" "__init__", .exc "BatchOpen", .exc "BatchClosed", .meth "NoRow" "__init__", .meth "NoMoment" "__init__", .meth "InvalidRecord" "__init__", .meth "Unchained" "__init__", .meth "BadEntry" "__init__", .meth "BadPicture" "__init__", .meth "BrokenChain" "__init__", .meth "UnlikeImages" "__init__", .meth "Unplaced" "__init__", .exc "Finished", .meth "OneWay" "__init__", .glo "_law_names", .glo "_law_classes", .glo "_law_own", .glo "_law_names_right", .glo "_law_numbers_right", .glo "_law_chains_right", .free "list", .glo "_law_bag", .glo "law"]
def xa : List Xa := [.xf "Unplaced", .exq "OneWay", .exq "Finished", .exq "Unplaced", .exq "UnlikeImages", .exq "BrokenChain", .exq "BadPicture", .exq "BadEntry", .exq "Unchained", .exq "InvalidRecord", .exq "NoMoment", .exq "NoRow", .exq "BatchClosed", .exq "BatchOpen", .exq "InvalidValues", .exq "WrongState", .exq "OtherCycle", .exq "InvalidImage", .exq "UnknownName", .exq "InvalidCycle", .exq "InvalidKind", .exq "InvalidColumn", .isl exvs ts_BadEntry "BadEntry", .isl exvs ts_BadPicture "BadPicture", .isl exvs ts_BatchClosed "BatchClosed", .isl exvs ts_BatchOpen "BatchOpen", .isl exvs ts_BrokenChain "BrokenChain", .isl exvs ts_FeedError "FeedError", .isl exvs ts_Finished "Finished", .isl exvs ts_InvalidColumn "InvalidColumn", .isl exvs ts_InvalidCycle "InvalidCycle", .isl exvs ts_InvalidImage "InvalidImage", .isl exvs ts_InvalidKind "InvalidKind", .isl exvs ts_InvalidRecord "InvalidRecord", .isl exvs ts_InvalidValues "InvalidValues", .isl exvs ts_NoMoment "NoMoment", .isl exvs ts_NoRow "NoRow", .isl exvs ts_OneWay "OneWay", .isl exvs ts_OtherCycle "OtherCycle", .isl exvs ts_Unchained "Unchained", .isl exvs ts_UnknownName "UnknownName", .isl exvs ts_UnlikeImages "UnlikeImages", .isl exvs ts_Unplaced "Unplaced", .isl exvs ts_WrongState "WrongState", .isbl exvs "ValueError" true, .xf "InvalidImage", .xf "UnlikeImages", .xf "BrokenChain", .xf "BadEntry", .xf "InvalidRecord", .xf "NoRow", .xf "InvalidValues", .xf "WrongState", .xf "NoMoment", .xf "UnknownName", .xf "InvalidKind", .xf "InvalidColumn", .xf "BadPicture", .xf "Unchained", .xf "OneWay", .oex "InvalidColumn", .veb "FeedError", .oex "InvalidKind", .oex "UnknownName", .oex "InvalidImage", .oex "WrongState", .oex "InvalidValues", .oex "NoRow", .oex "NoMoment", .oex "InvalidRecord", .oex "Unchained", .oex "BadEntry", .oex "BadPicture", .oex "BrokenChain", .oex "UnlikeImages", .oex "Unplaced", .oex "OneWay"]
abbrev R : PySem.W.OpenRow := PySem.W.OpenLaw.row PySem.Challenge.rw_imagefeeds_k15_errors_and_their_parts
abbrev hk : PySem.W.Hook := hookX 5 fa xa fn
def ob (s : PySem.W.SharedT) : AlX := obsXG 5 fa xa fn (HandSHeadRun.getT s)
theorem ob_eq (s : PySem.W.SharedT) : ob s = hk.obs s.abs := obsXG_eq (HandSHeadRun.getT_eq s)
def loose : List PySem.Str := (["FeedError", "InvalidColumn", "InvalidKind", "InvalidCycle", "UnknownName", "InvalidImage", "OtherCycle", "WrongState", "InvalidValues", "BatchOpen", "BatchClosed", "NoRow", "NoMoment", "InvalidRecord", "Unchained"] : List PySem.Str) ++ (["BadEntry", "BadPicture", "BrokenChain", "UnlikeImages", "Unplaced", "Finished", "OneWay", "_law_bag", "_law_draw", "_law_names", "_law_classes", "_law_own", "_law_names_right", "_law_numbers_right", "_law_chains_right"] : List PySem.Str)
theorem run (w : World) : HandSHeadRun.RunEq R (PySem.W.view R.prog [32]) hk ob 9000 loose w := by
  intro os
  kernel_rfl
theorem facts (good : ∀ ns : List Int, ns.length ≤ 63 → (law_mb bagI (bag0 ns)).every fun fl _ => fl = .rt true) {P : Program} {w : World} {K : PySem.W.Frag} {h : Heap} {mg : Str → Option Value} {f : Addr} (X : K.In h) (G : h.Ns mainGlobals mg) (hfa : mg ("law" : Str) = some (.ref f)) (c : SaysX fa xa fn K) :
    ∃ fd : FuncData, (∀ (s : Shared) (v : Value), BindsTo s fd ⟨[v], []⟩ [("_law_script", v)]) ∧ ∀ base : Heap, K.In base → base.Ns mainGlobals mg → FnOk P w K mg base CX0 4 f fd ["_law_script"] (spLaw K) := by
  obtain ⟨fdL0, FL0⟩ := c.def_ 24 (d := d24) rfl
  have e := hfa.symm.trans (He.glo_ok X G (c.fact 83 (f := .glo "law") rfl))
  cases e
  have bL := FunD.bindsA (ps := ["_law_script"]) FL0 fun _ _ _ _ _ _ us hl => match us, hl with | [_], _ => rfl
  refine ⟨fdL0, fun s v => bL s [v] rfl, fun base _ _ => ?_⟩
  have T : Txt K mg := ⟨He.free_ok X G (c.fact 0 (f := .free "ValueError") rfl), He.free_ok X G (c.fact 1 (f := .free "int") rfl), He.free_ok X G (c.fact 2 (f := .free "isinstance") rfl), He.free_ok X G (c.fact 3 (f := .free "len") rfl), He.free_ok X G (c.fact 4 (f := .free "range") rfl), xfB_ok (c.more 0 (f := .xf "Unplaced") rfl), He.noat_ok (c.fact 5 (f := .noat "Unplaced" "key") rfl), He.noat_ok (c.fact 6 (f := .noat "Unplaced" "reasons") rfl), (He.glo_ok X G (c.fact 7 (f := .glo "BadEntry") rfl)), (He.glo_ok X G (c.fact 8 (f := .glo "BadPicture") rfl)), (He.glo_ok X G (c.fact 9 (f := .glo "BatchClosed") rfl)), (He.glo_ok X G (c.fact 10 (f := .glo "BatchOpen") rfl)), (He.glo_ok X G (c.fact 11 (f := .glo "BrokenChain") rfl)), (He.glo_ok X G (c.fact 12 (f := .glo "FeedError") rfl)), (He.glo_ok X G (c.fact 13 (f := .glo "Finished") rfl)), (He.glo_ok X G (c.fact 14 (f := .glo "InvalidColumn") rfl)), (He.glo_ok X G (c.fact 15 (f := .glo "InvalidCycle") rfl)), (He.glo_ok X G (c.fact 16 (f := .glo "InvalidImage") rfl)), (He.glo_ok X G (c.fact 17 (f := .glo "InvalidKind") rfl)), (He.glo_ok X G (c.fact 18 (f := .glo "InvalidRecord") rfl)), (He.glo_ok X G (c.fact 19 (f := .glo "InvalidValues") rfl)), (He.glo_ok X G (c.fact 20 (f := .glo "NoMoment") rfl)), (He.glo_ok X G (c.fact 21 (f := .glo "NoRow") rfl)), (He.glo_ok X G (c.fact 22 (f := .glo "OneWay") rfl)), (He.glo_ok X G (c.fact 23 (f := .glo "OtherCycle") rfl)), (He.glo_ok X G (c.fact 24 (f := .glo "Unchained") rfl)), (He.glo_ok X G (c.fact 25 (f := .glo "UnknownName") rfl)), (He.glo_ok X G (c.fact 26 (f := .glo "UnlikeImages") rfl)), (He.glo_ok X G (c.fact 27 (f := .glo "Unplaced") rfl)), (He.glo_ok X G (c.fact 28 (f := .glo "WrongState") rfl)), (fa_cons (excB_ok (c.more 21 (f := .exq "InvalidColumn") rfl)) (fa_cons (excB_ok (c.more 20 (f := .exq "InvalidKind") rfl)) (fa_cons (excB_ok (c.more 19 (f := .exq "InvalidCycle") rfl)) (fa_cons (excB_ok (c.more 18 (f := .exq "UnknownName") rfl)) (fa_cons (excB_ok (c.more 17 (f := .exq "InvalidImage") rfl)) (fa_cons (excB_ok (c.more 16 (f := .exq "OtherCycle") rfl)) (fa_cons (excB_ok (c.more 15 (f := .exq "WrongState") rfl)) (fa_cons (excB_ok (c.more 14 (f := .exq "InvalidValues") rfl)) (fa_cons (excB_ok (c.more 13 (f := .exq "BatchOpen") rfl)) (fa_cons (excB_ok (c.more 12 (f := .exq "BatchClosed") rfl)) (fa_cons (excB_ok (c.more 11 (f := .exq "NoRow") rfl)) (fa_cons (excB_ok (c.more 10 (f := .exq "NoMoment") rfl)) (fa_cons (excB_ok (c.more 9 (f := .exq "InvalidRecord") rfl)) (fa_cons (excB_ok (c.more 8 (f := .exq "Unchained") rfl)) (fa_cons (excB_ok (c.more 7 (f := .exq "BadEntry") rfl)) (fa_cons (excB_ok (c.more 6 (f := .exq "BadPicture") rfl)) (fa_cons (excB_ok (c.more 5 (f := .exq "BrokenChain") rfl)) (fa_cons (excB_ok (c.more 4 (f := .exq "UnlikeImages") rfl)) (fa_cons (excB_ok (c.more 3 (f := .exq "Unplaced") rfl)) (fa_cons (excB_ok (c.more 2 (f := .exq "Finished") rfl)) (fa_cons (excB_ok (c.more 1 (f := .exq "OneWay") rfl)) fa_nil))))))))))))))))))))), isl_ok (c.more 22 (f := .isl exvs ts_BadEntry "BadEntry") rfl), isl_ok (c.more 23 (f := .isl exvs ts_BadPicture "BadPicture") rfl), isl_ok (c.more 24 (f := .isl exvs ts_BatchClosed "BatchClosed") rfl), isl_ok (c.more 25 (f := .isl exvs ts_BatchOpen "BatchOpen") rfl), isl_ok (c.more 26 (f := .isl exvs ts_BrokenChain "BrokenChain") rfl), isl_ok (c.more 27 (f := .isl exvs ts_FeedError "FeedError") rfl), isl_ok (c.more 28 (f := .isl exvs ts_Finished "Finished") rfl), isl_ok (c.more 29 (f := .isl exvs ts_InvalidColumn "InvalidColumn") rfl), isl_ok (c.more 30 (f := .isl exvs ts_InvalidCycle "InvalidCycle") rfl), isl_ok (c.more 31 (f := .isl exvs ts_InvalidImage "InvalidImage") rfl), isl_ok (c.more 32 (f := .isl exvs ts_InvalidKind "InvalidKind") rfl), isl_ok (c.more 33 (f := .isl exvs ts_InvalidRecord "InvalidRecord") rfl), isl_ok (c.more 34 (f := .isl exvs ts_InvalidValues "InvalidValues") rfl), isl_ok (c.more 35 (f := .isl exvs ts_NoMoment "NoMoment") rfl), isl_ok (c.more 36 (f := .isl exvs ts_NoRow "NoRow") rfl), isl_ok (c.more 37 (f := .isl exvs ts_OneWay "OneWay") rfl), isl_ok (c.more 38 (f := .isl exvs ts_OtherCycle "OtherCycle") rfl), isl_ok (c.more 39 (f := .isl exvs ts_Unchained "Unchained") rfl), isl_ok (c.more 40 (f := .isl exvs ts_UnknownName "UnknownName") rfl), isl_ok (c.more 41 (f := .isl exvs ts_UnlikeImages "UnlikeImages") rfl), isl_ok (c.more 42 (f := .isl exvs ts_Unplaced "Unplaced") rfl), isl_ok (c.more 43 (f := .isl exvs ts_WrongState "WrongState") rfl), isbl_ok (c.more 44 (f := .isbl exvs "ValueError" true) rfl), (fa_cons ⟨xfB_ok (c.more 45 (f := .xf "InvalidImage") rfl), He.noat_ok (c.fact 29 (f := .noat "InvalidImage" "column") rfl)⟩ fa_nil), (fa_cons ⟨xfB_ok (c.more 49 (f := .xf "InvalidRecord") rfl), He.noat_ok (c.fact 33 (f := .noat "InvalidRecord" "index") rfl)⟩ (fa_cons ⟨xfB_ok (c.more 48 (f := .xf "BadEntry") rfl), He.noat_ok (c.fact 32 (f := .noat "BadEntry" "index") rfl)⟩ (fa_cons ⟨xfB_ok (c.more 47 (f := .xf "BrokenChain") rfl), He.noat_ok (c.fact 31 (f := .noat "BrokenChain" "index") rfl)⟩ (fa_cons ⟨xfB_ok (c.more 46 (f := .xf "UnlikeImages") rfl), He.noat_ok (c.fact 30 (f := .noat "UnlikeImages" "index") rfl)⟩ fa_nil)))), (fa_cons ⟨xfB_ok (c.more 52 (f := .xf "WrongState") rfl), He.noat_ok (c.fact 38 (f := .noat "WrongState" "key") rfl)⟩ (fa_cons ⟨xfB_ok (c.more 51 (f := .xf "InvalidValues") rfl), He.noat_ok (c.fact 37 (f := .noat "InvalidValues" "key") rfl)⟩ (fa_cons ⟨xfB_ok (c.more 50 (f := .xf "NoRow") rfl), He.noat_ok (c.fact 36 (f := .noat "NoRow" "key") rfl)⟩ (fa_cons ⟨xfB_ok (c.more 47 (f := .xf "BrokenChain") rfl), He.noat_ok (c.fact 35 (f := .noat "BrokenChain" "key") rfl)⟩ (fa_cons ⟨xfB_ok (c.more 46 (f := .xf "UnlikeImages") rfl), He.noat_ok (c.fact 34 (f := .noat "UnlikeImages" "key") rfl)⟩ fa_nil))))), (fa_cons ⟨xfB_ok (c.more 45 (f := .xf "InvalidImage") rfl), He.noat_ok (c.fact 40 (f := .noat "InvalidImage" "kind") rfl)⟩ (fa_cons ⟨xfB_ok (c.more 51 (f := .xf "InvalidValues") rfl), He.noat_ok (c.fact 39 (f := .noat "InvalidValues" "kind") rfl)⟩ fa_nil)), (fa_cons ⟨xfB_ok (c.more 53 (f := .xf "NoMoment") rfl), He.noat_ok (c.fact 41 (f := .noat "NoMoment" "moment") rfl)⟩ fa_nil), (fa_cons ⟨xfB_ok (c.more 56 (f := .xf "InvalidColumn") rfl), He.noat_ok (c.fact 44 (f := .noat "InvalidColumn" "name") rfl)⟩ (fa_cons ⟨xfB_ok (c.more 55 (f := .xf "InvalidKind") rfl), He.noat_ok (c.fact 43 (f := .noat "InvalidKind" "name") rfl)⟩ (fa_cons ⟨xfB_ok (c.more 54 (f := .xf "UnknownName") rfl), He.noat_ok (c.fact 42 (f := .noat "UnknownName" "name") rfl)⟩ fa_nil))), (fa_cons ⟨xfB_ok (c.more 57 (f := .xf "BadPicture") rfl), He.noat_ok (c.fact 45 (f := .noat "BadPicture" "number") rfl)⟩ fa_nil), (fa_cons ⟨xfB_ok (c.more 46 (f := .xf "UnlikeImages") rfl), He.noat_ok (c.fact 46 (f := .noat "UnlikeImages" "other") rfl)⟩ fa_nil), (fa_cons ⟨xfB_ok (c.more 45 (f := .xf "InvalidImage") rfl), He.noat_ok (c.fact 47 (f := .noat "InvalidImage" "side") rfl)⟩ fa_nil), (fa_cons ⟨xfB_ok (c.more 58 (f := .xf "Unchained") rfl), He.noat_ok (c.fact 48 (f := .noat "Unchained" "source") rfl)⟩ fa_nil), (fa_cons ⟨xfB_ok (c.more 52 (f := .xf "WrongState") rfl), He.noat_ok (c.fact 50 (f := .noat "WrongState" "state") rfl)⟩ (fa_cons ⟨xfB_ok (c.more 59 (f := .xf "OneWay") rfl), He.noat_ok (c.fact 49 (f := .noat "OneWay" "state") rfl)⟩ fa_nil)), (fa_cons ⟨xfB_ok (c.more 58 (f := .xf "Unchained") rfl), He.noat_ok (c.fact 51 (f := .noat "Unchained" "target") rfl)⟩ fa_nil)⟩
  obtain ⟨fdD, FD⟩ := c.def_ 17 (d := d17) rfl
  have C_draw : FnC P w K mg base "_law_draw" 1 (sp_draw K mg) := FnC.of (ok_draw FD (He.free_ok X G (c.fact 3 (f := .free "len") rfl)) (He.free_ok X G (c.fact 52 (f := .free "abs") rfl)) (He.free_ok X G (c.fact 1 (f := .free "int") rfl))) (He.glo_ok X G (c.fact 53 (f := .glo "_law_draw") rfl)) FD.kp (FunD.bindsN (ps := ["_law_bag_here", "_law_size"]) FD fun _ _ _ _ _ _ us hl => match us, hl with | [_, _], _ => rfl)
  obtain ⟨fdXInvalidColumn, FXInvalidColumn⟩ := c.def_ 0 (d := d0) rfl
  have X_InvalidColumn : XnC P w K mg base "InvalidColumn" ["name"] 1 := ⟨_, _, _, _, oexB_ok (c.more 60 (f := .oex "InvalidColumn") rfl), (He.glo_ok X G (c.fact 14 (f := .glo "InvalidColumn") rfl)), (He.meth_ok (c.fact 54 (f := .meth "InvalidColumn" "__init__") rfl)).at_, beq_iff_eq.mp (He.meth_ok (c.fact 54 (f := .meth "InvalidColumn" "__init__") rfl)).fn, ok_X_InvalidColumn FXInvalidColumn (oexB_ok (c.more 60 (f := .oex "InvalidColumn") rfl)) (He.glo_ok X G (c.fact 12 (f := .glo "FeedError") rfl)) (veB_ok (c.more 61 (f := .veb "FeedError") rfl)) (He.noat_ok (c.fact 44 (f := .noat "InvalidColumn" "name") rfl)), (FunD.bindsN (ps := ["self", "name"]) FXInvalidColumn fun _ _ _ _ _ _ us hl => match us, hl with | [_, _], _ => rfl)⟩
  obtain ⟨fdXInvalidKind, FXInvalidKind⟩ := c.def_ 1 (d := d1) rfl
  have X_InvalidKind : XnC P w K mg base "InvalidKind" ["name"] 1 := ⟨_, _, _, _, oexB_ok (c.more 62 (f := .oex "InvalidKind") rfl), (He.glo_ok X G (c.fact 17 (f := .glo "InvalidKind") rfl)), (He.meth_ok (c.fact 55 (f := .meth "InvalidKind" "__init__") rfl)).at_, beq_iff_eq.mp (He.meth_ok (c.fact 55 (f := .meth "InvalidKind" "__init__") rfl)).fn, ok_X_InvalidKind FXInvalidKind (oexB_ok (c.more 62 (f := .oex "InvalidKind") rfl)) (He.glo_ok X G (c.fact 12 (f := .glo "FeedError") rfl)) (veB_ok (c.more 61 (f := .veb "FeedError") rfl)) (He.noat_ok (c.fact 43 (f := .noat "InvalidKind" "name") rfl)), (FunD.bindsN (ps := ["self", "name"]) FXInvalidKind fun _ _ _ _ _ _ us hl => match us, hl with | [_, _], _ => rfl)⟩
  have X_InvalidCycle : XzC K mg "InvalidCycle" := by
    obtain ⟨h1, h2, h3, h4⟩ := He.exc_ok (c.fact 56 (f := .exc "InvalidCycle") rfl)
    exact ⟨_, (He.glo_ok X G (c.fact 15 (f := .glo "InvalidCycle") rfl)), h1, h2, h3, h4⟩
  obtain ⟨fdXUnknownName, FXUnknownName⟩ := c.def_ 2 (d := d2) rfl
  have X_UnknownName : XnC P w K mg base "UnknownName" ["name"] 1 := ⟨_, _, _, _, oexB_ok (c.more 63 (f := .oex "UnknownName") rfl), (He.glo_ok X G (c.fact 25 (f := .glo "UnknownName") rfl)), (He.meth_ok (c.fact 57 (f := .meth "UnknownName" "__init__") rfl)).at_, beq_iff_eq.mp (He.meth_ok (c.fact 57 (f := .meth "UnknownName" "__init__") rfl)).fn, ok_X_UnknownName FXUnknownName (oexB_ok (c.more 63 (f := .oex "UnknownName") rfl)) (He.glo_ok X G (c.fact 12 (f := .glo "FeedError") rfl)) (veB_ok (c.more 61 (f := .veb "FeedError") rfl)) (He.noat_ok (c.fact 42 (f := .noat "UnknownName" "name") rfl)), (FunD.bindsN (ps := ["self", "name"]) FXUnknownName fun _ _ _ _ _ _ us hl => match us, hl with | [_, _], _ => rfl)⟩
  obtain ⟨fdXInvalidImage, FXInvalidImage⟩ := c.def_ 3 (d := d3) rfl
  have X_InvalidImage : XnC P w K mg base "InvalidImage" ["kind", "side", "column"] 1 := ⟨_, _, _, _, oexB_ok (c.more 64 (f := .oex "InvalidImage") rfl), (He.glo_ok X G (c.fact 16 (f := .glo "InvalidImage") rfl)), (He.meth_ok (c.fact 58 (f := .meth "InvalidImage" "__init__") rfl)).at_, beq_iff_eq.mp (He.meth_ok (c.fact 58 (f := .meth "InvalidImage" "__init__") rfl)).fn, ok_X_InvalidImage FXInvalidImage (oexB_ok (c.more 64 (f := .oex "InvalidImage") rfl)) (He.glo_ok X G (c.fact 12 (f := .glo "FeedError") rfl)) (veB_ok (c.more 61 (f := .veb "FeedError") rfl)) (He.noat_ok (c.fact 40 (f := .noat "InvalidImage" "kind") rfl)) (He.noat_ok (c.fact 47 (f := .noat "InvalidImage" "side") rfl)) (He.noat_ok (c.fact 29 (f := .noat "InvalidImage" "column") rfl)), (FunD.bindsN (ps := ["self", "kind", "side", "column"]) FXInvalidImage fun _ _ _ _ _ _ us hl => match us, hl with | [_, _, _, _], _ => rfl)⟩
  have X_OtherCycle : XzC K mg "OtherCycle" := by
    obtain ⟨h1, h2, h3, h4⟩ := He.exc_ok (c.fact 59 (f := .exc "OtherCycle") rfl)
    exact ⟨_, (He.glo_ok X G (c.fact 23 (f := .glo "OtherCycle") rfl)), h1, h2, h3, h4⟩
  obtain ⟨fdXWrongState, FXWrongState⟩ := c.def_ 4 (d := d4) rfl
  have X_WrongState : XnC P w K mg base "WrongState" ["key", "state"] 1 := ⟨_, _, _, _, oexB_ok (c.more 65 (f := .oex "WrongState") rfl), (He.glo_ok X G (c.fact 28 (f := .glo "WrongState") rfl)), (He.meth_ok (c.fact 60 (f := .meth "WrongState" "__init__") rfl)).at_, beq_iff_eq.mp (He.meth_ok (c.fact 60 (f := .meth "WrongState" "__init__") rfl)).fn, ok_X_WrongState FXWrongState (oexB_ok (c.more 65 (f := .oex "WrongState") rfl)) (He.glo_ok X G (c.fact 12 (f := .glo "FeedError") rfl)) (veB_ok (c.more 61 (f := .veb "FeedError") rfl)) (He.noat_ok (c.fact 38 (f := .noat "WrongState" "key") rfl)) (He.noat_ok (c.fact 50 (f := .noat "WrongState" "state") rfl)), (FunD.bindsN (ps := ["self", "key", "state"]) FXWrongState fun _ _ _ _ _ _ us hl => match us, hl with | [_, _, _], _ => rfl)⟩
  obtain ⟨fdXInvalidValues, FXInvalidValues⟩ := c.def_ 5 (d := d5) rfl
  have X_InvalidValues : XnC P w K mg base "InvalidValues" ["key", "kind"] 1 := ⟨_, _, _, _, oexB_ok (c.more 66 (f := .oex "InvalidValues") rfl), (He.glo_ok X G (c.fact 19 (f := .glo "InvalidValues") rfl)), (He.meth_ok (c.fact 61 (f := .meth "InvalidValues" "__init__") rfl)).at_, beq_iff_eq.mp (He.meth_ok (c.fact 61 (f := .meth "InvalidValues" "__init__") rfl)).fn, ok_X_InvalidValues FXInvalidValues (oexB_ok (c.more 66 (f := .oex "InvalidValues") rfl)) (He.glo_ok X G (c.fact 12 (f := .glo "FeedError") rfl)) (veB_ok (c.more 61 (f := .veb "FeedError") rfl)) (He.noat_ok (c.fact 37 (f := .noat "InvalidValues" "key") rfl)) (He.noat_ok (c.fact 39 (f := .noat "InvalidValues" "kind") rfl)), (FunD.bindsN (ps := ["self", "key", "kind"]) FXInvalidValues fun _ _ _ _ _ _ us hl => match us, hl with | [_, _, _], _ => rfl)⟩
  have X_BatchOpen : XzC K mg "BatchOpen" := by
    obtain ⟨h1, h2, h3, h4⟩ := He.exc_ok (c.fact 62 (f := .exc "BatchOpen") rfl)
    exact ⟨_, (He.glo_ok X G (c.fact 10 (f := .glo "BatchOpen") rfl)), h1, h2, h3, h4⟩
  have X_BatchClosed : XzC K mg "BatchClosed" := by
    obtain ⟨h1, h2, h3, h4⟩ := He.exc_ok (c.fact 63 (f := .exc "BatchClosed") rfl)
    exact ⟨_, (He.glo_ok X G (c.fact 9 (f := .glo "BatchClosed") rfl)), h1, h2, h3, h4⟩
  obtain ⟨fdXNoRow, FXNoRow⟩ := c.def_ 6 (d := d6) rfl
  have X_NoRow : XnC P w K mg base "NoRow" ["key"] 1 := ⟨_, _, _, _, oexB_ok (c.more 67 (f := .oex "NoRow") rfl), (He.glo_ok X G (c.fact 21 (f := .glo "NoRow") rfl)), (He.meth_ok (c.fact 64 (f := .meth "NoRow" "__init__") rfl)).at_, beq_iff_eq.mp (He.meth_ok (c.fact 64 (f := .meth "NoRow" "__init__") rfl)).fn, ok_X_NoRow FXNoRow (oexB_ok (c.more 67 (f := .oex "NoRow") rfl)) (He.glo_ok X G (c.fact 12 (f := .glo "FeedError") rfl)) (veB_ok (c.more 61 (f := .veb "FeedError") rfl)) (He.noat_ok (c.fact 36 (f := .noat "NoRow" "key") rfl)), (FunD.bindsN (ps := ["self", "key"]) FXNoRow fun _ _ _ _ _ _ us hl => match us, hl with | [_, _], _ => rfl)⟩
  obtain ⟨fdXNoMoment, FXNoMoment⟩ := c.def_ 7 (d := d7) rfl
  have X_NoMoment : XnC P w K mg base "NoMoment" ["moment"] 1 := ⟨_, _, _, _, oexB_ok (c.more 68 (f := .oex "NoMoment") rfl), (He.glo_ok X G (c.fact 20 (f := .glo "NoMoment") rfl)), (He.meth_ok (c.fact 65 (f := .meth "NoMoment" "__init__") rfl)).at_, beq_iff_eq.mp (He.meth_ok (c.fact 65 (f := .meth "NoMoment" "__init__") rfl)).fn, ok_X_NoMoment FXNoMoment (oexB_ok (c.more 68 (f := .oex "NoMoment") rfl)) (He.glo_ok X G (c.fact 12 (f := .glo "FeedError") rfl)) (veB_ok (c.more 61 (f := .veb "FeedError") rfl)) (He.noat_ok (c.fact 41 (f := .noat "NoMoment" "moment") rfl)), (FunD.bindsN (ps := ["self", "moment"]) FXNoMoment fun _ _ _ _ _ _ us hl => match us, hl with | [_, _], _ => rfl)⟩
  obtain ⟨fdXInvalidRecord, FXInvalidRecord⟩ := c.def_ 8 (d := d8) rfl
  have X_InvalidRecord : XnC P w K mg base "InvalidRecord" ["index"] 1 := ⟨_, _, _, _, oexB_ok (c.more 69 (f := .oex "InvalidRecord") rfl), (He.glo_ok X G (c.fact 18 (f := .glo "InvalidRecord") rfl)), (He.meth_ok (c.fact 66 (f := .meth "InvalidRecord" "__init__") rfl)).at_, beq_iff_eq.mp (He.meth_ok (c.fact 66 (f := .meth "InvalidRecord" "__init__") rfl)).fn, ok_X_InvalidRecord FXInvalidRecord (oexB_ok (c.more 69 (f := .oex "InvalidRecord") rfl)) (He.glo_ok X G (c.fact 12 (f := .glo "FeedError") rfl)) (veB_ok (c.more 61 (f := .veb "FeedError") rfl)) (He.noat_ok (c.fact 33 (f := .noat "InvalidRecord" "index") rfl)), (FunD.bindsN (ps := ["self", "index"]) FXInvalidRecord fun _ _ _ _ _ _ us hl => match us, hl with | [_, _], _ => rfl)⟩
  obtain ⟨fdXUnchained, FXUnchained⟩ := c.def_ 9 (d := d9) rfl
  have X_Unchained : XnC P w K mg base "Unchained" ["target", "source"] 1 := ⟨_, _, _, _, oexB_ok (c.more 70 (f := .oex "Unchained") rfl), (He.glo_ok X G (c.fact 24 (f := .glo "Unchained") rfl)), (He.meth_ok (c.fact 67 (f := .meth "Unchained" "__init__") rfl)).at_, beq_iff_eq.mp (He.meth_ok (c.fact 67 (f := .meth "Unchained" "__init__") rfl)).fn, ok_X_Unchained FXUnchained (oexB_ok (c.more 70 (f := .oex "Unchained") rfl)) (He.glo_ok X G (c.fact 12 (f := .glo "FeedError") rfl)) (veB_ok (c.more 61 (f := .veb "FeedError") rfl)) (He.noat_ok (c.fact 51 (f := .noat "Unchained" "target") rfl)) (He.noat_ok (c.fact 48 (f := .noat "Unchained" "source") rfl)), (FunD.bindsN (ps := ["self", "target", "source"]) FXUnchained fun _ _ _ _ _ _ us hl => match us, hl with | [_, _, _], _ => rfl)⟩
  obtain ⟨fdXBadEntry, FXBadEntry⟩ := c.def_ 10 (d := d10) rfl
  have X_BadEntry : XnC P w K mg base "BadEntry" ["index"] 1 := ⟨_, _, _, _, oexB_ok (c.more 71 (f := .oex "BadEntry") rfl), (He.glo_ok X G (c.fact 7 (f := .glo "BadEntry") rfl)), (He.meth_ok (c.fact 68 (f := .meth "BadEntry" "__init__") rfl)).at_, beq_iff_eq.mp (He.meth_ok (c.fact 68 (f := .meth "BadEntry" "__init__") rfl)).fn, ok_X_BadEntry FXBadEntry (oexB_ok (c.more 71 (f := .oex "BadEntry") rfl)) (He.glo_ok X G (c.fact 12 (f := .glo "FeedError") rfl)) (veB_ok (c.more 61 (f := .veb "FeedError") rfl)) (He.noat_ok (c.fact 32 (f := .noat "BadEntry" "index") rfl)), (FunD.bindsN (ps := ["self", "index"]) FXBadEntry fun _ _ _ _ _ _ us hl => match us, hl with | [_, _], _ => rfl)⟩
  obtain ⟨fdXBadPicture, FXBadPicture⟩ := c.def_ 11 (d := d11) rfl
  have X_BadPicture : XnC P w K mg base "BadPicture" ["number"] 1 := ⟨_, _, _, _, oexB_ok (c.more 72 (f := .oex "BadPicture") rfl), (He.glo_ok X G (c.fact 8 (f := .glo "BadPicture") rfl)), (He.meth_ok (c.fact 69 (f := .meth "BadPicture" "__init__") rfl)).at_, beq_iff_eq.mp (He.meth_ok (c.fact 69 (f := .meth "BadPicture" "__init__") rfl)).fn, ok_X_BadPicture FXBadPicture (oexB_ok (c.more 72 (f := .oex "BadPicture") rfl)) (He.glo_ok X G (c.fact 12 (f := .glo "FeedError") rfl)) (veB_ok (c.more 61 (f := .veb "FeedError") rfl)) (He.noat_ok (c.fact 45 (f := .noat "BadPicture" "number") rfl)), (FunD.bindsN (ps := ["self", "number"]) FXBadPicture fun _ _ _ _ _ _ us hl => match us, hl with | [_, _], _ => rfl)⟩
  obtain ⟨fdXBrokenChain, FXBrokenChain⟩ := c.def_ 12 (d := d12) rfl
  have X_BrokenChain : XnC P w K mg base "BrokenChain" ["key", "index"] 1 := ⟨_, _, _, _, oexB_ok (c.more 73 (f := .oex "BrokenChain") rfl), (He.glo_ok X G (c.fact 11 (f := .glo "BrokenChain") rfl)), (He.meth_ok (c.fact 70 (f := .meth "BrokenChain" "__init__") rfl)).at_, beq_iff_eq.mp (He.meth_ok (c.fact 70 (f := .meth "BrokenChain" "__init__") rfl)).fn, ok_X_BrokenChain FXBrokenChain (oexB_ok (c.more 73 (f := .oex "BrokenChain") rfl)) (He.glo_ok X G (c.fact 12 (f := .glo "FeedError") rfl)) (veB_ok (c.more 61 (f := .veb "FeedError") rfl)) (He.noat_ok (c.fact 35 (f := .noat "BrokenChain" "key") rfl)) (He.noat_ok (c.fact 31 (f := .noat "BrokenChain" "index") rfl)), (FunD.bindsN (ps := ["self", "key", "index"]) FXBrokenChain fun _ _ _ _ _ _ us hl => match us, hl with | [_, _, _], _ => rfl)⟩
  obtain ⟨fdXUnlikeImages, FXUnlikeImages⟩ := c.def_ 13 (d := d13) rfl
  have X_UnlikeImages : XnC P w K mg base "UnlikeImages" ["key", "index", "other"] 1 := ⟨_, _, _, _, oexB_ok (c.more 74 (f := .oex "UnlikeImages") rfl), (He.glo_ok X G (c.fact 26 (f := .glo "UnlikeImages") rfl)), (He.meth_ok (c.fact 71 (f := .meth "UnlikeImages" "__init__") rfl)).at_, beq_iff_eq.mp (He.meth_ok (c.fact 71 (f := .meth "UnlikeImages" "__init__") rfl)).fn, ok_X_UnlikeImages FXUnlikeImages (oexB_ok (c.more 74 (f := .oex "UnlikeImages") rfl)) (He.glo_ok X G (c.fact 12 (f := .glo "FeedError") rfl)) (veB_ok (c.more 61 (f := .veb "FeedError") rfl)) (He.noat_ok (c.fact 34 (f := .noat "UnlikeImages" "key") rfl)) (He.noat_ok (c.fact 30 (f := .noat "UnlikeImages" "index") rfl)) (He.noat_ok (c.fact 46 (f := .noat "UnlikeImages" "other") rfl)), (FunD.bindsN (ps := ["self", "key", "index", "other"]) FXUnlikeImages fun _ _ _ _ _ _ us hl => match us, hl with | [_, _, _, _], _ => rfl)⟩
  obtain ⟨fdXUnplaced, FXUnplaced⟩ := c.def_ 14 (d := d14) rfl
  have X_Unplaced : XnC P w K mg base "Unplaced" ["key", "reasons"] 1 := ⟨_, _, _, _, oexB_ok (c.more 75 (f := .oex "Unplaced") rfl), (He.glo_ok X G (c.fact 27 (f := .glo "Unplaced") rfl)), (He.meth_ok (c.fact 72 (f := .meth "Unplaced" "__init__") rfl)).at_, beq_iff_eq.mp (He.meth_ok (c.fact 72 (f := .meth "Unplaced" "__init__") rfl)).fn, ok_X_Unplaced FXUnplaced (oexB_ok (c.more 75 (f := .oex "Unplaced") rfl)) (He.glo_ok X G (c.fact 12 (f := .glo "FeedError") rfl)) (veB_ok (c.more 61 (f := .veb "FeedError") rfl)) (He.noat_ok (c.fact 5 (f := .noat "Unplaced" "key") rfl)) (He.noat_ok (c.fact 6 (f := .noat "Unplaced" "reasons") rfl)), (FunD.bindsN (ps := ["self", "key", "reasons"]) FXUnplaced fun _ _ _ _ _ _ us hl => match us, hl with | [_, _, _], _ => rfl)⟩
  have X_Finished : XzC K mg "Finished" := by
    obtain ⟨h1, h2, h3, h4⟩ := He.exc_ok (c.fact 73 (f := .exc "Finished") rfl)
    exact ⟨_, (He.glo_ok X G (c.fact 13 (f := .glo "Finished") rfl)), h1, h2, h3, h4⟩
  obtain ⟨fdXOneWay, FXOneWay⟩ := c.def_ 15 (d := d15) rfl
  have X_OneWay : XnC P w K mg base "OneWay" ["state"] 1 := ⟨_, _, _, _, oexB_ok (c.more 76 (f := .oex "OneWay") rfl), (He.glo_ok X G (c.fact 22 (f := .glo "OneWay") rfl)), (He.meth_ok (c.fact 74 (f := .meth "OneWay" "__init__") rfl)).at_, beq_iff_eq.mp (He.meth_ok (c.fact 74 (f := .meth "OneWay" "__init__") rfl)).fn, ok_X_OneWay FXOneWay (oexB_ok (c.more 76 (f := .oex "OneWay") rfl)) (He.glo_ok X G (c.fact 12 (f := .glo "FeedError") rfl)) (veB_ok (c.more 61 (f := .veb "FeedError") rfl)) (He.noat_ok (c.fact 49 (f := .noat "OneWay" "state") rfl)), (FunD.bindsN (ps := ["self", "state"]) FXOneWay fun _ _ _ _ _ _ us hl => match us, hl with | [_, _], _ => rfl)⟩
  obtain ⟨fdnames, Fnames⟩ := c.def_ 18 (d := d18) rfl
  have C_names : FnC P w K mg base "_law_names" 2 (sp_names K mg) := FnC.of (ok_names Fnames T C_draw) (He.glo_ok X G (c.fact 75 (f := .glo "_law_names") rfl)) Fnames.kp (FunD.bindsN (ps := ["_law_bag_here", "_law_count", "_law_words"]) Fnames fun _ _ _ _ _ _ us hl => match us, hl with | [_, _, _], _ => rfl)
  obtain ⟨fdclasses, Fclasses⟩ := c.def_ 19 (d := d19) rfl
  have C_classes : FnC P w K mg base "_law_classes" 1 (sp_classes K mg) := FnC.of (ok_classes Fclasses T) (He.glo_ok X G (c.fact 76 (f := .glo "_law_classes") rfl)) Fclasses.kp (FunD.bindsN (ps := ["_law_error"]) Fclasses fun _ _ _ _ _ _ us hl => match us, hl with | [_], _ => rfl)
  obtain ⟨fdown, Fown⟩ := c.def_ 20 (d := d20) rfl
  have C_own : FnC P w K mg base "_law_own" 2 (sp_own K mg) := FnC.of (ok_own Fown T C_classes) (He.glo_ok X G (c.fact 77 (f := .glo "_law_own") rfl)) Fown.kp (FunD.bindsN (ps := ["_law_error", "_law_place"]) Fown fun _ _ _ _ _ _ us hl => match us, hl with | [_, _], _ => rfl)
  obtain ⟨fdnames_right, Fnames_right⟩ := c.def_ 21 (d := d21) rfl
  have C_names_right : FnC P w K mg base "_law_names_right" 3 (sp_names_right K mg) := FnC.of (ok_names_right Fnames_right T X_InvalidColumn X_InvalidKind X_UnknownName X_OneWay C_own X_Unchained X_InvalidImage) (He.glo_ok X G (c.fact 78 (f := .glo "_law_names_right") rfl)) Fnames_right.kp (FunD.bindsN (ps := ["_law_one", "_law_other"]) Fnames_right fun _ _ _ _ _ _ us hl => match us, hl with | [_, _], _ => rfl)
  obtain ⟨fdnumbers_right, Fnumbers_right⟩ := c.def_ 22 (d := d22) rfl
  have C_numbers_right : FnC P w K mg base "_law_numbers_right" 3 (sp_numbers_right K mg) := FnC.of (ok_numbers_right Fnumbers_right T X_NoRow X_NoMoment X_InvalidRecord X_BadEntry X_BadPicture C_own X_WrongState X_InvalidValues) (He.glo_ok X G (c.fact 79 (f := .glo "_law_numbers_right") rfl)) Fnumbers_right.kp (FunD.bindsN (ps := ["_law_key", "_law_name", "_law_one", "_law_other"]) Fnumbers_right fun _ _ _ _ _ _ us hl => match us, hl with | [_, _, _, _], _ => rfl)
  obtain ⟨fdchains_right, Fchains_right⟩ := c.def_ 23 (d := d23) rfl
  have C_chains_right : FnC P w K mg base "_law_chains_right" 3 (sp_chains_right K mg) := FnC.of (ok_chains_right Fchains_right T X_BrokenChain X_UnlikeImages X_Unplaced C_own) (He.glo_ok X G (c.fact 80 (f := .glo "_law_chains_right") rfl)) Fchains_right.kp (FunD.bindsN (ps := ["_law_key", "_law_one", "_law_other"]) Fchains_right fun _ _ _ _ _ _ us hl => match us, hl with | [_, _, _], _ => rfl)
  obtain ⟨fdB, FB⟩ := c.def_ 16 (d := d16) rfl
  have okL : FnOk P w K mg base CX0 4 (He.ga K "law") fdL0 ["_law_script"] (spLaw K) := by
    refine law_glue (k := 3) (i := 1) (mb := law_mb bagI) (Γ0 := fun ab => [none, some (.fz (rBag ab ())), none, none, none, none]) FL0 sc_law (ok_bag FB (He.free_ok X G (c.fact 81 (f := .free "list") rfl))) (He.glo_ok X G (c.fact 82 (f := .glo "_law_bag") rfl)) FB.kp (FunD.bindsN (ps := ["_law_script"]) FB fun _ _ _ _ _ _ us hl => match us, hl with | [_], _ => rfl) rfl (by decide) rfl (by decide) (by first | exact .inl rfl | exact .inr rfl) (fun _ _ _ _ _ _ => pv 0) (fun _ _ _ _ _ _ => by first | exact .inl rfl | exact .inr rfl) (fun _ _ _ _ _ _ => rfl) (fun _ _ _ _ _ _ => by rfl) ?_ (fun _ => by exact Nat.le_of_ble_eq_true rfl) ?_ good
    · intro ab j y e
      rcases j with _ | _ | _ | _ | _ | _ | _ <;> first | (simp at e; done) | (simp at e; exact ⟨rfl, e.symm⟩)
    · intro cdv A outer s H E Fm ab al ne hr z
      exact body_law (bagC ab al ne) T C_names C_draw C_names_right C_numbers_right C_own X_InvalidCycle X_OtherCycle X_Finished X_BatchOpen X_BatchClosed C_chains_right hr z (DL.Room.hu hr) (DL.Room.hu1 hr)
  exact okL
end Lw
open PySem PySem.W PySem.Calls PyProof.Rows
theorem PySem.Challenge.cw_imagefeeds_k15_errors_and_their_parts_holds : PySem.Challenge.rw_imagefeeds_k15_errors_and_their_parts.Holds := by
  w_on; o_law
  refine HandSHeadRun.head_any (r := OpenLaw.row PySem.Challenge.rw_imagefeeds_k15_errors_and_their_parts) (q := view (OpenLaw.row PySem.Challenge.rw_imagefeeds_k15_errors_and_their_parts).prog [32]) (H := Lw.hk) (ob := Lw.ob) (M := 9000) (loose := Lw.loose) (d := HandSHeadRun.topDef (OpenLaw.row PySem.Challenge.rw_imagefeeds_k15_errors_and_their_parts).prog 32) (kwd := []) Lw.ob_eq
    (by kernel_rfl) (fun s => by kernel_rfl) Lw.run (by kernel_rfl) (by kernel_rfl) (by kernel_rfl) (by rfl) (by first | assumption | decide +kernel) (by decide +kernel) ⟨rfl, rfl, rfl, rfl, rfl, by decide +kernel⟩ ?hw ?hc
  case hw => w_witness2
  case hc =>
    refine L2.walk_ofE (l := PySem.Challenge.rw_imagefeeds_k15_errors_and_their_parts) (n := 63) (k := 4) (x := "_law_script") (CX := L2.CX0) rfl (by decide) (by kernel_rfl) ⟨rfl, by decide, by decide⟩ ?F (fun _ _ _ _ z => z)
    intro w mg fa h Y G h0
    obtain ⟨K, KX, c⟩ := Y
    have hmg : mg ("law" : PySem.Str) = some (.ref fa) := by
      have e : (HandSHeadRun.topDef (OpenLaw.row PySem.Challenge.rw_imagefeeds_k15_errors_and_their_parts).prog 32).name = ("law" : PySem.Str) := by kernel_rfl
      rw [← e]
      exact h0
    obtain ⟨fd, hb, hF⟩ := Lw.facts Lw.good (P := (PySem.Challenge.rw_imagefeeds_k15_errors_and_their_parts).prog) (w := w) KX G hmg c
    exact ⟨K, fd, DL.spLaw K, KX, hb, fun H a ns hl _ hS => ⟨a, ns, rfl, hS, hl, fun _ => rfl⟩, hF⟩
